import PyProof.Rows.All
import Wide.All
import OpenK.AllK
import Wide.FinOn
import HandS.ForMost
import HandS.Wide
import HandS.Flow
import HandS.Style
import HandS.IsInst
import HandS.Lambda
import HandS.SetFor
import KE.GoesEnumKw
import HandS.MakeKwOnly
import HandS.Zip
import HandS.Rev
import HandS.SortInts
import HandS.More
import KE.GoesMore
import HandS.Conv
import PyProof.LongRange
import HandS.EndBits
import PyProof.ReprRoads
import PyProof.ReprLen
import HandS.NoneIn
import HandS.Codes
import HandS.SlotsOwn
import HandS.Defaults
import HandS.SetBool
import HandS.Strs
import KE.IntText
import PyProof.StrBlockL
import HandS.Text
import PyProof.Rows.RegStrFacts
import HandS.ExcInit
import HandS.ExcOwn
import HandS.ExcIs
import HandS.WordsExc
import PyProof.ExcBaseAll.RuntimeError
import KE.KExcInit
import HandS.ExcField
import PyProof.ExcBaseAll.IndexError
import KE.KExcIs
import HandS.EndOwn
import HandS.NestedK
import KE.DatumOrd
import HandS.DictComp
import HandS.Steps
import HandS.RevRange
import PyProof.ListRange
import HandS.CallSlots
import HandS.TryOnly
import PyProof.EvalArms
import PyProof.InstNe
import OpenK.KMake
import HandS.OwnEq
import PyProof.NeKinds
import OpenK.KOps
import HandS.Set
import HandS.Deep
import HandS.SortKw
import KE.SortKeyHeap
import PyProof.Rows.IntBool
import PyProof.Rows.FloatCmp
import PyProof.Rows.ReprOcc
import HandS.FStr
import HandS.HeadHook3
import PyProof.ExcBaseAll.LookupError
import PyProof.ExcBaseAll.ValueError
import HandS.TryMany
import KE.KUnpackStar
import PySem.Challenge.RW_askback_k90_lores_written_and_read
set_option Elab.async false
set_option linter.all false
set_option autoImplicit false
set_option maxRecDepth 100000
set_option maxHeartbeats 8000000
/-! QD -/
/-! Q, the data level: values as data, programs as predicate transformers over an environment of data. -/
namespace Q
open PySem
inductive D where
  | non | bl (b : Bool) | int (i : Int) | str (x : Str)
  | lst (l : List D) | tup (l : List D) | dic (ks : List (Sum Int Str)) (l : List D)
  | ins (C : Addr) (ns : List Str) (l : List D)
  | pen | ty (n : String) | adr (a : Addr) | scr (ns : List Int)
  | rp (d : D)   -- the text that repr tells of a datum
abbrev Ky := Sum Int Str
/-- a slot: nothing known; a datum; a list, a dict that this name alone holds -/
inductive Sl where
  | no | val (d : D) | own (d : D)
abbrev En := List Sl
/-- the pen: its cells, how many were drawn, what is left of a great one -/
structure Ts where
  cells : List Int
  at' : Int
  left : Int
  tape : Bool
  /-- objects that may change, by their addresses -/
  obs : Addr → Option D
/-- objects there -/
def Ts.dom (t : Ts) (a : Addr) : Prop := ∃ d, t.obs a = some d
def noObs : Addr → Option D := fun _ => none
/-- without objects, with those -/
def Ts.bare (t : Ts) : Ts := ⟨t.cells, t.at', t.left, t.tape, noObs⟩
def Ts.wear (t : Ts) (o : Addr → Option D) : Ts := ⟨t.cells, t.at', t.left, t.tape, o⟩
/-- an object is written -/
def Ts.put (t : Ts) (a : Addr) (d : D) : Ts := ⟨t.cells, t.at', t.left, t.tape, fun b => if b = a then some d else t.obs b⟩
theorem Ts.put_same (t : Ts) (a : Addr) (d : D) : (t.put a d).obs a = some d := if_pos rfl
theorem Ts.put_ne (t : Ts) {a b : Addr} (d : D) (h : b ≠ a) : (t.put a d).obs b = t.obs b := if_neg h
abbrev DE := En → Ts → (D → Ts → Prop) → Prop
abbrev DT := En → Ts → (Bool → Ts → Prop) → Prop
abbrev DA := En → Ts → (List D → Ts → Prop) → Prop
abbrev DO := En → Ts → (Option Int → Ts → Prop) → Prop
structure DEnds where
  nx : En → Ts → Prop
  rt : D → En → Ts → Prop
  bk : En → Ts → Prop
  ct : En → Ts → Prop
abbrev DS := DEnds → En → Ts → Prop
abbrev DG := D → En → Ts → (En → Ts → Prop) → Prop
abbrev DGs := List D → En → Ts → (En → Ts → Prop) → Prop
abbrev DOp := D → D → (D → Prop) → Prop
abbrev DU := D → (D → Prop) → Prop
abbrev DB := List D → (D → Prop) → Prop
/-- a def's promise: arguments, the pen's count, what is wanted -/
abbrev PSp := List D → Ts → (D → Ts → Prop) → Prop
/-- both ways -/
def Br (b : Bool) (p q : Prop) : Prop := match b with
  | true => p
  | false => q
theorem Br.mk {b : Bool} {p q : Prop} (h1 : b = true → p) (h2 : b = false → q) : Br b p q := by
  cases b with
  | true => exact h1 rfl
  | false => exact h2 rfl
/- as data, alike (True is 1) -/
def b2i (b : Bool) : Int := if b then 1 else 0
mutual
def deq : D → D → Bool
  | .non, .non => true
  | .bl a, .bl b => a == b
  | .bl a, .int i => b2i a == i
  | .int i, .bl a => i == b2i a
  | .int i, .int j => decide (i = j)
  | .str x, .str y => decide (x = y)
  | .lst a, .lst b => deqs a b
  | .tup a, .tup b => deqs a b
  | _, _ => false
def deqs : List D → List D → Bool
  | [], [] => true
  | x :: a, y :: b => deq x y && deqs a b
  | _, _ => false
end
/- what == is told of here -/
mutual
def plain : D → Bool
  | .non => true | .bl _ => true | .int _ => true | .str x => x.cps.all (· < 0x110000)
  | .lst l => plains l | .tup l => plains l
  | _ => false
def plains : List D → Bool
  | [] => true
  | x :: a => plain x && plains a
end
mutual
def deep : D → Nat
  | .lst l => deeps l + 1 | .tup l => deeps l + 1
  | _ => 0
def deeps : List D → Nat
  | [] => 0
  | x :: a => max (deep x) (deeps a)
end
/-! sizes -/
def Sm (b : Nat) (i : Int) : Prop := i.natAbs < 2 ^ b
def MulOk (i j : Int) : Prop := Sm 64 i ∨ Sm 64 j ∨ (∃ a b, Sm a i ∧ Sm b j ∧ 0 < a ∧ 0 < b ∧ a + b ≤ 1000000)
def DivOk (j : Int) : Prop := 0 < j ∧ Sm 9000 j
def PowOk (i j : Int) : Prop := 0 ≤ j ∧ ∃ a : Nat, Sm a i ∧ (a : Int) * j ≤ 100000000
def zLen : Nat := 16000000
/-! expressions -/
def dVar (i : Nat) : DE := fun env t P => match env[i]? with
  | some (.val d) => P d t
  | _ => False
/-- a name, read alone -/
def dView (i : Nat) : DE := fun env t P => match env[i]? with
  | some (.val d) => P d t
  | some (.own d) => P d t
  | _ => False
def dC (d : D) : DE := fun _ t P => P d t
def dOp (o : DOp) (a b : DE) : DE := fun env t P => a env t fun x t1 => b env t1 fun y t2 => o x y fun z => P z t2
def dUn (o : DU) (a : DE) : DE := fun env t P => a env t fun x t1 => o x fun z => P z t1
def dNil : DA := fun _ t P => P [] t
def dCons (a : DE) (r : DA) : DA := fun env t P => a env t fun x t1 => r env t1 fun xs t2 => P (x :: xs) t2
def dCB (b : DB) (a : DA) : DE := fun env t P => a env t fun xs t1 => b xs fun z => P z t1
/-- the length of a display -/
def Few (l : List D) (p : Prop) : Prop := match Nat.ble l.length 1000 with
  | true => p
  | false => False
def dTup (a : DA) : DE := fun env t P => a env t fun xs t1 => Few xs (P (.tup xs) t1)
def dLst (a : DA) : DE := fun env t P => a env t fun xs t1 => Few xs (P (.lst xs) t1)
def dCall (sp : PSp) (dvs : List D) (a : DA) : DE := fun env t P => a env t fun xs t1 => sp (xs ++ dvs) t1 P
def dFld (C : Addr) (f : Str) (a : DE) : DE := fun env t P => a env t fun x t1 => match x with
  | .ins C' ns l => C' = C ∧ (match (ns.zip l).lookup f with | some d => P d t1 | none => False)
  | _ => False
def dMeth (C : Addr) (m : Str) (sp : PSp) (dvs : List D) (a : DE) (r : DA) : DE := fun env t P => a env t fun x t1 => match x with
  | .ins C' ns l => C' = C ∧ ns.contains m = false ∧ r env t1 fun xs t2 => sp (.ins C' ns l :: (xs ++ dvs)) t2 P
  | _ => False
def dIfE (c : DT) (a b : DE) : DE := fun env t P => c env t fun k t1 => Br k (a env t1 P) (b env t1 P)
def dChain (o o' : DOp) (a b c : DE) : DE := fun env t P => a env t fun x t1 => b env t1 fun y t2 => o x y fun z => match z with
  | .bl k => Br k (c env t2 fun w t3 => o' y w fun z' => P z' t3) (P (.bl false) t2)
  | _ => False
def dAndV (a b : DE) : DE := fun env t P => a env t fun x t1 => match x with
  | .bl k => Br k (b env t1 P) (P (.bl false) t1)
  | _ => False
def dNotV (a : DE) : DE := fun env t P => a env t fun x t1 => match x with
  | .bl k => P (.bl (!k)) t1
  | _ => False
def dNoPart : DO := fun _ t P => P none t
def dPart (a : DE) : DO := fun env t P => a env t fun x t1 => match x with
  | .int i => P (some i) t1
  | _ => False
/-- a slice's place -/
def sIx (n d : Nat) : Option Int → Nat
  | none => d
  | some i => if i < 0 then ((n : Int) + i).toNat else min i.toNat n
def cutD (xs : List D) (lo hi : Option Int) : List D := (xs.drop (sIx xs.length 0 lo)).take (sIx xs.length xs.length hi - sIx xs.length 0 lo)
def dSlice (a : DE) (lo hi : DO) : DE := fun env t P => a env t fun x t1 => lo env t1 fun l t2 => hi env t2 fun h t3 => match x with
  | .lst xs => P (.lst (cutD xs l h)) t3
  | .tup xs => (cutD xs l h).length < xs.length ∧ P (.tup (cutD xs l h)) t3
  | .scr ns => P (.lst (cutD (ns.map .int) l h)) t3
  | _ => False
/-! tests -/
def dB (a : DE) : DT := fun env t P => a env t fun x t1 => match x with
  | .bl b => P b t1
  | _ => False
def dAnd (a b : DT) : DT := fun env t P => a env t fun k t1 => Br k (b env t1 P) (P false t1)
def dOr (a b : DT) : DT := fun env t P => a env t fun k t1 => Br k (P true t1) (b env t1 P)
def dNot (a : DT) : DT := fun env t P => a env t fun k t1 => P (!k) t1
/-! operators -/
def oAdd : DOp := fun x y P => match x, y with
  | .int i, .int j => P (.int (i + j))
  | .lst a, .lst b => a.length + b.length ≤ zLen ∧ P (.lst (a ++ b))
  | .tup a, .tup b => (a.length + b.length ≤ zLen ∧ a ≠ [] ∧ b ≠ []) ∧ P (.tup (a ++ b))
  | .str a, .str b => a.length + b.length ≤ zLen ∧ P (.str (a ++ b))
  | _, _ => False
def oSub : DOp := fun x y P => match x, y with
  | .int i, .int j => P (.int (i - j))
  | _, _ => False
def rep (n : Nat) (a : List D) : List D := (List.replicate n a).flatten
def oMul : DOp := fun x y P => match x, y with
  | .int i, .int j => MulOk i j ∧ P (.int (i * j))
  | .lst a, .int j => (j < 1000000000 ∧ -1000000000 < j ∧ a.length * j.toNat ≤ zLen) ∧ P (.lst (rep j.toNat a))
  | _, _ => False
def oAddI : DOp := fun x y P => match x, y with
  | .int i, .int j => P (.int (i + j))
  | _, _ => False
def oMulI : DOp := fun x y P => match x, y with
  | .int i, .int j => MulOk i j ∧ P (.int (i * j))
  | _, _ => False
def oDiv : DOp := fun x y P => match x, y with
  | .int i, .int j => DivOk j ∧ P (.int (i / j))
  | _, _ => False
def oMod : DOp := fun x y P => match x, y with
  | .int i, .int j => 0 < j ∧ P (.int (i % j))
  | _, _ => False
def oPow : DOp := fun x y P => match x, y with
  | .int i, .int j => PowOk i j ∧ P (.int (i ^ j.toNat))
  | _, _ => False
def oNeg : DU := fun x P => match x with
  | .int i => P (.int (-i))
  | _ => False
def oLt : DOp := fun x y P => match x, y with
  | .int i, .int j => P (.bl (decide (i < j)))
  | _, _ => False
def oLe : DOp := fun x y P => match x, y with
  | .int i, .int j => P (.bl (decide (i ≤ j)))
  | _, _ => False
def oGt : DOp := fun x y P => match x, y with
  | .int i, .int j => P (.bl (decide (j < i)))
  | _, _ => False
def oGe : DOp := fun x y P => match x, y with
  | .int i, .int j => P (.bl (decide (j ≤ i)))
  | _, _ => False
def oEq : DOp := fun x y P => match x, y with
  | .int i, .int j => P (.bl (decide (i = j)))
  | x, y => (plain x = true ∧ plain y = true ∧ deep x ≤ 60 ∧ deep y ≤ 60) ∧ P (.bl (deq x y))
def oNe : DOp := fun x y P => match x, y with
  | .int i, .int j => P (.bl (!decide (i = j)))
  | x, y => (plain x = true ∧ plain y = true ∧ deep x ≤ 60 ∧ deep y ≤ 60) ∧ P (.bl (!deq x y))
def isNon : D → Bool
  | .non => true
  | _ => false
def oIsN : DOp := fun x y P => match y with
  | .non => P (.bl (isNon x))
  | _ => False
def oNotN : DOp := fun x y P => match y with
  | .non => P (.bl (!isNon x))
  | _ => False
/-- an index of any sign -/
def atI (xs : List D) (i : Int) : Option D := if 0 ≤ i then (if i < xs.length then xs[i.toNat]? else none) else if -(xs.length : Int) ≤ i then xs[(i + xs.length).toNat]? else none
def oIx : DOp := fun x y P => match x, y with
  | .lst xs, .int i => ∃ d, atI xs i = some d ∧ P d
  | .tup xs, .int i => ∃ d, atI xs i = some d ∧ P d
  | _, _ => False
/-! built-in functions -/
def bLen : DB := fun xs P => match xs with
  | [.lst l] => P (.int l.length)
  | [.tup l] => P (.int l.length)
  | [.scr l] => P (.int l.length)
  | [.str z] => z.length ≤ zLen ∧ P (.int z.length)
  | _ => False
def bAbs : DB := fun xs P => match xs with
  | [.int i] => P (.int (if i < 0 then -i else i))
  | _ => False
def intsD : List D → Option (List Int)
  | [] => some []
  | .int i :: r => (intsD r).map (i :: ·)
  | _ => none
def bMax : DB := fun xs P => match xs with
  | [.int i, .int j] => P (.int (if j > i then j else i))
  | [.lst l] => ∃ ns, intsD l = some ns ∧ 0 < ns.length ∧ ∀ m, m ∈ ns → (∀ y, y ∈ ns → y ≤ m) → P (.int m)
  | _ => False
def bMin : DB := fun xs P => match xs with
  | [.int i, .int j] => P (.int (if j < i then j else i))
  | [.lst l] => ∃ ns, intsD l = some ns ∧ 0 < ns.length ∧ ∀ m, m ∈ ns → (∀ y, y ∈ ns → m ≤ y) → P (.int m)
  | _ => False
def bls : List D → Option (List Bool)
  | [] => some []
  | .bl i :: r => (bls r).map (i :: ·)
  | _ => none
def bAll : DB := fun xs P => match xs with
  | [.lst l] => ∃ bs, bls l = some bs ∧ P (.bl (bs.all id))
  | _ => False
def bList : DB := fun xs P => match xs with
  | [.lst l] => P (.lst l)
  | [.tup l] => P (.lst l)
  | _ => False
/-! statements -/
def dNext : DS := fun DD env t => DD.nx env t
def dSeq (a b : DS) : DS := fun DD env t => a ⟨b DD, DD.rt, DD.bk, DD.ct⟩ env t
def gName (i : Nat) : DG := fun d env t P => P (env.set i (.val d)) t
def gNil : DGs := fun ds env t P => match ds with
  | [] => P env t
  | _ => False
def gCons (g : DG) (r : DGs) : DGs := fun ds env t P => match ds with
  | d :: ds => g d env t fun env' t' => r ds env' t' P
  | _ => False
def gTup (n : Nat) (g : DGs) : DG := fun d env t P => match d with
  | .tup l => l.length = n ∧ g l env t P
  | _ => False
def dAsg (a : DE) (g : DG) : DS := fun DD env t => a env t fun x t1 => g x env t1 DD.nx
/-- the name's own list is not written again -/
def dFrz (i : Nat) : DS := fun DD env t => match env[i]? with
  | some (.own d) => DD.nx (env.set i (.val d)) t
  | _ => DD.nx env t
def dPar (i j : Nat) (a : DA) : DS := fun DD env t => a env t fun xs t1 => match xs with
  | [v, w] => DD.nx ((env.set i (.val v)).set j (.val w)) t1
  | _ => False
def dAug (i : Nat) (o : DOp) (a : DE) : DS := fun DD env t => match env[i]? with
  | some (.val x) => a env t fun y t1 => o x y fun z => DD.nx (env.set i (.val z)) t1
  | _ => False
def dIf (c : DT) (a b : DS) : DS := fun DD env t => c env t fun k t1 => Br k (a DD env t1) (b DD env t1)
def dRet (a : DE) : DS := fun DD env t => a env t fun x t1 => DD.rt x env t1
/-- a name's own object is told back -/
def dRetO (i : Nat) : DS := fun DD env t => match env[i]? with
  | some (.own d) => DD.rt d env t
  | _ => False
def dDrop (a : DE) : DS := fun DD env t => a env t fun _ t1 => DD.nx env t1
def dNever : DS := fun _ _ _ => False
/-- x.append(e), x the name's own -/
def dApp (i : Nat) (a : DE) : DS := fun DD env t => match env[i]? with
  | some (.own (.lst l)) => a env t fun y t1 => l.length < zLen ∧ DD.nx (env.set i (.own (.lst (l ++ [y])))) t1
  | _ => False
/-- an index that lies in it -/
def ixN (n : Nat) (i : Int) : Option Nat := if 0 ≤ i then (if i < n then some i.toNat else none) else if -(n : Int) ≤ i then some (i + n).toNat else none
def dWhile (c : DT) (b : DS) : DS := fun DD env t => ∃ (Inv : En → Ts → Prop) (mu : En → Ts → Nat), Inv env t ∧ ∀ e m, Inv e m →
  c e m fun k m1 => Br k (b ⟨fun e' m' => Inv e' m' ∧ mu e' m' < mu e m, DD.rt, DD.nx, fun e' m' => Inv e' m' ∧ mu e' m' < mu e m⟩ e m1) (DD.nx e m1)
/-! dicts -/
def keyD : D → Option Ky
  | .int i => some (.inl i)
  | .str x => some (.inr x)
  | _ => none
def getL : List Ky → List D → Ky → Option D
  | k' :: ks, d :: l, k => if k' = k then some d else getL ks l k
  | _, _, _ => none
def repL : List Ky → List D → Ky → D → List D
  | k' :: ks, d :: l, k, y => (if k' = k then y else d) :: repL ks l k y
  | _, _, _, _ => []
def hasK (ks : List Ky) (k : Ky) : Bool := ks.any fun x => decide (x = k)
def putL (ks : List Ky) (l : List D) (k : Ky) (y : D) : List D := if hasK ks k = true then repL ks l k y else l ++ [y]
def putKs (ks : List Ky) (k : Ky) : List Ky := if hasK ks k = true then ks else ks ++ [k]
/-- {k: v, ..}: keys that are texts, each once -/
def dDispL : List (Str × DE) → DA
  | [] => fun _ t P => P [] t
  | (_, a) :: r => fun env t P => a env t fun x t1 => dDispL r env t1 fun xs t2 => P (x :: xs) t2
def dDisp (l : List (Str × DE)) : DE := fun env t P => dDispL l env t fun xs t1 => P (.dic (l.map fun p => .inr p.1) xs) t1
/-! the pen's own rows: cells, at (turn), left (rest) -/
def dPenC (a : DE) : DE := fun env t P => a env t fun x t1 => match x with
  | .pen => P (.lst (t1.cells.map .int)) t1
  | _ => False
def dPenA (b : Bool) (a : DE) : DE := fun env t P => a env t fun x t1 => match x with
  | .pen => t1.tape = b ∧ P (.int t1.at') t1
  | _ => False
def dPenL (b : Bool) (a : DE) : DE := fun env t P => a env t fun x t1 => match x with
  | .pen => t1.tape = b ∧ P (.int t1.left) t1
  | _ => False
def dPutA (b : Bool) (i : Nat) (a : DE) : DS := fun DD env t => a env t fun y t1 => match y with
  | .int n => (match env[i]? with
    | some (.val .pen) => t1.tape = b ∧ DD.nx env ⟨t1.cells, n, t1.left, t1.tape, t1.obs⟩
    | _ => False)
  | _ => False
def dPutL (b : Bool) (i : Nat) (a : DE) : DS := fun DD env t => a env t fun y t1 => match y with
  | .int n => (match env[i]? with
    | some (.val .pen) => t1.tape = b ∧ DD.nx env ⟨t1.cells, t1.at', n, t1.tape, t1.obs⟩
    | _ => False)
  | _ => False
/-- what is walked: its items -/
abbrev DI := En → Ts → (List D → Ts → Prop) → Prop
def rng (lo : Int) (n : Nat) : List D := (List.range n).map fun (i : Nat) => D.int (lo + i)
def iRng1 (a : DE) : DI := fun env t P => a env t fun x t1 => match x with
  | .int n => (-1000000000000 < n ∧ n < 1000000000000) ∧ P (rng 0 n.toNat) t1
  | _ => False
def dFor (di : DI) (g : DG) (b : DS) : DS := fun DD env t => di env t fun xs t1 => ∃ Inv : Nat → En → Ts → Prop, Inv 0 env t1 ∧
  (∀ i x e m, xs[i]? = some x → Inv i e m → g x e m fun e' m' => b ⟨Inv (i + 1), DD.rt, DD.nx, Inv (i + 1)⟩ e' m') ∧ ∀ e m, Inv xs.length e m → DD.nx e m
def wipeE (env : En) : List Nat → En
  | [] => env
  | i :: r => (wipeE env r).set i .no
/-- [e for x in xs if c] -/
def dLc (vs : List Nat) (di : DI) (g : DG) (c : DT) (a : DE) : DE := fun env t P => di env t fun xs t1 => ∃ Inv : Nat → List D → Ts → Prop, Inv 0 [] t1 ∧
  (∀ i x acc m, xs[i]? = some x → Inv i acc m → g x (wipeE env vs) m fun e' m' => wipeE e' vs = wipeE env vs ∧ c e' m' fun k m1 => Br k (a e' m1 fun y m2 => acc.length < zLen ∧ Inv (i + 1) (acc ++ [y]) m2) (Inv (i + 1) acc m1)) ∧
  ∀ acc m, Inv xs.length acc m → P (.lst acc) m
def dYes : DT := fun _ t P => P true t
/-- a def's beginning -/
def start0 (N : List Str) (ds : List D) : En := ds.map Sl.val ++ List.replicate (N.length - ds.length) Sl.no
/-- a def's ends -/
def endsOf (P : D → Ts → Prop) : DEnds := ⟨fun _ t => P .non t, fun d _ t => P d t, fun _ _ => False, fun _ _ => False⟩
/-- the ends of a def that tells a new object -/
def endsN (P : D → Ts → Prop) : DEnds := ⟨fun _ _ => False, fun d _ t => match d with | .non => False | d => P d t, fun _ _ => False, fun _ _ => False⟩
theorem rng_len (lo : Int) (n : Nat) : (rng lo n).length = n := by simp [rng]
theorem rng_get {lo : Int} {n i : Nat} {d : D} (h : (rng lo n)[i]? = some d) : i < n ∧ d = .int (lo + i) := by
  unfold rng at h
  rw [List.getElem?_map] at h
  cases q : (List.range n)[i]? with
  | none => rw [q] at h; cases h
  | some j =>
    rw [q] at h
    obtain ⟨h1, h2⟩ := List.getElem?_eq_some_iff.mp q
    simp at h1 h2
    cases h
    exact ⟨h1, by rw [← h2]⟩
/-! ### classes of the text -/
structure Cl where
  House : Addr
  Lore : Addr
  Desk : Addr
  Beside : Addr
  Solver : Addr
/-- a value's built-in type -/
inductive Tn where
  | non | bl | int | str | lst | tup | dic
def tn : D → Option Tn
  | .non => some .non
  | .bl _ => some .bl
  | .int _ => some .int
  | .str _ => some .str
  | .lst _ => some .lst
  | .tup _ => some .tup
  | .dic _ _ => some .dic
  | _ => none
def isa : Tn → Tn → Bool
  | .non, .non => true
  | .bl, .bl => true
  | .bl, .int => true
  | .int, .int => true
  | .str, .str => true
  | .lst, .lst => true
  | .tup, .tup => true
  | .dic, .dic => true
  | _, _ => false
def Tn.name : Tn → String
  | .non => "NoneType"
  | .bl => "bool"
  | .int => "int"
  | .str => "str"
  | .lst => "list"
  | .tup => "tuple"
  | .dic => "dict"
/-- isinstance(e, T), isinstance(e, (T, ..)) -/
def dIsi (cs : List Tn) (a : DE) : DE := fun env t P => a env t fun x t1 => match tn x with
  | some n => P (.bl (cs.any (isa n))) t1
  | none => False
/-! ### __init__: what the instance holds so far (names, data), the others' slots -/
abbrev IK := List Str → List D → En → Ts → Prop
abbrev IS := IK → List Str → List D → En → Ts → Prop
def iThen (a b : IS) : IS := fun k => a (b k)
/-- if c: raise .. -/
def iGuard (c : DT) : IS := fun k ns l env t => c env t fun b t1 => Br b False (k ns l env t1)
/-- self.f = e -/
def iSet (f : Str) (a : DE) : IS := fun k ns l env t => a env t fun y t1 => (ns.contains f = false ∧ ns.length < 900) ∧ k (ns ++ [f]) (l ++ [y]) env t1
def startI (x : Addr) (N : List Str) (ds : List D) : En := .val (.adr x) :: start0 N ds
mutual
/-- no pen in it -/
def nopen : D → Bool
  | .pen => false
  | .lst l => nopens l
  | .tup l => nopens l
  | .dic _ l => nopens l
  | .ins _ _ l => nopens l
  | _ => true
def nopens : List D → Bool
  | [] => true
  | d :: l => nopen d && nopens l
end
/-- partial sums, each less one -/
def sumsOf : Int → List Int → List Int
  | _, [] => []
  | s, b :: r => (s + b - 1) :: sumsOf (s + b - 1) r
/-- self.sums = []; for many in beginning: self.sums.append(many - 1 + (self.sums[-1] if self.sums != [] else 0)) -/
def iSums (i j : Nat) : IS := fun k ns l env t => match env[i]? with
  | some (.val (.lst m)) => ∃ bs : List Int, m = bs.map .int ∧ bs.length ≤ 1000 ∧ (ns.contains ("sums" : Str) = false ∧ ns.length < 900 ∧ j < env.length) ∧ ∀ s, k (ns ++ [("sums" : Str)]) (l ++ [.lst ((sumsOf 0 bs).map .int)]) (env.set j s) t
  | some (.val (.tup m)) => ∃ bs : List Int, m = bs.map .int ∧ bs.length ≤ 1000 ∧ (ns.contains ("sums" : Str) = false ∧ ns.length < 900 ∧ j < env.length) ∧ ∀ s, k (ns ++ [("sums" : Str)]) (l ++ [.lst ((sumsOf 0 bs).map .int)]) (env.set j s) t
  | _ => False
/-- what is added, as the loop's step reads it: C the class, self at 0, many at j -/
def SumsE (C : Addr) (j : Nat) (de : DE) : Prop := ∀ (env : En) (t : Ts) (P : D → Ts → Prop) (ns : List Str) (l : List D) (cur : List Int) (m : Int), env[0]? = some (.val (.ins C ns l)) → (ns.zip l).lookup ("sums" : Str) = some (.lst (cur.map .int)) → env[j]? = some (.val (.int m)) →
  P (.int (m - 1 + cur.getLastD 0)) t → de env t P
/-- a list or a tuple, walked -/
def iSeq (a : DE) : DI := fun env t P => a env t fun x t1 => match x with
  | .lst l => P l t1
  | .tup l => P l t1
  | .scr ns => P (ns.map .int) t1
  | _ => False
/-! ### repr -/
/-! ### more of lists -/
def bInt : DB := fun xs P => match xs with
  | [.int i] => P (.int i)
  | [.bl b] => P (.int (if b then 1 else 0))
  | _ => False
/-! ### by names: the values in the order that is written, then put in the parameters' order -/
/-! ### more -/
/-- a slot's value: the name's own, or a datum -/
def mSl (b : Bool) (d : D) : Sl := match b with
  | true => .own d
  | false => .val d
def setM : List (Nat × Bool) → En → List D → En
  | (i, b) :: r, env, d :: ds => setM r (env.set i (mSl b d)) ds
  | _, env, _ => env
/-- a, b = x, y where some are new objects, the names' own -/
def dParM (l : List (Nat × Bool)) (a : DA) : DS := fun DD env t => a env t fun xs t1 => match Nat.beq xs.length l.length with
  | true => DD.nx (setM l env xs) t1
  | false => False
end Q
/-! QH1 -/
namespace Q
open PySem L2 PyProof.Rows
/-! ### as the library's data -/
mutual
def toPy : D → PyData
  | .bl b => .bool b | .int i => .int i | .str x => .str x
  | .lst l => .list (toPys l) | .tup l => .tuple (toPys l)
  | _ => .none
def toPys : List D → List PyData
  | [] => []
  | d :: l => toPy d :: toPys l
end
/-! ### the relation of data and values -/
mutual
def RelD (K : PySem.W.Frag) (F : Hp) (pa : Option Addr) : D → V → Prop
  | .non, v => v = .non
  | .bl b, v => v = .bl b
  | .int i, v => v = .int i
  | .str x, v => v = .str x
  | .ty n, v => v = .ty n
  | .adr a, v => v = .ref a
  | .rp d, v => v = .str (toPy d).shown
  | .pen, v => ∃ a, pa = some a ∧ v = .ref a
  | .scr ns, v => ∃ a, v = .ref a ∧ SqL K F a (ns.map V.int)
  | .lst l, v => ∃ a vs, v = .ref a ∧ F a = some (.lst vs) ∧ RelL K F pa l vs
  | .tup l, v => ∃ a vs, v = .ref a ∧ F a = some (.tup vs) ∧ RelL K F pa l vs
  | .dic ks l, v => ∃ a vs, v = .ref a ∧ F a = some (.dK (ks.zip vs)) ∧ ks.length = vs.length ∧ RelL K F pa l vs
  | .ins C ns l, v => ∃ a dx vs, v = .ref a ∧ F a = some (.ins C dx (ns.zip vs)) ∧ ns.length = vs.length ∧ RelL K F pa l vs
def RelL (K : PySem.W.Frag) (F : Hp) (pa : Option Addr) : List D → List V → Prop
  | [], vs => vs = []
  | d :: ds, vs => ∃ v vr, vs = v :: vr ∧ RelD K F pa d v ∧ RelL K F pa ds vr
end
/-- what a name's own object holds -/
def RelO1 (K : PySem.W.Frag) (F : Hp) (pa : Option Addr) : D → HO → Prop
  | .lst l, h => ∃ vs, h = .lst vs ∧ RelL K F pa l vs
  | .dic ks l, h => ∃ vs, h = .dK (ks.zip vs) ∧ ks.length = vs.length ∧ RelL K F pa l vs
  | .ins C ns l, h => ∃ dx vs, h = .ins C dx (ns.zip vs) ∧ ns.length = vs.length ∧ RelL K F pa l vs
  | _, _ => False
def Gf (F F' : Hp) : Prop := ∀ a o, F a = some o → F' a = some o
def Gp (pa pa' : Option Addr) : Prop := pa' = pa
structure Gr (F : Hp) (pa : Option Addr) (F' : Hp) (pa' : Option Addr) : Prop where
  f : Gf F F'
  p : Gp pa pa'
theorem Gr.refl (F : Hp) (pa : Option Addr) : Gr F pa F pa := ⟨fun _ _ h => h, rfl⟩
theorem Gr.trans {F F1 F2 : Hp} {p p1 p2 : Option Addr} (a : Gr F p F1 p1) (b : Gr F1 p1 F2 p2) : Gr F p F2 p2 := ⟨fun x o h => b.f x o (a.f x o h), Eq.trans b.p a.p⟩
section
variable {K : PySem.W.Frag} {F F' : Hp} {pa pa' : Option Addr}
theorem sq_mono {a : Addr} {xs : List V} (g : Gf F F') (h : SqL K F a xs) : SqL K F' a xs := by
  rcases h with (h | ⟨o, h⟩) | h
  · exact .inl (.inl (g _ _ h))
  · exact .inl (.inr ⟨o, g _ _ h⟩)
  · exact .inr h
mutual
theorem RelD.mono (g : Gr F pa F' pa') : ∀ (d : D) (v : V), RelD K F pa d v → RelD K F' pa' d v
  | .non, v, h => by unfold RelD at h ⊢; exact h
  | .bl b, v, h => by unfold RelD at h ⊢; exact h
  | .int i, v, h => by unfold RelD at h ⊢; exact h
  | .str x, v, h => by unfold RelD at h ⊢; exact h
  | .ty n, v, h => by unfold RelD at h ⊢; exact h
  | .adr a, v, h => by unfold RelD at h ⊢; exact h
  | .rp d, v, h => by unfold RelD at h ⊢; exact h
  | .pen, v, h => by
    unfold RelD at h ⊢
    obtain ⟨a, e, r⟩ := h
    exact ⟨a, (show pa' = pa from g.p).trans e, r⟩
  | .scr ns, v, h => by
    unfold RelD at h ⊢
    obtain ⟨a, e, r⟩ := h
    exact ⟨a, e, sq_mono g.f r⟩
  | .lst l, v, h => by
    unfold RelD at h ⊢
    obtain ⟨a, vs, e, r, q⟩ := h
    exact ⟨a, vs, e, g.f _ _ r, RelL.mono g l vs q⟩
  | .tup l, v, h => by
    unfold RelD at h ⊢
    obtain ⟨a, vs, e, r, q⟩ := h
    exact ⟨a, vs, e, g.f _ _ r, RelL.mono g l vs q⟩
  | .dic ks l, v, h => by
    unfold RelD at h ⊢
    obtain ⟨a, vs, e, r, z, q⟩ := h
    exact ⟨a, vs, e, g.f _ _ r, z, RelL.mono g l vs q⟩
  | .ins C ns l, v, h => by
    unfold RelD at h ⊢
    obtain ⟨a, dx, vs, e, r, z, q⟩ := h
    exact ⟨a, dx, vs, e, g.f _ _ r, z, RelL.mono g l vs q⟩
theorem RelL.mono (g : Gr F pa F' pa') : ∀ (l : List D) (vs : List V), RelL K F pa l vs → RelL K F' pa' l vs
  | [], vs, h => by unfold RelL at h ⊢; exact h
  | d :: ds, vs, h => by
    unfold RelL at h ⊢
    obtain ⟨v, vr, e, r, q⟩ := h
    exact ⟨v, vr, e, RelD.mono g d v r, RelL.mono g ds vr q⟩
end
theorem RelO1.mono (g : Gr F pa F' pa') : ∀ (d : D) (h : HO), RelO1 K F pa d h → RelO1 K F' pa' d h
  | .lst l, h, r => by
    obtain ⟨vs, e, q⟩ := r
    exact ⟨vs, e, RelL.mono g l vs q⟩
  | .dic ks l, h, r => by
    obtain ⟨vs, e, z, q⟩ := r
    exact ⟨vs, e, z, RelL.mono g l vs q⟩
  | .ins C ns l, h, r => by
    obtain ⟨dx, vs, e, z, q⟩ := r
    exact ⟨dx, vs, e, z, RelL.mono g l vs q⟩
  | .non, _, r => r.elim
  | .bl _, _, r => r.elim
  | .int _, _, r => r.elim
  | .str _, _, r => r.elim
  | .tup _, _, r => r.elim
  | .pen, _, r => r.elim
  | .ty _, _, r => r.elim
  | .adr _, _, r => r.elim
  | .scr _, _, r => r.elim
  | .rp _, _, r => r.elim
end
section
variable {K : PySem.W.Frag} {F : Hp} {pa : Option Addr}
theorem RelL.nil : RelL K F pa [] [] := by unfold RelL; rfl
theorem RelL.cons {d : D} {v : V} {ds : List D} {vs : List V} (h : RelD K F pa d v) (r : RelL K F pa ds vs) : RelL K F pa (d :: ds) (v :: vs) := by
  unfold RelL; exact ⟨v, vs, rfl, h, r⟩
theorem RelL.inv {d : D} {ds : List D} {vs : List V} (h : RelL K F pa (d :: ds) vs) : ∃ v vr, vs = v :: vr ∧ RelD K F pa d v ∧ RelL K F pa ds vr := by unfold RelL at h; exact h
theorem RelL.inv0 {vs : List V} (h : RelL K F pa [] vs) : vs = [] := by unfold RelL at h; exact h
theorem RelL.len : ∀ {ds : List D} {vs : List V}, RelL K F pa ds vs → vs.length = ds.length
  | [], vs, h => by rw [h.inv0]; rfl
  | d :: ds, vs, h => by
    obtain ⟨v, vr, rfl, _, q⟩ := h.inv
    simp [RelL.len q]
theorem RelL.get : ∀ {ds : List D} {vs : List V} {i : Nat} {d : D}, RelL K F pa ds vs → ds[i]? = some d → ∃ v, vs[i]? = some v ∧ RelD K F pa d v
  | [], _, _, _, _, e => by simp at e
  | x :: ds, vs, 0, d, h, e => by
    obtain ⟨v, vr, rfl, r, _⟩ := h.inv
    simp at e; subst e
    exact ⟨v, rfl, r⟩
  | x :: ds, vs, i + 1, d, h, e => by
    obtain ⟨v, vr, rfl, _, q⟩ := h.inv
    simp at e
    obtain ⟨u, h1, h2⟩ := RelL.get q e
    exact ⟨u, by simpa using h1, h2⟩
theorem RelL.append : ∀ {a b : List D} {u v : List V}, RelL K F pa a u → RelL K F pa b v → RelL K F pa (a ++ b) (u ++ v)
  | [], b, u, v, h, r => by rw [h.inv0]; exact r
  | d :: a, b, u, v, h, r => by
    obtain ⟨x, ur, rfl, h1, q⟩ := h.inv
    exact RelL.cons h1 (RelL.append q r)
theorem RelL.take : ∀ {a : List D} {u : List V} (n : Nat), RelL K F pa a u → RelL K F pa (a.take n) (u.take n)
  | _, _, 0, h => by simpa using RelL.nil
  | [], _, n + 1, h => by rw [h.inv0]; simpa using RelL.nil
  | d :: a, u, n + 1, h => by
    obtain ⟨x, ur, rfl, h1, q⟩ := h.inv
    simpa using RelL.cons h1 (RelL.take n q)
theorem RelL.drop : ∀ {a : List D} {u : List V} (n : Nat), RelL K F pa a u → RelL K F pa (a.drop n) (u.drop n)
  | _, _, 0, h => by simpa using h
  | [], _, n + 1, h => by rw [h.inv0]; simpa using RelL.nil
  | d :: a, u, n + 1, h => by
    obtain ⟨x, ur, rfl, h1, q⟩ := h.inv
    simpa using RelL.drop n q
theorem RelL.set : ∀ {a : List D} {u : List V} (j : Nat) {d : D} {v : V}, RelL K F pa a u → RelD K F pa d v → RelL K F pa (a.set j d) (u.set j v)
  | [], u, j, d, v, h, r => by rw [h.inv0]; simpa using RelL.nil
  | x :: a, u, 0, d, v, h, r => by
    obtain ⟨y, ur, rfl, h1, q⟩ := h.inv
    simpa using RelL.cons r q
  | x :: a, u, j + 1, d, v, h, r => by
    obtain ⟨y, ur, rfl, h1, q⟩ := h.inv
    simpa using RelL.cons h1 (RelL.set j q r)
theorem RelL.rep {a : List D} {u : List V} (h : RelL K F pa a u) : ∀ n : Nat, RelL K F pa (rep n a) (List.replicate n u).flatten
  | 0 => by simpa [Q.rep] using RelL.nil
  | n + 1 => by
    have := RelL.append h (RelL.rep h n)
    simpa [Q.rep, List.replicate_succ] using this
theorem RelL.intsD : ∀ {l : List D} {vs : List V} {ns : List Int}, RelL K F pa l vs → Q.intsD l = some ns → vs = ns.map V.int
  | [], vs, ns, h, e => by
    rw [h.inv0]
    simp [Q.intsD] at e; subst e; rfl
  | d :: l, vs, ns, h, e => by
    obtain ⟨x, ur, rfl, h1, q⟩ := h.inv
    cases d with
    | int i =>
      unfold RelD at h1
      subst h1
      unfold Q.intsD at e
      cases e2 : Q.intsD l with
      | none => rw [e2] at e; simp at e
      | some ms =>
        rw [e2] at e
        simp at e; subst e
        rw [RelL.intsD q e2]; rfl
    | _ => simp [Q.intsD] at e
theorem RelL.bls : ∀ {l : List D} {vs : List V} {ns : List Bool}, RelL K F pa l vs → Q.bls l = some ns → vs = ns.map V.bl
  | [], vs, ns, h, e => by
    rw [h.inv0]
    simp [Q.bls] at e; subst e; rfl
  | d :: l, vs, ns, h, e => by
    obtain ⟨x, ur, rfl, h1, q⟩ := h.inv
    cases d with
    | bl i =>
      unfold RelD at h1
      subst h1
      unfold Q.bls at e
      cases e2 : Q.bls l with
      | none => rw [e2] at e; simp at e
      | some ms =>
        rw [e2] at e
        simp at e; subst e
        rw [RelL.bls q e2]; rfl
    | _ => simp [Q.bls] at e
theorem RelL.of_ints : ∀ (ns : List Int), RelL K F pa (ns.map D.int) (ns.map V.int)
  | [] => RelL.nil
  | n :: ns => RelL.cons (by unfold RelD; rfl) (RelL.of_ints ns)
end
/-! ### the state -/
structure Bs where
  F : Hp
  H : Hp
  ex : List Addr
  pn : Option Addr
  /-- what is told back: a datum, or a new object -/
  m : Bool
  /-- tables of code objects that may grow, with the code objects' name -/
  T : List (Addr × Str)
  /-- objects that may change -/
  O : Addr → Prop
/-- the base of a def's body: what may change is the pen alone, and tables of code objects -/
def Bs.Top (B : Bs) : Prop := ∀ a ∈ B.ex, B.pn = some a ∨ ∃ p ∈ B.T, p.1 = a
/-- the tables: outside of what is frozen, their code objects frozen -/
def TabF (T : List (Addr × Str)) (BH F H : Hp) : Prop := ∀ p ∈ T, BH p.1 ≠ none ∧ F p.1 = none ∧ ∃ ps : Array Value, H p.1 = some (.tbl ps) ∧ TriplesOk ps.toList ∧ ∀ (pos : Pos) (cv : Value), codeAmong pos ps.toList = some cv → ∃ c, cv = .ref c ∧ F c = some (LamX.CodeO c p.2)
theorem TabF.nil {BH F H : Hp} : TabF [] BH F H := fun p hp => by cases hp
theorem TabF.keep {T : List (Addr × Str)} {BH F H F' H' : Hp} (t : TabF T BH F H) (g : ∀ a o, F a = some o → F' a = some o) (hF : ∀ p ∈ T, ∀ ps, H p.1 = some (.tbl ps) → F' p.1 = none) (hH : ∀ p ∈ T, ∀ ps, H p.1 = some (.tbl ps) → H' p.1 = some (.tbl ps)) : TabF T BH F' H' := fun p hp => by
  obtain ⟨h1, h2, ps, h3, h4, h5⟩ := t p hp
  refine ⟨h1, hF p hp ps h3, ps, hH p hp ps h3, h4, fun pos cv hc => ?_⟩
  obtain ⟨c, e, q⟩ := h5 pos cv hc
  exact ⟨c, e, g _ _ q⟩
theorem TabF.hs {T : List (Addr × Str)} {BH F H H' : Hp} (t : TabF T BH F H) (hH : ∀ p ∈ T, ∀ ps, H p.1 = some (.tbl ps) → H' p.1 = some (.tbl ps)) : TabF T BH F H' := t.keep (fun _ _ h => h) (fun p hp _ _ => (t p hp).2.1) hH
theorem RelO1.ntb {K : PySem.W.Frag} {F : Hp} {pa : Option Addr} : ∀ {d : D} {h : HO}, RelO1 K F pa d h → ∀ ps, h ≠ .tbl ps := fun {d h} r ps e => by
  subst e
  cases d with
  | lst l => obtain ⟨_, z, _⟩ := r; cases z
  | dic ks l => obtain ⟨_, z, _⟩ := r; cases z
  | ins C ns l => obtain ⟨_, _, z, _⟩ := r; cases z
  | _ => exact r.elim
def penRows (t : Ts) (ca : Addr) : List (L2.Key × V) := match t.tape with
  | false => [(.inr "cells", .ref ca), (.inr "at", .int t.at'), (.inr "left", .int t.left)]
  | true => [(.inr "cells", .ref ca), (.inr "turn", .int t.at'), (.inr "rest", .int t.left)]
def PenOk (F : Hp) (t : Ts) (h : HO) : Prop := ∃ ca : Addr, h = .dK (penRows t ca) ∧ F ca = some (.lst (t.cells.map V.int))
theorem PenOk.mono {F F' : Hp} {t : Ts} {h : HO} (g : Gf F F') (p : PenOk F t h) : PenOk F' t h := by
  obtain ⟨ca, e, q⟩ := p
  exact ⟨ca, e, g _ _ q⟩
structure Cf (K : PySem.W.Frag) (B : Bs) (F : Hp) (pa : Option Addr) (t : Ts) (env : En) (σ : L2.St) (H : Hp) : Prop where
  len : env.length = σ.length
  sub : ∀ a o, F a = some o → H a = some o
  bas : ∀ a o, B.F a = some o → F a = some o
  frm : ∀ a o, B.H a = some o → a ∉ B.ex → ¬ B.O a → H a = some o
  new : ∀ a o, F a = some o → (∃ o', B.F a = some o') ∨ B.H a = none
  exl : ∀ a ∈ B.ex, ∃ o, H a = some o
  val : ∀ (i : Nat) (d : D), env[i]? = some (Sl.val d) → ∃ v : V, σ[i]? = some (some v) ∧ RelD K F pa d v
  own : ∀ (i : Nat) (d : D), env[i]? = some (Sl.own d) → ∃ (a : Addr) (h : HO), σ[i]? = some (some (V.ref a)) ∧ H a = some h ∧ RelO1 K F pa d h ∧ F a = none ∧ pa ≠ some a ∧ (a ∈ B.ex ∨ B.H a = none)
  sep : ∀ (i j : Nat) (d e : D) (a : Addr), env[i]? = some (Sl.own d) → env[j]? = some (Sl.own e) → σ[i]? = some (some (V.ref a)) → σ[j]? = some (some (V.ref a)) → i = j
  pen : ∀ a, pa = some a → F a = none ∧ (∃ h, H a = some h ∧ PenOk F t h) ∧ (a ∈ B.ex ∨ B.H a = none)
  pnn : Gp B.pn pa
  tab : TabF B.T B.H F H
  ntb : ∀ a ps, F a ≠ some (.tbl ps)
  obs : ∀ a d, t.obs a = some d → F a = none ∧ (∃ h, H a = some h ∧ RelO1 K F pa d h) ∧ pa ≠ some a ∧ (B.O a ∨ B.H a = none) ∧ nopen d = true
  obx : ∀ a, B.O a → ∃ d, t.obs a = some d
  osp : ∀ (i : Nat) (d : D) (a : Addr), env[i]? = some (Sl.own d) → σ[i]? = some (some (V.ref a)) → t.obs a = none
section
variable {K : PySem.W.Frag} {B : Bs} {F : Hp} {pa : Option Addr} {t : Ts} {env : En} {σ : L2.St} {H : Hp}
theorem Cf.fresh (C : Cf K B F pa t env σ H) {p : Addr} (h : H p = none) : F p = none ∧ B.H p = none ∧ p ∉ B.ex := by
  refine ⟨?_, ?_, ?_⟩
  · cases e : F p with
    | none => rfl
    | some o => rw [C.sub p o e] at h; cases h
  · cases e : B.H p with
    | none => rfl
    | some o =>
      by_cases hp : p ∈ B.ex
      · obtain ⟨o', q⟩ := C.exl p hp
        rw [q] at h; cases h
      · rw [C.frm p o e hp fun z => by
          obtain ⟨d, q⟩ := C.obx p z
          obtain ⟨_, ⟨u, q2, _⟩, _⟩ := C.obs p d q
          rw [h] at q2; cases q2] at h
        cases h
  · intro hp
    obtain ⟨o', q⟩ := C.exl p hp
    rw [q] at h; cases h
theorem Gf.upd {F : Hp} {p : Addr} {o : HO} (h : F p = none) : Gf F (upd F p o) := fun a u e => by
  rw [upd_ne (ne_of_none e h)]; exact e
/-- a new object, frozen at once -/
theorem Cf.alloc (C : Cf K B F pa t env σ H) {p : Addr} (o : HO) (h : H p = none) (hno : ∀ ps, o ≠ .tbl ps := by intro ps z; cases z) : Gr F pa (upd F p o) pa ∧ Cf K B (upd F p o) pa t env σ (upd H p o) := by
  obtain ⟨hF, hB, hex⟩ := C.fresh h
  have g : Gr F pa (upd F p o) pa := ⟨Gf.upd hF, rfl⟩
  have ne : ∀ {a : Addr} {u : HO}, H a = some u → a ≠ p := fun e => ne_of_none e h
  refine ⟨g, ⟨C.len, fun a u e => ?_, fun a u e => g.f _ _ (C.bas a u e), fun a u e hx ho => ?_, fun a u e => ?_, fun a ha => ?_, fun i d e => ?_, fun i d e => ?_, C.sep, fun a e => ?_, C.pnn, C.tab.keep g.f (fun q hq ps e => by rw [upd_ne (ne e)]; exact (C.tab q hq).2.1) (fun q hq ps e => by rw [upd_ne (ne e)]; exact e), fun a ps e => by
    by_cases ha : a = p
    · subst ha; rw [upd_same] at e; exact hno ps (Option.some.inj e)
    · rw [upd_ne ha] at e; exact C.ntb a ps e, fun a d e => by
    obtain ⟨h1, ⟨u, h2, h3⟩, h4⟩ := C.obs a d e
    exact ⟨by rw [upd_ne (ne h2)]; exact h1, ⟨u, by rw [upd_ne (ne h2)]; exact h2, RelO1.mono g d u h3⟩, h4⟩, C.obx, C.osp⟩⟩
  · by_cases ha : a = p
    · subst ha; rw [upd_same] at e ⊢; exact e
    · rw [upd_ne ha] at e ⊢; exact C.sub a u e
  · have := C.frm a u e hx ho
    rw [upd_ne (ne this)]; exact this
  · by_cases ha : a = p
    · subst ha; exact .inr hB
    · rw [upd_ne ha] at e; exact C.new a u e
  · obtain ⟨u, q⟩ := C.exl a ha
    exact ⟨u, by rw [upd_ne (ne q)]; exact q⟩
  · obtain ⟨v, h1, h2⟩ := C.val i d e
    exact ⟨v, h1, RelD.mono g d v h2⟩
  · obtain ⟨a, u, h1, h2, h3, h4, h5, h6⟩ := C.own i d e
    exact ⟨a, u, h1, by rw [upd_ne (ne h2)]; exact h2, RelO1.mono g d u h3, by rw [upd_ne (ne h2)]; exact h4, h5, h6⟩
  · obtain ⟨h1, ⟨u, h2, h3⟩, h4⟩ := C.pen a e
    exact ⟨by rw [upd_ne (ne h2)]; exact h1, ⟨u, by rw [upd_ne (ne h2)]; exact h2, h3.mono g.f⟩, h4⟩
/-- a new object, nobody's yet: the state stands -/
theorem Cf.loose (C : Cf K B F pa t env σ H) {p : Addr} (o : HO) (h : H p = none) : Cf K B F pa t env σ (upd H p o) := by
  have ne : ∀ {a : Addr} {u : HO}, H a = some u → a ≠ p := fun e => ne_of_none e h
  have kp : ∀ a u, H a = some u → upd H p o a = some u := fun a u e => by rw [upd_ne (ne e)]; exact e
  refine ⟨C.len, fun a u e => kp _ _ (C.sub a u e), C.bas, fun a u e hx ho => kp _ _ (C.frm a u e hx ho), C.new, fun a ha => ?_, C.val, fun i d e => ?_, C.sep, fun a e => ?_, C.pnn, C.tab.hs (fun q _ ps e => kp _ _ e), C.ntb, fun a d e => by
    obtain ⟨h1, ⟨u, h2, h3⟩, h4⟩ := C.obs a d e
    exact ⟨h1, ⟨u, kp _ _ h2, h3⟩, h4⟩, C.obx, C.osp⟩
  · obtain ⟨u, q⟩ := C.exl a ha
    exact ⟨u, kp _ _ q⟩
  · obtain ⟨a, u, h1, h2, h3⟩ := C.own i d e
    exact ⟨a, u, h1, kp _ _ h2, h3⟩
  · obtain ⟨h1, ⟨u, h2, h3⟩, h4⟩ := C.pen a e
    exact ⟨h1, ⟨u, kp _ _ h2, h3⟩, h4⟩
/-- an address that is nobody's yet -/
structure Nw (B : Bs) (F : Hp) (pa : Option Addr) (t : Ts) (env : En) (σ : L2.St) (p : Addr) : Prop where
  f : F p = none
  b : B.H p = none
  a : pa ≠ some p
  s : ∀ (j : Nat) (e : D), env[j]? = some (Sl.own e) → σ[j]? ≠ some (some (V.ref p))
  o : t.obs p = none
theorem Cf.noob (C : Cf K B F pa t env σ H) {p : Addr} (h : H p = none) : t.obs p = none := by
  cases q : t.obs p with
  | none => rfl
  | some d =>
    obtain ⟨_, ⟨u, q2, _⟩, _⟩ := C.obs p d q
    rw [h] at q2; cases q2
theorem Cf.nw (C : Cf K B F pa t env σ H) {p : Addr} (h : H p = none) : Nw B F pa t env σ p := by
  obtain ⟨hF, hB, _⟩ := C.fresh h
  refine ⟨hF, hB, fun e => ?_, fun j e hj hs => ?_, C.noob h⟩
  · obtain ⟨_, ⟨u, q, _⟩, _⟩ := C.pen p e
    rw [h] at q; cases q
  · obtain ⟨a, u, h1, h2, _⟩ := C.own j e hj
    rw [hs] at h1
    cases h1
    rw [h] at h2; cases h2
/-- a nobody's object is frozen -/
theorem Cf.frz (C : Cf K B F pa t env σ H) {p : Addr} {h : HO} (n : Nw B F pa t env σ p) (e : H p = some h) (hno : ∀ ps, h ≠ .tbl ps) : Gr F pa (upd F p h) pa ∧ Cf K B (upd F p h) pa t env σ H := by
  have g : Gr F pa (upd F p h) pa := ⟨Gf.upd n.f, rfl⟩
  refine ⟨g, ⟨C.len, fun a u q => ?_, fun a u q => g.f _ _ (C.bas a u q), C.frm, fun a u q => ?_, C.exl, fun i d q => ?_, fun i d q => ?_, C.sep, fun a q => ?_, C.pnn, C.tab.keep g.f (fun q hq ps z => by rw [upd_ne (fun y => (C.tab q hq).1 (by rw [y]; exact n.b))]; exact (C.tab q hq).2.1) (fun _ _ _ z => z), fun a ps z => by
    by_cases ha : a = p
    · subst ha; rw [upd_same] at z; exact hno ps (Option.some.inj z)
    · rw [upd_ne ha] at z; exact C.ntb a ps z, fun a d q => by
    obtain ⟨h1, ⟨u, h2, h3⟩, h4⟩ := C.obs a d q
    refine ⟨?_, ⟨u, h2, RelO1.mono g d u h3⟩, h4⟩
    rw [upd_ne ?_]
    · exact h1
    · rintro rfl
      rw [n.o] at q; exact (nomatch q), C.obx, C.osp⟩⟩
  · by_cases ha : a = p
    · subst ha; rw [upd_same] at q; cases q; exact e
    · rw [upd_ne ha] at q; exact C.sub a u q
  · by_cases ha : a = p
    · subst ha; exact .inr n.b
    · rw [upd_ne ha] at q; exact C.new a u q
  · obtain ⟨v, h1, h2⟩ := C.val i d q
    exact ⟨v, h1, RelD.mono g d v h2⟩
  · obtain ⟨a, u, h1, h2, h3, h4, h5, h6⟩ := C.own i d q
    refine ⟨a, u, h1, h2, RelO1.mono g d u h3, ?_, h5, h6⟩
    rw [upd_ne ?_]
    · exact h4
    · rintro rfl
      exact n.s i d q h1
  · obtain ⟨h1, ⟨u, h2, h3⟩, h4⟩ := C.pen a q
    refine ⟨?_, ⟨u, h2, h3.mono g.f⟩, h4⟩
    rw [upd_ne ?_]
    · exact h1
    · rintro rfl
      exact n.a q
/-- a nobody's object is written -/
theorem Cf.write (C : Cf K B F pa t env σ H) {p : Addr} {h : HO} (n : Nw B F pa t env σ p) : Cf K B F pa t env σ (upd H p h) := by
  refine ⟨C.len, fun a u q => ?_, C.bas, fun a u q hx ho => ?_, C.new, fun a ha => ?_, C.val, fun i d q => ?_, C.sep, fun a q => ?_, C.pnn, C.tab.hs (fun q hq ps z => by rw [upd_ne (fun y => (C.tab q hq).1 (by rw [y]; exact n.b))]; exact z), C.ntb, fun a d q => by
    obtain ⟨h1, ⟨u, h2, h3⟩, h4⟩ := C.obs a d q
    refine ⟨h1, ⟨u, ?_, h3⟩, h4⟩
    rw [upd_ne ?_]
    · exact h2
    · rintro rfl
      rw [n.o] at q; exact (nomatch q), C.obx, C.osp⟩
  · rw [upd_ne (ne_of_none q n.f)]; exact C.sub a u q
  · rw [upd_ne (ne_of_none q n.b)]; exact C.frm a u q hx ho
  · obtain ⟨u, q⟩ := C.exl a ha
    by_cases hb : a = p
    · subst hb; exact ⟨h, upd_same⟩
    · exact ⟨u, by rw [upd_ne hb]; exact q⟩
  · obtain ⟨a, u, h1, h2, r⟩ := C.own i d q
    refine ⟨a, u, h1, ?_, r⟩
    rw [upd_ne ?_]
    · exact h2
    · rintro rfl
      exact n.s i d q h1
  · obtain ⟨h1, ⟨u, h2, h3⟩, h4⟩ := C.pen a q
    refine ⟨h1, ⟨u, ?_, h3⟩, h4⟩
    rw [upd_ne ?_]
    · exact h2
    · rintro rfl
      exact n.a q
/-- what a new datum is -/
theorem RelO1.rel {d : D} {h : HO} {p : Addr} (r : RelO1 K F pa d h) (e : F p = some h) : RelD K F pa d (.ref p) := by
  cases d with
  | lst l =>
    obtain ⟨vs, rfl, q⟩ := r
    unfold RelD; exact ⟨p, vs, rfl, e, q⟩
  | dic ks l =>
    obtain ⟨vs, rfl, z, q⟩ := r
    unfold RelD; exact ⟨p, vs, rfl, e, z, q⟩
  | ins C ns l =>
    obtain ⟨dx, vs, rfl, z, q⟩ := r
    unfold RelD; exact ⟨p, dx, vs, rfl, e, z, q⟩
  | _ => exact r.elim
theorem get_set {α : Type} {l : List α} {i j : Nat} {x y : α} (h : (l.set i x)[j]? = some y) : (i = j ∧ y = x) ∨ (i ≠ j ∧ l[j]? = some y) := by
  by_cases e : i = j
  · subst e
    left
    rw [List.getElem?_set_self'] at h
    cases q : l[i]? with
    | none => rw [q] at h; simp at h
    | some z => rw [q] at h; simp at h; exact ⟨rfl, h.symm⟩
  · right
    rw [List.getElem?_set_ne e] at h
    exact ⟨e, h⟩
/-- a name is given a datum -/
theorem Cf.setV (C : Cf K B F pa t env σ H) (i : Nat) {d : D} {v : V} (r : RelD K F pa d v) : Cf K B F pa t (env.set i (.val d)) (σ.set i (some v)) H := by
  refine ⟨by simp [C.len], C.sub, C.bas, C.frm, C.new, C.exl, fun j e q => ?_, fun j e q => ?_, fun j k e f a q1 q2 s1 s2 => ?_, C.pen, C.pnn, C.tab, C.ntb, C.obs, C.obx, fun j e a q s => by
    rcases get_set q with ⟨_, z⟩ | ⟨ne, z⟩
    · cases z
    · rw [List.getElem?_set_ne ne] at s
      exact C.osp j e a z s⟩
  · rcases get_set q with ⟨rfl, z⟩ | ⟨ne, z⟩
    · cases z
      have hi : i < env.length := by
        have := (List.getElem?_eq_some_iff.mp q).1
        simpa using this
      exact ⟨v, by rw [List.getElem?_set_self (by rw [← C.len]; exact hi)], r⟩
    · obtain ⟨w, h1, h2⟩ := C.val j e z
      exact ⟨w, by rw [List.getElem?_set_ne ne]; exact h1, h2⟩
  · rcases get_set q with ⟨rfl, z⟩ | ⟨ne, z⟩
    · cases z
    · obtain ⟨a, u, h1, h2⟩ := C.own j e z
      exact ⟨a, u, by rw [List.getElem?_set_ne ne]; exact h1, h2⟩
  · rcases get_set q1 with ⟨_, z⟩ | ⟨n1, z1⟩
    · cases z
    · rcases get_set q2 with ⟨_, z⟩ | ⟨n2, z2⟩
      · cases z
      · rw [List.getElem?_set_ne n1] at s1
        rw [List.getElem?_set_ne n2] at s2
        exact C.sep j k e f a z1 z2 s1 s2
/-- a name is given a new object of its own -/
theorem Cf.setN (C : Cf K B F pa t env σ H) (i : Nat) {d : D} {p : Addr} {h : HO} (n : Nw B F pa t env σ p) (e : H p = some h) (r : RelO1 K F pa d h) : Cf K B F pa t (env.set i (.own d)) (σ.set i (some (.ref p))) H := by
  refine ⟨by simp [C.len], C.sub, C.bas, C.frm, C.new, C.exl, fun j e q => ?_, fun j e' q => ?_, fun j k e' f a q1 q2 s1 s2 => ?_, C.pen, C.pnn, C.tab, C.ntb, C.obs, C.obx, fun j e a q s => by
    rcases get_set q with ⟨rfl, z⟩ | ⟨ne, z⟩
    · rcases get_set s with ⟨_, zz⟩ | ⟨nn, _⟩
      · cases zz; exact n.o
      · exact absurd rfl nn
    · rw [List.getElem?_set_ne ne] at s
      exact C.osp j e a z s⟩
  · rcases get_set q with ⟨rfl, z⟩ | ⟨ne, z⟩
    · cases z
    · obtain ⟨w, h1, h2⟩ := C.val j e z
      exact ⟨w, by rw [List.getElem?_set_ne ne]; exact h1, h2⟩
  · rcases get_set q with ⟨rfl, z⟩ | ⟨ne, z⟩
    · cases z
      have hi : i < env.length := by
        have := (List.getElem?_eq_some_iff.mp q).1
        simpa using this
      exact ⟨p, h, by rw [List.getElem?_set_self (by rw [← C.len]; exact hi)], e, r, n.f, n.a, .inr n.b⟩
    · obtain ⟨a, u, h1, h2⟩ := C.own j e' z
      exact ⟨a, u, by rw [List.getElem?_set_ne ne]; exact h1, h2⟩
  · rcases get_set q1 with ⟨rfl, z⟩ | ⟨n1, z1⟩
    · rcases get_set q2 with ⟨rfl, z'⟩ | ⟨n2, z2⟩
      · rfl
      · rw [List.getElem?_set_ne n2] at s2
        rcases get_set s1 with ⟨_, zz⟩ | ⟨nn, _⟩
        · cases zz
          exact absurd s2 (n.s k f z2)
        · exact absurd rfl nn
    · rw [List.getElem?_set_ne n1] at s1
      rcases get_set q2 with ⟨rfl, z'⟩ | ⟨n2, z2⟩
      · rcases get_set s2 with ⟨_, zz⟩ | ⟨nn, _⟩
        · cases zz
          exact absurd s1 (n.s j e' z1)
        · exact absurd rfl nn
      · rw [List.getElem?_set_ne n2] at s2
        exact C.sep j k e' f a z1 z2 s1 s2
/-- a name's own object is written -/
theorem Cf.wrO (C : Cf K B F pa t env σ H) {i : Nat} {d d' : D} {a : Addr} {h : HO} (hi : env[i]? = some (Sl.own d)) (hs : σ[i]? = some (some (V.ref a))) (r : RelO1 K F pa d' h) : Cf K B F pa t (env.set i (.own d')) σ (upd H a h) := by
  obtain ⟨a', h0, s0, e0, r0, f0, p0, x0⟩ := C.own i d hi
  rw [hs] at s0; cases s0
  have nb : ∀ {c : Addr} {u : HO}, F c = some u → c ≠ a := fun e => ne_of_none e f0
  refine ⟨by simp [C.len], fun c u q => by rw [upd_ne (nb q)]; exact C.sub c u q, C.bas, fun c u q hx ho => ?_, C.new, fun c hc => ?_, fun j e q => ?_, fun j e q => ?_, fun j k e f c q1 q2 s1 s2 => ?_, fun c q => ?_, C.pnn, C.tab.hs (fun p _ ps z => by rw [upd_ne (fun y => by rw [y, e0] at z; exact r0.ntb ps (Option.some.inj z))]; exact z), C.ntb, fun c d q => by
    obtain ⟨h1, ⟨u, h2, h3⟩, h4⟩ := C.obs c d q
    refine ⟨h1, ⟨u, ?_, h3⟩, h4⟩
    rw [upd_ne ?_]
    · exact h2
    · rintro rfl
      rw [C.osp i _ c hi hs] at q; exact (nomatch q), C.obx, fun j e c q s => by
    rcases get_set q with ⟨rfl, _⟩ | ⟨_, z⟩
    · exact C.osp i d c hi s
    · exact C.osp j e c z s⟩
  · rw [upd_ne ?_]
    · exact C.frm c u q hx ho
    · rintro rfl
      rcases x0 with z | z
      · exact hx z
      · rw [z] at q; cases q
  · by_cases hc' : c = a
    · subst hc'; exact ⟨h, upd_same⟩
    · obtain ⟨u, q⟩ := C.exl c hc
      exact ⟨u, by rw [upd_ne hc']; exact q⟩
  · rcases get_set q with ⟨rfl, z⟩ | ⟨ne, z⟩
    · cases z
    · exact C.val j e z
  · rcases get_set q with ⟨rfl, z⟩ | ⟨ne, z⟩
    · cases z
      exact ⟨a, h, hs, upd_same, r, f0, p0, x0⟩
    · obtain ⟨c, u, h1, h2, h3⟩ := C.own j e z
      refine ⟨c, u, h1, ?_, h3⟩
      rw [upd_ne ?_]
      · exact h2
      · rintro rfl
        exact ne (C.sep i j d e c hi z hs h1)
  · have z1 : ∃ e', env[j]? = some (Sl.own e') := by
      rcases get_set q1 with ⟨rfl, _⟩ | ⟨_, z⟩
      · exact ⟨d, hi⟩
      · exact ⟨e, z⟩
    have z2 : ∃ e', env[k]? = some (Sl.own e') := by
      rcases get_set q2 with ⟨rfl, _⟩ | ⟨_, z⟩
      · exact ⟨d, hi⟩
      · exact ⟨f, z⟩
    obtain ⟨e1, z1⟩ := z1
    obtain ⟨e2, z2⟩ := z2
    exact C.sep j k e1 e2 c z1 z2 s1 s2
  · obtain ⟨h1, ⟨u, h2, h3⟩, h4⟩ := C.pen c q
    refine ⟨h1, ⟨u, ?_, h3⟩, h4⟩
    rw [upd_ne ?_]
    · exact h2
    · rintro rfl
      exact p0 q
/-- a name's own object is written no more -/
theorem Cf.frzO (C : Cf K B F pa t env σ H) (hB : B.Top) {i : Nat} {d : D} (hi : env[i]? = some (Sl.own d)) : ∃ F', Gr F pa F' pa ∧ Cf K B F' pa t (env.set i (.val d)) σ H := by
  obtain ⟨a, h, hs, e, r, f0, p0, x0⟩ := C.own i d hi
  have hb : B.H a = none := by
    rcases x0 with z | z
    · rcases hB a z with y | ⟨p, hp, y⟩
      · exact absurd ((show pa = B.pn from C.pnn).trans y) p0
      · obtain ⟨_, _, ps, q, _⟩ := C.tab p hp
        rw [y, e] at q
        exact absurd (Option.some.inj q) (r.ntb ps)
    · exact z
  have hl : i < env.length := (List.getElem?_eq_some_iff.mp hi).1
  have C1 : Cf K B F pa t (env.set i .no) σ H := by
    refine ⟨by simp [C.len], C.sub, C.bas, C.frm, C.new, C.exl, fun j e q => ?_, fun j e q => ?_, fun j k e f c q1 q2 => ?_, C.pen, C.pnn, C.tab, C.ntb, C.obs, C.obx, fun j e c q s => by
      rcases get_set q with ⟨_, z⟩ | ⟨_, z⟩
      · cases z
      · exact C.osp j e c z s⟩
    · rcases get_set q with ⟨rfl, z⟩ | ⟨ne, z⟩
      · cases z
      · exact C.val j e z
    · rcases get_set q with ⟨rfl, z⟩ | ⟨ne, z⟩
      · cases z
      · exact C.own j e z
    · rcases get_set q1 with ⟨_, z⟩ | ⟨n1, z1⟩
      · cases z
      · rcases get_set q2 with ⟨_, z⟩ | ⟨n2, z2⟩
        · cases z
        · exact C.sep j k e f c z1 z2
  have n : Nw B F pa t (env.set i .no) σ a := by
    refine ⟨f0, hb, p0, fun j e' q s1 => ?_, C.osp i d a hi hs⟩
    rcases get_set q with ⟨_, z⟩ | ⟨ne, z⟩
    · cases z
    · exact ne (C.sep i j d e' a hi z hs s1)
  obtain ⟨g, C2⟩ := C1.frz n e r.ntb
  have C3 := C2.setV i (RelO1.rel (p := a) (RelO1.mono g d h r) upd_same)
  rw [List.set_set] at C3
  have hσ : σ.set i (some (V.ref a)) = σ := by
    apply List.ext_getElem?
    intro j
    by_cases hj : i = j
    · subst hj
      rw [List.getElem?_set_self (by rw [← C.len]; exact hl), hs]
    · rw [List.getElem?_set_ne hj]
  rw [hσ] at C3
  exact ⟨_, g, C3⟩
/-- forgetting -/
theorem Cf.nil (C : Cf K B F pa t env σ H) : Cf K B F pa t [] [] H :=
  ⟨rfl, C.sub, C.bas, C.frm, C.new, C.exl, fun i d e => by simp at e, fun i d e => by simp at e, fun i j d e a q => by simp at q, C.pen, C.pnn, C.tab, C.ntb, C.obs, C.obx, fun i d a e => by simp at e⟩
/-! ### calls: the base of a callee -/
def B0 (F : Hp) (pa : Option Addr) (t : Ts) (H : Hp) : Bs := ⟨F, H, pa.toList, pa, false, [], t.dom⟩
def B1 (F : Hp) (pa : Option Addr) (t : Ts) (H : Hp) : Bs := ⟨F, H, pa.toList, pa, true, [], t.dom⟩
theorem B0.top (F : Hp) (pa : Option Addr) (t : Ts) (H : Hp) : (B0 F pa t H).Top := fun a h => .inl (by
  show pa = some a
  have h : a ∈ pa.toList := h
  cases pa with
  | none => simp at h
  | some b => simp at h; rw [h])
theorem B1.top (F : Hp) (pa : Option Addr) (t : Ts) (H : Hp) : (B1 F pa t H).Top := B0.top F pa t H
/-- the mode is nothing to the state -/
theorem Cf.cong {B' : Bs} (C : Cf K B F pa t env σ H) (h1 : B'.F = B.F) (h2 : B'.H = B.H) (h3 : B'.ex = B.ex) (h4 : B'.pn = B.pn) (h5 : B'.T = B.T) (h6 : B'.O = B.O := by rfl) : Cf K B' F pa t env σ H := by
  obtain ⟨F1, H1, e1, p1, m1, T1, O1⟩ := B
  obtain ⟨F2, H2, e2, p2, m2, T2, O2⟩ := B'
  cases h1; cases h2; cases h3; cases h4; cases h5; cases h6
  exact ⟨C.len, C.sub, C.bas, C.frm, C.new, C.exl, C.val, C.own, C.sep, C.pen, C.pnn, C.tab, C.ntb, C.obs, C.obx, C.osp⟩
theorem mem_pa {pa : Option Addr} {a : Addr} : a ∈ pa.toList ↔ pa = some a := by
  cases pa with
  | none => simp
  | some b => simp [eq_comm]
theorem Cf.call (C : Cf K B F pa t env σ H) : Cf K (B0 F pa t H) F pa t [] [] H := by
  refine ⟨rfl, C.sub, fun _ _ e => e, fun _ _ e _ _ => e, fun a o e => .inl ⟨o, e⟩, fun a ha => ?_, fun i d e => by simp at e, fun i d e => by simp at e, fun i j d e a q => by simp at q, fun a e => ?_, rfl, TabF.nil, C.ntb, fun a d e => by
    obtain ⟨h1, h2, h3, _, h5⟩ := C.obs a d e
    exact ⟨h1, h2, h3, .inl ⟨d, e⟩, h5⟩, fun a e => e, fun i d a e => by simp at e⟩
  · have q : pa = some a := mem_pa.mp ha
    obtain ⟨_, ⟨h, q, _⟩, _⟩ := C.pen a q
    exact ⟨h, q⟩
  · obtain ⟨h1, h2, _⟩ := C.pen a e
    exact ⟨h1, h2, .inl (mem_pa.mpr e)⟩
theorem Cf.after {F' : Hp} {pa' : Option Addr} {t' : Ts} {H' : Hp} (C : Cf K B F pa t env σ H) (C' : Cf K (B0 F pa t H) F' pa' t' [] [] H') : Gr F pa F' pa' ∧ Cf K B F' pa' t' env σ H' := by
  have g : Gr F pa F' pa' := ⟨C'.bas, C'.pnn⟩
  have kp : ∀ a o, H a = some o → pa ≠ some a → t.obs a = none → H' a = some o := fun a o e n no => C'.frm a o e (fun z => n (mem_pa.mp z)) (fun ⟨d, z⟩ => by rw [no] at z; cases z)
  have al : ∀ a o, H a = some o → ∃ o', H' a = some o' := fun a o e => by
    by_cases hp : pa = some a
    · obtain ⟨_, ⟨h, q, _⟩, _⟩ := C'.pen a ((show pa' = pa from g.p).trans hp)
      exact ⟨h, q⟩
    · cases q : t.obs a with
      | none => exact ⟨o, kp a o e hp q⟩
      | some d =>
        obtain ⟨d', q'⟩ := C'.obx a ⟨d, q⟩
        obtain ⟨_, ⟨u, z, _⟩, _⟩ := C'.obs a d' q'
        exact ⟨u, z⟩
  have nf : ∀ a o, H a = some o → F a = none → F' a = none := fun a o e n => by
    cases q : F' a with
    | none => rfl
    | some u =>
      rcases C'.new a u q with ⟨u', z⟩ | z
      · have z : F a = some u' := z
        rw [n] at z; cases z
      · have z : H a = none := z
        rw [e] at z; cases z
  refine ⟨g, ⟨C.len, C'.sub, fun a o e => g.f _ _ (C.bas a o e), fun a o e hx ho => ?_, fun a o e => ?_, fun a ha => ?_, fun i d e => ?_, fun i d e => ?_, C.sep, fun a e => ?_, (show pa' = pa from g.p).trans C.pnn, C.tab.keep g.f (fun p hp ps z => nf _ _ z (C.tab p hp).2.1) (fun p hp ps z => kp _ _ z (fun y => by
    obtain ⟨_, ⟨u, q, ca, w, _⟩, _⟩ := C.pen p.1 y
    rw [z] at q
    subst w
    cases q) (by
    cases q : t.obs p.1 with
    | none => rfl
    | some d =>
      obtain ⟨_, ⟨u, q2, r⟩, _⟩ := C.obs p.1 d q
      rw [z] at q2
      exact absurd (Option.some.inj q2).symm (r.ntb ps))), C'.ntb, fun a d q => ?_, fun a q => C'.obx a (C.obx a q), fun i d a e s => ?_⟩⟩
  · refine kp a o (C.frm a o e hx ho) (fun z => ?_) ?_
    · rcases (C.pen a z).2.2 with q | q
      · exact hx q
      · rw [q] at e; cases e
    · cases q : t.obs a with
      | none => rfl
      | some d =>
        rcases (C.obs a d q).2.2.2.1 with z | z
        · exact absurd z ho
        · rw [z] at e; cases e
  · rcases C'.new a o e with ⟨o', q⟩ | q
    · exact C.new a o' q
    · exact .inr (C.fresh q).2.1
  · obtain ⟨o, q⟩ := C.exl a ha
    exact al a o q
  · obtain ⟨v, h1, h2⟩ := C.val i d e
    exact ⟨v, h1, RelD.mono g d v h2⟩
  · obtain ⟨a, h, h1, h2, h3, h4, h5, h6⟩ := C.own i d e
    refine ⟨a, h, h1, kp a h h2 h5 (C.osp i d a e h1), RelO1.mono g d h h3, ?_, fun z => ?_, h6⟩
    · cases q : F' a with
      | none => rfl
      | some o =>
        rcases C'.new a o q with ⟨o', z⟩ | z
        · have z : F a = some o' := z
          rw [h4] at z; cases z
        · have z : H a = none := z
          rw [h2] at z; cases z
    · rcases (C'.pen a z).2.2 with q | q
      · exact h5 (mem_pa.mp q)
      · have q : H a = none := q
        rw [h2] at q; cases q
  · obtain ⟨h1, h2, h3⟩ := C'.pen a e
    refine ⟨h1, h2, ?_⟩
    rcases h3 with q | q
    · exact (C.pen a (mem_pa.mp q)).2.2
    · exact .inr (C.fresh q).2.1
  · obtain ⟨h1, h2, h3, h4, h5⟩ := C'.obs a d q
    refine ⟨h1, h2, h3, ?_, h5⟩
    rcases h4 with ⟨d0, z⟩ | z
    · exact (C.obs a d0 z).2.2.2.1
    · exact .inr (C.fresh z).2.1
  · cases q : t'.obs a with
    | none => rfl
    | some d' =>
      rcases (C'.obs a d' q).2.2.2.1 with ⟨d0, z⟩ | z
      · rw [C.osp i d a e s] at z; cases z
      · obtain ⟨a', h, h1, h2, _⟩ := C.own i d e
        rw [s] at h1; cases h1
        have z : H a = none := z
        rw [h2] at z; cases z
/-- objects forgotten -/
theorem Cf.bare (C : Cf K B F pa t env σ H) : Cf K (B0 F pa t.bare H) F pa t.bare [] [] H := by
  refine ⟨rfl, C.sub, fun _ _ e => e, fun _ _ e _ _ => e, fun a o e => .inl ⟨o, e⟩, fun a ha => ?_, fun i d e => by simp at e, fun i d e => by simp at e, fun i j d e a q => by simp at q, fun a e => ?_, rfl, TabF.nil, C.ntb, fun a d e => (nomatch e), fun a e => e, fun i d a e => by simp at e⟩
  · have q : pa = some a := mem_pa.mp ha
    obtain ⟨_, ⟨h, q, _⟩, _⟩ := C.pen a q
    exact ⟨h, q⟩
  · obtain ⟨h1, h2, _⟩ := C.pen a e
    exact ⟨h1, h2, .inl (mem_pa.mpr e)⟩
/-- .. and worn again -/
theorem Cf.wear {F' : Hp} {pa' : Option Addr} {t' : Ts} {H' : Hp} (C : Cf K B F pa t env σ H) (C' : Cf K (B0 F pa t.bare H) F' pa' t' [] [] H') : Gr F pa F' pa' ∧ Cf K B F' pa' (t'.wear t.obs) env σ H' := by
  have g : Gr F pa F' pa' := ⟨C'.bas, C'.pnn⟩
  have kp : ∀ a o, H a = some o → pa ≠ some a → H' a = some o := fun a o e n => C'.frm a o e (fun z => n (mem_pa.mp z)) (fun ⟨d, z⟩ => by cases z)
  have nf : ∀ a o, H a = some o → F a = none → F' a = none := fun a o e n => by
    cases q : F' a with
    | none => rfl
    | some u =>
      rcases C'.new a u q with ⟨u', z⟩ | z
      · have z : F a = some u' := z
        rw [n] at z; cases z
      · have z : H a = none := z
        rw [e] at z; cases z
  have C1 : Cf K (B0 F pa t H) F' pa' (t'.wear t.obs) [] [] H' := ⟨rfl, C'.sub, C'.bas, fun a o e n _ => kp a o e (fun z => n (mem_pa.mpr z)), C'.new, C'.exl, C'.val, C'.own, C'.sep, C'.pen, C'.pnn, TabF.nil, C'.ntb, fun a d q => by
    obtain ⟨h1, ⟨u, h2, h3⟩, h4, _, h5⟩ := C.obs a d q
    exact ⟨nf a u h2 h1, ⟨u, kp a u h2 h4, RelO1.mono g d u h3⟩, fun z => h4 ((show pa' = pa from g.p).symm.trans z), .inl ⟨d, q⟩, h5⟩, fun a q => q, fun i d a e => by simp at e⟩
  exact C.after C1
end
end Q
/-! QH2 -/
namespace Q
open PySem L2 PyProof.Rows
/-! ### the judgements -/
section
variable (K : PySem.W.Frag) (B : Bs)
def teOf (de : DE) : TE := fun σ H Q => ∃ F pa t env P, Cf K B F pa t env σ H ∧ de env t P ∧
  ∀ v d F' pa' t' H', Gr F pa F' pa' → Cf K B F' pa' t' env σ H' → RelD K F' pa' d v → P d t' → Q v H'
/-- read alone: a datum, or what a name's own object holds -/
def RelX (F : Hp) (pa : Option Addr) (env : En) (σ : L2.St) (d : D) (v : V) : Prop := RelD K F pa d v ∨ ∃ i : Nat, env[i]? = some (Sl.own d) ∧ σ[i]? = some (some v)
def tvOf (de : DE) : TE := fun σ H Q => ∃ F pa t env P, Cf K B F pa t env σ H ∧ de env t P ∧
  ∀ v d F' pa' t' H', Gr F pa F' pa' → Cf K B F' pa' t' env σ H' → RelX K F' pa' env σ d v → P d t' → Q v H'
/-- a new object -/
def tnOf (de : DE) : TE := fun σ H Q => ∃ F pa t env P, Cf K B F pa t env σ H ∧ de env t P ∧
  ∀ p h d F' pa' t' H', Gr F pa F' pa' → Cf K B F' pa' t' env σ H' → Nw B F' pa' t' env σ p → H' p = some h → RelO1 K F' pa' d h → P d t' → Q (.ref p) H'
def ttOf (dt : DT) : TT := fun σ H Q => ∃ F pa t env P, Cf K B F pa t env σ H ∧ dt env t P ∧
  ∀ k F' pa' t' H', Gr F pa F' pa' → Cf K B F' pa' t' env σ H' → P k t' → Q k H'
def taOf (da : DA) : TA := fun σ H Q => ∃ F pa t env P, Cf K B F pa t env σ H ∧ da env t P ∧
  ∀ vs ds F' pa' t' H', Gr F pa F' pa' → Cf K B F' pa' t' env σ H' → RelL K F' pa' ds vs → P ds t' → Q vs H'
/-- arguments that are read alone -/
inductive RelXs (F : Hp) (pa : Option Addr) (env : En) (σ : L2.St) : List D → List V → Prop
  | nil : RelXs F pa env σ [] []
  | cons {d : D} {v : V} {ds : List D} {vs : List V} : RelX K F pa env σ d v → RelXs F pa env σ ds vs → RelXs F pa env σ (d :: ds) (v :: vs)
def txOf (da : DA) : TA := fun σ H Q => ∃ F pa t env P, Cf K B F pa t env σ H ∧ da env t P ∧
  ∀ vs ds F' pa' t' H', Gr F pa F' pa' → Cf K B F' pa' t' env σ H' → RelXs K F' pa' env σ ds vs → P ds t' → Q vs H'
def toOf (d : DO) : TO := fun σ H Q => ∃ F pa t env P, Cf K B F pa t env σ H ∧ d env t P ∧
  ∀ k F' pa' t' H', Gr F pa F' pa' → Cf K B F' pa' t' env σ H' → P k t' → Q k H'
/-- a target whose names have the slots vs -/
def tgOf (vs : List Nat) (g : DG) : TG := fun v σ H Q => ∃ F pa t env d P, Cf K B F pa t env σ H ∧ RelD K F pa d v ∧ g d env t P ∧
  ∀ F' pa' t' env' σ' H', Gr F pa F' pa' → Cf K B F' pa' t' env' σ' H' → wipe σ' vs = wipe σ vs → P env' t' → Q σ' H'
def tgsOf (vs : List Nat) (g : DGs) : TGs := fun us σ H Q => ∃ F pa t env ds P, Cf K B F pa t env σ H ∧ RelL K F pa ds us ∧ g ds env t P ∧
  ∀ F' pa' t' env' σ' H', Gr F pa F' pa' → Cf K B F' pa' t' env' σ' H' → wipe σ' vs = wipe σ vs → P env' t' → Q σ' H'
/-- how a datum is told back -/
def RetRel (F : Hp) (pa : Option Addr) (t : Ts) (H : Hp) (d : D) (v : V) : Prop := match B.m with
  | false => RelD K F pa d v
  | true => (d = .non ∧ v = .non) ∨ ∃ p h, v = .ref p ∧ F p = none ∧ B.H p = none ∧ pa ≠ some p ∧ t.obs p = none ∧ H p = some h ∧ RelO1 K F pa d h
structure Rz (F0 : Hp) (pa0 : Option Addr) (DD : DEnds) (D : Ends) : Prop where
  nx : ∀ F pa t env σ H, Gr F0 pa0 F pa → Cf K B F pa t env σ H → DD.nx env t → D.nx σ H
  rt : ∀ v d F pa t env σ H, Gr F0 pa0 F pa → Cf K B F pa t env σ H → RetRel K B F pa t H d v → DD.rt d env t → D.rt v H
  bk : ∀ F pa t env σ H, Gr F0 pa0 F pa → Cf K B F pa t env σ H → DD.bk env t → D.bk σ H
  ct : ∀ F pa t env σ H, Gr F0 pa0 F pa → Cf K B F pa t env σ H → DD.ct env t → D.ct σ H
def tsOf (ds : DS) : TS := fun D σ H => ∃ F pa t env DD, Cf K B F pa t env σ H ∧ ds DD env t ∧ Rz K B F pa DD D
end
theorem Rz.mono {K : PySem.W.Frag} {B : Bs} {F0 F1 : Hp} {p0 p1 : Option Addr} {DD : DEnds} {D : Ends} (R : Rz K B F0 p0 DD D) (g : Gr F0 p0 F1 p1) : Rz K B F1 p1 DD D :=
  ⟨fun F pa t env σ H g' => R.nx F pa t env σ H (g.trans g'), fun v d F pa t env σ H g' => R.rt v d F pa t env σ H (g.trans g'), fun F pa t env σ H g' => R.bk F pa t env σ H (g.trans g'), fun F pa t env σ H g' => R.ct F pa t env σ H (g.trans g')⟩
abbrev QE (X : Cx) (B : Bs) (e : Expr) (de : DE) : Prop := PE X e (teOf X.K B de)
abbrev QV (X : Cx) (B : Bs) (e : Expr) (de : DE) : Prop := PE X e (tvOf X.K B de)
abbrev QN (X : Cx) (B : Bs) (e : Expr) (de : DE) : Prop := PE X e (tnOf X.K B de)
abbrev QT (X : Cx) (B : Bs) (e : Expr) (dt : DT) : Prop := PT X e (ttOf X.K B dt)
abbrev QW (X : Cx) (B : Bs) (e : Expr) (dt : DT) : Prop := PW X e (ttOf X.K B dt)
abbrev QA (X : Cx) (B : Bs) (es : List Expr) (da : DA) : Prop := PA X es (taOf X.K B da)
abbrev QX (X : Cx) (B : Bs) (es : List Expr) (da : DA) : Prop := PA X es (txOf X.K B da)
abbrev QO (X : Cx) (B : Bs) (e : Option Expr) (d : DO) : Prop := PO X e (toOf X.K B d)
abbrev QG (X : Cx) (B : Bs) (vs : List Nat) (e : Expr) (g : DG) : Prop := PG X e (tgOf X.K B vs g)
abbrev QGs (X : Cx) (B : Bs) (vs : List Nat) (es : List Expr) (g : DGs) : Prop := PGs X es (tgsOf X.K B vs g)
abbrev QS (X : Cx) (B : Bs) (st : Stmt) (ds : DS) : Prop := PS X st (tsOf X.K B ds)
abbrev QSs (X : Cx) (B : Bs) (st : List Stmt) (ds : DS) : Prop := PSs X st (tsOf X.K B ds)
theorem PE.imp {X : Cx} {e : Expr} {t t' : TE} (h : PE X e t) (i : ∀ σ H Q, t' σ H Q → t σ H Q) : PE X e t' := ⟨fun pins s σ H Q I q => h.run pins s σ H Q I (i σ H Q q)⟩
theorem PT.imp {X : Cx} {e : Expr} {t t' : TT} (h : PT X e t) (i : ∀ σ H Q, t' σ H Q → t σ H Q) : PT X e t' := ⟨fun pins s σ H Q I q => h.run pins s σ H Q I (i σ H Q q)⟩
theorem PW.imp {X : Cx} {e : Expr} {t t' : TT} (h : PW X e t) (i : ∀ σ H Q, t' σ H Q → t σ H Q) : PW X e t' := ⟨fun w pins s σ H Q I q => h.run w pins s σ H Q I (i σ H Q q)⟩
theorem PA.imp {X : Cx} {e : List Expr} {t t' : TA} (h : PA X e t) (i : ∀ σ H Q, t' σ H Q → t σ H Q) : PA X e t' := ⟨fun p pins s σ H Q I q => h.run p pins s σ H Q I (i σ H Q q)⟩
theorem PO.imp {X : Cx} {e : Option Expr} {t t' : TO} (h : PO X e t) (i : ∀ σ H Q, t' σ H Q → t σ H Q) : PO X e t' := ⟨fun pins s σ H Q I q => h.run pins s σ H Q I (i σ H Q q)⟩
theorem PG.imp {X : Cx} {e : Expr} {t t' : TG} (h : PG X e t) (i : ∀ v σ H Q, t' v σ H Q → t v σ H Q) : PG X e t' := ⟨fun pins s σ H v u Q I r q => h.run pins s σ H v u Q I r (i v σ H Q q)⟩
theorem PGs.imp {X : Cx} {e : List Expr} {t t' : TGs} (h : PGs X e t) (i : ∀ v σ H Q, t' v σ H Q → t v σ H Q) : PGs X e t' := ⟨fun pins s σ H v u Q I r q => h.run pins s σ H v u Q I r (i v σ H Q q)⟩
theorem PS.imp {X : Cx} {e : Stmt} {t t' : TS} (h : PS X e t) (i : ∀ D σ H, t' D σ H → t D σ H) : PS X e t' := ⟨fun pins s σ H D I q => h.run pins s σ H D I (i D σ H q)⟩
theorem PSs.imp {X : Cx} {e : List Stmt} {t t' : TS} (h : PSs X e t) (i : ∀ D σ H, t' D σ H → t D σ H) : PSs X e t' := ⟨fun pins s σ H D I q => h.run pins s σ H D I (i D σ H q)⟩
section
variable {X : Cx} {B : Bs} {K : PySem.W.Frag} {a b c e : Expr} {es : List Expr} {pos : Pos} {da db dc : DE} {as : DA}
theorem RelX.mono {F F' : Hp} {pa pa' : Option Addr} {env : En} {σ : L2.St} {d : D} {v : V} (g : Gr F pa F' pa') (r : RelX K F pa env σ d v) : RelX K F' pa' env σ d v := by
  rcases r with r | r
  · exact .inl (RelD.mono g d v r)
  · exact .inr r
theorem RelXs.mono {F F' : Hp} {pa pa' : Option Addr} {env : En} {σ : L2.St} {d : List D} {v : List V} (g : Gr F pa F' pa') (r : RelXs K F pa env σ d v) : RelXs K F' pa' env σ d v := by
  induction r with
  | nil => exact .nil
  | cons h _ ih => exact .cons (h.mono g) ih
theorem RelXs.of {F : Hp} {pa : Option Addr} {env : En} {σ : L2.St} : ∀ {d : List D} {v : List V}, RelL K F pa d v → RelXs K F pa env σ d v
  | [], v, h => by rw [h.inv0]; exact .nil
  | x :: d, v, h => by
    obtain ⟨y, w, rfl, r, q⟩ := h.inv
    exact .cons (.inl r) (RelXs.of q)
/-- what a list, a tuple, a dict that is read stands as -/
theorem RelX.lst {F : Hp} {pa : Option Addr} {t : Ts} {env : En} {σ : L2.St} {H : Hp} {l : List D} {v : V} (C : Cf K B F pa t env σ H) (r : RelX K F pa env σ (.lst l) v) : ∃ a vs, v = .ref a ∧ H a = some (.lst vs) ∧ RelL K F pa l vs := by
  rcases r with r | ⟨i, h1, h2⟩
  · unfold RelD at r
    obtain ⟨a, vs, e, q, z⟩ := r
    exact ⟨a, vs, e, C.sub _ _ q, z⟩
  · obtain ⟨a, h, s1, q, z, _⟩ := C.own i _ h1
    rw [h2] at s1; cases s1
    obtain ⟨vs, rfl, z⟩ := z
    exact ⟨a, vs, rfl, q, z⟩
theorem RelX.tup {F : Hp} {pa : Option Addr} {t : Ts} {env : En} {σ : L2.St} {H : Hp} {l : List D} {v : V} (C : Cf K B F pa t env σ H) (r : RelX K F pa env σ (.tup l) v) : ∃ a vs, v = .ref a ∧ H a = some (.tup vs) ∧ F a = some (.tup vs) ∧ RelL K F pa l vs := by
  rcases r with r | ⟨i, h1, h2⟩
  · unfold RelD at r
    obtain ⟨a, vs, e, q, z⟩ := r
    exact ⟨a, vs, e, C.sub _ _ q, q, z⟩
  · obtain ⟨a, h, s1, q, z, _⟩ := C.own i _ h1
    exact z.elim
theorem RelX.dic {F : Hp} {pa : Option Addr} {t : Ts} {env : En} {σ : L2.St} {H : Hp} {ks : List Ky} {l : List D} {v : V} (C : Cf K B F pa t env σ H) (r : RelX K F pa env σ (.dic ks l) v) : ∃ a vs, v = .ref a ∧ H a = some (.dK (ks.zip vs)) ∧ ks.length = vs.length ∧ RelL K F pa l vs := by
  rcases r with r | ⟨i, h1, h2⟩
  · unfold RelD at r
    obtain ⟨a, vs, e, q, z⟩ := r
    exact ⟨a, vs, e, C.sub _ _ q, z⟩
  · obtain ⟨a, h, s1, q, z, _⟩ := C.own i _ h1
    rw [h2] at s1; cases s1
    obtain ⟨vs, rfl, z⟩ := z
    exact ⟨a, vs, rfl, q, z⟩
theorem RelX.ins {F : Hp} {pa : Option Addr} {t : Ts} {env : En} {σ : L2.St} {H : Hp} {C : Addr} {ns : List Str} {l : List D} {v : V} (W : Cf K B F pa t env σ H) (r : RelX K F pa env σ (.ins C ns l) v) : ∃ a dx vs, v = .ref a ∧ H a = some (.ins C dx (ns.zip vs)) ∧ ns.length = vs.length ∧ RelL K F pa l vs := by
  rcases r with r | ⟨i, h1, h2⟩
  · unfold RelD at r
    obtain ⟨a, dx, vs, e, q, z⟩ := r
    exact ⟨a, dx, vs, e, W.sub _ _ q, z⟩
  · obtain ⟨a, h, s1, q, z, _⟩ := W.own i _ h1
    rw [h2] at s1; cases s1
    obtain ⟨dx, vs, rfl, z⟩ := z
    exact ⟨a, dx, vs, rfl, q, z⟩
theorem RelX.scr {F : Hp} {pa : Option Addr} {t : Ts} {env : En} {σ : L2.St} {H : Hp} {ns : List Int} {v : V} (W : Cf K B F pa t env σ H) (r : RelX K F pa env σ (.scr ns) v) : ∃ a, v = .ref a ∧ SqL K H a (ns.map V.int) := by
  rcases r with r | ⟨i, h1, h2⟩
  · unfold RelD at r
    obtain ⟨a, e, q⟩ := r
    exact ⟨a, e, sq_mono W.sub q⟩
  · obtain ⟨a, h, s1, q, z, _⟩ := W.own i _ h1
    exact z.elim
theorem RelX.int {F : Hp} {pa : Option Addr} {t : Ts} {env : En} {σ : L2.St} {H : Hp} {i : Int} {v : V} (W : Cf K B F pa t env σ H) (r : RelX K F pa env σ (.int i) v) : v = .int i := by
  rcases r with r | ⟨i, h1, h2⟩
  · unfold RelD at r; exact r
  · obtain ⟨a, h, s1, q, z, _⟩ := W.own i _ h1
    exact z.elim
theorem RelX.bl {F : Hp} {pa : Option Addr} {t : Ts} {env : En} {σ : L2.St} {H : Hp} {i : Bool} {v : V} (W : Cf K B F pa t env σ H) (r : RelX K F pa env σ (.bl i) v) : v = .bl i := by
  rcases r with r | ⟨i, h1, h2⟩
  · unfold RelD at r; exact r
  · obtain ⟨a, h, s1, q, z, _⟩ := W.own i _ h1
    exact z.elim
theorem RelX.str {F : Hp} {pa : Option Addr} {t : Ts} {env : En} {σ : L2.St} {H : Hp} {i : Str} {v : V} (W : Cf K B F pa t env σ H) (r : RelX K F pa env σ (.str i) v) : v = .str i := by
  rcases r with r | ⟨i, h1, h2⟩
  · unfold RelD at r; exact r
  · obtain ⟨a, h, s1, q, z, _⟩ := W.own i _ h1
    exact z.elim
theorem RelX.non {F : Hp} {pa : Option Addr} {t : Ts} {env : En} {σ : L2.St} {H : Hp} {v : V} (W : Cf K B F pa t env σ H) (r : RelX K F pa env σ .non v) : v = .non := by
  rcases r with r | ⟨i, h1, h2⟩
  · unfold RelD at r; exact r
  · obtain ⟨a, h, s1, q, z, _⟩ := W.own i _ h1
    exact z.elim
/-- a datum is read -/
theorem toV (h : QE X B e da) : QV X B e da := PE.imp h fun σ H Q ⟨F, pa, t, env, P, C, hd, k⟩ => ⟨F, pa, t, env, P, C, hd, fun v d F' pa' t' H' g C' r q => k v d F' pa' t' H' g C' (.inl r) q⟩
/-- a new object is frozen -/
theorem toE (h : QN X B e da) : QE X B e da := PE.imp h fun σ H Q ⟨F, pa, t, env, P, C, hd, k⟩ => ⟨F, pa, t, env, P, C, hd, fun p h d F' pa' t' H' g C' n e r q => by
  obtain ⟨g', C2⟩ := C'.frz n e r.ntb
  exact k (.ref p) d _ pa' t' H' (g.trans g') C2 (RelO1.rel (RelO1.mono g' d h r) upd_same) q⟩
/-! ### names, constants -/
theorem q_var {i : Nat} {x : Str} {pos : Pos} (h : PE X (.Name x pos) (tVar i)) : QE X B (.Name x pos) (dVar i) := PE.imp h fun σ H Q ⟨F, pa, t, env, P, C, hd, k⟩ => by
  have hd : (match env[i]? with | some (.val d) => P d t | _ => False) := hd
  cases q : env[i]? with
  | none => rw [q] at hd; exact hd.elim
  | some s =>
    rw [q] at hd
    cases s with
    | val d =>
      obtain ⟨v, h1, h2⟩ := C.val i d q
      exact ⟨v, h1, k v d F pa t H (Gr.refl _ _) C h2 hd⟩
    | no => exact hd.elim
    | own d => exact hd.elim
theorem q_view {i : Nat} {x : Str} {pos : Pos} (h : PE X (.Name x pos) (tVar i)) : QV X B (.Name x pos) (dView i) := PE.imp h fun σ H Q ⟨F, pa, t, env, P, C, hd, k⟩ => by
  have hd : (match env[i]? with | some (.val d) => P d t | some (.own d) => P d t | _ => False) := hd
  cases q : env[i]? with
  | none => rw [q] at hd; exact hd.elim
  | some s =>
    rw [q] at hd
    cases s with
    | val d =>
      obtain ⟨v, h1, h2⟩ := C.val i d q
      exact ⟨v, h1, k v d F pa t H (Gr.refl _ _) C (.inl h2) hd⟩
    | no => exact hd.elim
    | own d =>
      obtain ⟨a, h, h1, h2, h3, _⟩ := C.own i d q
      exact ⟨.ref a, h1, k _ d F pa t H (Gr.refl _ _) C (.inr ⟨i, q, h1⟩) hd⟩
theorem q_c {v : V} {d : D} (h : PE X e (tC v)) (r : ∀ F pa, RelD X.K F pa d v) : QE X B e (dC d) := PE.imp h fun σ H Q ⟨F, pa, t, env, P, C, hd, k⟩ => k v d F pa t H (Gr.refl _ _) C (r F pa) hd
theorem q_int {i : Int} {j pos} : QE X B (.Constant (.int i) j pos) (dC (.int i)) := q_c pe_int fun _ _ => by unfold RelD; rfl
theorem q_bl {i : Bool} {j pos} : QE X B (.Constant (.bool i) j pos) (dC (.bl i)) := q_c pe_bl fun _ _ => by unfold RelD; rfl
theorem q_non {j pos} : QE X B (.Constant .none j pos) (dC .non) := q_c pe_non fun _ _ => by unfold RelD; rfl
theorem q_str {i : Str} {j pos} : QE X B (.Constant (.str i) j pos) (dC (.str i)) := q_c pe_str fun _ _ => by unfold RelD; rfl
/-! ### operators -/
def ROp (K : PySem.W.Frag) (r : R2) (o : DOp) : Prop := ∀ (B : Bs) F pa t env σ H x y v u P (Q : VK), Cf K B F pa t env σ H → RelX K F pa env σ x v → RelX K F pa env σ y u → o x y P →
  (∀ w d F' H', Gr F pa F' pa → Cf K B F' pa t env σ H' → RelD K F' pa d w → P d → Q w H') → r v u H Q
/-- an operation that gives a new object: the list itself -/
def RUn (K : PySem.W.Frag) (r : V → Hp → VK → Prop) (o : DU) : Prop := ∀ (B : Bs) F pa t env σ H x v P (Q : VK), Cf K B F pa t env σ H → RelX K F pa env σ x v → o x P →
  (∀ w d F' H', Gr F pa F' pa → Cf K B F' pa t env σ H' → RelD K F' pa d w → P d → Q w H') → r v H Q
theorem ev2 {r : R2} {o : DOp} (hr : ROp K r o) : ∀ σ H Q, teOf K B (dOp o da db) σ H Q → tOp r (tvOf K B da) (tvOf K B db) σ H Q := fun σ H Q ⟨F, pa, t, env, P, C, hd, k⟩ =>
  ⟨F, pa, t, env, _, C, hd, fun v x F1 pa1 t1 H1 g1 C1 r1 q1 => ⟨F1, pa1, t1, env, _, C1, q1, fun u y F2 pa2 t2 H2 g2 C2 r2 q2 =>
    hr B F2 pa2 t2 env σ H2 x y v u _ Q C2 (r1.mono g2) r2 q2 fun w d F' H' g3 C3 r3 q3 => k w d F' pa2 t2 H' ((g1.trans g2).trans g3) C3 r3 q3⟩⟩
theorem q_op {op : Operator} {r : R2} {o : DOp} (ho : OpR X (binaryOp op) r) (hr : ROp X.K r o) (ha : QV X B a da) (hb : QV X B b db) : QE X B (.BinOp a op b pos) (dOp o da db) := PE.imp (pe_op ho ha hb) (ev2 hr)
theorem q_un {op : UnaryOp} {r : V → Hp → VK → Prop} {o : DU} (ho : UnR X (unaryOp op) r) (hr : RUn X.K r o) (ha : QV X B a da) : QE X B (.UnaryOp op a pos) (dUn o da) := PE.imp (pe_un ho ha) fun σ H Q ⟨F, pa, t, env, P, C, hd, k⟩ =>
  ⟨F, pa, t, env, _, C, hd, fun v x F1 pa1 t1 H1 g1 C1 r1 q1 => hr B F1 pa1 t1 env σ H1 x v _ Q C1 r1 q1 fun w d F' H' g3 C3 r3 q3 => k w d F' pa1 t1 H' (g1.trans g3) C3 r3 q3⟩
theorem q_cmp {op : CmpOp} {r : R2} {o : DOp} (ho : OpR X (compareOp op) r) (hr : ROp X.K r o) (ha : QV X B a da) (hb : QV X B b db) (hm : behindInMarks op b = false) : QE X B (.Compare a [op] [b] pos) (dOp o da db) := PE.imp (pe_cmpR ho ha hb hm) (ev2 hr)
theorem q_tcmp {op : CmpOp} {r : R2} {o : DOp} (ho : OpR X (compareOp op) r) (hr : ROp X.K r o) (ha : QV X B a da) (hb : QV X B b db) (hm : behindInMarks op b = false) : QT X B (.Compare a [op] [b] pos) (dB (dOp o da db)) := PT.imp (pt_cmpR ho ha hb hm) fun σ H Q ⟨F, pa, t, env, P, C, hd, k⟩ => by
  refine ev2 hr σ H _ ⟨F, pa, t, env, _, C, hd, fun v d F' pa' t' H' g C' rd q => ?_⟩
  cases d with
  | bl b => unfold RelD at rd; exact ⟨b, rd, k b F' pa' t' H' g C' q⟩
  | _ => exact q.elim
/-! ### the operators' relations -/
theorem rD_int {F : Hp} {pa : Option Addr} (i : Int) : RelD K F pa (.int i) (.int i) := by unfold RelD; rfl
theorem rD_bl {F : Hp} {pa : Option Addr} (i : Bool) : RelD K F pa (.bl i) (.bl i) := by unfold RelD; rfl
theorem rD_str {F : Hp} {pa : Option Addr} (i : Str) : RelD K F pa (.str i) (.str i) := by unfold RelD; rfl
theorem rD_non {F : Hp} {pa : Option Addr} : RelD K F pa .non .non := by unfold RelD; rfl
theorem rop_int {C : Int → Int → Prop} {g : Int → Int → V} {f : Int → Int → D} {o : DOp} (hg : ∀ F pa i j, RelD K F pa (f i j) (g i j)) (ho : ∀ x y P, o x y P → ∃ i j, x = .int i ∧ y = .int j ∧ C i j ∧ P (f i j)) : ROp K (rI C g) o := fun B F pa t env σ H x y v u P Q W rx ry h k => by
  obtain ⟨i, j, rfl, rfl, hc, p⟩ := ho x y P h
  exact ⟨i, j, rx.int W, ry.int W, hc, k _ _ F H (Gr.refl _ _) W (hg F pa i j) p⟩
theorem rop_int0 {g : Int → Int → V} {f : Int → Int → D} {o : DOp} (hg : ∀ F pa i j, RelD K F pa (f i j) (g i j)) (ho : ∀ x y P, o x y P → ∃ i j, x = .int i ∧ y = .int j ∧ P (f i j)) : ROp K (rI0 g) o := fun B F pa t env σ H x y v u P Q W rx ry h k => by
  obtain ⟨i, j, rfl, rfl, p⟩ := ho x y P h
  exact ⟨i, j, rx.int W, ry.int W, k _ _ F H (Gr.refl _ _) W (hg F pa i j) p⟩
theorem rop_sub : ROp K (rI0 fun i j => .int (i - j)) oSub := rop_int0 (f := fun i j => .int (i - j)) (fun _ _ _ _ => rD_int _) fun x y P h => by
  cases x <;> cases y <;> first | exact ⟨_, _, rfl, rfl, h⟩ | exact (False.elim h)
theorem rop_lt : ROp K (rI0 fun i j => .bl (decide (i < j))) oLt := rop_int0 (f := fun i j => .bl (decide (i < j))) (fun _ _ _ _ => rD_bl _) fun x y P h => by
  cases x <;> cases y <;> first | exact ⟨_, _, rfl, rfl, h⟩ | exact (False.elim h)
theorem rop_le : ROp K (rI0 fun i j => .bl (decide (i ≤ j))) oLe := rop_int0 (f := fun i j => .bl (decide (i ≤ j))) (fun _ _ _ _ => rD_bl _) fun x y P h => by
  cases x <;> cases y <;> first | exact ⟨_, _, rfl, rfl, h⟩ | exact (False.elim h)
theorem rop_gt : ROp K (rI0 fun i j => .bl (decide (j < i))) oGt := rop_int0 (f := fun i j => .bl (decide (j < i))) (fun _ _ _ _ => rD_bl _) fun x y P h => by
  cases x <;> cases y <;> first | exact ⟨_, _, rfl, rfl, h⟩ | exact (False.elim h)
theorem rop_ge : ROp K (rI0 fun i j => .bl (decide (j ≤ i))) oGe := rop_int0 (f := fun i j => .bl (decide (j ≤ i))) (fun _ _ _ _ => rD_bl _) fun x y P h => by
  cases x <;> cases y <;> first | exact ⟨_, _, rfl, rfl, h⟩ | exact (False.elim h)
theorem rop_mod : ROp K (rI (fun _ j => 0 < j) fun i j => .int (i % j)) oMod := rop_int (f := fun i j => .int (i % j)) (fun _ _ _ _ => rD_int _) fun x y P h => by
  cases x <;> cases y <;> first | exact ⟨_, _, rfl, rfl, h.1, h.2⟩ | exact (False.elim h)
theorem rop_div : ROp K (rI CDivW fun i j => .int (i / j)) oDiv := rop_int (f := fun i j => .int (i / j)) (fun _ _ _ _ => rD_int _) fun x y P h => by
  cases x <;> cases y <;> first | exact ⟨_, _, rfl, rfl, wide_div h.1.1 h.1.2 (by decide) (by decide), h.2⟩ | exact (False.elim h)
theorem zle {n : Nat} (h : n ≤ zLen) : n ≤ sizeLine := by rw [sizeLine_eq]; unfold zLen at h; omega
theorem zlt {n : Nat} (h : n < zLen) : n < sizeLine := by rw [sizeLine_eq]; unfold zLen at h; omega
theorem few_of {l : List D} {p : Prop} (h : Few l p) : l.length ≤ sizeLine ∧ p := by
  unfold Few at h
  split at h
  · rename_i e
    exact ⟨by rw [sizeLine_eq]; have := Nat.le_of_ble_eq_true e; omega, h⟩
  · exact h.elim
/-- a new list | tuple, of what is there -/
theorem new_lst {F : Hp} {pa : Option Addr} {t : Ts} {env : En} {σ : L2.St} {H : Hp} {p : Addr} {l : List D} {vs : List V} (C : Cf K B F pa t env σ H) (h : H p = none) (r : RelL K F pa l vs) :
    ∃ F', Gr F pa F' pa ∧ Cf K B F' pa t env σ (upd H p (.lst vs)) ∧ RelD K F' pa (.lst l) (.ref p) := by
  obtain ⟨g, C'⟩ := C.alloc (.lst vs) h
  exact ⟨_, g, C', RelO1.rel (d := .lst l) ⟨vs, rfl, RelL.mono g l vs r⟩ upd_same⟩
theorem new_tup {F : Hp} {pa : Option Addr} {t : Ts} {env : En} {σ : L2.St} {H : Hp} {p : Addr} {l : List D} {vs : List V} (C : Cf K B F pa t env σ H) (h : H p = none) (r : RelL K F pa l vs) :
    ∃ F', Gr F pa F' pa ∧ Cf K B F' pa t env σ (upd H p (.tup vs)) ∧ RelD K F' pa (.tup l) (.ref p) := by
  obtain ⟨g, C'⟩ := C.alloc (.tup vs) h
  refine ⟨_, g, C', ?_⟩
  unfold RelD
  exact ⟨p, vs, rfl, upd_same, RelL.mono g l vs r⟩
def rAdd4 (K : PySem.W.Frag) : R2 := fun x y H Q => (rI0 (fun i j => .int (i + j)) x y H Q ∨ rCat x y H Q) ∨ (rCatT K x y H Q ∨ ∃ i j, x = .str i ∧ y = .str j ∧ i.length + j.length ≤ sizeLine ∧ Q (.str (i ++ j)) H)
theorem op_add4 : OpR X (binaryOp .Add) (rAdd4 X.K) := (op_add.or op_cat).or (op_catT.or op_add_str)
theorem rop_add : ROp K (rAdd4 K) oAdd := fun B F pa t env σ H x y v u P Q W rx ry h k => by
  cases x with
  | int i =>
    cases y with
    | int j => exact .inl (.inl ⟨i, j, rx.int W, ry.int W, k _ _ F H (Gr.refl _ _) W (rD_int _) h⟩)
    | _ => exact h.elim
  | str i =>
    cases y with
    | str j => exact .inr (.inr ⟨i, j, rx.str W, ry.str W, zle h.1, k _ _ F H (Gr.refl _ _) W (rD_str _) h.2⟩)
    | _ => exact h.elim
  | lst l =>
    cases y with
    | lst m =>
      obtain ⟨a, vs, rfl, e1, r1⟩ := rx.lst W
      obtain ⟨b, ws, rfl, e2, r2⟩ := ry.lst W
      refine .inl (.inr ⟨a, b, vs, ws, rfl, rfl, e1, e2, by rw [r1.len, r2.len]; exact zle h.1, fun p hp => ?_⟩)
      obtain ⟨F', g, C', rd⟩ := new_lst W hp (r1.append r2)
      exact k _ _ F' _ g C' rd h.2
    | _ => exact h.elim
  | tup l =>
    cases y with
    | tup m =>
      obtain ⟨a, vs, rfl, e1, _, r1⟩ := rx.tup W
      obtain ⟨b, ws, rfl, e2, _, r2⟩ := ry.tup W
      obtain ⟨⟨hz, hl, hm⟩, hp⟩ := h
      refine .inr (.inl ⟨a, b, vs, ws, rfl, rfl, SqT.of e1, SqT.of e2, ?_, by rw [r1.len, r2.len]; exact zle hz, ?_, fun _ p hp' => ?_⟩)
      · intro e; have := r1.len; rw [e] at this; exact hl (List.length_eq_zero_iff.mp this.symm)
      · intro e; have := r2.len; rw [e] at this; exact absurd (List.length_eq_zero_iff.mp this.symm) hm
      · obtain ⟨F', g, C', rd⟩ := new_tup W hp' (r1.append r2)
        exact k _ _ F' _ g C' rd hp
    | _ => exact h.elim
  | _ => exact h.elim
theorem sm_mul {i j : Int} (h : MulOk i j) : CMul i j ∨ CMulW i j := by
  rcases h with h | h | ⟨a, b, h1, h2, h3, h4, h5⟩
  · have h : i.natAbs < 2 ^ 64 := h
    exact .inl (.inl ⟨by omega, by omega⟩)
  · have h : j.natAbs < 2 ^ 64 := h
    exact .inl (.inr ⟨by omega, by omega⟩)
  · exact .inr (wide_mul h1 h2 h3 h4 h5)
def rMul3 : R2 := fun x y H Q => (rI CMul (fun i j => .int (i * j)) x y H Q ∨ rI CMulW (fun i j => .int (i * j)) x y H Q) ∨ rRep x y H Q
theorem op_mul3 : OpR X (binaryOp .Mult) rMul3 := (op_mul.or op_mulW).or op_rep
theorem rop_mul : ROp K rMul3 oMul := fun B F pa t env σ H x y v u P Q W rx ry h k => by
  cases x with
  | int i =>
    cases y with
    | int j =>
      rcases sm_mul h.1 with c | c
      · exact .inl (.inl ⟨i, j, rx.int W, ry.int W, c, k _ _ F H (Gr.refl _ _) W (rD_int _) h.2⟩)
      · exact .inl (.inr ⟨i, j, rx.int W, ry.int W, c, k _ _ F H (Gr.refl _ _) W (rD_int _) h.2⟩)
    | _ => exact h.elim
  | lst l =>
    cases y with
    | int j =>
      obtain ⟨a, vs, rfl, e1, r1⟩ := rx.lst W
      obtain ⟨⟨h1, h2, h3⟩, hp⟩ := h
      refine .inr ⟨a, j, vs, rfl, ry.int W, e1, by omega, by omega, by rw [r1.len]; exact zle h3, fun p hp' => ?_⟩
      obtain ⟨F', g, C', rd⟩ := new_lst W hp' (r1.rep j.toNat)
      exact k _ _ F' _ g C' rd hp
    | _ => exact h.elim
  | _ => exact h.elim
/-- ** of whole numbers -/
theorem sm_pow {i j : Int} (h : PowOk i j) : 0 ≤ j ∧ (Builtin.Int.intBits i : Int) * j ≤ 2 ^ 27 := by
  obtain ⟨h0, a, ha, hb⟩ := h
  refine ⟨h0, ?_⟩
  have hi : Builtin.Int.intBits i ≤ a ∨ i = 0 := by
    unfold Builtin.Int.intBits
    by_cases e : i = 0
    · exact .inr e
    · left
      split
      · omega
      · have ha' : i.natAbs < 2 ^ a := ha
        have : i.natAbs.log2 < a := (Nat.log2_lt (by omega)).mpr ha'
        omega
  rcases hi with hi | rfl
  · have h1 : (Builtin.Int.intBits i : Int) ≤ (a : Int) := by omega
    have := Int.mul_le_mul_of_nonneg_right h1 h0
    have : (2 : Int) ^ 27 = 134217728 := by decide
    omega
  · have : (Builtin.Int.intBits 0 : Int) ≤ 1 := by decide
    have hj : j ≤ 100000000 ∨ a = 0 := by
      by_cases e : a = 0
      · exact .inr e
      · left
        have h1 : (1 : Int) ≤ (a : Int) := by omega
        have := Int.mul_le_mul_of_nonneg_right h1 h0
        omega
    rcases hj with hj | rfl
    · have := Int.mul_le_mul_of_nonneg_right this h0
      have : (2 : Int) ^ 27 = 134217728 := by decide
      omega
    · have e0 : Builtin.Int.intBits 0 = 0 := by decide
      rw [e0]
      have : (2 : Int) ^ 27 = 134217728 := by decide
      omega
theorem op_powW : OpR X (binaryOp .Pow) (rI (fun i j => PowOk i j) fun i j => .int (i ^ j.toNat)) := opI fun _ _ _ _ _ _ _ hc q => pow_int (sm_pow hc).1 (sm_pow hc).2 q
theorem rop_pow : ROp K (rI (fun i j => PowOk i j) fun i j => .int (i ^ j.toNat)) oPow := rop_int (f := fun i j => .int (i ^ j.toNat)) (fun _ _ _ _ => rD_int _) fun x y P h => by
  cases x <;> cases y <;> first | exact ⟨_, _, rfl, rfl, h.1, h.2⟩ | exact (False.elim h)
theorem run_neg : RUn K (rU fun i => .int (-i)) oNeg := fun B F pa t env σ H x v P Q W rx h k => by
  cases x with
  | int i => exact ⟨i, rx.int W, k _ _ F H (Gr.refl _ _) W (rD_int _) h⟩
  | _ => exact h.elim
theorem rop_isN : ROp K (fun x y H Q => y = .non ∧ Q (.bl (decide (x = .non))) H) oIsN := fun B F pa t env σ H x y v u P Q W rx ry h k => by
  cases y with
  | non =>
    refine ⟨ry.non W, ?_⟩
    have e : decide (v = V.non) = isNon x := by
      cases x with
      | non => rw [rx.non W]; rfl
      | int i => rw [rx.int W]; rfl
      | bl i => rw [rx.bl W]; rfl
      | str i => rw [rx.str W]; rfl
      | lst l => obtain ⟨a, vs, rfl, _⟩ := rx.lst W; rfl
      | tup l => obtain ⟨a, vs, rfl, _⟩ := rx.tup W; rfl
      | dic ks l => obtain ⟨a, vs, rfl, _⟩ := rx.dic W; rfl
      | ins C ns l => obtain ⟨a, dx, vs, rfl, _⟩ := rx.ins W; rfl
      | scr ns => obtain ⟨a, rfl, _⟩ := rx.scr W; rfl
      | pen =>
        rcases rx with r | ⟨i, h1, h2⟩
        · unfold RelD at r; obtain ⟨a, _, rfl⟩ := r; rfl
        · obtain ⟨a, h, s1, q, z, _⟩ := W.own i _ h1; exact z.elim
      | ty n =>
        rcases rx with r | ⟨i, h1, h2⟩
        · unfold RelD at r; rw [r]; rfl
        · obtain ⟨a, h, s1, q, z, _⟩ := W.own i _ h1; exact z.elim
      | adr n =>
        rcases rx with r | ⟨i, h1, h2⟩
        · unfold RelD at r; rw [r]; rfl
        · obtain ⟨a, h, s1, q, z, _⟩ := W.own i _ h1; exact z.elim
      | rp n =>
        rcases rx with r | ⟨i, h1, h2⟩
        · unfold RelD at r; rw [r]; rfl
        · obtain ⟨a, h, s1, q, z, _⟩ := W.own i _ h1; exact z.elim
    rw [e]
    exact k _ _ F H (Gr.refl _ _) W (rD_bl _) h
  | _ => exact h.elim
theorem rop_notN : ROp K (fun x y H Q => y = .non ∧ Q (.bl (!decide (x = .non))) H) oNotN := fun B F pa t env σ H x y v u P Q W rx ry h k => by
  cases y with
  | non =>
    have := rop_isN (K := K) B F pa t env σ H x .non v u (fun d => match d with | .bl b => P (.bl (!b)) | _ => False) (fun w H' => match w with | .bl b => Q (.bl (!b)) H' | _ => False) W rx ry h fun w d F' H' g C r q => by
      cases d with
      | bl b => unfold RelD at r; subst r; exact k _ _ F' H' g C (rD_bl _) q
      | _ => exact q.elim
    exact this
  | _ => exact h.elim
/-! ### == as data -/
mutual
theorem eqv_toPy : ∀ (x y : D), plain x = true → plain y = true → PyData.eqv (toPy x) (toPy y) = deq x y
  | .lst l, .lst m, hx, hy => by
    simp only [toPy, PyData.eqv, deq]
    exact eqvs_toPy l m hx hy
  | .tup l, .tup m, hx, hy => by
    simp only [toPy, PyData.eqv, deq]
    exact eqvs_toPy l m hx hy
  | .non, y, hx, hy => by cases y <;> first | rfl | (simp [plain] at hy; done)
  | .bl b, y, hx, hy => by cases y <;> first | rfl | (simp [plain] at hy; done)
  | .int b, y, hx, hy => by cases y <;> first | rfl | (simp [plain] at hy; done)
  | .str b, y, hx, hy => by cases y <;> first | rfl | (simp [plain] at hy; done) | (simp [toPy, PyData.eqv, deq]; done)
  | .lst l, .non, _, _ => rfl
  | .lst l, .bl _, _, _ => rfl
  | .lst l, .int _, _, _ => rfl
  | .lst l, .str _, _, _ => rfl
  | .lst l, .tup _, _, _ => rfl
  | .lst l, .dic _ _, _, hy => by simp [plain] at hy
  | .lst l, .ins _ _ _, _, hy => by simp [plain] at hy
  | .lst l, .pen, _, hy => by simp [plain] at hy
  | .lst l, .ty _, _, hy => by simp [plain] at hy
  | .lst l, .adr _, _, hy => by simp [plain] at hy
  | .lst l, .rp _, _, hy => by simp [plain] at hy
  | .lst l, .scr _, _, hy => by simp [plain] at hy
  | .tup l, .non, _, _ => rfl
  | .tup l, .bl _, _, _ => rfl
  | .tup l, .int _, _, _ => rfl
  | .tup l, .str _, _, _ => rfl
  | .tup l, .lst _, _, _ => rfl
  | .tup l, .dic _ _, _, hy => by simp [plain] at hy
  | .tup l, .ins _ _ _, _, hy => by simp [plain] at hy
  | .tup l, .pen, _, hy => by simp [plain] at hy
  | .tup l, .ty _, _, hy => by simp [plain] at hy
  | .tup l, .adr _, _, hy => by simp [plain] at hy
  | .tup l, .rp _, _, hy => by simp [plain] at hy
  | .tup l, .scr _, _, hy => by simp [plain] at hy
  | .dic _ _, _, hx, _ => by simp [plain] at hx
  | .ins _ _ _, _, hx, _ => by simp [plain] at hx
  | .pen, _, hx, _ => by simp [plain] at hx
  | .ty _, _, hx, _ => by simp [plain] at hx
  | .adr _, _, hx, _ => by simp [plain] at hx
  | .rp _, _, hx, _ => by simp [plain] at hx
  | .scr _, _, hx, _ => by simp [plain] at hx
theorem eqvs_toPy : ∀ (x y : List D), plains x = true → plains y = true → PyData.eqvAll (toPys x) (toPys y) = deqs x y
  | [], [], _, _ => rfl
  | [], _ :: _, _, _ => rfl
  | _ :: _, [], _, _ => rfl
  | x :: l, y :: m, hx, hy => by
    simp only [plains, Bool.and_eq_true] at hx hy
    simp only [toPys, PyData.eqvAll, deqs]
    rw [eqv_toPy x y hx.1 hy.1, eqvs_toPy l m hx.2 hy.2]
end
mutual
theorem lay_toPy : ∀ x : D, plain x = true → (toPy x).canLay0 = true
  | .non, _ => rfl
  | .bl _, _ => rfl
  | .int _, _ => rfl
  | .str x, h => by
    have h : x.cps.all (· < 0x110000) = true := by simpa [plain] using h
    simpa [toPy, PyData.canLay0, PyData.strOk] using h
  | .lst l, h => by simp only [toPy, PyData.canLay0]; exact lays_toPy l (by simpa [plain] using h)
  | .tup l, h => by simp only [toPy, PyData.canLay0]; exact lays_toPy l (by simpa [plain] using h)
  | .dic _ _, h => by simp [plain] at h
  | .ins _ _ _, h => by simp [plain] at h
  | .pen, h => by simp [plain] at h
  | .ty _, h => by simp [plain] at h
  | .adr _, h => by simp [plain] at h
  | .rp _, h => by simp [plain] at h
  | .scr _, h => by simp [plain] at h
theorem lays_toPy : ∀ x : List D, plains x = true → PyData.canLayAll0 (toPys x) = true
  | [], _ => rfl
  | x :: l, h => by
    simp only [plains, Bool.and_eq_true] at h
    simp only [toPys, PyData.canLayAll0, Bool.and_eq_true]
    exact ⟨lay_toPy x h.1, lays_toPy l h.2⟩
end
mutual
theorem dep_toPy : ∀ x : D, plain x = true → (toPy x).depth = deep x
  | .non, _ => rfl
  | .bl _, _ => rfl
  | .int _, _ => rfl
  | .str x, h => rfl
  | .lst l, h => by simp only [toPy, PyData.depth, deep]; rw [deps_toPy l (by simpa [plain] using h)]
  | .tup l, h => by simp only [toPy, PyData.depth, deep]; rw [deps_toPy l (by simpa [plain] using h)]
  | .dic _ _, h => by simp [plain] at h
  | .ins _ _ _, h => by simp [plain] at h
  | .pen, h => by simp [plain] at h
  | .ty _, h => by simp [plain] at h
  | .adr _, h => by simp [plain] at h
  | .rp _, h => by simp [plain] at h
  | .scr _, h => by simp [plain] at h
theorem deps_toPy : ∀ x : List D, plains x = true → PyData.depthAll (toPys x) = deeps x
  | [], _ => rfl
  | x :: l, h => by
    simp only [plains, Bool.and_eq_true] at h
    simp only [toPys, PyData.depthAll, deeps]
    rw [dep_toPy x h.1, deps_toPy l h.2]
end
theorem shaped_toPy {x : D} (h : plain x = true) (d : deep x ≤ 60) : SeqAt.shaped (toPy x) = true := by
  unfold SeqAt.shaped
  rw [lay_toPy x h, dep_toPy x h, decide_eq_true (by omega)]
  rfl
mutual
theorem dp_of {F : Hp} {pa : Option Addr} {H : Hp} (g : ∀ a o, F a = some o → H a = some o) : ∀ (x : D) (v : V), RelD K F pa x v → plain x = true → Dp K H v (toPy x)
  | .non, v, r, _ => by unfold RelD at r; subst r; exact .non
  | .bl b, v, r, _ => by unfold RelD at r; subst r; exact .bl b
  | .int i, v, r, _ => by unfold RelD at r; subst r; exact .int i
  | .str x, v, r, _ => by unfold RelD at r; subst r; exact .str x
  | .lst l, v, r, h => by
    unfold RelD at r
    obtain ⟨a, vs, rfl, e, q⟩ := r
    exact .lst (SqL.of (g _ _ e)) (dps_of g l vs q (by simpa [plain] using h))
  | .tup l, v, r, h => by
    unfold RelD at r
    obtain ⟨a, vs, rfl, e, q⟩ := r
    exact .tup (SqT.of (g _ _ e)) (dps_of g l vs q (by simpa [plain] using h))
  | .dic _ _, _, _, h => by simp [plain] at h
  | .ins _ _ _, _, _, h => by simp [plain] at h
  | .pen, _, _, h => by simp [plain] at h
  | .ty _, _, _, h => by simp [plain] at h
  | .adr _, _, _, h => by simp [plain] at h
  | .rp _, _, _, h => by simp [plain] at h
  | .scr _, _, _, h => by simp [plain] at h
theorem dps_of {F : Hp} {pa : Option Addr} {H : Hp} (g : ∀ a o, F a = some o → H a = some o) : ∀ (x : List D) (vs : List V), RelL K F pa x vs → plains x = true → DpAll K H vs (toPys x)
  | [], vs, r, _ => by rw [r.inv0]; exact .nil
  | x :: l, vs, r, h => by
    obtain ⟨v, vr, rfl, r1, r2⟩ := r.inv
    simp only [plains, Bool.and_eq_true] at h
    exact .cons (dp_of g x v r1 h.1) (dps_of g l vr r2 h.2)
end
theorem dp_x {F : Hp} {pa : Option Addr} {t : Ts} {env : En} {σ : L2.St} {H : Hp} {x : D} {v : V} (W : Cf K B F pa t env σ H) (r : RelX K F pa env σ x v) (h : plain x = true) : Dp K H v (toPy x) := by
  rcases r with r | ⟨i, h1, h2⟩
  · exact dp_of W.sub x v r h
  · cases x with
    | lst l =>
      obtain ⟨a, vs, rfl, e, q⟩ := RelX.lst W (.inr ⟨i, h1, h2⟩)
      exact .lst (SqL.of e) (dps_of W.sub l vs q (by simpa [plain] using h))
    | dic _ _ => simp [plain] at h
    | ins _ _ _ => simp [plain] at h
    | _ => obtain ⟨a, hh, s1, q, z, _⟩ := W.own i _ h1; exact z.elim
theorem oEq_int {x y : D} {P : D → Prop} (h : oEq x y P) : (∃ i j, x = .int i ∧ y = .int j ∧ P (.bl (decide (i = j)))) ∨ ((plain x = true ∧ plain y = true ∧ deep x ≤ 60 ∧ deep y ≤ 60) ∧ P (.bl (deq x y))) := by
  unfold oEq at h
  split at h
  · exact .inl ⟨_, _, rfl, rfl, h⟩
  · exact .inr h
theorem oNe_int {x y : D} {P : D → Prop} (h : oNe x y P) : (∃ i j, x = .int i ∧ y = .int j ∧ P (.bl (!decide (i = j)))) ∨ ((plain x = true ∧ plain y = true ∧ deep x ≤ 60 ∧ deep y ≤ 60) ∧ P (.bl (!deq x y))) := by
  unfold oNe at h
  split at h
  · exact .inl ⟨_, _, rfl, rfl, h⟩
  · exact .inr h
theorem rop_eq : ROp K (rEqD K) oEq := fun B F pa t env σ H x y v u P Q W rx ry h k => by
  rcases oEq_int h with ⟨i, j, rfl, rfl, p⟩ | ⟨⟨h1, h2, h3, h4⟩, p⟩
  · refine ⟨.int i, .int j, by rw [rx.int W]; exact .int i, by rw [ry.int W]; exact .int j, rfl, rfl, ?_⟩
    refine k _ (.bl (decide (i = j))) F H (Gr.refl _ _) W ?_ p
    rw [show PyData.eqv (.int i) (.int j) = decide (i = j) by simp [PyData.eqv, Bool.beq_eq_decide_eq]]
    exact rD_bl _
  · refine ⟨toPy x, toPy y, dp_x W rx h1, dp_x W ry h2, shaped_toPy h1 h3, shaped_toPy h2 h4, ?_⟩
    rw [eqv_toPy x y h1 h2]
    exact k _ _ F H (Gr.refl _ _) W (rD_bl _) p
theorem rop_ne : ROp K (rNeD K) oNe := fun B F pa t env σ H x y v u P Q W rx ry h k => by
  rcases oNe_int h with ⟨i, j, rfl, rfl, p⟩ | ⟨⟨h1, h2, h3, h4⟩, p⟩
  · refine ⟨.int i, .int j, by rw [rx.int W]; exact .int i, by rw [ry.int W]; exact .int j, rfl, rfl, ?_⟩
    refine k _ (.bl (!decide (i = j))) F H (Gr.refl _ _) W ?_ p
    rw [show PyData.eqv (.int i) (.int j) = decide (i = j) by simp [PyData.eqv, Bool.beq_eq_decide_eq]]
    exact rD_bl _
  · refine ⟨toPy x, toPy y, dp_x W rx h1, dp_x W ry h2, shaped_toPy h1 h3, shaped_toPy h2 h4, ?_⟩
    rw [eqv_toPy x y h1 h2]
    exact k _ _ F H (Gr.refl _ _) W (rD_bl _) p
/-! ### an item by its place -/
theorem atI_rel {F : Hp} {pa : Option Addr} {l : List D} {vs : List V} {i : Int} {d : D} (r : RelL K F pa l vs) (h : Q.atI l i = some d) : ∃ v, L2.atI vs i = some v ∧ RelD K F pa d v := by
  unfold Q.atI at h
  unfold L2.atI L2.ixN
  rw [r.len]
  split at h
  · rename_i h0
    split at h
    · rename_i h1
      obtain ⟨v, q, z⟩ := r.get h
      refine ⟨v, ?_, z⟩
      rw [if_pos h0, if_pos h1]
      exact q
    · cases h
  · rename_i h0
    split at h
    · rename_i h1
      obtain ⟨v, q, z⟩ := r.get h
      refine ⟨v, ?_, z⟩
      rw [if_neg h0, if_pos h1]
      exact q
    · cases h
theorem rop_ix : ROp K (rIx K) oIx := fun B F pa t env σ H x y v u P Q W rx ry h k => by
  cases x with
  | lst l =>
    cases y with
    | int i =>
      obtain ⟨d, hd, p⟩ := h
      obtain ⟨a, vs, rfl, e1, r1⟩ := rx.lst W
      obtain ⟨w, hw, rw'⟩ := atI_rel r1 hd
      exact .inl ⟨a, vs, i, w, rfl, ry.int W, SqL.of e1, hw, k _ _ F H (Gr.refl _ _) W rw' p⟩
    | _ => exact h.elim
  | tup l =>
    cases y with
    | int i =>
      obtain ⟨d, hd, p⟩ := h
      obtain ⟨a, vs, rfl, e1, _, r1⟩ := rx.tup W
      obtain ⟨w, hw, rw'⟩ := atI_rel r1 hd
      exact .inr (.inl ⟨a, vs, i, w, rfl, ry.int W, SqT.of e1, hw, k _ _ F H (Gr.refl _ _) W rw' p⟩)
    | _ => exact h.elim
  | _ => exact h.elim
theorem q_ix (ha : QV X B a da) (hb : QV X B b db) (hs : PlainIx b) : QE X B (.Subscript a b pos) (dOp oIx da db) := PE.imp (pe_ix ix_seq ha hb hs) (ev2 rop_ix)
end
end Q
/-! QH3 -/
namespace Q
open PySem L2 PyProof.Rows
section
variable {X : Cx} {B : Bs} {K : PySem.W.Frag} {a b c e : Expr} {es : List Expr} {pos : Pos} {da db dc : DE} {as : DA}
/-! ### arguments -/
theorem q_anil : QA X B [] dNil := PA.imp pa_nil fun σ H Q ⟨F, pa, t, env, P, C, hd, k⟩ => k [] [] F pa t H (Gr.refl _ _) C RelL.nil hd
theorem q_acons {r : DA} (ha : QE X B e da) (hr : QA X B es r) (hs : starEach (e :: es) X.env = (false, eval e X.env) :: starEach es X.env := by rfl) : QA X B (e :: es) (dCons da r) := PA.imp (pa_cons ha hr hs) fun σ H Q ⟨F, pa, t, env, P, C, hd, k⟩ =>
  ⟨F, pa, t, env, _, C, hd, fun v d F1 pa1 t1 H1 g1 C1 r1 q1 => ⟨F1, pa1, t1, env, _, C1, q1, fun vs ds F2 pa2 t2 H2 g2 C2 r2 q2 => k _ _ F2 pa2 t2 H2 (g1.trans g2) C2 (.cons (RelD.mono g2 d v r1) r2) q2⟩⟩
theorem q_xnil : QX X B [] dNil := PA.imp pa_nil fun σ H Q ⟨F, pa, t, env, P, C, hd, k⟩ => k [] [] F pa t H (Gr.refl _ _) C .nil hd
theorem q_xcons {r : DA} (ha : QV X B e da) (hr : QX X B es r) (hs : starEach (e :: es) X.env = (false, eval e X.env) :: starEach es X.env := by rfl) : QX X B (e :: es) (dCons da r) := PA.imp (pa_cons ha hr hs) fun σ H Q ⟨F, pa, t, env, P, C, hd, k⟩ =>
  ⟨F, pa, t, env, _, C, hd, fun v d F1 pa1 t1 H1 g1 C1 r1 q1 => ⟨F1, pa1, t1, env, _, C1, q1, fun vs ds F2 pa2 t2 H2 g2 C2 r2 q2 => k _ _ F2 pa2 t2 H2 (g1.trans g2) C2 (.cons (r1.mono g2) r2) q2⟩⟩
theorem q_lst (h : QA X B es as) : QN X B (.List es pos) (dLst as) := PE.imp (pe_lst h) fun σ H Q ⟨F, pa, t, env, P, C, hd, k⟩ => ⟨F, pa, t, env, _, C, hd, fun vs ds F' pa' t' H' g C' r q => by
  obtain ⟨hl, q⟩ := few_of q
  refine ⟨by rw [r.len]; exact hl, fun p hp => ?_⟩
  exact k p _ (.lst ds) F' pa' t' _ g (C'.loose _ hp) (C'.nw hp) upd_same ⟨vs, rfl, r⟩ q⟩
theorem q_tup {x1} (h : QA X B es as) : QE X B (.Tuple es x1 pos) (dTup as) := PE.imp (pe_tup h) fun σ H Q ⟨F, pa, t, env, P, C, hd, k⟩ => ⟨F, pa, t, env, _, C, hd, fun vs ds F' pa' t' H' g C' r q => by
  obtain ⟨hl, q⟩ := few_of q
  refine ⟨by rw [r.len]; exact hl, fun p hp => ?_⟩
  obtain ⟨F2, g2, C2, rd⟩ := new_tup C' hp r
  exact k _ _ F2 pa' t' _ (g.trans g2) C2 rd q⟩
/-! ### built-in functions -/
def RCall (K : PySem.W.Frag) (r : List V → Hp → VK → Prop) (o : DB) : Prop := ∀ (B : Bs) F pa t env σ H xs vs P (Q : VK), Cf K B F pa t env σ H → RelXs K F pa env σ xs vs → o xs P →
  (∀ w d F' H', Gr F pa F' pa → Cf K B F' pa t env σ H' → RelD K F' pa d w → P d → Q w H') → r vs H Q
/-- a new list comes -/
def RCallN (K : PySem.W.Frag) (r : List V → Hp → VK → Prop) (o : DB) : Prop := ∀ (B : Bs) F pa t env σ H xs vs P (Q : VK), Cf K B F pa t env σ H → RelXs K F pa env σ xs vs → o xs P →
  (∀ p h d F' H', Gr F pa F' pa → Cf K B F' pa t env σ H' → Nw B F' pa t env σ p → H' p = some h → RelO1 K F' pa d h → P d → Q (.ref p) H') → r vs H Q
theorem ev_cb {r : List V → Hp → VK → Prop} {o : DB} (hr : RCall K r o) : ∀ σ H Q, teOf K B (dCB o as) σ H Q → tCB r (txOf K B as) σ H Q := fun σ H Q ⟨F, pa, t, env, P, C, hd, k⟩ =>
  ⟨F, pa, t, env, _, C, hd, fun vs ds F1 pa1 t1 H1 g1 C1 r1 q1 => hr B F1 pa1 t1 env σ H1 ds vs _ Q C1 r1 q1 fun w d F' H' g3 C3 r3 q3 => k w d F' pa1 t1 H' (g1.trans g3) C3 r3 q3⟩
theorem ev_cbN {r : List V → Hp → VK → Prop} {o : DB} (hr : RCallN K r o) : ∀ σ H Q, tnOf K B (dCB o as) σ H Q → tCB r (txOf K B as) σ H Q := fun σ H Q ⟨F, pa, t, env, P, C, hd, k⟩ =>
  ⟨F, pa, t, env, _, C, hd, fun vs ds F1 pa1 t1 H1 g1 C1 r1 q1 => hr B F1 pa1 t1 env σ H1 ds vs _ Q C1 r1 q1 fun p h d F' H' g3 C3 n3 e3 r3 q3 => k p h d F' pa1 t1 H' (g1.trans g3) C3 n3 e3 r3 q3⟩
section
variable {x : Str} {p : Pos} {id T : String} {r : List V → Hp → VK → Prop} {o : DB}
theorem q_callB (hc : CallR X (.builtin id) r) (hr : RCall X.K r o) (hg : Gl X x) (hm : X.mg x = none) (hv : bootBuiltins x = some (.builtin id)) (ha : QX X B (e :: es) as) (hn : x ≠ "__name__" := by decide) (hdb : (x == ("__debug__" : Str)) = false := by decide)
    (he : starEach (e :: es) X.env = (false, eval e X.env) :: starEach es X.env := by rfl) (hpl : (backTo pos (starEach es X.env)).any (·.1) = false := by rfl) : QE X B (.Call (.Name x p) (e :: es) [] pos) (dCB o as) := PE.imp (pe_callB hc hg hm hv ha hn hdb he hpl) (ev_cb hr)
theorem q_callTy (hc : CallR X (.type T) r) (hr : RCall X.K r o) (hg : Gl X x) (hm : X.mg x = none) (hv : bootBuiltins x = some (.type T)) (ha : QX X B (e :: es) as) (hn : x ≠ "__name__" := by decide) (hdb : (x == ("__debug__" : Str)) = false := by decide)
    (he : starEach (e :: es) X.env = (false, eval e X.env) :: starEach es X.env := by rfl) (hpl : (backTo pos (starEach es X.env)).any (·.1) = false := by rfl) : QE X B (.Call (.Name x p) (e :: es) [] pos) (dCB o as) := PE.imp (pe_callTy hc hg hm hv ha hn hdb he hpl) (ev_cb hr)
theorem q_callTyN (hc : CallR X (.type T) r) (hr : RCallN X.K r o) (hg : Gl X x) (hm : X.mg x = none) (hv : bootBuiltins x = some (.type T)) (ha : QX X B (e :: es) as) (hn : x ≠ "__name__" := by decide) (hdb : (x == ("__debug__" : Str)) = false := by decide)
    (he : starEach (e :: es) X.env = (false, eval e X.env) :: starEach es X.env := by rfl) (hpl : (backTo pos (starEach es X.env)).any (·.1) = false := by rfl) : QN X B (.Call (.Name x p) (e :: es) [] pos) (dCB o as) := PE.imp (pe_callTy hc hg hm hv ha hn hdb he hpl) (ev_cbN hr)
end
theorem RelXs.one {F : Hp} {pa : Option Addr} {env : En} {σ : L2.St} {d : D} {vs : List V} (r : RelXs K F pa env σ [d] vs) : ∃ v, vs = [v] ∧ RelX K F pa env σ d v := by
  cases r with
  | cons h q => cases q; exact ⟨_, rfl, h⟩
theorem RelXs.two {F : Hp} {pa : Option Addr} {env : En} {σ : L2.St} {d d' : D} {vs : List V} (r : RelXs K F pa env σ [d, d'] vs) : ∃ v v', vs = [v, v'] ∧ RelX K F pa env σ d v ∧ RelX K F pa env σ d' v' := by
  cases r with
  | cons h q => cases q with
    | cons h' q => cases q; exact ⟨_, _, rfl, h, h'⟩
def rLen3 (K : PySem.W.Frag) : List V → Hp → VK → Prop := fun xs H Q => (∃ p ys, xs = [.ref p] ∧ (SqL K H p ys ∨ SqT K H p ys) ∧ Q (.int ys.length) H) ∨ ∃ z, xs = [.str z] ∧ z.length ≤ sizeLine ∧ Q (.int z.length) H
theorem call_len3 : CallR X (.builtin "len") (rLen3 X.K) := call_len_seq.or call_len_str
theorem rc_len : RCall K (rLen3 K) bLen := fun B F pa t env σ H xs vs P Q W r h k => by
  unfold bLen at h
  split at h
  · obtain ⟨v, rfl, r1⟩ := r.one
    obtain ⟨a, us, rfl, e, q⟩ := r1.lst W
    exact .inl ⟨a, us, rfl, .inl (SqL.of e), k _ _ F H (Gr.refl _ _) W (by rw [q.len]; exact rD_int _) h⟩
  · obtain ⟨v, rfl, r1⟩ := r.one
    obtain ⟨a, us, rfl, e, _, q⟩ := r1.tup W
    exact .inl ⟨a, us, rfl, .inr (SqT.of e), k _ _ F H (Gr.refl _ _) W (by rw [q.len]; exact rD_int _) h⟩
  · obtain ⟨v, rfl, r1⟩ := r.one
    obtain ⟨a, rfl, q⟩ := r1.scr W
    exact .inl ⟨a, _, rfl, .inl q, k _ _ F H (Gr.refl _ _) W (by rw [List.length_map]; exact rD_int _) h⟩
  · obtain ⟨v, rfl, r1⟩ := r.one
    exact .inr ⟨_, by rw [r1.str W], zle h.1, k _ _ F H (Gr.refl _ _) W (rD_int _) h.2⟩
  · exact h.elim
def rAbs : List V → Hp → VK → Prop := fun xs H Q => ∃ i, xs = [.int i] ∧ Q (.int (if i < 0 then -i else i)) H
theorem rc_abs : RCall K rAbs bAbs := fun B F pa t env σ H xs vs P Q W r h k => by
  unfold bAbs at h
  split at h
  · obtain ⟨v, rfl, r1⟩ := r.one
    exact ⟨_, by rw [r1.int W], k _ _ F H (Gr.refl _ _) W (rD_int _) h⟩
  · exact h.elim
def rMax2 (K : PySem.W.Frag) : List V → Hp → VK → Prop := fun xs H Q => (∃ i j, xs = [.int i, .int j] ∧ Q (.int (if j > i then j else i)) H) ∨ rMax K xs H Q
theorem call_max3 (hc : X.calm = true) : CallR X (.builtin "max") (rMax2 X.K) := (call_max2 hc).or (cr_max hc)
theorem rc_max : RCall K (rMax2 K) bMax := fun B F pa t env σ H xs vs P Q W r h k => by
  unfold bMax at h
  split at h
  · obtain ⟨v, v', rfl, r1, r2⟩ := r.two
    exact .inl ⟨_, _, by rw [r1.int W, r2.int W], k _ _ F H (Gr.refl _ _) W (rD_int _) h⟩
  · obtain ⟨v, rfl, r1⟩ := r.one
    obtain ⟨ns, hn, h0, hp⟩ := h
    obtain ⟨a, us, rfl, e, q⟩ := r1.lst W
    rw [q.intsD hn] at e
    exact .inr ⟨a, ns, rfl, SqL.of e, h0, fun m h1 h2 => k _ _ F H (Gr.refl _ _) W (rD_int _) (hp m h1 h2)⟩
  · exact h.elim
def rMin2 (K : PySem.W.Frag) : List V → Hp → VK → Prop := fun xs H Q => (∃ i j, xs = [.int i, .int j] ∧ Q (.int (if j < i then j else i)) H) ∨ rMin K xs H Q
theorem call_min3 (hc : X.calm = true) : CallR X (.builtin "min") (rMin2 X.K) := (call_min2 hc).or (cr_min hc)
theorem rc_min : RCall K (rMin2 K) bMin := fun B F pa t env σ H xs vs P Q W r h k => by
  unfold bMin at h
  split at h
  · obtain ⟨v, v', rfl, r1, r2⟩ := r.two
    exact .inl ⟨_, _, by rw [r1.int W, r2.int W], k _ _ F H (Gr.refl _ _) W (rD_int _) h⟩
  · obtain ⟨v, rfl, r1⟩ := r.one
    obtain ⟨ns, hn, h0, hp⟩ := h
    obtain ⟨a, us, rfl, e, q⟩ := r1.lst W
    rw [q.intsD hn] at e
    exact .inr ⟨a, ns, rfl, SqL.of e, h0, fun m h1 h2 => k _ _ F H (Gr.refl _ _) W (rD_int _) (hp m h1 h2)⟩
  · exact h.elim
theorem rc_all : RCall K (rAll K) bAll := fun B F pa t env σ H xs vs P Q W r h k => by
  unfold bAll at h
  split at h
  · obtain ⟨v, rfl, r1⟩ := r.one
    obtain ⟨ns, hn, hp⟩ := h
    obtain ⟨a, us, rfl, e, q⟩ := r1.lst W
    rw [q.bls hn] at e
    exact ⟨a, ns, rfl, SqL.of e, k _ _ F H (Gr.refl _ _) W (rD_bl _) hp⟩
  · exact h.elim
def rListOf (K : PySem.W.Frag) : List V → Hp → VK → Prop := fun xs H Q => ∃ p ys, xs = [.ref p] ∧ (SqL K H p ys ∨ SqT K H p ys) ∧ ∀ l, H l = none → Q (.ref l) (upd H l (.lst ys))
theorem rc_list : RCallN K (rListOf K) bList := fun B F pa t env σ H xs vs P Q W r h k => by
  unfold bList at h
  split at h
  · obtain ⟨v, rfl, r1⟩ := r.one
    obtain ⟨a, us, rfl, e, q⟩ := r1.lst W
    exact ⟨a, us, rfl, .inl (SqL.of e), fun p hp => k p _ (.lst _) F _ (Gr.refl _ _) (W.loose _ hp) (W.nw hp) upd_same ⟨us, rfl, q⟩ h⟩
  · obtain ⟨v, rfl, r1⟩ := r.one
    obtain ⟨a, us, rfl, e, _, q⟩ := r1.tup W
    exact ⟨a, us, rfl, .inr (SqT.of e), fun p hp => k p _ (.lst _) F _ (Gr.refl _ _) (W.loose _ hp) (W.nw hp) upd_same ⟨us, rfl, q⟩ h⟩
  · exact h.elim
/-! ### slices -/
theorem q_onone : QO X B none dNoPart := PO.imp po_none fun σ H Q ⟨F, pa, t, env, P, C, hd, k⟩ => k none F pa t H (Gr.refl _ _) C hd
theorem q_osome (h : QV X B e da) : QO X B (some e) (dPart da) := PO.imp (po_some h) fun σ H Q ⟨F, pa, t, env, P, C, hd, k⟩ => ⟨F, pa, t, env, _, C, hd, fun v d F' pa' t' H' g C' r q => by
  cases d with
  | int i =>
    have q : P (some i) t' := q
    exact ⟨i, r.int C', k _ F' pa' t' H' g C' q⟩
  | _ => exact q.elim⟩
theorem sIx_eq (n d : Nat) : ∀ o : Option Int, HT.sIx n d o = Q.sIx n d o
  | none => rfl
  | some i => by simp only [HT.sIx, Q.sIx]; split <;> first | rfl | (congr 1; omega)
theorem cut_rel {F : Hp} {pa : Option Addr} {l : List D} {vs : List V} (r : RelL K F pa l vs) (lo hi : Option Int) : RelL K F pa (cutD l lo hi) (cutV vs lo hi) := by
  unfold cutD cutV
  rw [r.len, sIx_eq, sIx_eq]
  exact (r.drop _).take _
def rSl2 (K : PySem.W.Frag) : V → Option Int → Option Int → Hp → VK → Prop := fun x l h H Q => rSlL K x l h H Q ∨ rSlT K x l h H Q
theorem sl2 : SlR X (rSl2 X.K) := sl_list.or sl_tup
theorem q_slice {lo hi : Option Expr} {dl dh : DO} {p2 : Pos} (ha : QV X B a da) (hl : QO X B lo dl) (hh : QO X B hi dh) : QE X B (.Subscript a (.Slice lo hi none p2) pos) (dSlice da dl dh) := PE.imp (pe_slice sl2 ha hl hh) fun σ H Q ⟨F, pa, t, env, P, C, hd, k⟩ =>
  ⟨F, pa, t, env, _, C, hd, fun v x F1 pa1 t1 H1 g1 C1 r1 q1 => ⟨F1, pa1, t1, env, _, C1, q1, fun l F2 pa2 t2 H2 g2 C2 q2 => ⟨F2, pa2, t2, env, _, C2, q2, fun h F3 pa3 t3 H3 g3 C3 q3 => by
    have r3 := (r1.mono g2).mono g3
    cases x with
    | lst xs =>
      obtain ⟨a, us, rfl, e, q⟩ := r3.lst C3
      refine .inl ⟨a, us, rfl, SqL.of e, fun p hp => ?_⟩
      obtain ⟨F', g, C', rd⟩ := new_lst C3 hp (cut_rel q l h)
      exact k _ _ F' _ _ _ (((g1.trans g2).trans g3).trans g) C' rd q3
    | tup xs =>
      obtain ⟨a, us, rfl, e, f, q⟩ := r3.tup C3
      obtain ⟨hz, q3⟩ := q3
      have rr := cut_rel q l h
      refine .inr ⟨a, us, rfl, SqT.of e, ?_, fun p hp => ?_⟩
      · rw [q.len, sIx_eq, sIx_eq]
        rintro ⟨z1, z2⟩
        unfold cutD at hz
        rw [z1, z2] at hz
        simp at hz
      · obtain ⟨F', g, C', rd⟩ := new_tup C3 hp rr
        exact k _ _ F' _ _ _ (((g1.trans g2).trans g3).trans g) C' rd q3
    | scr ns =>
      obtain ⟨a, rfl, q⟩ := r3.scr C3
      refine .inl ⟨a, _, rfl, q, fun p hp => ?_⟩
      obtain ⟨F', g, C', rd⟩ := new_lst C3 hp (cut_rel (RelL.of_ints ns) l h)
      exact k _ _ F' _ _ _ (((g1.trans g2).trans g3).trans g) C' rd q3
    | _ => exact q3.elim⟩⟩⟩
/-! ### tests -/
theorem q_tval (h : QE X B e da) (he : ∀ whole, isTrue e X.env whole = (do let v ← whole; standAt e.pos; holding [v] (truthy v)) := by intro _; rfl) : QT X B e (dB da) := PT.imp (pt_val h he) fun σ H Q ⟨F, pa, t, env, P, C, hd, k⟩ => ⟨F, pa, t, env, _, C, hd, fun v d F' pa' t' H' g C' r q => by
  cases d with
  | bl b => unfold RelD at r; exact ⟨b, r, k b F' pa' t' H' g C' q⟩
  | _ => exact q.elim⟩
variable {ta tb : DT} {rest : List Expr}
theorem q_and1 (ha : QT X B a ta) : QW X B (.BoolOp .And [a] pos) ta := pw_and1 ha
theorem q_or1 (ha : QT X B a ta) : QW X B (.BoolOp .Or [a] pos) ta := pw_or1 ha
theorem q_and (ha : QT X B a ta) (hb : QW X B (.BoolOp .And (b :: rest) pos) tb) : QW X B (.BoolOp .And (a :: b :: rest) pos) (dAnd ta tb) := PW.imp (pw_and ha hb) fun σ H Q ⟨F, pa, t, env, P, C, hd, k⟩ =>
  ⟨F, pa, t, env, _, C, hd, fun b F' pa' t' H' g C' q => by
    cases b with
    | true => rw [if_pos rfl]; exact ⟨F', pa', t', env, _, C', q, fun c F2 pa2 t2 H2 g2 C2 q2 => k c F2 pa2 t2 H2 (g.trans g2) C2 q2⟩
    | false => rw [if_neg Bool.false_ne_true]; exact k false F' pa' t' H' g C' q⟩
theorem q_or (ha : QT X B a ta) (hb : QW X B (.BoolOp .Or (b :: rest) pos) tb) : QW X B (.BoolOp .Or (a :: b :: rest) pos) (dOr ta tb) := PW.imp (pw_or ha hb) fun σ H Q ⟨F, pa, t, env, P, C, hd, k⟩ =>
  ⟨F, pa, t, env, _, C, hd, fun b F' pa' t' H' g C' q => by
    cases b with
    | false => rw [if_neg Bool.false_ne_true]; exact ⟨F', pa', t', env, _, C', q, fun c F2 pa2 t2 H2 g2 C2 q2 => k c F2 pa2 t2 H2 (g.trans g2) C2 q2⟩
    | true => rw [if_pos rfl]; exact k true F' pa' t' H' g C' q⟩
theorem q_not (ha : QT X B a ta) : QT X B (.UnaryOp .Not a pos) (dNot ta) := PT.imp (pt_not ha) fun σ H Q ⟨F, pa, t, env, P, C, hd, k⟩ =>
  ⟨F, pa, t, env, _, C, hd, fun b F' pa' t' H' g C' q => k (!b) F' pa' t' H' g C' q⟩
theorem q_ifE (hc : QT X B c ta) (ha : QE X B a da) (hb : QE X B b db) : QE X B (.IfExp c a b pos) (dIfE ta da db) := PE.imp (pe_ifExp hc ha hb) fun σ H Q ⟨F, pa, t, env, P, C, hd, k⟩ =>
  ⟨F, pa, t, env, _, C, hd, fun b F' pa' t' H' g C' q => by
    cases b with
    | true => rw [if_pos rfl]; exact ⟨F', pa', t', env, P, C', q, fun w d F2 pa2 t2 H2 g2 C2 r2 q2 => k w d F2 pa2 t2 H2 (g.trans g2) C2 r2 q2⟩
    | false => rw [if_neg Bool.false_ne_true]; exact ⟨F', pa', t', env, P, C', q, fun w d F2 pa2 t2 H2 g2 C2 r2 q2 => k w d F2 pa2 t2 H2 (g.trans g2) C2 r2 q2⟩⟩
theorem q_one {op} (h : QE X B a da) : QE X B (.BoolOp op [a] pos) da := pe_one h
theorem q_andV (ha : QE X B a da) (hb : QE X B (.BoolOp .And (b :: rest) pos) db) : QE X B (.BoolOp .And (a :: b :: rest) pos) (dAndV da db) := PE.imp (pe_and ha hb) fun σ H Q ⟨F, pa, t, env, P, C, hd, k⟩ =>
  ⟨F, pa, t, env, _, C, hd, fun v d F' pa' t' H' g C' r q => by
    cases d with
    | bl b =>
      unfold RelD at r
      refine ⟨b, r, ?_⟩
      cases b with
      | true => rw [if_pos rfl]; exact ⟨F', pa', t', env, P, C', q, fun w d F2 pa2 t2 H2 g2 C2 r2 q2 => k w d F2 pa2 t2 H2 (g.trans g2) C2 r2 q2⟩
      | false => rw [if_neg Bool.false_ne_true]; exact k _ _ F' pa' t' H' g C' (rD_bl _) q
    | _ => exact q.elim⟩
theorem q_notV (ha : QE X B a da) : QE X B (.UnaryOp .Not a pos) (dNotV da) := PE.imp (pe_not ha) fun σ H Q ⟨F, pa, t, env, P, C, hd, k⟩ =>
  ⟨F, pa, t, env, _, C, hd, fun v d F' pa' t' H' g C' r q => by
    cases d with
    | bl b =>
      unfold RelD at r
      exact ⟨b, r, k _ _ F' pa' t' H' g C' (rD_bl _) q⟩
    | _ => exact q.elim⟩
end
end Q
/-! QH4 -/
namespace Q
open PySem L2 PyProof.Rows
section
variable {X : Cx} {B : Bs} {K : PySem.W.Frag} {a b c e : Expr} {es : List Expr} {pos : Pos} {da db dc : DE} {as : DA}
/-- two comparisons -/
theorem ev_chain {r r' : R2} {o o' : DOp} (hr : ROp K r o) (hr' : ROp K r' o') : ∀ σ H Q, teOf K B (dChain o o' da db dc) σ H Q → tChain r r' (tvOf K B da) (tvOf K B db) (tvOf K B dc) σ H Q := fun σ H Q ⟨F, pa, t, env, P, C, hd, k⟩ =>
  ⟨F, pa, t, env, _, C, hd, fun v x F1 pa1 t1 H1 g1 C1 r1 q1 => ⟨F1, pa1, t1, env, _, C1, q1, fun u y F2 pa2 t2 H2 g2 C2 r2 q2 =>
    hr B F2 pa2 t2 env σ H2 x y v u _ _ C2 (r1.mono g2) r2 q2 fun z d F3 H3 g3 C3 r3 q3 => by
      cases d with
      | bl k' =>
        unfold RelD at r3
        refine ⟨k', r3, ?_⟩
        cases k' with
        | true =>
          rw [if_pos rfl]
          exact ⟨F3, pa2, t2, env, _, C3, q3, fun w dw F4 pa4 t4 H4 g4 C4 r4 q4 => hr' B F4 pa4 t4 env σ H4 y dw u w _ Q C4 ((r2.mono g3).mono g4) r4 q4 fun w d F' H' g5 C5 r5 q5 =>
            k w d F' pa4 t4 H' ((((g1.trans g2).trans g3).trans g4).trans g5) C5 r5 q5⟩
        | false =>
          rw [if_neg Bool.false_ne_true]
          exact k _ _ F3 pa2 t2 H3 ((g1.trans g2).trans g3) C3 (rD_bl _) q3
      | _ => exact q3.elim⟩⟩
theorem q_chain {op op' : CmpOp} {r r' : R2} {o o' : DOp} (ho : OpR X (compareOp op) r) (hr : ROp X.K r o) (ho' : OpR X (compareOp op') r') (hr' : ROp X.K r' o') (ha : QV X B a da) (hb : QV X B b db) (hc : QV X B c dc)
    (hm : lastMarks [op, op'] [b, c] = false := by with_unfolding_all rfl) : QE X B (.Compare a [op, op'] [b, c] pos) (dChain o o' da db dc) := PE.imp (pe_chain ho ho' ha hb hc hm) (ev_chain hr hr')
theorem q_tchain {op op' : CmpOp} {r r' : R2} {o o' : DOp} (ho : OpR X (compareOp op) r) (hr : ROp X.K r o) (ho' : OpR X (compareOp op') r') (hr' : ROp X.K r' o') (ha : QV X B a da) (hb : QV X B b db) (hc : QV X B c dc)
    (hm : lastMarks [op, op'] [b, c] = false := by with_unfolding_all rfl) : QT X B (.Compare a [op, op'] [b, c] pos) (dB (dChain o o' da db dc)) := PT.imp (pt_chain ho ho' ha hb hc hm) fun σ H Q ⟨F, pa, t, env, P, C, hd, k⟩ => by
  refine ev_chain hr hr' σ H _ ⟨F, pa, t, env, _, C, hd, fun v d F' pa' t' H' g C' rd q => ?_⟩
  cases d with
  | bl b => unfold RelD at rd; exact ⟨b, rd, k b F' pa' t' H' g C' q⟩
  | _ => exact q.elim
/-! ### fields of frozen instances, calls of defs and methods -/
theorem zip_lookup {F : Hp} {pa : Option Addr} {f : Str} : ∀ {ns : List Str} {l : List D} {vs : List V} {d : D}, RelL K F pa l vs → (ns.zip l).lookup f = some d → ∃ v, (ns.zip vs).lookup f = some v ∧ RelD K F pa d v
  | [], _, _, _, _, h => by simp at h
  | _ :: _, [], _, _, _, h => by simp at h
  | n :: ns, x :: l, vs, d, r, h => by
    obtain ⟨v, vr, rfl, r1, r2⟩ := r.inv
    simp only [List.zip_cons_cons, List.lookup_cons] at h ⊢
    cases q : f == n with
    | true =>
      rw [q] at h; cases h
      exact ⟨v, rfl, r1⟩
    | false =>
      rw [q] at h
      exact zip_lookup r2 h
theorem zip_none {f : Str} : ∀ {ns : List Str} {vs : List V}, ns.contains f = false → (ns.zip vs).lookup f = none
  | [], _, _ => by simp
  | _ :: _, [], _ => by simp
  | n :: ns, v :: vs, h => by
    simp only [List.contains_cons, Bool.or_eq_false_iff] at h
    simp only [List.zip_cons_cons, List.lookup_cons, h.1]
    exact zip_none h.2
/-- a field of an instance of a class of the text -/
theorem q_fld {f : Str} {Cl : Addr} (ha : QV X B e da) (cl : Cls X.K Cl) (na : NoAttr X.K Cl f) (hb : attributeBase e f X.env (eval e X.env) = eval e X.env := by rfl) : QE X B (.Attribute e f pos) (dFld Cl f da) := PE.imp (pe_fld ha hb) fun σ H Q ⟨F, pa, t, env, P, C, hd, k⟩ =>
  ⟨F, pa, t, env, _, C, hd, fun v x F1 pa1 t1 H1 g1 C1 r1 q1 => by
    cases x with
    | ins C' ns l =>
      obtain ⟨rfl, q1⟩ := q1
      obtain ⟨a, dx, us, rfl, e1, _, r⟩ := r1.ins C1
      cases z : (ns.zip l).lookup f with
      | none => rw [z] at q1; exact q1.elim
      | some d =>
        rw [z] at q1
        obtain ⟨w, h1, h2⟩ := zip_lookup r z
        exact ⟨a, C', dx, _, w, rfl, e1, cl, na, h1, k w d F1 pa1 t1 H1 g1 C1 h2 q1⟩
    | _ => exact q1.elim⟩
end
/-- a def's promise, at the heap -/
def lift (K : PySem.W.Frag) (sp : PSp) : Sp := fun vs H Q E => ∃ F pa t ds P, Cf K (B0 F pa t H) F pa t [] [] H ∧ RelL K F pa ds vs ∧ sp ds t P ∧
  ∀ v d F' pa' t' H', Cf K (B0 F pa t H) F' pa' t' [] [] H' → RelD K F' pa' d v → P d t' → Q v H'
/-- .. that gives a new list -/
def liftN (K : PySem.W.Frag) (sp : PSp) : Sp := fun vs H Q E => ∃ F pa t ds P, Cf K (B0 F pa t H) F pa t [] [] H ∧ RelL K F pa ds vs ∧ sp ds t P ∧
  ∀ p h d F' pa' t' H', Cf K (B0 F pa t H) F' pa' t' [] [] H' → F' p = none → H p = none → pa' ≠ some p → t'.obs p = none → H' p = some h → RelO1 K F' pa' d h → P d t' → Q (.ref p) H'
section
variable {X : Cx} {B : Bs} {K : PySem.W.Frag} {a b c e o : Expr} {es : List Expr} {pos : Pos} {da db dc : DE} {as : DA} {CX : CXT} {k : Nat} {f C : Addr} {fd : FuncData} {ps : List Str} {sp : PSp} {dvs : List V} {dds : List D} {ds : List Value} {E : XK} {x m : Str} {p apos : Pos}
theorem ev_call (hd : ∀ F pa, RelL K F pa dds dvs) : ∀ σ H Q, teOf K B (dCall sp dds as) σ H Q → tCall (lift K sp) dvs E (taOf K B as) σ H Q := fun σ H Q ⟨F, pa, t, env, P, W, h, k⟩ =>
  ⟨F, pa, t, env, _, W, h, fun vs xs F1 pa1 t1 H1 g1 W1 r1 q1 => ⟨F1, pa1, t1, xs ++ dds, P, W1.call, r1.append (hd _ _), q1, fun v d F' pa' t' H' W' r' q' => by
    obtain ⟨g, W2⟩ := W1.after W'
    exact k v d F' pa' t' H' (g1.trans g) W2 r' q'⟩⟩
theorem ev_callN (hd : ∀ F pa, RelL K F pa dds dvs) : ∀ σ H Q, tnOf K B (dCall sp dds as) σ H Q → tCall (liftN K sp) dvs E (taOf K B as) σ H Q := fun σ H Q ⟨F, pa, t, env, P, W, h, k⟩ =>
  ⟨F, pa, t, env, _, W, h, fun vs xs F1 pa1 t1 H1 g1 W1 r1 q1 => ⟨F1, pa1, t1, xs ++ dds, P, W1.call, r1.append (hd _ _), q1, fun p hh d F' pa' t' H' W' n1 n2 n3 n4 e' r' q' => by
    obtain ⟨g, W2⟩ := W1.after W'
    refine k p hh d F' pa' t' H' (g1.trans g) W2 ⟨n1, (W1.fresh n2).2.1, n3, fun j d' ej sj => ?_, n4⟩ e' r' q'
    obtain ⟨a, u, s1, e1, _⟩ := W1.own j d' ej
    rw [sj] at s1
    cases s1
    rw [n2] at e1; cases e1⟩⟩
theorem q_call (F : FnOk X.prog X.w X.K X.mg X.base CX k f fd ps (lift X.K sp)) (hr : Room k X.A) (hg : Gl X x) (hm : X.mg x = some (.ref f)) (hk : PySem.W.keepIn X.K (.ref f) = true) (hb : Binds X.K fd ps ds) (hd : Vals dvs ds) (hD : ∀ F pa, RelL X.K F pa dds dvs) (hx : Passes CX X E)
    (ha : QA X B (e :: es) as) (hdb : (x == ("__debug__" : Str)) = false := by decide) (he : starEach (e :: es) X.env = (false, eval e X.env) :: starEach es X.env := by rfl) (hpl : (backTo pos (starEach es X.env)).any (·.1) = false := by rfl) :
    QE X B (.Call (.Name x p) (e :: es) [] pos) (dCall sp dds as) := PE.imp (pe_call F hr hg hm hk hb hd hx ha hdb he hpl) (ev_call hD)
theorem q_callN (F : FnOk X.prog X.w X.K X.mg X.base CX k f fd ps (liftN X.K sp)) (hr : Room k X.A) (hg : Gl X x) (hm : X.mg x = some (.ref f)) (hk : PySem.W.keepIn X.K (.ref f) = true) (hb : Binds X.K fd ps ds) (hd : Vals dvs ds) (hD : ∀ F pa, RelL X.K F pa dds dvs) (hx : Passes CX X E)
    (ha : QA X B (e :: es) as) (hdb : (x == ("__debug__" : Str)) = false := by decide) (he : starEach (e :: es) X.env = (false, eval e X.env) :: starEach es X.env := by rfl) (hpl : (backTo pos (starEach es X.env)).any (·.1) = false := by rfl) :
    QN X B (.Call (.Name x p) (e :: es) [] pos) (dCall sp dds as) := PE.imp (pe_call F hr hg hm hk hb hd hx ha hdb he hpl) (ev_callN hD)
/-- a method of a frozen instance -/
theorem ev_meth (hd : ∀ F pa, RelL K F pa dds dvs) : ∀ σ H Q, teOf K B (dMeth C m sp dds da as) σ H Q → tMeth C m (lift K sp) dvs E (teOf K B da) (taOf K B as) σ H Q := fun σ H Q ⟨F, pa, t, env, P, W, h, k⟩ =>
  ⟨F, pa, t, env, _, W, h, fun v x F1 pa1 t1 H1 g1 W1 r1 q1 => by
    cases x with
    | ins C' ns l =>
      obtain ⟨rfl, hn, q1⟩ := q1
      have r1' := r1
      unfold RelD at r1'
      obtain ⟨a, dx, us, rfl, e1, _, _⟩ := r1'
      refine ⟨a, dx, _, rfl, W1.sub _ _ e1, zip_none hn, F1, pa1, t1, env, _, W1, q1, fun vs xs F2 pa2 t2 H2 g2 W2 r2 q2 => ⟨F2, pa2, t2, .ins C' ns l :: (xs ++ dds), P, W2.call, RelL.cons (RelD.mono g2 _ _ r1) (r2.append (hd _ _)), q2, fun v d F' pa' t' H' W' r' q' => ?_⟩⟩
      obtain ⟨g, W3⟩ := W2.after W'
      exact k v d F' pa' t' H' ((g1.trans g2).trans g) W3 r' q'
    | _ => exact q1.elim⟩
theorem q_meth {pl : Sem Bool} (he : QE X B o da) (c : Cls X.K C) (hm : Meth X.K C m f) (F : FnOk X.prog X.w X.K X.mg X.base CX k f fd ps (lift X.K sp)) (hr : Room k X.A) (hb : Binds X.K fd ps ds) (hd : Vals dvs ds) (hD : ∀ F pa, RelL X.K F pa dds dvs) (hx : Passes CX X E) (ha : QA X B (e :: es) as)
    (hst : starEach (e :: es) X.env = (false, eval e X.env) :: starEach es X.env := by rfl) (hpl : (backTo pos (starEach es X.env)).any (·.1) = false := by rfl)
    (ht : eval (.Call (.Attribute o m apos) (e :: es) [] pos) X.env = (do
      let ov ← eval o X.env
      standAt apos.atName
      let (f, first) ← holding [ov] (getMethod ov m pl)
      callWith pos f first (backTo pos (starEach (e :: es) X.env)) (backToKw pos (keywordEach [] X.env))) := by rfl) :
    QE X B (.Call (.Attribute o m apos) (e :: es) [] pos) (dMeth C m sp dds da as) := PE.imp (pe_meth he c hm F hr hb hd hx ha hst hpl ht) (ev_meth hD)
end
end Q
/-! QH5 -/
namespace Q
open PySem L2 PyProof.Rows
section
variable {X : Cx} {B : Bs} {K : PySem.W.Frag} {a b c e : Expr} {es : List Expr} {pos : Pos} {da db dc : DE} {as : DA} {g : DG} {gs : DGs} {st : Stmt} {rest sts sts2 : List Stmt} {s1 s2 : DS} {dt : DT}
/-! ### targets -/
variable {vs : List Nat}
theorem wipe_set {σ : L2.St} {i : Nat} {x : Option V} : ∀ {vs : List Nat}, i ∈ vs → wipe (σ.set i x) vs = wipe σ vs
  | [], h => by simp at h
  | j :: r, h => by
    show (wipe (σ.set i x) r).set j none = (wipe σ r).set j none
    by_cases hr : i ∈ r
    · rw [wipe_set hr]
    · have hj : i = j := by
        rcases List.mem_cons.mp h with z | z
        · exact z
        · exact absurd z hr
      subst hj
      apply List.ext_getElem?
      intro k
      by_cases hk : i = k
      · subst hk
        rw [List.getElem?_set_self', List.getElem?_set_self', wipe_out hr, wipe_out hr, List.getElem?_set_self']
        cases σ[i]? <;> rfl
      · rw [List.getElem?_set_ne hk, List.getElem?_set_ne hk]
        exact wipe_setk hk
  where
  wipe_setk {σ : L2.St} {i k : Nat} {x : Option V} (hk : i ≠ k) : ∀ {vs : List Nat}, (wipe (σ.set i x) vs)[k]? = (wipe σ vs)[k]?
    | [] => by show (σ.set i x)[k]? = σ[k]?; rw [List.getElem?_set_ne hk]
    | j :: r => by
      show ((wipe (σ.set i x) r).set j none)[k]? = ((wipe σ r).set j none)[k]?
      by_cases hj : j = k
      · subst hj
        rw [List.getElem?_set_self', List.getElem?_set_self', wipe_setk hk]
      · rw [List.getElem?_set_ne hj, List.getElem?_set_ne hj]
        exact wipe_setk hk
theorem q_gname {i : Nat} {x : Str} {pos : Pos} (h : PG X (.Name x pos) (L2.gName i)) (hi : i ∈ vs) : QG X B vs (.Name x pos) (Q.gName i) := PG.imp h fun v σ H Q ⟨F, pa, t, env, d, P, C, r, hd, k⟩ =>
  k F pa t _ _ H (Gr.refl _ _) (C.setV i r) (wipe_set hi) hd
theorem q_gnil : QGs X B vs [] gNil := PGs.imp pgs_nil fun v σ H Q ⟨F, pa, t, env, ds, P, C, r, hd, k⟩ => by
  cases ds with
  | nil => exact ⟨r.inv0, k F pa t env σ H (Gr.refl _ _) C rfl hd⟩
  | cons => exact hd.elim
theorem q_gcons (h1 : QG X B vs e g) (h2 : QGs X B vs es gs) (hs : (assignEach (e :: es) X.env).map (·.2) = assign e X.env :: (assignEach es X.env).map (·.2) := by rfl) : QGs X B vs (e :: es) (gCons g gs) := PGs.imp (pgs_cons h1 h2 hs) fun v σ H Q ⟨F, pa, t, env, ds, P, C, r, hd, k⟩ => by
  cases ds with
  | nil => exact hd.elim
  | cons d ds =>
    obtain ⟨v, vr, rfl, r1, r2⟩ := r.inv
    exact ⟨v, vr, rfl, F, pa, t, env, d, _, C, r1, hd, fun F' pa' t' env' σ' H' g' C' w1 q => ⟨F', pa', t', env', ds, P, C', RelL.mono g' ds vr r2, q, fun F2 pa2 t2 env2 σ2 H2 g2 C2 w2 q2 => k F2 pa2 t2 env2 σ2 H2 (g'.trans g2) C2 (w2.trans w1) q2⟩⟩
theorem q_gtup {k : Nat} {n : Nat} (hc : X.calm = true) (h : QGs X B vs es gs) (hn : (assignEach es X.env).length = n := by rfl) (hst : (assignEach es X.env).findIdx? (·.1) = none := by rfl) : QG X B vs (.Tuple es k pos) (Q.gTup n gs) := PG.imp (pg_tup hc h hn hst) fun v σ H Q ⟨F, pa, t, env, d, P, C, r, hd, k⟩ => by
  cases d with
  | tup l =>
    obtain ⟨hl, hd⟩ := hd
    have r' := r
    unfold RelD at r'
    obtain ⟨a, us, rfl, e, q⟩ := r'
    exact ⟨a, us, rfl, SqT.of (C.sub _ _ e), by rw [q.len]; exact hl, F, pa, t, env, l, P, C, q, hd, k⟩
  | _ => exact hd.elim
/-! ### statements -/
theorem q_nil : QSs X B [] dNext := PSs.imp pss_nil fun D σ H ⟨F, pa, t, env, DD, C, h, R⟩ => R.nx F pa t env σ H (Gr.refl _ _) C h
theorem q_cons (h1 : QS X B st s1) (h2 : QSs X B rest s2) : QSs X B (st :: rest) (dSeq s1 s2) := PSs.imp (pss_cons h1 h2) fun D σ H ⟨F, pa, t, env, DD, C, h, R⟩ =>
  ⟨F, pa, t, env, _, C, h, ⟨fun F pa t env σ H g C q => ⟨F, pa, t, env, DD, C, q, R.mono g⟩, R.rt, R.bk, R.ct⟩⟩
/-- the name's own list is frozen ahead of the rest -/
theorem q_frz {i : Nat} (hB : B.Top) (h2 : QSs X B rest s2) : QSs X B rest (dSeq (dFrz i) s2) := PSs.imp h2 fun D σ H ⟨F, pa, t, env, DD, C, h, R⟩ => by
  have h : (match env[i]? with | some (.own d) => s2 DD (env.set i (.val d)) t | _ => s2 DD env t) := h
  cases q : env[i]? with
  | none => rw [q] at h; exact ⟨F, pa, t, env, DD, C, h, R⟩
  | some z =>
    rw [q] at h
    cases z with
    | own d =>
      obtain ⟨F', g, C'⟩ := C.frzO hB q
      exact ⟨F', pa, t, _, DD, C', h, R.mono g⟩
    | val d => exact ⟨F, pa, t, env, DD, C, h, R⟩
    | no => exact ⟨F, pa, t, env, DD, C, h, R⟩
theorem q_never : QS X B st dNever := PS.imp ps_never fun D σ H ⟨F, pa, t, env, DD, C, h, R⟩ => h.elim
theorem ret0 {F : Hp} {pa : Option Addr} {t : Ts} {H : Hp} {d : D} {v : V} (hm : B.m = false) (r : RelD K F pa d v) : RetRel K B F pa t H d v := by
  unfold RetRel; rw [hm]; exact r
theorem q_ret (hm : B.m = false) (h : QE X B e da) : QS X B (.Return (some e) pos) (dRet da) := PS.imp (ps_ret h) fun D σ H ⟨F, pa, t, env, DD, C, h, R⟩ =>
  ⟨F, pa, t, env, _, C, h, fun v d F' pa' t' H' g C' r q => R.rt v d F' pa' t' env σ H' g C' (ret0 hm r) q⟩
theorem q_retNew (hm : B.m = true) (h : QN X B e da) : QS X B (.Return (some e) pos) (dRet da) := PS.imp (ps_ret h) fun D σ H ⟨F, pa, t, env, DD, C, h, R⟩ =>
  ⟨F, pa, t, env, _, C, h, fun p hh d F' pa' t' H' g C' n e r q => R.rt _ d F' pa' t' env σ H' g C' (by unfold RetRel; rw [hm]; exact .inr ⟨p, hh, rfl, n.f, n.b, n.a, n.o, e, r⟩) q⟩
/-- a name's own object is told back -/
theorem q_retOwn {i : Nat} {x : Str} {p : Pos} (hm : B.m = true) (hB : B.Top) (h : PE X (.Name x p) (tVar i)) : QS X B (.Return (some (.Name x p)) pos) (dRetO i) := PS.imp (ps_ret h) fun De σ H ⟨F, pa, t, env, DD, C, h, R⟩ => by
  have h : (match env[i]? with | some (.own d) => DD.rt d env t | _ => False) := h
  cases q : env[i]? with
  | none => rw [q] at h; exact h.elim
  | some s =>
    rw [q] at h
    cases s with
    | own d =>
      obtain ⟨a, hh, h1, h2, h3, h4, h5, h6⟩ := C.own i d q
      have hb : B.H a = none := by
        rcases h6 with z | z
        · rcases hB a z with y | ⟨p, hp, y⟩
          · exact absurd (Eq.trans C.pnn y) h5
          · obtain ⟨_, _, ps, qq, _⟩ := C.tab p hp
            rw [y, h2] at qq
            exact absurd (Option.some.inj qq) (h3.ntb ps)
        · exact z
      exact ⟨_, h1, R.rt _ d F pa t env σ H (Gr.refl _ _) C (by unfold RetRel; rw [hm]; exact .inr ⟨a, hh, rfl, h4, hb, h5, C.osp i _ a q h1, h2, h3⟩) h⟩
    | val d => exact h.elim
    | no => exact h.elim
theorem q_drop (he : QE X B e da) (hs : swapsWith e none pos.line X.env = pure false := by rfl) : QS X B (.Expr e pos) (dDrop da) := PS.imp (ps_expr he hs) fun D σ H ⟨F, pa, t, env, DD, C, h, R⟩ =>
  ⟨F, pa, t, env, _, C, h, fun v d F' pa' t' H' g C' r q => R.nx F' pa' t' env σ H' g C' q⟩
theorem ev_asg {D : Ends} {σ : L2.St} {H : Hp} (h : tsOf K B (dAsg da g) D σ H) : tAsg (teOf K B da) (tgOf K B vs g) D σ H := by
  obtain ⟨F, pa, t, env, DD, C, h, R⟩ := h
  exact ⟨F, pa, t, env, _, C, h, fun v d F' pa' t' H' g' C' r q => ⟨F', pa', t', env, d, _, C', r, q, fun F2 pa2 t2 env2 σ2 H2 g2 C2 _ q2 => R.nx F2 pa2 t2 env2 σ2 H2 (g'.trans g2) C2 q2⟩⟩
theorem q_asg {tg : Expr} (he : QE X B e da) (hg : QG X B vs tg g) (hs : swapsWithSole [tg] e pos.line X.env = pure false := by rfl) (hw : swappedStores [tg] e X.env = pure none := by rfl)
    (h1 : (assignEach [tg] X.env).map (·.2) = [assign tg X.env] := by rfl) : QS X B (.Assign [tg] e pos) (dAsg da g) := PS.imp (ps_asg he hg hs hw h1) fun D σ H h => ev_asg h
theorem q_set {i : Nat} {x : Str} {pos' : Pos} (hN : X.N.Nodup) (hi : X.N[i]? = some x) (hx : Loc X.env.scope x) (he : QE X B e da) (hs : swapsWith e (some (.Name x pos')) pos.line X.env = pure false := by rfl) (hf : X.fn x = true ∨ X.env.scope.names.lookup x = some .local := by first | exact .inl rfl | exact .inr rfl | assumption) :
    QS X B (.Assign [.Name x pos'] e pos) (dAsg da (Q.gName i)) := PS.imp (ps_set hN hi hx he hs hf) fun D σ H ⟨F, pa, t, env, DD, C, h, R⟩ =>
  ⟨F, pa, t, env, _, C, h, fun v d F' pa' t' H' g' C' r q => R.nx F' pa' t' _ _ H' g' (C'.setV i r) q⟩
theorem q_par {i j : Nat} {x y : Str} {px py pt : Pos} {kt k2 pt2} (hc : X.calm = true) (hN : X.N.Nodup) (hi : X.N[i]? = some x) (hj : X.N[j]? = some y) (hij : i ≠ j)
    (hx : X.env.scope.names.lookup x = some .local) (hy : X.env.scope.names.lookup y = some .local) (ha : QA X B [a, b] as)
    (hw : swappedStores [.Tuple [.Name x px, .Name y py] kt pt] (.Tuple [a, b] k2 pt2) X.env = pure (some [x, y]))
    (hs : swapsWithSole [.Tuple [.Name x px, .Name y py] kt pt] (.Tuple [a, b] k2 pt2) pos.line X.env = pure false := by rfl) :
    QS X B (.Assign [.Tuple [.Name x px, .Name y py] kt pt] (.Tuple [a, b] k2 pt2) pos) (dPar i j as) := PS.imp (ps_par hc hN hi hj hij hx hy ha hw hs) fun D σ H ⟨F, pa, t, env, DD, C, h, R⟩ =>
  ⟨F, pa, t, env, _, C, h, fun vs ds F' pa' t' H' g' C' r q => by
    match ds, q with
    | [d, e], q =>
      obtain ⟨v, vr, rfl, r1, r2⟩ := r.inv
      obtain ⟨w, wr, rfl, r3, r4⟩ := r2.inv
      obtain rfl := r4.inv0
      exact ⟨v, w, rfl, R.nx F' pa' t' _ _ H' g' ((C'.setV i r1).setV j r3) q⟩⟩
theorem q_aug {i : Nat} {x : Str} {op : Operator} {pos' : Pos} {r : R2} {o : DOp} (hN : X.N.Nodup) (hi : X.N[i]? = some x) (hx : Loc X.env.scope x) (he : QV X B e da) (ho : OpR X (inplaceOp op) r) (hr : ROp X.K r o)
    (hf : X.fn x = true ∨ X.env.scope.names.lookup x = some .local := by first | exact .inl rfl | exact .inr rfl | assumption) : QS X B (.AugAssign (.Name x pos') op e pos) (dAug i o da) :=
  PS.imp (ps_aug (ti := r) hN hi hx he (fun pins s σ H x y v u Q I r1 r2 h => ho pins s σ H x y v u Q I r1 r2 h) hf) fun D σ H ⟨F, pa, t, env, DD, C, h, R⟩ => by
    have h : (match env[i]? with | some (.val x) => da env t (fun y t1 => o x y fun z => DD.nx (env.set i (.val z)) t1) | _ => False) := h
    cases q : env[i]? with
    | none => rw [q] at h; exact h.elim
    | some z =>
      rw [q] at h
      cases z with
      | val d =>
        obtain ⟨v, h1, h2⟩ := C.val i d q
        exact ⟨v, h1, F, pa, t, env, _, C, h, fun w y F' pa' t' H' g' C' r1 q1 => hr B F' pa' t' env σ H' d y v w _ _ C' (.inl (RelD.mono g' d v h2)) r1 q1 fun u z F2 H2 g2 C2 r2 q2 => R.nx F2 pa' t' _ _ H2 (g'.trans g2) (C2.setV i r2) q2⟩
      | no => exact h.elim
      | own d => exact h.elim
theorem q_if {l r : List Stmt} (hc : QT X B c dt) (ha : QSs X B l s1) (hb : QSs X B r s2) : QS X B (.If c l r pos) (dIf dt s1 s2) := PS.imp (ps_if hc ha hb) fun D σ H ⟨F, pa, t, env, DD, C, h, R⟩ =>
  ⟨F, pa, t, env, _, C, h, fun k F' pa' t' H' g C' q => by
    cases k with
    | true => rw [if_pos rfl]; exact ⟨F', pa', t', env, DD, C', q, R.mono g⟩
    | false => rw [if_neg Bool.false_ne_true]; exact ⟨F', pa', t', env, DD, C', q, R.mono g⟩⟩
/-! ### lists of a name's own, written -/
theorem own_lst {F : Hp} {pa : Option Addr} {t : Ts} {env : En} {σ : L2.St} {H : Hp} {i : Nat} {l : List D} (C : Cf K B F pa t env σ H) (h : env[i]? = some (Sl.own (.lst l))) : ∃ a vs, σ[i]? = some (some (V.ref a)) ∧ H a = some (.lst vs) ∧ RelL K F pa l vs := by
  obtain ⟨a, u, h1, h2, h3, _⟩ := C.own i _ h
  obtain ⟨vs, rfl, q⟩ := h3
  exact ⟨a, vs, h1, h2, q⟩
theorem get_own {env : En} {i : Nat} {p : List D → Prop} (h : match env[i]? with | some (.own (.lst l)) => p l | _ => False) : ∃ l, env[i]? = some (Sl.own (.lst l)) ∧ p l := by
  split at h
  · rename_i l e; exact ⟨l, e, h⟩
  · exact h.elim
theorem q_app {i : Nat} (hp : PE X e (tBM X.K "list" rAppend (tVar i) (tCons (teOf X.K B da) tNil))) (hs : swapsWith e none pos.line X.env = pure false := by rfl) : QS X B (.Expr e pos) (dApp i da) :=
  PS.imp (ps_expr hp hs) fun De σ H ⟨F, pa, t, env, DD, C, h, R⟩ => by
    obtain ⟨l, hi, h⟩ := get_own h
    obtain ⟨a, vs, s1, e1, r1⟩ := own_lst C hi
    refine ⟨.ref a, s1, Or.inl ⟨rfl, vs, SqL.of e1⟩, F, pa, t, env, _, C, h, fun w y F' pa' t' H' g' C' r2 q2 => ?_⟩
    obtain ⟨hl, q2⟩ := q2
    obtain ⟨a', us, s2, e2, r3⟩ := own_lst C' hi
    rw [s1] at s2; cases s2
    refine ⟨a, us, w, rfl, rfl, e2, by rw [r3.len]; exact zlt hl, ?_⟩
    exact R.nx F' pa' t' _ σ _ g' (C'.wrO (d' := .lst (l ++ [y])) hi s1 ⟨_, rfl, r3.append (.cons r2 .nil)⟩) q2
/-! ### loops -/
theorem q_while {body : List Stmt} (hp : PassesOwn (model X.prog X.w) X.A X.env X.xe) (hc : QT X B c dt) (hb : QSs X B body s1) : QS X B (.While c body [] pos) (dWhile dt s1) := PS.imp (ps_while hp hc hb) fun De σ H ⟨F, pa, t, env, DD, C, h, R⟩ => by
  obtain ⟨Inv, mu, h0, hs⟩ := h
  refine ⟨fun m σ H => ∃ F1 pa1 t env, Gr F pa F1 pa1 ∧ Cf X.K B F1 pa1 t env σ H ∧ Inv env t ∧ m = mu env t, ⟨mu env t, F, pa, t, env, Gr.refl _ _, C, h0, rfl⟩, ?_⟩
  rintro m σ1 H1 ⟨F1, pa1, t1, env1, g1, C1, h1, rfl⟩
  refine ⟨F1, pa1, t1, env1, _, C1, hs env1 t1 h1, fun k F2 pa2 t2 H2 g2 C2 q2 => ?_⟩
  cases k with
  | true =>
    rw [if_pos rfl]
    have nn : ∀ F3 pa3 t env σ' H', Gr F2 pa2 F3 pa3 → Cf X.K B F3 pa3 t env σ' H' → (Inv env t ∧ mu env t < mu env1 t1) → ∃ m', m' < mu env1 t1 ∧ ∃ F3 pa3 t env, Gr F pa F3 pa3 ∧ Cf X.K B F3 pa3 t env σ' H' ∧ Inv env t ∧ m' = mu env t := fun F3 pa3 t env σ' H' g3 C' q => ⟨mu env t, q.2, F3, pa3, t, env, (g1.trans g2).trans g3, C', q.1, rfl⟩
    have R2 := R.mono (g1.trans g2)
    refine ⟨fun σ' H' => ∃ m', m' < mu env1 t1 ∧ ∃ F3 pa3 t env, Gr F pa F3 pa3 ∧ Cf X.K B F3 pa3 t env σ' H' ∧ Inv env t ∧ m' = mu env t, fun σ' H' z => z, F2, pa2, t2, env1, _, C2, q2, ⟨nn, R2.rt, R2.nx, nn⟩⟩
  | false =>
    rw [if_neg Bool.false_ne_true]
    exact R.nx F2 pa2 t2 env1 σ1 H2 (g1.trans g2) C2 q2
/-- what is walked -/
def ItOk (K : PySem.W.Frag) (J : It) (items : List D) (F0 : Hp) (pa0 : Option Addr) : Prop := ∀ (B : Bs) F pa t env σ H (i : Nat), Gr F0 pa0 F pa → Cf K B F pa t env σ H →
  (items.length = i → J.stop i H) ∧ ∀ d, items[i]? = some d → J.go i H ∧ ∀ x H', J.yld i H x H' → Gf H H' ∧ ∃ F', (∀ a o, F' a = some o → (∃ o', F a = some o') ∨ H a = none) ∧ Gr F pa F' pa ∧ Cf K B F' pa t env σ H' ∧ RelD K F' pa d x
theorem ItOk.mono {J : It} {items : List D} {F0 F1 : Hp} {p0 p1 : Option Addr} (h : ItOk K J items F0 p0) (g : Gr F0 p0 F1 p1) : ItOk K J items F1 p1 := fun B F pa t env σ H i g' C => h B F pa t env σ H i (g.trans g') C
def tiOf (K : PySem.W.Frag) (B : Bs) (di : DI) : TI := fun σ H R => ∃ F pa t env P, Cf K B F pa t env σ H ∧ di env t P ∧
  ∀ J items F' pa' t' H', Gr F pa F' pa' → Cf K B F' pa' t' env σ H' → ItOk K J items F' pa' → P items t' → R J H'
abbrev QI (X : Cx) (B : Bs) (tg e : Expr) (di : DI) : Prop := PI X tg e (tiOf X.K B di)
theorem PI.imp {tg e : Expr} {w w' : TI} (h : PI X tg e w) (i : ∀ σ H R, w' σ H R → w σ H R) : PI X tg e w' := ⟨fun pins s σ H R I q => h.run pins s σ H R I (i σ H R q)⟩
theorem it_list {F0 : Hp} {pa0 : Option Addr} {a : Addr} {l : List D} {vs : List V} (e : SqL K F0 a vs) (r : RelL K F0 pa0 l vs) : ItOk K (Itl K a) l F0 pa0 := fun B F pa t env σ H i g C => by
  have eH : SqL K H a vs := sq_mono C.sub (sq_mono g.f e)
  refine ⟨fun hi => ⟨vs, eH, by rw [r.len]; exact Nat.le_of_eq hi⟩, fun d hd => ?_⟩
  obtain ⟨v, hv, rv⟩ := r.get hd
  refine ⟨⟨vs, v, eH, hv⟩, fun x H' y => ?_⟩
  obtain ⟨rfl, y⟩ := y
  have y := y vs eH
  rw [hv] at y; cases y
  exact ⟨fun _ _ z => z, F, fun a o e => .inl ⟨o, e⟩, Gr.refl _ _, C, RelD.mono g d v rv⟩
theorem it_tup {F0 : Hp} {pa0 : Option Addr} {a : Addr} {l : List D} {vs : List V} (e : F0 a = some (.tup vs)) (r : RelL K F0 pa0 l vs) : ItOk K (Itt K a) l F0 pa0 := fun B F pa t env σ H i g C => by
  have eH : SqT K H a vs := SqT.of (C.sub _ _ (g.f _ _ e))
  refine ⟨fun hi => ⟨vs, eH, by rw [r.len]; exact Nat.le_of_eq hi⟩, fun d hd => ?_⟩
  obtain ⟨v, hv, rv⟩ := r.get hd
  refine ⟨⟨vs, v, eH, hv⟩, fun x H' y => ?_⟩
  obtain ⟨rfl, y⟩ := y
  have y := y vs eH
  rw [hv] at y; cases y
  exact ⟨fun _ _ z => z, F, fun a o e => .inl ⟨o, e⟩, Gr.refl _ _, C, RelD.mono g d v rv⟩
theorem it_rng {F0 : Hp} {pa0 : Option Addr} (lo : Int) (n : Nat) : ItOk K (Itr lo n) (rng lo n) F0 pa0 := fun B F pa t env σ H i g C => by
  refine ⟨fun hi => by rw [rng_len] at hi; exact Nat.le_of_eq hi, fun d hd => ?_⟩
  obtain ⟨h1, rfl⟩ := rng_get hd
  refine ⟨h1, fun x H' y => ?_⟩
  obtain ⟨rfl, rfl⟩ := y
  exact ⟨fun _ _ z => z, F, fun a o e => .inl ⟨o, e⟩, Gr.refl _ _, C, rD_int _⟩
theorem q_irng1 {tg : Expr} {p pos : Pos} (hg : Gl X "range") (hm : X.mg "range" = none) (ha : QV X B a da) (hs : starEach [a] X.env = [(false, eval a X.env)] := by rfl) (hs' : starEach (a :: []) X.env = (false, eval a X.env) :: starEach [] X.env := by rfl) : QI X B tg (.Call (.Name "range" p) [a] [] pos) (iRng1 da) := PI.imp (pi_range1 hg hm (pa_cons ha pa_nil hs') hs) fun σ H R ⟨F, pa, t, env, P, C, h, k⟩ =>
  ⟨F, pa, t, env, _, C, h, fun v d F' pa' t' H' g C' r q => by
    cases d with
    | int n =>
      obtain ⟨⟨h1, h2⟩, q⟩ := q
      exact ⟨n, by rw [r.int C'], by omega, by omega, k _ _ F' pa' t' H' g C' (it_rng 0 n.toNat) q⟩
    | _ => exact q.elim⟩
theorem q_for {tg iter : Expr} {body : List Stmt} {di : DI} (hp : PassesOwn (model X.prog X.w) X.A X.env X.xe) (hc : X.calm = true) (hi : QI X B tg iter di) (hg : QG X B vs tg g) (hb : QSs X B body s1) (hs : ∀ x, foldedSetIterable iter X.env x = pure x := by intro _; rfl) : QS X B (.For tg iter body [] pos) (dFor di g s1) :=
  PS.imp (ps_for hp hc hi hg hb hs) fun De σ H ⟨F, pa, t, env, DD, C, h, R⟩ => ⟨F, pa, t, env, _, C, h, fun J items F1 pa1 t1 H1 g1 C1 iok q => by
    obtain ⟨Inv, h0, hstep, hd⟩ := q
    refine ⟨fun i m σ H => m = items.length - i ∧ i ≤ items.length ∧ ∃ F pa t env, Gr F1 pa1 F pa ∧ Cf X.K B F pa t env σ H ∧ Inv i env t, ⟨_, rfl, Nat.zero_le _, F1, pa1, t1, env, Gr.refl _ _, C1, h0⟩, ?_⟩
    rintro i m σ2 H2 ⟨rfl, hi, F2, pa2, t2, env2, g2, C2, q2⟩
    have io := iok B F2 pa2 t2 env2 σ2 H2 i g2 C2
    by_cases hlt : i < items.length
    · have hx : items[i]? = some items[i] := by simp [hlt]
      obtain ⟨go, yl⟩ := io.2 _ hx
      refine .inr ⟨go, fun σ' H' => ∃ m', m' < items.length - i ∧ (m' = items.length - (i + 1) ∧ i + 1 ≤ items.length ∧ ∃ F pa t env, Gr F1 pa1 F pa ∧ Cf X.K B F pa t env σ' H' ∧ Inv (i + 1) env t), fun σ' H' z => z, fun x H' y => ?_⟩
      obtain ⟨_, F3, _, g3, C3, r3⟩ := yl x H' y
      refine ⟨F3, pa2, t2, env2, items[i], _, C3, r3, hstep i _ env2 t2 hx q2, fun F4 pa4 t4 env4 σ4 H4 g4 C4 _ q4 => ?_⟩
      have g14 := (g2.trans g3).trans g4
      have nn : ∀ F pa t env σ' H', Gr F4 pa4 F pa → Cf X.K B F pa t env σ' H' → Inv (i + 1) env t → ∃ m', m' < items.length - i ∧ (m' = items.length - (i + 1) ∧ i + 1 ≤ items.length ∧ ∃ F pa t env, Gr F1 pa1 F pa ∧ Cf X.K B F pa t env σ' H' ∧ Inv (i + 1) env t) := fun F pa t env σ' H' g C' q => ⟨items.length - (i + 1), by omega, rfl, hlt, F, pa, t, env, g14.trans g, C', q⟩
      have R4 := R.mono (g1.trans g14)
      exact ⟨F4, pa4, t4, env4, _, C4, q4, ⟨nn, R4.rt, R4.nx, nn⟩⟩
    · have e : i = items.length := by omega
      subst e
      exact .inl ⟨io.1 rfl, R.nx F2 pa2 t2 env2 σ2 H2 (g1.trans g2) C2 (hd env2 t2 q2)⟩⟩
end
end Q
/-! QH6 -/
namespace Q
open PySem L2 PyProof.Rows
section
variable {X : Cx} {B : Bs} {K : PySem.W.Frag} {a b c e : Expr} {es : List Expr} {pos : Pos} {da db dc : DE} {as : DA} {g : DG} {gs : DGs} {dt : DT}
/-! ### comprehensions -/
theorem wipeE_length (env : En) : ∀ vs : List Nat, (wipeE env vs).length = env.length
  | [] => rfl
  | i :: r => by simp [wipeE, wipeE_length env r]
theorem wipeE_some {env : En} {i : Nat} {x : Sl} (hx : x ≠ .no) : ∀ {vs : List Nat}, (wipeE env vs)[i]? = some x → env[i]? = some x ∧ i ∉ vs
  | [], h => ⟨h, by simp⟩
  | j :: r, h => by
    rcases get_set (show ((wipeE env r).set j .no)[i]? = some x from h) with ⟨_, z⟩ | ⟨ne, z⟩
    · exact absurd z hx
    · obtain ⟨h1, h2⟩ := wipeE_some hx z
      exact ⟨h1, by simp [h2, Ne.symm ne]⟩
theorem wipeE_out {env : En} {i : Nat} : ∀ {vs : List Nat}, i ∉ vs → (wipeE env vs)[i]? = env[i]?
  | [], _ => rfl
  | j :: r, h => by
    simp only [List.mem_cons, not_or] at h
    show ((wipeE env r).set j .no)[i]? = _
    rw [List.getElem?_set_ne (Ne.symm h.1)]
    exact wipeE_out h.2
/-- the addresses of the names' own objects -/
def ownA (env : En) (σ : L2.St) : List Addr := (env.zip σ).filterMap fun p => match p with
  | (.own _, some (.ref a)) => some a
  | _ => none
theorem mem_ownA {env : En} {σ : L2.St} {a : Addr} : a ∈ ownA env σ ↔ ∃ (i : Nat) (d : D), env[i]? = some (Sl.own d) ∧ σ[i]? = some (some (V.ref a)) := by
  unfold ownA
  rw [List.mem_filterMap]
  constructor
  · rintro ⟨⟨s, v⟩, hm, h⟩
    obtain ⟨i, hi⟩ := List.mem_iff_getElem?.mp hm
    rw [List.getElem?_zip_eq_some] at hi
    cases s with
    | own d =>
      cases v with
      | none => cases h
      | some v =>
        cases v with
        | ref b => cases h; exact ⟨i, d, hi.1, hi.2⟩
        | _ => cases h
    | _ => cases h
  · rintro ⟨i, d, h1, h2⟩
    exact ⟨(.own d, some (.ref a)), List.mem_iff_getElem?.mpr ⟨i, List.getElem?_zip_eq_some.mpr ⟨h1, h2⟩⟩, rfl⟩
def Bk (F : Hp) (pa : Option Addr) (t : Ts) (env : En) (σ : L2.St) (H : Hp) : Bs := ⟨F, H, pa.toList ++ ownA env σ, pa, false, [], t.dom⟩
theorem Cf.block {F : Hp} {pa : Option Addr} {t : Ts} {env : En} {σ : L2.St} {H : Hp} (C : Cf K B F pa t env σ H) (vs : List Nat) : Cf K (Bk F pa t (wipeE env vs) (wipe σ vs) H) F pa t (wipeE env vs) (wipe σ vs) H := by
  have wo : ∀ {i : Nat}, i ∉ vs → (wipe σ vs)[i]? = σ[i]? := fun h => wipe_out h
  refine ⟨by rw [wipeE_length, wipe_length, C.len], C.sub, fun _ _ e => e, fun _ _ e _ _ => e, fun a o e => .inl ⟨o, e⟩, fun a ha => ?_, fun i d e => ?_, fun i d e => ?_, fun i j d e a q1 q2 s1 s2 => ?_, fun a e => ?_, rfl, TabF.nil, C.ntb, fun a d e => by
    obtain ⟨h1, h2, h3, _, h5⟩ := C.obs a d e
    exact ⟨h1, h2, h3, .inl ⟨d, e⟩, h5⟩, fun a e => e, fun i d a e s => by
    obtain ⟨h1, hi⟩ := wipeE_some (by simp) e
    rw [wo hi] at s
    exact C.osp i d a h1 s⟩
  · rcases List.mem_append.mp ha with h | h
    · obtain ⟨_, ⟨u, q, _⟩, _⟩ := C.pen a (mem_pa.mp h)
      exact ⟨u, q⟩
    · obtain ⟨i, d, h1, h2⟩ := mem_ownA.mp h
      obtain ⟨h1', hi⟩ := wipeE_some (by simp) h1
      rw [wo hi] at h2
      obtain ⟨a', u, s1, e1, _⟩ := C.own i d h1'
      rw [h2] at s1; cases s1
      exact ⟨u, e1⟩
  · obtain ⟨h1, hi⟩ := wipeE_some (by simp) e
    obtain ⟨v, s1, r⟩ := C.val i d h1
    exact ⟨v, by rw [wo hi]; exact s1, r⟩
  · obtain ⟨h1, hi⟩ := wipeE_some (by simp) e
    obtain ⟨a, u, s1, e1, r, f1, p1, _⟩ := C.own i d h1
    refine ⟨a, u, by rw [wo hi]; exact s1, e1, r, f1, p1, .inl (List.mem_append.mpr (.inr (mem_ownA.mpr ⟨i, d, e, by rw [wo hi]; exact s1⟩)))⟩
  · obtain ⟨h1, hi⟩ := wipeE_some (by simp) q1
    obtain ⟨h2, hj⟩ := wipeE_some (by simp) q2
    rw [wo hi] at s1
    rw [wo hj] at s2
    exact C.sep i j d e a h1 h2 s1 s2
  · obtain ⟨h1, h2, _⟩ := C.pen a e
    exact ⟨h1, h2, .inl (List.mem_append.mpr (.inl (mem_pa.mpr e)))⟩
theorem Cf.join {F F3 : Hp} {pa pa3 : Option Addr} {t t3 : Ts} {env e' : En} {σ σ2 : L2.St} {H H4 : Hp} {vs : List Nat} (C : Cf K B F pa t env σ H) (C' : Cf K (Bk F pa t (wipeE env vs) (wipe σ vs) H) F3 pa3 t3 e' σ2 H4)
    (he : wipeE e' vs = wipeE env vs) (hs : wipe σ2 vs = wipe σ vs) : Gr F pa F3 pa3 ∧ Cf K B F3 pa3 t3 env σ H4 := by
  have wo : ∀ {i : Nat}, i ∉ vs → (wipe σ vs)[i]? = σ[i]? := fun h => wipe_out h
  have wo2 : ∀ {i : Nat}, i ∉ vs → (wipe σ2 vs)[i]? = σ2[i]? := fun h => wipe_out h
  have g : Gr F pa F3 pa3 := ⟨C'.bas, C'.pnn⟩
  -- what the block may change
  have ex : ∀ a, a ∈ (Bk F pa t (wipeE env vs) (wipe σ vs) H).ex → pa = some a ∨ ∃ (i : Nat) (d : D), i ∉ vs ∧ env[i]? = some (Sl.own d) ∧ σ[i]? = some (some (V.ref a)) := fun a ha => by
    rcases List.mem_append.mp ha with h | h
    · exact .inl (mem_pa.mp h)
    · obtain ⟨i, d, h1, h2⟩ := mem_ownA.mp h
      obtain ⟨h1', hi⟩ := wipeE_some (by simp) h1
      exact .inr ⟨i, d, hi, h1', by rw [← wo hi]; exact h2⟩
  have exB : ∀ a, a ∈ (Bk F pa t (wipeE env vs) (wipe σ vs) H).ex → a ∈ B.ex ∨ B.H a = none := fun a ha => by
    rcases ex a ha with h | ⟨i, d, _, h1, h2⟩
    · exact (C.pen a h).2.2
    · obtain ⟨a', u, s1, _, _, _, _, x⟩ := C.own i d h1
      rw [h2] at s1; cases s1
      exact x
  have kp : ∀ a o, H a = some o → a ∉ (Bk F pa t (wipeE env vs) (wipe σ vs) H).ex → t.obs a = none → H4 a = some o := fun a o e n no => C'.frm a o e n (fun ⟨d, z⟩ => by rw [no] at z; cases z)
  have nf : ∀ a o, H a = some o → F a = none → F3 a = none := fun a o e n => by
    cases q : F3 a with
    | none => rfl
    | some u =>
      rcases C'.new a u q with ⟨u', z⟩ | z
      · have z : F a = some u' := z
        rw [n] at z; cases z
      · have z : H a = none := z
        rw [e] at z; cases z
  refine ⟨g, ⟨C.len, C'.sub, fun a o e => g.f _ _ (C.bas a o e), fun a o e hx ho => ?_, fun a o e => ?_, fun a ha => ?_, fun i d e => ?_, fun i d e => ?_, C.sep, fun a e => ?_, Eq.trans g.p C.pnn, C.tab.keep g.f (fun p hp ps z => nf _ _ z (C.tab p hp).2.1) (fun p hp ps z => kp _ _ z (fun y => by
    rcases ex _ y with y | ⟨i, d, _, h1, h2⟩
    · obtain ⟨_, ⟨u, q, ca, w, _⟩, _⟩ := C.pen p.1 y
      rw [z] at q
      subst w
      cases q
    · obtain ⟨a', u, s1, e1, r1, _⟩ := C.own i d h1
      rw [h2] at s1; cases s1
      rw [z] at e1
      exact r1.ntb ps (Option.some.inj e1).symm) (by
    cases q : t.obs p.1 with
    | none => rfl
    | some d =>
      obtain ⟨_, ⟨u, q2, r⟩, _⟩ := C.obs p.1 d q
      rw [z] at q2
      exact absurd (Option.some.inj q2).symm (r.ntb ps))), C'.ntb, fun a d q => ?_, fun a q => C'.obx a (C.obx a q), fun i d a e s => ?_⟩⟩
  · refine kp a o (C.frm a o e hx ho) (fun z => ?_) ?_
    · rcases exB a z with q | q
      · exact hx q
      · rw [q] at e; cases e
    · cases q : t.obs a with
      | none => rfl
      | some d =>
        rcases (C.obs a d q).2.2.2.1 with z | z
        · exact absurd z ho
        · rw [z] at e; cases e
  · rcases C'.new a o e with ⟨o', q⟩ | q
    · exact C.new a o' q
    · exact .inr (C.fresh q).2.1
  · by_cases hx : a ∈ (Bk F pa t (wipeE env vs) (wipe σ vs) H).ex
    · exact C'.exl a hx
    · obtain ⟨o, q⟩ := C.exl a ha
      cases z : t.obs a with
      | none => exact ⟨o, kp a o q hx z⟩
      | some d =>
        obtain ⟨d', q'⟩ := C'.obx a ⟨d, z⟩
        obtain ⟨_, ⟨u, y, _⟩, _⟩ := C'.obs a d' q'
        exact ⟨u, y⟩
  · obtain ⟨v, h1, h2⟩ := C.val i d e
    exact ⟨v, h1, RelD.mono g d v h2⟩
  · obtain ⟨a, h, h1, h2, h3, h4, h5, h6⟩ := C.own i d e
    by_cases hi : i ∈ vs
    · have nx : a ∉ (Bk F pa t (wipeE env vs) (wipe σ vs) H).ex := fun z => by
        rcases ex a z with q | ⟨j, d', hj, q1, q2⟩
        · exact h5 q
        · have := C.sep i j d d' a e q1 h1 q2
          exact hj (this ▸ hi)
      refine ⟨a, h, h1, kp a h h2 nx (C.osp i d a e h1), RelO1.mono g d h h3, nf a h h2 h4, fun z => ?_, h6⟩
      rcases (C'.pen a z).2.2 with q | q
      · exact nx q
      · have q : H a = none := q
        rw [h2] at q; cases q
    · have e1 : e'[i]? = some (Sl.own d) := by
        rw [← wipeE_out (env := e') hi, he, wipeE_out hi]; exact e
      obtain ⟨a', h', s1, q1, q2, q3, q4, _⟩ := C'.own i d e1
      rw [← wo2 hi, hs, wo hi, h1] at s1
      cases s1
      exact ⟨a, h', h1, q1, q2, q3, q4, h6⟩
  · obtain ⟨h1, h2, h3⟩ := C'.pen a e
    refine ⟨h1, h2, ?_⟩
    rcases h3 with q | q
    · exact exB a q
    · exact .inr (C.fresh q).2.1
  · obtain ⟨h1, h2, h3, h4, h5⟩ := C'.obs a d q
    refine ⟨h1, h2, h3, ?_, h5⟩
    rcases h4 with ⟨d0, z⟩ | z
    · exact (C.obs a d0 z).2.2.2.1
    · exact .inr (C.fresh z).2.1
  · cases q : t3.obs a with
    | none => rfl
    | some d' =>
      rcases (C'.obs a d' q).2.2.2.1 with ⟨d0, z⟩ | z
      · rw [C.osp i d a e s] at z; cases z
      · obtain ⟨a', h, h1, h2, _⟩ := C.own i d e
        rw [s] at h1; cases h1
        have z : H a = none := z
        rw [h2] at z; cases z
/-- what was there and no object is none behind a block -/
theorem noo_of {F : Hp} {pa : Option Addr} {t t' : Ts} {env : En} {σ : L2.St} {H H' : Hp} {D : Addr} {o : HO} {F3 : Hp} {pa3 : Option Addr} {env3 : En} {σ3 : L2.St} (h : t.obs D = none) (C : Cf K (Bk F pa t env σ H) F3 pa3 t' env3 σ3 H') (e : H D = some o) : t'.obs D = none := by
  cases q : t'.obs D with
  | none => rfl
  | some d' =>
    rcases (C.obs D d' q).2.2.2.1 with ⟨d0, z⟩ | z
    · rw [h] at z; cases z
    · have z : H D = none := z
      rw [e] at z; cases z
def teU (K : PySem.W.Frag) (de : DE) : TE := fun σ H Q => ∃ B, teOf K B de σ H Q
def ttU (K : PySem.W.Frag) (dt : DT) : TT := fun σ H Q => ∃ B, ttOf K B dt σ H Q
def tgU (K : PySem.W.Frag) (vs : List Nat) (g : DG) : TG := fun v σ H Q => ∃ B, tgOf K B vs g v σ H Q
theorem pe_U (h : ∀ B, QE X B e da) : PE X e (teU X.K da) := ⟨fun pins s σ H Q I ⟨B, q⟩ => (h B).run pins s σ H Q I q⟩
theorem pg_U {vs : List Nat} (h : ∀ B, QG X B vs e g) : PG X e (tgU X.K vs g) := ⟨fun pins s σ H v u Q I r ⟨B, q⟩ => (h B).run pins s σ H v u Q I r q⟩
theorem pts_U1 (h : ∀ B, QT X B e dt) : PTs X [e] (ttU X.K dt) := pts_one ⟨fun pins s σ H Q I ⟨B, q⟩ => (h B).run pins s σ H Q I q⟩
theorem pts_U0 : PTs X [] (ttU X.K dYes) := ⟨fun pins s σ H Q I ⟨B, q⟩ => pts_nil.run pins s σ H Q I (by
  obtain ⟨F, pa, t, env, P, C, h, k⟩ := q
  exact k true F pa t H (Gr.refl _ _) C h)⟩
theorem wipe_idem {σ : L2.St} : ∀ {vs : List Nat}, wipe (wipe σ vs) vs = wipe σ vs := fun {vs} => by
  apply List.ext_getElem?
  intro k
  by_cases hk : k ∈ vs
  · have : ∀ (τ : L2.St) (us : List Nat), k ∈ us → (wipe τ us)[k]? = τ[k]?.map fun _ => none := fun τ us => by
      induction us with
      | nil => intro h; simp at h
      | cons j r ih =>
        intro h
        show ((wipe τ r).set j none)[k]? = _
        by_cases hj : j = k
        · subst hj
          rw [List.getElem?_set_self']
          by_cases hr : j ∈ r
          · rw [ih hr]; cases τ[j]? <;> rfl
          · rw [wipe_out hr]; cases τ[j]? <;> rfl
        · rw [List.getElem?_set_ne hj]
          exact ih ((List.mem_cons.mp h).resolve_left (Ne.symm hj))
    rw [this _ _ hk, this _ _ hk]
    cases σ[k]? <;> rfl
  · rw [wipe_out hk]
theorem ev_lc {di : DI} {vs : List Nat} : ∀ σ H Q, tnOf K B (dLc vs di g dt da) σ H Q → tLc (tiOf K B di) (tgU K vs g) (ttU K dt) (teU K da) vs σ H Q := fun σ H Q ⟨F, pa, t, env, P, C, h, k⟩ => by
  refine ⟨F, pa, t, env, _, C, h, fun J items F1 pa1 t1 H1 g1 C1 iok q D hD => ?_⟩
  obtain ⟨Inv, h0, hstep, hd⟩ := q
  refine ⟨fun i m H => m = items.length - i ∧ i ≤ items.length ∧ ∃ F pa t acc us, Gr F1 pa1 F pa ∧ Cf K B F pa t env σ H ∧ Nw B F pa t env σ D ∧ H D = some (.lst us) ∧ RelL K F pa acc us ∧ Inv i acc t,
    ⟨_, rfl, Nat.zero_le _, F1, pa1, t1, [], [], Gr.refl _ _, C1.loose _ hD, C1.nw hD, upd_same, RelL.nil, h0⟩, ?_⟩
  rintro i m H2 ⟨rfl, hi, F2, pa2, t2, acc, us, g2, C2, n2, e2, r2, q2⟩
  have io := iok B F2 pa2 t2 env σ H2 i g2 C2
  by_cases hlt : i < items.length
  · have hx : items[i]? = some items[i] := by simp [hlt]
    obtain ⟨go, yl⟩ := io.2 _ hx
    refine .inr ⟨go, fun H' => ∃ m', m' < items.length - i ∧ (m' = items.length - (i + 1) ∧ i + 1 ≤ items.length ∧ ∃ F pa t acc us, Gr F1 pa1 F pa ∧ Cf K B F pa t env σ H' ∧ Nw B F pa t env σ D ∧ H' D = some (.lst us) ∧ RelL K F pa acc us ∧ Inv (i + 1) acc t), fun H' z => z, fun x H' y => ?_⟩
    obtain ⟨hk, F3, nw3, g3, C3, r3⟩ := yl x H' y
    have e3 : H' D = some (.lst us) := hk _ _ e2
    have dn : D ∉ (Bk F3 pa2 t2 (wipeE env vs) (wipe σ vs) H').ex := fun z => by
      rcases List.mem_append.mp z with z | z
      · exact n2.a (mem_pa.mp z)
      · obtain ⟨j, d, h1, h2⟩ := mem_ownA.mp z
        obtain ⟨h1', hj⟩ := wipeE_some (by simp) h1
        have wo : (wipe σ vs)[j]? = σ[j]? := wipe_out hj
        rw [wo] at h2
        exact n2.s j d h1' h2
    have fD : F3 D = none := by
      cases z : F3 D with
      | none => rfl
      | some o =>
        rcases nw3 D o z with ⟨o', q⟩ | q
        · rw [n2.f] at q; cases q
        · rw [e2] at q; cases q
    have n3 : Nw B F3 pa2 t2 env σ D := ⟨fD, n2.b, n2.a, n2.s, n2.o⟩
    have CB := C3.block vs
    refine ⟨_, F3, pa2, t2, wipeE env vs, items[i], _, CB, r3, hstep i _ acc t2 hx q2, fun F4 pa4 t4 e4 σ4 H4 g4 C4 w4 q4 => ?_⟩
    obtain ⟨we, q4⟩ := q4
    have hs4 : wipe σ4 vs = wipe σ vs := w4.trans wipe_idem
    refine ⟨hs4, _, F4, pa4, t4, e4, _, C4, q4, fun k F5 pa5 t5 H5 g5 C5 q5 => ?_⟩
    have fin : ∀ {F6 : Hp} {pa6 : Option Addr} {t6 : Ts} {H6 : Hp}, Gr F3 pa2 F6 pa6 → Cf K (Bk F3 pa2 t2 (wipeE env vs) (wipe σ vs) H') F6 pa6 t6 e4 σ4 H6 →
        Gr F1 pa1 F6 pa6 ∧ Cf K B F6 pa6 t6 env σ H6 ∧ Nw B F6 pa6 t6 env σ D ∧ H6 D = some (.lst us) ∧ RelL K F6 pa6 acc us := fun {F6 pa6 t6 H6} g6 C6 => by
      obtain ⟨g7, C7⟩ := C3.join C6 we hs4
      have eD : H6 D = some (.lst us) := C6.frm D _ e3 dn (fun ⟨d, z⟩ => by rw [n2.o] at z; cases z)
      refine ⟨(g2.trans g3).trans g7, C7, ⟨?_, n2.b, fun z => ?_, n2.s, noo_of n2.o C6 e3⟩, eD, RelL.mono (g3.trans g7) acc us r2⟩
      · cases z : F6 D with
        | none => rfl
        | some o =>
          rcases C6.new D o z with ⟨o', q⟩ | q
          · have q : F3 D = some o' := q
            rw [fD] at q; cases q
          · have q : H' D = none := q
            rw [e3] at q; cases q
      · rcases (C6.pen D z).2.2 with q | q
        · exact dn q
        · have q : H' D = none := q
          rw [e3] at q; cases q
    cases k with
    | true =>
      refine L2.iteT ?_
      refine ⟨_, F5, pa5, t5, e4, _, C5, q5, fun v d F6 pa6 t6 H6 g6 C6 r6 q6 => ?_⟩
      obtain ⟨hl, q6⟩ := q6
      obtain ⟨h1, h2, h3, h4, h5⟩ := fin ((g4.trans g5).trans g6) C6
      refine ⟨us, h4, by rw [h5.len]; exact zlt hl, _, by omega, rfl, hlt, F6, pa6, t6, acc ++ [d], us ++ [v], h1, h2.write h3, h3, upd_same, h5.append (.cons r6 .nil), q6⟩
    | false =>
      refine L2.iteF ?_
      obtain ⟨h1, h2, h3, h4, h5⟩ := fin (g4.trans g5) C5
      exact ⟨_, by omega, rfl, hlt, F5, pa5, t5, acc, us, h1, h2, h3, h4, h5, q5⟩
  · have e : i = items.length := by omega
    subst e
    exact .inl ⟨io.1 rfl, k D _ (.lst acc) F2 pa2 t2 H2 (g1.trans g2) C2 n2 e2 ⟨us, rfl, r2⟩ (hd acc t2 q2)⟩
theorem q_lc {elt tg iter : Expr} {ifs : List Expr} {scope : Scope} {own : List (Str × Nat)} {pos : Pos} {di : DI} (hc : X.calm = true) (hN : X.N.Nodup) (hi : QI X B tg iter di) (ok : BlkOk X.N X.env.scope scope own)
    (hg : ∀ (s : Shared) (H : Hp) (C : Addr) (cl : List (Str × Addr)) (fp : List Addr) (B : Bs), QG (X.blk s H scope (compEnvC scope cl C X.env) fp) B (own.map (·.2)) tg g) (ht : ∀ (s : Shared) (H : Hp) (C : Addr) (cl : List (Str × Addr)) (fp : List Addr), PTs (X.blk s H scope (compEnvC scope cl C X.env) fp) ifs (ttU X.K dt))
    (he : ∀ (s : Shared) (H : Hp) (C : Addr) (cl : List (Str × Addr)) (fp : List Addr) (B : Bs), QE (X.blk s H scope (compEnvC scope cl C X.env) fp) B elt da) (hs : ∀ x, foldedSetIterable iter X.env x = pure x := by intro _; rfl) :
    QN X B (.ListComp elt [⟨tg, iter, ifs, 0⟩] scope pos) (dLc (own.map (·.2)) di g dt da) :=
  PE.imp (pe_lc hc hN hi ok (fun s H C cl fp => pg_U fun B => hg s H C cl fp B) ht (fun s H C cl fp => pe_U fun B => he s H C cl fp B) hs) ev_lc
/-- name = [..], frozen at once -/
theorem q_setLc {i : Nat} {y : Str} {py : Pos} {elt tg iter : Expr} {ifs : List Expr} {scope : Scope} {own : List (Str × Nat)} {pos spos : Pos} {di : DI} (hc : X.calm = true) (hN : X.N.Nodup) (hy : X.N[i]? = some y) (hyl : X.env.scope.names.lookup y = some .local)
    (hsw : swapsWith (.ListComp elt [⟨tg, iter, ifs, 0⟩] scope pos) (some (.Name y py)) spos.line X.env = pure true) (hi : QI X B tg iter di) (ok : BlkOk X.N X.env.scope scope own)
    (hg : ∀ (s : Shared) (H : Hp) (C : Addr) (cl : List (Str × Addr)) (fp : List Addr) (B : Bs), QG (X.blk s H scope (compEnvC scope cl C X.env) fp) B (own.map (·.2)) tg g) (ht : ∀ (s : Shared) (H : Hp) (C : Addr) (cl : List (Str × Addr)) (fp : List Addr), PTs (X.blk s H scope (compEnvC scope cl C X.env) fp) ifs (ttU X.K dt))
    (he : ∀ (s : Shared) (H : Hp) (C : Addr) (cl : List (Str × Addr)) (fp : List Addr) (B : Bs), QE (X.blk s H scope (compEnvC scope cl C X.env) fp) B elt da) (hs : ∀ x, foldedSetIterable iter X.env x = pure x := by intro _; rfl) :
    QS X B (.Assign [.Name y py] (.ListComp elt [⟨tg, iter, ifs, 0⟩] scope pos) spos) (dAsg (dLc (own.map (·.2)) di g dt da) (Q.gName i)) :=
  PS.imp (ps_setLc hc hN hy hyl hsw hi ok (fun s H C cl fp => pg_U fun B => hg s H C cl fp B) ht (fun s H C cl fp => pe_U fun B => he s H C cl fp B) hs) fun De σ H ⟨F, pa, t, env, DD, C, h, R⟩ =>
    ev_lc σ H _ ⟨F, pa, t, env, _, C, h, fun p hh d F' pa' t' H' g' C' n e r q => by
      obtain ⟨g2, C2⟩ := C'.frz n e r.ntb
      exact R.nx _ pa' t' _ _ H' (g'.trans g2) (C2.setV i (RelO1.rel (p := p) (RelO1.mono g2 d hh r) upd_same)) q⟩
end
/-! ### a def keeps its promise -/
section
variable {P : Program} {w : World} {K : PySem.W.Frag} {mg : Str → Option Value} {base : Heap}
/-- the slots at the entry -/
theorem cf_start {F : Hp} {pa : Option Addr} {t : Ts} {H : Hp} {N : List Str} {ds : List D} {vs : List V} (C : Cf K (B0 F pa t H) F pa t [] [] H) (r : RelL K F pa ds vs) : Cf K (B0 F pa t H) F pa t (start0 N ds) (start N vs) H := by
  have hl := r.len
  have val : ∀ (i : Nat) (d : D), (start0 N ds)[i]? = some (Sl.val d) → ds[i]? = some d := fun i d e => by
    unfold start0 at e
    by_cases hi : i < ds.length
    · rw [List.getElem?_append_left (by simpa using hi), List.getElem?_map] at e
      cases q : ds[i]? with
      | none => rw [q] at e; cases e
      | some x => rw [q] at e; cases e; rfl
    · rw [List.getElem?_append_right (by simpa using hi), List.getElem?_replicate] at e
      split at e <;> cases e
  have noown : ∀ (i : Nat) (d : D), (start0 N ds)[i]? ≠ some (Sl.own d) := fun i d e => by
    unfold start0 at e
    by_cases hi : i < ds.length
    · rw [List.getElem?_append_left (by simpa using hi), List.getElem?_map] at e
      cases q : ds[i]? with
      | none => rw [q] at e; cases e
      | some x => rw [q] at e; cases e
    · rw [List.getElem?_append_right (by simpa using hi), List.getElem?_replicate] at e
      split at e <;> cases e
  refine ⟨by simp [start0, L2.start, hl], C.sub, C.bas, C.frm, C.new, C.exl, fun i d e => ?_, fun i d e => absurd e (noown i d), fun i j d e a q => absurd q (noown i d), C.pen, C.pnn, C.tab, C.ntb, C.obs, C.obx, fun i d a q => absurd q (noown i d)⟩
  obtain ⟨v, h1, h2⟩ := r.get (val i d e)
  refine ⟨v, ?_, h2⟩
  unfold L2.start
  have hi : i < vs.length := (List.getElem?_eq_some_iff.mp h1).1
  rw [List.getElem?_append_left (by simpa using hi), List.getElem?_map, h1]
  rfl
/-- THE RULE for a def: its body's reading ds, and what ds does from the arguments -/
theorem fn_ok {x qual : Str} {st : Stmt} {f : Addr} {fd : FuncData} {N ps : List Str} {k : Nat} {sp : PSp} {ds : DS} (Fu : Fun K x qual st f fd) (S : FnScope N ps (defScope st)) (len : ∀ as t Q, sp as t Q → as.length = ps.length)
    (hbody : ∀ (cdv : Value) (A : Around) (outer : List PySem.Env) (s : Shared) (H : Hp) (E : XK) (B : Bs), Room k (A.deeper (envOfC qual (defScope st) s.heap.objs.size f cdv)) → B.Top → B.m = false →
      QSs (cxOf CX0 P w K mg base N qual (defScope st) f cdv A outer s H E).nox B (defBody st) ds)
    (hds : ∀ as t Q, sp as t Q → ds (endsOf Q) (start0 N as) t) : FnOk P w K mg base CX0 (k + 1) f fd ps (lift K sp) := by
  refine Fu.ok S (fun vs H Q E h => ?_) (fun cdv A outer s H vs Q E hr h => ?_)
  · obtain ⟨F, pa, t, as, R, C, r, q, _⟩ := h
    rw [r.len]; exact len as t R q
  · obtain ⟨F, pa, t, as, R, C, r, q, fin⟩ := h
    refine ⟨_, hbody cdv A outer s H E (B0 F pa t H) hr (B0.top F pa t H) rfl, F, pa, t, start0 N as, endsOf R, cf_start C r, hds as t R q, ⟨?_, ?_, ?_, ?_⟩⟩
    · intro F' pa' t' env σ H' g C' q'
      exact fin .non .non F' pa' t' H' C'.nil rD_non q'
    · intro v d F' pa' t' env σ H' g C' r' q'
      exact fin v d F' pa' t' H' C'.nil r' q'
    · intro F' pa' t' env σ H' g C' q'
      exact q'.elim
    · intro F' pa' t' env σ H' g C' q'
      exact q'.elim
/-- .. that tells back a new object -/
theorem fn_okN {x qual : Str} {st : Stmt} {f : Addr} {fd : FuncData} {N ps : List Str} {k : Nat} {sp : PSp} {ds : DS} (Fu : Fun K x qual st f fd) (S : FnScope N ps (defScope st)) (len : ∀ as t Q, sp as t Q → as.length = ps.length)
    (hbody : ∀ (cdv : Value) (A : Around) (outer : List PySem.Env) (s : Shared) (H : Hp) (E : XK) (B : Bs), Room k (A.deeper (envOfC qual (defScope st) s.heap.objs.size f cdv)) → B.Top → B.m = true →
      QSs (cxOf CX0 P w K mg base N qual (defScope st) f cdv A outer s H E).nox B (defBody st) ds)
    (hds : ∀ as t Q, sp as t Q → ds (endsN Q) (start0 N as) t) : FnOk P w K mg base CX0 (k + 1) f fd ps (liftN K sp) := by
  refine Fu.ok S (fun vs H Q E h => ?_) (fun cdv A outer s H vs Q E hr h => ?_)
  · obtain ⟨F, pa, t, as, R, C, r, q, _⟩ := h
    rw [r.len]; exact len as t R q
  · obtain ⟨F, pa, t, as, R, C, r, q, fin⟩ := h
    refine ⟨_, hbody cdv A outer s H E (B1 F pa t H) hr (B1.top F pa t H) rfl, F, pa, t, start0 N as, _, (cf_start C r).cong rfl rfl rfl rfl rfl, hds as t R q, ⟨?_, ?_, ?_, ?_⟩⟩
    · intro F' pa' t' env σ H' g C' q'
      exact q'.elim
    · intro v d F' pa' t' env σ H' g C' r' q'
      rcases r' with ⟨rfl, rfl⟩ | ⟨p, h, rfl, n1, n2, n3, n4, e, r'⟩
      · exact q'.elim
      have q2 : R d t' := by
        cases d with
        | non => exact q'.elim
        | _ => exact q'
      exact fin p h d F' pa' t' H' (C'.nil.cong rfl rfl rfl rfl rfl) n1 n2 n3 n4 e r' q2
    · intro F' pa' t' env σ H' g C' q'
      exact q'.elim
    · intro F' pa' t' env σ H' g C' q'
      exact q'.elim
end
end Q
/-! QH7 -/
namespace Q
open PySem L2 PyProof.Rows
section
variable {X : Cx} {B : Bs} {K : PySem.W.Frag} {a b c e o i' : Expr} {es : List Expr} {pos : Pos} {da db dk dz : DE} {as : DA}
theorem keyD_v {F : Hp} {pa : Option Addr} {t : Ts} {env : En} {σ : L2.St} {H : Hp} {d : D} {v : V} {k : Ky} (W : Cf K B F pa t env σ H) (r : RelX K F pa env σ d v) (h : keyD d = some k) : v = kV k := by
  cases d with
  | int i => cases h; exact r.int W
  | str x => cases h; exact r.str W
  | _ => cases h
theorem getL_val {F : Hp} {pa : Option Addr} {k : Ky} : ∀ {ks : List Ky} {l : List D} {vs : List V}, RelL K F pa l vs → ks.length = vs.length → (∀ d, getL ks l k = some d → ∃ v, valV (ks.zip vs) k = some v ∧ RelD K F pa d v) ∧ (getL ks l k = none → valV (ks.zip vs) k = none)
  | [], l, vs, r, hl => ⟨fun d h => by simp [getL] at h, fun _ => by simp [valV]⟩
  | k' :: ks, [], vs, r, hl => by rw [r.inv0] at hl; simp at hl
  | k' :: ks, x :: l, vs, r, hl => by
    obtain ⟨v, vr, rfl, r1, r2⟩ := r.inv
    have hl' : ks.length = vr.length := by simpa using hl
    obtain ⟨h1, h2⟩ := getL_val (k := k) r2 hl'
    simp only [getL, List.zip_cons_cons]
    by_cases e : k' = k
    · rw [if_pos e, valV_pos (p := (k', v)) e]
      exact ⟨fun d h => by cases h; exact ⟨v, rfl, r1⟩, fun h => by cases h⟩
    · rw [if_neg e, valV_neg (p := (k', v)) e]
      exact ⟨h1, h2⟩
theorem any_zip {k : Ky} : ∀ {ks : List Ky} {vs : List V}, ks.length = vs.length → ((ks.zip vs).any fun kv => decide (kv.1 = k)) = ks.any fun x => decide (x = k)
  | [], vs, _ => by simp
  | k' :: ks, [], h => by simp at h
  | k' :: ks, v :: vs, h => by
    simp only [List.zip_cons_cons, List.any_cons]
    rw [any_zip (by simpa using h)]
theorem putL_zip {F : Hp} {pa : Option Addr} {k : Ky} {y : D} {u : V} (ry : RelD K F pa y u) {ks : List Ky} {l : List D} {vs : List V} (r : RelL K F pa l vs) (hl : ks.length = vs.length) : ∃ ws, putK (ks.zip vs) k u = (putKs ks k).zip ws ∧ (putKs ks k).length = ws.length ∧ RelL K F pa (putL ks l k y) ws := by
  have go : ∀ (ks : List Ky) (l : List D) (vs : List V), RelL K F pa l vs → ks.length = vs.length → ∃ ws, (ks.zip vs).map (fun kv => if kv.1 = k then (kv.1, u) else kv) = ks.zip ws ∧ ks.length = ws.length ∧ RelL K F pa (repL ks l k y) ws := by
    intro ks
    induction ks with
    | nil =>
      intro l vs r hl
      refine ⟨[], rfl, rfl, ?_⟩
      cases l <;> exact RelL.nil
    | cons k' ks ih =>
      intro l vs r hl
      cases l with
      | nil => rw [r.inv0] at hl; simp at hl
      | cons x l =>
        obtain ⟨v, vr, rfl, r1, r2⟩ := r.inv
        have hl' : ks.length = vr.length := by simpa using hl
        obtain ⟨ws, q1, q2, q3⟩ := ih l vr r2 hl'
        by_cases e : k' = k
        · refine ⟨u :: ws, ?_, by simpa using q2, ?_⟩
          · simp only [List.zip_cons_cons, List.map_cons, if_pos e, q1]
          · show RelL K F pa ((if k' = k then y else x) :: repL ks l k y) _
            rw [if_pos e]
            exact RelL.cons ry q3
        · refine ⟨v :: ws, ?_, by simpa using q2, ?_⟩
          · simp only [List.zip_cons_cons, List.map_cons, if_neg e, q1]
          · show RelL K F pa ((if k' = k then y else x) :: repL ks l k y) _
            rw [if_neg e]
            exact RelL.cons r1 q3
  unfold putK putKs putL hasK
  rw [any_zip hl]
  cases q : ks.any fun x => decide (x = k) with
  | true =>
    simp only [if_true]
    exact go ks l vs r hl
  | false =>
    simp only [Bool.false_eq_true, if_false]
    refine ⟨vs ++ [u], ?_, by simp [hl], r.append (.cons ry .nil)⟩
    rw [List.zip_append hl]; rfl
/-- {} -/
theorem q_dnew : QN X B (.Dict [] [] pos) (dC (.dic [] [])) := PE.imp pe_dnewK fun σ H Q ⟨F, pa, t, env, P, C, h, k⟩ => fun p hp =>
  k p _ (.dic [] []) F pa t _ (Gr.refl _ _) (C.loose _ hp) (C.nw hp) upd_same ⟨[], rfl, rfl, RelL.nil⟩ h
end
end Q
/-! QH8 -/
namespace Q
open PySem L2 PyProof.Rows
section
variable {X : Cx} {B : Bs} {K : PySem.W.Frag} {a b c e o i' : Expr} {es : List Expr} {pos : Pos} {da db dk dz : DE} {as : DA}
/-- the readings of a display's pairs -/
def dispT (K : PySem.W.Frag) (l : List (Str × DE)) : List (TE × TE) := l.map fun p => (tC (.str p.1), teU K p.2)
theorem q_pnil : PPs X pos [] [] (dispT X.K []) := pps_nil
theorem q_pcons {k : Str} {j : Nat} {p : Pos} {ks : List (Option Expr)} {vs : List Expr} {l : List (Str × DE)} (hv : ∀ B, QE X B e da) (hr : PPs X pos ks vs (dispT X.K l)) : PPs X pos (some (.Constant (.str k) j p) :: ks) (e :: vs) (dispT X.K ((k, da) :: l)) :=
  pps_cons pe_str (pe_U hv) hr
theorem ev_disp {l : List (Str × DE)} : ∀ {σ : L2.St} {F : Hp} {pa : Option Addr} {t : Ts} {env : En} {H : Hp} {P : List D → Ts → Prop} {Q : List (V × V) → Hp → Prop} {D : Addr} {h : HO}, Cf K B F pa t env σ H → Nw B F pa t env σ D → H D = some h → dDispL l env t P →
    (∀ vs ds F' pa' t' H', Gr F pa F' pa' → Cf K B F' pa' t' env σ H' → Nw B F' pa' t' env σ D → H' D = some h → RelL K F' pa' ds vs → ds.length = l.length → P ds t' → Q ((l.map fun p => V.str p.1).zip vs) H') → tPairs (dispT K l) σ H Q := by
  induction l with
  | nil =>
    intro σ F pa t env H P Q D h C n e hd k
    exact k [] [] F pa t H (Gr.refl _ _) C n e RelL.nil rfl hd
  | cons p l ih =>
    intro σ F pa t env H P Q D h C n e hd k
    have CB := C.block []
    have dn : D ∉ (Bk F pa t (wipeE env []) (wipe σ []) H).ex := fun z => by
      rcases List.mem_append.mp z with z | z
      · exact n.a (mem_pa.mp z)
      · obtain ⟨j, d, h1, h2⟩ := mem_ownA.mp z
        exact n.s j d h1 h2
    refine ⟨_, F, pa, t, env, _, CB, hd, fun v d F1 pa1 t1 H1 g1 C1 r1 q1 => ?_⟩
    obtain ⟨g, C2⟩ := C.join (vs := []) C1 rfl rfl
    have e1 : H1 D = some h := C1.frm D _ e dn (fun ⟨d, z⟩ => by rw [n.o] at z; cases z)
    have n1 : Nw B F1 pa1 t1 env σ D := by
      refine ⟨?_, n.b, fun z => ?_, n.s, noo_of n.o C1 e⟩
      · cases z : F1 D with
        | none => rfl
        | some o =>
          rcases C1.new D o z with ⟨o', q⟩ | q
          · have q : F D = some o' := q
            rw [n.f] at q; cases q
          · have q : H D = none := q
            rw [e] at q; cases q
      · rcases (C1.pen D z).2.2 with q | q
        · exact dn q
        · have q : H D = none := q
          rw [e] at q; cases q
    exact ih C2 n1 e1 q1 fun vs ds F2 pa2 t2 H2 g2 C3 n3 e3 r3 l3 q3 => k (v :: vs) (d :: ds) F2 pa2 t2 H2 (g.trans g2) C3 n3 e3 (.cons (RelD.mono g2 d v r1) r3) (by simp [l3]) q3
theorem merge_nd : ∀ {more acc : List (L2.Key × V)}, ((acc ++ more).map (·.1)).Nodup → mergeK acc more = acc ++ more
  | [], acc, _ => by simp [mergeK]
  | p :: more, acc, h => by
    have : valV acc p.1 = none := by
      cases q : valV acc p.1 with
      | none => rfl
      | some v =>
        exfalso
        have hm : p.1 ∈ acc.map (·.1) := by
          unfold valV at q
          cases z : acc.find? (fun kv => decide (kv.1 = p.1)) with
          | none => rw [z] at q; cases q
          | some x =>
            have h1 := List.mem_of_find?_eq_some z
            have h2 := List.find?_some z
            exact List.mem_map.mpr ⟨x, h1, of_decide_eq_true h2⟩
        rw [List.map_append, List.nodup_append] at h
        exact h.2.2 _ hm _ (List.mem_cons_self ..) rfl
    show mergeK (putK acc p.1 p.2) more = _
    rw [putK_new p.2 this, merge_nd (by simpa using h)]
    simp
theorem q_disp {keys : List (Option Expr)} {values : List Expr} {l : List (Str × DE)} (h : PPs X pos keys values (dispT X.K l)) (nd : (l.map fun p => p.1).Nodup) (h15 : l.length ≤ 15) (hall : keys.all (·.isSome) = true := by rfl) (hl : keys.length = values.length := by rfl) (h0 : keys ≠ [] := by exact fun z => nomatch z)
    (h15' : keys.length ≤ 15 := by decide) : QN X B (.Dict keys values pos) (dDisp l) := PE.imp (pe_disp h hall hl h0 h15') fun σ H Q ⟨F, pa, t, env, P, C, hd, k⟩ => fun p hp => by
  refine ev_disp (C.loose _ hp) (C.nw hp) upd_same hd fun vs ds F' pa' t' H' g C' n e r ld q => ?_
  have hlen : vs.length = l.length := by rw [r.len, ld]
  have e1 : ∀ (l : List (Str × DE)) (vs : List V), (l.map fun p => V.str p.1).zip vs = ((l.map fun p => (Sum.inr p.1 : L2.Key)).zip vs).map fun kv => (kV kv.1, kv.2) := by
    intro l
    induction l with
    | nil => intro vs; rfl
    | cons x l ih =>
      intro vs
      cases vs with
      | nil => rfl
      | cons v vs => simp only [List.map_cons, List.zip_cons_cons, ih vs]; rfl
  have nd2 : (((l.map fun p => (Sum.inr p.1 : L2.Key)).zip vs).map (·.1)).Nodup := by
    rw [List.map_fst_zip (by simp [hlen])]
    have : (l.map fun p => (Sum.inr p.1 : L2.Key)) = (l.map fun p => p.1).map Sum.inr := by simp
    rw [this]
    exact List.Pairwise.map _ (fun a b h z => h (Sum.inr.inj z)) nd
  have e2 := merge_nd (more := (l.map fun p => (Sum.inr p.1 : L2.Key)).zip vs) (acc := []) (by simpa using nd2)
  refine ⟨e, (l.map fun p => (Sum.inr p.1 : L2.Key)).zip vs, e1 l vs, by rw [List.length_zip]; simp; omega, ?_⟩
  rw [e2]
  exact k p _ _ F' pa' t' _ g (C'.write n) n upd_same (show RelO1 X.K F' pa' (.dic (l.map fun p => .inr p.1) ds) _ from ⟨vs, rfl, by simp [hlen], r⟩) q
end
end Q
/-! QH9 -/
namespace Q
open PySem L2 PyProof.Rows
section
variable {X : Cx} {B : Bs} {K : PySem.W.Frag} {a b c e o i' : Expr} {es : List Expr} {pos : Pos} {da db dk dz : DE} {as : DA}
theorem Cf.wrPen {F : Hp} {pa : Option Addr} {t t' : Ts} {env : En} {σ : L2.St} {H : Hp} (C : Cf K B F pa t env σ H) {a : Addr} {h : HO} (e : pa = some a) (p : PenOk F t' h) (ho : t'.obs = t.obs := by rfl) : Cf K B F pa t' env σ (upd H a h) := by
  obtain ⟨f0, ⟨h0, e0, p0⟩, x0⟩ := C.pen a e
  have nb : ∀ {c : Addr} {u : HO}, F c = some u → c ≠ a := fun z => ne_of_none z f0
  refine ⟨C.len, fun c u q => by rw [upd_ne (nb q)]; exact C.sub c u q, C.bas, fun c u q hx ho => ?_, C.new, fun c hc => ?_, C.val, fun i d q => ?_, C.sep, fun c q => ?_, C.pnn, C.tab.hs (fun p _ ps z => by rw [upd_ne (fun y => by rw [y, e0] at z; obtain ⟨ca, w, _⟩ := p0; rw [w] at z; cases z)]; exact z), C.ntb, fun c d q => by
    rw [ho] at q
    obtain ⟨h1, ⟨u, h2, h3⟩, h4, h5⟩ := C.obs c d q
    refine ⟨h1, ⟨u, ?_, h3⟩, h4, h5⟩
    rw [upd_ne ?_]
    · exact h2
    · rintro rfl
      exact h4 e, fun c z => by rw [ho]; exact C.obx c z, fun i d c z s => by rw [ho]; exact C.osp i d c z s⟩
  · rw [upd_ne ?_]
    · exact C.frm c u q hx ho
    · rintro rfl
      rcases x0 with z | z
      · exact hx z
      · rw [z] at q; cases q
  · by_cases hc' : c = a
    · subst hc'; exact ⟨h, upd_same⟩
    · obtain ⟨u, q⟩ := C.exl c hc
      exact ⟨u, by rw [upd_ne hc']; exact q⟩
  · obtain ⟨c, u, h1, h2, h3, h4, h5, h6⟩ := C.own i d q
    refine ⟨c, u, h1, ?_, h3, h4, h5, h6⟩
    rw [upd_ne ?_]
    · exact h2
    · rintro rfl
      exact h5 e
  · rw [e] at q; cases q
    exact ⟨f0, ⟨h, upd_same, p⟩, x0⟩
theorem pen_at {F : Hp} {pa : Option Addr} {t : Ts} {env : En} {σ : L2.St} {H : Hp} {v : V} (C : Cf K B F pa t env σ H) (r : RelX K F pa env σ .pen v) : ∃ a ca, v = .ref a ∧ pa = some a ∧ H a = some (.dK (penRows t ca)) ∧ F ca = some (.lst (t.cells.map V.int)) := by
  rcases r with r | ⟨i, h1, h2⟩
  · unfold RelD at r
    obtain ⟨a, e, rfl⟩ := r
    obtain ⟨_, ⟨h, q, ca, rfl, z⟩, _⟩ := C.pen a e
    exact ⟨a, ca, rfl, e, q, z⟩
  · obtain ⟨a, h, s1, q, z, _⟩ := C.own i _ h1
    exact z.elim
theorem q_penC {j : Nat} {p1 : Pos} (hu : X.A.units + 1 < cLine) (ho : QV X B o da) (hs : NoSl (.Constant (.str "cells") j p1)) : QE X B (.Subscript o (.Constant (.str "cells") j p1) pos) (dPenC da) := PE.imp (pe_dget hu ho (pe_str (x := "cells")) hs) fun σ H Q ⟨F, pa, t, env, P, C, h, k⟩ =>
  ⟨F, pa, t, env, _, C, h, fun v d F1 pa1 t1 H1 g1 C1 r1 q1 => by
    cases d with
    | pen =>
      obtain ⟨a, ca, rfl, e, q, z⟩ := pen_at C1 r1
      refine ⟨a, .ref ca, rfl, ?_, k _ _ F1 pa1 t1 H1 g1 C1 (by unfold RelD; exact ⟨ca, _, rfl, z, RelL.of_ints _⟩) q1⟩
      have dg := DGet.k (k := Sum.inr "cells") q
      have : valV (penRows t1 ca) (Sum.inr "cells" : L2.Key) = some (.ref ca) := by
        unfold penRows; split <;> exact valV_pos rfl
      rw [this] at dg
      exact dg
    | _ => exact q1.elim⟩
theorem val2 {k1 k2 k3 : Str} {v1 v2 v3 : V} (h : ¬ k1 = k2) : valV [((Sum.inr k1 : L2.Key), v1), (.inr k2, v2), (.inr k3, v3)] (.inr k2) = some v2 := by
  rw [valV_neg (fun z => h (Sum.inr.inj z)), valV_pos rfl]
theorem val3 {k1 k2 k3 : Str} {v1 v2 v3 : V} (h : ¬ k1 = k3) (h' : ¬ k2 = k3) : valV [((Sum.inr k1 : L2.Key), v1), (.inr k2, v2), (.inr k3, v3)] (.inr k3) = some v3 := by
  rw [valV_neg (fun z => h (Sum.inr.inj z)), valV_neg (fun z => h' (Sum.inr.inj z)), valV_pos rfl]
theorem put2 {k1 k2 k3 : Str} {v1 v2 v3 y : V} (h : ¬ k1 = k2) (h' : ¬ k3 = k2) : putK [((Sum.inr k1 : L2.Key), v1), (.inr k2, v2), (.inr k3, v3)] (.inr k2) y = [(.inr k1, v1), (.inr k2, y), (.inr k3, v3)] := by
  have e1 : ¬ ((Sum.inr k1 : L2.Key) = Sum.inr k2) := fun z => h (Sum.inr.inj z)
  have e3 : ¬ ((Sum.inr k3 : L2.Key) = Sum.inr k2) := fun z => h' (Sum.inr.inj z)
  simp [putK, e1, e3, h, h']
theorem put3 {k1 k2 k3 : Str} {v1 v2 v3 y : V} (h : ¬ k1 = k3) (h' : ¬ k2 = k3) : putK [((Sum.inr k1 : L2.Key), v1), (.inr k2, v2), (.inr k3, v3)] (.inr k3) y = [(.inr k1, v1), (.inr k2, v2), (.inr k3, y)] := by
  simp [putK, h, h']
theorem q_penA {b : Bool} {kw : Str} {j : Nat} {p1 : Pos} (hu : X.A.units + 1 < cLine) (ho : QV X B o da) (hk : kw = (if b then "turn" else "at" : Str)) (hs : NoSl (.Constant (.str kw) j p1)) : QE X B (.Subscript o (.Constant (.str kw) j p1) pos) (dPenA b da) := PE.imp (pe_dget hu ho (pe_str (x := kw)) hs) fun σ H Q ⟨F, pa, t, env, P, C, h, k⟩ =>
  ⟨F, pa, t, env, _, C, h, fun v d F1 pa1 t1 H1 g1 C1 r1 q1 => by
    cases d with
    | pen =>
      obtain ⟨hb, q1⟩ := q1
      obtain ⟨a, ca, rfl, e, q, z⟩ := pen_at C1 r1
      refine ⟨a, .int t1.at', rfl, ?_, k _ _ F1 pa1 t1 H1 g1 C1 (rD_int _) q1⟩
      have dg := DGet.k (k := Sum.inr kw) q
      have : valV (penRows t1 ca) (Sum.inr kw : L2.Key) = some (.int t1.at') := by
        unfold penRows
        rw [hb, hk]
        cases b
        · exact val2 (by decide +kernel)
        · exact val2 (by decide +kernel)
      rw [this] at dg
      exact dg
    | _ => exact q1.elim⟩
theorem q_penL {b : Bool} {kw : Str} {j : Nat} {p1 : Pos} (hu : X.A.units + 1 < cLine) (ho : QV X B o da) (hk : kw = (if b then "rest" else "left" : Str)) (hs : NoSl (.Constant (.str kw) j p1)) : QE X B (.Subscript o (.Constant (.str kw) j p1) pos) (dPenL b da) := PE.imp (pe_dget hu ho (pe_str (x := kw)) hs) fun σ H Q ⟨F, pa, t, env, P, C, h, k⟩ =>
  ⟨F, pa, t, env, _, C, h, fun v d F1 pa1 t1 H1 g1 C1 r1 q1 => by
    cases d with
    | pen =>
      obtain ⟨hb, q1⟩ := q1
      obtain ⟨a, ca, rfl, e, q, z⟩ := pen_at C1 r1
      refine ⟨a, .int t1.left, rfl, ?_, k _ _ F1 pa1 t1 H1 g1 C1 (rD_int _) q1⟩
      have dg := DGet.k (k := Sum.inr kw) q
      have : valV (penRows t1 ca) (Sum.inr kw : L2.Key) = some (.int t1.left) := by
        unfold penRows
        rw [hb, hk]
        cases b
        · exact val3 (by decide +kernel) (by decide +kernel)
        · exact val3 (by decide +kernel) (by decide +kernel)
      rw [this] at dg
      exact dg
    | _ => exact q1.elim⟩
theorem pen_name {F : Hp} {pa : Option Addr} {t : Ts} {env : En} {σ : L2.St} {H : Hp} {i : Nat} {p : Prop} (C : Cf K B F pa t env σ H) (h : match env[i]? with | some (.val .pen) => p | _ => False) : p ∧ ∃ a ca, σ[i]? = some (some (V.ref a)) ∧ pa = some a ∧ H a = some (.dK (penRows t ca)) ∧ F ca = some (.lst (t.cells.map V.int)) := by
  split at h
  · rename_i e
    obtain ⟨v, h1, h2⟩ := C.val i _ e
    obtain ⟨a, ca, rfl, r⟩ := pen_at C (.inl h2)
    exact ⟨h, a, ca, h1, r⟩
  · exact h.elim
theorem q_putA {b : Bool} {kw : Str} {i : Nat} {x : Str} {j : Nat} {p p1 pos' : Pos} (hu : X.A.units + 1 < cLine) (hx : PE X (.Name x p) (tVar i)) (he : QE X B e da) (hk : kw = (if b then "turn" else "at" : Str)) (hs : swapsWith e (some (.Subscript (.Name x p) (.Constant (.str kw) j p1) pos')) pos.line X.env = pure false := by rfl) :
    QS X B (.Assign [.Subscript (.Name x p) (.Constant (.str kw) j p1) pos'] e pos) (dPutA b i da) :=
  PS.imp (ps_dput hu hx (pe_str (x := kw)) he hs) fun De σ H ⟨F, pa, t, env, DD, C, h, R⟩ => ⟨F, pa, t, env, _, C, h, fun w y F' pa' t' H' g' C' r2 q2 => by
    cases y with
    | int n =>
      unfold RelD at r2
      subst r2
      obtain ⟨⟨hb, q2⟩, a, ca, s1, e1, q, z⟩ := pen_name C' q2
      refine ⟨.ref a, s1, a, _, rfl, DPut.k (k := Sum.inr kw) q (by unfold penRows; rw [sizeLine_eq]; split <;> simp), ?_⟩
      refine R.nx F' pa' ⟨t'.cells, n, t'.left, t'.tape, t'.obs⟩ env σ _ g' (C'.wrPen (t' := ⟨t'.cells, n, t'.left, t'.tape, t'.obs⟩) e1 ⟨ca, ?_, z⟩) q2
      unfold penRows
      rw [hb, hk]
      cases b
      · exact congrArg HO.dK (put2 (k1 := "cells") (k2 := "at") (k3 := "left") (by decide +kernel) (by decide +kernel))
      · exact congrArg HO.dK (put2 (k1 := "cells") (k2 := "turn") (k3 := "rest") (by decide +kernel) (by decide +kernel))
    | _ => exact q2.elim⟩
theorem q_putL {b : Bool} {kw : Str} {i : Nat} {x : Str} {j : Nat} {p p1 pos' : Pos} (hu : X.A.units + 1 < cLine) (hx : PE X (.Name x p) (tVar i)) (he : QE X B e da) (hk : kw = (if b then "rest" else "left" : Str)) (hs : swapsWith e (some (.Subscript (.Name x p) (.Constant (.str kw) j p1) pos')) pos.line X.env = pure false := by rfl) :
    QS X B (.Assign [.Subscript (.Name x p) (.Constant (.str kw) j p1) pos'] e pos) (dPutL b i da) :=
  PS.imp (ps_dput hu hx (pe_str (x := kw)) he hs) fun De σ H ⟨F, pa, t, env, DD, C, h, R⟩ => ⟨F, pa, t, env, _, C, h, fun w y F' pa' t' H' g' C' r2 q2 => by
    cases y with
    | int n =>
      unfold RelD at r2
      subst r2
      obtain ⟨⟨hb, q2⟩, a, ca, s1, e1, q, z⟩ := pen_name C' q2
      refine ⟨.ref a, s1, a, _, rfl, DPut.k (k := Sum.inr kw) q (by unfold penRows; rw [sizeLine_eq]; split <;> simp), ?_⟩
      refine R.nx F' pa' ⟨t'.cells, t'.at', n, t'.tape, t'.obs⟩ env σ _ g' (C'.wrPen (t' := ⟨t'.cells, t'.at', n, t'.tape, t'.obs⟩) e1 ⟨ca, ?_, z⟩) q2
      unfold penRows
      rw [hb, hk]
      cases b
      · exact congrArg HO.dK (put3 (k1 := "cells") (k2 := "at") (k3 := "left") (by decide +kernel) (by decide +kernel))
      · exact congrArg HO.dK (put3 (k1 := "cells") (k2 := "turn") (k3 := "rest") (by decide +kernel) (by decide +kernel))
    | _ => exact q2.elim⟩
end
/-! ### the law's own def -/
section
variable {P : Program} {w : World} {K : PySem.W.Frag} {mg : Str → Option Value} {base : Heap}
/-- the law's promise -/
def spLaw (K : PySem.W.Frag) : Sp := fun vs H Q _ => ∃ (a : Addr) (ns : List Int), vs = [.ref a] ∧ Only H ∧ SqL K H a (ns.map V.int) ∧ ns.length ≤ 63 ∧ ∀ H', Q (.bl true) H'
/-- the frozen part at the entry: nothing but what may be the script -/
theorem law_body {qual : Str} {st : Stmt} {f : Addr} {N : List Str} {i : Nat} {s0 : Stmt} {rest : List Stmt} {dp : DE} {ds : DS} (hst : defBody st = s0 :: rest) {cdv : Value} {A : Around} {outer : List PySem.Env} {s : Shared} {H : Hp} {vs : List V} {Q : VK} {E : XK}
    (hfirst : ∀ B : Bs, PS (cxOf CX0 P w K mg base N qual (defScope st) f cdv A outer s H E).nox s0 (tAsg (tnOf K B dp) (L2.gName i)))
    (hbody : ∀ B : Bs, B.Top → B.m = false → QSs (cxOf CX0 P w K mg base N qual (defScope st) f cdv A outer s H E).nox B rest ds)
    (hi : i ≠ 0 ∧ i < N.length) (tape : Bool)
    (hds : ∀ ns : List Int, ns.length ≤ 63 → dp (start0 N [.scr ns]) ⟨[], 0, 0, false, noObs⟩ fun d _ => ∃ cs : List Int, d = .dic (if tape then [.inr "cells", .inr "turn", .inr "rest"] else [.inr "cells", .inr "at", .inr "left"]) [.lst (cs.map .int), .int 0, .int 0] ∧ cs.length ≤ 63 ∧
      ds (endsOf fun d _ => d = .bl true) ((start0 N [.scr ns]).set i (.val .pen)) ⟨cs, 0, 0, tape, noObs⟩) (h : spLaw K vs H Q E) :
    ∃ t, PSs (cxOf CX0 P w K mg base N qual (defScope st) f cdv A outer s H E).nox (defBody st) t ∧ t { nx := fun _ H' => Q .non H', rt := Q } (start N vs) H := by
  obtain ⟨a, ns, rfl, hO, hS, hl, fin⟩ := h
  rw [hst]
  have hall : PSs (cxOf CX0 P w K mg base N qual (defScope st) f cdv A outer s H E).nox rest (fun De σ H' => ∃ p' : Addr, tsOf K ⟨fun _ => none, fun _ => none, [], some p', false, [], fun _ => False⟩ ds De σ H') := ⟨fun pins s' σ H' De I ⟨p', q⟩ => (hbody ⟨fun _ => none, fun _ => none, [], some p', false, [], fun _ => False⟩ (fun a ha => by simp at ha) rfl).run pins s' σ H' De I q⟩
  refine ⟨_, pss_cons (hfirst (B0 H none ⟨[], 0, 0, false, noObs⟩ H)) hall, ?_⟩
  have C0 : Cf K (B0 H none ⟨[], 0, 0, false, noObs⟩ H) H none ⟨[], 0, 0, false, noObs⟩ [] [] H := ⟨rfl, fun _ _ e => e, fun _ _ e => e, fun _ _ e _ _ => e, fun a o e => .inl ⟨o, e⟩, fun a ha => by simp [B0] at ha, fun i d e => by simp at e, fun i d e => by simp at e, fun i j d e a q => by simp at q, fun a e => by simp at e, rfl, TabF.nil, fun a ps e => by
    rcases hO a with z | ⟨o, xs, z⟩ <;> rw [z] at e <;> simp at e, fun a d e => (nomatch e), fun a e => e, fun i d a e => by simp at e⟩
  have rs : RelL K H none [.scr ns] [.ref a] := .cons (by unfold RelD; exact ⟨a, rfl, hS⟩) .nil
  refine ⟨H, none, _, _, _, cf_start C0 rs, hds ns hl, fun p' h d F' pa' t' H' g C' n e r q => ?_⟩
  obtain ⟨cs, rfl, hcs, q⟩ := q
  obtain ⟨us, rfl, hlen, rl⟩ := r
  obtain ⟨v1, u1, rfl, r1, rl⟩ := rl.inv
  obtain ⟨v2, u2, rfl, r2, rl⟩ := rl.inv
  obtain ⟨v3, u3, rfl, r3, rl⟩ := rl.inv
  obtain rfl := rl.inv0
  unfold RelD at r1 r2 r3
  obtain ⟨ca, us, rfl, ec, rl4⟩ := r1
  subst r2 r3
  have eu : us = cs.map V.int := by
    have : ∀ {cs : List Int} {vs : List V}, RelL K F' pa' (cs.map .int) vs → vs = cs.map V.int := by
      intro cs
      induction cs with
      | nil => intro vs r; exact r.inv0
      | cons c cs ih =>
        intro vs r
        obtain ⟨v, vr, rfl, r1, r2⟩ := RelL.inv (show RelL K F' pa' (D.int c :: cs.map .int) vs from r)
        unfold RelD at r1
        rw [r1, ih r2]; rfl
    exact this rl4
  subst eu
  have C2 : Cf K ⟨fun _ => none, fun _ => none, [], some p', false, [], fun _ => False⟩ F' (some p') ⟨cs, 0, 0, tape, noObs⟩ ((start0 N [.scr ns]).set i (.val .pen)) ((start N [.ref a]).set i (some (.ref p'))) H' := by
    have noown : ∀ (j : Nat) (d : D), ((start0 N [.scr ns]).set i (.val .pen))[j]? ≠ some (Sl.own d) := fun j d e => by
      rcases get_set e with ⟨_, z⟩ | ⟨_, z⟩
      · cases z
      · have : ∀ (j : Nat) (d : D), (start0 N [.scr ns])[j]? ≠ some (Sl.own d) := fun j d e => by
          unfold start0 at e
          cases j with
          | zero => simp at e
          | succ j =>
            simp [List.getElem?_replicate] at e
        exact this j d z
    refine ⟨by simp [C'.len], C'.sub, fun _ _ z => (by cases z), fun _ _ z => (by cases z), fun _ _ _ => .inr rfl, fun _ z => (by simp at z), fun j d e => ?_, fun j d e => absurd e (noown j d), fun j j' d d' a q => absurd q (noown j d), fun a' e' => ?_, rfl, TabF.nil, C'.ntb, fun a d z => (nomatch z), fun a z => z.elim, fun j d a q => absurd q (noown j d)⟩
    · rcases get_set e with ⟨rfl, z⟩ | ⟨ne, z⟩
      · cases z
        refine ⟨.ref p', ?_, by unfold RelD; exact ⟨p', rfl, rfl⟩⟩
        rw [List.getElem?_set_self]
        unfold L2.start
        simp; omega
      · obtain ⟨v, h1, h2⟩ := C'.val j d z
        refine ⟨v, by rw [List.getElem?_set_ne ne]; exact h1, ?_⟩
        -- the only datum there is the script
        have hj : j = 0 ∧ d = .scr ns := by
          unfold start0 at z
          cases j with
          | zero => simp at z; exact ⟨rfl, z.symm⟩
          | succ j => simp [List.getElem?_replicate] at z
        obtain ⟨rfl, rfl⟩ := hj
        unfold RelD at h2 ⊢
        exact h2
    · cases e'
      refine ⟨n.f, ⟨_, e, ca, ?_, ec⟩, .inr rfl⟩
      unfold penRows
      cases tape <;> rfl
  refine ⟨p', F', some p', _, _, _, C2, q, ⟨?_, ?_, ?_, ?_⟩⟩
  · intro F pa t env σ H g C q
    cases q
  · intro v d F pa t env σ H g C r q
    have q : d = .bl true := q
    subst q
    unfold RetRel RelD at r
    rw [r]; exact fin H
  · intro F pa t env σ H g C q
    exact q.elim
  · intro F pa t env σ H g C q
    exact q.elim
theorem fn_law {x qual : Str} {st : Stmt} {f : Addr} {fd : FuncData} {N : List Str} {p : Str} {k i : Nat} {s0 : Stmt} {rest : List Stmt} {dp : DE} {ds : DS} (Fu : Fun K x qual st f fd) (S : FnScope N [p] (defScope st)) (hst : defBody st = s0 :: rest)
    (hfirst : ∀ (cdv : Value) (A : Around) (outer : List PySem.Env) (s : Shared) (H : Hp) (E : XK) (B : Bs), Room k (A.deeper (envOfC qual (defScope st) s.heap.objs.size f cdv)) →
      PS (cxOf CX0 P w K mg base N qual (defScope st) f cdv A outer s H E).nox s0 (tAsg (tnOf K B dp) (L2.gName i)))
    (hbody : ∀ (cdv : Value) (A : Around) (outer : List PySem.Env) (s : Shared) (H : Hp) (E : XK) (B : Bs), Room k (A.deeper (envOfC qual (defScope st) s.heap.objs.size f cdv)) → B.Top → B.m = false →
      QSs (cxOf CX0 P w K mg base N qual (defScope st) f cdv A outer s H E).nox B rest ds)
    (hi : i ≠ 0 ∧ i < N.length) (tape : Bool)
    (hds : ∀ ns : List Int, ns.length ≤ 63 → dp (start0 N [.scr ns]) ⟨[], 0, 0, false, noObs⟩ fun d _ => ∃ cs : List Int, d = .dic (if tape then [.inr "cells", .inr "turn", .inr "rest"] else [.inr "cells", .inr "at", .inr "left"]) [.lst (cs.map .int), .int 0, .int 0] ∧ cs.length ≤ 63 ∧
      ds (endsOf fun d _ => d = .bl true) ((start0 N [.scr ns]).set i (.val .pen)) ⟨cs, 0, 0, tape, noObs⟩) : FnOk P w K mg base CX0 (k + 1) f fd [p] (spLaw K) := by
  refine Fu.ok S (fun vs H Q E h => ?_) (fun cdv A outer s H vs Q E hr h => ?_)
  · obtain ⟨a, ns, rfl, _⟩ := h
    rfl
  · exact law_body hst (fun B => hfirst cdv A outer s H E B hr) (fun B => hbody cdv A outer s H E B hr) hi tape hds h
end
end Q
/-! QH10 -/
namespace Q
open PySem L2 PyProof.Rows
section
variable {X : Cx} {B : Bs} {K : PySem.W.Frag}
theorem iop_mulW : OpR X (inplaceOp .Mult) (rI CMulW fun i j => .int (i * j)) := opI fun _ _ _ _ _ _ _ hc q => imul_int q hc.ok
theorem iop_fdivW : OpR X (inplaceOp .FloorDiv) (rI CDivW fun i j => .int (i / j)) := opI fun i j _ _ _ _ _ hc q => by
  have h1 : (0 : Int) < j := hc.1
  exact ifloordiv_int (by omega) (by rw [Int.fdiv_eq_ediv_of_nonneg i (by omega)]; exact q) (.inl (PyProof.noPylong_of_log2 hc.2))
theorem iop_mul2 : OpR X (inplaceOp .Mult) (fun x y H Q => rI CMul (fun i j => .int (i * j)) x y H Q ∨ rI CMulW (fun i j => .int (i * j)) x y H Q) := iop_mul.or iop_mulW
theorem rop_addI : ROp K (rI0 fun i j => .int (i + j)) oAddI := rop_int0 (f := fun i j => .int (i + j)) (fun _ _ _ _ => rD_int _) fun x y P h => by
  cases x <;> cases y <;> first | exact ⟨_, _, rfl, rfl, h⟩ | exact (False.elim h)
theorem rop_mulI : ROp K (fun x y H Q => rI CMul (fun i j => .int (i * j)) x y H Q ∨ rI CMulW (fun i j => .int (i * j)) x y H Q) oMulI := fun B F pa t env σ H x y v u P Q W rx ry h k => by
  cases x with
  | int i =>
    cases y with
    | int j =>
      rcases sm_mul h.1 with c | c
      · exact .inl ⟨i, j, rx.int W, ry.int W, c, k _ _ F H (Gr.refl _ _) W (rD_int _) h.2⟩
      · exact .inr ⟨i, j, rx.int W, ry.int W, c, k _ _ F H (Gr.refl _ _) W (rD_int _) h.2⟩
    | _ => exact h.elim
  | _ => exact h.elim
end
end Q
/-! QH11 -/
namespace Q
open PySem L2 PyProof.Rows
section
variable {X : Cx} {B : Bs} {K : PySem.W.Frag} {a b c e o : Expr} {es : List Expr} {pos : Pos} {da db dc : DE} {as : DA} {st : Stmt}
/-! ### a list or a tuple, walked -/
def iAny (K : PySem.W.Frag) (tl : TE) : TI := fun σ H R => tl σ H fun x H1 => ∃ a, x = .ref a ∧ (((∃ xs, SqL K H1 a xs) ∧ R (Itl K a) H1) ∨ ((∃ xs, SqT K H1 a xs) ∧ R (Itt K a) H1))
theorem pi_any {tg : Expr} {tl : TE} (hl : PE X e tl) : PI X tg e (iAny X.K tl) := ⟨fun pins s σ H R I h => by
  refine thn (hl.run pins s σ H _ I h) ?_
  rintro v s1 ⟨x, H1, I1, r1, a, rfl, h2⟩
  cases r1
  have fp : ∀ b ∈ [s1.heap.objs.size], FpOk X pins H1 b := by
    intro b hb
    rw [List.mem_singleton.mp hb]
    exact I1.fpOk (Nat.le_refl _) (I1.hok.fresh (Nat.le_refl _))
  have kp : ∀ (u : Obj) b o, s1.heap.get? b = some o → (s1.heap.push u).get? b = some o := fun u b o z => Heap.get?_push_of_some _ z
  rcases h2 with ⟨⟨xs, hq⟩, q⟩ | ⟨⟨xs, hq⟩, q⟩
  · have L := I1.list hq
    obtain ⟨its, rv, p, hz⟩ := L
    exact wpAny_pyIter_list p.isList ⟨_, _, _, _, H1, rfl, I1.kept (t' := s1.toks) (kp _), turn_list a _, ⟨_, Heap.get?_push_size _ rfl, rfl, rfl⟩, fp, q⟩
  · have L := I1.tuple hq
    obtain ⟨its, rv, p, hz⟩ := L
    exact wpAny_pyIter_tuple (s := s1) (items := its.toArray) p ⟨_, _, _, _, H1, rfl, I1.kept (t' := s1.toks) (kp _), turn_tuple a _, ⟨_, Heap.get?_push_size _ rfl, rfl, rfl⟩, fp, q⟩⟩
theorem q_iany {tg : Expr} (he : QE X B e da) : QI X B tg e (iSeq da) := PI.imp (pi_any he) fun σ H R ⟨F, pa, t, env, P, C, h, k⟩ => ⟨F, pa, t, env, _, C, h, fun v d F' pa' t' H' g C' r q => by
  cases d with
  | lst l =>
    have r' := r
    unfold RelD at r'
    obtain ⟨a, vs, rfl, e1, r1⟩ := r'
    exact ⟨a, rfl, .inl ⟨⟨vs, SqL.of (C'.sub _ _ e1)⟩, k _ l F' pa' t' H' g C' (it_list (SqL.of e1) r1) q⟩⟩
  | tup l =>
    have r' := r
    unfold RelD at r'
    obtain ⟨a, vs, rfl, e1, r1⟩ := r'
    exact ⟨a, rfl, .inr ⟨⟨vs, SqT.of (C'.sub _ _ e1)⟩, k _ l F' pa' t' H' g C' (it_tup e1 r1) q⟩⟩
  | scr ns =>
    have r' := r
    unfold RelD at r'
    obtain ⟨a, rfl, e1⟩ := r'
    exact ⟨a, rfl, .inl ⟨⟨_, sq_mono C'.sub e1⟩, k _ _ F' pa' t' H' g C' (it_list e1 (RelL.of_ints ns)) q⟩⟩
  | _ => exact q.elim⟩
/-! ### isinstance, of built-in types -/
theorem RelX.tyx {F : Hp} {pa : Option Addr} {t : Ts} {env : En} {σ : L2.St} {H : Hp} {d : D} {v : V} {n : Tn} (W : Cf K B F pa t env σ H) (r : RelX K F pa env σ d v) (h : tn d = some n) : TyX K H v (.type n.name) := by
  cases d with
  | non => cases h; rw [r.non W]; exact .base .non
  | bl b => cases h; rw [r.bl W]; exact .base (.bl b)
  | int i => cases h; rw [r.int W]; exact .base (.int i)
  | str s => cases h; rw [r.str W]; exact .base (.str s)
  | lst l => cases h; obtain ⟨a, us, rfl, e, _⟩ := r.lst W; exact .base (.lst e)
  | tup l => cases h; obtain ⟨a, us, rfl, e, _⟩ := r.tup W; exact .base (.tup e)
  | dic ks l => cases h; obtain ⟨a, us, rfl, e, _⟩ := r.dic W; exact .base (.dK e)
  | _ => cases h
theorem kit_isa (n c : Tn) : PySem.W.kitOne K (.type n.name) (.type c.name) = some (isa n c) := by
  refine kit_ty ?_
  cases n <;> cases c <;> decide +kernel
theorem kit_isas (n : Tn) : ∀ cs : List Tn, PySem.W.kitAny K (.type n.name) (cs.map fun c => .type c.name) = some (cs.any (isa n))
  | [] => rfl
  | c :: cs => kitAny_cons (b := isa n c) (kit_isa n c) (fun h => by rw [kit_isas n cs]; simp [h]) (fun h => by simp [h])
section
variable {p p2 tpos : Pos} {x : Str}
/-- isinstance(e, T) -/
theorem q_isi {c : Tn} (he : QV X B e da) (hg : Gl X "isinstance") (hm : X.mg "isinstance" = none) (hg2 : Gl X x) (hm2 : X.mg x = none) (hv : bootBuiltins x = some (.type c.name)) (hn : x ≠ "__name__" := by decide) (hdb : (x == ("__debug__" : Str)) = false := by decide)
    (hs : starEach [e, .Name x p2] X.env = (false, eval e X.env) :: starEach [.Name x p2] X.env := by rfl) (hs2 : starEach [.Name x p2] X.env = (false, eval (.Name x p2) X.env) :: starEach [] X.env := by rfl) :
    QE X B (.Call (.Name "isinstance" p) [e, .Name x p2] [] pos) (dIsi [c] da) :=
  PE.imp (pe_callB call_isi hg hm (by rfl) (pa_cons he (pa_cons (pe_bltn (v := .ty c.name) hg2 hm2 hv rfl hn hdb) pa_nil hs2) hs) (by decide) (by decide) hs (by rfl)) fun σ H Q ⟨F, pa, t, env, P, C, h, k⟩ =>
    ⟨F, pa, t, env, _, C, h, fun v d F' pa' t' H' g C' r q => by
      split at q
      · rename_i n hn
        exact ⟨v, .ty c.name, _, _, _, rfl, .ty _, r.tyx C' hn, kit_isa n c, k _ _ F' pa' t' H' g C' (rD_bl _) (by simpa using q)⟩
      · exact q.elim⟩
theorem q_isi2 {c c2 : Tn} {x2 : Str} {p3 : Pos} {kk : Nat} (he : QV X B e da) (hg : Gl X "isinstance") (hm : X.mg "isinstance" = none) (hg2 : Gl X x) (hm2 : X.mg x = none) (hv : bootBuiltins x = some (.type c.name))
    (hg3 : Gl X x2) (hm3 : X.mg x2 = none) (hv3 : bootBuiltins x2 = some (.type c2.name)) (hn : x ≠ "__name__" := by decide) (hdb : (x == ("__debug__" : Str)) = false := by decide) (hn2 : x2 ≠ "__name__" := by decide) (hdb2 : (x2 == ("__debug__" : Str)) = false := by decide)
    (hs : starEach [e, .Tuple [.Name x p2, .Name x2 p3] kk tpos] X.env = (false, eval e X.env) :: starEach [.Tuple [.Name x p2, .Name x2 p3] kk tpos] X.env := by rfl)
    (hs1 : starEach [.Tuple [.Name x p2, .Name x2 p3] kk tpos] X.env = (false, eval (.Tuple [.Name x p2, .Name x2 p3] kk tpos) X.env) :: starEach [] X.env := by rfl)
    (hs2 : starEach [.Name x p2, .Name x2 p3] X.env = (false, eval (.Name x p2) X.env) :: starEach [.Name x2 p3] X.env := by rfl) (hs3 : starEach [.Name x2 p3] X.env = (false, eval (.Name x2 p3) X.env) :: starEach [] X.env := by rfl) :
    QE X B (.Call (.Name "isinstance" p) [e, .Tuple [.Name x p2, .Name x2 p3] kk tpos] [] pos) (dIsi [c, c2] da) :=
  PE.imp (pe_callB call_isiT hg hm (by rfl) (pa_cons he (pa_cons (pe_tup (pa_cons (pe_bltn (v := .ty c.name) hg2 hm2 hv rfl hn hdb) (pa_cons (pe_bltn (v := .ty c2.name) hg3 hm3 hv3 rfl hn2 hdb2) pa_nil hs3) hs2)) pa_nil hs1) hs) (by decide) (by decide) hs (by rfl)) fun σ H Q ⟨F, pa, t, env, P, C, h, k⟩ =>
    ⟨F, pa, t, env, _, C, h, fun v d F' pa' t' H' g C' r q => by
      split at q
      · rename_i n hn
        refine ⟨by show 2 ≤ sizeLine; unfold sizeLine; decide, fun tp ht => ?_⟩
        have C2 := C'.loose (.tup [V.ty c.name, V.ty c2.name]) ht
        exact ⟨v, tp, _, _, _, _, rfl, upd_same, .cons (.ty _) (.cons (.ty _) .nil), r.tyx C2 hn, kit_isas n [c, c2], k _ _ F' pa' t' _ g C2 (rD_bl _) q⟩
      · exact q.elim⟩
end
/-! ### an instance made -/
def BI (F : Hp) (pa : Option Addr) (t : Ts) (H : Hp) (x : Addr) : Bs := ⟨F, H, x :: pa.toList, pa, false, [], t.dom⟩
/-- what __init__ promises: the instance that it is handed holds the datum -/
def liftI (K : PySem.W.Frag) (C : Addr) (sp : PSp) : Sp := fun vs H Q E => ∃ x dx us F pa t ds P, vs = .ref x :: us ∧ H x = some (.ins C dx []) ∧ F x = none ∧ pa ≠ some x ∧ t.obs x = none ∧ Cf K (B0 F pa t H) F pa t [] [] H ∧ RelL K F pa ds us ∧ sp ds t P ∧
  ∀ h d F' pa' t' H', Cf K (BI F pa t H x) F' pa' t' [] [] H' → F' x = none → pa' ≠ some x → t'.obs x = none → H' x = some h → RelO1 K F' pa' d h → P d t' → Q .non H'
section
variable {CX : CXT} {k : Nat} {f Cl' : Addr} {fd : FuncData} {ps : List Str} {sp : PSp} {dvs : List V} {dds : List D} {ds : List Value} {E : XK} {x m : Str} {p apos : Pos}
/-- self.f = e -/
theorem putF_new {f : Str} {v : V} : ∀ {fs : List (Str × V)}, fs.lookup f = none → putF f v fs = fs ++ [(f, v)]
  | [], _ => rfl
  | (g, y) :: r, h => by
    have hne : ¬ g = f := by
      rintro rfl
      simp [List.lookup] at h
    have h2 : r.lookup f = none := by
      have : (f == g) = false := by simpa using fun z => hne z.symm
      simpa [List.lookup, this] using h
    show (if g = f then _ else _) = _
    rw [if_neg hne, putF_new h2]
    rfl
theorem zip_snoc {α β : Type} : ∀ {a : List α} {b : List β} {x : α} {y : β}, a.length = b.length → (a ++ [x]).zip (b ++ [y]) = a.zip b ++ [(x, y)]
  | [], [], _, _, _ => rfl
  | _ :: _, _ :: _, _, _, h => by
    simp only [List.cons_append, List.zip_cons_cons]
    rw [zip_snoc (by simpa using h)]
  | [], _ :: _, _, _, h => by simp at h
  | _ :: _, [], _, _, h => by simp at h
theorem relL_snoc {F : Hp} {pa : Option Addr} {d : D} {v : V} (h : RelD K F pa d v) : ∀ {l : List D} {vs : List V}, RelL K F pa l vs → RelL K F pa (l ++ [d]) (vs ++ [v])
  | [], vs, r => by
    have e : vs = [] := by unfold RelL at r; exact r
    subst e
    exact RelL.cons h (by unfold RelL; rfl)
  | x :: l, vs, r => by
    obtain ⟨v1, vr, rfl, r1, r2⟩ := r.inv
    exact RelL.cons r1 (relL_snoc h r2)
end
end
end Q
/-! QH12 -/
namespace Q
open PySem L2 PyProof.Rows
section
variable {K : PySem.W.Frag} {F F' : Hp} {pa : Option Addr}
/-! ### without a pen -/
mutual
theorem RelD.un : ∀ (d : D) (v : V), nopen d = true → RelD K F pa d v → RelD K F none d v
  | .non, v, _, h => by unfold RelD at h ⊢; exact h
  | .bl b, v, _, h => by unfold RelD at h ⊢; exact h
  | .int i, v, _, h => by unfold RelD at h ⊢; exact h
  | .str x, v, _, h => by unfold RelD at h ⊢; exact h
  | .ty n, v, _, h => by unfold RelD at h ⊢; exact h
  | .adr a, v, _, h => by unfold RelD at h ⊢; exact h
  | .rp a, v, _, h => by unfold RelD at h ⊢; exact h
  | .pen, v, n, h => by simp [nopen] at n
  | .scr ns, v, _, h => by unfold RelD at h ⊢; exact h
  | .lst l, v, n, h => by
    unfold RelD at h ⊢
    unfold nopen at n
    obtain ⟨a, vs, e, r, q⟩ := h
    exact ⟨a, vs, e, r, RelL.un l vs n q⟩
  | .tup l, v, n, h => by
    unfold RelD at h ⊢
    unfold nopen at n
    obtain ⟨a, vs, e, r, q⟩ := h
    exact ⟨a, vs, e, r, RelL.un l vs n q⟩
  | .dic ks l, v, n, h => by
    unfold RelD at h ⊢
    unfold nopen at n
    obtain ⟨a, vs, e, r, z, q⟩ := h
    exact ⟨a, vs, e, r, z, RelL.un l vs n q⟩
  | .ins C ns l, v, n, h => by
    unfold RelD at h ⊢
    unfold nopen at n
    obtain ⟨a, dx, vs, e, r, z, q⟩ := h
    exact ⟨a, dx, vs, e, r, z, RelL.un l vs n q⟩
theorem RelL.un : ∀ (l : List D) (vs : List V), nopens l = true → RelL K F pa l vs → RelL K F none l vs
  | [], vs, _, h => by unfold RelL at h ⊢; exact h
  | d :: ds, vs, n, h => by
    unfold RelL at h ⊢
    unfold nopens at n
    obtain ⟨v, vr, e, r, q⟩ := h
    have n2 := Bool.and_eq_true_iff.mp n
    exact ⟨v, vr, e, RelD.un d v n2.1 r, RelL.un ds vr n2.2 q⟩
end
mutual
theorem RelD.up : ∀ (d : D) (v : V), RelD K F none d v → RelD K F pa d v
  | .non, v, h => by unfold RelD at h ⊢; exact h
  | .bl b, v, h => by unfold RelD at h ⊢; exact h
  | .int i, v, h => by unfold RelD at h ⊢; exact h
  | .str x, v, h => by unfold RelD at h ⊢; exact h
  | .ty n, v, h => by unfold RelD at h ⊢; exact h
  | .adr a, v, h => by unfold RelD at h ⊢; exact h
  | .rp a, v, h => by unfold RelD at h ⊢; exact h
  | .pen, v, h => by
    unfold RelD at h
    obtain ⟨a, e, _⟩ := h
    cases e
  | .scr ns, v, h => by unfold RelD at h ⊢; exact h
  | .lst l, v, h => by
    unfold RelD at h ⊢
    obtain ⟨a, vs, e, r, q⟩ := h
    exact ⟨a, vs, e, r, RelL.up l vs q⟩
  | .tup l, v, h => by
    unfold RelD at h ⊢
    obtain ⟨a, vs, e, r, q⟩ := h
    exact ⟨a, vs, e, r, RelL.up l vs q⟩
  | .dic ks l, v, h => by
    unfold RelD at h ⊢
    obtain ⟨a, vs, e, r, z, q⟩ := h
    exact ⟨a, vs, e, r, z, RelL.up l vs q⟩
  | .ins C ns l, v, h => by
    unfold RelD at h ⊢
    obtain ⟨a, dx, vs, e, r, z, q⟩ := h
    exact ⟨a, dx, vs, e, r, z, RelL.up l vs q⟩
theorem RelL.up : ∀ (l : List D) (vs : List V), RelL K F none l vs → RelL K F pa l vs
  | [], vs, h => by unfold RelL at h ⊢; exact h
  | d :: ds, vs, h => by
    unfold RelL at h ⊢
    obtain ⟨v, vr, e, r, q⟩ := h
    exact ⟨v, vr, e, RelD.up d v r, RelL.up ds vr q⟩
end
/-! ### the state of a def that makes: the instance at x, of its own -/
theorem RelO1.un : ∀ {d : D} {h : HO}, nopen d = true → RelO1 K F pa d h → RelO1 K F none d h := fun {d h} n r => by
  cases d with
  | lst l => obtain ⟨vs, e, q⟩ := r; exact ⟨vs, e, RelL.un l vs (by simpa [nopen] using n) q⟩
  | dic ks l => obtain ⟨vs, e, z, q⟩ := r; exact ⟨vs, e, z, RelL.un l vs (by simpa [nopen] using n) q⟩
  | ins C ns l => obtain ⟨dx, vs, e, z, q⟩ := r; exact ⟨dx, vs, e, z, RelL.un l vs (by simpa [nopen] using n) q⟩
  | _ => exact r.elim
theorem RelO1.up : ∀ {d : D} {h : HO}, RelO1 K F none d h → RelO1 K F pa d h := fun {d h} r => by
  cases d with
  | lst l => obtain ⟨vs, e, q⟩ := r; exact ⟨vs, e, RelL.up l vs q⟩
  | dic ks l => obtain ⟨vs, e, z, q⟩ := r; exact ⟨vs, e, z, RelL.up l vs q⟩
  | ins C ns l => obtain ⟨dx, vs, e, z, q⟩ := r; exact ⟨dx, vs, e, z, RelL.up l vs q⟩
  | _ => exact r.elim
end
def BX (O : Addr → Prop) (F : Hp) (H : Hp) (x : Addr) : Bs := ⟨F, H, [x], none, false, [], O⟩
structure Is (K : PySem.W.Frag) (O : Addr → Prop) (F0 H0 : Hp) (x Cl' : Addr) (ns : List Str) (l : List D) (F : Hp) (t : Ts) (env : En) (σ : L2.St) (H : Hp) : Prop where
  c : Cf K (BX O F0 H0 x) F none t env σ H
  nov : ∀ (i : Nat) (d : D), env[i]? ≠ some (Sl.own d)
  ins : ∃ dx vs, H x = some (.ins Cl' dx (ns.zip vs)) ∧ ns.length = vs.length ∧ RelL K F none l vs
  f : F x = none
  s : σ[0]? = some (some (V.ref x))
  o : t.obs x = none
section
variable {K : PySem.W.Frag} {O : Addr → Prop} {F0 H0 : Hp} {x Cl' : Addr} {ns : List Str} {l : List D} {F F' : Hp} {t t' : Ts} {env : En} {σ : L2.St} {H H' : Hp} {B : Bs} {pa : Option Addr}
theorem Cf.here (C : Cf K B F pa t env σ H) (n : ∀ (i : Nat) (d : D), env[i]? ≠ some (Sl.own d)) : Cf K (B0 F pa t H) F pa t env σ H := by
  have C2 := C.call
  exact ⟨C.len, C2.sub, C2.bas, C2.frm, C2.new, C2.exl, C.val, fun i d e => absurd e (n i d), fun i j d e a q => absurd q (n i d), C2.pen, C2.pnn, C2.tab, C2.ntb, C2.obs, C2.obx, fun i d a e => absurd e (n i d)⟩
theorem Is.step (S : Is K O F0 H0 x Cl' ns l F t env σ H) {pa' : Option Addr} (C : Cf K (B0 F none t H) F' pa' t' env σ H') : pa' = none ∧ Is K O F0 H0 x Cl' ns l F' t' env σ H' := by
  have hp : pa' = none := C.pnn
  subst hp
  obtain ⟨g, C2⟩ := S.c.after C.nil
  obtain ⟨dx, vs, h1, h2, h3⟩ := S.ins
  refine ⟨rfl, C2, S.nov, ⟨dx, vs, C.frm x _ h1 (by simp [B0]) (fun ⟨d, z⟩ => by rw [S.o] at z; cases z), h2, RelL.mono g l vs h3⟩, ?_, S.s, ?_⟩
  · cases q : F' x with
    | none => rfl
    | some o =>
      rcases C.new x o q with ⟨o', z⟩ | z
      · rw [show (B0 F none t H).F x = F x from rfl, S.f] at z; cases z
      · rw [show (B0 F none t H).H x = H x from rfl, h1] at z; cases z
  · cases q : t'.obs x with
    | none => rfl
    | some d' =>
      rcases (C.obs x d' q).2.2.2.1 with ⟨d0, z⟩ | z
      · rw [S.o] at z; cases z
      · rw [show (B0 F none t H).H x = H x from rfl, h1] at z; cases z
theorem Is.put (S : Is K O F0 H0 x Cl' ns l F t env σ H) {ns' : List Str} {l' : List D} {dx : Addr} {vs : List V} (h2 : ns'.length = vs.length) (h3 : RelL K F none l' vs) : Is K O F0 H0 x Cl' ns' l' F t env σ (upd H x (.ins Cl' dx (ns'.zip vs))) := by
  have C := S.c
  have nx : ∀ {a : Addr} {o : HO}, F a = some o → a ≠ x := fun e => ne_of_none e S.f
  refine ⟨⟨C.len, fun a o e => by rw [upd_ne (nx e)]; exact C.sub a o e, C.bas, fun a o e hp ho => ?_, C.new, fun a ha => ?_, C.val, fun i d e => absurd e (S.nov i d), fun i j d e a q => absurd q (S.nov i d), fun a e => (by cases e), C.pnn, TabF.nil, C.ntb, fun a d q => by
    obtain ⟨h1, ⟨u, h2, h3⟩, h4⟩ := C.obs a d q
    refine ⟨h1, ⟨u, ?_, h3⟩, h4⟩
    rw [upd_ne ?_]
    · exact h2
    · rintro rfl
      rw [S.o] at q; exact (nomatch q), C.obx, fun i d a e => absurd e (S.nov i d)⟩, S.nov, ⟨dx, vs, upd_same, h2, h3⟩, S.f, S.s, S.o⟩
  · have : a ≠ x := fun z => hp (by rw [z]; exact List.mem_singleton.mpr rfl)
    rw [upd_ne this]; exact C.frm a o e hp ho
  · have : a = x := List.mem_singleton.mp ha
    rw [this]; exact ⟨_, upd_same⟩
end
/-! ### its statements -/
def tiS (K : PySem.W.Frag) (Cl' : Addr) (ds : IS) : TS := fun D σ H => ∃ O F0 H0 x ns l F t env k, Is K O F0 H0 x Cl' ns l F t env σ H ∧ ds k ns l env t ∧
  ∀ ns' l' F' t' env' σ' H', Is K O F0 H0 x Cl' ns' l' F' t' env' σ' H' → k ns' l' env' t' → D.nx σ' H'
section
variable {X : Cx} {Cl' : Addr} {st : Stmt} {sts : List Stmt} {a b : IS} {c o value : Expr} {dt : DT} {da : DE} {pos pos' : Pos}
theorem i_cons (h1 : PS X st (tiS X.K Cl' a)) (h2 : PSs X sts (tiS X.K Cl' b)) : PSs X (st :: sts) (tiS X.K Cl' (iThen a b)) :=
  PSs.imp (pss_cons h1 h2) fun D σ H ⟨O, F0, H0, x, ns, l, F, t, env, k, S, h, R⟩ => ⟨O, F0, H0, x, ns, l, F, t, env, _, S, h, fun ns' l' F' t' env' σ' H' S' h' => ⟨O, F0, H0, x, ns', l', F', t', env', k, S', h', R⟩⟩
theorem i_guard (hc : ∀ B, QT X B c dt) : PS X (.If c sts [] pos) (tiS X.K Cl' (iGuard dt)) :=
  PS.imp (ps_if (tc := ttU X.K dt) ⟨fun pins s σ H Q I ⟨B, q⟩ => (hc B).run pins s σ H Q I q⟩ pss_never pss_nil) fun D σ H ⟨O, F0, H0, x, ns, l, F, t, env, k, S, h, R⟩ =>
    ⟨B0 F none t H, F, none, t, env, _, S.c.here S.nov, h, fun kb F' pa' t' H' g C q => by
      obtain ⟨rfl, S'⟩ := S.step C
      cases kb with
      | true => exact False.elim q
      | false => exact R ns l F' t' env σ H' S' q⟩
theorem i_set {f : Str} (h0 : PE X o (tVar 0)) (hv : ∀ B, QE X B value da) (cl : Cls X.K Cl') (na : NoAttr X.K Cl' f) (hs : swapsWith value (some (.Attribute o f pos')) pos.line X.env = pure false := by rfl) :
    PS X (.Assign [.Attribute o f pos'] value pos) (tiS X.K Cl' (iSet f da)) :=
  PS.imp (ps_fld h0 (pe_U hv) hs) fun D σ H ⟨O, F0, H0, x, ns, l, F, t, env, k, S, h, R⟩ =>
    ⟨B0 F none t H, F, none, t, env, _, S.c.here S.nov, h, fun v d F' pa' t' H' g C r q => by
      obtain ⟨rfl, S'⟩ := S.step C
      obtain ⟨⟨hn, hl⟩, q⟩ := q
      obtain ⟨dx, vs, e1, l1, r1⟩ := S'.ins
      refine ⟨_, S'.s, x, Cl', dx, _, rfl, e1, cl, na, by rw [List.length_zip]; omega, ?_⟩
      rw [putF_new (zip_none hn), ← zip_snoc l1]
      exact R _ _ F' t' env σ _ (S'.put (by simp [l1]) (relL_snoc r r1)) q⟩
/-! ### self.sums -/
theorem sumsOf_snoc : ∀ (bs : List Int) (s b : Int), sumsOf s (bs ++ [b]) = sumsOf s bs ++ [(sumsOf s bs).getLastD s + b - 1]
  | [], s, b => rfl
  | c :: bs, s, b => by
    show (s + c - 1) :: sumsOf (s + c - 1) (bs ++ [b]) = _
    rw [sumsOf_snoc bs (s + c - 1) b]
    show _ = (s + c - 1) :: sumsOf (s + c - 1) bs ++ [((s + c - 1) :: sumsOf (s + c - 1) bs).getLastD s + b - 1]
    rw [List.getLastD_cons]
    rfl
theorem sumsOf_len : ∀ (bs : List Int) (s : Int), (sumsOf s bs).length = bs.length
  | [], _ => rfl
  | c :: bs, s => by
    show (sumsOf (s + c - 1) bs).length + 1 = bs.length + 1
    rw [sumsOf_len bs]
/-- the loop's state: p the list, x the instance -/
structure Ls (K : PySem.W.Frag) (F Hs : Hp) (x p Cl' dx : Addr) (ns : List Str) (vs : List V) (l : List D) (t : Ts) (env : En) (σ : L2.St) (H : Hp) (cur : List Int) : Prop where
  len : env.length = σ.length
  sub : ∀ a o, F a = some o → H a = some o
  frm : ∀ a o, Hs a = some o → a ≠ x → a ≠ p → H a = some o
  val : ∀ (i : Nat) (d : D), env[i]? = some (Sl.val d) → ∃ v : V, σ[i]? = some (some v) ∧ RelD K F none d v
  nov : ∀ (i : Nat) (d : D), env[i]? ≠ some (Sl.own d)
  s : σ[0]? = some (some (V.ref x))
  hx : H x = some (.ins Cl' dx ((ns ++ [("sums" : Str)]).zip (vs ++ [.ref p])))
  hp : H p = some (.lst (cur.map V.int))
  ls : ns.length = vs.length
  rl : RelL K F none l vs
  fx : F x = none
  fp : F p = none
  xp : x ≠ p
  nt : ∀ a ps, F a ≠ some (.tbl ps)
section
variable {K : PySem.W.Frag} {F Hs : Hp} {x p dx : Addr} {ns : List Str} {vs : List V} {l : List D} {t : Ts} {env : En} {σ : L2.St} {H : Hp} {cur : List Int}
/-- the state as it is seen by a reading: all frozen -/
theorem Ls.seen (S : Ls K F Hs x p Cl' dx ns vs l t env σ H cur) : ∃ F2, Gr F none F2 none ∧ Cf K (B0 F2 none t.bare H) F2 none t.bare (env.set 0 (.val (.ins Cl' (ns ++ [("sums" : Str)]) (l ++ [.lst (cur.map .int)])))) σ H := by
  let F2 : Hp := upd (upd F p (.lst (cur.map V.int))) x (.ins Cl' dx ((ns ++ [("sums" : Str)]).zip (vs ++ [.ref p])))
  have g1 : Gf F (upd F p (.lst (cur.map V.int))) := Gf.upd S.fp
  have fx2 : (upd F p (.lst (cur.map V.int))) x = none := by rw [upd_ne S.xp]; exact S.fx
  have g2 : Gf (upd F p (.lst (cur.map V.int))) F2 := Gf.upd fx2
  have g : Gr F none F2 none := ⟨fun a o e => g2 a o (g1 a o e), rfl⟩
  have ep : F2 p = some (.lst (cur.map V.int)) := g2 _ _ upd_same
  have ex : F2 x = some (.ins Cl' dx ((ns ++ [("sums" : Str)]).zip (vs ++ [.ref p]))) := upd_same
  refine ⟨F2, g, ⟨by simp [S.len], fun a o e => ?_, fun _ _ e => e, fun _ _ e _ _ => e, fun a o e => .inl ⟨o, e⟩, fun a ha => ?_, fun i d e => ?_, fun i d e => ?_, fun i j d e a q => ?_, fun a e => ?_, rfl, TabF.nil, fun a ps e => ?_, fun a d e => (nomatch e), fun a ⟨d, e⟩ => (nomatch e), fun i d a e _ => rfl⟩⟩
  rotate_right
  · by_cases h1 : a = x
    · subst h1; rw [ex] at e; cases e
    · by_cases h2 : a = p
      · subst h2; rw [ep] at e; cases e
      · have : F2 a = F a := by show upd (upd F p _) x _ a = _; rw [upd_ne h1, upd_ne h2]
        rw [this] at e; exact S.nt a ps e
  · by_cases h1 : a = x
    · subst h1; rw [ex] at e; cases e; exact S.hx
    · by_cases h2 : a = p
      · subst h2; rw [ep] at e; cases e; exact S.hp
      · have : F2 a = F a := by show upd (upd F p _) x _ a = _; rw [upd_ne h1, upd_ne h2]
        rw [this] at e; exact S.sub a o e
  · simp [B0] at ha
  · rcases get_set e with ⟨rfl, z⟩ | ⟨ne, z⟩
    · cases z
      refine ⟨.ref x, S.s, ?_⟩
      unfold RelD
      refine ⟨x, dx, _, rfl, ex, by simp [S.ls], relL_snoc ?_ (RelL.mono g l vs S.rl)⟩
      unfold RelD
      exact ⟨p, _, rfl, ep, RelL.of_ints cur⟩
    · obtain ⟨v, h1, h2⟩ := S.val i d z
      exact ⟨v, h1, RelD.mono g d v h2⟩
  · rcases get_set e with ⟨_, z⟩ | ⟨_, z⟩
    · cases z
    · exact absurd z (S.nov i d)
  · rcases get_set q with ⟨_, z⟩ | ⟨_, z⟩
    · cases z
    · exact absurd z (S.nov i d)
  · cases e
theorem Ls.kept (S : Ls K F Hs x p Cl' dx ns vs l t env σ H cur) {H' : Hp} (g : Gf H H') : Ls K F Hs x p Cl' dx ns vs l t env σ H' cur :=
  ⟨S.len, fun a o e => g _ _ (S.sub a o e), fun a o e h1 h2 => g _ _ (S.frm a o e h1 h2), S.val, S.nov, S.s, g _ _ S.hx, g _ _ S.hp, S.ls, S.rl, S.fx, S.fp, S.xp, S.nt⟩
theorem Ls.setj (S : Ls K F Hs x p Cl' dx ns vs l t env σ H cur) {j : Nat} (hj : j ≠ 0) (b : Int) : Ls K F Hs x p Cl' dx ns vs l t (env.set j (.val (.int b))) (σ.set j (some (.int b))) H cur := by
  refine ⟨by simp [S.len], S.sub, S.frm, fun i d e => ?_, fun i d e => ?_, by rw [List.getElem?_set_ne hj]; exact S.s, S.hx, S.hp, S.ls, S.rl, S.fx, S.fp, S.xp, S.nt⟩
  · rcases get_set e with ⟨rfl, z⟩ | ⟨ne, z⟩
    · cases z
      have hi : j < env.length := by simpa using (List.getElem?_eq_some_iff.mp e).1
      exact ⟨.int b, by rw [List.getElem?_set_self (by rw [← S.len]; exact hi)], by unfold RelD; rfl⟩
    · obtain ⟨v, h1, h2⟩ := S.val i d z
      exact ⟨v, by rw [List.getElem?_set_ne ne]; exact h1, h2⟩
  · rcases get_set e with ⟨_, z⟩ | ⟨_, z⟩
    · cases z
    · exact S.nov i d z
theorem Ls.app (S : Ls K F Hs x p Cl' dx ns vs l t env σ H cur) (z : Int) : Ls K F Hs x p Cl' dx ns vs l t env σ (upd H p (.lst ((cur ++ [z]).map V.int))) (cur ++ [z]) :=
  ⟨S.len, fun a o e => by rw [upd_ne (ne_of_none e S.fp)]; exact S.sub a o e, fun a o e h1 h2 => by rw [upd_ne h2]; exact S.frm a o e h1 h2, S.val, S.nov, S.s, by rw [upd_ne S.xp]; exact S.hx, upd_same, S.ls, S.rl, S.fx, S.fp, S.xp, S.nt⟩
end
theorem intsD_map : ∀ bs : List Int, Q.intsD (bs.map .int) = some bs
  | [] => rfl
  | c :: r => by simp [Q.intsD, intsD_map r]
theorem set_self {α : Type} (l : List α) (i : Nat) : l = [] ∨ ∃ s, l.set i s = l := by
  by_cases h : i < l.length
  · exact .inr ⟨l[i], by simp⟩
  · cases l with
    | nil => exact .inl rfl
    | cons a r => exact .inr ⟨a, List.set_eq_of_length_le (by omega)⟩
theorem zip_look {α : Type} {f : Str} : ∀ {a : List Str} {b : List α} {y : α}, a.length = b.length → a.contains f = false → ((a ++ [f]).zip (b ++ [y])).lookup f = some y
  | [], [], y, _, _ => by simp [List.lookup]
  | g :: a, _ :: b, y, h, n => by
    have n2 : (f == g) = false ∧ a.contains f = false := by
      simp only [List.contains_cons, Bool.or_eq_false_iff] at n
      exact n
    show List.lookup f ((g, _) :: (a ++ [f]).zip (b ++ [y])) = _
    rw [List.lookup_cons, n2.1]
    exact zip_look (by simpa using h) n2.2
  | [], _ :: _, _, h, _ => by simp at h
  | _ :: _, [], _, h, _ => by simp at h
section
variable {o iter ecall tg : Expr} {de : DE} {ib j : Nat} {p1 p2 p3 p4 p5 : Pos}
theorem i_sums (h0 : PE X o (tVar 0)) (hb : PE X iter (tVar ib)) (hg : PG X tg (L2.gName j)) (hap : PE X ecall (tBM X.K "list" rAppend (tFld X.K (tVar 0) "sums") (tCons (teU X.K de) tNil))) (hde : SumsE Cl' j de) (cl : Cls X.K Cl') (na : NoAttr X.K Cl' "sums")
    (hpo : PassesOwn (model X.prog X.w) X.A X.env X.xe) (hc : X.calm = true) (hj : j ≠ 0) (hs : swapsWith (.List [] p1) (some (.Attribute o "sums" p2)) p3.line X.env = pure false := by rfl)
    (hsE : swapsWith ecall none p4.line X.env = pure false := by rfl) (hsF : ∀ x, foldedSetIterable iter X.env x = pure x := by intro _; rfl) :
    PSs X [.Assign [.Attribute o "sums" p2] (.List [] p1) p3, .For tg iter [.Expr ecall p4] [] p5] (tiS X.K Cl' (iSums ib j)) :=
  PSs.imp (pss_cons (ps_fld h0 (pe_lst pa_nil) hs) (pss_one (ps_for hpo hc (pi_any hb) hg (pss_one (ps_expr hap hsE)) hsF))) fun D σ H ⟨O, F0, H0, x, ns, l, F, t, env, k, S, h, R⟩ => by
    -- the numbers
    have hv : ∃ bs : List Int, ∃ a : Addr, σ[ib]? = some (some (V.ref a)) ∧ (F a = some (.lst (bs.map V.int)) ∨ F a = some (.tup (bs.map V.int))) ∧ bs.length ≤ 1000 ∧ (ns.contains ("sums" : Str) = false ∧ ns.length < 900 ∧ j < env.length) ∧ ∀ s, k (ns ++ [("sums" : Str)]) (l ++ [.lst ((sumsOf 0 bs).map .int)]) (env.set j s) t := by
      have ri : ∀ (bs : List Int) (us : List V), RelL X.K F none (bs.map .int) us → us = bs.map V.int := fun bs us r => RelL.intsD r (intsD_map bs)
      unfold iSums at h
      split at h
      · rename_i m e
        obtain ⟨bs, rfl, h1, h2, h3⟩ := h
        obtain ⟨v, e1, r⟩ := S.c.val _ _ e
        unfold RelD at r
        obtain ⟨a, us, rfl, e2, r2⟩ := r
        rw [ri bs us r2] at e2
        exact ⟨bs, a, e1, .inl e2, h1, h2, h3⟩
      · rename_i m e
        obtain ⟨bs, rfl, h1, h2, h3⟩ := h
        obtain ⟨v, e1, r⟩ := S.c.val _ _ e
        unfold RelD at r
        obtain ⟨a, us, rfl, e2, r2⟩ := r
        rw [ri bs us r2] at e2
        exact ⟨bs, a, e1, .inr e2, h1, h2, h3⟩
      · exact h.elim
    obtain ⟨bs, ab, hib, hab, hbl, ⟨hns, hnl, hjl⟩, hk⟩ := hv
    obtain ⟨dx, vs, hx, hlen, rl⟩ := S.ins
    refine ⟨Nat.zero_le _, fun p hp0 => ⟨.ref x, S.s, x, Cl', dx, _, rfl, by rw [upd_ne (ne_of_none hx hp0)]; exact hx, cl, na, by rw [List.length_zip]; omega, ?_⟩⟩
    rw [putF_new (zip_none hns), ← zip_snoc hlen]
    have xp : x ≠ p := ne_of_none hx hp0
    have fp : F p = none := (S.c.fresh hp0).1
    have L0 : Ls X.K F (upd (upd H p (.lst [])) x (.ins Cl' dx ((ns ++ [("sums" : Str)]).zip (vs ++ [.ref p])))) x p Cl' dx ns vs l t env σ (upd (upd H p (.lst [])) x (.ins Cl' dx ((ns ++ [("sums" : Str)]).zip (vs ++ [.ref p])))) [] :=
      ⟨S.c.len, fun a u e => by rw [upd_ne (ne_of_none e S.f), upd_ne (ne_of_none e fp)]; exact S.c.sub a u e, fun a u e _ _ => e, S.c.val, S.nov, S.s, upd_same, by rw [upd_ne (Ne.symm xp)]; exact upd_same, hlen, rl, S.f, fp, xp, S.c.ntb⟩
    generalize hHs : upd (upd H p (.lst [])) x (.ins Cl' dx ((ns ++ [("sums" : Str)]).zip (vs ++ [.ref p]))) = Hs at L0 ⊢
    have hfin : ∀ σ' H' s, Ls X.K F Hs x p Cl' dx ns vs l t (env.set j s) σ' H' (sumsOf 0 bs) → D.nx σ' H' := fun σ' H' s L => by
      refine R _ _ (upd F p (.lst ((sumsOf 0 bs).map V.int))) t (env.set j s) σ' H' ⟨⟨L.len, fun a u e => ?_, fun a u e => ?_, fun a u e hx' ho => ?_, fun a u e => ?_, fun a ha => ?_, fun i d e => ?_, fun i d e => absurd e (L.nov i d), fun i _ d _ _ q => absurd q (L.nov i d), fun a e => (by cases e), rfl, TabF.nil, fun a ps e => by
        by_cases ha : a = p
        · subst ha; rw [upd_same] at e; simp at e
        · rw [upd_ne ha] at e; exact S.c.ntb a ps e, fun a d q => by
        obtain ⟨h1, ⟨u, h2, h3⟩, h4⟩ := S.c.obs a d q
        have hax : a ≠ x := fun z => by rw [z, S.o] at q; simp at q
        have hap' : a ≠ p := ne_of_none h2 hp0
        refine ⟨by rw [upd_ne hap']; exact h1, ⟨u, L.frm a u ?_ hax hap', RelO1.mono ⟨Gf.upd fp, rfl⟩ d u h3⟩, h4⟩
        rw [← hHs, upd_ne hax, upd_ne hap']; exact h2, S.c.obx, fun i d a e => absurd e (L.nov i d)⟩, L.nov, ⟨dx, _, L.hx, by simp [hlen], ?_⟩, by rw [upd_ne xp]; exact S.f, L.s, S.o⟩ (hk s)
      · by_cases ha : a = p
        · subst ha; rw [upd_same] at e; cases e; exact L.hp
        · rw [upd_ne ha] at e; exact L.sub a u e
      · exact Gf.upd fp _ _ (S.c.bas a u e)
      · have h1 := S.c.frm a u e hx' ho
        have hax : a ≠ x := fun z => hx' (by rw [z]; exact List.mem_singleton.mpr rfl)
        have hap' : a ≠ p := ne_of_none h1 hp0
        refine L.frm a u ?_ hax hap'
        rw [← hHs, upd_ne hax, upd_ne hap']; exact h1
      · by_cases ha : a = p
        · subst ha; exact .inr (S.c.fresh hp0).2.1
        · rw [upd_ne ha] at e; exact S.c.new a u e
      · rw [List.mem_singleton.mp ha]; exact ⟨_, L.hx⟩
      · obtain ⟨v, h1, h2⟩ := L.val i d e
        exact ⟨v, h1, RelD.mono ⟨Gf.upd fp, rfl⟩ d v h2⟩
      · refine relL_snoc ?_ (RelL.mono ⟨Gf.upd fp, rfl⟩ l vs rl)
        unfold RelD
        exact ⟨p, _, rfl, upd_same, RelL.of_ints _⟩
    have ne0 : env ≠ [] := fun z => by
      have := S.c.len
      rw [z] at this
      have h2 := S.s
      have : σ = [] := List.eq_nil_of_length_eq_zero (by simpa using this.symm)
      rw [this] at h2; cases h2
    -- the loop
    have hloop : ∀ J, ItOk X.K J (bs.map .int) F none → ∃ W : Nat → Nat → L2.St → Hp → Prop, (∃ m, W 0 m σ Hs) ∧ ∀ i m σ H, W i m σ H →
        (J.stop i H ∧ D.nx σ H) ∨ (J.go i H ∧ ∃ N : L2.St → Hp → Prop, (∀ σ' H', N σ' H' → ∃ m', m' < m ∧ W (i + 1) m' σ' H') ∧ ∀ x H', J.yld i H x H' → L2.gName j x σ H' fun σ2 H2 => tDrop (tBM X.K "list" rAppend (tFld X.K (tVar 0) "sums") (tCons (teU X.K de) tNil)) { D with nx := N, ct := N, bk := D.nx } σ2 H2) := by
      intro J iok
      refine ⟨fun i m σ' H' => m = bs.length - i ∧ i ≤ bs.length ∧ ∃ s, Ls X.K F Hs x p Cl' dx ns vs l t (env.set j s) σ' H' (sumsOf 0 (bs.take i)), ?_, ?_⟩
      · rcases set_self env j with z | ⟨s, hs'⟩
        · exact absurd z ne0
        · exact ⟨_, rfl, Nat.zero_le _, s, by rw [hs']; exact L0⟩
      · rintro i m σ2 H2 ⟨rfl, hi, s, L⟩
        obtain ⟨F2, g2, C2⟩ := L.seen
        have io := iok _ F2 none t.bare _ σ2 H2 i g2 C2
        by_cases hlt : i < bs.length
        · have hb2 : (bs.map Q.D.int)[i]? = some (.int bs[i]) := by simp [hlt]
          obtain ⟨go, yl⟩ := io.2 _ hb2
          refine .inr ⟨go, fun σ' H' => ∃ m', m' < bs.length - i ∧ (m' = bs.length - (i + 1) ∧ i + 1 ≤ bs.length ∧ ∃ s, Ls X.K F Hs x p Cl' dx ns vs l t (env.set j s) σ' H' (sumsOf 0 (bs.take (i + 1)))), fun σ' H' z => z, fun xv H3 y => ?_⟩
          obtain ⟨gh, F3, _, _, _, rv⟩ := yl xv H3 y
          have exv : xv = .int bs[i] := by unfold RelD at rv; exact rv
          subst exv
          have L2' := (L.kept gh).setj hj bs[i]
          rw [List.set_set] at L2'
          obtain ⟨F4, _, C4⟩ := L2'.seen
          refine ⟨.ref x, L2'.s, x, Cl', dx, _, .ref p, rfl, L2'.hx, cl, na, zip_look hlen hns, Or.inl ⟨rfl, _, SqL.of L2'.hp⟩, ?_⟩
          refine ⟨B0 F4 none t.bare H3, F4, none, t.bare, _, fun d t2 => d = .int (bs[i] - 1 + (sumsOf 0 (bs.take i)).getLastD 0) ∧ t2 = t.bare, C4, ?_, ?_⟩
          · refine hde _ t.bare _ (ns ++ [("sums" : Str)]) (l ++ [.lst ((sumsOf 0 (bs.take i)).map .int)]) (sumsOf 0 (bs.take i)) bs[i] ?_ ?_ ?_ ⟨rfl, rfl⟩
            · rw [List.getElem?_set_self (by simp; omega)]
            · exact zip_look (hlen.trans (RelL.len rl)) hns
            · rw [List.getElem?_set_ne (Ne.symm hj), List.getElem?_set_self hjl]
          · rintro v d F5 pa5 t5 H5 g5 C5 r5 ⟨rfl, rfl⟩
            have ev : v = .int (bs[i] - 1 + (sumsOf 0 (bs.take i)).getLastD 0) := by unfold RelD at r5; exact r5
            subst ev
            have gh5 : Gf H3 H5 := fun a u e => C5.frm a u e (by simp [B0]) (fun ⟨d, z⟩ => by cases z)
            have L3 := L2'.kept gh5
            refine ⟨p, _, _, rfl, rfl, L3.hp, ?_, ?_⟩
            · simp only [List.length_map, sumsOf_len, List.length_take]
              unfold sizeLine
              omega
            · have L4 := L3.app (bs[i] - 1 + (sumsOf 0 (bs.take i)).getLastD 0)
              rw [List.map_append] at L4
              rw [show (sumsOf 0 (bs.take i)) ++ [bs[i] - 1 + (sumsOf 0 (bs.take i)).getLastD 0] = sumsOf 0 (bs.take (i + 1)) from ?_] at L4
              · refine ⟨bs.length - (i + 1), by omega, rfl, hlt, .val (.int bs[i]), ?_⟩
                exact L4
              · rw [List.take_add_one, List.getElem?_eq_getElem hlt]
                show _ = sumsOf 0 (bs.take i ++ [bs[i]])
                rw [sumsOf_snoc]
                refine congrArg (fun z => _ ++ [z]) ?_
                omega
        · have e : i = bs.length := by omega
          subst e
          rw [List.take_length] at L
          exact .inl ⟨io.1 (by simp), hfin _ _ _ L⟩
    rcases hab with hab | hab
    · refine ⟨.ref ab, hib, ab, rfl, .inl ⟨⟨_, SqL.of (L0.sub _ _ hab)⟩, hloop _ (it_list (SqL.of hab) (RelL.of_ints bs))⟩⟩
    · refine ⟨.ref ab, hib, ab, rfl, .inr ⟨⟨_, SqT.of (L0.sub _ _ hab)⟩, hloop _ (it_tup hab (RelL.of_ints bs))⟩⟩
end
end
end Q
namespace Q
open PySem L2 PyProof.Rows
section
variable {P : Program} {w : World} {K : PySem.W.Frag} {mg : Str → Option Value} {base : Heap}
theorem start0_nov {N : List Str} {ds : List D} (j : Nat) (d : D) : (start0 N ds)[j]? ≠ some (Sl.own d) := fun e => by
  unfold start0 at e
  by_cases hi : j < ds.length
  · rw [List.getElem?_append_left (by simpa using hi), List.getElem?_map] at e
    cases q : ds[j]? with
    | none => rw [q] at e; cases e
    | some y => rw [q] at e; cases e
  · rw [List.getElem?_append_right (by simpa using hi), List.getElem?_replicate] at e
    split at e <;> cases e
theorem is_start {F : Hp} {pa : Option Addr} {t : Ts} {H : Hp} {N : List Str} {n : Str} {ds : List D} {us : List V} {x dx C' : Addr} (C : Cf K (B0 F pa t H) F pa t [] [] H) (hox : t.obs x = none) (np : nopens ds = true) (r : RelL K F pa ds us) (hx : H x = some (.ins C' dx [])) (h1 : F x = none) :
    Is K t.dom F H x C' [] [] F t (startI x N ds) (start (n :: N) (.ref x :: us)) H := by
  have r0 := RelL.un ds us np r
  have C0 : Cf K (B0 F none t H) F none t [] [] H := ⟨rfl, C.sub, C.bas, fun _ _ e _ _ => e, fun a o e => .inl ⟨o, e⟩, fun a ha => by simp [B0] at ha, fun i d e => by simp at e, fun i d e => by simp at e, C.sep, fun a e => (by cases e), rfl, TabF.nil, C.ntb, fun a d q => by
    obtain ⟨h1, ⟨u, h2, h3⟩, h4, h5, h6⟩ := C.obs a d q
    exact ⟨h1, ⟨u, h2, RelO1.un h6 h3⟩, (by simp), h5, h6⟩, fun a e => e, fun i d a e => by simp at e⟩
  have S := cf_start (N := N) C0 r0
  have e2 : start (n :: N) (.ref x :: us) = some (V.ref x) :: start N us := by
    unfold L2.start
    simp
  have nov : ∀ (i : Nat) (d : D), (startI x N ds)[i]? ≠ some (Sl.own d) := fun i d e => by
    cases i with
    | zero => cases e
    | succ i => exact start0_nov i d e
  rw [e2]
  refine ⟨⟨by simpa [startI] using S.len, S.sub, fun _ _ e => e, fun a o e hp _ => e, fun a o e => .inl ⟨o, e⟩, fun a ha => ?_, fun i d e => ?_, fun i d e => absurd e (nov i d), fun i j d e a q1 => absurd q1 (nov i d), fun a e => (by cases e), rfl, TabF.nil, C.ntb, C0.obs, C0.obx, fun i d a e => absurd e (nov i d)⟩, nov, ⟨dx, [], hx, rfl, RelL.nil⟩, h1, rfl, hox⟩
  · rw [List.mem_singleton.mp ha]; exact ⟨_, hx⟩
  · cases i with
    | zero => cases e; exact ⟨.ref x, rfl, by unfold RelD; rfl⟩
    | succ i => exact S.val i d e
theorem fn_okI {x qual : Str} {st : Stmt} {f C' : Addr} {fd : FuncData} {n : Str} {N ps : List Str} {k : Nat} {sp : PSp} {ds : IS} (Fu : Fun K x qual st f fd) (S : FnScope (n :: N) ps (defScope st)) (len : ∀ as t Q, sp as t Q → as.length + 1 = ps.length)
    (hnp : ∀ as t Q, sp as t Q → nopens as = true)
    (hbody : ∀ (cdv : Value) (A : Around) (outer : List PySem.Env) (s : Shared) (H : Hp) (E : XK), Room k (A.deeper (envOfC qual (defScope st) s.heap.objs.size f cdv)) →
      PSs (cxOf CX0 P w K mg base (n :: N) qual (defScope st) f cdv A outer s H E).nox (defBody st) (tiS K C' ds))
    (hds : ∀ as t Q x, sp as t Q → ds (fun ns l env t' => t' = t ∧ Q (.ins C' ns l) t) [] [] (startI x N as) t) : FnOk P w K mg base CX0 (k + 1) f fd ps (liftI K C' sp) := by
  refine Fu.ok S (fun vs H Q E h => ?_) (fun cdv A outer s H vs Q E hr h => ?_)
  · obtain ⟨x, dx, us, F, pa, t, as, R, rfl, hx, h1, h2, h3, C, r, q, _⟩ := h
    rw [List.length_cons, r.len]; exact len as t R q
  · obtain ⟨x, dx, us, F, pa, t, as, R, rfl, hx, h1, h2, hox, C, r, q, fin⟩ := h
    refine ⟨_, hbody cdv A outer s H E hr, t.dom, F, H, x, [], [], F, t, startI x N as, _, is_start C hox (hnp as t R q) r hx h1, hds as t R x q, fun ns' l' F' t' env' σ' H' S' h' => ?_⟩
    obtain ⟨rfl, h'⟩ := h'
    obtain ⟨dx', vs', e1, e2, e3⟩ := S'.ins
    have kp : ∀ a o, H a = some o → a ≠ x → ¬ t'.dom a → H' a = some o := fun a o e ne ho => S'.c.frm a o e (fun z => ne (List.mem_singleton.mp z)) ho
    refine fin _ (.ins C' ns' l') F' pa t' H' ⟨rfl, S'.c.sub, S'.c.bas, fun a o e hp ho => ?_, S'.c.new, fun a ha => ?_, fun i d e => by simp at e, fun i d e => by simp at e, fun i j d e a q => by simp at q, fun a e => ?_, rfl, TabF.nil, S'.c.ntb, fun a d q => by
      obtain ⟨h1, ⟨u, h2, h3⟩, _, h5, h6⟩ := S'.c.obs a d q
      exact ⟨h1, ⟨u, h2, RelO1.up h3⟩, (C.obs a d q).2.2.1, h5, h6⟩, S'.c.obx, fun i d a e => by simp at e⟩ S'.f h2 S'.o e1 ⟨dx', vs', rfl, e2, RelL.up l' vs' e3⟩ h'
    · exact kp a o e (fun z => hp (by rw [z]; exact List.mem_cons_self ..)) ho
    · rcases List.mem_cons.mp ha with z | z
      · rw [z]; exact ⟨_, e1⟩
      · obtain ⟨o, e⟩ := C.exl a z
        by_cases hax : a = x
        · rw [hax]; exact ⟨_, e1⟩
        · by_cases hd : t'.dom a
          · obtain ⟨d, q⟩ := hd
            obtain ⟨_, ⟨u, q2, _⟩, _⟩ := S'.c.obs a d q
            exact ⟨u, q2⟩
          · exact ⟨o, kp a o e hax hd⟩
    · obtain ⟨h3, ⟨h, h4, h5⟩, h6⟩ := C.pen a e
      have hax : a ≠ x := fun z => h2 (by rw [← z]; exact e)
      refine ⟨?_, ⟨h, kp a h h4 hax (fun ⟨d, q⟩ => (C.obs a d q).2.2.1 e), h5.mono S'.c.bas⟩, .inl (List.mem_cons_of_mem _ (mem_pa.mpr e))⟩
      cases q2 : F' a with
      | none => rfl
      | some o =>
        rcases S'.c.new a o q2 with ⟨o', z⟩ | z
        · rw [show (BX t'.dom F H x).F a = F a from rfl, h3] at z; cases z
        · rw [show (BX t'.dom F H x).H a = H a from rfl, h4] at z; cases z
end
end Q
/-! QH13 -/
namespace Q
open PySem L2 PyProof.Rows
section
variable {X : Cx} {B : Bs} {K : PySem.W.Frag} {a b c e o : Expr} {es : List Expr} {pos : Pos} {da db dc : DE} {as : DA}
/-! ### an operation that gives a new object -/
/-! ### a whole number among whole numbers -/
/-! ### l.index(x), l.count(x) -/
theorem rc_int : RCall K (fun xs H Q => (∃ i, xs = [.int i] ∧ Q (.int i) H) ∨ ∃ k, xs = [.bl k] ∧ Q (.int (if k then 1 else 0)) H) bInt := fun B F pa t env σ H xs vs P Q W r h k => by
  unfold bInt at h
  split at h
  · obtain ⟨v, rfl, r1⟩ := r.one
    exact .inl ⟨_, by rw [r1.int W], k _ _ F H (Gr.refl _ _) W (rD_int _) h⟩
  · obtain ⟨v, rfl, r1⟩ := r.one
    exact .inr ⟨_, by rw [r1.bl W], k _ _ F H (Gr.refl _ _) W (rD_int _) h⟩
  · exact h.elim
end
end Q
/-! QH14 -/
namespace Q
open PySem L2 PyProof.Rows
section
variable {X : Cx} {B : Bs} {K : PySem.W.Frag}
theorem PK.imp {kws : List Keyword} {t t' : TA} (h : PK X kws t) (i : ∀ σ H Q, t' σ H Q → t σ H Q) : PK X kws t' := ⟨fun pos pins s σ H Q I q => h.run pos pins s σ H Q I (i σ H Q q)⟩
end
end Q
/-! QH15 -/
namespace Q
open PySem L2 PyProof.Rows
/-! ### enumerate(xs, start=c) -/
end Q
/-! QH16 -/
namespace Q
open PySem L2 PyProof.Rows
end Q
/-! QH17 -/
namespace Q
open PySem L2 PyProof.Rows
section
variable {X : Cx} {B : Bs} {K : PySem.W.Frag} {a b c e o : Expr} {es : List Expr} {pos : Pos} {da db dc : DE} {as : DA}
/-! ### a, b = x, y with new objects -/
def RelM (K : PySem.W.Frag) (B : Bs) (F : Hp) (pa : Option Addr) (t : Ts) (env : En) (σ : L2.St) (H : Hp) : List Bool → List D → List V → Prop
  | [], [], [] => True
  | false :: bs, d :: ds, v :: vs => RelD K F pa d v ∧ RelM K B F pa t env σ H bs ds vs
  | true :: bs, d :: ds, v :: vs => (∃ p h, v = .ref p ∧ Nw B F pa t env σ p ∧ H p = some h ∧ RelO1 K F pa d h ∧ ∀ j : Nat, bs[j]? = some true → vs[j]? ≠ some (.ref p)) ∧ RelM K B F pa t env σ H bs ds vs
  | _, _, _ => False
def tamOf (K : PySem.W.Frag) (B : Bs) (bs : List Bool) (da : DA) : TA := fun σ H Q => ∃ F pa t env P, Cf K B F pa t env σ H ∧ da env t P ∧
  ∀ vs ds F' pa' t' H', Gr F pa F' pa' → Cf K B F' pa' t' env σ H' → RelM K B F' pa' t' env σ H' bs ds vs → P ds t' → Q vs H'
abbrev QM (X : Cx) (B : Bs) (bs : List Bool) (es : List Expr) (da : DA) : Prop := PA X es (tamOf X.K B bs da)
theorem q_mnil : QM X B [] [] dNil := PA.imp pa_nil fun σ H Q ⟨F, pa, t, env, P, C, hd, k⟩ => k [] [] F pa t H (Gr.refl _ _) C True.intro hd
theorem q_mconsV {bs : List Bool} {r : DA} (ha : QE X B e da) (hr : QM X B bs es r) (hs : starEach (e :: es) X.env = (false, eval e X.env) :: starEach es X.env := by rfl) : QM X B (false :: bs) (e :: es) (dCons da r) := PA.imp (pa_cons ha hr hs) fun σ H Q ⟨F, pa, t, env, P, C, hd, k⟩ =>
  ⟨F, pa, t, env, _, C, hd, fun v d F1 pa1 t1 H1 g1 C1 r1 q1 => ⟨F1, pa1, t1, env, _, C1, q1, fun vs ds F2 pa2 t2 H2 g2 C2 r2 q2 => k (v :: vs) (d :: ds) F2 pa2 t2 H2 (g1.trans g2) C2 ⟨RelD.mono g2 d v r1, r2⟩ q2⟩⟩
/-- what stands new for the block's base stands new for ours -/
theorem RelM.up {F1 F2 : Hp} {pa1 pa2 : Option Addr} {t1 t2 : Ts} {env : En} {σ : L2.St} {H1 H2 : Hp} {p : Addr} {h : HO} (C1 : Cf K B F1 pa1 t1 env σ H1) (hp : H1 p = some h) : ∀ {bs : List Bool} {ds : List D} {vs : List V}, RelM K (Bk F1 pa1 t1 env σ H1) F2 pa2 t2 env σ H2 bs ds vs →
    RelM K B F2 pa2 t2 env σ H2 bs ds vs ∧ ∀ j : Nat, bs[j]? = some true → vs[j]? ≠ some (.ref p)
  | [], [], [], _ => ⟨True.intro, fun j hj => by simp at hj⟩
  | false :: bs, d :: ds, v :: vs, r => by
    obtain ⟨r1, r2⟩ := r
    obtain ⟨i1, i2⟩ := RelM.up C1 hp r2
    refine ⟨⟨r1, i1⟩, fun j hj => ?_⟩
    cases j with
    | zero => simp at hj
    | succ j => simpa using i2 j (by simpa using hj)
  | true :: bs, d :: ds, v :: vs, r => by
    obtain ⟨⟨q, h', rfl, n, e, r1, hd⟩, r2⟩ := r
    obtain ⟨i1, i2⟩ := RelM.up C1 hp r2
    have hq : H1 q = none := n.b
    refine ⟨⟨⟨q, h', rfl, ⟨n.f, (C1.fresh hq).2.1, n.a, n.s, n.o⟩, e, r1, hd⟩, i1⟩, fun j hj => ?_⟩
    cases j with
    | zero =>
      intro z
      simp at z
      rw [z, hp] at hq
      cases hq
    | succ j => simpa using i2 j (by simpa using hj)
  | [], [], _ :: _, r => r.elim
  | [], _ :: _, vs, r => by cases vs <;> exact r.elim
  | b :: _, [], vs, r => by cases b <;> cases vs <;> exact r.elim
  | b :: _, _ :: _, [], r => by cases b <;> exact r.elim
theorem q_mconsN {bs : List Bool} {r : DA} (ha : QN X B e da) (hr : ∀ B', QM X B' bs es r) (hs : starEach (e :: es) X.env = (false, eval e X.env) :: starEach es X.env := by rfl) : QM X B (true :: bs) (e :: es) (dCons da r) :=
  PA.imp (pa_cons (t := fun σ H Q => ∃ B', tamOf X.K B' bs r σ H Q) ha ⟨fun pos pins s σ H Q I ⟨B', q⟩ => (hr B').run pos pins s σ H Q I q⟩ hs) fun σ H Q ⟨F, pa, t, env, P, C, hd, k⟩ =>
  ⟨F, pa, t, env, _, C, hd, fun p h d F1 pa1 t1 H1 g1 C1 n1 e1 r1 q1 => ⟨_, F1, pa1, t1, env, _, C1.block [], q1, fun vs ds F2 pa2 t2 H2 g2 C2 r2 q2 => by
    obtain ⟨g3, C3⟩ := C1.join (vs := []) C2 rfl rfl
    have dn : p ∉ (Bk F1 pa1 t1 env σ H1).ex := fun z => by
      rcases List.mem_append.mp z with z | z
      · exact n1.a (mem_pa.mp z)
      · obtain ⟨j, d', h1, h2⟩ := mem_ownA.mp z
        exact n1.s j d' h1 h2
    have e2 : H2 p = some h := C2.frm p _ e1 dn (fun ⟨d, z⟩ => by rw [n1.o] at z; cases z)
    have n2 : Nw B F2 pa2 t2 env σ p := by
      refine ⟨?_, n1.b, fun z => ?_, n1.s, noo_of n1.o C2 e1⟩
      · cases z : F2 p with
        | none => rfl
        | some o =>
          rcases C2.new p o z with ⟨o', q⟩ | q
          · have q : F1 p = some o' := q
            rw [n1.f] at q; cases q
          · have q : H1 p = none := q
            rw [e1] at q; cases q
      · rcases (C2.pen p z).2.2 with q | q
        · exact dn q
        · have q : H1 p = none := q
          rw [e1] at q; cases q
    obtain ⟨i1, i2⟩ := RelM.up C1 e1 r2
    exact k (.ref p :: vs) (d :: ds) F2 pa2 t2 H2 (g1.trans g3) C3 ⟨⟨p, h, rfl, n2, e2, RelO1.mono g3 d h r1, i2⟩, i1⟩ q2⟩⟩
theorem Cf.setM1 {F : Hp} {pa : Option Addr} {t : Ts} {env : En} {σ : L2.St} {H : Hp} (C : Cf K B F pa t env σ H) {i : Nat} {b : Bool} {d : D} {v : V} {bs : List Bool} {ds : List D} {vs : List V} (r : RelM K B F pa t env σ H (b :: bs) (d :: ds) (v :: vs)) :
    Cf K B F pa t (env.set i (mSl b d)) (σ.set i (some v)) H ∧ RelM K B F pa t (env.set i (mSl b d)) (σ.set i (some v)) H bs ds vs := by
  have keep : ∀ (e' : En) (σ' : L2.St), (∀ p, (∀ j : Nat, b = true → v ≠ .ref p) → Nw B F pa t env σ p → Nw B F pa t e' σ' p) → (∀ p, (v = .ref p → b = true → False) → Nw B F pa t env σ p → Nw B F pa t e' σ' p) → True := fun _ _ _ _ => True.intro
  cases b with
  | false =>
    obtain ⟨r1, r2⟩ := r
    refine ⟨C.setV i r1, ?_⟩
    have nw : ∀ p, Nw B F pa t env σ p → Nw B F pa t (env.set i (.val d)) (σ.set i (some v)) p := fun p n => by
      refine ⟨n.f, n.b, n.a, fun j e hj hs => ?_, n.o⟩
      rcases get_set hj with ⟨_, z⟩ | ⟨ne, z⟩
      · cases z
      · rw [List.getElem?_set_ne ne] at hs
        exact n.s j e z hs
    have go : ∀ (bs : List Bool) (ds : List D) (vs : List V), RelM K B F pa t env σ H bs ds vs → RelM K B F pa t (env.set i (.val d)) (σ.set i (some v)) H bs ds vs := by
      intro bs
      induction bs with
      | nil => intro ds vs r; cases ds <;> cases vs <;> exact r
      | cons b bs ih =>
        intro ds vs r
        cases ds with
        | nil => cases b <;> cases r
        | cons d' ds =>
          cases vs with
          | nil => cases b <;> cases r
          | cons v' vs =>
            cases b with
            | false => exact ⟨r.1, ih _ _ r.2⟩
            | true =>
              obtain ⟨⟨p, h, e, n, q⟩, r2⟩ := r
              exact ⟨⟨p, h, e, nw p n, q⟩, ih _ _ r2⟩
    exact go bs ds vs r2
  | true =>
    obtain ⟨⟨p, h, rfl, n, e, r1, hd⟩, r2⟩ := r
    refine ⟨C.setN i n e r1, ?_⟩
    have nw : ∀ q, q ≠ p → Nw B F pa t env σ q → Nw B F pa t (env.set i (.own d)) (σ.set i (some (.ref p))) q := fun q hq n => by
      refine ⟨n.f, n.b, n.a, fun j e hj hs => ?_, n.o⟩
      rcases get_set hs with ⟨_, z⟩ | ⟨ne, z⟩
      · cases z
        exact hq rfl
      · rw [List.getElem?_set_ne ne] at hj
        exact n.s j e hj z
    have go : ∀ (bs : List Bool) (ds : List D) (vs : List V), (∀ j : Nat, bs[j]? = some true → vs[j]? ≠ some (.ref p)) → RelM K B F pa t env σ H bs ds vs → RelM K B F pa t (env.set i (.own d)) (σ.set i (some (.ref p))) H bs ds vs := by
      intro bs
      induction bs with
      | nil => intro ds vs _ r; cases ds <;> cases vs <;> exact r
      | cons b bs ih =>
        intro ds vs hd r
        have hd' : ∀ (v' : V) (vs' : List V), vs = v' :: vs' → ∀ j : Nat, bs[j]? = some true → vs'[j]? ≠ some (.ref p) := fun v' vs' ev j hj => by
          have := hd (j + 1) (by simpa using hj)
          rw [ev] at this
          simpa using this
        cases ds with
        | nil => cases b <;> cases r
        | cons d' ds =>
          cases vs with
          | nil => cases b <;> cases r
          | cons v' vs =>
            cases b with
            | false => exact ⟨r.1, ih _ _ (hd' v' vs rfl) r.2⟩
            | true =>
              obtain ⟨⟨q, h', e', n', z⟩, r2⟩ := r
              have hq : q ≠ p := fun y => by
                have := hd 0 rfl
                rw [e', y] at this
                exact this rfl
              exact ⟨⟨q, h', e', nw q hq n', z⟩, ih _ _ (hd' v' vs rfl) r2⟩
    exact go bs ds vs hd r2
theorem RelM.len {F : Hp} {pa : Option Addr} {t : Ts} {env : En} {σ : L2.St} {H : Hp} : ∀ {bs : List Bool} {ds : List D} {vs : List V}, RelM K B F pa t env σ H bs ds vs → ds.length = bs.length ∧ vs.length = bs.length
  | [], [], [], _ => ⟨rfl, rfl⟩
  | false :: bs, d :: ds, v :: vs, r => by
    obtain ⟨i1, i2⟩ := RelM.len r.2
    exact ⟨by simp [i1], by simp [i2]⟩
  | true :: bs, d :: ds, v :: vs, r => by
    obtain ⟨i1, i2⟩ := RelM.len r.2
    exact ⟨by simp [i1], by simp [i2]⟩
  | [], [], _ :: _, r => r.elim
  | [], _ :: _, vs, r => by cases vs <;> exact r.elim
  | b :: _, [], vs, r => by cases b <;> cases vs <;> exact r.elim
  | b :: _, _ :: _, [], r => by cases b <;> exact r.elim
theorem q_par2M {i j : Nat} {x y : Str} {px py pt : Pos} {kt k2 pt2} {b1 b2 : Bool} (hc : X.calm = true) (hN : X.N.Nodup) (hi : X.N[i]? = some x) (hj : X.N[j]? = some y) (hij : i ≠ j)
    (hx : X.env.scope.names.lookup x = some .local) (hy : X.env.scope.names.lookup y = some .local) (ha : QM X B [b1, b2] [a, b] as)
    (hw : swappedStores [.Tuple [.Name x px, .Name y py] kt pt] (.Tuple [a, b] k2 pt2) X.env = pure (some [x, y]))
    (hs : swapsWithSole [.Tuple [.Name x px, .Name y py] kt pt] (.Tuple [a, b] k2 pt2) pos.line X.env = pure false := by rfl) :
    QS X B (.Assign [.Tuple [.Name x px, .Name y py] kt pt] (.Tuple [a, b] k2 pt2) pos) (dParM [(i, b1), (j, b2)] as) := PS.imp (ps_par hc hN hi hj hij hx hy ha hw hs) fun D σ H ⟨F, pa, t, env, DD, C, h, R⟩ =>
  ⟨F, pa, t, env, _, C, h, fun vs ds F' pa' t' H' g' C' r q => by
    obtain ⟨l1, l2⟩ := r.len
    match ds, vs, l1, l2, q, r with
    | [d, e], [v, w], _, _, q, r =>
      obtain ⟨C1, r1⟩ := C'.setM1 (i := i) r
      obtain ⟨C2, _⟩ := C1.setM1 (i := j) r1
      exact ⟨v, w, rfl, R.nx F' pa' t' _ _ H' g' C2 q⟩⟩
theorem q_par3M {i j l : Nat} {x y z : Str} {px py pz pt : Pos} {kt k2 pt2} {b1 b2 b3 : Bool} (hc : X.calm = true) (hN : X.N.Nodup) (hi : X.N[i]? = some x) (hj : X.N[j]? = some y) (hl : X.N[l]? = some z) (hij : i ≠ j) (hil : i ≠ l) (hjl : j ≠ l)
    (hx : X.env.scope.names.lookup x = some .local) (hy : X.env.scope.names.lookup y = some .local) (hz : X.env.scope.names.lookup z = some .local) (ha : QM X B [b1, b2, b3] [a, b, c] as)
    (hw : swappedStores [.Tuple [.Name x px, .Name y py, .Name z pz] kt pt] (.Tuple [a, b, c] k2 pt2) X.env = pure (some [x, y, z]))
    (hs : swapsWithSole [.Tuple [.Name x px, .Name y py, .Name z pz] kt pt] (.Tuple [a, b, c] k2 pt2) pos.line X.env = pure false := by rfl) :
    QS X B (.Assign [.Tuple [.Name x px, .Name y py, .Name z pz] kt pt] (.Tuple [a, b, c] k2 pt2) pos) (dParM [(i, b1), (j, b2), (l, b3)] as) := PS.imp (ps_par3 hc hN hi hj hl hij hil hjl hx hy hz ha hw hs) fun D σ H ⟨F, pa, t, env, DD, C, h, R⟩ =>
  ⟨F, pa, t, env, _, C, h, fun vs ds F' pa' t' H' g' C' r q => by
    obtain ⟨l1, l2⟩ := r.len
    match ds, vs, l1, l2, q, r with
    | [d, e, f], [v, w, u], _, _, q, r =>
      obtain ⟨C1, r1⟩ := C'.setM1 (i := i) r
      obtain ⟨C2, r2⟩ := C1.setM1 (i := j) r1
      obtain ⟨C3, _⟩ := C2.setM1 (i := l) r2
      exact ⟨v, w, u, rfl, R.nx F' pa' t' _ _ H' g' C3 q⟩⟩
/-! ### sorted, whole numbers -/
/-! ### reversed -/
/-! ### zip -/
end
end Q
/-! QH18 -/
namespace Q
open PySem L2 PyProof.Rows
section
variable {X : Cx} {B : Bs} {K : PySem.W.Frag} {a b c e o : Expr} {es : List Expr} {pos : Pos} {da db dc dk : DE} {as : DA}
/-! ### list(range(..)) -/
/-! ### x.reverse(), x.insert(i, y), x.pop(i) -/
theorem RelL.erase {F : Hp} {pa : Option Addr} : ∀ {l : List D} {vs : List V} (j : Nat), RelL K F pa l vs → RelL K F pa (l.eraseIdx j) (vs.eraseIdx j)
  | [], vs, j, h => by rw [h.inv0]; simpa using RelL.nil
  | d :: l, vs, 0, h => by
    obtain ⟨v, vr, rfl, _, q⟩ := h.inv
    simpa using q
  | d :: l, vs, j + 1, h => by
    obtain ⟨v, vr, rfl, r, q⟩ := h.inv
    simpa using RelL.cons r (RelL.erase j q)
theorem seqIx (n : Nat) (i : Int) : seqIndex? i n = Q.ixN n i := by
  unfold seqIndex? Q.ixN
  by_cases h : i < 0
  · rw [if_neg (by omega : ¬ 0 ≤ i)]
    simp only [if_pos h, Bool.and_eq_true, decide_eq_true_eq]
    by_cases h2 : -(n : Int) ≤ i
    · rw [if_pos h2, if_pos (by omega)]
    · rw [if_neg h2, if_neg (by omega)]
  · rw [if_pos (by omega : 0 ≤ i)]
    simp only [if_neg h, Bool.and_eq_true, decide_eq_true_eq]
    by_cases h2 : i < (n : Int)
    · rw [if_pos h2, if_pos (by omega)]
    · rw [if_neg h2, if_neg (by omega)]
/-! ### enumerate(x), x a list or a tuple -/
end
end Q
/-! QH19 -/
namespace Q
open PySem L2 PyProof.Rows
section
variable {X : Cx} {B : Bs} {K : PySem.W.Frag} {a b c e o : Expr} {es : List Expr} {pos : Pos} {da db dc dk : DE} {as : DA}
/-! ### a, b, .. = x, y, .. by a tuple that is taken apart; some values are new objects -/
def setS : List Nat → L2.St → List V → L2.St
  | i :: r, σ, u :: us => setS r (σ.set i (some u)) us
  | _, σ, _ => σ
def tNm (l : List Nat) : TGs := fun us σ H Q => us.length = l.length ∧ Q (setS l σ us) H
theorem q_nmnil : PGs X [] (tNm []) := PGs.imp pgs_nil fun us σ H Q ⟨hl, q⟩ => by
  cases us with
  | nil => exact ⟨rfl, q⟩
  | cons u us => simp at hl
theorem q_nmcons {i : Nat} {l : List Nat} (h1 : PG X e (L2.gName i)) (h2 : PGs X es (tNm l)) (hs : (assignEach (e :: es) X.env).map (·.2) = assign e X.env :: (assignEach es X.env).map (·.2) := by rfl) : PGs X (e :: es) (tNm (i :: l)) :=
  PGs.imp (pgs_cons h1 h2 hs) fun us σ H Q ⟨hl, q⟩ => by
    cases us with
    | nil => simp at hl
    | cons u us => exact ⟨u, us, rfl, by simpa using hl, q⟩
theorem RelM.heap {F : Hp} {pa : Option Addr} {t : Ts} {env : En} {σ : L2.St} {H H' : Hp} (hk : ∀ a o, H a = some o → H' a = some o) : ∀ {bs : List Bool} {ds : List D} {vs : List V}, RelM K B F pa t env σ H bs ds vs → RelM K B F pa t env σ H' bs ds vs
  | [], [], [], _ => True.intro
  | false :: bs, d :: ds, v :: vs, r => ⟨r.1, RelM.heap hk r.2⟩
  | true :: bs, d :: ds, v :: vs, r => by
    obtain ⟨⟨p, h, e, n, e1, r1, q⟩, r2⟩ := r
    exact ⟨⟨p, h, e, n, hk _ _ e1, r1, q⟩, RelM.heap hk r2⟩
  | [], [], _ :: _, r => r.elim
  | [], _ :: _, vs, r => by cases vs <;> exact r.elim
  | b :: _, [], vs, r => by cases b <;> cases vs <;> exact r.elim
  | b :: _, _ :: _, [], r => by cases b <;> exact r.elim
theorem Cf.setMs {F : Hp} {pa : Option Addr} {t : Ts} {H : Hp} : ∀ {l : List (Nat × Bool)} {ds : List D} {vs : List V} {env : En} {σ : L2.St}, Cf K B F pa t env σ H → RelM K B F pa t env σ H (l.map (·.2)) ds vs → Cf K B F pa t (setM l env ds) (setS (l.map (·.1)) σ vs) H
  | [], [], [], env, σ, C, _ => C
  | (i, b) :: l, d :: ds, v :: vs, env, σ, C, r => by
    obtain ⟨C1, r1⟩ := C.setM1 (i := i) r
    have q := Cf.setMs (l := l) (env := env.set i (mSl b d)) (σ := σ.set i (some v)) C1 r1
    exact q
  | [], [], _ :: _, _, _, _, r => r.elim
  | [], _ :: _, vs, _, _, _, r => by cases vs <;> exact r.elim
  | (_, b) :: _, [], vs, _, _, _, r => by cases b <;> cases vs <;> exact r.elim
  | (_, b) :: _, _ :: _, [], _, _, _, r => by cases b <;> exact r.elim
theorem q_asgM {l : List (Nat × Bool)} {tg : List Expr} {kt k2 : Nat} {pt pt2 : Pos} (hc : X.calm = true) (ha : QM X B (l.map (·.2)) es as) (hg : PGs X tg (tNm (l.map (·.1)))) (hn : (assignEach tg X.env).length = l.length := by rfl) (hst : (assignEach tg X.env).findIdx? (·.1) = none := by rfl) (hz : l.length ≤ 900 := by decide)
    (hs : swapsWithSole [.Tuple tg kt pt] (.Tuple es k2 pt2) pos.line X.env = pure false := by rfl) (hw : swappedStores [.Tuple tg kt pt] (.Tuple es k2 pt2) X.env = pure none := by rfl)
    (h1 : (assignEach [.Tuple tg kt pt] X.env).map (·.2) = [assign (.Tuple tg kt pt) X.env] := by rfl) : QS X B (.Assign [.Tuple tg kt pt] (.Tuple es k2 pt2) pos) (dParM l as) :=
  PS.imp (ps_asg (pe_tup ha) (pg_tup (n := l.length) hc hg hn hst) hs hw h1) fun D σ H ⟨F, pa, t, env, DD, C, h, R⟩ => ⟨F, pa, t, env, _, C, h, fun vs ds F1 pa1 t1 H1 g1 C1 r1 q1 => by
    obtain ⟨l1, l2⟩ := r1.len
    rw [List.length_map] at l1 l2
    have e : Nat.beq ds.length l.length = true := by rw [l1]; exact Nat.beq_refl _
    rw [e] at q1
    refine ⟨by rw [l2]; exact Nat.le_trans hz (by decide), fun T hT => ⟨T, vs, rfl, SqT.of upd_same, l2, by rw [List.length_map]; exact l2, ?_⟩⟩
    have C2 := C1.loose (.tup vs) hT
    have r2 := RelM.heap (H' := upd H1 T (.tup vs)) (fun a o z => by rw [upd_ne (ne_of_none z hT)]; exact z) r1
    exact R.nx F1 pa1 t1 _ _ _ g1 (C2.setMs r2) q1⟩
end
end Q
/-! QH20 -/
namespace Q
open PySem L2 PyProof.Rows
end Q
/-! QH21 -/
namespace Q
open PySem L2 PyProof.Rows
end Q
/-! QH22 -/
namespace Q
open PySem L2 PyProof.Rows
/-! ### defs that tell None or a new object -/
end Q
/-! QH23 -/
/-! ### sorted(d), a dict of whole numbers, any number of keys -/
namespace L2
open PySem PySem.Spec PyProof.Rows
section
variable {X : Cx}
def rSortD : List V → Hp → VK → Prop := fun xs H Q => ∃ (a : Addr) (kvs : List (Key × V)) (ks : List Int), xs = [.ref a] ∧ Rd H a (.dK kvs) ∧ kvs.map (·.1) = ks.map Sum.inl ∧ ks.length ≤ 100000 ∧
    ∀ (ys : List Int) (p : Addr), ys.Perm ks → ys.Pairwise (· ≤ ·) → H p = none → Q (.ref p) (upd H p (.lst (ys.map V.int)))
theorem call_sortD (hcalm : X.calm = true) : CallR X (.builtin "sorted") rSortD := by
  intro pins s σ H xs us Q I r ⟨a, kvs, ks, ex, hd, hks, h9, q⟩
  subst ex
  obtain ⟨u, eu, rx⟩ := vals1 r
  subst eu
  cases rx
  obtain ⟨z, lo, vs, rel, dd⟩ := dk_rd I.hok hd
  obtain ⟨ep, hat⟩ := dd.dictAt
  have hkeys : vs.map (·.1) = ks.map Sum.inl := rel.keys.symm.trans hks
  have hl : vs.length = ks.length := by simpa using congrArg List.length hkeys
  have hz9 : ks.length ≤ sizeLine := Nat.le_trans h9 (by rw [sizeLine_eq]; decide)
  refine Calls.call_function_entry kind_sorted plain_sorted entry_sorted (args_sorted1 _) ?_
  unfold Builtin.«sorted»
  refine wpAny_bind (m := checkCount "sorted" 1 1 _) (wpAny_pure ?_)
  refine wpAny_bind (PySem.W.kdu_collect (A := X.A.in1) (PySem.W.kdl_dict (knd := mixKind X.prog X.w) (kvs := vs) (ep := ep) lo) (I.ok.hd hcalm) hat (by rw [hl]; exact hz9) fun h' tk acc hk hacc => ?_)
  have hal : acc.toList.length = ks.length := by rw [Array.length_toList, hacc.1, hl]
  have hS : IntsAre acc.toList ks := ints_each hal fun j v e => by
    obtain ⟨k, x, e1, e2⟩ := hacc.2 j v (by rw [← Array.getElem?_toList]; exact e)
    have e3 : (ks.map Sum.inl)[j]? = some k := by rw [← hkeys, List.getElem?_map, e1]; rfl
    rw [List.getElem?_map] at e3
    cases e4 : ks[j]? with
    | none => rw [e4] at e3; cases e3
    | some y =>
      rw [e4] at e3
      cases e3
      rcases keyIs_shape (show keyIs (Sum.inl y) v = true from e2) with ⟨i, t, ek, ev⟩ | ⟨z, t, ek, ev⟩
      · cases ek
        exact ⟨y, t, rfl, ev⟩
      · cases ek
  have I1 : Inv X pins σ H { s with heap := h', toks := tk } := I.kept hk
  refine wpAny_bind (wpAny_newList ?_ (by rw [hal]; exact hz9))
  have hoL : (h'.push (seqObj "list" acc.toList.toArray 0)).get? h'.objs.size = some (seqObj "list" acc.toList.toArray 0) := Heap.get?_push_size _ rfl
  show wpAny _ _ _ _ _ { s with heap := h'.push (seqObj "list" acc.toList.toArray 0), toks := tk }
  refine wpAny_bind (wpAny_holding (wpAny_call_entry slot_list_sort ⟨_, hoL, rfl⟩ entry_list_sort
    (SrtO.list_sort_ord SrtO.swo_int hoL (by rw [hal]; exact hz9) (fun h2 => SrtO.ints_sortable hS h2) fun out g1 g2 => ⟨_, rfl, ?_⟩) (args_list_sort _)))
  obtain ⟨k1, k2, k3⟩ := SrtO.ints_out hS g1 g2
  obtain ⟨e', he'⟩ := sortedHeap_at (vs := acc.toList) (out := out.toArray) hoL
  have hlen : ((out.map SrtO.iv).map V.int).length ≤ sizeLine := by rw [List.length_map, k2.length_eq]; exact hz9
  refine wpAny_pure ⟨_, rfl, .ref h'.objs.size, upd H h'.objs.size (.lst ((out.map SrtO.iv).map V.int)), I1.laid (t' := tk) (fun b u e => ?_) (Nat.le_refl _)
    (show ObjOk X.prog X.w _ _ _ (.lst ((out.map SrtO.iv).map V.int)) from ⟨hlen, out, e', vals_of_ints k1, he'⟩), rfl, q _ _ k2 k3 (I1.hok.fresh (Nat.le_refl _))⟩
  have hb : b < h'.objs.size := Heap.lt_size e
  rw [sortedHeap_old (Nat.ne_of_lt hb) (by rw [size_push']; exact Nat.lt_succ_of_lt hb)]
  exact Heap.get?_push_of_some _ e
end
end L2
namespace Q
open PySem L2 PyProof.Rows
section
variable {K : PySem.W.Frag}
theorem zip_keys {α β : Type} : ∀ (l : List α) (m : List β), l.length = m.length → (l.zip m).map (·.1) = l
  | [], _, _ => rfl
  | a :: l, [], h => by simp at h
  | a :: l, b :: m, h => by simp [zip_keys l m (by simpa using h)]
end
end Q
/-! QH24 -/
namespace Q
open PySem L2 PyProof.Rows
end Q
/-! QH25 -/
/-! ### range(a, b) with bounds of any size -/
namespace L2
open PySem PySem.Spec PyProof.Rows
end L2
namespace Q
open PySem L2 PyProof.Rows
end Q
/-! QH26 -/
/-! ### defs that ask what is being shown (repr): the guards are known there -/
namespace Q
open PySem L2 PyProof.Rows PySem.Spec
/-- room, and nothing is being shown -/
structure RoomG (k : Nat) (A : Around) : Prop where
  room : Room k A
  idle : A.guards = some []
theorem RoomG.mono {j k : Nat} {A : Around} (r : RoomG k A) (h : j ≤ k) : RoomG j A := ⟨r.room.mono h, r.idle⟩
structure FnOkG (P : Program) (w : World) (K : PySem.W.Frag) (mg : Str → Option Value) (base : Heap) (CX : CXT) (k : Nat) (f : Addr) (fd : FuncData) (ps : List Str) (sp : Sp) : Prop where
  len : ∀ vs H Q E, sp vs H Q E → vs.length = ps.length
  goes : ∀ (A : Around), RoomG k A → ∀ (outer : List PySem.Env) (s : Shared) (H : Hp), Env0 P w K mg base A outer s H → ∀ (args : Args) (us : List Value) (vs : List V), Vals vs us → BindsTo s fd args (ps.zip us) →
    ∀ (R : VK) (E : XK), sp vs H R E → codeAny (model P w) A (.call (.ref f) args) (CR CX outer P w H s R E) s
section
variable {P : Program} {w : World} {K : PySem.W.Frag} {mg : Str → Option Value} {base : Heap} {CX : CXT} {k : Nat} {f : Addr} {fd : FuncData} {ps : List Str} {sp : Sp}
theorem FnOkG.of (F : FnOk P w K mg base CX k f fd ps sp) : FnOkG P w K mg base CX k f fd ps sp where
  len := F.len
  goes A r outer s H e args us vs rel b R E h := F.run A outer s H args us vs R E r.room e b rel h
end
section
variable {X : Cx} {CX : CXT} {k : Nat} {f : Addr} {fd : FuncData} {ps : List Str} {sp : Sp} {E : XK} {ds : List Value} {dvs : List V} {x : Str} {p pos : Pos} {e : Expr} {es : List Expr} {t : TA}
/-- the call itself, all evaluated -/
theorem FnOkG.call (F : FnOkG X.prog X.w X.K X.mg X.base CX k f fd ps sp) (r : RoomG k X.A) (b : Binds X.K fd ps ds) (d : Vals dvs ds) (px : Passes CX X E) {pins : List (Addr × Obj)} {σ : L2.St} {H : Hp} {s : Shared} {R : VK} {us : List Value} {vs : List V}
    (I : Inv X pins σ H s) (rv : Vals vs us) (h : sp (vs ++ dvs) H R E) : wpAny (model X.prog X.w) X.A (call (.ref f) us) (EP X pins σ R) X.xe s :=
  have rall : Vals (vs ++ dvs) (us ++ ds) := rv.append d
  have bs := b s us I.kIn (by have := F.len _ _ _ _ h; have e := rall.length; omega)
  wpAny_call (codeAny_mono (F.goes X.A r X.stack s H I.env0 ⟨us, []⟩ _ _ rall bs R E h) fun res s' q =>
    match res, q with
    | .ok (.ret _), q => I.after q
    | .ok .next, q => q.elim
    | .ok .brk, q => q.elim
    | .ok .cont, q => q.elim
    | .error ex, q => px pins σ H s ex s' I q)
end
section
variable {X : Cx} {CX : CXT} {B : Bs} {k : Nat} {f : Addr} {fd : FuncData} {ps : List Str} {sp : PSp} {E : XK} {ds : List Value} {dvs : List V} {dds : List D} {x : Str} {p pos : Pos} {e : Expr} {es : List Expr} {as : DA}
/-! ### repr -/
theorem RelX.rp {K : PySem.W.Frag} {F : Hp} {pa : Option Addr} {t : Ts} {env : En} {σ : L2.St} {H : Hp} {i : D} {v : V} (W : Cf K B F pa t env σ H) (r : RelX K F pa env σ (.rp i) v) : v = .str (toPy i).shown := by
  rcases r with r | ⟨i, h1, h2⟩
  · unfold RelD at r; exact r
  · obtain ⟨a, h, s1, q, z, _⟩ := W.own _ _ h1; exact z.elim
end
end Q
/-! QH27 -/
namespace Q
open PySem L2 PyProof.Rows
end Q
/-! QD2 -/
/-! Q, the data level, more of it. -/
namespace Q
open PySem
end Q
/-! QH28 -/
namespace Q
open PySem L2 PyProof.Rows
section
variable {X : Cx} {CX : CXT} {B : Bs} {K : PySem.W.Frag} {k : Nat} {f C : Addr} {fd : FuncData} {ps : List Str} {E : XK} {a b : Expr} {da db : DE} {pos : Pos}
theorem RelX.adr {F : Hp} {pa : Option Addr} {t : Ts} {env : En} {σ : L2.St} {H : Hp} {A : Addr} {v : V} (W : Cf K B F pa t env σ H) (r : RelX K F pa env σ (.adr A) v) : v = .ref A := by
  rcases r with r | ⟨i, z1, z2⟩
  · unfold RelD at r; exact r
  · obtain ⟨_, _, _, _, z, _⟩ := W.own _ _ z1; exact z.elim
end
end Q
/-! QD3 -/
/-! Q, the data level, still more. -/
namespace Q
open PySem
/-- a text in a tuple of texts -/
def oInT : DOp := fun x y P => match x, y with
  | .str x, .tup l => ∃ ss : List Str, l = ss.map .str ∧ P (.bl (ss.any fun z => z == x))
  | _, _ => False
end Q
/-! QH29 -/
namespace Q
open PySem L2 PyProof.Rows
section
variable {X : Cx} {B : Bs} {K : PySem.W.Frag}
theorem relL_strs {F : Hp} {pa : Option Addr} : ∀ {ss : List Str} {vs : List V}, RelL K F pa (ss.map .str) vs → vs = ss.map V.str
  | [], vs, r => r.inv0
  | s :: ss, vs, r => by
    obtain ⟨v, vr, rfl, r1, r2⟩ := RelL.inv (show RelL K F pa (D.str s :: ss.map .str) vs from r)
    unfold RelD at r1
    rw [r1, relL_strs r2]; rfl
theorem flat_strs : ∀ ss : List Str, (ss.map V.str).all flatV = true
  | [] => rfl
  | s :: ss => by simp [flatV, flat_strs ss]
theorem inV_strs (x : Str) : ∀ ss : List Str, inV (.str x) (ss.map V.str) = ss.any fun z => z == x
  | [] => rfl
  | s :: ss => by
    have := inV_strs x ss
    unfold inV at this ⊢
    rw [List.map_cons, List.any_cons, List.any_cons, this]
    rfl
theorem rop_inT : ROp K (rIn K false) oInT := fun B F pa t env σ H x y v u P Q W rx ry h k => by
  cases x with
  | str x =>
    cases y with
    | tup l =>
      obtain ⟨ss, rfl, h⟩ := h
      obtain ⟨a, vs, rfl, e1, _, r1⟩ := ry.tup W
      rw [relL_strs r1] at e1
      obtain rfl := rx.str W
      refine ⟨a, _, rfl, .inr (SqT.of e1), rfl, flat_strs ss, ?_⟩
      refine k _ (.bl (ss.any fun z => z == x)) F H (Gr.refl _ _) W ?_ h
      rw [if_neg Bool.false_ne_true, inV_strs]
      exact rD_bl _
    | _ => exact h.elim
  | _ => exact h.elim
end
end Q
/-! QH30 -/
namespace Q
open PySem L2 PyProof.Rows
/-! ### two fors in one comprehension -/
section
variable {X : Cx} {B : Bs} {K : PySem.W.Frag}
/-- an object outside: with another thing in it the state stands, from the base with this thing in it -/
theorem Cf.swap {BF BH : Hp} {ex : List Addr} {pn : Option Addr} {m : Bool} {F : Hp} {pa : Option Addr} {t : Ts} {env : En} {σ : L2.St} {H : Hp} {p : Addr} {o o0 : HO} {O : Addr → Prop} (C : Cf K ⟨BF, BH, ex, pn, m, [], O⟩ F pa t env σ H) (hx : p ∉ ex) (ho : ¬ O p) (h0 : BH p = some o0) (hF : BF p = none) :
    Cf K ⟨BF, upd BH p o, ex, pn, m, [], O⟩ F pa t env σ (upd H p o) ∧ F p = none := by
  have f0 : F p = none := by
    cases z : F p with
    | none => rfl
    | some u =>
      rcases C.new p u z with ⟨o', q⟩ | q
      · have q : BF p = some o' := q
        rw [hF] at q; cases q
      · have q : BH p = none := q
        rw [h0] at q; cases q
  have no : ∀ {a : Addr}, (a ∈ ex ∨ BH a = none) → a ≠ p := fun {a} h e => by
    subst e
    rcases h with q | q
    · exact hx q
    · rw [h0] at q; cases q
  have nb : ∀ {a : Addr}, BH a = none → upd BH p o a = none := fun {a} h => by
    rw [upd_ne (no (.inr h))]; exact h
  refine ⟨⟨C.len, fun a u q => ?_, C.bas, fun a u q hq hO => ?_, fun a u q => ?_, fun a ha => ?_, C.val, fun i d e => ?_, C.sep, fun a e => ?_, C.pnn, TabF.nil, C.ntb, fun a d e => by
    obtain ⟨h1, ⟨u, h2, h3⟩, h4, h5, h6⟩ := C.obs a d e
    have na : a ≠ p := by
      rintro rfl
      rcases h5 with q | q
      · exact ho q
      · have q : BH a = none := q
        rw [h0] at q; exact (nomatch q)
    exact ⟨h1, ⟨u, by rw [upd_ne na]; exact h2, h3⟩, h4, h5.imp id nb, h6⟩, C.obx, C.osp⟩, f0⟩
  · rw [upd_ne (ne_of_none q f0)]; exact C.sub a u q
  · by_cases ha : a = p
    · subst ha
      have q : upd BH a o a = some u := q
      rw [upd_same] at q ⊢; exact q
    · have q : upd BH p o a = some u := q
      rw [upd_ne ha] at q ⊢; exact C.frm a u q hq hO
  · rcases C.new a u q with z | z
    · exact .inl z
    · exact .inr (nb z)
  · obtain ⟨u, q⟩ := C.exl a ha
    exact ⟨u, by rw [upd_ne (no (.inl ha))]; exact q⟩
  · obtain ⟨a, u, h1, h2, h3, h4, h5, h6⟩ := C.own i d e
    exact ⟨a, u, h1, by rw [upd_ne (no h6)]; exact h2, h3, h4, h5, h6.imp id nb⟩
  · obtain ⟨h1, ⟨u, h2, h3⟩, h4⟩ := C.pen a e
    exact ⟨h1, ⟨u, by rw [upd_ne (no h4)]; exact h2, h3⟩, h4.imp id nb⟩
end
end Q
/-! QH31 -/
namespace Q
open PySem L2 PyProof.Rows
end Q
/-! QD4 -/
namespace Q
open PySem
/-! defs that may raise -/
end Q
/-! QH32 -/
namespace Q
open PySem L2 PyProof.Rows
/-! ### keyword-only parameters -/
section
variable {K : PySem.W.Frag}
theorem kw_binds {fd : FuncData} {ps : List Str} {D : Addr} {n : Str} {u : Value} (h : PySem.W.nsIn K D n = some (some u)) (c : ∀ us : List Value, us.length + 1 = ps.length → KwChain D [(n, u)] (bindArgs fd ⟨us, []⟩) (ps.zip (us ++ [u]))) : Binds K fd ps [u] :=
  fun s us X hlen => BindsTo.of_looks fun M => KwChain.looks X (fun q hq => by
    rcases List.mem_cons.mp hq with rfl | hq
    · exact h
    · cases hq) (c us (by simpa using hlen))
end
end Q
/-! QH33 -/
namespace Q
open PySem L2 PyProof.Rows PpSet
/-! ### {e for x in xs if c}, {e for x in xs if c for y in ys if d}: sets of whole numbers -/
end Q
/-! QH34 -/
namespace Q
open PySem L2 PyProof.Rows PpSet
/-! ### sorted(sets of whole numbers) -/
end Q
/-! MLib -/
namespace Q
open PySem
/-! ### data made of whole numbers -/
theorem plains_ints : ∀ a : List Int, plains (a.map .int) = true
  | [] => rfl
  | x :: a => by simp [plains, plain, plains_ints a]
theorem deeps_ints : ∀ a : List Int, deeps (a.map .int) = 0
  | [] => rfl
  | x :: a => by simp [deeps, deep, deeps_ints a]
theorem deqs_ints : ∀ a b : List Int, deqs (a.map .int) (b.map .int) = decide (a = b)
  | [], [] => rfl
  | [], _ :: _ => by simp [deqs]
  | _ :: _, [] => by simp [deqs]
  | x :: a, y :: b => by simp [deqs, deq, deqs_ints a b]
theorem deq_ints (a b : List Int) : deq (.lst (a.map .int)) (.lst (b.map .int)) = decide (a = b) := by simp [deq, deqs_ints]
theorem eqok_ints (a b : List Int) : plain (.lst (a.map .int)) = true ∧ plain (.lst (b.map .int)) = true ∧ deep (.lst (a.map .int)) ≤ 60 ∧ deep (.lst (b.map .int)) ≤ 60 := by
  simp [plain, plains_ints, deep, deeps_ints]
theorem deqn_t {a b : List Int} (h : (!deq (.lst (a.map .int)) (.lst (b.map .int))) = true) : a ≠ b := by rw [deq_ints] at h; simpa using h
theorem deqn_f {a b : List Int} (h : (!deq (.lst (a.map .int)) (.lst (b.map .int))) = false) : a = b := by rw [deq_ints] at h; simpa using h
theorem atI_nat {xs : List D} {i : Int} {d : D} (h0 : 0 ≤ i) (h : xs[i.toNat]? = some d) : atI xs i = some d := by
  unfold atI
  have := (List.getElem?_eq_some_iff.mp h).1
  rw [if_pos h0, if_pos (by omega), h]
theorem atI_ints {xs : List Int} {i : Int} (h0 : 0 ≤ i) (h : i < xs.length) : atI (xs.map .int) i = some (.int (xs.getD i.toNat 0)) := by
  refine atI_nat h0 ?_
  have h' : i.toNat < xs.length := by omega
  rw [List.getElem?_map, List.getElem?_eq_getElem h']
  simp [List.getD_eq_getElem?_getD, List.getElem?_eq_getElem h']
/-! ### tests whose answer is known -/
theorem br_ne {c : Prop} [Decidable c] {p q : Prop} (h : c) (k : q) : Br (!decide c) p q := Br.mk (fun z => by simp [h] at z) fun _ => k
theorem br_eq {c : Prop} [Decidable c] {p q : Prop} (h : c) (k : p) : Br (decide c) p q := Br.mk (fun _ => k) fun z => absurd h (of_decide_eq_false z)
theorem br_nq {c : Prop} [Decidable c] {p q : Prop} (h : ¬ c) (k : q) : Br (decide c) p q := Br.mk (fun z => absurd (of_decide_eq_true z) h) fun _ => k
theorem br_nn {c : Prop} [Decidable c] {p q : Prop} (h : ¬ c) (k : p) : Br (!decide c) p q := Br.mk (fun _ => k) fun z => by simp [h] at z
/-! ### sizes -/
theorem Sm.lit {b : Nat} {i : Int} (h : i.natAbs < 2 ^ b) : Sm b i := h
theorem Sm.mono {a b : Nat} {i : Int} (h : Sm a i) (hab : a ≤ b) : Sm b i := Nat.lt_of_lt_of_le h (Nat.pow_le_pow_right (by decide) hab)
theorem Sm.of {b : Nat} {i j : Int} (h0 : 0 ≤ i) (h : i ≤ j) (hj : Sm b j) : Sm b i := by unfold Sm at *; omega
theorem Sm.sub {a : Nat} {i j : Int} (h : Sm a i) (k : Sm a j) : Sm (a + 1) (i - j) := by
  unfold Sm at *
  have := Nat.pow_succ 2 a
  omega
theorem sm64 {i : Int} (h0 : -1000000000000000000 ≤ i) (h1 : i ≤ 1000000000000000000) : Sm 64 i := by
  unfold Sm
  have : (2 : Nat) ^ 64 = 18446744073709551616 := by decide
  omega
theorem MulOk.l {i j : Int} (h0 : -1000000000000000000 ≤ i) (h1 : i ≤ 1000000000000000000) : MulOk i j := .inl (sm64 h0 h1)
theorem MulOk.r {i j : Int} (h0 : -1000000000000000000 ≤ j) (h1 : j ≤ 1000000000000000000) : MulOk i j := .inr (.inl (sm64 h0 h1))
theorem MulOk.w {i j : Int} {a b : Nat} (h1 : Sm a i) (h2 : Sm b j) (h3 : 0 < a) (h4 : 0 < b) (h5 : a + b ≤ 1000000) : MulOk i j := .inr (.inr ⟨a, b, h1, h2, h3, h4, h5⟩)
theorem DivOk.s {j : Int} (h0 : 0 < j) (h1 : j ≤ 1000000000000000000) : DivOk j := ⟨h0, (sm64 (by omega) h1).mono (by decide)⟩
theorem DivOk.w {j : Int} {b : Nat} (h0 : 0 < j) (h1 : Sm b j) (h2 : b ≤ 9000) : DivOk j := ⟨h0, h1.mono h2⟩
theorem PowOk.s {i j : Int} (h0 : 0 ≤ j) (h1 : j ≤ 1000000) (h2 : -1000000000000000000 ≤ i) (h3 : i ≤ 1000000000000000000) : PowOk i j := ⟨h0, 64, sm64 h2 h3, by omega⟩
/-! ### the pen after at most n draws -/
structure Pk (n : Int) (t : Ts) : Prop where
  c : t.cells.length ≤ 63
  a0 : 0 ≤ t.at'
  a1 : t.at' ≤ n
  l : 0 ≤ t.left
  tp : t.tape = false
theorem Pk.mono {n m : Int} {t : Ts} (p : Pk n t) (h : n ≤ m) : Pk m t := ⟨p.c, p.a0, Int.le_trans p.a1 h, p.l, p.tp⟩
theorem Pk.zero {cs : List Int} (h : cs.length ≤ 63) : Pk 0 ⟨cs, 0, 0, false, noObs⟩ := ⟨h, Int.le_refl 0, Int.le_refl 0, Int.le_refl 0, rfl⟩
end Q
/-! MPen -/
namespace Q
open PySem
/-! ### the pen -/
def sp__law_pen : PSp := fun ds t P => ∃ ns, ds = [.scr ns] ∧ ns.length ≤ 63 ∧ ∀ cs : List Int, cs.length ≤ 63 → P (.dic [.inr "cells", .inr "at", .inr "left"] [.lst (cs.map .int), .int 0, .int 0]) t
def sp__law_draw : PSp := fun ds t P => ∃ many n, ds = [.pen, .int many] ∧ 0 < many ∧ Sm 9000 many ∧ Pk n t ∧ n < 100000000 ∧ ∀ z t', 0 ≤ z → z < many → Pk (n + 1) t' → P (.int z) t'
def d__law_pen : DS := (dSeq (dAsg (dOp oPow (dOp oPow (dC (.int 10)) (dC (.int 60))) (dC (.int 60))) (gName 1)) (dSeq (dRet (dDisp (("cells", (dLc [2] (iSeq (dSlice (dVar 0) dNoPart (dPart (dC (.int 63))))) (gName 2) dYes (dIfE (dB (dOp oGe (dCB bAbs (dCons (dVar 2) dNil)) (dOp oPow (dC (.int 10)) (dC (.int 18))))) (dOp oMod (dCB bAbs (dCons (dVar 2) dNil)) (dVar 1)) (dVar 2)))) :: (("at", (dC (.int 0))) :: (("left", (dC (.int 0))) :: []))))) dNext))
def d__law_draw : DS := (dSeq (dIf (dB (dOp oGt (dPenL false (dVar 0)) (dC (.int 0)))) (dSeq (dAsg (dOp oMod (dPenL false (dVar 0)) (dVar 1)) (gName 6)) (dSeq (dPutL false 0 (dOp oDiv (dPenL false (dVar 0)) (dVar 1))) (dSeq (dRet (dVar 6)) dNext))) dNext) (dSeq (dAsg (dPenA false (dVar 0)) (gName 2)) (dSeq (dPutA false 0 (dOp oAdd (dVar 2) (dC (.int 1)))) (dSeq (dAsg (dOp oAdd (dOp oMul (dVar 2) (dVar 2)) (dC (.int 5))) (gName 3)) (dSeq (dIf (dB (dOp oNe (dPenC (dVar 0)) (dLst dNil))) (dSeq (dAsg (dOp oIx (dPenC (dVar 0)) (dOp oMod (dVar 2) (dCB bLen (dCons (dPenC (dVar 0)) dNil)))) (gName 3)) dNext) dNext) (dSeq (dIf (dAnd (dB (dOp oLt (dVar 2) (dCB bLen (dCons (dPenC (dVar 0)) dNil)))) (dB (dOp oGe (dVar 3) (dOp oPow (dC (.int 10)) (dC (.int 18)))))) (dSeq (dPutL false 0 (dOp oDiv (dVar 3) (dVar 1))) (dSeq (dRet (dOp oMod (dVar 3) (dVar 1))) dNext)) dNext) (dSeq (dAsg (dOp oMod (dOp oMul (dOp oAdd (dOp oAdd (dOp oMod (dVar 3) (dC (.int 4294967311))) (dOp oMul (dC (.int 65539)) (dVar 2))) (dC (.int 17))) (dC (.int 48271))) (dC (.int 4294967311))) (gName 4)) (dSeq (dFor (iRng1 (dC (.int 3))) (gName 5) (dSeq (dAsg (dOp oAdd (dOp oAdd (dOp oAdd (dOp oMul (dVar 4) (dVar 4)) (dOp oMul (dC (.int 69621)) (dVar 4))) (dVar 2)) (dVar 5)) (gName 4)) (dSeq (dAsg (dOp oMod (dVar 4) (dC (.int 4294967311))) (gName 4)) dNext))) (dSeq (dRet (dOp oMod (dOp oDiv (dVar 4) (dC (.int 32))) (dVar 1))) dNext)))))))))
theorem len__law_pen (as : List D) (t : Ts) (P : D → Ts → Prop) (h : sp__law_pen as t P) : as.length = 1 := by obtain ⟨_, rfl, _⟩ := h; rfl
theorem len__law_draw (as : List D) (t : Ts) (P : D → Ts → Prop) (h : sp__law_draw as t P) : as.length = 2 := by obtain ⟨_, _, rfl, _⟩ := h; rfl
/-- the draw's tail: its three rounds -/
theorem draw_tail {many n c : Int} {t : Ts} {P : D → Ts → Prop} (h0 : 0 < many) (hn : n < 100000000) (ha : 0 ≤ c) (hc : c ≤ n) (hp : Pk (n + 1) t) (k : ∀ z t', 0 ≤ z → z < many → Pk (n + 1) t' → P (.int z) t') (env : En) (e0 : env[0]? = some (.val .pen)) (e1 : env[1]? = some (.val (.int many))) (e2 : env[2]? = some (.val (.int c))) (v : Int) (e3 : env[3]? = some (.val (.int v))) (hl : env.length = 7) :
    (dSeq (dAsg (dOp oMod (dOp oMul (dOp oAdd (dOp oAdd (dOp oMod (dVar 3) (dC (.int 4294967311))) (dOp oMul (dC (.int 65539)) (dVar 2))) (dC (.int 17))) (dC (.int 48271))) (dC (.int 4294967311))) (gName 4)) (dSeq (dFor (iRng1 (dC (.int 3))) (gName 5) (dSeq (dAsg (dOp oAdd (dOp oAdd (dOp oAdd (dOp oMul (dVar 4) (dVar 4)) (dOp oMul (dC (.int 69621)) (dVar 4))) (dVar 2)) (dVar 5)) (gName 4)) (dSeq (dAsg (dOp oMod (dVar 4) (dC (.int 4294967311))) (gName 4)) dNext))) (dSeq (dRet (dOp oMod (dOp oDiv (dVar 4) (dC (.int 32))) (dVar 1))) dNext))) (endsOf P) env t := by
  match env, hl, e0, e1, e2, e3 with
  | [_, _, _, _, x4, x5, x6], _, e0, e1, e2, e3 =>
  cases e0; cases e1; cases e2; cases e3
  conv => whnf
  refine ⟨by decide, ?_⟩
  conv => whnf
  refine ⟨.l (by omega) (by omega), ?_⟩
  conv => whnf
  refine ⟨.r (by omega) (by omega), ?_⟩
  conv => whnf
  refine ⟨by decide, ?_⟩
  conv => whnf
  refine ⟨by decide, ?_⟩
  conv => whnf
  refine ⟨fun i e m => m = t ∧ ∃ z x5' : Int, 0 ≤ z ∧ z < 4294967311 ∧ ∃ s5, e = [.val .pen, .val (.int many), .val (.int c), .val (.int v), .val (.int z), s5, x6], ⟨rfl, _, 0, Int.emod_nonneg _ (by decide), Int.emod_lt_of_pos _ (by decide), _, rfl⟩, fun i x e m hx hI => ?_, fun e m hI => ?_⟩
  · obtain ⟨rfl, z, _, hz, hz', s5, rfl⟩ := hI
    obtain ⟨hi, rfl⟩ := rng_get hx
    conv => whnf
    refine ⟨.l (by omega) (by omega), ?_⟩
    conv => whnf
    refine ⟨.l (by omega) (by omega), ?_⟩
    conv => whnf
    refine ⟨by decide, ?_⟩
    conv => whnf
    exact ⟨rfl, _, 0, Int.emod_nonneg _ (by decide), Int.emod_lt_of_pos _ (by decide), _, rfl⟩
  · obtain ⟨rfl, z, _, hz, hz', s5, rfl⟩ := hI
    conv => whnf
    refine ⟨.s (by decide) (by decide), ?_⟩
    conv => whnf
    refine ⟨h0, ?_⟩
    conv => whnf
    exact k _ _ (Int.emod_nonneg _ (by omega)) (Int.emod_lt_of_pos _ h0) hp
theorem d__law_draw_ok (as : List D) (t : Ts) (P : D → Ts → Prop) (h : sp__law_draw as t P) : d__law_draw (endsOf P) (start0 ["_law_pen_here", "_law_many", "_law_at", "_law_cell", "_law_number", "_law_rounds", "_law_digit"] as) t := by
  obtain ⟨many, n, rfl, h0, hs, hp, hn, k⟩ := h
  have tp := hp.tp
  have a0 := hp.a0
  have a1 := hp.a1
  conv => whnf
  refine ⟨tp, ?_⟩
  conv => whnf
  refine Br.mk (fun hl => ?_) (fun hl => ?_)
  · have hl : 0 < t.left := of_decide_eq_true hl
    conv => whnf
    refine ⟨tp, ?_⟩
    conv => whnf
    refine ⟨h0, ?_⟩
    conv => whnf
    refine ⟨tp, ?_⟩
    conv => whnf
    refine ⟨⟨h0, hs⟩, ?_⟩
    conv => whnf
    refine ⟨tp, ?_⟩
    conv => whnf
    exact k _ _ (Int.emod_nonneg _ (by omega)) (Int.emod_lt_of_pos _ h0) ⟨hp.c, hp.a0, (by show t.at' ≤ n + 1; omega), Int.ediv_nonneg hp.l (by omega), tp⟩
  · conv => whnf
    refine ⟨tp, ?_⟩
    conv => whnf
    refine ⟨tp, ?_⟩
    conv => whnf
    refine ⟨.l (by omega) (by omega), ?_⟩
    conv => whnf
    have P1 : Pk (n + 1) ⟨t.cells, t.at' + 1, t.left, t.tape, t.obs⟩ := ⟨hp.c, (by show 0 ≤ t.at' + 1; omega), (by show t.at' + 1 ≤ n + 1; omega), hp.l, tp⟩
    refine ⟨eqok_ints t.cells [], ?_⟩
    conv => whnf
    refine Br.mk (fun hc => ?_) (fun hc => ?_)
    · have hc : t.cells ≠ [] := deqn_t (b := []) hc
      have hn0 : 0 < t.cells.length := by
        cases q : t.cells with
        | nil => exact absurd q hc
        | cons => simp
      conv => whnf
      refine ⟨by simpa using hn0, ?_⟩
      conv => whnf
      refine ⟨_, atI_ints (Int.emod_nonneg _ (by simp; omega)) (by simpa using Int.emod_lt_of_pos _ (by simpa using hn0)), ?_⟩
      generalize t.cells.getD _ 0 = v
      conv => whnf
      refine Br.mk (fun hx => ?_) (fun hx => ?_)
      · conv => whnf
        refine ⟨PowOk.s (by decide) (by decide) (by decide) (by decide), ?_⟩
        conv => whnf
        refine Br.mk (fun hy => ?_) (fun hy => ?_)
        · conv => whnf
          refine ⟨⟨h0, hs⟩, ?_⟩
          conv => whnf
          refine ⟨tp, ?_⟩
          conv => whnf
          refine ⟨h0, ?_⟩
          conv => whnf
          refine k _ _ (Int.emod_nonneg _ (by omega)) (Int.emod_lt_of_pos _ h0) ⟨hp.c, P1.a0, P1.a1, Int.ediv_nonneg ?_ (by omega), tp⟩
          have := of_decide_eq_true hy
          exact Int.le_trans (by decide) this
        · exact draw_tail h0 hn a0 a1 P1 k [.val .pen, .val (.int many), .val (.int t.at'), .val (.int v), .no, .no, .no] rfl rfl rfl _ rfl rfl
      · exact draw_tail h0 hn a0 a1 P1 k [.val .pen, .val (.int many), .val (.int t.at'), .val (.int v), .no, .no, .no] rfl rfl rfl _ rfl rfl
    · have hc : t.cells = [] := deqn_f (b := []) hc
      conv => whnf
      refine Br.mk (fun hx => ?_) (fun hx => ?_)
      · have hx := of_decide_eq_true hx
        rw [hc] at hx
        exact absurd hx (by show ¬ t.at' < 0; omega)
      · exact draw_tail h0 hn a0 a1 P1 k [.val .pen, .val (.int many), .val (.int t.at'), .val (.int (t.at' * t.at' + 5)), .no, .no, .no] rfl rfl rfl _ rfl rfl
theorem d__law_pen_ok (as : List D) (t : Ts) (P : D → Ts → Prop) (h : sp__law_pen as t P) : d__law_pen (endsN P) (start0 ["_law_script", "_law_most", "_law_cell"] as) t := by
  obtain ⟨ns, rfl, hl, k⟩ := h
  conv => whnf
  refine ⟨PowOk.s (by decide) (by decide) (by decide) (by decide), ?_⟩
  conv => whnf
  refine ⟨⟨by decide, 200, Sm.lit (by decide), by decide⟩, ?_⟩
  have hM0 : (0 : Int) < (10 ^ Int.toNat 60) ^ Int.toNat 60 := by decide
  revert hM0
  generalize ((10 : Int) ^ Int.toNat 60) ^ Int.toNat 60 = M
  intro hM0
  conv => whnf
  refine ⟨fun i acc m => m = t ∧ acc.length = i ∧ ∃ cs : List Int, acc = cs.map .int, ⟨rfl, rfl, [], rfl⟩, fun i x acc m hx hI => ?_, fun acc m hI => ?_⟩
  · obtain ⟨rfl, hi, cs, rfl⟩ := hI
    have hlt := (List.getElem?_eq_some_iff.mp hx).1
    have hlt : i < 63 := by
      simp [cutD, sIx] at hlt
      omega
    obtain ⟨c, rfl⟩ : ∃ c : Int, x = .int c := by
      have := List.mem_of_getElem? hx
      unfold cutD at this
      obtain ⟨c, _, h⟩ := List.mem_map.mp (List.mem_of_mem_drop (List.mem_of_mem_take this))
      exact ⟨c, h.symm⟩
    conv => whnf
    refine ⟨rfl, ?_⟩
    conv => whnf
    refine ⟨PowOk.s (by decide) (by decide) (by decide) (by decide), ?_⟩
    conv => whnf
    refine Br.mk (fun hx => ?_) (fun hx => ?_)
    · conv => whnf
      refine ⟨hM0, ?_⟩
      conv => whnf
      refine ⟨by rw [hi]; unfold zLen; omega, rfl, by simp at hi ⊢; omega, cs ++ [_], by simp; rfl⟩
    · refine ⟨by rw [hi]; unfold zLen; omega, rfl, by simp at hi ⊢; omega, cs ++ [_], by simp; rfl⟩
  · obtain ⟨rfl, hi, cs, rfl⟩ := hI
    refine k cs ?_
    simp at hi
    rw [hi]
    simp [cutD, sIx]
    omega
/-! far numbers -/
end Q
/-! MSig -/
namespace Q
open PySem
/-! ### signs by a base -/
theorem ediv_toNat_lt {b x : Int} (h : 0 < x ∧ 2 ≤ b) : (x / b).toNat < x.toNat := by
  have h1 : x / b < x := Int.ediv_lt_of_lt_mul (by omega) (by
    have := Int.mul_le_mul_of_nonneg_left h.2 (Int.le_of_lt h.1)
    omega)
  have h2 : 0 ≤ x / b := Int.ediv_nonneg (by omega) (by omega)
  omega
def sigs (b x : Int) : List Int := if h : 0 < x ∧ 2 ≤ b then sigs b (x / b) ++ [x % b] else []
termination_by x.toNat
decreasing_by exact ediv_toNat_lt h
def heap (b x : Int) : Int := if h : 0 < x ∧ 2 ≤ b then x / b + heap b (x / b) else 0
termination_by x.toNat
decreasing_by exact ediv_toNat_lt h
theorem heap_pos {b x : Int} (h : 0 < x) (hb : 2 ≤ b) : heap b x = x / b + heap b (x / b) := by
  rw [heap, dif_pos ⟨h, hb⟩]
theorem heap_zero {b x : Int} (h : ¬ 0 < x) : heap b x = 0 := by
  rw [heap, dif_neg (fun z => h z.1)]
/-! the program's -/
def sp_heap_of : PSp := fun ds t P => ∃ x b, ds = [.int x, .int b] ∧ 2 ≤ b ∧ b < 1000000000 ∧ P (.int (heap b x)) t
theorem len_heap_of (as : List D) (t : Ts) (P : D → Ts → Prop) (h : sp_heap_of as t P) : as.length = 2 := by obtain ⟨_, _, rfl, _⟩ := h; rfl
def d_heap_of : DS := (dSeq (dAsg (dC (.int 0)) (gName 2)) (dSeq (dWhile (dB (dOp oGt (dVar 0) (dC (.int 0)))) (dSeq (dAug 0 oDiv (dVar 1)) (dSeq (dAug 2 oAddI (dVar 0)) dNext))) (dSeq (dRet (dVar 2)) dNext)))
theorem d_heap_of_ok (as : List D) (t : Ts) (P : D → Ts → Prop) (h : sp_heap_of as t P) : d_heap_of (endsOf P) (start0 ["number", "base", "found"] as) t := by
  obtain ⟨x, b, rfl, hb, hb', k⟩ := h
  conv => whnf
  refine ⟨fun e m => ∃ y n, e = [.val (.int y), .val (.int b), .val (.int n)] ∧ m = t ∧ heap b x = n + heap b y, fun e m => match e with | .val (.int y) :: _ => y.toNat | _ => 0, ⟨x, 0, rfl, rfl, by simp⟩, fun e m hI => ?_⟩
  obtain ⟨y, n, rfl, rfl, hq⟩ := hI
  conv => whnf
  refine Br.mk (fun hc => ?_) (fun hc => ?_)
  · have hc : 0 < y := of_decide_eq_true hc
    conv => whnf
    refine ⟨.s (by omega) (by omega), ?_⟩
    conv => whnf
    refine ⟨⟨y / b, n + y / b, rfl, rfl, ?_⟩, ediv_toNat_lt ⟨hc, hb⟩⟩
    rw [hq, heap_pos hc hb]
    omega
  · have hc : ¬ 0 < y := of_decide_eq_false hc
    conv => whnf
    rw [heap_zero hc] at hq
    rw [show n = heap b x by omega]
    exact k
end Q
/-! MHous -/
namespace Q
open PySem
/-! ### the row: last places, from the plain law -/
/-- the beginning's sums, each less one -/
def Su (bs : List Int) (j : Int) : Int := ((bs.take j.toNat).map (· - 1)).sum
structure Hou (b : Int) (bs : List Int) : Prop where
  b2 : 2 ≤ b
  b30 : b ≤ 30
  len : (bs.length : Int) = b - 1
  pos : ∀ x ∈ bs, 1 ≤ x
def Re (bs : List Int) : Int := Su bs bs.length
def Lp (b : Int) (bs : List Int) (n : Int) : Int := if h : 0 < n ∧ 2 ≤ b then (if n < b then n + Su bs n else Lp b bs (n / b) + n + Re bs) else 0
termination_by n.toNat
decreasing_by exact ediv_toNat_lt h
theorem Lp_le0 {b : Int} {bs : List Int} {n : Int} (h : n ≤ 0) : Lp b bs n = 0 := by
  rw [Lp, dif_neg (fun z => by omega)]
theorem Lp_lt {b : Int} {bs : List Int} {n : Int} (hb : 2 ≤ b) (h : 0 < n) (h2 : n < b) : Lp b bs n = n + Su bs n := by
  rw [Lp, dif_pos ⟨h, hb⟩, if_pos h2]
theorem Lp_ge {b : Int} {bs : List Int} {n : Int} (hb : 2 ≤ b) (h2 : b ≤ n) : Lp b bs n = Lp b bs (n / b) + n + Re bs := by
  rw [Lp, dif_pos ⟨by omega, hb⟩, if_neg (by omega)]
section
variable {b : Int} {bs : List Int}
theorem Hou.l0 (h : Hou b bs) : 0 < bs.length := by have := h.len; have := h.b2; omega
theorem Su_zero : Su bs 0 = 0 := by simp [Su]
theorem Su_succ {j : Int} (h0 : 0 ≤ j) (h1 : j < bs.length) : Su bs (j + 1) = Su bs j + bs.getD j.toNat 0 - 1 := by
  unfold Su
  have e : (j + 1).toNat = j.toNat + 1 := by omega
  have hj : j.toNat < bs.length := by omega
  rw [e, List.take_add_one, List.getElem?_eq_getElem hj, List.map_append, List.sum_append, List.getD_eq_getElem?_getD, List.getElem?_eq_getElem hj]
  simp
  omega
theorem Hou.at (h : Hou b bs) {j : Int} (h0 : 0 ≤ j) (h1 : j < bs.length) : 1 ≤ bs.getD j.toNat 0 := by
  have hj : j.toNat < bs.length := by omega
  rw [List.getD_eq_getElem?_getD, List.getElem?_eq_getElem hj]
  exact h.pos _ (List.getElem_mem hj)
/-- the row within the row, from b - 1 on -/
theorem Lp_rec (h : Hou b bs) {n : Int} (hn : b - 1 ≤ n) : Lp b bs n = Lp b bs (n / b) + n + Re bs := by
  have hb := h.b2
  by_cases h1 : b ≤ n
  · exact Lp_ge hb h1
  · have e : n = b - 1 := by omega
    subst e
    rw [Lp_lt hb (by omega) (by omega), Int.ediv_eq_zero_of_lt (by omega) (by omega), Lp_le0 (Int.le_refl 0)]
    have : Su bs (b - 1) = Re bs := by rw [Re, h.len]
    omega
/-- how many times a number is said -/
def Ti (b : Int) (bs : List Int) (n : Int) : Int := Lp b bs n - Lp b bs (n - 1)
theorem Ti_lt (h : Hou b bs) {n : Int} (h0 : 1 ≤ n) (h1 : n < b) : Ti b bs n = bs.getD (n - 1).toNat 0 := by
  have hb := h.b2
  have hl := h.len
  have e := Su_succ (bs := bs) (j := n - 1) (by omega) (by omega)
  rw [show n - 1 + 1 = n by omega] at e
  unfold Ti
  rw [Lp_lt hb (by omega) h1]
  by_cases h2 : n = 1
  · subst h2
    rw [Lp_le0 (by decide)]
    rw [show (1 : Int) - 1 = 0 by decide, Su_zero] at e
    simp at e ⊢
    omega
  · rw [Lp_lt hb (by omega) (by omega)]
    omega
theorem Ti_ge (h : Hou b bs) {n : Int} (h1 : b ≤ n) : Ti b bs n = 1 + (Lp b bs (n / b) - Lp b bs ((n - 1) / b)) := by
  unfold Ti
  rw [Lp_rec h (n := n) (by omega), Lp_rec h (n := n - 1) (by omega)]
  omega
theorem div_pred {b n : Int} (hb : 2 ≤ b) (h : ¬ n % b = 0) : (n - 1) / b = n / b := by
  have h1 := Int.mul_ediv_add_emod n b
  have h2 := Int.emod_nonneg n (show b ≠ 0 by omega)
  have h3 := Int.emod_lt_of_pos n (show 0 < b by omega)
  refine Int.ediv_emod_unique (show 0 < b by omega) (r := n % b - 1) |>.mpr ⟨by omega, by omega, by omega⟩ |>.1
theorem div_predm {b u : Int} (hb : 2 ≤ b) : (b * u - 1) / b = u - 1 := by
  refine Int.ediv_emod_unique (show 0 < b by omega) (r := b - 1) |>.mpr ⟨by rw [Int.mul_sub]; omega, by omega, by omega⟩ |>.1
theorem Ti_one (h : Hou b bs) {n : Int} (h1 : b ≤ n) (h2 : ¬ n % b = 0) : Ti b bs n = 1 := by
  rw [Ti_ge h h1, div_pred h.b2 h2]
  omega
theorem Ti_mul (h : Hou b bs) {u : Int} (h1 : 1 ≤ u) : Ti b bs (b * u) = Ti b bs u + 1 := by
  have hb := h.b2
  have : b ≤ b * u := by
    have := Int.mul_le_mul_of_nonneg_left h1 (show 0 ≤ b by omega)
    omega
  rw [Ti_ge h this, div_predm hb, Int.mul_ediv_cancel_left _ (by omega)]
  unfold Ti
  omega
theorem Ti_pos (h : Hou b bs) : ∀ (k : Nat) (n : Int), n.toNat ≤ k → 1 ≤ n → 1 ≤ Ti b bs n
  | 0, n, h0, h1 => by omega
  | k + 1, n, h0, h1 => by
    have hb := h.b2
    by_cases h2 : n < b
    · rw [Ti_lt h h1 h2]
      have := h.len
      exact h.at (by omega) (by omega)
    · by_cases h3 : n % b = 0
      · have h4 := Int.mul_ediv_add_emod n b
        have h5 : n = b * (n / b) := by omega
        have h6 : 1 ≤ n / b := by
          rcases Int.lt_or_le 0 (n / b) with h | h
          · omega
          · have := Int.ediv_nonneg (show 0 ≤ n by omega) (show 0 ≤ b by omega)
            rw [show n / b = 0 by omega] at h5
            omega
        have h7 := ediv_toNat_lt (b := b) (x := n) ⟨by omega, hb⟩
        rw [h5, Ti_mul h h6]
        have := Ti_pos h k (n / b) (by omega) h6
        omega
      · rw [Ti_one h (by omega) h3]
        omega
theorem Lp_step (h : Hou b bs) {n : Int} (h1 : 1 ≤ n) : Lp b bs (n - 1) + 1 ≤ Lp b bs n := by
  have := Ti_pos h _ n (Nat.le_refl _) h1
  unfold Ti at this
  omega
theorem Lp_mono' (h : Hou b bs) : ∀ (k : Nat) (n : Int), 0 ≤ n → Lp b bs n + k ≤ Lp b bs (n + k)
  | 0, n, _ => by simp
  | k + 1, n, h0 => by
    have h1 := Lp_mono' h k n h0
    have h2 := Lp_step h (n := n + k + 1) (by omega)
    rw [show n + k + 1 - 1 = n + k by omega] at h2
    rw [show n + ((k + 1 : Nat) : Int) = n + k + 1 by omega]
    omega
theorem Lp_lt_of (h : Hou b bs) {m n : Int} (h0 : 0 ≤ m) (h1 : m < n) : Lp b bs m < Lp b bs n := by
  have := Lp_mono' h (n - m).toNat m h0
  rw [show m + ((n - m).toNat : Int) = n by omega] at this
  omega
theorem Lp_le_of (h : Hou b bs) {m n : Int} (h0 : 0 ≤ m) (h1 : m ≤ n) : Lp b bs m ≤ Lp b bs n := by
  rcases Int.lt_or_eq_of_le h1 with z | z
  · exact Int.le_of_lt (Lp_lt_of h h0 z)
  · rw [z]; exact Int.le_refl _
theorem Lp_ge_self (h : Hou b bs) {n : Int} (h0 : 0 ≤ n) : n ≤ Lp b bs n := by
  have := Lp_mono' h n.toNat 0 (Int.le_refl 0)
  rw [Lp_le0 (Int.le_refl 0), show 0 + (n.toNat : Int) = n by omega] at this
  omega
/-! what is said at a place -/
structure Sa (b : Int) (bs : List Int) (p m : Int) : Prop where
  m1 : 1 ≤ m
  lo : Lp b bs (m - 1) < p
  hi : p ≤ Lp b bs m
theorem Sa.uniq (h : Hou b bs) {p m n : Int} (x : Sa b bs p m) (y : Sa b bs p n) : m = n := by
  rcases Int.lt_trichotomy m n with z | z | z
  · have := Lp_le_of h (m := m) (n := n - 1) (by have := x.m1; omega) (by omega)
    have := x.hi; have := y.lo
    omega
  · exact z
  · have := Lp_le_of h (m := n) (n := m - 1) (by have := y.m1; omega) (by omega)
    have := y.hi; have := x.lo
    omega
theorem Sa.ex' (h : Hou b bs) : ∀ (k : Nat) (p : Int), 1 ≤ p → p ≤ Lp b bs k → ∃ m, Sa b bs p m
  | 0, p, h1, h2 => by
    rw [show ((0 : Nat) : Int) = 0 from rfl, Lp_le0 (Int.le_refl 0)] at h2
    omega
  | k + 1, p, h1, h2 => by
    by_cases h3 : p ≤ Lp b bs k
    · exact Sa.ex' h k p h1 h3
    · exact ⟨(k : Int) + 1, by omega, by rw [show (k : Int) + 1 - 1 = k by omega]; omega, by simpa using h2⟩
theorem Sa.ex (h : Hou b bs) {p : Int} (h1 : 1 ≤ p) : ∃ m, Sa b bs p m := by
  refine Sa.ex' h p.toNat p h1 ?_
  have := Lp_ge_self h (n := p) (by omega)
  rwa [show (p.toNat : Int) = p by omega]
end
end Q
/-! MHou2 -/
namespace Q
open PySem
section
variable {b : Int} {bs : List Int}
/-! ### the last place by signs -/
/-! ### numbers of e + 1 signs whose first is c -/
theorem in_div {c m : Int} {e : Nat} (hb : 2 ≤ b) (h1 : c * b ^ (e + 1) ≤ m) (h2 : m < (c + 1) * b ^ (e + 1)) : c * b ^ e ≤ m / b ∧ m / b < (c + 1) * b ^ e := by
  rw [Int.pow_succ, ← Int.mul_assoc] at h1 h2
  exact ⟨(Int.le_ediv_iff_mul_le (by omega)).mpr h1, (Int.ediv_lt_iff_lt_mul (by omega)).mpr h2⟩
theorem pow_pos' (hb : 2 ≤ b) (e : Nat) : 0 < b ^ e := Int.pow_pos (by omega)
theorem Lp_in (h : Hou b bs) {c : Int} (c1 : 1 ≤ c) (c2 : c < b) : ∀ (e : Nat) (m : Int), c * b ^ e ≤ m → m < (c + 1) * b ^ e → Lp b bs m = m + heap b m + e * Re bs + Su bs c
  | 0, m, h1, h2 => by
    have hb := h.b2
    have e : m = c := by simp at h1 h2; omega
    subst e
    rw [Lp_lt hb (by omega) c2, heap_pos (by omega) hb, Int.ediv_eq_zero_of_lt (by omega) c2, heap_zero (by decide)]
    simp
  | e + 1, m, h1, h2 => by
    have hb := h.b2
    have h3 := in_div hb h1 h2
    have h4 := pow_pos' hb e
    have h5 : 0 < c * b ^ e := Int.mul_pos (by omega) h4
    have h6 : b ≤ m := by
      have := (Int.le_ediv_iff_mul_le (show 0 < b by omega)).mp (show 1 ≤ m / b by omega)
      omega
    rw [Lp_ge hb h6, Lp_in h c1 c2 e (m / b) h3.1 h3.2, heap_pos (x := m) (by omega) hb]
    have : ((e + 1 : Nat) : Int) = (e : Int) + 1 := by omega
    rw [this, Int.add_mul]
    omega
theorem heap_in (hb : 2 ≤ b) {c : Int} (c1 : 1 ≤ c) (c2 : c < b) : ∀ (e : Nat) (m : Int), c * b ^ e ≤ m → m < (c + 1) * b ^ e → m - (b - 1) * (e + 1) ≤ (b - 1) * heap b m ∧ (b - 1) * heap b m ≤ m
  | 0, m, h1, h2 => by
    have e : m = c := by simp at h1 h2; omega
    subst e
    rw [heap_pos (by omega) hb, Int.ediv_eq_zero_of_lt (by omega) c2, heap_zero (by decide)]
    simp
    omega
  | e + 1, m, h1, h2 => by
    have h3 := in_div hb h1 h2
    have h4 := pow_pos' hb e
    have h5 : 0 < c * b ^ e := Int.mul_pos (by omega) h4
    have h6 : b ≤ m := by
      have := (Int.le_ediv_iff_mul_le (show 0 < b by omega)).mp (show 1 ≤ m / b by omega)
      omega
    have h7 := heap_in hb c1 c2 e (m / b) h3.1 h3.2
    rw [heap_pos (x := m) (by omega) hb, Int.mul_add (b - 1) (m / b)]
    have h8 := Int.mul_ediv_add_emod m b
    have h9 := Int.emod_nonneg m (show b ≠ 0 by omega)
    have h10 := Int.emod_lt_of_pos m (show 0 < b by omega)
    have h11 : (b - 1) * (m / b) = b * (m / b) - m / b := by rw [Int.sub_mul, Int.one_mul]
    have h12 : (b - 1) * (((e + 1 : Nat) : Int) + 1) = (b - 1) * ((e : Int) + 1) + (b - 1) := by
      rw [show (((e + 1 : Nat) : Int) + 1) = ((e : Int) + 1) + 1 by omega, Int.mul_add, Int.mul_one]
    rw [h12, h11]
    omega
/-- the last place ahead of a sign's multiple of a power -/
theorem Lp_ahead (h : Hou b bs) {f : Int} (f1 : 1 ≤ f) (f2 : f < b) : ∀ s : Nat, Lp b bs ((f + 1) * b ^ s - 1) = ((f + 1) * b ^ s - 1) + ((f + 1) * b ^ s - 1 - (f + (b - 1) * s)) / (b - 1) + s * Re bs + Su bs f
  | 0 => by
    have hb := h.b2
    simp
    rw [Lp_lt hb (by omega) f2]
  | s + 1 => by
    have hb := h.b2
    have hp := pow_pos' hb s
    have e1 : (f + 1) * b ^ (s + 1) = b * ((f + 1) * b ^ s) := by rw [Int.pow_succ, ← Int.mul_assoc, Int.mul_comm]
    have hu : 1 ≤ (f + 1) * b ^ s := by have := Int.mul_pos (show 0 < f + 1 by omega) hp; omega
    have hbu : b ≤ b * ((f + 1) * b ^ s) := by have := Int.mul_le_mul_of_nonneg_left hu (show 0 ≤ b by omega); omega
    have ih := Lp_ahead h f1 f2 s
    rw [e1, Lp_rec h (by omega), div_predm hb]
    generalize (f + 1) * b ^ s = u at *
    rw [ih]
    have e2 : b * u - 1 - (f + (b - 1) * ((s + 1 : Nat) : Int)) = (u - 1 - (f + (b - 1) * s)) + (u - 1) * (b - 1) := by
      rw [show ((s + 1 : Nat) : Int) = (s : Int) + 1 by omega, Int.mul_add, Int.mul_one, Int.sub_mul u 1 (b - 1), Int.mul_sub u b 1, Int.mul_comm b u]
      omega
    rw [e2, Int.add_mul_ediv_right _ _ (by omega), show ((s + 1 : Nat) : Int) = (s : Int) + 1 by omega, Int.add_mul]
    omega
/-! ### the sums, as the house keeps them -/
theorem sumsOf_get : ∀ (bs : List Int) (s : Int) (i : Nat), i < bs.length → (sumsOf s bs)[i]? = some (s + Su bs (i + 1))
  | [], s, i, h => by simp at h
  | c :: r, s, 0, h => by
    show some (s + c - 1) = _
    simp [Su]
    omega
  | c :: r, s, i + 1, h => by
    show (sumsOf (s + c - 1) r)[i]? = _
    rw [sumsOf_get r (s + c - 1) i (by simpa using h)]
    have : Su (c :: r) (((i + 1 : Nat) : Int) + 1) = (c - 1) + Su r ((i : Int) + 1) := by
      unfold Su
      rw [show ((((i + 1 : Nat) : Int) + 1).toNat) = ((i : Int) + 1).toNat + 1 by omega, List.take_succ_cons]
      simp
    rw [this]
    congr 1
    omega
theorem sumsOf_len' : ∀ (bs : List Int) (s : Int), (sumsOf s bs).length = bs.length
  | [], _ => rfl
  | c :: r, s => by
    show (sumsOf (s + c - 1) r).length + 1 = r.length + 1
    rw [sumsOf_len' r]
theorem sums_at (h : Hou b bs) {j : Int} (h0 : 1 ≤ j) (h1 : j < b) : atI ((sumsOf 0 bs).map .int) (j - 1) = some (.int (Su bs j)) := by
  have hl := h.len
  refine atI_nat (by omega) ?_
  rw [List.getElem?_map, sumsOf_get bs 0 (j - 1).toNat (by omega)]
  rw [show (((j - 1).toNat : Int) + 1) = j by omega]
  simp
theorem sums_last (h : Hou b bs) : atI ((sumsOf 0 bs).map .int) (-1) = some (.int (Re bs)) := by
  have hl := h.l0
  unfold atI
  rw [if_neg (by decide), if_pos (by rw [List.length_map, sumsOf_len']; omega), List.getElem?_map]
  rw [show ((-1 : Int) + (((sumsOf 0 bs).map D.int).length : Int)).toNat = bs.length - 1 by rw [List.length_map, sumsOf_len']; omega, sumsOf_get bs 0 _ (by omega)]
  rw [show (((bs.length - 1 : Nat) : Int) + 1) = bs.length by omega]
  simp [Re]
end
end Q
/-! MHouse -/
namespace Q
open PySem
/-! ### what is a whole number, a list .. -/
def isInt : D → Bool
  | .int _ => true
  | _ => false
def isCount : D → Bool
  | .int i => decide (0 < i)
  | _ => false
def isBase : D → Bool
  | .int i => decide (2 ≤ i ∧ i ≤ 30)
  | _ => false
def isList : D → Bool
  | .lst _ => true
  | .tup _ => true
  | _ => false
def isBeg (b : Int) : D → Bool
  | .lst l => decide ((l.length : Int) = b - 1) && l.all isCount
  | .tup l => decide ((l.length : Int) = b - 1) && l.all isCount
  | _ => false
def tnOk (d : D) : Prop := ∃ n, tn d = some n
def sp_is_whole : PSp := fun ds t P => ∃ d, ds = [d] ∧ tnOk d ∧ P (.bl (isInt d)) t
def sp_is_count : PSp := fun ds t P => ∃ d, ds = [d] ∧ tnOk d ∧ P (.bl (isCount d)) t
def sp_is_base : PSp := fun ds t P => ∃ d, ds = [d] ∧ tnOk d ∧ P (.bl (isBase d)) t
def sp_is_listing : PSp := fun ds t P => ∃ d, ds = [d] ∧ tnOk d ∧ P (.bl (isList d)) t
def sp_is_beginning : PSp := fun ds t P => ∃ b d, ds = [.int b, d] ∧ tnOk d ∧ (∀ l, d = .lst l ∨ d = .tup l → l.length ≤ 1000000 ∧ ∀ x ∈ l, tnOk x) ∧ P (.bl (isBeg b d)) t
theorem len_is_whole (as : List D) (t : Ts) (P : D → Ts → Prop) (h : sp_is_whole as t P) : as.length = 1 := by obtain ⟨_, rfl, _⟩ := h; rfl
theorem len_is_count (as : List D) (t : Ts) (P : D → Ts → Prop) (h : sp_is_count as t P) : as.length = 1 := by obtain ⟨_, rfl, _⟩ := h; rfl
theorem len_is_base (as : List D) (t : Ts) (P : D → Ts → Prop) (h : sp_is_base as t P) : as.length = 1 := by obtain ⟨_, rfl, _⟩ := h; rfl
theorem len_is_listing (as : List D) (t : Ts) (P : D → Ts → Prop) (h : sp_is_listing as t P) : as.length = 1 := by obtain ⟨_, rfl, _⟩ := h; rfl
theorem len_is_beginning (as : List D) (t : Ts) (P : D → Ts → Prop) (h : sp_is_beginning as t P) : as.length = 2 := by obtain ⟨_, _, rfl, _⟩ := h; rfl
def d_is_whole : DS := (dSeq (dRet (dAndV (dIsi [.int] (dVar 0)) (dNotV (dIsi [.bl] (dVar 0))))) dNext)
def d_is_count : DS := (dSeq (dRet (dAndV (dCall sp_is_whole [] (dCons (dVar 0) dNil)) (dOp oGt (dVar 0) (dC (.int 0))))) dNext)
def d_is_base : DS := (dSeq (dRet (dAndV (dCall sp_is_whole [] (dCons (dVar 0) dNil)) (dChain oLe oLe (dC (.int 2)) (dVar 0) (dC (.int 30))))) dNext)
def d_is_listing : DS := (dSeq (dRet (dIsi [.lst, .tup] (dVar 0))) dNext)
def d_is_beginning : DS := (dSeq (dIf (dOr (dNot (dB (dCall sp_is_listing [] (dCons (dVar 1) dNil)))) (dB (dOp oNe (dCB bLen (dCons (dVar 1) dNil)) (dOp oSub (dVar 0) (dC (.int 1)))))) (dSeq (dRet (dC (.bl false))) dNext) dNext) (dSeq (dRet (dCB bAll (dCons (dLc [2] (iSeq (dVar 1)) (gName 2) dYes (dCall sp_is_count [] (dCons (dVar 2) dNil))) dNil))) dNext))
theorem d_is_whole_ok (as : List D) (t : Ts) (P : D → Ts → Prop) (h : sp_is_whole as t P) : d_is_whole (endsOf P) (start0 ["thing"] as) t := by
  obtain ⟨d, rfl, ⟨n, hn⟩, k⟩ := h
  cases d <;> first | exact k | cases hn
theorem d_is_count_ok (as : List D) (t : Ts) (P : D → Ts → Prop) (h : sp_is_count as t P) : d_is_count (endsOf P) (start0 ["thing"] as) t := by
  obtain ⟨d, rfl, hn, k⟩ := h
  conv => whnf
  refine ⟨d, rfl, hn, ?_⟩
  cases d <;> exact k
theorem d_is_base_ok (as : List D) (t : Ts) (P : D → Ts → Prop) (h : sp_is_base as t P) : d_is_base (endsOf P) (start0 ["thing"] as) t := by
  obtain ⟨d, rfl, hn, k⟩ := h
  conv => whnf
  refine ⟨d, rfl, hn, ?_⟩
  cases d with
  | int i =>
    conv => whnf
    refine Br.mk (fun h1 => ?_) (fun h1 => ?_)
    · have h1 : 2 ≤ i := of_decide_eq_true h1
      conv => whnf
      have e : isBase (.int i) = decide (i ≤ 30) := by
        show decide (2 ≤ i ∧ i ≤ 30) = _
        simp [h1]
      rw [e] at k
      exact k
    · have h1 : ¬ 2 ≤ i := of_decide_eq_false h1
      conv => whnf
      have e : isBase (.int i) = false := by
        show decide (2 ≤ i ∧ i ≤ 30) = _
        simp [h1]
      rw [e] at k
      exact k
  | _ => exact k
theorem d_is_listing_ok (as : List D) (t : Ts) (P : D → Ts → Prop) (h : sp_is_listing as t P) : d_is_listing (endsOf P) (start0 ["thing"] as) t := by
  obtain ⟨d, rfl, ⟨n, hn⟩, k⟩ := h
  cases d <;> first | exact k | cases hn
theorem bls_mapf (f : D → Bool) : ∀ l : List D, bls (l.map fun x => .bl (f x)) = some (l.map f)
  | [] => rfl
  | x :: l => by simp [bls, bls_mapf f l]
theorem all_id {α : Type} (f : α → Bool) (l : List α) : (l.map f).all id = l.all f := by
  induction l with
  | nil => rfl
  | cons a l ih => rw [List.map_cons, List.all_cons, List.all_cons, ih]; rfl
theorem take_map {α β : Type} (f : α → β) {l : List α} {i : Nat} {x : α} (h : l[i]? = some x) : (l.take i).map f ++ [f x] = (l.take (i + 1)).map f := by
  rw [List.take_add_one, h]
  simp
theorem d_is_beginning_ok (as : List D) (t : Ts) (P : D → Ts → Prop) (h : sp_is_beginning as t P) : d_is_beginning (endsOf P) (start0 ["base", "thing", "many"] as) t := by
  obtain ⟨b, d, rfl, hn, hl, k⟩ := h
  conv => whnf
  refine ⟨d, rfl, hn, ?_⟩
  cases d with
  | lst l =>
    conv => whnf
    refine Br.mk (fun h1 => ?_) (fun h1 => ?_)
    · conv => whnf
      have e : isBeg b (.lst l) = false := by
        show (decide ((l.length : Int) = b - 1) && _) = _
        simp at h1
        simp [h1]
      rw [e] at k
      exact k
    · have h1 : (l.length : Int) = b - 1 := by simpa using h1
      obtain ⟨hl1, hl2⟩ := hl l (.inl rfl)
      conv => whnf
      refine ⟨fun i acc m => t = m ∧ acc = (l.take i).map fun x => .bl (isCount x), ⟨rfl, rfl⟩, fun i x acc m hx hI => ?_, fun acc m hI => ?_⟩
      · obtain ⟨rfl, rfl⟩ := hI
        conv => whnf
        refine ⟨rfl, ?_⟩
        conv => whnf
        refine ⟨x, rfl, hl2 x (List.mem_of_getElem? hx), ?_⟩
        refine ⟨by rw [List.length_map, List.length_take]; unfold zLen; omega, rfl, take_map (fun x => D.bl (isCount x)) hx⟩
      · obtain ⟨rfl, rfl⟩ := hI
        rw [List.take_length]
        refine ⟨_, bls_mapf isCount l, ?_⟩
        rw [all_id]
        have e : isBeg b (.lst l) = l.all isCount := by
          show (decide ((l.length : Int) = b - 1) && _) = _
          simp [h1]
        rw [e] at k
        exact k
  | tup l =>
    conv => whnf
    refine Br.mk (fun h1 => ?_) (fun h1 => ?_)
    · conv => whnf
      have e : isBeg b (.tup l) = false := by
        show (decide ((l.length : Int) = b - 1) && _) = _
        simp at h1
        simp [h1]
      rw [e] at k
      exact k
    · have h1 : (l.length : Int) = b - 1 := by simpa using h1
      obtain ⟨hl1, hl2⟩ := hl l (.inr rfl)
      conv => whnf
      refine ⟨fun i acc m => t = m ∧ acc = (l.take i).map fun x => .bl (isCount x), ⟨rfl, rfl⟩, fun i x acc m hx hI => ?_, fun acc m hI => ?_⟩
      · obtain ⟨rfl, rfl⟩ := hI
        conv => whnf
        refine ⟨rfl, ?_⟩
        conv => whnf
        refine ⟨x, rfl, hl2 x (List.mem_of_getElem? hx), ?_⟩
        refine ⟨by rw [List.length_map, List.length_take]; unfold zLen; omega, rfl, take_map (fun x => D.bl (isCount x)) hx⟩
      · obtain ⟨rfl, rfl⟩ := hI
        rw [List.take_length]
        refine ⟨_, bls_mapf isCount l, ?_⟩
        rw [all_id]
        have e : isBeg b (.tup l) = l.all isCount := by
          show (decide ((l.length : Int) = b - 1) && _) = _
          simp [h1]
        rw [e] at k
        exact k
  | _ => exact k
end Q
/-! MHse2 -/
namespace Q
open PySem
/-! ### the house -/
def hD (W : Cl) (b : Int) (bs : List Int) : D := .ins W.House ["kept_base", "kept_beginning", "sums"] [.int b, .lst (bs.map .int), .lst ((sumsOf 0 bs).map .int)]
def sp_House___init__ (W : Cl) : PSp := fun ds t P => ∃ b bs, (ds = [.int b, .lst (bs.map .int)] ∨ ds = [.int b, .tup (bs.map .int)]) ∧ Hou b bs ∧ P (hD W b bs) t
def sp_House_ahead_of (W : Cl) : PSp := fun ds t P => ∃ b bs c, ∃ e : Nat, ds = [hD W b bs, .int (b ^ e), .int e, .int c] ∧ e ≤ 1000001 ∧ Hou b bs ∧ 1 ≤ c ∧ c < b ∧ P (.int (Lp b bs (c * b ^ e - 1))) t
def sp_House_said (W : Cl) : PSp := fun ds t P => ∃ b bs p, ds = [hD W b bs, .int p] ∧ Hou b bs ∧ 1 ≤ p ∧ Sm 1000000 p ∧ ∀ m, Sa b bs p m → P (.int m) t
section
variable (W : Cl) (as : List D) (t : Ts) (P : D → Ts → Prop)
theorem len_House___init__ (h : sp_House___init__ W as t P) : as.length + 1 = 3 := by
  obtain ⟨_, _, rfl | rfl, _⟩ := h <;> rfl
theorem len_House_ahead_of (h : sp_House_ahead_of W as t P) : as.length = 4 := by obtain ⟨_, _, _, _, rfl, _⟩ := h; rfl
theorem len_House_said (h : sp_House_said W as t P) : as.length = 2 := by obtain ⟨_, _, _, rfl, _⟩ := h; rfl
end
theorem nopens_ints : ∀ l : List Int, nopens (l.map .int) = true
  | [] => rfl
  | a :: l => by simp [nopens, nopen, nopens_ints l]
theorem np_House___init__ (W : Cl) (as : List D) (t : Ts) (P : D → Ts → Prop) (h : sp_House___init__ W as t P) : nopens as = true := by
  obtain ⟨_, _, rfl | rfl, _⟩ := h <;> simp [nopens, nopen, nopens_ints]
def d_House_sumsE (W : Cl) : DE := (dOp oAdd (dOp oSub (dVar 3) (dC (.int 1))) (dIfE (dB (dOp oNe (dFld W.House "sums" (dVar 0)) (dLst dNil))) (dOp oIx (dFld W.House "sums" (dVar 0)) (dUn oNeg (dC (.int 1)))) (dC (.int 0))))
def d_House___init__ (W : Cl) : IS := (iThen (iGuard (dNot (dB (dCall sp_is_base [] (dCons (dVar 1) dNil))))) (iThen (iGuard (dNot (dB (dCall sp_is_beginning [] (dCons (dVar 1) (dCons (dVar 2) dNil)))))) (iThen (iSet "kept_base" (dVar 1)) (iThen (iSet "kept_beginning" (dCB bList (dCons (dVar 2) dNil))) (iSums 2 3)))))
def d_House_ahead_of (W : Cl) : DS := (dSeq (dAsg (dFld W.House "kept_base" (dVar 0)) (gName 4)) (dSeq (dAsg (dOp oSub (dOp oMul (dVar 3) (dVar 1)) (dC (.int 1))) (gName 5)) (dSeq (dIf (dB (dOp oEq (dVar 5) (dC (.int 0)))) (dSeq (dRet (dC (.int 0))) dNext) dNext) (dSeq (dIf (dB (dOp oEq (dVar 3) (dC (.int 1)))) (dSeq (dPar 7 8 (dCons (dOp oSub (dVar 2) (dC (.int 1))) (dCons (dOp oSub (dVar 4) (dC (.int 1))) dNil))) dNext) (dSeq (dPar 7 8 (dCons (dVar 2) (dCons (dOp oSub (dVar 3) (dC (.int 1))) dNil))) dNext)) (dSeq (dAsg (dOp oAdd (dVar 8) (dOp oMul (dOp oSub (dVar 4) (dC (.int 1))) (dVar 7))) (gName 6)) (dSeq (dRet (dOp oAdd (dOp oAdd (dOp oAdd (dVar 5) (dOp oDiv (dOp oSub (dVar 5) (dVar 6)) (dOp oSub (dVar 4) (dC (.int 1))))) (dOp oMul (dVar 7) (dOp oIx (dFld W.House "sums" (dVar 0)) (dUn oNeg (dC (.int 1)))))) (dOp oIx (dFld W.House "sums" (dVar 0)) (dOp oSub (dVar 8) (dC (.int 1)))))) dNext))))))
def d_House_said (W : Cl) : DS := (dSeq (dAsg (dTup (dCons (dFld W.House "kept_base" (dVar 0)) (dCons (dC (.int 0)) (dCons (dC (.int 1)) (dCons (dC (.int 1)) dNil))))) (gTup 4 (gCons (gName 5) (gCons (gName 6) (gCons (gName 7) (gCons (gName 8) gNil)))))) (dSeq (dWhile (dB (dOp oLt (dMeth W.House "ahead_of" (sp_House_ahead_of W) [] (dVar 0) (dCons (dOp oMul (dVar 7) (dVar 5)) (dCons (dOp oAdd (dVar 6) (dC (.int 1))) (dCons (dC (.int 1)) dNil)))) (dVar 1))) (dSeq (dAug 6 oAddI (dC (.int 1))) (dSeq (dAug 7 oMulI (dVar 5)) dNext))) (dSeq (dWhile (dAnd (dB (dOp oLt (dVar 8) (dOp oSub (dVar 5) (dC (.int 1))))) (dB (dOp oLt (dMeth W.House "ahead_of" (sp_House_ahead_of W) [] (dVar 0) (dCons (dVar 7) (dCons (dVar 6) (dCons (dOp oAdd (dVar 8) (dC (.int 1))) dNil)))) (dVar 1)))) (dSeq (dAug 8 oAddI (dC (.int 1))) dNext)) (dSeq (dAsg (dOp oSub (dOp oSub (dVar 1) (dOp oMul (dVar 6) (dOp oIx (dFld W.House "sums" (dVar 0)) (dUn oNeg (dC (.int 1)))))) (dOp oIx (dFld W.House "sums" (dVar 0)) (dOp oSub (dVar 8) (dC (.int 1))))) (gName 2)) (dSeq (dAsg (dOp oSub (dCB bMax (dCons (dOp oMul (dVar 8) (dVar 7)) (dCons (dOp oDiv (dOp oMul (dVar 2) (dOp oSub (dVar 5) (dC (.int 1)))) (dVar 5)) dNil))) (dC (.int 1))) (gName 3)) (dSeq (dAsg (dCB bMin (dCons (dOp oSub (dOp oMul (dOp oAdd (dVar 8) (dC (.int 1))) (dVar 7)) (dC (.int 1))) (dCons (dOp oAdd (dOp oAdd (dVar 3) (dVar 6)) (dC (.int 3))) dNil))) (gName 4)) (dSeq (dWhile (dB (dOp oGt (dOp oSub (dVar 4) (dVar 3)) (dC (.int 1)))) (dSeq (dAsg (dOp oDiv (dOp oAdd (dVar 3) (dVar 4)) (dC (.int 2))) (gName 9)) (dSeq (dIf (dB (dOp oLt (dOp oAdd (dVar 9) (dCall sp_heap_of [] (dCons (dVar 9) (dCons (dVar 5) dNil)))) (dVar 2))) (dSeq (dAsg (dVar 9) (gName 3)) dNext) (dSeq (dAsg (dVar 9) (gName 4)) dNext)) dNext))) (dSeq (dRet (dVar 4)) dNext))))))))
theorem sumsE_House (W : Cl) : SumsE W.House 3 (d_House_sumsE W) := by
  intro env t P ns l cur m h0 h1 h3 k
  match env, h0, h3 with
  | a0 :: a1 :: a2 :: a3 :: r, h0, h3 =>
  cases h0
  cases h3
  conv => whnf
  refine ⟨rfl, ?_⟩
  conv => whnf
  rw [h1]
  conv => whnf
  refine ⟨eqok_ints cur [], ?_⟩
  conv => whnf
  refine Br.mk (fun hc => ?_) (fun hc => ?_)
  · have hc : cur ≠ [] := deqn_t (b := []) hc
    conv => whnf
    refine ⟨rfl, ?_⟩
    conv => whnf
    rw [h1]
    conv => whnf
    have hl : 0 < cur.length := List.length_pos_iff.mpr hc
    refine ⟨.int (cur.getLastD 0), ?_, k⟩
    unfold atI
    rw [if_neg (by decide), if_pos (by rw [List.length_map]; omega), List.getElem?_map]
    rw [show ((-1 : Int) + ((cur.map D.int).length : Int)).toNat = cur.length - 1 by rw [List.length_map]; omega, List.getElem?_eq_getElem (by omega)]
    simp [List.getLastD_eq_getLast?, List.getLast?_eq_getElem?, List.getElem?_eq_getElem (show cur.length - 1 < cur.length by omega)]
  · have hc : cur = [] := deqn_f (b := []) hc
    subst hc
    exact k
theorem Hou.isBeg {b : Int} {bs : List Int} (h : Hou b bs) : bs.all (fun x => isCount (.int x)) = true := List.all_eq_true.mpr fun x hx => decide_eq_true (by have := h.pos x hx; omega)
theorem all_map_int (bs : List Int) : (bs.map D.int).all isCount = bs.all (fun x => isCount (.int x)) := by
  induction bs with
  | nil => rfl
  | cons a l ih => rw [List.map_cons, List.all_cons, List.all_cons, ih]
theorem beg_lst {b : Int} {bs : List Int} (h : Hou b bs) : isBeg b (.lst (bs.map .int)) = true := by
  show (decide (((bs.map D.int).length : Int) = b - 1) && (bs.map D.int).all isCount) = true
  rw [List.length_map, h.len, all_map_int, h.isBeg]
  simp
theorem beg_tup {b : Int} {bs : List Int} (h : Hou b bs) : isBeg b (.tup (bs.map .int)) = true := by
  show (decide (((bs.map D.int).length : Int) = b - 1) && (bs.map D.int).all isCount) = true
  rw [List.length_map, h.len, all_map_int, h.isBeg]
  simp
theorem tnOk_ints (bs : List Int) : ∀ x ∈ bs.map D.int, tnOk x := fun x hx => by
  obtain ⟨i, _, rfl⟩ := List.mem_map.mp hx
  exact ⟨_, rfl⟩
theorem d_House___init___ok (W : Cl) (as : List D) (t : Ts) (P : D → Ts → Prop) (x : Addr) (h : sp_House___init__ W as t P) : d_House___init__ W (fun ns l env t' => t' = t ∧ P (.ins W.House ns l) t) [] [] (startI x ["k", "beginning", "many"] as) t := by
  obtain ⟨b, bs, hd, hh, k⟩ := h
  have hl := hh.len
  have h2 := hh.b2
  have h30 := hh.b30
  rcases hd with rfl | rfl
  · conv => whnf
    refine ⟨_, rfl, ⟨_, rfl⟩, ?_⟩
    conv => whnf
    refine br_ne (⟨h2, h30⟩) ?_
    conv => whnf
    refine ⟨_, _, rfl, ⟨_, rfl⟩, fun l hl' => ?_, ?_⟩
    · rcases hl' with z | z
      · cases z
        exact ⟨by rw [List.length_map]; omega, tnOk_ints bs⟩
      · cases z
    rw [beg_lst hh]
    conv => whnf
    refine ⟨⟨rfl, by decide⟩, ?_⟩
    conv => whnf
    refine ⟨⟨rfl, by decide⟩, ?_⟩
    conv => whnf
    refine ⟨bs, rfl, by omega, ⟨rfl, by decide, (show 3 < 4 by decide)⟩, fun s => ⟨rfl, k⟩⟩
  · conv => whnf
    refine ⟨_, rfl, ⟨_, rfl⟩, ?_⟩
    conv => whnf
    refine br_ne (⟨h2, h30⟩) ?_
    conv => whnf
    refine ⟨_, _, rfl, ⟨_, rfl⟩, fun l hl' => ?_, ?_⟩
    · rcases hl' with z | z
      · cases z
      · cases z
        exact ⟨by rw [List.length_map]; omega, tnOk_ints bs⟩
    rw [beg_tup hh]
    conv => whnf
    refine ⟨⟨rfl, by decide⟩, ?_⟩
    conv => whnf
    refine ⟨⟨rfl, by decide⟩, ?_⟩
    conv => whnf
    refine ⟨bs, rfl, by omega, ⟨rfl, by decide, (show 3 < 4 by decide)⟩, fun s => ⟨rfl, k⟩⟩
section
variable (W : Cl) (as : List D) (t : Ts) (P : D → Ts → Prop)
theorem d_House_ahead_of_ok (h : sp_House_ahead_of W as t P) : d_House_ahead_of W (endsOf P) (start0 ["self", "power", "exponent", "sign", "base", "number", "signs", "steps", "first"] as) t := by
  obtain ⟨b, bs, c, e, rfl, he9, hh, c1, c2, k⟩ := h
  have h2 := hh.b2
  have h30 := hh.b30
  have hp := pow_pos' h2 e
  conv => whnf
  refine ⟨rfl, ?_⟩
  conv => whnf
  refine ⟨.l (by omega) (by omega), ?_⟩
  conv => whnf
  refine Br.mk (fun hn => ?_) (fun hn => ?_)
  · have hn : c * b ^ e - 1 = 0 := of_decide_eq_true hn
    rw [hn, Lp_le0 (by decide)] at k
    exact k
  · have hn : ¬ c * b ^ e - 1 = 0 := of_decide_eq_false hn
    conv => whnf
    refine Br.mk (fun hc => ?_) (fun hc => ?_)
    · have hc : c = 1 := of_decide_eq_true hc
      subst hc
      have he : ∃ s : Nat, e = s + 1 := by
        cases e with
        | zero => simp at hn
        | succ s => exact ⟨s, rfl⟩
      obtain ⟨s, rfl⟩ := he
      have A := Lp_ahead hh (f := b - 1) (by omega) (by omega) s
      have e1 : (b - 1 + 1) * b ^ s = 1 * b ^ (s + 1) := by rw [Int.pow_succ, Int.one_mul, Int.mul_comm]; congr 1; omega
      rw [e1] at A
      rw [A] at k
      have e2 : ((s + 1 : Nat) : Int) - 1 = s := by omega
      conv => whnf
      refine ⟨.l (by omega) (by omega), ?_⟩
      conv => whnf
      refine ⟨.s (by omega) (by omega), ?_⟩
      conv => whnf
      refine ⟨rfl, ?_⟩
      conv => whnf
      refine ⟨_, sums_last hh, ?_⟩
      conv => whnf
      refine ⟨.l (by omega) (by omega), ?_⟩
      conv => whnf
      refine ⟨rfl, ?_⟩
      conv => whnf
      refine ⟨_, sums_at hh (by omega) (by omega), ?_⟩
      conv => whnf
      rw [e2]
      exact k
    · have hc : ¬ c = 1 := of_decide_eq_false hc
      have A := Lp_ahead hh (f := c - 1) (by omega) (by omega) e
      rw [show c - 1 + 1 = c by omega] at A
      rw [A] at k
      conv => whnf
      refine ⟨.l (by omega) (by omega), ?_⟩
      conv => whnf
      refine ⟨.s (by omega) (by omega), ?_⟩
      conv => whnf
      refine ⟨rfl, ?_⟩
      conv => whnf
      refine ⟨_, sums_last hh, ?_⟩
      conv => whnf
      refine ⟨.l (by omega) (by omega), ?_⟩
      conv => whnf
      refine ⟨rfl, ?_⟩
      conv => whnf
      refine ⟨_, sums_at hh (by omega) (by omega), ?_⟩
      exact k
end
theorem two_pow_le {b : Int} (h2 : 2 ≤ b) : ∀ e : Nat, (2 : Int) ^ e ≤ b ^ e
  | 0 => by simp
  | e + 1 => by
    rw [Int.pow_succ, Int.pow_succ]
    exact Int.mul_le_mul (two_pow_le h2 e) h2 (by decide) (Int.le_of_lt (pow_pos' h2 e))
/-- where the search begins and ends -/
theorem said_lo {b m w H : Int} (h2 : 2 ≤ b) (hw : w ≤ m + H) (hH : (b - 1) * H ≤ m) : w * (b - 1) / b ≤ m := by
  refine Int.ediv_le_of_le_mul (by omega) ?_
  have h1 := Int.mul_le_mul_of_nonneg_left hw (show 0 ≤ b - 1 by omega)
  rw [Int.mul_add, Int.mul_comm (b - 1) w] at h1
  have h3 : (b - 1) * m = m * b - m := by rw [Int.sub_mul, Int.one_mul, Int.mul_comm]
  omega
theorem said_hi {b n w H e : Int} (h2 : 2 ≤ b) (hn : w * (b - 1) / b + e + 2 ≤ n) (hH : n - (b - 1) * (e + 1) ≤ (b - 1) * H) (he : 0 ≤ e) : w ≤ n + H := by
  rcases Int.lt_or_le (n + H) w with h | h
  · exfalso
    have q1 := Int.mul_ediv_add_emod (w * (b - 1)) b
    have q2 := Int.emod_lt_of_pos (w * (b - 1)) (show 0 < b by omega)
    generalize w * (b - 1) / b = v at *
    generalize hk : b - 1 = k at *
    have hb : b = k + 1 := by omega
    subst hb
    have p1 := Int.mul_le_mul_of_nonneg_left hn (show 0 ≤ k by omega)
    have p2 := Int.mul_le_mul_of_nonneg_left (show n + H + 1 ≤ w by omega) (show 0 ≤ k by omega)
    rw [Int.mul_add, Int.mul_add] at p1 p2
    rw [Int.mul_add] at hH
    rw [Int.add_mul, Int.one_mul] at q1
    rw [Int.mul_comm w k] at q1 q2
    omega
  · exact h
section
variable (W : Cl) (as : List D) (t : Ts) (P : D → Ts → Prop)
theorem d_House_said_ok (h : sp_House_said W as t P) : d_House_said W (endsOf P) (start0 ["self", "place", "wanted", "low", "high", "base", "exponent", "power", "sign", "middle"] as) t := by
  obtain ⟨b, bs, p, rfl, hh, hp1, hps, k⟩ := h
  have h2 := hh.b2
  have h30 := hh.b30
  obtain ⟨m, hm⟩ := Sa.ex hh hp1
  have k := k m hm
  -- how many powers lie below
  have few : ∀ e : Nat, b ^ e ≤ p → e ≤ 1000000 := fun e he => by
    rcases Nat.lt_or_ge 1000000 e with z | z
    · exfalso
      have h1 := two_pow_le h2 e
      have h3 : (2 : Nat) ^ 1000000 ≤ 2 ^ e := Nat.pow_le_pow_right (by decide) (by omega)
      have h4 : (((2 : Nat) ^ e : Nat) : Int) = (2 : Int) ^ e := by simp
      unfold Sm at hps
      omega
    · exact z
  conv => whnf
  refine ⟨rfl, ?_⟩
  conv => whnf
  refine ⟨rfl, ?_⟩
  conv => whnf
  refine ⟨fun e m => t = m ∧ ∃ x : Nat, x ≤ 1000000 ∧ Lp b bs (b ^ x - 1) < p ∧ e = [.val (hD W b bs), .val (.int p), .no, .no, .no, .val (.int b), .val (.int x), .val (.int (b ^ x)), .val (.int 1), .no], fun e m => match e with | [_, _, _, _, _, _, _, .val (.int y), _, _] => (p - y).toNat | _ => 0, ⟨rfl, 0, by decide, by rw [Lp_le0 (by simp)]; omega, by simp; rfl⟩, fun e m hI => ?_⟩
  obtain ⟨rfl, x, hx, hxp, rfl⟩ := hI
  have hpx := pow_pos' h2 x
  conv => whnf
  refine ⟨rfl, ?_⟩
  conv => whnf
  refine ⟨rfl, ?_⟩
  conv => whnf
  refine ⟨.r (by omega) (by omega), ?_⟩
  conv => whnf
  refine ⟨b, bs, 1, x + 1, by rw [Int.pow_succ]; rfl, by omega, hh, by decide, by omega, ?_⟩
  conv => whnf
  refine Br.mk (fun hc => ?_) (fun hc => ?_)
  · have hc : Lp b bs (1 * b ^ (x + 1) - 1) < p := of_decide_eq_true hc
    rw [Int.one_mul] at hc
    have h3 := Lp_ge_self hh (n := b ^ (x + 1) - 1) (by have := pow_pos' h2 (x + 1); omega)
    have h4 : b ^ (x + 1) = b ^ x * b := Int.pow_succ ..
    conv => whnf
    refine ⟨.r (by omega) (by omega), ?_⟩
    conv => whnf
    refine ⟨⟨rfl, x + 1, few _ (by omega), hc, by rw [h4]; rfl⟩, ?_⟩
    show (p - b ^ x * b).toNat < (p - b ^ x).toNat
    have : b ^ x * 2 ≤ b ^ x * b := Int.mul_le_mul_of_nonneg_left h2 (by omega)
    omega
  have hc : p ≤ Lp b bs (b ^ (x + 1) - 1) := by
    have := of_decide_eq_false hc
    rw [Int.one_mul] at this
    omega
  conv => whnf
  refine ⟨fun e m => t = m ∧ ∃ c, 1 ≤ c ∧ c < b ∧ Lp b bs (c * b ^ x - 1) < p ∧ e = [.val (hD W b bs), .val (.int p), .no, .no, .no, .val (.int b), .val (.int x), .val (.int (b ^ x)), .val (.int c), .no], fun e m => match e with | [_, _, _, _, _, _, _, _, .val (.int y), _] => (b - y).toNat | _ => 0, ⟨rfl, 1, by decide, by omega, by rw [Int.one_mul]; exact hxp, rfl⟩, fun e m hI => ?_⟩
  obtain ⟨rfl, c, c1, c2, hcp, rfl⟩ := hI
  have tail : p ≤ Lp b bs ((c + 1) * b ^ x - 1) → dSeq (dAsg (dOp oSub (dOp oSub (dVar 1) (dOp oMul (dVar 6) (dOp oIx (dFld W.House "sums" (dVar 0)) (dUn oNeg (dC (.int 1)))))) (dOp oIx (dFld W.House "sums" (dVar 0)) (dOp oSub (dVar 8) (dC (.int 1))))) (gName 2)) (dSeq (dAsg (dOp oSub (dCB bMax (dCons (dOp oMul (dVar 8) (dVar 7)) (dCons (dOp oDiv (dOp oMul (dVar 2) (dOp oSub (dVar 5) (dC (.int 1)))) (dVar 5)) dNil))) (dC (.int 1))) (gName 3)) (dSeq (dAsg (dCB bMin (dCons (dOp oSub (dOp oMul (dOp oAdd (dVar 8) (dC (.int 1))) (dVar 7)) (dC (.int 1))) (dCons (dOp oAdd (dOp oAdd (dVar 3) (dVar 6)) (dC (.int 3))) dNil))) (gName 4)) (dSeq (dWhile (dB (dOp oGt (dOp oSub (dVar 4) (dVar 3)) (dC (.int 1)))) (dSeq (dAsg (dOp oDiv (dOp oAdd (dVar 3) (dVar 4)) (dC (.int 2))) (gName 9)) (dSeq (dIf (dB (dOp oLt (dOp oAdd (dVar 9) (dCall sp_heap_of [] (dCons (dVar 9) (dCons (dVar 5) dNil)))) (dVar 2))) (dSeq (dAsg (dVar 9) (gName 3)) dNext) (dSeq (dAsg (dVar 9) (gName 4)) dNext)) dNext))) (dSeq (dRet (dVar 4)) dNext)))) (endsOf P) [.val (hD W b bs), .val (.int p), .no, .no, .no, .val (.int b), .val (.int x), .val (.int (b ^ x)), .val (.int c), .no] t := by
    intro hcq
    have m0 : c * b ^ x ≤ m := by
      rcases Int.lt_or_le m (c * b ^ x) with z | z
      · have := Lp_le_of hh (m := m) (n := c * b ^ x - 1) (by have := hm.m1; omega) (by omega)
        have := hm.hi
        omega
      · exact z
    have m9 : m < (c + 1) * b ^ x := by
      rcases Int.lt_or_le m ((c + 1) * b ^ x) with z | z
      · exact z
      · have h6 : 0 < (c + 1) * b ^ x := Int.mul_pos (by omega) hpx
        have := Lp_le_of hh (m := (c + 1) * b ^ x - 1) (n := m - 1) (by omega) (by omega)
        have := hm.lo
        omega
    have hLm := Lp_in hh c1 c2 x m m0 m9
    have hHm := heap_in h2 c1 c2 x m m0 m9
    conv => whnf
    refine ⟨rfl, ?_⟩
    conv => whnf
    refine ⟨_, sums_last hh, ?_⟩
    conv => whnf
    refine ⟨.l (by omega) (by omega), ?_⟩
    conv => whnf
    refine ⟨rfl, ?_⟩
    conv => whnf
    refine ⟨_, sums_at hh c1 c2, ?_⟩
    conv => whnf
    refine ⟨.l (by omega) (by omega), ?_⟩
    conv => whnf
    refine ⟨.r (by omega) (by omega), ?_⟩
    conv => whnf
    refine ⟨.s (by omega) (by omega), ?_⟩
    conv => whnf
    generalize hw : p - x * Re bs - Su bs c = w
    have hwm : w ≤ m + heap b m := by have := hm.hi; omega
    have lo1 := said_lo h2 hwm hHm.2
    refine ⟨.l (by omega) (by omega), ?_⟩
    conv => whnf
    generalize hA : c * b ^ x = A at *
    generalize hE : (c + 1) * b ^ x = E at *
    have hAE : 0 < A := by rw [← hA]; exact Int.mul_pos (by omega) hpx
    -- the beginning's bounds
    generalize hl : (if w * (b - 1) / b > A then w * (b - 1) / b else A) - 1 = low
    have l1 : low < m := by rw [← hl]; split <;> omega
    have l2 : A - 1 ≤ low := by rw [← hl]; split <;> omega
    have l3 : w * (b - 1) / b - 1 ≤ low := by rw [← hl]; split <;> omega
    generalize hg : (if low + x + 3 < E - 1 then low + x + 3 else E - 1) = high
    have g1 : m ≤ high := by
      rw [← hg]
      split
      · rename_i hlt
        rcases Int.lt_or_le (low + x + 3) m with z | z
        · exfalso
          have i1 := heap_in h2 c1 c2 x (low + x + 3) (by rw [hA]; omega) (by rw [hE]; omega)
          have i2 := said_hi (e := x) h2 (show w * (b - 1) / b + x + 2 ≤ low + x + 3 by omega) i1.1 (by omega)
          have i3 := Lp_in hh c1 c2 x (low + x + 3) (by rw [hA]; omega) (by rw [hE]; omega)
          have i4 := Lp_le_of hh (m := low + x + 3) (n := m - 1) (by omega) (by omega)
          have := hm.lo
          omega
        · exact z
      · omega
    have g2 : high ≤ E - 1 := by rw [← hg]; split <;> omega
    clear hl hg l3
    refine ⟨fun e u => t = u ∧ ∃ lo hi s9, A - 1 ≤ lo ∧ lo < m ∧ m ≤ hi ∧ hi ≤ E - 1 ∧ e = [.val (hD W b bs), .val (.int p), .val (.int w), .val (.int lo), .val (.int hi), .val (.int b), .val (.int x), .val (.int (b ^ x)), .val (.int c), s9], fun e m => match e with | [_, _, _, .val (.int y), .val (.int z), _, _, _, _, _] => (z - y).toNat | _ => 0, ⟨rfl, _, _, _, l2, l1, g1, g2, rfl⟩, fun e u hI => ?_⟩
    obtain ⟨rfl, lo, hi, s9, a1, a2, a3, a4, rfl⟩ := hI
    conv => whnf
    refine Br.mk (fun hd => ?_) (fun hd => ?_)
    · have hd : 1 < hi - lo := of_decide_eq_true hd
      conv => whnf
      refine ⟨.s (by decide) (by decide), ?_⟩
      conv => whnf
      have d1 : lo < (lo + hi) / 2 := by omega
      have d2 : (lo + hi) / 2 < hi := by omega
      generalize (lo + hi) / 2 = mid at *
      have hLd := Lp_in hh c1 c2 x mid (by rw [hA]; omega) (by rw [hE]; omega)
      refine ⟨_, _, rfl, h2, by omega, ?_⟩
      conv => whnf
      refine Br.mk (fun hq => ?_) (fun hq => ?_)
      · have hq : mid + heap b mid < w := of_decide_eq_true hq
        have : mid < m := by
          rcases Int.lt_or_le mid m with z | z
          · exact z
          · have := Lp_le_of hh (m := m) (n := mid) (by have := hm.m1; omega) z
            have := hm.hi
            omega
        exact ⟨⟨rfl, mid, hi, _, by omega, this, a3, a4, rfl⟩, by show (hi - mid).toNat < (hi - lo).toNat; omega⟩
      · have hq : ¬ mid + heap b mid < w := of_decide_eq_false hq
        have : m ≤ mid := by
          rcases Int.lt_or_le mid m with z | z
          · have := Lp_le_of hh (m := mid) (n := m - 1) (by omega) (by omega)
            have := hm.lo
            omega
          · exact z
        exact ⟨⟨rfl, lo, mid, _, a1, a2, this, by omega, rfl⟩, by show (mid - lo).toNat < (hi - lo).toNat; omega⟩
    · have hd : ¬ 1 < hi - lo := of_decide_eq_false hd
      conv => whnf
      rw [show hi = m by omega]
      exact k
  conv => whnf
  refine Br.mk (fun hd => ?_) (fun hd => ?_)
  · have hd : c < b - 1 := of_decide_eq_true hd
    conv => whnf
    refine ⟨rfl, ?_⟩
    conv => whnf
    refine ⟨rfl, ?_⟩
    conv => whnf
    refine ⟨b, bs, c + 1, x, rfl, by omega, hh, by omega, by omega, ?_⟩
    conv => whnf
    refine Br.mk (fun he => ?_) (fun he => ?_)
    · have he : Lp b bs ((c + 1) * b ^ x - 1) < p := of_decide_eq_true he
      exact ⟨⟨rfl, c + 1, by omega, by omega, he, rfl⟩, by show (b - (c + 1)).toNat < (b - c).toNat; omega⟩
    · have he : ¬ Lp b bs ((c + 1) * b ^ x - 1) < p := of_decide_eq_false he
      exact tail (by omega)
  · have hd : ¬ c < b - 1 := of_decide_eq_false hd
    refine tail ?_
    have e1 : (c + 1) * b ^ x = b ^ (x + 1) := by rw [Int.pow_succ, Int.mul_comm]; congr 1; omega
    rw [e1]
    exact hc
end
end Q
/-! MHLaw -/
namespace Q
open PySem
/-! ### sizes of last places -/
section
variable {b : Int} {bs : List Int}
theorem Lp_nn (h : Hou b bs) {n : Int} (h0 : 0 ≤ n) : 0 ≤ Lp b bs n := Int.le_trans h0 (Lp_ge_self h h0)
end
/-! ### a drawn beginning -/
def sp__law_beginning : PSp := fun ds t P => ∃ b most n, ds = [.pen, .int b, .int most] ∧ 2 ≤ b ∧ b ≤ 30 ∧ 1 ≤ most ∧ Sm 8000 most ∧ Pk n t ∧ n < 90000000 ∧
  ∀ bs t', Hou b bs → (∀ x ∈ bs, x ≤ most + 3) → Pk (n + 100) t' → P (.lst (bs.map .int)) t'
theorem len__law_beginning (as : List D) (t : Ts) (P : D → Ts → Prop) (h : sp__law_beginning as t P) : as.length = 3 := by obtain ⟨_, _, _, rfl, _⟩ := h; rfl
def d__law_beginning : DS := (dSeq (dRet (dLc [3] (iRng1 (dOp oSub (dVar 1) (dC (.int 1)))) (gName 3) dYes (dOp oAdd (dC (.int 1)) (dOp oIx (dLst (dCons (dC (.int 0)) (dCons (dCall sp__law_draw [] (dCons (dVar 0) (dCons (dC (.int 3)) dNil))) (dCons (dCall sp__law_draw [] (dCons (dVar 0) (dCons (dVar 2) dNil))) dNil)))) (dCall sp__law_draw [] (dCons (dVar 0) (dCons (dC (.int 3)) dNil))))))) dNext)
theorem pick3 {a c : Int} {i : Int} (hi : 0 ≤ i) (hi' : i < 3) (ha : 0 ≤ a) (hc : 0 ≤ c) {M : Int} (hM : 0 ≤ M) (ha' : a ≤ M) (hc' : c ≤ M) : ∃ x : Int, atI [.int 0, .int a, .int c] i = some (.int x) ∧ 0 ≤ x ∧ x ≤ M := by
  match i, hi, hi' with
  | 0, _, _ => exact ⟨0, rfl, by omega, by omega⟩
  | 1, _, _ => exact ⟨a, rfl, ha, ha'⟩
  | 2, _, _ => exact ⟨c, rfl, hc, hc'⟩
theorem d__law_beginning_ok (as : List D) (t : Ts) (P : D → Ts → Prop) (h : sp__law_beginning as t P) : d__law_beginning (endsOf P) (start0 ["_law_pen_here", "_law_base", "_law_most", "_law_k"] as) t := by
  obtain ⟨b, most, n, rfl, h2, h30, hm, hs, hp, hn, k⟩ := h
  conv => whnf
  refine ⟨by omega, ?_⟩
  conv => whnf
  refine ⟨fun i acc m => ∃ bs : List Int, acc = bs.map .int ∧ bs.length = i ∧ (∀ x ∈ bs, 1 ≤ x ∧ x ≤ most + 3) ∧ Pk (n + 3 * i) m, ⟨[], rfl, rfl, by simp, by simpa using hp⟩, fun i x acc m hx hI => ?_, fun acc m hI => ?_⟩
  · obtain ⟨bs, rfl, hl, hb, pm⟩ := hI
    obtain ⟨hi, rfl⟩ := rng_get hx
    conv => whnf
    refine ⟨rfl, ?_⟩
    conv => whnf
    refine ⟨_, _, rfl, by first | omega | decide, (sm64 (by first | omega | decide) (by first | omega | decide)).mono (by decide), pm, by omega, fun u t1 u0 u1 pt1 => ?_⟩
    conv => whnf
    refine ⟨_, _, rfl, by omega, hs.mono (by decide), pt1, by omega, fun w t2 w0 w1 pt2 => ?_⟩
    conv => whnf
    refine ⟨_, _, rfl, by first | omega | decide, (sm64 (by first | omega | decide) (by first | omega | decide)).mono (by decide), pt2, by omega, fun v t3 v0 v1 pt3 => ?_⟩
    conv => whnf
    obtain ⟨y, e, y0, y1⟩ := pick3 v0 v1 u0 w0 (M := most + 2) (by omega) (by omega) (by omega)
    refine ⟨_, e, ?_⟩
    refine ⟨by rw [List.length_map]; unfold zLen; omega, bs ++ [1 + y], by simp, by simp [hl], fun z hz => ?_, pt3.mono (by omega)⟩
    rcases List.mem_append.mp hz with h | h
    · exact hb z h
    · have : z = 1 + y := by simpa using h
      omega
  · obtain ⟨bs, rfl, hl, hb, pm⟩ := hI
    rw [rng_len] at hl pm
    exact k bs m ⟨h2, h30, by omega, fun x hx => (hb x hx).1⟩ (fun x hx => (hb x hx).2) (pm.mono (by omega))
end Q
/-! MRec -/
namespace Q
open PySem
/-! ### what is said, as a function; 1 at places below 1 -/
def sdF (b : Int) (bs : List Int) (p : Int) : Nat → Int → Int
  | 0, m => m
  | k + 1, m => if p ≤ Lp b bs m then m else sdF b bs p k (m + 1)
def sd (b : Int) (bs : List Int) (p : Int) : Int := if 1 ≤ p then sdF b bs p p.toNat 1 else 1
section
variable {b : Int} {bs : List Int}
theorem sdF_sa (h : Hou b bs) {p : Int} : ∀ (k : Nat) (m : Int), 1 ≤ m → Lp b bs (m - 1) < p → p ≤ m - 1 + k → Sa b bs p (sdF b bs p k m)
  | 0, m, h1, h2, h3 => by
    have := Lp_ge_self h (n := m - 1) (by omega)
    omega
  | k + 1, m, h1, h2, h3 => by
    show Sa b bs p (if p ≤ Lp b bs m then m else sdF b bs p k (m + 1))
    split
    · rename_i hp
      exact ⟨h1, h2, hp⟩
    · rename_i hp
      exact sdF_sa h k (m + 1) (by omega) (by rw [show m + 1 - 1 = m by omega]; omega) (by omega)
theorem sd_sa (h : Hou b bs) {p : Int} (h1 : 1 ≤ p) : Sa b bs p (sd b bs p) := by
  unfold sd
  rw [if_pos h1]
  exact sdF_sa h _ 1 (by decide) (by rw [Lp_le0 (by decide)]; omega) (by omega)
theorem sd_eq (h : Hou b bs) {p m : Int} (s : Sa b bs p m) : sd b bs p = m := by
  have h0 := Lp_nn h (n := m - 1) (by have := s.m1; omega)
  exact Sa.uniq h (sd_sa h (by have := s.lo; omega)) s
end
end Q
/-! MGone -/
namespace Q
open PySem
/-! ### going: what is said at the first places -/
end Q
/-! MTot -/
namespace Q
open PySem
/-! ### sums over the row -/
end Q
/-! MOft -/
namespace Q
open PySem
/-! ### powers -/
end Q
/-! MHA -/
namespace Q
open PySem
/-! ### what the laws of one house (k13 to k34) share -/
end Q
/-! MTool -/
namespace Q
open PySem
/-! ### comprehensions that draw nothing -/
section
variable {xs : List D} {env : En} {t : Ts} {vs : List Nat} {g : DG} {c : DT} {a : DE} {P : List D → Ts → Prop}
/-- by the items' places; some are left out -/
theorem lc_fm (f : Nat → Option D) (hl : xs.length ≤ zLen) (h : ∀ (i : Nat) (x : D), xs[i]? = some x → ∀ (Qy : D → Ts → Prop) (Qn : Ts → Prop), (∀ y, f i = some y → Qy y t) → (f i = none → Qn t) →
    g x (wipeE env vs) t fun e' m' => wipeE e' vs = wipeE env vs ∧ c e' m' fun k m1 => Br k (a e' m1 Qy) (Qn m1)) (k : P ((List.range xs.length).filterMap f) t) :
    ∃ Inv : Nat → List D → Ts → Prop, Inv 0 [] t ∧ (∀ i x acc m, xs[i]? = some x → Inv i acc m → g x (wipeE env vs) m fun e' m' => wipeE e' vs = wipeE env vs ∧ c e' m' fun k m1 => Br k (a e' m1 fun y m2 => acc.length < zLen ∧ Inv (i + 1) (acc ++ [y]) m2) (Inv (i + 1) acc m1)) ∧ ∀ acc m, Inv xs.length acc m → P acc m := by
  refine ⟨fun i acc m => t = m ∧ acc = (List.range i).filterMap f, ⟨rfl, rfl⟩, fun i x acc m hx hI => ?_, fun acc m hI => ?_⟩
  · obtain ⟨rfl, rfl⟩ := hI
    have hi : i < xs.length := (List.getElem?_eq_some_iff.mp hx).1
    refine h i x hx _ _ (fun y hy => ⟨?_, rfl, ?_⟩) (fun hn => ⟨rfl, ?_⟩)
    · refine Nat.lt_of_le_of_lt (List.length_filterMap_le _ _) ?_
      rw [List.length_range]; omega
    · rw [List.range_succ, List.filterMap_append]
      simp [hy]
    · rw [List.range_succ, List.filterMap_append]
      simp [hn]
  · obtain ⟨rfl, rfl⟩ := hI
    exact k
theorem fm_some {α β : Type} (f : α → β) : ∀ l : List α, l.filterMap (fun x => some (f x)) = l.map f
  | [] => rfl
  | x :: l => by simp [fm_some f l]
/-- .. all taken -/
theorem lc_idx (f : Nat → D) (hl : xs.length ≤ zLen) (h : ∀ (i : Nat) (x : D), xs[i]? = some x → ∀ Qy : D → Ts → Prop, Qy (f i) t →
    g x (wipeE env vs) t fun e' m' => wipeE e' vs = wipeE env vs ∧ a e' m' Qy) (k : P ((List.range xs.length).map f) t) :
    ∃ Inv : Nat → List D → Ts → Prop, Inv 0 [] t ∧ (∀ i x acc m, xs[i]? = some x → Inv i acc m → g x (wipeE env vs) m fun e' m' => wipeE e' vs = wipeE env vs ∧ dYes e' m' fun k m1 => Br k (a e' m1 fun y m2 => acc.length < zLen ∧ Inv (i + 1) (acc ++ [y]) m2) (Inv (i + 1) acc m1)) ∧ ∀ acc m, Inv xs.length acc m → P acc m := by
  refine lc_fm (c := dYes) (fun i => some (f i)) hl (fun i x hx Qy Qn h1 h2 => h i x hx Qy (h1 _ rfl)) ?_
  rw [fm_some]
  exact k
end
theorem getD_some {α : Type} {l : List α} {i : Nat} {x d : α} (h : l[i]? = some x) : l.getD i d = x := by rw [List.getD_eq_getElem?_getD, h]; rfl
/-! ### data that are alike -/
mutual
theorem deq_refl : ∀ d : D, plain d = true → deq d d = true
  | .non, _ => rfl
  | .bl b, _ => by simp [deq]
  | .int i, _ => by simp [deq]
  | .str x, _ => by simp [deq]
  | .lst l, h => by unfold deq; exact deqs_refl l (by unfold plain at h; exact h)
  | .tup l, h => by unfold deq; exact deqs_refl l (by unfold plain at h; exact h)
  | .dic _ _, h => by simp [plain] at h
  | .ins _ _ _, h => by simp [plain] at h
  | .pen, h => by simp [plain] at h
  | .ty _, h => by simp [plain] at h
  | .adr _, h => by simp [plain] at h
  | .scr _, h => by simp [plain] at h
theorem deqs_refl : ∀ l : List D, plains l = true → deqs l l = true
  | [], _ => rfl
  | d :: l, h => by
    unfold plains at h
    unfold deqs
    rw [Bool.and_eq_true] at h
    rw [deq_refl d h.1, deqs_refl l h.2]
    rfl
end
theorem br_nr {a c : D} {p q : Prop} (h : a = c) (hp : plain a = true) (k : q) : Br (!deq a c) p q := by
  subst h
  rw [deq_refl a hp]
  exact k
end Q
/-! MSum -/
namespace Q
open PySem
/-! ### often.py: sums -/
def HSm (y : Nat) (bs : List Int) : Prop := ∀ x ∈ bs, Sm y x
end Q
/-! MPenT -/
namespace Q
open PySem
/-! ### the tape pen -/
structure Pt (n : Int) (t : Ts) : Prop where
  c : t.cells.length ≤ 63
  a0 : 0 ≤ t.at'
  a1 : t.at' ≤ n
  l : 0 ≤ t.left
  tp : t.tape = true
theorem Pt.mono {n m : Int} {t : Ts} (p : Pt n t) (h : n ≤ m) : Pt m t := ⟨p.c, p.a0, Int.le_trans p.a1 h, p.l, p.tp⟩
end Q
/-! MMark -/
namespace Q
open PySem
/-! ### marks: the power below a number, marks by it, shares -/
def pw (b n : Int) : Int := if h : 0 < n ∧ 2 ≤ b then (if n < b then 1 else b * pw b (n / b)) else 1
termination_by n.toNat
decreasing_by exact ediv_toNat_lt h
section
variable {b : Int}
/-- what comes behind a sign's mark -/
def mF (b : Int) (ms : List Int) (s : Int) : Int := if s < b - 1 then ms.getD s.toNat 0 else b * ms.getD 0 0
def Mk (b : Int) (ms : List Int) (n : Int) : Int := (pw b n - n % pw b n) * ms.getD (n / pw b n - 1).toNat 0 + n % pw b n * mF b ms (n / pw b n)
end
end Q
/-! MMark2 -/
namespace Q
open PySem
/-! ### rows' sums of products -/
/-! ### shares -/
/-! ### THE RULE for marks -/
end Q
/-! MMark3 -/
namespace Q
open PySem
theorem HSm.at {y : Nat} {ms : List Int} (h : HSm y ms) (i : Nat) : Sm y (ms.getD i 0) := by
  rw [List.getD_eq_getElem?_getD]
  cases q : ms[i]? with
  | none => show (0 : Int).natAbs < 2 ^ y; exact Nat.two_pow_pos y
  | some x => exact h x (List.mem_of_getElem? q)
end Q
/-! MMark4 -/
namespace Q
open PySem
end Q
/-! MPart -/
namespace Q
open PySem
/-! ### where two houses part -/
/-- the least number that is said unlike often -/
structure Ap (b : Int) (bs : List Int) (c : Int) (cs : List Int) (n : Int) : Prop where
  n1 : 1 ≤ n
  ne : Ti b bs n ≠ Ti c cs n
  eq : ∀ m, 1 ≤ m → m < n → Ti b bs m = Ti c cs m
theorem Ap.symm {b c n : Int} {bs cs : List Int} (a : Ap b bs c cs n) : Ap c cs b bs n := ⟨a.n1, fun e => a.ne e.symm, fun m h1 h2 => (a.eq m h1 h2).symm⟩
end Q
/-! MRow -/
namespace Q
open PySem
/-! ### a row gone one by one -/
end Q
/-! MLast3 -/
namespace Q
open PySem
end Q
/-! MSay -/
namespace Q
open PySem
/-! ### sayings -/
structure Sy where
  w : Bool
  p : Int
  n : Int
def syD : Sy → D
  | ⟨true, p, n⟩ => .tup [.str "at most", .int p, .int n]
  | ⟨false, p, n⟩ => .tup [.str "at least", .int p, .int n]
structure Sy.Ok (s : Sy) : Prop where
  p1 : 1 ≤ s.p
  n1 : 1 ≤ s.n
/-- whether a house keeps it -/
def keepB (b : Int) (bs : List Int) (s : Sy) : Bool := if s.w then decide (s.p ≤ Lp b bs s.n) else decide (Lp b bs (s.n - 1) < s.p)
def SyS (s : Sy) : Prop := s.Ok ∧ Sm 8000 s.p ∧ Sm 8000 s.n
end Q
/-! MSum2 -/
namespace Q
open PySem
/-! ### sums by the laws' own signs -/
/-- digits, the last one first -/
def up (b : Int) (l : List Int) (x : Int) : Int := l.foldr (fun s a => a * b + s) x
end Q
/-! MSay2 -/
namespace Q
open PySem
end Q
/-! MPapA -/
namespace Q
open PySem
/-! ### cuts of any list -/
theorem cutG_fr {α : Type} {f : α → D} {l : List α} {a : Nat} (h : a ≤ l.length) : cutD (l.map f) (some (a : Int)) none = (l.drop a).map f := by
  unfold cutD
  have e1 : sIx (l.map f).length 0 (some (a : Int)) = a := by
    unfold sIx
    simp only [List.length_map]
    rw [if_neg (by omega)]
    omega
  rw [e1]
  show (((l.map f)).drop a).take ((l.map f).length - a) = _
  rw [List.take_of_length_le (by simp), ← List.map_drop]
theorem bls_gen {α : Type} (f : α → Bool) : ∀ l : List α, bls (l.map fun x => D.bl (f x)) = some (l.map f)
  | [] => rfl
  | x :: l => by
    show (bls (l.map fun x => D.bl (f x))).map _ = _
    rw [bls_gen f l]
    rfl
end Q
/-! QD5 -/
namespace Q
open PySem
/-- in a tuple of None and whole numbers -/
def pO : Option Int → D
  | none => .non
  | some i => .int i
end Q
/-! QD6 -/
/-! Q, the data level: isinstance with both answers, where instances of the class at C stand beside other things. -/
namespace Q
open PySem
end Q
/-! QD7 -/
/-! Q, the data level: a new object picked out of a list of new objects by a def. -/
namespace Q
open PySem
end Q
/-! QD8 -/
/-! Q, the data level: a name's own list lent to a def that tells a truth. -/
namespace Q
open PySem
end Q
/-! QD9 -/
/-! Q, the data level: str of a whole number. -/
namespace Q
open PySem
/-- str(i) -/
def bStr : DB := fun xs P => match xs with
  | [.int i] => i.natAbs.log2 < 1920 ∧ P (.str (toString i))
  | _ => False
end Q
/-! QD10 -/
namespace Q
open PySem
/-- raise X(e) -/
def dRaiseF (Px : D → Ts → Prop) (as : DA) : DS := fun _ env t => as env t fun xs t1 => match xs with
  | [x] => Px x t1
  | _ => False
end Q
/-! QD11 -/
namespace Q
open PySem
end Q
/-! QD12 -/
/-! Q, the data level, more of it. -/
namespace Q
open PySem
end Q
namespace Q
open PySem
end Q
/-! QO0 -/
/-! Q, the data level: objects that may change, by their addresses. -/
namespace Q
open PySem
/-- a call of a def that sees no objects -/
def dCallO (sp : PSp) (dvs : List D) (a : DA) : DE := fun env t P => a env t fun xs t1 => sp (xs ++ dvs) t1.bare fun d t2 => P d (t2.wear t1.obs)
/-- a new object is registered -/
def dReg (a : DE) : DE := fun env t P => a env t fun d t1 => nopen d = true ∧ ∀ p, t1.obs p = none → P (.adr p) (t1.put p d)
/- a field is put -/
def putN (f : Str) : List Str → List Str
  | [] => [f]
  | n :: ns => if n = f then n :: ns else n :: putN f ns
def putV {α : Type} (f : Str) (y : α) : List Str → List α → List α
  | n :: ns, v :: vs => if n = f then y :: vs else v :: putV f y ns vs
  | _, _ => [y]
/-- o.f = e -/
def dSetO (C : Addr) (f : Str) (a o : DE) : DS := fun DD env t => a env t fun y t1 => o env t1 fun x t2 => match x with
  | .adr A => ∃ ns l, t2.obs A = some (.ins C ns l) ∧ ns.length < 900 ∧ nopen y = true ∧ DD.nx env (t2.put A (.ins C (putN f ns) (putV f y ns l)))
  | _ => False
/-- o.f -/
def dFldO (C : Addr) (f : Str) (a : DE) : DE := fun env t P => a env t fun x t1 => match x with
  | .adr A => ∃ ns l d, t1.obs A = some (.ins C ns l) ∧ (ns.zip l).lookup f = some d ∧ P d t1
  | _ => False
/-- C(..) -/
def dMakeO (C : Addr) (sp : PSp) (dvs : List D) (a : DA) : DE := fun env t P => a env t fun xs t1 => ∀ x, t1.obs x = none → sp (.adr x :: (xs ++ dvs)) (t1.put x (.ins C [] [])) fun d t2 => d = .non ∧ P (.adr x) t2
/-- o.m(..) -/
def dMethO (C : Addr) (m : Str) (sp : PSp) (dvs : List D) (a : DE) (r : DA) : DE := fun env t P => a env t fun x t1 => match x with
  | .adr A => ∃ ns l, t1.obs A = some (.ins C ns l) ∧ ns.contains m = false ∧ r env t1 fun xs t2 => sp (.adr A :: (xs ++ dvs)) t2 P
  | _ => False
/-- o[k], o[k] = e, del o[k], k in o, sorted(o), len(o): o a registered dict -/
def dGetO (a k : DE) : DE := fun env t P => a env t fun x t1 => k env t1 fun y t2 => match x with
  | .adr A => ∃ ks l, t2.obs A = some (.dic ks l) ∧ (match keyD y with
    | some k => ∃ d, getL ks l k = some d ∧ P d t2
    | none => False)
  | _ => False
def dPutO (o k a : DE) : DS := fun DD env t => a env t fun y t1 => o env t1 fun x t2 => k env t2 fun z t3 => match x with
  | .adr A => ∃ ks l, t3.obs A = some (.dic ks l) ∧ (match keyD z with
    | some k => (ks.length < zLen ∧ nopen y = true) ∧ DD.nx env (t3.put A (.dic (putKs ks k) (putL ks l k y)))
    | none => False)
  | _ => False
def delKs (k : Ky) : List Ky → List D → List Ky
  | j :: ks, d :: l => if j = k then delKs k ks l else j :: delKs k ks l
  | _, _ => []
def delL (k : Ky) : List Ky → List D → List D
  | j :: ks, d :: l => if j = k then delL k ks l else d :: delL k ks l
  | _, _ => []
def dDelO (o k : DE) : DS := fun DD env t => o env t fun x t1 => k env t1 fun z t2 => match x with
  | .adr A => ∃ ks l, t2.obs A = some (.dic ks l) ∧ (match keyD z with
    | some k => (getL ks l k).isSome = true ∧ DD.nx env (t2.put A (.dic (delKs k ks l) (delL k ks l)))
    | none => False)
  | _ => False
def dInO (neg : Bool) (k a : DE) : DE := fun env t P => k env t fun y t1 => a env t1 fun x t2 => match x with
  | .adr A => ∃ ks l, t2.obs A = some (.dic ks l) ∧ (match keyD y with
    | some k => P (.bl (xor neg (getL ks l k).isSome)) t2
    | none => False)
  | _ => False
def dLenO (a : DE) : DE := fun env t P => a env t fun x t1 => match x with
  | .adr A => ∃ ks l, t1.obs A = some (.dic ks l) ∧ P (.int ks.length) t1
  | _ => False
/-- sorted(o), keys whole numbers -/
def dSortO (a : DE) : DE := fun env t P => a env t fun x t1 => match x with
  | .adr A => ∃ ks l, t1.obs A = some (.dic ks l) ∧ ∃ ns : List Int, ks = ns.map Sum.inl ∧ ns.length ≤ 100000 ∧ ∀ ns' : List Int, ns'.Perm ns → ns'.Pairwise (· ≤ ·) → P (.lst (ns'.map .int)) t1
  | _ => False
/-! ### texts -/
def sg (c : Nat) : Str := ⟨#[c]⟩
/-- an index of any sign in a text -/
def atC (z : List Nat) (i : Int) : Option Nat := if 0 ≤ i then (if i < z.length then z[i.toNat]? else none) else if -(z.length : Int) ≤ i then z[(i + z.length).toNat]? else none
def oIxS : DOp := fun x y P => match x, y with
  | .str z, .int i => z.length ≤ zLen ∧ ∃ c, atC z.cps.toList i = some c ∧ P (.str (sg c))
  | _, _ => False
def cutT (z : Str) (lo hi : Option Int) : Str := ⟨((z.cps.toList.drop (sIx z.length 0 lo)).take (sIx z.length z.length hi - sIx z.length 0 lo)).toArray⟩
def dSliceS (a : DE) (lo hi : DO) : DE := fun env t P => a env t fun x t1 => lo env t1 fun l t2 => hi env t2 fun h t3 => match x with
  | .str z => z.length ≤ zLen ∧ P (.str (cutT z l h)) t3
  | _ => False
def joinC (a : Str) : List Str → List Nat
  | [] => []
  | [x] => x.cps.toList
  | x :: y :: r => x.cps.toList ++ a.cps.toList ++ joinC a (y :: r)
/-- t.join(l) -/
def dJoin (o a : DE) : DE := fun env t P => o env t fun x t1 => match x with
  | .str z => a env t1 fun y t2 => (match y with
    | .lst l => ∃ ss : List Str, l = ss.map .str ∧ (ss.map (·.length)).sum + ss.length * z.length ≤ zLen ∧ P (.str ⟨(joinC z ss).toArray⟩) t2
    | _ => False)
  | _ => False
/-- one sign in a text -/
def oInS : DOp := fun x y P => match x, y with
  | .str x, .str z => ∃ c, x = sg c ∧ P (.bl (decide (c ∈ z.cps.toList)))
  | _, _ => False
/-- a text in a list of texts, in none -/
def oInTL : DOp := fun x y P => match x, y with
  | .str x, .lst l => ∃ ss : List Str, l = ss.map .str ∧ P (.bl (ss.any fun z => z == x))
  | _, _ => False
def iStrD (a : DE) : DI := fun env t P => a env t fun x t1 => match x with
  | .str z => P (z.cps.toList.map fun c => .str (sg c)) t1
  | _ => False
/-! ### more -/
/-- x.append(y.pop(k)), x and y the names' own -/
def dAppPop (i j : Nat) (k : DE) : DS := fun DD env t => match env[i]?, env[j]? with
  | some (.own (.lst l)), some (.own (.lst m)) => i ≠ j ∧ k env t fun z t1 => (match z with
    | .int n => (-1000000000000 < n ∧ n < 1000000000000 ∧ l.length < zLen) ∧ ∃ q d, ixN m.length n = some q ∧ m[q]? = some d ∧ DD.nx ((env.set j (.own (.lst (m.eraseIdx q)))).set i (.own (.lst (l ++ [d])))) t1
    | _ => False)
  | _, _ => False
end Q
/-! MWord -/
namespace Q
open PySem
/-! ### words of small letters -/
theorem Pk.bare {n : Int} {t : Ts} (p : Pk n t) : Pk n t.bare := ⟨p.c, p.a0, p.a1, p.l, p.tp⟩
theorem Pk.wear {n : Int} {t : Ts} (p : Pk n t) (o : Addr → Option D) : Pk n (t.wear o) := ⟨p.c, p.a0, p.a1, p.l, p.tp⟩
def Lt (c : Nat) : Prop := 97 ≤ c ∧ c ≤ 122
instance (c : Nat) : Decidable (Lt c) := by unfold Lt; exact inferInstance
structure Wd (w : Str) : Prop where
  l1 : 0 < w.length
  l2 : w.length < 13
  s : ∀ c ∈ w.cps.toList, Lt c
def wdB (w : Str) : Bool := decide (0 < w.cps.size) && (decide (w.cps.size < 13) && w.cps.toList.all fun c => decide (Lt c))
theorem wd_of {w : Str} (h : wdB w = true) : Wd w := by
  unfold wdB at h
  simp only [Bool.and_eq_true, decide_eq_true_eq, List.all_eq_true] at h
  exact ⟨h.1, h.2.1, h.2.2⟩
theorem len_toList (w : Str) : w.cps.toList.length = w.length := Array.length_toList
def ltrs : Str := "abcdefghijklmnopqrstuvwxyz"
theorem ltrs_is : ltrs.cps.toList = (List.range 26).map (97 + ·) := by decide +kernel
theorem ltrs_len : ltrs.length = 26 := by decide +kernel
theorem atC_ltrs {z : Int} (h0 : 0 ≤ z) (h1 : z < 26) : atC ltrs.cps.toList z = some (97 + z.toNat) := by
  unfold atC
  rw [ltrs_is, if_pos h0, List.length_map, List.length_range, if_pos (by omega), List.getElem?_map, List.getElem?_range (by omega)]
  rfl
theorem lt_mem {c : Nat} (h : Lt c) : c ∈ ltrs.cps.toList := by
  rw [ltrs_is, List.mem_map]
  unfold Lt at h
  exact ⟨c - 97, by rw [List.mem_range]; omega, by omega⟩
theorem joinC_sg : ∀ cs : List Nat, joinC ("" : Str) (cs.map sg) = cs
  | [] => rfl
  | [c] => rfl
  | c :: d :: cs => by
    have := joinC_sg (d :: cs)
    show [c] ++ ("" : Str).cps.toList ++ joinC ("" : Str) ((d :: cs).map sg) = _
    rw [this]
    rfl
theorem sum_sg : ∀ cs : List Nat, ((cs.map sg).map (·.length)).sum = cs.length
  | [] => rfl
  | c :: cs => by
    simp only [List.map_cons, List.sum_cons, List.length_cons, sum_sg cs]
    show 1 + cs.length = _
    omega
theorem cutT_to {z : Str} {a : Nat} : (cutT z none (some (a : Int))).cps.toList = z.cps.toList.take (min a z.length) := by
  have e : sIx z.length z.length (some (a : Int)) = min a z.length := by
    show (if (a : Int) < 0 then ((z.length : Int) + a).toNat else min (a : Int).toNat z.length) = _
    rw [if_neg (by omega)]
    omega
  unfold cutT
  rw [e]
  show ((z.cps.toList.drop 0).take (min a z.length - 0)) = _
  rw [List.drop_zero, Nat.sub_zero]
theorem atI_strs {ss : List Str} {z : Int} (h0 : 0 ≤ z) (h1 : z < ss.length) : ∃ w ∈ ss, atI (ss.map D.str) z = some (.str w) := by
  refine ⟨ss[z.toNat]'(by omega), List.getElem_mem _, atI_nat h0 ?_⟩
  rw [List.getElem?_map, List.getElem?_eq_getElem (by omega)]
  rfl
def sp__law_words : PSp := fun ds t P => ∃ (many n : Int), ds = [.pen, .int many] ∧ 1 ≤ many ∧ many ≤ 20 ∧ Pk n t ∧ n < 90000000 ∧ ∀ (ws : List Str) (t' : Ts), (ws.length : Int) = many → (∀ w ∈ ws, Wd w) → Pk (n + 20) t' → P (.lst (ws.map .str)) t'
theorem len__law_words (as : List D) (t : Ts) (P : D → Ts → Prop) (h : sp__law_words as t P) : as.length = 2 := by first | (obtain ⟨_, rfl, _⟩ := h; rfl) | (obtain ⟨_, _, rfl, _⟩ := h; rfl) | (obtain ⟨_, _, _, rfl, _⟩ := h; rfl) | (obtain ⟨_, _, _, _, rfl, _⟩ := h; rfl) | (obtain ⟨_, _, _, _, _, rfl, _⟩ := h; rfl) | (obtain ⟨_, _, _, _, _, _, rfl, _⟩ := h; rfl) | (obtain ⟨_, _, _, _, _, _, _, rfl, _⟩ := h; rfl) | (obtain ⟨_, _, _, _, _, _, _, _, rfl, _⟩ := h; rfl) | (obtain ⟨_, rfl | rfl, _⟩ := h <;> rfl) | (obtain ⟨_, _, rfl | rfl, _⟩ := h <;> rfl) | (obtain ⟨_, _, _, rfl | rfl, _⟩ := h <;> rfl) | (obtain ⟨_, _, _, _, rfl | rfl, _⟩ := h <;> rfl) | (obtain ⟨_, _, _, _, _, rfl | rfl, _⟩ := h <;> rfl) | (obtain ⟨_, _, _, _, _, _, rfl | rfl, _⟩ := h <;> rfl) | (obtain ⟨_, _, _, _, _, _, _, rfl | rfl, _⟩ := h <;> rfl) | (obtain ⟨_, _, _, _, _, _, _, _, rfl | rfl, _⟩ := h <;> rfl)
def d__law_words : DS := (dSeq (dParM [(7, false), (8, true)] (dCons (dC (.str "abcdefghijklmnopqrstuvwxyz")) (dCons (dLst dNil) dNil))) (dSeq (dAsg (dJoin (dC (.str "")) (dLc [4] (iRng1 (dCall sp__law_draw [] (dCons (dVar 0) (dCons (dC (.int 12)) dNil)))) (gName 4) dYes (dOp oIxS (dVar 7) (dCall sp__law_draw [] (dCons (dVar 0) (dCons (dC (.int 26)) dNil)))))) (gName 2)) (dSeq (dAsg (dCall sp__law_draw [] (dCons (dVar 0) (dCons (dC (.int 26)) dNil))) (gName 3)) (dSeq (dFor (iRng1 (dVar 1)) (gName 4) (dSeq (dApp 8 (dOp oAdd (dSliceS (dVar 2) dNoPart (dPart (dOp oMod (dVar 4) (dC (.int 4))))) (dOp oIxS (dVar 7) (dOp oMod (dOp oAdd (dVar 3) (dOp oMul (dC (.int 3)) (dVar 4))) (dC (.int 26)))))) dNext)) (dSeq (dFrz 8) (dSeq (dAsg (dLst (dCons (dC (.str "last")) (dCons (dC (.str "left")) (dCons (dC (.str "trusted")) (dCons (dC (.str "lore")) (dCons (dC (.str "by")) (dCons (dC (.str "at")) (dCons (dC (.str "is")) (dCons (dC (.str "sees")) (dCons (dC (.str "house")) (dCons (dC (.str "drop")) (dCons (dC (.str "bar")) (dCons (dC (.str "abcdefghijkl")) dNil))))))))))))) (gName 5)) (dSeq (dAsg (dOp oIx (dVar 5) (dCall sp__law_draw [] (dCons (dVar 0) (dCons (dC (.int 12)) dNil)))) (gName 6)) (dSeq (dRet (dIfE (dOr (dB (dOp oInTL (dVar 6) (dView 8))) (dB (dOp oEq (dCall sp__law_draw [] (dCons (dVar 0) (dCons (dC (.int 2)) dNil))) (dC (.int 0))))) (dVar 8) (dOp oAdd (dLst (dCons (dVar 6) dNil)) (dSlice (dView 8) (dPart (dC (.int 1))) dNoPart)))) dNext))))))))
theorem d__law_words_ok (as : List D) (t : Ts) (P : D → Ts → Prop) (h : sp__law_words as t P) : d__law_words (endsOf P) (start0 ["_law_pen_here", "_law_many", "_law_tail", "_law_begin", "_law_k", "_law_some", "_law_word", "_law_letters", "_law_found"] as) t := by
  obtain ⟨many, n, rfl, m1, m20, pn, hn, k⟩ := h
  conv => whnf
  refine ⟨_, _, rfl, by first | omega | decide, (sm64 (by first | omega | decide) (by first | omega | decide)).mono (by decide), pn, by omega, fun c t1 c0 c1 pt1 => ?_⟩
  conv => whnf
  refine ⟨by omega, ?_⟩
  conv => whnf
  refine ⟨fun i acc m => ∃ cs : List Nat, acc = cs.map (fun c => .str (sg c)) ∧ cs.length = i ∧ (∀ c ∈ cs, Lt c) ∧ Pk (n + 1 + i) m, ⟨[], rfl, rfl, by simp, by simpa using pt1⟩, fun i x acc m hx hI => ?_, fun acc m hI => ?_⟩
  · obtain ⟨cs, rfl, hl, hcs, pm⟩ := hI
    obtain ⟨hi, rfl⟩ := rng_get hx
    conv => whnf
    refine ⟨rfl, ?_⟩
    conv => whnf
    refine ⟨_, _, rfl, by first | omega | decide, (sm64 (by first | omega | decide) (by first | omega | decide)).mono (by decide), pm, by omega, fun z t2 z0 z1 pt2 => ?_⟩
    conv => whnf
    refine ⟨by rw [show (("abcdefghijklmnopqrstuvwxyz" : Str)) = ltrs from rfl, ltrs_len]; unfold zLen; decide, _, atC_ltrs z0 z1, ?_⟩
    refine ⟨by rw [List.length_map, hl]; unfold zLen; omega, cs ++ [97 + z.toNat], by simp, by simp [hl], fun c hc => ?_, pt2.mono (by omega)⟩
    rcases List.mem_append.mp hc with hc | hc
    · exact hcs c hc
    · rw [List.mem_singleton.mp hc]
      unfold Lt
      omega
  · obtain ⟨cs, rfl, hl, hcs, pm⟩ := hI
    rw [rng_len] at hl pm
    have c11 : cs.length ≤ 11 := by omega
    have em : cs.map (fun c => D.str (sg c)) = (cs.map sg).map D.str := by rw [List.map_map]; rfl
    conv => whnf
    rw [em]
    refine ⟨cs.map sg, rfl, by rw [sum_sg, List.length_map]; show cs.length + cs.length * 0 ≤ _; unfold zLen; omega, ?_⟩
    rw [joinC_sg]
    conv => whnf
    refine ⟨_, _, rfl, by first | omega | decide, (sm64 (by first | omega | decide) (by first | omega | decide)).mono (by decide), pm, by omega, fun b t3 b0 b1 pt3 => ?_⟩
    conv => whnf
    refine ⟨by omega, ?_⟩
    conv => whnf
    refine ⟨fun i e m => m = t3 ∧ ∃ (ws : List Str) (s4 : Sl), ws.length = i ∧ (∀ w ∈ ws, Wd w) ∧ e = [.val .pen, .val (.int many), .val (.str ⟨cs.toArray⟩), .val (.int b), s4, .no, .no, .val (.str "abcdefghijklmnopqrstuvwxyz"), .own (.lst (ws.map .str))], ⟨rfl, [], _, rfl, by simp, rfl⟩, fun i x e m hx hI => ?_, fun e m hI => ?_⟩
    · obtain ⟨rfl, ws, s4, hwl, hws, rfl⟩ := hI
      obtain ⟨hi, rfl⟩ := rng_get hx
      conv => whnf
      refine ⟨by decide, ?_⟩
      conv => whnf
      have tl : (⟨cs.toArray⟩ : Str).length = cs.length := by show cs.toArray.size = _; simp
      refine ⟨by rw [tl]; unfold zLen; omega, ?_⟩
      conv => whnf
      refine ⟨.l (by omega) (by omega), ?_⟩
      conv => whnf
      refine ⟨by decide, ?_⟩
      conv => whnf
      have q0 : 0 ≤ (b + 3 * (0 + (i : Int))) % 26 := Int.emod_nonneg _ (by decide)
      have q1 : (b + 3 * (0 + (i : Int))) % 26 < 26 := Int.emod_lt_of_pos _ (by decide)
      refine ⟨by rw [show (("abcdefghijklmnopqrstuvwxyz" : Str)) = ltrs from rfl, ltrs_len]; unfold zLen; decide, _, atC_ltrs q0 q1, ?_⟩
      have r0 : 0 ≤ (0 + (i : Int)) % 4 := Int.emod_nonneg _ (by decide)
      have r1 : (0 + (i : Int)) % 4 < 4 := Int.emod_lt_of_pos _ (by decide)
      generalize hr : ((0 + (i : Int)) % 4).toNat = r
      have er : (0 + (i : Int)) % 4 = (r : Int) := by omega
      rw [er]
      have ct := cutT_to (z := ⟨cs.toArray⟩) (a := r)
      have cl : (cutT ⟨cs.toArray⟩ none (some (r : Int))).length ≤ 3 := by
        rw [← len_toList, ct, List.length_take]
        omega
      generalize hw : cutT ⟨cs.toArray⟩ none (some (r : Int)) = w at ct cl
      refine ⟨by show w.length + 1 ≤ _; unfold zLen; omega, ?_⟩
      refine ⟨by rw [List.length_map, hwl]; unfold zLen; omega, rfl, ws ++ [_], _, by simp [hwl], fun v hv => ?_, by rw [List.map_append]; rfl⟩
      rcases List.mem_append.mp hv with hv | hv
      · exact hws v hv
      · rw [List.mem_singleton.mp hv]
        have sz : ∀ (u : Str) (c : Nat), (u ++ sg c : Str).cps.toList = u.cps.toList ++ [c] := fun u c => by
          show (u.cps ++ #[c]).toList = _
          simp
        have sl : ∀ (u : Str) (c : Nat), (u ++ sg c : Str).length = u.length + 1 := fun u c => by
          rw [← len_toList, sz, List.length_append, len_toList]; rfl
        refine ⟨by rw [sl]; omega, by rw [sl]; omega, fun c hc => ?_⟩
        rw [sz] at hc
        rcases List.mem_append.mp hc with hc | hc
        · rw [ct] at hc
          exact hcs c (List.mem_of_mem_take hc)
        · rw [List.mem_singleton.mp hc]
          unfold Lt
          omega
    · obtain ⟨rfl, ws, s4, hwl, hws, rfl⟩ := hI
      rw [rng_len] at hwl
      conv => whnf
      refine ⟨_, _, rfl, by first | omega | decide, (sm64 (by first | omega | decide) (by first | omega | decide)).mono (by decide), pt3, by omega, fun y t4 y0 y1 pt4 => ?_⟩
      conv => whnf
      obtain ⟨w, hw, ew⟩ := atI_strs (ss := ["last", "left", "trusted", "lore", "by", "at", "is", "sees", "house", "drop", "bar", "abcdefghijkl"]) y0 y1
      have hWd : ∀ w ∈ (["last", "left", "trusted", "lore", "by", "at", "is", "sees", "house", "drop", "bar", "abcdefghijkl"] : List Str), wdB w = true := by decide +kernel
      have hw := wd_of (hWd w hw)
      refine ⟨_, ew, ?_⟩
      conv => whnf
      refine ⟨ws, rfl, ?_⟩
      have wl : (ws.length : Int) = many := by omega
      have cut1 : cutD (ws.map D.str) (some 1) none = (ws.drop 1).map D.str := by
        have := cutG_fr (f := D.str) (l := ws) (a := 1) (by omega)
        exact this
      conv => whnf
      refine Br.mk (fun hb => ?_) (fun hb => ?_)
      · exact k ws t4 wl hws (pt4.mono (by omega))
      · conv => whnf
        refine ⟨_, _, rfl, by first | omega | decide, (sm64 (by first | omega | decide) (by first | omega | decide)).mono (by decide), pt4, by omega, fun u t5 u0 u1 pt5 => ?_⟩
        conv => whnf
        refine Br.mk (fun hu => ?_) (fun hu => ?_)
        · exact k ws t5 wl hws (pt5.mono (by omega))
        · conv => whnf
          rw [cut1]
          refine ⟨by rw [List.length_map, List.length_drop]; show 1 + _ ≤ _; unfold zLen; omega, ?_⟩
          refine k (w :: ws.drop 1) t5 (by rw [List.length_cons, List.length_drop]; omega) (fun v hv => ?_) (pt5.mono (by omega))
          rcases List.mem_cons.mp hv with rfl | hv
          · exact hw
          · exact hws v (List.mem_of_mem_drop hv)
end Q
/-! MTie -/
namespace Q
open PySem
/-! ### bounds and ties -/
structure Bnd where
  s : Int
  e : Int
  r : Int
  p : Option Int
def hd (b m : Int) : Int := (sigs b m).getD 0 0
def ex (b m : Int) : Int := (sigs b m).length - 1
def f0 : Bnd := ⟨0, 0, 0, none⟩
def f1 (b : Int) : Bnd := ⟨b - 1, -1, 0, none⟩
def topB (b : Int) (s : Sy) (i : Int) : Bnd := ⟨hd b (s.n - 1), ex b (s.n - 1), s.p - s.n - heap b (s.n - 1), some i⟩
def topF (b : Int) (s : Sy) (i : Int) : Option Bnd := if s.w = false ∧ 1 < s.n then some (topB b s i) else none
def sy0 : Sy := ⟨true, 1, 1⟩
def top (b : Int) (ss : List Sy) : List Bnd := f1 b :: (List.range ss.length).filterMap fun i => topF b (ss.getD i sy0) i
def fr (q : Bnd × Bnd) : Int × Int := (q.2.e - q.1.e, q.2.r - q.1.r)
end Q
/-! MTie2 -/
namespace Q
open PySem
end Q
/-! MTie3 -/
namespace Q
open PySem
end Q
/-! MHs -/
namespace Q
open PySem
/-! ### houses by their sums, and the bounds of these -/
end Q
/-! MHs2 -/
namespace Q
open PySem
def difS : Int → List Int → List Int
  | _, [] => []
  | a, x :: l => (1 + x - a) :: difS x l
def Ris : Int → List Int → Prop
  | _, [] => True
  | a, x :: l => a ≤ x ∧ Ris x l
section
variable {b R : Int} {bs cs : List Int} {ss : List Sy}
/-- the house whose sums are F 1 .. F (b - 1) -/
def hF (b : Int) (F : Int → Int) : List Int := difS 0 ((List.range (b - 1).toNat).map fun (i : Nat) => F ((i : Int) + 1))
end
end Q
/-! MEvr -/
namespace Q
open PySem
/-! ### all houses of a reach -/
/-- one more sum -/
def nx (R : Int) (l : List Int) : List (List Int) := (List.range (R + 1 - l.getLastD 0).toNat).map fun (i : Nat) => l ++ [l.getLastD 0 + i]
def rws (R : Int) : Nat → List (List Int)
  | 0 => [[]]
  | j + 1 => (rws R j).flatMap (nx R)
def evr (b R : Int) : List (List Int) := (rws R (b - 2).toNat).map fun l => difS 0 (l ++ [R])
end Q
/-! MTwo -/
namespace Q
open PySem
/-! ### two houses and sayings about them -/
end Q
/-! MEvr2 -/
namespace Q
open PySem
end Q
/-! MLev -/
namespace Q
open PySem
/-! ### the least and the greatest house, the program's -/
end Q
/-! MNine -/
namespace Q
open PySem
/-! ### which reaches ties leave; no place up to the ninth tells reaches from nine on apart -/
end Q
/-! MBar -/
namespace Q
open PySem
/-! ### bars of a reach -/
end Q
/-! MFits -/
namespace Q
open PySem
def fits (b R : Int) (ss : List Sy) : List (List Int) := (evr b R).filter fun bs => ss.all (keepB b bs)
end Q
/-! MBarL -/
namespace Q
open PySem
/-! ### bars looked at -/
def sub (ss : List Sy) (ps : List Int) : List Sy := ps.map fun p => ss.getD p.toNat sy0
end Q
/-! MLr0 -/
namespace Q
open PySem
/-! ### lores -/
inductive Wh where
  | bl (b : Bool)
  | sy (s : Sy)
structure Ent where
  m : Int
  n : Str
  w : Wh
def whD : Wh → D
  | .bl b => .bl b
  | .sy s => syD s
def entD (e : Ent) : D := .tup [.int e.m, .str e.n, whD e.w]
def Wh.Ok : Wh → Prop
  | .bl _ => True
  | .sy s => s.Ok
structure EOk (e : Ent) : Prop where
  m0 : 0 ≤ e.m
  n : Wd e.n
  w : e.w.Ok
def kysE (es : List Ent) : List Ky := es.map fun e => .inl e.m
structure LoreAt (W : Cl) (O : Addr → Option D) (a b : Addr) (k : Int) (es : List Ent) : Prop where
  A : O a = some (.ins W.Lore ["kept_base", "kept"] [.int k, .adr b])
  B : O b = some (.dic (kysE es) (es.map entD))
theorem LoreAt.ne {W : Cl} {O : Addr → Option D} {a b : Addr} {k : Int} {es : List Ent} (h : LoreAt W O a b k es) : a ≠ b := fun z => by
  have := h.A
  rw [z, h.B] at this
  cases this
/-- but for what stands at some addresses nothing is otherwise -/
structure Fr (t t' : Ts) (S : List Addr) : Prop where
  b : t'.bare = t.bare
  o : ∀ c, c ∉ S → t'.obs c = t.obs c
theorem Fr.refl (t : Ts) (S : List Addr) : Fr t t S := ⟨rfl, fun _ _ => rfl⟩
theorem Fr.trans {t t1 t2 : Ts} {S : List Addr} (f : Fr t t1 S) (g : Fr t1 t2 S) : Fr t t2 S := ⟨g.b.trans f.b, fun c h => (g.o c h).trans (f.o c h)⟩
theorem Fr.wide {t t' : Ts} {S S' : List Addr} (f : Fr t t' S) (h : ∀ c ∈ S, c ∈ S') : Fr t t' S' := ⟨f.b, fun c hc => f.o c fun z => hc (h c z)⟩
theorem Fr.pk {t t' : Ts} {S : List Addr} {n : Int} (f : Fr t t' S) (p : Pk n t) : Pk n t' := by
  have q := p.bare
  rw [← f.b] at q
  exact ⟨q.c, q.a0, q.a1, q.l, q.tp⟩
theorem Fr.put {t t' : Ts} {a : Addr} {d : D} {S : List Addr} (f : Fr t t' S) (h : a ∈ S) : Fr t (t'.put a d) S :=
  ⟨f.b, fun c hc => by rw [Ts.put_ne _ _ (fun z => hc (by rw [z]; exact h))]; exact f.o c hc⟩
theorem LoreAt.fr {W : Cl} {t t' : Ts} {a b : Addr} {k : Int} {es : List Ent} {S : List Addr} (h : LoreAt W t.obs a b k es) (f : Fr t t' S) (ha : a ∉ S) (hb : b ∉ S) : LoreAt W t'.obs a b k es := ⟨by rw [f.o a ha]; exact h.A, by rw [f.o b hb]; exact h.B⟩
/-! ### by moments -/
def upt (u : Option Int) (e : Ent) : Bool := match u with
  | none => true
  | some m => decide (e.m ≤ m)
def Srt (E : List Ent) : Prop := E.Pairwise fun e f => e.m < f.m
/-! ### what is told -/
def PutS (W : Cl) (a : Addr) (e : Ent) (t : Ts) (P : D → Ts → Prop) : Prop := ∃ b k es, LoreAt W t.obs a b k es ∧ EOk e ∧ es.length < 1000 ∧ (∀ f ∈ es, f.m ≠ e.m) ∧ ∀ t', Fr t t' [b] → LoreAt W t'.obs a b k (es ++ [e]) → P .non t'
def sp_Lore_entries (W : Cl) : PSp := fun ds t P => ∃ a b k es E u, ds = [.adr a, pO u] ∧ LoreAt W t.obs a b k es ∧ E.Perm es ∧ Srt E ∧ E.length ≤ 500 ∧ P (.lst ((E.filter (upt u)).map entD)) t
theorem len_Lore_entries (W : Cl) (as : List D) (t : Ts) (P : D → Ts → Prop) (h : sp_Lore_entries W as t P) : as.length = 2 := by first | (obtain ⟨_, rfl, _⟩ := h; rfl) | (obtain ⟨_, _, rfl, _⟩ := h; rfl) | (obtain ⟨_, _, _, rfl, _⟩ := h; rfl) | (obtain ⟨_, _, _, _, rfl, _⟩ := h; rfl) | (obtain ⟨_, _, _, _, _, rfl, _⟩ := h; rfl) | (obtain ⟨_, _, _, _, _, _, rfl, _⟩ := h; rfl) | (obtain ⟨_, _, _, _, _, _, _, rfl, _⟩ := h; rfl) | (obtain ⟨_, _, _, _, _, _, _, _, rfl, _⟩ := h; rfl) | (obtain ⟨_, rfl | rfl, _⟩ := h <;> rfl) | (obtain ⟨_, _, rfl | rfl, _⟩ := h <;> rfl) | (obtain ⟨_, _, _, rfl | rfl, _⟩ := h <;> rfl) | (obtain ⟨_, _, _, _, rfl | rfl, _⟩ := h <;> rfl) | (obtain ⟨_, _, _, _, _, rfl | rfl, _⟩ := h <;> rfl) | (obtain ⟨_, _, _, _, _, _, rfl | rfl, _⟩ := h <;> rfl) | (obtain ⟨_, _, _, _, _, _, _, rfl | rfl, _⟩ := h <;> rfl) | (obtain ⟨_, _, _, _, _, _, _, _, rfl | rfl, _⟩ := h <;> rfl)
def d_Lore_entries (W : Cl) : DS := (dSeq (dRet (dLc [2] (iSeq (dSortO (dFldO W.Lore "kept" (dVar 0)))) (gName 2) (dOr (dB (dOp oIsN (dVar 1) (dC .non))) (dB (dOp oLe (dVar 2) (dVar 1)))) (dGetO (dFldO W.Lore "kept" (dVar 0)) (dVar 2)))) dNext)
theorem hasK_none {m : Int} : ∀ {l : List Ent}, (∀ f ∈ l, f.m ≠ m) → hasK (kysE l) (.inl m) = false
  | [], _ => rfl
  | e :: l, h => by
    show (decide ((Sum.inl e.m : Ky) = .inl m) || hasK (kysE l) (.inl m)) = false
    rw [decide_eq_false (fun z => h e (List.mem_cons_self ..) (Sum.inl.inj z)), hasK_none fun f hf => h f (List.mem_cons_of_mem _ hf)]
    rfl
theorem getL_at {e : Ent} : ∀ {l : List Ent}, l.Pairwise (fun e f => e.m ≠ f.m) → e ∈ l → getL (kysE l) (l.map entD) (.inl e.m) = some (entD e)
  | [], _, h => by simp at h
  | f :: l, hp, h => by
    show (if (Sum.inl f.m : Ky) = .inl e.m then some (entD f) else getL (kysE l) (l.map entD) (.inl e.m)) = _
    cases hp with
    | cons h1 h2 =>
      rcases List.mem_cons.mp h with rfl | h
      · rw [if_pos rfl]
      · rw [if_neg (fun z => h1 e h (Sum.inl.inj z))]
        exact getL_at h2 h
theorem nopen_ent (m : Int) (n : Str) (w : Wh) : nopen (.tup [.int m, .str n, whD w]) = true := by
  cases w with
  | bl b => rfl
  | sy s => obtain ⟨w, p, q⟩ := s; cases w <;> rfl
theorem PutS.at {W : Cl} {a : Addr} {e : Ent} {t : Ts} {P : D → Ts → Prop} (h : PutS W a e t P) : ∃ b k, t.obs a = some (.ins W.Lore ["kept_base", "kept"] [.int k, .adr b]) := by
  obtain ⟨b, k, es, L, _⟩ := h
  exact ⟨b, k, L.A⟩
theorem take_snoc {α : Type} {l : List α} {i : Nat} {x : α} (h : l[i]? = some x) : l.take (i + 1) = l.take i ++ [x] := by
  rw [List.take_add_one, h]
  rfl
theorem pw_take {α : Type} {R : α → α → Prop} {l : List α} {i : Nat} {x : α} (h : l.Pairwise R) (hx : l[i]? = some x) : ∀ f ∈ l.take i, R f x := by
  have h2 : (l.take (i + 1)).Pairwise R := h.sublist (List.take_sublist ..)
  rw [take_snoc hx] at h2
  exact fun f hf => (List.pairwise_append.mp h2).2.2 f hf x (List.mem_singleton.mpr rfl)
/-! ### entries in their order -/
theorem srt_ne {E : List Ent} (h : Srt E) : E.Pairwise fun e f => e.m ≠ f.m := h.imp fun h => by omega
theorem perm_pw {E es : List Ent} (h : E.Perm es) (hE : E.Pairwise fun e f => e.m ≠ f.m) : es.Pairwise fun e f => e.m ≠ f.m := h.pairwise hE (fun h => Ne.symm h)
theorem srt_uniq : ∀ {l m : List Int}, l.Pairwise (· ≤ ·) → m.Pairwise (· < ·) → l.Perm m → l = m := fun {l m} h1 h2 hp => by
  refine hp.eq_of_pairwise (le := (· ≤ ·)) (fun a b _ _ h1 h2 => by omega) h1 (h2.imp fun h => by omega)
theorem fm_range {α β : Type} (g : α → Option β) (E : List α) : (List.range E.length).filterMap (fun i => (E[i]?).bind g) = E.filterMap g := by
  have go : ∀ n, n ≤ E.length → (List.range n).filterMap (fun i => (E[i]?).bind g) = (E.take n).filterMap g := by
    intro n
    induction n with
    | zero => intro _; rfl
    | succ n ih =>
      intro hn
      have hx : E[n]? = some E[n] := List.getElem?_eq_getElem (by omega)
      have e1 : [n].filterMap (fun i => (E[i]?).bind g) = [E[n]].filterMap g := by
        simp only [List.filterMap_cons, List.filterMap_nil, hx, Option.bind_some]
      rw [List.range_succ, List.filterMap_append, ih (by omega), take_snoc hx, List.filterMap_append, e1]
  have := go E.length (Nat.le_refl _)
  rwa [List.take_length] at this
theorem fm_fil {α β : Type} (p : α → Bool) (f : α → β) : ∀ E : List α, E.filterMap (fun e => if p e = true then some (f e) else none) = (E.filter p).map f
  | [] => rfl
  | e :: E => by
    rw [List.filterMap_cons, fm_fil p f E, List.filter_cons]
    cases p e <;> rfl
theorem d_Lore_entries_ok (W : Cl) (as : List D) (t : Ts) (P : D → Ts → Prop) (h : sp_Lore_entries W as t P) : d_Lore_entries W (endsN P) (start0 ["self", "upto", "moment"] as) t := by
  obtain ⟨a, b, k0, es, E, u, rfl, L, hp, hs, hl, k⟩ := h
  have le : es.length = E.length := hp.length_eq.symm
  conv => whnf
  refine ⟨_, _, _, L.A, rfl, ?_⟩
  conv => whnf
  refine ⟨_, _, L.B, es.map (·.m), by unfold kysE; rw [List.map_map]; rfl, by rw [List.length_map]; omega, fun ns h1 h2 => ?_⟩
  have ens : ns = E.map (·.m) := by
    refine srt_uniq h2 ?_ (h1.trans (hp.map _).symm)
    rw [List.pairwise_map]
    exact hs
  subst ens
  clear h1 h2
  have pn := perm_pw hp (srt_ne hs)
  refine lc_fm (fun i => (E[i]?).bind fun e => if upt u e = true then some (entD e) else none) (by rw [List.length_map, List.length_map]; unfold zLen; omega) (fun i x hx Qy Qn h1 h2 => ?_) ?_
  · rw [List.map_map, List.getElem?_map] at hx
    cases hq : E[i]? with
    | none => rw [hq] at hx; cases hx
    | some e =>
      rw [hq] at hx h1 h2
      cases hx
      have hm := hp.mem_iff.mp (List.mem_of_getElem? hq)
      cases u with
      | none =>
        conv => whnf
        refine ⟨rfl, ?_⟩
        conv => whnf
        refine ⟨_, _, _, L.A, rfl, ?_⟩
        conv => whnf
        refine ⟨_, _, L.B, ?_⟩
        conv => whnf
        exact ⟨_, getL_at pn hm, h1 _ rfl⟩
      | some m =>
        conv => whnf
        refine ⟨rfl, ?_⟩
        conv => whnf
        refine Br.mk (fun hc => ?_) (fun hc => ?_)
        · conv => whnf
          refine ⟨_, _, _, L.A, rfl, ?_⟩
          conv => whnf
          refine ⟨_, _, L.B, ?_⟩
          conv => whnf
          refine ⟨_, getL_at pn hm, h1 _ ?_⟩
          show (if decide (e.m ≤ m) = true then some (entD e) else none) = some (entD e)
          rw [if_pos hc]
        · refine h2 ?_
          show (if decide (e.m ≤ m) = true then some (entD e) else none) = none
          have hc : decide (e.m ≤ m) = false := hc
          rw [hc]
          rfl
  · rw [List.length_map, List.length_map, fm_range, fm_fil]
    exact k
theorem plain_wd {w : Str} (h : Wd w) : plain (.str w) = true := by
  show w.cps.all (· < 0x110000) = true
  rw [← Array.all_toList]
  refine List.all_eq_true.mpr fun c hc => decide_eq_true ?_
  have := h.s c hc
  unfold Lt at this
  omega
theorem ent_get {E : List Ent} {i : Nat} {x : D} (h : (E.map entD)[i]? = some x) : ∃ e, E[i]? = some e ∧ x = entD e := by
  rw [List.getElem?_map] at h
  cases q : E[i]? with
  | none => rw [q] at h; cases h
  | some j => rw [q] at h; cases h; exact ⟨j, rfl, rfl⟩
end Q
/-! MEntA -/
namespace Q
open PySem
/-! ### entries alike -/
instance decSy : DecidableEq Sy := fun ⟨w, p, n⟩ ⟨w', p', n'⟩ => decidable_of_iff (w = w' ∧ p = p' ∧ n = n') (by simp)
instance decWh : DecidableEq Wh := fun a b => match a, b with
  | .bl x, .bl y => decidable_of_iff (x = y) (by simp)
  | .sy x, .sy y => decidable_of_iff (x = y) (by simp)
  | .bl _, .sy _ => .isFalse (by simp)
  | .sy _, .bl _ => .isFalse (by simp)
instance decEnt : DecidableEq Ent := fun ⟨m, n, w⟩ ⟨m', n', w'⟩ => decidable_of_iff (m = m' ∧ n = n' ∧ w = w') (by simp)
theorem deq_sy (s r : Sy) : deq (syD s) (syD r) = decide (s = r) := by
  obtain ⟨w, p, n⟩ := s
  obtain ⟨w', p', n'⟩ := r
  rw [Bool.eq_iff_iff]
  have ne : ¬ Str.ofString "at least" = Str.ofString "at most" := by decide +kernel
  have ne2 : ¬ Str.ofString "at most" = Str.ofString "at least" := by decide +kernel
  cases w <;> cases w' <;> simp [syD, deq, deqs, ne, ne2]
theorem deq_wh (w v : Wh) : deq (whD w) (whD v) = decide (w = v) := by
  rw [Bool.eq_iff_iff]
  cases w with
  | bl a =>
    cases v with
    | bl b => simp [whD, deq]
    | sy s =>
      obtain ⟨w, p, n⟩ := s
      cases w <;> simp [whD, syD, deq]
  | sy s =>
    cases v with
    | bl b =>
      obtain ⟨w, p, n⟩ := s
      cases w <;> simp [whD, syD, deq]
    | sy r =>
      show (deq (syD s) (syD r) = true) ↔ _
      rw [deq_sy]
      simp
theorem plain_ent {e : Ent} (h : EOk e) : plain (entD e) = true := by
  obtain ⟨m, n, w⟩ := e
  have hn : plain (.str n) = true := plain_wd h.n
  show (true && (plain (.str n) && (plain (whD w) && true))) = true
  rw [hn]
  cases w with
  | bl b => rfl
  | sy s =>
    obtain ⟨w, p, q⟩ := s
    have z1 : plain (D.str "at most") = true := by decide +kernel
    have z2 : plain (D.str "at least") = true := by decide +kernel
    cases w with
    | true =>
      show (true && (true && ((plain (D.str "at most") && (true && (true && true))) && true))) = true
      rw [z1]; rfl
    | false =>
      show (true && (true && ((plain (D.str "at least") && (true && (true && true))) && true))) = true
      rw [z2]; rfl
theorem deep_ent (e : Ent) : deep (entD e) ≤ 2 := by
  obtain ⟨m, n, w⟩ := e
  cases w with
  | bl b => exact (by decide : 1 ≤ 2)
  | sy s =>
    obtain ⟨w, p, q⟩ := s
    cases w <;> exact (by decide : 2 ≤ 2)
theorem plain_ents : ∀ {H : List Ent}, (∀ e ∈ H, EOk e) → plains (H.map entD) = true
  | [], _ => rfl
  | e :: H, h => by
    show (plain (entD e) && plains (H.map entD)) = true
    rw [plain_ent (h e (List.mem_cons_self ..)), plain_ents fun f hf => h f (List.mem_cons_of_mem _ hf)]
    rfl
theorem deep_ents : ∀ (H : List Ent), deeps (H.map entD) ≤ 2
  | [] => Nat.zero_le _
  | e :: H => by
    show max (deep (entD e)) (deeps (H.map entD)) ≤ 2
    have h1 := deep_ent e
    have h2 := deep_ents H
    omega
end Q
/-! QD13 -/
/-! Q, the data level: what may raise, any expression. -/
namespace Q
open PySem
end Q
/-! QD14 -/
/-! Q, the data level: lists that hold instances, compared where all is equal. -/
namespace Q
open PySem
/-- len(o), o an object whose class tells its length -/
def dLenI (C : Addr) (sp : PSp) (a : DE) : DE := fun env t P => a env t fun x t1 => match x with
  | .adr A => ∃ ns l, t1.obs A = some (.ins C ns l) ∧ sp [.adr A] t1 fun z t2 => match z with
    | .int i => (0 ≤ i ∧ i < 9223372036854775808) ∧ P (.int i) t2
    | _ => False
  | _ => False
end Q
/-! QD15 -/
/-! Q, the data level: sorted(set(l)), l a list of texts. -/
namespace Q
open PySem
end Q
/-! QD16 -/
namespace Q
open PySem
end Q
/-! QD17 -/
namespace Q
open PySem
end Q
/-! QD18 -/
namespace Q
open PySem
end Q
/-! QD19 -/
namespace Q
open PySem
/-! ### rows of data of which the texts are told apart -/
end Q
/-! QD20 -/
namespace Q
open PySem
/-! ### texts: split, f-strings, int(text) -/
/-- x.split(z) -/
def dSplit (o e : DE) : DE := fun env t P => o env t fun x t1 => match x with
  | .str a => e env t1 fun y t2 => (match y with
    | .str b => (b.length == 0) = false ∧ a.length + 2 ≤ zLen ∧ P (.lst ((Txt.split a b).map .str)) t2
    | _ => False)
  | _ => False
/-- what the parts of an f-string come to, behind a text -/
abbrev DJ := Str → En → Ts → (Str → Ts → Prop) → Prop
def dJNil : DJ := fun acc _ t P => P acc t
def dJE (e : DE) (r : DJ) : DJ := fun acc env t P => e env t fun x t1 => match x with
  | .str s => (acc ++ s).length ≤ zLen ∧ r (acc ++ s) env t1 P
  | _ => False
def dJV (e : DE) (r : DJ) : DJ := fun acc env t P => e env t fun x t1 => match x with
  | .str s => s.length ≤ zLen ∧ (acc ++ s).length ≤ zLen ∧ r (acc ++ s) env t1 P
  | .int i => i.natAbs.log2 < 1920 ∧ (acc ++ Str.ofString (toString i)).length ≤ zLen ∧ r (acc ++ Str.ofString (toString i)) env t1 P
  | _ => False
def dFs (j : DJ) : DE := fun env t P => j Str.empty env t fun s t1 => P (.str s) t1
/-- int(text) -/
def bIntT : DB := fun xs P => match xs with
  | [.str a] => ∃ n, intText? a = some n ∧ a.length ≤ 640 ∧ P (.int n)
  | _ => False
end Q
/-! QD21 -/
namespace Q
open PySem
/-- x in a dict of the module, its keys texts -/
def dInK (ks : List Str) (e : DE) : DE := fun env t P => e env t fun x t1 => match x with
  | .str s => P (.bl (ks.contains s)) t1
  | _ => False
end Q
/-! QD22 -/
namespace Q
open PySem
end Q
/-! QD23 -/
namespace Q
open PySem
/-! ### what may raise an exception with a field, any expression -/
end Q
/-! QD24 -/
namespace Q
open PySem
end Q
/-! QD25 -/
namespace Q
open PySem
/-! ### refusals of any of the package's classes -/
inductive Xn where
  | BadHouse | BadMoment | BadSaying | BadTeller | NoAsk | Unread | NoEntry | NoName | SameMoment | BadMark | Beyond | NoBar | NoHouse | OtherK
def Xn.n : Xn → Nat
  | .BadHouse => 0 | .BadMoment => 1 | .BadSaying => 2 | .BadTeller => 3 | .NoAsk => 4 | .Unread => 5 | .NoEntry => 6 | .NoName => 7 | .SameMoment => 8 | .BadMark => 9 | .Beyond => 10 | .NoBar => 11 | .NoHouse => 12 | .OtherK => 13
def Xn.is (a b : Xn) : Bool := Nat.beq a.n b.n
theorem Xn.is_eq {a b : Xn} (h : Xn.is a b = true) : a = b := by
  cases a <;> cases b <;> first | rfl | exact absurd h (by decide)
/-- which refusal: its class, what its field holds (None where it has none) -/
abbrev PX := Xn → D → Ts → Prop
abbrev PSpE := List D → Ts → (D → Ts → Prop) → PX → Prop
abbrev DXE := En → Ts → (D → Ts → Prop) → PX → Prop
def zCall (sp : PSpE) (as : DA) : DXE := fun env t P Px => as env t fun xs t1 => sp xs t1 P Px
def zMeth (C : Addr) (m : Str) (sp : PSpE) (a : DE) (r : DA) : DXE := fun env t P Px => a env t fun x t1 => match x with
  | .adr A => ∃ ns l, t1.obs A = some (.ins C ns l) ∧ ns.contains m = false ∧ r env t1 fun xs t2 => sp (.adr A :: xs) t2 P Px
  | _ => False
/-- in a def that may raise -/
def dXE (dx : DXE) (Px : PX) : DE := fun env t P => dx env t P Px
/-- raise X(e), raise X() -/
def dRaiseE (c : Xn) (Px : PX) (as : DA) : DS := dRaiseF (Px c) as
def spNoE (sp : PSpE) : PSp := fun ds t P => sp ds t P fun _ _ _ => False
/-! try: one raising expression; its clauses -/
abbrev DK := DEnds → En → D → Ts → Prop
def kDrop : DK := fun DD env _ t => DD.nx env t
abbrev DHs := Xn → D → DS
def hNone (Px : PX) : DHs := fun c d _ _ t => Px c d t
def hOn (c0 : Xn) (h : D → DS) (r : DHs) : DHs := fun c d => match Xn.is c c0 with
  | true => h d
  | false => r c d
/-- what a clause's suite makes of the field: it itself, or a pair with a word -/
def sxD (o : Option Str) (d : D) : D := match o with
  | none => d
  | some m => .tup [.str m, d]
/-- as n: w = .. -/
def hSet (i j : Nat) (o : Option Str) : D → DS := fun d DD env t => DD.nx ((env.set i (.val (sxD o d))).set j .no) t
def dTryE (dx : DXE) (ko : DK) (hs : DHs) : DS := fun DD env t => dx env t (fun d t2 => ko DD env d t2) fun c d t2 => hs c d DD env t2
end Q
/-! QD26 -/
namespace Q
open PySem
end Q
/-! QD27 -/
namespace Q
open PySem
end Q
/-! MLoreE -/
namespace Q
open PySem
/-! ### anything told to a lore -/
def momB : D → Bool
  | .int i => decide (0 ≤ i)
  | _ => false
def telB : D → Bool
  | .str w => wdB w
  | _ => false
def isBd : D → Bool
  | .str w => decide (w = "at most") || decide (w = "at least")
  | _ => false
def sayL : List D → Bool
  | [a, b, c] => isBd a && (isCount b && isCount c)
  | _ => false
def sayB : D → Bool
  | .tup l => sayL l
  | _ => false
def whB : D → Bool
  | .bl _ => true
  | d => sayB d
theorem momB_ok {d : D} (h : momB d = true) : ∃ m, d = .int m ∧ 0 ≤ m := by
  cases d with
  | int m => exact ⟨m, rfl, of_decide_eq_true h⟩
  | _ => cases h
theorem telB_ok {d : D} (h : telB d = true) : ∃ n, d = .str n ∧ Wd n := by
  cases d with
  | str w => exact ⟨w, rfl, wd_of h⟩
  | _ => cases h
theorem isCount_ok {d : D} (h : isCount d = true) : ∃ i, d = .int i ∧ 0 < i := by
  cases d with
  | int m => exact ⟨m, rfl, of_decide_eq_true h⟩
  | _ => cases h
theorem isBd_ok {d : D} (h : isBd d = true) : d = .str "at most" ∨ d = .str "at least" := by
  cases d with
  | str w =>
    have h : (decide (w = "at most") || decide (w = "at least")) = true := h
    rw [Bool.or_eq_true] at h
    rcases h with h | h
    · exact .inl (congrArg _ (of_decide_eq_true h))
    · exact .inr (congrArg _ (of_decide_eq_true h))
  | _ => cases h
theorem sayL_ok : ∀ {l : List D}, sayL l = true → ∃ a b c, l = [a, b, c] ∧ isBd a = true ∧ isCount b = true ∧ isCount c = true
  | [a, b, c], h => by
    have h : (isBd a && (isCount b && isCount c)) = true := h
    rw [Bool.and_eq_true, Bool.and_eq_true] at h
    exact ⟨a, b, c, rfl, h.1, h.2.1, h.2.2⟩
  | [], h => by cases h
  | [_], h => by cases h
  | [_, _], h => by cases h
  | _ :: _ :: _ :: _ :: _, h => by cases h
theorem sayB_ok {d : D} (h : sayB d = true) : ∃ s, d = syD s ∧ s.Ok := by
  cases d with
  | tup l =>
    obtain ⟨a, b, c, rfl, ha, hb, hc⟩ := sayL_ok (l := l) h
    obtain ⟨p, rfl, hp⟩ := isCount_ok hb
    obtain ⟨n, rfl, hn⟩ := isCount_ok hc
    rcases isBd_ok ha with rfl | rfl
    · exact ⟨⟨true, p, n⟩, rfl, by show 1 ≤ p; omega, by show 1 ≤ n; omega⟩
    · exact ⟨⟨false, p, n⟩, rfl, by show 1 ≤ p; omega, by show 1 ≤ n; omega⟩
  | _ => cases h
theorem bd_am : isBd (.str "at most") = true := by decide +kernel
theorem bd_al : isBd (.str "at least") = true := by decide +kernel
theorem sayB_sy {s : Sy} (h : s.Ok) : sayB (syD s) = true := by
  obtain ⟨w, p, n⟩ := s
  obtain ⟨h1, h2⟩ := h
  have h1 : 1 ≤ p := h1
  have h2 : 1 ≤ n := h2
  have e1 : isCount (.int p) = true := decide_eq_true (by omega)
  have e2 : isCount (.int n) = true := decide_eq_true (by omega)
  cases w with
  | true =>
    show (isBd (.str "at most") && (isCount (.int p) && isCount (.int n))) = true
    rw [e1, e2, bd_am]
    rfl
  | false =>
    show (isBd (.str "at least") && (isCount (.int p) && isCount (.int n))) = true
    rw [e1, e2, bd_al]
    rfl
theorem whB_ok {d : D} (h : whB d = true) : ∃ w, d = whD w ∧ w.Ok := by
  cases d with
  | bl b => exact ⟨.bl b, rfl, trivial⟩
  | tup l =>
    obtain ⟨s, e, hs⟩ := sayB_ok (d := .tup l) h
    exact ⟨.sy s, e, hs⟩
  | _ => cases h
theorem whB_wh {w : Wh} (h : w.Ok) : whB (whD w) = true := by
  cases w with
  | bl b => rfl
  | sy s =>
    have := sayB_sy (s := s) h
    obtain ⟨w, p, n⟩ := s
    cases w <;> exact this
def itemsOk : D → Prop
  | .tup l => ∀ x ∈ l, tnOk x
  | _ => True
def sp_is_moment_a : PSp := fun ds t P => ∃ d, ds = [d] ∧ tnOk d ∧ P (.bl (momB d)) t
def sp_is_word_a : PSp := fun ds t P => ∃ d, ds = [d] ∧ tnOk d ∧ (∀ w, d = .str w → w.length ≤ zLen) ∧ P (.bl (telB d)) t
def sp_is_saying_a : PSp := fun ds t P => ∃ d, ds = [d] ∧ tnOk d ∧ itemsOk d ∧ P (.bl (sayB d)) t
structure AnyE (dM dT dW : D) : Prop where
  m : tnOk dM
  t : tnOk dT
  l : ∀ w, dT = .str w → w.length ≤ zLen
  w : tnOk dW
  i : itemsOk dW
def PutE (W : Cl) (a : Addr) (dM dT dW : D) (t : Ts) (P : D → Ts → Prop) (Px : PX) : Prop := ∃ b k es, LoreAt W t.obs a b k es ∧ es.length < 1000 ∧ AnyE dM dT dW ∧ (momB dM = false → Px .BadMoment dM t) ∧ (momB dM = true → telB dT = false → Px .BadTeller dT t) ∧
  (momB dM = true → telB dT = true → whB dW = false → Px .BadSaying (.int 0) t) ∧ ∀ m n w, dM = .int m → dT = .str n → dW = whD w → EOk ⟨m, n, w⟩ → ((∃ f ∈ es, f.m = m) → Px .SameMoment (.int m) t) ∧ ((∀ f ∈ es, f.m ≠ m) → ∀ t', Fr t t' [b] → LoreAt W t'.obs a b k (es ++ [⟨m, n, w⟩]) → P .non t')
def sp_Lore___init__ (W : Cl) : PSpE := fun ds t P Px => ∃ a d, ds = [.adr a, d] ∧ tnOk d ∧ t.obs a = some (.ins W.Lore [] []) ∧ (isBase d = false → Px .BadHouse (.str "k") t) ∧ ∀ k, d = .int k → 2 ≤ k → k ≤ 30 → ∀ b t', t.obs b = none → Fr t t' [a, b] → LoreAt W t'.obs a b k [] → P .non t'
def sp_Lore_put (W : Cl) : PSpE := fun ds t P Px => ∃ a dM dT dW, ds = [.adr a, dM, dT, dW] ∧ PutE W a dM dT dW t P Px
def noBl : D → D
  | .bl _ => .non
  | d => d
def sp_Lore_sees (W : Cl) : PSpE := fun ds t P Px => ∃ a dM dT dW, ds = [.adr a, dM, dT, dW] ∧ tnOk dW ∧ PutE W a dM dT (noBl dW) t P Px
def sp_Lore_leaves (W : Cl) : PSpE := fun ds t P Px => ∃ a dM dT, ds = [.adr a, dM, dT] ∧ PutE W a dM dT (.bl false) t P Px
def sp_Lore_trusts (W : Cl) : PSpE := fun ds t P Px => ∃ a dM dT, ds = [.adr a, dM, dT] ∧ PutE W a dM dT (.bl true) t P Px
def sp_Lore_drop (W : Cl) : PSpE := fun ds t P Px => ∃ a dM, ds = [.adr a, dM] ∧ ∃ b k es, LoreAt W t.obs a b k es ∧ tnOk dM ∧ (momB dM = false → Px .NoEntry dM t) ∧ ∀ m, dM = .int m → 0 ≤ m → ((∀ f ∈ es, f.m ≠ m) → Px .NoEntry (.int m) t) ∧ ((∃ f ∈ es, f.m = m) → ∀ t', Fr t t' [b] → LoreAt W t'.obs a b k (es.filter fun f => !decide (f.m = m)) → P .non t')
/-- an entry told as it is due -/
theorem PutE.of {W : Cl} {a : Addr} {e : Ent} {t : Ts} {P : D → Ts → Prop} {Px : PX} (h : PutS W a e t P) : PutE W a (.int e.m) (.str e.n) (whD e.w) t P Px := by
  obtain ⟨b, k, es, L, eo, hl, hne, hk⟩ := h
  have lw : e.n.length ≤ 12 := by have := eo.n.l2; omega
  have m0 := eo.m0
  have hm : momB (.int e.m) = true := decide_eq_true m0
  have ht : telB (.str e.n) = true := by
    show wdB e.n = true
    unfold wdB
    have h1 := eo.n.l1
    have h2 := eo.n.l2
    simp only [Bool.and_eq_true, decide_eq_true_eq, List.all_eq_true]
    exact ⟨h1, h2, eo.n.s⟩
  have hw := whB_wh eo.w
  refine ⟨b, k, es, L, hl, ⟨⟨_, rfl⟩, ⟨_, rfl⟩, (fun w ew => by cases ew; unfold zLen; omega), ?_, ?_⟩, (fun z => by rw [hm] at z; cases z), (fun _ z => by rw [ht] at z; cases z), (fun _ _ z => by rw [hw] at z; cases z), fun m n w e1 e2 e3 eo' => ?_⟩
  · obtain ⟨m, n, w⟩ := e
    cases w with
    | bl b => exact ⟨_, rfl⟩
    | sy s => obtain ⟨w, p, q⟩ := s; cases w <;> exact ⟨_, rfl⟩
  · obtain ⟨m, n, w⟩ := e
    have it : ∀ x y z : D, tnOk x → tnOk y → tnOk z → ∀ d ∈ [x, y, z], tnOk d := fun x y z h1 h2 h3 d hd => by
      simp only [List.mem_cons, List.not_mem_nil, or_false] at hd
      rcases hd with rfl | rfl | rfl <;> assumption
    cases w with
    | bl b => trivial
    | sy s => obtain ⟨w, p, q⟩ := s; cases w <;> exact it _ _ _ ⟨_, rfl⟩ ⟨_, rfl⟩ ⟨_, rfl⟩
  · cases e1
    cases e2
    have ew : w = e.w := by
      have z := deq_wh e.w w
      rw [← e3, deq_wh, decide_eq_true rfl] at z
      exact (of_decide_eq_true z.symm).symm
    subst ew
    refine ⟨fun ⟨f, hf, hm⟩ => absurd hm (hne f hf), fun _ => hk⟩
theorem len_is_moment_a (as : List D) (t : Ts) (P : D → Ts → Prop) (h : sp_is_moment_a as t P) : as.length = 1 := by first | (obtain ⟨_, rfl, _⟩ := h; rfl) | (obtain ⟨_, _, rfl, _⟩ := h; rfl) | (obtain ⟨_, _, _, rfl, _⟩ := h; rfl) | (obtain ⟨_, _, _, _, rfl, _⟩ := h; rfl) | (obtain ⟨_, _, _, _, _, rfl, _⟩ := h; rfl) | (obtain ⟨_, _, _, _, _, _, rfl, _⟩ := h; rfl) | (obtain ⟨_, _, _, _, _, _, _, rfl, _⟩ := h; rfl) | (obtain ⟨_, _, _, _, _, _, _, _, rfl, _⟩ := h; rfl) | (obtain ⟨_, rfl | rfl, _⟩ := h <;> rfl) | (obtain ⟨_, _, rfl | rfl, _⟩ := h <;> rfl) | (obtain ⟨_, _, _, rfl | rfl, _⟩ := h <;> rfl) | (obtain ⟨_, _, _, _, rfl | rfl, _⟩ := h <;> rfl) | (obtain ⟨_, _, _, _, _, rfl | rfl, _⟩ := h <;> rfl) | (obtain ⟨_, _, _, _, _, _, rfl | rfl, _⟩ := h <;> rfl) | (obtain ⟨_, _, _, _, _, _, _, rfl | rfl, _⟩ := h <;> rfl) | (obtain ⟨_, _, _, _, _, _, _, _, rfl | rfl, _⟩ := h <;> rfl)
theorem len_is_word_a (as : List D) (t : Ts) (P : D → Ts → Prop) (h : sp_is_word_a as t P) : as.length = 1 := by first | (obtain ⟨_, rfl, _⟩ := h; rfl) | (obtain ⟨_, _, rfl, _⟩ := h; rfl) | (obtain ⟨_, _, _, rfl, _⟩ := h; rfl) | (obtain ⟨_, _, _, _, rfl, _⟩ := h; rfl) | (obtain ⟨_, _, _, _, _, rfl, _⟩ := h; rfl) | (obtain ⟨_, _, _, _, _, _, rfl, _⟩ := h; rfl) | (obtain ⟨_, _, _, _, _, _, _, rfl, _⟩ := h; rfl) | (obtain ⟨_, _, _, _, _, _, _, _, rfl, _⟩ := h; rfl) | (obtain ⟨_, rfl | rfl, _⟩ := h <;> rfl) | (obtain ⟨_, _, rfl | rfl, _⟩ := h <;> rfl) | (obtain ⟨_, _, _, rfl | rfl, _⟩ := h <;> rfl) | (obtain ⟨_, _, _, _, rfl | rfl, _⟩ := h <;> rfl) | (obtain ⟨_, _, _, _, _, rfl | rfl, _⟩ := h <;> rfl) | (obtain ⟨_, _, _, _, _, _, rfl | rfl, _⟩ := h <;> rfl) | (obtain ⟨_, _, _, _, _, _, _, rfl | rfl, _⟩ := h <;> rfl) | (obtain ⟨_, _, _, _, _, _, _, _, rfl | rfl, _⟩ := h <;> rfl)
theorem len_is_saying_a (as : List D) (t : Ts) (P : D → Ts → Prop) (h : sp_is_saying_a as t P) : as.length = 1 := by first | (obtain ⟨_, rfl, _⟩ := h; rfl) | (obtain ⟨_, _, rfl, _⟩ := h; rfl) | (obtain ⟨_, _, _, rfl, _⟩ := h; rfl) | (obtain ⟨_, _, _, _, rfl, _⟩ := h; rfl) | (obtain ⟨_, _, _, _, _, rfl, _⟩ := h; rfl) | (obtain ⟨_, _, _, _, _, _, rfl, _⟩ := h; rfl) | (obtain ⟨_, _, _, _, _, _, _, rfl, _⟩ := h; rfl) | (obtain ⟨_, _, _, _, _, _, _, _, rfl, _⟩ := h; rfl) | (obtain ⟨_, rfl | rfl, _⟩ := h <;> rfl) | (obtain ⟨_, _, rfl | rfl, _⟩ := h <;> rfl) | (obtain ⟨_, _, _, rfl | rfl, _⟩ := h <;> rfl) | (obtain ⟨_, _, _, _, rfl | rfl, _⟩ := h <;> rfl) | (obtain ⟨_, _, _, _, _, rfl | rfl, _⟩ := h <;> rfl) | (obtain ⟨_, _, _, _, _, _, rfl | rfl, _⟩ := h <;> rfl) | (obtain ⟨_, _, _, _, _, _, _, rfl | rfl, _⟩ := h <;> rfl) | (obtain ⟨_, _, _, _, _, _, _, _, rfl | rfl, _⟩ := h <;> rfl)
theorem len_Lore___init__ (W : Cl) (as : List D) (t : Ts) (P : D → Ts → Prop) (Px : PX) (h : sp_Lore___init__ W as t P Px) : as.length = 2 := by first | (obtain ⟨_, rfl, _⟩ := h; rfl) | (obtain ⟨_, _, rfl, _⟩ := h; rfl) | (obtain ⟨_, _, _, rfl, _⟩ := h; rfl) | (obtain ⟨_, _, _, _, rfl, _⟩ := h; rfl) | (obtain ⟨_, _, _, _, _, rfl, _⟩ := h; rfl) | (obtain ⟨_, _, _, _, _, _, rfl, _⟩ := h; rfl) | (obtain ⟨_, _, _, _, _, _, _, rfl, _⟩ := h; rfl) | (obtain ⟨_, _, _, _, _, _, _, _, rfl, _⟩ := h; rfl)
theorem len_Lore_put (W : Cl) (as : List D) (t : Ts) (P : D → Ts → Prop) (Px : PX) (h : sp_Lore_put W as t P Px) : as.length = 4 := by first | (obtain ⟨_, rfl, _⟩ := h; rfl) | (obtain ⟨_, _, rfl, _⟩ := h; rfl) | (obtain ⟨_, _, _, rfl, _⟩ := h; rfl) | (obtain ⟨_, _, _, _, rfl, _⟩ := h; rfl) | (obtain ⟨_, _, _, _, _, rfl, _⟩ := h; rfl) | (obtain ⟨_, _, _, _, _, _, rfl, _⟩ := h; rfl) | (obtain ⟨_, _, _, _, _, _, _, rfl, _⟩ := h; rfl) | (obtain ⟨_, _, _, _, _, _, _, _, rfl, _⟩ := h; rfl)
theorem len_Lore_sees (W : Cl) (as : List D) (t : Ts) (P : D → Ts → Prop) (Px : PX) (h : sp_Lore_sees W as t P Px) : as.length = 4 := by first | (obtain ⟨_, rfl, _⟩ := h; rfl) | (obtain ⟨_, _, rfl, _⟩ := h; rfl) | (obtain ⟨_, _, _, rfl, _⟩ := h; rfl) | (obtain ⟨_, _, _, _, rfl, _⟩ := h; rfl) | (obtain ⟨_, _, _, _, _, rfl, _⟩ := h; rfl) | (obtain ⟨_, _, _, _, _, _, rfl, _⟩ := h; rfl) | (obtain ⟨_, _, _, _, _, _, _, rfl, _⟩ := h; rfl) | (obtain ⟨_, _, _, _, _, _, _, _, rfl, _⟩ := h; rfl)
theorem len_Lore_leaves (W : Cl) (as : List D) (t : Ts) (P : D → Ts → Prop) (Px : PX) (h : sp_Lore_leaves W as t P Px) : as.length = 3 := by first | (obtain ⟨_, rfl, _⟩ := h; rfl) | (obtain ⟨_, _, rfl, _⟩ := h; rfl) | (obtain ⟨_, _, _, rfl, _⟩ := h; rfl) | (obtain ⟨_, _, _, _, rfl, _⟩ := h; rfl) | (obtain ⟨_, _, _, _, _, rfl, _⟩ := h; rfl) | (obtain ⟨_, _, _, _, _, _, rfl, _⟩ := h; rfl) | (obtain ⟨_, _, _, _, _, _, _, rfl, _⟩ := h; rfl) | (obtain ⟨_, _, _, _, _, _, _, _, rfl, _⟩ := h; rfl)
theorem len_Lore_trusts (W : Cl) (as : List D) (t : Ts) (P : D → Ts → Prop) (Px : PX) (h : sp_Lore_trusts W as t P Px) : as.length = 3 := by first | (obtain ⟨_, rfl, _⟩ := h; rfl) | (obtain ⟨_, _, rfl, _⟩ := h; rfl) | (obtain ⟨_, _, _, rfl, _⟩ := h; rfl) | (obtain ⟨_, _, _, _, rfl, _⟩ := h; rfl) | (obtain ⟨_, _, _, _, _, rfl, _⟩ := h; rfl) | (obtain ⟨_, _, _, _, _, _, rfl, _⟩ := h; rfl) | (obtain ⟨_, _, _, _, _, _, _, rfl, _⟩ := h; rfl) | (obtain ⟨_, _, _, _, _, _, _, _, rfl, _⟩ := h; rfl)
theorem len_Lore_drop (W : Cl) (as : List D) (t : Ts) (P : D → Ts → Prop) (Px : PX) (h : sp_Lore_drop W as t P Px) : as.length = 2 := by first | (obtain ⟨_, rfl, _⟩ := h; rfl) | (obtain ⟨_, _, rfl, _⟩ := h; rfl) | (obtain ⟨_, _, _, rfl, _⟩ := h; rfl) | (obtain ⟨_, _, _, _, rfl, _⟩ := h; rfl) | (obtain ⟨_, _, _, _, _, rfl, _⟩ := h; rfl) | (obtain ⟨_, _, _, _, _, _, rfl, _⟩ := h; rfl) | (obtain ⟨_, _, _, _, _, _, _, rfl, _⟩ := h; rfl) | (obtain ⟨_, _, _, _, _, _, _, _, rfl, _⟩ := h; rfl)
def d_is_moment_a : DS := (dSeq (dRet (dAndV (dCall sp_is_whole [] (dCons (dVar 0) dNil)) (dOp oGe (dVar 0) (dC (.int 0))))) dNext)
def d_is_word_a : DS := (dSeq (dRet (dAndV (dIsi [.str] (dVar 0)) (dAndV (dChain oLt oLt (dC (.int 0)) (dCB bLen (dCons (dVar 0) dNil)) (dC (.int 13))) (dCB bAll (dCons (dLc [1] (iStrD (dVar 0)) (gName 1) dYes (dOp oInS (dVar 1) (dC (.str "abcdefghijklmnopqrstuvwxyz")))) dNil))))) dNext)
def d_is_saying_a : DS := (dSeq (dIf (dOr (dNot (dB (dIsi [.tup] (dVar 0)))) (dOr (dB (dOp oNe (dCB bLen (dCons (dVar 0) dNil)) (dC (.int 3)))) (dNot (dB (dIsi [.str] (dOp oIx (dVar 0) (dC (.int 0)))))))) (dSeq (dRet (dC (.bl false))) dNext) dNext) (dSeq (dRet (dAndV (dOp oInT (dOp oIx (dVar 0) (dC (.int 0))) (dTup (dCons (dC (.str "at most")) (dCons (dC (.str "at least")) dNil)))) (dAndV (dCall sp_is_count [] (dCons (dOp oIx (dVar 0) (dC (.int 1))) dNil)) (dCall sp_is_count [] (dCons (dOp oIx (dVar 0) (dC (.int 2))) dNil))))) dNext))
def d_Lore___init__ (W : Cl) (Px : PX) : DS := (dSeq (dIf (dNot (dB (dCallO sp_is_base [] (dCons (dVar 1) dNil)))) (dSeq (dRaiseE .BadHouse Px (dCons (dC (.str "k")) dNil)) dNext) dNext) (dSeq (dSetO W.Lore "kept_base" (dVar 1) (dVar 0)) (dSeq (dSetO W.Lore "kept" (dReg (dC (.dic [] []))) (dVar 0)) dNext)))
def d_Lore_put (W : Cl) (Px : PX) : DS := (dSeq (dIf (dNot (dB (dCallO sp_is_moment_a [] (dCons (dVar 1) dNil)))) (dSeq (dRaiseE .BadMoment Px (dCons (dVar 1) dNil)) dNext) dNext) (dSeq (dIf (dNot (dB (dCallO sp_is_word_a [] (dCons (dVar 2) dNil)))) (dSeq (dRaiseE .BadTeller Px (dCons (dVar 2) dNil)) dNext) dNext) (dSeq (dIf (dAnd (dNot (dB (dIsi [.bl] (dVar 3)))) (dNot (dB (dCallO sp_is_saying_a [] (dCons (dVar 3) dNil))))) (dSeq (dRaiseE .BadSaying Px (dCons (dC (.int 0)) dNil)) dNext) dNext) (dSeq (dIf (dB (dInO false (dVar 1) (dFldO W.Lore "kept" (dVar 0)))) (dSeq (dRaiseE .SameMoment Px (dCons (dVar 1) dNil)) dNext) dNext) (dSeq (dPutO (dFldO W.Lore "kept" (dVar 0)) (dVar 1) (dTup (dCons (dVar 1) (dCons (dVar 2) (dCons (dVar 3) dNil))))) dNext)))))
def d_Lore_sees (W : Cl) (Px : PX) : DS := (dSeq (dDrop (dXE (zMeth W.Lore "put" (sp_Lore_put W) (dVar 0) (dCons (dVar 1) (dCons (dVar 2) (dCons (dIfE (dB (dIsi [.bl] (dVar 3))) (dC .non) (dVar 3)) dNil)))) Px)) dNext)
def d_Lore_leaves (W : Cl) (Px : PX) : DS := (dSeq (dDrop (dXE (zMeth W.Lore "put" (sp_Lore_put W) (dVar 0) (dCons (dVar 1) (dCons (dVar 2) (dCons (dC (.bl false)) dNil)))) Px)) dNext)
def d_Lore_trusts (W : Cl) (Px : PX) : DS := (dSeq (dDrop (dXE (zMeth W.Lore "put" (sp_Lore_put W) (dVar 0) (dCons (dVar 1) (dCons (dVar 2) (dCons (dC (.bl true)) dNil)))) Px)) dNext)
def d_Lore_drop (W : Cl) (Px : PX) : DS := (dSeq (dIf (dOr (dNot (dB (dCallO sp_is_moment_a [] (dCons (dVar 1) dNil)))) (dB (dInO true (dVar 1) (dFldO W.Lore "kept" (dVar 0))))) (dSeq (dRaiseE .NoEntry Px (dCons (dVar 1) dNil)) dNext) dNext) (dSeq (dDelO (dFldO W.Lore "kept" (dVar 0)) (dVar 1)) dNext))
theorem d_is_moment_a_ok (as : List D) (t : Ts) (P : D → Ts → Prop) (h : sp_is_moment_a as t P) : d_is_moment_a (endsOf P) (start0 ["thing"] as) t := by
  obtain ⟨d, rfl, hn, k⟩ := h
  conv => whnf
  refine ⟨d, rfl, hn, ?_⟩
  cases d <;> exact k
theorem ltrs_dec (c : Nat) : decide (c ∈ ltrs.cps.toList) = decide (Lt c) := by
  rw [decide_eq_decide]
  refine ⟨fun h => ?_, lt_mem⟩
  rw [ltrs_is, List.mem_map] at h
  obtain ⟨x, hx, rfl⟩ := h
  rw [List.mem_range] at hx
  unfold Lt
  omega
theorem d_is_word_a_ok (as : List D) (t : Ts) (P : D → Ts → Prop) (h : sp_is_word_a as t P) : d_is_word_a (endsOf P) (start0 ["thing", "sign"] as) t := by
  obtain ⟨d, rfl, ⟨n, hn⟩, hl, k⟩ := h
  cases d with
  | str w =>
    have hl := hl w rfl
    have e : telB (.str w) = (decide (0 < w.length) && (decide (w.length < 13) && w.cps.toList.all fun c => decide (Lt c))) := rfl
    rw [e] at k
    conv => whnf
    refine ⟨hl, ?_⟩
    conv => whnf
    by_cases h1 : 0 < w.length
    · rw [decide_eq_true h1] at k
      rw [decide_eq_true (show (0 : Int) < (w.length : Int) by omega)]
      conv => whnf
      by_cases h2 : w.length < 13
      · rw [decide_eq_true h2] at k
        rw [decide_eq_true (show (w.length : Int) < 13 by omega)]
        conv => whnf
        refine lc_idx (fun i => .bl (decide (Lt (w.cps.toList.getD i 0)))) (by rw [List.length_map, len_toList]; unfold zLen; omega) (fun i x hx Qy q => ?_) ?_
        · rw [List.getElem?_map] at hx
          cases hc : w.cps.toList[i]? with
          | none => rw [hc] at hx; cases hx
          | some c =>
            rw [hc] at hx
            cases hx
            refine ⟨rfl, ?_⟩
            conv => whnf
            refine ⟨c, rfl, ?_⟩
            rw [show (("abcdefghijklmnopqrstuvwxyz" : Str)) = ltrs from rfl, ltrs_dec]
            have q : Qy (.bl (decide (Lt (w.cps.toList.getD i 0)))) t := q
            rw [getD_some hc] at q
            exact q
        · refine ⟨_, bls_gen (fun i => decide (Lt (w.cps.toList.getD i 0))) _, ?_⟩
          have e2 : ((List.range ((w.cps.toList.map fun c => D.str (sg c)).length)).map fun i => decide (Lt (w.cps.toList.getD i 0))).all id = w.cps.toList.all fun c => decide (Lt c) := by
            rw [List.length_map, List.all_map, Bool.eq_iff_iff, List.all_eq_true, List.all_eq_true]
            constructor
            · intro hh c hc
              obtain ⟨i, hi, rfl⟩ := List.getElem_of_mem hc
              have := hh i (List.mem_range.mpr hi)
              have e3 : w.cps.toList.getD i 0 = w.cps.toList[i] := getD_some (List.getElem?_eq_getElem hi)
              have this : decide (Lt (w.cps.toList.getD i 0)) = true := this
              rwa [e3] at this
            · intro hh i hi
              have hi := List.mem_range.mp hi
              have e3 : w.cps.toList.getD i 0 = w.cps.toList[i] := getD_some (List.getElem?_eq_getElem hi)
              show decide (Lt (w.cps.toList.getD i 0)) = true
              rw [e3]
              exact hh _ (List.getElem_mem hi)
          rw [e2]
          exact k
      · rw [decide_eq_false h2] at k
        rw [decide_eq_false (show ¬ (w.length : Int) < 13 by omega)]
        conv => whnf
        exact k
    · rw [decide_eq_false h1] at k
      rw [decide_eq_false (show ¬ (0 : Int) < (w.length : Int) by omega)]
      conv => whnf
      exact k
  | _ => first | (cases hn; done) | exact k
theorem bd_any (w : Str) : ([("at most" : Str), "at least"].any fun z => z == w) = isBd (.str w) := by
  show (("at most" == w) || (("at least" == w) || false)) = (decide (w = "at most") || decide (w = "at least"))
  rw [Bool.or_false, Bool.eq_iff_iff]
  simp only [Bool.or_eq_true, beq_iff_eq, decide_eq_true_eq]
  exact ⟨fun h => h.imp Eq.symm Eq.symm, fun h => h.imp Eq.symm Eq.symm⟩
theorem d_is_saying_a_ok (as : List D) (t : Ts) (P : D → Ts → Prop) (h : sp_is_saying_a as t P) : d_is_saying_a (endsOf P) (start0 ["thing"] as) t := by
  obtain ⟨d, rfl, ⟨n, hn⟩, hi, k⟩ := h
  cases d with
  | tup l =>
    match l, hi, k with
    | [a, b, c], hi, k =>
      have hb : tnOk b := hi b (by simp)
      have hc : tnOk c := hi c (by simp)
      obtain ⟨na, ha⟩ : tnOk a := hi a (by simp)
      have k : P (.bl (isBd a && (isCount b && isCount c))) t := k
      conv => whnf
      refine ⟨a, rfl, ?_⟩
      cases a with
      | str w =>
        conv => whnf
        refine ⟨_, rfl, ?_⟩
        conv => whnf
        refine ⟨[("at most" : Str), "at least"], rfl, ?_⟩
        rw [bd_any]
        cases hw : isBd (.str w) with
        | false =>
          rw [hw] at k
          conv => whnf
          exact k
        | true =>
          rw [hw] at k
          conv => whnf
          refine ⟨b, rfl, ?_⟩
          refine ⟨b, rfl, hb, ?_⟩
          cases hB : isCount b with
          | false =>
            rw [hB] at k
            conv => whnf
            exact k
          | true =>
            rw [hB] at k
            conv => whnf
            refine ⟨c, rfl, ?_⟩
            exact ⟨c, rfl, hc, k⟩
      | _ => first | (cases ha; done) | exact k
    | [], hi, k =>
      conv => whnf
      exact k
    | [_], hi, k =>
      conv => whnf
      exact k
    | [_, _], hi, k =>
      conv => whnf
      exact k
    | _ :: _ :: _ :: _ :: r, hi, k =>
      conv => whnf
      exact k
  | _ => first | (cases hn; done) | exact k
theorem d_Lore___init___ok (W : Cl) (as : List D) (t : Ts) (P : D → Ts → Prop) (Px : PX) (h : sp_Lore___init__ W as t P Px) : d_Lore___init__ W Px (endsOf P) (start0 ["self", "k"] as) t := by
  obtain ⟨a, d, rfl, hn, hA, kx, k⟩ := h
  conv => whnf
  refine ⟨d, rfl, hn, ?_⟩
  cases hb : isBase d with
  | false =>
    conv => whnf
    exact kx hb
  | true =>
    obtain ⟨k0, rfl, k2⟩ : ∃ k0, d = .int k0 ∧ 2 ≤ k0 ∧ k0 ≤ 30 := by
      cases d with
      | int i => exact ⟨i, rfl, of_decide_eq_true hb⟩
      | _ => cases hb
    have k := k k0 rfl k2.1 k2.2
    conv => whnf
    refine ⟨[], [], hA, by decide, rfl, ?_⟩
    conv => whnf
    refine ⟨rfl, fun b hb => ?_⟩
    conv => whnf
    have nb : b ≠ a := fun z => by
      rw [z] at hb
      have := hb
      rw [Ts.put_same] at this
      cases this
    have hb2 : t.obs b = none := by
      have := hb
      rwa [Ts.put_ne _ _ nb] at this
    refine ⟨["kept_base"], [.int k0], by rw [Ts.put_ne _ _ (Ne.symm nb)]; exact Ts.put_same .., by decide, rfl, ?_⟩
    conv => whnf
    refine k b _ hb2 ?_ ⟨Ts.put_same .., ?_⟩
    · exact (((Fr.refl t [a, b]).put (List.mem_cons_self ..)).put (List.mem_cons_of_mem _ (List.mem_cons_self ..))).put (List.mem_cons_self ..)
    · rw [Ts.put_ne _ _ nb]
      exact Ts.put_same ..
theorem getL_any {m : Int} : ∀ {l : List Ent}, (getL (kysE l) (l.map entD) (.inl m)).isSome = l.any fun f => decide (f.m = m)
  | [] => rfl
  | e :: l => by
    show (if (Sum.inl e.m : Ky) = .inl m then some (entD e) else getL (kysE l) (l.map entD) (.inl m)).isSome = (decide (e.m = m) || l.any fun f => decide (f.m = m))
    by_cases h : e.m = m
    · rw [if_pos (by rw [h]), decide_eq_true h]
      rfl
    · rw [if_neg (fun z => h (Sum.inl.inj z)), decide_eq_false h, getL_any]
      rfl
theorem del_fil {m : Int} : ∀ {l : List Ent}, delKs (.inl m) (kysE l) (l.map entD) = kysE (l.filter fun f => !decide (f.m = m)) ∧ delL (.inl m) (kysE l) (l.map entD) = (l.filter fun f => !decide (f.m = m)).map entD
  | [] => ⟨rfl, rfl⟩
  | e :: l => by
    obtain ⟨h1, h2⟩ := del_fil (m := m) (l := l)
    rw [List.filter_cons]
    by_cases h : e.m = m
    · rw [decide_eq_true h]
      refine ⟨?_, ?_⟩
      · show (if (Sum.inl e.m : Ky) = .inl m then _ else _ :: delKs _ _ _) = _
        rw [if_pos (by rw [h])]
        exact h1
      · show (if (Sum.inl e.m : Ky) = .inl m then _ else _ :: delL _ _ _) = _
        rw [if_pos (by rw [h])]
        exact h2
    · rw [decide_eq_false h]
      refine ⟨?_, ?_⟩
      · show (if (Sum.inl e.m : Ky) = .inl m then _ else _ :: delKs _ _ _) = _
        rw [if_neg (fun z => h (Sum.inl.inj z))]
        exact congrArg _ h1
      · show (if (Sum.inl e.m : Ky) = .inl m then _ else _ :: delL _ _ _) = _
        rw [if_neg (fun z => h (Sum.inl.inj z))]
        exact congrArg _ h2
theorem d_Lore_put_ok (W : Cl) (as : List D) (t : Ts) (P : D → Ts → Prop) (Px : PX) (h : sp_Lore_put W as t P Px) : d_Lore_put W Px (endsOf P) (start0 ["self", "moment", "teller", "what"] as) t := by
  obtain ⟨a, dM, dT, dW, rfl, b, k0, es, L, hl, A, x1, x2, x3, kk⟩ := h
  conv => whnf
  refine ⟨dM, rfl, A.m, ?_⟩
  cases hm : momB dM with
  | false =>
    conv => whnf
    exact x1 hm
  | true =>
    obtain ⟨m, rfl, m0⟩ := momB_ok hm
    conv => whnf
    refine ⟨dT, rfl, A.t, A.l, ?_⟩
    cases ht : telB dT with
    | false =>
      conv => whnf
      exact x2 hm ht
    | true =>
      obtain ⟨n, rfl, hn⟩ := telB_ok ht
      have fin : ∀ w : Wh, dW = whD w → w.Ok → ((dSeq (dIf (dB (dInO false (dVar 1) (dFldO W.Lore "kept" (dVar 0)))) (dSeq (dRaiseE .SameMoment Px (dCons (dVar 1) dNil)) dNext) dNext) (dSeq (dPutO (dFldO W.Lore "kept" (dVar 0)) (dVar 1) (dTup (dCons (dVar 1) (dCons (dVar 2) (dCons (dVar 3) dNil))))) dNext))) (endsOf P) [.val (.adr a), .val (.int m), .val (.str n), .val (whD w)] t := fun w ew hw => by
        obtain ⟨y1, y2⟩ := kk m n w rfl rfl ew ⟨m0, hn, hw⟩
        conv => whnf
        refine ⟨_, _, _, L.A, rfl, ?_⟩
        conv => whnf
        refine ⟨_, _, L.B, ?_⟩
        conv => whnf
        rw [getL_any]
        by_cases he : ∃ f ∈ es, f.m = m
        · rw [List.any_eq_true.mpr (by obtain ⟨f, hf, hm⟩ := he; exact ⟨f, hf, decide_eq_true hm⟩)]
          conv => whnf
          exact y1 he
        · have he2 : ∀ f ∈ es, f.m ≠ m := fun f hf z => he ⟨f, hf, z⟩
          rw [List.any_eq_false.mpr (fun f hf z => he2 f hf (of_decide_eq_true z))]
          conv => whnf
          refine ⟨_, _, _, L.A, rfl, ?_⟩
          conv => whnf
          refine ⟨_, _, L.B, ?_⟩
          conv => whnf
          refine ⟨⟨by show (kysE es).length < _; unfold kysE; rw [List.length_map]; unfold zLen; omega, nopen_ent m n w⟩, ?_⟩
          conv => whnf
          have e1 : putKs (kysE es) (.inl m) = kysE (es ++ [⟨m, n, w⟩]) := by
            unfold putKs
            rw [hasK_none he2]
            simp [kysE]
          have e2 : putL (kysE es) (es.map entD) (.inl m) (.tup [.int m, .str n, whD w]) = (es ++ [(⟨m, n, w⟩ : Ent)]).map entD := by
            unfold putL
            rw [hasK_none he2]
            rw [List.map_append]
            rfl
          rw [e1, e2]
          refine y2 he2 _ ((Fr.refl t [b]).put (List.mem_cons_self ..)) ⟨?_, Ts.put_same ..⟩
          rw [Ts.put_ne _ _ L.ne]
          exact L.A
      obtain ⟨nw, hnw⟩ := A.w
      conv => whnf
      cases hw : whB dW with
      | true =>
        obtain ⟨w, rfl, ow⟩ := whB_ok hw
        cases w with
        | bl c => exact fin (.bl c) rfl ow
        | sy s =>
          have fi := fin (.sy s) rfl ow
          have sb := sayB_sy (s := s) ow
          have Aw := A.w
          have Ai := A.i
          have ew : whD (.sy s) = syD s := rfl
          rw [ew] at Aw Ai fi ⊢
          generalize hd : syD s = d at sb Aw Ai fi ⊢
          cases d with
          | tup l =>
            conv => whnf
            refine ⟨_, rfl, Aw, Ai, ?_⟩
            rw [sb]
            exact fi
          | _ => obtain ⟨w, p, q⟩ := s; cases w <;> cases hd
      | false =>
        have x9 := x3 hm ht hw
        cases dW with
        | bl c => cases hw
        | tup l =>
          conv => whnf
          refine ⟨_, rfl, A.w, A.i, ?_⟩
          have hw : sayB (.tup l) = false := hw
          rw [hw]
          conv => whnf
          exact x9
        | non =>
          conv => whnf
          exact ⟨_, rfl, A.w, A.i, x9⟩
        | int i =>
          conv => whnf
          exact ⟨_, rfl, A.w, A.i, x9⟩
        | str i =>
          conv => whnf
          exact ⟨_, rfl, A.w, A.i, x9⟩
        | lst i =>
          conv => whnf
          exact ⟨_, rfl, A.w, A.i, x9⟩
        | dic i j =>
          conv => whnf
          exact ⟨_, rfl, A.w, A.i, x9⟩
        | _ => cases hnw
theorem d_Lore_leaves_ok (W : Cl) (as : List D) (t : Ts) (P : D → Ts → Prop) (Px : PX) (h : sp_Lore_leaves W as t P Px) : d_Lore_leaves W Px (endsOf P) (start0 ["self", "moment", "teller"] as) t := by
  obtain ⟨a, dM, dT, rfl, h⟩ := h
  obtain ⟨b, k, es, L, h2⟩ := h
  conv => whnf
  refine ⟨_, _, L.A, rfl, ?_⟩
  exact ⟨a, dM, dT, _, rfl, b, k, es, L, h2⟩
theorem d_Lore_trusts_ok (W : Cl) (as : List D) (t : Ts) (P : D → Ts → Prop) (Px : PX) (h : sp_Lore_trusts W as t P Px) : d_Lore_trusts W Px (endsOf P) (start0 ["self", "moment", "teller"] as) t := by
  obtain ⟨a, dM, dT, rfl, h⟩ := h
  obtain ⟨b, k, es, L, h2⟩ := h
  conv => whnf
  refine ⟨_, _, L.A, rfl, ?_⟩
  exact ⟨a, dM, dT, _, rfl, b, k, es, L, h2⟩
theorem d_Lore_sees_ok (W : Cl) (as : List D) (t : Ts) (P : D → Ts → Prop) (Px : PX) (h : sp_Lore_sees W as t P Px) : d_Lore_sees W Px (endsOf P) (start0 ["self", "moment", "teller", "saying"] as) t := by
  obtain ⟨a, dM, dT, dW, rfl, ⟨nw, hnw⟩, h⟩ := h
  obtain ⟨b, k, es, L, h2⟩ := h
  conv => whnf
  refine ⟨_, _, L.A, rfl, ?_⟩
  cases dW with
  | bl c =>
    conv => whnf
    exact ⟨a, dM, dT, _, rfl, b, k, es, L, h2⟩
  | tup i =>
    conv => whnf
    exact ⟨a, dM, dT, _, rfl, b, k, es, L, h2⟩
  | non =>
    conv => whnf
    exact ⟨a, dM, dT, _, rfl, b, k, es, L, h2⟩
  | int i =>
    conv => whnf
    exact ⟨a, dM, dT, _, rfl, b, k, es, L, h2⟩
  | str i =>
    conv => whnf
    exact ⟨a, dM, dT, _, rfl, b, k, es, L, h2⟩
  | lst i =>
    conv => whnf
    exact ⟨a, dM, dT, _, rfl, b, k, es, L, h2⟩
  | dic i j =>
    conv => whnf
    exact ⟨a, dM, dT, _, rfl, b, k, es, L, h2⟩
  | _ => cases hnw
theorem d_Lore_drop_ok (W : Cl) (as : List D) (t : Ts) (P : D → Ts → Prop) (Px : PX) (h : sp_Lore_drop W as t P Px) : d_Lore_drop W Px (endsOf P) (start0 ["self", "moment"] as) t := by
  obtain ⟨a, dM, rfl, b, k0, es, L, hn, x1, kk⟩ := h
  conv => whnf
  refine ⟨dM, rfl, hn, ?_⟩
  cases hm : momB dM with
  | false =>
    conv => whnf
    exact x1 hm
  | true =>
    obtain ⟨m, rfl, m0⟩ := momB_ok hm
    obtain ⟨y1, y2⟩ := kk m rfl m0
    conv => whnf
    refine ⟨_, _, _, L.A, rfl, ?_⟩
    conv => whnf
    refine ⟨_, _, L.B, ?_⟩
    conv => whnf
    have ga := getL_any (m := m) (l := es)
    rw [ga]
    by_cases he : ∃ f ∈ es, f.m = m
    · have ha := List.any_eq_true.mpr (by obtain ⟨f, hf, hm⟩ := he; exact ⟨f, hf, decide_eq_true hm⟩ : ∃ f ∈ es, decide (f.m = m) = true)
      rw [ha] at ga ⊢
      conv => whnf
      refine ⟨_, _, _, L.A, rfl, ?_⟩
      conv => whnf
      refine ⟨_, _, L.B, ga, ?_⟩
      rw [del_fil.1, del_fil.2]
      refine y2 he _ ((Fr.refl t [b]).put (List.mem_cons_self ..)) ⟨?_, Ts.put_same ..⟩
      rw [Ts.put_ne _ _ L.ne]
      exact L.A
    · have he2 : ∀ f ∈ es, f.m ≠ m := fun f hf z => he ⟨f, hf, z⟩
      rw [List.any_eq_false.mpr (fun f hf z => he2 f hf (of_decide_eq_true z))]
      conv => whnf
      exact y1 he2
end Q
/-! MTxt -/
namespace Q
open PySem
/-! ### texts of numbers, split and joined -/
abbrev tl (x : Str) : List Nat := x.cps.toList
theorem tl_ext {x y : Str} (h : tl x = tl y) : x = y := Str.ext' (Array.toList_inj.mp h)
theorem tl_app (x y : Str) : tl (x ++ y) = tl x ++ tl y := by
  show (x ++ y).cps.toList = _
  rw [Str.cps_append, Array.toList_append]
/-- the text of a number from 0 on -/
abbrev nt (i : Int) : Str := Str.ofString (toString i)
theorem tl_nt {i : Int} (h : 0 ≤ i) : tl (nt i) = TL.numL i.toNat := by
  obtain ⟨n, rfl⟩ := Int.eq_ofNat_of_zero_le h
  exact TL.tl_num n
/-- a sign that is a figure -/
def fgB (c : Nat) : Bool := decide (48 ≤ c) && decide (c ≤ 57)
def figB (l : List Nat) : Bool := decide (0 < l.length) && (decide (l.length ≤ 200) && (l.all fgB && (l == [48] || !(l.head? == some 48))))
def figV (l : List Nat) : Int := ((NumText.digitsVal l : Nat) : Int)
def figO (l : List Nat) : Option Int := if figB l = true then some (figV l) else none
theorem figs_is : (("0123456789" : Str)).cps.toList = (List.range 10).map (48 + ·) := by decide +kernel
theorem figs_mem (c : Nat) : decide (c ∈ (("0123456789" : Str)).cps.toList) = fgB c := by
  rw [figs_is]
  unfold fgB
  rw [← Bool.decide_and, decide_eq_decide]
  simp only [List.mem_map, List.mem_range]
  constructor
  · rintro ⟨a, ha, rfl⟩
    omega
  · rintro ⟨h1, h2⟩
    exact ⟨c - 48, by omega, by omega⟩
theorem numL_fg {n : Nat} : (TL.numL n).all fgB = true := by
  rw [List.all_eq_true]
  intro c hc
  have := TL.numL_digits n c hc
  unfold fgB
  rw [← Bool.decide_and, decide_eq_true_eq]
  exact this
theorem numL_head : ∀ n : Nat, 1 ≤ n → (TL.numL n).head? ≠ some 48 := by
  intro n
  induction n using Nat.strongRecOn with
  | _ n ih =>
    intro h1
    by_cases h : n < 10
    · rw [TL.numL_lt h]
      simp
      omega
    · rw [TL.numL_step (by omega)]
      have hd := ih (n / 10) (by omega) (by omega)
      have ne := TL.numL_ne (n / 10)
      cases hq : TL.numL (n / 10) with
      | nil => exact absurd hq ne
      | cons a r => rw [hq] at hd; simpa using hd
theorem numL_zero : TL.numL 0 = [48] := TL.numL_lt (by decide)
theorem numL_len {n k : Nat} (hk : 0 < k) (h : n < 10 ^ k) : (TL.numL n).length ≤ k := TL.numL_len hk h
theorem figO_num {n : Nat} (h : (TL.numL n).length ≤ 200) : figO (TL.numL n) = some (n : Int) := by
  have e : figB (TL.numL n) = true := by
    unfold figB
    have l1 := List.length_pos_iff.mpr (TL.numL_ne n)
    rw [decide_eq_true l1, decide_eq_true h, numL_fg]
    simp only [Bool.true_and, Bool.or_eq_true, beq_iff_eq, Bool.not_eq_true', beq_eq_false_iff_ne]
    rcases Nat.eq_zero_or_pos n with z | z
    · left; rw [z]; exact numL_zero
    · right; exact numL_head n z
  unfold figO
  rw [if_pos e]
  unfold figV
  rw [TL.numL_val]
theorem int_fig {w : Str} (h : figB (tl w) = true) : intText? w = some (figV (tl w)) := by
  unfold figB at h
  simp only [Bool.and_eq_true, decide_eq_true_eq] at h
  obtain ⟨h1, h2, h3, _⟩ := h
  refine intText_digits (x := w) (fun c hc => ?_) (List.length_pos_iff.mp h1) (by rw [TL.len_tl]; show (tl w).length ≤ 4300; omega)
  have := List.all_eq_true.mp h3 c hc
  unfold fgB at this
  simpa using this
theorem nt_len {i : Int} {k : Nat} (h0 : 0 ≤ i) (hk : 0 < k) (h : i < 10 ^ k) : (nt i).length ≤ k := by
  rw [TL.len_tl]
  show (tl (nt i)).length ≤ k
  rw [tl_nt h0]
  refine numL_len hk ?_
  have e : ((10 : Int) ^ k) = ((10 ^ k : Nat) : Int) := by simp
  omega
theorem joinC_is (z : Str) : ∀ ss : List Str, joinC z ss = TL.joinL (tl z) (ss.map tl)
  | [] => rfl
  | [_] => rfl
  | x :: y :: r => by
    show tl x ++ tl z ++ joinC z (y :: r) = tl x ++ (tl z ++ TL.joinL (tl z) ((y :: r).map tl))
    rw [joinC_is z (y :: r), List.append_assoc]
/-- words, parted by a blank -/
def blW (ws : List Str) : Str := ⟨(joinC " " ws).toArray⟩
theorem tl_blank : tl ((" " : Str)) = [32] := by decide +kernel
theorem split_bl {ws : List Str} (hne : ws ≠ []) (h : ∀ w ∈ ws, 32 ∉ tl w) : Txt.split (blW ws) " " = ws := by
  have e : blW ws = Txt.join " " ws := by
    refine tl_ext ?_
    rw [TL.join_eq]
    exact (joinC_is " " ws).trans (TL.tl_join " " ws).symm
  rw [e]
  exact TL.split_join tl_blank (by decide +kernel) hne h
theorem tl_bl1 (ws : List Str) : tl (blW ws) = TL.joinL [32] (ws.map tl) := by
  show joinC " " ws = _
  rw [joinC_is, tl_blank]
theorem blW_cons (x y : Str) (r : List Str) : blW (x :: y :: r) = x ++ " " ++ blW (y :: r) := by
  refine tl_ext ?_
  rw [tl_app, tl_app, tl_bl1, tl_bl1, tl_blank]
  show tl x ++ ([32] ++ TL.joinL [32] ((y :: r).map tl)) = _
  rw [List.append_assoc]
theorem blW_one (x : Str) : blW [x] = x := tl_ext rfl
theorem app_nil (x : Str) : Str.empty ++ x = x := tl_ext (by rw [tl_app]; rfl)
theorem len_app (x y : Str) : (x ++ y).length = x.length + y.length := by
  rw [← len_toList, ← len_toList, ← len_toList, show (x ++ y).cps.toList = tl x ++ tl y from tl_app x y, List.length_append]
theorem blW_len : ∀ ws : List Str, (blW ws).length ≤ (ws.map (·.length + 1)).sum
  | [] => Nat.zero_le _
  | [x] => by rw [blW_one]; simp
  | x :: y :: r => by
    rw [blW_cons, len_app, len_app]
    have := blW_len (y :: r)
    simp only [List.map_cons, List.sum_cons] at this ⊢
    have e : ((" " : Str)).length = 1 := by decide +kernel
    omega
theorem lens_le {ws : List Str} {c : Nat} (h : ∀ w ∈ ws, w.length ≤ c) : (ws.map (·.length + 1)).sum ≤ (c + 1) * ws.length ∧ (ws.map (·.length)).sum ≤ c * ws.length := by
  induction ws with
  | nil => exact ⟨Nat.zero_le _, Nat.zero_le _⟩
  | cons w r ih =>
    have h1 := h w (List.mem_cons_self ..)
    obtain ⟨i1, i2⟩ := ih fun v hv => h v (List.mem_cons_of_mem _ hv)
    simp only [List.map_cons, List.sum_cons, List.length_cons, Nat.mul_succ]
    exact ⟨by omega, by omega⟩
theorem plain_of {w : Str} (h : ∀ c ∈ tl w, c < 0x110000) : plain (.str w) = true := by
  show w.cps.all _ = true
  rw [← Array.all_toList]
  exact List.all_eq_true.mpr fun c hc => decide_eq_true (h c hc)
theorem fg_lt {c : Nat} (h : fgB c = true) : 48 ≤ c ∧ c ≤ 57 := by
  unfold fgB at h
  simpa using h
theorem tl_zero : tl (("0" : Str)) = [48] := by decide +kernel
theorem deq_zero (w : Str) : deq (.str w) (.str ("0" : Str)) = decide (tl w = [48]) := by
  show decide (w = _) = _
  rw [decide_eq_decide]
  constructor
  · rintro rfl
    exact tl_zero
  · intro h
    exact tl_ext (h.trans tl_zero.symm)
theorem at0_d {x : D} {R : List D} : atI (x :: R) 0 = some x := by
  unfold atI
  rw [if_pos (by decide), if_pos (by rw [List.length_cons]; omega)]
  rfl
theorem log_ok {i : Int} (h0 : 0 ≤ i) (h : i < 10 ^ 200) : i.natAbs.log2 < 1920 := by
  by_cases z : i.natAbs = 0
  · rw [z]; decide
  · refine (Nat.log2_lt z).mpr ?_
    have e : ((10 : Int) ^ 200) = ((10 ^ 200 : Nat) : Int) := by decide +kernel
    have : (10 : Nat) ^ 200 < 2 ^ 1920 := by decide +kernel
    omega
theorem nt_free {i : Int} (h : 0 ≤ i) : 32 ∉ tl (nt i) := by
  rw [tl_nt h]
  exact TL.numL_free (by decide)
theorem nt_plain {i : Int} (h : 0 ≤ i) : plain (.str (nt i)) = true := plain_of fun c hc => by
  rw [tl_nt h] at hc
  have := TL.numL_digits _ c hc
  omega
/-- figures_of, of any text -/
def sp_figures_of : PSp := fun ds t P => ∃ w : Str, ds = [.str w] ∧ w.length ≤ zLen ∧ P (pO (figO (tl w))) t
theorem len_figures_of (as : List D) (t : Ts) (P : D → Ts → Prop) (h : sp_figures_of as t P) : as.length = 1 := by first | (obtain ⟨_, rfl, _⟩ := h; rfl) | (obtain ⟨_, _, rfl, _⟩ := h; rfl) | (obtain ⟨_, _, _, rfl, _⟩ := h; rfl) | (obtain ⟨_, _, _, _, rfl, _⟩ := h; rfl) | (obtain ⟨_, _, _, _, _, rfl, _⟩ := h; rfl) | (obtain ⟨_, _, _, _, _, _, rfl, _⟩ := h; rfl) | (obtain ⟨_, _, _, _, _, _, _, rfl, _⟩ := h; rfl) | (obtain ⟨_, _, _, _, _, _, _, _, rfl, _⟩ := h; rfl) | (obtain ⟨_, rfl | rfl, _⟩ := h <;> rfl) | (obtain ⟨_, _, rfl | rfl, _⟩ := h <;> rfl) | (obtain ⟨_, _, _, rfl | rfl, _⟩ := h <;> rfl) | (obtain ⟨_, _, _, _, rfl | rfl, _⟩ := h <;> rfl) | (obtain ⟨_, _, _, _, _, rfl | rfl, _⟩ := h <;> rfl) | (obtain ⟨_, _, _, _, _, _, rfl | rfl, _⟩ := h <;> rfl) | (obtain ⟨_, _, _, _, _, _, _, rfl | rfl, _⟩ := h <;> rfl) | (obtain ⟨_, _, _, _, _, _, _, _, rfl | rfl, _⟩ := h <;> rfl)
def d_figures_of : DS := (dSeq (dIf (dOr (dNot (dB (dChain oLt oLe (dC (.int 0)) (dCB bLen (dCons (dVar 0) dNil)) (dC (.int 200))))) (dNot (dB (dCB bAll (dCons (dLc [1] (iStrD (dVar 0)) (gName 1) dYes (dOp oInS (dVar 1) (dC (.str "0123456789")))) dNil))))) (dSeq (dRet (dC .non)) dNext) dNext) (dSeq (dRet (dIfE (dOr (dB (dOp oEq (dVar 0) (dC (.str "0")))) (dB (dOp oNe (dOp oIxS (dVar 0) (dC (.int 0))) (dC (.str "0"))))) (dCB bIntT (dCons (dVar 0) dNil)) (dC .non))) dNext))
theorem d_figures_of_ok (as : List D) (t : Ts) (P : D → Ts → Prop) (h : sp_figures_of as t P) : d_figures_of (endsOf P) (start0 ["word", "sign"] as) t := by
  obtain ⟨w, rfl, hz, k⟩ := h
  have el : (tl w).length = w.length := len_toList w
  have done : figB (tl w) = false → P .non t := fun hb => by
    unfold figO at k
    rw [hb] at k
    exact k
  conv => whnf
  refine ⟨hz, ?_⟩
  conv => whnf
  by_cases h1 : (0 : Int) < w.length
  rotate_left
  · rw [decide_eq_false h1]
    conv => whnf
    exact done (by
      unfold figB
      rw [decide_eq_false (by omega)]
      rfl)
  rw [decide_eq_true h1]
  conv => whnf
  by_cases h2 : (w.length : Int) ≤ 200
  rotate_left
  · rw [decide_eq_false h2]
    conv => whnf
    exact done (by
      unfold figB
      rw [decide_eq_false (show ¬ (tl w).length ≤ 200 by omega), Bool.false_and, Bool.and_false])
  rw [decide_eq_true h2]
  conv => whnf
  refine lc_idx (fun i => .bl (fgB ((tl w).getD i 0))) (by rw [List.length_map, len_toList]; unfold zLen; omega) (fun i x hx Qy q => ?_) ?_
  · rw [List.getElem?_map] at hx
    cases hc : w.cps.toList[i]? with
    | none => rw [hc] at hx; cases hx
    | some c =>
      rw [hc] at hx
      cases hx
      refine ⟨rfl, ?_⟩
      conv => whnf
      refine ⟨c, rfl, ?_⟩
      rw [figs_mem]
      have e : (tl w).getD i 0 = c := by rw [List.getD_eq_getElem?_getD, show (tl w)[i]? = some c from hc]; rfl
      rw [e] at q
      exact q
  refine ⟨_, bls_gen _ _, ?_⟩
  have ea : ((List.range ((w.cps.toList.map fun c => D.str (sg c)).length)).map fun i => fgB ((tl w).getD i 0)).all id = (tl w).all fgB := by
    rw [List.length_map]
    have e2 : (List.range w.cps.toList.length).map (fun i => fgB ((tl w).getD i 0)) = (tl w).map fgB := by
      refine List.ext_getElem (by simp) fun i h1 h2 => ?_
      rw [List.length_map] at h2
      rw [List.getElem_map, List.getElem_map, List.getElem_range, List.getD_eq_getElem?_getD, List.getElem?_eq_getElem h2]
      rfl
    rw [e2, List.all_map]
    rfl
  rw [ea]
  by_cases h3 : (tl w).all fgB = true
  rotate_left
  · rw [Bool.not_eq_true] at h3
    rw [h3]
    conv => whnf
    exact done (by
      unfold figB
      rw [h3, Bool.false_and, Bool.and_false, Bool.and_false])
  rw [h3]
  conv => whnf
  have hfg : ∀ c ∈ tl w, 48 ≤ c ∧ c ≤ 57 := fun c hc => fg_lt (List.all_eq_true.mp h3 c hc)
  have hpl : plain (.str w) = true := plain_of fun c hc => by have := hfg c hc; omega
  have good : (tl w = [48] ∨ ¬ (tl w).head? = some 48) → intText? w = some (figV (tl w)) ∧ w.length ≤ 640 ∧ P (.int (figV (tl w))) t := fun hd => by
    have hb : figB (tl w) = true := by
      unfold figB
      rw [decide_eq_true (show 0 < (tl w).length by omega), decide_eq_true (show (tl w).length ≤ 200 by omega), h3]
      simp only [Bool.true_and, Bool.or_eq_true, beq_iff_eq, Bool.not_eq_true', beq_eq_false_iff_ne]
      exact hd
    refine ⟨int_fig hb, by omega, ?_⟩
    unfold figO at k
    rw [if_pos hb] at k
    exact k
  refine ⟨⟨hpl, by decide +kernel, by show 0 ≤ 60; decide, by decide⟩, ?_⟩
  rw [deq_zero]
  by_cases h4 : tl w = [48]
  · rw [decide_eq_true h4]
    conv => whnf
    exact ⟨_, good (.inl h4)⟩
  · rw [decide_eq_false h4]
    conv => whnf
    obtain ⟨c, r, hcr⟩ : ∃ c r, tl w = c :: r := by
      cases hq : tl w with
      | nil => rw [hq] at el; simp at el; omega
      | cons c r => exact ⟨c, r, rfl⟩
    have hc0 := hfg c (by rw [hcr]; exact List.mem_cons_self ..)
    have ha : atC w.cps.toList 0 = some c := by
      show atC (tl w) 0 = _
      unfold atC
      rw [if_pos (by decide), if_pos (by omega), hcr]
      rfl
    refine ⟨hz, c, ha, ?_⟩
    refine ⟨⟨plain_of (w := sg c) fun d hd => ?_, by decide +kernel, by show 0 ≤ 60; decide, by decide⟩, ?_⟩
    · have : d = c := by simpa [tl, sg] using hd
      omega
    · have e : deq (.str (sg c)) (.str ("0" : Str)) = decide (c = 48) := by
        rw [deq_zero, decide_eq_decide]
        show [c] = [48] ↔ _
        simp
      rw [e]
      by_cases h5 : c = 48
      · rw [decide_eq_true h5]
        conv => whnf
        refine done ?_
        unfold figB
        rw [hcr, h5] at h4 ⊢
        simp
        intro _ _ _ h
        exact h4 (by rw [h])
      · rw [decide_eq_false h5]
        conv => whnf
        exact ⟨_, good (.inr (by rw [hcr]; simpa using h5))⟩
end Q
/-! MAskM -/
namespace Q
open PySem
/-! ### where places lead: the mathematics -/
def ls (b : Int) (bs : List Int) (s : Nat) (y : Int) : Int := Lp b bs (b ^ s * sd b bs y - 1) + (y - Lp b bs (sd b bs y - 1))
section
variable {b : Int} {bs : List Int}
/-! ### chains -/
theorem sd_le (h : Hou b bs) {p : Int} (h1 : 1 ≤ p) : sd b bs p ≤ p := by
  have s := sd_sa h h1
  have := Lp_ge_self h (n := sd b bs p - 1) (by have := s.m1; omega)
  have := s.lo
  omega
end
end Q
/-! MAsk -/
namespace Q
open PySem
/-! ### asking.py -/
end Q
/-! MTx2 -/
namespace Q
open PySem
theorem nt_bnd {i : Int} (h0 : 0 ≤ i) (h : i < 10 ^ 120) : (nt i).length ≤ 120 := nt_len h0 (by decide) h
theorem log_bnd {i : Int} (h0 : 0 ≤ i) (h : i < 10 ^ 120) : i.natAbs.log2 < 1920 := log_ok h0 (Int.lt_of_lt_of_le h (by decide))
end Q
/-! QD28 -/
namespace Q
open PySem
/-- a, *b = a list -/
def gStar (g : DGs) : DG := fun d env t P => match d with
  | .lst (x :: xs) => xs.length ≤ 10000 ∧ g [x, .lst xs] env t P
  | _ => False
end Q
/-! QD29 -/
namespace Q
open PySem
/-- a dict of the module, its keys texts, asked at one that is there -/
def dIxK (kv : List (Str × D)) (e : DE) : DE := fun env t P => e env t fun x t1 => match x with
  | .str s => (match kv.lookup s with
    | some v => P v t1
    | none => False)
  | _ => False
end Q
/-! MTxL -/
namespace Q
open PySem
/-! ### what words write: a saying, an entry -/
def mkSy (w : Bool) (p n : Int) : Option Sy := if 1 ≤ p ∧ 1 ≤ n then some ⟨w, p, n⟩ else none
def say2 (p b n : Str) : Option Sy := match figO (tl p), figO (tl n) with
  | some p, some n => if b = "most" then mkSy true p n else if b = "least" then mkSy false p n else none
  | _, _ => none
def sayO : List Str → Option Sy
  | [p, a, b, n] => if a = "at" then say2 p b n else none
  | _ => none
def saO : Option Sy → D
  | none => .non
  | some s => syD s
def entO : List Str → Option Ent
  | m :: n :: k :: x :: r => (match figO (tl m) with
    | some m => if wdB n = true then (if k = "is" ∧ r = [] ∧ (x = "left" ∨ x = "trusted") then some ⟨m, n, .bl (decide (x = "trusted"))⟩ else if k = "sees" then (sayO (x :: r)).map fun s => ⟨m, n, .sy s⟩ else none) else none
    | none => none)
  | _ => none
def enO : Option Ent → D
  | none => .non
  | some e => entD e
/-- words of texts -/
def TxW (ws : List Str) : Prop := ∀ w ∈ ws, w.length ≤ 15000000 ∧ plain (.str w) = true
theorem deq_st (x y : Str) : deq (.str x) (.str y) = decide (x = y) := rfl
theorem at_app (b : Str) : (Str.empty ++ ("at " : Str) ++ b = "at most") = (b = "most") ∧ (Str.empty ++ ("at " : Str) ++ b = "at least") = (b = "least") := by
  have e1 : tl ((Str.empty ++ ("at " : Str) : Str)) = [97, 116, 32] := by decide +kernel
  have e2 : tl (("at most" : Str)) = [97, 116, 32] ++ tl (("most" : Str)) := by decide +kernel
  have e3 : tl (("at least" : Str)) = [97, 116, 32] ++ tl (("least" : Str)) := by decide +kernel
  refine ⟨propext ⟨fun h => ?_, fun h => ?_⟩, propext ⟨fun h => ?_, fun h => ?_⟩⟩
  · have := congrArg tl h
    rw [tl_app, e1, e2] at this
    exact tl_ext (List.append_cancel_left this)
  · subst h
    exact tl_ext (by rw [tl_app, e1, e2])
  · have := congrArg tl h
    rw [tl_app, e1, e3] at this
    exact tl_ext (List.append_cancel_left this)
  · subst h
    exact tl_ext (by rw [tl_app, e1, e3])
theorem dp0 (x : Str) : deep (.str x) ≤ 60 := Nat.zero_le 60
theorem strs_len (ws : List Str) : ((ws.map D.str).length : Int) = (ws.length : Int) := by rw [List.length_map]
def sp_saying_of_2 : PSp := fun ds t P => ∃ ws : List Str, ds = [.lst (ws.map .str)] ∧ TxW ws ∧ P (saO (sayO ws)) t
def sp_entry_of_2 : PSp := fun ds t P => ∃ ws : List Str, ds = [.lst (ws.map .str)] ∧ ws ≠ [] ∧ TxW ws ∧ P (enO (entO ws)) t
theorem len_saying_of_2 (as : List D) (t : Ts) (P : D → Ts → Prop) (h : sp_saying_of_2 as t P) : as.length = 1 := by first | (obtain ⟨_, rfl, _⟩ := h; rfl) | (obtain ⟨_, _, rfl, _⟩ := h; rfl) | (obtain ⟨_, _, _, rfl, _⟩ := h; rfl) | (obtain ⟨_, _, _, _, rfl, _⟩ := h; rfl) | (obtain ⟨_, _, _, _, _, rfl, _⟩ := h; rfl) | (obtain ⟨_, _, _, _, _, _, rfl, _⟩ := h; rfl) | (obtain ⟨_, _, _, _, _, _, _, rfl, _⟩ := h; rfl) | (obtain ⟨_, _, _, _, _, _, _, _, rfl, _⟩ := h; rfl) | (obtain ⟨_, rfl | rfl, _⟩ := h <;> rfl) | (obtain ⟨_, _, rfl | rfl, _⟩ := h <;> rfl) | (obtain ⟨_, _, _, rfl | rfl, _⟩ := h <;> rfl) | (obtain ⟨_, _, _, _, rfl | rfl, _⟩ := h <;> rfl) | (obtain ⟨_, _, _, _, _, rfl | rfl, _⟩ := h <;> rfl) | (obtain ⟨_, _, _, _, _, _, rfl | rfl, _⟩ := h <;> rfl) | (obtain ⟨_, _, _, _, _, _, _, rfl | rfl, _⟩ := h <;> rfl) | (obtain ⟨_, _, _, _, _, _, _, _, rfl | rfl, _⟩ := h <;> rfl)
theorem len_entry_of_2 (as : List D) (t : Ts) (P : D → Ts → Prop) (h : sp_entry_of_2 as t P) : as.length = 1 := by first | (obtain ⟨_, rfl, _⟩ := h; rfl) | (obtain ⟨_, _, rfl, _⟩ := h; rfl) | (obtain ⟨_, _, _, rfl, _⟩ := h; rfl) | (obtain ⟨_, _, _, _, rfl, _⟩ := h; rfl) | (obtain ⟨_, _, _, _, _, rfl, _⟩ := h; rfl) | (obtain ⟨_, _, _, _, _, _, rfl, _⟩ := h; rfl) | (obtain ⟨_, _, _, _, _, _, _, rfl, _⟩ := h; rfl) | (obtain ⟨_, _, _, _, _, _, _, _, rfl, _⟩ := h; rfl) | (obtain ⟨_, rfl | rfl, _⟩ := h <;> rfl) | (obtain ⟨_, _, rfl | rfl, _⟩ := h <;> rfl) | (obtain ⟨_, _, _, rfl | rfl, _⟩ := h <;> rfl) | (obtain ⟨_, _, _, _, rfl | rfl, _⟩ := h <;> rfl) | (obtain ⟨_, _, _, _, _, rfl | rfl, _⟩ := h <;> rfl) | (obtain ⟨_, _, _, _, _, _, rfl | rfl, _⟩ := h <;> rfl) | (obtain ⟨_, _, _, _, _, _, _, rfl | rfl, _⟩ := h <;> rfl) | (obtain ⟨_, _, _, _, _, _, _, _, rfl | rfl, _⟩ := h <;> rfl)
def d_saying_of_2 : DS := (dSeq (dIf (dOr (dB (dOp oNe (dCB bLen (dCons (dVar 0) dNil)) (dC (.int 4)))) (dB (dOp oNe (dOp oIx (dVar 0) (dC (.int 1))) (dC (.str "at"))))) (dSeq (dRet (dC .non)) dNext) dNext) (dSeq (dPar 2 3 (dCons (dCall sp_figures_of [] (dCons (dOp oIx (dVar 0) (dC (.int 0))) dNil)) (dCons (dCall sp_figures_of [] (dCons (dOp oIx (dVar 0) (dC (.int 3))) dNil)) dNil))) (dSeq (dIf (dOr (dB (dOp oIsN (dVar 2) (dC .non))) (dB (dOp oIsN (dVar 3) (dC .non)))) (dSeq (dRet (dC .non)) dNext) dNext) (dSeq (dAsg (dTup (dCons (dFs (dJE (dC (.str "at ")) (dJV (dOp oIx (dVar 0) (dC (.int 2))) dJNil))) (dCons (dVar 2) (dCons (dVar 3) dNil)))) (gName 1)) (dSeq (dRet (dIfE (dB (dCall sp_is_saying_a [] (dCons (dVar 1) dNil))) (dVar 1) (dC .non))) dNext)))))
def d_entry_of_2 : DS := (dSeq (dAsg (dCall sp_figures_of [] (dCons (dOp oIx (dVar 0) (dC (.int 0))) dNil)) (gName 1)) (dSeq (dIf (dOr (dB (dOp oIsN (dVar 1) (dC .non))) (dOr (dB (dOp oLt (dCB bLen (dCons (dVar 0) dNil)) (dC (.int 4)))) (dNot (dB (dCall sp_is_word_a [] (dCons (dOp oIx (dVar 0) (dC (.int 1))) dNil)))))) (dSeq (dRet (dC .non)) dNext) dNext) (dSeq (dIf (dAnd (dB (dOp oEq (dOp oIx (dVar 0) (dC (.int 2))) (dC (.str "is")))) (dAnd (dB (dOp oEq (dCB bLen (dCons (dVar 0) dNil)) (dC (.int 4)))) (dB (dInK ["left", "trusted"] (dOp oIx (dVar 0) (dC (.int 3))))))) (dSeq (dRet (dTup (dCons (dVar 1) (dCons (dOp oIx (dVar 0) (dC (.int 1))) (dCons (dIxK [("left", .bl false), ("trusted", .bl true)] (dOp oIx (dVar 0) (dC (.int 3)))) dNil))))) dNext) dNext) (dSeq (dAsg (dCall sp_saying_of_2 [] (dCons (dSlice (dVar 0) (dPart (dC (.int 3))) dNoPart) dNil)) (gName 2)) (dSeq (dRet (dIfE (dAnd (dB (dOp oEq (dOp oIx (dVar 0) (dC (.int 2))) (dC (.str "sees")))) (dB (dOp oNotN (dVar 2) (dC .non)))) (dTup (dCons (dVar 1) (dCons (dOp oIx (dVar 0) (dC (.int 1))) (dCons (dVar 2) dNil)))) (dC .non))) dNext)))))
theorem d_saying_of_2_ok (as : List D) (t : Ts) (P : D → Ts → Prop) (h : sp_saying_of_2 as t P) : d_saying_of_2 (endsOf P) (start0 ["words", "saying", "place", "number"] as) t := by
  obtain ⟨ws, rfl, hw, k⟩ := h
  by_cases h4 : ws.length = 4
  · obtain ⟨p, a, b, n, rfl⟩ : ∃ p a b n, ws = [p, a, b, n] := by
      match ws, h4 with
      | [p, a, b, n], _ => exact ⟨p, a, b, n, rfl⟩
    obtain ⟨lp, pp⟩ := hw p (by simp)
    obtain ⟨la, pa⟩ := hw a (by simp)
    obtain ⟨lb, pb⟩ := hw b (by simp)
    obtain ⟨ln, pn⟩ := hw n (by simp)
    have z1 : plain (.str ("at" : Str)) = true := by decide +kernel
    conv => whnf
    refine ⟨_, rfl, ?_⟩
    conv => whnf
    refine ⟨⟨pa, z1, dp0 _, dp0 _⟩, ?_⟩
    rw [deq_st]
    by_cases ha : a = "at"
    · subst ha
      rw [decide_eq_true rfl]
      conv => whnf
      refine ⟨_, rfl, ?_⟩
      conv => whnf
      refine ⟨_, rfl, by unfold zLen; omega, ?_⟩
      conv => whnf
      refine ⟨_, rfl, ?_⟩
      conv => whnf
      refine ⟨_, rfl, by unfold zLen; omega, ?_⟩
      have ek : sayO [p, "at", b, n] = say2 p b n := by
        unfold sayO
        exact if_pos rfl
      rw [ek] at k
      unfold say2 at k
      cases hp : figO (tl p) with
      | none =>
        rw [hp] at k
        conv => whnf
        exact k
      | some i =>
        cases hn : figO (tl n) with
        | none =>
          rw [hp, hn] at k
          conv => whnf
          exact k
        | some j =>
          rw [hp, hn] at k
          have k : P (saO (if b = "most" then mkSy true i j else if b = "least" then mkSy false i j else none)) t := k
          conv => whnf
          have e3 : ((Str.empty ++ ("at " : Str) : Str)).length = 3 := by decide +kernel
          refine ⟨by rw [e3]; unfold zLen; omega, ?_⟩
          conv => whnf
          refine ⟨_, rfl, ?_⟩
          conv => whnf
          refine ⟨by unfold zLen; omega, ?_⟩
          conv => whnf
          refine ⟨by rw [len_app, e3]; unfold zLen; omega, ?_⟩
          conv => whnf
          refine ⟨_, rfl, ⟨_, rfl⟩, ?_, ?_⟩
          · intro x hx
            simp only [List.mem_cons, List.not_mem_nil, or_false] at hx
            rcases hx with rfl | rfl | rfl <;> exact ⟨_, rfl⟩
          have es : sayB (.tup [.str (Str.empty ++ ("at " : Str) ++ b), pO (some i), pO (some j)]) = ((decide (b = "most") || decide (b = "least")) && (decide (0 < i) && decide (0 < j))) := by
            show ((decide (Str.empty ++ ("at " : Str) ++ b = "at most") || decide (Str.empty ++ ("at " : Str) ++ b = "at least")) && (decide (0 < i) && decide (0 < j))) = _
            simp only [(at_app b).1, (at_app b).2]
          rw [es]
          by_cases hb1 : b = "most"
          · rw [if_pos hb1] at k
            rw [decide_eq_true hb1]
            unfold mkSy at k
            by_cases hi : 0 < i
            · by_cases hj : 0 < j
              · rw [if_pos ⟨by omega, by omega⟩] at k
                rw [decide_eq_true hi, decide_eq_true hj]
                conv => whnf
                have eb : Str.empty ++ ("at " : Str) ++ b = "at most" := by rw [(at_app b).1]; exact hb1
                rw [eb]
                exact k
              · rw [if_neg (fun z => hj (by omega))] at k
                rw [decide_eq_true hi, decide_eq_false hj]
                conv => whnf
                exact k
            · rw [if_neg (fun z => hi (by omega))] at k
              rw [decide_eq_false hi]
              conv => whnf
              exact k
          · rw [if_neg hb1] at k
            rw [decide_eq_false hb1]
            by_cases hb2 : b = "least"
            · rw [if_pos hb2] at k
              rw [decide_eq_true hb2]
              unfold mkSy at k
              by_cases hi : 0 < i
              · by_cases hj : 0 < j
                · rw [if_pos ⟨by omega, by omega⟩] at k
                  rw [decide_eq_true hi, decide_eq_true hj]
                  conv => whnf
                  have eb : Str.empty ++ ("at " : Str) ++ b = "at least" := by rw [(at_app b).2]; exact hb2
                  rw [eb]
                  exact k
                · rw [if_neg (fun z => hj (by omega))] at k
                  rw [decide_eq_true hi, decide_eq_false hj]
                  conv => whnf
                  exact k
              · rw [if_neg (fun z => hi (by omega))] at k
                rw [decide_eq_false hi]
                conv => whnf
                exact k
            · rw [if_neg hb2] at k
              rw [decide_eq_false hb2]
              conv => whnf
              exact k
    · rw [decide_eq_false ha]
      have ek : sayO [p, a, b, n] = none := if_neg ha
      rw [ek] at k
      conv => whnf
      exact k
  · have ek : sayO ws = none := by
      unfold sayO
      split
      · exact absurd rfl h4
      · rfl
    rw [ek] at k
    conv => whnf
    rw [strs_len]
    refine br_nn (by omega) ?_
    exact k
theorem ent4 {m n q x : Str} {r : List Str} {i : Int} (hm : figO (tl m) = some i) : entO (m :: n :: q :: x :: r) = if wdB n = true then (if q = "is" ∧ r = [] ∧ (x = "left" ∨ x = "trusted") then some ⟨i, n, .bl (decide (x = "trusted"))⟩ else if q = "sees" then (sayO (x :: r)).map fun s => ⟨i, n, .sy s⟩ else none) else none := by
  show (match figO (tl m) with | some m => _ | none => none) = _
  rw [hm]
theorem d_entry_of_2_ok (as : List D) (t : Ts) (P : D → Ts → Prop) (h : sp_entry_of_2 as t P) : d_entry_of_2 (endsOf P) (start0 ["words", "moment", "saying"] as) t := by
  obtain ⟨ws, rfl, hne, hw, k⟩ := h
  obtain ⟨m, r0, hws⟩ : ∃ m r, ws = m :: r := by
    cases ws with
    | nil => exact absurd rfl hne
    | cons m r => exact ⟨m, r, rfl⟩
  obtain ⟨lm, pm⟩ := hw m (by rw [hws]; simp)
  have a0 : atI (ws.map .str) 0 = some (.str m) := by rw [hws]; exact at0_d
  conv => whnf
  refine ⟨_, a0, ?_⟩
  refine ⟨_, rfl, by unfold zLen; omega, ?_⟩
  cases hm : figO (tl m) with
  | none =>
    have ek : entO ws = none := by
      rw [hws]
      unfold entO
      split
      · rename_i e
        cases e
        rw [hm]
      · rfl
    rw [ek] at k
    conv => whnf
    exact k
  | some i =>
    conv => whnf
    by_cases h4 : r0.length < 3
    · have ek : entO ws = none := by
        rw [hws]
        unfold entO
        split
        · rename_i e
          cases e
          simp at h4
          omega
        · rfl
      rw [ek] at k
      refine br_eq (by rw [strs_len, hws]; simp; omega) ?_
      exact k
    · refine br_nq (by rw [strs_len, hws]; simp; omega) ?_
      obtain ⟨n, q, x, r, rfl⟩ : ∃ n q x r, r0 = n :: q :: x :: r := by
        match r0, h4 with
        | n :: q :: x :: r, _ => exact ⟨n, q, x, r, rfl⟩
        | [], h => simp at h
        | [_], h => simp at h
        | [_, _], h => simp at h
      obtain ⟨ln, pn⟩ := hw n (by rw [hws]; simp)
      obtain ⟨lq, pq⟩ := hw q (by rw [hws]; simp)
      obtain ⟨lx, px⟩ := hw x (by rw [hws]; simp)
      have a1 : atI (ws.map .str) 1 = some (.str n) := by rw [hws]; exact atI_nat (by decide) rfl
      have a2 : atI (ws.map .str) 2 = some (.str q) := by rw [hws]; exact atI_nat (by decide) rfl
      have a3 : atI (ws.map .str) 3 = some (.str x) := by rw [hws]; exact atI_nat (by decide) rfl
      have hc : cutD (ws.map .str) (some 3) none = (x :: r).map .str := by
        rw [hws]
        exact cutG_fr (f := D.str) (l := m :: n :: q :: x :: r) (a := 3) (by simp)
      have hlen : ((ws.map D.str).length : Int) = (r.length : Int) + 4 := by rw [strs_len, hws]; simp; omega
      conv => whnf
      refine ⟨_, a1, ?_⟩
      refine ⟨_, rfl, ⟨_, rfl⟩, (fun w ew => by cases ew; unfold zLen; omega), ?_⟩
      rw [hws, ent4 hm] at k
      have et : telB (.str n) = wdB n := rfl
      rw [et]
      cases hn : wdB n with
      | false =>
        rw [hn] at k
        conv => whnf
        exact k
      | true =>
        rw [hn, if_pos rfl] at k
        have z1 : plain (.str ("is" : Str)) = true := by decide +kernel
        have z2 : plain (.str ("sees" : Str)) = true := by decide +kernel
        have rest : ¬ (q = "is" ∧ r = [] ∧ (x = "left" ∨ x = "trusted")) → ((dSeq (dAsg (dCall sp_saying_of_2 [] (dCons (dSlice (dVar 0) (dPart (dC (.int 3))) dNoPart) dNil)) (gName 2)) (dSeq (dRet (dIfE (dAnd (dB (dOp oEq (dOp oIx (dVar 0) (dC (.int 2))) (dC (.str "sees")))) (dB (dOp oNotN (dVar 2) (dC .non)))) (dTup (dCons (dVar 1) (dCons (dOp oIx (dVar 0) (dC (.int 1))) (dCons (dVar 2) dNil)))) (dC .non))) dNext))) (endsOf P) [.val (.lst (ws.map .str)), .val (.int i), .no] t := fun hno => by
          rw [if_neg hno] at k
          conv => whnf
          refine ⟨x :: r, by rw [hc]; rfl, fun w hw' => hw w (by rw [hws]; exact List.mem_cons_of_mem _ (List.mem_cons_of_mem _ (List.mem_cons_of_mem _ hw'))), ?_⟩
          conv => whnf
          refine ⟨_, a2, ?_⟩
          refine ⟨⟨pq, z2, dp0 _, dp0 _⟩, ?_⟩
          rw [deq_st]
          by_cases hq : q = "sees"
          · rw [if_pos hq] at k
            rw [decide_eq_true hq]
            cases hs : sayO (x :: r) with
            | none =>
              rw [hs] at k
              conv => whnf
              exact k
            | some s =>
              rw [hs] at k
              obtain ⟨w, p, n'⟩ := s
              cases w with
              | true =>
                conv => whnf
                refine ⟨_, a1, ?_⟩
                exact k
              | false =>
                conv => whnf
                refine ⟨_, a1, ?_⟩
                exact k
          · rw [if_neg hq] at k
            rw [decide_eq_false hq]
            conv => whnf
            exact k
        conv => whnf
        refine ⟨_, a2, ?_⟩
        refine ⟨⟨pq, z1, dp0 _, dp0 _⟩, ?_⟩
        rw [deq_st]
        by_cases hq : q = "is"
        · rw [decide_eq_true hq]
          conv => whnf
          by_cases hr : r = []
          · refine br_eq (by rw [hlen, hr]; rfl) ?_
            conv => whnf
            refine ⟨_, a3, ?_⟩
            by_cases hx : x = "left"
            · rw [if_pos ⟨hq, hr, .inl hx⟩] at k
              subst hx
              conv => whnf
              refine ⟨_, a1, ?_⟩
              conv => whnf
              refine ⟨_, a3, ?_⟩
              exact k
            · by_cases hx2 : x = "trusted"
              · rw [if_pos ⟨hq, hr, .inr hx2⟩] at k
                subst hx2
                conv => whnf
                refine ⟨_, a1, ?_⟩
                conv => whnf
                refine ⟨_, a3, ?_⟩
                exact k
              · have hcc : (["left", "trusted"] : List Str).contains x = false := by
                  rw [List.contains_eq_mem, decide_eq_false_iff_not]
                  simp only [List.mem_cons, List.not_mem_nil, or_false]
                  rintro (h | h)
                  · exact hx h
                  · exact hx2 h
                conv => whnf
                rw [hcc]
                exact rest (fun z => by rcases z.2.2 with h | h; exact hx h; exact hx2 h)
          · refine br_nq (by
              rw [hlen]
              have : 0 < r.length := List.length_pos_iff.mpr hr
              omega) ?_
            exact rest (fun z => hr z.2.1)
        · rw [decide_eq_false hq]
          exact rest (fun z => hq z.1)
end Q
/-! MLoreL -/
namespace Q
open PySem
/-! ### what the laws of lores draw -/
def SyB (s : Sy) : Prop := s.Ok ∧ s.p ≤ 1000000000 ∧ s.n ≤ 2000000000
structure EB (e : Ent) : Prop where
  o : EOk e
  s : ∀ s, e.w = .sy s → SyB s
def sp__law_mixed : PSp := fun ds t P => ∃ (l : List D) (n : Int), ds = [.pen, .lst l] ∧ l.length ≤ 5000 ∧ Pk n t ∧ n < 50000000 ∧ ∀ (l' : List D) (t' : Ts), l'.Perm l → Pk (n + l.length) t' → P (.lst l') t'
def sp__law_sighted (W : Cl) : PSp := fun ds t P => ∃ (b : Int) (bs : List Int) (n : Int), ds = [.pen, hD W b bs] ∧ Hou b bs ∧ Pk n t ∧ n < 50000000 ∧ ∀ (s : Sy) (t' : Ts), SyB s → Pk (n + 7) t' → P (syD s) t'
theorem len__law_mixed (as : List D) (t : Ts) (P : D → Ts → Prop) (h : sp__law_mixed as t P) : as.length = 2 := by first | (obtain ⟨_, rfl, _⟩ := h; rfl) | (obtain ⟨_, _, rfl, _⟩ := h; rfl) | (obtain ⟨_, _, _, rfl, _⟩ := h; rfl) | (obtain ⟨_, _, _, _, rfl, _⟩ := h; rfl) | (obtain ⟨_, _, _, _, _, rfl, _⟩ := h; rfl) | (obtain ⟨_, _, _, _, _, _, rfl, _⟩ := h; rfl) | (obtain ⟨_, _, _, _, _, _, _, rfl, _⟩ := h; rfl) | (obtain ⟨_, _, _, _, _, _, _, _, rfl, _⟩ := h; rfl) | (obtain ⟨_, rfl | rfl, _⟩ := h <;> rfl) | (obtain ⟨_, _, rfl | rfl, _⟩ := h <;> rfl) | (obtain ⟨_, _, _, rfl | rfl, _⟩ := h <;> rfl) | (obtain ⟨_, _, _, _, rfl | rfl, _⟩ := h <;> rfl) | (obtain ⟨_, _, _, _, _, rfl | rfl, _⟩ := h <;> rfl) | (obtain ⟨_, _, _, _, _, _, rfl | rfl, _⟩ := h <;> rfl) | (obtain ⟨_, _, _, _, _, _, _, rfl | rfl, _⟩ := h <;> rfl) | (obtain ⟨_, _, _, _, _, _, _, _, rfl | rfl, _⟩ := h <;> rfl)
theorem len__law_sighted (W : Cl) (as : List D) (t : Ts) (P : D → Ts → Prop) (h : sp__law_sighted W as t P) : as.length = 2 := by first | (obtain ⟨_, rfl, _⟩ := h; rfl) | (obtain ⟨_, _, rfl, _⟩ := h; rfl) | (obtain ⟨_, _, _, rfl, _⟩ := h; rfl) | (obtain ⟨_, _, _, _, rfl, _⟩ := h; rfl) | (obtain ⟨_, _, _, _, _, rfl, _⟩ := h; rfl) | (obtain ⟨_, _, _, _, _, _, rfl, _⟩ := h; rfl) | (obtain ⟨_, _, _, _, _, _, _, rfl, _⟩ := h; rfl) | (obtain ⟨_, _, _, _, _, _, _, _, rfl, _⟩ := h; rfl) | (obtain ⟨_, rfl | rfl, _⟩ := h <;> rfl) | (obtain ⟨_, _, rfl | rfl, _⟩ := h <;> rfl) | (obtain ⟨_, _, _, rfl | rfl, _⟩ := h <;> rfl) | (obtain ⟨_, _, _, _, rfl | rfl, _⟩ := h <;> rfl) | (obtain ⟨_, _, _, _, _, rfl | rfl, _⟩ := h <;> rfl) | (obtain ⟨_, _, _, _, _, _, rfl | rfl, _⟩ := h <;> rfl) | (obtain ⟨_, _, _, _, _, _, _, rfl | rfl, _⟩ := h <;> rfl) | (obtain ⟨_, _, _, _, _, _, _, _, rfl | rfl, _⟩ := h <;> rfl)
def d__law_mixed : DS := (dSeq (dParM [(3, true), (4, true)] (dCons (dCB bList (dCons (dVar 1) dNil)) (dCons (dLst dNil) dNil))) (dSeq (dFor (iRng1 (dCB bLen (dCons (dVar 1) dNil))) (gName 2) (dSeq (dAppPop 4 3 (dCall sp__law_draw [] (dCons (dVar 0) (dCons (dCB bLen (dCons (dView 3) dNil)) dNil)))) dNext)) (dSeq (dFrz 3) (dSeq (dRetO 4) dNext))))
def d__law_sighted (W : Cl) : DS := (dSeq (dAsg (dOp oAdd (dC (.int 1)) (dOp oIx (dLst (dCons (dCall sp__law_draw [] (dCons (dVar 0) (dCons (dC (.int 40)) dNil))) (dCons (dCall sp__law_draw [] (dCons (dVar 0) (dCons (dC (.int 400)) dNil))) (dCons (dCall sp__law_draw [] (dCons (dVar 0) (dCons (dOp oPow (dC (.int 10)) (dC (.int 9))) dNil))) dNil)))) (dCall sp__law_draw [] (dCons (dVar 0) (dCons (dC (.int 3)) dNil))))) (gName 2)) (dSeq (dPar 3 4 (dCons (dMeth W.House "said" (sp_House_said W) [] (dVar 1) (dCons (dVar 2) dNil)) (dCons (dCall sp__law_draw [] (dCons (dVar 0) (dCons (dC (.int 3)) dNil))) dNil))) (dSeq (dIf (dB (dOp oEq (dCall sp__law_draw [] (dCons (dVar 0) (dCons (dC (.int 12)) dNil))) (dC (.int 0)))) (dSeq (dRet (dOp oIx (dLst (dCons (dTup (dCons (dC (.str "at most")) (dCons (dVar 2) (dCons (dCB bMax (dCons (dC (.int 1)) (dCons (dOp oSub (dOp oSub (dVar 3) (dC (.int 1))) (dVar 4)) dNil))) dNil)))) (dCons (dTup (dCons (dC (.str "at least")) (dCons (dVar 2) (dCons (dOp oAdd (dOp oAdd (dVar 3) (dC (.int 1))) (dVar 4)) dNil)))) dNil))) (dCall sp__law_draw [] (dCons (dVar 0) (dCons (dC (.int 2)) dNil))))) dNext) dNext) (dSeq (dRet (dOp oIx (dLst (dCons (dTup (dCons (dC (.str "at most")) (dCons (dVar 2) (dCons (dOp oAdd (dVar 3) (dVar 4)) dNil)))) (dCons (dTup (dCons (dC (.str "at least")) (dCons (dVar 2) (dCons (dCB bMax (dCons (dC (.int 1)) (dCons (dOp oSub (dVar 3) (dVar 4)) dNil))) dNil)))) dNil))) (dCall sp__law_draw [] (dCons (dVar 0) (dCons (dC (.int 2)) dNil))))) dNext))))
theorem erase_perm {α : Type} : ∀ (l : List α) (i : Nat) (h : i < l.length), (l[i] :: l.eraseIdx i).Perm l
  | [], i, h => by simp at h
  | a :: l, 0, h => List.Perm.refl _
  | a :: l, i + 1, h => by
    have h' : i < l.length := by simpa using h
    exact (List.Perm.swap a l[i] (l.eraseIdx i)).trans ((erase_perm l i h').cons a)
theorem d__law_mixed_ok (as : List D) (t : Ts) (P : D → Ts → Prop) (h : sp__law_mixed as t P) : d__law_mixed (endsN P) (start0 ["_law_pen_here", "_law_things", "_law_k", "_law_left", "_law_found"] as) t := by
  obtain ⟨l, n, rfl, hl, pn, hn, k⟩ := h
  conv => whnf
  refine ⟨by omega, ?_⟩
  conv => whnf
  refine ⟨fun i e m => Pk (n + i) m ∧ ∃ (r q : List D) (s2 : Sl), (q ++ r).Perm l ∧ q.length = i ∧ e = [.val .pen, .val (.lst l), s2, .own (.lst r), .own (.lst q)], ⟨by simpa using pn, l, [], _, List.Perm.refl _, rfl, rfl⟩, fun i x e m hx hI => ?_, fun e m hI => ?_⟩
  · obtain ⟨pm, r, q, s2, hp, hq, rfl⟩ := hI
    obtain ⟨hi, rfl⟩ := rng_get hx
    have hlen := hp.length_eq
    rw [List.length_append] at hlen
    have rl : 0 < r.length := by omega
    conv => whnf
    refine ⟨by decide, ?_⟩
    refine ⟨_, _, rfl, by omega, (sm64 (by omega) (by omega)).mono (by decide), pm, by omega, fun z t1 z0 z1 pt1 => ?_⟩
    have hz : r[z.toNat]? = some (r[z.toNat]'(by omega)) := List.getElem?_eq_getElem (by omega)
    refine ⟨⟨by omega, by omega, by unfold zLen; omega⟩, z.toNat, _, ?_, hz, ?_⟩
    · unfold ixN
      rw [if_pos z0, if_pos z1]
    · refine ⟨pt1.mono (by omega), r.eraseIdx z.toNat, q ++ [r[z.toNat]'(by omega)], _, ?_, by rw [List.length_append, hq]; rfl, rfl⟩
      refine List.Perm.trans ?_ hp
      rw [List.append_assoc]
      refine List.Perm.append_left q ?_
      exact erase_perm r z.toNat (by omega)
  · obtain ⟨pm, r, q, s2, hp, hq, rfl⟩ := hI
    rw [rng_len] at pm hq
    have hlen := hp.length_eq
    rw [List.length_append] at hlen
    have r0 : r = [] := List.length_eq_zero_iff.mp (by omega)
    subst r0
    rw [List.append_nil] at hp
    conv => whnf
    exact k q m hp (pm.mono (by omega))
theorem pick3b {a b c M z : Int} (z0 : 0 ≤ z) (z1 : z < 3) (a0 : 0 ≤ a) (a1 : a ≤ M) (b0 : 0 ≤ b) (b1 : b ≤ M) (c0 : 0 ≤ c) (c1 : c ≤ M) : ∃ v, atI [.int a, .int b, .int c] z = some (.int v) ∧ 0 ≤ v ∧ v ≤ M := by
  rcases (by omega : z = 0 ∨ z = 1 ∨ z = 2) with rfl | rfl | rfl
  · exact ⟨a, rfl, a0, a1⟩
  · exact ⟨b, rfl, b0, b1⟩
  · exact ⟨c, rfl, c0, c1⟩
theorem d__law_sighted_ok (W : Cl) (as : List D) (t : Ts) (P : D → Ts → Prop) (h : sp__law_sighted W as t P) : d__law_sighted W (endsOf P) (start0 ["_law_pen_here", "_law_house", "_law_spot", "_law_here", "_law_off"] as) t := by
  obtain ⟨b, bs, n, rfl, hh, pn, hn, k⟩ := h
  conv => whnf
  refine ⟨_, _, rfl, by first | omega | decide, (sm64 (by first | omega | decide) (by first | omega | decide)).mono (by decide), pn, by omega, fun x1 t1 x10 x11 pt1 => ?_⟩
  conv => whnf
  refine ⟨_, _, rfl, by first | omega | decide, (sm64 (by first | omega | decide) (by first | omega | decide)).mono (by decide), pt1, by omega, fun x2 t2 x20 x21 pt2 => ?_⟩
  conv => whnf
  refine ⟨PowOk.s (by decide) (by decide) (by decide) (by decide), ?_⟩
  conv => whnf
  refine ⟨_, _, rfl, by first | omega | decide, (sm64 (by first | omega | decide) (by first | omega | decide)).mono (by decide), pt2, by omega, fun x3 t3 x30 x31 pt3 => ?_⟩
  conv => whnf
  refine ⟨_, _, rfl, by first | omega | decide, (sm64 (by first | omega | decide) (by first | omega | decide)).mono (by decide), pt3, by omega, fun z t4 z0 z1 pt4 => ?_⟩
  conv => whnf
  have h10 : (10 : Int) ^ Int.toNat 9 = 1000000000 := by decide
  rw [h10] at x31
  obtain ⟨v, ev, v0, v1⟩ := pick3b (M := 999999999) z0 z1 x10 (by omega) x20 (by omega) x30 (by omega)
  refine ⟨_, ev, ?_⟩
  conv => whnf
  refine ⟨rfl, rfl, ?_⟩
  conv => whnf
  refine ⟨b, bs, 1 + v, rfl, hh, by omega, (sm64 (by omega) (by omega)).mono (by decide), fun m hm => ?_⟩
  have m1 := hm.m1
  have mp : m ≤ 1 + v := by
    have h1 := sd_eq hh hm
    have h2 := sd_le hh (p := 1 + v) (by omega)
    omega
  conv => whnf
  refine ⟨_, _, rfl, by first | omega | decide, (sm64 (by first | omega | decide) (by first | omega | decide)).mono (by decide), pt4, by omega, fun o t5 o0 o1 pt5 => ?_⟩
  conv => whnf
  refine ⟨_, _, rfl, by first | omega | decide, (sm64 (by first | omega | decide) (by first | omega | decide)).mono (by decide), pt5, by omega, fun y t6 y0 y1 pt6 => ?_⟩
  conv => whnf
  have ok : ∀ (w : Bool) (q : Int), 1 ≤ q → q ≤ 2000000000 → SyB ⟨w, 1 + v, q⟩ := fun w q q1 q2 => ⟨⟨(by show 1 ≤ 1 + v; omega), q1⟩, (by show 1 + v ≤ _; omega), q2⟩
  refine Br.mk (fun hy => ?_) (fun hy => ?_)
  · conv => whnf
    refine ⟨_, _, rfl, by first | omega | decide, (sm64 (by first | omega | decide) (by first | omega | decide)).mono (by decide), pt6, by omega, fun z2 t7 z20 z21 pt7 => ?_⟩
    conv => whnf
    have pk : Pk (n + 7) t7 := pt7.mono (by omega)
    rcases (by omega : z2 = 0 ∨ z2 = 1) with rfl | rfl
    · refine ⟨_, rfl, ?_⟩
      refine k ⟨true, 1 + v, _⟩ t7 (ok _ _ ?_ ?_) pk <;> (split <;> omega)
    · refine ⟨_, rfl, ?_⟩
      exact k ⟨false, 1 + v, _⟩ t7 (ok _ _ (by omega) (by omega)) pk
  · conv => whnf
    refine ⟨_, _, rfl, by first | omega | decide, (sm64 (by first | omega | decide) (by first | omega | decide)).mono (by decide), pt6, by omega, fun z2 t7 z20 z21 pt7 => ?_⟩
    conv => whnf
    have pk : Pk (n + 7) t7 := pt7.mono (by omega)
    rcases (by omega : z2 = 0 ∨ z2 = 1) with rfl | rfl
    · refine ⟨_, rfl, ?_⟩
      exact k ⟨true, 1 + v, _⟩ t7 (ok _ _ (by omega) (by omega)) pk
    · refine ⟨_, rfl, ?_⟩
      refine k ⟨false, 1 + v, _⟩ t7 (ok _ _ ?_ ?_) pk <;> (split <;> omega)
theorem perm_map_inv {α β : Type} (f : α → β) {l m : List β} (h : l.Perm m) : ∀ E : List α, m = E.map f → ∃ es : List α, es.Perm E ∧ l = es.map f := by
  induction h with
  | nil => intro E hE; exact ⟨[], by cases E with | nil => exact .refl _ | cons => simp at hE, rfl⟩
  | cons x h ih =>
    intro E hE
    cases E with
    | nil => simp at hE
    | cons e E =>
      simp only [List.map_cons, List.cons.injEq] at hE
      obtain ⟨es, h1, h2⟩ := ih E hE.2
      exact ⟨e :: es, h1.cons e, by rw [List.map_cons, ← h2, hE.1]⟩
  | swap x y l =>
    intro E hE
    match E, hE with
    | e :: e2 :: E, hE =>
      simp only [List.map_cons, List.cons.injEq] at hE
      obtain ⟨h1, h2, h3⟩ := hE
      exact ⟨e2 :: e :: E, List.Perm.swap .., by rw [List.map_cons, List.map_cons, h1, h2, h3]⟩
    | [e], hE => simp at hE
    | [], hE => simp at hE
  | trans h1 h2 ih1 ih2 =>
    intro E hE
    obtain ⟨es, p1, e1⟩ := ih2 E hE
    obtain ⟨es2, p2, e2⟩ := ih1 es e1
    exact ⟨es2, p2.trans p1, e2⟩
end Q
/-! MLoreR -/
namespace Q
open PySem
/-! ### what a lore tells of reaches -/
theorem SyB.s {s : Sy} (h : SyB s) : SyS s := by
  have p1 := h.1.p1
  have n1 := h.1.n1
  have := h.2.1
  have := h.2.2
  exact ⟨h.1, (sm64 (by omega) (by omega)).mono (by decide), (sm64 (by omega) (by omega)).mono (by decide)⟩
/-- the turns -/
def tr (f : Int → Bool) : Bool → List Ent → List (Int × Bool)
  | _, [] => []
  | z, e :: r => (if f e.m = z then [] else [(e.m, f e.m)]) ++ tr f (f e.m) r
def LoreS (W : Cl) (t : Ts) (a : Addr) (k : Int) (E : List Ent) : Prop := ∃ b es, LoreAt W t.obs a b k es ∧ E.Perm es ∧ Srt E ∧ E.length ≤ 200 ∧ (∀ e ∈ E, EB e) ∧ 2 ≤ k ∧ k ≤ 30
theorem LoreS.ok {W : Cl} {t : Ts} {a : Addr} {k : Int} {E : List Ent} (h : LoreS W t a k E) : ∀ e ∈ E, EOk e := fun e he => by
  obtain ⟨_, _, _, _, _, _, hE, _⟩ := h
  exact (hE e he).o
end Q
/-! MLoreF -/
namespace Q
open PySem
/-! ### how long a lore is, and who frees -/
def sp_Lore___len__ (W : Cl) : PSp := fun ds t P => ∃ a k E, ds = [.adr a] ∧ LoreS W t a k E ∧ P (.int E.length) t
theorem len_Lore___len__ (W : Cl) (as : List D) (t : Ts) (P : D → Ts → Prop) (h : sp_Lore___len__ W as t P) : as.length = 1 := by first | (obtain ⟨_, rfl, _⟩ := h; rfl) | (obtain ⟨_, _, rfl, _⟩ := h; rfl) | (obtain ⟨_, _, _, rfl, _⟩ := h; rfl) | (obtain ⟨_, _, _, _, rfl, _⟩ := h; rfl) | (obtain ⟨_, _, _, _, _, rfl, _⟩ := h; rfl) | (obtain ⟨_, _, _, _, _, _, rfl, _⟩ := h; rfl) | (obtain ⟨_, _, _, _, _, _, _, rfl, _⟩ := h; rfl) | (obtain ⟨_, _, _, _, _, _, _, _, rfl, _⟩ := h; rfl) | (obtain ⟨_, rfl | rfl, _⟩ := h <;> rfl) | (obtain ⟨_, _, rfl | rfl, _⟩ := h <;> rfl) | (obtain ⟨_, _, _, rfl | rfl, _⟩ := h <;> rfl) | (obtain ⟨_, _, _, _, rfl | rfl, _⟩ := h <;> rfl) | (obtain ⟨_, _, _, _, _, rfl | rfl, _⟩ := h <;> rfl) | (obtain ⟨_, _, _, _, _, _, rfl | rfl, _⟩ := h <;> rfl) | (obtain ⟨_, _, _, _, _, _, _, rfl | rfl, _⟩ := h <;> rfl) | (obtain ⟨_, _, _, _, _, _, _, _, rfl | rfl, _⟩ := h <;> rfl)
def d_Lore___len__ (W : Cl) : DS := (dSeq (dRet (dLenO (dFldO W.Lore "kept" (dVar 0)))) dNext)
theorem d_Lore___len___ok (W : Cl) (as : List D) (t : Ts) (P : D → Ts → Prop) (h : sp_Lore___len__ W as t P) : d_Lore___len__ W (endsOf P) (start0 ["self"] as) t := by
  obtain ⟨a, k0, E, rfl, L, k⟩ := h
  obtain ⟨b, es, LA, hp, hs, hl, hE, h2, h30⟩ := L
  conv => whnf
  refine ⟨_, _, _, LA.A, rfl, ?_⟩
  conv => whnf
  refine ⟨_, _, LA.B, ?_⟩
  conv => whnf
  have e : (kysE es).length = E.length := by unfold kysE; rw [List.length_map]; exact hp.length_eq.symm
  rw [e]
  exact k
end Q
/-! M_k80a -/
namespace Q
open PySem
/-! ### how an entry is refused -/
end Q
/-! M_k80b -/
namespace Q
open PySem
def sp__law_tell_2 (W : Cl) : PSp := fun ds t P => ∃ a e, ds = [.adr a, entD e] ∧ PutS W a e t P
def sp__law_lore_2 (W : Cl) : PSp := fun ds t P => ∃ (k : Int) (es : List Ent), ds = [.int k, .lst (es.map entD)] ∧ 2 ≤ k ∧ k ≤ 30 ∧ (∀ e ∈ es, EOk e) ∧ es.Pairwise (fun e f => e.m ≠ f.m) ∧ es.length ≤ 500 ∧ ∀ a b t', t.obs a = none → t.obs b = none → Fr t t' [a, b] → LoreAt W t'.obs a b k es → P (.adr a) t'
def sp_Lore_base (W : Cl) : PSp := fun ds t P => ∃ a b k es, ds = [.adr a] ∧ LoreAt W t.obs a b k es ∧ P (.int k) t
theorem len__law_tell_2 (W : Cl) (as : List D) (t : Ts) (P : D → Ts → Prop) (h : sp__law_tell_2 W as t P) : as.length = 2 := by first | (obtain ⟨_, rfl, _⟩ := h; rfl) | (obtain ⟨_, _, rfl, _⟩ := h; rfl) | (obtain ⟨_, _, _, rfl, _⟩ := h; rfl) | (obtain ⟨_, _, _, _, rfl, _⟩ := h; rfl) | (obtain ⟨_, _, _, _, _, rfl, _⟩ := h; rfl) | (obtain ⟨_, _, _, _, _, _, rfl, _⟩ := h; rfl) | (obtain ⟨_, _, _, _, _, _, _, rfl, _⟩ := h; rfl) | (obtain ⟨_, _, _, _, _, _, _, _, rfl, _⟩ := h; rfl) | (obtain ⟨_, rfl | rfl, _⟩ := h <;> rfl) | (obtain ⟨_, _, rfl | rfl, _⟩ := h <;> rfl) | (obtain ⟨_, _, _, rfl | rfl, _⟩ := h <;> rfl) | (obtain ⟨_, _, _, _, rfl | rfl, _⟩ := h <;> rfl) | (obtain ⟨_, _, _, _, _, rfl | rfl, _⟩ := h <;> rfl) | (obtain ⟨_, _, _, _, _, _, rfl | rfl, _⟩ := h <;> rfl) | (obtain ⟨_, _, _, _, _, _, _, rfl | rfl, _⟩ := h <;> rfl) | (obtain ⟨_, _, _, _, _, _, _, _, rfl | rfl, _⟩ := h <;> rfl)
theorem len__law_lore_2 (W : Cl) (as : List D) (t : Ts) (P : D → Ts → Prop) (h : sp__law_lore_2 W as t P) : as.length = 2 := by first | (obtain ⟨_, rfl, _⟩ := h; rfl) | (obtain ⟨_, _, rfl, _⟩ := h; rfl) | (obtain ⟨_, _, _, rfl, _⟩ := h; rfl) | (obtain ⟨_, _, _, _, rfl, _⟩ := h; rfl) | (obtain ⟨_, _, _, _, _, rfl, _⟩ := h; rfl) | (obtain ⟨_, _, _, _, _, _, rfl, _⟩ := h; rfl) | (obtain ⟨_, _, _, _, _, _, _, rfl, _⟩ := h; rfl) | (obtain ⟨_, _, _, _, _, _, _, _, rfl, _⟩ := h; rfl) | (obtain ⟨_, rfl | rfl, _⟩ := h <;> rfl) | (obtain ⟨_, _, rfl | rfl, _⟩ := h <;> rfl) | (obtain ⟨_, _, _, rfl | rfl, _⟩ := h <;> rfl) | (obtain ⟨_, _, _, _, rfl | rfl, _⟩ := h <;> rfl) | (obtain ⟨_, _, _, _, _, rfl | rfl, _⟩ := h <;> rfl) | (obtain ⟨_, _, _, _, _, _, rfl | rfl, _⟩ := h <;> rfl) | (obtain ⟨_, _, _, _, _, _, _, rfl | rfl, _⟩ := h <;> rfl) | (obtain ⟨_, _, _, _, _, _, _, _, rfl | rfl, _⟩ := h <;> rfl)
theorem len_Lore_base (W : Cl) (as : List D) (t : Ts) (P : D → Ts → Prop) (h : sp_Lore_base W as t P) : as.length = 1 := by first | (obtain ⟨_, rfl, _⟩ := h; rfl) | (obtain ⟨_, _, rfl, _⟩ := h; rfl) | (obtain ⟨_, _, _, rfl, _⟩ := h; rfl) | (obtain ⟨_, _, _, _, rfl, _⟩ := h; rfl) | (obtain ⟨_, _, _, _, _, rfl, _⟩ := h; rfl) | (obtain ⟨_, _, _, _, _, _, rfl, _⟩ := h; rfl) | (obtain ⟨_, _, _, _, _, _, _, rfl, _⟩ := h; rfl) | (obtain ⟨_, _, _, _, _, _, _, _, rfl, _⟩ := h; rfl) | (obtain ⟨_, rfl | rfl, _⟩ := h <;> rfl) | (obtain ⟨_, _, rfl | rfl, _⟩ := h <;> rfl) | (obtain ⟨_, _, _, rfl | rfl, _⟩ := h <;> rfl) | (obtain ⟨_, _, _, _, rfl | rfl, _⟩ := h <;> rfl) | (obtain ⟨_, _, _, _, _, rfl | rfl, _⟩ := h <;> rfl) | (obtain ⟨_, _, _, _, _, _, rfl | rfl, _⟩ := h <;> rfl) | (obtain ⟨_, _, _, _, _, _, _, rfl | rfl, _⟩ := h <;> rfl) | (obtain ⟨_, _, _, _, _, _, _, _, rfl | rfl, _⟩ := h <;> rfl)
def d__law_tell_2 (W : Cl) : DS := (dSeq (dAsg (dVar 1) (gTup 3 (gCons (gName 2) (gCons (gName 3) (gCons (gName 4) gNil))))) (dSeq (dIf (dB (dIsi [.tup] (dVar 4))) (dSeq (dDrop (dMethO W.Lore "sees" (spNoE (sp_Lore_sees W)) [] (dVar 0) (dCons (dVar 2) (dCons (dVar 3) (dCons (dVar 4) dNil))))) dNext) (dSeq (dIf (dB (dVar 4)) (dSeq (dDrop (dMethO W.Lore "trusts" (spNoE (sp_Lore_trusts W)) [] (dVar 0) (dCons (dVar 2) (dCons (dVar 3) dNil)))) dNext) (dSeq (dDrop (dMethO W.Lore "leaves" (spNoE (sp_Lore_leaves W)) [] (dVar 0) (dCons (dVar 2) (dCons (dVar 3) dNil)))) dNext)) dNext)) dNext))
def d__law_lore_2 (W : Cl) : DS := (dSeq (dAsg (dMakeO W.Lore (spNoE (sp_Lore___init__ W)) [] (dCons (dVar 0) dNil)) (gName 2)) (dSeq (dFor (iSeq (dVar 1)) (gName 3) (dSeq (dDrop (dCall (sp__law_tell_2 W) [] (dCons (dVar 2) (dCons (dVar 3) dNil)))) dNext)) (dSeq (dRet (dVar 2)) dNext)))
def d_Lore_base (W : Cl) : DS := (dSeq (dRet (dFldO W.Lore "kept_base" (dVar 0))) dNext)
theorem it3 {x y z : D} (h1 : tnOk x) (h2 : tnOk y) (h3 : tnOk z) : ∀ d ∈ [x, y, z], tnOk d := fun d hd => by
  simp only [List.mem_cons, List.not_mem_nil, or_false] at hd
  rcases hd with rfl | rfl | rfl <;> assumption
theorem d__law_tell_2_ok (W : Cl) (as : List D) (t : Ts) (P : D → Ts → Prop) (h : sp__law_tell_2 W as t P) : d__law_tell_2 W (endsOf P) (start0 ["_law_lore_here", "_law_entry", "_law_moment", "_law_teller", "_law_what"] as) t := by
  obtain ⟨a, ⟨m, n, w⟩, rfl, h⟩ := h
  obtain ⟨b, k, hA⟩ := h.at
  cases w with
  | bl bb =>
    cases bb with
    | true =>
      conv => whnf
      refine ⟨rfl, ?_⟩
      conv => whnf
      refine ⟨_, _, hA, rfl, ?_⟩
      exact ⟨a, .int m, .str n, rfl, PutE.of (P := fun _ t1 => P .non t1) h⟩
    | false =>
      conv => whnf
      refine ⟨rfl, ?_⟩
      conv => whnf
      refine ⟨_, _, hA, rfl, ?_⟩
      exact ⟨a, .int m, .str n, rfl, PutE.of (P := fun _ t1 => P .non t1) h⟩
  | sy s =>
    obtain ⟨w, p, q⟩ := s
    cases w with
    | true =>
      conv => whnf
      refine ⟨rfl, ?_⟩
      conv => whnf
      refine ⟨_, _, hA, rfl, ?_⟩
      exact ⟨a, .int m, .str n, syD ⟨true, p, q⟩, rfl, ⟨_, rfl⟩, PutE.of (P := fun _ t1 => P .non t1) h⟩
    | false =>
      conv => whnf
      refine ⟨rfl, ?_⟩
      conv => whnf
      refine ⟨_, _, hA, rfl, ?_⟩
      exact ⟨a, .int m, .str n, syD ⟨false, p, q⟩, rfl, ⟨_, rfl⟩, PutE.of (P := fun _ t1 => P .non t1) h⟩
theorem d__law_lore_2_ok (W : Cl) (as : List D) (t : Ts) (P : D → Ts → Prop) (h : sp__law_lore_2 W as t P) : d__law_lore_2 W (endsOf P) (start0 ["_law_base", "_law_entries_here", "_law_found", "_law_entry"] as) t := by
  obtain ⟨k0, es, rfl, k2, k30, hes, hp, hl, k⟩ := h
  conv => whnf
  refine fun a ha => ⟨a, .int k0, rfl, ⟨_, rfl⟩, Ts.put_same .., fun z => ?_, fun k1 ek _ _ b t1 hb f1 L1 => ?_⟩
  · have z : decide (2 ≤ k0 ∧ k0 ≤ 30) = false := z
    exact absurd ⟨k2, k30⟩ (of_decide_eq_false z)
  cases ek
  refine ⟨rfl, ?_⟩
  have nb : b ≠ a := fun z => by
    rw [z, Ts.put_same] at hb
    cases hb
  have hb2 : t.obs b = none := by
    rwa [Ts.put_ne _ _ nb] at hb
  have f2 : Fr t t1 [a, b] := ⟨f1.b, fun c hc => by
    rw [f1.o c hc, Ts.put_ne _ _ (fun z => hc (by rw [z]; exact List.mem_cons_self ..))]⟩
  conv => whnf
  refine ⟨fun i e m => Fr t m [a, b] ∧ LoreAt W m.obs a b k0 (es.take i) ∧ ∃ s3 : Sl, e = [.val (.int k0), .val (.lst (es.map entD)), .val (.adr a), s3], ⟨f2, L1, _, rfl⟩, fun i x e m hx hI => ?_, fun e m hI => ?_⟩
  · obtain ⟨fm, Lm, s3, rfl⟩ := hI
    rw [List.getElem?_map] at hx
    cases hq : es[i]? with
    | none => rw [hq] at hx; cases hx
    | some e =>
      rw [hq] at hx
      cases hx
      have hm := List.mem_of_getElem? hq
      have hil := (List.getElem?_eq_some_iff.mp hq).1
      conv => whnf
      refine ⟨a, e, rfl, b, k0, es.take i, Lm, hes e hm, by rw [List.length_take]; omega, pw_take hp hq, fun t' ft Lt => ?_⟩
      refine ⟨fm.trans (ft.wide fun c hc => List.mem_cons_of_mem _ hc), ?_, _, rfl⟩
      rw [take_snoc hq]
      exact Lt
  · obtain ⟨fm, Lm, s3, rfl⟩ := hI
    rw [List.length_map, List.take_length] at Lm
    exact k a b m ha hb2 fm Lm
theorem d_Lore_base_ok (W : Cl) (as : List D) (t : Ts) (P : D → Ts → Prop) (h : sp_Lore_base W as t P) : d_Lore_base W (endsOf P) (start0 ["self"] as) t := by
  obtain ⟨a, b, k0, es, rfl, L, k⟩ := h
  conv => whnf
  refine ⟨_, _, _, L.A, rfl, ?_⟩
  exact k
end Q
/-! MTxM -/
namespace Q
open PySem
/-! ### entries and lores written -/
def bdT (w : Bool) : Str := match w with | true => "most" | false => "least"
def trT (b : Bool) : Str := match b with | true => "trusted" | false => "left"
def sayW (s : Sy) : List Str := [nt s.p, "at", bdT s.w, nt s.n]
def entW (e : Ent) : List Str := nt e.m :: e.n :: (match e.w with
  | .bl b => ["is", trT b]
  | .sy s => "sees" :: sayW s)
def entT (e : Ent) : Str := blW (entW e)
structure SyR (s : Sy) : Prop where
  ok : s.Ok
  pl : s.p < 10 ^ 120
  nl : s.n < 10 ^ 120
structure ER (e : Ent) : Prop where
  o : EOk e
  ml : e.m < 10 ^ 120
  s : ∀ s, e.w = .sy s → SyR s
theorem tl_nl : tl (("\n" : Str)) = [10] := by decide +kernel
theorem nt_fO {i : Int} (h0 : 0 ≤ i) (h : i < 10 ^ 120) : figO (tl (nt i)) = some i := by
  rw [tl_nt h0]
  have e : ((10 : Int) ^ 120) = ((10 ^ 120 : Nat) : Int) := by simp
  have := figO_num (n := i.toNat) (Nat.le_trans (numL_len (k := 120) (by decide) (by omega)) (by decide))
  rw [this]
  congr 1
  omega
theorem sayO_sayW {s : Sy} (h : SyR s) : sayO (sayW s) = some s := by
  obtain ⟨w, p, n⟩ := s
  have p1 : 1 ≤ p := h.ok.1
  have n1 : 1 ≤ n := h.ok.2
  have fp : figO (tl (nt p)) = some p := nt_fO (by omega) h.pl
  have fn : figO (tl (nt n)) = some n := nt_fO (by omega) h.nl
  have e : sayO (sayW ⟨w, p, n⟩) = say2 (nt p) (bdT w) (nt n) := by
    unfold sayO sayW
    exact if_pos rfl
  rw [e]
  unfold say2
  rw [fp, fn]
  have mk : mkSy w p n = some ⟨w, p, n⟩ := if_pos ⟨p1, n1⟩
  cases w with
  | true =>
    show (if bdT true = "most" then mkSy true p n else _) = _
    rw [if_pos (show bdT true = "most" from rfl), mk]
  | false =>
    show (if bdT false = "most" then mkSy true p n else if bdT false = "least" then mkSy false p n else none) = _
    rw [if_neg (by decide +kernel), if_pos (show bdT false = "least" from rfl), mk]
theorem wd_B {n : Str} (h : Wd n) : wdB n = true := by
  unfold wdB
  have h1 := h.l1
  have h2 := h.l2
  simp only [Bool.and_eq_true, decide_eq_true_eq, List.all_eq_true]
  exact ⟨h1, h2, h.s⟩
theorem entO_entW {e : Ent} (h : ER e) : entO (entW e) = some e := by
  obtain ⟨m, n, w⟩ := e
  have hm : figO (tl (nt m)) = some m := nt_fO h.o.m0 h.ml
  have hn : wdB n = true := wd_B h.o.n
  cases w with
  | bl b =>
    show entO (nt m :: n :: "is" :: trT b :: []) = _
    rw [ent4 hm, hn, if_pos rfl]
    cases b with
    | true =>
      rw [if_pos ⟨rfl, rfl, .inr rfl⟩]
      rfl
    | false =>
      rw [if_pos ⟨rfl, rfl, .inl rfl⟩]
      rfl
  | sy s =>
    show entO (nt m :: n :: "sees" :: nt s.p :: ["at", bdT s.w, nt s.n]) = _
    rw [ent4 hm, hn, if_pos rfl, if_neg (fun z => absurd z.1 (by decide +kernel)), if_pos rfl]
    have := sayO_sayW (h.s s rfl)
    unfold sayW at this
    rw [this]
    rfl
/-- a word without a sign, of few signs -/
structure WdF (w : Str) : Prop where
  b : 32 ∉ tl w
  n : 10 ∉ tl w
  l : w.length ≤ 120
  p : plain (.str w) = true
theorem WdF.nt {i : Int} (h0 : 0 ≤ i) (h : i < 10 ^ 120) : WdF (nt i) := by
  refine ⟨nt_free h0, ?_, nt_bnd h0 h, nt_plain h0⟩
  rw [tl_nt h0]
  exact TL.numL_free (by decide)
theorem WdF.wd {w : Str} (h : Wd w) : WdF w := by
  refine ⟨fun hc => ?_, fun hc => ?_, by have := h.l2; omega, plain_wd h⟩
  · have := h.s _ hc
    unfold Lt at this
    omega
  · have := h.s _ hc
    unfold Lt at this
    omega
theorem entW_free {e : Ent} (h : ER e) : ∀ w ∈ entW e, WdF w := fun w hw => by
  obtain ⟨m, n, v⟩ := e
  have hm : WdF (Q.nt m) := .nt h.o.m0 h.ml
  have hn : WdF n := .wd h.o.n
  cases v with
  | bl b =>
    have hw : w ∈ [Q.nt m, n, ("is" : Str), trT b] := hw
    simp only [List.mem_cons, List.not_mem_nil, or_false] at hw
    rcases hw with rfl | rfl | rfl | rfl
    · exact hm
    · exact hn
    · exact ⟨by decide +kernel, by decide +kernel, by decide +kernel, by decide +kernel⟩
    · cases b <;> exact ⟨by decide +kernel, by decide +kernel, by decide +kernel, by decide +kernel⟩
  | sy s =>
    have hs := h.s s rfl
    have p1 := hs.ok.1
    have n1 := hs.ok.2
    have hw : w ∈ [Q.nt m, n, ("sees" : Str), Q.nt s.p, ("at" : Str), bdT s.w, Q.nt s.n] := hw
    simp only [List.mem_cons, List.not_mem_nil, or_false] at hw
    rcases hw with rfl | rfl | rfl | rfl | rfl | rfl | rfl
    · exact hm
    · exact hn
    · exact ⟨by decide +kernel, by decide +kernel, by decide +kernel, by decide +kernel⟩
    · exact .nt (by omega) hs.pl
    · exact ⟨by decide +kernel, by decide +kernel, by decide +kernel, by decide +kernel⟩
    · cases s.w <;> exact ⟨by decide +kernel, by decide +kernel, by decide +kernel, by decide +kernel⟩
    · exact .nt (by omega) hs.nl
theorem entW_len (e : Ent) : (entW e).length ≤ 7 ∧ entW e ≠ [] := by
  obtain ⟨m, n, v⟩ := e
  cases v with
  | bl b => exact ⟨by show 4 ≤ 7; decide, by simp [entW]⟩
  | sy s => exact ⟨by show 7 ≤ 7; decide, by simp [entW]⟩
theorem blW_mem {c : Nat} (hc : c ≠ 32) : ∀ {ws : List Str}, (∀ w ∈ ws, c ∉ tl w) → c ∉ tl (blW ws)
  | [], _ => by rw [tl_bl1]; exact fun h => by cases h
  | [x], h => by rw [blW_one]; exact h x (List.mem_cons_self ..)
  | x :: y :: r, h => by
    rw [blW_cons, tl_app, tl_app, tl_blank]
    have ih := blW_mem hc (ws := y :: r) fun w hw => h w (List.mem_cons_of_mem _ hw)
    intro z
    simp only [List.mem_append, List.mem_cons, List.not_mem_nil, or_false] at z
    rcases z with (z | z) | z
    · exact h x (List.mem_cons_self ..) z
    · exact hc z
    · exact ih z
theorem blW_plain : ∀ {ws : List Str}, (∀ w ∈ ws, plain (.str w) = true) → plain (.str (blW ws)) = true := fun {ws} h => by
  refine plain_of fun c hc => ?_
  induction ws with
  | nil => rw [tl_bl1] at hc; cases hc
  | cons x r ih =>
    have hx : ∀ c ∈ tl x, c < 0x110000 := fun c hc => by
      have := h x (List.mem_cons_self ..)
      have : x.cps.all (· < 0x110000) = true := this
      rw [← Array.all_toList] at this
      exact of_decide_eq_true (List.all_eq_true.mp this c hc)
    cases r with
    | nil =>
      rw [blW_one] at hc
      exact hx c hc
    | cons y r =>
      rw [blW_cons, tl_app, tl_app, tl_blank] at hc
      simp only [List.mem_append, List.mem_cons, List.not_mem_nil, or_false] at hc
      rcases hc with (hc | hc) | hc
      · exact hx c hc
      · omega
      · exact ih (fun w hw => h w (List.mem_cons_of_mem _ hw)) hc
theorem entT_free {e : Ent} (h : ER e) : 10 ∉ tl (entT e) ∧ (entT e).length ≤ 850 ∧ plain (.str (entT e)) = true := by
  have hw := entW_free h
  refine ⟨blW_mem (by decide) fun w hm => (hw w hm).n, ?_, blW_plain fun w hm => (hw w hm).p⟩
  have h1 := blW_len (entW e)
  have h2 := (lens_le fun w hm => (hw w hm).l).1
  have h3 := (entW_len e).1
  have : (120 + 1) * (entW e).length ≤ 121 * 7 := Nat.mul_le_mul_left _ h3
  unfold entT
  omega
theorem entT_split {e : Ent} (h : ER e) : Txt.split (entT e) " " = entW e := split_bl (entW_len e).2 fun w hm => (entW_free h w hm).b
/-- rows, parted by a line feed -/
def lnW (ws : List Str) : Str := ⟨(joinC "\n" ws).toArray⟩
theorem split_nl {ws : List Str} (hne : ws ≠ []) (h : ∀ w ∈ ws, 10 ∉ tl w) : Txt.split (lnW ws) "\n" = ws := by
  have e : lnW ws = Txt.join "\n" ws := by
    refine tl_ext ?_
    rw [TL.join_eq]
    exact (joinC_is "\n" ws).trans (TL.tl_join "\n" ws).symm
  rw [e]
  exact TL.split_join tl_nl (by decide +kernel) hne h
theorem lnW_len : ∀ ws : List Str, (lnW ws).length ≤ (ws.map (·.length + 1)).sum
  | [] => Nat.zero_le _
  | [x] => by
    have e : lnW [x] = x := tl_ext rfl
    rw [e]; simp
  | x :: y :: r => by
    have e : lnW (x :: y :: r) = x ++ "\n" ++ lnW (y :: r) := tl_ext (by
      rw [tl_app, tl_app]
      rfl)
    rw [e, len_app, len_app]
    have := lnW_len (y :: r)
    simp only [List.map_cons, List.sum_cons] at this ⊢
    have e : (("\n" : Str)).length = 1 := by decide +kernel
    omega
def txL (k : Int) : Str := blW ["lore", nt k]
theorem txL_free {k : Int} (h2 : 2 ≤ k) (h30 : k ≤ 30) : 10 ∉ tl (txL k) ∧ (txL k).length ≤ 850 ∧ plain (.str (txL k)) = true := by
  have hk : WdF (nt k) := .nt (by omega) (Int.lt_of_le_of_lt h30 (by decide))
  have hw : ∀ w ∈ [("lore" : Str), nt k], WdF w := fun w hw => by
    simp only [List.mem_cons, List.not_mem_nil, or_false] at hw
    rcases hw with rfl | rfl
    · exact ⟨by decide +kernel, by decide +kernel, by decide +kernel, by decide +kernel⟩
    · exact hk
  refine ⟨blW_mem (by decide) fun w hm => (hw w hm).n, ?_, blW_plain fun w hm => (hw w hm).p⟩
  have h1 := blW_len [("lore" : Str), nt k]
  have h2 := (lens_le fun w hm => (hw w hm).l).1
  have : (120 + 1) * ([("lore" : Str), nt k]).length = 242 := rfl
  unfold txL
  omega
theorem txL_split {k : Int} (h2 : 2 ≤ k) : Txt.split (txL k) " " = [("lore" : Str), nt k] := split_bl (by simp) fun w hw => by
  simp only [List.mem_cons, List.not_mem_nil, or_false] at hw
  rcases hw with rfl | rfl
  · decide +kernel
  · exact nt_free (by omega)
def loreT (k : Int) (E : List Ent) : Str := lnW (txL k :: E.map entT)
theorem rows_free {k : Int} {E : List Ent} (h2 : 2 ≤ k) (h30 : k ≤ 30) (hE : ∀ e ∈ E, ER e) : ∀ w ∈ txL k :: E.map entT, 10 ∉ tl w ∧ w.length ≤ 850 ∧ plain (.str w) = true := fun w hw => by
  rcases List.mem_cons.mp hw with rfl | hw
  · exact txL_free h2 h30
  · obtain ⟨e, he, rfl⟩ := List.mem_map.mp hw
    exact entT_free (hE e he)
theorem loreT_split {k : Int} {E : List Ent} (h2 : 2 ≤ k) (h30 : k ≤ 30) (hE : ∀ e ∈ E, ER e) : Txt.split (loreT k E) "\n" = txL k :: E.map entT := split_nl (by simp) fun w hw => (rows_free h2 h30 hE w hw).1
theorem sum_len {ws : List Str} {c n : Nat} (h : ∀ w ∈ ws, w.length ≤ c) (hl : ws.length ≤ n) : (ws.map (·.length)).sum ≤ c * n ∧ (ws.map (·.length + 1)).sum ≤ (c + 1) * n := by
  obtain ⟨h1, h2⟩ := lens_le h
  exact ⟨Nat.le_trans h2 (Nat.mul_le_mul_left _ hl), Nat.le_trans h1 (Nat.mul_le_mul_left _ hl)⟩
theorem loreT_len {k : Int} {E : List Ent} (h2 : 2 ≤ k) (h30 : k ≤ 30) (hE : ∀ e ∈ E, ER e) (hl : E.length ≤ 120) : (loreT k E).length ≤ 1000000 := by
  have h1 := lnW_len (txL k :: E.map entT)
  have h3 := (sum_len (n := 121) (fun w hw => (rows_free h2 h30 hE w hw).2.1) (by rw [List.length_cons, List.length_map]; omega)).2
  unfold loreT
  omega
end Q
/-! MTxN -/
namespace Q
open PySem
/-! ### entries and lores: shown, told, read -/
def TellS (W : Cl) (a : Addr) (e : Ent) (t : Ts) (P : D → Ts → Prop) (Px : PX) : Prop := ∃ b k es, LoreAt W t.obs a b k es ∧ EOk e ∧ es.length < 1000 ∧ ((∃ f ∈ es, f.m = e.m) → Px .SameMoment (.int e.m) t) ∧ ((∀ f ∈ es, f.m ≠ e.m) → ∀ t', Fr t t' [b] → LoreAt W t'.obs a b k (es ++ [e]) → P .non t')
theorem PutE.of2 {W : Cl} {a : Addr} {e : Ent} {t : Ts} {P : D → Ts → Prop} {Px : PX} (h : TellS W a e t P Px) : PutE W a (.int e.m) (.str e.n) (whD e.w) t P Px := by
  obtain ⟨b, k, es, L, eo, hl, hx, hk⟩ := h
  by_cases hne : ∃ f ∈ es, f.m = e.m
  · have lw : e.n.length ≤ 12 := by have := eo.n.l2; omega
    have hm : momB (.int e.m) = true := decide_eq_true eo.m0
    have ht : telB (.str e.n) = true := wd_B eo.n
    have hw := whB_wh eo.w
    refine ⟨b, k, es, L, hl, ⟨⟨_, rfl⟩, ⟨_, rfl⟩, (fun w ew => by cases ew; unfold zLen; omega), ?_, ?_⟩, (fun z => by rw [hm] at z; cases z), (fun _ z => by rw [ht] at z; cases z), (fun _ _ z => by rw [hw] at z; cases z), fun m n w e1 e2 e3 eo' => ?_⟩
    · obtain ⟨m, n, w⟩ := e
      cases w with
      | bl b => exact ⟨_, rfl⟩
      | sy s => obtain ⟨w, p, q⟩ := s; cases w <;> exact ⟨_, rfl⟩
    · obtain ⟨m, n, w⟩ := e
      cases w with
      | bl b => trivial
      | sy s => obtain ⟨w, p, q⟩ := s; cases w <;> exact it3 ⟨_, rfl⟩ ⟨_, rfl⟩ ⟨_, rfl⟩
    · cases e1
      exact ⟨fun h => hx h, fun z => absurd hne (fun ⟨f, hf, hm⟩ => z f hf hm)⟩
  · have hne : ∀ f ∈ es, f.m ≠ e.m := fun f hf z => hne ⟨f, hf, z⟩
    exact PutE.of ⟨b, k, es, L, eo, hl, hne, hk hne⟩
def sp_tell (W : Cl) : PSpE := fun ds t P Px => ∃ a e, ds = [.adr a, entD e] ∧ TellS W a e t P Px
def sp_show_saying : PSp := fun ds t P => ∃ s, ds = [syD s] ∧ SyR s ∧ P (.str (blW (sayW s))) t
def sp_show_entry : PSp := fun ds t P => ∃ e, ds = [entD e] ∧ ER e ∧ P (.str (entT e)) t
def sp__law_row_3 : PSp := fun ds t P => ∃ e, ds = [entD e] ∧ ER e ∧ P (.str (entT e)) t
def sp_show_lore (W : Cl) : PSp := fun ds t P => ∃ a b k es E, ds = [.adr a] ∧ LoreAt W t.obs a b k es ∧ E.Perm es ∧ Srt E ∧ E.length ≤ 100 ∧ (∀ e ∈ E, ER e) ∧ 2 ≤ k ∧ k ≤ 30 ∧ P (.str (loreT k E)) t
theorem len_tell (W : Cl) (as : List D) (t : Ts) (P : D → Ts → Prop) (Px : PX) (h : sp_tell W as t P Px) : as.length = 2 := by first | (obtain ⟨_, rfl, _⟩ := h; rfl) | (obtain ⟨_, _, rfl, _⟩ := h; rfl) | (obtain ⟨_, _, _, rfl, _⟩ := h; rfl) | (obtain ⟨_, _, _, _, rfl, _⟩ := h; rfl) | (obtain ⟨_, _, _, _, _, rfl, _⟩ := h; rfl) | (obtain ⟨_, _, _, _, _, _, rfl, _⟩ := h; rfl) | (obtain ⟨_, _, _, _, _, _, _, rfl, _⟩ := h; rfl) | (obtain ⟨_, _, _, _, _, _, _, _, rfl, _⟩ := h; rfl)
theorem len_show_saying (as : List D) (t : Ts) (P : D → Ts → Prop) (h : sp_show_saying as t P) : as.length = 1 := by first | (obtain ⟨_, rfl, _⟩ := h; rfl) | (obtain ⟨_, _, rfl, _⟩ := h; rfl) | (obtain ⟨_, _, _, rfl, _⟩ := h; rfl) | (obtain ⟨_, _, _, _, rfl, _⟩ := h; rfl) | (obtain ⟨_, _, _, _, _, rfl, _⟩ := h; rfl) | (obtain ⟨_, _, _, _, _, _, rfl, _⟩ := h; rfl) | (obtain ⟨_, _, _, _, _, _, _, rfl, _⟩ := h; rfl) | (obtain ⟨_, _, _, _, _, _, _, _, rfl, _⟩ := h; rfl) | (obtain ⟨_, rfl | rfl, _⟩ := h <;> rfl) | (obtain ⟨_, _, rfl | rfl, _⟩ := h <;> rfl) | (obtain ⟨_, _, _, rfl | rfl, _⟩ := h <;> rfl) | (obtain ⟨_, _, _, _, rfl | rfl, _⟩ := h <;> rfl) | (obtain ⟨_, _, _, _, _, rfl | rfl, _⟩ := h <;> rfl) | (obtain ⟨_, _, _, _, _, _, rfl | rfl, _⟩ := h <;> rfl) | (obtain ⟨_, _, _, _, _, _, _, rfl | rfl, _⟩ := h <;> rfl) | (obtain ⟨_, _, _, _, _, _, _, _, rfl | rfl, _⟩ := h <;> rfl)
theorem len_show_entry (as : List D) (t : Ts) (P : D → Ts → Prop) (h : sp_show_entry as t P) : as.length = 1 := by first | (obtain ⟨_, rfl, _⟩ := h; rfl) | (obtain ⟨_, _, rfl, _⟩ := h; rfl) | (obtain ⟨_, _, _, rfl, _⟩ := h; rfl) | (obtain ⟨_, _, _, _, rfl, _⟩ := h; rfl) | (obtain ⟨_, _, _, _, _, rfl, _⟩ := h; rfl) | (obtain ⟨_, _, _, _, _, _, rfl, _⟩ := h; rfl) | (obtain ⟨_, _, _, _, _, _, _, rfl, _⟩ := h; rfl) | (obtain ⟨_, _, _, _, _, _, _, _, rfl, _⟩ := h; rfl) | (obtain ⟨_, rfl | rfl, _⟩ := h <;> rfl) | (obtain ⟨_, _, rfl | rfl, _⟩ := h <;> rfl) | (obtain ⟨_, _, _, rfl | rfl, _⟩ := h <;> rfl) | (obtain ⟨_, _, _, _, rfl | rfl, _⟩ := h <;> rfl) | (obtain ⟨_, _, _, _, _, rfl | rfl, _⟩ := h <;> rfl) | (obtain ⟨_, _, _, _, _, _, rfl | rfl, _⟩ := h <;> rfl) | (obtain ⟨_, _, _, _, _, _, _, rfl | rfl, _⟩ := h <;> rfl) | (obtain ⟨_, _, _, _, _, _, _, _, rfl | rfl, _⟩ := h <;> rfl)
theorem len__law_row_3 (as : List D) (t : Ts) (P : D → Ts → Prop) (h : sp__law_row_3 as t P) : as.length = 1 := by first | (obtain ⟨_, rfl, _⟩ := h; rfl) | (obtain ⟨_, _, rfl, _⟩ := h; rfl) | (obtain ⟨_, _, _, rfl, _⟩ := h; rfl) | (obtain ⟨_, _, _, _, rfl, _⟩ := h; rfl) | (obtain ⟨_, _, _, _, _, rfl, _⟩ := h; rfl) | (obtain ⟨_, _, _, _, _, _, rfl, _⟩ := h; rfl) | (obtain ⟨_, _, _, _, _, _, _, rfl, _⟩ := h; rfl) | (obtain ⟨_, _, _, _, _, _, _, _, rfl, _⟩ := h; rfl) | (obtain ⟨_, rfl | rfl, _⟩ := h <;> rfl) | (obtain ⟨_, _, rfl | rfl, _⟩ := h <;> rfl) | (obtain ⟨_, _, _, rfl | rfl, _⟩ := h <;> rfl) | (obtain ⟨_, _, _, _, rfl | rfl, _⟩ := h <;> rfl) | (obtain ⟨_, _, _, _, _, rfl | rfl, _⟩ := h <;> rfl) | (obtain ⟨_, _, _, _, _, _, rfl | rfl, _⟩ := h <;> rfl) | (obtain ⟨_, _, _, _, _, _, _, rfl | rfl, _⟩ := h <;> rfl) | (obtain ⟨_, _, _, _, _, _, _, _, rfl | rfl, _⟩ := h <;> rfl)
theorem len_show_lore (W : Cl) (as : List D) (t : Ts) (P : D → Ts → Prop) (h : sp_show_lore W as t P) : as.length = 1 := by first | (obtain ⟨_, rfl, _⟩ := h; rfl) | (obtain ⟨_, _, rfl, _⟩ := h; rfl) | (obtain ⟨_, _, _, rfl, _⟩ := h; rfl) | (obtain ⟨_, _, _, _, rfl, _⟩ := h; rfl) | (obtain ⟨_, _, _, _, _, rfl, _⟩ := h; rfl) | (obtain ⟨_, _, _, _, _, _, rfl, _⟩ := h; rfl) | (obtain ⟨_, _, _, _, _, _, _, rfl, _⟩ := h; rfl) | (obtain ⟨_, _, _, _, _, _, _, _, rfl, _⟩ := h; rfl) | (obtain ⟨_, rfl | rfl, _⟩ := h <;> rfl) | (obtain ⟨_, _, rfl | rfl, _⟩ := h <;> rfl) | (obtain ⟨_, _, _, rfl | rfl, _⟩ := h <;> rfl) | (obtain ⟨_, _, _, _, rfl | rfl, _⟩ := h <;> rfl) | (obtain ⟨_, _, _, _, _, rfl | rfl, _⟩ := h <;> rfl) | (obtain ⟨_, _, _, _, _, _, rfl | rfl, _⟩ := h <;> rfl) | (obtain ⟨_, _, _, _, _, _, _, rfl | rfl, _⟩ := h <;> rfl) | (obtain ⟨_, _, _, _, _, _, _, _, rfl | rfl, _⟩ := h <;> rfl)
def d_tell (W : Cl) (Px : PX) : DS := (dSeq (dAsg (dVar 1) (gTup 3 (gCons (gName 2) (gCons (gName 3) (gCons (gName 4) gNil))))) (dSeq (dIf (dB (dIsi [.tup] (dVar 4))) (dSeq (dDrop (dXE (zMeth W.Lore "sees" (sp_Lore_sees W) (dVar 0) (dCons (dVar 2) (dCons (dVar 3) (dCons (dVar 4) dNil)))) Px)) dNext) (dSeq (dIf (dB (dVar 4)) (dSeq (dDrop (dXE (zMeth W.Lore "trusts" (sp_Lore_trusts W) (dVar 0) (dCons (dVar 2) (dCons (dVar 3) dNil))) Px)) dNext) (dSeq (dDrop (dXE (zMeth W.Lore "leaves" (sp_Lore_leaves W) (dVar 0) (dCons (dVar 2) (dCons (dVar 3) dNil))) Px)) dNext)) dNext)) dNext))
def d_show_saying : DS := (dSeq (dAsg (dVar 0) (gTup 3 (gCons (gName 1) (gCons (gName 2) (gCons (gName 3) gNil))))) (dSeq (dRet (dFs (dJV (dVar 2) (dJE (dC (.str " ")) (dJV (dVar 1) (dJE (dC (.str " ")) (dJV (dVar 3) dJNil))))))) dNext))
def d_show_entry : DS := (dSeq (dAsg (dVar 0) (gTup 3 (gCons (gName 1) (gCons (gName 2) (gCons (gName 3) gNil))))) (dSeq (dIf (dB (dIsi [.bl] (dVar 3))) (dSeq (dRet (dOp oAdd (dFs (dJV (dVar 1) (dJE (dC (.str " ")) (dJV (dVar 2) (dJE (dC (.str " is ")) dJNil))))) (dIfE (dB (dVar 3)) (dC (.str "trusted")) (dC (.str "left"))))) dNext) dNext) (dSeq (dRet (dFs (dJV (dVar 1) (dJE (dC (.str " ")) (dJV (dVar 2) (dJE (dC (.str " sees ")) (dJV (dCall sp_show_saying [] (dCons (dVar 3) dNil)) dJNil))))))) dNext)))
def d__law_row_3 : DS := (dSeq (dAsg (dVar 0) (gTup 3 (gCons (gName 2) (gCons (gName 3) (gCons (gName 4) gNil))))) (dSeq (dIf (dB (dIsi [.bl] (dVar 4))) (dSeq (dRet (dOp oAdd (dOp oAdd (dOp oAdd (dOp oAdd (dCB bStr (dCons (dVar 2) dNil)) (dC (.str " "))) (dVar 3)) (dC (.str " is "))) (dOp oIx (dLst (dCons (dC (.str "left")) (dCons (dC (.str "trusted")) dNil))) (dCB bInt (dCons (dVar 4) dNil))))) dNext) dNext) (dSeq (dAsg (dOp oAdd (dOp oAdd (dOp oAdd (dCB bStr (dCons (dVar 2) dNil)) (dC (.str " "))) (dVar 3)) (dC (.str " sees "))) (gName 1)) (dSeq (dRet (dOp oAdd (dOp oAdd (dOp oAdd (dOp oAdd (dOp oAdd (dVar 1) (dCB bStr (dCons (dOp oIx (dVar 4) (dC (.int 1))) dNil))) (dC (.str " "))) (dOp oIx (dVar 4) (dC (.int 0)))) (dC (.str " "))) (dCB bStr (dCons (dOp oIx (dVar 4) (dC (.int 2))) dNil)))) dNext))))
def d_show_lore (W : Cl) : DS := (dSeq (dRet (dJoin (dC (.str "\n")) (dOp oAdd (dLst (dCons (dFs (dJE (dC (.str "lore ")) (dJV (dMethO W.Lore "base" (sp_Lore_base W) [] (dVar 0) dNil) dJNil))) dNil)) (dLc [1] (iSeq (dMethO W.Lore "entries" (sp_Lore_entries W) [.non] (dVar 0) dNil)) (gName 1) dYes (dCallO sp_show_entry [] (dCons (dVar 1) dNil)))))) dNext)
theorem d_tell_ok (W : Cl) (as : List D) (t : Ts) (P : D → Ts → Prop) (Px : PX) (h : sp_tell W as t P Px) : d_tell W Px (endsOf P) (start0 ["lore", "entry", "moment", "teller", "what"] as) t := by
  obtain ⟨a, ⟨m, n, w⟩, rfl, h⟩ := h
  have hA : ∃ b k, t.obs a = some (.ins W.Lore ["kept_base", "kept"] [.int k, .adr b]) := by
    obtain ⟨b, k, es, L, _⟩ := h
    exact ⟨b, k, L.A⟩
  obtain ⟨b, k, hA⟩ := hA
  cases w with
  | bl bb =>
    cases bb with
    | true =>
      conv => whnf
      refine ⟨rfl, ?_⟩
      conv => whnf
      refine ⟨_, _, hA, rfl, ?_⟩
      exact ⟨a, .int m, .str n, rfl, PutE.of2 (P := fun _ t1 => P .non t1) h⟩
    | false =>
      conv => whnf
      refine ⟨rfl, ?_⟩
      conv => whnf
      refine ⟨_, _, hA, rfl, ?_⟩
      exact ⟨a, .int m, .str n, rfl, PutE.of2 (P := fun _ t1 => P .non t1) h⟩
  | sy s =>
    obtain ⟨w, p, q⟩ := s
    cases w with
    | true =>
      conv => whnf
      refine ⟨rfl, ?_⟩
      conv => whnf
      refine ⟨_, _, hA, rfl, ?_⟩
      exact ⟨a, .int m, .str n, syD ⟨true, p, q⟩, rfl, ⟨_, rfl⟩, PutE.of2 (P := fun _ t1 => P .non t1) h⟩
    | false =>
      conv => whnf
      refine ⟨rfl, ?_⟩
      conv => whnf
      refine ⟨_, _, hA, rfl, ?_⟩
      exact ⟨a, .int m, .str n, syD ⟨false, p, q⟩, rfl, ⟨_, rfl⟩, PutE.of2 (P := fun _ t1 => P .non t1) h⟩
theorem bd_am2 : tl (("at most" : Str)) = tl (("at" : Str)) ++ [32] ++ tl (bdT true) := by decide +kernel
theorem bd_al2 : tl (("at least" : Str)) = tl (("at" : Str)) ++ [32] ++ tl (bdT false) := by decide +kernel
theorem say_eq (w : Str) (b : Bool) (p n : Int) (hw : tl w = tl (("at" : Str)) ++ [32] ++ tl (bdT b)) : nt p ++ " " ++ w ++ " " ++ nt n = blW (sayW ⟨b, p, n⟩) := by
  unfold sayW
  rw [blW_cons, blW_cons, blW_cons, blW_one]
  refine tl_ext ?_
  simp only [tl_app, hw, tl_blank, List.append_assoc]
theorem d_show_saying_ok (as : List D) (t : Ts) (P : D → Ts → Prop) (h : sp_show_saying as t P) : d_show_saying (endsOf P) (start0 ["saying", "bound", "place", "number"] as) t := by
  obtain ⟨⟨w, p, n⟩, rfl, hs, k⟩ := h
  have p0 : 0 ≤ p := by have := hs.ok.1; show 0 ≤ p; have : 1 ≤ p := this; omega
  have n0 : 0 ≤ n := by have : 1 ≤ n := hs.ok.2; omega
  have p1 : p < 10 ^ 120 := hs.pl
  have n1 : n < 10 ^ 120 := hs.nl
  have lp := nt_bnd p0 p1
  have ln := nt_bnd n0 n1
  have e1 : ((" " : Str)).length = 1 := by decide +kernel
  have e0 : (Str.empty).length = 0 := rfl
  have e7 : (("at most" : Str)).length = 7 := by decide +kernel
  have e8 : (("at least" : Str)).length = 8 := by decide +kernel
  cases w with
  | true =>
    rw [← say_eq "at most" true p n bd_am2] at k
    conv => whnf
    refine ⟨rfl, ?_⟩
    conv => whnf
    refine ⟨log_bnd p0 p1, ?_⟩
    conv => whnf
    refine ⟨by rw [len_app, e0]; show 0 + (nt p).length ≤ zLen; unfold zLen; omega, ?_⟩
    conv => whnf
    refine ⟨by simp only [len_app, e0, e1]; show 0 + (nt p).length + 1 ≤ zLen; unfold zLen; omega, ?_⟩
    conv => whnf
    refine ⟨by rw [e7]; unfold zLen; omega, ?_⟩
    conv => whnf
    refine ⟨by simp only [len_app, e0, e1, e7]; show 0 + (nt p).length + 1 + 7 ≤ zLen; unfold zLen; omega, ?_⟩
    conv => whnf
    refine ⟨by simp only [len_app, e0, e1, e7]; show 0 + (nt p).length + 1 + 7 + 1 ≤ zLen; unfold zLen; omega, ?_⟩
    conv => whnf
    refine ⟨log_bnd n0 n1, ?_⟩
    conv => whnf
    refine ⟨by simp only [len_app, e0, e1, e7]; show 0 + (nt p).length + 1 + 7 + 1 + (nt n).length ≤ zLen; unfold zLen; omega, ?_⟩
    conv => whnf
    rw [app_nil]
    exact k
  | false =>
    rw [← say_eq "at least" false p n bd_al2] at k
    conv => whnf
    refine ⟨rfl, ?_⟩
    conv => whnf
    refine ⟨log_bnd p0 p1, ?_⟩
    conv => whnf
    refine ⟨by rw [len_app, e0]; show 0 + (nt p).length ≤ zLen; unfold zLen; omega, ?_⟩
    conv => whnf
    refine ⟨by simp only [len_app, e0, e1]; show 0 + (nt p).length + 1 ≤ zLen; unfold zLen; omega, ?_⟩
    conv => whnf
    refine ⟨by rw [e8]; unfold zLen; omega, ?_⟩
    conv => whnf
    refine ⟨by simp only [len_app, e0, e1, e8]; show 0 + (nt p).length + 1 + 8 ≤ zLen; unfold zLen; omega, ?_⟩
    conv => whnf
    refine ⟨by simp only [len_app, e0, e1, e8]; show 0 + (nt p).length + 1 + 8 + 1 ≤ zLen; unfold zLen; omega, ?_⟩
    conv => whnf
    refine ⟨log_bnd n0 n1, ?_⟩
    conv => whnf
    refine ⟨by simp only [len_app, e0, e1, e8]; show 0 + (nt p).length + 1 + 8 + 1 + (nt n).length ≤ zLen; unfold zLen; omega, ?_⟩
    conv => whnf
    rw [app_nil]
    exact k
theorem entT_bl (m : Int) (n : Str) (b : Bool) : entT ⟨m, n, .bl b⟩ = nt m ++ " " ++ n ++ " is " ++ trT b := by
  have e : entT ⟨m, n, .bl b⟩ = blW [nt m, n, "is", trT b] := rfl
  rw [e, blW_cons, blW_cons, blW_cons, blW_one]
  refine tl_ext ?_
  have h : tl ((" is " : Str)) = [32] ++ tl (("is" : Str)) ++ [32] := by decide +kernel
  simp only [tl_app, h, tl_blank, List.append_assoc]
theorem entT_sy (m : Int) (n : Str) (s : Sy) : entT ⟨m, n, .sy s⟩ = nt m ++ " " ++ n ++ " sees " ++ blW (sayW s) := by
  have e : entT ⟨m, n, .sy s⟩ = blW (nt m :: n :: "sees" :: nt s.p :: ["at", bdT s.w, nt s.n]) := rfl
  rw [e, blW_cons, blW_cons, blW_cons]
  refine tl_ext ?_
  have h : tl ((" sees " : Str)) = [32] ++ tl (("sees" : Str)) ++ [32] := by decide +kernel
  unfold sayW
  simp only [tl_app, h, tl_blank, List.append_assoc]
theorem entT_sy2 (m : Int) (n : Str) (b : Bool) (p q : Int) (w : Str) (hw : tl w = tl (("at" : Str)) ++ [32] ++ tl (bdT b)) : nt m ++ " " ++ n ++ " sees " ++ nt p ++ " " ++ w ++ " " ++ nt q = entT ⟨m, n, .sy ⟨b, p, q⟩⟩ := by
  rw [entT_sy, ← say_eq w b p q hw]
  refine tl_ext ?_
  simp only [tl_app, List.append_assoc]
theorem sayW_len {s : Sy} (h : SyR s) : (blW (sayW s)).length ≤ 500 := by
  have p1 := h.ok.1
  have n1 := h.ok.2
  have h1 := blW_len (sayW s)
  have lp := nt_bnd (i := s.p) (by omega) h.pl
  have ln := nt_bnd (i := s.n) (by omega) h.nl
  have lb : (bdT s.w).length ≤ 5 := by cases s.w <;> decide +kernel
  have e2 : (("at" : Str)).length = 2 := by decide +kernel
  unfold sayW at h1 ⊢
  simp only [List.map_cons, List.map_nil, List.sum_cons, List.sum_nil] at h1
  omega
theorem d_show_entry_ok (as : List D) (t : Ts) (P : D → Ts → Prop) (h : sp_show_entry as t P) : d_show_entry (endsOf P) (start0 ["entry", "moment", "teller", "what"] as) t := by
  obtain ⟨⟨m, n, w⟩, rfl, hE, k⟩ := h
  have m0 : 0 ≤ m := hE.o.m0
  have m1 : m < 10 ^ 120 := hE.ml
  have lm := nt_bnd m0 m1
  have ln : n.length < 13 := hE.o.n.l2
  have e1 : ((" " : Str)).length = 1 := by decide +kernel
  have e0 : (Str.empty).length = 0 := rfl
  have e4 : ((" is " : Str)).length = 4 := by decide +kernel
  have e6 : ((" sees " : Str)).length = 6 := by decide +kernel
  cases w with
  | bl b =>
    rw [entT_bl] at k
    have lt : (trT b).length ≤ 7 := by cases b <;> decide +kernel
    conv => whnf
    refine ⟨rfl, ?_⟩
    conv => whnf
    refine ⟨log_bnd m0 m1, ?_⟩
    conv => whnf
    refine ⟨by rw [len_app, e0]; show 0 + (nt m).length ≤ zLen; unfold zLen; omega, ?_⟩
    conv => whnf
    refine ⟨by simp only [len_app, e0, e1]; show 0 + (nt m).length + 1 ≤ zLen; unfold zLen; omega, ?_⟩
    conv => whnf
    refine ⟨by show n.length ≤ zLen; unfold zLen; omega, ?_⟩
    conv => whnf
    refine ⟨by simp only [len_app, e0, e1]; show 0 + (nt m).length + 1 + n.length ≤ zLen; unfold zLen; omega, ?_⟩
    conv => whnf
    refine ⟨by simp only [len_app, e0, e1, e4]; show 0 + (nt m).length + 1 + n.length + 4 ≤ zLen; unfold zLen; omega, ?_⟩
    conv => whnf
    cases b with
    | true =>
      conv => whnf
      refine ⟨by simp only [len_app, e0, e1, e4]; show 0 + (nt m).length + 1 + n.length + 4 + (trT true).length ≤ zLen; unfold zLen; omega, ?_⟩
      conv => whnf
      rw [app_nil]
      exact k
    | false =>
      conv => whnf
      refine ⟨by simp only [len_app, e0, e1, e4]; show 0 + (nt m).length + 1 + n.length + 4 + (trT false).length ≤ zLen; unfold zLen; omega, ?_⟩
      conv => whnf
      rw [app_nil]
      exact k
  | sy s =>
    rw [entT_sy] at k
    have hs := hE.s s rfl
    have lt := sayW_len hs
    obtain ⟨w, p, q⟩ := s
    cases w with
    | true =>
      conv => whnf
      refine ⟨rfl, ?_⟩
      conv => whnf
      refine ⟨log_bnd m0 m1, ?_⟩
      conv => whnf
      refine ⟨by rw [len_app, e0]; show 0 + (nt m).length ≤ zLen; unfold zLen; omega, ?_⟩
      conv => whnf
      refine ⟨by simp only [len_app, e0, e1]; show 0 + (nt m).length + 1 ≤ zLen; unfold zLen; omega, ?_⟩
      conv => whnf
      refine ⟨by show n.length ≤ zLen; unfold zLen; omega, ?_⟩
      conv => whnf
      refine ⟨by simp only [len_app, e0, e1]; show 0 + (nt m).length + 1 + n.length ≤ zLen; unfold zLen; omega, ?_⟩
      conv => whnf
      refine ⟨by simp only [len_app, e0, e1, e6]; show 0 + (nt m).length + 1 + n.length + 6 ≤ zLen; unfold zLen; omega, ?_⟩
      conv => whnf
      refine ⟨_, rfl, hs, ?_⟩
      conv => whnf
      refine ⟨by unfold zLen; omega, ?_⟩
      conv => whnf
      refine ⟨by simp only [len_app, e0, e1, e6]; show 0 + (nt m).length + 1 + n.length + 6 + (blW (sayW ⟨true, p, q⟩)).length ≤ zLen; unfold zLen; omega, ?_⟩
      conv => whnf
      rw [app_nil]
      exact k
    | false =>
      conv => whnf
      refine ⟨rfl, ?_⟩
      conv => whnf
      refine ⟨log_bnd m0 m1, ?_⟩
      conv => whnf
      refine ⟨by rw [len_app, e0]; show 0 + (nt m).length ≤ zLen; unfold zLen; omega, ?_⟩
      conv => whnf
      refine ⟨by simp only [len_app, e0, e1]; show 0 + (nt m).length + 1 ≤ zLen; unfold zLen; omega, ?_⟩
      conv => whnf
      refine ⟨by show n.length ≤ zLen; unfold zLen; omega, ?_⟩
      conv => whnf
      refine ⟨by simp only [len_app, e0, e1]; show 0 + (nt m).length + 1 + n.length ≤ zLen; unfold zLen; omega, ?_⟩
      conv => whnf
      refine ⟨by simp only [len_app, e0, e1, e6]; show 0 + (nt m).length + 1 + n.length + 6 ≤ zLen; unfold zLen; omega, ?_⟩
      conv => whnf
      refine ⟨_, rfl, hs, ?_⟩
      conv => whnf
      refine ⟨by unfold zLen; omega, ?_⟩
      conv => whnf
      refine ⟨by simp only [len_app, e0, e1, e6]; show 0 + (nt m).length + 1 + n.length + 6 + (blW (sayW ⟨false, p, q⟩)).length ≤ zLen; unfold zLen; omega, ?_⟩
      conv => whnf
      rw [app_nil]
      exact k
theorem d__law_row_3_ok (as : List D) (t : Ts) (P : D → Ts → Prop) (h : sp__law_row_3 as t P) : d__law_row_3 (endsOf P) (start0 ["_law_entry", "_law_head", "_law_moment", "_law_teller", "_law_what"] as) t := by
  obtain ⟨⟨m, n, w⟩, rfl, hE, k⟩ := h
  have m0 : 0 ≤ m := hE.o.m0
  have m1 : m < 10 ^ 120 := hE.ml
  have lm := nt_bnd m0 m1
  have ln : n.length < 13 := hE.o.n.l2
  have e1 : ((" " : Str)).length = 1 := by decide +kernel
  have e4 : ((" is " : Str)).length = 4 := by decide +kernel
  have e6 : ((" sees " : Str)).length = 6 := by decide +kernel
  have e7 : (("at most" : Str)).length = 7 := by decide +kernel
  have e8 : (("at least" : Str)).length = 8 := by decide +kernel
  cases w with
  | bl b =>
    rw [entT_bl] at k
    conv => whnf
    refine ⟨rfl, ?_⟩
    conv => whnf
    refine ⟨log_bnd m0 m1, ?_⟩
    conv => whnf
    refine ⟨by rw [e1]; show (nt m).length + 1 ≤ zLen; unfold zLen; omega, ?_⟩
    conv => whnf
    refine ⟨by simp only [len_app, e1]; show (nt m).length + 1 + n.length ≤ zLen; unfold zLen; omega, ?_⟩
    conv => whnf
    refine ⟨by simp only [len_app, e1, e4]; show (nt m).length + 1 + n.length + 4 ≤ zLen; unfold zLen; omega, ?_⟩
    conv => whnf
    cases b with
    | true =>
      conv => whnf
      refine ⟨_, rfl, ?_⟩
      conv => whnf
      have lt : (("trusted" : Str)).length = 7 := by decide +kernel
      refine ⟨by simp only [len_app, e1, e4, lt]; show (nt m).length + 1 + n.length + 4 + 7 ≤ zLen; unfold zLen; omega, ?_⟩
      conv => whnf
      exact k
    | false =>
      conv => whnf
      refine ⟨_, rfl, ?_⟩
      conv => whnf
      have lt : (("left" : Str)).length = 4 := by decide +kernel
      refine ⟨by simp only [len_app, e1, e4, lt]; show (nt m).length + 1 + n.length + 4 + 4 ≤ zLen; unfold zLen; omega, ?_⟩
      conv => whnf
      exact k
  | sy s =>
    have hs := hE.s s rfl
    obtain ⟨w, p, q⟩ := s
    have p0 : 0 ≤ p := by have : 1 ≤ p := hs.ok.1; omega
    have q0 : 0 ≤ q := by have : 1 ≤ q := hs.ok.2; omega
    have p1 : p < 10 ^ 120 := hs.pl
    have q1 : q < 10 ^ 120 := hs.nl
    have lp := nt_bnd p0 p1
    have lq := nt_bnd q0 q1
    cases w with
    | true =>
      rw [← entT_sy2 m n true p q "at most" bd_am2] at k
      conv => whnf
      refine ⟨rfl, ?_⟩
      conv => whnf
      refine ⟨log_bnd m0 m1, ?_⟩
      conv => whnf
      refine ⟨by rw [e1]; show (nt m).length + 1 ≤ zLen; unfold zLen; omega, ?_⟩
      conv => whnf
      refine ⟨by simp only [len_app, e1]; show (nt m).length + 1 + n.length ≤ zLen; unfold zLen; omega, ?_⟩
      conv => whnf
      refine ⟨by simp only [len_app, e1, e6]; show (nt m).length + 1 + n.length + 6 ≤ zLen; unfold zLen; omega, ?_⟩
      conv => whnf
      refine ⟨_, rfl, ?_⟩
      conv => whnf
      refine ⟨log_bnd p0 p1, ?_⟩
      conv => whnf
      refine ⟨by simp only [len_app, e1, e6]; show (nt m).length + 1 + n.length + 6 + (nt p).length ≤ zLen; unfold zLen; omega, ?_⟩
      conv => whnf
      refine ⟨by simp only [len_app, e1, e6]; show (nt m).length + 1 + n.length + 6 + (nt p).length + 1 ≤ zLen; unfold zLen; omega, ?_⟩
      conv => whnf
      refine ⟨_, rfl, ?_⟩
      conv => whnf
      refine ⟨by simp only [len_app, e1, e6, e7]; show (nt m).length + 1 + n.length + 6 + (nt p).length + 1 + 7 ≤ zLen; unfold zLen; omega, ?_⟩
      conv => whnf
      refine ⟨by simp only [len_app, e1, e6, e7]; show (nt m).length + 1 + n.length + 6 + (nt p).length + 1 + 7 + 1 ≤ zLen; unfold zLen; omega, ?_⟩
      conv => whnf
      refine ⟨_, rfl, ?_⟩
      conv => whnf
      refine ⟨log_bnd q0 q1, ?_⟩
      conv => whnf
      refine ⟨by simp only [len_app, e1, e6, e7]; show (nt m).length + 1 + n.length + 6 + (nt p).length + 1 + 7 + 1 + (nt q).length ≤ zLen; unfold zLen; omega, ?_⟩
      conv => whnf
      exact k
    | false =>
      rw [← entT_sy2 m n false p q "at least" bd_al2] at k
      conv => whnf
      refine ⟨rfl, ?_⟩
      conv => whnf
      refine ⟨log_bnd m0 m1, ?_⟩
      conv => whnf
      refine ⟨by rw [e1]; show (nt m).length + 1 ≤ zLen; unfold zLen; omega, ?_⟩
      conv => whnf
      refine ⟨by simp only [len_app, e1]; show (nt m).length + 1 + n.length ≤ zLen; unfold zLen; omega, ?_⟩
      conv => whnf
      refine ⟨by simp only [len_app, e1, e6]; show (nt m).length + 1 + n.length + 6 ≤ zLen; unfold zLen; omega, ?_⟩
      conv => whnf
      refine ⟨_, rfl, ?_⟩
      conv => whnf
      refine ⟨log_bnd p0 p1, ?_⟩
      conv => whnf
      refine ⟨by simp only [len_app, e1, e6]; show (nt m).length + 1 + n.length + 6 + (nt p).length ≤ zLen; unfold zLen; omega, ?_⟩
      conv => whnf
      refine ⟨by simp only [len_app, e1, e6]; show (nt m).length + 1 + n.length + 6 + (nt p).length + 1 ≤ zLen; unfold zLen; omega, ?_⟩
      conv => whnf
      refine ⟨_, rfl, ?_⟩
      conv => whnf
      refine ⟨by simp only [len_app, e1, e6, e8]; show (nt m).length + 1 + n.length + 6 + (nt p).length + 1 + 8 ≤ zLen; unfold zLen; omega, ?_⟩
      conv => whnf
      refine ⟨by simp only [len_app, e1, e6, e8]; show (nt m).length + 1 + n.length + 6 + (nt p).length + 1 + 8 + 1 ≤ zLen; unfold zLen; omega, ?_⟩
      conv => whnf
      refine ⟨_, rfl, ?_⟩
      conv => whnf
      refine ⟨log_bnd q0 q1, ?_⟩
      conv => whnf
      refine ⟨by simp only [len_app, e1, e6, e8]; show (nt m).length + 1 + n.length + 6 + (nt p).length + 1 + 8 + 1 + (nt q).length ≤ zLen; unfold zLen; omega, ?_⟩
      conv => whnf
      exact k
theorem txL_eq {k : Int} : ("lore " : Str) ++ nt k = txL k := by
  unfold txL
  rw [blW_cons, blW_one]
  refine tl_ext ?_
  have h : tl (("lore " : Str)) = tl (("lore" : Str)) ++ [32] := by decide +kernel
  simp only [tl_app, h, tl_blank, List.append_assoc]
theorem d_show_lore_ok (W : Cl) (as : List D) (t : Ts) (P : D → Ts → Prop) (h : sp_show_lore W as t P) : d_show_lore W (endsOf P) (start0 ["lore", "entry"] as) t := by
  obtain ⟨a, b, k0, es, E, rfl, L, hp, hS, hl, hE, k2, k30, k⟩ := h
  have lk := nt_bnd (i := k0) (by omega) (Int.lt_of_le_of_lt k30 (by decide))
  have e5 : (("lore " : Str)).length = 5 := by decide +kernel
  have e0 : (Str.empty).length = 0 := rfl
  conv => whnf
  refine ⟨by rw [len_app, e0, e5]; unfold zLen; omega, ?_⟩
  conv => whnf
  refine ⟨_, _, L.A, rfl, ?_⟩
  refine ⟨a, b, k0, es, rfl, L, ?_⟩
  conv => whnf
  refine ⟨log_bnd (by omega) (Int.lt_of_le_of_lt k30 (by decide)), ?_⟩
  conv => whnf
  refine ⟨by simp only [len_app, e0, e5]; show 0 + 5 + (nt k0).length ≤ zLen; unfold zLen; omega, ?_⟩
  conv => whnf
  refine ⟨_, _, L.A, rfl, ?_⟩
  conv => whnf
  refine ⟨a, b, k0, es, E, none, rfl, L, hp, hS, by omega, ?_⟩
  have ef : E.filter (upt none) = E := List.filter_eq_self.mpr fun e _ => rfl
  rw [ef]
  conv => whnf
  refine lc_idx (fun i => .str (entT (E.getD i ⟨0, "", .bl false⟩))) (by rw [List.length_map]; unfold zLen; omega) (fun i x hx Qy q => ?_) ?_
  · obtain ⟨e, he, rfl⟩ := ent_get hx
    rw [getD_some he] at q
    conv => whnf
    refine ⟨rfl, ?_⟩
    conv => whnf
    exact ⟨e, rfl, hE e (List.mem_of_getElem? he), q⟩
  have e1 : (List.range (E.map entD).length).map (fun i => D.str (entT (E.getD i ⟨0, "", .bl false⟩))) = (E.map entT).map .str := by
    rw [List.length_map]
    refine List.ext_getElem (by simp) fun i h1 h2 => ?_
    simp at h1
    simp [List.getD_eq_getElem?_getD, List.getElem?_eq_getElem h1]
  rw [e1]
  conv => whnf
  refine ⟨by rw [List.length_map, List.length_map]; show 1 + E.length ≤ zLen; unfold zLen; omega, ?_⟩
  conv => whnf
  have e2 : Str.empty ++ ("lore " : Str) ++ nt k0 = txL k0 := by
    rw [app_nil]
    exact txL_eq
  have e3 : ([D.str (Str.empty ++ ("lore " : Str) ++ nt k0)] ++ (E.map entT).map D.str) = (txL k0 :: E.map entT).map .str := by
    rw [e2]
    rfl
  refine ⟨txL k0 :: E.map entT, e3, ?_, ?_⟩
  · have e1 : (("\n" : Str)).length = 1 := by decide +kernel
    have h1 := (sum_len (n := 101) (fun w hw => (rows_free k2 k30 hE w hw).2.1) (by rw [List.length_cons, List.length_map]; omega)).1
    rw [e1, List.length_cons, List.length_map]
    unfold zLen
    omega
  exact k
end Q
/-! MTxO -/
namespace Q
open PySem
def sp_base_of : PSp := fun ds t P => ∃ k, ds = [.str (txL k)] ∧ 2 ≤ k ∧ k ≤ 30 ∧ P (.int k) t
def sp_read_lore (W : Cl) : PSpE := fun ds t P Px => ∃ (k : Int) (es : List Ent), ds = [.str (loreT k es)] ∧ 2 ≤ k ∧ k ≤ 30 ∧ (∀ e ∈ es, ER e) ∧ es.length ≤ 100 ∧ (es.Pairwise (fun e f => e.m ≠ f.m) → ∀ a b t', t.obs a = none → t.obs b = none → Fr t t' [a, b] → LoreAt W t'.obs a b k es → P (.adr a) t') ∧
  ∀ A e B, es = A ++ e :: B → A.Pairwise (fun e f => e.m ≠ f.m) → (∃ f ∈ A, f.m = e.m) → ∀ a b t', t.obs a = none → t.obs b = none → Fr t t' [a, b] → Px .SameMoment (.int e.m) t'
def sp__law_twice_right (W : Cl) : PSp := fun ds t P => ∃ (k : Int) (e : Ent) (E : List Ent), ds = [.str (txL k), .lst (((e :: E).map entT).map .str)] ∧ 2 ≤ k ∧ k ≤ 30 ∧ (∀ f ∈ e :: E, ER f) ∧ E.length ≤ 90 ∧ (e :: E).Pairwise (fun e f => e.m ≠ f.m) ∧ ∀ a b t', t.obs a = none → t.obs b = none → Fr t t' [a, b] → P (.bl true) t'
def sp__law_entries_b (W : Cl) : PSp := fun ds t P => ∃ (b : Int) (bs : List Int) (many n : Int), ds = [.pen, hD W b bs, .int many] ∧ Hou b bs ∧ 0 ≤ many ∧ many ≤ 100 ∧ Pk n t ∧ n < 40000000 ∧ ∀ (E : List Ent) (t' : Ts), (E.length : Int) = many → Srt E → (∀ e ∈ E, EB e ∧ e.m ≤ 1000000000000) → Pk (n + 21 + 20 * many) t' → P (.lst (E.map entD)) t'
theorem len_base_of (as : List D) (t : Ts) (P : D → Ts → Prop) (h : sp_base_of as t P) : as.length = 1 := by first | (obtain ⟨_, rfl, _⟩ := h; rfl) | (obtain ⟨_, _, rfl, _⟩ := h; rfl) | (obtain ⟨_, _, _, rfl, _⟩ := h; rfl) | (obtain ⟨_, _, _, _, rfl, _⟩ := h; rfl) | (obtain ⟨_, _, _, _, _, rfl, _⟩ := h; rfl) | (obtain ⟨_, _, _, _, _, _, rfl, _⟩ := h; rfl) | (obtain ⟨_, _, _, _, _, _, _, rfl, _⟩ := h; rfl) | (obtain ⟨_, _, _, _, _, _, _, _, rfl, _⟩ := h; rfl) | (obtain ⟨_, rfl | rfl, _⟩ := h <;> rfl) | (obtain ⟨_, _, rfl | rfl, _⟩ := h <;> rfl) | (obtain ⟨_, _, _, rfl | rfl, _⟩ := h <;> rfl) | (obtain ⟨_, _, _, _, rfl | rfl, _⟩ := h <;> rfl) | (obtain ⟨_, _, _, _, _, rfl | rfl, _⟩ := h <;> rfl) | (obtain ⟨_, _, _, _, _, _, rfl | rfl, _⟩ := h <;> rfl) | (obtain ⟨_, _, _, _, _, _, _, rfl | rfl, _⟩ := h <;> rfl) | (obtain ⟨_, _, _, _, _, _, _, _, rfl | rfl, _⟩ := h <;> rfl)
theorem len_read_lore (W : Cl) (as : List D) (t : Ts) (P : D → Ts → Prop) (Px : PX) (h : sp_read_lore W as t P Px) : as.length = 1 := by first | (obtain ⟨_, rfl, _⟩ := h; rfl) | (obtain ⟨_, _, rfl, _⟩ := h; rfl) | (obtain ⟨_, _, _, rfl, _⟩ := h; rfl) | (obtain ⟨_, _, _, _, rfl, _⟩ := h; rfl) | (obtain ⟨_, _, _, _, _, rfl, _⟩ := h; rfl) | (obtain ⟨_, _, _, _, _, _, rfl, _⟩ := h; rfl) | (obtain ⟨_, _, _, _, _, _, _, rfl, _⟩ := h; rfl) | (obtain ⟨_, _, _, _, _, _, _, _, rfl, _⟩ := h; rfl)
theorem len__law_twice_right (W : Cl) (as : List D) (t : Ts) (P : D → Ts → Prop) (h : sp__law_twice_right W as t P) : as.length = 2 := by first | (obtain ⟨_, rfl, _⟩ := h; rfl) | (obtain ⟨_, _, rfl, _⟩ := h; rfl) | (obtain ⟨_, _, _, rfl, _⟩ := h; rfl) | (obtain ⟨_, _, _, _, rfl, _⟩ := h; rfl) | (obtain ⟨_, _, _, _, _, rfl, _⟩ := h; rfl) | (obtain ⟨_, _, _, _, _, _, rfl, _⟩ := h; rfl) | (obtain ⟨_, _, _, _, _, _, _, rfl, _⟩ := h; rfl) | (obtain ⟨_, _, _, _, _, _, _, _, rfl, _⟩ := h; rfl) | (obtain ⟨_, rfl | rfl, _⟩ := h <;> rfl) | (obtain ⟨_, _, rfl | rfl, _⟩ := h <;> rfl) | (obtain ⟨_, _, _, rfl | rfl, _⟩ := h <;> rfl) | (obtain ⟨_, _, _, _, rfl | rfl, _⟩ := h <;> rfl) | (obtain ⟨_, _, _, _, _, rfl | rfl, _⟩ := h <;> rfl) | (obtain ⟨_, _, _, _, _, _, rfl | rfl, _⟩ := h <;> rfl) | (obtain ⟨_, _, _, _, _, _, _, rfl | rfl, _⟩ := h <;> rfl) | (obtain ⟨_, _, _, _, _, _, _, _, rfl | rfl, _⟩ := h <;> rfl)
theorem len__law_entries_b (W : Cl) (as : List D) (t : Ts) (P : D → Ts → Prop) (h : sp__law_entries_b W as t P) : as.length = 3 := by first | (obtain ⟨_, rfl, _⟩ := h; rfl) | (obtain ⟨_, _, rfl, _⟩ := h; rfl) | (obtain ⟨_, _, _, rfl, _⟩ := h; rfl) | (obtain ⟨_, _, _, _, rfl, _⟩ := h; rfl) | (obtain ⟨_, _, _, _, _, rfl, _⟩ := h; rfl) | (obtain ⟨_, _, _, _, _, _, rfl, _⟩ := h; rfl) | (obtain ⟨_, _, _, _, _, _, _, rfl, _⟩ := h; rfl) | (obtain ⟨_, _, _, _, _, _, _, _, rfl, _⟩ := h; rfl) | (obtain ⟨_, rfl | rfl, _⟩ := h <;> rfl) | (obtain ⟨_, _, rfl | rfl, _⟩ := h <;> rfl) | (obtain ⟨_, _, _, rfl | rfl, _⟩ := h <;> rfl) | (obtain ⟨_, _, _, _, rfl | rfl, _⟩ := h <;> rfl) | (obtain ⟨_, _, _, _, _, rfl | rfl, _⟩ := h <;> rfl) | (obtain ⟨_, _, _, _, _, _, rfl | rfl, _⟩ := h <;> rfl) | (obtain ⟨_, _, _, _, _, _, _, rfl | rfl, _⟩ := h <;> rfl) | (obtain ⟨_, _, _, _, _, _, _, _, rfl | rfl, _⟩ := h <;> rfl)
def d_base_of : DS := (dSeq (dAsg (dSplit (dVar 0) (dC (.str " "))) (gName 1)) (dSeq (dAsg (dIfE (dAnd (dB (dOp oEq (dCB bLen (dCons (dVar 1) dNil)) (dC (.int 2)))) (dB (dOp oEq (dOp oIx (dVar 1) (dC (.int 0))) (dC (.str "lore"))))) (dCall sp_figures_of [] (dCons (dOp oIx (dVar 1) (dC (.int 1))) dNil)) (dC .non)) (gName 2)) (dSeq (dIf (dB (dOp oIsN (dVar 2) (dC .non))) (dSeq dNever dNext) dNext) (dSeq (dRet (dVar 2)) dNext))))
def d_read_lore (W : Cl) (Px : PX) : DS := (dSeq (dIf (dNot (dB (dIsi [.str] (dVar 0)))) (dSeq dNever dNext) dNext) (dSeq (dAsg (dSplit (dVar 0) (dC (.str "\n"))) (gStar (gCons (gName 2) (gCons (gName 6) gNil)))) (dSeq (dSeq (dAsg (dMakeO W.Lore (spNoE (sp_Lore___init__ W)) [] (dCons (dCallO sp_base_of [] (dCons (dVar 2) dNil)) dNil)) (gName 3)) dNext) (dSeq (dAsg (dLc [4] (iSeq (dVar 6)) (gName 4) dYes (dTup (dCons (dVar 4) (dCons (dCallO sp_entry_of_2 [] (dCons (dSplit (dVar 4) (dC (.str " "))) dNil)) dNil)))) (gName 1)) (dSeq (dFor (iSeq (dVar 1)) (gTup 2 (gCons (gName 4) (gCons (gName 5) gNil))) (dSeq (dIf (dB (dOp oIsN (dVar 5) (dC .non))) (dSeq dNever dNext) dNext) dNext)) (dSeq (dFor (iSeq (dVar 1)) (gTup 2 (gCons (gName 4) (gCons (gName 5) gNil))) (dSeq (dDrop (dXE (zCall (sp_tell W) (dCons (dVar 3) (dCons (dVar 5) dNil))) Px)) dNext)) (dSeq (dRet (dVar 3)) dNext)))))))
def d__law_twice_right (W : Cl) : DS := (dSeq (dAsg (dC .non) (gName 2)) (dSeq (dTryE (zCall (sp_read_lore W) (dCons (dJoin (dC (.str "\n")) (dOp oAdd (dOp oAdd (dLst (dCons (dVar 0) dNil)) (dVar 1)) (dLst (dCons (dOp oAdd (dOp oIx (dSplit (dOp oIx (dVar 1) (dC (.int 0))) (dC (.str " "))) (dC (.int 0))) (dC (.str " zzz is left"))) dNil)))) dNil)) kDrop (hOn .SameMoment (hSet 2 3 none) (hNone fun _ _ _ => False))) (dSeq (dRet (dOp oEq (dVar 2) (dCB bIntT (dCons (dOp oIx (dSplit (dOp oIx (dVar 1) (dC (.int 0))) (dC (.str " "))) (dC (.int 0))) dNil)))) dNext)))
def d__law_entries_b (W : Cl) : DS := (dSeq (dParM [(4, false), (5, true), (6, false)] (dCons (dCall sp__law_words [] (dCons (dVar 0) (dCons (dC (.int 4)) dNil))) (dCons (dLst dNil) (dCons (dCall sp__law_draw [] (dCons (dVar 0) (dCons (dC (.int 3)) dNil))) dNil)))) (dSeq (dFor (iRng1 (dVar 2)) (gName 3) (dSeq (dAsg (dOp oIx (dLst (dCons (dCall (sp__law_sighted W) [] (dCons (dVar 0) (dCons (dVar 1) dNil))) (dCons (dC (.bl false)) (dCons (dC (.bl true)) dNil)))) (dOp oIx (dLst (dCons (dC (.int 0)) (dCons (dC (.int 0)) (dCons (dC (.int 0)) (dCons (dC (.int 0)) (dCons (dC (.int 1)) (dCons (dC (.int 2)) dNil))))))) (dCall sp__law_draw [] (dCons (dVar 0) (dCons (dC (.int 6)) dNil))))) (gName 7)) (dSeq (dApp 5 (dTup (dCons (dVar 6) (dCons (dOp oIx (dVar 4) (dCall sp__law_draw [] (dCons (dVar 0) (dCons (dC (.int 4)) dNil)))) (dCons (dVar 7) dNil))))) (dSeq (dAsg (dOp oAdd (dOp oAdd (dVar 6) (dC (.int 1))) (dOp oIx (dLst (dCons (dC (.int 0)) (dCons (dCall sp__law_draw [] (dCons (dVar 0) (dCons (dC (.int 5)) dNil))) (dCons (dCall sp__law_draw [] (dCons (dVar 0) (dCons (dOp oPow (dC (.int 10)) (dC (.int 9))) dNil))) dNil)))) (dCall sp__law_draw [] (dCons (dVar 0) (dCons (dC (.int 3)) dNil))))) (gName 6)) dNext)))) (dSeq (dRetO 5) dNext)))
theorem d_base_of_ok (as : List D) (t : Ts) (P : D → Ts → Prop) (h : sp_base_of as t P) : d_base_of (endsOf P) (start0 ["row", "words", "base"] as) t := by
  obtain ⟨k0, rfl, k2, k30, k⟩ := h
  have hf := txL_free k2 k30
  conv => whnf
  refine ⟨by decide +kernel, ?_⟩
  conv => whnf
  refine ⟨by unfold zLen; omega, ?_⟩
  conv => whnf
  rw [txL_split k2]
  conv => whnf
  refine ⟨_, rfl, ?_⟩
  conv => whnf
  refine ⟨⟨by decide +kernel, by decide +kernel, by decide, by decide⟩, ?_⟩
  conv => whnf
  refine ⟨_, rfl, ?_⟩
  conv => whnf
  refine ⟨_, rfl, by have := nt_bnd (i := k0) (by omega) (Int.lt_of_le_of_lt k30 (by decide)); unfold zLen; omega, ?_⟩
  rw [nt_fO (by omega) (Int.lt_of_le_of_lt k30 (by decide))]
  conv => whnf
  exact k
theorem pw_app_take {es : List Ent} {i : Nat} {e : Ent} (hq : es[i]? = some e) : es = es.take i ++ e :: es.drop (i + 1) := by
  obtain ⟨h, rfl⟩ := List.getElem?_eq_some_iff.mp hq
  rw [List.getElem_cons_drop, List.take_append_drop]
theorem d_read_lore_ok (W : Cl) (as : List D) (t : Ts) (P : D → Ts → Prop) (Px : PX) (h : sp_read_lore W as t P Px) : d_read_lore W Px (endsOf P) (start0 ["text", "entries", "head", "found", "row", "entry", "rows"] as) t := by
  obtain ⟨k0, es, rfl, k2, k30, hE, hl, kk, kx⟩ := h
  have hlen := loreT_len k2 k30 hE (by omega)
  conv => whnf
  refine ⟨by decide +kernel, ?_⟩
  conv => whnf
  refine ⟨by unfold zLen; omega, ?_⟩
  conv => whnf
  rw [loreT_split k2 k30 hE]
  conv => whnf
  refine ⟨by rw [List.length_map, List.length_map]; omega, ?_⟩
  conv => whnf
  refine ⟨k0, rfl, k2, k30, ?_⟩
  conv => whnf
  refine fun a ha => ⟨a, .int k0, rfl, ⟨_, rfl⟩, Ts.put_same .., fun z => ?_, fun k1 ek _ _ b t1 hb f1 L1 => ?_⟩
  · have z : decide (2 ≤ k0 ∧ k0 ≤ 30) = false := z
    exact absurd ⟨k2, k30⟩ (of_decide_eq_false z)
  cases ek
  have ha : t.obs a = none := ha
  refine ⟨rfl, ?_⟩
  have nb : b ≠ a := fun z => by
    rw [z] at hb
    have := hb
    rw [Ts.put_same] at this
    cases this
  have hb2 : t.obs b = none := by
    have := hb
    rwa [Ts.put_ne _ _ nb] at this
  have f2 : Fr t t1 [a, b] := ⟨f1.b, fun c hc => by
    rw [f1.o c hc, Ts.put_ne _ _ (fun z => hc (by rw [z]; exact List.mem_cons_self ..))]
    rfl⟩
  conv => whnf
  let g : Nat → D := fun i => .tup [.str (entT (es.getD i ⟨0, "", .bl false⟩)), entD (es.getD i ⟨0, "", .bl false⟩)]
  refine lc_idx g (by rw [List.length_map, List.length_map]; unfold zLen; omega) (fun i x hx Qy q => ?_) ?_
  · rw [List.getElem?_map, List.getElem?_map] at hx
    cases he : es[i]? with
    | none => rw [he] at hx; cases hx
    | some e =>
      rw [he] at hx
      cases hx
      have q : Qy (.tup [.str (entT (es.getD i ⟨0, "", .bl false⟩)), entD (es.getD i ⟨0, "", .bl false⟩)]) t1 := q
      rw [getD_some he] at q
      have hEe := hE e (List.mem_of_getElem? he)
      have hf := entT_free hEe
      conv => whnf
      refine ⟨rfl, ?_⟩
      conv => whnf
      refine ⟨by decide +kernel, ?_⟩
      conv => whnf
      refine ⟨by have := hf.2.1; unfold zLen; omega, ?_⟩
      conv => whnf
      rw [entT_split hEe]
      refine ⟨entW e, rfl, (entW_len e).2, fun w hw => ⟨by have := (entW_free hEe w hw).l; omega, (entW_free hEe w hw).p⟩, ?_⟩
      rw [entO_entW hEe]
      conv => whnf
      exact q
  have eg : (List.range ((es.map entT).map D.str).length).map g = es.map fun e => .tup [.str (entT e), entD e] := by
    rw [List.length_map, List.length_map]
    refine List.ext_getElem (by simp) fun i h1 h2 => ?_
    simp at h1
    simp [g, List.getD_eq_getElem?_getD, List.getElem?_eq_getElem h1]
  rw [eg]
  clear eg
  conv => whnf
  refine ⟨fun i e m => m = t1 ∧ ∃ s4 s5 : Sl, e = [.val (.str (loreT k0 es)), .val (.lst (es.map fun e => .tup [.str (entT e), entD e])), .val (.str (txL k0)), .val (.adr a), s4, s5, .val (.lst ((es.map entT).map .str))], ⟨rfl, _, _, rfl⟩, fun i x e m hx hI => ?_, fun e m hI => ?_⟩
  · obtain ⟨rfl, s4, s5, rfl⟩ := hI
    rw [List.getElem?_map] at hx
    cases hq : es[i]? with
    | none => rw [hq] at hx; cases hx
    | some e =>
      rw [hq] at hx
      cases hx
      conv => whnf
      refine ⟨rfl, ?_⟩
      conv => whnf
      exact ⟨rfl, _, _, rfl⟩
  obtain ⟨rfl, s4, s5, rfl⟩ := hI
  conv => whnf
  refine ⟨fun i e m => Fr t m [a, b] ∧ LoreAt W m.obs a b k0 (es.take i) ∧ (es.take i).Pairwise (fun e f => e.m ≠ f.m) ∧ ∃ s4 s5 : Sl, e = [.val (.str (loreT k0 es)), .val (.lst (es.map fun e => .tup [.str (entT e), entD e])), .val (.str (txL k0)), .val (.adr a), s4, s5, .val (.lst ((es.map entT).map .str))], ⟨f2, L1, .nil, _, _, rfl⟩, fun i x e m hx hI => ?_, fun e m hI => ?_⟩
  · obtain ⟨fm, Lm, pw, s4, s5, rfl⟩ := hI
    rw [List.getElem?_map] at hx
    cases hq : es[i]? with
    | none => rw [hq] at hx; cases hx
    | some e =>
      rw [hq] at hx
      cases hx
      have hm := List.mem_of_getElem? hq
      have hil := (List.getElem?_eq_some_iff.mp hq).1
      conv => whnf
      refine ⟨rfl, ?_⟩
      conv => whnf
      refine ⟨a, e, rfl, b, k0, es.take i, Lm, (hE e hm).o, by rw [List.length_take]; omega, fun hex => ?_, fun hno t' ft Lt => ?_⟩
      · exact kx _ _ _ (pw_app_take hq) pw hex a b m ha hb2 fm
      · refine ⟨fm.trans (ft.wide fun c hc => List.mem_cons_of_mem _ hc), ?_, ?_, _, _, rfl⟩
        · rw [take_snoc hq]
          exact Lt
        · rw [take_snoc hq]
          exact List.pairwise_append.mpr ⟨pw, List.pairwise_singleton _ _, fun f hf g hg => by rw [List.mem_singleton.mp hg]; exact hno f hf⟩
  · obtain ⟨fm, Lm, pw, s4, s5, rfl⟩ := hI
    rw [List.length_map, List.take_length] at Lm pw
    conv => whnf
    exact kk pw a b m ha hb2 fm Lm
theorem zzz_wd : Wd "zzz" := wd_of (by decide +kernel)
theorem zzz_eq (m : Int) : nt m ++ " zzz is left" = entT ⟨m, "zzz", .bl false⟩ := by
  rw [entT_bl]
  refine tl_ext ?_
  have h : tl ((" zzz is left" : Str)) = [32] ++ tl (("zzz" : Str)) ++ tl ((" is " : Str)) ++ tl (trT false) := by decide +kernel
  simp only [tl_app, h, tl_blank, List.append_assoc]
theorem d__law_twice_right_ok (W : Cl) (as : List D) (t : Ts) (P : D → Ts → Prop) (h : sp__law_twice_right W as t P) : d__law_twice_right W (endsOf P) (start0 ["_law_head", "_law_rows", "_law_wrong", "e"] as) t := by
  obtain ⟨k0, e, E, rfl, k2, k30, hE, hl, hpw, k⟩ := h
  have he := hE e (List.mem_cons_self ..)
  have hf := entT_free he
  have m0 : 0 ≤ e.m := he.o.m0
  have lm := nt_bnd m0 he.ml
  have hz : ER ⟨e.m, "zzz", .bl false⟩ := ⟨⟨m0, zzz_wd, trivial⟩, he.ml, fun s h => by cases h⟩
  have hE2 : ∀ f ∈ (e :: E) ++ [⟨e.m, "zzz", .bl false⟩], ER f := fun f hf => by
    rcases List.mem_append.mp hf with hf | hf
    · exact hE f hf
    · rw [List.mem_singleton.mp hf]; exact hz
  have e12 : ((" zzz is left" : Str)).length = 12 := by decide +kernel
  have spl : ∃ r, entW e = nt e.m :: r := by
    obtain ⟨m, n, w⟩ := e
    cases w <;> exact ⟨_, rfl⟩
  obtain ⟨r, er⟩ := spl
  conv => whnf
  refine ⟨by rw [List.length_map, List.length_map]; show 1 + (E.length + 1) ≤ zLen; unfold zLen; omega, ?_⟩
  conv => whnf
  refine ⟨_, at0_d, ?_⟩
  conv => whnf
  refine ⟨by decide +kernel, ?_⟩
  conv => whnf
  refine ⟨by have := hf.2.1; unfold zLen; omega, ?_⟩
  conv => whnf
  rw [entT_split he, er]
  conv => whnf
  refine ⟨_, at0_d, ?_⟩
  conv => whnf
  refine ⟨by rw [e12]; unfold zLen; omega, ?_⟩
  conv => whnf
  refine ⟨by rw [List.length_append, List.length_map, List.length_map]; show 1 + (E.length + 1) + 1 ≤ zLen; unfold zLen; omega, ?_⟩
  conv => whnf
  have e3 : ([D.str (txL k0)] ++ ((e :: E).map entT).map D.str) ++ [D.str (nt e.m ++ " zzz is left")] = (txL k0 :: ((e :: E) ++ [(⟨e.m, "zzz", .bl false⟩ : Ent)]).map entT).map .str := by
    rw [zzz_eq]
    simp
  refine ⟨txL k0 :: ((e :: E) ++ [(⟨e.m, "zzz", .bl false⟩ : Ent)]).map entT, e3, ?_, ?_⟩
  · have e1 : (("\n" : Str)).length = 1 := by decide +kernel
    have h1 := (sum_len (n := 101) (fun w hw => (rows_free k2 k30 hE2 w hw).2.1) (by rw [List.length_cons, List.length_map, List.length_append]; show E.length + 1 + 1 + 1 ≤ 101; omega)).1
    rw [e1, List.length_cons, List.length_map, List.length_append]
    show _ + (E.length + 1 + 1 + 1) * 1 ≤ zLen
    unfold zLen
    omega
  refine ⟨k0, (e :: E) ++ [⟨e.m, "zzz", .bl false⟩], rfl, k2, k30, hE2, by rw [List.length_append]; show E.length + 1 + 1 ≤ 100; omega, fun hp => ?_, fun A f B eA pA hA a b t' ha hb ft => ?_⟩
  · have := (List.pairwise_append.mp hp).2.2 e (List.mem_cons_self ..) _ (List.mem_singleton.mpr rfl)
    exact absurd rfl this
  · have ef : f = ⟨e.m, "zzz", .bl false⟩ := by
      cases B with
      | nil =>
        have h2 : ((e :: E) ++ [⟨e.m, "zzz", .bl false⟩]) = A ++ [f] := eA
        have := List.append_inj_right' h2 rfl
        cases this
        rfl
      | cons g B =>
        exfalso
        obtain ⟨x, hx, hxm⟩ := hA
        have h3 : (A ++ f :: g :: B).dropLast = e :: E := by rw [← eA]; exact List.dropLast_concat
        have h4 : A ++ f :: (g :: B).dropLast = e :: E := by rw [← h3, List.dropLast_append_cons]; rfl
        have h5 : (A ++ f :: (g :: B).dropLast).Pairwise fun e f => e.m ≠ f.m := by rw [h4]; exact hpw
        exact (List.pairwise_append.mp h5).2.2 x hx f (List.mem_cons_self ..) hxm
    subst ef
    conv => whnf
    refine ⟨_, at0_d, ?_⟩
    conv => whnf
    refine ⟨by decide +kernel, ?_⟩
    conv => whnf
    refine ⟨by have := hf.2.1; unfold zLen; omega, ?_⟩
    conv => whnf
    rw [entT_split he, er]
    conv => whnf
    refine ⟨_, at0_d, ?_⟩
    have hfg : figB (tl (nt e.m)) = true := by
      have := nt_fO m0 he.ml
      unfold figO at this
      split at this
      · assumption
      · cases this
    have hv : figV (tl (nt e.m)) = e.m := by
      have := nt_fO m0 he.ml
      unfold figO at this
      rw [if_pos hfg] at this
      exact Option.some.inj this
    refine ⟨e.m, by rw [int_fig hfg, hv], by omega, ?_⟩
    show P (.bl (decide (e.m = e.m))) t'
    rw [decide_eq_true rfl]
    exact k a b t' ha hb ft
theorem d__law_entries_b_ok (W : Cl) (as : List D) (t : Ts) (P : D → Ts → Prop) (h : sp__law_entries_b W as t P) : d__law_entries_b W (endsN P) (start0 ["_law_pen_here", "_law_house", "_law_many", "_law_k", "_law_tellers", "_law_found", "_law_now", "_law_what"] as) t := by
  obtain ⟨b, bs, many, n, rfl, hh, m0, m1, pn, hn, k⟩ := h
  conv => whnf
  refine ⟨4, n, rfl, by decide, by decide, pn, by omega, fun ws t1 hwl hws pt1 => ?_⟩
  conv => whnf
  refine ⟨_, _, rfl, by first | omega | decide, (sm64 (by first | omega | decide) (by first | omega | decide)).mono (by decide), pt1, by omega, fun now t2 now0 now1 pt2 => ?_⟩
  conv => whnf
  refine ⟨by omega, ?_⟩
  conv => whnf
  refine ⟨fun i e m => Pk (n + 21 + 20 * i) m ∧ ∃ (E : List Ent) (now : Int) (s3 s7 : Sl), E.length = i ∧ Srt E ∧ (∀ e ∈ E, EB e) ∧ (∀ e ∈ E, e.m < now) ∧ 0 ≤ now ∧ now ≤ 3 + 1000000001 * i ∧ e = [.val .pen, .val (hD W b bs), .val (.int many), s3, .val (.lst (ws.map .str)), .own (.lst (E.map entD)), .val (.int now), s7], ⟨pt2.mono (by omega), [], now, _, _, rfl, .nil, by simp, by simp, now0, by simp; omega, rfl⟩, fun i x e m hx hI => ?_, fun e m hI => ?_⟩
  · obtain ⟨pm, E, now, s3, s7, hE, hS, hB, hlt, now0, nowb, rfl⟩ := hI
    obtain ⟨hi, rfl⟩ := rng_get hx
    conv => whnf
    refine ⟨b, bs, _, rfl, hh, pm, by omega, fun s t3 hs pt3 => ?_⟩
    conv => whnf
    refine ⟨_, _, rfl, by first | omega | decide, (sm64 (by first | omega | decide) (by first | omega | decide)).mono (by decide), pt3, by omega, fun z t4 z0 z1 pt4 => ?_⟩
    conv => whnf
    have hw : ∃ (w : Wh) (d : D), atI [.int 0, .int 0, .int 0, .int 0, .int 1, .int 2] z = some d ∧ (∃ j, d = .int j ∧ atI [syD s, .bl false, .bl true] j = some (whD w)) ∧ (w = .sy s ∨ ∃ bb, w = .bl bb) := by
      rcases (by omega : z = 0 ∨ z = 1 ∨ z = 2 ∨ z = 3 ∨ z = 4 ∨ z = 5) with rfl | rfl | rfl | rfl | rfl | rfl
      · exact ⟨.sy s, _, rfl, ⟨0, rfl, rfl⟩, .inl rfl⟩
      · exact ⟨.sy s, _, rfl, ⟨0, rfl, rfl⟩, .inl rfl⟩
      · exact ⟨.sy s, _, rfl, ⟨0, rfl, rfl⟩, .inl rfl⟩
      · exact ⟨.sy s, _, rfl, ⟨0, rfl, rfl⟩, .inl rfl⟩
      · exact ⟨.bl false, _, rfl, ⟨1, rfl, rfl⟩, .inr ⟨_, rfl⟩⟩
      · exact ⟨.bl true, _, rfl, ⟨2, rfl, rfl⟩, .inr ⟨_, rfl⟩⟩
    obtain ⟨w, _, ez, ⟨j, rfl, ew⟩, hw⟩ := hw
    refine ⟨_, ez, ?_⟩
    conv => whnf
    refine ⟨_, ew, ?_⟩
    conv => whnf
    refine ⟨_, _, rfl, by first | omega | decide, (sm64 (by first | omega | decide) (by first | omega | decide)).mono (by decide), pt4, by omega, fun y t5 y0 y1 pt5 => ?_⟩
    conv => whnf
    obtain ⟨v, hv, evv⟩ := atI_strs (ss := ws) y0 (by omega)
    refine ⟨_, evv, ?_⟩
    conv => whnf
    refine ⟨by rw [List.length_map]; unfold zLen; omega, ?_⟩
    conv => whnf
    refine ⟨_, _, rfl, by first | omega | decide, (sm64 (by first | omega | decide) (by first | omega | decide)).mono (by decide), pt5, by omega, fun x1 t6 x10 x11 pt6 => ?_⟩
    conv => whnf
    refine ⟨PowOk.s (by decide) (by decide) (by decide) (by decide), ?_⟩
    conv => whnf
    refine ⟨_, _, rfl, by first | omega | decide, (sm64 (by first | omega | decide) (by first | omega | decide)).mono (by decide), pt6, by omega, fun x2 t7 x20 x21 pt7 => ?_⟩
    conv => whnf
    refine ⟨_, _, rfl, by first | omega | decide, (sm64 (by first | omega | decide) (by first | omega | decide)).mono (by decide), pt7, by omega, fun x3 t8 x30 x31 pt8 => ?_⟩
    conv => whnf
    have h10 : (10 : Int) ^ Int.toNat 9 = 1000000000 := by decide
    rw [h10] at x21
    obtain ⟨u, eu, u0, u1⟩ := pick3b (a := 0) (M := 999999999) x30 x31 (by omega) (by omega) x10 (by omega) x20 (by omega)
    refine ⟨_, eu, ?_⟩
    conv => whnf
    have he : EB ⟨now, v, w⟩ := by
      rcases hw with rfl | ⟨bb, rfl⟩
      · exact ⟨⟨now0, hws v hv, hs.1⟩, fun s' h => by cases h; exact hs⟩
      · exact ⟨⟨now0, hws v hv, True.intro⟩, fun s' h => by cases h⟩
    refine ⟨pt8.mono (by omega), E ++ [⟨now, v, w⟩], now + 1 + u, _, _, by rw [List.length_append, hE]; rfl, ?_, fun e hm => ?_, fun e hm => ?_, by omega, by omega, by rw [List.map_append]; rfl⟩
    · refine List.pairwise_append.mpr ⟨hS, .cons (by simp) .nil, fun e he f hf => ?_⟩
      rw [List.mem_singleton.mp hf]
      exact hlt e he
    · rcases List.mem_append.mp hm with hm | hm
      · exact hB e hm
      · rw [List.mem_singleton.mp hm]; exact he
    · rcases List.mem_append.mp hm with hm | hm
      · have := hlt e hm
        omega
      · rw [List.mem_singleton.mp hm]
        show now < now + 1 + u
        omega
  · obtain ⟨pm, E, now, s3, s7, hE, hS, hB, hlt, now0, nowb, rfl⟩ := hI
    rw [rng_len] at hE pm nowb
    conv => whnf
    exact k E m (by omega) hS (fun e he => ⟨hB e he, by have := hlt e he; omega⟩) (pm.mono (by omega))
end Q
/-! M_k90 -/
namespace Q
open PySem
theorem ER.of {e : Ent} (h : EB e) (hm : e.m ≤ 1000000000000) : ER e := by
  refine ⟨h.o, Int.lt_of_le_of_lt hm (by decide), fun s hs => ?_⟩
  obtain ⟨h1, h2, h3⟩ := h.s s hs
  exact ⟨h1, Int.lt_of_le_of_lt h2 (by decide), Int.lt_of_le_of_lt h3 (by decide)⟩
theorem obs_keep {W : Cl} {t t' : Ts} {a b x y : Addr} {k : Int} {es : List Ent} (L : LoreAt W t.obs a b k es) (hx : t.obs x = none) (hy : t.obs y = none) (f : Fr t t' [x, y]) : LoreAt W t'.obs a b k es := by
  have A := L.A
  have B := L.B
  refine L.fr f (fun z => ?_) (fun z => ?_)
  · simp only [List.mem_cons, List.not_mem_nil, or_false] at z
    rcases z with rfl | rfl
    · rw [hx] at A; cases A
    · rw [hy] at A; cases A
  · simp only [List.mem_cons, List.not_mem_nil, or_false] at z
    rcases z with rfl | rfl
    · rw [hx] at B; cases B
    · rw [hy] at B; cases B
theorem lnW_cons (x y : Str) (r : List Str) : lnW (x :: y :: r) = x ++ "\n" ++ lnW (y :: r) := tl_ext (by
  rw [tl_app, tl_app]
  rfl)
theorem lnW_plain : ∀ {ws : List Str}, (∀ w ∈ ws, plain (.str w) = true) → plain (.str (lnW ws)) = true := fun {ws} h => by
  refine plain_of fun c hc => ?_
  induction ws with
  | nil => cases hc
  | cons x r ih =>
    have hx : ∀ c ∈ tl x, c < 0x110000 := fun c hc => by
      have := h x (List.mem_cons_self ..)
      have : x.cps.all (· < 0x110000) = true := this
      rw [← Array.all_toList] at this
      exact of_decide_eq_true (List.all_eq_true.mp this c hc)
    cases r with
    | nil => exact hx c hc
    | cons y r =>
      rw [lnW_cons, tl_app, tl_app, tl_nl] at hc
      simp only [List.mem_append, List.mem_cons, List.not_mem_nil, or_false] at hc
      rcases hc with (hc | hc) | hc
      · exact hx c hc
      · omega
      · exact ih (fun w hw => h w (List.mem_cons_of_mem _ hw)) hc
theorem make_fr {t t1 : Ts} {a b : Addr} {d : D} (f : Fr (t.put a d) t1 [a, b]) : Fr t t1 [a, b] := ⟨f.b, fun c hc => by
  rw [f.o c hc, Ts.put_ne _ _ (fun z => hc (by rw [z]; exact List.mem_cons_self ..))]⟩
theorem make_nb {t : Ts} {a b : Addr} {d : D} (hb : (t.put a d).obs b = none) : t.obs b = none := by
  have nb : b ≠ a := fun z => by
    rw [z, Ts.put_same] at hb
    cases hb
  rwa [Ts.put_ne _ _ nb] at hb
def d_law (W : Cl) : DS := (dSeq (dFor (iRng1 (dOp oAdd (dC (.int 1)) (dCB bMin (dCons (dC (.int 2)) (dCons (dOp oDiv (dCB bLen (dCons (dVar 0) dNil)) (dC (.int 3))) dNil))))) (gName 2) (dSeq (dAsg (dOp oAdd (dC (.int 2)) (dCallO sp__law_draw [] (dCons (dVar 1) (dCons (dC (.int 29)) dNil)))) (gName 3)) (dSeq (dAsg (dCallO (sp_House___init__ W) [] (dCons (dVar 3) (dCons (dCallO sp__law_beginning [] (dCons (dVar 1) (dCons (dVar 3) (dCons (dC (.int 9)) dNil)))) dNil))) (gName 4)) (dSeq (dAsg (dCallO (sp__law_entries_b W) [] (dCons (dVar 1) (dCons (dVar 4) (dCons (dOp oAdd (dC (.int 1)) (dCallO sp__law_draw [] (dCons (dVar 1) (dCons (dC (.int 16)) dNil)))) dNil)))) (gName 5)) (dSeq (dPar 9 10 (dCons (dCall (sp__law_lore_2 W) [] (dCons (dVar 3) (dCons (dCallO sp__law_mixed [] (dCons (dVar 1) (dCons (dVar 5) dNil))) dNil))) (dCons (dOp oAdd (dC (.str "lore ")) (dCB bStr (dCons (dVar 3) dNil))) dNil))) (dSeq (dAsg (dLc [11] (iSeq (dVar 5)) (gName 11) dYes (dCallO sp__law_row_3 [] (dCons (dVar 11) dNil))) (gName 6)) (dSeq (dAsg (dJoin (dC (.str "\n")) (dOp oAdd (dLst (dCons (dVar 10) dNil)) (dVar 6))) (gName 7)) (dSeq (dIf (dOr (dB (dOp oNe (dCall (sp_show_lore W) [] (dCons (dVar 9) dNil)) (dVar 7))) (dOr (dB (dOp oNe (dCall (sp_show_lore W) [] (dCons (dMakeO W.Lore (spNoE (sp_Lore___init__ W)) [] (dCons (dVar 3) dNil)) dNil)) (dVar 10))) (dB (dOp oNe (dLenI W.Lore (sp_Lore___len__ W) (dCall (spNoE (sp_read_lore W)) [] (dCons (dVar 10) dNil))) (dC (.int 0)))))) (dSeq (dRet (dC (.bl false))) dNext) dNext) (dSeq (dAsg (dCall (spNoE (sp_read_lore W)) [] (dCons (dJoin (dC (.str "\n")) (dOp oAdd (dLst (dCons (dVar 10) dNil)) (dCallO sp__law_mixed [] (dCons (dVar 1) (dCons (dVar 6) dNil))))) dNil)) (gName 8)) (dSeq (dIf (dOr (dB (dOp oNe (dMethO W.Lore "entries" (sp_Lore_entries W) [.non] (dVar 8) dNil) (dVar 5))) (dOr (dB (dOp oNe (dMethO W.Lore "base" (sp_Lore_base W) [] (dVar 8) dNil) (dVar 3))) (dB (dOp oNe (dCall (sp_show_lore W) [] (dCons (dVar 8) dNil)) (dVar 7))))) (dSeq (dRet (dC (.bl false))) dNext) dNext) (dSeq (dIf (dNot (dB (dCall (sp__law_twice_right W) [] (dCons (dVar 10) (dCons (dVar 6) dNil))))) (dSeq (dRet (dC (.bl false))) dNext) dNext) (dSeq (dDrop (dMethO W.Lore "drop" (spNoE (sp_Lore_drop W)) [] (dVar 8) (dCons (dOp oIx (dOp oIx (dVar 5) (dC (.int 0))) (dC (.int 0))) dNil))) (dSeq (dIf (dOr (dB (dOp oNe (dLenI W.Lore (sp_Lore___len__ W) (dVar 9)) (dCB bLen (dCons (dVar 5) dNil)))) (dB (dOp oNe (dCall (sp_show_lore W) [] (dCons (dVar 9) dNil)) (dVar 7)))) (dSeq (dRet (dC (.bl false))) dNext) dNext) dNext))))))))))))) (dSeq (dRet (dC (.bl true))) dNext))
abbrev Nlaw : List Str := ["_law_script", "_law_pen_here", "_law_turn", "_law_base", "_law_house", "_law_entries_here", "_law_rows", "_law_text", "_law_read", "_law_lore_here", "_law_head", "_law_entry"]
theorem law_run (W : Cl) (ns : List Int) (t : Ts) (hp : Pk 0 t) : d_law W (endsOf fun d _ => d = .bl true) ((start0 Nlaw [.scr ns]).set 1 (.val .pen)) t := by
  conv => whnf
  have lb : (0 : Int) ≤ (ns.length : Int) / 3 := Int.ediv_nonneg (by omega) (by decide)
  refine ⟨DivOk.s (by decide) (by decide), ?_⟩
  conv => whnf
  have hm : (if (ns.length : Int) / 3 < 2 then (ns.length : Int) / 3 else 2) ≤ 2 ∧ 0 ≤ (if (ns.length : Int) / 3 < 2 then (ns.length : Int) / 3 else 2) := by split <;> omega
  generalize (if (ns.length : Int) / 3 < 2 then (ns.length : Int) / 3 else 2) = mm at hm ⊢
  refine ⟨by omega, ?_⟩
  conv => whnf
  refine ⟨fun i e m => Pk (3000 * i) m ∧ ∃ s2 s3 s4 s5 s6 s7 s8 s9 s10 s11 : Sl, e = [.val (.scr ns), .val .pen, s2, s3, s4, s5, s6, s7, s8, s9, s10, s11], ⟨by simpa using hp, _, _, _, _, _, _, _, _, _, _, rfl⟩, fun i x e m hx hI => ?_, fun e m hI => ?_⟩
  · obtain ⟨pm, s2, s3, s4, s5, s6, s7, s8, s9, s10, s11, rfl⟩ := hI
    obtain ⟨hi, rfl⟩ := rng_get hx
    have pmb := pm.bare
    conv => whnf
    refine ⟨_, _, rfl, by first | omega | decide, (sm64 (by first | omega | decide) (by first | omega | decide)).mono (by decide), pmb, by omega, fun x1 t1 x10 x11 pt1 => ?_⟩
    conv => whnf
    refine ⟨2 + x1, 9, _, rfl, by omega, by omega, by decide, (sm64 (by decide) (by decide)).mono (by decide), pt1.wear m.obs |>.bare, by omega, fun bs t2 hh hb pt2 => ?_⟩
    conv => whnf
    refine ⟨2 + x1, bs, .inl rfl, hh, ?_⟩
    conv => whnf
    have p2b := (pt2.wear m.obs).bare
    refine ⟨_, _, rfl, by first | omega | decide, (sm64 (by first | omega | decide) (by first | omega | decide)).mono (by decide), p2b, by omega, fun x2 t3 x20 x21 pt3 => ?_⟩
    conv => whnf
    refine ⟨2 + x1, bs, 1 + x2, _, rfl, hh, by omega, by omega, (pt3.wear m.obs).bare, by omega, fun Es t4 hEl hS hB pt4 => ?_⟩
    have hR : ∀ e ∈ Es, ER e := fun e he => ER.of (hB e he).1 (hB e he).2
    obtain ⟨e0, E0, eE⟩ : ∃ e0 E0, Es = e0 :: E0 := by
      cases Es with
      | nil => simp at hEl; omega
      | cons e0 E0 => exact ⟨e0, E0, rfl⟩
    conv => whnf
    refine ⟨Es.map entD, _, rfl, by rw [List.length_map]; omega, (pt4.wear m.obs).bare, by omega, fun l' t5 hperm pt5 => ?_⟩
    rw [List.length_map] at pt5
    obtain ⟨es, hpe, rfl⟩ := perm_map_inv entD hperm Es rfl
    clear hperm
    have hO : ∀ e ∈ Es, EOk e := fun e he => (hB e he).1.o
    have el : es.length = Es.length := hpe.length_eq
    have hk : 2 ≤ 2 + x1 ∧ 2 + x1 ≤ 30 := by omega
    generalize 2 + x1 = k0 at hk hh ⊢
    refine ⟨k0, es, rfl, hk.1, hk.2, fun e he => hO e (hpe.mem_iff.mp he), perm_pw hpe.symm (srt_ne hS), by omega, fun a b t6 ha hb6 f6 L => ?_⟩
    have p6 : Pk (3000 * i + 1000) t6 := f6.pk ((pt5.wear m.obs).mono (by omega))
    have lk := nt_bnd (i := k0) (by omega) (Int.lt_of_le_of_lt hk.2 (by decide))
    have e5 : (("lore " : Str)).length = 5 := by decide +kernel
    have e1 : (("\n" : Str)).length = 1 := by decide +kernel
    conv => whnf
    refine ⟨log_bnd (by omega) (Int.lt_of_le_of_lt hk.2 (by decide)), ?_⟩
    conv => whnf
    refine ⟨by rw [e5]; show 5 + (nt k0).length ≤ zLen; unfold zLen; omega, ?_⟩
    conv => whnf
    refine lc_idx (fun i => .str (entT (Es.getD i ⟨0, "", .bl false⟩))) (by rw [List.length_map]; unfold zLen; omega) (fun i x hx Qy q => ?_) ?_
    · obtain ⟨e, he, rfl⟩ := ent_get hx
      rw [getD_some he] at q
      conv => whnf
      refine ⟨rfl, ?_⟩
      conv => whnf
      exact ⟨e, rfl, hR e (List.mem_of_getElem? he), q⟩
    have er : (List.range (Es.map entD).length).map (fun i => D.str (entT (Es.getD i ⟨0, "", .bl false⟩))) = (Es.map entT).map .str := by
      rw [List.length_map]
      refine List.ext_getElem (by simp) fun i h1 h2 => ?_
      simp at h1
      simp [List.getD_eq_getElem?_getD, List.getElem?_eq_getElem h1]
    rw [er, txL_eq]
    have ehd : ("lore " : Str) ++ Str.ofString (toString k0) = txL k0 := txL_eq
    have jl : ∀ G : List Ent, (∀ e ∈ G, ER e) → G.length ≤ 100 → ((txL k0 :: G.map entT).map (·.length)).sum + (txL k0 :: G.map entT).length * (("\n" : Str)).length ≤ zLen := fun G hG hl => by
      have h1 := (sum_len (n := 101) (fun w hw => (rows_free hk.1 hk.2 hG w hw).2.1) (by rw [List.length_cons, List.length_map]; omega)).1
      rw [e1, List.length_cons, List.length_map]
      unfold zLen
      omega
    have hplT : ∀ G : List Ent, (∀ e ∈ G, ER e) → plain (.str (loreT k0 G)) = true := fun G hG => lnW_plain fun w hw => (rows_free hk.1 hk.2 hG w hw).2.2
    have eh0 : loreT k0 [] = txL k0 := tl_ext rfl
    have n0 : ∀ e ∈ ([] : List Ent), ER e := fun e he => by cases he
    have pE := plain_ents (H := Es) fun e he => hO e he
    have dE := deep_ents Es
    have ef : Es.filter (upt none) = Es := List.filter_eq_self.mpr fun e _ => rfl
    conv => whnf
    refine ⟨by rw [List.length_map, List.length_map]; show 1 + Es.length ≤ zLen; unfold zLen; omega, ?_⟩
    conv => whnf
    refine ⟨txL k0 :: Es.map entT, rfl, jl Es hR (by omega), ?_⟩
    conv => whnf
    refine ⟨a, b, k0, es, Es, rfl, L, hpe.symm, hS, by omega, hR, hk.1, hk.2, ?_⟩
    conv => whnf
    refine ⟨⟨hplT Es hR, hplT Es hR, dp0 _, dp0 _⟩, br_nr rfl (hplT Es hR) ?_⟩
    conv => whnf
    refine fun a2 ha2 => ⟨a2, .int k0, rfl, ⟨_, rfl⟩, Ts.put_same .., fun z => ?_, fun k1 ek _ _ b2 t7 hb2 f7 L7 => ?_⟩
    · have z : decide (2 ≤ k0 ∧ k0 ≤ 30) = false := z
      exact absurd hk (of_decide_eq_false z)
    cases ek
    refine ⟨rfl, ?_⟩
    have La := obs_keep L ha2 (make_nb hb2) (make_fr f7)
    have p7 := (make_fr f7).pk p6
    conv => whnf
    refine ⟨a2, b2, k0, [], [], rfl, L7, .refl _, .nil, by decide, n0, hk.1, hk.2, ?_⟩
    conv => whnf
    refine ⟨⟨hplT [] n0, by rw [← eh0]; exact hplT [] n0, dp0 _, dp0 _⟩, br_nr (congrArg D.str eh0) (hplT [] n0) ?_⟩
    conv => whnf
    refine ⟨k0, [], by rw [eh0]; rfl, hk.1, hk.2, n0, by decide, fun _ a3 b3 t8 ha3 hb3 f8 L8 => ?_, fun A e B eA => by simp at eA⟩
    have Lb := obs_keep La ha3 hb3 f8
    have p8 := f8.pk p7
    conv => whnf
    refine ⟨_, _, L8.A, ?_⟩
    refine ⟨a3, k0, [], rfl, ⟨b3, [], L8, .refl _, .nil, by decide, (fun e he => by cases he), hk.1, hk.2⟩, ?_⟩
    conv => whnf
    refine ⟨⟨by decide, by decide⟩, ?_⟩
    conv => whnf
    conv => whnf
    refine ⟨(Es.map entT).map .str, _, rfl, by rw [List.length_map, List.length_map]; omega, p8.bare, by omega, fun l' t9 hperm2 pt9 => ?_⟩
    rw [List.length_map, List.length_map] at pt9
    obtain ⟨gs, hpg, rfl⟩ := perm_map_inv (fun e => D.str (entT e)) hperm2 Es (by rw [List.map_map]; rfl)
    clear hperm2
    have hRg : ∀ e ∈ gs, ER e := fun e he => hR e (hpg.mem_iff.mp he)
    have lg : gs.length = Es.length := hpg.length_eq
    have p9 := pt9.wear t8.obs
    conv => whnf
    refine ⟨by rw [List.length_map]; show 1 + gs.length ≤ zLen; unfold zLen; omega, ?_⟩
    conv => whnf
    refine ⟨txL k0 :: gs.map entT, by rw [List.map_cons, List.map_map]; rfl, jl gs hRg (by omega), ?_⟩
    conv => whnf
    refine ⟨k0, gs, rfl, hk.1, hk.2, hRg, by omega, fun _ a4 b4 t10 ha4 hb4 f10 L10 => ?_, fun A e B eA pA hA => ?_⟩
    rotate_left
    · exfalso
      obtain ⟨f, hf, hfm⟩ := hA
      have := perm_pw hpg.symm (srt_ne hS)
      rw [eA] at this
      exact (List.pairwise_append.mp this).2.2 f hf e (List.mem_cons_self ..) hfm
    have Lc : LoreAt W t10.obs a b k0 es := obs_keep (t := t9.wear t8.obs) Lb ha4 hb4 f10
    have p10 := f10.pk p9
    have nab : a ≠ b4 ∧ b ≠ b4 := by
      have A := Lb.A
      have B := Lb.B
      have hb4 : t8.obs b4 = none := hb4
      exact ⟨(fun z => by rw [z, hb4] at A; cases A), (fun z => by rw [z, hb4] at B; cases B)⟩
    conv => whnf
    refine ⟨_, _, L10.A, rfl, ?_⟩
    refine ⟨a4, b4, k0, gs, Es, none, rfl, L10, hpg.symm, hS, by omega, ?_⟩
    rw [ef]
    conv => whnf
    refine ⟨⟨pE, pE, by show deeps _ + 1 ≤ 60; omega, by show deeps _ + 1 ≤ 60; omega⟩, br_nr rfl pE ?_⟩
    conv => whnf
    refine ⟨_, _, L10.A, rfl, ?_⟩
    refine ⟨a4, b4, _, gs, rfl, L10, ?_⟩
    refine br_ne (rfl) ?_
    conv => whnf
    refine ⟨a4, b4, k0, gs, Es, rfl, L10, hpg.symm, hS, by omega, hR, hk.1, hk.2, ?_⟩
    conv => whnf
    refine ⟨⟨hplT Es hR, hplT Es hR, dp0 _, dp0 _⟩, br_nr rfl (hplT Es hR) ?_⟩
    conv => whnf
    refine ⟨k0, e0, E0, by rw [eE]; rfl, hk.1, hk.2, by rw [← eE]; exact hR, by rw [eE] at hEl; simp at hEl; omega, by rw [← eE]; exact srt_ne hS, fun a5 b5 t11 ha5 hb5 f11 => ?_⟩
    have Ld := obs_keep Lc ha5 hb5 f11
    have L11 := obs_keep L10 ha5 hb5 f11
    have p11 := f11.pk p10
    conv => whnf
    refine ⟨_, _, L11.A, rfl, ?_⟩
    refine ⟨entD e0, by rw [eE]; exact at0_d, ?_⟩
    conv => whnf
    refine ⟨_, rfl, ?_⟩
    conv => whnf
    have he0 : e0 ∈ Es := by rw [eE]; exact List.mem_cons_self ..
    refine ⟨a4, .int e0.m, rfl, b4, k0, gs, L11, ⟨_, rfl⟩, fun hm => absurd (show momB (.int e0.m) = true from decide_eq_true (hO e0 he0).m0) (by rw [hm]; decide), fun m' em _ => ⟨fun hno => ?_, fun _ t12 f12 L12 => ?_⟩⟩
    · cases em
      exact absurd rfl (hno e0 (hpg.mem_iff.mpr he0))
    have Le : LoreAt W t12.obs a b k0 es := Ld.fr f12 (fun z => nab.1 (List.mem_singleton.mp z)) (fun z => nab.2 (List.mem_singleton.mp z))
    have p12 := f12.pk p11
    conv => whnf
    refine ⟨_, _, Le.A, ?_⟩
    refine ⟨a, k0, Es, rfl, ⟨b, es, Le, hpe.symm, hS, by omega, (fun e he => (hB e he).1), hk.1, hk.2⟩, ?_⟩
    conv => whnf
    refine ⟨⟨by omega, by omega⟩, ?_⟩
    conv => whnf
    refine br_ne ((by rw [List.length_map])) ?_
    conv => whnf
    refine ⟨a, b, k0, es, Es, rfl, Le, hpe.symm, hS, by omega, hR, hk.1, hk.2, ?_⟩
    conv => whnf
    refine ⟨⟨hplT Es hR, hplT Es hR, dp0 _, dp0 _⟩, br_nr rfl (hplT Es hR) ?_⟩
    conv => whnf
    exact ⟨p12.mono (by omega), _, _, _, _, _, _, _, _, _, _, rfl⟩
  · obtain ⟨pm, s2, s3, s4, s5, s6, s7, s8, s9, s10, s11, rfl⟩ := hI
    conv => whnf
theorem d_law_ok (W : Cl) (ns : List Int) (hl : ns.length ≤ 63) : (dCall sp__law_pen [] (dCons (dVar 0) dNil)) (start0 Nlaw [.scr ns]) ⟨[], 0, 0, false, noObs⟩ (fun d _ => ∃ cs : List Int, d = .dic (if false = true then [.inr "cells", .inr "turn", .inr "rest"] else [.inr "cells", .inr "at", .inr "left"]) [.lst (cs.map .int), .int 0, .int 0] ∧ cs.length ≤ 63 ∧ d_law W (endsOf fun d _ => d = .bl true) ((start0 Nlaw [.scr ns]).set 1 (.val .pen)) ⟨cs, 0, 0, false, noObs⟩) :=
  ⟨ns, rfl, hl, fun cs hc => ⟨cs, rfl, hc, law_run W ns _ (Pk.zero hc)⟩⟩
end Q
/-! QX1 -/
namespace Q
open PySem L2 PySem.Spec PyProof.Rows
/-! ### own exception classes over RuntimeError whose __init__ calls RuntimeError.__init__(self, text) alone -/
end Q
/-! QX2 -/
namespace Q
open PySem L2 PySem.Spec PyProof.Rows
/-! ### defs that may raise -/
/-! ### try: return f(..) / except X as e: w = e, then behind it the exception that w holds -/
theorem Cf.slots {K : PySem.W.Frag} {B : Bs} {F : Hp} {pa : Option Addr} {t : Ts} {env env' : En} {σ σ' : L2.St} {H : Hp} (C : Cf K B F pa t env σ H) (hl : env'.length = σ'.length) (h : ∀ (k : Nat) (s : Sl), env'[k]? = some s → s ≠ Sl.no → env[k]? = some s ∧ σ'[k]? = σ[k]?) : Cf K B F pa t env' σ' H :=
  ⟨hl, C.sub, C.bas, C.frm, C.new, C.exl, fun i d e => by
    obtain ⟨h1, h2⟩ := h i _ e (by simp)
    rw [h2]; exact C.val i d h1,
  fun i d e => by
    obtain ⟨h1, h2⟩ := h i _ e (by simp)
    rw [h2]; exact C.own i d h1,
  fun i j d e a q1 q2 s1 s2 => by
    obtain ⟨h1, h2⟩ := h i _ q1 (by simp)
    obtain ⟨h3, h4⟩ := h j _ q2 (by simp)
    rw [h2] at s1
    rw [h4] at s2
    exact C.sep i j d e a h1 h3 s1 s2, C.pen, C.pnn, C.tab, C.ntb, C.obs, C.obx, fun i d a e s => by
    obtain ⟨h1, h2⟩ := h i _ e (by simp)
    rw [h2] at s
    exact C.osp i d a h1 s⟩
end Q
/-! QX15 -/
namespace Q
open PySem L2 PySem.Spec PyProof.Rows
/-! ### own exception classes over a base B whose __init__ calls B.__init__(self, text) and keeps one field -/
structure FxB (B newId initId : String) (tl : List Value) : Prop where
  base : PySem.ExcBaseFacts B newId initId tl
  pass : ∀ self : Value, refuseLoop self "__setattr__" tl = pure ()
  obj : tl.contains (.type "object") = true
  ne : tl.isEmpty = false
structure FxC (K : PySem.W.Frag) (C : Addr) (newId : String) (tl : List Value) : Prop where
  cls : ∃ nm q N bs sn sub ab col dd k0 k1 k2 k3 k5, K.lookup C = some (excClassObj nm q C N bs tl true sn sub ab col dd k0 k1 k2 k3 k5 newId)
  sa : PySem.W.findIn K (.ref C) "__setattr__" = some (some (.builtin "object.__setattr__"))
  exC : PySem.W.subIn K (.ref C) (.type "BaseException") = some true
  tyC : PySem.W.typeIn K (.ref C) = some (.type "type")
  kC : PySem.W.keepIn K (.ref C) = true
end Q
namespace PySem
namespace HandSPX
open PySem.W PySem.Calls PyProof.Rows Builtin Builtin.ObjectAttr
end HandSPX
end PySem
namespace Q
open PySem L2 PySem.Spec PyProof.Rows
/-- B.__init__(self, ..) -/
def tFxI (K : PySem.W.Frag) (newId : String) (tl : List Value) (ta : TA) : TE := fun σ H Q => ta σ H fun vs H1 => ∃ (a C : Addr) (ws : List V), vs = .ref a :: ws ∧ ws.length ≤ 1000 ∧ FxC K C newId tl ∧ H1 a = some (exo a C none) ∧ Q .non H1
/-- self.f = e, the first field -/
def tFst (K : PySem.W.Frag) (newId : String) (tl : List Value) (f : Str) (to te : TE) : TS := fun D σ H => te σ H fun y H1 => to σ H1 fun x H2 => ∃ a C : Addr, x = .ref a ∧ FxC K C newId tl ∧ PySem.W.findIn K (.ref C) f = some none ∧
  H2 a = some (exo a C none) ∧ ∀ dx, H2 dx = none → dx ≠ a → D.nx σ (upd (upd H2 dx (exd dx [(f, y)])) a (exo a C (some dx)))
/-- such an __init__'s promise -/
def spFx (K : PySem.W.Frag) (newId : String) (tl : List Value) (f : Str) : Sp := fun vs H Q _ => ∃ (a C : Addr) (y : V), vs = [.ref a, y] ∧ FxC K C newId tl ∧ PySem.W.findIn K (.ref C) f = some none ∧ H a = some (exo a C none) ∧
  ∀ dx, H dx = none → dx ≠ a → Q .non (upd (upd H dx (exd dx [(f, y)])) a (exo a C (some dx)))
section
variable {P : Program} {w : World} {K : PySem.W.Frag} {mg : Str → Option Value} {base : Heap}
theorem fn_fx {x qual m f par : Str} {tl : List Value} {nI : String} {st : Stmt} {fa : Addr} {fd : FuncData} (Fu : Fun K x qual st fa fd) (S : FnScope ["self", par] ["self", par] (defScope st))
    (hb : ∀ (cdv : Value) (A : Around) (outer : List PySem.Env) (s : Shared) (H : Hp) (E : XK), PSs (cxOf CX0 P w K mg base ["self", par] qual (defScope st) fa cdv A outer s H E).nox (defBody st) (tSeq (tDrop (tFxI K nI tl (tCons (tVar 0) (tCons (tC (.str m)) tNil)))) (tFst K nI tl f (tVar 0) (tVar 1)))) : FnOk P w K mg base CX0 1 fa fd ["self", par] (spFx K nI tl f) := by
  refine Fu.ok S (fun vs H Q E h => ?_) (fun cdv A outer s H vs Q E hr h => ?_)
  · obtain ⟨a, C, y, rfl, _⟩ := h
    rfl
  · obtain ⟨a, C, y, rfl, T, hn, e, q⟩ := h
    refine ⟨_, hb cdv A outer s H E, .ref a, rfl, ⟨a, C, [.str m], rfl, (by show 1 ≤ 1000; omega), T, e, ?_⟩⟩
    exact ⟨y, rfl, .ref a, rfl, a, C, rfl, T, hn, e, fun dx n ne => q dx n ne⟩
end
theorem fx_heap {H : Hp} {a dx : Addr} {e1 e2 e3 o : HO} (ha : H a = none) (hne : dx ≠ a) : upd (del (upd (upd (upd H a e1) dx e2) a e3) a) dx o = upd H dx o := by
  funext b
  by_cases hb : b = dx
  · rw [hb, upd_same, upd_same]
  · rw [upd_ne hb, upd_ne hb]
    by_cases hc : b = a
    · rw [hc, del_same, ha]
    · rw [del_ne hc, upd_ne hc, upd_ne hb, upd_ne hc]
end Q
/-! QX16 -/
namespace Q
open PySem L2 PySem.Spec PyProof.Rows
section
variable {X : Cx} {B : Bs} {pos : Pos} {e : Expr} {C : Addr} {f : Str}
theorem q_raiseF {W : WX} {Px : D → Ts → Prop} {as : DA} (hc : X.calm = true) (tk : Takes X W) (hE : ∀ F pa t env σ H v d dd fs, Cf X.K B F pa t env σ H → RelD X.K F pa d v → H dd = some (.xd fs) → fs.lookup f = some v → Px d t → W (.ref C) (some dd) σ H)
    (mk : PMk X e fun σ H Q => taOf X.K B as σ H fun vs H1 => ∃ y, vs = [y] ∧ ∀ d, H1 d = none → Q (.ref C) (some d) (upd H1 d (.xd [(f, y)]))) : QS X B (.Raise (some e) none pos) (dRaiseF Px as) :=
  PS.imp (ps_raise hc tk mk) fun D σ H ⟨F, pa, t, env, DD, Cc, h, R⟩ => by
    refine ⟨F, pa, t, env, _, Cc, h, fun vs ds F' pa' t' H' g C' r q => ?_⟩
    cases ds with
    | nil => exact q.elim
    | cons x ds =>
      cases ds with
      | cons _ _ => exact q.elim
      | nil =>
        obtain ⟨v, vr, rfl, rv, rr⟩ := r.inv
        obtain rfl := rr.inv0
        refine ⟨v, rfl, fun d hd => ?_⟩
        refine hE F' pa' t' env σ _ v x d [(f, v)] (C'.loose _ hd) rv upd_same ?_ q
        simp [List.lookup]
end
/-! ### reading a field of the exception that a name holds -/
theorem pe_xfT {X : Cx} {a C : Addr} {oe : Obj} {cls : Value} {d : Option Addr} {e : Expr} {te : TE} {pos : Pos} {n : Str} (T : XfC X.K C) (hno : PySem.W.findIn X.K (.ref C) n = some none)
    (hz : Zc cls d oe) (hf : ∃ vs, oe.data = .fields vs) (hm : (a, oe) ∈ X.pn) (he : PE X e te) (hb : attributeBase e n X.env (eval e X.env) = eval e X.env := by rfl) :
    PE X (.Attribute e n pos) (tXf a cls d C n te) := by
  refine ⟨fun pins s σ H Q I h => ?_⟩
  refine attr_of hb (thn (he.run pins s σ H _ I h) fun u s1 hh => ?_)
  obtain ⟨x, H1, I1, rx, ex, ec, dd, fs, v, ed, ea, l, q⟩ := hh
  subst ex
  obtain rfl : u = Value.ref a := rx
  subst ec
  subst ed
  obtain ⟨ha, _⟩ := I1.pin (a, oe) (List.mem_append_left _ hm)
  obtain ⟨vs, hd⟩ := hf
  have hx : ObjOk X.prog X.w H1 s1.heap dd (.xd fs) := I1.hok dd _ ea
  obtain ⟨mA, hns, hr⟩ := hx
  obtain ⟨od, ho, hl⟩ := lookIn_ns hns
  obtain ⟨u, hu, ru⟩ := RelO.some_of (v := v) (o := mA n) (by rw [← l]; exact hr n)
  have J : PySem.W.InstAt s1.heap a oe C (some od) := ⟨ha, hz.1, by unfold PySem.W.notCls; rw [hd] <;> rfl, by rw [hz.2]; exact ho⟩
  exact HandSPX.exc_get I1.kIn J T.ga T.gg T.exC (PySem.W.findObj_own T.hdC hno rfl (by rw [hl, hu])) (handed_of ru) ⟨v, H1, I1.tok _, ru, q⟩
theorem kit_T {K : PySem.W.Frag} {C : Addr} {T : String} (km : PySem.W.kitMeta T = true) (h : PySem.W.subIn K (.ref C) (.type T) = some true) : PySem.W.kitOne K (.ref C) (.type T) = some true := by
  show (if (Value.ref C == Value.type T) = true then some true else (if PySem.W.kitMeta T = true then PySem.W.subIn K (.ref C) (.type T) else none)) = some true
  rw [if_pos km, h]
  split <;> rfl
end Q
/-! QX17 -/
namespace Q
open PySem L2 PySem.Spec PyProof.Rows LamX
/-! ### the state when a lambda is made -/
end Q
/-! QX18 -/
namespace Q
open PySem L2 PySem.Spec PyProof.Rows LamX
end Q
/-! QX19 -/
namespace Q
open PySem L2 PySem.Spec PyProof.Rows LamX
/-- the base bears the table at P, whose code objects' name is q -/
structure TabOf (B : Bs) (P : Addr) (q : Str) : Prop where
  m : (P, q) ∈ B.T
  x : P ∈ B.ex
  u : ∀ p ∈ B.T, p.1 = P → p.2 = q
/-! ### the law's own def, a table of code objects with it -/
/-- the table of a def of the program is empty at the head -/
def TabAt (K : PySem.W.Frag) (fb : Addr) (h : Heap) : Prop := ∀ (c P : Addr) (o : Obj) (fd : FuncData) (e : Value) (dd : Option Addr) (vs : Array Value) (sl : Array (Option Value)), K.lookup fb = some o → o.data = .func fd → fd.code = .ref c → K.lookup c = some ⟨e, dd, .fields vs, sl⟩ → vs[11]? = some (.ref P) →
  h.get? P = some { cls := .none, data := .fields #[] }
theorem codeTab_ex {K : PySem.W.Frag} {c P : Addr} (e : PySem.W.codeHdIn K c P = true) : ∃ (cl : Value) (dd : Option Addr) (vs : Array Value) (sl : Array (Option Value)), K.lookup c = some ⟨cl, dd, .fields vs, sl⟩ ∧ vs[11]? = some (.ref P) := by
  unfold PySem.W.codeHdIn at e
  split at e
  · rename_i vs sl hk
    refine ⟨_, _, vs, sl, hk, ?_⟩
    simp only [Bool.and_eq_true] at e
    obtain ⟨⟨⟨⟨⟨e1, _⟩, _⟩, _⟩, _⟩, _⟩ := e
    split at e1
    · rename_i P' h
      rw [h, beq_iff_eq.mp e1]
    · cases e1
  · cases e
theorem TabAt.at {K : PySem.W.Frag} {fb c P : Addr} {h : Heap} {fd : FuncData} {oc : Value} {od : Option Addr} {osl : Array (Option Value)} (t : TabAt K fb h) (lk : K.lookup fb = some ⟨oc, od, .func fd, osl⟩) (hc : fd.code = .ref c) (e : PySem.W.codeHdIn K c P = true) : h.get? P = some { cls := .none, data := .fields #[] } := by
  obtain ⟨cl, dd, vs, sl, e1, e2⟩ := codeTab_ex e
  exact t c P _ fd cl dd vs sl lk rfl hc e1 e2
end Q
/-! QX20 -/
namespace Q
open PySem L2 PySem.Spec PyProof.Rows LamX
end Q
/-! QX21 -/
namespace Q
open PySem L2 PySem.Spec PyProof.Rows LamX
/-! ### an exception's field, where it is of one class and of no other -/
/-! ### another def that holds the lambdas -/
section
variable {K : PySem.W.Frag} {B : Bs} {F : Hp} {pa : Option Addr} {t : Ts} {env : En} {σ : L2.St} {H : Hp} {Pt : Addr} {q0 : Str}
theorem TabOf.nt (T : TabOf B Pt q0) (C : Cf K B F pa t env σ H) : F Pt = none ∧ ∃ ps, H Pt = some (.tbl ps) ∧ TriplesOk ps.toList ∧ ∀ (pos : Pos) (cv : Value), codeAmong pos ps.toList = some cv → ∃ c, cv = .ref c ∧ F c = some (CodeO c q0) := (C.tab _ T.m).2
end
end Q
/-! QX22 -/
namespace Q
open PySem L2 PyProof.Rows
/-! ### range(m, n, -1) -/
end Q
/-! QX23 -/
namespace Q
open PySem L2 PyProof.Rows
/-! ### max of a list of pairs -/
end Q
/-! QX25 -/
namespace Q
open PySem L2 PySem.Spec PyProof.Rows LamX
end Q
/-! QO1 -/
namespace L2
open PySem PySem.Spec PyProof.Rows
end L2
namespace Q
open PySem L2 PyProof.Rows
section
variable {K : PySem.W.Frag} {B : Bs} {F : Hp} {pa : Option Addr} {t : Ts} {env : En} {σ : L2.St} {H : Hp}
/-- a nobody's object is registered -/
theorem Cf.reg (C : Cf K B F pa t env σ H) {p : Addr} {h : HO} {d : D} (n : Nw B F pa t env σ p) (e : H p = some h) (r : RelO1 K F pa d h) (np : nopen d = true) : Cf K B F pa (t.put p d) env σ H :=
  ⟨C.len, C.sub, C.bas, C.frm, C.new, C.exl, C.val, C.own, C.sep, C.pen, C.pnn, C.tab, C.ntb, fun a d' q => by
    by_cases ha : a = p
    · subst ha
      rw [Ts.put_same] at q
      cases q
      exact ⟨n.f, ⟨h, e, r⟩, n.a, .inr n.b, np⟩
    · rw [Ts.put_ne _ _ ha] at q
      exact C.obs a d' q, fun a z => by
    by_cases ha : a = p
    · exact ⟨d, by rw [ha]; exact Ts.put_same ..⟩
    · obtain ⟨d', q⟩ := C.obx a z
      exact ⟨d', by rw [Ts.put_ne _ _ ha]; exact q⟩, fun i d' a q s => by
    by_cases ha : a = p
    · subst ha
      exact absurd s (n.s i d' q)
    · rw [Ts.put_ne _ _ ha]; exact C.osp i d' a q s⟩
/-- a registered object is written -/
theorem Cf.wrOb (C : Cf K B F pa t env σ H) {a : Addr} {d0 d : D} {h : HO} (q0 : t.obs a = some d0) (r : RelO1 K F pa d h) (np : nopen d = true) : Cf K B F pa (t.put a d) env σ (upd H a h) := by
  obtain ⟨f0, ⟨h0, e0, r0⟩, p0, x0, _⟩ := C.obs a d0 q0
  have nb : ∀ {c : Addr} {u : HO}, F c = some u → c ≠ a := fun z => ne_of_none z f0
  refine ⟨C.len, fun c u q => by rw [upd_ne (nb q)]; exact C.sub c u q, C.bas, fun c u q hx hO => ?_, C.new, fun c hc => ?_, C.val, fun i d' q => ?_, C.sep, fun c q => ?_, C.pnn, C.tab.hs (fun p _ ps z => by rw [upd_ne (fun y => by rw [y, e0] at z; exact r0.ntb ps (Option.some.inj z))]; exact z), C.ntb, fun c d' q => ?_, fun c z => ?_, fun i d' c q s => ?_⟩
  · rw [upd_ne ?_]
    · exact C.frm c u q hx hO
    · rintro rfl
      rcases x0 with z | z
      · exact hO z
      · rw [z] at q; cases q
  · by_cases hc' : c = a
    · subst hc'; exact ⟨h, upd_same⟩
    · obtain ⟨u, q⟩ := C.exl c hc
      exact ⟨u, by rw [upd_ne hc']; exact q⟩
  · obtain ⟨c, u, h1, h2, h3, h4, h5, h6⟩ := C.own i d' q
    refine ⟨c, u, h1, ?_, h3, h4, h5, h6⟩
    rw [upd_ne ?_]
    · exact h2
    · rintro rfl
      rw [C.osp i d' c q h1] at q0; cases q0
  · obtain ⟨h1, ⟨u, h2, h3⟩, h4⟩ := C.pen c q
    exact ⟨h1, ⟨u, by rw [upd_ne (fun z => p0 (by rw [← z]; exact q))]; exact h2, h3⟩, h4⟩
  · by_cases hc : c = a
    · subst hc
      rw [Ts.put_same] at q
      cases q
      exact ⟨f0, ⟨h, upd_same, r⟩, p0, x0, np⟩
    · rw [Ts.put_ne _ _ hc] at q
      obtain ⟨h1, ⟨u, h2, h3⟩, h4⟩ := C.obs c d' q
      exact ⟨h1, ⟨u, by rw [upd_ne hc]; exact h2, h3⟩, h4⟩
  · by_cases hc : c = a
    · exact ⟨d, by rw [hc]; exact Ts.put_same ..⟩
    · obtain ⟨d', q⟩ := C.obx c z
      exact ⟨d', by rw [Ts.put_ne _ _ hc]; exact q⟩
  · by_cases hc : c = a
    · subst hc
      rw [C.osp i d' c q s] at q0; cases q0
    · rw [Ts.put_ne _ _ hc]; exact C.osp i d' c q s
/-- what is there -/
theorem Cf.obIns (C : Cf K B F pa t env σ H) {a Cl : Addr} {ns : List Str} {l : List D} (q : t.obs a = some (.ins Cl ns l)) : ∃ dx vs, H a = some (.ins Cl dx (ns.zip vs)) ∧ ns.length = vs.length ∧ RelL K F pa l vs := by
  obtain ⟨_, ⟨h, e, dx, vs, rfl, z, r⟩, _⟩ := C.obs a _ q
  exact ⟨dx, vs, e, z, r⟩
theorem Cf.obDic (C : Cf K B F pa t env σ H) {a : Addr} {ks : List Ky} {l : List D} (q : t.obs a = some (.dic ks l)) : ∃ vs, H a = some (.dK (ks.zip vs)) ∧ ks.length = vs.length ∧ RelL K F pa l vs := by
  obtain ⟨_, ⟨h, e, vs, rfl, z, r⟩, _⟩ := C.obs a _ q
  exact ⟨vs, e, z, r⟩
theorem rel_adr {A : Addr} {v : V} (r : RelD K F pa (.adr A) v) : v = .ref A := by unfold RelD at r; exact r
theorem rD_adr (A : Addr) : RelD K F pa (.adr A) (.ref A) := by unfold RelD; rfl
theorem putN_zip {f : Str} {v : V} : ∀ {ns : List Str} {vs : List V}, ns.length = vs.length → putF f v (ns.zip vs) = (putN f ns).zip (putV f v ns vs) ∧ (putN f ns).length = (putV f v ns vs).length
  | [], [], _ => ⟨rfl, rfl⟩
  | n :: ns, w :: vs, h => by
    have h' : ns.length = vs.length := by simpa using h
    obtain ⟨i1, i2⟩ := putN_zip (f := f) (v := v) h'
    simp only [List.zip_cons_cons, putF, putN, putV]
    split
    · exact ⟨rfl, by simpa using h'⟩
    · simp only [List.zip_cons_cons, i1, List.length_cons, i2]
      exact ⟨trivial, trivial⟩
  | [], _ :: _, h => by simp at h
  | _ :: _, [], h => by simp at h
theorem putV_rel {f : Str} {y : D} {v : V} (ry : RelD K F pa y v) : ∀ {ns : List Str} {l : List D} {vs : List V}, ns.length = vs.length → RelL K F pa l vs → RelL K F pa (putV f y ns l) (putV f v ns vs)
  | [], l, vs, h, r => by
    have : vs = [] := List.length_eq_zero_iff.mp h.symm
    subst this
    cases l <;> exact RelL.cons ry RelL.nil
  | n :: ns, [], vs, h, r => by rw [r.inv0] at h; simp at h
  | n :: ns, d :: l, vs, h, r => by
    obtain ⟨w, vr, rfl, r1, r2⟩ := r.inv
    have h' : ns.length = vr.length := by simpa using h
    simp only [putV]
    split
    · exact RelL.cons ry r2
    · exact RelL.cons r1 (putV_rel ry h' r2)
theorem putV_nopen {f : Str} {y : D} (hy : nopen y = true) : ∀ {ns : List Str} {l : List D}, nopens l = true → nopens (putV f y ns l) = true
  | [], l, h => by cases l <;> simp [putV, nopens, hy]
  | n :: ns, [], h => by simp [putV, nopens, hy]
  | n :: ns, d :: l, h => by
    simp only [nopens, Bool.and_eq_true] at h
    simp only [putV]
    split
    · simp [nopens, hy, h.2]
    · simp [nopens, h.1, putV_nopen hy h.2]
theorem nopens_mem : ∀ {l : List D}, (∀ d ∈ l, nopen d = true) → nopens l = true
  | [], _ => rfl
  | d :: l, h => by
    simp only [nopens, Bool.and_eq_true]
    exact ⟨h d (List.mem_cons_self ..), nopens_mem fun x hx => h x (List.mem_cons_of_mem _ hx)⟩
theorem nopens_at : ∀ {l : List D}, nopens l = true → ∀ d ∈ l, nopen d = true
  | [], _, d, h => by simp at h
  | x :: l, h, d, hd => by
    simp only [nopens, Bool.and_eq_true] at h
    rcases List.mem_cons.mp hd with rfl | hd
    · exact h.1
    · exact nopens_at h.2 d hd
theorem repL_mem {k : Ky} {y : D} : ∀ {ks : List Ky} {l : List D} (d : D), d ∈ repL ks l k y → d = y ∨ d ∈ l
  | [], l, d, h => by simp [repL] at h
  | j :: ks, [], d, h => by simp [repL] at h
  | j :: ks, x :: l, d, h => by
    simp only [repL, List.mem_cons] at h
    rcases h with h | h
    · split at h
      · exact .inl h
      · exact .inr (by rw [h]; exact List.mem_cons_self ..)
    · rcases repL_mem d h with h | h
      · exact .inl h
      · exact .inr (List.mem_cons_of_mem _ h)
theorem putL_nopen {k : Ky} {y : D} {ks : List Ky} {l : List D} (hy : nopen y = true) (h : nopens l = true) : nopens (putL ks l k y) = true := by
  refine nopens_mem fun d hd => ?_
  unfold putL at hd
  split at hd
  · rcases repL_mem d hd with rfl | hd
    · exact hy
    · exact nopens_at h d hd
  · rcases List.mem_append.mp hd with hd | hd
    · exact nopens_at h d hd
    · rw [List.mem_singleton.mp hd]; exact hy
theorem del_zip {k : Ky} : ∀ {ks : List Ky} {l : List D} {vs : List V}, ks.length = vs.length → RelL K F pa l vs → ∃ ws, dropK (ks.zip vs) k = (delKs k ks l).zip ws ∧ (delKs k ks l).length = ws.length ∧ RelL K F pa (delL k ks l) ws
  | [], l, vs, h, r => ⟨[], by simp [dropK, delKs], by cases l <;> rfl, by cases l <;> exact RelL.nil⟩
  | j :: ks, [], vs, h, r => by rw [r.inv0] at h; simp at h
  | j :: ks, d :: l, vs, h, r => by
    obtain ⟨w, vr, rfl, r1, r2⟩ := r.inv
    have h' : ks.length = vr.length := by simpa using h
    obtain ⟨ws, i1, i2, i3⟩ := del_zip (k := k) h' r2
    simp only [delKs, delL]
    by_cases e : j = k
    · rw [if_pos e, if_pos e]
      refine ⟨ws, ?_, i2, i3⟩
      rw [← i1]
      simp [dropK, e]
    · rw [if_neg e, if_neg e]
      refine ⟨w :: ws, ?_, by simp [i2], RelL.cons r1 i3⟩
      rw [List.zip_cons_cons, List.zip_cons_cons, ← i1]
      simp [dropK, e]
theorem delL_mem {k : Ky} : ∀ {ks : List Ky} {l : List D} (d : D), d ∈ delL k ks l → d ∈ l
  | [], l, d, h => by cases l <;> simp [delL] at h
  | j :: ks, [], d, h => by simp [delL] at h
  | j :: ks, x :: l, d, h => by
    simp only [delL] at h
    split at h
    · exact List.mem_cons_of_mem _ (delL_mem d h)
    · rcases List.mem_cons.mp h with rfl | h
      · exact List.mem_cons_self ..
      · exact List.mem_cons_of_mem _ (delL_mem d h)
end
section
variable {K : PySem.W.Frag} {X : Cx} {B : Bs} {e o i' value : Expr} {es : List Expr} {da dk dz : DE} {as bs : DA} {pos pos' apos tpos p : Pos} {f m x : Str} {Cl : Addr}
/-! ### calls of defs that see no objects -/
variable {CX : CXT} {k : Nat} {fa : Addr} {fd : FuncData} {ps ks : List Str} {sp : PSp} {dvs : List V} {dds : List D} {ds : List Value} {E : XK} {kws : List Keyword} {ix : List Nat}
theorem ev_callO (hd : ∀ F pa, RelL K F pa dds dvs) : ∀ σ H Q, teOf K B (dCallO sp dds as) σ H Q → tCall (lift K sp) dvs E (taOf K B as) σ H Q := fun σ H Q ⟨F, pa, t, env, P, W, h, k⟩ =>
  ⟨F, pa, t, env, _, W, h, fun vs xs F1 pa1 t1 H1 g1 W1 r1 q1 => ⟨F1, pa1, t1.bare, xs ++ dds, _, W1.bare, r1.append (hd _ _), q1, fun v d F' pa' t' H' W' r' q' => by
    obtain ⟨g, W2⟩ := W1.wear W'
    exact k v d F' pa' _ H' (g1.trans g) W2 r' q'⟩⟩
theorem ev_callNO (hd : ∀ F pa, RelL K F pa dds dvs) : ∀ σ H Q, tnOf K B (dCallO sp dds as) σ H Q → tCall (liftN K sp) dvs E (taOf K B as) σ H Q := fun σ H Q ⟨F, pa, t, env, P, W, h, k⟩ =>
  ⟨F, pa, t, env, _, W, h, fun vs xs F1 pa1 t1 H1 g1 W1 r1 q1 => ⟨F1, pa1, t1.bare, xs ++ dds, _, W1.bare, r1.append (hd _ _), q1, fun p hh d F' pa' t' H' W' n1 n2 n3 n4 e' r' q' => by
    obtain ⟨g, W2⟩ := W1.wear W'
    refine k p hh d F' pa' _ H' (g1.trans g) W2 ⟨n1, (W1.fresh n2).2.1, n3, fun j d' ej sj => ?_, W1.noob n2⟩ e' r' q'
    obtain ⟨a, u, s1, e1, _⟩ := W1.own j d' ej
    rw [sj] at s1
    cases s1
    rw [n2] at e1; cases e1⟩⟩
theorem q_callO (F : FnOk X.prog X.w X.K X.mg X.base CX k fa fd ps (lift X.K sp)) (hr : Room k X.A) (hg : Gl X x) (hm : X.mg x = some (.ref fa)) (hk : PySem.W.keepIn X.K (.ref fa) = true) (hb : Binds X.K fd ps ds) (hd : Vals dvs ds) (hD : ∀ F pa, RelL X.K F pa dds dvs) (hx : Passes CX X E)
    (ha : QA X B (e :: es) as) (hdb : (x == ("__debug__" : Str)) = false := by decide) (he : starEach (e :: es) X.env = (false, eval e X.env) :: starEach es X.env := by rfl) (hpl : (backTo pos (starEach es X.env)).any (·.1) = false := by rfl) :
    QE X B (.Call (.Name x p) (e :: es) [] pos) (dCallO sp dds as) := PE.imp (pe_call F hr hg hm hk hb hd hx ha hdb he hpl) (ev_callO hD)
theorem q_callNO (F : FnOk X.prog X.w X.K X.mg X.base CX k fa fd ps (liftN X.K sp)) (hr : Room k X.A) (hg : Gl X x) (hm : X.mg x = some (.ref fa)) (hk : PySem.W.keepIn X.K (.ref fa) = true) (hb : Binds X.K fd ps ds) (hd : Vals dvs ds) (hD : ∀ F pa, RelL X.K F pa dds dvs) (hx : Passes CX X E)
    (ha : QA X B (e :: es) as) (hdb : (x == ("__debug__" : Str)) = false := by decide) (he : starEach (e :: es) X.env = (false, eval e X.env) :: starEach es X.env := by rfl) (hpl : (backTo pos (starEach es X.env)).any (·.1) = false := by rfl) :
    QN X B (.Call (.Name x p) (e :: es) [] pos) (dCallO sp dds as) := PE.imp (pe_call F hr hg hm hk hb hd hx ha hdb he hpl) (ev_callNO hD)
/-! ### an instance of a class, not registered -/
theorem make_inO {sp : PSp} {E : XK} {F1 : Hp} {pa1 : Option Addr} {t1 : Ts} {env : En} {σ : L2.St} {H1 : Hp} {xs : List D} {us : List V} {P : D → Ts → Prop} {Q : VK} {x dx : Addr} (W1 : Cf K B F1 pa1 t1 env σ H1) (r1 : RelL K F1 pa1 xs us) (q1 : sp xs t1.bare P) (hx : H1 x = none) (hdx : H1 dx = none) (hne : dx ≠ x)
    (k : ∀ h d F' pa' t' H', Gr F1 pa1 F' pa' → Cf K B F' pa' (Ts.wear t' t1.obs) env σ H' → Nw B F' pa' (Ts.wear t' t1.obs) env σ x → H' x = some h → RelO1 K F' pa' d h → P d t' → Q (.ref x) H') : liftI K Cl sp (.ref x :: us) (upd (upd H1 dx (.own x)) x (.ins Cl dx [])) (fun v H2 => v = .non ∧ Q (.ref x) H2) E := by
    have hx2 : upd H1 dx (.own x) x = none := by rw [upd_ne (Ne.symm hne)]; exact hx
    have W2 := (W1.loose (.own x) hdx).loose (.ins Cl dx []) hx2
    obtain ⟨hF, hB, _⟩ := W1.fresh hx
    have nw := W1.nw hx
    have up : ∀ a o, H1 a = some o → upd (upd H1 dx (.own x)) x (.ins Cl dx []) a = some o := fun a o e => by
      rw [upd_ne (ne_of_none e hx), upd_ne (ne_of_none e hdx)]; exact e
    refine ⟨x, dx, _, F1, pa1, t1.bare, xs, P, rfl, upd_same, hF, nw.a, rfl, W2.bare, r1, q1, fun hh d F' pa' t' H' W' n1 n2 n4 e' r' q' => ⟨rfl, ?_⟩⟩
    have W3 : Cf K (B0 F1 pa1 t1.bare H1) F' pa' t' [] [] H' := by
      refine ⟨rfl, W'.sub, W'.bas, fun a o e hp ho => ?_, fun a o e => ?_, fun a ha => ?_, W'.val, fun i d e => by simp at e, W'.sep, fun a e => ?_, W'.pnn, TabF.nil, W'.ntb, fun a d q => ?_, W'.obx, fun i d a e => by simp at e⟩
      · refine W'.frm a o (up a o e) (fun z => ?_) ho
        rcases List.mem_cons.mp z with z | z
        · exact absurd z (ne_of_none e hx)
        · exact hp z
      · rcases W'.new a o e with z | z
        · exact .inl z
        · refine .inr ?_
          cases q : H1 a with
          | none => exact q
          | some u => rw [show (BI F1 pa1 t1.bare (upd (upd H1 dx (.own x)) x (.ins Cl dx [])) x).H a = upd (upd H1 dx (.own x)) x (.ins Cl dx []) a from rfl, up a u q] at z; cases z
      · exact W'.exl a (List.mem_cons_of_mem _ ha)
      · obtain ⟨h1, h2, h3⟩ := W'.pen a e
        refine ⟨h1, h2, ?_⟩
        rcases h3 with z | z
        · rcases List.mem_cons.mp z with z | z
          · exact absurd (by rw [e, z]) n2
          · exact .inl z
        · refine .inr ?_
          cases q : H1 a with
          | none => exact q
          | some u => rw [show (BI F1 pa1 t1.bare (upd (upd H1 dx (.own x)) x (.ins Cl dx [])) x).H a = upd (upd H1 dx (.own x)) x (.ins Cl dx []) a from rfl, up a u q] at z; cases z
      · obtain ⟨h1, h2, h3, h4, h5⟩ := W'.obs a d q
        refine ⟨h1, h2, h3, ?_, h5⟩
        rcases h4 with z | z
        · exact .inl z
        · refine .inr ?_
          cases q : H1 a with
          | none => exact q
          | some u => rw [show (BI F1 pa1 t1.bare (upd (upd H1 dx (.own x)) x (.ins Cl dx [])) x).H a = upd (upd H1 dx (.own x)) x (.ins Cl dx []) a from rfl, up a u q] at z; cases z
    obtain ⟨g, W4⟩ := W1.wear W3
    exact k hh d F' pa' t' H' g W4 ⟨n1, hB, n2, nw.s, nw.o⟩ e' r' q'
theorem q_makeB (M : L2.Mk X.K Cl fa) (F : FnOk X.prog X.w X.K X.mg X.base CX k fa fd ps (liftI X.K Cl sp)) (hr : Room (k + 1) X.A) (hg : Gl X x) (hm : X.mg x = some (.ref Cl)) (hb : Binds X.K fd ps []) (hx : Passes CX X E)
    (ha : QA X B (e :: es) as) (hdb : (x == ("__debug__" : Str)) = false := by decide) (he : starEach (e :: es) X.env = (false, eval e X.env) :: starEach es X.env := by rfl) (hpl : (backTo pos (starEach es X.env)).any (·.1) = false := by rfl) :
    QN X B (.Call (.Name x p) (e :: es) [] pos) (dCallO sp [] as) := PE.imp (pe_make M F hr hg hm hb .nil hx ha hdb he hpl) fun σ H Q ⟨F, pa, t, env, P, W, h, k⟩ =>
  ⟨F, pa, t, env, _, W, h, fun vs xs F1 pa1 t1 H1 g1 W1 r1 q1 y dx hy hdx hne => by
    rw [List.append_nil]
    rw [List.append_nil] at q1
    exact make_inO W1 r1 q1 hy hdx hne fun hh d F' pa' t' H' g C n e' r' q' => k y hh d F' pa' _ H' (g1.trans g) C n e' r' q'⟩
/-! ### registered objects -/
theorem q_reg (h : QN X B e da) : QE X B e (dReg da) := PE.imp h fun σ H Q ⟨F, pa, t, env, P, C, hd, k⟩ =>
  ⟨F, pa, t, env, _, C, hd, fun p h d F' pa' t' H' g C' n e r q => k (.ref p) (.adr p) F' pa' _ H' g (C'.reg n e r q.1) (rD_adr p) (q.2 p n.o)⟩
theorem q_makeO (M : L2.Mk X.K Cl fa) (F : FnOk X.prog X.w X.K X.mg X.base CX k fa fd ps (lift X.K sp)) (hr : Room (k + 1) X.A) (hg : Gl X x) (hm : X.mg x = some (.ref Cl)) (hb : Binds X.K fd ps []) (hx : Passes CX X E)
    (ha : QA X B (e :: es) as) (hdb : (x == ("__debug__" : Str)) = false := by decide) (he : starEach (e :: es) X.env = (false, eval e X.env) :: starEach es X.env := by rfl) (hpl : (backTo pos (starEach es X.env)).any (·.1) = false := by rfl) :
    QE X B (.Call (.Name x p) (e :: es) [] pos) (dMakeO Cl sp [] as) := PE.imp (pe_make M F hr hg hm hb .nil hx ha hdb he hpl) fun σ H Q ⟨F, pa, t, env, P, W, h, k⟩ =>
  ⟨F, pa, t, env, _, W, h, fun vs xs F1 pa1 t1 H1 g1 W1 r1 q1 y dx hy hdx hne => by
    have hy2 : upd H1 dx (.own y) y = none := by rw [upd_ne (Ne.symm hne)]; exact hy
    have W2 := (W1.loose (.own y) hdx).loose (.ins Cl dx []) hy2
    have n := W1.nw hy
    have W3 := W2.reg (p := y) (d := .ins Cl [] []) n upd_same ⟨dx, [], rfl, rfl, RelL.nil⟩ rfl
    rw [List.append_nil]
    have q2 := q1 y n.o
    rw [List.append_nil] at q2
    refine ⟨F1, pa1, _, .adr y :: xs, _, W3.call, RelL.cons (rD_adr y) r1, q2, fun v d F' pa' t' H' W' r' q' => ?_⟩
    obtain ⟨g, W4⟩ := W3.after W'
    obtain ⟨rfl, q'⟩ := q'
    unfold RelD at r'
    -- the state with the instance's dict forgotten is the state
    have W5 : Cf X.K B F' pa' t' env σ H' := W4
    exact ⟨r', k (.ref y) (.adr y) F' pa' t' H' (g1.trans g) W5 (rD_adr y) q'⟩⟩
theorem q_fldO (ha : QE X B e da) (cl : Cls X.K Cl) (na : NoAttr X.K Cl f) (hb : attributeBase e f X.env (eval e X.env) = eval e X.env := by rfl) : QE X B (.Attribute e f pos) (dFldO Cl f da) := PE.imp (pe_fld ha hb) fun σ H Q ⟨F, pa, t, env, P, C, hd, k⟩ =>
  ⟨F, pa, t, env, _, C, hd, fun v x F1 pa1 t1 H1 g1 C1 r1 q1 => by
    cases x with
    | adr A =>
      obtain ⟨ns, l, d, hA, z, q1⟩ := q1
      obtain rfl := rel_adr r1
      obtain ⟨dx, us, e1, _, r⟩ := C1.obIns hA
      obtain ⟨w, h1, h2⟩ := zip_lookup r z
      exact ⟨A, Cl, dx, _, w, rfl, e1, cl, na, h1, k w d F1 pa1 t1 H1 g1 C1 h2 q1⟩
    | _ => exact q1.elim⟩
theorem q_setO (ho : QE X B o dz) (hv : QE X B value da) (cl : Cls X.K Cl) (na : NoAttr X.K Cl f) (hs : swapsWith value (some (.Attribute o f pos')) pos.line X.env = pure false := by rfl) :
    QS X B (.Assign [.Attribute o f pos'] value pos) (dSetO Cl f da dz) :=
  PS.imp (ps_fld ho hv hs) fun De σ H ⟨F, pa, t, env, DD, C, h, R⟩ => ⟨F, pa, t, env, _, C, h, fun v y F1 pa1 t1 H1 g1 C1 r1 q1 => ⟨F1, pa1, t1, env, _, C1, q1, fun u x F2 pa2 t2 H2 g2 C2 r2 q2 => by
    cases x with
    | adr A =>
      obtain ⟨ns, l, hA, hl, hy, q2⟩ := q2
      obtain rfl := rel_adr r2
      obtain ⟨dx, us, e1, l1, r⟩ := C2.obIns hA
      refine ⟨A, Cl, dx, _, rfl, e1, cl, na, by rw [List.length_zip]; omega, ?_⟩
      obtain ⟨z1, z2⟩ := putN_zip (f := f) (v := v) l1
      rw [z1]
      have hn := (C2.obs A _ hA).2.2.2.2
      exact R.nx F2 pa2 _ env σ _ (g1.trans g2) (C2.wrOb (d := .ins Cl (putN f ns) (putV f y ns l)) hA ⟨dx, _, rfl, z2, putV_rel (RelD.mono g2 _ _ r1) l1 r⟩ (by simp only [nopen] at hn ⊢; exact putV_nopen hy hn)) q2
    | _ => exact q2.elim⟩⟩
theorem ev_methO (hd : ∀ F pa, RelL K F pa dds dvs) : ∀ σ H Q, teOf K B (dMethO Cl m sp dds da as) σ H Q → tMeth Cl m (lift K sp) dvs E (teOf K B da) (taOf K B as) σ H Q := fun σ H Q ⟨F, pa, t, env, P, W, h, k⟩ =>
  ⟨F, pa, t, env, _, W, h, fun v x F1 pa1 t1 H1 g1 W1 r1 q1 => by
    cases x with
    | adr A =>
      obtain ⟨ns, l, hA, hn, q1⟩ := q1
      obtain rfl := rel_adr r1
      obtain ⟨dx, us, e1, _, _⟩ := W1.obIns hA
      refine ⟨A, dx, _, rfl, e1, zip_none hn, F1, pa1, t1, env, _, W1, q1, fun vs xs F2 pa2 t2 H2 g2 W2 r2 q2 => ⟨F2, pa2, t2, .adr A :: (xs ++ dds), P, W2.call, RelL.cons (rD_adr A) (r2.append (hd _ _)), q2, fun v d F' pa' t' H' W' r' q' => ?_⟩⟩
      obtain ⟨g, W3⟩ := W2.after W'
      exact k v d F' pa' t' H' ((g1.trans g2).trans g) W3 r' q'
    | _ => exact q1.elim⟩
theorem ev_methNO (hd : ∀ F pa, RelL K F pa dds dvs) : ∀ σ H Q, tnOf K B (dMethO Cl m sp dds da as) σ H Q → tMeth Cl m (liftN K sp) dvs E (teOf K B da) (taOf K B as) σ H Q := fun σ H Q ⟨F, pa, t, env, P, W, h, k⟩ =>
  ⟨F, pa, t, env, _, W, h, fun v x F1 pa1 t1 H1 g1 W1 r1 q1 => by
    cases x with
    | adr A =>
      obtain ⟨ns, l, hA, hn, q1⟩ := q1
      obtain rfl := rel_adr r1
      obtain ⟨dx, us, e1, _, _⟩ := W1.obIns hA
      refine ⟨A, dx, _, rfl, e1, zip_none hn, F1, pa1, t1, env, _, W1, q1, fun vs xs F2 pa2 t2 H2 g2 W2 r2 q2 => ⟨F2, pa2, t2, .adr A :: (xs ++ dds), P, W2.call, RelL.cons (rD_adr A) (r2.append (hd _ _)), q2, fun p hh d F' pa' t' H' W' n1 n2 n3 n4 e' r' q' => ?_⟩⟩
      obtain ⟨g, W3⟩ := W2.after W'
      refine k p hh d F' pa' t' H' ((g1.trans g2).trans g) W3 ⟨n1, (W2.fresh n2).2.1, n3, fun j d' ej sj => ?_, n4⟩ e' r' q'
      obtain ⟨a, u, s1, e2, _⟩ := W2.own j d' ej
      rw [sj] at s1
      cases s1
      rw [n2] at e2; cases e2
    | _ => exact q1.elim⟩
theorem q_methO {pl : Sem Bool} (he : QE X B o da) (c : Cls X.K Cl) (hm : Meth X.K Cl m fa) (F : FnOk X.prog X.w X.K X.mg X.base CX k fa fd ps (lift X.K sp)) (hr : Room k X.A) (hb : Binds X.K fd ps ds) (hd : Vals dvs ds) (hD : ∀ F pa, RelL X.K F pa dds dvs) (hx : Passes CX X E) (ha : QA X B (e :: es) as)
    (hst : starEach (e :: es) X.env = (false, eval e X.env) :: starEach es X.env := by rfl) (hpl : (backTo pos (starEach es X.env)).any (·.1) = false := by rfl)
    (ht : eval (.Call (.Attribute o m apos) (e :: es) [] pos) X.env = (do
      let ov ← eval o X.env
      standAt apos.atName
      let (f, first) ← holding [ov] (getMethod ov m pl)
      callWith pos f first (backTo pos (starEach (e :: es) X.env)) (backToKw pos (keywordEach [] X.env))) := by rfl) :
    QE X B (.Call (.Attribute o m apos) (e :: es) [] pos) (dMethO Cl m sp dds da as) := PE.imp (pe_meth he c hm F hr hb hd hx ha hst hpl ht) (ev_methO hD)
theorem q_methO0 {pl : Sem Bool} (he : QE X B o da) (c : Cls X.K Cl) (hm : Meth X.K Cl m fa) (F : FnOk X.prog X.w X.K X.mg X.base CX k fa fd ps (lift X.K sp)) (hr : Room k X.A) (hb : Binds X.K fd ps ds) (hd : Vals dvs ds) (hD : ∀ F pa, RelL X.K F pa dds dvs) (hx : Passes CX X E)
    (ht : eval (.Call (.Attribute o m apos) [] [] pos) X.env = (do
      let ov ← eval o X.env
      standAt apos.atName
      let (f, first) ← holding [ov] (getMethod ov m pl)
      callWith pos f first (backTo pos (starEach [] X.env)) (backToKw pos (keywordEach [] X.env))) := by rfl) :
    QE X B (.Call (.Attribute o m apos) [] [] pos) (dMethO Cl m sp dds da dNil) := PE.imp (pe_meth0 he c hm F hr hb hd hx ht) fun σ H Q h => by
  obtain ⟨F, pa, t, env, P, W, h1, h2⟩ := ev_methO (E := E) hD σ H Q h
  exact ⟨F, pa, t, env, _, W, h1, fun v d F' pa' t' H' g W' r q => by
    obtain ⟨a, dx, fs, e1, e2, e3, z⟩ := h2 v d F' pa' t' H' g W' r q
    refine ⟨a, dx, fs, e1, e2, e3, ?_⟩
    obtain ⟨F2, pa2, t2, env2, P2, W2, q2, k2⟩ := z
    exact k2 [] [] F2 pa2 t2 H' (Gr.refl _ _) W2 RelL.nil q2⟩
theorem q_methNO0 {pl : Sem Bool} (he : QE X B o da) (c : Cls X.K Cl) (hm : Meth X.K Cl m fa) (F : FnOk X.prog X.w X.K X.mg X.base CX k fa fd ps (liftN X.K sp)) (hr : Room k X.A) (hb : Binds X.K fd ps ds) (hd : Vals dvs ds) (hD : ∀ F pa, RelL X.K F pa dds dvs) (hx : Passes CX X E)
    (ht : eval (.Call (.Attribute o m apos) [] [] pos) X.env = (do
      let ov ← eval o X.env
      standAt apos.atName
      let (f, first) ← holding [ov] (getMethod ov m pl)
      callWith pos f first (backTo pos (starEach [] X.env)) (backToKw pos (keywordEach [] X.env))) := by rfl) :
    QN X B (.Call (.Attribute o m apos) [] [] pos) (dMethO Cl m sp dds da dNil) := PE.imp (pe_meth0 he c hm F hr hb hd hx ht) fun σ H Q h => by
  obtain ⟨F, pa, t, env, P, W, h1, h2⟩ := ev_methNO (E := E) hD σ H Q h
  exact ⟨F, pa, t, env, _, W, h1, fun v d F' pa' t' H' g W' r q => by
    obtain ⟨a, dx, fs, e1, e2, e3, z⟩ := h2 v d F' pa' t' H' g W' r q
    refine ⟨a, dx, fs, e1, e2, e3, ?_⟩
    obtain ⟨F2, pa2, t2, env2, P2, W2, q2, k2⟩ := z
    exact k2 [] [] F2 pa2 t2 H' (Gr.refl _ _) W2 RelL.nil q2⟩
/-! ### a registered dict -/
theorem q_getO (hu : X.A.units + 1 < cLine) (ho : QE X B o da) (hi : QV X B i' dk) (hs : NoSl i') : QE X B (.Subscript o i' pos) (dGetO da dk) := PE.imp (pe_dget hu ho hi hs) fun σ H Q ⟨F, pa, t, env, P, C, h, k⟩ =>
  ⟨F, pa, t, env, _, C, h, fun v d F1 pa1 t1 H1 g1 C1 r1 q1 => ⟨F1, pa1, t1, env, _, C1, q1, fun u y F2 pa2 t2 H2 g2 C2 r2 q2 => by
    cases d with
    | adr A =>
      obtain ⟨ks, l, hA, q2⟩ := q2
      obtain rfl := rel_adr r1
      cases hk : keyD y with
      | none => rw [hk] at q2; exact q2.elim
      | some kk =>
        rw [hk] at q2
        obtain ⟨d, hd, q2⟩ := q2
        obtain ⟨vs, e, hl, r⟩ := C2.obDic hA
        obtain ⟨w, hw, rw'⟩ := (getL_val r hl).1 d hd
        refine ⟨A, w, rfl, ?_, k w d F2 pa2 t2 H2 (g1.trans g2) C2 rw' q2⟩
        rw [← hw, keyD_v C2 r2 hk]
        exact DGet.k e
    | _ => exact False.elim q2⟩⟩
theorem q_putO (hu : X.A.units + 1 < cLine) (ho : QE X B o dz) (hk : QV X B i' dk) (he : QE X B e da) (hs : swapsWith e (some (.Subscript o i' pos')) pos.line X.env = pure false := by rfl) : QS X B (.Assign [.Subscript o i' pos'] e pos) (dPutO dz dk da) :=
  PS.imp (ps_dput hu ho hk he hs) fun De σ H ⟨F, pa, t, env, DD, C, h, R⟩ => ⟨F, pa, t, env, _, C, h, fun w y F1 pa1 t1 H1 g1 C1 r1 q1 => ⟨F1, pa1, t1, env, _, C1, q1, fun u x F2 pa2 t2 H2 g2 C2 r2 q2 => ⟨F2, pa2, t2, env, _, C2, q2, fun v z F3 pa3 t3 H3 g3 C3 r3 q3 => by
    cases x with
    | adr A =>
      obtain ⟨ks, l, hA, q3⟩ := q3
      obtain rfl := rel_adr r2
      cases hkk : keyD z with
      | none => rw [hkk] at q3; exact q3.elim
      | some kk =>
        rw [hkk] at q3
        obtain ⟨⟨hl, hy⟩, q3⟩ := q3
        obtain ⟨us, e2, hl2, r4⟩ := C3.obDic hA
        obtain ⟨ws, z1, z2, z3⟩ := putL_zip (k := kk) (RelD.mono (g2.trans g3) y w r1) r4 hl2
        refine ⟨A, _, rfl, by rw [keyD_v C3 r3 hkk]; exact DPut.k e2 (by rw [List.length_zip, ← hl2, Nat.min_self]; exact zlt hl), ?_⟩
        rw [z1]
        have hn := (C3.obs A _ hA).2.2.2.2
        exact R.nx F3 pa3 _ env σ _ ((g1.trans g2).trans g3) (C3.wrOb (d := .dic (putKs ks kk) (putL ks l kk y)) hA ⟨ws, rfl, z2, z3⟩ (by simp only [nopen] at hn ⊢; exact putL_nopen hy hn)) q3
    | _ => exact q3.elim⟩⟩⟩
theorem q_delO (ho : QE X B o da) (hk : QV X B i' dk) : QS X B (.Delete [.Subscript o i' tpos] pos) (dDelO da dk) :=
  PS.imp (ps_ddel ho hk) fun De σ H ⟨F, pa, t, env, DD, C, h, R⟩ => ⟨F, pa, t, env, _, C, h, fun u x F1 pa1 t1 H1 g1 C1 r1 q1 => ⟨F1, pa1, t1, env, _, C1, q1, fun v z F2 pa2 t2 H2 g2 C2 r2 q2 => by
    cases x with
    | adr A =>
      obtain ⟨ks, l, hA, q2⟩ := q2
      obtain rfl := rel_adr r1
      cases hkk : keyD z with
      | none => rw [hkk] at q2; exact q2.elim
      | some kk =>
        rw [hkk] at q2
        obtain ⟨hs, q2⟩ := q2
        obtain ⟨us, e2, hl2, r4⟩ := C2.obDic hA
        obtain ⟨d, hd⟩ := Option.isSome_iff_exists.mp hs
        obtain ⟨w, hw, _⟩ := (getL_val (k := kk) r4 hl2).1 d hd
        obtain ⟨ws, z1, z2, z3⟩ := del_zip (k := kk) hl2 r4
        refine ⟨A, _, kk, rfl, e2, keyD_v C2 r2 hkk, by rw [hw]; rfl, ?_⟩
        rw [z1]
        have hn := (C2.obs A _ hA).2.2.2.2
        exact R.nx F2 pa2 _ env σ _ (g1.trans g2) (C2.wrOb (d := .dic (delKs kk ks l) (delL kk ks l)) hA ⟨ws, rfl, z2, z3⟩ (by simp only [nopen] at hn ⊢; exact nopens_mem fun d hd => nopens_at hn d (delL_mem d hd))) q2
    | _ => exact q2.elim⟩⟩
theorem ev_inO (neg : Bool) {P : D → Ts → Prop} {F2 : Hp} {pa2 : Option Addr} {t2 : Ts} {env : En} {σ : L2.St} {H2 : Hp} {y x : D} {u v : V} (C2 : Cf K B F2 pa2 t2 env σ H2) (r1 : RelX K F2 pa2 env σ y u) (r2 : RelD K F2 pa2 x v)
    (q2 : dInO neg (fun _ t P => P y t) (fun _ t P => P x t) [] t2 P) :
    ∃ a ov, v = .ref a ∧ DGet H2 a u ov ∧ P (.bl (xor neg ov.isSome)) t2 := by
  cases x with
  | adr A =>
    obtain ⟨ks, l, hA, q2⟩ := q2
    obtain rfl := rel_adr r2
    cases hk : keyD y with
    | none => rw [hk] at q2; exact q2.elim
    | some kk =>
      rw [hk] at q2
      obtain ⟨us, e, hl, r⟩ := C2.obDic hA
      have dg : DGet H2 A (kV kk) (valV (ks.zip us) kk) := DGet.k e
      refine ⟨A, _, rfl, by rw [keyD_v C2 r1 hk]; exact dg, ?_⟩
      have q2 : P (.bl (xor neg (getL ks l kk).isSome)) t2 := q2
      cases hd : getL ks l kk with
      | some d =>
        obtain ⟨w', hw, _⟩ := (getL_val r hl).1 d hd
        rw [hw]; rw [hd] at q2; exact q2
      | none =>
        rw [(getL_val r hl).2 hd]; rw [hd] at q2; exact q2
  | _ => exact False.elim q2
theorem q_tinO (hu : X.A.units + 1 < cLine) (he : QV X B e dk) (ho : QE X B o da) (hm : behindInMarks .In o = false) : QT X B (.Compare e [.In] [o] pos) (dB (dInO false dk da)) := PT.imp (pt_cmp (pc_din hu he ho) hm) fun σ H Q ⟨F, pa, t, env, P, C, h, k⟩ =>
  ⟨F, pa, t, env, _, C, h, fun u y F1 pa1 t1 H1 g1 C1 r1 q1 => ⟨F1, pa1, t1, env, _, C1, q1, fun v x F2 pa2 t2 H2 g2 C2 r2 q2 => by
    obtain ⟨a, ov, e1, e2, e3⟩ := ev_inO false (P := fun x t1 => match x with | .bl b => P b t1 | _ => False) C2 (r1.mono g2) r2 q2
    exact ⟨a, ov, e1, e2, ov.isSome, rfl, k _ F2 pa2 t2 H2 (g1.trans g2) C2 (by have e3 : P (xor false ov.isSome) t2 := e3; rw [Bool.false_xor] at e3; exact e3)⟩⟩⟩
theorem q_tnotinO (hu : X.A.units + 1 < cLine) (he : QV X B e dk) (ho : QE X B o da) (hm : behindInMarks .NotIn o = false) : QT X B (.Compare e [.NotIn] [o] pos) (dB (dInO true dk da)) := PT.imp (pt_cmp (pc_dnotin hu he ho) hm) fun σ H Q ⟨F, pa, t, env, P, C, h, k⟩ =>
  ⟨F, pa, t, env, _, C, h, fun u y F1 pa1 t1 H1 g1 C1 r1 q1 => ⟨F1, pa1, t1, env, _, C1, q1, fun v x F2 pa2 t2 H2 g2 C2 r2 q2 => by
    obtain ⟨a, ov, e1, e2, e3⟩ := ev_inO true (P := fun x t1 => match x with | .bl b => P b t1 | _ => False) C2 (r1.mono g2) r2 q2
    exact ⟨a, ov, e1, e2, (!ov.isSome), rfl, k _ F2 pa2 t2 H2 (g1.trans g2) C2 (by have e3 : P (xor true ov.isSome) t2 := e3; rw [Bool.true_xor] at e3; exact e3)⟩⟩⟩
theorem q_lenO {p1 : Pos} (hg : Gl X "len") (hm : X.mg "len" = none) (ho : QE X B o da) (he : starEach [o] X.env = (false, eval o X.env) :: starEach [] X.env := by rfl) (hpl : (backTo pos (starEach [] X.env)).any (·.1) = false := by rfl) : QE X B (.Call (.Name "len" p1) [o] [] pos) (dLenO da) :=
  PE.imp (pe_callB call_lenD hg hm PySem.boot_len (pa_cons ho pa_nil he) (by decide) (by decide) he hpl) fun σ H Q ⟨F, pa, t, env, P, C, h, k⟩ => ⟨F, pa, t, env, _, C, h, fun v x F1 pa1 t1 H1 g1 C1 r1 q1 => by
    cases x with
    | adr A =>
      obtain ⟨ks, l, hA, q1⟩ := q1
      obtain rfl := rel_adr r1
      obtain ⟨us, e, hl, r⟩ := C1.obDic hA
      refine ⟨A, _, rfl, e, ?_⟩
      rw [List.length_zip, ← hl, Nat.min_self]
      exact k _ _ F1 pa1 t1 H1 g1 C1 (rD_int _) q1
    | _ => exact q1.elim⟩
theorem q_sortO {p1 : Pos} (hc : X.calm = true) (hg : Gl X "sorted") (hm : X.mg "sorted" = none) (ho : QE X B o da) (he : starEach [o] X.env = (false, eval o X.env) :: starEach [] X.env := by rfl) (hpl : (backTo pos (starEach [] X.env)).any (·.1) = false := by rfl) : QN X B (.Call (.Name "sorted" p1) [o] [] pos) (dSortO da) :=
  PE.imp (pe_callB (call_sortD hc) hg hm (by decide +kernel) (pa_cons ho pa_nil he) (by decide) (by decide) he hpl) fun σ H Q ⟨F, pa, t, env, P, C, h, k⟩ => ⟨F, pa, t, env, _, C, h, fun v x F1 pa1 t1 H1 g1 C1 r1 q1 => by
    cases x with
    | adr A =>
      obtain ⟨ks, l, hA, ns, rfl, hn, q1⟩ := q1
      obtain rfl := rel_adr r1
      obtain ⟨us, e, hl, r⟩ := C1.obDic hA
      exact ⟨A, _, ns, rfl, .inl e, zip_keys _ _ hl, hn, fun ns' p h1 h2 h3 => k p _ (.lst (ns'.map .int)) F1 pa1 t1 _ g1 (C1.loose _ h3) (C1.nw h3) upd_same ⟨_, rfl, RelL.of_ints ns'⟩ (q1 ns' h1 h2)⟩
    | _ => exact q1.elim⟩
end
end Q
/-! QO2 -/
namespace Q
open PySem L2 PyProof.Rows
/-! ### texts -/
section
variable {K : PySem.W.Frag} {X : Cx} {B : Bs} {a b e o : Expr} {da db dk : DE} {pos apos p : Pos}
theorem rop_ixS : ROp K rIxS oIxS := fun B F pa t env σ H x y v u P Q W rx ry h k => by
  cases x with
  | str z =>
    cases y with
    | int i =>
      obtain ⟨hz, c, hc, p⟩ := h
      refine ⟨z, i, c, rx.str W, ry.int W, zle hz, ?_, k _ (.str (sg c)) F H (Gr.refl _ _) W (rD_str _) p⟩
      unfold atC at hc
      unfold L2.atI L2.ixN
      split at hc
      · rename_i h0
        split at hc
        · rename_i h1
          rw [if_pos h0, if_pos h1]
          exact hc
        · cases hc
      · rename_i h0
        split at hc
        · rename_i h1
          rw [if_neg h0, if_pos h1]
          exact hc
        · cases hc
    | _ => exact h.elim
  | _ => exact h.elim
theorem q_ixS (ha : QV X B a da) (hb : QV X B b db) (hs : PlainIx b) : QE X B (.Subscript a b pos) (dOp oIxS da db) := PE.imp (pe_ix ix_str ha hb hs) (ev2 rop_ixS)
theorem q_sliceS {lo hi : Option Expr} {dl dh : DO} {p2 : Pos} (ha : QV X B a da) (hl : QO X B lo dl) (hh : QO X B hi dh) : QE X B (.Subscript a (.Slice lo hi none p2) pos) (dSliceS da dl dh) := PE.imp (pe_slice sl_str ha hl hh) fun σ H Q ⟨F, pa, t, env, P, C, hd, k⟩ =>
  ⟨F, pa, t, env, _, C, hd, fun v x F1 pa1 t1 H1 g1 C1 r1 q1 => ⟨F1, pa1, t1, env, _, C1, q1, fun l F2 pa2 t2 H2 g2 C2 q2 => ⟨F2, pa2, t2, env, _, C2, q2, fun h F3 pa3 t3 H3 g3 C3 q3 => by
    cases x with
    | str z =>
      obtain ⟨hz, q3⟩ := q3
      refine ⟨z, ((r1.mono g2).mono g3).str C3, zle hz, ?_⟩
      have e : cutS z l h = cutT z l h := by
        unfold cutS cutT
        rw [sIx_eq, sIx_eq]
      rw [e]
      exact k _ (.str (cutT z l h)) F3 pa3 t3 H3 ((g1.trans g2).trans g3) C3 (rD_str _) q3
    | _ => exact q3.elim⟩⟩⟩
theorem glued_eq (z : Str) : ∀ ss : List Str, Txt.join z ss = ⟨(joinC z ss).toArray⟩ := by
  have go : ∀ (r : List Str) (acc : Array Nat), (r.foldl (fun acc p => acc ++ z.cps ++ p.cps) acc).toList = acc.toList ++ (r.map fun p => z.cps.toList ++ p.cps.toList).flatten := by
    intro r
    induction r with
    | nil => intro acc; simp
    | cons p r ih => intro acc; rw [List.foldl_cons, ih]; simp
  have jc : ∀ (x : Str) (r : List Str), joinC z (x :: r) = x.cps.toList ++ (r.map fun p => z.cps.toList ++ p.cps.toList).flatten := by
    intro x r
    induction r generalizing x with
    | nil => simp [joinC]
    | cons y r ih => rw [joinC, ih]; simp
  intro ss
  cases ss with
  | nil => rfl
  | cons x r =>
    show Builtin.Str.glued z (x :: r) = _
    unfold Builtin.Str.glued
    rw [jc, ← go r x.cps]
    simp
theorem q_join (ho : QE X B o da) (he : QE X B e db) (hs : starEach [e] X.env = [(false, eval e X.env)] := by rfl) (hbase : attributeBase o "join" X.env (eval o X.env) = eval o X.env := by rfl) (hline : (apos.endLine == pos.line) = true := by rfl) :
    QE X B (.Call (.Attribute o "join" apos) [e] [] pos) (dJoin da db) := PE.imp (pe_join ho he hs hbase hline) fun σ H Q ⟨F, pa, t, env, P, C, hd, k⟩ =>
  ⟨F, pa, t, env, _, C, hd, fun v x F1 pa1 t1 H1 g1 C1 r1 q1 => by
    cases x with
    | str z =>
      refine ⟨⟨z, by unfold RelD at r1; exact r1⟩, F1, pa1, t1, env, _, C1, q1, fun u y F2 pa2 t2 H2 g2 C2 r2 q2 => ?_⟩
      cases y with
      | lst l =>
        obtain ⟨ss, rfl, hz, q2⟩ := q2
        unfold RelD at r2
        obtain ⟨A, vs, rfl, e2, r3⟩ := r2
        rw [relL_strs r3] at e2
        refine ⟨z, A, ss, by unfold RelD at r1; exact r1, rfl, .inl (SqL.of (C2.sub _ _ e2)), by unfold zLen at hz; omega, ?_⟩
        rw [glued_eq]
        exact k _ (.str ⟨(joinC z ss).toArray⟩) F2 pa2 t2 H2 (g1.trans g2) C2 (rD_str _) q2
      | _ => exact q2.elim
    | _ => exact q1.elim⟩
theorem rop_inS : ROp K L2.rInS oInS := fun B F pa t env σ H x y v u P Q W rx ry h k => by
  cases x with
  | str x =>
    cases y with
    | str z =>
      obtain ⟨c, rfl, p⟩ := h
      exact ⟨c, z, rx.str W, ry.str W, k _ (.bl (decide (c ∈ z.cps.toList))) F H (Gr.refl _ _) W (rD_bl _) p⟩
    | _ => exact h.elim
  | _ => exact h.elim
theorem rop_inTL : ROp K (rIn K false) oInTL := fun B F pa t env σ H x y v u P Q W rx ry h k => by
  cases x with
  | str x =>
    cases y with
    | lst l =>
      obtain ⟨ss, rfl, h⟩ := h
      obtain ⟨a, vs, rfl, e1, r1⟩ := ry.lst W
      rw [relL_strs r1] at e1
      obtain rfl := rx.str W
      refine ⟨a, _, rfl, .inl (SqL.of e1), rfl, flat_strs ss, ?_⟩
      refine k _ (.bl (ss.any fun z => z == x)) F H (Gr.refl _ _) W ?_ h
      rw [if_neg Bool.false_ne_true, inV_strs]
      exact rD_bl _
    | _ => exact h.elim
  | _ => exact h.elim
theorem it_str {F0 : Hp} {pa0 : Option Addr} (z : Str) : ItOk K (Its z) (z.cps.toList.map fun c => .str (sg c)) F0 pa0 := fun B F pa t env σ H i g C => by
  refine ⟨fun hi => ?_, fun d hd => ?_⟩
  · rw [List.length_map, Array.length_toList] at hi
    exact Nat.le_of_eq hi
  · rw [List.getElem?_map] at hd
    cases q : z.cps.toList[i]? with
    | none => rw [q] at hd; cases hd
    | some c =>
      rw [q] at hd
      cases hd
      have hl := (List.getElem?_eq_some_iff.mp q).1
      rw [Array.length_toList] at hl
      refine ⟨hl, fun x H' y => ?_⟩
      obtain ⟨rfl, c', hc, rfl⟩ := y
      rw [Array.getElem?_toList] at q
      rw [q] at hc
      cases hc
      exact ⟨fun _ _ z => z, F, fun a o e => .inl ⟨o, e⟩, Gr.refl _ _, C, rD_str _⟩
theorem q_istr {tg : Expr} (he : QE X B e da) : QI X B tg e (iStrD da) := PI.imp (pi_str he) fun σ H R ⟨F, pa, t, env, P, C, h, k⟩ => ⟨F, pa, t, env, _, C, h, fun v d F' pa' t' H' g C' r q => by
  cases d with
  | str z =>
    unfold RelD at r
    exact ⟨z, r, k _ _ F' pa' t' H' g C' (it_str z) q⟩
  | _ => exact q.elim⟩
end
/-! ### {k: v for x in xs if c} -/
/-! ### x.append(y.pop(k)) -/
section
variable {K : PySem.W.Frag} {X : Cx} {B : Bs} {a : Expr} {dk : DE}
theorem q_appPop {i j : Nat} {x y : Str} {p1 p2 ap1 ap2 c1 c2 pos : Pos} (hx : PE X (.Name x p1) (tVar i)) (hy : PE X (.Name y p2) (tVar j)) (hk : QE X B a dk)
    (h1 : attributeBase (.Name y p2) "pop" X.env (eval (.Name y p2) X.env) = eval (.Name y p2) X.env := by rfl) (hl : (ap2.endLine == c2.line) = true := by rfl)
    (hfew : ((backTo c2 (starEach [a] X.env)).all (fun x => !x.1) && (backToKw c2 (keywordEach [] X.env)).all (fun x => x.1.isSome)
      && decide (([a] : List Expr).length + ([] : List Keyword).length + (if ([] : List Keyword).isEmpty then 0 else 1) < 30)) = true := by rfl)
    (h2 : starEach [a] X.env = (false, eval a X.env) :: starEach [] X.env := by rfl) (hp : (backTo c2 (starEach [] X.env)).any (·.1) = false := by rfl)
    (h1' : attributeBase (.Name x p1) "append" X.env (eval (.Name x p1) X.env) = eval (.Name x p1) X.env := by rfl) (hl' : (ap1.endLine == c1.line) = true := by rfl)
    (hfew' : ((backTo c1 (starEach [.Call (.Attribute (.Name y p2) "pop" ap2) [a] [] c2] X.env)).all (fun x => !x.1) && (backToKw c1 (keywordEach [] X.env)).all (fun x => x.1.isSome)
      && decide (([.Call (.Attribute (.Name y p2) "pop" ap2) [a] [] c2] : List Expr).length + ([] : List Keyword).length + (if ([] : List Keyword).isEmpty then 0 else 1) < 30)) = true := by rfl)
    (h2' : starEach [.Call (.Attribute (.Name y p2) "pop" ap2) [a] [] c2] X.env = (false, eval (.Call (.Attribute (.Name y p2) "pop" ap2) [a] [] c2) X.env) :: starEach [] X.env := by rfl) (hp' : (backTo c1 (starEach [] X.env)).any (·.1) = false := by rfl)
    (hs : swapsWith (.Call (.Attribute (.Name x p1) "append" ap1) [.Call (.Attribute (.Name y p2) "pop" ap2) [a] [] c2] [] c1) none pos.line X.env = pure false := by rfl) :
    QS X B (.Expr (.Call (.Attribute (.Name x p1) "append" ap1) [.Call (.Attribute (.Name y p2) "pop" ap2) [a] [] c2] [] c1) pos) (dAppPop i j dk) :=
  PS.imp (ps_expr (pe_bm PySem.F.plainAttrs_list PySem.F.slot_list_append PySem.F.type_list_append mt_append hx (pa_cons (pe_bm PySem.F.plainAttrs_list PySem.F.slot_list_pop PySem.F.type_list_pop mt_popAt hy (pa_cons hk pa_nil h2) h1 hfew hl h2 hp) pa_nil h2') h1' hfew' hl' h2' hp') hs) fun De σ H ⟨F, pa, t, env, DD, C, h, R⟩ => by
    unfold dAppPop at h
    split at h
    · rename_i l m hi hj
      obtain ⟨hij, h⟩ := h
      obtain ⟨ad, vs, s1, e1, r1⟩ := own_lst C hi
      obtain ⟨bd, ws, s2, e2, r2⟩ := own_lst C hj
      refine ⟨.ref ad, s1, Or.inl ⟨rfl, vs, SqL.of e1⟩, .ref bd, s2, Or.inl ⟨rfl, ws, SqL.of e2⟩, F, pa, t, env, _, C, h, fun w z F1 pa1 t1 H1 g1 C1 rz q1 => ?_⟩
      cases z with
      | int n =>
        obtain ⟨⟨n1, n2, n3⟩, q, d, hq, hd, q1⟩ := q1
        obtain ⟨bd', us, s2', e3, r3⟩ := own_lst C1 hj
        rw [s2] at s2'; cases s2'
        unfold RelD at rz
        subst rz
        obtain ⟨ud, hu, rd⟩ := r3.get hd
        refine ⟨bd, us, n, q, ud, rfl, rfl, e3, by omega, by omega, by rw [seqIx, r3.len]; exact hq, hu, ?_⟩
        have C2 := C1.wrO (d' := .lst (m.eraseIdx q)) hj s2 (h := .lst (us.eraseIdx q)) ⟨_, rfl, r3.erase q⟩
        have hi2 : (env.set j (.own (.lst (m.eraseIdx q))))[i]? = some (Sl.own (.lst l)) := by rw [List.getElem?_set_ne (Ne.symm hij)]; exact hi
        obtain ⟨ad', us2, s1', e4, r4⟩ := own_lst C2 hi2
        rw [s1] at s1'; cases s1'
        refine ⟨ad, us2, ud, rfl, rfl, e4, by rw [r4.len]; exact zlt n3, ?_⟩
        exact R.nx F1 pa1 t1 _ σ _ g1 (C2.wrO (d' := .lst (l ++ [d])) hi2 s1 ⟨_, rfl, r4.append (.cons rd .nil)⟩) q1
      | _ => exact q1.elim
    · exact h.elim
end
end Q
/-! QO3 -/
namespace Q
open PySem L2 PyProof.Rows
/-! ### defs with a default -/
end Q
/-! QX3 -/
namespace Q
open PySem L2 PyProof.Rows
/-! ### reversed(range(n)) -/
end Q
/-! QX4 -/
/-! ### list(reversed(l)) -/
namespace Q
open PySem
open Sem (wp)
open L2 PyProof.Rows
/-! ### f(a, .., k = v, ..) that may raise -/
end Q
/-! QX5 -/
namespace Q
open PySem L2 PyProof.Rows
/-! ### calls that may raise: defaults, one way or the other -/
end Q
/-! QO4 -/
namespace Q
open PySem PySem.Spec PyProof.Rows L2
end Q
namespace Q
open PySem L2 PySem.Spec PyProof.Rows LamX
end Q
/-! QX6 -/
namespace Q
open PySem L2 PyProof.Rows
end Q
/-! QX7 -/
namespace Q
open PySem L2 PyProof.Rows
end Q
/-! QX8 -/
namespace PySem.W
open PySem PyProof.Rows
end PySem.W
namespace Q
open PySem L2 PyProof.Rows
end Q
/-! QO5 -/
namespace Q
open PySem L2 PyProof.Rows
/-! ### != of instances, or of None twice -/
end Q
/-! QO6 -/
/-! != of lists that hold instances with an own ==, where all is equal -/
namespace Q
open PySem PySem.Spec PyProof.Rows L2
end Q
/-! QO7 -/
namespace Q
open PySem PySem.Spec PyProof.Rows L2
/-! ### len(o), o an instance whose class has __len__ -/
section
variable {X : Cx} {CX : CXT} {B : Bs} {k : Nat} {f C : Addr} {fd : FuncData} {ps : List Str} {E : XK} {a : Expr} {da : DE} {p pos : Pos} {x : Str} {sp : PSp}
def rLenI (C : Addr) (sp : Sp) (E : XK) : List V → Hp → VK → Prop := fun xs H Q => ∃ a dx fs, xs = [V.ref a] ∧ H a = some (HO.ins C dx fs) ∧ sp xs H (fun v H' => ∃ i : Int, v = .int i ∧ (0 ≤ i ∧ i < 9223372036854775808) ∧ Q (.int i) H') E
theorem call_lenI {sp : Sp} (F : FnOk X.prog X.w X.K X.mg X.base CX k f fd ps sp) (hr : Room (k + 1) X.A) (m : Meth X.K C "__len__" f) (hb : Binds X.K fd ps []) (hx : Passes CX X E) : CallR X (.builtin "len") (rLenI C sp E) := by
  intro pins s σ H xs us Q I r h
  obtain ⟨p, dx, fs, rfl, h1, h⟩ := h
  obtain ⟨u, rfl, ru⟩ := vals1 r
  obtain rfl : u = Value.ref p := ru
  obtain ⟨_, J1, _⟩ := ins_get I.hok h1
  obtain ⟨_, J1, _⟩ := J1.look
  obtain ⟨n, fr⟩ := I.fr
  have vs : Vals [V.ref p] [Value.ref p] := .cons rfl .nil
  have hl : ([Value.ref p] ++ ([] : List Value)).length = ps.length := (show [V.ref p].length = ps.length from F.len _ _ _ _ h)
  have go : wpAny (model X.prog X.w) X.A.in1 (call (.ref f) [.ref p]) (EP X pins σ fun v H' => ∃ i : Int, v = .int i ∧ (0 ≤ i ∧ i < 9223372036854775808) ∧ Q (.int i) H') X.xe s := by
    refine wpAny_call (codeAny_mono (F.run X.A.in1 X.stack s H ⟨[.ref p], []⟩ ([Value.ref p] ++ []) [V.ref p] _ E hr.in1 I.env0.in1 (hb s _ I.kIn hl) vs h) fun r s' hq => ?_)
    cases r with
    | error e => exact hx pins σ H s e s' I hq
    | ok fl =>
      cases fl with
      | ret u => exact I.after hq
      | next => exact False.elim hq
      | brk => exact False.elim hq
      | cont => exact False.elim hq
  refine PySem.W.len_K fr I.ok.mod.kin J1 m.at_ m.fn (wpAny_mono go (fun r s' z => ?_) fun _ _ z => z)
  obtain ⟨z', H', I', rz, i, rfl, hi, qz⟩ := z
  obtain ⟨tk, rfl⟩ : ∃ tk, r = Value.int i tk := rz
  exact ⟨⟨hi.1, by have := hi.2; omega⟩, .int i, H', I'.tok _, ⟨_, rfl⟩, qz⟩
theorem ev_lenI : ∀ σ H Q, teOf X.K B (dLenI C sp da) σ H Q → tCB (rLenI C (lift X.K sp) E) (tCons (teOf X.K B da) tNil) σ H Q := fun σ H Q ⟨F, pa, t, env, P, W, hd, kk⟩ =>
  ⟨F, pa, t, env, _, W, hd, fun v x F1 pa1 t1 H1 g1 W1 r1 q1 => by
    cases x with
    | adr A =>
      obtain ⟨ns, l, hA, q1⟩ := q1
      obtain rfl := rel_adr r1
      obtain ⟨dx, us, e1, _, _⟩ := W1.obIns hA
      refine ⟨A, dx, _, rfl, e1, F1, pa1, t1, [.adr A], _, W1.call, RelL.cons (rD_adr A) RelL.nil, q1, fun v d F' pa' t' H' W' r' q' => ?_⟩
      obtain ⟨g, W2⟩ := W1.after W'
      cases d with
      | int i =>
        unfold RelD at r'
        exact ⟨i, r', q'.1, kk _ (.int i) F' pa' t' H' (g1.trans g) W2 (rD_int i) q'.2⟩
      | _ => exact q'.elim
    | _ => exact q1.elim⟩
theorem q_lenI (F : FnOk X.prog X.w X.K X.mg X.base CX k f fd ps (lift X.K sp)) (hr : Room (k + 1) X.A) (m : Meth X.K C "__len__" f) (hb : Binds X.K fd ps []) (hx : Passes CX X E) (hg : Gl X "len") (hm : X.mg "len" = none) (ha : QE X B a da)
    (he : starEach (a :: []) X.env = (false, eval a X.env) :: starEach [] X.env := by rfl) (hpl : (backTo pos (starEach [] X.env)).any (·.1) = false := by rfl) : QE X B (.Call (.Name "len" p) [a] [] pos) (dLenI C sp da) :=
  PE.imp (pe_callB (call_lenI (E := E) F hr m hb hx) hg hm (by decide +kernel) (pa_cons ha pa_nil he) (by decide) (by decide) he hpl) ev_lenI
end
/-! ### a def with a default, handed all -/
end Q
/-! QO8 -/
/-! the law's own def where several defs hold lambdas: several tables of code objects -/
namespace Q
open PySem L2 PySem.Spec PyProof.Rows LamX
end Q
/-! QH35 -/
namespace Q
open PySem L2 PyProof.Rows PpSet
/-! ### set(l), l a list of whole numbers (HandS.SetFor has the tuples) -/
end Q
/-! QO9 -/
/-! sets of texts: set(l) and sorted(set(l)), l a list of texts -/
namespace Q
open PySem PySem.Spec PyProof.Rows L2 PpSet
def keyS (e : Int × Value) : Str := match e.2 with | .str k _ => k | _ => Str.empty
def GoodS (w : World) (e : Int × Value) : Prop := ∃ k tk, e.2 = Value.str k tk ∧ e.1 = hashStr w k
/-- the set of texts at a -/
def SetS (w : World) (h : Heap) (a : Addr) (S : Str → Bool) (n : Nat) : Prop :=
  ∃ o es ep t, h.get? a = some o ∧ o.ExactSet ∧ o.data = .set es ep t ∧ (∀ e ∈ es.toList, GoodS w e) ∧ (es.toList.map keyS).Nodup ∧ (∀ k, S k = true ↔ k ∈ es.toList.map keyS) ∧
    es.size < scanBound ∧ t.fits es.size = true ∧ es.size = n ∧ L2.Ris t.place.toList ∧ (w.params.followText "set-order" = true ∨ t.led = true)
section
variable {P : Program} {w : World} {h h' : Heap} {a : Addr} {S : Str → Bool} {n : Nat}
theorem SetS.at (R : SetS w h a S n) (k : ∀ o, h.get? a = some o → h'.get? a = some o) : SetS w h' a S n := by
  obtain ⟨o, es, ep, t, ho, r⟩ := R
  exact ⟨o, es, ep, t, k o ho, r⟩
end
end Q
/-! QO10 -/
namespace Q
open PySem L2 PyProof.Rows
/-! ### methods that tell None or a new object -/
end Q
/-! QX9 -/
namespace Q
open PySem L2 PyProof.Rows
end Q
/-! QX10 -/
namespace Q
open PySem L2 PyProof.Rows
end Q
/-! QX11 -/
namespace Q
open PySem L2 PyProof.Rows
end Q
/-! QO11 -/
/-! ### sorted(l, key = lambda r: r[0]); x in l, l a list of data -/
namespace Q
open PySem PySem.Spec PyProof.Rows L2 LamX
end Q
/-! QO12 -/
namespace Q
open PySem PySem.Spec PyProof.Rows L2
end Q
/-! QX12 -/
namespace Q
open PySem L2 PyProof.Rows
end Q
/-! QX13 -/
namespace Q
open PySem L2 PyProof.Rows
end Q
/-! QX14 -/
namespace Q
open PySem L2 PyProof.Rows
section
variable {K : PySem.W.Frag}
theorem rc_str : RCall K (fun xs H Q => ∃ i, xs = [.int i] ∧ i.natAbs.log2 < 1920 ∧ Q (.str (toString i)) H) bStr := fun B F pa t env σ H xs vs P Q W r h k => by
  unfold bStr at h
  split at h
  · obtain ⟨hz, h⟩ := h
    obtain ⟨v, rfl, r1⟩ := r.one
    exact ⟨_, by rw [r1.int W], hz, k _ _ F H (Gr.refl _ _) W (rD_str _) h⟩
  · exact h.elim
variable {X : Cx} {B : Bs} {vs : List Nat} {i : Nat} {dk : DE} {tg : Expr}
end
end Q
/-! QO13 -/
namespace Q
open PySem PySem.Spec PyProof.Rows L2
end Q
/-! QO14 -/
namespace Q
open PySem PySem.Spec PyProof.Rows L2
def Tx (d : D) : List Nat := (toPy d).shown.cps.toList
def num (c : Nat) : Prop := c = 45 ∨ (48 ≤ c ∧ c ≤ 57)
/-- what ends a number -/
def Ends (u : List Nat) : Prop := ∀ c ∈ u.head?, ¬ num c
end Q
/-! QO15 -/
namespace Q
open PySem PySem.Spec PyProof.Rows L2
section
variable {K : PySem.W.Frag} {X : Cx} {B : Bs} {a b e o : Expr} {da db de : DE} {pos apos p : Pos}
theorem relL_of_strs {F : Hp} {pa : Option Addr} : ∀ ys : List Str, RelL K F pa (ys.map D.str) (ys.map V.str)
  | [] => RelL.nil
  | y :: ys => RelL.cons (rD_str _) (relL_of_strs ys)
theorem q_split (ho : QE X B o da) (he : QE X B e db) (hs : starEach [e] X.env = [(false, eval e X.env)] := by rfl) (hbase : attributeBase o "split" X.env (eval o X.env) = eval o X.env := by rfl) (hline : (apos.endLine == pos.line) = true := by rfl) :
    QN X B (.Call (.Attribute o "split" apos) [e] [] pos) (dSplit da db) := PE.imp (pe_split ho he hs hbase hline) fun σ H Q ⟨F, pa, t, env, P, C, hd, k⟩ =>
  ⟨F, pa, t, env, _, C, hd, fun v x F1 pa1 t1 H1 g1 C1 r1 q1 => by
    cases x with
    | str z =>
      refine ⟨⟨z, by unfold RelD at r1; exact r1⟩, F1, pa1, t1, env, _, C1, q1, fun u y F2 pa2 t2 H2 g2 C2 r2 q2 => ?_⟩
      cases y with
      | str c =>
        obtain ⟨hb, hz, q2⟩ := q2
        refine ⟨z, c, by unfold RelD at r1; exact r1, ?_, hb, zle hz, fun p hp => k p _ (.lst _) F2 pa2 t2 _ (g1.trans g2) (C2.loose _ hp) (C2.nw hp) upd_same ⟨_, rfl, relL_of_strs _⟩ q2⟩
        unfold RelD at r2
        rw [r2]
      | _ => exact q2.elim
    | _ => exact q1.elim⟩
/-- the parts of an f-string -/
def QJ (X : Cx) (B : Bs) (es : List Expr) (j : DJ) : Prop := ∃ ts, PJ X es ts ∧ ∀ acc σ H (Q : Str → Hp → Prop), (∃ F pa t env P, Cf X.K B F pa t env σ H ∧ j acc env t P ∧ ∀ out F' pa' t' H', Gr F pa F' pa' → Cf X.K B F' pa' t' env σ H' → P out t' → Q out H') → tJs ts acc σ H Q
theorem q_jnil : QJ X B [] dJNil := ⟨[], .nil, fun acc σ H Q ⟨F, pa, t, env, P, C, h, k⟩ => k acc F pa t H (Gr.refl _ _) C h⟩
theorem q_je {es : List Expr} {j : DJ} (he : QE X B e de) (hj : QJ X B es j) : QJ X B (e :: es) (dJE de j) := by
  obtain ⟨ts, hp, hr⟩ := hj
  refine ⟨_, .cons he hp, fun acc σ H Q ⟨F, pa, t, env, P, C, h, k⟩ => ⟨F, pa, t, env, _, C, h, fun v x F1 pa1 t1 H1 g1 C1 r1 q1 => ?_⟩⟩
  cases x with
  | str s =>
    obtain ⟨hz, q1⟩ := q1
    unfold RelD at r1
    exact ⟨s, r1, zle hz, hr _ _ _ _ ⟨F1, pa1, t1, env, _, C1, q1, fun out F2 pa2 t2 H2 g2 C2 q2 => k out F2 pa2 t2 H2 (g1.trans g2) C2 q2⟩⟩
  | _ => exact q1.elim
theorem q_jv {es : List Expr} {j : DJ} (he : QE X B e de) (hj : QJ X B es j) : QJ X B (.FormattedValue e (-1) none pos :: es) (dJV de j) := by
  obtain ⟨ts, hp, hr⟩ := hj
  refine ⟨_, .cons (pe_fmt he) hp, fun acc σ H Q ⟨F, pa, t, env, P, C, h, k⟩ => ⟨F, pa, t, env, _, C, h, fun v x F1 pa1 t1 H1 g1 C1 r1 q1 => ?_⟩⟩
  cases x with
  | str s =>
    obtain ⟨hz, hz2, q1⟩ := q1
    unfold RelD at r1
    exact .inl ⟨s, r1, zle hz, s, rfl, zle hz2, hr _ _ _ _ ⟨F1, pa1, t1, env, _, C1, q1, fun out F2 pa2 t2 H2 g2 C2 q2 => k out F2 pa2 t2 H2 (g1.trans g2) C2 q2⟩⟩
  | int i =>
    obtain ⟨hz, hz2, q1⟩ := q1
    unfold RelD at r1
    exact .inr ⟨i, r1, hz, _, rfl, zle hz2, hr _ _ _ _ ⟨F1, pa1, t1, env, _, C1, q1, fun out F2 pa2 t2 H2 g2 C2 q2 => k out F2 pa2 t2 H2 (g1.trans g2) C2 q2⟩⟩
  | _ => exact q1.elim
theorem q_fs {v1 v2 : Expr} {rest : List Expr} {j : DJ} (hj : QJ X B (v1 :: v2 :: rest) j) : QE X B (.JoinedStr (v1 :: v2 :: rest) pos) (dFs j) := by
  obtain ⟨ts, hp, hr⟩ := hj
  refine PE.imp (pe_joined hp) fun σ H Q ⟨F, pa, t, env, P, C, h, k⟩ => hr _ _ _ _ ⟨F, pa, t, env, _, C, h, fun out F' pa' t' H' g C' q => k _ (.str out) F' pa' t' H' g C' (rD_str _) q⟩
theorem rc_intT : RCall K (fun xs H Q => ∃ a n, xs = [.str a] ∧ PySem.intText? a = some n ∧ a.length ≤ 640 ∧ Q (.int n) H) bIntT := fun B F pa t env σ H xs vs P Q W r h k => by
  unfold bIntT at h
  split at h
  · obtain ⟨n, hn, hz, h⟩ := h
    obtain ⟨v, rfl, r1⟩ := r.one
    exact ⟨_, n, by rw [r1.str W], hn, hz, k _ _ F H (Gr.refl _ _) W (rD_int _) h⟩
  · exact h.elim
theorem q_try0 {body : List Stmt} {h0 : ExceptHandler} {hs : List ExceptHandler} {ds : DS} (hb : QSs X.nox B body ds) : QS X B (.Try body (h0 :: hs) [] [] pos) ds := ps_try_thru0 hb
end
end Q
/-! QO16 -/
namespace Q
open PySem PySem.Spec PyProof.Rows L2
/-! ### a dict of the module, its keys texts -/
def DicK (K : PySem.W.Frag) (w : World) (d : Addr) (ks : List Str) : Prop := ∃ es n, KDict K w d es n ∧ es.toList.map He.keyOf = He.keysIn w.params ks
theorem dicK_mk {K : PySem.W.Frag} {w : World} {d : Addr} {ks : List Str} {es : Array DictEntry} {n : Nat} (h : K.lookup d = some ⟨.type "dict", none, .dict es n, #[]⟩) (hl : (d == sysModules) = false) (hk : es.toList.map He.keyOf = He.keysIn w.params ks) : DicK K w d ks :=
  ⟨es, n, ⟨h, He.keysLit_of hk, hl⟩, hk⟩
theorem find_keys {P : Params} (z : Str) : ∀ {l : List DictEntry} {ks : List Str}, l.map He.keyOf = He.keysIn P ks → (l.any (·.refKey) = false) ∧ (l.find? (·.key.isStr z)).isSome = ks.contains z
  | [], [], _ => ⟨rfl, rfl⟩
  | [], _ :: _, h => by cases h
  | _ :: _, [], h => by cases h
  | e :: r, k :: ks, h => by
    have h1 : He.keyOf e :: r.map He.keyOf = some (k, PyData.keyHash P k) :: He.keysIn P ks := h
    injection h1 with h2 h3
    obtain ⟨i1, i2⟩ := find_keys z h3
    have hk : ∃ t, e.key = .str k t := by
      unfold He.keyOf at h2
      split at h2
      · rename_i x t q
        obtain ⟨h5, h6⟩ := Prod.mk.inj (Option.some.inj h2)
        exact ⟨t, by rw [q, h5]⟩
      · cases h2
    obtain ⟨t, hk⟩ := hk
    refine ⟨?_, ?_⟩
    · rw [List.any_cons, i1]
      have : e.refKey = false := by unfold DictEntry.refKey; rw [hk]
      rw [this]; rfl
    · rw [List.find?_cons, hk]
      show (match (k == z) with | true => some e | false => r.find? _).isSome = _
      rw [List.contains_cons]
      cases hkz : (k == z) with
      | true =>
        have : k = z := by simpa using hkz
        rw [this]
        simp
      | false =>
        have : (z == k) = false := by
          rw [beq_eq_false_iff_ne] at hkz ⊢
          exact fun y => hkz y.symm
        rw [this, Bool.false_or]
        exact i2
theorem dicK_ns {K : PySem.W.Frag} {w : World} {d : Addr} {ks : List Str} {es : Array DictEntry} {n : Nat} (D : KDict K w d es n) (hk : es.toList.map He.keyOf = He.keysIn w.params ks) (z : Str) : ∃ r, PySem.W.nsIn K d z = some r ∧ r.isSome = ks.contains z := by
  obtain ⟨h1, h2⟩ := find_keys z hk
  unfold PySem.W.nsIn
  rw [D.at_]
  dsimp only
  cases q : es.toList.find? (·.key.isStr z) with
  | some e =>
    rw [q] at h2
    exact ⟨some e.val, rfl, h2⟩
  | none =>
    rw [q] at h2
    simp only [h1]
    exact ⟨none, rfl, h2⟩
section
variable {K : PySem.W.Frag} {X : Cx} {B : Bs} {a b e o : Expr} {da db de : DE} {pos apos p : Pos}
theorem q_tinK {d : Addr} {ks : List Str} {x : Str} (D : DicK X.K X.w d ks) (he : QV X B e de) (hg : Gl X x) (hm : X.mg x = some (.ref d)) (hdb : (x == ("__debug__" : Str)) = false := by decide) (hb : behindInMarks .In (.Name x p) = false := by rfl) :
    QT X B (.Compare e [.In] [.Name x p] pos) (dB (dInK ks de)) := by
  obtain ⟨es, n, D, hk⟩ := D
  refine PT.imp (pt_cmpR (op_in_kd D) he (pe_glob (v := .ref d) hg hm rfl hdb) hb) fun σ H Q ⟨F, pa, t, env, P, C, h, k⟩ => ⟨F, pa, t, env, _, C, h, fun v y F1 pa1 t1 H1 g1 C1 r1 q1 => ?_⟩
  cases y with
  | str s =>
    have rv : v = .str s := r1.str C1
    obtain ⟨r, e1, e2⟩ := dicK_ns D hk s
    refine ⟨s, r, rv, rfl, e1, ks.contains s, by rw [e2], ?_⟩
    exact k _ F1 pa1 t1 H1 g1 C1 q1
  | _ => exact q1.elim
end
end Q
/-! QO17 -/
namespace Q
open PySem PySem.Spec PyProof.Rows L2
end Q
/-! QO18 -/
namespace PySem.F
theorem store_LookupErrorQ : StoreFacts "LookupError" [.type "LookupError", .type "Exception", .type "BaseException", .type "object"] "object.__setattr__" "object" where
  mro := by kernel_rfl
  slot := .of (owner := "object") (n := "__setattr__") (by rw [typeLookup_type, builtinLookup_eq_fast]; kernel_rfl) (by decide +kernel) (by decide +kernel) (by decide +kernel)
    (by first | exact .inl (by decide +kernel) | exact .inr (by decide +kernel)) (by rw [isSubtype_type]; kernel_rfl)
  entry := entry_object_sa
  kind := by decide +kernel
  split := by decide +kernel
  hasOwner := by decide +kernel
  args := fun a b c => by unfold argsOk; kernel_rfl
  passes := fun self => by kernel_rfl
end PySem.F
namespace Q
open PySem L2 PySem.Spec PyProof.Rows
/-! ### own exception classes with one field over LookupError, ValueError -/
abbrev luTail : List Value := [.type "LookupError", .type "Exception", .type "BaseException", .type "object"]
abbrev vaTail : List Value := [.type "ValueError", .type "Exception", .type "BaseException", .type "object"]
theorem fxb_Lookup : FxB "LookupError" "LookupError.__new__" "LookupError.__init__" luTail := ⟨PySem.F.excBase_LookupError, PySem.F.store_LookupErrorQ.passes, by decide +kernel, rfl⟩
theorem fxb_Value : FxB "ValueError" "ValueError.__new__" "ValueError.__init__" vaTail := ⟨PySem.F.excBase_ValueError, PySem.F.store_ValueError.passes, by decide +kernel, rfl⟩
end Q
/-! QO19 -/
namespace Q
open PySem PySem.Spec PyProof.Rows L2
section
variable {X : Cx} {CX : CXT} {k : Nat} {f C : Addr} {fd : FuncData} {ps : List Str} {sp : Sp} {E : L2.St → XK} {o e : Expr} {m : Str} {es : List Expr} {apos pos : Pos} {t : TA}
/-- o.m(..), which may raise -/
def tMethS (C : Addr) (m : Str) (sp : Sp) (E : L2.St → XK) (to : TE) (t : TA) : TE := fun σ H Q => to σ H fun x H1 => ∃ a dx fs, x = .ref a ∧ H1 a = some (.ins C dx fs) ∧ fs.lookup m = none ∧ t σ H1 fun vs H2 => sp (x :: vs) H2 Q (E σ)
theorem pe_methS {pl : Sem Bool} {to : TE} (he : PE X o to) (c : Cls X.K C) (hm : Meth X.K C m f) (F : FnOk X.prog X.w X.K X.mg X.base CX k f fd ps sp) (hr : Room k X.A) (hb : Binds X.K fd ps []) (hx : ∀ σ, PassesAt CX X σ (E σ)) (ha : PA X (e :: es) t)
    (hst : starEach (e :: es) X.env = (false, eval e X.env) :: starEach es X.env := by rfl) (hpl : (backTo pos (starEach es X.env)).any (·.1) = false := by rfl)
    (ht : eval (.Call (.Attribute o m apos) (e :: es) [] pos) X.env = (do
      let ov ← eval o X.env
      standAt apos.atName
      let (f, first) ← holding [ov] (getMethod ov m pl)
      callWith pos f first (backTo pos (starEach (e :: es) X.env)) (backToKw pos (keywordEach [] X.env))) := by rfl) :
    PE X (.Call (.Attribute o m apos) (e :: es) [] pos) (tMethS C m sp E to t) := by
  refine ⟨fun pins s σ H Q I h => ?_⟩
  refine PySem.W.methodCall_KW (pl := pl) (thn (he.run pins s σ H _ I h) fun u s1 ⟨x, H1, I1, rx, a, dx, fs, ex, ea, l, q⟩ => ?_) ht
  subst ex
  obtain rfl : u = Value.ref a := rx
  refine getmeth_ok I1 ea c hm l ?_
  refine PySem.W.callWith_K (first := [.ref a]) (h₀ := X.base) I.ok.mod.kin hm.kp (thn (ha.run pos pins s1 σ H1 _ I1 q) fun us s2 ⟨vs, H2, I2, r, q2⟩ => ⟨I2.kIn, ?_⟩) hst hpl
  exact run_fnS (us := .ref a :: us) (vs := .ref a :: vs) F hr hb (hx σ) I2 (.cons rfl r) q2
end
end Q
/-! QO20 -/
/-! own exception classes over KeyError, whose __new__ is LookupError's -/
namespace PySem
namespace KyQ
open PySem.W PySem.Calls PyProof.Rows Builtin Builtin.ObjectAttr HandSPX
abbrev kyT : List Value := [.type "KeyError", .type "LookupError", .type "Exception", .type "BaseException", .type "object"]
theorem ky_init : Slot "KeyError" "__init__" "KeyError.__init__" := .of (owner := "KeyError") (n := "__init__") (by rw [typeLookup_type, builtinLookup_eq_fast]; kernel_rfl) (by decide +kernel) (by decide +kernel) (by decide +kernel)
    (by first | exact .inl (by decide +kernel) | exact .inr (by decide +kernel)) (by rw [isSubtype_type]; kernel_rfl)
theorem ky_initEntry : entryFor table "KeyError.__init__" = some Builtin.«BaseException.__init__» := entryFor_alias (id' := "BaseException.__init__") (by rw [fastTable_eq_tree]; kernel_rfl) (by first | rfl | decide +kernel) (by decide +kernel) (by rw [fastTable_eq_tree]; kernel_rfl)
theorem ky_initSplit : splitId "KeyError.__init__" = some ("KeyError", "__init__") := by kernel_rfl
theorem ky_initKind : builtinKind "KeyError.__init__" = some .slot := by kernel_rfl
theorem ky_initRow : Manifest.signature? "KeyError.__init__" = some ⟨.positional, "*", "KeyError", .self, [⟨"args", .varPos, false⟩]⟩ := by kernel_rfl
abbrev FL := PySem.F.excBase_LookupError
section
variable {M : Model} {A : Around} {E : Value → Shared → Prop} {h : Heap} {g : Array GenState} {d : Drawn} {t : Nat} {os : OsState}
variable {nm q : Str} {C N : Addr} {bs : List Value} {hdct : Bool} {sn : List Str} {sub : List Value} {ab : Bool} {col : Option Bool} {dd : Option Addr} {k0 k1 k2 k3 k5 : Option Value}
theorem check_new_ky {rest : List Value} {Q : Unit → Shared → Prop}
    (hC : h.get? C = some (excClassObj nm q C N bs kyT hdct sn sub ab col dd k0 k1 k2 k3 k5 "LookupError.__new__")) (hq : Q () ⟨h, g, d, t, os⟩) : wpAny M A (checkBuiltinCall "LookupError.__new__" ⟨.ref C :: rest, []⟩) Q E ⟨h, g, d, t, os⟩ := by
  have hcont : (Value.ref C :: kyT).contains (.type "LookupError") = true := by rw [List.contains_cons]; rw [show kyT.contains (.type "LookupError") = true by decide +kernel, Bool.or_true]
  have hstar := FL.noStar
  simp only [checkBuiltinCall, FL.newKind, FL.newSplit, FL.newRow]
  repeat (first | refine wpAny_loadPart_at hC ?_ | (refine wpAny_isSubtype_exc hC ?_; rw [hcont]) | refine wpAny_staticBase_exc hC ?_ | refine wpAny_madeBy_exc hC ?_ | simp only [bne_self_eq_false, Bool.false_eq_true, if_false] | wp_step)
  exact hq
theorem check_init_ky {e : Addr} {oe : Obj} {rest : List Value} {Q : Unit → Shared → Prop}
    (hC : h.get? C = some (excClassObj nm q C N bs kyT hdct sn sub ab col dd k0 k1 k2 k3 k5 "LookupError.__new__")) (he : h.get? e = some oe) (hcls : oe.cls = .ref C) (hq : Q () ⟨h, g, d, t, os⟩) :
    wpAny M A (checkBuiltinCall "KeyError.__init__" ⟨.ref e :: rest, []⟩) Q E ⟨h, g, d, t, os⟩ := by
  have hcB : (Value.ref C :: kyT).contains (.type "KeyError") = true := by rw [List.contains_cons]; rw [show kyT.contains (.type "KeyError") = true by decide +kernel, Bool.or_true]
  have hshort := FL.noStar
  simp only [checkBuiltinCall, ky_initKind, ky_initSplit, ky_initRow]
  repeat (first | (with_reducible refine wpAny_loadPart_at he ?_; rw [hcls]) | with_reducible refine wpAny_loadPart_at hC ?_ | (with_reducible refine wpAny_isSubtype_exc hC ?_; rw [hcB]) | wp_step)
  refine wpAny_onRaise ?_
  rw [show ∀ (a b : String) (n : Nat), Bind.check ⟨.positional, "*", "KeyError", .self, [⟨"args", .varPos, false⟩]⟩ a b n (List.map (fun x => x.fst) ({ pos := Value.ref e :: rest } : Args).kw) = pure () from
    fun a b n => check_star_args _ _ _ _ _ _]
  exact wpAny_pure hq
end
section
variable {prog : Program} {w : World} {A : Around} {E : Value → Shared → Prop} {R : Result → Shared → Prop} {h : Heap} {g : Array GenState} {d : Drawn} {t : Nat} {os : OsState}
variable {nm q : Str} {C N : Addr} {bs : List Value} {hdct : Bool} {sn : List Str} {sub : List Value} {ab : Bool} {col : Option Bool} {dd : Option Addr} {k0 k1 k2 k3 k5 : Option Value}
theorem new_ky {rest : List Value}
    (hC : h.get? C = some (excClassObj nm q C N bs kyT hdct sn sub ab col dd k0 k1 k2 k3 k5 "LookupError.__new__"))
    (hq : R (.ok (.ret (.ref (h.objs.size + 1)))) ⟨(h.push { cls := .type "tuple", data := .seq rest.toArray }).push
      { cls := .ref C, data := .fields #[.ref h.objs.size, .none, .none, .none, .bool false, .none] }, g, d, t, os⟩) (hrest : rest.length ≤ sizeLine) :
    codeAny (model prog w) A (.builtin "LookupError.__new__" ⟨.ref C :: rest, []⟩) R ⟨h, g, d, t, os⟩ := by
  have hends := FL.ends
  have hcB : (Value.ref C :: kyT).contains (.type "LookupError") = true := by rw [List.contains_cons]; rw [show kyT.contains (.type "LookupError") = true by decide +kernel, Bool.or_true]
  have hcA : (Value.ref C :: kyT).contains (.type "AttributeError") = false := by rw [List.contains_cons]; rw [show kyT.contains (.type "AttributeError") = false by decide +kernel]; rfl
  have hcN : (Value.ref C :: kyT).contains (.type "NameError") = false := by rw [List.contains_cons]; rw [show kyT.contains (.type "NameError") = false by decide +kernel]; rfl
  refine codeAny_builtinAt FL.entry ?_
  unfold Builtin.«BaseException.__new__»
  refine wpAt_bind ?_
  show wpAt _ _ _ (stack >>= _) _ _ _
  refine wpAt_bind (wpAt_stack fun p below => wpAt_of_wpAny ?_)
  wp_walk
  refine wpAt_of_wpAny ?_
  rw [FL.owner]
  repeat (first | with_reducible refine wpAny_madeHere_exc FL.canon hC ?_ | with_reducible refine wpAny_loadPart_at hC ?_ | (with_reducible refine wpAny_isSubtype_exc hC ?_; first | rw [hcB] | rw [hcA] | rw [hcN]) | wp_step)
  show R _ _
  rw [Heap.size_push]
  exact hq
theorem type_call_ky {rest : List Value} {fI : Addr} {Q : Fin → Shared → Prop}
    (hC : h.get? C = some (excClassObj nm q C N bs kyT hdct sn sub ab col dd k0 k1 k2 k3 k5 "LookupError.__new__"))
    (hi : W.Looks (model prog w) h (typeLookup (.ref C) "__init__") (some (.ref fI))) (hb : ∀ self, W.Looks (model prog w) h (bindSpecial (.ref fI) self) (.ref fI, [self])) (hrest : rest.length ≤ sizeLine)
    (hq : codeAny (model prog w) A (.call (.ref fI) ⟨.ref (h.objs.size + 1) :: rest, []⟩)
      (fun r s' => match r with | .ok (.ret v) => v = .none ∧ Q (.done (.ret (.ref (h.objs.size + 1)))) s' | .ok _ => False | .error e => E e s')
      ⟨(h.push (W.kdv_tup rest)).push (excO C h.objs.size), g, d, t, os⟩) :
    wpAny (model prog w) A (Builtin.«type.__call__» ⟨.ref C :: rest, []⟩) Q E ⟨h, g, d, t, os⟩ := by
  repeat (first | with_reducible refine wpAny_loadPart_at hC ?_ | with_reducible refine wpAny_madeBy_exc hC ?_ | wp_step)
  refine codeAny_call_builtin_code (Code.quiet_builtin _ FL.quiet) (check_new_ky hC ?_)
  refine new_ky hC ?_ hrest
  show wpAny _ _ _ _ _ _
  have k : ∀ b o, h.get? b = some o → ((h.push (W.kdv_tup rest)).push (excO C h.objs.size)).get? b = some o := fun b o e => Heap.get?_push_of_some _ (Heap.get?_push_of_some _ e)
  have hC₁ := k _ _ hC
  have hget : ((h.push (W.kdv_tup rest)).push (excO C h.objs.size)).get? (h.objs.size + 1) = some (excO C h.objs.size) := by heap_get
  have hcC : (Value.ref C :: kyT).contains (.ref C) = true := by simp
  have i1 := hi.keeps k
  have b1 := (hb (.ref (h.objs.size + 1))).keeps k
  unfold isInstance
  repeat (first | with_reducible refine wpAny_loadPart_at hget ?_ | (with_reducible refine wpAny_isSubtype_exc hC₁ ?_; rw [hcC]) | wp_step)
  show wpAny _ _ (typeLookup (.ref C) _) _ _ _
  refine i1.at ?_
  refine wpAny_holding (wpAny_bind (b1.at ?_))
  refine wpAny_bind (wpAny_call (codeAny_mono hq fun r s' z => ?_))
  rcases r with e | (v | _ | _ | _) <;> first | exact z | exact z.elim | skip
  obtain ⟨rfl, z⟩ := z
  first
    | exact wpAny_pure (wpAny_pure z)
    | (wp_walk; exact z)
theorem call_ky {rest : List Value} {fI : Addr}
    (hC : h.get? C = some (excClassObj nm q C N bs kyT hdct sn sub ab col dd k0 k1 k2 k3 k5 "LookupError.__new__"))
    (hi : W.Looks (model prog w) h (typeLookup (.ref C) "__init__") (some (.ref fI))) (hb : ∀ self, W.Looks (model prog w) h (bindSpecial (.ref fI) self) (.ref fI, [self])) (hrest : rest.length ≤ sizeLine)
    (hq : codeAny (model prog w) (A.under (.builtin "type.__call__" ⟨.ref C :: rest, []⟩)) (.call (.ref fI) ⟨.ref (h.objs.size + 1) :: rest, []⟩) (W.InitBack (h.objs.size + 1) R)
      ⟨(h.push (W.kdv_tup rest)).push (excO C h.objs.size), g, d, t, os⟩) :
    codeAny (model prog w) A (.call (.ref C) ⟨rest, []⟩) R ⟨h, g, d, t, os⟩ := by
  have f1 := tc_lookup
  have f2 := tc_bind (.ref C)
  have hTy : (⟨h, g, d, t, os⟩ : Shared).TypeIs (.ref C) "type" := ⟨_, hC, rfl⟩
  refine codeAny_of_tree ?_
  show wpAny _ _ (callAny (.ref C) _) _ _ _
  repeat (any_goals (first | assumption | with_reducible refine wpAny_loadPart_at hC ?_ | wp_step))
  refine ⟨rfl, ?_⟩
  refine codeAny_call_builtin_at (Code.quiet_builtin _ (by decide +kernel)) entry_typeCall (wpAny_check_type_call_sub hC (type_call_ky hC hi hb hrest ?_))
  refine codeAny_mono hq fun r s' z => ?_
  rcases r with e | (v | _ | _ | _) <;> exact z
theorem init_ky {e t0 : Addr} {rest : List Value}
    (hC : h.get? C = some (excClassObj nm q C N bs kyT hdct sn sub ab col dd k0 k1 k2 k3 k5 "LookupError.__new__")) (he : h.get? e = some (excO C t0)) (hrest : rest.length ≤ sizeLine)
    (hq : ∀ h' t1, (∀ b o, b ≠ e → h.get? b = some o → h'.get? b = some o) → h'.get? e = some (excO C t1) → R (.ok (.ret .none)) ⟨h', g, d, t, os⟩) :
    codeAny (model prog w) A (.call (.builtin "KeyError.__init__") ⟨.ref e :: rest, []⟩) R ⟨h, g, d, t, os⟩ := by
  refine codeAny_call_builtin ky_init.plain ky_initEntry (check_init_ky hC he rfl ?_)
  wp_walk
  refine hq _ h.objs.size (fun b o hb ho => ?_) ?_
  · rw [Heap.get?_update_other _ _ (Ne.symm hb)]
    exact Heap.get?_push_of_some _ ho
  · rw [Heap.get?_update_self _ (Heap.get?_push_of_some _ he) rfl]
    rfl
end
end KyQ
end PySem
/-! QO21 -/
namespace Q
open PySem L2 PySem.Spec PyProof.Rows
/-! ### own exception classes with one field, whatever the base: what a base must give -/
structure FxG (newId initId : String) (tl : List Value) : Prop where
  pass : ∀ self : Value, refuseLoop self "__setattr__" tl = pure ()
  obj : tl.contains (.type "object") = true
  ne : tl.isEmpty = false
  callO : ∀ {prog : Program} {w : World} {A : Around} {R : Result → Shared → Prop} {h : Heap} {g : Array GenState} {d : Drawn} {t : Nat} {os : OsState} {nm q : Str} {C N : Addr} {bs : List Value} {hdct : Bool} {sn : List Str} {sub : List Value} {ab : Bool} {col : Option Bool} {dd : Option Addr} {k0 k1 k2 k3 k5 : Option Value} {rest : List Value} {fI : Addr},
    h.get? C = some (excClassObj nm q C N bs tl hdct sn sub ab col dd k0 k1 k2 k3 k5 newId) → W.Looks (model prog w) h (typeLookup (.ref C) "__init__") (some (.ref fI)) → (∀ self, W.Looks (model prog w) h (bindSpecial (.ref fI) self) (.ref fI, [self])) → rest.length ≤ sizeLine →
    codeAny (model prog w) (A.under (.builtin "type.__call__" ⟨.ref C :: rest, []⟩)) (.call (.ref fI) ⟨.ref (h.objs.size + 1) :: rest, []⟩) (W.InitBack (h.objs.size + 1) R) ⟨(h.push (W.kdv_tup rest)).push (HandSPX.excO C h.objs.size), g, d, t, os⟩ →
    codeAny (model prog w) A (.call (.ref C) ⟨rest, []⟩) R ⟨h, g, d, t, os⟩
  initB : ∀ {prog : Program} {w : World} {A : Around} {R : Result → Shared → Prop} {h : Heap} {g : Array GenState} {d : Drawn} {t : Nat} {os : OsState} {nm q : Str} {C N : Addr} {bs : List Value} {hdct : Bool} {sn : List Str} {sub : List Value} {ab : Bool} {col : Option Bool} {dd : Option Addr} {k0 k1 k2 k3 k5 : Option Value} {e t0 : Addr} {rest : List Value},
    h.get? C = some (excClassObj nm q C N bs tl hdct sn sub ab col dd k0 k1 k2 k3 k5 newId) → h.get? e = some (HandSPX.excO C t0) → rest.length ≤ sizeLine →
    (∀ h' t1, (∀ b o, b ≠ e → h.get? b = some o → h'.get? b = some o) → h'.get? e = some (HandSPX.excO C t1) → R (.ok (.ret .none)) ⟨h', g, d, t, os⟩) →
    codeAny (model prog w) A (.call (.builtin initId) ⟨.ref e :: rest, []⟩) R ⟨h, g, d, t, os⟩
theorem FxB.g {B newId initId : String} {tl : List Value} (F : FxB B newId initId tl) : FxG newId initId tl :=
  ⟨F.pass, F.obj, F.ne, fun a b c e f => PySem.HandSPX.call_own F.base (fun Y => rfl) a b c e f, fun a b c e => PySem.HandSPX.init_base F.base (fun Y => rfl) a b c e⟩
abbrev kyTail : List Value := PySem.KyQ.kyT
theorem fxg_Key : FxG "LookupError.__new__" "KeyError.__init__" kyTail := ⟨fun self => by kernel_rfl, by decide +kernel, rfl, PySem.KyQ.call_ky, PySem.KyQ.init_ky⟩
end Q
namespace PySem
namespace HandSPX
open PySem.W PySem.Calls PyProof.Rows Builtin Builtin.ObjectAttr
section
variable {prog : Program} {w : World} {A : Around} {E : Value → Shared → Prop} {R : Result → Shared → Prop} {hp : Heap} {g : Array GenState} {d : Drawn} {t : Nat} {os : OsState}
theorem exc_osaG {K : W.Frag} {name : Str} {tk : Tok} {v : Value} {x C : Addr} {fv : Array Value} {cd : ClassData} {tl : List Value} {newId initId : String} (T : Q.FxG newId initId tl)
    (X : K.In hp) (hx : hp.get? x = some { cls := .ref C, data := .fields fv }) (hcd : W.clsIn K C = some cd) (hm : cd.mro = .ref C :: tl) (hh : cd.hasDict = true) (ha : W.findIn K (.ref C) name = some none)
    (hq : ∀ h' tk' dx, (∀ b o, b ≠ x → hp.get? b = some o → h'.get? b = some o) → hp.objs.size ≤ dx → dx ≠ x → h'.get? x = some { cls := .ref C, dict := some dx, data := .fields fv } →
      h'.Ns1 dx (fun y => if y = name then some v else none) → R (.ok (.ret .none)) ⟨h', g, d, tk', os⟩) :
    codeAny (model prog w) A (.call (.builtin "object.__setattr__") ⟨[.ref x, .str name tk, v], []⟩) R ⟨hp, g, d, t, os⟩ := by
  have I : W.InstAt hp x { cls := .ref C, data := .fields fv } C none := ⟨hx, rfl, rfl, trivial⟩
  have SF := F.store_object
  have ne : cd.mro.isEmpty = false := by rw [hm]; rfl
  have hob : cd.mro.contains (.type "object") = true := by rw [hm, List.contains_cons, T.obj, Bool.or_true]
  have hxs : x ≠ hp.objs.size := Nat.ne_of_lt (Heap.lt_size hx)
  have sub : W.Looks (model prog w) hp (isInstance (.ref x) (.type "object")) true := I.type.andThen (W.looks_mroIn X (by unfold W.mroIn; rw [hcd, Option.bind_some, if_neg (by rw [ne]; decide), hob]))
  refine codeAny_call_builtin SF.slot.plain SF.entry (@W.check_slot (model prog w) _ _ ⟨hp, g, d, t, os⟩ "object.__setattr__" "object" "__setattr__" (.ref x) [.str name tk, v] [] _ SF.kind SF.split sub (SF.args (.ref x) (.str name tk) v) ?_)
  have hmr : W.Looks (model prog w) hp (mroOf (.ref C)) cd.mro := (W.looks_clsIn X hcd).andThen .now
  have L3 : W.Looks (model prog w) hp (storeTaker? none) none := .now
  have hcls : W.Looks (model prog w) hp (classData C) cd := W.looks_clsIn X hcd
  rw [W.osa_eq, refuse_eq]
  refine wpAny_bind (wpAny_bind (I.type.at (wpAny_bind (hmr.at ?_))))
  rw [hm, refuseLoop_ref, T.pass]
  refine wpAny_pure (wpAny_bind (I.type.at (wpAny_bind ((W.looks_findIn X ha).at (wpAny_bind (L3.at ?_))))))
  show wpAny _ _ (storeInOwnDict (.ref x) (.ref C) (.str name tk) name v false) _ _ _
  clear hm hob ne sub hmr
  obtain ⟨nm, bs, mro, ns, qn, hd, sn, sb, ab, col, del⟩ := cd
  dsimp only at hh
  subst hh
  unfold storeInOwnDict ownDictForStores
  repeat (first | with_reducible refine store_in_new ?_ ?_ | with_reducible refine wpAny_loadPart_at hx ?_ | with_reducible refine hcls.at ?_ | wp_step)
  · exact ⟨_, #[], _, (Heap.get?_update_ne _ _ _ _ hxs.symm).trans (Heap.get?_push_at rfl rfl), rfl, fun e he => absurd he (by simp), fun _ => rfl⟩
  · intro h' tk' hn' hs
    have hx₁ : (hp.push { cls := .type "dict", data := .dict #[] }).get? x = some { cls := .ref C, data := .fields fv } := Heap.get?_push_of_some _ hx
    refine hq h' tk' hp.objs.size (fun b o hb ho => ?_) (Nat.le_refl _) hxs.symm ?_ hn'
    · exact (hs.2 b (Nat.ne_of_lt (Heap.lt_size ho))).trans ((Heap.get?_update_ne _ _ _ _ hb).trans (Heap.get?_push_of_some _ ho))
    · exact (hs.2 x hxs).trans (Heap.get?_update_self _ hx₁ rfl)
end
end HandSPX
end PySem
namespace Q
open PySem L2 PySem.Spec PyProof.Rows
section
variable {X : Cx} {pins : List (Addr × Obj)} {σ : L2.St} {H : Hp} {s : Shared} {a C : Addr} {f : Str} {y : V} {u : Value} {A : Around} {E : Value → Shared → Prop} {newId initId : String} {tl : List Value}
theorem fst_newG {Q : Unit → Shared → Prop} (FB : FxG newId initId tl) (T : FxC X.K C newId tl) (I : Inv X pins σ H s) (e : H a = some (exo a C none)) (hno : PySem.W.findIn X.K (.ref C) f = some none) (ry : RelV y u)
    (h : ∀ dx s', H dx = none → dx ≠ a → Inv X pins σ (upd (upd H dx (exd dx [(f, y)])) a (exo a C (some dx))) s' → Q () s') : wpAny (model X.prog X.w) A (setAttr (.ref a) f u) Q E s := by
  obtain ⟨nm, q, N, bs, sn, sub, ab, col, dd, k0, k1, k2, k3, k5, hC⟩ := T.cls
  have hcl : PySem.W.clsIn X.K C = some { name := nm, bases := bs, mro := .ref C :: tl, ns := N, qualname := q, hasDict := true, slotNames := sn, subclasses := sub, abstract := ab, collection := col, hasDel := false } := by unfold PySem.W.clsIn; rw [hC] <;> rfl
  obtain ⟨t1, ho⟩ := exo_at I.hok e
  obtain ⟨hp, g, d, t, os⟩ := s
  refine PySem.W.set_plain I.kIn (ox := { cls := .ref C, dict := none, data := .fields #[.ref t1, .none, .none, .none, .bool false, .none] }) (od := none) ⟨ho, rfl, rfl, trivial⟩ T.sa ?_
  refine PySem.HandSPX.exc_osaG FB I.kIn ho hcl rfl rfl hno (fun h' tk' dx k dn dne hx hn => ?_)
  have hnd : H dx = none := I.hok.fresh dn
  have nd : ∀ {b : Addr} {o : Obj}, hp.get? b = some o → b ≠ dx := fun {b o} q => Nat.ne_of_lt (Nat.lt_of_lt_of_le (Heap.lt_size q) dn)
  have na : ∀ {b : Addr}, H b = none → b ≠ a := fun {b} n z => by
    rw [z, e] at n
    cases n
  have Un1 : Un X.fs [] H (upd (upd H dx (exd dx [(f, y)])) a (exo a C (some dx))) hp h' := {
    keep := fun b o q n _ _ => k b o (na n) q
    slot := fun b o q n _ _ => ⟨o.slots, k b o (na n) q⟩
    free := fun b o q n _ => by rw [upd_ne (na n), upd_ne (nd q)]; exact n
    there := fun b o q _ => by
      by_cases hb : b = a
      · exact ⟨_, by rw [hb]; exact hx⟩
      · exact ⟨o, k b o hb q⟩
    tups := fun b xs q => by rw [upd_ne (at_ne e q exo_tup), upd_ne (ne_of_none q hnd)]; exact q
    frzs := fun b o v q => by rw [upd_ne (at_ne e q exo_frz), upd_ne (ne_of_none q hnd)]; exact q
    tbls := fun b ps q => ⟨#[], by rw [upd_ne (at_ne e q exo_tbl), upd_ne (ne_of_none q hnd), q]; simp⟩ }
  refine h dx _ hnd dne (I.un (t' := tk') Un1 fun b o q => ?_)
  by_cases hb : b = a
  · subst hb
    rw [upd_same] at q
    cases q
    exact exo_ok hx
  · rw [upd_ne hb] at q
    by_cases hd : b = dx
    · subst hd
      rw [upd_same] at q
      cases q
      exact exd_ok hn (relO_put (fs := []) ry fun g => True.intro)
    · rw [upd_ne hd] at q
      exact (I.hok b o q).stay (fun c v hc z => k c v (by
          rcases hc with hc | hc
          · rw [hc]
            exact hb
          · exact at_ne e hc exo_own) z)
        (fun c hc => by rw [upd_ne (at_ne e hc exo_own), upd_ne (ne_of_none hc hnd)]; exact hc) (fun c xs hc => by rw [upd_ne (at_ne e hc exo_tup), upd_ne (ne_of_none hc hnd)]; exact hc)
theorem finit_okG {us : List Value} {Q : Value → Shared → Prop} (FB : FxG newId initId tl) (T : FxC X.K C newId tl) (I : Inv X pins σ H s) (e : H a = some (exo a C none)) (hl : us.length ≤ sizeLine) (h : ∀ s', Inv X pins σ H s' → Q .none s') :
    wpAny (model X.prog X.w) A (call (.builtin initId) (.ref a :: us)) Q E s := by
  obtain ⟨nm, q, N, bs, sn, sub, ab, col, dd, k0, k1, k2, k3, k5, hC⟩ := T.cls
  obtain ⟨t1, ho⟩ := exo_at I.hok e
  obtain ⟨hp, g, d, t, os⟩ := s
  refine wpAny_call (FB.initB (I.kIn _ _ hC) ho hl fun h' t2 k hx => ?_)
  have J := I.write (t' := t) (x := a) (e := a) (o := exo a C none) (by rw [e]; exact True.intro) (.inl rfl) k ⟨_, hx⟩ (exo_ok hx)
  have eu : upd H a (exo a C none) = H := by
    funext b
    by_cases hb : b = a
    · rw [hb, upd_same, e]
    · rw [upd_ne hb]
  rw [eu] at J
  exact h _ J
end
theorem boot_KeyError : bootBuiltins "KeyError" = some (.type "KeyError") := by decide +kernel
theorem typ_KY : typeOf (.type "KeyError") = pure (.type "type") := by kernel_rfl
section
variable {X : Cx} {o e : Expr} {es : List Expr} {to te : TE} {ta : TA} {f : Str} {p p' p1 p2 pos : Pos}
theorem pe_kyinit {pl : Sem Bool} (hg : Gl X "KeyError") (hm : X.mg "KeyError" = none) (vV : PySem.W.findCls X.K (.type "KeyError") (.type "type") "__init__" = some (.val (.builtin "KeyError.__init__"))) (ha : PA X (e :: es) ta)
    (hc : eval (.Call (.Attribute (.Name "KeyError" p1) "__init__" p2) (e :: es) [] pos) X.env = (do
      let ov ← eval (.Name "KeyError" p1) X.env
      standAt p2.atName
      let (f, first) ← holding [ov] (getMethod ov "__init__" pl)
      callWith pos f first (backTo pos (starEach (e :: es) X.env)) (backToKw pos (keywordEach [] X.env))) := by rfl)
    (he : starEach (e :: es) X.env = (false, eval e X.env) :: starEach es X.env := by rfl) (hpl : (backTo pos (starEach es X.env)).any (·.1) = false := by rfl) :
    PE X (.Call (.Attribute (.Name "KeyError" p1) "__init__" p2) (e :: es) [] pos) (tFxI X.K "LookupError.__new__" kyTail ta) := by
  refine ⟨fun pins s σ H Q I h => ?_⟩
  refine PySem.W.methodCall_KW (ld_blt I hg hm boot_KeyError ?_ (by decide) (by decide)) hc
  obtain ⟨m, fr⟩ := I.fr
  refine PySem.W.method_type fr I.ok.mod.kin typ_KY (by decide +kernel) vV (by decide +kernel) ?_
  show wpAny _ _ (callWith pos (Value.builtin "KeyError.__init__") [] (backTo pos (starEach (e :: es) X.env)) []) _ _ _
  refine PyProof.Rows.callWith_method1 (thn (ha.run pos pins _ σ H _ (I.tok _) h) fun us s1 ⟨vs, H1, I1, r1, a, C, ws, ev, hl, T, ea, q⟩ => ?_) he hpl
  subst ev
  cases r1 with
  | @cons _ u0 _ ur ra rw' =>
    obtain rfl : u0 = Value.ref a := ra
    have hlen : ur.length ≤ sizeLine := by
      rw [← Paired.length rw', sizeLine_eq]
      omega
    exact finit_okG fxg_Key T I1 ea hlen fun s' J => ⟨.non, H1, J, rfl, q⟩
theorem ps_fstG {newId initId : String} {tl : List Value} (FB : FxG newId initId tl) (ho : PE X o to) (he : PE X e te) (hs : swapsWith e (some (.Attribute o f p')) pos.line X.env = pure false := by rfl) : PS X (.Assign [.Attribute o f p'] e pos) (tFst X.K newId tl f to te) := by
  refine ⟨fun pins s σ H D I h => ?_⟩
  refine plainObj_wpAny_Assign_Attribute (thn (he.run pins s σ H _ I h) fun v s1 ⟨y, H1, I1, r1, q1⟩ => thn (ho.run pins s1 σ H1 _ I1 q1) fun u s2 ⟨x, H2, I2, r2, a, C, ex, T, hno, ea, q⟩ => ?_) hs
  subst ex
  obtain rfl : u = Value.ref a := r2
  exact fst_newG FB T I2 ea hno r1 fun dx s' n ne J => ⟨σ, _, J, q dx n ne⟩
end
section
variable {X : Cx} {e : Expr} {es : List Expr} {ta : TA} {p pos : Pos}
/-- X(e), X's own __init__ keeping spFx -/
theorem pmk_fxG {x : Str} {C fI : Addr} {k : Nat} {fd : FuncData} {ps : List Str} {f : Str} {newId initId : String} {tl : List Value} (FB : FxG newId initId tl) (T : FxC X.K C newId tl) (iC : PySem.W.findIn X.K (.ref C) "__init__" = some (some (.ref fI))) (tI : PySem.W.typeIn X.K (.ref fI) = some (.type "function"))
    (hno : PySem.W.findIn X.K (.ref C) f = some none)
    (F1 : FnOk X.prog X.w X.K X.mg X.base CX0 k fI fd ps (spFx X.K newId tl f)) (hr : Room (k + 1) X.A) (hb : Binds X.K fd ps []) (hx : Passes CX0 X (fun _ _ _ => False)) (hg : Gl X x) (hm : X.mg x = some (.ref C)) (ha : PA X (e :: es) ta)
    (hdb : (x == ("__debug__" : Str)) = false := by decide) (he : starEach (e :: es) X.env = (false, eval e X.env) :: starEach es X.env := by rfl) (hpl : (backTo pos (starEach es X.env)).any (·.1) = false := by rfl) :
    PMk X (.Call (.Name x p) (e :: es) [] pos) (fun σ H Q => ta σ H fun vs H1 => ∃ y, vs = [y] ∧ ∀ d, H1 d = none → Q (.ref C) (some d) (upd H1 d (.xd [(f, y)]))) := by
  intro pins s σ H Q I h
  obtain ⟨nm, q, N, bs, sn, sub, ab, col, dd, k0, k1, k2, k3, k5, hC⟩ := T.cls
  refine wpAny_Call_Name_kw (ld_glob I hg hm ?_ hdb)
  refine PySem.W.callWith_K (h₀ := X.base) I.ok.mod.kin T.kC (thn (ha.run pos pins s σ H _ I h) fun us s1 ⟨vs, H1, I1, r1, y, ey, q1⟩ => ⟨I1.kIn, ?_⟩) he hpl
  subst ey
  show wpAny _ _ (call (.ref C) us) _ _ _
  obtain ⟨hp, g, dr, tk, os⟩ := s1
  have hsz : hp.objs.size ≤ hp.objs.size + 1 := Nat.le_succ _
  have hn : H1 (hp.objs.size + 1) = none := I1.hok.fresh hsz
  have kk : ∀ b o, hp.get? b = some o → ((hp.push (PySem.W.kdv_tup us)).push (PySem.HandSPX.excO C hp.objs.size)).get? b = some o := fun b o e => Heap.get?_push_of_some _ (Heap.get?_push_of_some _ e)
  have hget : ((hp.push (PySem.W.kdv_tup us)).push (PySem.HandSPX.excO C hp.objs.size)).get? (hp.objs.size + 1) = some (PySem.HandSPX.excO C hp.objs.size) := by heap_get
  have I2 : Inv X pins σ (upd H1 (hp.objs.size + 1) (exo (hp.objs.size + 1) C none)) ⟨(hp.push (PySem.W.kdv_tup us)).push (PySem.HandSPX.excO C hp.objs.size), g, dr, tk, os⟩ :=
    I1.laid (t' := tk) (a := hp.objs.size + 1) (o := exo (hp.objs.size + 1) C none) (h' := (hp.push (PySem.W.kdv_tup us)).push (PySem.HandSPX.excO C hp.objs.size)) kk hsz (exo_ok hget)
  have r2 : Vals (V.ref (hp.objs.size + 1) :: [y]) (Value.ref (hp.objs.size + 1) :: us) := .cons rfl r1
  have hq : spFx X.K newId tl f (V.ref (hp.objs.size + 1) :: [y]) (upd H1 (hp.objs.size + 1) (exo (hp.objs.size + 1) C none)) (fun v H2 => v = .non ∧ ∃ (d : Addr) (fs : List (Str × V)), H2 (hp.objs.size + 1) = some (exo (hp.objs.size + 1) C (some d)) ∧ H2 d = some (exd d fs) ∧ H1 d = none ∧ Q (.ref C) (some d) (upd (del H2 (hp.objs.size + 1)) d (.xd fs))) (fun _ _ _ => False) := by
    refine ⟨_, C, y, rfl, T, hno, upd_same, fun dx n ne => ⟨rfl, dx, [(f, y)], upd_same, by rw [upd_ne ne, upd_same], ?_, ?_⟩⟩
    · rw [upd_ne ne] at n
      exact n
    · rw [fx_heap hn ne]
      rw [upd_ne ne] at n
      exact q1 dx n
  have hl : (Value.ref (hp.objs.size + 1) :: us).length = ps.length := by
    have e := r2.length
    rw [F1.len _ _ _ _ hq] at e
    exact e.symm
  have hus : us.length ≤ sizeLine := by
    rw [← Paired.length r1, sizeLine_eq]
    show 1 ≤ _
    omega
  have bb := hb _ (Value.ref (hp.objs.size + 1) :: us) I2.kIn (by simpa using hl)
  rw [List.append_nil] at bb
  refine wpAny_call (FB.callO (I1.kIn _ _ hC) (PySem.W.looks_findIn I1.kIn iC) (fun self => PySem.W.bind_fn I1.kIn self tI) hus
    (codeAny_mono (F1.run _ X.stack _ _ ⟨Value.ref (hp.objs.size + 1) :: us, []⟩ (Value.ref (hp.objs.size + 1) :: us) _ _ (fun _ _ _ => False) (hr.make C us []) (I2.env0.make C us []) bb r2 hq) fun r s' hq' => ?_))
  cases r with
  | error er => exact hx pins σ _ _ er s' I2 hq'
  | ok fl =>
    cases fl with
    | ret u =>
      obtain ⟨v, H2, os2, bare2, un2, hok2, rv, ev, d, fs, ea, ed, hd1, q2⟩ := hq'
      subst ev
      obtain ⟨h2, g2, d2, t2, os'⟩ := s'
      exact ⟨rv, mk_end (raises_own T.exC T.tyC) I1 hsz kk un2 hok2 os2 bare2 ea ed hd1 q2⟩
    | next => exact False.elim hq'
    | brk => exact False.elim hq'
    | cont => exact False.elim hq'
end
end Q
/-! QO22 -/
namespace Q
open PySem L2 PySem.Spec PyProof.Rows
theorem boot_LookupError : bootBuiltins "LookupError" = some (.type "LookupError") := by decide +kernel
theorem boot_ValueErrorQ : bootBuiltins "ValueError" = some (.type "ValueError") := by decide +kernel
theorem typ_LU : typeOf (.type "LookupError") = pure (.type "type") := by kernel_rfl
theorem typ_VA : typeOf (.type "ValueError") = pure (.type "type") := by kernel_rfl
section
variable {X : Cx} {o e : Expr} {es : List Expr} {to te : TE} {ta : TA} {f : Str} {p p' p1 p2 pos : Pos}
theorem pe_luinit {pl : Sem Bool} (hg : Gl X "LookupError") (hm : X.mg "LookupError" = none) (vV : PySem.W.findCls X.K (.type "LookupError") (.type "type") "__init__" = some (.val (.builtin "LookupError.__init__"))) (ha : PA X (e :: es) ta)
    (hc : eval (.Call (.Attribute (.Name "LookupError" p1) "__init__" p2) (e :: es) [] pos) X.env = (do
      let ov ← eval (.Name "LookupError" p1) X.env
      standAt p2.atName
      let (f, first) ← holding [ov] (getMethod ov "__init__" pl)
      callWith pos f first (backTo pos (starEach (e :: es) X.env)) (backToKw pos (keywordEach [] X.env))) := by rfl)
    (he : starEach (e :: es) X.env = (false, eval e X.env) :: starEach es X.env := by rfl) (hpl : (backTo pos (starEach es X.env)).any (·.1) = false := by rfl) :
    PE X (.Call (.Attribute (.Name "LookupError" p1) "__init__" p2) (e :: es) [] pos) (tFxI X.K "LookupError.__new__" luTail ta) := by
  refine ⟨fun pins s σ H Q I h => ?_⟩
  refine PySem.W.methodCall_KW (ld_blt I hg hm boot_LookupError ?_ (by decide) (by decide)) hc
  obtain ⟨m, fr⟩ := I.fr
  refine PySem.W.method_type fr I.ok.mod.kin typ_LU (by decide +kernel) vV (by decide +kernel) ?_
  show wpAny _ _ (callWith pos (Value.builtin "LookupError.__init__") [] (backTo pos (starEach (e :: es) X.env)) []) _ _ _
  refine PyProof.Rows.callWith_method1 (thn (ha.run pos pins _ σ H _ (I.tok _) h) fun us s1 ⟨vs, H1, I1, r1, a, C, ws, ev, hl, T, ea, q⟩ => ?_) he hpl
  subst ev
  cases r1 with
  | @cons _ u0 _ ur ra rw' =>
    obtain rfl : u0 = Value.ref a := ra
    have hlen : ur.length ≤ sizeLine := by
      rw [← Paired.length rw', sizeLine_eq]
      omega
    exact finit_okG fxb_Lookup.g T I1 ea hlen fun s' J => ⟨.non, H1, J, rfl, q⟩
theorem pe_vainit {pl : Sem Bool} (hg : Gl X "ValueError") (hm : X.mg "ValueError" = none) (vV : PySem.W.findCls X.K (.type "ValueError") (.type "type") "__init__" = some (.val (.builtin "ValueError.__init__"))) (ha : PA X (e :: es) ta)
    (hc : eval (.Call (.Attribute (.Name "ValueError" p1) "__init__" p2) (e :: es) [] pos) X.env = (do
      let ov ← eval (.Name "ValueError" p1) X.env
      standAt p2.atName
      let (f, first) ← holding [ov] (getMethod ov "__init__" pl)
      callWith pos f first (backTo pos (starEach (e :: es) X.env)) (backToKw pos (keywordEach [] X.env))) := by rfl)
    (he : starEach (e :: es) X.env = (false, eval e X.env) :: starEach es X.env := by rfl) (hpl : (backTo pos (starEach es X.env)).any (·.1) = false := by rfl) :
    PE X (.Call (.Attribute (.Name "ValueError" p1) "__init__" p2) (e :: es) [] pos) (tFxI X.K "ValueError.__new__" vaTail ta) := by
  refine ⟨fun pins s σ H Q I h => ?_⟩
  refine PySem.W.methodCall_KW (ld_blt I hg hm boot_ValueErrorQ ?_ (by decide) (by decide)) hc
  obtain ⟨m, fr⟩ := I.fr
  refine PySem.W.method_type fr I.ok.mod.kin typ_VA (by decide +kernel) vV (by decide +kernel) ?_
  show wpAny _ _ (callWith pos (Value.builtin "ValueError.__init__") [] (backTo pos (starEach (e :: es) X.env)) []) _ _ _
  refine PyProof.Rows.callWith_method1 (thn (ha.run pos pins _ σ H _ (I.tok _) h) fun us s1 ⟨vs, H1, I1, r1, a, C, ws, ev, hl, T, ea, q⟩ => ?_) he hpl
  subst ev
  cases r1 with
  | @cons _ u0 _ ur ra rw' =>
    obtain rfl : u0 = Value.ref a := ra
    have hlen : ur.length ≤ sizeLine := by
      rw [← Paired.length rw', sizeLine_eq]
      omega
    exact finit_okG fxb_Value.g T I1 ea hlen fun s' J => ⟨.non, H1, J, rfl, q⟩
end
end Q
/-! QO23 -/
namespace Q
open PySem PySem.Spec PyProof.Rows L2
end Q
/-! QO24 -/
namespace Q
open PySem PySem.Spec PyProof.Rows L2
/-! ### several except clauses, with and without names -/
abbrev HdL := List (Value × Option Nat × (Addr → Value → Option Addr → TS))
def wManyA (K : PySem.W.Frag) (Wout : WX) (D : L2.Ends) : HdL → WX
  | [] => Wout
  | (c, none, ts) :: r => fun cls d σ H => ∃ b, PySem.W.exmOne K cls c = some b ∧ (b = true → ∀ a, H a = none → ts a cls d D σ H) ∧ (b = false → wManyA K Wout D r cls d σ H)
  | (c, some i, ts) :: r => fun cls d σ H => ∃ b, PySem.W.exmOne K cls c = some b ∧ (b = true → ∀ a, H a = none → ts a cls d { nx := fun σ' H' => D.nx (σ'.set i none) H', rt := D.rt, bk := fun σ' H' => D.bk (σ'.set i none) H', ct := fun σ' H' => D.ct (σ'.set i none) H' } (σ.set i (some (.ref a))) H) ∧ (b = false → wManyA K Wout D r cls d σ H)
inductive HdsA (X : Cx) : List ExceptHandler → HdL → Prop
  | nil : HdsA X [] []
  | no {x : Str} {c : Value} {ts : Addr → Value → Option Addr → TS} {b₀ : Stmt} {suite : List Stmt} {np pos' : Pos} {hds : List ExceptHandler} {l : HdL} (hc : Names X x c)
      (hsu : ∀ (a : Addr) (oe : Obj) (cls : Value) (d : Option Addr) (pn : List (Addr × Obj)), Zc cls d oe → (∃ vs, oe.data = .fields vs) → PSs (X.suite a ((a, oe) :: pn)) (b₀ :: suite) (ts a cls d)) (r : HdsA X hds l) :
      HdsA X (.ExceptHandler (some (.Name x np)) none (b₀ :: suite) pos' :: hds) ((c, none, ts) :: l)
  | as {x n : Str} {i : Nat} {c : Value} {ts : Addr → Value → Option Addr → TS} {b₀ : Stmt} {suite : List Stmt} {np pos' : Pos} {hds : List ExceptHandler} {l : HdL} (hi : X.N[i]? = some n) (hln : X.env.kindOf n = some .local) (hc : Names X x c)
      (hsu : ∀ (a : Addr) (oe : Obj) (cls : Value) (d : Option Addr) (pn : List (Addr × Obj)), Zc cls d oe → (∃ vs, oe.data = .fields vs) → PSs (X.suite a ((a, oe) :: pn)) (b₀ :: suite) (ts a cls d)) (r : HdsA X hds l) :
      HdsA X (.ExceptHandler (some (.Name x np)) (some n) (b₀ :: suite) pos' :: hds) ((c, some i, ts) :: l)
section
variable {X : Cx} {body : List Stmt} {h₀ : ExceptHandler} {hds : List ExceptHandler} {l : HdL} {pos : Pos} {tb : WX → TS} {Wout : WX}
theorem ps_try_manyA (hs : X.stack = X.env :: X.outer) (hf : X.env.frame = some X.env.locals) (hN : X.N.Nodup) (tk : Takes X Wout)
    (hb : ∀ (W : WX) (pn : List (Addr × Obj)) (xe : Value → Shared → Prop), Takes (X.tr pn xe) W → PassesOwn (model X.prog X.w) X.A X.env xe → PSs (X.tr pn xe) body (tb W))
    (hh : HdsA X (h₀ :: hds) l) : PS X (.Try body (h₀ :: hds) [] [] pos) (fun D σ H => tb (wManyA X.K Wout D l) D σ H) := by
  refine ⟨fun pins s σ H D I h => ?_⟩
  have ok := I.ok
  have hfr : X.A.frames = some (X.env :: X.outer) := by rw [ok.frames, hs]
  refine wpAny_Try_except ?_
  refine wpAny_mono ((hb (wManyA X.K Wout D l) (X.pn ++ pins) (fun e s₁ => wpAny (model X.prog X.w) X.A (noteFrame e X.env) (fun _ s₂ => wpAny (model X.prog X.w) X.A (setFlight e none) (fun _ s₃ =>
    wpAny (model X.prog X.w) X.A (handleBy e X.env (h₀ :: hds)) (SP X pins D) X.xe s₃) X.xe s₂) X.xe s₁) (fun u s' xx => ?_) PassesOwn.looking).run [] s σ H D (I.toTry _) h) (fun f s1 hsp => ?_) (fun e s1 he => he)
  · obtain ⟨a, B, sI, pins', σ', H', cls, d, rfl, J', nb, up, sky, na, os, ag, w⟩ := xx
    have J : Inv X pins σ' H' sI := J'.ofTry ok
    have sky' : Sky B (X.env :: X.outer) a (Zc cls d) X.env.locals s'.heap := by rw [← hs]; exact sky
    show wpAny (model X.prog X.w) X.A (noteFrame (.ref a) X.env) _ _ _
    refine Sky.land Zc.steady hfr hf sky' fun h3 fl3 up3 => ?_
    have J3 : Inv X pins σ' H' { s' with heap := h3 } := J.landed nb fl3.1 (up.trans up3) os ag
    obtain ⟨oe3, vs3, he3, hz3, hd3⟩ := fl3.there
    have notFr : ∀ {h : Heap} {o : Obj} {vs : Array Value}, h.FunFrames B (X.env :: X.outer) → h.get? a = some o → o.data = .fields vs → a ∉ frs (X.env :: X.outer) := fun {h o vs} ff e dd hm => by
      obtain ⟨_, o', e', hnf⟩ := ff.mem hm
      rw [e] at e'; cases e'
      exact hnf _ dd
    have nfr := notFr fl3.2.2.1 he3 hd3
    have nL : a ≠ X.env.locals := fun z => nfr (List.mem_filterMap.mpr ⟨X.env, List.mem_cons_self, by rw [hf, z]⟩)
    have nF : a ∉ X.fs := fun hm => by
      obtain ⟨e, he, q⟩ := List.mem_filterMap.mp hm
      exact nfr (List.mem_filterMap.mpr ⟨e, List.mem_cons_of_mem _ he, q⟩)
    have S3 := J3.suite he3 hd3 na nL nF
    have LT : PySem.W.Looks (model X.prog X.w) h3 (typeOf (.ref a)) cls := fun A Q E s k q => wpAny_typeOf_ref (k _ _ he3) (by rw [hz3.1]; exact q)
    have test : ∀ {x : Str} {c : Value} {np : Pos} {Q : Value → Shared → Prop} {E : Value → Shared → Prop}, Names X x c → Q c { s' with heap := h3 } → wpAny (model X.prog X.w) (X.A.mark (some (.ref a))) (eval (.Name x np) X.env) Q E { s' with heap := h3 } := fun {x c np Q E} hc q => by
      obtain ⟨hg, hdbg, hm | ⟨hm, hv, hnn⟩⟩ := hc
      · exact ld_glob (X := X.suite a ((a, oe3) :: (X.pn ++ pins))) S3 hg hm q hdbg
      · exact ld_blt (X := X.suite a ((a, oe3) :: (X.pn ++ pins))) S3 hg hm hv q hnn hdbg
    have go : ∀ {hds' : List ExceptHandler} {l' : HdL}, HdsA X hds' l' → wManyA X.K Wout D l' cls d σ' H' →
        wpAny (model X.prog X.w) X.A (handleBy (.ref a) X.env hds') (SP X pins D) X.xe { s' with heap := h3 } := by
      intro hds' l' hk
      induction hk with
      | nil =>
        intro w
        refine wpAny_handleBy_nil ?_
        obtain ⟨k1, k2, k3, oe, vs, T, oT, ts', he, hz, hd, h1, hr⟩ := id fl3
        unfold PySem.passOn
        refine wpAny_bind (wpAny_field he hd h1 ?_)
        rw [if_neg (show ¬ ((Value.ref T == Value.none) = true) from by simp)]
        have fin : wpAny (model X.prog X.w) X.A (setFlight (.ref a) X.env.frame) (fun _ s4 => wpAny (model X.prog X.w) X.A (throw (.ref a) : Sem Flow) (SP X pins D) X.xe s4) X.xe { s' with heap := h3 } := by
          rw [hf]
          refine HandSPX.setFlight_upZ fl3 fun h4 hh4 up4 => wpAny_throw (tk _ _ ?_)
          exact ⟨a, B, sI, pins, σ', H', cls, d, rfl, J, nb, (up.trans up3).trans up4, .inr (.inr (by rw [hs]; exact hh4)), na, os, ag, w⟩
        first
          | exact wpAny_bind (wpAny_pure (wpAny_bind fin))
          | exact wpAny_bind fin
      | @no x c ts b₀ suite np pos' hds2 l2 hc hsu r ih =>
        intro w
        obtain ⟨b, hb1, hyes, hno⟩ := w
        refine wpAny_handleBy_cons (codeAny_handlers_test ?_) (by intro q; cases q)
        have LM := PySem.W.exm_one (M := model X.prog X.w) (J3.kIn) LT hb1
        refine test hc (LM.here ?_)
        cases b with
        | true =>
          refine codeAny_handlers_suite ?_
          refine HandSPX.lands_againZ fl3 fun h4 fl4 up4 => ?_
          have J4 : Inv X pins σ' H' { s' with heap := h4 } := J.landed nb fl4.1 ((up.trans up3).trans up4) os ag
          obtain ⟨oe4, vs4, he4, hz4, hd4⟩ := fl4.there
          have S4 := J4.suite he4 hd4 na nL nF
          refine wpAny_mono ((hsu a oe4 cls d (X.pn ++ pins) hz4 ⟨_, hd4⟩).run [] _ _ H' _ S4 (hyes rfl a na)) (fun f s6 hsp => ?_) (fun _ _ z => False.elim z)
          cases f with
          | next =>
            obtain ⟨σ6, H6, S6, q6⟩ := hsp
            exact ⟨_, _, S6.unsuite ok, q6⟩
          | brk =>
            obtain ⟨σ6, H6, S6, q6⟩ := hsp
            exact ⟨_, _, S6.unsuite ok, q6⟩
          | cont =>
            obtain ⟨σ6, H6, S6, q6⟩ := hsp
            exact ⟨_, _, S6.unsuite ok, q6⟩
          | ret u =>
            obtain ⟨v6, σ6, H6, S6, r6, q6⟩ := hsp
            exact ⟨_, _, _, S6.unsuite ok, r6, q6⟩
        | false =>
          show wpAny _ X.A (handleBy (.ref a) X.env hds2) _ _ _
          exact ih (hno rfl)
      | @as x n i c ts b₀ suite np pos' hds2 l2 hi hln hc hsu r ih =>
        intro w
        obtain ⟨b, hb1, hyes, hno⟩ := w
        have hloc : Loc X.env.scope n := .inl hln
        refine wpAny_handleBy_cons (codeAny_handlers_test ?_) (by intro q; cases q)
        have LM := PySem.W.exm_one (M := model X.prog X.w) (J3.kIn) LT hb1
        refine test hc (LM.here ?_)
        cases b with
        | true =>
          refine codeAny_handlers_suite_as ?_
          refine HandSPX.lands_againZ fl3 fun h4 fl4 up4 => ?_
          have J4 : Inv X pins σ' H' { s' with heap := h4 } := J.landed nb fl4.1 ((up.trans up3).trans up4) os ag
          obtain ⟨oe4, vs4, he4, hz4, hd4⟩ := fl4.there
          have S4 := J4.suite he4 hd4 na nL nF
          refine store_ok (X := X.suite a ((a, oe4) :: (X.pn ++ pins))) (v := .ref a) S4 hN hi hloc rfl (fun s5 S5 => ?_) (.inr hln)
          refine wpAny_mono ((hsu a oe4 cls d (X.pn ++ pins) hz4 ⟨_, hd4⟩).run [] s5 _ H' _ S5 (hyes rfl a na)) (fun f s6 hsp => ?_) (fun _ _ z => False.elim z)
          have end_ : ∀ {σ6 : L2.St} {H6 : Hp} {Q : Shared → Prop}, Inv (X.suite a ((a, oe4) :: (X.pn ++ pins))) [] σ6 H6 s6 → (∀ s7, Inv X pins (σ6.set i none) H6 s7 → Q s7) →
              wpAny (model X.prog X.w) X.A (do bindName X.env n .none; unbindBehindTheSuite X.env n pos') (fun _ s7 => Q s7) X.xe s6 := fun {σ6 H6 Q} S6 hq => gone_ok (S6.unsuite ok) hN hi hln hq
          cases f with
          | next =>
            obtain ⟨σ6, H6, S6, q6⟩ := hsp
            exact end_ S6 fun s7 J7 => ⟨_, _, J7, q6⟩
          | brk =>
            obtain ⟨σ6, H6, S6, q6⟩ := hsp
            exact end_ S6 fun s7 J7 => ⟨_, _, J7, q6⟩
          | cont =>
            obtain ⟨σ6, H6, S6, q6⟩ := hsp
            exact end_ S6 fun s7 J7 => ⟨_, _, J7, q6⟩
          | ret u =>
            obtain ⟨v6, σ6, H6, S6, r6, q6⟩ := hsp
            exact end_ S6 fun s7 J7 => ⟨_, _, _, J7, r6, q6⟩
        | false =>
          show wpAny _ X.A (handleBy (.ref a) X.env hds2) _ _ _
          exact ih (hno rfl)
    exact go hh w
  · cases f with
    | next =>
      obtain ⟨σ', H', J', q⟩ := hsp
      exact wpAny_execs_nil ⟨σ', H', J'.ofTry ok, q⟩
    | brk =>
      obtain ⟨σ', H', J', q⟩ := hsp
      exact ⟨σ', H', J'.ofTry ok, q⟩
    | cont =>
      obtain ⟨σ', H', J', q⟩ := hsp
      exact ⟨σ', H', J'.ofTry ok, q⟩
    | ret u =>
      obtain ⟨v, σ', H', J', r, q⟩ := hsp
      exact ⟨v, σ', H', J'.ofTry ok, r, q⟩
end
end Q
/-! QO25 -/
namespace Q
open PySem PySem.Spec PyProof.Rows L2
/-! ### defs that may raise refusals of several classes -/
/-- the classes: where each stands, its field -/
abbrev XCl := Xn → Option (Addr × Option Str)
/-- what an exception's dict holds, as data -/
def RzX (K : PySem.W.Frag) (F : Hp) (pa : Option Addr) (H : Hp) (fl : Option Str) (d : D) (dd : Option Addr) : Prop := match fl with
  | none => dd = none ∧ d = .non
  | some f => ∃ a fs v, dd = some a ∧ H a = some (.xd fs) ∧ fs.lookup f = some v ∧ RelD K F pa d v
def liftE (K : PySem.W.Frag) (cl : XCl) (sp : PSpE) : Sp := fun vs H Q E => ∃ F pa t ds P Px, Cf K (B0 F pa t H) F pa t [] [] H ∧ RelL K F pa ds vs ∧ sp ds t P Px ∧
  (∀ v d F' pa' t' H', Cf K (B0 F pa t H) F' pa' t' [] [] H' → RelD K F' pa' d v → P d t' → Q v H') ∧
  ∀ c C fl d dd F' pa' t' H', cl c = some (C, fl) → Cf K (B0 F pa t H) F' pa' t' [] [] H' → RzX K F' pa' H' fl d dd → Px c d t' → E (.ref C) dd H'
def teE (K : PySem.W.Frag) (B : Bs) (cl : XCl) (dx : DXE) (E : L2.St → XK) : TE := fun σ H Q => ∃ F pa t env P Px, Cf K B F pa t env σ H ∧ dx env t P Px ∧
  (∀ v d F' pa' t' H', Gr F pa F' pa' → Cf K B F' pa' t' env σ H' → RelD K F' pa' d v → P d t' → Q v H') ∧
  ∀ c C fl d dd F' pa' t' H', cl c = some (C, fl) → Gr F pa F' pa' → Cf K B F' pa' t' env σ H' → RzX K F' pa' H' fl d dd → Px c d t' → E σ (.ref C) dd H'
section
variable {X : Cx} {B : Bs} {cl : XCl} {sp : PSpE} {as bs : DA} {E : L2.St → XK} {e o : Expr} {es : List Expr} {dx : DXE} {da de : DE}
theorem z_call (h : PE X e (tCallS (liftE X.K cl sp) E (taOf X.K B as))) : PE X e (teE X.K B cl (zCall sp as) E) :=
  PE.imp h fun σ H Q ⟨F, pa, t, env, P, Px, Cc, h, k, kx⟩ => ⟨F, pa, t, env, _, Cc, h, fun vs ds F1 pa1 t1 H1 g1 C1 r1 q1 => ⟨F1, pa1, t1, ds, P, Px, C1.call, r1, q1, fun v d F' pa' t' H' C' r' q' => by
    obtain ⟨g, W2⟩ := C1.after C'
    exact k v d F' pa' t' H' (g1.trans g) W2 r' q', fun c C fl d dd F' pa' t' H' ec C' r' q' => by
    obtain ⟨g, W2⟩ := C1.after C'
    exact kx c C fl d dd F' pa' t' H' ec (g1.trans g) W2 r' q'⟩⟩
theorem ev_zmeth {K : PySem.W.Frag} {Cl : Addr} {m : Str} : ∀ σ H Q, teE K B cl (zMeth Cl m sp da as) E σ H Q → tMethS Cl m (liftE K cl sp) E (teOf K B da) (taOf K B as) σ H Q := fun σ H Q ⟨F, pa, t, env, P, Px, W, h, k, kx⟩ =>
  ⟨F, pa, t, env, _, W, h, fun v x F1 pa1 t1 H1 g1 W1 r1 q1 => by
    cases x with
    | adr A =>
      obtain ⟨ns, l, hA, hn, q1⟩ := q1
      obtain rfl := rel_adr r1
      obtain ⟨dx, us, e1, _, _⟩ := W1.obIns hA
      refine ⟨A, dx, _, rfl, e1, zip_none hn, F1, pa1, t1, env, _, W1, q1, fun vs xs F2 pa2 t2 H2 g2 W2 r2 q2 => ?_⟩
      refine ⟨F2, pa2, t2, .adr A :: xs, P, Px, W2.call, RelL.cons (rD_adr A) r2, q2, fun v d F' pa' t' H' W' r' q' => ?_, fun c C fl d dd F' pa' t' H' ec W' r' q' => ?_⟩
      · obtain ⟨g, W4⟩ := W2.after W'
        exact k v d F' pa' t' H' ((g1.trans g2).trans g) W4 r' q'
      · obtain ⟨g, W4⟩ := W2.after W'
        exact kx c C fl d dd F' pa' t' H' ec ((g1.trans g2).trans g) W4 r' q'
    | _ => exact q1.elim⟩
theorem z_meth {CX : CXT} {k : Nat} {fa Cl : Addr} {fd : FuncData} {ps : List Str} {m : Str} {apos pos : Pos} {pl : Sem Bool} (he : QE X B o da) (c : Cls X.K Cl) (hm : Meth X.K Cl m fa) (F : FnOk X.prog X.w X.K X.mg X.base CX k fa fd ps (liftE X.K cl sp)) (hr : Room k X.A) (hb : Binds X.K fd ps []) (hx : ∀ σ, PassesAt CX X σ (E σ))
    (ha : QA X B (e :: es) as) (hst : starEach (e :: es) X.env = (false, eval e X.env) :: starEach es X.env := by rfl) (hpl : (backTo pos (starEach es X.env)).any (·.1) = false := by rfl)
    (ht : eval (.Call (.Attribute o m apos) (e :: es) [] pos) X.env = (do
      let ov ← eval o X.env
      standAt apos.atName
      let (f, first) ← holding [ov] (getMethod ov m pl)
      callWith pos f first (backTo pos (starEach (e :: es) X.env)) (backToKw pos (keywordEach [] X.env))) := by rfl) :
    PE X (.Call (.Attribute o m apos) (e :: es) [] pos) (teE X.K B cl (zMeth Cl m sp da as) E) := PE.imp (pe_methS he c hm F hr hb hx ha hst hpl ht) ev_zmeth
/-- in a def that may raise -/
theorem q_XE {W : WX} {Px : PX} (hE : ∀ c C fl F pa t env σ H d dd, cl c = some (C, fl) → Cf X.K B F pa t env σ H → RzX X.K F pa H fl d dd → Px c d t → W (.ref C) dd σ H) (h : PE X e (teE X.K B cl dx (WE W))) : QE X B e (dXE dx Px) :=
  PE.imp h fun σ H Q ⟨F, pa, t, env, P, Cc, h, k⟩ => ⟨F, pa, t, env, P, Px, Cc, h, k, fun c C fl d dd F' pa' t' H' ec g C' r q' => hE _ _ _ _ _ _ _ _ _ _ _ ec C' r q'⟩
theorem q_raiseE {W : WX} {Px : PX} {c : Xn} {C : Addr} {f : Str} {pos : Pos} {as : DA} (hc : X.calm = true) (tk : Takes X W) (hE : ∀ c C fl F pa t env σ H d dd, cl c = some (C, fl) → Cf X.K B F pa t env σ H → RzX X.K F pa H fl d dd → Px c d t → W (.ref C) dd σ H) (ec : cl c = some (C, some f))
    (mk : PMk X e (fun σ H Q => taOf X.K B as σ H fun vs H1 => ∃ y, vs = [y] ∧ ∀ d, H1 d = none → Q (.ref C) (some d) (upd H1 d (.xd [(f, y)])))) : QS X B (.Raise (some e) none pos) (dRaiseE c Px as) :=
  q_raiseF (C := C) (f := f) (Px := Px c) hc tk (fun F pa t env σ H v d dd fs C' r e1 e2 q => hE c C (some f) F pa t env σ H d (some dd) ec C' ⟨dd, fs, v, rfl, e1, e2, r⟩ q) mk
end
section
variable {P : Program} {w : World} {K : PySem.W.Frag} {mg : Str → Option Value} {base : Heap}
theorem fn_okE {x qual : Str} {st : Stmt} {f : Addr} {cl : XCl} {fd : FuncData} {N ps : List Str} {k : Nat} {sp : PSpE} {ds : PX → DS} (Fu : Fun K x qual st f fd) (S : FnScope N ps (defScope st)) (len : ∀ as t Q Px, sp as t Q Px → as.length = ps.length)
    (hbody : ∀ (cdv : Value) (A : Around) (outer : List PySem.Env) (s : Shared) (H : Hp) (E : XK) (B : Bs) (Px : PX), Room k (A.deeper (envOfC qual (defScope st) s.heap.objs.size f cdv)) → B.Top → B.m = false →
      (∀ c C fl F pa t env σ H' d dd, cl c = some (C, fl) → Cf K B F pa t env σ H' → RzX K F pa H' fl d dd → Px c d t → E (.ref C) dd H') →
      QSs (cxOf (L2.CX P w) P w K mg base N qual (defScope st) f cdv A outer s H E) B (defBody st) (ds Px))
    (hds : ∀ as t Q Px, sp as t Q Px → ds Px (endsOf Q) (start0 N as) t) : FnOk P w K mg base (L2.CX P w) (k + 1) f fd ps (liftE K cl sp) := by
  refine Fu.okX S (fun vs H Q E h => ?_) (fun cdv A outer s H vs Q E hr h => ?_)
  · obtain ⟨F, pa, t, as, R, Px, Cc, r, q, _⟩ := h
    rw [r.len]; exact len as t R Px q
  · obtain ⟨F, pa, t, as, R, Px, Cc, r, q, fin, finx⟩ := h
    refine ⟨_, hbody cdv A outer s H E (B0 F pa t H) Px hr (B0.top F pa t H) rfl (fun c C fl F' pa' t' env σ H' d dd ec C' rv px => finx c C fl d dd F' pa' t' H' ec C'.nil rv px), F, pa, t, start0 N as, endsOf R, cf_start Cc r, hds as t R Px q, ⟨?_, ?_, ?_, ?_⟩⟩
    · intro F' pa' t' env σ H' g C' q'
      exact fin .non .non F' pa' t' H' C'.nil rD_non q'
    · intro v d F' pa' t' env σ H' g C' r' q'
      exact fin v d F' pa' t' H' C'.nil r' q'
    · intro F' pa' t' env σ H' g C' q'
      exact q'.elim
    · intro F' pa' t' env σ H' g C' q'
      exact q'.elim
/-- asked where it never raises -/
theorem fn_plainE {f : Addr} {cl : XCl} {fd : FuncData} {ps : List Str} {k : Nat} {sp : PSpE} (F : FnOk P w K mg base (L2.CX P w) k f fd ps (liftE K cl sp)) : FnOk P w K mg base CX0 k f fd ps (lift K (spNoE sp)) := by
  refine ⟨fun vs H Q E h => ?_, fun A outer s H args us vs Q E hr e0 hb r h => ?_⟩
  · obtain ⟨F1, pa, t, ds, P1, Cc, r, q, fin⟩ := h
    exact F.len vs H Q (fun _ _ _ => False) ⟨F1, pa, t, ds, P1, _, Cc, r, q, fin, fun _ _ _ _ _ _ _ _ _ _ _ _ z => z⟩
  · obtain ⟨F1, pa, t, ds, P1, Cc, rl, q, fin⟩ := h
    refine codeAny_mono (F.run A outer s H args us vs Q (fun _ _ _ => False) hr e0 hb r ⟨F1, pa, t, ds, P1, _, Cc, rl, q, fin, fun _ _ _ _ _ _ _ _ _ _ _ _ z => z⟩) fun res s' hq => ?_
    cases res with
    | ok fl =>
      cases fl with
      | ret u => exact hq
      | next => exact False.elim hq
      | brk => exact False.elim hq
      | cont => exact False.elim hq
    | error e =>
      obtain ⟨_, _, _, _, _, _, _, _, _, _, _, _, _, _, _, _, z⟩ := (show L2.CX P w outer H s (fun _ _ _ => False) e s' from hq)
      first | done | exact z.elim
end
end Q
/-! QO26 -/
namespace Q
open PySem PySem.Spec PyProof.Rows L2
/-! ### what a clause's suite makes of the exception's field -/
def tSx (j : Nat) (a dd : Addr) (f : Str) (o : Option Str) : TE := fun σ H Q => σ[j]? = some (some (.ref a)) ∧ ∃ fs v, H dd = some (.xd fs) ∧ fs.lookup f = some v ∧ match o with
  | none => Q v H
  | some m => ∀ p, H p = none → Q (.ref p) (upd H p (.tup [.str m, v]))
section
variable {X : Cx} {n f : Str} {j : Nat} {a dd C : Addr} {oe : Obj} {e1 e2 : Expr} {o : Option Str} {p p1 p2 p3 p4 p5 p6 p7 p8 p9 pos : Pos} {x1 kk : Nat}
theorem sx_fld (xf : XfC X.K C) (hno : PySem.W.findIn X.K (.ref C) f = some none) (hz : Zc (.ref C) (some dd) oe) (hf : ∃ vs, oe.data = .fields vs) (hm : (a, oe) ∈ X.pn) (vx : PE X (.Name n p) (tVar j))
    (hb : attributeBase (.Name n p) f X.env (eval (.Name n p) X.env) = eval (.Name n p) X.env := by rfl) : PE X (.Attribute (.Name n p) f pos) (tSx j a dd f none) :=
  PE.imp (pe_xfT (pos := pos) xf hno hz hf hm vx hb) fun σ H Q ⟨h1, fs, v, h2, h3, h4⟩ => ⟨.ref a, h1, rfl, rfl, dd, fs, v, rfl, h2, h3, h4⟩
end
/-! ### the clauses, read -/
def HdQ (X : Cx) (B : Bs) (cl : XCl) (hds : List ExceptHandler) (hs : DHs) (Wout : WX) : Prop := ∃ l, HdsA X hds l ∧ ∀ (De : L2.Ends) (DD : DEnds) F0 pa0, Rz X.K B F0 pa0 DD De → ∀ c C fl F pa t env σ H d dd, cl c = some (C, fl) → Gr F0 pa0 F pa → Cf X.K B F pa t env σ H → σ.length = X.N.length → RzX X.K F pa H fl d dd → hs c d DD env t → wManyA X.K Wout De l (.ref C) dd σ H
section
variable {X : Cx} {B : Bs} {cl : XCl} {x n : Str} {C0 : Addr} {c0 : Xn} {i j : Nat} {f : Str} {o : Option Str} {st : Stmt} {sts : List Stmt} {np pos' : Pos} {hds : List ExceptHandler} {hs : DHs} {Wout : WX}
theorem hq_nil {Px : PX} (hE : ∀ c C fl F pa t env σ H d dd, cl c = some (C, fl) → Cf X.K B F pa t env σ H → RzX X.K F pa H fl d dd → Px c d t → Wout (.ref C) dd σ H) : HdQ X B cl [] (hNone Px) Wout :=
  ⟨[], .nil, fun De DD F0 pa0 R c C fl F pa t env σ H d dd ec g C' hl r q => hE c C fl F pa t env σ H d dd ec C' r q⟩
theorem hq_none : HdQ X B cl [] (hNone fun _ _ _ => False) (fun _ _ _ _ => False) := hq_nil fun _ _ _ _ _ _ _ _ _ _ _ _ _ _ q => q
theorem hq_set (hc : Names X x (.ref C0)) (ec : cl c0 = some (C0, some f)) (te : ∀ c C fl, cl c = some (C, fl) → PySem.W.exmOne X.K (.ref C) (.ref C0) = some (Xn.is c c0)) (hj : X.N[j]? = some n) (hln : X.env.kindOf n = some .local) (hij : i ≠ j) (hi : i < X.N.length)
    (hset : ∀ (a dd : Addr) (oe : Obj) (pn : List (Addr × Obj)), Zc (.ref C0) (some dd) oe → (∃ vs, oe.data = .fields vs) → PS (X.suite a ((a, oe) :: pn)) st (tAsg (tSx j a dd f o) (L2.gName i)))
    (r : HdQ X B cl hds hs Wout) : HdQ X B cl (.ExceptHandler (some (.Name x np)) (some n) [st] pos' :: hds) (hOn c0 (hSet i j o) hs) Wout := by
  obtain ⟨l, hA, hw⟩ := r
  refine ⟨(.ref C0, some j, fun a cls d D σ H => ∃ dd, cls = .ref C0 ∧ d = some dd ∧ tAsg (tSx j a dd f o) (L2.gName i) D σ H) :: l, .as hj hln hc (fun a oe cls d pn hz hfl => pss_one ⟨fun pins s σ H D I ⟨dd, e1, e2, h⟩ => by subst e1 e2; exact (hset a dd oe pn hz hfl).run pins s σ H D I h⟩) hA, ?_⟩
  intro De DD F0 pa0 R c C fl F pa t env σ H d dd ec1 g C' hl rz q
  have jl : j < X.N.length := (List.getElem?_eq_some_iff.mp hj).1
  have jl2 : j < σ.length := by omega
  refine ⟨_, te c C fl ec1, fun hb a ha => ?_, fun hb => ?_⟩
  · obtain rfl := Xn.is_eq hb
    rw [ec] at ec1
    cases ec1
    have q : hSet i j o d DD env t := by
      have e : hOn c (hSet i j o) hs c d DD env t = hSet i j o d DD env t := by unfold hOn; rw [hb]
      rw [← e]; exact q
    obtain ⟨b, fs, v, rfl, e1, e2, rv⟩ := rz
    have fin : ∀ F' pa' σ' H' v', Gr F0 pa0 F' pa' → Cf X.K B F' pa' t env σ H' → RelD X.K F' pa' (sxD o d) v' → σ' = (σ.set j (some (.ref a))).set i (some v') → De.nx (σ'.set j none) H' := by
      intro F' pa' σ' H' v' g' C2 r2 es
      subst es
      refine R.nx F' pa' t _ _ H' g' ((C2.setV i r2).slots (by simp only [List.length_set]; exact C2.len) fun k sl hk hne => ?_) q
      have kj : k ≠ j := fun e => by
        subst e
        rw [List.getElem?_set_self (by rw [List.length_set]; have := C2.len; omega)] at hk
        cases hk
        exact hne rfl
      rw [List.getElem?_set_ne (Ne.symm kj)] at hk
      refine ⟨hk, ?_⟩
      rw [List.getElem?_set_ne (Ne.symm kj)]
      by_cases ki : k = i
      · subst ki
        rw [List.getElem?_set_self (by rw [List.length_set]; omega), List.getElem?_set_self (by omega)]
      · rw [List.getElem?_set_ne (Ne.symm ki), List.getElem?_set_ne (Ne.symm kj), List.getElem?_set_ne (Ne.symm ki)]
    refine ⟨b, rfl, rfl, by rw [List.getElem?_set_self jl2], fs, v, e1, e2, ?_⟩
    cases o with
    | none => exact fin F pa _ H v g C' rv rfl
    | some m =>
      intro p hp
      obtain ⟨F2, g2, C2, r2⟩ := new_tup C' hp (l := [.str m, d]) (vs := [.str m, v]) (RelL.cons (rD_str _) (RelL.cons rv RelL.nil))
      exact fin F2 pa _ _ _ (g.trans g2) C2 r2 rfl
  · refine hw De DD F0 pa0 R c C fl F pa t env σ H d dd ec1 g C' hl rz ?_
    have e : hOn c0 (hSet i j o) hs c d DD env t = hs c d DD env t := by unfold hOn; rw [hb]
    rw [← e]; exact q
end
section
variable {X : Cx} {B : Bs} {cl : XCl} {dx : DXE} {hs : DHs} {Wout : WX} {h₀ : ExceptHandler} {hds : List ExceptHandler} {call : Expr} {pos rp np : Pos} {x : Str} {i : Nat}
theorem q_tryDrop (hst : X.stack = X.env :: X.outer) (hf : X.env.frame = some X.env.locals) (hN : X.N.Nodup) (tk : Takes X Wout) (hh : HdQ X B cl (h₀ :: hds) hs Wout)
    (hsw : ∀ (pn : List (Addr × Obj)) (xe : Value → Shared → Prop), swapsWith call none rp.line (X.tr pn xe).env = pure false)
    (hcall : ∀ (W : WX) (pn : List (Addr × Obj)) (xe : Value → Shared → Prop), Takes (X.tr pn xe) W → PE (X.tr pn xe) call (teE X.K B cl dx (WE W))) :
    QS X B (.Try [.Expr call rp] (h₀ :: hds) [] [] pos) (dTryE dx kDrop hs) := by
  obtain ⟨l, hA, hw⟩ := hh
  have hp := ps_try_manyA (pos := pos) (tb := fun W => tDrop (teE X.K B cl dx (WE W))) hst hf hN tk (fun W pn xe tk _ => pss_one (ps_expr (hcall W pn xe tk) (hsw pn xe))) hA
  refine ⟨fun pins s σ H D I h0 => hp.run pins s σ H D I ?_⟩
  obtain ⟨F, pa, t, env, DD, Cc, h, R⟩ := h0
  exact ⟨F, pa, t, env, _, _, Cc, h, fun v d F' pa' t' H' g C' r q => R.nx F' pa' t' env σ H' g C' q, fun c C fl d dd F' pa' t' H' ec g C' r q => hw D DD F pa R c C fl F' pa' t' env σ H' d dd ec g C' I.len r q⟩
end
end Q
/-! QO27 -/
namespace Q
open PySem PySem.Spec PyProof.Rows L2
end Q
/-! QO28 -/
namespace Q
open PySem L2 PySem.Spec PyProof.Rows LamX
/-! ### x(lambda: e), x catching refusals of several classes -/
end Q
/-! QO29 -/
namespace Q
open PySem L2 PySem.Spec PyProof.Rows LamX
end Q
/-! QO30 -/
namespace Q
open PySem L2 PySem.Spec PyProof.Rows
end Q
/-! QO31 -/
namespace Q
open PySem L2 PySem.Spec PyProof.Rows PySem.W
section
variable {X : Cx} {B : Bs} {K : PySem.W.Frag} {a b c e : Expr} {es : List Expr} {pos : Pos} {da db dc : DE} {dt : DT}
/-- a, *b = a list -/
def gStarH (K : PySem.W.Frag) (t : TGs) : TG := fun v σ H Q => ∃ a x xs, v = .ref a ∧ SqL K H a (x :: xs) ∧ xs.length ≤ 10000 ∧ ∀ p, H p = none → t [x, .ref p] σ (upd H p (.lst xs)) Q
theorem pg_star {e1 e2 : Expr} {k : Nat} {t : TGs} {sp : Pos} (hc : X.calm = true) (h : PGs X [e1, e2] t) (h1 : (assignEach [e1] X.env).map (·.1) = [false] := by rfl) (hn : (assignEach [e1, e2] X.env) = assignEach [e1] X.env ++ [(false, assign e2 X.env)] := by rfl)
    (hst : assignEach [e1, .Starred e2 sp] X.env = assignEach [e1] X.env ++ [(true, assign e2 X.env)] := by rfl) : PG X (.Tuple [e1, .Starred e2 sp] k pos) (gStarH X.K t) := by
  refine ⟨fun pins s σ H v u Q I r hw => ?_⟩
  obtain ⟨a, x, xs, e1', hq, hl, hw⟩ := hw
  subst e1'
  cases r
  obtain ⟨its, rv, pl, hz⟩ := I.list hq
  have hl' : s.heap.IsList a its.toArray := by
    obtain ⟨o, m, e, c, d, q⟩ := pl
    exact ⟨o, e, c, m, q⟩
  have hll : a < s.heap.objs.size := by obtain ⟨o, ho, _⟩ := hl'; exact Heap.lt_size ho
  have hlt : a ≠ s.heap.objs.size := Nat.ne_of_lt hll
  have hlen : its.length = xs.length + 1 := by
    have := rv.length
    simpa using this.symm
  obtain ⟨y, ys, rfl⟩ : ∃ y ys, its = y :: ys := by
    cases its with
    | nil => simp at hlen
    | cons y ys => exact ⟨y, ys, rfl⟩
  have hly : ys.length = xs.length := by simpa using hlen
  obtain ⟨ry, rys⟩ : RelV x y ∧ Vals xs ys := by
    cases rv with
    | cons r1 r2 => exact ⟨r1, r2⟩
  have hh := I.ok.hd hc
  rw [PyProof.Rows.assign_Tuple]
  refine wpAny_bind (wpAny_standAt ?_)
  unfold unpack
  have l1 : (assignEach [e1] X.env).length = 1 := by
    have := congrArg List.length h1
    simpa using this
  have hlen2 : (assignEach [e1, .Starred e2 sp] X.env).length = 2 := by rw [hst, List.length_append, l1]; rfl
  have hidx : (assignEach [e1, .Starred e2 sp] X.env).findIdx? (·.1) = some 1 := by
    rw [hst]
    generalize assignEach [e1] X.env = l at l1 h1 ⊢
    match l, l1, h1 with
    | [(false, f)], _, _ => rfl
    | [(true, f)], _, h1 => cases h1
  rw [hlen2, hidx]
  refine wpAny_bind (wpAny_holding ?_)
  unfold unpackItems
  refine wpAny_bind ?_
  unfold notIterableAtAll
  refine wpAny_bind (wpAny_specialOf hl'.typeIs slot_list_iter.lookup ?_)
  refine wpAny_pure ?_
  simp only [Bool.false_eq_true, if_false]
  refine wpAny_bind (wpAny_holding (wpAny_pyIter_list hl' ?_))
  refine wpAny_bind (wpAny_holding (kun_draw hlt 1 0 _ _ ⟨_, Heap.get?_push_size _ rfl, rfl, rfl⟩ (hl'.push _) (by simp) fun h₁ hit₁ hs₁ => ?_))
  have hl₁ : h₁.IsList a (y :: ys).toArray := (hl'.push _).extBut hs₁.extBut hlt
  rw [Nat.zero_add] at hit₁
  have hit₁' := hit₁
  obtain ⟨oi, hoi, _⟩ := hit₁'
  have hl₁' := hl₁
  obtain ⟨ol, hol, _⟩ := hl₁'
  rw [List.drop_zero]
  have ef : ((y :: ys).toArray.toList.take 1) = [y] := by simp
  rw [ef, if_neg (show ¬ ([y].length < 1) by simp)]
  refine wpAny_bind (wpAny_holding (kun_collect (s := { s with heap := h₁ }) (T := "list_iterator") (.inr (.inr (.inl rfl))) (Walks.list (A := X.A.in1) hh s.heap.objs.size a hlt (y :: ys).toArray) (fun j u st => st.1.typeIs) (k := 1) (by simp) ⟨hit₁, hl₁⟩ (Heap.lt_size hoi) (Heap.lt_size hol) (fun h₂ tk hk => ?_) (by rw [sizeLine_eq]; simp; omega)))
  have er : ((y :: ys).toArray.toList.drop 1) = ys := by simp
  rw [er]
  show wpAny _ _ (if ys.length < 2 - 1 - 1 then _ else _) _ _ _
  rw [if_neg (by omega)]
  show wpAny _ _ (newList (ys.take (ys.length - (2 - 1 - 1))) >>= fun d => pure ([y] ++ [d] ++ ys.drop (ys.length - (2 - 1 - 1)))) _ _ _
  have e0 : ys.length - (2 - 1 - 1) = ys.length := by omega
  rw [e0, List.take_length, List.drop_length]
  have he : ∀ b o, b ≠ s.heap.objs.size → s.heap.get? b = some o → h₂.get? b = some o := fun b o hb e => hk b o hb (hs₁.extBut b o hb (Heap.get?_push_of_some _ e))
  refine wpAny_bind (wpAny_newList ?_ (by rw [sizeLine_eq]; omega))
  refine wpAny_pure ?_
  have I1 : Inv X pins σ H { s with heap := h₂, toks := tk } := I.kept (t' := tk) fun b o e => he b o (Nat.ne_of_lt (Heap.lt_size e)) e
  have hf : H h₂.objs.size = none := I1.hok.fresh (Nat.le_refl _)
  have I2 : Inv X pins σ (upd H h₂.objs.size (.lst xs)) { s with heap := h₂.push (seqObj "list" ys.toArray 0), toks := tk } := I1.laid (t' := tk) (fun b u e => Heap.get?_push_of_some _ e) (Nat.le_refl _) ⟨by rw [sizeLine_eq]; omega, ys, 0, rys, Heap.get?_push_size _ rfl⟩
  have := h.run pins _ σ _ [x, .ref h₂.objs.size] [y, .ref h₂.objs.size] Q I2 (.cons ry (.cons rfl .nil)) (hw _ hf)
  have em : (assignEach [e1, .Starred e2 sp] X.env).map (·.2) = (assignEach [e1, e2] X.env).map (·.2) := by
    rw [hst, hn, List.map_append, List.map_append]
    rfl
  rw [em]
  exact this
/-- a, *b = a list -/
theorem q_gstar {e1 e2 : Expr} {k : Nat} {vs : List Nat} {gs : DGs} {sp : Pos} (hc : X.calm = true) (h : QGs X B vs [e1, e2] gs) (h1 : (assignEach [e1] X.env).map (·.1) = [false] := by rfl) (hn : (assignEach [e1, e2] X.env) = assignEach [e1] X.env ++ [(false, assign e2 X.env)] := by rfl)
    (hst : assignEach [e1, .Starred e2 sp] X.env = assignEach [e1] X.env ++ [(true, assign e2 X.env)] := by rfl) : QG X B vs (.Tuple [e1, .Starred e2 sp] k pos) (gStar gs) := PG.imp (pg_star hc h h1 hn hst) fun v σ H Q ⟨F, pa, t, env, d, P, C, r, hd, k⟩ => by
  match d, hd, r with
  | .lst (x :: xs), hd, r =>
    obtain ⟨hl, hd⟩ := hd
    unfold RelD at r
    obtain ⟨a, us, rfl, e, q⟩ := r
    unfold RelL at q
    obtain ⟨u, us', rfl, r1, r2⟩ := q
    refine ⟨a, u, us', rfl, SqL.of (C.sub _ _ e), by rw [r2.len]; exact hl, fun p hp => ?_⟩
    obtain ⟨F1, g1, C1, rp⟩ := new_lst C hp r2
    exact ⟨F1, pa, t, env, [x, .lst xs], P, C1, RelL.cons (RelD.mono g1 x u r1) (RelL.cons rp RelL.nil), hd, fun F' pa' t' env' σ' H' g C' w q => k F' pa' t' env' σ' H' (g1.trans g) C' w q⟩
end
end Q
/-! QO32 -/
namespace Q
open PySem PySem.Spec PyProof.Rows L2
/-- what a dict of the module tells at its keys -/
inductive Kvs (K : PySem.W.Frag) (d : Addr) : List (Str × D) → Prop
  | nil : Kvs K d []
  | bl {k : Str} {b : Bool} {r : List (Str × D)} : PySem.W.nsIn K d k = some (some (.bool b)) → Kvs K d r → Kvs K d ((k, .bl b) :: r)
  | int {k : Str} {i : Int} {t : Tok} {r : List (Str × D)} : PySem.W.nsIn K d k = some (some (.int i t)) → Kvs K d r → Kvs K d ((k, .int i) :: r)
theorem Kvs.at {K : PySem.W.Frag} {d : Addr} {s : Str} {v : D} : ∀ {l : List (Str × D)}, Kvs K d l → l.lookup s = some v → ∃ u v0, PySem.W.nsIn K d s = some (some u) ∧ RelV v0 u ∧ ∀ F pa, RelD K F pa v v0
  | [], _, h => by cases h
  | _, .bl (k := k) (b := b) (r := r) e h, hl => by
    rw [List.lookup_cons] at hl
    cases hk : (s == k) with
    | true =>
      rw [hk] at hl
      cases hl
      have : s = k := by simpa using hk
      subst this
      exact ⟨_, .bl b, e, rfl, fun F pa => rD_bl _⟩
    | false =>
      rw [hk] at hl
      exact h.at hl
  | _, .int (k := k) (i := i) (t := t) (r := r) e h, hl => by
    rw [List.lookup_cons] at hl
    cases hk : (s == k) with
    | true =>
      rw [hk] at hl
      cases hl
      have : s = k := by simpa using hk
      subst this
      exact ⟨_, .int i, e, ⟨t, rfl⟩, fun F pa => rD_int _⟩
    | false =>
      rw [hk] at hl
      exact h.at hl
section
variable {K : PySem.W.Frag} {X : Cx} {B : Bs} {a b e o : Expr} {da db de : DE} {pos apos p : Pos}
theorem ix_kd {d : Addr} {es : Array DictEntry} {n : Nat} (D : KDict X.K X.w d es n) : IxR X (fun x y H Q => ∃ (z : Str) (u0 : Value) (v0 : V), x = .ref d ∧ y = .str z ∧ PySem.W.nsIn X.K d z = some (some u0) ∧ RelV v0 u0 ∧ Q v0 H) := by
  intro value slice pins s σ H x y v u Q I rx ry h hs
  have h2 := op_item_kd D pins s σ H x y v u Q I rx ry h
  obtain ⟨z, u0, v0, rfl, rfl, e, r, q⟩ := h
  cases rx
  exact tail_any (kd_type D I) slot_dict_getitem.lookup h2 hs
theorem q_ixK {d : Addr} {ks : List Str} {kv : List (Str × D)} {x : Str} (D : DicK X.K X.w d ks) (hv : Kvs X.K d kv) (he : QV X B e de) (hg : Gl X x) (hm : X.mg x = some (.ref d)) (hs : PlainIx e := by intros; rfl) (hdb : (x == ("__debug__" : Str)) = false := by decide) :
    QE X B (.Subscript (.Name x p) e pos) (dIxK kv de) := by
  obtain ⟨es, n, D, hk⟩ := D
  refine PE.imp (pe_ix (ix_kd D) (pe_glob (v := .ref d) hg hm rfl hdb) he hs) fun σ H Q ⟨F, pa, t, env, P, C, h, k⟩ => ⟨F, pa, t, env, _, C, h, fun v y F1 pa1 t1 H1 g1 C1 r1 q1 => ?_⟩
  cases y with
  | str s =>
    have rv : v = .str s := r1.str C1
    cases hl : kv.lookup s with
    | none =>
      have q1 : (match kv.lookup s with | some v => P v t1 | none => False) := q1
      rw [hl] at q1
      exact q1.elim
    | some w =>
      have q1 : (match kv.lookup s with | some v => P v t1 | none => False) := q1
      rw [hl] at q1
      obtain ⟨u, v0, e1, r0, rd⟩ := hv.at hl
      exact ⟨s, u, v0, rfl, rv, e1, r0, k v0 w F1 pa1 t1 H1 g1 C1 (rd F1 pa1) q1⟩
  | _ => exact q1.elim
end
end Q
/-! T_k90 -/
namespace L_k90
open PySem L2 PyProof.Rows Q
def top (i : Nat) : Stmt := PySem.Challenge.pw_askback_k90_lores_written_and_read.main.body.getD i (.Pass ⟨0, 0, 0, 0⟩)
abbrev s__law_draw : Stmt := top 61
abbrev N__law_draw : List Str := ["_law_pen_here", "_law_many", "_law_at", "_law_cell", "_law_number", "_law_rounds", "_law_digit"]
abbrev s__law_beginning : Stmt := top 62
abbrev N__law_beginning : List Str := ["_law_pen_here", "_law_base", "_law_most", "_law_k"]
abbrev s_heap_of : Stmt := top 21
abbrev N_heap_of : List Str := ["number", "base", "found"]
abbrev s_House_ahead_of : Stmt := inClass (top 24) 9
abbrev N_House_ahead_of : List Str := ["self", "power", "exponent", "sign", "base", "number", "signs", "steps", "first"]
abbrev s_House_said : Stmt := inClass (top 24) 10
abbrev N_House_said : List Str := ["self", "place", "wanted", "low", "high", "base", "exponent", "power", "sign", "middle"]
abbrev s__law_sighted : Stmt := top 64
abbrev N__law_sighted : List Str := ["_law_pen_here", "_law_house", "_law_spot", "_law_here", "_law_off"]
abbrev s__law_words : Stmt := top 63
abbrev N__law_words : List Str := ["_law_pen_here", "_law_many", "_law_tail", "_law_begin", "_law_k", "_law_some", "_law_word", "_law_letters", "_law_found"]
abbrev s__law_entries_b : Stmt := top 65
abbrev N__law_entries_b : List Str := ["_law_pen_here", "_law_house", "_law_many", "_law_k", "_law_tellers", "_law_found", "_law_now", "_law_what"]
abbrev s_is_whole : Stmt := top 13
abbrev N_is_whole : List Str := ["thing"]
abbrev s_is_moment_a : Stmt := top 16
abbrev N_is_moment_a : List Str := ["thing"]
abbrev s_is_count : Stmt := top 14
abbrev N_is_count : List Str := ["thing"]
abbrev s_is_saying_a : Stmt := top 38
abbrev N_is_saying_a : List Str := ["thing"]
abbrev s_is_word_a : Stmt := top 17
abbrev N_is_word_a : List Str := ["thing", "sign"]
abbrev s_BadMoment___init__ : Stmt := inClass (top 3) 0
abbrev N_BadMoment___init__ : List Str := ["self", "moment"]
abbrev s_BadSaying___init__ : Stmt := inClass (top 4) 0
abbrev N_BadSaying___init__ : List Str := ["self", "place"]
abbrev s_BadTeller___init__ : Stmt := inClass (top 5) 0
abbrev N_BadTeller___init__ : List Str := ["self", "teller"]
abbrev s_SameMoment___init__ : Stmt := inClass (top 8) 0
abbrev N_SameMoment___init__ : List Str := ["self", "moment"]
abbrev s_Lore_put : Stmt := inClass (top 45) 3
abbrev N_Lore_put : List Str := ["self", "moment", "teller", "what"]
abbrev s_Lore_leaves : Stmt := inClass (top 45) 5
abbrev N_Lore_leaves : List Str := ["self", "moment", "teller"]
abbrev s_Lore_sees : Stmt := inClass (top 45) 4
abbrev N_Lore_sees : List Str := ["self", "moment", "teller", "saying"]
abbrev s_Lore_trusts : Stmt := inClass (top 45) 6
abbrev N_Lore_trusts : List Str := ["self", "moment", "teller"]
abbrev s__law_tell_2 : Stmt := top 67
abbrev N__law_tell_2 : List Str := ["_law_lore_here", "_law_entry", "_law_moment", "_law_teller", "_law_what"]
abbrev s_is_base : Stmt := top 15
abbrev N_is_base : List Str := ["thing"]
abbrev s_BadHouse___init__ : Stmt := inClass (top 2) 0
abbrev N_BadHouse___init__ : List Str := ["self", "part"]
abbrev s_Lore___init__ : Stmt := inClass (top 45) 0
abbrev N_Lore___init__ : List Str := ["self", "k"]
abbrev s__law_lore_2 : Stmt := top 68
abbrev N__law_lore_2 : List Str := ["_law_base", "_law_entries_here", "_law_found", "_law_entry"]
abbrev s__law_mixed : Stmt := top 66
abbrev N__law_mixed : List Str := ["_law_pen_here", "_law_things", "_law_k", "_law_left", "_law_found"]
abbrev s__law_pen : Stmt := top 60
abbrev N__law_pen : List Str := ["_law_script", "_law_most", "_law_cell"]
abbrev s__law_row_3 : Stmt := top 69
abbrev N__law_row_3 : List Str := ["_law_entry", "_law_head", "_law_moment", "_law_teller", "_law_what"]
abbrev s_figures_of : Stmt := top 50
abbrev N_figures_of : List Str := ["word", "sign"]
abbrev s_base_of : Stmt := top 56
abbrev N_base_of : List Str := ["row", "words", "base"]
abbrev s_saying_of_2 : Stmt := top 54
abbrev N_saying_of_2 : List Str := ["words", "saying", "place", "number"]
abbrev s_entry_of_2 : Stmt := top 55
abbrev N_entry_of_2 : List Str := ["words", "moment", "saying"]
abbrev s_tell : Stmt := top 57
abbrev N_tell : List Str := ["lore", "entry", "moment", "teller", "what"]
abbrev s_read_lore : Stmt := top 58
abbrev N_read_lore : List Str := ["text", "entries", "head", "found", "row", "entry", "rows"]
abbrev s__law_twice_right : Stmt := top 70
abbrev N__law_twice_right : List Str := ["_law_head", "_law_rows", "_law_wrong", "e"]
abbrev s_show_saying : Stmt := top 51
abbrev N_show_saying : List Str := ["saying", "bound", "place", "number"]
abbrev s_show_entry : Stmt := top 52
abbrev N_show_entry : List Str := ["entry", "moment", "teller", "what"]
abbrev s_Lore_base : Stmt := inClass (top 45) 2
abbrev N_Lore_base : List Str := ["self"]
abbrev s_Lore_entries : Stmt := inClass (top 45) 8
abbrev N_Lore_entries : List Str := ["self", "upto", "moment"]
abbrev s_show_lore : Stmt := top 53
abbrev N_show_lore : List Str := ["lore", "entry"]
abbrev s_NoEntry___init__ : Stmt := inClass (top 7) 0
abbrev N_NoEntry___init__ : List Str := ["self", "moment"]
abbrev s_Lore_drop : Stmt := inClass (top 45) 7
abbrev N_Lore_drop : List Str := ["self", "moment"]
abbrev s_is_listing : Stmt := top 18
abbrev N_is_listing : List Str := ["thing"]
abbrev s_is_beginning : Stmt := top 23
abbrev N_is_beginning : List Str := ["base", "thing", "many"]
abbrev s_House___init__ : Stmt := inClass (top 24) 0
abbrev N_House___init__ : List Str := ["self", "k", "beginning", "many"]
abbrev s_Lore___len__ : Stmt := inClass (top 45) 1
abbrev N_Lore___len__ : List Str := ["self"]
abbrev s_law : Stmt := top 71
abbrev N_law : List Str := ["_law_script", "_law_pen_here", "_law_turn", "_law_base", "_law_house", "_law_entries_here", "_law_rows", "_law_text", "_law_read", "_law_lore_here", "_law_head", "_law_entry"]
def xcl (a_BadHouse a_BadMoment a_BadSaying a_BadTeller a_NoEntry a_SameMoment : Addr) : XCl := fun c => match c with
  | .BadHouse => some (a_BadHouse, some "part")
  | .BadMoment => some (a_BadMoment, some "moment")
  | .BadSaying => some (a_BadSaying, some "place")
  | .BadTeller => some (a_BadTeller, some "teller")
  | .NoEntry => some (a_NoEntry, some "moment")
  | .SameMoment => some (a_SameMoment, some "moment")
  | _ => none
structure Tx (w : World) (K : PySem.W.Frag) (mg : Str → Option Value) (a__law_draw a__law_beginning a_heap_of a_House_ahead_of a_House_said a__law_sighted a__law_words a__law_entries_b a_is_whole a_is_moment_a a_is_count a_is_saying_a a_is_word_a a_BadMoment___init__ a_BadSaying___init__ a_BadTeller___init__ a_SameMoment___init__ a_Lore_put a_Lore_leaves a_Lore_sees a_Lore_trusts a__law_tell_2 a_is_base a_BadHouse___init__ a_Lore___init__ a__law_lore_2 a__law_mixed a__law_pen a__law_row_3 a_figures_of a_base_of a_saying_of_2 a_entry_of_2 a_tell a_read_lore a__law_twice_right a_show_saying a_show_entry a_Lore_base a_Lore_entries a_show_lore a_NoEntry___init__ a_Lore_drop a_is_listing a_is_beginning a_House___init__ a_Lore___len__ a_law a_House a_Lore a_BadHouse a_BadMoment a_BadSaying a_BadTeller a_NoEntry a_SameMoment a_TRUSTED : Addr) (tk_FIGURES tk_LEAST_BASE tk_LETTERS tk_MOST_BASE tk_MOST_FIGURES : Tok) : Prop where
  b_KeyError : mg "KeyError" = none
  b_LookupError : mg "LookupError" = none
  b_ValueError : mg "ValueError" = none
  b_abs : mg "abs" = none
  b_all : mg "all" = none
  b_bool : mg "bool" = none
  b_int : mg "int" = none
  b_isinstance : mg "isinstance" = none
  b_len : mg "len" = none
  b_list : mg "list" = none
  b_max : mg "max" = none
  b_min : mg "min" = none
  b_range : mg "range" = none
  b_sorted : mg "sorted" = none
  b_str : mg "str" = none
  b_tuple : mg "tuple" = none
  c_FIGURES : mg "FIGURES" = some (Value.str "0123456789" tk_FIGURES)
  c_LEAST_BASE : mg "LEAST_BASE" = some (Value.int 2 tk_LEAST_BASE)
  c_LETTERS : mg "LETTERS" = some (Value.str "abcdefghijklmnopqrstuvwxyz" tk_LETTERS)
  c_MOST_BASE : mg "MOST_BASE" = some (Value.int 30 tk_MOST_BASE)
  c_MOST_FIGURES : mg "MOST_FIGURES" = some (Value.int 200 tk_MOST_FIGURES)
  g_TRUSTED : mg "TRUSTED" = some (.ref a_TRUSTED)
  dk_TRUSTED : DicK K w a_TRUSTED ["left", "trusted"]
  dv_TRUSTED_0 : PySem.W.nsIn K a_TRUSTED "left" = some (some (.bool false))
  dv_TRUSTED_1 : PySem.W.nsIn K a_TRUSTED "trusted" = some (some (.bool true))
  g__law_draw : mg "_law_draw" = some (.ref a__law_draw)
  k__law_draw : PySem.W.keepIn K (.ref a__law_draw) = true
  g__law_beginning : mg "_law_beginning" = some (.ref a__law_beginning)
  k__law_beginning : PySem.W.keepIn K (.ref a__law_beginning) = true
  g_heap_of : mg "heap_of" = some (.ref a_heap_of)
  k_heap_of : PySem.W.keepIn K (.ref a_heap_of) = true
  g__law_sighted : mg "_law_sighted" = some (.ref a__law_sighted)
  k__law_sighted : PySem.W.keepIn K (.ref a__law_sighted) = true
  g__law_words : mg "_law_words" = some (.ref a__law_words)
  k__law_words : PySem.W.keepIn K (.ref a__law_words) = true
  g__law_entries_b : mg "_law_entries" = some (.ref a__law_entries_b)
  k__law_entries_b : PySem.W.keepIn K (.ref a__law_entries_b) = true
  g_is_whole : mg "is_whole" = some (.ref a_is_whole)
  k_is_whole : PySem.W.keepIn K (.ref a_is_whole) = true
  g_is_moment_a : mg "is_moment" = some (.ref a_is_moment_a)
  k_is_moment_a : PySem.W.keepIn K (.ref a_is_moment_a) = true
  g_is_count : mg "is_count" = some (.ref a_is_count)
  k_is_count : PySem.W.keepIn K (.ref a_is_count) = true
  g_is_saying_a : mg "is_saying" = some (.ref a_is_saying_a)
  k_is_saying_a : PySem.W.keepIn K (.ref a_is_saying_a) = true
  g_is_word_a : mg "is_word" = some (.ref a_is_word_a)
  k_is_word_a : PySem.W.keepIn K (.ref a_is_word_a) = true
  g__law_tell_2 : mg "_law_tell" = some (.ref a__law_tell_2)
  k__law_tell_2 : PySem.W.keepIn K (.ref a__law_tell_2) = true
  g_is_base : mg "is_base" = some (.ref a_is_base)
  k_is_base : PySem.W.keepIn K (.ref a_is_base) = true
  g__law_lore_2 : mg "_law_lore" = some (.ref a__law_lore_2)
  k__law_lore_2 : PySem.W.keepIn K (.ref a__law_lore_2) = true
  g__law_mixed : mg "_law_mixed" = some (.ref a__law_mixed)
  k__law_mixed : PySem.W.keepIn K (.ref a__law_mixed) = true
  g__law_pen : mg "_law_pen" = some (.ref a__law_pen)
  k__law_pen : PySem.W.keepIn K (.ref a__law_pen) = true
  g__law_row_3 : mg "_law_row" = some (.ref a__law_row_3)
  k__law_row_3 : PySem.W.keepIn K (.ref a__law_row_3) = true
  g_figures_of : mg "figures_of" = some (.ref a_figures_of)
  k_figures_of : PySem.W.keepIn K (.ref a_figures_of) = true
  g_base_of : mg "base_of" = some (.ref a_base_of)
  k_base_of : PySem.W.keepIn K (.ref a_base_of) = true
  g_saying_of_2 : mg "saying_of" = some (.ref a_saying_of_2)
  k_saying_of_2 : PySem.W.keepIn K (.ref a_saying_of_2) = true
  g_entry_of_2 : mg "entry_of" = some (.ref a_entry_of_2)
  k_entry_of_2 : PySem.W.keepIn K (.ref a_entry_of_2) = true
  g_tell : mg "tell" = some (.ref a_tell)
  k_tell : PySem.W.keepIn K (.ref a_tell) = true
  g_read_lore : mg "read_lore" = some (.ref a_read_lore)
  k_read_lore : PySem.W.keepIn K (.ref a_read_lore) = true
  g__law_twice_right : mg "_law_twice_right" = some (.ref a__law_twice_right)
  k__law_twice_right : PySem.W.keepIn K (.ref a__law_twice_right) = true
  g_show_saying : mg "show_saying" = some (.ref a_show_saying)
  k_show_saying : PySem.W.keepIn K (.ref a_show_saying) = true
  g_show_entry : mg "show_entry" = some (.ref a_show_entry)
  k_show_entry : PySem.W.keepIn K (.ref a_show_entry) = true
  g_show_lore : mg "show_lore" = some (.ref a_show_lore)
  k_show_lore : PySem.W.keepIn K (.ref a_show_lore) = true
  g_is_listing : mg "is_listing" = some (.ref a_is_listing)
  k_is_listing : PySem.W.keepIn K (.ref a_is_listing) = true
  g_is_beginning : mg "is_beginning" = some (.ref a_is_beginning)
  k_is_beginning : PySem.W.keepIn K (.ref a_is_beginning) = true
  g_law : mg "law" = some (.ref a_law)
  k_law : PySem.W.keepIn K (.ref a_law) = true
  g_House : mg "House" = some (.ref a_House)
  cl_House : Cls K a_House
  g_Lore : mg "Lore" = some (.ref a_Lore)
  cl_Lore : Cls K a_Lore
  n_House_kept_base : NoAttr K a_House "kept_base"
  n_House_kept_beginning : NoAttr K a_House "kept_beginning"
  n_House_sums : NoAttr K a_House "sums"
  n_Lore_kept : NoAttr K a_Lore "kept"
  n_Lore_kept_base : NoAttr K a_Lore "kept_base"
  m_House_ahead_of : Meth K a_House "ahead_of" a_House_ahead_of
  m_House_said : Meth K a_House "said" a_House_said
  m_Lore_put : Meth K a_Lore "put" a_Lore_put
  m_Lore_leaves : Meth K a_Lore "leaves" a_Lore_leaves
  m_Lore_sees : Meth K a_Lore "sees" a_Lore_sees
  m_Lore_trusts : Meth K a_Lore "trusts" a_Lore_trusts
  m_Lore_base : Meth K a_Lore "base" a_Lore_base
  m_Lore_entries : Meth K a_Lore "entries" a_Lore_entries
  m_Lore_drop : Meth K a_Lore "drop" a_Lore_drop
  m_Lore___len__ : Meth K a_Lore "__len__" a_Lore___len__
  mk_House : Mk K a_House a_House___init__
  mk_Lore : Mk K a_Lore a_Lore___init__
  g_BadHouse : mg "BadHouse" = some (.ref a_BadHouse)
  fx_BadHouse : FxC K a_BadHouse "ValueError.__new__" vaTail
  in_BadHouse : PySem.W.findIn K (.ref a_BadHouse) "__init__" = some (some (.ref a_BadHouse___init__))
  ty_BadHouse : PySem.W.typeIn K (.ref a_BadHouse___init__) = some (.type "function")
  no_BadHouse : PySem.W.findIn K (.ref a_BadHouse) "part" = some none
  te_BadHouse : PySem.W.exmOne K (.ref a_BadHouse) (.ref a_BadHouse) = some true
  kt_BadHouse : PySem.W.kitOne K (.ref a_BadHouse) (.type "ValueError") = some true
  ex_BadHouse : ExcC K a_BadHouse
  g_BadMoment : mg "BadMoment" = some (.ref a_BadMoment)
  fx_BadMoment : FxC K a_BadMoment "ValueError.__new__" vaTail
  in_BadMoment : PySem.W.findIn K (.ref a_BadMoment) "__init__" = some (some (.ref a_BadMoment___init__))
  ty_BadMoment : PySem.W.typeIn K (.ref a_BadMoment___init__) = some (.type "function")
  no_BadMoment : PySem.W.findIn K (.ref a_BadMoment) "moment" = some none
  te_BadMoment : PySem.W.exmOne K (.ref a_BadMoment) (.ref a_BadMoment) = some true
  kt_BadMoment : PySem.W.kitOne K (.ref a_BadMoment) (.type "ValueError") = some true
  ex_BadMoment : ExcC K a_BadMoment
  g_BadSaying : mg "BadSaying" = some (.ref a_BadSaying)
  fx_BadSaying : FxC K a_BadSaying "ValueError.__new__" vaTail
  in_BadSaying : PySem.W.findIn K (.ref a_BadSaying) "__init__" = some (some (.ref a_BadSaying___init__))
  ty_BadSaying : PySem.W.typeIn K (.ref a_BadSaying___init__) = some (.type "function")
  no_BadSaying : PySem.W.findIn K (.ref a_BadSaying) "place" = some none
  te_BadSaying : PySem.W.exmOne K (.ref a_BadSaying) (.ref a_BadSaying) = some true
  kt_BadSaying : PySem.W.kitOne K (.ref a_BadSaying) (.type "ValueError") = some true
  ex_BadSaying : ExcC K a_BadSaying
  g_BadTeller : mg "BadTeller" = some (.ref a_BadTeller)
  fx_BadTeller : FxC K a_BadTeller "ValueError.__new__" vaTail
  in_BadTeller : PySem.W.findIn K (.ref a_BadTeller) "__init__" = some (some (.ref a_BadTeller___init__))
  ty_BadTeller : PySem.W.typeIn K (.ref a_BadTeller___init__) = some (.type "function")
  no_BadTeller : PySem.W.findIn K (.ref a_BadTeller) "teller" = some none
  te_BadTeller : PySem.W.exmOne K (.ref a_BadTeller) (.ref a_BadTeller) = some true
  kt_BadTeller : PySem.W.kitOne K (.ref a_BadTeller) (.type "ValueError") = some true
  ex_BadTeller : ExcC K a_BadTeller
  g_NoEntry : mg "NoEntry" = some (.ref a_NoEntry)
  fx_NoEntry : FxC K a_NoEntry "LookupError.__new__" kyTail
  in_NoEntry : PySem.W.findIn K (.ref a_NoEntry) "__init__" = some (some (.ref a_NoEntry___init__))
  ty_NoEntry : PySem.W.typeIn K (.ref a_NoEntry___init__) = some (.type "function")
  no_NoEntry : PySem.W.findIn K (.ref a_NoEntry) "moment" = some none
  te_NoEntry : PySem.W.exmOne K (.ref a_NoEntry) (.ref a_NoEntry) = some true
  kt_NoEntry : PySem.W.kitOne K (.ref a_NoEntry) (.type "KeyError") = some true
  ex_NoEntry : ExcC K a_NoEntry
  g_SameMoment : mg "SameMoment" = some (.ref a_SameMoment)
  fx_SameMoment : FxC K a_SameMoment "LookupError.__new__" luTail
  in_SameMoment : PySem.W.findIn K (.ref a_SameMoment) "__init__" = some (some (.ref a_SameMoment___init__))
  ty_SameMoment : PySem.W.typeIn K (.ref a_SameMoment___init__) = some (.type "function")
  no_SameMoment : PySem.W.findIn K (.ref a_SameMoment) "moment" = some none
  te_SameMoment : PySem.W.exmOne K (.ref a_SameMoment) (.ref a_SameMoment) = some true
  kt_SameMoment : PySem.W.kitOne K (.ref a_SameMoment) (.type "LookupError") = some true
  ex_SameMoment : ExcC K a_SameMoment
  tx_SameMoment : ∀ c C fl, (xcl a_BadHouse a_BadMoment a_BadSaying a_BadTeller a_NoEntry a_SameMoment) c = some (C, fl) → PySem.W.exmOne K (.ref C) (.ref a_SameMoment) = some (Xn.is c .SameMoment)
  vF_KeyError : PySem.W.findCls K (.type "KeyError") (.type "type") "__init__" = some (.val (.builtin "KeyError.__init__"))
  vF_LookupError : PySem.W.findCls K (.type "LookupError") (.type "type") "__init__" = some (.val (.builtin "LookupError.__init__"))
  vF_ValueError : PySem.W.findCls K (.type "ValueError") (.type "type") "__init__" = some (.val (.builtin "ValueError.__init__"))
section
variable {P : Program} {w : World} {K : PySem.W.Frag} {mg : Str → Option Value} {base : Heap} {a__law_draw a__law_beginning a_heap_of a_House_ahead_of a_House_said a__law_sighted a__law_words a__law_entries_b a_is_whole a_is_moment_a a_is_count a_is_saying_a a_is_word_a a_BadMoment___init__ a_BadSaying___init__ a_BadTeller___init__ a_SameMoment___init__ a_Lore_put a_Lore_leaves a_Lore_sees a_Lore_trusts a__law_tell_2 a_is_base a_BadHouse___init__ a_Lore___init__ a__law_lore_2 a__law_mixed a__law_pen a__law_row_3 a_figures_of a_base_of a_saying_of_2 a_entry_of_2 a_tell a_read_lore a__law_twice_right a_show_saying a_show_entry a_Lore_base a_Lore_entries a_show_lore a_NoEntry___init__ a_Lore_drop a_is_listing a_is_beginning a_House___init__ a_Lore___len__ a_law a_House a_Lore a_BadHouse a_BadMoment a_BadSaying a_BadTeller a_NoEntry a_SameMoment a_TRUSTED : Addr} {tk_FIGURES tk_LEAST_BASE tk_LETTERS tk_MOST_BASE tk_MOST_FIGURES : Tok}
theorem sc__law_draw : FnScope N__law_draw ["_law_pen_here", "_law_many"] (defScope s__law_draw) := ⟨rfl, rfl, rfl, by decide +kernel, rfl, by decide +kernel, by decide +kernel⟩
theorem ok__law_draw {fd : FuncData} (F : Fun K "_law_draw" "_law_draw" s__law_draw a__law_draw fd) (T : Tx w K mg a__law_draw a__law_beginning a_heap_of a_House_ahead_of a_House_said a__law_sighted a__law_words a__law_entries_b a_is_whole a_is_moment_a a_is_count a_is_saying_a a_is_word_a a_BadMoment___init__ a_BadSaying___init__ a_BadTeller___init__ a_SameMoment___init__ a_Lore_put a_Lore_leaves a_Lore_sees a_Lore_trusts a__law_tell_2 a_is_base a_BadHouse___init__ a_Lore___init__ a__law_lore_2 a__law_mixed a__law_pen a__law_row_3 a_figures_of a_base_of a_saying_of_2 a_entry_of_2 a_tell a_read_lore a__law_twice_right a_show_saying a_show_entry a_Lore_base a_Lore_entries a_show_lore a_NoEntry___init__ a_Lore_drop a_is_listing a_is_beginning a_House___init__ a_Lore___len__ a_law a_House a_Lore a_BadHouse a_BadMoment a_BadSaying a_BadTeller a_NoEntry a_SameMoment a_TRUSTED tk_FIGURES tk_LEAST_BASE tk_LETTERS tk_MOST_BASE tk_MOST_FIGURES) : FnOk P w K mg base CX0 1 a__law_draw fd ["_law_pen_here", "_law_many"] (lift K (sp__law_draw)) := by
  refine fn_ok (ds := d__law_draw) F sc__law_draw (len__law_draw) (fun cdv A outer s H E B hr hB hm => ?_) (d__law_draw_ok)
  exact (q_cons (q_if (q_tcmp op_gt rop_gt (toV (q_penL (b := false) (hu_of hr) (toV (q_var (pv 0))) (by rfl) (fun _ _ => rfl))) (toV q_int) (nomark _)) (q_cons (q_set (i := 6) sc__law_draw.nd rfl (Or.inl rfl) (q_op op_mod rop_mod (toV (q_penL (b := false) (hu_of hr) (toV (q_var (pv 0))) (by rfl) (fun _ _ => rfl))) (toV (q_var (pv 1))))) (q_cons (q_putL (b := false) (i := 0) (hu_of hr) (pv 0) (q_op op_fdivW rop_div (toV (q_penL (b := false) (hu_of hr) (toV (q_var (pv 0))) (by rfl) (fun _ _ => rfl))) (toV (q_var (pv 1)))) (by rfl)) (q_cons (q_ret hm (q_var (pv 6))) q_nil))) q_nil) (q_cons (q_set (i := 2) sc__law_draw.nd rfl (Or.inl rfl) (q_penA (b := false) (hu_of hr) (toV (q_var (pv 0))) (by rfl) (fun _ _ => rfl))) (q_cons (q_putA (b := false) (i := 0) (hu_of hr) (pv 0) (q_op op_add4 rop_add (toV (q_var (pv 2))) (toV q_int)) (by rfl)) (q_cons (q_set (i := 3) sc__law_draw.nd rfl (Or.inl rfl) (q_op op_add4 rop_add (toV (q_op op_mul3 rop_mul (toV (q_var (pv 2))) (toV (q_var (pv 2))))) (toV q_int))) (q_cons (q_if (q_tcmp (op_neD hr.units) rop_ne (toV (q_penC (hu_of hr) (toV (q_var (pv 0))) (fun _ _ => rfl))) (toV (toE (q_lst q_anil))) (nomark _)) (q_cons (q_set (i := 3) sc__law_draw.nd rfl (Or.inl rfl) (q_ix (toV (q_penC (hu_of hr) (toV (q_var (pv 0))) (fun _ _ => rfl))) (toV (q_op op_mod rop_mod (toV (q_var (pv 2))) (toV (q_callB call_len3 rc_len (by rfl) T.b_len (by decide +kernel) (q_xcons (toV (q_penC (hu_of hr) (toV (q_var (pv 0))) (fun _ _ => rfl))) q_xnil))))) (fun _ _ => rfl))) q_nil) q_nil) (q_cons (q_if (L2.PW.pt (q_and (q_tcmp op_lt rop_lt (toV (q_var (pv 2))) (toV (q_callB call_len3 rc_len (by rfl) T.b_len (by decide +kernel) (q_xcons (toV (q_penC (hu_of hr) (toV (q_var (pv 0))) (fun _ _ => rfl))) q_xnil))) (nomark _)) (q_and1 (q_tcmp op_ge rop_ge (toV (q_var (pv 3))) (toV (q_op op_powW rop_pow (toV q_int) (toV q_int))) (nomark _))))) (q_cons (q_putL (b := false) (i := 0) (hu_of hr) (pv 0) (q_op op_fdivW rop_div (toV (q_var (pv 3))) (toV (q_var (pv 1)))) (by rfl)) (q_cons (q_ret hm (q_op op_mod rop_mod (toV (q_var (pv 3))) (toV (q_var (pv 1))))) q_nil)) q_nil) (q_cons (q_set (i := 4) sc__law_draw.nd rfl (Or.inl rfl) (q_op op_mod rop_mod (toV (q_op op_mul3 rop_mul (toV (q_op op_add4 rop_add (toV (q_op op_add4 rop_add (toV (q_op op_mod rop_mod (toV (q_var (pv 3))) (toV q_int))) (toV (q_op op_mul3 rop_mul (toV q_int) (toV (q_var (pv 2))))))) (toV q_int))) (toV q_int))) (toV q_int))) (q_cons (q_for PassesOwn.never rfl (q_irng1 (by rfl) T.b_range (toV q_int)) (q_gname (vs := [5]) (pg_name (i := 5) sc__law_draw.nd rfl (Or.inl rfl)) (by decide)) (q_cons (q_set (i := 4) sc__law_draw.nd rfl (Or.inl rfl) (q_op op_add4 rop_add (toV (q_op op_add4 rop_add (toV (q_op op_add4 rop_add (toV (q_op op_mul3 rop_mul (toV (q_var (pv 4))) (toV (q_var (pv 4))))) (toV (q_op op_mul3 rop_mul (toV q_int) (toV (q_var (pv 4))))))) (toV (q_var (pv 2))))) (toV (q_var (pv 5))))) (q_cons (q_set (i := 4) sc__law_draw.nd rfl (Or.inl rfl) (q_op op_mod rop_mod (toV (q_var (pv 4))) (toV q_int))) q_nil))) (q_cons (q_ret hm (q_op op_mod rop_mod (toV (q_op op_fdivW rop_div (toV (q_var (pv 4))) (toV q_int))) (toV (q_var (pv 1))))) q_nil)))))))))
theorem sc__law_beginning : FnScope N__law_beginning ["_law_pen_here", "_law_base", "_law_most"] (defScope s__law_beginning) := ⟨rfl, rfl, rfl, by decide +kernel, rfl, by decide +kernel, by decide +kernel⟩
theorem ok__law_beginning {fd fd__law_draw : FuncData} (F : Fun K "_law_beginning" "_law_beginning" s__law_beginning a__law_beginning fd) (T : Tx w K mg a__law_draw a__law_beginning a_heap_of a_House_ahead_of a_House_said a__law_sighted a__law_words a__law_entries_b a_is_whole a_is_moment_a a_is_count a_is_saying_a a_is_word_a a_BadMoment___init__ a_BadSaying___init__ a_BadTeller___init__ a_SameMoment___init__ a_Lore_put a_Lore_leaves a_Lore_sees a_Lore_trusts a__law_tell_2 a_is_base a_BadHouse___init__ a_Lore___init__ a__law_lore_2 a__law_mixed a__law_pen a__law_row_3 a_figures_of a_base_of a_saying_of_2 a_entry_of_2 a_tell a_read_lore a__law_twice_right a_show_saying a_show_entry a_Lore_base a_Lore_entries a_show_lore a_NoEntry___init__ a_Lore_drop a_is_listing a_is_beginning a_House___init__ a_Lore___len__ a_law a_House a_Lore a_BadHouse a_BadMoment a_BadSaying a_BadTeller a_NoEntry a_SameMoment a_TRUSTED tk_FIGURES tk_LEAST_BASE tk_LETTERS tk_MOST_BASE tk_MOST_FIGURES) (G__law_draw : FnOk P w K mg base CX0 1 a__law_draw fd__law_draw ["_law_pen_here", "_law_many"] (lift K (sp__law_draw))) (b__law_draw : Binds K fd__law_draw ["_law_pen_here", "_law_many"] []) : FnOk P w K mg base CX0 2 a__law_beginning fd ["_law_pen_here", "_law_base", "_law_most"] (lift K (sp__law_beginning)) := by
  refine fn_ok (ds := d__law_beginning) F sc__law_beginning (len__law_beginning) (fun cdv A outer s H E B hr hB hm => ?_) (d__law_beginning_ok)
  exact (q_cons (q_ret hm (toE (q_lc (own := [("_law_k", 3)]) rfl sc__law_beginning.nd (q_irng1 (by rfl) T.b_range (toV (q_op op_sub rop_sub (toV (q_var (pv 1))) (toV q_int)))) (blkOk_by (N := N__law_beginning) (sc := defScope s__law_beginning) (own := [("_law_k", 3)]) (by decide +kernel)) (fun _ _ _ _ _ B => (q_gname (vs := [3]) (pg_name (i := 3) sc__law_beginning.nd rfl (Or.inl rfl)) (by decide))) (fun _ _ _ _ _ => pts_U0) (fun _ _ _ _ _ B => (q_op op_add4 rop_add (toV q_int) (toV (q_ix (toV (toE (q_lst (q_acons q_int (q_acons (q_call G__law_draw (hr.mono (by decide)) rfl T.g__law_draw T.k__law_draw b__law_draw .nil (fun _ _ => RelL.nil) pass0 (q_acons (q_var (pv 0)) (q_acons q_int q_anil))) (q_acons (q_call G__law_draw (hr.mono (by decide)) rfl T.g__law_draw T.k__law_draw b__law_draw .nil (fun _ _ => RelL.nil) pass0 (q_acons (q_var (pv 0)) (q_acons (q_var (pv 2)) q_anil))) q_anil)))))) (toV (q_call G__law_draw (hr.mono (by decide)) rfl T.g__law_draw T.k__law_draw b__law_draw .nil (fun _ _ => RelL.nil) pass0 (q_acons (q_var (pv 0)) (q_acons q_int q_anil)))) (fun _ _ => rfl)))))))) q_nil)
theorem sc_heap_of : FnScope N_heap_of ["number", "base"] (defScope s_heap_of) := ⟨rfl, rfl, rfl, by decide +kernel, rfl, by decide +kernel, by decide +kernel⟩
theorem ok_heap_of {fd : FuncData} (F : Fun K "heap_of" "heap_of" s_heap_of a_heap_of fd) (T : Tx w K mg a__law_draw a__law_beginning a_heap_of a_House_ahead_of a_House_said a__law_sighted a__law_words a__law_entries_b a_is_whole a_is_moment_a a_is_count a_is_saying_a a_is_word_a a_BadMoment___init__ a_BadSaying___init__ a_BadTeller___init__ a_SameMoment___init__ a_Lore_put a_Lore_leaves a_Lore_sees a_Lore_trusts a__law_tell_2 a_is_base a_BadHouse___init__ a_Lore___init__ a__law_lore_2 a__law_mixed a__law_pen a__law_row_3 a_figures_of a_base_of a_saying_of_2 a_entry_of_2 a_tell a_read_lore a__law_twice_right a_show_saying a_show_entry a_Lore_base a_Lore_entries a_show_lore a_NoEntry___init__ a_Lore_drop a_is_listing a_is_beginning a_House___init__ a_Lore___len__ a_law a_House a_Lore a_BadHouse a_BadMoment a_BadSaying a_BadTeller a_NoEntry a_SameMoment a_TRUSTED tk_FIGURES tk_LEAST_BASE tk_LETTERS tk_MOST_BASE tk_MOST_FIGURES) : FnOk P w K mg base CX0 1 a_heap_of fd ["number", "base"] (lift K (sp_heap_of)) := by
  refine fn_ok (ds := d_heap_of) F sc_heap_of (len_heap_of) (fun cdv A outer s H E B hr hB hm => ?_) (d_heap_of_ok)
  exact (q_cons (q_set (i := 2) sc_heap_of.nd rfl (Or.inl rfl) q_int) (q_cons (q_while PassesOwn.never (q_tcmp op_gt rop_gt (toV (q_var (pv 0))) (toV q_int) (nomark _)) (q_cons (q_aug (i := 0) sc_heap_of.nd rfl (Or.inl rfl) (toV (q_var (pv 1))) iop_fdivW rop_div) (q_cons (q_aug (i := 2) sc_heap_of.nd rfl (Or.inl rfl) (toV (q_var (pv 0))) iop_add rop_addI) q_nil))) (q_cons (q_ret hm (q_var (pv 2))) q_nil)))
theorem sc_House_ahead_of : FnScope N_House_ahead_of ["self", "power", "exponent", "sign"] (defScope s_House_ahead_of) := ⟨rfl, rfl, rfl, by decide +kernel, rfl, by decide +kernel, by decide +kernel⟩
theorem ok_House_ahead_of {fd : FuncData} (F : Fun K "ahead_of" "House.ahead_of" s_House_ahead_of a_House_ahead_of fd) (T : Tx w K mg a__law_draw a__law_beginning a_heap_of a_House_ahead_of a_House_said a__law_sighted a__law_words a__law_entries_b a_is_whole a_is_moment_a a_is_count a_is_saying_a a_is_word_a a_BadMoment___init__ a_BadSaying___init__ a_BadTeller___init__ a_SameMoment___init__ a_Lore_put a_Lore_leaves a_Lore_sees a_Lore_trusts a__law_tell_2 a_is_base a_BadHouse___init__ a_Lore___init__ a__law_lore_2 a__law_mixed a__law_pen a__law_row_3 a_figures_of a_base_of a_saying_of_2 a_entry_of_2 a_tell a_read_lore a__law_twice_right a_show_saying a_show_entry a_Lore_base a_Lore_entries a_show_lore a_NoEntry___init__ a_Lore_drop a_is_listing a_is_beginning a_House___init__ a_Lore___len__ a_law a_House a_Lore a_BadHouse a_BadMoment a_BadSaying a_BadTeller a_NoEntry a_SameMoment a_TRUSTED tk_FIGURES tk_LEAST_BASE tk_LETTERS tk_MOST_BASE tk_MOST_FIGURES) : FnOk P w K mg base CX0 1 a_House_ahead_of fd ["self", "power", "exponent", "sign"] (lift K (sp_House_ahead_of (Cl.mk a_House a_Lore a_law a_law a_law))) := by
  refine fn_ok (ds := d_House_ahead_of (Cl.mk a_House a_Lore a_law a_law a_law)) F sc_House_ahead_of (len_House_ahead_of (Cl.mk a_House a_Lore a_law a_law a_law)) (fun cdv A outer s H E B hr hB hm => ?_) (d_House_ahead_of_ok (Cl.mk a_House a_Lore a_law a_law a_law))
  exact (q_cons (q_set (i := 4) sc_House_ahead_of.nd rfl (Or.inl rfl) (q_fld (toV (q_var (pv 0))) T.cl_House T.n_House_kept_base)) (q_cons (q_set (i := 5) sc_House_ahead_of.nd rfl (Or.inl rfl) (q_op op_sub rop_sub (toV (q_op op_mul3 rop_mul (toV (q_var (pv 3))) (toV (q_var (pv 1))))) (toV q_int))) (q_cons (q_if (q_tcmp (op_eqD hr.units) rop_eq (toV (q_var (pv 5))) (toV q_int) (nomark _)) (q_cons (q_ret hm q_int) q_nil) q_nil) (q_cons (q_if (q_tcmp (op_eqD hr.units) rop_eq (toV (q_var (pv 3))) (toV q_int) (nomark _)) (q_cons (q_par (i := 7) (j := 8) rfl sc_House_ahead_of.nd rfl rfl (by decide) rfl rfl (q_acons (q_op op_sub rop_sub (toV (q_var (pv 2))) (toV q_int)) (q_acons (q_op op_sub rop_sub (toV (q_var (pv 4))) (toV q_int)) q_anil)) (by rfl)) q_nil) (q_cons (q_par (i := 7) (j := 8) rfl sc_House_ahead_of.nd rfl rfl (by decide) rfl rfl (q_acons (q_var (pv 2)) (q_acons (q_op op_sub rop_sub (toV (q_var (pv 3))) (toV q_int)) q_anil)) (by rfl)) q_nil)) (q_cons (q_set (i := 6) sc_House_ahead_of.nd rfl (Or.inl rfl) (q_op op_add4 rop_add (toV (q_var (pv 8))) (toV (q_op op_mul3 rop_mul (toV (q_op op_sub rop_sub (toV (q_var (pv 4))) (toV q_int))) (toV (q_var (pv 7))))))) (q_cons (q_ret hm (q_op op_add4 rop_add (toV (q_op op_add4 rop_add (toV (q_op op_add4 rop_add (toV (q_var (pv 5))) (toV (q_op op_fdivW rop_div (toV (q_op op_sub rop_sub (toV (q_var (pv 5))) (toV (q_var (pv 6))))) (toV (q_op op_sub rop_sub (toV (q_var (pv 4))) (toV q_int))))))) (toV (q_op op_mul3 rop_mul (toV (q_var (pv 7))) (toV (q_ix (toV (q_fld (toV (q_var (pv 0))) T.cl_House T.n_House_sums)) (toV (q_un un_neg run_neg (toV q_int))) (fun _ _ => rfl))))))) (toV (q_ix (toV (q_fld (toV (q_var (pv 0))) T.cl_House T.n_House_sums)) (toV (q_op op_sub rop_sub (toV (q_var (pv 8))) (toV q_int))) (fun _ _ => rfl))))) q_nil))))))
theorem sc_House_said : FnScope N_House_said ["self", "place"] (defScope s_House_said) := ⟨rfl, rfl, rfl, by decide +kernel, rfl, by decide +kernel, by decide +kernel⟩
theorem ok_House_said {fd fd_heap_of fd_House_ahead_of : FuncData} (F : Fun K "said" "House.said" s_House_said a_House_said fd) (T : Tx w K mg a__law_draw a__law_beginning a_heap_of a_House_ahead_of a_House_said a__law_sighted a__law_words a__law_entries_b a_is_whole a_is_moment_a a_is_count a_is_saying_a a_is_word_a a_BadMoment___init__ a_BadSaying___init__ a_BadTeller___init__ a_SameMoment___init__ a_Lore_put a_Lore_leaves a_Lore_sees a_Lore_trusts a__law_tell_2 a_is_base a_BadHouse___init__ a_Lore___init__ a__law_lore_2 a__law_mixed a__law_pen a__law_row_3 a_figures_of a_base_of a_saying_of_2 a_entry_of_2 a_tell a_read_lore a__law_twice_right a_show_saying a_show_entry a_Lore_base a_Lore_entries a_show_lore a_NoEntry___init__ a_Lore_drop a_is_listing a_is_beginning a_House___init__ a_Lore___len__ a_law a_House a_Lore a_BadHouse a_BadMoment a_BadSaying a_BadTeller a_NoEntry a_SameMoment a_TRUSTED tk_FIGURES tk_LEAST_BASE tk_LETTERS tk_MOST_BASE tk_MOST_FIGURES) (G_heap_of : FnOk P w K mg base CX0 1 a_heap_of fd_heap_of ["number", "base"] (lift K (sp_heap_of))) (b_heap_of : Binds K fd_heap_of ["number", "base"] []) (G_House_ahead_of : FnOk P w K mg base CX0 1 a_House_ahead_of fd_House_ahead_of ["self", "power", "exponent", "sign"] (lift K (sp_House_ahead_of (Cl.mk a_House a_Lore a_law a_law a_law)))) (b_House_ahead_of : Binds K fd_House_ahead_of ["self", "power", "exponent", "sign"] []) : FnOk P w K mg base CX0 2 a_House_said fd ["self", "place"] (lift K (sp_House_said (Cl.mk a_House a_Lore a_law a_law a_law))) := by
  refine fn_ok (ds := d_House_said (Cl.mk a_House a_Lore a_law a_law a_law)) F sc_House_said (len_House_said (Cl.mk a_House a_Lore a_law a_law a_law)) (fun cdv A outer s H E B hr hB hm => ?_) (d_House_said_ok (Cl.mk a_House a_Lore a_law a_law a_law))
  exact (q_cons (q_asg (q_tup (q_acons (q_fld (toV (q_var (pv 0))) T.cl_House T.n_House_kept_base) (q_acons q_int (q_acons q_int (q_acons q_int q_anil))))) (q_gtup (n := 4) rfl (q_gcons (q_gname (vs := [5, 6, 7, 8]) (pg_name (i := 5) sc_House_said.nd rfl (Or.inl rfl)) (by decide)) (q_gcons (q_gname (vs := [5, 6, 7, 8]) (pg_name (i := 6) sc_House_said.nd rfl (Or.inl rfl)) (by decide)) (q_gcons (q_gname (vs := [5, 6, 7, 8]) (pg_name (i := 7) sc_House_said.nd rfl (Or.inl rfl)) (by decide)) (q_gcons (q_gname (vs := [5, 6, 7, 8]) (pg_name (i := 8) sc_House_said.nd rfl (Or.inl rfl)) (by decide)) q_gnil)))))) (q_cons (q_while PassesOwn.never (q_tcmp op_lt rop_lt (toV (q_meth (q_var (pv 0)) T.cl_House T.m_House_ahead_of G_House_ahead_of (hr.mono (by decide)) b_House_ahead_of .nil (fun _ _ => RelL.nil) pass0 (q_acons (q_op op_mul3 rop_mul (toV (q_var (pv 7))) (toV (q_var (pv 5)))) (q_acons (q_op op_add4 rop_add (toV (q_var (pv 6))) (toV q_int)) (q_acons q_int q_anil))))) (toV (q_var (pv 1))) (nomark _)) (q_cons (q_aug (i := 6) sc_House_said.nd rfl (Or.inl rfl) (toV q_int) iop_add rop_addI) (q_cons (q_aug (i := 7) sc_House_said.nd rfl (Or.inl rfl) (toV (q_var (pv 5))) iop_mul2 rop_mulI) q_nil))) (q_cons (q_while PassesOwn.never (L2.PW.pt (q_and (q_tcmp op_lt rop_lt (toV (q_var (pv 8))) (toV (q_op op_sub rop_sub (toV (q_var (pv 5))) (toV q_int))) (nomark _)) (q_and1 (q_tcmp op_lt rop_lt (toV (q_meth (q_var (pv 0)) T.cl_House T.m_House_ahead_of G_House_ahead_of (hr.mono (by decide)) b_House_ahead_of .nil (fun _ _ => RelL.nil) pass0 (q_acons (q_var (pv 7)) (q_acons (q_var (pv 6)) (q_acons (q_op op_add4 rop_add (toV (q_var (pv 8))) (toV q_int)) q_anil))))) (toV (q_var (pv 1))) (nomark _))))) (q_cons (q_aug (i := 8) sc_House_said.nd rfl (Or.inl rfl) (toV q_int) iop_add rop_addI) q_nil)) (q_cons (q_set (i := 2) sc_House_said.nd rfl (Or.inl rfl) (q_op op_sub rop_sub (toV (q_op op_sub rop_sub (toV (q_var (pv 1))) (toV (q_op op_mul3 rop_mul (toV (q_var (pv 6))) (toV (q_ix (toV (q_fld (toV (q_var (pv 0))) T.cl_House T.n_House_sums)) (toV (q_un un_neg run_neg (toV q_int))) (fun _ _ => rfl))))))) (toV (q_ix (toV (q_fld (toV (q_var (pv 0))) T.cl_House T.n_House_sums)) (toV (q_op op_sub rop_sub (toV (q_var (pv 8))) (toV q_int))) (fun _ _ => rfl))))) (q_cons (q_set (i := 3) sc_House_said.nd rfl (Or.inl rfl) (q_op op_sub rop_sub (toV (q_callB (call_max3 rfl) rc_max (by rfl) T.b_max (by decide +kernel) (q_xcons (toV (q_op op_mul3 rop_mul (toV (q_var (pv 8))) (toV (q_var (pv 7))))) (q_xcons (toV (q_op op_fdivW rop_div (toV (q_op op_mul3 rop_mul (toV (q_var (pv 2))) (toV (q_op op_sub rop_sub (toV (q_var (pv 5))) (toV q_int))))) (toV (q_var (pv 5))))) q_xnil)))) (toV q_int))) (q_cons (q_set (i := 4) sc_House_said.nd rfl (Or.inl rfl) (q_callB (call_min3 rfl) rc_min (by rfl) T.b_min (by decide +kernel) (q_xcons (toV (q_op op_sub rop_sub (toV (q_op op_mul3 rop_mul (toV (q_op op_add4 rop_add (toV (q_var (pv 8))) (toV q_int))) (toV (q_var (pv 7))))) (toV q_int))) (q_xcons (toV (q_op op_add4 rop_add (toV (q_op op_add4 rop_add (toV (q_var (pv 3))) (toV (q_var (pv 6))))) (toV q_int))) q_xnil)))) (q_cons (q_while PassesOwn.never (q_tcmp op_gt rop_gt (toV (q_op op_sub rop_sub (toV (q_var (pv 4))) (toV (q_var (pv 3))))) (toV q_int) (nomark _)) (q_cons (q_set (i := 9) sc_House_said.nd rfl (Or.inl rfl) (q_op op_fdivW rop_div (toV (q_op op_add4 rop_add (toV (q_var (pv 3))) (toV (q_var (pv 4))))) (toV q_int))) (q_cons (q_if (q_tcmp op_lt rop_lt (toV (q_op op_add4 rop_add (toV (q_var (pv 9))) (toV (q_call G_heap_of (hr.mono (by decide)) rfl T.g_heap_of T.k_heap_of b_heap_of .nil (fun _ _ => RelL.nil) pass0 (q_acons (q_var (pv 9)) (q_acons (q_var (pv 5)) q_anil)))))) (toV (q_var (pv 2))) (nomark _)) (q_cons (q_set (i := 3) sc_House_said.nd rfl (Or.inl rfl) (q_var (pv 9))) q_nil) (q_cons (q_set (i := 4) sc_House_said.nd rfl (Or.inl rfl) (q_var (pv 9))) q_nil)) q_nil))) (q_cons (q_ret hm (q_var (pv 4))) q_nil))))))))
theorem sc__law_sighted : FnScope N__law_sighted ["_law_pen_here", "_law_house"] (defScope s__law_sighted) := ⟨rfl, rfl, rfl, by decide +kernel, rfl, by decide +kernel, by decide +kernel⟩
theorem ok__law_sighted {fd fd__law_draw fd_House_said : FuncData} (F : Fun K "_law_sighted" "_law_sighted" s__law_sighted a__law_sighted fd) (T : Tx w K mg a__law_draw a__law_beginning a_heap_of a_House_ahead_of a_House_said a__law_sighted a__law_words a__law_entries_b a_is_whole a_is_moment_a a_is_count a_is_saying_a a_is_word_a a_BadMoment___init__ a_BadSaying___init__ a_BadTeller___init__ a_SameMoment___init__ a_Lore_put a_Lore_leaves a_Lore_sees a_Lore_trusts a__law_tell_2 a_is_base a_BadHouse___init__ a_Lore___init__ a__law_lore_2 a__law_mixed a__law_pen a__law_row_3 a_figures_of a_base_of a_saying_of_2 a_entry_of_2 a_tell a_read_lore a__law_twice_right a_show_saying a_show_entry a_Lore_base a_Lore_entries a_show_lore a_NoEntry___init__ a_Lore_drop a_is_listing a_is_beginning a_House___init__ a_Lore___len__ a_law a_House a_Lore a_BadHouse a_BadMoment a_BadSaying a_BadTeller a_NoEntry a_SameMoment a_TRUSTED tk_FIGURES tk_LEAST_BASE tk_LETTERS tk_MOST_BASE tk_MOST_FIGURES) (G__law_draw : FnOk P w K mg base CX0 1 a__law_draw fd__law_draw ["_law_pen_here", "_law_many"] (lift K (sp__law_draw))) (b__law_draw : Binds K fd__law_draw ["_law_pen_here", "_law_many"] []) (G_House_said : FnOk P w K mg base CX0 2 a_House_said fd_House_said ["self", "place"] (lift K (sp_House_said (Cl.mk a_House a_Lore a_law a_law a_law)))) (b_House_said : Binds K fd_House_said ["self", "place"] []) : FnOk P w K mg base CX0 3 a__law_sighted fd ["_law_pen_here", "_law_house"] (lift K (sp__law_sighted (Cl.mk a_House a_Lore a_law a_law a_law))) := by
  refine fn_ok (ds := d__law_sighted (Cl.mk a_House a_Lore a_law a_law a_law)) F sc__law_sighted (len__law_sighted (Cl.mk a_House a_Lore a_law a_law a_law)) (fun cdv A outer s H E B hr hB hm => ?_) (d__law_sighted_ok (Cl.mk a_House a_Lore a_law a_law a_law))
  exact (q_cons (q_set (i := 2) sc__law_sighted.nd rfl (Or.inl rfl) (q_op op_add4 rop_add (toV q_int) (toV (q_ix (toV (toE (q_lst (q_acons (q_call G__law_draw (hr.mono (by decide)) rfl T.g__law_draw T.k__law_draw b__law_draw .nil (fun _ _ => RelL.nil) pass0 (q_acons (q_var (pv 0)) (q_acons q_int q_anil))) (q_acons (q_call G__law_draw (hr.mono (by decide)) rfl T.g__law_draw T.k__law_draw b__law_draw .nil (fun _ _ => RelL.nil) pass0 (q_acons (q_var (pv 0)) (q_acons q_int q_anil))) (q_acons (q_call G__law_draw (hr.mono (by decide)) rfl T.g__law_draw T.k__law_draw b__law_draw .nil (fun _ _ => RelL.nil) pass0 (q_acons (q_var (pv 0)) (q_acons (q_op op_powW rop_pow (toV q_int) (toV q_int)) q_anil))) q_anil)))))) (toV (q_call G__law_draw (hr.mono (by decide)) rfl T.g__law_draw T.k__law_draw b__law_draw .nil (fun _ _ => RelL.nil) pass0 (q_acons (q_var (pv 0)) (q_acons q_int q_anil)))) (fun _ _ => rfl))))) (q_cons (q_par (i := 3) (j := 4) rfl sc__law_sighted.nd rfl rfl (by decide) rfl rfl (q_acons (q_meth (q_var (pv 1)) T.cl_House T.m_House_said G_House_said (hr.mono (by decide)) b_House_said .nil (fun _ _ => RelL.nil) pass0 (q_acons (q_var (pv 2)) q_anil)) (q_acons (q_call G__law_draw (hr.mono (by decide)) rfl T.g__law_draw T.k__law_draw b__law_draw .nil (fun _ _ => RelL.nil) pass0 (q_acons (q_var (pv 0)) (q_acons q_int q_anil))) q_anil)) (by rfl)) (q_cons (q_if (q_tcmp (op_eqD hr.units) rop_eq (toV (q_call G__law_draw (hr.mono (by decide)) rfl T.g__law_draw T.k__law_draw b__law_draw .nil (fun _ _ => RelL.nil) pass0 (q_acons (q_var (pv 0)) (q_acons q_int q_anil)))) (toV q_int) (nomark _)) (q_cons (q_ret hm (q_ix (toV (toE (q_lst (q_acons (q_tup (q_acons q_str (q_acons (q_var (pv 2)) (q_acons (q_callB (call_max3 rfl) rc_max (by rfl) T.b_max (by decide +kernel) (q_xcons (toV q_int) (q_xcons (toV (q_op op_sub rop_sub (toV (q_op op_sub rop_sub (toV (q_var (pv 3))) (toV q_int))) (toV (q_var (pv 4))))) q_xnil))) q_anil)))) (q_acons (q_tup (q_acons q_str (q_acons (q_var (pv 2)) (q_acons (q_op op_add4 rop_add (toV (q_op op_add4 rop_add (toV (q_var (pv 3))) (toV q_int))) (toV (q_var (pv 4)))) q_anil)))) q_anil))))) (toV (q_call G__law_draw (hr.mono (by decide)) rfl T.g__law_draw T.k__law_draw b__law_draw .nil (fun _ _ => RelL.nil) pass0 (q_acons (q_var (pv 0)) (q_acons q_int q_anil)))) (fun _ _ => rfl))) q_nil) q_nil) (q_cons (q_ret hm (q_ix (toV (toE (q_lst (q_acons (q_tup (q_acons q_str (q_acons (q_var (pv 2)) (q_acons (q_op op_add4 rop_add (toV (q_var (pv 3))) (toV (q_var (pv 4)))) q_anil)))) (q_acons (q_tup (q_acons q_str (q_acons (q_var (pv 2)) (q_acons (q_callB (call_max3 rfl) rc_max (by rfl) T.b_max (by decide +kernel) (q_xcons (toV q_int) (q_xcons (toV (q_op op_sub rop_sub (toV (q_var (pv 3))) (toV (q_var (pv 4))))) q_xnil))) q_anil)))) q_anil))))) (toV (q_call G__law_draw (hr.mono (by decide)) rfl T.g__law_draw T.k__law_draw b__law_draw .nil (fun _ _ => RelL.nil) pass0 (q_acons (q_var (pv 0)) (q_acons q_int q_anil)))) (fun _ _ => rfl))) q_nil))))
theorem sc__law_words : FnScope N__law_words ["_law_pen_here", "_law_many"] (defScope s__law_words) := ⟨rfl, rfl, rfl, by decide +kernel, rfl, by decide +kernel, by decide +kernel⟩
theorem ok__law_words {fd fd__law_draw : FuncData} (F : Fun K "_law_words" "_law_words" s__law_words a__law_words fd) (T : Tx w K mg a__law_draw a__law_beginning a_heap_of a_House_ahead_of a_House_said a__law_sighted a__law_words a__law_entries_b a_is_whole a_is_moment_a a_is_count a_is_saying_a a_is_word_a a_BadMoment___init__ a_BadSaying___init__ a_BadTeller___init__ a_SameMoment___init__ a_Lore_put a_Lore_leaves a_Lore_sees a_Lore_trusts a__law_tell_2 a_is_base a_BadHouse___init__ a_Lore___init__ a__law_lore_2 a__law_mixed a__law_pen a__law_row_3 a_figures_of a_base_of a_saying_of_2 a_entry_of_2 a_tell a_read_lore a__law_twice_right a_show_saying a_show_entry a_Lore_base a_Lore_entries a_show_lore a_NoEntry___init__ a_Lore_drop a_is_listing a_is_beginning a_House___init__ a_Lore___len__ a_law a_House a_Lore a_BadHouse a_BadMoment a_BadSaying a_BadTeller a_NoEntry a_SameMoment a_TRUSTED tk_FIGURES tk_LEAST_BASE tk_LETTERS tk_MOST_BASE tk_MOST_FIGURES) (G__law_draw : FnOk P w K mg base CX0 1 a__law_draw fd__law_draw ["_law_pen_here", "_law_many"] (lift K (sp__law_draw))) (b__law_draw : Binds K fd__law_draw ["_law_pen_here", "_law_many"] []) : FnOk P w K mg base CX0 2 a__law_words fd ["_law_pen_here", "_law_many"] (lift K (sp__law_words)) := by
  refine fn_ok (ds := d__law_words) F sc__law_words (len__law_words) (fun cdv A outer s H E B hr hB hm => ?_) (d__law_words_ok)
  exact (q_cons (q_asgM (l := [(7, false), (8, true)]) rfl (q_mconsV q_str (q_mconsN (q_lst q_anil) fun B => q_mnil)) (q_nmcons (pg_name (i := 7) sc__law_words.nd rfl (Or.inr rfl)) (q_nmcons (pg_name (i := 8) sc__law_words.nd rfl (Or.inl rfl)) q_nmnil))) (q_cons (q_set (i := 2) sc__law_words.nd rfl (Or.inl rfl) (q_join q_str (toE (q_lc (own := [("_law_k", 4)]) rfl sc__law_words.nd (q_irng1 (by rfl) T.b_range (toV (q_call G__law_draw (hr.mono (by decide)) rfl T.g__law_draw T.k__law_draw b__law_draw .nil (fun _ _ => RelL.nil) pass0 (q_acons (q_var (pv 0)) (q_acons q_int q_anil))))) (blkOk_by (N := N__law_words) (sc := defScope s__law_words) (own := [("_law_k", 4)]) (by decide +kernel)) (fun _ _ _ _ _ B => (q_gname (vs := [4]) (pg_name (i := 4) sc__law_words.nd rfl (Or.inl rfl)) (by decide))) (fun _ _ _ _ _ => pts_U0) (fun _ _ _ _ _ B => (q_ixS (toV (q_var (pv 7))) (toV (q_call G__law_draw (hr.mono (by decide)) rfl T.g__law_draw T.k__law_draw b__law_draw .nil (fun _ _ => RelL.nil) pass0 (q_acons (q_var (pv 0)) (q_acons q_int q_anil)))) (fun _ _ => rfl))))))) (q_cons (q_set (i := 3) sc__law_words.nd rfl (Or.inl rfl) (q_call G__law_draw (hr.mono (by decide)) rfl T.g__law_draw T.k__law_draw b__law_draw .nil (fun _ _ => RelL.nil) pass0 (q_acons (q_var (pv 0)) (q_acons q_int q_anil)))) (q_cons (q_for PassesOwn.never rfl (q_irng1 (by rfl) T.b_range (toV (q_var (pv 1)))) (q_gname (vs := [4]) (pg_name (i := 4) sc__law_words.nd rfl (Or.inl rfl)) (by decide)) (q_cons (q_app (i := 8) (pe_bm PySem.F.plainAttrs_list PySem.F.slot_list_append PySem.F.type_list_append mt_append (pv 8) (pa_cons (q_op op_add4 rop_add (toV (q_sliceS (toV (q_var (pv 2))) q_onone (q_osome (toV (q_op op_mod rop_mod (toV (q_var (pv 4))) (toV q_int)))))) (toV (q_ixS (toV (q_var (pv 7))) (toV (q_op op_mod rop_mod (toV (q_op op_add4 rop_add (toV (q_var (pv 3))) (toV (q_op op_mul3 rop_mul (toV q_int) (toV (q_var (pv 4))))))) (toV q_int))) (fun _ _ => rfl)))) pa_nil))) q_nil)) (q_frz (i := 8) hB (q_cons (q_set (i := 5) sc__law_words.nd rfl (Or.inl rfl) (toE (q_lst (q_acons q_str (q_acons q_str (q_acons q_str (q_acons q_str (q_acons q_str (q_acons q_str (q_acons q_str (q_acons q_str (q_acons q_str (q_acons q_str (q_acons q_str (q_acons q_str q_anil))))))))))))))) (q_cons (q_set (i := 6) sc__law_words.nd rfl (Or.inl rfl) (q_ix (toV (q_var (pv 5))) (toV (q_call G__law_draw (hr.mono (by decide)) rfl T.g__law_draw T.k__law_draw b__law_draw .nil (fun _ _ => RelL.nil) pass0 (q_acons (q_var (pv 0)) (q_acons q_int q_anil)))) (fun _ _ => rfl))) (q_cons (q_ret hm (q_ifE (L2.PW.pt (q_or (q_tcmp op_in_seq rop_inTL (toV (q_var (pv 6))) (q_view (pv 8)) rfl) (q_or1 (q_tcmp (op_eqD hr.units) rop_eq (toV (q_call G__law_draw (hr.mono (by decide)) rfl T.g__law_draw T.k__law_draw b__law_draw .nil (fun _ _ => RelL.nil) pass0 (q_acons (q_var (pv 0)) (q_acons q_int q_anil)))) (toV q_int) (nomark _))))) (q_var (pv 8)) (q_op op_add4 rop_add (toV (toE (q_lst (q_acons (q_var (pv 6)) q_anil)))) (toV (q_slice (q_view (pv 8)) (q_osome (toV q_int)) q_onone))))) q_nil))))))))
theorem sc__law_entries_b : FnScope N__law_entries_b ["_law_pen_here", "_law_house", "_law_many"] (defScope s__law_entries_b) := ⟨rfl, rfl, rfl, by decide +kernel, rfl, by decide +kernel, by decide +kernel⟩
theorem ok__law_entries_b {fd fd__law_draw fd__law_sighted fd__law_words : FuncData} (F : Fun K "_law_entries" "_law_entries" s__law_entries_b a__law_entries_b fd) (T : Tx w K mg a__law_draw a__law_beginning a_heap_of a_House_ahead_of a_House_said a__law_sighted a__law_words a__law_entries_b a_is_whole a_is_moment_a a_is_count a_is_saying_a a_is_word_a a_BadMoment___init__ a_BadSaying___init__ a_BadTeller___init__ a_SameMoment___init__ a_Lore_put a_Lore_leaves a_Lore_sees a_Lore_trusts a__law_tell_2 a_is_base a_BadHouse___init__ a_Lore___init__ a__law_lore_2 a__law_mixed a__law_pen a__law_row_3 a_figures_of a_base_of a_saying_of_2 a_entry_of_2 a_tell a_read_lore a__law_twice_right a_show_saying a_show_entry a_Lore_base a_Lore_entries a_show_lore a_NoEntry___init__ a_Lore_drop a_is_listing a_is_beginning a_House___init__ a_Lore___len__ a_law a_House a_Lore a_BadHouse a_BadMoment a_BadSaying a_BadTeller a_NoEntry a_SameMoment a_TRUSTED tk_FIGURES tk_LEAST_BASE tk_LETTERS tk_MOST_BASE tk_MOST_FIGURES) (G__law_draw : FnOk P w K mg base CX0 1 a__law_draw fd__law_draw ["_law_pen_here", "_law_many"] (lift K (sp__law_draw))) (b__law_draw : Binds K fd__law_draw ["_law_pen_here", "_law_many"] []) (G__law_sighted : FnOk P w K mg base CX0 3 a__law_sighted fd__law_sighted ["_law_pen_here", "_law_house"] (lift K (sp__law_sighted (Cl.mk a_House a_Lore a_law a_law a_law)))) (b__law_sighted : Binds K fd__law_sighted ["_law_pen_here", "_law_house"] []) (G__law_words : FnOk P w K mg base CX0 2 a__law_words fd__law_words ["_law_pen_here", "_law_many"] (lift K (sp__law_words))) (b__law_words : Binds K fd__law_words ["_law_pen_here", "_law_many"] []) : FnOk P w K mg base CX0 4 a__law_entries_b fd ["_law_pen_here", "_law_house", "_law_many"] (liftN K (sp__law_entries_b (Cl.mk a_House a_Lore a_law a_law a_law))) := by
  refine fn_okN (ds := d__law_entries_b (Cl.mk a_House a_Lore a_law a_law a_law)) F sc__law_entries_b (len__law_entries_b (Cl.mk a_House a_Lore a_law a_law a_law)) (fun cdv A outer s H E B hr hB hm => ?_) (d__law_entries_b_ok (Cl.mk a_House a_Lore a_law a_law a_law))
  exact (q_cons (q_par3M (i := 4) (j := 5) (l := 6) rfl sc__law_entries_b.nd rfl rfl rfl (by decide) (by decide) (by decide) rfl rfl rfl (q_mconsV (q_call G__law_words (hr.mono (by decide)) rfl T.g__law_words T.k__law_words b__law_words .nil (fun _ _ => RelL.nil) pass0 (q_acons (q_var (pv 0)) (q_acons q_int q_anil))) (q_mconsN (q_lst q_anil) fun B => (q_mconsV (q_call G__law_draw (hr.mono (by decide)) rfl T.g__law_draw T.k__law_draw b__law_draw .nil (fun _ _ => RelL.nil) pass0 (q_acons (q_var (pv 0)) (q_acons q_int q_anil))) q_mnil))) (by rfl)) (q_cons (q_for PassesOwn.never rfl (q_irng1 (by rfl) T.b_range (toV (q_var (pv 2)))) (q_gname (vs := [3]) (pg_name (i := 3) sc__law_entries_b.nd rfl (Or.inl rfl)) (by decide)) (q_cons (q_set (i := 7) sc__law_entries_b.nd rfl (Or.inl rfl) (q_ix (toV (toE (q_lst (q_acons (q_call G__law_sighted (hr.mono (by decide)) rfl T.g__law_sighted T.k__law_sighted b__law_sighted .nil (fun _ _ => RelL.nil) pass0 (q_acons (q_var (pv 0)) (q_acons (q_var (pv 1)) q_anil))) (q_acons q_bl (q_acons q_bl q_anil)))))) (toV (q_ix (toV (toE (q_lst (q_acons q_int (q_acons q_int (q_acons q_int (q_acons q_int (q_acons q_int (q_acons q_int q_anil))))))))) (toV (q_call G__law_draw (hr.mono (by decide)) rfl T.g__law_draw T.k__law_draw b__law_draw .nil (fun _ _ => RelL.nil) pass0 (q_acons (q_var (pv 0)) (q_acons q_int q_anil)))) (fun _ _ => rfl))) (fun _ _ => rfl))) (q_cons (q_app (i := 5) (pe_bm PySem.F.plainAttrs_list PySem.F.slot_list_append PySem.F.type_list_append mt_append (pv 5) (pa_cons (q_tup (q_acons (q_var (pv 6)) (q_acons (q_ix (toV (q_var (pv 4))) (toV (q_call G__law_draw (hr.mono (by decide)) rfl T.g__law_draw T.k__law_draw b__law_draw .nil (fun _ _ => RelL.nil) pass0 (q_acons (q_var (pv 0)) (q_acons q_int q_anil)))) (fun _ _ => rfl)) (q_acons (q_var (pv 7)) q_anil)))) pa_nil))) (q_cons (q_set (i := 6) sc__law_entries_b.nd rfl (Or.inl rfl) (q_op op_add4 rop_add (toV (q_op op_add4 rop_add (toV (q_var (pv 6))) (toV q_int))) (toV (q_ix (toV (toE (q_lst (q_acons q_int (q_acons (q_call G__law_draw (hr.mono (by decide)) rfl T.g__law_draw T.k__law_draw b__law_draw .nil (fun _ _ => RelL.nil) pass0 (q_acons (q_var (pv 0)) (q_acons q_int q_anil))) (q_acons (q_call G__law_draw (hr.mono (by decide)) rfl T.g__law_draw T.k__law_draw b__law_draw .nil (fun _ _ => RelL.nil) pass0 (q_acons (q_var (pv 0)) (q_acons (q_op op_powW rop_pow (toV q_int) (toV q_int)) q_anil))) q_anil)))))) (toV (q_call G__law_draw (hr.mono (by decide)) rfl T.g__law_draw T.k__law_draw b__law_draw .nil (fun _ _ => RelL.nil) pass0 (q_acons (q_var (pv 0)) (q_acons q_int q_anil)))) (fun _ _ => rfl))))) q_nil)))) (q_cons (q_retOwn hm hB (pv 5)) q_nil)))
theorem sc_is_whole : FnScope N_is_whole ["thing"] (defScope s_is_whole) := ⟨rfl, rfl, rfl, by decide +kernel, rfl, by decide +kernel, by decide +kernel⟩
theorem ok_is_whole {fd : FuncData} (F : Fun K "is_whole" "is_whole" s_is_whole a_is_whole fd) (T : Tx w K mg a__law_draw a__law_beginning a_heap_of a_House_ahead_of a_House_said a__law_sighted a__law_words a__law_entries_b a_is_whole a_is_moment_a a_is_count a_is_saying_a a_is_word_a a_BadMoment___init__ a_BadSaying___init__ a_BadTeller___init__ a_SameMoment___init__ a_Lore_put a_Lore_leaves a_Lore_sees a_Lore_trusts a__law_tell_2 a_is_base a_BadHouse___init__ a_Lore___init__ a__law_lore_2 a__law_mixed a__law_pen a__law_row_3 a_figures_of a_base_of a_saying_of_2 a_entry_of_2 a_tell a_read_lore a__law_twice_right a_show_saying a_show_entry a_Lore_base a_Lore_entries a_show_lore a_NoEntry___init__ a_Lore_drop a_is_listing a_is_beginning a_House___init__ a_Lore___len__ a_law a_House a_Lore a_BadHouse a_BadMoment a_BadSaying a_BadTeller a_NoEntry a_SameMoment a_TRUSTED tk_FIGURES tk_LEAST_BASE tk_LETTERS tk_MOST_BASE tk_MOST_FIGURES) : FnOk P w K mg base CX0 1 a_is_whole fd ["thing"] (lift K (sp_is_whole)) := by
  refine fn_ok (ds := d_is_whole) F sc_is_whole (len_is_whole) (fun cdv A outer s H E B hr hB hm => ?_) (d_is_whole_ok)
  exact (q_cons (q_ret hm (q_andV (q_isi (c := .int) (toV (q_var (pv 0))) rfl T.b_isinstance rfl T.b_int (by rfl)) (q_one (q_notV (q_isi (c := .bl) (toV (q_var (pv 0))) rfl T.b_isinstance rfl T.b_bool (by rfl)))))) q_nil)
theorem sc_is_moment_a : FnScope N_is_moment_a ["thing"] (defScope s_is_moment_a) := ⟨rfl, rfl, rfl, by decide +kernel, rfl, by decide +kernel, by decide +kernel⟩
theorem ok_is_moment_a {fd fd_is_whole : FuncData} (F : Fun K "is_moment" "is_moment" s_is_moment_a a_is_moment_a fd) (T : Tx w K mg a__law_draw a__law_beginning a_heap_of a_House_ahead_of a_House_said a__law_sighted a__law_words a__law_entries_b a_is_whole a_is_moment_a a_is_count a_is_saying_a a_is_word_a a_BadMoment___init__ a_BadSaying___init__ a_BadTeller___init__ a_SameMoment___init__ a_Lore_put a_Lore_leaves a_Lore_sees a_Lore_trusts a__law_tell_2 a_is_base a_BadHouse___init__ a_Lore___init__ a__law_lore_2 a__law_mixed a__law_pen a__law_row_3 a_figures_of a_base_of a_saying_of_2 a_entry_of_2 a_tell a_read_lore a__law_twice_right a_show_saying a_show_entry a_Lore_base a_Lore_entries a_show_lore a_NoEntry___init__ a_Lore_drop a_is_listing a_is_beginning a_House___init__ a_Lore___len__ a_law a_House a_Lore a_BadHouse a_BadMoment a_BadSaying a_BadTeller a_NoEntry a_SameMoment a_TRUSTED tk_FIGURES tk_LEAST_BASE tk_LETTERS tk_MOST_BASE tk_MOST_FIGURES) (G_is_whole : FnOk P w K mg base CX0 1 a_is_whole fd_is_whole ["thing"] (lift K (sp_is_whole))) (b_is_whole : Binds K fd_is_whole ["thing"] []) : FnOk P w K mg base CX0 2 a_is_moment_a fd ["thing"] (lift K (sp_is_moment_a)) := by
  refine fn_ok (ds := d_is_moment_a) F sc_is_moment_a (len_is_moment_a) (fun cdv A outer s H E B hr hB hm => ?_) (d_is_moment_a_ok)
  exact (q_cons (q_ret hm (q_andV (q_call G_is_whole (hr.mono (by decide)) rfl T.g_is_whole T.k_is_whole b_is_whole .nil (fun _ _ => RelL.nil) pass0 (q_acons (q_var (pv 0)) q_anil)) (q_one (q_cmp op_ge rop_ge (toV (q_var (pv 0))) (toV q_int) (nomark _))))) q_nil)
theorem sc_is_count : FnScope N_is_count ["thing"] (defScope s_is_count) := ⟨rfl, rfl, rfl, by decide +kernel, rfl, by decide +kernel, by decide +kernel⟩
theorem ok_is_count {fd fd_is_whole : FuncData} (F : Fun K "is_count" "is_count" s_is_count a_is_count fd) (T : Tx w K mg a__law_draw a__law_beginning a_heap_of a_House_ahead_of a_House_said a__law_sighted a__law_words a__law_entries_b a_is_whole a_is_moment_a a_is_count a_is_saying_a a_is_word_a a_BadMoment___init__ a_BadSaying___init__ a_BadTeller___init__ a_SameMoment___init__ a_Lore_put a_Lore_leaves a_Lore_sees a_Lore_trusts a__law_tell_2 a_is_base a_BadHouse___init__ a_Lore___init__ a__law_lore_2 a__law_mixed a__law_pen a__law_row_3 a_figures_of a_base_of a_saying_of_2 a_entry_of_2 a_tell a_read_lore a__law_twice_right a_show_saying a_show_entry a_Lore_base a_Lore_entries a_show_lore a_NoEntry___init__ a_Lore_drop a_is_listing a_is_beginning a_House___init__ a_Lore___len__ a_law a_House a_Lore a_BadHouse a_BadMoment a_BadSaying a_BadTeller a_NoEntry a_SameMoment a_TRUSTED tk_FIGURES tk_LEAST_BASE tk_LETTERS tk_MOST_BASE tk_MOST_FIGURES) (G_is_whole : FnOk P w K mg base CX0 1 a_is_whole fd_is_whole ["thing"] (lift K (sp_is_whole))) (b_is_whole : Binds K fd_is_whole ["thing"] []) : FnOk P w K mg base CX0 2 a_is_count fd ["thing"] (lift K (sp_is_count)) := by
  refine fn_ok (ds := d_is_count) F sc_is_count (len_is_count) (fun cdv A outer s H E B hr hB hm => ?_) (d_is_count_ok)
  exact (q_cons (q_ret hm (q_andV (q_call G_is_whole (hr.mono (by decide)) rfl T.g_is_whole T.k_is_whole b_is_whole .nil (fun _ _ => RelL.nil) pass0 (q_acons (q_var (pv 0)) q_anil)) (q_one (q_cmp op_gt rop_gt (toV (q_var (pv 0))) (toV q_int) (nomark _))))) q_nil)
theorem sc_is_saying_a : FnScope N_is_saying_a ["thing"] (defScope s_is_saying_a) := ⟨rfl, rfl, rfl, by decide +kernel, rfl, by decide +kernel, by decide +kernel⟩
theorem ok_is_saying_a {fd fd_is_count : FuncData} (F : Fun K "is_saying" "is_saying" s_is_saying_a a_is_saying_a fd) (T : Tx w K mg a__law_draw a__law_beginning a_heap_of a_House_ahead_of a_House_said a__law_sighted a__law_words a__law_entries_b a_is_whole a_is_moment_a a_is_count a_is_saying_a a_is_word_a a_BadMoment___init__ a_BadSaying___init__ a_BadTeller___init__ a_SameMoment___init__ a_Lore_put a_Lore_leaves a_Lore_sees a_Lore_trusts a__law_tell_2 a_is_base a_BadHouse___init__ a_Lore___init__ a__law_lore_2 a__law_mixed a__law_pen a__law_row_3 a_figures_of a_base_of a_saying_of_2 a_entry_of_2 a_tell a_read_lore a__law_twice_right a_show_saying a_show_entry a_Lore_base a_Lore_entries a_show_lore a_NoEntry___init__ a_Lore_drop a_is_listing a_is_beginning a_House___init__ a_Lore___len__ a_law a_House a_Lore a_BadHouse a_BadMoment a_BadSaying a_BadTeller a_NoEntry a_SameMoment a_TRUSTED tk_FIGURES tk_LEAST_BASE tk_LETTERS tk_MOST_BASE tk_MOST_FIGURES) (G_is_count : FnOk P w K mg base CX0 2 a_is_count fd_is_count ["thing"] (lift K (sp_is_count))) (b_is_count : Binds K fd_is_count ["thing"] []) : FnOk P w K mg base CX0 3 a_is_saying_a fd ["thing"] (lift K (sp_is_saying_a)) := by
  refine fn_ok (ds := d_is_saying_a) F sc_is_saying_a (len_is_saying_a) (fun cdv A outer s H E B hr hB hm => ?_) (d_is_saying_a_ok)
  exact (q_cons (q_if (L2.PW.pt (q_or (q_not (q_tval (q_isi (c := .tup) (toV (q_var (pv 0))) rfl T.b_isinstance rfl T.b_tuple (by rfl)))) (q_or (q_tcmp (op_neD hr.units) rop_ne (toV (q_callB call_len3 rc_len (by rfl) T.b_len (by decide +kernel) (q_xcons (toV (q_var (pv 0))) q_xnil))) (toV q_int) (nomark _)) (q_or1 (q_not (q_tval (q_isi (c := .str) (toV (q_ix (toV (q_var (pv 0))) (toV q_int) (fun _ _ => rfl))) rfl T.b_isinstance rfl T.b_str (by rfl)))))))) (q_cons (q_ret hm q_bl) q_nil) q_nil) (q_cons (q_ret hm (q_andV (q_cmp op_in_seq rop_inT (toV (q_ix (toV (q_var (pv 0))) (toV q_int) (fun _ _ => rfl))) (toV (q_tup (q_acons q_str (q_acons q_str q_anil)))) rfl) (q_andV (q_call G_is_count (hr.mono (by decide)) rfl T.g_is_count T.k_is_count b_is_count .nil (fun _ _ => RelL.nil) pass0 (q_acons (q_ix (toV (q_var (pv 0))) (toV q_int) (fun _ _ => rfl)) q_anil)) (q_one (q_call G_is_count (hr.mono (by decide)) rfl T.g_is_count T.k_is_count b_is_count .nil (fun _ _ => RelL.nil) pass0 (q_acons (q_ix (toV (q_var (pv 0))) (toV q_int) (fun _ _ => rfl)) q_anil)))))) q_nil))
theorem sc_is_word_a : FnScope N_is_word_a ["thing"] (defScope s_is_word_a) := ⟨rfl, rfl, rfl, by decide +kernel, rfl, by decide +kernel, by decide +kernel⟩
theorem ok_is_word_a {fd : FuncData} (F : Fun K "is_word" "is_word" s_is_word_a a_is_word_a fd) (T : Tx w K mg a__law_draw a__law_beginning a_heap_of a_House_ahead_of a_House_said a__law_sighted a__law_words a__law_entries_b a_is_whole a_is_moment_a a_is_count a_is_saying_a a_is_word_a a_BadMoment___init__ a_BadSaying___init__ a_BadTeller___init__ a_SameMoment___init__ a_Lore_put a_Lore_leaves a_Lore_sees a_Lore_trusts a__law_tell_2 a_is_base a_BadHouse___init__ a_Lore___init__ a__law_lore_2 a__law_mixed a__law_pen a__law_row_3 a_figures_of a_base_of a_saying_of_2 a_entry_of_2 a_tell a_read_lore a__law_twice_right a_show_saying a_show_entry a_Lore_base a_Lore_entries a_show_lore a_NoEntry___init__ a_Lore_drop a_is_listing a_is_beginning a_House___init__ a_Lore___len__ a_law a_House a_Lore a_BadHouse a_BadMoment a_BadSaying a_BadTeller a_NoEntry a_SameMoment a_TRUSTED tk_FIGURES tk_LEAST_BASE tk_LETTERS tk_MOST_BASE tk_MOST_FIGURES) : FnOk P w K mg base CX0 1 a_is_word_a fd ["thing"] (lift K (sp_is_word_a)) := by
  refine fn_ok (ds := d_is_word_a) F sc_is_word_a (len_is_word_a) (fun cdv A outer s H E B hr hB hm => ?_) (d_is_word_a_ok)
  exact (q_cons (q_ret hm (q_andV (q_isi (c := .str) (toV (q_var (pv 0))) rfl T.b_isinstance rfl T.b_str (by rfl)) (q_andV (q_chain op_lt rop_lt op_lt rop_lt (toV q_int) (toV (q_callB call_len3 rc_len (by rfl) T.b_len (by decide +kernel) (q_xcons (toV (q_var (pv 0))) q_xnil))) (toV q_int)) (q_one (q_callB (cr_all rfl) rc_all (by rfl) T.b_all (by decide +kernel) (q_xcons (toV (toE (q_lc (own := [("sign", 1)]) rfl sc_is_word_a.nd (q_istr (q_var (pv 0))) (blkOk_by (N := N_is_word_a) (sc := defScope s_is_word_a) (own := [("sign", 1)]) (by decide +kernel)) (fun _ _ _ _ _ B => (q_gname (vs := [1]) (pg_name (i := 1) sc_is_word_a.nd rfl (Or.inl rfl)) (by decide))) (fun _ _ _ _ _ => pts_U0) (fun _ _ _ _ _ B => (q_cmp op_inS rop_inS (toV (q_var (pv 1))) (toV (q_c (pe_glob (v := (.str "abcdefghijklmnopqrstuvwxyz")) rfl T.c_LETTERS ⟨_, rfl⟩) (fun _ _ => rD_str _))) rfl))))) q_xnil)))))) q_nil)
theorem sc_BadMoment___init__ : FnScope N_BadMoment___init__ ["self", "moment"] (defScope s_BadMoment___init__) := ⟨rfl, rfl, rfl, by decide +kernel, rfl, by decide +kernel, by decide +kernel⟩
theorem ok_BadMoment___init__ {fd : FuncData} (F : Fun K "__init__" "BadMoment.__init__" s_BadMoment___init__ a_BadMoment___init__ fd) (T : Tx w K mg a__law_draw a__law_beginning a_heap_of a_House_ahead_of a_House_said a__law_sighted a__law_words a__law_entries_b a_is_whole a_is_moment_a a_is_count a_is_saying_a a_is_word_a a_BadMoment___init__ a_BadSaying___init__ a_BadTeller___init__ a_SameMoment___init__ a_Lore_put a_Lore_leaves a_Lore_sees a_Lore_trusts a__law_tell_2 a_is_base a_BadHouse___init__ a_Lore___init__ a__law_lore_2 a__law_mixed a__law_pen a__law_row_3 a_figures_of a_base_of a_saying_of_2 a_entry_of_2 a_tell a_read_lore a__law_twice_right a_show_saying a_show_entry a_Lore_base a_Lore_entries a_show_lore a_NoEntry___init__ a_Lore_drop a_is_listing a_is_beginning a_House___init__ a_Lore___len__ a_law a_House a_Lore a_BadHouse a_BadMoment a_BadSaying a_BadTeller a_NoEntry a_SameMoment a_TRUSTED tk_FIGURES tk_LEAST_BASE tk_LETTERS tk_MOST_BASE tk_MOST_FIGURES) : FnOk P w K mg base CX0 1 a_BadMoment___init__ fd ["self", "moment"] (spFx K "ValueError.__new__" vaTail "moment") := by
  exact fn_fx F sc_BadMoment___init__ (fun cdv A outer s H E => pss_cons (ps_expr (pe_vainit (by rfl) T.b_ValueError T.vF_ValueError (pa_cons (pv 0) (pa_cons pe_str pa_nil)))) (pss_one (ps_fstG fxb_Value.g (pv 0) (pv 1))))
theorem sc_BadSaying___init__ : FnScope N_BadSaying___init__ ["self", "place"] (defScope s_BadSaying___init__) := ⟨rfl, rfl, rfl, by decide +kernel, rfl, by decide +kernel, by decide +kernel⟩
theorem ok_BadSaying___init__ {fd : FuncData} (F : Fun K "__init__" "BadSaying.__init__" s_BadSaying___init__ a_BadSaying___init__ fd) (T : Tx w K mg a__law_draw a__law_beginning a_heap_of a_House_ahead_of a_House_said a__law_sighted a__law_words a__law_entries_b a_is_whole a_is_moment_a a_is_count a_is_saying_a a_is_word_a a_BadMoment___init__ a_BadSaying___init__ a_BadTeller___init__ a_SameMoment___init__ a_Lore_put a_Lore_leaves a_Lore_sees a_Lore_trusts a__law_tell_2 a_is_base a_BadHouse___init__ a_Lore___init__ a__law_lore_2 a__law_mixed a__law_pen a__law_row_3 a_figures_of a_base_of a_saying_of_2 a_entry_of_2 a_tell a_read_lore a__law_twice_right a_show_saying a_show_entry a_Lore_base a_Lore_entries a_show_lore a_NoEntry___init__ a_Lore_drop a_is_listing a_is_beginning a_House___init__ a_Lore___len__ a_law a_House a_Lore a_BadHouse a_BadMoment a_BadSaying a_BadTeller a_NoEntry a_SameMoment a_TRUSTED tk_FIGURES tk_LEAST_BASE tk_LETTERS tk_MOST_BASE tk_MOST_FIGURES) : FnOk P w K mg base CX0 1 a_BadSaying___init__ fd ["self", "place"] (spFx K "ValueError.__new__" vaTail "place") := by
  exact fn_fx F sc_BadSaying___init__ (fun cdv A outer s H E => pss_cons (ps_expr (pe_vainit (by rfl) T.b_ValueError T.vF_ValueError (pa_cons (pv 0) (pa_cons pe_str pa_nil)))) (pss_one (ps_fstG fxb_Value.g (pv 0) (pv 1))))
theorem sc_BadTeller___init__ : FnScope N_BadTeller___init__ ["self", "teller"] (defScope s_BadTeller___init__) := ⟨rfl, rfl, rfl, by decide +kernel, rfl, by decide +kernel, by decide +kernel⟩
theorem ok_BadTeller___init__ {fd : FuncData} (F : Fun K "__init__" "BadTeller.__init__" s_BadTeller___init__ a_BadTeller___init__ fd) (T : Tx w K mg a__law_draw a__law_beginning a_heap_of a_House_ahead_of a_House_said a__law_sighted a__law_words a__law_entries_b a_is_whole a_is_moment_a a_is_count a_is_saying_a a_is_word_a a_BadMoment___init__ a_BadSaying___init__ a_BadTeller___init__ a_SameMoment___init__ a_Lore_put a_Lore_leaves a_Lore_sees a_Lore_trusts a__law_tell_2 a_is_base a_BadHouse___init__ a_Lore___init__ a__law_lore_2 a__law_mixed a__law_pen a__law_row_3 a_figures_of a_base_of a_saying_of_2 a_entry_of_2 a_tell a_read_lore a__law_twice_right a_show_saying a_show_entry a_Lore_base a_Lore_entries a_show_lore a_NoEntry___init__ a_Lore_drop a_is_listing a_is_beginning a_House___init__ a_Lore___len__ a_law a_House a_Lore a_BadHouse a_BadMoment a_BadSaying a_BadTeller a_NoEntry a_SameMoment a_TRUSTED tk_FIGURES tk_LEAST_BASE tk_LETTERS tk_MOST_BASE tk_MOST_FIGURES) : FnOk P w K mg base CX0 1 a_BadTeller___init__ fd ["self", "teller"] (spFx K "ValueError.__new__" vaTail "teller") := by
  exact fn_fx F sc_BadTeller___init__ (fun cdv A outer s H E => pss_cons (ps_expr (pe_vainit (by rfl) T.b_ValueError T.vF_ValueError (pa_cons (pv 0) (pa_cons pe_str pa_nil)))) (pss_one (ps_fstG fxb_Value.g (pv 0) (pv 1))))
theorem sc_SameMoment___init__ : FnScope N_SameMoment___init__ ["self", "moment"] (defScope s_SameMoment___init__) := ⟨rfl, rfl, rfl, by decide +kernel, rfl, by decide +kernel, by decide +kernel⟩
theorem ok_SameMoment___init__ {fd : FuncData} (F : Fun K "__init__" "SameMoment.__init__" s_SameMoment___init__ a_SameMoment___init__ fd) (T : Tx w K mg a__law_draw a__law_beginning a_heap_of a_House_ahead_of a_House_said a__law_sighted a__law_words a__law_entries_b a_is_whole a_is_moment_a a_is_count a_is_saying_a a_is_word_a a_BadMoment___init__ a_BadSaying___init__ a_BadTeller___init__ a_SameMoment___init__ a_Lore_put a_Lore_leaves a_Lore_sees a_Lore_trusts a__law_tell_2 a_is_base a_BadHouse___init__ a_Lore___init__ a__law_lore_2 a__law_mixed a__law_pen a__law_row_3 a_figures_of a_base_of a_saying_of_2 a_entry_of_2 a_tell a_read_lore a__law_twice_right a_show_saying a_show_entry a_Lore_base a_Lore_entries a_show_lore a_NoEntry___init__ a_Lore_drop a_is_listing a_is_beginning a_House___init__ a_Lore___len__ a_law a_House a_Lore a_BadHouse a_BadMoment a_BadSaying a_BadTeller a_NoEntry a_SameMoment a_TRUSTED tk_FIGURES tk_LEAST_BASE tk_LETTERS tk_MOST_BASE tk_MOST_FIGURES) : FnOk P w K mg base CX0 1 a_SameMoment___init__ fd ["self", "moment"] (spFx K "LookupError.__new__" luTail "moment") := by
  exact fn_fx F sc_SameMoment___init__ (fun cdv A outer s H E => pss_cons (ps_expr (pe_luinit (by rfl) T.b_LookupError T.vF_LookupError (pa_cons (pv 0) (pa_cons pe_str pa_nil)))) (pss_one (ps_fstG fxb_Lookup.g (pv 0) (pv 1))))
theorem sc_Lore_put : FnScope N_Lore_put ["self", "moment", "teller", "what"] (defScope s_Lore_put) := ⟨rfl, rfl, rfl, by decide +kernel, rfl, by decide +kernel, by decide +kernel⟩
theorem ok_Lore_put {fd fd_is_moment_a fd_is_saying_a fd_is_word_a fd_BadMoment___init__ fd_BadSaying___init__ fd_BadTeller___init__ fd_SameMoment___init__ : FuncData} (F : Fun K "put" "Lore.put" s_Lore_put a_Lore_put fd) (T : Tx w K mg a__law_draw a__law_beginning a_heap_of a_House_ahead_of a_House_said a__law_sighted a__law_words a__law_entries_b a_is_whole a_is_moment_a a_is_count a_is_saying_a a_is_word_a a_BadMoment___init__ a_BadSaying___init__ a_BadTeller___init__ a_SameMoment___init__ a_Lore_put a_Lore_leaves a_Lore_sees a_Lore_trusts a__law_tell_2 a_is_base a_BadHouse___init__ a_Lore___init__ a__law_lore_2 a__law_mixed a__law_pen a__law_row_3 a_figures_of a_base_of a_saying_of_2 a_entry_of_2 a_tell a_read_lore a__law_twice_right a_show_saying a_show_entry a_Lore_base a_Lore_entries a_show_lore a_NoEntry___init__ a_Lore_drop a_is_listing a_is_beginning a_House___init__ a_Lore___len__ a_law a_House a_Lore a_BadHouse a_BadMoment a_BadSaying a_BadTeller a_NoEntry a_SameMoment a_TRUSTED tk_FIGURES tk_LEAST_BASE tk_LETTERS tk_MOST_BASE tk_MOST_FIGURES) (G_is_moment_a : FnOk P w K mg base CX0 2 a_is_moment_a fd_is_moment_a ["thing"] (lift K (sp_is_moment_a))) (b_is_moment_a : Binds K fd_is_moment_a ["thing"] []) (G_is_saying_a : FnOk P w K mg base CX0 3 a_is_saying_a fd_is_saying_a ["thing"] (lift K (sp_is_saying_a))) (b_is_saying_a : Binds K fd_is_saying_a ["thing"] []) (G_is_word_a : FnOk P w K mg base CX0 1 a_is_word_a fd_is_word_a ["thing"] (lift K (sp_is_word_a))) (b_is_word_a : Binds K fd_is_word_a ["thing"] []) (G_BadMoment___init__ : FnOk P w K mg base CX0 1 a_BadMoment___init__ fd_BadMoment___init__ ["self", "moment"] (spFx K "ValueError.__new__" vaTail "moment")) (b_BadMoment___init__ : Binds K fd_BadMoment___init__ ["self", "moment"] []) (G_BadSaying___init__ : FnOk P w K mg base CX0 1 a_BadSaying___init__ fd_BadSaying___init__ ["self", "place"] (spFx K "ValueError.__new__" vaTail "place")) (b_BadSaying___init__ : Binds K fd_BadSaying___init__ ["self", "place"] []) (G_BadTeller___init__ : FnOk P w K mg base CX0 1 a_BadTeller___init__ fd_BadTeller___init__ ["self", "teller"] (spFx K "ValueError.__new__" vaTail "teller")) (b_BadTeller___init__ : Binds K fd_BadTeller___init__ ["self", "teller"] []) (G_SameMoment___init__ : FnOk P w K mg base CX0 1 a_SameMoment___init__ fd_SameMoment___init__ ["self", "moment"] (spFx K "LookupError.__new__" luTail "moment")) (b_SameMoment___init__ : Binds K fd_SameMoment___init__ ["self", "moment"] []) : FnOk P w K mg base (L2.CX P w) 4 a_Lore_put fd ["self", "moment", "teller", "what"] (liftE K (xcl a_BadHouse a_BadMoment a_BadSaying a_BadTeller a_NoEntry a_SameMoment) (sp_Lore_put (Cl.mk a_House a_Lore a_law a_law a_law))) := by
  refine fn_okE (cl := (xcl a_BadHouse a_BadMoment a_BadSaying a_BadTeller a_NoEntry a_SameMoment)) (ds := d_Lore_put (Cl.mk a_House a_Lore a_law a_law a_law)) F sc_Lore_put (len_Lore_put (Cl.mk a_House a_Lore a_law a_law a_law)) (fun cdv A outer s H E B Px hr hB hm hE => ?_) (d_Lore_put_ok (Cl.mk a_House a_Lore a_law a_law a_law))
  exact (q_cons (q_if (q_not (q_tval (q_callO G_is_moment_a (hr.mono (by decide)) rfl T.g_is_moment_a T.k_is_moment_a b_is_moment_a .nil (fun _ _ => RelL.nil) pass0 (q_acons (q_var (pv 1)) q_anil)))) (q_cons (q_raiseE (f := "moment") rfl (takes_of rfl rfl rfl rfl) hE rfl (pmk_fxG fxb_Value.g T.fx_BadMoment T.in_BadMoment T.ty_BadMoment T.no_BadMoment G_BadMoment___init__ (hr.mono (by decide)) b_BadMoment___init__ pass0 rfl T.g_BadMoment (q_acons (q_var (pv 1)) q_anil))) q_nil) q_nil) (q_cons (q_if (q_not (q_tval (q_callO G_is_word_a (hr.mono (by decide)) rfl T.g_is_word_a T.k_is_word_a b_is_word_a .nil (fun _ _ => RelL.nil) pass0 (q_acons (q_var (pv 2)) q_anil)))) (q_cons (q_raiseE (f := "teller") rfl (takes_of rfl rfl rfl rfl) hE rfl (pmk_fxG fxb_Value.g T.fx_BadTeller T.in_BadTeller T.ty_BadTeller T.no_BadTeller G_BadTeller___init__ (hr.mono (by decide)) b_BadTeller___init__ pass0 rfl T.g_BadTeller (q_acons (q_var (pv 2)) q_anil))) q_nil) q_nil) (q_cons (q_if (L2.PW.pt (q_and (q_not (q_tval (q_isi (c := .bl) (toV (q_var (pv 3))) rfl T.b_isinstance rfl T.b_bool (by rfl)))) (q_and1 (q_not (q_tval (q_callO G_is_saying_a (hr.mono (by decide)) rfl T.g_is_saying_a T.k_is_saying_a b_is_saying_a .nil (fun _ _ => RelL.nil) pass0 (q_acons (q_var (pv 3)) q_anil))))))) (q_cons (q_raiseE (f := "place") rfl (takes_of rfl rfl rfl rfl) hE rfl (pmk_fxG fxb_Value.g T.fx_BadSaying T.in_BadSaying T.ty_BadSaying T.no_BadSaying G_BadSaying___init__ (hr.mono (by decide)) b_BadSaying___init__ pass0 rfl T.g_BadSaying (q_acons q_int q_anil))) q_nil) q_nil) (q_cons (q_if (q_tinO (hu_of hr) (toV (q_var (pv 1))) (q_fldO (q_var (pv 0)) T.cl_Lore T.n_Lore_kept) rfl) (q_cons (q_raiseE (f := "moment") rfl (takes_of rfl rfl rfl rfl) hE rfl (pmk_fxG fxb_Lookup.g T.fx_SameMoment T.in_SameMoment T.ty_SameMoment T.no_SameMoment G_SameMoment___init__ (hr.mono (by decide)) b_SameMoment___init__ pass0 rfl T.g_SameMoment (q_acons (q_var (pv 1)) q_anil))) q_nil) q_nil) (q_cons (q_putO (hu_of hr) (q_fldO (q_var (pv 0)) T.cl_Lore T.n_Lore_kept) (toV (q_var (pv 1))) (q_tup (q_acons (q_var (pv 1)) (q_acons (q_var (pv 2)) (q_acons (q_var (pv 3)) q_anil))))) q_nil)))))
theorem sc_Lore_leaves : FnScope N_Lore_leaves ["self", "moment", "teller"] (defScope s_Lore_leaves) := ⟨rfl, rfl, rfl, by decide +kernel, rfl, by decide +kernel, by decide +kernel⟩
theorem ok_Lore_leaves {fd fd_Lore_put : FuncData} (F : Fun K "leaves" "Lore.leaves" s_Lore_leaves a_Lore_leaves fd) (T : Tx w K mg a__law_draw a__law_beginning a_heap_of a_House_ahead_of a_House_said a__law_sighted a__law_words a__law_entries_b a_is_whole a_is_moment_a a_is_count a_is_saying_a a_is_word_a a_BadMoment___init__ a_BadSaying___init__ a_BadTeller___init__ a_SameMoment___init__ a_Lore_put a_Lore_leaves a_Lore_sees a_Lore_trusts a__law_tell_2 a_is_base a_BadHouse___init__ a_Lore___init__ a__law_lore_2 a__law_mixed a__law_pen a__law_row_3 a_figures_of a_base_of a_saying_of_2 a_entry_of_2 a_tell a_read_lore a__law_twice_right a_show_saying a_show_entry a_Lore_base a_Lore_entries a_show_lore a_NoEntry___init__ a_Lore_drop a_is_listing a_is_beginning a_House___init__ a_Lore___len__ a_law a_House a_Lore a_BadHouse a_BadMoment a_BadSaying a_BadTeller a_NoEntry a_SameMoment a_TRUSTED tk_FIGURES tk_LEAST_BASE tk_LETTERS tk_MOST_BASE tk_MOST_FIGURES) (G_Lore_put : FnOk P w K mg base (L2.CX P w) 4 a_Lore_put fd_Lore_put ["self", "moment", "teller", "what"] (liftE K (xcl a_BadHouse a_BadMoment a_BadSaying a_BadTeller a_NoEntry a_SameMoment) (sp_Lore_put (Cl.mk a_House a_Lore a_law a_law a_law)))) (b_Lore_put : Binds K fd_Lore_put ["self", "moment", "teller", "what"] []) : FnOk P w K mg base (L2.CX P w) 5 a_Lore_leaves fd ["self", "moment", "teller"] (liftE K (xcl a_BadHouse a_BadMoment a_BadSaying a_BadTeller a_NoEntry a_SameMoment) (sp_Lore_leaves (Cl.mk a_House a_Lore a_law a_law a_law))) := by
  refine fn_okE (cl := (xcl a_BadHouse a_BadMoment a_BadSaying a_BadTeller a_NoEntry a_SameMoment)) (ds := d_Lore_leaves (Cl.mk a_House a_Lore a_law a_law a_law)) F sc_Lore_leaves (len_Lore_leaves (Cl.mk a_House a_Lore a_law a_law a_law)) (fun cdv A outer s H E B Px hr hB hm hE => ?_) (d_Lore_leaves_ok (Cl.mk a_House a_Lore a_law a_law a_law))
  exact (q_cons (q_drop (q_XE (W := fun c d _ H => E c d H) hE (z_meth (q_var (pv 0)) T.cl_Lore T.m_Lore_put G_Lore_put (hr.mono (by decide)) b_Lore_put (fun σ => passAt (takes_of rfl rfl rfl rfl) σ) (q_acons (q_var (pv 1)) (q_acons (q_var (pv 2)) (q_acons q_bl q_anil)))))) q_nil)
theorem sc_Lore_sees : FnScope N_Lore_sees ["self", "moment", "teller", "saying"] (defScope s_Lore_sees) := ⟨rfl, rfl, rfl, by decide +kernel, rfl, by decide +kernel, by decide +kernel⟩
theorem ok_Lore_sees {fd fd_Lore_put : FuncData} (F : Fun K "sees" "Lore.sees" s_Lore_sees a_Lore_sees fd) (T : Tx w K mg a__law_draw a__law_beginning a_heap_of a_House_ahead_of a_House_said a__law_sighted a__law_words a__law_entries_b a_is_whole a_is_moment_a a_is_count a_is_saying_a a_is_word_a a_BadMoment___init__ a_BadSaying___init__ a_BadTeller___init__ a_SameMoment___init__ a_Lore_put a_Lore_leaves a_Lore_sees a_Lore_trusts a__law_tell_2 a_is_base a_BadHouse___init__ a_Lore___init__ a__law_lore_2 a__law_mixed a__law_pen a__law_row_3 a_figures_of a_base_of a_saying_of_2 a_entry_of_2 a_tell a_read_lore a__law_twice_right a_show_saying a_show_entry a_Lore_base a_Lore_entries a_show_lore a_NoEntry___init__ a_Lore_drop a_is_listing a_is_beginning a_House___init__ a_Lore___len__ a_law a_House a_Lore a_BadHouse a_BadMoment a_BadSaying a_BadTeller a_NoEntry a_SameMoment a_TRUSTED tk_FIGURES tk_LEAST_BASE tk_LETTERS tk_MOST_BASE tk_MOST_FIGURES) (G_Lore_put : FnOk P w K mg base (L2.CX P w) 4 a_Lore_put fd_Lore_put ["self", "moment", "teller", "what"] (liftE K (xcl a_BadHouse a_BadMoment a_BadSaying a_BadTeller a_NoEntry a_SameMoment) (sp_Lore_put (Cl.mk a_House a_Lore a_law a_law a_law)))) (b_Lore_put : Binds K fd_Lore_put ["self", "moment", "teller", "what"] []) : FnOk P w K mg base (L2.CX P w) 5 a_Lore_sees fd ["self", "moment", "teller", "saying"] (liftE K (xcl a_BadHouse a_BadMoment a_BadSaying a_BadTeller a_NoEntry a_SameMoment) (sp_Lore_sees (Cl.mk a_House a_Lore a_law a_law a_law))) := by
  refine fn_okE (cl := (xcl a_BadHouse a_BadMoment a_BadSaying a_BadTeller a_NoEntry a_SameMoment)) (ds := d_Lore_sees (Cl.mk a_House a_Lore a_law a_law a_law)) F sc_Lore_sees (len_Lore_sees (Cl.mk a_House a_Lore a_law a_law a_law)) (fun cdv A outer s H E B Px hr hB hm hE => ?_) (d_Lore_sees_ok (Cl.mk a_House a_Lore a_law a_law a_law))
  exact (q_cons (q_drop (q_XE (W := fun c d _ H => E c d H) hE (z_meth (q_var (pv 0)) T.cl_Lore T.m_Lore_put G_Lore_put (hr.mono (by decide)) b_Lore_put (fun σ => passAt (takes_of rfl rfl rfl rfl) σ) (q_acons (q_var (pv 1)) (q_acons (q_var (pv 2)) (q_acons (q_ifE (q_tval (q_isi (c := .bl) (toV (q_var (pv 3))) rfl T.b_isinstance rfl T.b_bool (by rfl))) q_non (q_var (pv 3))) q_anil)))))) q_nil)
theorem sc_Lore_trusts : FnScope N_Lore_trusts ["self", "moment", "teller"] (defScope s_Lore_trusts) := ⟨rfl, rfl, rfl, by decide +kernel, rfl, by decide +kernel, by decide +kernel⟩
theorem ok_Lore_trusts {fd fd_Lore_put : FuncData} (F : Fun K "trusts" "Lore.trusts" s_Lore_trusts a_Lore_trusts fd) (T : Tx w K mg a__law_draw a__law_beginning a_heap_of a_House_ahead_of a_House_said a__law_sighted a__law_words a__law_entries_b a_is_whole a_is_moment_a a_is_count a_is_saying_a a_is_word_a a_BadMoment___init__ a_BadSaying___init__ a_BadTeller___init__ a_SameMoment___init__ a_Lore_put a_Lore_leaves a_Lore_sees a_Lore_trusts a__law_tell_2 a_is_base a_BadHouse___init__ a_Lore___init__ a__law_lore_2 a__law_mixed a__law_pen a__law_row_3 a_figures_of a_base_of a_saying_of_2 a_entry_of_2 a_tell a_read_lore a__law_twice_right a_show_saying a_show_entry a_Lore_base a_Lore_entries a_show_lore a_NoEntry___init__ a_Lore_drop a_is_listing a_is_beginning a_House___init__ a_Lore___len__ a_law a_House a_Lore a_BadHouse a_BadMoment a_BadSaying a_BadTeller a_NoEntry a_SameMoment a_TRUSTED tk_FIGURES tk_LEAST_BASE tk_LETTERS tk_MOST_BASE tk_MOST_FIGURES) (G_Lore_put : FnOk P w K mg base (L2.CX P w) 4 a_Lore_put fd_Lore_put ["self", "moment", "teller", "what"] (liftE K (xcl a_BadHouse a_BadMoment a_BadSaying a_BadTeller a_NoEntry a_SameMoment) (sp_Lore_put (Cl.mk a_House a_Lore a_law a_law a_law)))) (b_Lore_put : Binds K fd_Lore_put ["self", "moment", "teller", "what"] []) : FnOk P w K mg base (L2.CX P w) 5 a_Lore_trusts fd ["self", "moment", "teller"] (liftE K (xcl a_BadHouse a_BadMoment a_BadSaying a_BadTeller a_NoEntry a_SameMoment) (sp_Lore_trusts (Cl.mk a_House a_Lore a_law a_law a_law))) := by
  refine fn_okE (cl := (xcl a_BadHouse a_BadMoment a_BadSaying a_BadTeller a_NoEntry a_SameMoment)) (ds := d_Lore_trusts (Cl.mk a_House a_Lore a_law a_law a_law)) F sc_Lore_trusts (len_Lore_trusts (Cl.mk a_House a_Lore a_law a_law a_law)) (fun cdv A outer s H E B Px hr hB hm hE => ?_) (d_Lore_trusts_ok (Cl.mk a_House a_Lore a_law a_law a_law))
  exact (q_cons (q_drop (q_XE (W := fun c d _ H => E c d H) hE (z_meth (q_var (pv 0)) T.cl_Lore T.m_Lore_put G_Lore_put (hr.mono (by decide)) b_Lore_put (fun σ => passAt (takes_of rfl rfl rfl rfl) σ) (q_acons (q_var (pv 1)) (q_acons (q_var (pv 2)) (q_acons q_bl q_anil)))))) q_nil)
theorem sc__law_tell_2 : FnScope N__law_tell_2 ["_law_lore_here", "_law_entry"] (defScope s__law_tell_2) := ⟨rfl, rfl, rfl, by decide +kernel, rfl, by decide +kernel, by decide +kernel⟩
theorem ok__law_tell_2 {fd fd_Lore_leaves fd_Lore_sees fd_Lore_trusts : FuncData} (F : Fun K "_law_tell" "_law_tell" s__law_tell_2 a__law_tell_2 fd) (T : Tx w K mg a__law_draw a__law_beginning a_heap_of a_House_ahead_of a_House_said a__law_sighted a__law_words a__law_entries_b a_is_whole a_is_moment_a a_is_count a_is_saying_a a_is_word_a a_BadMoment___init__ a_BadSaying___init__ a_BadTeller___init__ a_SameMoment___init__ a_Lore_put a_Lore_leaves a_Lore_sees a_Lore_trusts a__law_tell_2 a_is_base a_BadHouse___init__ a_Lore___init__ a__law_lore_2 a__law_mixed a__law_pen a__law_row_3 a_figures_of a_base_of a_saying_of_2 a_entry_of_2 a_tell a_read_lore a__law_twice_right a_show_saying a_show_entry a_Lore_base a_Lore_entries a_show_lore a_NoEntry___init__ a_Lore_drop a_is_listing a_is_beginning a_House___init__ a_Lore___len__ a_law a_House a_Lore a_BadHouse a_BadMoment a_BadSaying a_BadTeller a_NoEntry a_SameMoment a_TRUSTED tk_FIGURES tk_LEAST_BASE tk_LETTERS tk_MOST_BASE tk_MOST_FIGURES) (G_Lore_leaves : FnOk P w K mg base (L2.CX P w) 5 a_Lore_leaves fd_Lore_leaves ["self", "moment", "teller"] (liftE K (xcl a_BadHouse a_BadMoment a_BadSaying a_BadTeller a_NoEntry a_SameMoment) (sp_Lore_leaves (Cl.mk a_House a_Lore a_law a_law a_law)))) (b_Lore_leaves : Binds K fd_Lore_leaves ["self", "moment", "teller"] []) (G_Lore_sees : FnOk P w K mg base (L2.CX P w) 5 a_Lore_sees fd_Lore_sees ["self", "moment", "teller", "saying"] (liftE K (xcl a_BadHouse a_BadMoment a_BadSaying a_BadTeller a_NoEntry a_SameMoment) (sp_Lore_sees (Cl.mk a_House a_Lore a_law a_law a_law)))) (b_Lore_sees : Binds K fd_Lore_sees ["self", "moment", "teller", "saying"] []) (G_Lore_trusts : FnOk P w K mg base (L2.CX P w) 5 a_Lore_trusts fd_Lore_trusts ["self", "moment", "teller"] (liftE K (xcl a_BadHouse a_BadMoment a_BadSaying a_BadTeller a_NoEntry a_SameMoment) (sp_Lore_trusts (Cl.mk a_House a_Lore a_law a_law a_law)))) (b_Lore_trusts : Binds K fd_Lore_trusts ["self", "moment", "teller"] []) : FnOk P w K mg base CX0 6 a__law_tell_2 fd ["_law_lore_here", "_law_entry"] (lift K (sp__law_tell_2 (Cl.mk a_House a_Lore a_law a_law a_law))) := by
  refine fn_ok (ds := d__law_tell_2 (Cl.mk a_House a_Lore a_law a_law a_law)) F sc__law_tell_2 (len__law_tell_2 (Cl.mk a_House a_Lore a_law a_law a_law)) (fun cdv A outer s H E B hr hB hm => ?_) (d__law_tell_2_ok (Cl.mk a_House a_Lore a_law a_law a_law))
  exact (q_cons (q_asg (q_var (pv 1)) (q_gtup (n := 3) rfl (q_gcons (q_gname (vs := [2, 3, 4]) (pg_name (i := 2) sc__law_tell_2.nd rfl (Or.inl rfl)) (by decide)) (q_gcons (q_gname (vs := [2, 3, 4]) (pg_name (i := 3) sc__law_tell_2.nd rfl (Or.inl rfl)) (by decide)) (q_gcons (q_gname (vs := [2, 3, 4]) (pg_name (i := 4) sc__law_tell_2.nd rfl (Or.inl rfl)) (by decide)) q_gnil))))) (q_cons (q_if (q_tval (q_isi (c := .tup) (toV (q_var (pv 4))) rfl T.b_isinstance rfl T.b_tuple (by rfl))) (q_cons (q_drop (q_methO (q_var (pv 0)) T.cl_Lore T.m_Lore_sees (fn_plainE G_Lore_sees) (hr.mono (by decide)) b_Lore_sees .nil (fun _ _ => RelL.nil) pass0 (q_acons (q_var (pv 2)) (q_acons (q_var (pv 3)) (q_acons (q_var (pv 4)) q_anil))))) q_nil) (q_cons (q_if (q_tval (q_var (pv 4))) (q_cons (q_drop (q_methO (q_var (pv 0)) T.cl_Lore T.m_Lore_trusts (fn_plainE G_Lore_trusts) (hr.mono (by decide)) b_Lore_trusts .nil (fun _ _ => RelL.nil) pass0 (q_acons (q_var (pv 2)) (q_acons (q_var (pv 3)) q_anil)))) q_nil) (q_cons (q_drop (q_methO (q_var (pv 0)) T.cl_Lore T.m_Lore_leaves (fn_plainE G_Lore_leaves) (hr.mono (by decide)) b_Lore_leaves .nil (fun _ _ => RelL.nil) pass0 (q_acons (q_var (pv 2)) (q_acons (q_var (pv 3)) q_anil)))) q_nil)) q_nil)) q_nil))
theorem sc_is_base : FnScope N_is_base ["thing"] (defScope s_is_base) := ⟨rfl, rfl, rfl, by decide +kernel, rfl, by decide +kernel, by decide +kernel⟩
theorem ok_is_base {fd fd_is_whole : FuncData} (F : Fun K "is_base" "is_base" s_is_base a_is_base fd) (T : Tx w K mg a__law_draw a__law_beginning a_heap_of a_House_ahead_of a_House_said a__law_sighted a__law_words a__law_entries_b a_is_whole a_is_moment_a a_is_count a_is_saying_a a_is_word_a a_BadMoment___init__ a_BadSaying___init__ a_BadTeller___init__ a_SameMoment___init__ a_Lore_put a_Lore_leaves a_Lore_sees a_Lore_trusts a__law_tell_2 a_is_base a_BadHouse___init__ a_Lore___init__ a__law_lore_2 a__law_mixed a__law_pen a__law_row_3 a_figures_of a_base_of a_saying_of_2 a_entry_of_2 a_tell a_read_lore a__law_twice_right a_show_saying a_show_entry a_Lore_base a_Lore_entries a_show_lore a_NoEntry___init__ a_Lore_drop a_is_listing a_is_beginning a_House___init__ a_Lore___len__ a_law a_House a_Lore a_BadHouse a_BadMoment a_BadSaying a_BadTeller a_NoEntry a_SameMoment a_TRUSTED tk_FIGURES tk_LEAST_BASE tk_LETTERS tk_MOST_BASE tk_MOST_FIGURES) (G_is_whole : FnOk P w K mg base CX0 1 a_is_whole fd_is_whole ["thing"] (lift K (sp_is_whole))) (b_is_whole : Binds K fd_is_whole ["thing"] []) : FnOk P w K mg base CX0 2 a_is_base fd ["thing"] (lift K (sp_is_base)) := by
  refine fn_ok (ds := d_is_base) F sc_is_base (len_is_base) (fun cdv A outer s H E B hr hB hm => ?_) (d_is_base_ok)
  exact (q_cons (q_ret hm (q_andV (q_call G_is_whole (hr.mono (by decide)) rfl T.g_is_whole T.k_is_whole b_is_whole .nil (fun _ _ => RelL.nil) pass0 (q_acons (q_var (pv 0)) q_anil)) (q_one (q_chain op_le rop_le op_le rop_le (toV (q_c (pe_glob (v := (.int 2)) rfl T.c_LEAST_BASE ⟨_, rfl⟩) (fun _ _ => rD_int _))) (toV (q_var (pv 0))) (toV (q_c (pe_glob (v := (.int 30)) rfl T.c_MOST_BASE ⟨_, rfl⟩) (fun _ _ => rD_int _))))))) q_nil)
theorem sc_BadHouse___init__ : FnScope N_BadHouse___init__ ["self", "part"] (defScope s_BadHouse___init__) := ⟨rfl, rfl, rfl, by decide +kernel, rfl, by decide +kernel, by decide +kernel⟩
theorem ok_BadHouse___init__ {fd : FuncData} (F : Fun K "__init__" "BadHouse.__init__" s_BadHouse___init__ a_BadHouse___init__ fd) (T : Tx w K mg a__law_draw a__law_beginning a_heap_of a_House_ahead_of a_House_said a__law_sighted a__law_words a__law_entries_b a_is_whole a_is_moment_a a_is_count a_is_saying_a a_is_word_a a_BadMoment___init__ a_BadSaying___init__ a_BadTeller___init__ a_SameMoment___init__ a_Lore_put a_Lore_leaves a_Lore_sees a_Lore_trusts a__law_tell_2 a_is_base a_BadHouse___init__ a_Lore___init__ a__law_lore_2 a__law_mixed a__law_pen a__law_row_3 a_figures_of a_base_of a_saying_of_2 a_entry_of_2 a_tell a_read_lore a__law_twice_right a_show_saying a_show_entry a_Lore_base a_Lore_entries a_show_lore a_NoEntry___init__ a_Lore_drop a_is_listing a_is_beginning a_House___init__ a_Lore___len__ a_law a_House a_Lore a_BadHouse a_BadMoment a_BadSaying a_BadTeller a_NoEntry a_SameMoment a_TRUSTED tk_FIGURES tk_LEAST_BASE tk_LETTERS tk_MOST_BASE tk_MOST_FIGURES) : FnOk P w K mg base CX0 1 a_BadHouse___init__ fd ["self", "part"] (spFx K "ValueError.__new__" vaTail "part") := by
  exact fn_fx F sc_BadHouse___init__ (fun cdv A outer s H E => pss_cons (ps_expr (pe_vainit (by rfl) T.b_ValueError T.vF_ValueError (pa_cons (pv 0) (pa_cons pe_str pa_nil)))) (pss_one (ps_fstG fxb_Value.g (pv 0) (pv 1))))
theorem sc_Lore___init__ : FnScope N_Lore___init__ ["self", "k"] (defScope s_Lore___init__) := ⟨rfl, rfl, rfl, by decide +kernel, rfl, by decide +kernel, by decide +kernel⟩
theorem ok_Lore___init__ {fd fd_is_base fd_BadHouse___init__ : FuncData} (F : Fun K "__init__" "Lore.__init__" s_Lore___init__ a_Lore___init__ fd) (T : Tx w K mg a__law_draw a__law_beginning a_heap_of a_House_ahead_of a_House_said a__law_sighted a__law_words a__law_entries_b a_is_whole a_is_moment_a a_is_count a_is_saying_a a_is_word_a a_BadMoment___init__ a_BadSaying___init__ a_BadTeller___init__ a_SameMoment___init__ a_Lore_put a_Lore_leaves a_Lore_sees a_Lore_trusts a__law_tell_2 a_is_base a_BadHouse___init__ a_Lore___init__ a__law_lore_2 a__law_mixed a__law_pen a__law_row_3 a_figures_of a_base_of a_saying_of_2 a_entry_of_2 a_tell a_read_lore a__law_twice_right a_show_saying a_show_entry a_Lore_base a_Lore_entries a_show_lore a_NoEntry___init__ a_Lore_drop a_is_listing a_is_beginning a_House___init__ a_Lore___len__ a_law a_House a_Lore a_BadHouse a_BadMoment a_BadSaying a_BadTeller a_NoEntry a_SameMoment a_TRUSTED tk_FIGURES tk_LEAST_BASE tk_LETTERS tk_MOST_BASE tk_MOST_FIGURES) (G_is_base : FnOk P w K mg base CX0 2 a_is_base fd_is_base ["thing"] (lift K (sp_is_base))) (b_is_base : Binds K fd_is_base ["thing"] []) (G_BadHouse___init__ : FnOk P w K mg base CX0 1 a_BadHouse___init__ fd_BadHouse___init__ ["self", "part"] (spFx K "ValueError.__new__" vaTail "part")) (b_BadHouse___init__ : Binds K fd_BadHouse___init__ ["self", "part"] []) : FnOk P w K mg base (L2.CX P w) 3 a_Lore___init__ fd ["self", "k"] (liftE K (xcl a_BadHouse a_BadMoment a_BadSaying a_BadTeller a_NoEntry a_SameMoment) (sp_Lore___init__ (Cl.mk a_House a_Lore a_law a_law a_law))) := by
  refine fn_okE (cl := (xcl a_BadHouse a_BadMoment a_BadSaying a_BadTeller a_NoEntry a_SameMoment)) (ds := d_Lore___init__ (Cl.mk a_House a_Lore a_law a_law a_law)) F sc_Lore___init__ (len_Lore___init__ (Cl.mk a_House a_Lore a_law a_law a_law)) (fun cdv A outer s H E B Px hr hB hm hE => ?_) (d_Lore___init___ok (Cl.mk a_House a_Lore a_law a_law a_law))
  exact (q_cons (q_if (q_not (q_tval (q_callO G_is_base (hr.mono (by decide)) rfl T.g_is_base T.k_is_base b_is_base .nil (fun _ _ => RelL.nil) pass0 (q_acons (q_var (pv 1)) q_anil)))) (q_cons (q_raiseE (f := "part") rfl (takes_of rfl rfl rfl rfl) hE rfl (pmk_fxG fxb_Value.g T.fx_BadHouse T.in_BadHouse T.ty_BadHouse T.no_BadHouse G_BadHouse___init__ (hr.mono (by decide)) b_BadHouse___init__ pass0 rfl T.g_BadHouse (q_acons q_str q_anil))) q_nil) q_nil) (q_cons (q_setO (q_var (pv 0)) (q_var (pv 1)) T.cl_Lore T.n_Lore_kept_base) (q_cons (q_setO (q_var (pv 0)) (q_reg q_dnew) T.cl_Lore T.n_Lore_kept) q_nil)))
theorem sc__law_lore_2 : FnScope N__law_lore_2 ["_law_base", "_law_entries_here"] (defScope s__law_lore_2) := ⟨rfl, rfl, rfl, by decide +kernel, rfl, by decide +kernel, by decide +kernel⟩
theorem ok__law_lore_2 {fd fd__law_tell_2 fd_Lore___init__ : FuncData} (F : Fun K "_law_lore" "_law_lore" s__law_lore_2 a__law_lore_2 fd) (T : Tx w K mg a__law_draw a__law_beginning a_heap_of a_House_ahead_of a_House_said a__law_sighted a__law_words a__law_entries_b a_is_whole a_is_moment_a a_is_count a_is_saying_a a_is_word_a a_BadMoment___init__ a_BadSaying___init__ a_BadTeller___init__ a_SameMoment___init__ a_Lore_put a_Lore_leaves a_Lore_sees a_Lore_trusts a__law_tell_2 a_is_base a_BadHouse___init__ a_Lore___init__ a__law_lore_2 a__law_mixed a__law_pen a__law_row_3 a_figures_of a_base_of a_saying_of_2 a_entry_of_2 a_tell a_read_lore a__law_twice_right a_show_saying a_show_entry a_Lore_base a_Lore_entries a_show_lore a_NoEntry___init__ a_Lore_drop a_is_listing a_is_beginning a_House___init__ a_Lore___len__ a_law a_House a_Lore a_BadHouse a_BadMoment a_BadSaying a_BadTeller a_NoEntry a_SameMoment a_TRUSTED tk_FIGURES tk_LEAST_BASE tk_LETTERS tk_MOST_BASE tk_MOST_FIGURES) (G__law_tell_2 : FnOk P w K mg base CX0 6 a__law_tell_2 fd__law_tell_2 ["_law_lore_here", "_law_entry"] (lift K (sp__law_tell_2 (Cl.mk a_House a_Lore a_law a_law a_law)))) (b__law_tell_2 : Binds K fd__law_tell_2 ["_law_lore_here", "_law_entry"] []) (G_Lore___init__ : FnOk P w K mg base (L2.CX P w) 3 a_Lore___init__ fd_Lore___init__ ["self", "k"] (liftE K (xcl a_BadHouse a_BadMoment a_BadSaying a_BadTeller a_NoEntry a_SameMoment) (sp_Lore___init__ (Cl.mk a_House a_Lore a_law a_law a_law)))) (b_Lore___init__ : Binds K fd_Lore___init__ ["self", "k"] []) : FnOk P w K mg base CX0 7 a__law_lore_2 fd ["_law_base", "_law_entries_here"] (lift K (sp__law_lore_2 (Cl.mk a_House a_Lore a_law a_law a_law))) := by
  refine fn_ok (ds := d__law_lore_2 (Cl.mk a_House a_Lore a_law a_law a_law)) F sc__law_lore_2 (len__law_lore_2 (Cl.mk a_House a_Lore a_law a_law a_law)) (fun cdv A outer s H E B hr hB hm => ?_) (d__law_lore_2_ok (Cl.mk a_House a_Lore a_law a_law a_law))
  exact (q_cons (q_set (i := 2) sc__law_lore_2.nd rfl (Or.inl rfl) (q_makeO T.mk_Lore (fn_plainE G_Lore___init__) (hr.mono (by decide)) rfl T.g_Lore b_Lore___init__ pass0 (q_acons (q_var (pv 0)) q_anil))) (q_cons (q_for PassesOwn.never rfl (q_iany (q_var (pv 1))) (q_gname (vs := [3]) (pg_name (i := 3) sc__law_lore_2.nd rfl (Or.inl rfl)) (by decide)) (q_cons (q_drop (q_call G__law_tell_2 (hr.mono (by decide)) rfl T.g__law_tell_2 T.k__law_tell_2 b__law_tell_2 .nil (fun _ _ => RelL.nil) pass0 (q_acons (q_var (pv 2)) (q_acons (q_var (pv 3)) q_anil)))) q_nil)) (q_cons (q_ret hm (q_var (pv 2))) q_nil)))
theorem sc__law_mixed : FnScope N__law_mixed ["_law_pen_here", "_law_things"] (defScope s__law_mixed) := ⟨rfl, rfl, rfl, by decide +kernel, rfl, by decide +kernel, by decide +kernel⟩
theorem ok__law_mixed {fd fd__law_draw : FuncData} (F : Fun K "_law_mixed" "_law_mixed" s__law_mixed a__law_mixed fd) (T : Tx w K mg a__law_draw a__law_beginning a_heap_of a_House_ahead_of a_House_said a__law_sighted a__law_words a__law_entries_b a_is_whole a_is_moment_a a_is_count a_is_saying_a a_is_word_a a_BadMoment___init__ a_BadSaying___init__ a_BadTeller___init__ a_SameMoment___init__ a_Lore_put a_Lore_leaves a_Lore_sees a_Lore_trusts a__law_tell_2 a_is_base a_BadHouse___init__ a_Lore___init__ a__law_lore_2 a__law_mixed a__law_pen a__law_row_3 a_figures_of a_base_of a_saying_of_2 a_entry_of_2 a_tell a_read_lore a__law_twice_right a_show_saying a_show_entry a_Lore_base a_Lore_entries a_show_lore a_NoEntry___init__ a_Lore_drop a_is_listing a_is_beginning a_House___init__ a_Lore___len__ a_law a_House a_Lore a_BadHouse a_BadMoment a_BadSaying a_BadTeller a_NoEntry a_SameMoment a_TRUSTED tk_FIGURES tk_LEAST_BASE tk_LETTERS tk_MOST_BASE tk_MOST_FIGURES) (G__law_draw : FnOk P w K mg base CX0 1 a__law_draw fd__law_draw ["_law_pen_here", "_law_many"] (lift K (sp__law_draw))) (b__law_draw : Binds K fd__law_draw ["_law_pen_here", "_law_many"] []) : FnOk P w K mg base CX0 2 a__law_mixed fd ["_law_pen_here", "_law_things"] (liftN K (sp__law_mixed)) := by
  refine fn_okN (ds := d__law_mixed) F sc__law_mixed (len__law_mixed) (fun cdv A outer s H E B hr hB hm => ?_) (d__law_mixed_ok)
  exact (q_cons (q_par2M (i := 3) (j := 4) rfl sc__law_mixed.nd rfl rfl (by decide) rfl rfl (q_mconsN (q_callTyN call_list_of rc_list (by rfl) T.b_list (by decide +kernel) (q_xcons (toV (q_var (pv 1))) q_xnil)) fun B => (q_mconsN (q_lst q_anil) fun B => q_mnil)) (by rfl)) (q_cons (q_for PassesOwn.never rfl (q_irng1 (by rfl) T.b_range (toV (q_callB call_len3 rc_len (by rfl) T.b_len (by decide +kernel) (q_xcons (toV (q_var (pv 1))) q_xnil)))) (q_gname (vs := [2]) (pg_name (i := 2) sc__law_mixed.nd rfl (Or.inl rfl)) (by decide)) (q_cons (q_appPop (i := 4) (j := 3) (pv 4) (pv 3) (q_call G__law_draw (hr.mono (by decide)) rfl T.g__law_draw T.k__law_draw b__law_draw .nil (fun _ _ => RelL.nil) pass0 (q_acons (q_var (pv 0)) (q_acons (q_callB call_len3 rc_len (by rfl) T.b_len (by decide +kernel) (q_xcons (q_view (pv 3)) q_xnil)) q_anil)))) q_nil)) (q_frz (i := 3) hB (q_cons (q_retOwn hm hB (pv 4)) q_nil))))
theorem sc__law_pen : FnScope N__law_pen ["_law_script"] (defScope s__law_pen) := ⟨rfl, rfl, rfl, by decide +kernel, rfl, by decide +kernel, by decide +kernel⟩
theorem ok__law_pen {fd : FuncData} (F : Fun K "_law_pen" "_law_pen" s__law_pen a__law_pen fd) (T : Tx w K mg a__law_draw a__law_beginning a_heap_of a_House_ahead_of a_House_said a__law_sighted a__law_words a__law_entries_b a_is_whole a_is_moment_a a_is_count a_is_saying_a a_is_word_a a_BadMoment___init__ a_BadSaying___init__ a_BadTeller___init__ a_SameMoment___init__ a_Lore_put a_Lore_leaves a_Lore_sees a_Lore_trusts a__law_tell_2 a_is_base a_BadHouse___init__ a_Lore___init__ a__law_lore_2 a__law_mixed a__law_pen a__law_row_3 a_figures_of a_base_of a_saying_of_2 a_entry_of_2 a_tell a_read_lore a__law_twice_right a_show_saying a_show_entry a_Lore_base a_Lore_entries a_show_lore a_NoEntry___init__ a_Lore_drop a_is_listing a_is_beginning a_House___init__ a_Lore___len__ a_law a_House a_Lore a_BadHouse a_BadMoment a_BadSaying a_BadTeller a_NoEntry a_SameMoment a_TRUSTED tk_FIGURES tk_LEAST_BASE tk_LETTERS tk_MOST_BASE tk_MOST_FIGURES) : FnOk P w K mg base CX0 1 a__law_pen fd ["_law_script"] (liftN K (sp__law_pen)) := by
  refine fn_okN (ds := d__law_pen) F sc__law_pen (len__law_pen) (fun cdv A outer s H E B hr hB hm => ?_) (d__law_pen_ok)
  exact (q_cons (q_set (i := 1) sc__law_pen.nd rfl (Or.inr rfl) (q_op op_powW rop_pow (toV (q_op op_powW rop_pow (toV q_int) (toV q_int))) (toV q_int))) (q_cons (q_retNew hm (q_disp (q_pcons (fun B => (toE (q_lc (own := [("_law_cell", 2)]) rfl sc__law_pen.nd (q_iany (q_slice (toV (q_var (pv 0))) q_onone (q_osome (toV q_int)))) (blkOk_by (N := N__law_pen) (sc := defScope s__law_pen) (own := [("_law_cell", 2)]) (by decide +kernel)) (fun _ _ _ _ _ B => (q_gname (vs := [2]) (pg_name (i := 2) sc__law_pen.nd rfl (Or.inl rfl)) (by decide))) (fun _ _ _ _ _ => pts_U0) (fun _ _ _ _ _ B => (q_ifE (q_tcmp op_ge rop_ge (toV (q_callB call_abs rc_abs (by rfl) T.b_abs (by decide +kernel) (q_xcons (toV (q_var (pv 2))) q_xnil))) (toV (q_op op_powW rop_pow (toV q_int) (toV q_int))) (nomark _)) (q_op op_mod rop_mod (toV (q_callB call_abs rc_abs (by rfl) T.b_abs (by decide +kernel) (q_xcons (toV (q_var (pv 2))) q_xnil))) (toV (q_var (pv 1)))) (q_var (pv 2))))))) (q_pcons (fun B => q_int) (q_pcons (fun B => q_int) q_pnil))) (by decide +kernel) (by decide))) q_nil))
theorem sc__law_row_3 : FnScope N__law_row_3 ["_law_entry"] (defScope s__law_row_3) := ⟨rfl, rfl, rfl, by decide +kernel, rfl, by decide +kernel, by decide +kernel⟩
theorem ok__law_row_3 {fd : FuncData} (F : Fun K "_law_row" "_law_row" s__law_row_3 a__law_row_3 fd) (T : Tx w K mg a__law_draw a__law_beginning a_heap_of a_House_ahead_of a_House_said a__law_sighted a__law_words a__law_entries_b a_is_whole a_is_moment_a a_is_count a_is_saying_a a_is_word_a a_BadMoment___init__ a_BadSaying___init__ a_BadTeller___init__ a_SameMoment___init__ a_Lore_put a_Lore_leaves a_Lore_sees a_Lore_trusts a__law_tell_2 a_is_base a_BadHouse___init__ a_Lore___init__ a__law_lore_2 a__law_mixed a__law_pen a__law_row_3 a_figures_of a_base_of a_saying_of_2 a_entry_of_2 a_tell a_read_lore a__law_twice_right a_show_saying a_show_entry a_Lore_base a_Lore_entries a_show_lore a_NoEntry___init__ a_Lore_drop a_is_listing a_is_beginning a_House___init__ a_Lore___len__ a_law a_House a_Lore a_BadHouse a_BadMoment a_BadSaying a_BadTeller a_NoEntry a_SameMoment a_TRUSTED tk_FIGURES tk_LEAST_BASE tk_LETTERS tk_MOST_BASE tk_MOST_FIGURES) : FnOk P w K mg base CX0 1 a__law_row_3 fd ["_law_entry"] (lift K (sp__law_row_3)) := by
  refine fn_ok (ds := d__law_row_3) F sc__law_row_3 (len__law_row_3) (fun cdv A outer s H E B hr hB hm => ?_) (d__law_row_3_ok)
  exact (q_cons (q_asg (q_var (pv 0)) (q_gtup (n := 3) rfl (q_gcons (q_gname (vs := [2, 3, 4]) (pg_name (i := 2) sc__law_row_3.nd rfl (Or.inl rfl)) (by decide)) (q_gcons (q_gname (vs := [2, 3, 4]) (pg_name (i := 3) sc__law_row_3.nd rfl (Or.inl rfl)) (by decide)) (q_gcons (q_gname (vs := [2, 3, 4]) (pg_name (i := 4) sc__law_row_3.nd rfl (Or.inl rfl)) (by decide)) q_gnil))))) (q_cons (q_if (q_tval (q_isi (c := .bl) (toV (q_var (pv 4))) rfl T.b_isinstance rfl T.b_bool (by rfl))) (q_cons (q_ret hm (q_op op_add4 rop_add (toV (q_op op_add4 rop_add (toV (q_op op_add4 rop_add (toV (q_op op_add4 rop_add (toV (q_callTy call_str_int rc_str (by rfl) T.b_str (by decide +kernel) (q_xcons (toV (q_var (pv 2))) q_xnil))) (toV q_str))) (toV (q_var (pv 3))))) (toV q_str))) (toV (q_ix (toV (toE (q_lst (q_acons q_str (q_acons q_str q_anil))))) (toV (q_callTy call_int1 rc_int (by rfl) T.b_int (by decide +kernel) (q_xcons (toV (q_var (pv 4))) q_xnil))) (fun _ _ => rfl))))) q_nil) q_nil) (q_cons (q_set (i := 1) sc__law_row_3.nd rfl (Or.inl rfl) (q_op op_add4 rop_add (toV (q_op op_add4 rop_add (toV (q_op op_add4 rop_add (toV (q_callTy call_str_int rc_str (by rfl) T.b_str (by decide +kernel) (q_xcons (toV (q_var (pv 2))) q_xnil))) (toV q_str))) (toV (q_var (pv 3))))) (toV q_str))) (q_cons (q_ret hm (q_op op_add4 rop_add (toV (q_op op_add4 rop_add (toV (q_op op_add4 rop_add (toV (q_op op_add4 rop_add (toV (q_op op_add4 rop_add (toV (q_var (pv 1))) (toV (q_callTy call_str_int rc_str (by rfl) T.b_str (by decide +kernel) (q_xcons (toV (q_ix (toV (q_var (pv 4))) (toV q_int) (fun _ _ => rfl))) q_xnil))))) (toV q_str))) (toV (q_ix (toV (q_var (pv 4))) (toV q_int) (fun _ _ => rfl))))) (toV q_str))) (toV (q_callTy call_str_int rc_str (by rfl) T.b_str (by decide +kernel) (q_xcons (toV (q_ix (toV (q_var (pv 4))) (toV q_int) (fun _ _ => rfl))) q_xnil))))) q_nil))))
theorem sc_figures_of : FnScope N_figures_of ["word"] (defScope s_figures_of) := ⟨rfl, rfl, rfl, by decide +kernel, rfl, by decide +kernel, by decide +kernel⟩
theorem ok_figures_of {fd : FuncData} (F : Fun K "figures_of" "figures_of" s_figures_of a_figures_of fd) (T : Tx w K mg a__law_draw a__law_beginning a_heap_of a_House_ahead_of a_House_said a__law_sighted a__law_words a__law_entries_b a_is_whole a_is_moment_a a_is_count a_is_saying_a a_is_word_a a_BadMoment___init__ a_BadSaying___init__ a_BadTeller___init__ a_SameMoment___init__ a_Lore_put a_Lore_leaves a_Lore_sees a_Lore_trusts a__law_tell_2 a_is_base a_BadHouse___init__ a_Lore___init__ a__law_lore_2 a__law_mixed a__law_pen a__law_row_3 a_figures_of a_base_of a_saying_of_2 a_entry_of_2 a_tell a_read_lore a__law_twice_right a_show_saying a_show_entry a_Lore_base a_Lore_entries a_show_lore a_NoEntry___init__ a_Lore_drop a_is_listing a_is_beginning a_House___init__ a_Lore___len__ a_law a_House a_Lore a_BadHouse a_BadMoment a_BadSaying a_BadTeller a_NoEntry a_SameMoment a_TRUSTED tk_FIGURES tk_LEAST_BASE tk_LETTERS tk_MOST_BASE tk_MOST_FIGURES) : FnOk P w K mg base CX0 1 a_figures_of fd ["word"] (lift K (sp_figures_of)) := by
  refine fn_ok (ds := d_figures_of) F sc_figures_of (len_figures_of) (fun cdv A outer s H E B hr hB hm => ?_) (d_figures_of_ok)
  exact (q_cons (q_if (L2.PW.pt (q_or (q_not (q_tchain op_lt rop_lt op_le rop_le (toV q_int) (toV (q_callB call_len3 rc_len (by rfl) T.b_len (by decide +kernel) (q_xcons (toV (q_var (pv 0))) q_xnil))) (toV (q_c (pe_glob (v := (.int 200)) rfl T.c_MOST_FIGURES ⟨_, rfl⟩) (fun _ _ => rD_int _))))) (q_or1 (q_not (q_tval (q_callB (cr_all rfl) rc_all (by rfl) T.b_all (by decide +kernel) (q_xcons (toV (toE (q_lc (own := [("sign", 1)]) rfl sc_figures_of.nd (q_istr (q_var (pv 0))) (blkOk_by (N := N_figures_of) (sc := defScope s_figures_of) (own := [("sign", 1)]) (by decide +kernel)) (fun _ _ _ _ _ B => (q_gname (vs := [1]) (pg_name (i := 1) sc_figures_of.nd rfl (Or.inl rfl)) (by decide))) (fun _ _ _ _ _ => pts_U0) (fun _ _ _ _ _ B => (q_cmp op_inS rop_inS (toV (q_var (pv 1))) (toV (q_c (pe_glob (v := (.str "0123456789")) rfl T.c_FIGURES ⟨_, rfl⟩) (fun _ _ => rD_str _))) rfl))))) q_xnil))))))) (q_cons (q_ret hm q_non) q_nil) q_nil) (q_cons (q_ret hm (q_ifE (L2.PW.pt (q_or (q_tcmp (op_eqD hr.units) rop_eq (toV (q_var (pv 0))) (toV q_str) (nomark _)) (q_or1 (q_tcmp (op_neD hr.units) rop_ne (toV (q_ixS (toV (q_var (pv 0))) (toV q_int) (fun _ _ => rfl))) (toV q_str) (nomark _))))) (q_callTy call_int_str rc_intT (by rfl) T.b_int (by decide +kernel) (q_xcons (toV (q_var (pv 0))) q_xnil)) q_non)) q_nil))
theorem sc_base_of : FnScope N_base_of ["row"] (defScope s_base_of) := ⟨rfl, rfl, rfl, by decide +kernel, rfl, by decide +kernel, by decide +kernel⟩
theorem ok_base_of {fd fd_figures_of : FuncData} (F : Fun K "base_of" "base_of" s_base_of a_base_of fd) (T : Tx w K mg a__law_draw a__law_beginning a_heap_of a_House_ahead_of a_House_said a__law_sighted a__law_words a__law_entries_b a_is_whole a_is_moment_a a_is_count a_is_saying_a a_is_word_a a_BadMoment___init__ a_BadSaying___init__ a_BadTeller___init__ a_SameMoment___init__ a_Lore_put a_Lore_leaves a_Lore_sees a_Lore_trusts a__law_tell_2 a_is_base a_BadHouse___init__ a_Lore___init__ a__law_lore_2 a__law_mixed a__law_pen a__law_row_3 a_figures_of a_base_of a_saying_of_2 a_entry_of_2 a_tell a_read_lore a__law_twice_right a_show_saying a_show_entry a_Lore_base a_Lore_entries a_show_lore a_NoEntry___init__ a_Lore_drop a_is_listing a_is_beginning a_House___init__ a_Lore___len__ a_law a_House a_Lore a_BadHouse a_BadMoment a_BadSaying a_BadTeller a_NoEntry a_SameMoment a_TRUSTED tk_FIGURES tk_LEAST_BASE tk_LETTERS tk_MOST_BASE tk_MOST_FIGURES) (G_figures_of : FnOk P w K mg base CX0 1 a_figures_of fd_figures_of ["word"] (lift K (sp_figures_of))) (b_figures_of : Binds K fd_figures_of ["word"] []) : FnOk P w K mg base CX0 2 a_base_of fd ["row"] (lift K (sp_base_of)) := by
  refine fn_ok (ds := d_base_of) F sc_base_of (len_base_of) (fun cdv A outer s H E B hr hB hm => ?_) (d_base_of_ok)
  exact (q_cons (q_set (i := 1) sc_base_of.nd rfl (Or.inl rfl) (toE (q_split (q_var (pv 0)) q_str))) (q_cons (q_set (i := 2) sc_base_of.nd rfl (Or.inl rfl) (q_ifE (L2.PW.pt (q_and (q_tcmp (op_eqD hr.units) rop_eq (toV (q_callB call_len3 rc_len (by rfl) T.b_len (by decide +kernel) (q_xcons (toV (q_var (pv 1))) q_xnil))) (toV q_int) (nomark _)) (q_and1 (q_tcmp (op_eqD hr.units) rop_eq (toV (q_ix (toV (q_var (pv 1))) (toV q_int) (fun _ _ => rfl))) (toV q_str) (nomark _))))) (q_call G_figures_of (hr.mono (by decide)) rfl T.g_figures_of T.k_figures_of b_figures_of .nil (fun _ _ => RelL.nil) pass0 (q_acons (q_ix (toV (q_var (pv 1))) (toV q_int) (fun _ _ => rfl)) q_anil)) q_non)) (q_cons (q_if (q_tcmp op_isN rop_isN (toV (q_var (pv 2))) (toV q_non) (nomark _)) (q_cons q_never q_nil) q_nil) (q_cons (q_ret hm (q_var (pv 2))) q_nil))))
theorem sc_saying_of_2 : FnScope N_saying_of_2 ["words"] (defScope s_saying_of_2) := ⟨rfl, rfl, rfl, by decide +kernel, rfl, by decide +kernel, by decide +kernel⟩
theorem ok_saying_of_2 {fd fd_figures_of fd_is_saying_a : FuncData} (F : Fun K "saying_of" "saying_of" s_saying_of_2 a_saying_of_2 fd) (T : Tx w K mg a__law_draw a__law_beginning a_heap_of a_House_ahead_of a_House_said a__law_sighted a__law_words a__law_entries_b a_is_whole a_is_moment_a a_is_count a_is_saying_a a_is_word_a a_BadMoment___init__ a_BadSaying___init__ a_BadTeller___init__ a_SameMoment___init__ a_Lore_put a_Lore_leaves a_Lore_sees a_Lore_trusts a__law_tell_2 a_is_base a_BadHouse___init__ a_Lore___init__ a__law_lore_2 a__law_mixed a__law_pen a__law_row_3 a_figures_of a_base_of a_saying_of_2 a_entry_of_2 a_tell a_read_lore a__law_twice_right a_show_saying a_show_entry a_Lore_base a_Lore_entries a_show_lore a_NoEntry___init__ a_Lore_drop a_is_listing a_is_beginning a_House___init__ a_Lore___len__ a_law a_House a_Lore a_BadHouse a_BadMoment a_BadSaying a_BadTeller a_NoEntry a_SameMoment a_TRUSTED tk_FIGURES tk_LEAST_BASE tk_LETTERS tk_MOST_BASE tk_MOST_FIGURES) (G_figures_of : FnOk P w K mg base CX0 1 a_figures_of fd_figures_of ["word"] (lift K (sp_figures_of))) (b_figures_of : Binds K fd_figures_of ["word"] []) (G_is_saying_a : FnOk P w K mg base CX0 3 a_is_saying_a fd_is_saying_a ["thing"] (lift K (sp_is_saying_a))) (b_is_saying_a : Binds K fd_is_saying_a ["thing"] []) : FnOk P w K mg base CX0 4 a_saying_of_2 fd ["words"] (lift K (sp_saying_of_2)) := by
  refine fn_ok (ds := d_saying_of_2) F sc_saying_of_2 (len_saying_of_2) (fun cdv A outer s H E B hr hB hm => ?_) (d_saying_of_2_ok)
  exact (q_cons (q_if (L2.PW.pt (q_or (q_tcmp (op_neD hr.units) rop_ne (toV (q_callB call_len3 rc_len (by rfl) T.b_len (by decide +kernel) (q_xcons (toV (q_var (pv 0))) q_xnil))) (toV q_int) (nomark _)) (q_or1 (q_tcmp (op_neD hr.units) rop_ne (toV (q_ix (toV (q_var (pv 0))) (toV q_int) (fun _ _ => rfl))) (toV q_str) (nomark _))))) (q_cons (q_ret hm q_non) q_nil) q_nil) (q_cons (q_par (i := 2) (j := 3) rfl sc_saying_of_2.nd rfl rfl (by decide) rfl rfl (q_acons (q_call G_figures_of (hr.mono (by decide)) rfl T.g_figures_of T.k_figures_of b_figures_of .nil (fun _ _ => RelL.nil) pass0 (q_acons (q_ix (toV (q_var (pv 0))) (toV q_int) (fun _ _ => rfl)) q_anil)) (q_acons (q_call G_figures_of (hr.mono (by decide)) rfl T.g_figures_of T.k_figures_of b_figures_of .nil (fun _ _ => RelL.nil) pass0 (q_acons (q_ix (toV (q_var (pv 0))) (toV q_int) (fun _ _ => rfl)) q_anil)) q_anil)) (by rfl)) (q_cons (q_if (L2.PW.pt (q_or (q_tcmp op_isN rop_isN (toV (q_var (pv 2))) (toV q_non) (nomark _)) (q_or1 (q_tcmp op_isN rop_isN (toV (q_var (pv 3))) (toV q_non) (nomark _))))) (q_cons (q_ret hm q_non) q_nil) q_nil) (q_cons (q_set (i := 1) sc_saying_of_2.nd rfl (Or.inl rfl) (q_tup (q_acons (q_fs (q_je q_str (q_jv (q_ix (toV (q_var (pv 0))) (toV q_int) (fun _ _ => rfl)) q_jnil))) (q_acons (q_var (pv 2)) (q_acons (q_var (pv 3)) q_anil))))) (q_cons (q_ret hm (q_ifE (q_tval (q_call G_is_saying_a (hr.mono (by decide)) rfl T.g_is_saying_a T.k_is_saying_a b_is_saying_a .nil (fun _ _ => RelL.nil) pass0 (q_acons (q_var (pv 1)) q_anil))) (q_var (pv 1)) q_non)) q_nil)))))
theorem sc_entry_of_2 : FnScope N_entry_of_2 ["words"] (defScope s_entry_of_2) := ⟨rfl, rfl, rfl, by decide +kernel, rfl, by decide +kernel, by decide +kernel⟩
theorem ok_entry_of_2 {fd fd_figures_of fd_is_word_a fd_saying_of_2 : FuncData} (F : Fun K "entry_of" "entry_of" s_entry_of_2 a_entry_of_2 fd) (T : Tx w K mg a__law_draw a__law_beginning a_heap_of a_House_ahead_of a_House_said a__law_sighted a__law_words a__law_entries_b a_is_whole a_is_moment_a a_is_count a_is_saying_a a_is_word_a a_BadMoment___init__ a_BadSaying___init__ a_BadTeller___init__ a_SameMoment___init__ a_Lore_put a_Lore_leaves a_Lore_sees a_Lore_trusts a__law_tell_2 a_is_base a_BadHouse___init__ a_Lore___init__ a__law_lore_2 a__law_mixed a__law_pen a__law_row_3 a_figures_of a_base_of a_saying_of_2 a_entry_of_2 a_tell a_read_lore a__law_twice_right a_show_saying a_show_entry a_Lore_base a_Lore_entries a_show_lore a_NoEntry___init__ a_Lore_drop a_is_listing a_is_beginning a_House___init__ a_Lore___len__ a_law a_House a_Lore a_BadHouse a_BadMoment a_BadSaying a_BadTeller a_NoEntry a_SameMoment a_TRUSTED tk_FIGURES tk_LEAST_BASE tk_LETTERS tk_MOST_BASE tk_MOST_FIGURES) (G_figures_of : FnOk P w K mg base CX0 1 a_figures_of fd_figures_of ["word"] (lift K (sp_figures_of))) (b_figures_of : Binds K fd_figures_of ["word"] []) (G_is_word_a : FnOk P w K mg base CX0 1 a_is_word_a fd_is_word_a ["thing"] (lift K (sp_is_word_a))) (b_is_word_a : Binds K fd_is_word_a ["thing"] []) (G_saying_of_2 : FnOk P w K mg base CX0 4 a_saying_of_2 fd_saying_of_2 ["words"] (lift K (sp_saying_of_2))) (b_saying_of_2 : Binds K fd_saying_of_2 ["words"] []) : FnOk P w K mg base CX0 5 a_entry_of_2 fd ["words"] (lift K (sp_entry_of_2)) := by
  refine fn_ok (ds := d_entry_of_2) F sc_entry_of_2 (len_entry_of_2) (fun cdv A outer s H E B hr hB hm => ?_) (d_entry_of_2_ok)
  exact (q_cons (q_set (i := 1) sc_entry_of_2.nd rfl (Or.inl rfl) (q_call G_figures_of (hr.mono (by decide)) rfl T.g_figures_of T.k_figures_of b_figures_of .nil (fun _ _ => RelL.nil) pass0 (q_acons (q_ix (toV (q_var (pv 0))) (toV q_int) (fun _ _ => rfl)) q_anil))) (q_cons (q_if (L2.PW.pt (q_or (q_tcmp op_isN rop_isN (toV (q_var (pv 1))) (toV q_non) (nomark _)) (q_or (q_tcmp op_lt rop_lt (toV (q_callB call_len3 rc_len (by rfl) T.b_len (by decide +kernel) (q_xcons (toV (q_var (pv 0))) q_xnil))) (toV q_int) (nomark _)) (q_or1 (q_not (q_tval (q_call G_is_word_a (hr.mono (by decide)) rfl T.g_is_word_a T.k_is_word_a b_is_word_a .nil (fun _ _ => RelL.nil) pass0 (q_acons (q_ix (toV (q_var (pv 0))) (toV q_int) (fun _ _ => rfl)) q_anil)))))))) (q_cons (q_ret hm q_non) q_nil) q_nil) (q_cons (q_if (L2.PW.pt (q_and (q_tcmp (op_eqD hr.units) rop_eq (toV (q_ix (toV (q_var (pv 0))) (toV q_int) (fun _ _ => rfl))) (toV q_str) (nomark _)) (q_and (q_tcmp (op_eqD hr.units) rop_eq (toV (q_callB call_len3 rc_len (by rfl) T.b_len (by decide +kernel) (q_xcons (toV (q_var (pv 0))) q_xnil))) (toV q_int) (nomark _)) (q_and1 (q_tinK T.dk_TRUSTED (toV (q_ix (toV (q_var (pv 0))) (toV q_int) (fun _ _ => rfl))) rfl T.g_TRUSTED))))) (q_cons (q_ret hm (q_tup (q_acons (q_var (pv 1)) (q_acons (q_ix (toV (q_var (pv 0))) (toV q_int) (fun _ _ => rfl)) (q_acons (q_ixK T.dk_TRUSTED (.bl T.dv_TRUSTED_0 (.bl T.dv_TRUSTED_1 .nil)) (toV (q_ix (toV (q_var (pv 0))) (toV q_int) (fun _ _ => rfl))) rfl T.g_TRUSTED (fun _ _ => rfl)) q_anil))))) q_nil) q_nil) (q_cons (q_set (i := 2) sc_entry_of_2.nd rfl (Or.inl rfl) (q_call G_saying_of_2 (hr.mono (by decide)) rfl T.g_saying_of_2 T.k_saying_of_2 b_saying_of_2 .nil (fun _ _ => RelL.nil) pass0 (q_acons (q_slice (toV (q_var (pv 0))) (q_osome (toV q_int)) q_onone) q_anil))) (q_cons (q_ret hm (q_ifE (L2.PW.pt (q_and (q_tcmp (op_eqD hr.units) rop_eq (toV (q_ix (toV (q_var (pv 0))) (toV q_int) (fun _ _ => rfl))) (toV q_str) (nomark _)) (q_and1 (q_tcmp op_notN rop_notN (toV (q_var (pv 2))) (toV q_non) (nomark _))))) (q_tup (q_acons (q_var (pv 1)) (q_acons (q_ix (toV (q_var (pv 0))) (toV q_int) (fun _ _ => rfl)) (q_acons (q_var (pv 2)) q_anil)))) q_non)) q_nil)))))
theorem sc_tell : FnScope N_tell ["lore", "entry"] (defScope s_tell) := ⟨rfl, rfl, rfl, by decide +kernel, rfl, by decide +kernel, by decide +kernel⟩
theorem ok_tell {fd fd_Lore_leaves fd_Lore_sees fd_Lore_trusts : FuncData} (F : Fun K "tell" "tell" s_tell a_tell fd) (T : Tx w K mg a__law_draw a__law_beginning a_heap_of a_House_ahead_of a_House_said a__law_sighted a__law_words a__law_entries_b a_is_whole a_is_moment_a a_is_count a_is_saying_a a_is_word_a a_BadMoment___init__ a_BadSaying___init__ a_BadTeller___init__ a_SameMoment___init__ a_Lore_put a_Lore_leaves a_Lore_sees a_Lore_trusts a__law_tell_2 a_is_base a_BadHouse___init__ a_Lore___init__ a__law_lore_2 a__law_mixed a__law_pen a__law_row_3 a_figures_of a_base_of a_saying_of_2 a_entry_of_2 a_tell a_read_lore a__law_twice_right a_show_saying a_show_entry a_Lore_base a_Lore_entries a_show_lore a_NoEntry___init__ a_Lore_drop a_is_listing a_is_beginning a_House___init__ a_Lore___len__ a_law a_House a_Lore a_BadHouse a_BadMoment a_BadSaying a_BadTeller a_NoEntry a_SameMoment a_TRUSTED tk_FIGURES tk_LEAST_BASE tk_LETTERS tk_MOST_BASE tk_MOST_FIGURES) (G_Lore_leaves : FnOk P w K mg base (L2.CX P w) 5 a_Lore_leaves fd_Lore_leaves ["self", "moment", "teller"] (liftE K (xcl a_BadHouse a_BadMoment a_BadSaying a_BadTeller a_NoEntry a_SameMoment) (sp_Lore_leaves (Cl.mk a_House a_Lore a_law a_law a_law)))) (b_Lore_leaves : Binds K fd_Lore_leaves ["self", "moment", "teller"] []) (G_Lore_sees : FnOk P w K mg base (L2.CX P w) 5 a_Lore_sees fd_Lore_sees ["self", "moment", "teller", "saying"] (liftE K (xcl a_BadHouse a_BadMoment a_BadSaying a_BadTeller a_NoEntry a_SameMoment) (sp_Lore_sees (Cl.mk a_House a_Lore a_law a_law a_law)))) (b_Lore_sees : Binds K fd_Lore_sees ["self", "moment", "teller", "saying"] []) (G_Lore_trusts : FnOk P w K mg base (L2.CX P w) 5 a_Lore_trusts fd_Lore_trusts ["self", "moment", "teller"] (liftE K (xcl a_BadHouse a_BadMoment a_BadSaying a_BadTeller a_NoEntry a_SameMoment) (sp_Lore_trusts (Cl.mk a_House a_Lore a_law a_law a_law)))) (b_Lore_trusts : Binds K fd_Lore_trusts ["self", "moment", "teller"] []) : FnOk P w K mg base (L2.CX P w) 6 a_tell fd ["lore", "entry"] (liftE K (xcl a_BadHouse a_BadMoment a_BadSaying a_BadTeller a_NoEntry a_SameMoment) (sp_tell (Cl.mk a_House a_Lore a_law a_law a_law))) := by
  refine fn_okE (cl := (xcl a_BadHouse a_BadMoment a_BadSaying a_BadTeller a_NoEntry a_SameMoment)) (ds := d_tell (Cl.mk a_House a_Lore a_law a_law a_law)) F sc_tell (len_tell (Cl.mk a_House a_Lore a_law a_law a_law)) (fun cdv A outer s H E B Px hr hB hm hE => ?_) (d_tell_ok (Cl.mk a_House a_Lore a_law a_law a_law))
  exact (q_cons (q_asg (q_var (pv 1)) (q_gtup (n := 3) rfl (q_gcons (q_gname (vs := [2, 3, 4]) (pg_name (i := 2) sc_tell.nd rfl (Or.inl rfl)) (by decide)) (q_gcons (q_gname (vs := [2, 3, 4]) (pg_name (i := 3) sc_tell.nd rfl (Or.inl rfl)) (by decide)) (q_gcons (q_gname (vs := [2, 3, 4]) (pg_name (i := 4) sc_tell.nd rfl (Or.inl rfl)) (by decide)) q_gnil))))) (q_cons (q_if (q_tval (q_isi (c := .tup) (toV (q_var (pv 4))) rfl T.b_isinstance rfl T.b_tuple (by rfl))) (q_cons (q_drop (q_XE (W := fun c d _ H => E c d H) hE (z_meth (q_var (pv 0)) T.cl_Lore T.m_Lore_sees G_Lore_sees (hr.mono (by decide)) b_Lore_sees (fun σ => passAt (takes_of rfl rfl rfl rfl) σ) (q_acons (q_var (pv 2)) (q_acons (q_var (pv 3)) (q_acons (q_var (pv 4)) q_anil)))))) q_nil) (q_cons (q_if (q_tval (q_var (pv 4))) (q_cons (q_drop (q_XE (W := fun c d _ H => E c d H) hE (z_meth (q_var (pv 0)) T.cl_Lore T.m_Lore_trusts G_Lore_trusts (hr.mono (by decide)) b_Lore_trusts (fun σ => passAt (takes_of rfl rfl rfl rfl) σ) (q_acons (q_var (pv 2)) (q_acons (q_var (pv 3)) q_anil))))) q_nil) (q_cons (q_drop (q_XE (W := fun c d _ H => E c d H) hE (z_meth (q_var (pv 0)) T.cl_Lore T.m_Lore_leaves G_Lore_leaves (hr.mono (by decide)) b_Lore_leaves (fun σ => passAt (takes_of rfl rfl rfl rfl) σ) (q_acons (q_var (pv 2)) (q_acons (q_var (pv 3)) q_anil))))) q_nil)) q_nil)) q_nil))
theorem sc_read_lore : FnScope N_read_lore ["text"] (defScope s_read_lore) := ⟨rfl, rfl, rfl, by decide +kernel, rfl, by decide +kernel, by decide +kernel⟩
theorem ok_read_lore {fd fd_base_of fd_entry_of_2 fd_tell fd_Lore___init__ : FuncData} (F : Fun K "read_lore" "read_lore" s_read_lore a_read_lore fd) (T : Tx w K mg a__law_draw a__law_beginning a_heap_of a_House_ahead_of a_House_said a__law_sighted a__law_words a__law_entries_b a_is_whole a_is_moment_a a_is_count a_is_saying_a a_is_word_a a_BadMoment___init__ a_BadSaying___init__ a_BadTeller___init__ a_SameMoment___init__ a_Lore_put a_Lore_leaves a_Lore_sees a_Lore_trusts a__law_tell_2 a_is_base a_BadHouse___init__ a_Lore___init__ a__law_lore_2 a__law_mixed a__law_pen a__law_row_3 a_figures_of a_base_of a_saying_of_2 a_entry_of_2 a_tell a_read_lore a__law_twice_right a_show_saying a_show_entry a_Lore_base a_Lore_entries a_show_lore a_NoEntry___init__ a_Lore_drop a_is_listing a_is_beginning a_House___init__ a_Lore___len__ a_law a_House a_Lore a_BadHouse a_BadMoment a_BadSaying a_BadTeller a_NoEntry a_SameMoment a_TRUSTED tk_FIGURES tk_LEAST_BASE tk_LETTERS tk_MOST_BASE tk_MOST_FIGURES) (G_base_of : FnOk P w K mg base CX0 2 a_base_of fd_base_of ["row"] (lift K (sp_base_of))) (b_base_of : Binds K fd_base_of ["row"] []) (G_entry_of_2 : FnOk P w K mg base CX0 5 a_entry_of_2 fd_entry_of_2 ["words"] (lift K (sp_entry_of_2))) (b_entry_of_2 : Binds K fd_entry_of_2 ["words"] []) (G_tell : FnOk P w K mg base (L2.CX P w) 6 a_tell fd_tell ["lore", "entry"] (liftE K (xcl a_BadHouse a_BadMoment a_BadSaying a_BadTeller a_NoEntry a_SameMoment) (sp_tell (Cl.mk a_House a_Lore a_law a_law a_law)))) (b_tell : Binds K fd_tell ["lore", "entry"] []) (G_Lore___init__ : FnOk P w K mg base (L2.CX P w) 3 a_Lore___init__ fd_Lore___init__ ["self", "k"] (liftE K (xcl a_BadHouse a_BadMoment a_BadSaying a_BadTeller a_NoEntry a_SameMoment) (sp_Lore___init__ (Cl.mk a_House a_Lore a_law a_law a_law)))) (b_Lore___init__ : Binds K fd_Lore___init__ ["self", "k"] []) : FnOk P w K mg base (L2.CX P w) 7 a_read_lore fd ["text"] (liftE K (xcl a_BadHouse a_BadMoment a_BadSaying a_BadTeller a_NoEntry a_SameMoment) (sp_read_lore (Cl.mk a_House a_Lore a_law a_law a_law))) := by
  refine fn_okE (cl := (xcl a_BadHouse a_BadMoment a_BadSaying a_BadTeller a_NoEntry a_SameMoment)) (ds := d_read_lore (Cl.mk a_House a_Lore a_law a_law a_law)) F sc_read_lore (len_read_lore (Cl.mk a_House a_Lore a_law a_law a_law)) (fun cdv A outer s H E B Px hr hB hm hE => ?_) (d_read_lore_ok (Cl.mk a_House a_Lore a_law a_law a_law))
  exact (q_cons (q_if (q_not (q_tval (q_isi (c := .str) (toV (q_var (pv 0))) rfl T.b_isinstance rfl T.b_str (by rfl)))) (q_cons q_never q_nil) q_nil) (q_cons (q_asg (toE (q_split (q_var (pv 0)) q_str)) (q_gstar (vs := [2, 6]) rfl (q_gcons (q_gname (vs := [2, 6]) (pg_name (i := 2) sc_read_lore.nd rfl (Or.inl rfl)) (by decide)) (q_gcons (q_gname (vs := [2, 6]) (pg_name (i := 6) sc_read_lore.nd rfl (Or.inl rfl)) (by decide)) q_gnil)))) (q_cons (q_try0 (q_cons (q_set (i := 3) sc_read_lore.nd rfl (Or.inl rfl) (q_makeO T.mk_Lore (fn_plainE G_Lore___init__) (hr.mono (by decide)) rfl T.g_Lore b_Lore___init__ pass0 (q_acons (q_callO G_base_of (hr.mono (by decide)) rfl T.g_base_of T.k_base_of b_base_of .nil (fun _ _ => RelL.nil) pass0 (q_acons (q_var (pv 2)) q_anil)) q_anil))) q_nil)) (q_cons (q_setLc (i := 1) (own := [("row", 4)]) rfl sc_read_lore.nd rfl rfl (sw_true rfl rfl rfl (by decide +kernel)) (q_iany (q_var (pv 6))) (blkOk_by (N := N_read_lore) (sc := defScope s_read_lore) (own := [("row", 4)]) (by decide +kernel)) (fun _ _ _ _ _ B => (q_gname (vs := [4]) (pg_name (i := 4) sc_read_lore.nd rfl (Or.inl rfl)) (by decide))) (fun _ _ _ _ _ => pts_U0) (fun _ _ _ _ _ B => (q_tup (q_acons (q_var (pv 4)) (q_acons (q_callO G_entry_of_2 (hr.mono (by decide)) rfl T.g_entry_of_2 T.k_entry_of_2 b_entry_of_2 .nil (fun _ _ => RelL.nil) pass0 (q_acons (toE (q_split (q_var (pv 4)) q_str)) q_anil)) q_anil))))) (q_cons (q_for (passes_of rfl) rfl (q_iany (q_var (pv 1))) (q_gtup (n := 2) rfl (q_gcons (q_gname (vs := [4, 5]) (pg_name (i := 4) sc_read_lore.nd rfl (Or.inl rfl)) (by decide)) (q_gcons (q_gname (vs := [4, 5]) (pg_name (i := 5) sc_read_lore.nd rfl (Or.inl rfl)) (by decide)) q_gnil))) (q_cons (q_if (q_tcmp op_isN rop_isN (toV (q_var (pv 5))) (toV q_non) (nomark _)) (q_cons q_never q_nil) q_nil) q_nil)) (q_cons (q_for (passes_of rfl) rfl (q_iany (q_var (pv 1))) (q_gtup (n := 2) rfl (q_gcons (q_gname (vs := [4, 5]) (pg_name (i := 4) sc_read_lore.nd rfl (Or.inl rfl)) (by decide)) (q_gcons (q_gname (vs := [4, 5]) (pg_name (i := 5) sc_read_lore.nd rfl (Or.inl rfl)) (by decide)) q_gnil))) (q_cons (q_drop (q_XE (W := fun c d _ H => E c d H) hE (z_call (pe_callS G_tell (hr.mono (by decide)) rfl T.g_tell T.k_tell b_tell (fun σ => passAt (takes_of rfl rfl rfl rfl) σ) (q_acons (q_var (pv 3)) (q_acons (q_var (pv 5)) q_anil)))))) q_nil)) (q_cons (q_ret hm (q_var (pv 3))) q_nil)))))))
theorem sc__law_twice_right : FnScope N__law_twice_right ["_law_head", "_law_rows"] (defScope s__law_twice_right) := ⟨rfl, rfl, rfl, by decide +kernel, rfl, by decide +kernel, by decide +kernel⟩
theorem ok__law_twice_right {fd fd_read_lore : FuncData} (F : Fun K "_law_twice_right" "_law_twice_right" s__law_twice_right a__law_twice_right fd) (T : Tx w K mg a__law_draw a__law_beginning a_heap_of a_House_ahead_of a_House_said a__law_sighted a__law_words a__law_entries_b a_is_whole a_is_moment_a a_is_count a_is_saying_a a_is_word_a a_BadMoment___init__ a_BadSaying___init__ a_BadTeller___init__ a_SameMoment___init__ a_Lore_put a_Lore_leaves a_Lore_sees a_Lore_trusts a__law_tell_2 a_is_base a_BadHouse___init__ a_Lore___init__ a__law_lore_2 a__law_mixed a__law_pen a__law_row_3 a_figures_of a_base_of a_saying_of_2 a_entry_of_2 a_tell a_read_lore a__law_twice_right a_show_saying a_show_entry a_Lore_base a_Lore_entries a_show_lore a_NoEntry___init__ a_Lore_drop a_is_listing a_is_beginning a_House___init__ a_Lore___len__ a_law a_House a_Lore a_BadHouse a_BadMoment a_BadSaying a_BadTeller a_NoEntry a_SameMoment a_TRUSTED tk_FIGURES tk_LEAST_BASE tk_LETTERS tk_MOST_BASE tk_MOST_FIGURES) (G_read_lore : FnOk P w K mg base (L2.CX P w) 7 a_read_lore fd_read_lore ["text"] (liftE K (xcl a_BadHouse a_BadMoment a_BadSaying a_BadTeller a_NoEntry a_SameMoment) (sp_read_lore (Cl.mk a_House a_Lore a_law a_law a_law)))) (b_read_lore : Binds K fd_read_lore ["text"] []) : FnOk P w K mg base CX0 8 a__law_twice_right fd ["_law_head", "_law_rows"] (lift K (sp__law_twice_right (Cl.mk a_House a_Lore a_law a_law a_law))) := by
  refine fn_ok (ds := d__law_twice_right (Cl.mk a_House a_Lore a_law a_law a_law)) F sc__law_twice_right (len__law_twice_right (Cl.mk a_House a_Lore a_law a_law a_law)) (fun cdv A outer s H E B hr hB hm => ?_) (d__law_twice_right_ok (Cl.mk a_House a_Lore a_law a_law a_law))
  exact (q_cons (q_set (i := 2) sc__law_twice_right.nd rfl (Or.inl rfl) q_non) (q_cons (q_tryDrop rfl rfl sc__law_twice_right.nd takes_none5 (hq_set (i := 2) (j := 3) (f := "moment") ⟨rfl, by decide, .inl T.g_SameMoment⟩ rfl T.tx_SameMoment rfl rfl (by decide) (show 2 < N__law_twice_right.length by decide) (fun a dd oe pn hz hf => ps_set (i := 2) sc__law_twice_right.nd rfl (Or.inl rfl) (sx_fld ⟨T.ex_SameMoment.hg, T.ex_SameMoment.hk, T.ex_SameMoment.hs, T.ex_SameMoment.hd⟩ T.no_SameMoment hz hf List.mem_cons_self (pv 3))) hq_none) (fun _ _ => by rfl) (fun W pn xe tk => (z_call (pe_callS G_read_lore (hr.mono (by decide)) rfl T.g_read_lore T.k_read_lore b_read_lore (fun σ => passAt tk σ) (q_acons (q_join q_str (q_op op_add4 rop_add (toV (q_op op_add4 rop_add (toV (toE (q_lst (q_acons (q_var (pv 0)) q_anil)))) (toV (q_var (pv 1))))) (toV (toE (q_lst (q_acons (q_op op_add4 rop_add (toV (q_ix (toV (toE (q_split (q_ix (toV (q_var (pv 1))) (toV q_int) (fun _ _ => rfl)) q_str))) (toV q_int) (fun _ _ => rfl))) (toV q_str)) q_anil)))))) q_anil))))) (q_cons (q_ret hm (q_cmp (op_eqD hr.units) rop_eq (toV (q_var (pv 2))) (toV (q_callTy call_int_str rc_intT (by rfl) T.b_int (by decide +kernel) (q_xcons (toV (q_ix (toV (toE (q_split (q_ix (toV (q_var (pv 1))) (toV q_int) (fun _ _ => rfl)) q_str))) (toV q_int) (fun _ _ => rfl))) q_xnil))) (nomark _))) q_nil)))
theorem sc_show_saying : FnScope N_show_saying ["saying"] (defScope s_show_saying) := ⟨rfl, rfl, rfl, by decide +kernel, rfl, by decide +kernel, by decide +kernel⟩
theorem ok_show_saying {fd : FuncData} (F : Fun K "show_saying" "show_saying" s_show_saying a_show_saying fd) (T : Tx w K mg a__law_draw a__law_beginning a_heap_of a_House_ahead_of a_House_said a__law_sighted a__law_words a__law_entries_b a_is_whole a_is_moment_a a_is_count a_is_saying_a a_is_word_a a_BadMoment___init__ a_BadSaying___init__ a_BadTeller___init__ a_SameMoment___init__ a_Lore_put a_Lore_leaves a_Lore_sees a_Lore_trusts a__law_tell_2 a_is_base a_BadHouse___init__ a_Lore___init__ a__law_lore_2 a__law_mixed a__law_pen a__law_row_3 a_figures_of a_base_of a_saying_of_2 a_entry_of_2 a_tell a_read_lore a__law_twice_right a_show_saying a_show_entry a_Lore_base a_Lore_entries a_show_lore a_NoEntry___init__ a_Lore_drop a_is_listing a_is_beginning a_House___init__ a_Lore___len__ a_law a_House a_Lore a_BadHouse a_BadMoment a_BadSaying a_BadTeller a_NoEntry a_SameMoment a_TRUSTED tk_FIGURES tk_LEAST_BASE tk_LETTERS tk_MOST_BASE tk_MOST_FIGURES) : FnOk P w K mg base CX0 1 a_show_saying fd ["saying"] (lift K (sp_show_saying)) := by
  refine fn_ok (ds := d_show_saying) F sc_show_saying (len_show_saying) (fun cdv A outer s H E B hr hB hm => ?_) (d_show_saying_ok)
  exact (q_cons (q_asg (q_var (pv 0)) (q_gtup (n := 3) rfl (q_gcons (q_gname (vs := [1, 2, 3]) (pg_name (i := 1) sc_show_saying.nd rfl (Or.inl rfl)) (by decide)) (q_gcons (q_gname (vs := [1, 2, 3]) (pg_name (i := 2) sc_show_saying.nd rfl (Or.inl rfl)) (by decide)) (q_gcons (q_gname (vs := [1, 2, 3]) (pg_name (i := 3) sc_show_saying.nd rfl (Or.inl rfl)) (by decide)) q_gnil))))) (q_cons (q_ret hm (q_fs (q_jv (q_var (pv 2)) (q_je q_str (q_jv (q_var (pv 1)) (q_je q_str (q_jv (q_var (pv 3)) q_jnil))))))) q_nil))
theorem sc_show_entry : FnScope N_show_entry ["entry"] (defScope s_show_entry) := ⟨rfl, rfl, rfl, by decide +kernel, rfl, by decide +kernel, by decide +kernel⟩
theorem ok_show_entry {fd fd_show_saying : FuncData} (F : Fun K "show_entry" "show_entry" s_show_entry a_show_entry fd) (T : Tx w K mg a__law_draw a__law_beginning a_heap_of a_House_ahead_of a_House_said a__law_sighted a__law_words a__law_entries_b a_is_whole a_is_moment_a a_is_count a_is_saying_a a_is_word_a a_BadMoment___init__ a_BadSaying___init__ a_BadTeller___init__ a_SameMoment___init__ a_Lore_put a_Lore_leaves a_Lore_sees a_Lore_trusts a__law_tell_2 a_is_base a_BadHouse___init__ a_Lore___init__ a__law_lore_2 a__law_mixed a__law_pen a__law_row_3 a_figures_of a_base_of a_saying_of_2 a_entry_of_2 a_tell a_read_lore a__law_twice_right a_show_saying a_show_entry a_Lore_base a_Lore_entries a_show_lore a_NoEntry___init__ a_Lore_drop a_is_listing a_is_beginning a_House___init__ a_Lore___len__ a_law a_House a_Lore a_BadHouse a_BadMoment a_BadSaying a_BadTeller a_NoEntry a_SameMoment a_TRUSTED tk_FIGURES tk_LEAST_BASE tk_LETTERS tk_MOST_BASE tk_MOST_FIGURES) (G_show_saying : FnOk P w K mg base CX0 1 a_show_saying fd_show_saying ["saying"] (lift K (sp_show_saying))) (b_show_saying : Binds K fd_show_saying ["saying"] []) : FnOk P w K mg base CX0 2 a_show_entry fd ["entry"] (lift K (sp_show_entry)) := by
  refine fn_ok (ds := d_show_entry) F sc_show_entry (len_show_entry) (fun cdv A outer s H E B hr hB hm => ?_) (d_show_entry_ok)
  exact (q_cons (q_asg (q_var (pv 0)) (q_gtup (n := 3) rfl (q_gcons (q_gname (vs := [1, 2, 3]) (pg_name (i := 1) sc_show_entry.nd rfl (Or.inl rfl)) (by decide)) (q_gcons (q_gname (vs := [1, 2, 3]) (pg_name (i := 2) sc_show_entry.nd rfl (Or.inl rfl)) (by decide)) (q_gcons (q_gname (vs := [1, 2, 3]) (pg_name (i := 3) sc_show_entry.nd rfl (Or.inl rfl)) (by decide)) q_gnil))))) (q_cons (q_if (q_tval (q_isi (c := .bl) (toV (q_var (pv 3))) rfl T.b_isinstance rfl T.b_bool (by rfl))) (q_cons (q_ret hm (q_op op_add4 rop_add (toV (q_fs (q_jv (q_var (pv 1)) (q_je q_str (q_jv (q_var (pv 2)) (q_je q_str q_jnil)))))) (toV (q_ifE (q_tval (q_var (pv 3))) q_str q_str)))) q_nil) q_nil) (q_cons (q_ret hm (q_fs (q_jv (q_var (pv 1)) (q_je q_str (q_jv (q_var (pv 2)) (q_je q_str (q_jv (q_call G_show_saying (hr.mono (by decide)) rfl T.g_show_saying T.k_show_saying b_show_saying .nil (fun _ _ => RelL.nil) pass0 (q_acons (q_var (pv 3)) q_anil)) q_jnil))))))) q_nil)))
theorem sc_Lore_base : FnScope N_Lore_base ["self"] (defScope s_Lore_base) := ⟨rfl, rfl, rfl, by decide +kernel, rfl, by decide +kernel, by decide +kernel⟩
theorem ok_Lore_base {fd : FuncData} (F : Fun K "base" "Lore.base" s_Lore_base a_Lore_base fd) (T : Tx w K mg a__law_draw a__law_beginning a_heap_of a_House_ahead_of a_House_said a__law_sighted a__law_words a__law_entries_b a_is_whole a_is_moment_a a_is_count a_is_saying_a a_is_word_a a_BadMoment___init__ a_BadSaying___init__ a_BadTeller___init__ a_SameMoment___init__ a_Lore_put a_Lore_leaves a_Lore_sees a_Lore_trusts a__law_tell_2 a_is_base a_BadHouse___init__ a_Lore___init__ a__law_lore_2 a__law_mixed a__law_pen a__law_row_3 a_figures_of a_base_of a_saying_of_2 a_entry_of_2 a_tell a_read_lore a__law_twice_right a_show_saying a_show_entry a_Lore_base a_Lore_entries a_show_lore a_NoEntry___init__ a_Lore_drop a_is_listing a_is_beginning a_House___init__ a_Lore___len__ a_law a_House a_Lore a_BadHouse a_BadMoment a_BadSaying a_BadTeller a_NoEntry a_SameMoment a_TRUSTED tk_FIGURES tk_LEAST_BASE tk_LETTERS tk_MOST_BASE tk_MOST_FIGURES) : FnOk P w K mg base CX0 1 a_Lore_base fd ["self"] (lift K (sp_Lore_base (Cl.mk a_House a_Lore a_law a_law a_law))) := by
  refine fn_ok (ds := d_Lore_base (Cl.mk a_House a_Lore a_law a_law a_law)) F sc_Lore_base (len_Lore_base (Cl.mk a_House a_Lore a_law a_law a_law)) (fun cdv A outer s H E B hr hB hm => ?_) (d_Lore_base_ok (Cl.mk a_House a_Lore a_law a_law a_law))
  exact (q_cons (q_ret hm (q_fldO (q_var (pv 0)) T.cl_Lore T.n_Lore_kept_base)) q_nil)
theorem sc_Lore_entries : FnScope N_Lore_entries ["self", "upto"] (defScope s_Lore_entries) := ⟨rfl, rfl, rfl, by decide +kernel, rfl, by decide +kernel, by decide +kernel⟩
theorem ok_Lore_entries {fd : FuncData} (F : Fun K "entries" "Lore.entries" s_Lore_entries a_Lore_entries fd) (T : Tx w K mg a__law_draw a__law_beginning a_heap_of a_House_ahead_of a_House_said a__law_sighted a__law_words a__law_entries_b a_is_whole a_is_moment_a a_is_count a_is_saying_a a_is_word_a a_BadMoment___init__ a_BadSaying___init__ a_BadTeller___init__ a_SameMoment___init__ a_Lore_put a_Lore_leaves a_Lore_sees a_Lore_trusts a__law_tell_2 a_is_base a_BadHouse___init__ a_Lore___init__ a__law_lore_2 a__law_mixed a__law_pen a__law_row_3 a_figures_of a_base_of a_saying_of_2 a_entry_of_2 a_tell a_read_lore a__law_twice_right a_show_saying a_show_entry a_Lore_base a_Lore_entries a_show_lore a_NoEntry___init__ a_Lore_drop a_is_listing a_is_beginning a_House___init__ a_Lore___len__ a_law a_House a_Lore a_BadHouse a_BadMoment a_BadSaying a_BadTeller a_NoEntry a_SameMoment a_TRUSTED tk_FIGURES tk_LEAST_BASE tk_LETTERS tk_MOST_BASE tk_MOST_FIGURES) : FnOk P w K mg base CX0 1 a_Lore_entries fd ["self", "upto"] (liftN K (sp_Lore_entries (Cl.mk a_House a_Lore a_law a_law a_law))) := by
  refine fn_okN (ds := d_Lore_entries (Cl.mk a_House a_Lore a_law a_law a_law)) F sc_Lore_entries (len_Lore_entries (Cl.mk a_House a_Lore a_law a_law a_law)) (fun cdv A outer s H E B hr hB hm => ?_) (d_Lore_entries_ok (Cl.mk a_House a_Lore a_law a_law a_law))
  exact (q_cons (q_retNew hm (q_lc (own := [("moment", 2)]) rfl sc_Lore_entries.nd (q_iany (toE (q_sortO rfl (by rfl) T.b_sorted (q_fldO (q_var (pv 0)) T.cl_Lore T.n_Lore_kept)))) (blkOk_by (N := N_Lore_entries) (sc := defScope s_Lore_entries) (own := [("moment", 2)]) (by decide +kernel)) (fun _ _ _ _ _ B => (q_gname (vs := [2]) (pg_name (i := 2) sc_Lore_entries.nd rfl (Or.inl rfl)) (by decide))) (fun _ _ _ _ _ => pts_U1 fun B => (L2.PW.pt (q_or (q_tcmp op_isN rop_isN (toV (q_var (pv 1))) (toV q_non) (nomark _)) (q_or1 (q_tcmp op_le rop_le (toV (q_var (pv 2))) (toV (q_var (pv 1))) (nomark _)))))) (fun _ _ _ _ _ B => (q_getO (hu_of hr) (q_fldO (q_var (pv 0)) T.cl_Lore T.n_Lore_kept) (toV (q_var (pv 2))) (fun _ _ => rfl))))) q_nil)
theorem sc_show_lore : FnScope N_show_lore ["lore"] (defScope s_show_lore) := ⟨rfl, rfl, rfl, by decide +kernel, rfl, by decide +kernel, by decide +kernel⟩
theorem ok_show_lore {fd fd_show_entry fd_Lore_base fd_Lore_entries : FuncData} (F : Fun K "show_lore" "show_lore" s_show_lore a_show_lore fd) (T : Tx w K mg a__law_draw a__law_beginning a_heap_of a_House_ahead_of a_House_said a__law_sighted a__law_words a__law_entries_b a_is_whole a_is_moment_a a_is_count a_is_saying_a a_is_word_a a_BadMoment___init__ a_BadSaying___init__ a_BadTeller___init__ a_SameMoment___init__ a_Lore_put a_Lore_leaves a_Lore_sees a_Lore_trusts a__law_tell_2 a_is_base a_BadHouse___init__ a_Lore___init__ a__law_lore_2 a__law_mixed a__law_pen a__law_row_3 a_figures_of a_base_of a_saying_of_2 a_entry_of_2 a_tell a_read_lore a__law_twice_right a_show_saying a_show_entry a_Lore_base a_Lore_entries a_show_lore a_NoEntry___init__ a_Lore_drop a_is_listing a_is_beginning a_House___init__ a_Lore___len__ a_law a_House a_Lore a_BadHouse a_BadMoment a_BadSaying a_BadTeller a_NoEntry a_SameMoment a_TRUSTED tk_FIGURES tk_LEAST_BASE tk_LETTERS tk_MOST_BASE tk_MOST_FIGURES) (G_show_entry : FnOk P w K mg base CX0 2 a_show_entry fd_show_entry ["entry"] (lift K (sp_show_entry))) (b_show_entry : Binds K fd_show_entry ["entry"] []) (G_Lore_base : FnOk P w K mg base CX0 1 a_Lore_base fd_Lore_base ["self"] (lift K (sp_Lore_base (Cl.mk a_House a_Lore a_law a_law a_law)))) (b_Lore_base : Binds K fd_Lore_base ["self"] []) (G_Lore_entries : FnOk P w K mg base CX0 1 a_Lore_entries fd_Lore_entries ["self", "upto"] (liftN K (sp_Lore_entries (Cl.mk a_House a_Lore a_law a_law a_law)))) (b_Lore_entries : Binds K fd_Lore_entries ["self", "upto"] [Value.none]) : FnOk P w K mg base CX0 3 a_show_lore fd ["lore"] (lift K (sp_show_lore (Cl.mk a_House a_Lore a_law a_law a_law))) := by
  refine fn_ok (ds := d_show_lore (Cl.mk a_House a_Lore a_law a_law a_law)) F sc_show_lore (len_show_lore (Cl.mk a_House a_Lore a_law a_law a_law)) (fun cdv A outer s H E B hr hB hm => ?_) (d_show_lore_ok (Cl.mk a_House a_Lore a_law a_law a_law))
  exact (q_cons (q_ret hm (q_join q_str (q_op op_add4 rop_add (toV (toE (q_lst (q_acons (q_fs (q_je q_str (q_jv (q_methO0 (q_var (pv 0)) T.cl_Lore T.m_Lore_base G_Lore_base (hr.mono (by decide)) b_Lore_base .nil (fun _ _ => RelL.nil) pass0) q_jnil))) q_anil)))) (toV (toE (q_lc (own := [("entry", 1)]) rfl sc_show_lore.nd (q_iany (toE (q_methNO0 (q_var (pv 0)) T.cl_Lore T.m_Lore_entries G_Lore_entries (hr.mono (by decide)) b_Lore_entries (dvs := [.non]) (.cons rfl .nil) (fun _ _ => RelL.cons (by unfold RelD; rfl) RelL.nil) pass0))) (blkOk_by (N := N_show_lore) (sc := defScope s_show_lore) (own := [("entry", 1)]) (by decide +kernel)) (fun _ _ _ _ _ B => (q_gname (vs := [1]) (pg_name (i := 1) sc_show_lore.nd rfl (Or.inl rfl)) (by decide))) (fun _ _ _ _ _ => pts_U0) (fun _ _ _ _ _ B => (q_callO G_show_entry (hr.mono (by decide)) rfl T.g_show_entry T.k_show_entry b_show_entry .nil (fun _ _ => RelL.nil) pass0 (q_acons (q_var (pv 1)) q_anil))))))))) q_nil)
theorem sc_NoEntry___init__ : FnScope N_NoEntry___init__ ["self", "moment"] (defScope s_NoEntry___init__) := ⟨rfl, rfl, rfl, by decide +kernel, rfl, by decide +kernel, by decide +kernel⟩
theorem ok_NoEntry___init__ {fd : FuncData} (F : Fun K "__init__" "NoEntry.__init__" s_NoEntry___init__ a_NoEntry___init__ fd) (T : Tx w K mg a__law_draw a__law_beginning a_heap_of a_House_ahead_of a_House_said a__law_sighted a__law_words a__law_entries_b a_is_whole a_is_moment_a a_is_count a_is_saying_a a_is_word_a a_BadMoment___init__ a_BadSaying___init__ a_BadTeller___init__ a_SameMoment___init__ a_Lore_put a_Lore_leaves a_Lore_sees a_Lore_trusts a__law_tell_2 a_is_base a_BadHouse___init__ a_Lore___init__ a__law_lore_2 a__law_mixed a__law_pen a__law_row_3 a_figures_of a_base_of a_saying_of_2 a_entry_of_2 a_tell a_read_lore a__law_twice_right a_show_saying a_show_entry a_Lore_base a_Lore_entries a_show_lore a_NoEntry___init__ a_Lore_drop a_is_listing a_is_beginning a_House___init__ a_Lore___len__ a_law a_House a_Lore a_BadHouse a_BadMoment a_BadSaying a_BadTeller a_NoEntry a_SameMoment a_TRUSTED tk_FIGURES tk_LEAST_BASE tk_LETTERS tk_MOST_BASE tk_MOST_FIGURES) : FnOk P w K mg base CX0 1 a_NoEntry___init__ fd ["self", "moment"] (spFx K "LookupError.__new__" kyTail "moment") := by
  exact fn_fx F sc_NoEntry___init__ (fun cdv A outer s H E => pss_cons (ps_expr (pe_kyinit (by rfl) T.b_KeyError T.vF_KeyError (pa_cons (pv 0) (pa_cons pe_str pa_nil)))) (pss_one (ps_fstG fxg_Key (pv 0) (pv 1))))
theorem sc_Lore_drop : FnScope N_Lore_drop ["self", "moment"] (defScope s_Lore_drop) := ⟨rfl, rfl, rfl, by decide +kernel, rfl, by decide +kernel, by decide +kernel⟩
theorem ok_Lore_drop {fd fd_is_moment_a fd_NoEntry___init__ : FuncData} (F : Fun K "drop" "Lore.drop" s_Lore_drop a_Lore_drop fd) (T : Tx w K mg a__law_draw a__law_beginning a_heap_of a_House_ahead_of a_House_said a__law_sighted a__law_words a__law_entries_b a_is_whole a_is_moment_a a_is_count a_is_saying_a a_is_word_a a_BadMoment___init__ a_BadSaying___init__ a_BadTeller___init__ a_SameMoment___init__ a_Lore_put a_Lore_leaves a_Lore_sees a_Lore_trusts a__law_tell_2 a_is_base a_BadHouse___init__ a_Lore___init__ a__law_lore_2 a__law_mixed a__law_pen a__law_row_3 a_figures_of a_base_of a_saying_of_2 a_entry_of_2 a_tell a_read_lore a__law_twice_right a_show_saying a_show_entry a_Lore_base a_Lore_entries a_show_lore a_NoEntry___init__ a_Lore_drop a_is_listing a_is_beginning a_House___init__ a_Lore___len__ a_law a_House a_Lore a_BadHouse a_BadMoment a_BadSaying a_BadTeller a_NoEntry a_SameMoment a_TRUSTED tk_FIGURES tk_LEAST_BASE tk_LETTERS tk_MOST_BASE tk_MOST_FIGURES) (G_is_moment_a : FnOk P w K mg base CX0 2 a_is_moment_a fd_is_moment_a ["thing"] (lift K (sp_is_moment_a))) (b_is_moment_a : Binds K fd_is_moment_a ["thing"] []) (G_NoEntry___init__ : FnOk P w K mg base CX0 1 a_NoEntry___init__ fd_NoEntry___init__ ["self", "moment"] (spFx K "LookupError.__new__" kyTail "moment")) (b_NoEntry___init__ : Binds K fd_NoEntry___init__ ["self", "moment"] []) : FnOk P w K mg base (L2.CX P w) 3 a_Lore_drop fd ["self", "moment"] (liftE K (xcl a_BadHouse a_BadMoment a_BadSaying a_BadTeller a_NoEntry a_SameMoment) (sp_Lore_drop (Cl.mk a_House a_Lore a_law a_law a_law))) := by
  refine fn_okE (cl := (xcl a_BadHouse a_BadMoment a_BadSaying a_BadTeller a_NoEntry a_SameMoment)) (ds := d_Lore_drop (Cl.mk a_House a_Lore a_law a_law a_law)) F sc_Lore_drop (len_Lore_drop (Cl.mk a_House a_Lore a_law a_law a_law)) (fun cdv A outer s H E B Px hr hB hm hE => ?_) (d_Lore_drop_ok (Cl.mk a_House a_Lore a_law a_law a_law))
  exact (q_cons (q_if (L2.PW.pt (q_or (q_not (q_tval (q_callO G_is_moment_a (hr.mono (by decide)) rfl T.g_is_moment_a T.k_is_moment_a b_is_moment_a .nil (fun _ _ => RelL.nil) pass0 (q_acons (q_var (pv 1)) q_anil)))) (q_or1 (q_tnotinO (hu_of hr) (toV (q_var (pv 1))) (q_fldO (q_var (pv 0)) T.cl_Lore T.n_Lore_kept) rfl)))) (q_cons (q_raiseE (f := "moment") rfl (takes_of rfl rfl rfl rfl) hE rfl (pmk_fxG fxg_Key T.fx_NoEntry T.in_NoEntry T.ty_NoEntry T.no_NoEntry G_NoEntry___init__ (hr.mono (by decide)) b_NoEntry___init__ pass0 rfl T.g_NoEntry (q_acons (q_var (pv 1)) q_anil))) q_nil) q_nil) (q_cons (q_delO (q_fldO (q_var (pv 0)) T.cl_Lore T.n_Lore_kept) (toV (q_var (pv 1)))) q_nil))
theorem sc_is_listing : FnScope N_is_listing ["thing"] (defScope s_is_listing) := ⟨rfl, rfl, rfl, by decide +kernel, rfl, by decide +kernel, by decide +kernel⟩
theorem ok_is_listing {fd : FuncData} (F : Fun K "is_listing" "is_listing" s_is_listing a_is_listing fd) (T : Tx w K mg a__law_draw a__law_beginning a_heap_of a_House_ahead_of a_House_said a__law_sighted a__law_words a__law_entries_b a_is_whole a_is_moment_a a_is_count a_is_saying_a a_is_word_a a_BadMoment___init__ a_BadSaying___init__ a_BadTeller___init__ a_SameMoment___init__ a_Lore_put a_Lore_leaves a_Lore_sees a_Lore_trusts a__law_tell_2 a_is_base a_BadHouse___init__ a_Lore___init__ a__law_lore_2 a__law_mixed a__law_pen a__law_row_3 a_figures_of a_base_of a_saying_of_2 a_entry_of_2 a_tell a_read_lore a__law_twice_right a_show_saying a_show_entry a_Lore_base a_Lore_entries a_show_lore a_NoEntry___init__ a_Lore_drop a_is_listing a_is_beginning a_House___init__ a_Lore___len__ a_law a_House a_Lore a_BadHouse a_BadMoment a_BadSaying a_BadTeller a_NoEntry a_SameMoment a_TRUSTED tk_FIGURES tk_LEAST_BASE tk_LETTERS tk_MOST_BASE tk_MOST_FIGURES) : FnOk P w K mg base CX0 1 a_is_listing fd ["thing"] (lift K (sp_is_listing)) := by
  refine fn_ok (ds := d_is_listing) F sc_is_listing (len_is_listing) (fun cdv A outer s H E B hr hB hm => ?_) (d_is_listing_ok)
  exact (q_cons (q_ret hm (q_isi2 (c := .lst) (c2 := .tup) (toV (q_var (pv 0))) rfl T.b_isinstance rfl T.b_list (by rfl) rfl T.b_tuple (by rfl))) q_nil)
theorem sc_is_beginning : FnScope N_is_beginning ["base", "thing"] (defScope s_is_beginning) := ⟨rfl, rfl, rfl, by decide +kernel, rfl, by decide +kernel, by decide +kernel⟩
theorem ok_is_beginning {fd fd_is_count fd_is_listing : FuncData} (F : Fun K "is_beginning" "is_beginning" s_is_beginning a_is_beginning fd) (T : Tx w K mg a__law_draw a__law_beginning a_heap_of a_House_ahead_of a_House_said a__law_sighted a__law_words a__law_entries_b a_is_whole a_is_moment_a a_is_count a_is_saying_a a_is_word_a a_BadMoment___init__ a_BadSaying___init__ a_BadTeller___init__ a_SameMoment___init__ a_Lore_put a_Lore_leaves a_Lore_sees a_Lore_trusts a__law_tell_2 a_is_base a_BadHouse___init__ a_Lore___init__ a__law_lore_2 a__law_mixed a__law_pen a__law_row_3 a_figures_of a_base_of a_saying_of_2 a_entry_of_2 a_tell a_read_lore a__law_twice_right a_show_saying a_show_entry a_Lore_base a_Lore_entries a_show_lore a_NoEntry___init__ a_Lore_drop a_is_listing a_is_beginning a_House___init__ a_Lore___len__ a_law a_House a_Lore a_BadHouse a_BadMoment a_BadSaying a_BadTeller a_NoEntry a_SameMoment a_TRUSTED tk_FIGURES tk_LEAST_BASE tk_LETTERS tk_MOST_BASE tk_MOST_FIGURES) (G_is_count : FnOk P w K mg base CX0 2 a_is_count fd_is_count ["thing"] (lift K (sp_is_count))) (b_is_count : Binds K fd_is_count ["thing"] []) (G_is_listing : FnOk P w K mg base CX0 1 a_is_listing fd_is_listing ["thing"] (lift K (sp_is_listing))) (b_is_listing : Binds K fd_is_listing ["thing"] []) : FnOk P w K mg base CX0 3 a_is_beginning fd ["base", "thing"] (lift K (sp_is_beginning)) := by
  refine fn_ok (ds := d_is_beginning) F sc_is_beginning (len_is_beginning) (fun cdv A outer s H E B hr hB hm => ?_) (d_is_beginning_ok)
  exact (q_cons (q_if (L2.PW.pt (q_or (q_not (q_tval (q_call G_is_listing (hr.mono (by decide)) rfl T.g_is_listing T.k_is_listing b_is_listing .nil (fun _ _ => RelL.nil) pass0 (q_acons (q_var (pv 1)) q_anil)))) (q_or1 (q_tcmp (op_neD hr.units) rop_ne (toV (q_callB call_len3 rc_len (by rfl) T.b_len (by decide +kernel) (q_xcons (toV (q_var (pv 1))) q_xnil))) (toV (q_op op_sub rop_sub (toV (q_var (pv 0))) (toV q_int))) (nomark _))))) (q_cons (q_ret hm q_bl) q_nil) q_nil) (q_cons (q_ret hm (q_callB (cr_all rfl) rc_all (by rfl) T.b_all (by decide +kernel) (q_xcons (toV (toE (q_lc (own := [("many", 2)]) rfl sc_is_beginning.nd (q_iany (q_var (pv 1))) (blkOk_by (N := N_is_beginning) (sc := defScope s_is_beginning) (own := [("many", 2)]) (by decide +kernel)) (fun _ _ _ _ _ B => (q_gname (vs := [2]) (pg_name (i := 2) sc_is_beginning.nd rfl (Or.inl rfl)) (by decide))) (fun _ _ _ _ _ => pts_U0) (fun _ _ _ _ _ B => (q_call G_is_count (hr.mono (by decide)) rfl T.g_is_count T.k_is_count b_is_count .nil (fun _ _ => RelL.nil) pass0 (q_acons (q_var (pv 2)) q_anil)))))) q_xnil))) q_nil))
theorem sc_House___init__ : FnScope N_House___init__ ["self", "k", "beginning"] (defScope s_House___init__) := ⟨rfl, rfl, rfl, by decide +kernel, rfl, by decide +kernel, by decide +kernel⟩
theorem ok_House___init__ {fd fd_is_base fd_is_beginning : FuncData} (F : Fun K "__init__" "House.__init__" s_House___init__ a_House___init__ fd) (T : Tx w K mg a__law_draw a__law_beginning a_heap_of a_House_ahead_of a_House_said a__law_sighted a__law_words a__law_entries_b a_is_whole a_is_moment_a a_is_count a_is_saying_a a_is_word_a a_BadMoment___init__ a_BadSaying___init__ a_BadTeller___init__ a_SameMoment___init__ a_Lore_put a_Lore_leaves a_Lore_sees a_Lore_trusts a__law_tell_2 a_is_base a_BadHouse___init__ a_Lore___init__ a__law_lore_2 a__law_mixed a__law_pen a__law_row_3 a_figures_of a_base_of a_saying_of_2 a_entry_of_2 a_tell a_read_lore a__law_twice_right a_show_saying a_show_entry a_Lore_base a_Lore_entries a_show_lore a_NoEntry___init__ a_Lore_drop a_is_listing a_is_beginning a_House___init__ a_Lore___len__ a_law a_House a_Lore a_BadHouse a_BadMoment a_BadSaying a_BadTeller a_NoEntry a_SameMoment a_TRUSTED tk_FIGURES tk_LEAST_BASE tk_LETTERS tk_MOST_BASE tk_MOST_FIGURES) (G_is_base : FnOk P w K mg base CX0 2 a_is_base fd_is_base ["thing"] (lift K (sp_is_base))) (b_is_base : Binds K fd_is_base ["thing"] []) (G_is_beginning : FnOk P w K mg base CX0 3 a_is_beginning fd_is_beginning ["base", "thing"] (lift K (sp_is_beginning))) (b_is_beginning : Binds K fd_is_beginning ["base", "thing"] []) : FnOk P w K mg base CX0 4 a_House___init__ fd ["self", "k", "beginning"] (liftI K a_House (sp_House___init__ (Cl.mk a_House a_Lore a_law a_law a_law))) := by
  refine fn_okI (ds := d_House___init__ (Cl.mk a_House a_Lore a_law a_law a_law)) F sc_House___init__ (len_House___init__ (Cl.mk a_House a_Lore a_law a_law a_law)) (np_House___init__ (Cl.mk a_House a_Lore a_law a_law a_law)) (fun cdv A outer s H E hr => ?_) (d_House___init___ok (Cl.mk a_House a_Lore a_law a_law a_law))
  exact (i_cons (i_guard fun B => (q_not (q_tval (q_call G_is_base (hr.mono (by decide)) rfl T.g_is_base T.k_is_base b_is_base .nil (fun _ _ => RelL.nil) pass0 (q_acons (q_var (pv 1)) q_anil))))) (i_cons (i_guard fun B => (q_not (q_tval (q_call G_is_beginning (hr.mono (by decide)) rfl T.g_is_beginning T.k_is_beginning b_is_beginning .nil (fun _ _ => RelL.nil) pass0 (q_acons (q_var (pv 1)) (q_acons (q_var (pv 2)) q_anil)))))) (i_cons (i_set (pv 0) (fun B => (q_var (pv 1))) T.cl_House T.n_House_kept_base) (i_cons (i_set (pv 0) (fun B => (toE (q_callTyN call_list_of rc_list (by rfl) T.b_list (by decide +kernel) (q_xcons (toV (q_var (pv 2))) q_xnil)))) T.cl_House T.n_House_kept_beginning) (i_sums (pv 0) (pv 2) (pg_name (i := 3) sc_House___init__.nd rfl (Or.inl rfl)) (pe_bm PySem.F.plainAttrs_list PySem.F.slot_list_append PySem.F.type_list_append mt_append (pe_fld (pv 0) rfl) (pa_cons (pe_U fun B => (q_op op_add4 rop_add (toV (q_op op_sub rop_sub (toV (q_var (pv 3))) (toV q_int))) (toV (q_ifE (q_tcmp (op_neD hr.units) rop_ne (toV (q_fld (toV (q_var (pv 0))) T.cl_House T.n_House_sums)) (toV (toE (q_lst q_anil))) (nomark _)) (q_ix (toV (q_fld (toV (q_var (pv 0))) T.cl_House T.n_House_sums)) (toV (q_un un_neg run_neg (toV q_int))) (fun _ _ => rfl)) q_int)))) pa_nil)) (sumsE_House (Cl.mk a_House a_Lore a_law a_law a_law)) T.cl_House T.n_House_sums PassesOwn.never rfl (by decide))))))
theorem sc_Lore___len__ : FnScope N_Lore___len__ ["self"] (defScope s_Lore___len__) := ⟨rfl, rfl, rfl, by decide +kernel, rfl, by decide +kernel, by decide +kernel⟩
theorem ok_Lore___len__ {fd : FuncData} (F : Fun K "__len__" "Lore.__len__" s_Lore___len__ a_Lore___len__ fd) (T : Tx w K mg a__law_draw a__law_beginning a_heap_of a_House_ahead_of a_House_said a__law_sighted a__law_words a__law_entries_b a_is_whole a_is_moment_a a_is_count a_is_saying_a a_is_word_a a_BadMoment___init__ a_BadSaying___init__ a_BadTeller___init__ a_SameMoment___init__ a_Lore_put a_Lore_leaves a_Lore_sees a_Lore_trusts a__law_tell_2 a_is_base a_BadHouse___init__ a_Lore___init__ a__law_lore_2 a__law_mixed a__law_pen a__law_row_3 a_figures_of a_base_of a_saying_of_2 a_entry_of_2 a_tell a_read_lore a__law_twice_right a_show_saying a_show_entry a_Lore_base a_Lore_entries a_show_lore a_NoEntry___init__ a_Lore_drop a_is_listing a_is_beginning a_House___init__ a_Lore___len__ a_law a_House a_Lore a_BadHouse a_BadMoment a_BadSaying a_BadTeller a_NoEntry a_SameMoment a_TRUSTED tk_FIGURES tk_LEAST_BASE tk_LETTERS tk_MOST_BASE tk_MOST_FIGURES) : FnOk P w K mg base CX0 1 a_Lore___len__ fd ["self"] (lift K (sp_Lore___len__ (Cl.mk a_House a_Lore a_law a_law a_law))) := by
  refine fn_ok (ds := d_Lore___len__ (Cl.mk a_House a_Lore a_law a_law a_law)) F sc_Lore___len__ (len_Lore___len__ (Cl.mk a_House a_Lore a_law a_law a_law)) (fun cdv A outer s H E B hr hB hm => ?_) (d_Lore___len___ok (Cl.mk a_House a_Lore a_law a_law a_law))
  exact (q_cons (q_ret hm (q_lenO (by rfl) T.b_len (q_fldO (q_var (pv 0)) T.cl_Lore T.n_Lore_kept))) q_nil)
theorem sc_law : FnScope N_law ["_law_script"] (defScope s_law) := ⟨rfl, rfl, rfl, by decide +kernel, rfl, by decide +kernel, by decide +kernel⟩
theorem ok_law {fd fd__law_beginning fd__law_draw fd__law_entries_b fd__law_lore_2 fd__law_mixed fd__law_pen fd__law_row_3 fd__law_twice_right fd_read_lore fd_show_lore fd_Lore_base fd_Lore_drop fd_Lore_entries fd_House___init__ fd_Lore___init__ fd_Lore___len__ : FuncData} (F : Fun K "law" "law" s_law a_law fd) (T : Tx w K mg a__law_draw a__law_beginning a_heap_of a_House_ahead_of a_House_said a__law_sighted a__law_words a__law_entries_b a_is_whole a_is_moment_a a_is_count a_is_saying_a a_is_word_a a_BadMoment___init__ a_BadSaying___init__ a_BadTeller___init__ a_SameMoment___init__ a_Lore_put a_Lore_leaves a_Lore_sees a_Lore_trusts a__law_tell_2 a_is_base a_BadHouse___init__ a_Lore___init__ a__law_lore_2 a__law_mixed a__law_pen a__law_row_3 a_figures_of a_base_of a_saying_of_2 a_entry_of_2 a_tell a_read_lore a__law_twice_right a_show_saying a_show_entry a_Lore_base a_Lore_entries a_show_lore a_NoEntry___init__ a_Lore_drop a_is_listing a_is_beginning a_House___init__ a_Lore___len__ a_law a_House a_Lore a_BadHouse a_BadMoment a_BadSaying a_BadTeller a_NoEntry a_SameMoment a_TRUSTED tk_FIGURES tk_LEAST_BASE tk_LETTERS tk_MOST_BASE tk_MOST_FIGURES) (G__law_beginning : FnOk P w K mg base CX0 2 a__law_beginning fd__law_beginning ["_law_pen_here", "_law_base", "_law_most"] (lift K (sp__law_beginning))) (b__law_beginning : Binds K fd__law_beginning ["_law_pen_here", "_law_base", "_law_most"] []) (G__law_draw : FnOk P w K mg base CX0 1 a__law_draw fd__law_draw ["_law_pen_here", "_law_many"] (lift K (sp__law_draw))) (b__law_draw : Binds K fd__law_draw ["_law_pen_here", "_law_many"] []) (G__law_entries_b : FnOk P w K mg base CX0 4 a__law_entries_b fd__law_entries_b ["_law_pen_here", "_law_house", "_law_many"] (liftN K (sp__law_entries_b (Cl.mk a_House a_Lore a_law a_law a_law)))) (b__law_entries_b : Binds K fd__law_entries_b ["_law_pen_here", "_law_house", "_law_many"] []) (G__law_lore_2 : FnOk P w K mg base CX0 7 a__law_lore_2 fd__law_lore_2 ["_law_base", "_law_entries_here"] (lift K (sp__law_lore_2 (Cl.mk a_House a_Lore a_law a_law a_law)))) (b__law_lore_2 : Binds K fd__law_lore_2 ["_law_base", "_law_entries_here"] []) (G__law_mixed : FnOk P w K mg base CX0 2 a__law_mixed fd__law_mixed ["_law_pen_here", "_law_things"] (liftN K (sp__law_mixed))) (b__law_mixed : Binds K fd__law_mixed ["_law_pen_here", "_law_things"] []) (G__law_pen : FnOk P w K mg base CX0 1 a__law_pen fd__law_pen ["_law_script"] (liftN K (sp__law_pen))) (b__law_pen : Binds K fd__law_pen ["_law_script"] []) (G__law_row_3 : FnOk P w K mg base CX0 1 a__law_row_3 fd__law_row_3 ["_law_entry"] (lift K (sp__law_row_3))) (b__law_row_3 : Binds K fd__law_row_3 ["_law_entry"] []) (G__law_twice_right : FnOk P w K mg base CX0 8 a__law_twice_right fd__law_twice_right ["_law_head", "_law_rows"] (lift K (sp__law_twice_right (Cl.mk a_House a_Lore a_law a_law a_law)))) (b__law_twice_right : Binds K fd__law_twice_right ["_law_head", "_law_rows"] []) (G_read_lore : FnOk P w K mg base (L2.CX P w) 7 a_read_lore fd_read_lore ["text"] (liftE K (xcl a_BadHouse a_BadMoment a_BadSaying a_BadTeller a_NoEntry a_SameMoment) (sp_read_lore (Cl.mk a_House a_Lore a_law a_law a_law)))) (b_read_lore : Binds K fd_read_lore ["text"] []) (G_show_lore : FnOk P w K mg base CX0 3 a_show_lore fd_show_lore ["lore"] (lift K (sp_show_lore (Cl.mk a_House a_Lore a_law a_law a_law)))) (b_show_lore : Binds K fd_show_lore ["lore"] []) (G_Lore_base : FnOk P w K mg base CX0 1 a_Lore_base fd_Lore_base ["self"] (lift K (sp_Lore_base (Cl.mk a_House a_Lore a_law a_law a_law)))) (b_Lore_base : Binds K fd_Lore_base ["self"] []) (G_Lore_drop : FnOk P w K mg base (L2.CX P w) 3 a_Lore_drop fd_Lore_drop ["self", "moment"] (liftE K (xcl a_BadHouse a_BadMoment a_BadSaying a_BadTeller a_NoEntry a_SameMoment) (sp_Lore_drop (Cl.mk a_House a_Lore a_law a_law a_law)))) (b_Lore_drop : Binds K fd_Lore_drop ["self", "moment"] []) (G_Lore_entries : FnOk P w K mg base CX0 1 a_Lore_entries fd_Lore_entries ["self", "upto"] (liftN K (sp_Lore_entries (Cl.mk a_House a_Lore a_law a_law a_law)))) (b_Lore_entries : Binds K fd_Lore_entries ["self", "upto"] [Value.none]) (G_House___init__ : FnOk P w K mg base CX0 4 a_House___init__ fd_House___init__ ["self", "k", "beginning"] (liftI K a_House (sp_House___init__ (Cl.mk a_House a_Lore a_law a_law a_law)))) (b_House___init__ : Binds K fd_House___init__ ["self", "k", "beginning"] []) (G_Lore___init__ : FnOk P w K mg base (L2.CX P w) 3 a_Lore___init__ fd_Lore___init__ ["self", "k"] (liftE K (xcl a_BadHouse a_BadMoment a_BadSaying a_BadTeller a_NoEntry a_SameMoment) (sp_Lore___init__ (Cl.mk a_House a_Lore a_law a_law a_law)))) (b_Lore___init__ : Binds K fd_Lore___init__ ["self", "k"] []) (G_Lore___len__ : FnOk P w K mg base CX0 1 a_Lore___len__ fd_Lore___len__ ["self"] (lift K (sp_Lore___len__ (Cl.mk a_House a_Lore a_law a_law a_law)))) (b_Lore___len__ : Binds K fd_Lore___len__ ["self"] []) : FnOk P w K mg base CX0 9 a_law fd ["_law_script"] (spLaw K) := by
  refine fn_law (i := 1) (dp := dCall sp__law_pen [] (dCons (dVar 0) dNil)) (ds := d_law (Cl.mk a_House a_Lore a_law a_law a_law)) F sc_law rfl (fun cdv A outer s H E B hr => ?_) (fun cdv A outer s H E B hr hB hm => ?_) ⟨by decide, by decide⟩ false (d_law_ok (Cl.mk a_House a_Lore a_law a_law a_law))
  · exact ps_set (i := 1) sc_law.nd rfl (Or.inl rfl) (q_callN G__law_pen (hr.mono (by decide)) rfl T.g__law_pen T.k__law_pen b__law_pen .nil (fun _ _ => RelL.nil) pass0 (q_acons (q_var (pv 0)) q_anil))
  · exact (q_cons (q_for PassesOwn.never rfl (q_irng1 (by rfl) T.b_range (toV (q_op op_add4 rop_add (toV q_int) (toV (q_callB (call_min3 rfl) rc_min (by rfl) T.b_min (by decide +kernel) (q_xcons (toV q_int) (q_xcons (toV (q_op op_fdivW rop_div (toV (q_callB call_len3 rc_len (by rfl) T.b_len (by decide +kernel) (q_xcons (toV (q_var (pv 0))) q_xnil))) (toV q_int))) q_xnil))))))) (q_gname (vs := [2]) (pg_name (i := 2) sc_law.nd rfl (Or.inl rfl)) (by decide)) (q_cons (q_set (i := 3) sc_law.nd rfl (Or.inl rfl) (q_op op_add4 rop_add (toV q_int) (toV (q_callO G__law_draw (hr.mono (by decide)) rfl T.g__law_draw T.k__law_draw b__law_draw .nil (fun _ _ => RelL.nil) pass0 (q_acons (q_var (pv 1)) (q_acons q_int q_anil)))))) (q_cons (q_set (i := 4) sc_law.nd rfl (Or.inl rfl) (toE (q_makeB T.mk_House G_House___init__ (hr.mono (by decide)) rfl T.g_House b_House___init__ pass0 (q_acons (q_var (pv 3)) (q_acons (q_callO G__law_beginning (hr.mono (by decide)) rfl T.g__law_beginning T.k__law_beginning b__law_beginning .nil (fun _ _ => RelL.nil) pass0 (q_acons (q_var (pv 1)) (q_acons (q_var (pv 3)) (q_acons q_int q_anil)))) q_anil))))) (q_cons (q_set (i := 5) sc_law.nd rfl (Or.inl rfl) (toE (q_callNO G__law_entries_b (hr.mono (by decide)) rfl T.g__law_entries_b T.k__law_entries_b b__law_entries_b .nil (fun _ _ => RelL.nil) pass0 (q_acons (q_var (pv 1)) (q_acons (q_var (pv 4)) (q_acons (q_op op_add4 rop_add (toV q_int) (toV (q_callO G__law_draw (hr.mono (by decide)) rfl T.g__law_draw T.k__law_draw b__law_draw .nil (fun _ _ => RelL.nil) pass0 (q_acons (q_var (pv 1)) (q_acons q_int q_anil))))) q_anil)))))) (q_cons (q_par (i := 9) (j := 10) rfl sc_law.nd rfl rfl (by decide) rfl rfl (q_acons (q_call G__law_lore_2 (hr.mono (by decide)) rfl T.g__law_lore_2 T.k__law_lore_2 b__law_lore_2 .nil (fun _ _ => RelL.nil) pass0 (q_acons (q_var (pv 3)) (q_acons (toE (q_callNO G__law_mixed (hr.mono (by decide)) rfl T.g__law_mixed T.k__law_mixed b__law_mixed .nil (fun _ _ => RelL.nil) pass0 (q_acons (q_var (pv 1)) (q_acons (q_var (pv 5)) q_anil)))) q_anil))) (q_acons (q_op op_add4 rop_add (toV q_str) (toV (q_callTy call_str_int rc_str (by rfl) T.b_str (by decide +kernel) (q_xcons (toV (q_var (pv 3))) q_xnil)))) q_anil)) (by rfl)) (q_cons (q_setLc (i := 6) (own := [("_law_entry", 11)]) rfl sc_law.nd rfl rfl (sw_true rfl rfl rfl (by decide +kernel)) (q_iany (q_var (pv 5))) (blkOk_by (N := N_law) (sc := defScope s_law) (own := [("_law_entry", 11)]) (by decide +kernel)) (fun _ _ _ _ _ B => (q_gname (vs := [11]) (pg_name (i := 11) sc_law.nd rfl (Or.inl rfl)) (by decide))) (fun _ _ _ _ _ => pts_U0) (fun _ _ _ _ _ B => (q_callO G__law_row_3 (hr.mono (by decide)) rfl T.g__law_row_3 T.k__law_row_3 b__law_row_3 .nil (fun _ _ => RelL.nil) pass0 (q_acons (q_var (pv 11)) q_anil)))) (q_cons (q_set (i := 7) sc_law.nd rfl (Or.inl rfl) (q_join q_str (q_op op_add4 rop_add (toV (toE (q_lst (q_acons (q_var (pv 10)) q_anil)))) (toV (q_var (pv 6)))))) (q_cons (q_if (L2.PW.pt (q_or (q_tcmp (op_neD hr.units) rop_ne (toV (q_call G_show_lore (hr.mono (by decide)) rfl T.g_show_lore T.k_show_lore b_show_lore .nil (fun _ _ => RelL.nil) pass0 (q_acons (q_var (pv 9)) q_anil))) (toV (q_var (pv 7))) (nomark _)) (q_or (q_tcmp (op_neD hr.units) rop_ne (toV (q_call G_show_lore (hr.mono (by decide)) rfl T.g_show_lore T.k_show_lore b_show_lore .nil (fun _ _ => RelL.nil) pass0 (q_acons (q_makeO T.mk_Lore (fn_plainE G_Lore___init__) (hr.mono (by decide)) rfl T.g_Lore b_Lore___init__ pass0 (q_acons (q_var (pv 3)) q_anil)) q_anil))) (toV (q_var (pv 10))) (nomark _)) (q_or1 (q_tcmp (op_neD hr.units) rop_ne (toV (q_lenI G_Lore___len__ (hr.mono (by decide)) T.m_Lore___len__ b_Lore___len__ pass0 (by rfl) T.b_len (q_call (fn_plainE G_read_lore) (hr.mono (by decide)) rfl T.g_read_lore T.k_read_lore b_read_lore .nil (fun _ _ => RelL.nil) pass0 (q_acons (q_var (pv 10)) q_anil)))) (toV q_int) (nomark _)))))) (q_cons (q_ret hm q_bl) q_nil) q_nil) (q_cons (q_set (i := 8) sc_law.nd rfl (Or.inl rfl) (q_call (fn_plainE G_read_lore) (hr.mono (by decide)) rfl T.g_read_lore T.k_read_lore b_read_lore .nil (fun _ _ => RelL.nil) pass0 (q_acons (q_join q_str (q_op op_add4 rop_add (toV (toE (q_lst (q_acons (q_var (pv 10)) q_anil)))) (toV (toE (q_callNO G__law_mixed (hr.mono (by decide)) rfl T.g__law_mixed T.k__law_mixed b__law_mixed .nil (fun _ _ => RelL.nil) pass0 (q_acons (q_var (pv 1)) (q_acons (q_var (pv 6)) q_anil))))))) q_anil))) (q_cons (q_if (L2.PW.pt (q_or (q_tcmp (op_neD hr.units) rop_ne (toV (toE (q_methNO0 (q_var (pv 8)) T.cl_Lore T.m_Lore_entries G_Lore_entries (hr.mono (by decide)) b_Lore_entries (dvs := [.non]) (.cons rfl .nil) (fun _ _ => RelL.cons (by unfold RelD; rfl) RelL.nil) pass0))) (toV (q_var (pv 5))) (nomark _)) (q_or (q_tcmp (op_neD hr.units) rop_ne (toV (q_methO0 (q_var (pv 8)) T.cl_Lore T.m_Lore_base G_Lore_base (hr.mono (by decide)) b_Lore_base .nil (fun _ _ => RelL.nil) pass0)) (toV (q_var (pv 3))) (nomark _)) (q_or1 (q_tcmp (op_neD hr.units) rop_ne (toV (q_call G_show_lore (hr.mono (by decide)) rfl T.g_show_lore T.k_show_lore b_show_lore .nil (fun _ _ => RelL.nil) pass0 (q_acons (q_var (pv 8)) q_anil))) (toV (q_var (pv 7))) (nomark _)))))) (q_cons (q_ret hm q_bl) q_nil) q_nil) (q_cons (q_if (q_not (q_tval (q_call G__law_twice_right (hr.mono (by decide)) rfl T.g__law_twice_right T.k__law_twice_right b__law_twice_right .nil (fun _ _ => RelL.nil) pass0 (q_acons (q_var (pv 10)) (q_acons (q_var (pv 6)) q_anil))))) (q_cons (q_ret hm q_bl) q_nil) q_nil) (q_cons (q_drop (q_methO (q_var (pv 8)) T.cl_Lore T.m_Lore_drop (fn_plainE G_Lore_drop) (hr.mono (by decide)) b_Lore_drop .nil (fun _ _ => RelL.nil) pass0 (q_acons (q_ix (toV (q_ix (toV (q_var (pv 5))) (toV q_int) (fun _ _ => rfl))) (toV q_int) (fun _ _ => rfl)) q_anil))) (q_cons (q_if (L2.PW.pt (q_or (q_tcmp (op_neD hr.units) rop_ne (toV (q_lenI G_Lore___len__ (hr.mono (by decide)) T.m_Lore___len__ b_Lore___len__ pass0 (by rfl) T.b_len (q_var (pv 9)))) (toV (q_callB call_len3 rc_len (by rfl) T.b_len (by decide +kernel) (q_xcons (toV (q_var (pv 5))) q_xnil))) (nomark _)) (q_or1 (q_tcmp (op_neD hr.units) rop_ne (toV (q_call G_show_lore (hr.mono (by decide)) rfl T.g_show_lore T.k_show_lore b_show_lore .nil (fun _ _ => RelL.nil) pass0 (q_acons (q_var (pv 9)) q_anil))) (toV (q_var (pv 7))) (nomark _))))) (q_cons (q_ret hm q_bl) q_nil) q_nil) q_nil))))))))))))) (q_cons (q_ret hm q_bl) q_nil))
end
theorem all_mk {l : PySem.W.OpenLaw} {w : World} {K : PySem.W.Frag} {h : Heap} {mg : Str → Option Value} {fa a__law_draw a__law_beginning a_heap_of a_House_ahead_of a_House_said a__law_sighted a__law_words a__law_entries_b a_is_whole a_is_moment_a a_is_count a_is_saying_a a_is_word_a a_BadMoment___init__ a_BadSaying___init__ a_BadTeller___init__ a_SameMoment___init__ a_Lore_put a_Lore_leaves a_Lore_sees a_Lore_trusts a__law_tell_2 a_is_base a_BadHouse___init__ a_Lore___init__ a__law_lore_2 a__law_mixed a__law_pen a__law_row_3 a_figures_of a_base_of a_saying_of_2 a_entry_of_2 a_tell a_read_lore a__law_twice_right a_show_saying a_show_entry a_Lore_base a_Lore_entries a_show_lore a_NoEntry___init__ a_Lore_drop a_is_listing a_is_beginning a_House___init__ a_Lore___len__ a_law a_House a_Lore a_BadHouse a_BadMoment a_BadSaying a_BadTeller a_NoEntry a_SameMoment a_TRUSTED : Addr} {tk_FIGURES tk_LEAST_BASE tk_LETTERS tk_MOST_BASE tk_MOST_FIGURES : Tok} (X : K.In h) (G : h.Ns mainGlobals mg) (hfa : mg "law" = some (.ref fa))
    {od1 an1 od2 an2 od3 an3 od4 an4 od5 an5 od6 an6 od7 an7 od8 an8 od9 an9 od10 an10 od11 an11 od12 an12 od13 an13 od14 an14 od15 an15 od16 an16 od17 an17 od18 an18 od19 an19 od20 an20 od21 an21 od22 an22 od23 an23 od24 an24 od25 an25 od26 an26 od27 an27 od28 an28 od29 an29 od30 an30 od31 an31 od32 an32 od33 an33 od34 an34 od35 an35 od36 an36 od37 an37 od38 an38 od39 an39 od40 an40 od41 an41 od42 an42 od43 an43 od44 an44 od45 an45 od46 an46 od47 an47 od48 an48 : Option Addr} {sl1 sl2 sl3 sl4 sl5 sl6 sl7 sl8 sl9 sl10 sl11 sl12 sl13 sl14 sl15 sl16 sl17 sl18 sl19 sl20 sl21 sl22 sl23 sl24 sl25 sl26 sl27 sl28 sl29 sl30 sl31 sl32 sl33 sl34 sl35 sl36 sl37 sl38 sl39 sl40 sl41 sl42 sl43 sl44 sl45 sl46 sl47 sl48 : Array (Option Value)} {oc1 kV1 dc1 pm1 cd1 ct1 oc2 kV2 dc2 pm2 cd2 ct2 oc3 kV3 dc3 pm3 cd3 ct3 oc4 kV4 dc4 pm4 cd4 ct4 oc5 kV5 dc5 pm5 cd5 ct5 oc6 kV6 dc6 pm6 cd6 ct6 oc7 kV7 dc7 pm7 cd7 ct7 oc8 kV8 dc8 pm8 cd8 ct8 oc9 kV9 dc9 pm9 cd9 ct9 oc10 kV10 dc10 pm10 cd10 ct10 oc11 kV11 dc11 pm11 cd11 ct11 oc12 kV12 dc12 pm12 cd12 ct12 oc13 kV13 dc13 pm13 cd13 ct13 oc14 kV14 dc14 pm14 cd14 ct14 oc15 kV15 dc15 pm15 cd15 ct15 oc16 kV16 dc16 pm16 cd16 ct16 oc17 kV17 dc17 pm17 cd17 ct17 oc18 kV18 dc18 pm18 cd18 ct18 oc19 kV19 dc19 pm19 cd19 ct19 oc20 kV20 dc20 pm20 cd20 ct20 oc21 kV21 dc21 pm21 cd21 ct21 oc22 kV22 dc22 pm22 cd22 ct22 oc23 kV23 dc23 pm23 cd23 ct23 oc24 kV24 dc24 pm24 cd24 ct24 oc25 kV25 dc25 pm25 cd25 ct25 oc26 kV26 dc26 pm26 cd26 ct26 oc27 kV27 dc27 pm27 cd27 ct27 oc28 kV28 dc28 pm28 cd28 ct28 oc29 kV29 dc29 pm29 cd29 ct29 oc30 kV30 dc30 pm30 cd30 ct30 oc31 kV31 dc31 pm31 cd31 ct31 oc32 kV32 dc32 pm32 cd32 ct32 oc33 kV33 dc33 pm33 cd33 ct33 oc34 kV34 dc34 pm34 cd34 ct34 oc35 kV35 dc35 pm35 cd35 ct35 oc36 kV36 dc36 pm36 cd36 ct36 oc37 kV37 dc37 pm37 cd37 ct37 oc38 kV38 dc38 pm38 cd38 ct38 oc39 kV39 dc39 pm39 cd39 ct39 oc40 dc40 pm40 cd40 ct40 oc41 kV41 dc41 pm41 cd41 ct41 oc42 kV42 dc42 pm42 cd42 ct42 oc43 kV43 dc43 pm43 cd43 ct43 oc44 kV44 dc44 pm44 cd44 ct44 oc45 kV45 dc45 pm45 cd45 ct45 oc46 kV46 dc46 pm46 cd46 ct46 oc47 kV47 dc47 pm47 cd47 ct47 oc48 kV48 dc48 pm48 cd48 ct48 : Value}
    (ac_House : PySem.W.nsIn K mainGlobals "House" = some (some (.ref a_House))) (pg_House : PySem.W.plainGet K a_House Str.empty = true) (hd_House : PySem.W.hasDictIn K a_House = true) (po_House : PySem.W.plainOver K a_House = true)
    (sa_House : PySem.W.findIn K (.ref a_House) "__setattr__" = some (some (.builtin "object.__setattr__")))
    (ac_Lore : PySem.W.nsIn K mainGlobals "Lore" = some (some (.ref a_Lore))) (pg_Lore : PySem.W.plainGet K a_Lore Str.empty = true) (hd_Lore : PySem.W.hasDictIn K a_Lore = true) (po_Lore : PySem.W.plainOver K a_Lore = true)
    (sa_Lore : PySem.W.findIn K (.ref a_Lore) "__setattr__" = some (some (.builtin "object.__setattr__")))
    {nm_BadHouse : _} {qn_BadHouse : _} {nn_BadHouse : _} {bs_BadHouse : _} {sn_BadHouse : _} {sb_BadHouse : _} {ab_BadHouse : _} {co_BadHouse : _} {dd_BadHouse : _} {x0_BadHouse : _} {x1_BadHouse : _} {x2_BadHouse : _} {x3_BadHouse : _} {x5_BadHouse : _} 
    (ac_BadHouse : PySem.W.nsIn K mainGlobals "BadHouse" = some (some (.ref a_BadHouse))) (rl_BadHouse : K.lookup a_BadHouse = some (excClassObj nm_BadHouse qn_BadHouse a_BadHouse nn_BadHouse bs_BadHouse vaTail true sn_BadHouse sb_BadHouse ab_BadHouse co_BadHouse dd_BadHouse x0_BadHouse x1_BadHouse x2_BadHouse x3_BadHouse x5_BadHouse "ValueError.__new__"))
    (xs_BadHouse : PySem.W.subIn K (.ref a_BadHouse) (.type "BaseException") = some true) (xt_BadHouse : PySem.W.typeIn K (.ref a_BadHouse) = some (.type "type")) (xk_BadHouse : PySem.W.keepIn K (.ref a_BadHouse) = true) (xe_BadHouse : PySem.W.subIn K (.ref a_BadHouse) (.ref a_BadHouse) = some true) (xq_BadHouse : PySem.W.subIn K (.ref a_BadHouse) (.type "ValueError") = some true) (xg_BadHouse : PySem.W.findIn K (.ref a_BadHouse) "__getattribute__" = some (some (.builtin "BaseException.__getattribute__"))) (xa_BadHouse : PySem.W.findIn K (.ref a_BadHouse) "__getattr__" = some none) (xh_BadHouse : PySem.W.hasDictIn K a_BadHouse = true) (xc_BadHouse : PySem.W.findIn K (.ref a_BadHouse) "__class__" = some (some (.builtin "object.__class__"))) (xn_BadHouse : PySem.W.specialIn K (.builtin "object.__class__") "__get__" = some (some (.builtin "getset_descriptor.__get__"))) (xo_BadHouse : PySem.W.takesIn K (.builtin "object.__class__") = some true) (xm_BadHouse : PySem.W.mroIn K a_BadHouse (.type "object") = some true) (xz_BadHouse : PySem.W.findIn K (.ref a_BadHouse) "__setattr__" = some (some (.builtin "object.__setattr__"))) (xno_BadHouse : PySem.W.findIn K (.ref a_BadHouse) "part" = some none)
    {nm_BadMoment : _} {qn_BadMoment : _} {nn_BadMoment : _} {bs_BadMoment : _} {sn_BadMoment : _} {sb_BadMoment : _} {ab_BadMoment : _} {co_BadMoment : _} {dd_BadMoment : _} {x0_BadMoment : _} {x1_BadMoment : _} {x2_BadMoment : _} {x3_BadMoment : _} {x5_BadMoment : _} 
    (ac_BadMoment : PySem.W.nsIn K mainGlobals "BadMoment" = some (some (.ref a_BadMoment))) (rl_BadMoment : K.lookup a_BadMoment = some (excClassObj nm_BadMoment qn_BadMoment a_BadMoment nn_BadMoment bs_BadMoment vaTail true sn_BadMoment sb_BadMoment ab_BadMoment co_BadMoment dd_BadMoment x0_BadMoment x1_BadMoment x2_BadMoment x3_BadMoment x5_BadMoment "ValueError.__new__"))
    (xs_BadMoment : PySem.W.subIn K (.ref a_BadMoment) (.type "BaseException") = some true) (xt_BadMoment : PySem.W.typeIn K (.ref a_BadMoment) = some (.type "type")) (xk_BadMoment : PySem.W.keepIn K (.ref a_BadMoment) = true) (xe_BadMoment : PySem.W.subIn K (.ref a_BadMoment) (.ref a_BadMoment) = some true) (xq_BadMoment : PySem.W.subIn K (.ref a_BadMoment) (.type "ValueError") = some true) (xg_BadMoment : PySem.W.findIn K (.ref a_BadMoment) "__getattribute__" = some (some (.builtin "BaseException.__getattribute__"))) (xa_BadMoment : PySem.W.findIn K (.ref a_BadMoment) "__getattr__" = some none) (xh_BadMoment : PySem.W.hasDictIn K a_BadMoment = true) (xc_BadMoment : PySem.W.findIn K (.ref a_BadMoment) "__class__" = some (some (.builtin "object.__class__"))) (xn_BadMoment : PySem.W.specialIn K (.builtin "object.__class__") "__get__" = some (some (.builtin "getset_descriptor.__get__"))) (xo_BadMoment : PySem.W.takesIn K (.builtin "object.__class__") = some true) (xm_BadMoment : PySem.W.mroIn K a_BadMoment (.type "object") = some true) (xz_BadMoment : PySem.W.findIn K (.ref a_BadMoment) "__setattr__" = some (some (.builtin "object.__setattr__"))) (xno_BadMoment : PySem.W.findIn K (.ref a_BadMoment) "moment" = some none)
    {nm_BadSaying : _} {qn_BadSaying : _} {nn_BadSaying : _} {bs_BadSaying : _} {sn_BadSaying : _} {sb_BadSaying : _} {ab_BadSaying : _} {co_BadSaying : _} {dd_BadSaying : _} {x0_BadSaying : _} {x1_BadSaying : _} {x2_BadSaying : _} {x3_BadSaying : _} {x5_BadSaying : _} 
    (ac_BadSaying : PySem.W.nsIn K mainGlobals "BadSaying" = some (some (.ref a_BadSaying))) (rl_BadSaying : K.lookup a_BadSaying = some (excClassObj nm_BadSaying qn_BadSaying a_BadSaying nn_BadSaying bs_BadSaying vaTail true sn_BadSaying sb_BadSaying ab_BadSaying co_BadSaying dd_BadSaying x0_BadSaying x1_BadSaying x2_BadSaying x3_BadSaying x5_BadSaying "ValueError.__new__"))
    (xs_BadSaying : PySem.W.subIn K (.ref a_BadSaying) (.type "BaseException") = some true) (xt_BadSaying : PySem.W.typeIn K (.ref a_BadSaying) = some (.type "type")) (xk_BadSaying : PySem.W.keepIn K (.ref a_BadSaying) = true) (xe_BadSaying : PySem.W.subIn K (.ref a_BadSaying) (.ref a_BadSaying) = some true) (xq_BadSaying : PySem.W.subIn K (.ref a_BadSaying) (.type "ValueError") = some true) (xg_BadSaying : PySem.W.findIn K (.ref a_BadSaying) "__getattribute__" = some (some (.builtin "BaseException.__getattribute__"))) (xa_BadSaying : PySem.W.findIn K (.ref a_BadSaying) "__getattr__" = some none) (xh_BadSaying : PySem.W.hasDictIn K a_BadSaying = true) (xc_BadSaying : PySem.W.findIn K (.ref a_BadSaying) "__class__" = some (some (.builtin "object.__class__"))) (xn_BadSaying : PySem.W.specialIn K (.builtin "object.__class__") "__get__" = some (some (.builtin "getset_descriptor.__get__"))) (xo_BadSaying : PySem.W.takesIn K (.builtin "object.__class__") = some true) (xm_BadSaying : PySem.W.mroIn K a_BadSaying (.type "object") = some true) (xz_BadSaying : PySem.W.findIn K (.ref a_BadSaying) "__setattr__" = some (some (.builtin "object.__setattr__"))) (xno_BadSaying : PySem.W.findIn K (.ref a_BadSaying) "place" = some none)
    {nm_BadTeller : _} {qn_BadTeller : _} {nn_BadTeller : _} {bs_BadTeller : _} {sn_BadTeller : _} {sb_BadTeller : _} {ab_BadTeller : _} {co_BadTeller : _} {dd_BadTeller : _} {x0_BadTeller : _} {x1_BadTeller : _} {x2_BadTeller : _} {x3_BadTeller : _} {x5_BadTeller : _} 
    (ac_BadTeller : PySem.W.nsIn K mainGlobals "BadTeller" = some (some (.ref a_BadTeller))) (rl_BadTeller : K.lookup a_BadTeller = some (excClassObj nm_BadTeller qn_BadTeller a_BadTeller nn_BadTeller bs_BadTeller vaTail true sn_BadTeller sb_BadTeller ab_BadTeller co_BadTeller dd_BadTeller x0_BadTeller x1_BadTeller x2_BadTeller x3_BadTeller x5_BadTeller "ValueError.__new__"))
    (xs_BadTeller : PySem.W.subIn K (.ref a_BadTeller) (.type "BaseException") = some true) (xt_BadTeller : PySem.W.typeIn K (.ref a_BadTeller) = some (.type "type")) (xk_BadTeller : PySem.W.keepIn K (.ref a_BadTeller) = true) (xe_BadTeller : PySem.W.subIn K (.ref a_BadTeller) (.ref a_BadTeller) = some true) (xq_BadTeller : PySem.W.subIn K (.ref a_BadTeller) (.type "ValueError") = some true) (xg_BadTeller : PySem.W.findIn K (.ref a_BadTeller) "__getattribute__" = some (some (.builtin "BaseException.__getattribute__"))) (xa_BadTeller : PySem.W.findIn K (.ref a_BadTeller) "__getattr__" = some none) (xh_BadTeller : PySem.W.hasDictIn K a_BadTeller = true) (xc_BadTeller : PySem.W.findIn K (.ref a_BadTeller) "__class__" = some (some (.builtin "object.__class__"))) (xn_BadTeller : PySem.W.specialIn K (.builtin "object.__class__") "__get__" = some (some (.builtin "getset_descriptor.__get__"))) (xo_BadTeller : PySem.W.takesIn K (.builtin "object.__class__") = some true) (xm_BadTeller : PySem.W.mroIn K a_BadTeller (.type "object") = some true) (xz_BadTeller : PySem.W.findIn K (.ref a_BadTeller) "__setattr__" = some (some (.builtin "object.__setattr__"))) (xno_BadTeller : PySem.W.findIn K (.ref a_BadTeller) "teller" = some none)
    {nm_NoEntry : _} {qn_NoEntry : _} {nn_NoEntry : _} {bs_NoEntry : _} {sn_NoEntry : _} {sb_NoEntry : _} {ab_NoEntry : _} {co_NoEntry : _} {dd_NoEntry : _} {x0_NoEntry : _} {x1_NoEntry : _} {x2_NoEntry : _} {x3_NoEntry : _} {x5_NoEntry : _} 
    (ac_NoEntry : PySem.W.nsIn K mainGlobals "NoEntry" = some (some (.ref a_NoEntry))) (rl_NoEntry : K.lookup a_NoEntry = some (excClassObj nm_NoEntry qn_NoEntry a_NoEntry nn_NoEntry bs_NoEntry kyTail true sn_NoEntry sb_NoEntry ab_NoEntry co_NoEntry dd_NoEntry x0_NoEntry x1_NoEntry x2_NoEntry x3_NoEntry x5_NoEntry "LookupError.__new__"))
    (xs_NoEntry : PySem.W.subIn K (.ref a_NoEntry) (.type "BaseException") = some true) (xt_NoEntry : PySem.W.typeIn K (.ref a_NoEntry) = some (.type "type")) (xk_NoEntry : PySem.W.keepIn K (.ref a_NoEntry) = true) (xe_NoEntry : PySem.W.subIn K (.ref a_NoEntry) (.ref a_NoEntry) = some true) (xq_NoEntry : PySem.W.subIn K (.ref a_NoEntry) (.type "KeyError") = some true) (xg_NoEntry : PySem.W.findIn K (.ref a_NoEntry) "__getattribute__" = some (some (.builtin "BaseException.__getattribute__"))) (xa_NoEntry : PySem.W.findIn K (.ref a_NoEntry) "__getattr__" = some none) (xh_NoEntry : PySem.W.hasDictIn K a_NoEntry = true) (xc_NoEntry : PySem.W.findIn K (.ref a_NoEntry) "__class__" = some (some (.builtin "object.__class__"))) (xn_NoEntry : PySem.W.specialIn K (.builtin "object.__class__") "__get__" = some (some (.builtin "getset_descriptor.__get__"))) (xo_NoEntry : PySem.W.takesIn K (.builtin "object.__class__") = some true) (xm_NoEntry : PySem.W.mroIn K a_NoEntry (.type "object") = some true) (xz_NoEntry : PySem.W.findIn K (.ref a_NoEntry) "__setattr__" = some (some (.builtin "object.__setattr__"))) (xno_NoEntry : PySem.W.findIn K (.ref a_NoEntry) "moment" = some none)
    {nm_SameMoment : _} {qn_SameMoment : _} {nn_SameMoment : _} {bs_SameMoment : _} {sn_SameMoment : _} {sb_SameMoment : _} {ab_SameMoment : _} {co_SameMoment : _} {dd_SameMoment : _} {x0_SameMoment : _} {x1_SameMoment : _} {x2_SameMoment : _} {x3_SameMoment : _} {x5_SameMoment : _} 
    (ac_SameMoment : PySem.W.nsIn K mainGlobals "SameMoment" = some (some (.ref a_SameMoment))) (rl_SameMoment : K.lookup a_SameMoment = some (excClassObj nm_SameMoment qn_SameMoment a_SameMoment nn_SameMoment bs_SameMoment luTail true sn_SameMoment sb_SameMoment ab_SameMoment co_SameMoment dd_SameMoment x0_SameMoment x1_SameMoment x2_SameMoment x3_SameMoment x5_SameMoment "LookupError.__new__"))
    (xs_SameMoment : PySem.W.subIn K (.ref a_SameMoment) (.type "BaseException") = some true) (xt_SameMoment : PySem.W.typeIn K (.ref a_SameMoment) = some (.type "type")) (xk_SameMoment : PySem.W.keepIn K (.ref a_SameMoment) = true) (xe_SameMoment : PySem.W.subIn K (.ref a_SameMoment) (.ref a_SameMoment) = some true) (xq_SameMoment : PySem.W.subIn K (.ref a_SameMoment) (.type "LookupError") = some true) (xg_SameMoment : PySem.W.findIn K (.ref a_SameMoment) "__getattribute__" = some (some (.builtin "BaseException.__getattribute__"))) (xa_SameMoment : PySem.W.findIn K (.ref a_SameMoment) "__getattr__" = some none) (xh_SameMoment : PySem.W.hasDictIn K a_SameMoment = true) (xc_SameMoment : PySem.W.findIn K (.ref a_SameMoment) "__class__" = some (some (.builtin "object.__class__"))) (xn_SameMoment : PySem.W.specialIn K (.builtin "object.__class__") "__get__" = some (some (.builtin "getset_descriptor.__get__"))) (xo_SameMoment : PySem.W.takesIn K (.builtin "object.__class__") = some true) (xm_SameMoment : PySem.W.mroIn K a_SameMoment (.type "object") = some true) (xz_SameMoment : PySem.W.findIn K (.ref a_SameMoment) "__setattr__" = some (some (.builtin "object.__setattr__"))) (xno_SameMoment : PySem.W.findIn K (.ref a_SameMoment) "moment" = some none)
    (xp_BadHouse_SameMoment : PySem.W.subIn K (.ref a_BadHouse) (.ref a_SameMoment) = some false)
    (xp_BadMoment_SameMoment : PySem.W.subIn K (.ref a_BadMoment) (.ref a_SameMoment) = some false)
    (xp_BadSaying_SameMoment : PySem.W.subIn K (.ref a_BadSaying) (.ref a_SameMoment) = some false)
    (xp_BadTeller_SameMoment : PySem.W.subIn K (.ref a_BadTeller) (.ref a_SameMoment) = some false)
    (xp_NoEntry_SameMoment : PySem.W.subIn K (.ref a_NoEntry) (.ref a_SameMoment) = some false)
    (xv_KeyError : PySem.W.findCls K (.type "KeyError") (.type "type") "__init__" = some (.val (.builtin "KeyError.__init__")))
    (xv_LookupError : PySem.W.findCls K (.type "LookupError") (.type "type") "__init__" = some (.val (.builtin "LookupError.__init__")))
    (xv_ValueError : PySem.W.findCls K (.type "ValueError") (.type "type") "__init__" = some (.val (.builtin "ValueError.__init__")))
    {aD40 : Addr}
    (a1 : PySem.W.nsIn K mainGlobals "_law_draw" = some (some (.ref a__law_draw)))
    (l1 : K.lookup a__law_draw = some ⟨oc1, od1, .func (PySem.W.fnOf "_law_draw" "_law_draw" (defArgs s__law_draw) (defBody s__law_draw) (defScope s__law_draw) .none kV1 dc1 pm1 an1 cd1 ct1), sl1⟩) (c1 : PySem.W.codeIn K cd1 "_law_draw" = true) (k1 : PySem.W.keepIn K (.ref a__law_draw) = true)
    (a2 : PySem.W.nsIn K mainGlobals "_law_beginning" = some (some (.ref a__law_beginning)))
    (l2 : K.lookup a__law_beginning = some ⟨oc2, od2, .func (PySem.W.fnOf "_law_beginning" "_law_beginning" (defArgs s__law_beginning) (defBody s__law_beginning) (defScope s__law_beginning) .none kV2 dc2 pm2 an2 cd2 ct2), sl2⟩) (c2 : PySem.W.codeIn K cd2 "_law_beginning" = true) (k2 : PySem.W.keepIn K (.ref a__law_beginning) = true)
    (a3 : PySem.W.nsIn K mainGlobals "heap_of" = some (some (.ref a_heap_of)))
    (l3 : K.lookup a_heap_of = some ⟨oc3, od3, .func (PySem.W.fnOf "heap_of" "heap_of" (defArgs s_heap_of) (defBody s_heap_of) (defScope s_heap_of) .none kV3 dc3 pm3 an3 cd3 ct3), sl3⟩) (c3 : PySem.W.codeIn K cd3 "heap_of" = true) (k3 : PySem.W.keepIn K (.ref a_heap_of) = true)
    (a4 : PySem.W.findIn K (.ref a_House) "ahead_of" = some (some (.ref a_House_ahead_of))) (i4 : PySem.W.isFn K (.ref a_House_ahead_of) = true)
    (l4 : K.lookup a_House_ahead_of = some ⟨oc4, od4, .func (PySem.W.fnOf "ahead_of" "House.ahead_of" (defArgs s_House_ahead_of) (defBody s_House_ahead_of) (defScope s_House_ahead_of) .none kV4 dc4 pm4 an4 cd4 ct4), sl4⟩) (c4 : PySem.W.codeIn K cd4 "House.ahead_of" = true) (k4 : PySem.W.keepIn K (.ref a_House_ahead_of) = true)
    (a5 : PySem.W.findIn K (.ref a_House) "said" = some (some (.ref a_House_said))) (i5 : PySem.W.isFn K (.ref a_House_said) = true)
    (l5 : K.lookup a_House_said = some ⟨oc5, od5, .func (PySem.W.fnOf "said" "House.said" (defArgs s_House_said) (defBody s_House_said) (defScope s_House_said) .none kV5 dc5 pm5 an5 cd5 ct5), sl5⟩) (c5 : PySem.W.codeIn K cd5 "House.said" = true) (k5 : PySem.W.keepIn K (.ref a_House_said) = true)
    (a6 : PySem.W.nsIn K mainGlobals "_law_sighted" = some (some (.ref a__law_sighted)))
    (l6 : K.lookup a__law_sighted = some ⟨oc6, od6, .func (PySem.W.fnOf "_law_sighted" "_law_sighted" (defArgs s__law_sighted) (defBody s__law_sighted) (defScope s__law_sighted) .none kV6 dc6 pm6 an6 cd6 ct6), sl6⟩) (c6 : PySem.W.codeIn K cd6 "_law_sighted" = true) (k6 : PySem.W.keepIn K (.ref a__law_sighted) = true)
    (a7 : PySem.W.nsIn K mainGlobals "_law_words" = some (some (.ref a__law_words)))
    (l7 : K.lookup a__law_words = some ⟨oc7, od7, .func (PySem.W.fnOf "_law_words" "_law_words" (defArgs s__law_words) (defBody s__law_words) (defScope s__law_words) .none kV7 dc7 pm7 an7 cd7 ct7), sl7⟩) (c7 : PySem.W.codeIn K cd7 "_law_words" = true) (k7 : PySem.W.keepIn K (.ref a__law_words) = true)
    (a8 : PySem.W.nsIn K mainGlobals "_law_entries" = some (some (.ref a__law_entries_b)))
    (l8 : K.lookup a__law_entries_b = some ⟨oc8, od8, .func (PySem.W.fnOf "_law_entries" "_law_entries" (defArgs s__law_entries_b) (defBody s__law_entries_b) (defScope s__law_entries_b) .none kV8 dc8 pm8 an8 cd8 ct8), sl8⟩) (c8 : PySem.W.codeIn K cd8 "_law_entries" = true) (k8 : PySem.W.keepIn K (.ref a__law_entries_b) = true)
    (a9 : PySem.W.nsIn K mainGlobals "is_whole" = some (some (.ref a_is_whole)))
    (l9 : K.lookup a_is_whole = some ⟨oc9, od9, .func (PySem.W.fnOf "is_whole" "is_whole" (defArgs s_is_whole) (defBody s_is_whole) (defScope s_is_whole) .none kV9 dc9 pm9 an9 cd9 ct9), sl9⟩) (c9 : PySem.W.codeIn K cd9 "is_whole" = true) (k9 : PySem.W.keepIn K (.ref a_is_whole) = true)
    (a10 : PySem.W.nsIn K mainGlobals "is_moment" = some (some (.ref a_is_moment_a)))
    (l10 : K.lookup a_is_moment_a = some ⟨oc10, od10, .func (PySem.W.fnOf "is_moment" "is_moment" (defArgs s_is_moment_a) (defBody s_is_moment_a) (defScope s_is_moment_a) .none kV10 dc10 pm10 an10 cd10 ct10), sl10⟩) (c10 : PySem.W.codeIn K cd10 "is_moment" = true) (k10 : PySem.W.keepIn K (.ref a_is_moment_a) = true)
    (a11 : PySem.W.nsIn K mainGlobals "is_count" = some (some (.ref a_is_count)))
    (l11 : K.lookup a_is_count = some ⟨oc11, od11, .func (PySem.W.fnOf "is_count" "is_count" (defArgs s_is_count) (defBody s_is_count) (defScope s_is_count) .none kV11 dc11 pm11 an11 cd11 ct11), sl11⟩) (c11 : PySem.W.codeIn K cd11 "is_count" = true) (k11 : PySem.W.keepIn K (.ref a_is_count) = true)
    (a12 : PySem.W.nsIn K mainGlobals "is_saying" = some (some (.ref a_is_saying_a)))
    (l12 : K.lookup a_is_saying_a = some ⟨oc12, od12, .func (PySem.W.fnOf "is_saying" "is_saying" (defArgs s_is_saying_a) (defBody s_is_saying_a) (defScope s_is_saying_a) .none kV12 dc12 pm12 an12 cd12 ct12), sl12⟩) (c12 : PySem.W.codeIn K cd12 "is_saying" = true) (k12 : PySem.W.keepIn K (.ref a_is_saying_a) = true)
    (a13 : PySem.W.nsIn K mainGlobals "is_word" = some (some (.ref a_is_word_a)))
    (l13 : K.lookup a_is_word_a = some ⟨oc13, od13, .func (PySem.W.fnOf "is_word" "is_word" (defArgs s_is_word_a) (defBody s_is_word_a) (defScope s_is_word_a) .none kV13 dc13 pm13 an13 cd13 ct13), sl13⟩) (c13 : PySem.W.codeIn K cd13 "is_word" = true) (k13 : PySem.W.keepIn K (.ref a_is_word_a) = true)
    (a14 : PySem.W.findIn K (.ref a_BadMoment) "__init__" = some (some (.ref a_BadMoment___init__))) (i14 : PySem.W.isFn K (.ref a_BadMoment___init__) = true)
    (l14 : K.lookup a_BadMoment___init__ = some ⟨oc14, od14, .func (PySem.W.fnOf "__init__" "BadMoment.__init__" (defArgs s_BadMoment___init__) (defBody s_BadMoment___init__) (defScope s_BadMoment___init__) .none kV14 dc14 pm14 an14 cd14 ct14), sl14⟩) (c14 : PySem.W.codeIn K cd14 "BadMoment.__init__" = true) (k14 : PySem.W.keepIn K (.ref a_BadMoment___init__) = true)
    (a15 : PySem.W.findIn K (.ref a_BadSaying) "__init__" = some (some (.ref a_BadSaying___init__))) (i15 : PySem.W.isFn K (.ref a_BadSaying___init__) = true)
    (l15 : K.lookup a_BadSaying___init__ = some ⟨oc15, od15, .func (PySem.W.fnOf "__init__" "BadSaying.__init__" (defArgs s_BadSaying___init__) (defBody s_BadSaying___init__) (defScope s_BadSaying___init__) .none kV15 dc15 pm15 an15 cd15 ct15), sl15⟩) (c15 : PySem.W.codeIn K cd15 "BadSaying.__init__" = true) (k15 : PySem.W.keepIn K (.ref a_BadSaying___init__) = true)
    (a16 : PySem.W.findIn K (.ref a_BadTeller) "__init__" = some (some (.ref a_BadTeller___init__))) (i16 : PySem.W.isFn K (.ref a_BadTeller___init__) = true)
    (l16 : K.lookup a_BadTeller___init__ = some ⟨oc16, od16, .func (PySem.W.fnOf "__init__" "BadTeller.__init__" (defArgs s_BadTeller___init__) (defBody s_BadTeller___init__) (defScope s_BadTeller___init__) .none kV16 dc16 pm16 an16 cd16 ct16), sl16⟩) (c16 : PySem.W.codeIn K cd16 "BadTeller.__init__" = true) (k16 : PySem.W.keepIn K (.ref a_BadTeller___init__) = true)
    (a17 : PySem.W.findIn K (.ref a_SameMoment) "__init__" = some (some (.ref a_SameMoment___init__))) (i17 : PySem.W.isFn K (.ref a_SameMoment___init__) = true)
    (l17 : K.lookup a_SameMoment___init__ = some ⟨oc17, od17, .func (PySem.W.fnOf "__init__" "SameMoment.__init__" (defArgs s_SameMoment___init__) (defBody s_SameMoment___init__) (defScope s_SameMoment___init__) .none kV17 dc17 pm17 an17 cd17 ct17), sl17⟩) (c17 : PySem.W.codeIn K cd17 "SameMoment.__init__" = true) (k17 : PySem.W.keepIn K (.ref a_SameMoment___init__) = true)
    (a18 : PySem.W.findIn K (.ref a_Lore) "put" = some (some (.ref a_Lore_put))) (i18 : PySem.W.isFn K (.ref a_Lore_put) = true)
    (l18 : K.lookup a_Lore_put = some ⟨oc18, od18, .func (PySem.W.fnOf "put" "Lore.put" (defArgs s_Lore_put) (defBody s_Lore_put) (defScope s_Lore_put) .none kV18 dc18 pm18 an18 cd18 ct18), sl18⟩) (c18 : PySem.W.codeIn K cd18 "Lore.put" = true) (k18 : PySem.W.keepIn K (.ref a_Lore_put) = true)
    (a19 : PySem.W.findIn K (.ref a_Lore) "leaves" = some (some (.ref a_Lore_leaves))) (i19 : PySem.W.isFn K (.ref a_Lore_leaves) = true)
    (l19 : K.lookup a_Lore_leaves = some ⟨oc19, od19, .func (PySem.W.fnOf "leaves" "Lore.leaves" (defArgs s_Lore_leaves) (defBody s_Lore_leaves) (defScope s_Lore_leaves) .none kV19 dc19 pm19 an19 cd19 ct19), sl19⟩) (c19 : PySem.W.codeIn K cd19 "Lore.leaves" = true) (k19 : PySem.W.keepIn K (.ref a_Lore_leaves) = true)
    (a20 : PySem.W.findIn K (.ref a_Lore) "sees" = some (some (.ref a_Lore_sees))) (i20 : PySem.W.isFn K (.ref a_Lore_sees) = true)
    (l20 : K.lookup a_Lore_sees = some ⟨oc20, od20, .func (PySem.W.fnOf "sees" "Lore.sees" (defArgs s_Lore_sees) (defBody s_Lore_sees) (defScope s_Lore_sees) .none kV20 dc20 pm20 an20 cd20 ct20), sl20⟩) (c20 : PySem.W.codeIn K cd20 "Lore.sees" = true) (k20 : PySem.W.keepIn K (.ref a_Lore_sees) = true)
    (a21 : PySem.W.findIn K (.ref a_Lore) "trusts" = some (some (.ref a_Lore_trusts))) (i21 : PySem.W.isFn K (.ref a_Lore_trusts) = true)
    (l21 : K.lookup a_Lore_trusts = some ⟨oc21, od21, .func (PySem.W.fnOf "trusts" "Lore.trusts" (defArgs s_Lore_trusts) (defBody s_Lore_trusts) (defScope s_Lore_trusts) .none kV21 dc21 pm21 an21 cd21 ct21), sl21⟩) (c21 : PySem.W.codeIn K cd21 "Lore.trusts" = true) (k21 : PySem.W.keepIn K (.ref a_Lore_trusts) = true)
    (a22 : PySem.W.nsIn K mainGlobals "_law_tell" = some (some (.ref a__law_tell_2)))
    (l22 : K.lookup a__law_tell_2 = some ⟨oc22, od22, .func (PySem.W.fnOf "_law_tell" "_law_tell" (defArgs s__law_tell_2) (defBody s__law_tell_2) (defScope s__law_tell_2) .none kV22 dc22 pm22 an22 cd22 ct22), sl22⟩) (c22 : PySem.W.codeIn K cd22 "_law_tell" = true) (k22 : PySem.W.keepIn K (.ref a__law_tell_2) = true)
    (a23 : PySem.W.nsIn K mainGlobals "is_base" = some (some (.ref a_is_base)))
    (l23 : K.lookup a_is_base = some ⟨oc23, od23, .func (PySem.W.fnOf "is_base" "is_base" (defArgs s_is_base) (defBody s_is_base) (defScope s_is_base) .none kV23 dc23 pm23 an23 cd23 ct23), sl23⟩) (c23 : PySem.W.codeIn K cd23 "is_base" = true) (k23 : PySem.W.keepIn K (.ref a_is_base) = true)
    (a24 : PySem.W.findIn K (.ref a_BadHouse) "__init__" = some (some (.ref a_BadHouse___init__))) (i24 : PySem.W.isFn K (.ref a_BadHouse___init__) = true)
    (l24 : K.lookup a_BadHouse___init__ = some ⟨oc24, od24, .func (PySem.W.fnOf "__init__" "BadHouse.__init__" (defArgs s_BadHouse___init__) (defBody s_BadHouse___init__) (defScope s_BadHouse___init__) .none kV24 dc24 pm24 an24 cd24 ct24), sl24⟩) (c24 : PySem.W.codeIn K cd24 "BadHouse.__init__" = true) (k24 : PySem.W.keepIn K (.ref a_BadHouse___init__) = true)
    (a25 : PySem.W.findIn K (.ref a_Lore) "__init__" = some (some (.ref a_Lore___init__))) (i25 : PySem.W.isFn K (.ref a_Lore___init__) = true)
    (l25 : K.lookup a_Lore___init__ = some ⟨oc25, od25, .func (PySem.W.fnOf "__init__" "Lore.__init__" (defArgs s_Lore___init__) (defBody s_Lore___init__) (defScope s_Lore___init__) .none kV25 dc25 pm25 an25 cd25 ct25), sl25⟩) (c25 : PySem.W.codeIn K cd25 "Lore.__init__" = true) (k25 : PySem.W.keepIn K (.ref a_Lore___init__) = true)
    (a26 : PySem.W.nsIn K mainGlobals "_law_lore" = some (some (.ref a__law_lore_2)))
    (l26 : K.lookup a__law_lore_2 = some ⟨oc26, od26, .func (PySem.W.fnOf "_law_lore" "_law_lore" (defArgs s__law_lore_2) (defBody s__law_lore_2) (defScope s__law_lore_2) .none kV26 dc26 pm26 an26 cd26 ct26), sl26⟩) (c26 : PySem.W.codeIn K cd26 "_law_lore" = true) (k26 : PySem.W.keepIn K (.ref a__law_lore_2) = true)
    (a27 : PySem.W.nsIn K mainGlobals "_law_mixed" = some (some (.ref a__law_mixed)))
    (l27 : K.lookup a__law_mixed = some ⟨oc27, od27, .func (PySem.W.fnOf "_law_mixed" "_law_mixed" (defArgs s__law_mixed) (defBody s__law_mixed) (defScope s__law_mixed) .none kV27 dc27 pm27 an27 cd27 ct27), sl27⟩) (c27 : PySem.W.codeIn K cd27 "_law_mixed" = true) (k27 : PySem.W.keepIn K (.ref a__law_mixed) = true)
    (a28 : PySem.W.nsIn K mainGlobals "_law_pen" = some (some (.ref a__law_pen)))
    (l28 : K.lookup a__law_pen = some ⟨oc28, od28, .func (PySem.W.fnOf "_law_pen" "_law_pen" (defArgs s__law_pen) (defBody s__law_pen) (defScope s__law_pen) .none kV28 dc28 pm28 an28 cd28 ct28), sl28⟩) (c28 : PySem.W.codeIn K cd28 "_law_pen" = true) (k28 : PySem.W.keepIn K (.ref a__law_pen) = true)
    (a29 : PySem.W.nsIn K mainGlobals "_law_row" = some (some (.ref a__law_row_3)))
    (l29 : K.lookup a__law_row_3 = some ⟨oc29, od29, .func (PySem.W.fnOf "_law_row" "_law_row" (defArgs s__law_row_3) (defBody s__law_row_3) (defScope s__law_row_3) .none kV29 dc29 pm29 an29 cd29 ct29), sl29⟩) (c29 : PySem.W.codeIn K cd29 "_law_row" = true) (k29 : PySem.W.keepIn K (.ref a__law_row_3) = true)
    (a30 : PySem.W.nsIn K mainGlobals "figures_of" = some (some (.ref a_figures_of)))
    (l30 : K.lookup a_figures_of = some ⟨oc30, od30, .func (PySem.W.fnOf "figures_of" "figures_of" (defArgs s_figures_of) (defBody s_figures_of) (defScope s_figures_of) .none kV30 dc30 pm30 an30 cd30 ct30), sl30⟩) (c30 : PySem.W.codeIn K cd30 "figures_of" = true) (k30 : PySem.W.keepIn K (.ref a_figures_of) = true)
    (a31 : PySem.W.nsIn K mainGlobals "base_of" = some (some (.ref a_base_of)))
    (l31 : K.lookup a_base_of = some ⟨oc31, od31, .func (PySem.W.fnOf "base_of" "base_of" (defArgs s_base_of) (defBody s_base_of) (defScope s_base_of) .none kV31 dc31 pm31 an31 cd31 ct31), sl31⟩) (c31 : PySem.W.codeIn K cd31 "base_of" = true) (k31 : PySem.W.keepIn K (.ref a_base_of) = true)
    (a32 : PySem.W.nsIn K mainGlobals "saying_of" = some (some (.ref a_saying_of_2)))
    (l32 : K.lookup a_saying_of_2 = some ⟨oc32, od32, .func (PySem.W.fnOf "saying_of" "saying_of" (defArgs s_saying_of_2) (defBody s_saying_of_2) (defScope s_saying_of_2) .none kV32 dc32 pm32 an32 cd32 ct32), sl32⟩) (c32 : PySem.W.codeIn K cd32 "saying_of" = true) (k32 : PySem.W.keepIn K (.ref a_saying_of_2) = true)
    (a33 : PySem.W.nsIn K mainGlobals "entry_of" = some (some (.ref a_entry_of_2)))
    (l33 : K.lookup a_entry_of_2 = some ⟨oc33, od33, .func (PySem.W.fnOf "entry_of" "entry_of" (defArgs s_entry_of_2) (defBody s_entry_of_2) (defScope s_entry_of_2) .none kV33 dc33 pm33 an33 cd33 ct33), sl33⟩) (c33 : PySem.W.codeIn K cd33 "entry_of" = true) (k33 : PySem.W.keepIn K (.ref a_entry_of_2) = true)
    (a34 : PySem.W.nsIn K mainGlobals "tell" = some (some (.ref a_tell)))
    (l34 : K.lookup a_tell = some ⟨oc34, od34, .func (PySem.W.fnOf "tell" "tell" (defArgs s_tell) (defBody s_tell) (defScope s_tell) .none kV34 dc34 pm34 an34 cd34 ct34), sl34⟩) (c34 : PySem.W.codeIn K cd34 "tell" = true) (k34 : PySem.W.keepIn K (.ref a_tell) = true)
    (a35 : PySem.W.nsIn K mainGlobals "read_lore" = some (some (.ref a_read_lore)))
    (l35 : K.lookup a_read_lore = some ⟨oc35, od35, .func (PySem.W.fnOf "read_lore" "read_lore" (defArgs s_read_lore) (defBody s_read_lore) (defScope s_read_lore) .none kV35 dc35 pm35 an35 cd35 ct35), sl35⟩) (c35 : PySem.W.codeIn K cd35 "read_lore" = true) (k35 : PySem.W.keepIn K (.ref a_read_lore) = true)
    (a36 : PySem.W.nsIn K mainGlobals "_law_twice_right" = some (some (.ref a__law_twice_right)))
    (l36 : K.lookup a__law_twice_right = some ⟨oc36, od36, .func (PySem.W.fnOf "_law_twice_right" "_law_twice_right" (defArgs s__law_twice_right) (defBody s__law_twice_right) (defScope s__law_twice_right) .none kV36 dc36 pm36 an36 cd36 ct36), sl36⟩) (c36 : PySem.W.codeIn K cd36 "_law_twice_right" = true) (k36 : PySem.W.keepIn K (.ref a__law_twice_right) = true)
    (a37 : PySem.W.nsIn K mainGlobals "show_saying" = some (some (.ref a_show_saying)))
    (l37 : K.lookup a_show_saying = some ⟨oc37, od37, .func (PySem.W.fnOf "show_saying" "show_saying" (defArgs s_show_saying) (defBody s_show_saying) (defScope s_show_saying) .none kV37 dc37 pm37 an37 cd37 ct37), sl37⟩) (c37 : PySem.W.codeIn K cd37 "show_saying" = true) (k37 : PySem.W.keepIn K (.ref a_show_saying) = true)
    (a38 : PySem.W.nsIn K mainGlobals "show_entry" = some (some (.ref a_show_entry)))
    (l38 : K.lookup a_show_entry = some ⟨oc38, od38, .func (PySem.W.fnOf "show_entry" "show_entry" (defArgs s_show_entry) (defBody s_show_entry) (defScope s_show_entry) .none kV38 dc38 pm38 an38 cd38 ct38), sl38⟩) (c38 : PySem.W.codeIn K cd38 "show_entry" = true) (k38 : PySem.W.keepIn K (.ref a_show_entry) = true)
    (a39 : PySem.W.findIn K (.ref a_Lore) "base" = some (some (.ref a_Lore_base))) (i39 : PySem.W.isFn K (.ref a_Lore_base) = true)
    (l39 : K.lookup a_Lore_base = some ⟨oc39, od39, .func (PySem.W.fnOf "base" "Lore.base" (defArgs s_Lore_base) (defBody s_Lore_base) (defScope s_Lore_base) .none kV39 dc39 pm39 an39 cd39 ct39), sl39⟩) (c39 : PySem.W.codeIn K cd39 "Lore.base" = true) (k39 : PySem.W.keepIn K (.ref a_Lore_base) = true)
    (a40 : PySem.W.findIn K (.ref a_Lore) "entries" = some (some (.ref a_Lore_entries))) (i40 : PySem.W.isFn K (.ref a_Lore_entries) = true)
    (l40 : K.lookup a_Lore_entries = some ⟨oc40, od40, .func (PySem.W.fnOf "entries" "Lore.entries" (defArgs s_Lore_entries) (defBody s_Lore_entries) (defScope s_Lore_entries) .none (.ref aD40) dc40 pm40 an40 cd40 ct40), sl40⟩) (c40 : PySem.W.codeIn K cd40 "Lore.entries" = true) (k40 : PySem.W.keepIn K (.ref a_Lore_entries) = true)
    (a41 : PySem.W.nsIn K mainGlobals "show_lore" = some (some (.ref a_show_lore)))
    (l41 : K.lookup a_show_lore = some ⟨oc41, od41, .func (PySem.W.fnOf "show_lore" "show_lore" (defArgs s_show_lore) (defBody s_show_lore) (defScope s_show_lore) .none kV41 dc41 pm41 an41 cd41 ct41), sl41⟩) (c41 : PySem.W.codeIn K cd41 "show_lore" = true) (k41 : PySem.W.keepIn K (.ref a_show_lore) = true)
    (a42 : PySem.W.findIn K (.ref a_NoEntry) "__init__" = some (some (.ref a_NoEntry___init__))) (i42 : PySem.W.isFn K (.ref a_NoEntry___init__) = true)
    (l42 : K.lookup a_NoEntry___init__ = some ⟨oc42, od42, .func (PySem.W.fnOf "__init__" "NoEntry.__init__" (defArgs s_NoEntry___init__) (defBody s_NoEntry___init__) (defScope s_NoEntry___init__) .none kV42 dc42 pm42 an42 cd42 ct42), sl42⟩) (c42 : PySem.W.codeIn K cd42 "NoEntry.__init__" = true) (k42 : PySem.W.keepIn K (.ref a_NoEntry___init__) = true)
    (a43 : PySem.W.findIn K (.ref a_Lore) "drop" = some (some (.ref a_Lore_drop))) (i43 : PySem.W.isFn K (.ref a_Lore_drop) = true)
    (l43 : K.lookup a_Lore_drop = some ⟨oc43, od43, .func (PySem.W.fnOf "drop" "Lore.drop" (defArgs s_Lore_drop) (defBody s_Lore_drop) (defScope s_Lore_drop) .none kV43 dc43 pm43 an43 cd43 ct43), sl43⟩) (c43 : PySem.W.codeIn K cd43 "Lore.drop" = true) (k43 : PySem.W.keepIn K (.ref a_Lore_drop) = true)
    (a44 : PySem.W.nsIn K mainGlobals "is_listing" = some (some (.ref a_is_listing)))
    (l44 : K.lookup a_is_listing = some ⟨oc44, od44, .func (PySem.W.fnOf "is_listing" "is_listing" (defArgs s_is_listing) (defBody s_is_listing) (defScope s_is_listing) .none kV44 dc44 pm44 an44 cd44 ct44), sl44⟩) (c44 : PySem.W.codeIn K cd44 "is_listing" = true) (k44 : PySem.W.keepIn K (.ref a_is_listing) = true)
    (a45 : PySem.W.nsIn K mainGlobals "is_beginning" = some (some (.ref a_is_beginning)))
    (l45 : K.lookup a_is_beginning = some ⟨oc45, od45, .func (PySem.W.fnOf "is_beginning" "is_beginning" (defArgs s_is_beginning) (defBody s_is_beginning) (defScope s_is_beginning) .none kV45 dc45 pm45 an45 cd45 ct45), sl45⟩) (c45 : PySem.W.codeIn K cd45 "is_beginning" = true) (k45 : PySem.W.keepIn K (.ref a_is_beginning) = true)
    (a46 : PySem.W.findIn K (.ref a_House) "__init__" = some (some (.ref a_House___init__))) (i46 : PySem.W.isFn K (.ref a_House___init__) = true)
    (l46 : K.lookup a_House___init__ = some ⟨oc46, od46, .func (PySem.W.fnOf "__init__" "House.__init__" (defArgs s_House___init__) (defBody s_House___init__) (defScope s_House___init__) .none kV46 dc46 pm46 an46 cd46 ct46), sl46⟩) (c46 : PySem.W.codeIn K cd46 "House.__init__" = true) (k46 : PySem.W.keepIn K (.ref a_House___init__) = true)
    (a47 : PySem.W.findIn K (.ref a_Lore) "__len__" = some (some (.ref a_Lore___len__))) (i47 : PySem.W.isFn K (.ref a_Lore___len__) = true)
    (l47 : K.lookup a_Lore___len__ = some ⟨oc47, od47, .func (PySem.W.fnOf "__len__" "Lore.__len__" (defArgs s_Lore___len__) (defBody s_Lore___len__) (defScope s_Lore___len__) .none kV47 dc47 pm47 an47 cd47 ct47), sl47⟩) (c47 : PySem.W.codeIn K cd47 "Lore.__len__" = true) (k47 : PySem.W.keepIn K (.ref a_Lore___len__) = true)
    (a48 : PySem.W.nsIn K mainGlobals "law" = some (some (.ref a_law)))
    (l48 : K.lookup a_law = some ⟨oc48, od48, .func (PySem.W.fnOf "law" "law" (defArgs s_law) (defBody s_law) (defScope s_law) .none kV48 dc48 pm48 an48 cd48 ct48), sl48⟩) (c48 : PySem.W.codeIn K cd48 "law" = true) (k48 : PySem.W.keepIn K (.ref a_law) = true)
    (xf_BadHouse : PySem.W.typeIn K (.ref a_BadHouse___init__) = some (.type "function"))
    (xf_BadMoment : PySem.W.typeIn K (.ref a_BadMoment___init__) = some (.type "function"))
    (xf_BadSaying : PySem.W.typeIn K (.ref a_BadSaying___init__) = some (.type "function"))
    (xf_BadTeller : PySem.W.typeIn K (.ref a_BadTeller___init__) = some (.type "function"))
    (xf_NoEntry : PySem.W.typeIn K (.ref a_NoEntry___init__) = some (.type "function"))
    (xf_SameMoment : PySem.W.typeIn K (.ref a_SameMoment___init__) = some (.type "function"))
    (n_House_kept_base : PySem.W.findIn K (.ref a_House) "kept_base" = some none)
    (n_House_kept_beginning : PySem.W.findIn K (.ref a_House) "kept_beginning" = some none)
    (n_House_sums : PySem.W.findIn K (.ref a_House) "sums" = some none)
    (n_Lore_kept : PySem.W.findIn K (.ref a_Lore) "kept" = some none)
    (n_Lore_kept_base : PySem.W.findIn K (.ref a_Lore) "kept_base" = some none)
    (mk_House : PySem.W.makesIn K a_House = true) (kc_House : PySem.W.keepIn K (.ref a_House) = true)
    (mk_Lore : PySem.W.makesIn K a_Lore = true) (kc_Lore : PySem.W.keepIn K (.ref a_Lore) = true)
    (q_FIGURES : PySem.W.nsIn K mainGlobals "FIGURES" = some (some (Value.str "0123456789" tk_FIGURES)))
    (q_LEAST_BASE : PySem.W.nsIn K mainGlobals "LEAST_BASE" = some (some (Value.int 2 tk_LEAST_BASE)))
    (q_LETTERS : PySem.W.nsIn K mainGlobals "LETTERS" = some (some (Value.str "abcdefghijklmnopqrstuvwxyz" tk_LETTERS)))
    (q_MOST_BASE : PySem.W.nsIn K mainGlobals "MOST_BASE" = some (some (Value.int 30 tk_MOST_BASE)))
    (q_MOST_FIGURES : PySem.W.nsIn K mainGlobals "MOST_FIGURES" = some (some (Value.int 200 tk_MOST_FIGURES)))
    {es_TRUSTED : Array DictEntry} {nd_TRUSTED : Nat} (q_TRUSTED : PySem.W.nsIn K mainGlobals "TRUSTED" = some (some (.ref a_TRUSTED))) (dl_TRUSTED : K.lookup a_TRUSTED = some ⟨.type "dict", none, .dict es_TRUSTED nd_TRUSTED, #[]⟩) (dz_TRUSTED : (a_TRUSTED == sysModules) = false) (dq_TRUSTED : es_TRUSTED.toList.map He.keyOf = He.keysIn w.params ["left", "trusted"])
    (dv_TRUSTED_0 : PySem.W.nsIn K a_TRUSTED "left" = some (some (.bool false)))
    (dv_TRUSTED_1 : PySem.W.nsIn K a_TRUSTED "trusted" = some (some (.bool true)))
    (kd40 : PySem.W.nsIn K aD40 "upto" = some (some Value.none))
    (z_KeyError : PySem.W.nsIn K mainGlobals "KeyError" = some none)
    (z_LookupError : PySem.W.nsIn K mainGlobals "LookupError" = some none)
    (z_ValueError : PySem.W.nsIn K mainGlobals "ValueError" = some none)
    (z_abs : PySem.W.nsIn K mainGlobals "abs" = some none)
    (z_all : PySem.W.nsIn K mainGlobals "all" = some none)
    (z_bool : PySem.W.nsIn K mainGlobals "bool" = some none)
    (z_int : PySem.W.nsIn K mainGlobals "int" = some none)
    (z_isinstance : PySem.W.nsIn K mainGlobals "isinstance" = some none)
    (z_len : PySem.W.nsIn K mainGlobals "len" = some none)
    (z_list : PySem.W.nsIn K mainGlobals "list" = some none)
    (z_max : PySem.W.nsIn K mainGlobals "max" = some none)
    (z_min : PySem.W.nsIn K mainGlobals "min" = some none)
    (z_range : PySem.W.nsIn K mainGlobals "range" = some none)
    (z_sorted : PySem.W.nsIn K mainGlobals "sorted" = some none)
    (z_str : PySem.W.nsIn K mainGlobals "str" = some none)
    (z_tuple : PySem.W.nsIn K mainGlobals "tuple" = some none)
    : ∃ fd : FuncData, (∀ (s : Shared) (v : Value), BindsTo s fd ⟨[v], []⟩ [("_law_script", v)]) ∧ ∀ base : Heap, K.In base → base.Ns mainGlobals mg → FnOk l.prog w K mg base CX0 9 fa fd ["_law_script"] (spLaw K) := by
  have e := hfa.symm.trans (PySem.W.mg_of X G a48)
  cases e
  have tx_SameMoment : ∀ c C fl, (xcl a_BadHouse a_BadMoment a_BadSaying a_BadTeller a_NoEntry a_SameMoment) c = some (C, fl) → PySem.W.exmOne K (.ref C) (.ref a_SameMoment) = some (Xn.is c .SameMoment) := by
    intro c C fl h
    cases c with
    | BadHouse =>
      cases (show some (a_BadHouse, (some "part" : Option Str)) = some (C, fl) from h)
      exact PySem.W.exm_ref xs_SameMoment xh_SameMoment xt_SameMoment xp_BadHouse_SameMoment
    | BadMoment =>
      cases (show some (a_BadMoment, (some "moment" : Option Str)) = some (C, fl) from h)
      exact PySem.W.exm_ref xs_SameMoment xh_SameMoment xt_SameMoment xp_BadMoment_SameMoment
    | BadSaying =>
      cases (show some (a_BadSaying, (some "place" : Option Str)) = some (C, fl) from h)
      exact PySem.W.exm_ref xs_SameMoment xh_SameMoment xt_SameMoment xp_BadSaying_SameMoment
    | BadTeller =>
      cases (show some (a_BadTeller, (some "teller" : Option Str)) = some (C, fl) from h)
      exact PySem.W.exm_ref xs_SameMoment xh_SameMoment xt_SameMoment xp_BadTeller_SameMoment
    | NoEntry =>
      cases (show some (a_NoEntry, (some "moment" : Option Str)) = some (C, fl) from h)
      exact PySem.W.exm_ref xs_SameMoment xh_SameMoment xt_SameMoment xp_NoEntry_SameMoment
    | SameMoment =>
      cases (show some (a_SameMoment, (some "moment" : Option Str)) = some (C, fl) from h)
      exact PySem.W.exm_ref xs_SameMoment xh_SameMoment xt_SameMoment xe_SameMoment
    | _ => exact absurd (show (none : Option (Addr × Option Str)) = some (C, fl) from h) (by simp)
  have T : Tx w K mg a__law_draw a__law_beginning a_heap_of a_House_ahead_of a_House_said a__law_sighted a__law_words a__law_entries_b a_is_whole a_is_moment_a a_is_count a_is_saying_a a_is_word_a a_BadMoment___init__ a_BadSaying___init__ a_BadTeller___init__ a_SameMoment___init__ a_Lore_put a_Lore_leaves a_Lore_sees a_Lore_trusts a__law_tell_2 a_is_base a_BadHouse___init__ a_Lore___init__ a__law_lore_2 a__law_mixed a__law_pen a__law_row_3 a_figures_of a_base_of a_saying_of_2 a_entry_of_2 a_tell a_read_lore a__law_twice_right a_show_saying a_show_entry a_Lore_base a_Lore_entries a_show_lore a_NoEntry___init__ a_Lore_drop a_is_listing a_is_beginning a_House___init__ a_Lore___len__ fa a_House a_Lore a_BadHouse a_BadMoment a_BadSaying a_BadTeller a_NoEntry a_SameMoment a_TRUSTED tk_FIGURES tk_LEAST_BASE tk_LETTERS tk_MOST_BASE tk_MOST_FIGURES := ⟨PySem.W.mg_none_of X G z_KeyError, PySem.W.mg_none_of X G z_LookupError, PySem.W.mg_none_of X G z_ValueError, PySem.W.mg_none_of X G z_abs, PySem.W.mg_none_of X G z_all, PySem.W.mg_none_of X G z_bool, PySem.W.mg_none_of X G z_int, PySem.W.mg_none_of X G z_isinstance, PySem.W.mg_none_of X G z_len, PySem.W.mg_none_of X G z_list, PySem.W.mg_none_of X G z_max, PySem.W.mg_none_of X G z_min, PySem.W.mg_none_of X G z_range, PySem.W.mg_none_of X G z_sorted, PySem.W.mg_none_of X G z_str, PySem.W.mg_none_of X G z_tuple, PySem.W.mg_of X G q_FIGURES, PySem.W.mg_of X G q_LEAST_BASE, PySem.W.mg_of X G q_LETTERS, PySem.W.mg_of X G q_MOST_BASE, PySem.W.mg_of X G q_MOST_FIGURES, PySem.W.mg_of X G q_TRUSTED, dicK_mk dl_TRUSTED dz_TRUSTED dq_TRUSTED, dv_TRUSTED_0, dv_TRUSTED_1, PySem.W.mg_of X G a1, k1, PySem.W.mg_of X G a2, k2, PySem.W.mg_of X G a3, k3, PySem.W.mg_of X G a6, k6, PySem.W.mg_of X G a7, k7, PySem.W.mg_of X G a8, k8, PySem.W.mg_of X G a9, k9, PySem.W.mg_of X G a10, k10, PySem.W.mg_of X G a11, k11, PySem.W.mg_of X G a12, k12, PySem.W.mg_of X G a13, k13, PySem.W.mg_of X G a22, k22, PySem.W.mg_of X G a23, k23, PySem.W.mg_of X G a26, k26, PySem.W.mg_of X G a27, k27, PySem.W.mg_of X G a28, k28, PySem.W.mg_of X G a29, k29, PySem.W.mg_of X G a30, k30, PySem.W.mg_of X G a31, k31, PySem.W.mg_of X G a32, k32, PySem.W.mg_of X G a33, k33, PySem.W.mg_of X G a34, k34, PySem.W.mg_of X G a35, k35, PySem.W.mg_of X G a36, k36, PySem.W.mg_of X G a37, k37, PySem.W.mg_of X G a38, k38, PySem.W.mg_of X G a41, k41, PySem.W.mg_of X G a44, k44, PySem.W.mg_of X G a45, k45, PySem.W.mg_of X G a48, k48, PySem.W.mg_of X G ac_House, ⟨pg_House, hd_House, po_House, sa_House⟩, PySem.W.mg_of X G ac_Lore, ⟨pg_Lore, hd_Lore, po_Lore, sa_Lore⟩, n_House_kept_base, n_House_kept_beginning, n_House_sums, n_Lore_kept, n_Lore_kept_base, ⟨a4, i4, k4⟩, ⟨a5, i5, k5⟩, ⟨a18, i18, k18⟩, ⟨a19, i19, k19⟩, ⟨a20, i20, k20⟩, ⟨a21, i21, k21⟩, ⟨a39, i39, k39⟩, ⟨a40, i40, k40⟩, ⟨a43, i43, k43⟩, ⟨a47, i47, k47⟩, ⟨mk_House, a46, i46, kc_House⟩, ⟨mk_Lore, a25, i25, kc_Lore⟩, PySem.W.mg_of X G ac_BadHouse, ⟨⟨_, _, _, _, _, _, _, _, _, _, _, _, _, _, rl_BadHouse⟩, xz_BadHouse, xs_BadHouse, xt_BadHouse, xk_BadHouse⟩, a24, xf_BadHouse, xno_BadHouse, PySem.W.exm_ref xs_BadHouse xh_BadHouse xt_BadHouse xe_BadHouse, kit_T (by decide +kernel) xq_BadHouse, ⟨xg_BadHouse, xa_BadHouse, xs_BadHouse, xh_BadHouse, xc_BadHouse, xn_BadHouse, xo_BadHouse, xm_BadHouse⟩, PySem.W.mg_of X G ac_BadMoment, ⟨⟨_, _, _, _, _, _, _, _, _, _, _, _, _, _, rl_BadMoment⟩, xz_BadMoment, xs_BadMoment, xt_BadMoment, xk_BadMoment⟩, a14, xf_BadMoment, xno_BadMoment, PySem.W.exm_ref xs_BadMoment xh_BadMoment xt_BadMoment xe_BadMoment, kit_T (by decide +kernel) xq_BadMoment, ⟨xg_BadMoment, xa_BadMoment, xs_BadMoment, xh_BadMoment, xc_BadMoment, xn_BadMoment, xo_BadMoment, xm_BadMoment⟩, PySem.W.mg_of X G ac_BadSaying, ⟨⟨_, _, _, _, _, _, _, _, _, _, _, _, _, _, rl_BadSaying⟩, xz_BadSaying, xs_BadSaying, xt_BadSaying, xk_BadSaying⟩, a15, xf_BadSaying, xno_BadSaying, PySem.W.exm_ref xs_BadSaying xh_BadSaying xt_BadSaying xe_BadSaying, kit_T (by decide +kernel) xq_BadSaying, ⟨xg_BadSaying, xa_BadSaying, xs_BadSaying, xh_BadSaying, xc_BadSaying, xn_BadSaying, xo_BadSaying, xm_BadSaying⟩, PySem.W.mg_of X G ac_BadTeller, ⟨⟨_, _, _, _, _, _, _, _, _, _, _, _, _, _, rl_BadTeller⟩, xz_BadTeller, xs_BadTeller, xt_BadTeller, xk_BadTeller⟩, a16, xf_BadTeller, xno_BadTeller, PySem.W.exm_ref xs_BadTeller xh_BadTeller xt_BadTeller xe_BadTeller, kit_T (by decide +kernel) xq_BadTeller, ⟨xg_BadTeller, xa_BadTeller, xs_BadTeller, xh_BadTeller, xc_BadTeller, xn_BadTeller, xo_BadTeller, xm_BadTeller⟩, PySem.W.mg_of X G ac_NoEntry, ⟨⟨_, _, _, _, _, _, _, _, _, _, _, _, _, _, rl_NoEntry⟩, xz_NoEntry, xs_NoEntry, xt_NoEntry, xk_NoEntry⟩, a42, xf_NoEntry, xno_NoEntry, PySem.W.exm_ref xs_NoEntry xh_NoEntry xt_NoEntry xe_NoEntry, kit_T (by decide +kernel) xq_NoEntry, ⟨xg_NoEntry, xa_NoEntry, xs_NoEntry, xh_NoEntry, xc_NoEntry, xn_NoEntry, xo_NoEntry, xm_NoEntry⟩, PySem.W.mg_of X G ac_SameMoment, ⟨⟨_, _, _, _, _, _, _, _, _, _, _, _, _, _, rl_SameMoment⟩, xz_SameMoment, xs_SameMoment, xt_SameMoment, xk_SameMoment⟩, a17, xf_SameMoment, xno_SameMoment, PySem.W.exm_ref xs_SameMoment xh_SameMoment xt_SameMoment xe_SameMoment, kit_T (by decide +kernel) xq_SameMoment, ⟨xg_SameMoment, xa_SameMoment, xs_SameMoment, xh_SameMoment, xc_SameMoment, xn_SameMoment, xo_SameMoment, xm_SameMoment⟩, tx_SameMoment, xv_KeyError, xv_LookupError, xv_ValueError⟩
  have F1 := fun_mk (st := s__law_draw) l1 c1 k1
  have b1 := F1.binds (ps := ["_law_pen_here", "_law_many"]) fun _ _ _ _ _ _ us hl => match us, hl with | [_, _], _ => rfl
  have F2 := fun_mk (st := s__law_beginning) l2 c2 k2
  have b2 := F2.binds (ps := ["_law_pen_here", "_law_base", "_law_most"]) fun _ _ _ _ _ _ us hl => match us, hl with | [_, _, _], _ => rfl
  have F3 := fun_mk (st := s_heap_of) l3 c3 k3
  have b3 := F3.binds (ps := ["number", "base"]) fun _ _ _ _ _ _ us hl => match us, hl with | [_, _], _ => rfl
  have F4 := fun_mk (st := s_House_ahead_of) l4 c4 k4
  have b4 := F4.binds (ps := ["self", "power", "exponent", "sign"]) fun _ _ _ _ _ _ us hl => match us, hl with | [_, _, _, _], _ => rfl
  have F5 := fun_mk (st := s_House_said) l5 c5 k5
  have b5 := F5.binds (ps := ["self", "place"]) fun _ _ _ _ _ _ us hl => match us, hl with | [_, _], _ => rfl
  have F6 := fun_mk (st := s__law_sighted) l6 c6 k6
  have b6 := F6.binds (ps := ["_law_pen_here", "_law_house"]) fun _ _ _ _ _ _ us hl => match us, hl with | [_, _], _ => rfl
  have F7 := fun_mk (st := s__law_words) l7 c7 k7
  have b7 := F7.binds (ps := ["_law_pen_here", "_law_many"]) fun _ _ _ _ _ _ us hl => match us, hl with | [_, _], _ => rfl
  have F8 := fun_mk (st := s__law_entries_b) l8 c8 k8
  have b8 := F8.binds (ps := ["_law_pen_here", "_law_house", "_law_many"]) fun _ _ _ _ _ _ us hl => match us, hl with | [_, _, _], _ => rfl
  have F9 := fun_mk (st := s_is_whole) l9 c9 k9
  have b9 := F9.binds (ps := ["thing"]) fun _ _ _ _ _ _ us hl => match us, hl with | [_], _ => rfl
  have F10 := fun_mk (st := s_is_moment_a) l10 c10 k10
  have b10 := F10.binds (ps := ["thing"]) fun _ _ _ _ _ _ us hl => match us, hl with | [_], _ => rfl
  have F11 := fun_mk (st := s_is_count) l11 c11 k11
  have b11 := F11.binds (ps := ["thing"]) fun _ _ _ _ _ _ us hl => match us, hl with | [_], _ => rfl
  have F12 := fun_mk (st := s_is_saying_a) l12 c12 k12
  have b12 := F12.binds (ps := ["thing"]) fun _ _ _ _ _ _ us hl => match us, hl with | [_], _ => rfl
  have F13 := fun_mk (st := s_is_word_a) l13 c13 k13
  have b13 := F13.binds (ps := ["thing"]) fun _ _ _ _ _ _ us hl => match us, hl with | [_], _ => rfl
  have F14 := fun_mk (st := s_BadMoment___init__) l14 c14 k14
  have b14 := F14.binds (ps := ["self", "moment"]) fun _ _ _ _ _ _ us hl => match us, hl with | [_, _], _ => rfl
  have F15 := fun_mk (st := s_BadSaying___init__) l15 c15 k15
  have b15 := F15.binds (ps := ["self", "place"]) fun _ _ _ _ _ _ us hl => match us, hl with | [_, _], _ => rfl
  have F16 := fun_mk (st := s_BadTeller___init__) l16 c16 k16
  have b16 := F16.binds (ps := ["self", "teller"]) fun _ _ _ _ _ _ us hl => match us, hl with | [_, _], _ => rfl
  have F17 := fun_mk (st := s_SameMoment___init__) l17 c17 k17
  have b17 := F17.binds (ps := ["self", "moment"]) fun _ _ _ _ _ _ us hl => match us, hl with | [_, _], _ => rfl
  have F18 := fun_mk (st := s_Lore_put) l18 c18 k18
  have b18 := F18.binds (ps := ["self", "moment", "teller", "what"]) fun _ _ _ _ _ _ us hl => match us, hl with | [_, _, _, _], _ => rfl
  have F19 := fun_mk (st := s_Lore_leaves) l19 c19 k19
  have b19 := F19.binds (ps := ["self", "moment", "teller"]) fun _ _ _ _ _ _ us hl => match us, hl with | [_, _, _], _ => rfl
  have F20 := fun_mk (st := s_Lore_sees) l20 c20 k20
  have b20 := F20.binds (ps := ["self", "moment", "teller", "saying"]) fun _ _ _ _ _ _ us hl => match us, hl with | [_, _, _, _], _ => rfl
  have F21 := fun_mk (st := s_Lore_trusts) l21 c21 k21
  have b21 := F21.binds (ps := ["self", "moment", "teller"]) fun _ _ _ _ _ _ us hl => match us, hl with | [_, _, _], _ => rfl
  have F22 := fun_mk (st := s__law_tell_2) l22 c22 k22
  have b22 := F22.binds (ps := ["_law_lore_here", "_law_entry"]) fun _ _ _ _ _ _ us hl => match us, hl with | [_, _], _ => rfl
  have F23 := fun_mk (st := s_is_base) l23 c23 k23
  have b23 := F23.binds (ps := ["thing"]) fun _ _ _ _ _ _ us hl => match us, hl with | [_], _ => rfl
  have F24 := fun_mk (st := s_BadHouse___init__) l24 c24 k24
  have b24 := F24.binds (ps := ["self", "part"]) fun _ _ _ _ _ _ us hl => match us, hl with | [_, _], _ => rfl
  have F25 := fun_mk (st := s_Lore___init__) l25 c25 k25
  have b25 := F25.binds (ps := ["self", "k"]) fun _ _ _ _ _ _ us hl => match us, hl with | [_, _], _ => rfl
  have F26 := fun_mk (st := s__law_lore_2) l26 c26 k26
  have b26 := F26.binds (ps := ["_law_base", "_law_entries_here"]) fun _ _ _ _ _ _ us hl => match us, hl with | [_, _], _ => rfl
  have F27 := fun_mk (st := s__law_mixed) l27 c27 k27
  have b27 := F27.binds (ps := ["_law_pen_here", "_law_things"]) fun _ _ _ _ _ _ us hl => match us, hl with | [_, _], _ => rfl
  have F28 := fun_mk (st := s__law_pen) l28 c28 k28
  have b28 := F28.binds (ps := ["_law_script"]) fun _ _ _ _ _ _ us hl => match us, hl with | [_], _ => rfl
  have F29 := fun_mk (st := s__law_row_3) l29 c29 k29
  have b29 := F29.binds (ps := ["_law_entry"]) fun _ _ _ _ _ _ us hl => match us, hl with | [_], _ => rfl
  have F30 := fun_mk (st := s_figures_of) l30 c30 k30
  have b30 := F30.binds (ps := ["word"]) fun _ _ _ _ _ _ us hl => match us, hl with | [_], _ => rfl
  have F31 := fun_mk (st := s_base_of) l31 c31 k31
  have b31 := F31.binds (ps := ["row"]) fun _ _ _ _ _ _ us hl => match us, hl with | [_], _ => rfl
  have F32 := fun_mk (st := s_saying_of_2) l32 c32 k32
  have b32 := F32.binds (ps := ["words"]) fun _ _ _ _ _ _ us hl => match us, hl with | [_], _ => rfl
  have F33 := fun_mk (st := s_entry_of_2) l33 c33 k33
  have b33 := F33.binds (ps := ["words"]) fun _ _ _ _ _ _ us hl => match us, hl with | [_], _ => rfl
  have F34 := fun_mk (st := s_tell) l34 c34 k34
  have b34 := F34.binds (ps := ["lore", "entry"]) fun _ _ _ _ _ _ us hl => match us, hl with | [_, _], _ => rfl
  have F35 := fun_mk (st := s_read_lore) l35 c35 k35
  have b35 := F35.binds (ps := ["text"]) fun _ _ _ _ _ _ us hl => match us, hl with | [_], _ => rfl
  have F36 := fun_mk (st := s__law_twice_right) l36 c36 k36
  have b36 := F36.binds (ps := ["_law_head", "_law_rows"]) fun _ _ _ _ _ _ us hl => match us, hl with | [_, _], _ => rfl
  have F37 := fun_mk (st := s_show_saying) l37 c37 k37
  have b37 := F37.binds (ps := ["saying"]) fun _ _ _ _ _ _ us hl => match us, hl with | [_], _ => rfl
  have F38 := fun_mk (st := s_show_entry) l38 c38 k38
  have b38 := F38.binds (ps := ["entry"]) fun _ _ _ _ _ _ us hl => match us, hl with | [_], _ => rfl
  have F39 := fun_mk (st := s_Lore_base) l39 c39 k39
  have b39 := F39.binds (ps := ["self"]) fun _ _ _ _ _ _ us hl => match us, hl with | [_], _ => rfl
  have F40 := fun_mk (st := s_Lore_entries) l40 c40 k40
  have b40 : Binds K _ ["self", "upto"] [Value.none] := kw_binds (fd := PySem.W.fnOf "entries" "Lore.entries" (defArgs s_Lore_entries) (defBody s_Lore_entries) (defScope s_Lore_entries) .none (.ref aD40) dc40 pm40 an40 cd40 ct40) kd40 fun us hl => match us, hl with | [_], _ => ⟨_, _, _, _, _, _, rfl, rfl, rfl⟩
  have F41 := fun_mk (st := s_show_lore) l41 c41 k41
  have b41 := F41.binds (ps := ["lore"]) fun _ _ _ _ _ _ us hl => match us, hl with | [_], _ => rfl
  have F42 := fun_mk (st := s_NoEntry___init__) l42 c42 k42
  have b42 := F42.binds (ps := ["self", "moment"]) fun _ _ _ _ _ _ us hl => match us, hl with | [_, _], _ => rfl
  have F43 := fun_mk (st := s_Lore_drop) l43 c43 k43
  have b43 := F43.binds (ps := ["self", "moment"]) fun _ _ _ _ _ _ us hl => match us, hl with | [_, _], _ => rfl
  have F44 := fun_mk (st := s_is_listing) l44 c44 k44
  have b44 := F44.binds (ps := ["thing"]) fun _ _ _ _ _ _ us hl => match us, hl with | [_], _ => rfl
  have F45 := fun_mk (st := s_is_beginning) l45 c45 k45
  have b45 := F45.binds (ps := ["base", "thing"]) fun _ _ _ _ _ _ us hl => match us, hl with | [_, _], _ => rfl
  have F46 := fun_mk (st := s_House___init__) l46 c46 k46
  have b46 := F46.binds (ps := ["self", "k", "beginning"]) fun _ _ _ _ _ _ us hl => match us, hl with | [_, _, _], _ => rfl
  have F47 := fun_mk (st := s_Lore___len__) l47 c47 k47
  have b47 := F47.binds (ps := ["self"]) fun _ _ _ _ _ _ us hl => match us, hl with | [_], _ => rfl
  have F48 := fun_mk (st := s_law) l48 c48 k48
  refine ⟨PySem.W.fnOf "law" "law" (defArgs s_law) (defBody s_law) (defScope s_law) .none kV48 dc48 pm48 an48 cd48 ct48, fun s v => .of_eq rfl, fun base _ _ => ?_⟩
  have G1 := ok__law_draw (P := l.prog) (w := w) (base := base) F1 T
  have G2 := ok__law_beginning (P := l.prog) (w := w) (base := base) F2 T G1 b1
  have G3 := ok_heap_of (P := l.prog) (w := w) (base := base) F3 T
  have G4 := ok_House_ahead_of (P := l.prog) (w := w) (base := base) F4 T
  have G5 := ok_House_said (P := l.prog) (w := w) (base := base) F5 T G3 b3 G4 b4
  have G6 := ok__law_sighted (P := l.prog) (w := w) (base := base) F6 T G1 b1 G5 b5
  have G7 := ok__law_words (P := l.prog) (w := w) (base := base) F7 T G1 b1
  have G8 := ok__law_entries_b (P := l.prog) (w := w) (base := base) F8 T G1 b1 G6 b6 G7 b7
  have G9 := ok_is_whole (P := l.prog) (w := w) (base := base) F9 T
  have G10 := ok_is_moment_a (P := l.prog) (w := w) (base := base) F10 T G9 b9
  have G11 := ok_is_count (P := l.prog) (w := w) (base := base) F11 T G9 b9
  have G12 := ok_is_saying_a (P := l.prog) (w := w) (base := base) F12 T G11 b11
  have G13 := ok_is_word_a (P := l.prog) (w := w) (base := base) F13 T
  have G14 := ok_BadMoment___init__ (P := l.prog) (w := w) (base := base) F14 T
  have G15 := ok_BadSaying___init__ (P := l.prog) (w := w) (base := base) F15 T
  have G16 := ok_BadTeller___init__ (P := l.prog) (w := w) (base := base) F16 T
  have G17 := ok_SameMoment___init__ (P := l.prog) (w := w) (base := base) F17 T
  have G18 := ok_Lore_put (P := l.prog) (w := w) (base := base) F18 T G10 b10 G12 b12 G13 b13 G14 b14 G15 b15 G16 b16 G17 b17
  have G19 := ok_Lore_leaves (P := l.prog) (w := w) (base := base) F19 T G18 b18
  have G20 := ok_Lore_sees (P := l.prog) (w := w) (base := base) F20 T G18 b18
  have G21 := ok_Lore_trusts (P := l.prog) (w := w) (base := base) F21 T G18 b18
  have G22 := ok__law_tell_2 (P := l.prog) (w := w) (base := base) F22 T G19 b19 G20 b20 G21 b21
  have G23 := ok_is_base (P := l.prog) (w := w) (base := base) F23 T G9 b9
  have G24 := ok_BadHouse___init__ (P := l.prog) (w := w) (base := base) F24 T
  have G25 := ok_Lore___init__ (P := l.prog) (w := w) (base := base) F25 T G23 b23 G24 b24
  have G26 := ok__law_lore_2 (P := l.prog) (w := w) (base := base) F26 T G22 b22 G25 b25
  have G27 := ok__law_mixed (P := l.prog) (w := w) (base := base) F27 T G1 b1
  have G28 := ok__law_pen (P := l.prog) (w := w) (base := base) F28 T
  have G29 := ok__law_row_3 (P := l.prog) (w := w) (base := base) F29 T
  have G30 := ok_figures_of (P := l.prog) (w := w) (base := base) F30 T
  have G31 := ok_base_of (P := l.prog) (w := w) (base := base) F31 T G30 b30
  have G32 := ok_saying_of_2 (P := l.prog) (w := w) (base := base) F32 T G30 b30 G12 b12
  have G33 := ok_entry_of_2 (P := l.prog) (w := w) (base := base) F33 T G30 b30 G13 b13 G32 b32
  have G34 := ok_tell (P := l.prog) (w := w) (base := base) F34 T G19 b19 G20 b20 G21 b21
  have G35 := ok_read_lore (P := l.prog) (w := w) (base := base) F35 T G31 b31 G33 b33 G34 b34 G25 b25
  have G36 := ok__law_twice_right (P := l.prog) (w := w) (base := base) F36 T G35 b35
  have G37 := ok_show_saying (P := l.prog) (w := w) (base := base) F37 T
  have G38 := ok_show_entry (P := l.prog) (w := w) (base := base) F38 T G37 b37
  have G39 := ok_Lore_base (P := l.prog) (w := w) (base := base) F39 T
  have G40 := ok_Lore_entries (P := l.prog) (w := w) (base := base) F40 T
  have G41 := ok_show_lore (P := l.prog) (w := w) (base := base) F41 T G38 b38 G39 b39 G40 b40
  have G42 := ok_NoEntry___init__ (P := l.prog) (w := w) (base := base) F42 T
  have G43 := ok_Lore_drop (P := l.prog) (w := w) (base := base) F43 T G10 b10 G42 b42
  have G44 := ok_is_listing (P := l.prog) (w := w) (base := base) F44 T
  have G45 := ok_is_beginning (P := l.prog) (w := w) (base := base) F45 T G11 b11 G44 b44
  have G46 := ok_House___init__ (P := l.prog) (w := w) (base := base) F46 T G23 b23 G45 b45
  have G47 := ok_Lore___len__ (P := l.prog) (w := w) (base := base) F47 T
  have G48 := ok_law (P := l.prog) (w := w) (base := base) F48 T G2 b2 G1 b1 G8 b8 G26 b26 G27 b27 G28 b28 G29 b29 G36 b36 G35 b35 G41 b41 G39 b39 G43 b43 G40 b40 G46 b46 G25 b25 G47 b47
  exact G48
theorem walk {l : PySem.W.OpenLaw} {q : Program} {loose : List Str} {XP : (Str → Option Value) → Heap → Prop} {YP : World → Heap → Prop} {d : DefRec} {K : Params → PySem.W.Frag} (hn : l.most = some 63) (hdf : d.params.defaults = [])
    (hY : ∀ (w : World) (h : Heap), YP w h → (K w.params).In h)
    (F : ∀ (w : World) (mg : Str → Option Value) (fa : Addr) (h : Heap), (K w.params).In h → h.Ns mainGlobals mg → mg d.name = some (.ref fa) →
      ∃ fd : FuncData, (∀ (s : Shared) (u : Value), BindsTo s fd ⟨[u], []⟩ [("_law_script", u)]) ∧ ∀ base : Heap, (K w.params).In base → base.Ns mainGlobals mg → FnOk l.prog w (K w.params) mg base CX0 9 fa fd ["_law_script"] (spLaw (K w.params))) :
    PySem.W.WalkO q loose XP YP l.row.toRowW d [] (fun f vs => PySem.call f vs) :=
  L2.walk_of (n := 63) (k := 9) (x := "_law_script") (CX := fun _ => CX0) (sp := fun w => spLaw (K w.params)) hn (by decide) hdf ⟨rfl, by decide, by decide⟩ hY F (fun _ H a ns hl hO hS => ⟨a, ns, rfl, hO, hS, hl, fun _ => rfl⟩) fun _ _ _ _ _ z => z
end L_k90
open PySem PySem.W PyProof.Rows
set_option maxRecDepth 100000 in
set_option maxHeartbeats 0 in
theorem PySem.Challenge.cw_askback_k90_lores_written_and_read_holds : PySem.Challenge.rw_askback_k90_lores_written_and_read.Holds := by
  w_on; o_law; k_head; (case hw => w_witness2)
  k_fill
  refine L_k90.walk (l := PySem.Challenge.rw_askback_k90_lores_written_and_read) rfl rfl (fun w h Y => PySem.W.kIn_of Y) ?F
  case F =>
    intro w mg fa h KX G hmg
    refine' L_k90.all_mk KX G hmg ?ac_House ?pg_House ?hd_House ?po_House ?sa_House ?ac_Lore ?pg_Lore ?hd_Lore ?po_Lore ?sa_Lore ?ac_BadHouse ?rl_BadHouse ?xs_BadHouse ?xt_BadHouse ?xk_BadHouse ?xe_BadHouse ?xq_BadHouse ?xg_BadHouse ?xa_BadHouse ?xh_BadHouse ?xc_BadHouse ?xn_BadHouse ?xo_BadHouse ?xm_BadHouse ?xz_BadHouse ?xno_BadHouse ?ac_BadMoment ?rl_BadMoment ?xs_BadMoment ?xt_BadMoment ?xk_BadMoment ?xe_BadMoment ?xq_BadMoment ?xg_BadMoment ?xa_BadMoment ?xh_BadMoment ?xc_BadMoment ?xn_BadMoment ?xo_BadMoment ?xm_BadMoment ?xz_BadMoment ?xno_BadMoment ?ac_BadSaying ?rl_BadSaying ?xs_BadSaying ?xt_BadSaying ?xk_BadSaying ?xe_BadSaying ?xq_BadSaying ?xg_BadSaying ?xa_BadSaying ?xh_BadSaying ?xc_BadSaying ?xn_BadSaying ?xo_BadSaying ?xm_BadSaying ?xz_BadSaying ?xno_BadSaying ?ac_BadTeller ?rl_BadTeller ?xs_BadTeller ?xt_BadTeller ?xk_BadTeller ?xe_BadTeller ?xq_BadTeller ?xg_BadTeller ?xa_BadTeller ?xh_BadTeller ?xc_BadTeller ?xn_BadTeller ?xo_BadTeller ?xm_BadTeller ?xz_BadTeller ?xno_BadTeller ?ac_NoEntry ?rl_NoEntry ?xs_NoEntry ?xt_NoEntry ?xk_NoEntry ?xe_NoEntry ?xq_NoEntry ?xg_NoEntry ?xa_NoEntry ?xh_NoEntry ?xc_NoEntry ?xn_NoEntry ?xo_NoEntry ?xm_NoEntry ?xz_NoEntry ?xno_NoEntry ?ac_SameMoment ?rl_SameMoment ?xs_SameMoment ?xt_SameMoment ?xk_SameMoment ?xe_SameMoment ?xq_SameMoment ?xg_SameMoment ?xa_SameMoment ?xh_SameMoment ?xc_SameMoment ?xn_SameMoment ?xo_SameMoment ?xm_SameMoment ?xz_SameMoment ?xno_SameMoment ?xp_BadHouse_SameMoment ?xp_BadMoment_SameMoment ?xp_BadSaying_SameMoment ?xp_BadTeller_SameMoment ?xp_NoEntry_SameMoment ?xv_KeyError ?xv_LookupError ?xv_ValueError ?a1 ?l1 ?c1 ?k1 ?a2 ?l2 ?c2 ?k2 ?a3 ?l3 ?c3 ?k3 ?a4 ?i4 ?l4 ?c4 ?k4 ?a5 ?i5 ?l5 ?c5 ?k5 ?a6 ?l6 ?c6 ?k6 ?a7 ?l7 ?c7 ?k7 ?a8 ?l8 ?c8 ?k8 ?a9 ?l9 ?c9 ?k9 ?a10 ?l10 ?c10 ?k10 ?a11 ?l11 ?c11 ?k11 ?a12 ?l12 ?c12 ?k12 ?a13 ?l13 ?c13 ?k13 ?a14 ?i14 ?l14 ?c14 ?k14 ?a15 ?i15 ?l15 ?c15 ?k15 ?a16 ?i16 ?l16 ?c16 ?k16 ?a17 ?i17 ?l17 ?c17 ?k17 ?a18 ?i18 ?l18 ?c18 ?k18 ?a19 ?i19 ?l19 ?c19 ?k19 ?a20 ?i20 ?l20 ?c20 ?k20 ?a21 ?i21 ?l21 ?c21 ?k21 ?a22 ?l22 ?c22 ?k22 ?a23 ?l23 ?c23 ?k23 ?a24 ?i24 ?l24 ?c24 ?k24 ?a25 ?i25 ?l25 ?c25 ?k25 ?a26 ?l26 ?c26 ?k26 ?a27 ?l27 ?c27 ?k27 ?a28 ?l28 ?c28 ?k28 ?a29 ?l29 ?c29 ?k29 ?a30 ?l30 ?c30 ?k30 ?a31 ?l31 ?c31 ?k31 ?a32 ?l32 ?c32 ?k32 ?a33 ?l33 ?c33 ?k33 ?a34 ?l34 ?c34 ?k34 ?a35 ?l35 ?c35 ?k35 ?a36 ?l36 ?c36 ?k36 ?a37 ?l37 ?c37 ?k37 ?a38 ?l38 ?c38 ?k38 ?a39 ?i39 ?l39 ?c39 ?k39 ?a40 ?i40 ?l40 ?c40 ?k40 ?a41 ?l41 ?c41 ?k41 ?a42 ?i42 ?l42 ?c42 ?k42 ?a43 ?i43 ?l43 ?c43 ?k43 ?a44 ?l44 ?c44 ?k44 ?a45 ?l45 ?c45 ?k45 ?a46 ?i46 ?l46 ?c46 ?k46 ?a47 ?i47 ?l47 ?c47 ?k47 ?a48 ?l48 ?c48 ?k48 ?xf_BadHouse ?xf_BadMoment ?xf_BadSaying ?xf_BadTeller ?xf_NoEntry ?xf_SameMoment ?n_House_kept_base ?n_House_kept_beginning ?n_House_sums ?n_Lore_kept ?n_Lore_kept_base ?mk_House ?kc_House ?mk_Lore ?kc_Lore ?q_FIGURES ?q_LEAST_BASE ?q_LETTERS ?q_MOST_BASE ?q_MOST_FIGURES ?q_TRUSTED ?dl_TRUSTED ?dz_TRUSTED ?dq_TRUSTED ?dv_TRUSTED_0 ?dv_TRUSTED_1 ?kd40 ?z_KeyError ?z_LookupError ?z_ValueError ?z_abs ?z_all ?z_bool ?z_int ?z_isinstance ?z_len ?z_list ?z_max ?z_min ?z_range ?z_sorted ?z_str ?z_tuple
    (case ac_House => k_is)
    (case pg_House => k_is)
    (case hd_House => k_is)
    (case po_House => k_is)
    (case sa_House => k_is)
    (case ac_Lore => k_is)
    (case pg_Lore => k_is)
    (case hd_Lore => k_is)
    (case po_Lore => k_is)
    (case sa_Lore => k_is)
    (case ac_BadHouse => k_is)
    (case rl_BadHouse => k_is)
    (case xs_BadHouse => k_is)
    (case xt_BadHouse => k_is)
    (case xk_BadHouse => k_is)
    (case xe_BadHouse => k_is)
    (case xq_BadHouse => k_is)
    (case xg_BadHouse => k_is)
    (case xa_BadHouse => k_is)
    (case xh_BadHouse => k_is)
    (case xc_BadHouse => k_is)
    (case xn_BadHouse => k_is)
    (case xo_BadHouse => k_is)
    (case xm_BadHouse => k_is)
    (case xz_BadHouse => k_is)
    (case xno_BadHouse => k_is)
    (case ac_BadMoment => k_is)
    (case rl_BadMoment => k_is)
    (case xs_BadMoment => k_is)
    (case xt_BadMoment => k_is)
    (case xk_BadMoment => k_is)
    (case xe_BadMoment => k_is)
    (case xq_BadMoment => k_is)
    (case xg_BadMoment => k_is)
    (case xa_BadMoment => k_is)
    (case xh_BadMoment => k_is)
    (case xc_BadMoment => k_is)
    (case xn_BadMoment => k_is)
    (case xo_BadMoment => k_is)
    (case xm_BadMoment => k_is)
    (case xz_BadMoment => k_is)
    (case xno_BadMoment => k_is)
    (case ac_BadSaying => k_is)
    (case rl_BadSaying => k_is)
    (case xs_BadSaying => k_is)
    (case xt_BadSaying => k_is)
    (case xk_BadSaying => k_is)
    (case xe_BadSaying => k_is)
    (case xq_BadSaying => k_is)
    (case xg_BadSaying => k_is)
    (case xa_BadSaying => k_is)
    (case xh_BadSaying => k_is)
    (case xc_BadSaying => k_is)
    (case xn_BadSaying => k_is)
    (case xo_BadSaying => k_is)
    (case xm_BadSaying => k_is)
    (case xz_BadSaying => k_is)
    (case xno_BadSaying => k_is)
    (case ac_BadTeller => k_is)
    (case rl_BadTeller => k_is)
    (case xs_BadTeller => k_is)
    (case xt_BadTeller => k_is)
    (case xk_BadTeller => k_is)
    (case xe_BadTeller => k_is)
    (case xq_BadTeller => k_is)
    (case xg_BadTeller => k_is)
    (case xa_BadTeller => k_is)
    (case xh_BadTeller => k_is)
    (case xc_BadTeller => k_is)
    (case xn_BadTeller => k_is)
    (case xo_BadTeller => k_is)
    (case xm_BadTeller => k_is)
    (case xz_BadTeller => k_is)
    (case xno_BadTeller => k_is)
    (case ac_NoEntry => k_is)
    (case rl_NoEntry => k_is)
    (case xs_NoEntry => k_is)
    (case xt_NoEntry => k_is)
    (case xk_NoEntry => k_is)
    (case xe_NoEntry => k_is)
    (case xq_NoEntry => k_is)
    (case xg_NoEntry => k_is)
    (case xa_NoEntry => k_is)
    (case xh_NoEntry => k_is)
    (case xc_NoEntry => k_is)
    (case xn_NoEntry => k_is)
    (case xo_NoEntry => k_is)
    (case xm_NoEntry => k_is)
    (case xz_NoEntry => k_is)
    (case xno_NoEntry => k_is)
    (case ac_SameMoment => k_is)
    (case rl_SameMoment => k_is)
    (case xs_SameMoment => k_is)
    (case xt_SameMoment => k_is)
    (case xk_SameMoment => k_is)
    (case xe_SameMoment => k_is)
    (case xq_SameMoment => k_is)
    (case xg_SameMoment => k_is)
    (case xa_SameMoment => k_is)
    (case xh_SameMoment => k_is)
    (case xc_SameMoment => k_is)
    (case xn_SameMoment => k_is)
    (case xo_SameMoment => k_is)
    (case xm_SameMoment => k_is)
    (case xz_SameMoment => k_is)
    (case xno_SameMoment => k_is)
    (case xp_BadHouse_SameMoment => k_is)
    (case xp_BadMoment_SameMoment => k_is)
    (case xp_BadSaying_SameMoment => k_is)
    (case xp_BadTeller_SameMoment => k_is)
    (case xp_NoEntry_SameMoment => k_is)
    (case xv_KeyError => k_is)
    (case xv_LookupError => k_is)
    (case xv_ValueError => k_is)
    (case a1 => k_is)
    (case l1 => k_is)
    (case c1 => k_is)
    (case k1 => k_is)
    (case a2 => k_is)
    (case l2 => k_is)
    (case c2 => k_is)
    (case k2 => k_is)
    (case a3 => k_is)
    (case l3 => k_is)
    (case c3 => k_is)
    (case k3 => k_is)
    (case a4 => k_is)
    (case i4 => k_is)
    (case l4 => k_is)
    (case c4 => k_is)
    (case k4 => k_is)
    (case a5 => k_is)
    (case i5 => k_is)
    (case l5 => k_is)
    (case c5 => k_is)
    (case k5 => k_is)
    (case a6 => k_is)
    (case l6 => k_is)
    (case c6 => k_is)
    (case k6 => k_is)
    (case a7 => k_is)
    (case l7 => k_is)
    (case c7 => k_is)
    (case k7 => k_is)
    (case a8 => k_is)
    (case l8 => k_is)
    (case c8 => k_is)
    (case k8 => k_is)
    (case a9 => k_is)
    (case l9 => k_is)
    (case c9 => k_is)
    (case k9 => k_is)
    (case a10 => k_is)
    (case l10 => k_is)
    (case c10 => k_is)
    (case k10 => k_is)
    (case a11 => k_is)
    (case l11 => k_is)
    (case c11 => k_is)
    (case k11 => k_is)
    (case a12 => k_is)
    (case l12 => k_is)
    (case c12 => k_is)
    (case k12 => k_is)
    (case a13 => k_is)
    (case l13 => k_is)
    (case c13 => k_is)
    (case k13 => k_is)
    (case a14 => k_is)
    (case i14 => k_is)
    (case l14 => k_is)
    (case c14 => k_is)
    (case k14 => k_is)
    (case a15 => k_is)
    (case i15 => k_is)
    (case l15 => k_is)
    (case c15 => k_is)
    (case k15 => k_is)
    (case a16 => k_is)
    (case i16 => k_is)
    (case l16 => k_is)
    (case c16 => k_is)
    (case k16 => k_is)
    (case a17 => k_is)
    (case i17 => k_is)
    (case l17 => k_is)
    (case c17 => k_is)
    (case k17 => k_is)
    (case a18 => k_is)
    (case i18 => k_is)
    (case l18 => k_is)
    (case c18 => k_is)
    (case k18 => k_is)
    (case a19 => k_is)
    (case i19 => k_is)
    (case l19 => k_is)
    (case c19 => k_is)
    (case k19 => k_is)
    (case a20 => k_is)
    (case i20 => k_is)
    (case l20 => k_is)
    (case c20 => k_is)
    (case k20 => k_is)
    (case a21 => k_is)
    (case i21 => k_is)
    (case l21 => k_is)
    (case c21 => k_is)
    (case k21 => k_is)
    (case a22 => k_is)
    (case l22 => k_is)
    (case c22 => k_is)
    (case k22 => k_is)
    (case a23 => k_is)
    (case l23 => k_is)
    (case c23 => k_is)
    (case k23 => k_is)
    (case a24 => k_is)
    (case i24 => k_is)
    (case l24 => k_is)
    (case c24 => k_is)
    (case k24 => k_is)
    (case a25 => k_is)
    (case i25 => k_is)
    (case l25 => k_is)
    (case c25 => k_is)
    (case k25 => k_is)
    (case a26 => k_is)
    (case l26 => k_is)
    (case c26 => k_is)
    (case k26 => k_is)
    (case a27 => k_is)
    (case l27 => k_is)
    (case c27 => k_is)
    (case k27 => k_is)
    (case a28 => k_is)
    (case l28 => k_is)
    (case c28 => k_is)
    (case k28 => k_is)
    (case a29 => k_is)
    (case l29 => k_is)
    (case c29 => k_is)
    (case k29 => k_is)
    (case a30 => k_is)
    (case l30 => k_is)
    (case c30 => k_is)
    (case k30 => k_is)
    (case a31 => k_is)
    (case l31 => k_is)
    (case c31 => k_is)
    (case k31 => k_is)
    (case a32 => k_is)
    (case l32 => k_is)
    (case c32 => k_is)
    (case k32 => k_is)
    (case a33 => k_is)
    (case l33 => k_is)
    (case c33 => k_is)
    (case k33 => k_is)
    (case a34 => k_is)
    (case l34 => k_is)
    (case c34 => k_is)
    (case k34 => k_is)
    (case a35 => k_is)
    (case l35 => k_is)
    (case c35 => k_is)
    (case k35 => k_is)
    (case a36 => k_is)
    (case l36 => k_is)
    (case c36 => k_is)
    (case k36 => k_is)
    (case a37 => k_is)
    (case l37 => k_is)
    (case c37 => k_is)
    (case k37 => k_is)
    (case a38 => k_is)
    (case l38 => k_is)
    (case c38 => k_is)
    (case k38 => k_is)
    (case a39 => k_is)
    (case i39 => k_is)
    (case l39 => k_is)
    (case c39 => k_is)
    (case k39 => k_is)
    (case a40 => k_is)
    (case i40 => k_is)
    (case l40 => k_is)
    (case c40 => k_is)
    (case k40 => k_is)
    (case a41 => k_is)
    (case l41 => k_is)
    (case c41 => k_is)
    (case k41 => k_is)
    (case a42 => k_is)
    (case i42 => k_is)
    (case l42 => k_is)
    (case c42 => k_is)
    (case k42 => k_is)
    (case a43 => k_is)
    (case i43 => k_is)
    (case l43 => k_is)
    (case c43 => k_is)
    (case k43 => k_is)
    (case a44 => k_is)
    (case l44 => k_is)
    (case c44 => k_is)
    (case k44 => k_is)
    (case a45 => k_is)
    (case l45 => k_is)
    (case c45 => k_is)
    (case k45 => k_is)
    (case a46 => k_is)
    (case i46 => k_is)
    (case l46 => k_is)
    (case c46 => k_is)
    (case k46 => k_is)
    (case a47 => k_is)
    (case i47 => k_is)
    (case l47 => k_is)
    (case c47 => k_is)
    (case k47 => k_is)
    (case a48 => k_is)
    (case l48 => k_is)
    (case c48 => k_is)
    (case k48 => k_is)
    (case xf_BadHouse => k_is)
    (case xf_BadMoment => k_is)
    (case xf_BadSaying => k_is)
    (case xf_BadTeller => k_is)
    (case xf_NoEntry => k_is)
    (case xf_SameMoment => k_is)
    (case n_House_kept_base => k_is)
    (case n_House_kept_beginning => k_is)
    (case n_House_sums => k_is)
    (case n_Lore_kept => k_is)
    (case n_Lore_kept_base => k_is)
    (case mk_House => k_is)
    (case kc_House => k_is)
    (case mk_Lore => k_is)
    (case kc_Lore => k_is)
    (case q_FIGURES => k_is)
    (case q_LEAST_BASE => k_is)
    (case q_LETTERS => k_is)
    (case q_MOST_BASE => k_is)
    (case q_MOST_FIGURES => k_is)
    (case q_TRUSTED => k_is)
    (case dl_TRUSTED => k_is)
    (case dz_TRUSTED => first | rfl | decide)
    (case dq_TRUSTED => first | rfl | decide)
    (case dv_TRUSTED_0 => k_is)
    (case dv_TRUSTED_1 => k_is)
    (case kd40 => k_is)
    (case z_KeyError => k_is)
    (case z_LookupError => k_is)
    (case z_ValueError => k_is)
    (case z_abs => k_is)
    (case z_all => k_is)
    (case z_bool => k_is)
    (case z_int => k_is)
    (case z_isinstance => k_is)
    (case z_len => k_is)
    (case z_list => k_is)
    (case z_max => k_is)
    (case z_min => k_is)
    (case z_range => k_is)
    (case z_sorted => k_is)
    (case z_str => k_is)
    (case z_tuple => k_is)
