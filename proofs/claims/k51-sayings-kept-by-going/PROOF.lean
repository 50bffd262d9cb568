import PyProof.Rows.All
import Wide.All
import OpenK.AllK
import Wide.FinOn
import HandS.ForMost
import HandS.Wide
import HandS.Flow
import HandS.Style
import HandS.IsInst
import HandS.SetFor
import KE.GoesEnumKw
import HandS.MakeKwOnly
import HandS.Zip
import HandS.Rev
import HandS.SortInts
import HandS.More
import KE.GoesMore
import HandS.Conv
import PyProof.LongRange
import HandS.EndBits
import PyProof.ReprRoads
import PyProof.ReprLen
import HandS.NoneIn
import HandS.Codes
import HandS.SlotsOwn
import PySem.Challenge.RW_askback_k51_sayings_kept_by_going
set_option Elab.async false
set_option linter.all false
set_option autoImplicit false
set_option maxRecDepth 100000
set_option maxHeartbeats 8000000
/-! QD -/
/-! Q, the data level: values as data, programs as predicate transformers over an environment of data. -/
namespace Q
open PySem
inductive D where
  | non | bl (b : Bool) | int (i : Int) | str (x : Str)
  | lst (l : List D) | tup (l : List D) | dic (ks : List (Sum Int Str)) (l : List D)
  | ins (C : Addr) (ns : List Str) (l : List D)
  | pen | ty (n : String) | adr (a : Addr) | scr (ns : List Int)
  | rp (d : D)   -- the text that repr tells of a datum
abbrev Ky := Sum Int Str
/-- a slot: nothing known; a datum; a list, a dict that this name alone holds -/
inductive Sl where
  | no | val (d : D) | own (d : D)
abbrev En := List Sl
/-- the pen: its cells, how many were drawn, what is left of a great one -/
structure Ts where
  cells : List Int
  at' : Int
  left : Int
  tape : Bool
abbrev DE := En → Ts → (D → Ts → Prop) → Prop
abbrev DT := En → Ts → (Bool → Ts → Prop) → Prop
abbrev DA := En → Ts → (List D → Ts → Prop) → Prop
abbrev DO := En → Ts → (Option Int → Ts → Prop) → Prop
structure DEnds where
  nx : En → Ts → Prop
  rt : D → En → Ts → Prop
  bk : En → Ts → Prop
  ct : En → Ts → Prop
abbrev DS := DEnds → En → Ts → Prop
abbrev DG := D → En → Ts → (En → Ts → Prop) → Prop
abbrev DGs := List D → En → Ts → (En → Ts → Prop) → Prop
abbrev DOp := D → D → (D → Prop) → Prop
abbrev DU := D → (D → Prop) → Prop
abbrev DB := List D → (D → Prop) → Prop
/-- a def's promise: arguments, the pen's count, what is wanted -/
abbrev PSp := List D → Ts → (D → Ts → Prop) → Prop
/-- both ways -/
def Br (b : Bool) (p q : Prop) : Prop := match b with
  | true => p
  | false => q
theorem Br.mk {b : Bool} {p q : Prop} (h1 : b = true → p) (h2 : b = false → q) : Br b p q := by
  cases b with
  | true => exact h1 rfl
  | false => exact h2 rfl
/- as data, alike (True is 1) -/
def b2i (b : Bool) : Int := if b then 1 else 0
mutual
def deq : D → D → Bool
  | .non, .non => true
  | .bl a, .bl b => a == b
  | .bl a, .int i => b2i a == i
  | .int i, .bl a => i == b2i a
  | .int i, .int j => decide (i = j)
  | .str x, .str y => decide (x = y)
  | .lst a, .lst b => deqs a b
  | .tup a, .tup b => deqs a b
  | _, _ => false
def deqs : List D → List D → Bool
  | [], [] => true
  | x :: a, y :: b => deq x y && deqs a b
  | _, _ => false
end
/- what == is told of here -/
mutual
def plain : D → Bool
  | .non => true | .bl _ => true | .int _ => true | .str x => x.cps.all (· < 0x110000)
  | .lst l => plains l | .tup l => plains l
  | _ => false
def plains : List D → Bool
  | [] => true
  | x :: a => plain x && plains a
end
mutual
def deep : D → Nat
  | .lst l => deeps l + 1 | .tup l => deeps l + 1
  | _ => 0
def deeps : List D → Nat
  | [] => 0
  | x :: a => max (deep x) (deeps a)
end

/-! sizes -/
def Sm (b : Nat) (i : Int) : Prop := i.natAbs < 2 ^ b
def MulOk (i j : Int) : Prop := Sm 64 i ∨ Sm 64 j ∨ (∃ a b, Sm a i ∧ Sm b j ∧ 0 < a ∧ 0 < b ∧ a + b ≤ 1000000)
def DivOk (j : Int) : Prop := 0 < j ∧ Sm 9000 j
def PowOk (i j : Int) : Prop := 0 ≤ j ∧ ∃ a : Nat, Sm a i ∧ (a : Int) * j ≤ 100000000
def zLen : Nat := 16000000

/-! expressions -/
def dVar (i : Nat) : DE := fun env t P => match env[i]? with
  | some (.val d) => P d t
  | _ => False
/-- a name, read alone -/
def dView (i : Nat) : DE := fun env t P => match env[i]? with
  | some (.val d) => P d t
  | some (.own d) => P d t
  | _ => False
def dC (d : D) : DE := fun _ t P => P d t
def dOp (o : DOp) (a b : DE) : DE := fun env t P => a env t fun x t1 => b env t1 fun y t2 => o x y fun z => P z t2
def dUn (o : DU) (a : DE) : DE := fun env t P => a env t fun x t1 => o x fun z => P z t1
def dNil : DA := fun _ t P => P [] t
def dCons (a : DE) (r : DA) : DA := fun env t P => a env t fun x t1 => r env t1 fun xs t2 => P (x :: xs) t2
def dCB (b : DB) (a : DA) : DE := fun env t P => a env t fun xs t1 => b xs fun z => P z t1
/-- the length of a display -/
def Few (l : List D) (p : Prop) : Prop := match Nat.ble l.length 1000 with
  | true => p
  | false => False
def dTup (a : DA) : DE := fun env t P => a env t fun xs t1 => Few xs (P (.tup xs) t1)
def dLst (a : DA) : DE := fun env t P => a env t fun xs t1 => Few xs (P (.lst xs) t1)
def dCall (sp : PSp) (dvs : List D) (a : DA) : DE := fun env t P => a env t fun xs t1 => sp (xs ++ dvs) t1 P
def dFld (C : Addr) (f : Str) (a : DE) : DE := fun env t P => a env t fun x t1 => match x with
  | .ins C' ns l => C' = C ∧ (match (ns.zip l).lookup f with | some d => P d t1 | none => False)
  | _ => False
def dMeth (C : Addr) (m : Str) (sp : PSp) (dvs : List D) (a : DE) (r : DA) : DE := fun env t P => a env t fun x t1 => match x with
  | .ins C' ns l => C' = C ∧ ns.contains m = false ∧ r env t1 fun xs t2 => sp (.ins C' ns l :: (xs ++ dvs)) t2 P
  | _ => False
def dIfE (c : DT) (a b : DE) : DE := fun env t P => c env t fun k t1 => Br k (a env t1 P) (b env t1 P)
def dChain (o o' : DOp) (a b c : DE) : DE := fun env t P => a env t fun x t1 => b env t1 fun y t2 => o x y fun z => match z with
  | .bl k => Br k (c env t2 fun w t3 => o' y w fun z' => P z' t3) (P (.bl false) t2)
  | _ => False
def dAndV (a b : DE) : DE := fun env t P => a env t fun x t1 => match x with
  | .bl k => Br k (b env t1 P) (P (.bl false) t1)
  | _ => False
def dOrV (a b : DE) : DE := fun env t P => a env t fun x t1 => match x with
  | .bl k => Br k (P (.bl true) t1) (b env t1 P)
  | _ => False
def dNotV (a : DE) : DE := fun env t P => a env t fun x t1 => match x with
  | .bl k => P (.bl (!k)) t1
  | _ => False
def dNoPart : DO := fun _ t P => P none t
def dPart (a : DE) : DO := fun env t P => a env t fun x t1 => match x with
  | .int i => P (some i) t1
  | _ => False
/-- a slice's place -/
def sIx (n d : Nat) : Option Int → Nat
  | none => d
  | some i => if i < 0 then ((n : Int) + i).toNat else min i.toNat n
def cutD (xs : List D) (lo hi : Option Int) : List D := (xs.drop (sIx xs.length 0 lo)).take (sIx xs.length xs.length hi - sIx xs.length 0 lo)
def dSlice (a : DE) (lo hi : DO) : DE := fun env t P => a env t fun x t1 => lo env t1 fun l t2 => hi env t2 fun h t3 => match x with
  | .lst xs => P (.lst (cutD xs l h)) t3
  | .tup xs => (cutD xs l h).length < xs.length ∧ P (.tup (cutD xs l h)) t3
  | .scr ns => P (.lst (cutD (ns.map .int) l h)) t3
  | _ => False
/-- xs[::-1] -/
def dRev (a : DE) : DE := fun env t P => a env t fun x t1 => match x with
  | .lst xs => P (.lst xs.reverse) t1
  | _ => False

/-! tests -/
def dB (a : DE) : DT := fun env t P => a env t fun x t1 => match x with
  | .bl b => P b t1
  | _ => False
def dAnd (a b : DT) : DT := fun env t P => a env t fun k t1 => Br k (b env t1 P) (P false t1)
def dOr (a b : DT) : DT := fun env t P => a env t fun k t1 => Br k (P true t1) (b env t1 P)
def dNot (a : DT) : DT := fun env t P => a env t fun k t1 => P (!k) t1

/-! operators -/
def oAdd : DOp := fun x y P => match x, y with
  | .int i, .int j => P (.int (i + j))
  | .lst a, .lst b => a.length + b.length ≤ zLen ∧ P (.lst (a ++ b))
  | .tup a, .tup b => (a.length + b.length ≤ zLen ∧ a ≠ [] ∧ b ≠ []) ∧ P (.tup (a ++ b))
  | .str a, .str b => a.length + b.length ≤ zLen ∧ P (.str (a ++ b))
  | _, _ => False
def oSub : DOp := fun x y P => match x, y with
  | .int i, .int j => P (.int (i - j))
  | _, _ => False
def rep (n : Nat) (a : List D) : List D := (List.replicate n a).flatten
def oMul : DOp := fun x y P => match x, y with
  | .int i, .int j => MulOk i j ∧ P (.int (i * j))
  | .lst a, .int j => (j < 1000000000 ∧ -1000000000 < j ∧ a.length * j.toNat ≤ zLen) ∧ P (.lst (rep j.toNat a))
  | _, _ => False
def oAddI : DOp := fun x y P => match x, y with
  | .int i, .int j => P (.int (i + j))
  | _, _ => False
def oMulI : DOp := fun x y P => match x, y with
  | .int i, .int j => MulOk i j ∧ P (.int (i * j))
  | _, _ => False
def oDiv : DOp := fun x y P => match x, y with
  | .int i, .int j => DivOk j ∧ P (.int (i / j))
  | _, _ => False
def oMod : DOp := fun x y P => match x, y with
  | .int i, .int j => 0 < j ∧ P (.int (i % j))
  | _, _ => False
def oPow : DOp := fun x y P => match x, y with
  | .int i, .int j => PowOk i j ∧ P (.int (i ^ j.toNat))
  | _, _ => False
def oNeg : DU := fun x P => match x with
  | .int i => P (.int (-i))
  | _ => False
def oLt : DOp := fun x y P => match x, y with
  | .int i, .int j => P (.bl (decide (i < j)))
  | _, _ => False
def oLe : DOp := fun x y P => match x, y with
  | .int i, .int j => P (.bl (decide (i ≤ j)))
  | _, _ => False
def oGt : DOp := fun x y P => match x, y with
  | .int i, .int j => P (.bl (decide (j < i)))
  | _, _ => False
def oGe : DOp := fun x y P => match x, y with
  | .int i, .int j => P (.bl (decide (j ≤ i)))
  | _, _ => False
def oEq : DOp := fun x y P => match x, y with
  | .int i, .int j => P (.bl (decide (i = j)))
  | x, y => (plain x = true ∧ plain y = true ∧ deep x ≤ 60 ∧ deep y ≤ 60) ∧ P (.bl (deq x y))
def oNe : DOp := fun x y P => match x, y with
  | .int i, .int j => P (.bl (!decide (i = j)))
  | x, y => (plain x = true ∧ plain y = true ∧ deep x ≤ 60 ∧ deep y ≤ 60) ∧ P (.bl (!deq x y))
def isNon : D → Bool
  | .non => true
  | _ => false
def oIsN : DOp := fun x y P => match y with
  | .non => P (.bl (isNon x))
  | _ => False
def oNotN : DOp := fun x y P => match y with
  | .non => P (.bl (!isNon x))
  | _ => False
/-- an index of any sign -/
def atI (xs : List D) (i : Int) : Option D := if 0 ≤ i then (if i < xs.length then xs[i.toNat]? else none) else if -(xs.length : Int) ≤ i then xs[(i + xs.length).toNat]? else none
def oIx : DOp := fun x y P => match x, y with
  | .lst xs, .int i => ∃ d, atI xs i = some d ∧ P d
  | .tup xs, .int i => ∃ d, atI xs i = some d ∧ P d
  | _, _ => False

/-! built-in functions -/
def bLen : DB := fun xs P => match xs with
  | [.lst l] => P (.int l.length)
  | [.tup l] => P (.int l.length)
  | [.scr l] => P (.int l.length)
  | [.str z] => z.length ≤ zLen ∧ P (.int z.length)
  | _ => False
def bAbs : DB := fun xs P => match xs with
  | [.int i] => P (.int (if i < 0 then -i else i))
  | _ => False
def intsD : List D → Option (List Int)
  | [] => some []
  | .int i :: r => (intsD r).map (i :: ·)
  | _ => none
def bMax : DB := fun xs P => match xs with
  | [.int i, .int j] => P (.int (if j > i then j else i))
  | [.lst l] => ∃ ns, intsD l = some ns ∧ 0 < ns.length ∧ ∀ m, m ∈ ns → (∀ y, y ∈ ns → y ≤ m) → P (.int m)
  | _ => False
def bMin : DB := fun xs P => match xs with
  | [.int i, .int j] => P (.int (if j < i then j else i))
  | [.lst l] => ∃ ns, intsD l = some ns ∧ 0 < ns.length ∧ ∀ m, m ∈ ns → (∀ y, y ∈ ns → m ≤ y) → P (.int m)
  | _ => False
def bSum : DB := fun xs P => match xs with
  | [.lst l] => ∃ ns, intsD l = some ns ∧ P (.int ns.sum)
  | _ => False
def bls : List D → Option (List Bool)
  | [] => some []
  | .bl i :: r => (bls r).map (i :: ·)
  | _ => none
def bAll : DB := fun xs P => match xs with
  | [.lst l] => ∃ bs, bls l = some bs ∧ P (.bl (bs.all id))
  | _ => False
def bDivmod : DB := fun xs P => match xs with
  | [.int i, .int j] => (0 < j ∧ j < 1073741824) ∧ P (.tup [.int (i / j), .int (i % j)])
  | _ => False
def bList : DB := fun xs P => match xs with
  | [.lst l] => P (.lst l)
  | [.tup l] => P (.lst l)
  | _ => False
def bTuple : DB := fun xs P => match xs with
  | [.lst l] => P (.tup l)
  | [.tup l] => P (.tup l)
  | _ => False

/-! statements -/
def dNext : DS := fun DD env t => DD.nx env t
def dSeq (a b : DS) : DS := fun DD env t => a ⟨b DD, DD.rt, DD.bk, DD.ct⟩ env t
def gName (i : Nat) : DG := fun d env t P => P (env.set i (.val d)) t
def gNil : DGs := fun ds env t P => match ds with
  | [] => P env t
  | _ => False
def gCons (g : DG) (r : DGs) : DGs := fun ds env t P => match ds with
  | d :: ds => g d env t fun env' t' => r ds env' t' P
  | _ => False
def gTup (n : Nat) (g : DGs) : DG := fun d env t P => match d with
  | .tup l => l.length = n ∧ g l env t P
  | _ => False
/-- a, b = a list -/
def gTupL (n : Nat) (g : DGs) : DG := fun d env t P => match d with
  | .lst l => l.length = n ∧ g l env t P
  | _ => False
def dAsg (a : DE) (g : DG) : DS := fun DD env t => a env t fun x t1 => g x env t1 DD.nx
/-- name = a new list: the name's own -/
def dAsgN (i : Nat) (a : DE) : DS := fun DD env t => a env t fun x t1 => DD.nx (env.set i (.own x)) t1
/-- the name's own list is not written again -/
def dFrz (i : Nat) : DS := fun DD env t => match env[i]? with
  | some (.own d) => DD.nx (env.set i (.val d)) t
  | _ => DD.nx env t
def dPar (i j : Nat) (a : DA) : DS := fun DD env t => a env t fun xs t1 => match xs with
  | [v, w] => DD.nx ((env.set i (.val v)).set j (.val w)) t1
  | _ => False
def dPar3 (i j k : Nat) (a : DA) : DS := fun DD env t => a env t fun xs t1 => match xs with
  | [v, w, z] => DD.nx (((env.set i (.val v)).set j (.val w)).set k (.val z)) t1
  | _ => False
def dAug (i : Nat) (o : DOp) (a : DE) : DS := fun DD env t => match env[i]? with
  | some (.val x) => a env t fun y t1 => o x y fun z => DD.nx (env.set i (.val z)) t1
  | _ => False
def dIf (c : DT) (a b : DS) : DS := fun DD env t => c env t fun k t1 => Br k (a DD env t1) (b DD env t1)
def dRet (a : DE) : DS := fun DD env t => a env t fun x t1 => DD.rt x env t1
/-- a name's own object is told back -/
def dRetO (i : Nat) : DS := fun DD env t => match env[i]? with
  | some (.own d) => DD.rt d env t
  | _ => False
def dRetN : DS := fun DD env t => DD.rt .non env t
def dDrop (a : DE) : DS := fun DD env t => a env t fun _ t1 => DD.nx env t1
def dBreak : DS := fun DD env t => DD.bk env t
def dCont : DS := fun DD env t => DD.ct env t
def dNever : DS := fun _ _ _ => False
/-- x.append(e), x the name's own -/
def dApp (i : Nat) (a : DE) : DS := fun DD env t => match env[i]? with
  | some (.own (.lst l)) => a env t fun y t1 => l.length < zLen ∧ DD.nx (env.set i (.own (.lst (l ++ [y])))) t1
  | _ => False
/-- x.extend(e) -/
def dExt (i : Nat) (a : DE) : DS := fun DD env t => match env[i]? with
  | some (.own (.lst l)) => a env t fun y t1 => (match y with
    | .lst m => l.length + m.length ≤ zLen ∧ DD.nx (env.set i (.own (.lst (l ++ m)))) t1
    | _ => False)
  | _ => False
/-- an index that lies in it -/
def ixN (n : Nat) (i : Int) : Option Nat := if 0 ≤ i then (if i < n then some i.toNat else none) else if -(n : Int) ≤ i then some (i + n).toNat else none
/-- x[k] = e -/
def dSet (i : Nat) (k : DE) (a : DE) : DS := fun DD env t => a env t fun y t1 => match env[i]? with
  | some (.own (.lst l)) => k env t1 fun z t2 => (match z with
    | .int m => ∃ j, ixN l.length m = some j ∧ DD.nx (env.set i (.own (.lst (l.set j y)))) t2
    | _ => False)
  | _ => False
def dWhile (c : DT) (b : DS) : DS := fun DD env t => ∃ (Inv : En → Ts → Prop) (mu : En → Ts → Nat), Inv env t ∧ ∀ e m, Inv e m →
  c e m fun k m1 => Br k (b ⟨fun e' m' => Inv e' m' ∧ mu e' m' < mu e m, DD.rt, DD.nx, fun e' m' => Inv e' m' ∧ mu e' m' < mu e m⟩ e m1) (DD.nx e m1)
/-! dicts -/
def keyD : D → Option Ky
  | .int i => some (.inl i)
  | .str x => some (.inr x)
  | _ => none
def getL : List Ky → List D → Ky → Option D
  | k' :: ks, d :: l, k => if k' = k then some d else getL ks l k
  | _, _, _ => none
def repL : List Ky → List D → Ky → D → List D
  | k' :: ks, d :: l, k, y => (if k' = k then y else d) :: repL ks l k y
  | _, _, _, _ => []
def hasK (ks : List Ky) (k : Ky) : Bool := ks.any fun x => decide (x = k)
def putL (ks : List Ky) (l : List D) (k : Ky) (y : D) : List D := if hasK ks k = true then repL ks l k y else l ++ [y]
def putKs (ks : List Ky) (k : Ky) : List Ky := if hasK ks k = true then ks else ks ++ [k]
def dDGet (a k : DE) : DE := fun env t P => a env t fun x t1 => k env t1 fun y t2 => match x with
  | .dic ks l => (match keyD y with
    | some k => ∃ d, getL ks l k = some d ∧ P d t2
    | none => False)
  | _ => False
/-- d.get(k, z) -/
def dDGet2 (a k z : DE) : DE := fun env t P => a env t fun x t1 => match x with
  | .dic ks l => k env t1 fun y t2 => z env t2 fun w t3 => (match keyD y with
    | some k => P ((getL ks l k).getD w) t3
    | none => False)
  | _ => False
/-- d[k] = e, d the name's own -/
def dDPut (i : Nat) (k a : DE) : DS := fun DD env t => a env t fun y t1 => match env[i]? with
  | some (.own (.dic ks l)) => k env t1 fun z t2 => (match keyD z with
    | some k => ks.length < zLen ∧ DD.nx (env.set i (.own (.dic (putKs ks k) (putL ks l k y)))) t2
    | none => False)
  | _ => False
/-- {k: v, ..}: keys that are texts, each once -/
def dDispL : List (Str × DE) → DA
  | [] => fun _ t P => P [] t
  | (_, a) :: r => fun env t P => a env t fun x t1 => dDispL r env t1 fun xs t2 => P (x :: xs) t2
def dDisp (l : List (Str × DE)) : DE := fun env t P => dDispL l env t fun xs t1 => P (.dic (l.map fun p => .inr p.1) xs) t1
/-! the pen's own rows: cells, at (turn), left (rest) -/
def dPenC (a : DE) : DE := fun env t P => a env t fun x t1 => match x with
  | .pen => P (.lst (t1.cells.map .int)) t1
  | _ => False
def dPenA (b : Bool) (a : DE) : DE := fun env t P => a env t fun x t1 => match x with
  | .pen => t1.tape = b ∧ P (.int t1.at') t1
  | _ => False
def dPenL (b : Bool) (a : DE) : DE := fun env t P => a env t fun x t1 => match x with
  | .pen => t1.tape = b ∧ P (.int t1.left) t1
  | _ => False
def dPutA (b : Bool) (i : Nat) (a : DE) : DS := fun DD env t => a env t fun y t1 => match y with
  | .int n => (match env[i]? with
    | some (.val .pen) => t1.tape = b ∧ DD.nx env ⟨t1.cells, n, t1.left, t1.tape⟩
    | _ => False)
  | _ => False
def dPutL (b : Bool) (i : Nat) (a : DE) : DS := fun DD env t => a env t fun y t1 => match y with
  | .int n => (match env[i]? with
    | some (.val .pen) => t1.tape = b ∧ DD.nx env ⟨t1.cells, t1.at', n, t1.tape⟩
    | _ => False)
  | _ => False
/-- what is walked: its items -/
abbrev DI := En → Ts → (List D → Ts → Prop) → Prop
def iSeqL (a : DE) : DI := fun env t P => a env t fun x t1 => match x with
  | .lst l => P l t1
  | .scr ns => P (ns.map .int) t1
  | _ => False
def iSeqT (a : DE) : DI := fun env t P => a env t fun x t1 => match x with
  | .tup l => P l t1
  | _ => False
def rng (lo : Int) (n : Nat) : List D := (List.range n).map fun (i : Nat) => D.int (lo + i)
def iRng1 (a : DE) : DI := fun env t P => a env t fun x t1 => match x with
  | .int n => (-1000000000000 < n ∧ n < 1000000000000) ∧ P (rng 0 n.toNat) t1
  | _ => False
def iRng2 (a b : DE) : DI := fun env t P => a env t fun x t1 => b env t1 fun y t2 => match x, y with
  | .int m, .int n => (-1000000000000 < m ∧ m < 1000000000000 ∧ -1000000000000 < n ∧ n < 1000000000000) ∧ P (rng m (n - m).toNat) t2
  | _, _ => False
def dFor (di : DI) (g : DG) (b : DS) : DS := fun DD env t => di env t fun xs t1 => ∃ Inv : Nat → En → Ts → Prop, Inv 0 env t1 ∧
  (∀ i x e m, xs[i]? = some x → Inv i e m → g x e m fun e' m' => b ⟨Inv (i + 1), DD.rt, DD.nx, Inv (i + 1)⟩ e' m') ∧ ∀ e m, Inv xs.length e m → DD.nx e m
def wipeE (env : En) : List Nat → En
  | [] => env
  | i :: r => (wipeE env r).set i .no
/-- [e for x in xs if c] -/
def dLc (vs : List Nat) (di : DI) (g : DG) (c : DT) (a : DE) : DE := fun env t P => di env t fun xs t1 => ∃ Inv : Nat → List D → Ts → Prop, Inv 0 [] t1 ∧
  (∀ i x acc m, xs[i]? = some x → Inv i acc m → g x (wipeE env vs) m fun e' m' => wipeE e' vs = wipeE env vs ∧ c e' m' fun k m1 => Br k (a e' m1 fun y m2 => acc.length < zLen ∧ Inv (i + 1) (acc ++ [y]) m2) (Inv (i + 1) acc m1)) ∧
  ∀ acc m, Inv xs.length acc m → P (.lst acc) m
def dYes : DT := fun _ t P => P true t
/-- a def's beginning -/
def start0 (N : List Str) (ds : List D) : En := ds.map Sl.val ++ List.replicate (N.length - ds.length) Sl.no
/-- a def's ends -/
def endsOf (P : D → Ts → Prop) : DEnds := ⟨fun _ t => P .non t, fun d _ t => P d t, fun _ _ => False, fun _ _ => False⟩
/-- the ends of a def that tells a new object -/
def endsN (P : D → Ts → Prop) : DEnds := ⟨fun _ _ => False, fun d _ t => match d with | .non => False | d => P d t, fun _ _ => False, fun _ _ => False⟩
/-- .. None or a new object -/
def dAsgM (i : Nat) (a : DE) : DS := fun DD env t => a env t fun x t1 => match x with
  | .non => DD.nx (env.set i (.val .non)) t1
  | x => DD.nx (env.set i (.own x)) t1
theorem rng_len (lo : Int) (n : Nat) : (rng lo n).length = n := by simp [rng]
theorem rng_get {lo : Int} {n i : Nat} {d : D} (h : (rng lo n)[i]? = some d) : i < n ∧ d = .int (lo + i) := by
  unfold rng at h
  rw [List.getElem?_map] at h
  cases q : (List.range n)[i]? with
  | none => rw [q] at h; cases h
  | some j =>
    rw [q] at h
    obtain ⟨h1, h2⟩ := List.getElem?_eq_some_iff.mp q
    simp at h1 h2
    cases h
    exact ⟨h1, by rw [← h2]⟩
/-! ### classes of the text -/
structure Cl where
  House : Addr
  Lore : Addr
  Desk : Addr
  Beside : Addr
  Solver : Addr
/-- a value's built-in type -/
inductive Tn where
  | non | bl | int | str | lst | tup | dic
def tn : D → Option Tn
  | .non => some .non
  | .bl _ => some .bl
  | .int _ => some .int
  | .str _ => some .str
  | .lst _ => some .lst
  | .tup _ => some .tup
  | .dic _ _ => some .dic
  | _ => none
def isa : Tn → Tn → Bool
  | .non, .non => true
  | .bl, .bl => true
  | .bl, .int => true
  | .int, .int => true
  | .str, .str => true
  | .lst, .lst => true
  | .tup, .tup => true
  | .dic, .dic => true
  | _, _ => false
def Tn.name : Tn → String
  | .non => "NoneType"
  | .bl => "bool"
  | .int => "int"
  | .str => "str"
  | .lst => "list"
  | .tup => "tuple"
  | .dic => "dict"
/-- isinstance(e, T), isinstance(e, (T, ..)) -/
def dIsi (cs : List Tn) (a : DE) : DE := fun env t P => a env t fun x t1 => match tn x with
  | some n => P (.bl (cs.any (isa n))) t1
  | none => False
/-! ### __init__: what the instance holds so far (names, data), the others' slots -/
abbrev IK := List Str → List D → En → Ts → Prop
abbrev IS := IK → List Str → List D → En → Ts → Prop
def iEnd : IS := fun k ns l env t => k ns l env t
def iThen (a b : IS) : IS := fun k => a (b k)
/-- if c: raise .. -/
def iGuard (c : DT) : IS := fun k ns l env t => c env t fun b t1 => Br b False (k ns l env t1)
/-- self.f = e -/
def iSet (f : Str) (a : DE) : IS := fun k ns l env t => a env t fun y t1 => (ns.contains f = false ∧ ns.length < 900) ∧ k (ns ++ [f]) (l ++ [y]) env t1
def startI (x : Addr) (N : List Str) (ds : List D) : En := .val (.adr x) :: start0 N ds
mutual
/-- no pen in it -/
def nopen : D → Bool
  | .pen => false
  | .lst l => nopens l
  | .tup l => nopens l
  | .dic _ l => nopens l
  | .ins _ _ l => nopens l
  | _ => true
def nopens : List D → Bool
  | [] => true
  | d :: l => nopen d && nopens l
end
/-- partial sums, each less one -/
def sumsOf : Int → List Int → List Int
  | _, [] => []
  | s, b :: r => (s + b - 1) :: sumsOf (s + b - 1) r
/-- self.sums = []; for many in beginning: self.sums.append(many - 1 + (self.sums[-1] if self.sums != [] else 0)) -/
def iSums (i j : Nat) : IS := fun k ns l env t => match env[i]? with
  | some (.val (.lst m)) => ∃ bs : List Int, m = bs.map .int ∧ bs.length ≤ 1000 ∧ (ns.contains ("sums" : Str) = false ∧ ns.length < 900 ∧ j < env.length) ∧ ∀ s, k (ns ++ [("sums" : Str)]) (l ++ [.lst ((sumsOf 0 bs).map .int)]) (env.set j s) t
  | some (.val (.tup m)) => ∃ bs : List Int, m = bs.map .int ∧ bs.length ≤ 1000 ∧ (ns.contains ("sums" : Str) = false ∧ ns.length < 900 ∧ j < env.length) ∧ ∀ s, k (ns ++ [("sums" : Str)]) (l ++ [.lst ((sumsOf 0 bs).map .int)]) (env.set j s) t
  | _ => False
/-- what is added, as the loop's step reads it: C the class, self at 0, many at j -/
def SumsE (C : Addr) (j : Nat) (de : DE) : Prop := ∀ (env : En) (t : Ts) (P : D → Ts → Prop) (ns : List Str) (l : List D) (cur : List Int) (m : Int), env[0]? = some (.val (.ins C ns l)) → (ns.zip l).lookup ("sums" : Str) = some (.lst (cur.map .int)) → env[j]? = some (.val (.int m)) →
  P (.int (m - 1 + cur.getLastD 0)) t → de env t P
/-- a list or a tuple, walked -/
def iSeq (a : DE) : DI := fun env t P => a env t fun x t1 => match x with
  | .lst l => P l t1
  | .tup l => P l t1
  | .scr ns => P (ns.map .int) t1
  | _ => False
/-! ### repr -/
mutual
def rsOk : D → Prop
  | .int i => Sm 1900 i
  | .lst l => rssOk l
  | .tup l => rssOk l
  | _ => True
def rssOk : List D → Prop
  | [] => True
  | x :: l => rsOk x ∧ rssOk l
end
mutual
/-- at most so many signs are in its text -/
def rsz : D → Nat
  | .int _ => 1921
  | .str x => 10 * x.length + 5
  | .lst l => rszs l + 3
  | .tup l => rszs l + 3
  | _ => 5
def rszs : List D → Nat
  | [] => 0
  | x :: l => rsz x + 2 + rszs l
end
def RpOk (x : D) : Prop := plain x = true ∧ deep x ≤ 60 ∧ rsOk x ∧ rsz x ≤ zLen
def bRepr : DB := fun xs P => match xs with
  | [x] => RpOk x ∧ P (.rp x)
  | _ => False
/-- texts that repr tells, compared: alike where the data are -/
def oEqR : DOp := fun x y P => match x, y with
  | .rp a, .rp b => ∀ k : Bool, (a = b → k = true) → P (.bl k)
  | _, _ => False
def oNeR : DOp := fun x y P => match x, y with
  | .rp a, .rp b => ∀ k : Bool, (a = b → k = false) → P (.bl k)
  | _, _ => False
/-- x[k] op= e, x the name's own list -/
def dAugS (i : Nat) (k : DE) (o : DOp) (a : DE) : DS := fun DD env t => match env[i]? with
  | some (.own (.lst l)) => k env t fun z t1 => (match z with
    | .int m => ∃ (j : Nat) (d : D), ixN l.length m = some j ∧ l[j]? = some d ∧ a env t1 fun y t2 => o d y fun z' => DD.nx (env.set i (.own (.lst (l.set j z')))) t2
    | _ => False)
  | _ => False
/-! ### more of lists -/
/-- + of two lists, * of a list: the new list -/
def oCat : DOp := fun x y P => match x, y with
  | .lst a, .lst b => a.length + b.length ≤ zLen ∧ P (.lst (a ++ b))
  | _, _ => False
def oRep : DOp := fun x y P => match x, y with
  | .lst a, .int j => (j < 1000000000 ∧ -1000000000 < j ∧ a.length * j.toNat ≤ zLen) ∧ P (.lst (rep j.toNat a))
  | _, _ => False
/-- a whole number in a list | tuple of whole numbers -/
def oIn : DOp := fun x y P => match x, y with
  | .int i, .lst l => ∃ ns, intsD l = some ns ∧ P (.bl (ns.contains i))
  | .int i, .tup l => ∃ ns, intsD l = some ns ∧ P (.bl (ns.contains i))
  | _, _ => False
def oNotIn : DOp := fun x y P => match x, y with
  | .int i, .lst l => ∃ ns, intsD l = some ns ∧ P (.bl (!ns.contains i))
  | .int i, .tup l => ∃ ns, intsD l = some ns ∧ P (.bl (!ns.contains i))
  | _, _ => False
/-- l.index(x), l.count(x) of whole numbers -/
def oIdx : DOp := fun x y P => match x, y with
  | .lst l, .int i => ∃ (ns : List Int) (j : Nat), intsD l = some ns ∧ ns[j]? = some i ∧ (∀ m : Nat, m < j → ns[m]? ≠ some i) ∧ P (.int j)
  | _, _ => False
def oCnt : DOp := fun x y P => match x, y with
  | .lst l, .int i => ∃ ns : List Int, intsD l = some ns ∧ P (.int (ns.count i : Nat))
  | _, _ => False
def bInt : DB := fun xs P => match xs with
  | [.int i] => P (.int i)
  | [.bl b] => P (.int (if b then 1 else 0))
  | _ => False
/-- l.m(x) of a list -/
def dLM (o : DOp) (a b : DE) : DE := fun env t P => a env t fun x t1 => match x with
  | .lst l => b env t1 fun y t2 => o (.lst l) y fun z => P z t2
  | _ => False
/-! ### by names: the values in the order that is written, then put in the parameters' order -/
def pick {α : Type} (ix : List Nat) (l : List α) : List α := ix.filterMap fun i => l[i]?
def dCallK (sp : PSp) (ix : List Nat) (a : DA) : DE := fun env t P => a env t fun xs t1 => sp (pick ix xs) t1 P
/-- enumerate(xs, start=c), enumerate(xs) -/
def enumL : Int → List D → List D
  | _, [] => []
  | c, d :: l => .tup [.int c, d] :: enumL (c + 1) l
def iEnumD (c : Int) (a : DE) : DI := fun env t P => a env t fun x t1 => match x with
  | .lst l => P (enumL c l) t1
  | _ => False
theorem enumL_get : ∀ (l : List D) (c : Int) (i : Nat), (enumL c l)[i]? = l[i]?.map fun d => .tup [.int (c + i), d]
  | [], c, i => by simp [enumL]
  | d :: l, c, 0 => by simp [enumL]
  | d :: l, c, i + 1 => by
    show (enumL (c + 1) l)[i]? = l[i]?.map _
    rw [enumL_get l (c + 1) i]
    congr 1
    funext e
    rw [show c + ((i + 1 : Nat) : Int) = c + 1 + i by omega]
theorem enumL_len : ∀ (l : List D) (c : Int), (enumL c l).length = l.length
  | [], _ => rfl
  | d :: l, c => by
    show (enumL (c + 1) l).length + 1 = l.length + 1
    rw [enumL_len l]
/-- C(k = v, ..) -/
def dMakeK (sp : PSp) (ix : List Nat) (a : DA) : DE := fun env t P => a env t fun xs t1 => match Nat.beq xs.length ix.length with
  | true => sp (pick ix xs) t1 P
  | false => False
/-! ### more -/
/-- a slot's value: the name's own, or a datum -/
def mSl (b : Bool) (d : D) : Sl := match b with
  | true => .own d
  | false => .val d
def setM : List (Nat × Bool) → En → List D → En
  | (i, b) :: r, env, d :: ds => setM r (env.set i (mSl b d)) ds
  | _, env, _ => env
/-- a, b = x, y where some are new objects, the names' own -/
def dParM (l : List (Nat × Bool)) (a : DA) : DS := fun DD env t => a env t fun xs t1 => match Nat.beq xs.length l.length with
  | true => DD.nx (setM l env xs) t1
  | false => False
/-- sorted(l), whole numbers -/
def bSorted : DB := fun xs P => match xs with
  | [.lst l] => ∃ ns, intsD l = some ns ∧ ∀ ns' : List Int, ns'.Perm ns → ns'.Pairwise (· ≤ ·) → P (.lst (ns'.map .int))
  | _ => False
def iRevD (a : DE) : DI := fun env t P => a env t fun x t1 => match x with
  | .lst l => P l.reverse t1
  | .tup l => P l.reverse t1
  | _ => False
def zipD : List D → List D → List D
  | a :: l, b :: m => .tup [a, b] :: zipD l m
  | _, _ => []
def iZipD (a b : DE) : DI := fun env t P => a env t fun x t1 => b env t1 fun y t2 => match x, y with
  | .lst l, .lst m => P (zipD l m) t2
  | .tup l, .tup m => P (zipD l m) t2
  | _, _ => False
/-- enumerate(x) -/
def iEnum0 (a : DE) : DI := fun env t P => a env t fun x t1 => match x with
  | .lst l => P (enumL 0 l) t1
  | .tup l => P (enumL 0 l) t1
  | _ => False
/-- list(range(a, b)) -/
def dLRng (a b : DE) : DE := fun env t P => a env t fun x t1 => b env t1 fun y t2 => match x, y with
  | .int m, .int n => (-1000000000000 < m ∧ m < 1000000000000 ∧ -1000000000000 < n ∧ n < 1000000000000 ∧ n - m ≤ zLen) ∧ P (.lst (rng m (n - m).toNat)) t2
  | _, _ => False
/-- x.reverse(), x.insert(i, y), x.pop(i), x the name's own -/
def dRvs (i : Nat) : DS := fun DD env t => match env[i]? with
  | some (.own (.lst l)) => DD.nx (env.set i (.own (.lst l.reverse))) t
  | _ => False
def dIns (i : Nat) (k a : DE) : DS := fun DD env t => match env[i]? with
  | some (.own (.lst l)) => k env t fun z t1 => a env t1 fun y t2 => (match z with
    | .int m => (l.length < zLen ∧ 0 ≤ m ∧ m < 1000000000000) ∧ DD.nx (env.set i (.own (.lst (l.take m.toNat ++ [y] ++ l.drop m.toNat)))) t2
    | _ => False)
  | _ => False
def dPopS (i : Nat) (k : DE) : DS := fun DD env t => match env[i]? with
  | some (.own (.lst l)) => k env t fun z t1 => (match z with
    | .int m => (-1000000000000 < m ∧ m < 1000000000000) ∧ ∃ j, ixN l.length m = some j ∧ DD.nx (env.set i (.own (.lst (l.eraseIdx j)))) t1
    | _ => False)
  | _ => False
theorem zipD_get : ∀ (l m : List D) (i : Nat), (zipD l m)[i]? = l[i]?.bind fun a => m[i]?.map fun b => D.tup [a, b]
  | [], m, i => by simp [zipD]
  | a :: l, [], i => by
    simp [zipD]
  | a :: l, b :: m, 0 => by simp [zipD]
  | a :: l, b :: m, i + 1 => by
    show (zipD l m)[i]? = _
    rw [zipD_get l m i]
    simp
theorem zipD_len : ∀ (l m : List D), (zipD l m).length = min l.length m.length
  | [], m => by simp [zipD]
  | a :: l, [] => by simp [zipD]
  | a :: l, b :: m => by
    simp [zipD, zipD_len l m]
/-- sorted(d), keys whole numbers -/
def bSortD : DB := fun xs P => match xs with
  | [.dic ks l] => ∃ ns : List Int, ks = ns.map Sum.inl ∧ ns.length ≤ 100000 ∧ ∀ ns' : List Int, ns'.Perm ns → ns'.Pairwise (· ≤ ·) → P (.lst (ns'.map .int))
  | _ => False
/-- y in d, y not in d, d a dict -/
def dDIn (neg : Bool) (k a : DE) : DE := fun env t P => k env t fun y t1 => a env t1 fun x t2 => match x with
  | .dic ks l => (match keyD y with
    | some k => P (.bl (xor neg (getL ks l k).isSome)) t2
    | none => False)
  | _ => False
/-- range(a, b), whole numbers of any size -/
def iRngL (a b : DE) : DI := fun env t P => a env t fun x t1 => b env t1 fun y t2 => match x, y with
  | .int m, .int n => P (rng m (n - m).toNat) t2
  | _, _ => False
end Q

/-! QH1 -/
namespace Q
open PySem L2 PyProof.Rows
/-! ### as the library's data -/
mutual
def toPy : D → PyData
  | .bl b => .bool b | .int i => .int i | .str x => .str x
  | .lst l => .list (toPys l) | .tup l => .tuple (toPys l)
  | _ => .none
def toPys : List D → List PyData
  | [] => []
  | d :: l => toPy d :: toPys l
end
/-! ### the relation of data and values -/
mutual
def RelD (K : PySem.W.Frag) (F : Hp) (pa : Option Addr) : D → V → Prop
  | .non, v => v = .non
  | .bl b, v => v = .bl b
  | .int i, v => v = .int i
  | .str x, v => v = .str x
  | .ty n, v => v = .ty n
  | .adr a, v => v = .ref a
  | .rp d, v => v = .str (toPy d).shown
  | .pen, v => ∃ a, pa = some a ∧ v = .ref a
  | .scr ns, v => ∃ a, v = .ref a ∧ SqL K F a (ns.map V.int)
  | .lst l, v => ∃ a vs, v = .ref a ∧ F a = some (.lst vs) ∧ RelL K F pa l vs
  | .tup l, v => ∃ a vs, v = .ref a ∧ F a = some (.tup vs) ∧ RelL K F pa l vs
  | .dic ks l, v => ∃ a vs, v = .ref a ∧ F a = some (.dK (ks.zip vs)) ∧ ks.length = vs.length ∧ RelL K F pa l vs
  | .ins C ns l, v => ∃ a dx vs, v = .ref a ∧ F a = some (.ins C dx (ns.zip vs)) ∧ ns.length = vs.length ∧ RelL K F pa l vs
def RelL (K : PySem.W.Frag) (F : Hp) (pa : Option Addr) : List D → List V → Prop
  | [], vs => vs = []
  | d :: ds, vs => ∃ v vr, vs = v :: vr ∧ RelD K F pa d v ∧ RelL K F pa ds vr
end
/-- what a name's own object holds -/
def RelO1 (K : PySem.W.Frag) (F : Hp) (pa : Option Addr) : D → HO → Prop
  | .lst l, h => ∃ vs, h = .lst vs ∧ RelL K F pa l vs
  | .dic ks l, h => ∃ vs, h = .dK (ks.zip vs) ∧ ks.length = vs.length ∧ RelL K F pa l vs
  | .ins C ns l, h => ∃ dx vs, h = .ins C dx (ns.zip vs) ∧ ns.length = vs.length ∧ RelL K F pa l vs
  | _, _ => False
def Gf (F F' : Hp) : Prop := ∀ a o, F a = some o → F' a = some o
def Gp (pa pa' : Option Addr) : Prop := pa' = pa
structure Gr (F : Hp) (pa : Option Addr) (F' : Hp) (pa' : Option Addr) : Prop where
  f : Gf F F'
  p : Gp pa pa'
theorem Gr.refl (F : Hp) (pa : Option Addr) : Gr F pa F pa := ⟨fun _ _ h => h, rfl⟩
theorem Gr.trans {F F1 F2 : Hp} {p p1 p2 : Option Addr} (a : Gr F p F1 p1) (b : Gr F1 p1 F2 p2) : Gr F p F2 p2 := ⟨fun x o h => b.f x o (a.f x o h), Eq.trans b.p a.p⟩
section
variable {K : PySem.W.Frag} {F F' : Hp} {pa pa' : Option Addr}
theorem sq_mono {a : Addr} {xs : List V} (g : Gf F F') (h : SqL K F a xs) : SqL K F' a xs := by
  rcases h with (h | ⟨o, h⟩) | h
  · exact .inl (.inl (g _ _ h))
  · exact .inl (.inr ⟨o, g _ _ h⟩)
  · exact .inr h
mutual
theorem RelD.mono (g : Gr F pa F' pa') : ∀ (d : D) (v : V), RelD K F pa d v → RelD K F' pa' d v
  | .non, v, h => by unfold RelD at h ⊢; exact h
  | .bl b, v, h => by unfold RelD at h ⊢; exact h
  | .int i, v, h => by unfold RelD at h ⊢; exact h
  | .str x, v, h => by unfold RelD at h ⊢; exact h
  | .ty n, v, h => by unfold RelD at h ⊢; exact h
  | .adr a, v, h => by unfold RelD at h ⊢; exact h
  | .rp d, v, h => by unfold RelD at h ⊢; exact h
  | .pen, v, h => by
    unfold RelD at h ⊢
    obtain ⟨a, e, r⟩ := h
    exact ⟨a, (show pa' = pa from g.p).trans e, r⟩
  | .scr ns, v, h => by
    unfold RelD at h ⊢
    obtain ⟨a, e, r⟩ := h
    exact ⟨a, e, sq_mono g.f r⟩
  | .lst l, v, h => by
    unfold RelD at h ⊢
    obtain ⟨a, vs, e, r, q⟩ := h
    exact ⟨a, vs, e, g.f _ _ r, RelL.mono g l vs q⟩
  | .tup l, v, h => by
    unfold RelD at h ⊢
    obtain ⟨a, vs, e, r, q⟩ := h
    exact ⟨a, vs, e, g.f _ _ r, RelL.mono g l vs q⟩
  | .dic ks l, v, h => by
    unfold RelD at h ⊢
    obtain ⟨a, vs, e, r, z, q⟩ := h
    exact ⟨a, vs, e, g.f _ _ r, z, RelL.mono g l vs q⟩
  | .ins C ns l, v, h => by
    unfold RelD at h ⊢
    obtain ⟨a, dx, vs, e, r, z, q⟩ := h
    exact ⟨a, dx, vs, e, g.f _ _ r, z, RelL.mono g l vs q⟩
theorem RelL.mono (g : Gr F pa F' pa') : ∀ (l : List D) (vs : List V), RelL K F pa l vs → RelL K F' pa' l vs
  | [], vs, h => by unfold RelL at h ⊢; exact h
  | d :: ds, vs, h => by
    unfold RelL at h ⊢
    obtain ⟨v, vr, e, r, q⟩ := h
    exact ⟨v, vr, e, RelD.mono g d v r, RelL.mono g ds vr q⟩
end
theorem RelO1.mono (g : Gr F pa F' pa') : ∀ (d : D) (h : HO), RelO1 K F pa d h → RelO1 K F' pa' d h
  | .lst l, h, r => by
    obtain ⟨vs, e, q⟩ := r
    exact ⟨vs, e, RelL.mono g l vs q⟩
  | .dic ks l, h, r => by
    obtain ⟨vs, e, z, q⟩ := r
    exact ⟨vs, e, z, RelL.mono g l vs q⟩
  | .ins C ns l, h, r => by
    obtain ⟨dx, vs, e, z, q⟩ := r
    exact ⟨dx, vs, e, z, RelL.mono g l vs q⟩
  | .non, _, r => r.elim
  | .bl _, _, r => r.elim
  | .int _, _, r => r.elim
  | .str _, _, r => r.elim
  | .tup _, _, r => r.elim
  | .pen, _, r => r.elim
  | .ty _, _, r => r.elim
  | .adr _, _, r => r.elim
  | .scr _, _, r => r.elim
  | .rp _, _, r => r.elim
end
section
variable {K : PySem.W.Frag} {F : Hp} {pa : Option Addr}
theorem RelL.nil : RelL K F pa [] [] := by unfold RelL; rfl
theorem RelL.cons {d : D} {v : V} {ds : List D} {vs : List V} (h : RelD K F pa d v) (r : RelL K F pa ds vs) : RelL K F pa (d :: ds) (v :: vs) := by
  unfold RelL; exact ⟨v, vs, rfl, h, r⟩
theorem RelL.inv {d : D} {ds : List D} {vs : List V} (h : RelL K F pa (d :: ds) vs) : ∃ v vr, vs = v :: vr ∧ RelD K F pa d v ∧ RelL K F pa ds vr := by unfold RelL at h; exact h
theorem RelL.inv0 {vs : List V} (h : RelL K F pa [] vs) : vs = [] := by unfold RelL at h; exact h
theorem RelL.len : ∀ {ds : List D} {vs : List V}, RelL K F pa ds vs → vs.length = ds.length
  | [], vs, h => by rw [h.inv0]; rfl
  | d :: ds, vs, h => by
    obtain ⟨v, vr, rfl, _, q⟩ := h.inv
    simp [RelL.len q]
theorem RelL.get : ∀ {ds : List D} {vs : List V} {i : Nat} {d : D}, RelL K F pa ds vs → ds[i]? = some d → ∃ v, vs[i]? = some v ∧ RelD K F pa d v
  | [], _, _, _, _, e => by simp at e
  | x :: ds, vs, 0, d, h, e => by
    obtain ⟨v, vr, rfl, r, _⟩ := h.inv
    simp at e; subst e
    exact ⟨v, rfl, r⟩
  | x :: ds, vs, i + 1, d, h, e => by
    obtain ⟨v, vr, rfl, _, q⟩ := h.inv
    simp at e
    obtain ⟨u, h1, h2⟩ := RelL.get q e
    exact ⟨u, by simpa using h1, h2⟩
theorem RelL.get' : ∀ {ds : List D} {vs : List V} {i : Nat} {v : V}, RelL K F pa ds vs → vs[i]? = some v → ∃ d, ds[i]? = some d ∧ RelD K F pa d v
  | [], _, _, _, h, e => by rw [h.inv0] at e; simp at e
  | x :: ds, vs, 0, d, h, e => by
    obtain ⟨v, vr, rfl, r, _⟩ := h.inv
    simp at e; subst e
    exact ⟨x, rfl, r⟩
  | x :: ds, vs, i + 1, d, h, e => by
    obtain ⟨v, vr, rfl, _, q⟩ := h.inv
    simp at e
    obtain ⟨u, h1, h2⟩ := RelL.get' q e
    exact ⟨u, by simpa using h1, h2⟩
theorem RelL.append : ∀ {a b : List D} {u v : List V}, RelL K F pa a u → RelL K F pa b v → RelL K F pa (a ++ b) (u ++ v)
  | [], b, u, v, h, r => by rw [h.inv0]; exact r
  | d :: a, b, u, v, h, r => by
    obtain ⟨x, ur, rfl, h1, q⟩ := h.inv
    exact RelL.cons h1 (RelL.append q r)
theorem RelL.take : ∀ {a : List D} {u : List V} (n : Nat), RelL K F pa a u → RelL K F pa (a.take n) (u.take n)
  | _, _, 0, h => by simpa using RelL.nil
  | [], _, n + 1, h => by rw [h.inv0]; simpa using RelL.nil
  | d :: a, u, n + 1, h => by
    obtain ⟨x, ur, rfl, h1, q⟩ := h.inv
    simpa using RelL.cons h1 (RelL.take n q)
theorem RelL.drop : ∀ {a : List D} {u : List V} (n : Nat), RelL K F pa a u → RelL K F pa (a.drop n) (u.drop n)
  | _, _, 0, h => by simpa using h
  | [], _, n + 1, h => by rw [h.inv0]; simpa using RelL.nil
  | d :: a, u, n + 1, h => by
    obtain ⟨x, ur, rfl, h1, q⟩ := h.inv
    simpa using RelL.drop n q
theorem RelL.reverse : ∀ {a : List D} {u : List V}, RelL K F pa a u → RelL K F pa a.reverse u.reverse
  | [], u, h => by rw [h.inv0]; simpa using RelL.nil
  | d :: a, u, h => by
    obtain ⟨x, ur, rfl, h1, q⟩ := h.inv
    simpa using RelL.append (RelL.reverse q) (RelL.cons h1 RelL.nil)
theorem RelL.set : ∀ {a : List D} {u : List V} (j : Nat) {d : D} {v : V}, RelL K F pa a u → RelD K F pa d v → RelL K F pa (a.set j d) (u.set j v)
  | [], u, j, d, v, h, r => by rw [h.inv0]; simpa using RelL.nil
  | x :: a, u, 0, d, v, h, r => by
    obtain ⟨y, ur, rfl, h1, q⟩ := h.inv
    simpa using RelL.cons r q
  | x :: a, u, j + 1, d, v, h, r => by
    obtain ⟨y, ur, rfl, h1, q⟩ := h.inv
    simpa using RelL.cons h1 (RelL.set j q r)
theorem RelL.rep {a : List D} {u : List V} (h : RelL K F pa a u) : ∀ n : Nat, RelL K F pa (rep n a) (List.replicate n u).flatten
  | 0 => by simpa [Q.rep] using RelL.nil
  | n + 1 => by
    have := RelL.append h (RelL.rep h n)
    simpa [Q.rep, List.replicate_succ] using this
theorem RelL.intsD : ∀ {l : List D} {vs : List V} {ns : List Int}, RelL K F pa l vs → Q.intsD l = some ns → vs = ns.map V.int
  | [], vs, ns, h, e => by
    rw [h.inv0]
    simp [Q.intsD] at e; subst e; rfl
  | d :: l, vs, ns, h, e => by
    obtain ⟨x, ur, rfl, h1, q⟩ := h.inv
    cases d with
    | int i =>
      unfold RelD at h1
      subst h1
      unfold Q.intsD at e
      cases e2 : Q.intsD l with
      | none => rw [e2] at e; simp at e
      | some ms =>
        rw [e2] at e
        simp at e; subst e
        rw [RelL.intsD q e2]; rfl
    | _ => simp [Q.intsD] at e
theorem RelL.bls : ∀ {l : List D} {vs : List V} {ns : List Bool}, RelL K F pa l vs → Q.bls l = some ns → vs = ns.map V.bl
  | [], vs, ns, h, e => by
    rw [h.inv0]
    simp [Q.bls] at e; subst e; rfl
  | d :: l, vs, ns, h, e => by
    obtain ⟨x, ur, rfl, h1, q⟩ := h.inv
    cases d with
    | bl i =>
      unfold RelD at h1
      subst h1
      unfold Q.bls at e
      cases e2 : Q.bls l with
      | none => rw [e2] at e; simp at e
      | some ms =>
        rw [e2] at e
        simp at e; subst e
        rw [RelL.bls q e2]; rfl
    | _ => simp [Q.bls] at e
theorem RelL.of_ints : ∀ (ns : List Int), RelL K F pa (ns.map D.int) (ns.map V.int)
  | [] => RelL.nil
  | n :: ns => RelL.cons (by unfold RelD; rfl) (RelL.of_ints ns)
end

/-! ### the state -/
structure Bs where
  F : Hp
  H : Hp
  ex : List Addr
  pn : Option Addr
  /-- what is told back: a datum, or a new object -/
  m : Bool
/-- the base of a def's body: what may change is the pen alone -/
def Bs.Top (B : Bs) : Prop := ∀ a ∈ B.ex, B.pn = some a
def penRows (t : Ts) (ca : Addr) : List (L2.Key × V) := match t.tape with
  | false => [(.inr "cells", .ref ca), (.inr "at", .int t.at'), (.inr "left", .int t.left)]
  | true => [(.inr "cells", .ref ca), (.inr "turn", .int t.at'), (.inr "rest", .int t.left)]
def PenOk (F : Hp) (t : Ts) (h : HO) : Prop := ∃ ca : Addr, h = .dK (penRows t ca) ∧ F ca = some (.lst (t.cells.map V.int))
theorem PenOk.mono {F F' : Hp} {t : Ts} {h : HO} (g : Gf F F') (p : PenOk F t h) : PenOk F' t h := by
  obtain ⟨ca, e, q⟩ := p
  exact ⟨ca, e, g _ _ q⟩
structure Cf (K : PySem.W.Frag) (B : Bs) (F : Hp) (pa : Option Addr) (t : Ts) (env : En) (σ : L2.St) (H : Hp) : Prop where
  len : env.length = σ.length
  sub : ∀ a o, F a = some o → H a = some o
  bas : ∀ a o, B.F a = some o → F a = some o
  frm : ∀ a o, B.H a = some o → a ∉ B.ex → H a = some o
  new : ∀ a o, F a = some o → (∃ o', B.F a = some o') ∨ B.H a = none
  exl : ∀ a ∈ B.ex, ∃ o, H a = some o
  val : ∀ (i : Nat) (d : D), env[i]? = some (Sl.val d) → ∃ v : V, σ[i]? = some (some v) ∧ RelD K F pa d v
  own : ∀ (i : Nat) (d : D), env[i]? = some (Sl.own d) → ∃ (a : Addr) (h : HO), σ[i]? = some (some (V.ref a)) ∧ H a = some h ∧ RelO1 K F pa d h ∧ F a = none ∧ pa ≠ some a ∧ (a ∈ B.ex ∨ B.H a = none)
  sep : ∀ (i j : Nat) (d e : D) (a : Addr), env[i]? = some (Sl.own d) → env[j]? = some (Sl.own e) → σ[i]? = some (some (V.ref a)) → σ[j]? = some (some (V.ref a)) → i = j
  pen : ∀ a, pa = some a → F a = none ∧ (∃ h, H a = some h ∧ PenOk F t h) ∧ (a ∈ B.ex ∨ B.H a = none)
  pnn : Gp B.pn pa
section
variable {K : PySem.W.Frag} {B : Bs} {F : Hp} {pa : Option Addr} {t : Ts} {env : En} {σ : L2.St} {H : Hp}
theorem Cf.fresh (C : Cf K B F pa t env σ H) {p : Addr} (h : H p = none) : F p = none ∧ B.H p = none ∧ p ∉ B.ex := by
  refine ⟨?_, ?_, ?_⟩
  · cases e : F p with
    | none => rfl
    | some o => rw [C.sub p o e] at h; cases h
  · cases e : B.H p with
    | none => rfl
    | some o =>
      by_cases hp : p ∈ B.ex
      · obtain ⟨o', q⟩ := C.exl p hp
        rw [q] at h; cases h
      · rw [C.frm p o e hp] at h; cases h
  · intro hp
    obtain ⟨o', q⟩ := C.exl p hp
    rw [q] at h; cases h
theorem Gf.upd {F : Hp} {p : Addr} {o : HO} (h : F p = none) : Gf F (upd F p o) := fun a u e => by
  rw [upd_ne (ne_of_none e h)]; exact e
/-- a new object, frozen at once -/
theorem Cf.alloc (C : Cf K B F pa t env σ H) {p : Addr} (o : HO) (h : H p = none) : Gr F pa (upd F p o) pa ∧ Cf K B (upd F p o) pa t env σ (upd H p o) := by
  obtain ⟨hF, hB, hex⟩ := C.fresh h
  have g : Gr F pa (upd F p o) pa := ⟨Gf.upd hF, rfl⟩
  have ne : ∀ {a : Addr} {u : HO}, H a = some u → a ≠ p := fun e => ne_of_none e h
  refine ⟨g, ⟨C.len, fun a u e => ?_, fun a u e => g.f _ _ (C.bas a u e), fun a u e hx => ?_, fun a u e => ?_, fun a ha => ?_, fun i d e => ?_, fun i d e => ?_, C.sep, fun a e => ?_, C.pnn⟩⟩
  · by_cases ha : a = p
    · subst ha; rw [upd_same] at e ⊢; exact e
    · rw [upd_ne ha] at e ⊢; exact C.sub a u e
  · have := C.frm a u e hx
    rw [upd_ne (ne this)]; exact this
  · by_cases ha : a = p
    · subst ha; exact .inr hB
    · rw [upd_ne ha] at e; exact C.new a u e
  · obtain ⟨u, q⟩ := C.exl a ha
    exact ⟨u, by rw [upd_ne (ne q)]; exact q⟩
  · obtain ⟨v, h1, h2⟩ := C.val i d e
    exact ⟨v, h1, RelD.mono g d v h2⟩
  · obtain ⟨a, u, h1, h2, h3, h4, h5, h6⟩ := C.own i d e
    exact ⟨a, u, h1, by rw [upd_ne (ne h2)]; exact h2, RelO1.mono g d u h3, by rw [upd_ne (ne h2)]; exact h4, h5, h6⟩
  · obtain ⟨h1, ⟨u, h2, h3⟩, h4⟩ := C.pen a e
    exact ⟨by rw [upd_ne (ne h2)]; exact h1, ⟨u, by rw [upd_ne (ne h2)]; exact h2, h3.mono g.f⟩, h4⟩
/-- a new object, nobody's yet: the state stands -/
theorem Cf.loose (C : Cf K B F pa t env σ H) {p : Addr} (o : HO) (h : H p = none) : Cf K B F pa t env σ (upd H p o) := by
  have ne : ∀ {a : Addr} {u : HO}, H a = some u → a ≠ p := fun e => ne_of_none e h
  have kp : ∀ a u, H a = some u → upd H p o a = some u := fun a u e => by rw [upd_ne (ne e)]; exact e
  refine ⟨C.len, fun a u e => kp _ _ (C.sub a u e), C.bas, fun a u e hx => kp _ _ (C.frm a u e hx), C.new, fun a ha => ?_, C.val, fun i d e => ?_, C.sep, fun a e => ?_, C.pnn⟩
  · obtain ⟨u, q⟩ := C.exl a ha
    exact ⟨u, kp _ _ q⟩
  · obtain ⟨a, u, h1, h2, h3⟩ := C.own i d e
    exact ⟨a, u, h1, kp _ _ h2, h3⟩
  · obtain ⟨h1, ⟨u, h2, h3⟩, h4⟩ := C.pen a e
    exact ⟨h1, ⟨u, kp _ _ h2, h3⟩, h4⟩

/-- an address that is nobody's yet -/
structure Nw (B : Bs) (F : Hp) (pa : Option Addr) (env : En) (σ : L2.St) (p : Addr) : Prop where
  f : F p = none
  b : B.H p = none
  a : pa ≠ some p
  s : ∀ (j : Nat) (e : D), env[j]? = some (Sl.own e) → σ[j]? ≠ some (some (V.ref p))
theorem Cf.nw (C : Cf K B F pa t env σ H) {p : Addr} (h : H p = none) : Nw B F pa env σ p := by
  obtain ⟨hF, hB, _⟩ := C.fresh h
  refine ⟨hF, hB, fun e => ?_, fun j e hj hs => ?_⟩
  · obtain ⟨_, ⟨u, q, _⟩, _⟩ := C.pen p e
    rw [h] at q; cases q
  · obtain ⟨a, u, h1, h2, _⟩ := C.own j e hj
    rw [hs] at h1
    cases h1
    rw [h] at h2; cases h2
/-- a nobody's object is frozen -/
theorem Cf.frz (C : Cf K B F pa t env σ H) {p : Addr} {h : HO} (n : Nw B F pa env σ p) (e : H p = some h) : Gr F pa (upd F p h) pa ∧ Cf K B (upd F p h) pa t env σ H := by
  have g : Gr F pa (upd F p h) pa := ⟨Gf.upd n.f, rfl⟩
  refine ⟨g, ⟨C.len, fun a u q => ?_, fun a u q => g.f _ _ (C.bas a u q), C.frm, fun a u q => ?_, C.exl, fun i d q => ?_, fun i d q => ?_, C.sep, fun a q => ?_, C.pnn⟩⟩
  · by_cases ha : a = p
    · subst ha; rw [upd_same] at q; cases q; exact e
    · rw [upd_ne ha] at q; exact C.sub a u q
  · by_cases ha : a = p
    · subst ha; exact .inr n.b
    · rw [upd_ne ha] at q; exact C.new a u q
  · obtain ⟨v, h1, h2⟩ := C.val i d q
    exact ⟨v, h1, RelD.mono g d v h2⟩
  · obtain ⟨a, u, h1, h2, h3, h4, h5, h6⟩ := C.own i d q
    refine ⟨a, u, h1, h2, RelO1.mono g d u h3, ?_, h5, h6⟩
    rw [upd_ne ?_]
    · exact h4
    · rintro rfl
      exact n.s i d q h1
  · obtain ⟨h1, ⟨u, h2, h3⟩, h4⟩ := C.pen a q
    refine ⟨?_, ⟨u, h2, h3.mono g.f⟩, h4⟩
    rw [upd_ne ?_]
    · exact h1
    · rintro rfl
      exact n.a q
/-- a nobody's object is written -/
theorem Cf.write (C : Cf K B F pa t env σ H) {p : Addr} {h : HO} (n : Nw B F pa env σ p) : Cf K B F pa t env σ (upd H p h) := by
  refine ⟨C.len, fun a u q => ?_, C.bas, fun a u q hx => ?_, C.new, fun a ha => ?_, C.val, fun i d q => ?_, C.sep, fun a q => ?_, C.pnn⟩
  · rw [upd_ne (ne_of_none q n.f)]; exact C.sub a u q
  · rw [upd_ne (ne_of_none q n.b)]; exact C.frm a u q hx
  · obtain ⟨u, q⟩ := C.exl a ha
    by_cases hb : a = p
    · subst hb; exact ⟨h, upd_same⟩
    · exact ⟨u, by rw [upd_ne hb]; exact q⟩
  · obtain ⟨a, u, h1, h2, r⟩ := C.own i d q
    refine ⟨a, u, h1, ?_, r⟩
    rw [upd_ne ?_]
    · exact h2
    · rintro rfl
      exact n.s i d q h1
  · obtain ⟨h1, ⟨u, h2, h3⟩, h4⟩ := C.pen a q
    refine ⟨h1, ⟨u, ?_, h3⟩, h4⟩
    rw [upd_ne ?_]
    · exact h2
    · rintro rfl
      exact n.a q
/-- what a new datum is -/
theorem RelO1.rel {d : D} {h : HO} {p : Addr} (r : RelO1 K F pa d h) (e : F p = some h) : RelD K F pa d (.ref p) := by
  cases d with
  | lst l =>
    obtain ⟨vs, rfl, q⟩ := r
    unfold RelD; exact ⟨p, vs, rfl, e, q⟩
  | dic ks l =>
    obtain ⟨vs, rfl, z, q⟩ := r
    unfold RelD; exact ⟨p, vs, rfl, e, z, q⟩
  | ins C ns l =>
    obtain ⟨dx, vs, rfl, z, q⟩ := r
    unfold RelD; exact ⟨p, dx, vs, rfl, e, z, q⟩
  | _ => exact r.elim
theorem get_set {α : Type} {l : List α} {i j : Nat} {x y : α} (h : (l.set i x)[j]? = some y) : (i = j ∧ y = x) ∨ (i ≠ j ∧ l[j]? = some y) := by
  by_cases e : i = j
  · subst e
    left
    rw [List.getElem?_set_self'] at h
    cases q : l[i]? with
    | none => rw [q] at h; simp at h
    | some z => rw [q] at h; simp at h; exact ⟨rfl, h.symm⟩
  · right
    rw [List.getElem?_set_ne e] at h
    exact ⟨e, h⟩
/-- a name is given a datum -/
theorem Cf.setV (C : Cf K B F pa t env σ H) (i : Nat) {d : D} {v : V} (r : RelD K F pa d v) : Cf K B F pa t (env.set i (.val d)) (σ.set i (some v)) H := by
  refine ⟨by simp [C.len], C.sub, C.bas, C.frm, C.new, C.exl, fun j e q => ?_, fun j e q => ?_, fun j k e f a q1 q2 s1 s2 => ?_, C.pen, C.pnn⟩
  · rcases get_set q with ⟨rfl, z⟩ | ⟨ne, z⟩
    · cases z
      have hi : i < env.length := by
        have := (List.getElem?_eq_some_iff.mp q).1
        simpa using this
      exact ⟨v, by rw [List.getElem?_set_self (by rw [← C.len]; exact hi)], r⟩
    · obtain ⟨w, h1, h2⟩ := C.val j e z
      exact ⟨w, by rw [List.getElem?_set_ne ne]; exact h1, h2⟩
  · rcases get_set q with ⟨rfl, z⟩ | ⟨ne, z⟩
    · cases z
    · obtain ⟨a, u, h1, h2⟩ := C.own j e z
      exact ⟨a, u, by rw [List.getElem?_set_ne ne]; exact h1, h2⟩
  · rcases get_set q1 with ⟨_, z⟩ | ⟨n1, z1⟩
    · cases z
    · rcases get_set q2 with ⟨_, z⟩ | ⟨n2, z2⟩
      · cases z
      · rw [List.getElem?_set_ne n1] at s1
        rw [List.getElem?_set_ne n2] at s2
        exact C.sep j k e f a z1 z2 s1 s2
/-- a name is given a new object of its own -/
theorem Cf.setN (C : Cf K B F pa t env σ H) (i : Nat) {d : D} {p : Addr} {h : HO} (n : Nw B F pa env σ p) (e : H p = some h) (r : RelO1 K F pa d h) : Cf K B F pa t (env.set i (.own d)) (σ.set i (some (.ref p))) H := by
  refine ⟨by simp [C.len], C.sub, C.bas, C.frm, C.new, C.exl, fun j e q => ?_, fun j e' q => ?_, fun j k e' f a q1 q2 s1 s2 => ?_, C.pen, C.pnn⟩
  · rcases get_set q with ⟨rfl, z⟩ | ⟨ne, z⟩
    · cases z
    · obtain ⟨w, h1, h2⟩ := C.val j e z
      exact ⟨w, by rw [List.getElem?_set_ne ne]; exact h1, h2⟩
  · rcases get_set q with ⟨rfl, z⟩ | ⟨ne, z⟩
    · cases z
      have hi : i < env.length := by
        have := (List.getElem?_eq_some_iff.mp q).1
        simpa using this
      exact ⟨p, h, by rw [List.getElem?_set_self (by rw [← C.len]; exact hi)], e, r, n.f, n.a, .inr n.b⟩
    · obtain ⟨a, u, h1, h2⟩ := C.own j e' z
      exact ⟨a, u, by rw [List.getElem?_set_ne ne]; exact h1, h2⟩
  · rcases get_set q1 with ⟨rfl, z⟩ | ⟨n1, z1⟩
    · rcases get_set q2 with ⟨rfl, z'⟩ | ⟨n2, z2⟩
      · rfl
      · rw [List.getElem?_set_ne n2] at s2
        rcases get_set s1 with ⟨_, zz⟩ | ⟨nn, _⟩
        · cases zz
          exact absurd s2 (n.s k f z2)
        · exact absurd rfl nn
    · rw [List.getElem?_set_ne n1] at s1
      rcases get_set q2 with ⟨rfl, z'⟩ | ⟨n2, z2⟩
      · rcases get_set s2 with ⟨_, zz⟩ | ⟨nn, _⟩
        · cases zz
          exact absurd s1 (n.s j e' z1)
        · exact absurd rfl nn
      · rw [List.getElem?_set_ne n2] at s2
        exact C.sep j k e' f a z1 z2 s1 s2
/-- a name's own object is written -/
theorem Cf.wrO (C : Cf K B F pa t env σ H) {i : Nat} {d d' : D} {a : Addr} {h : HO} (hi : env[i]? = some (Sl.own d)) (hs : σ[i]? = some (some (V.ref a))) (r : RelO1 K F pa d' h) : Cf K B F pa t (env.set i (.own d')) σ (upd H a h) := by
  obtain ⟨a', h0, s0, e0, r0, f0, p0, x0⟩ := C.own i d hi
  rw [hs] at s0; cases s0
  have nb : ∀ {c : Addr} {u : HO}, F c = some u → c ≠ a := fun e => ne_of_none e f0
  refine ⟨by simp [C.len], fun c u q => by rw [upd_ne (nb q)]; exact C.sub c u q, C.bas, fun c u q hx => ?_, C.new, fun c hc => ?_, fun j e q => ?_, fun j e q => ?_, fun j k e f c q1 q2 s1 s2 => ?_, fun c q => ?_, C.pnn⟩
  · rw [upd_ne ?_]
    · exact C.frm c u q hx
    · rintro rfl
      rcases x0 with z | z
      · exact hx z
      · rw [z] at q; cases q
  · by_cases hc' : c = a
    · subst hc'; exact ⟨h, upd_same⟩
    · obtain ⟨u, q⟩ := C.exl c hc
      exact ⟨u, by rw [upd_ne hc']; exact q⟩
  · rcases get_set q with ⟨rfl, z⟩ | ⟨ne, z⟩
    · cases z
    · exact C.val j e z
  · rcases get_set q with ⟨rfl, z⟩ | ⟨ne, z⟩
    · cases z
      exact ⟨a, h, hs, upd_same, r, f0, p0, x0⟩
    · obtain ⟨c, u, h1, h2, h3⟩ := C.own j e z
      refine ⟨c, u, h1, ?_, h3⟩
      rw [upd_ne ?_]
      · exact h2
      · rintro rfl
        exact ne (C.sep i j d e c hi z hs h1)
  · have z1 : ∃ e', env[j]? = some (Sl.own e') := by
      rcases get_set q1 with ⟨rfl, _⟩ | ⟨_, z⟩
      · exact ⟨d, hi⟩
      · exact ⟨e, z⟩
    have z2 : ∃ e', env[k]? = some (Sl.own e') := by
      rcases get_set q2 with ⟨rfl, _⟩ | ⟨_, z⟩
      · exact ⟨d, hi⟩
      · exact ⟨f, z⟩
    obtain ⟨e1, z1⟩ := z1
    obtain ⟨e2, z2⟩ := z2
    exact C.sep j k e1 e2 c z1 z2 s1 s2
  · obtain ⟨h1, ⟨u, h2, h3⟩, h4⟩ := C.pen c q
    refine ⟨h1, ⟨u, ?_, h3⟩, h4⟩
    rw [upd_ne ?_]
    · exact h2
    · rintro rfl
      exact p0 q
/-- a name's own object is written no more -/
theorem Cf.frzO (C : Cf K B F pa t env σ H) (hB : B.Top) {i : Nat} {d : D} (hi : env[i]? = some (Sl.own d)) : ∃ F', Gr F pa F' pa ∧ Cf K B F' pa t (env.set i (.val d)) σ H := by
  obtain ⟨a, h, hs, e, r, f0, p0, x0⟩ := C.own i d hi
  have hb : B.H a = none := by
    rcases x0 with z | z
    · exact absurd ((show pa = B.pn from C.pnn).trans (hB a z)) p0
    · exact z
  have hl : i < env.length := (List.getElem?_eq_some_iff.mp hi).1
  have C1 : Cf K B F pa t (env.set i .no) σ H := by
    refine ⟨by simp [C.len], C.sub, C.bas, C.frm, C.new, C.exl, fun j e q => ?_, fun j e q => ?_, fun j k e f c q1 q2 => ?_, C.pen, C.pnn⟩
    · rcases get_set q with ⟨rfl, z⟩ | ⟨ne, z⟩
      · cases z
      · exact C.val j e z
    · rcases get_set q with ⟨rfl, z⟩ | ⟨ne, z⟩
      · cases z
      · exact C.own j e z
    · rcases get_set q1 with ⟨_, z⟩ | ⟨n1, z1⟩
      · cases z
      · rcases get_set q2 with ⟨_, z⟩ | ⟨n2, z2⟩
        · cases z
        · exact C.sep j k e f c z1 z2
  have n : Nw B F pa (env.set i .no) σ a := by
    refine ⟨f0, hb, p0, fun j e' q s1 => ?_⟩
    rcases get_set q with ⟨_, z⟩ | ⟨ne, z⟩
    · cases z
    · exact ne (C.sep i j d e' a hi z hs s1)
  obtain ⟨g, C2⟩ := C1.frz n e
  have C3 := C2.setV i (RelO1.rel (p := a) (RelO1.mono g d h r) upd_same)
  rw [List.set_set] at C3
  have hσ : σ.set i (some (V.ref a)) = σ := by
    apply List.ext_getElem?
    intro j
    by_cases hj : i = j
    · subst hj
      rw [List.getElem?_set_self (by rw [← C.len]; exact hl), hs]
    · rw [List.getElem?_set_ne hj]
  rw [hσ] at C3
  exact ⟨_, g, C3⟩
/-- forgetting -/
theorem Cf.nil (C : Cf K B F pa t env σ H) : Cf K B F pa t [] [] H :=
  ⟨rfl, C.sub, C.bas, C.frm, C.new, C.exl, fun i d e => by simp at e, fun i d e => by simp at e, fun i j d e a q => by simp at q, C.pen, C.pnn⟩
/-! ### calls: the base of a callee -/
def B0 (F : Hp) (pa : Option Addr) (H : Hp) : Bs := ⟨F, H, pa.toList, pa, false⟩
def B1 (F : Hp) (pa : Option Addr) (H : Hp) : Bs := ⟨F, H, pa.toList, pa, true⟩
theorem B0.top (F : Hp) (pa : Option Addr) (H : Hp) : (B0 F pa H).Top := fun a h => by
  show pa = some a
  have h : a ∈ pa.toList := h
  cases pa with
  | none => simp at h
  | some b => simp at h; rw [h]
theorem B1.top (F : Hp) (pa : Option Addr) (H : Hp) : (B1 F pa H).Top := B0.top F pa H
/-- the mode is nothing to the state -/
theorem Cf.cong {B' : Bs} (C : Cf K B F pa t env σ H) (h1 : B'.F = B.F) (h2 : B'.H = B.H) (h3 : B'.ex = B.ex) (h4 : B'.pn = B.pn) : Cf K B' F pa t env σ H := by
  obtain ⟨F1, H1, e1, p1, m1⟩ := B
  obtain ⟨F2, H2, e2, p2, m2⟩ := B'
  cases h1; cases h2; cases h3; cases h4
  exact ⟨C.len, C.sub, C.bas, C.frm, C.new, C.exl, C.val, C.own, C.sep, C.pen, C.pnn⟩
theorem mem_pa {pa : Option Addr} {a : Addr} : a ∈ pa.toList ↔ pa = some a := by
  cases pa with
  | none => simp
  | some b => simp [eq_comm]
theorem Cf.call (C : Cf K B F pa t env σ H) : Cf K (B0 F pa H) F pa t [] [] H := by
  refine ⟨rfl, C.sub, fun _ _ e => e, fun _ _ e _ => e, fun a o e => .inl ⟨o, e⟩, fun a ha => ?_, fun i d e => by simp at e, fun i d e => by simp at e, fun i j d e a q => by simp at q, fun a e => ?_, rfl⟩
  · have q : pa = some a := mem_pa.mp ha
    obtain ⟨_, ⟨h, q, _⟩, _⟩ := C.pen a q
    exact ⟨h, q⟩
  · obtain ⟨h1, h2, _⟩ := C.pen a e
    exact ⟨h1, h2, .inl (mem_pa.mpr e)⟩
theorem Cf.after {F' : Hp} {pa' : Option Addr} {t' : Ts} {H' : Hp} (C : Cf K B F pa t env σ H) (C' : Cf K (B0 F pa H) F' pa' t' [] [] H') : Gr F pa F' pa' ∧ Cf K B F' pa' t' env σ H' := by
  have g : Gr F pa F' pa' := ⟨C'.bas, C'.pnn⟩
  have kp : ∀ a o, H a = some o → pa ≠ some a → H' a = some o := fun a o e n => C'.frm a o e fun z => n (mem_pa.mp z)
  have al : ∀ a o, H a = some o → ∃ o', H' a = some o' := fun a o e => by
    by_cases hp : pa = some a
    · obtain ⟨_, ⟨h, q, _⟩, _⟩ := C'.pen a ((show pa' = pa from g.p).trans hp)
      exact ⟨h, q⟩
    · exact ⟨o, kp a o e hp⟩
  refine ⟨g, ⟨C.len, C'.sub, fun a o e => g.f _ _ (C.bas a o e), fun a o e hx => ?_, fun a o e => ?_, fun a ha => ?_, fun i d e => ?_, fun i d e => ?_, C.sep, fun a e => ?_, (show pa' = pa from g.p).trans C.pnn⟩⟩
  · refine kp a o (C.frm a o e hx) fun z => ?_
    rcases (C.pen a z).2.2 with q | q
    · exact hx q
    · rw [q] at e; cases e
  · rcases C'.new a o e with ⟨o', q⟩ | q
    · exact C.new a o' q
    · exact .inr (C.fresh q).2.1
  · obtain ⟨o, q⟩ := C.exl a ha
    exact al a o q
  · obtain ⟨v, h1, h2⟩ := C.val i d e
    exact ⟨v, h1, RelD.mono g d v h2⟩
  · obtain ⟨a, h, h1, h2, h3, h4, h5, h6⟩ := C.own i d e
    refine ⟨a, h, h1, kp a h h2 h5, RelO1.mono g d h h3, ?_, fun z => ?_, h6⟩
    · cases q : F' a with
      | none => rfl
      | some o =>
        rcases C'.new a o q with ⟨o', z⟩ | z
        · have z : F a = some o' := z
          rw [h4] at z; cases z
        · have z : H a = none := z
          rw [h2] at z; cases z
    · rcases (C'.pen a z).2.2 with q | q
      · exact h5 (mem_pa.mp q)
      · have q : H a = none := q
        rw [h2] at q; cases q
  · obtain ⟨h1, h2, h3⟩ := C'.pen a e
    refine ⟨h1, h2, ?_⟩
    rcases h3 with q | q
    · exact (C.pen a (mem_pa.mp q)).2.2
    · exact .inr (C.fresh q).2.1
end
end Q

/-! QH2 -/
namespace Q
open PySem L2 PyProof.Rows
/-! ### the judgements -/
section
variable (K : PySem.W.Frag) (B : Bs)
def teOf (de : DE) : TE := fun σ H Q => ∃ F pa t env P, Cf K B F pa t env σ H ∧ de env t P ∧
  ∀ v d F' pa' t' H', Gr F pa F' pa' → Cf K B F' pa' t' env σ H' → RelD K F' pa' d v → P d t' → Q v H'
/-- read alone: a datum, or what a name's own object holds -/
def RelX (F : Hp) (pa : Option Addr) (env : En) (σ : L2.St) (d : D) (v : V) : Prop := RelD K F pa d v ∨ ∃ i : Nat, env[i]? = some (Sl.own d) ∧ σ[i]? = some (some v)
def tvOf (de : DE) : TE := fun σ H Q => ∃ F pa t env P, Cf K B F pa t env σ H ∧ de env t P ∧
  ∀ v d F' pa' t' H', Gr F pa F' pa' → Cf K B F' pa' t' env σ H' → RelX K F' pa' env σ d v → P d t' → Q v H'
/-- a new object -/
def tnOf (de : DE) : TE := fun σ H Q => ∃ F pa t env P, Cf K B F pa t env σ H ∧ de env t P ∧
  ∀ p h d F' pa' t' H', Gr F pa F' pa' → Cf K B F' pa' t' env σ H' → Nw B F' pa' env σ p → H' p = some h → RelO1 K F' pa' d h → P d t' → Q (.ref p) H'
def ttOf (dt : DT) : TT := fun σ H Q => ∃ F pa t env P, Cf K B F pa t env σ H ∧ dt env t P ∧
  ∀ k F' pa' t' H', Gr F pa F' pa' → Cf K B F' pa' t' env σ H' → P k t' → Q k H'
def taOf (da : DA) : TA := fun σ H Q => ∃ F pa t env P, Cf K B F pa t env σ H ∧ da env t P ∧
  ∀ vs ds F' pa' t' H', Gr F pa F' pa' → Cf K B F' pa' t' env σ H' → RelL K F' pa' ds vs → P ds t' → Q vs H'
/-- arguments that are read alone -/
inductive RelXs (F : Hp) (pa : Option Addr) (env : En) (σ : L2.St) : List D → List V → Prop
  | nil : RelXs F pa env σ [] []
  | cons {d : D} {v : V} {ds : List D} {vs : List V} : RelX K F pa env σ d v → RelXs F pa env σ ds vs → RelXs F pa env σ (d :: ds) (v :: vs)
def txOf (da : DA) : TA := fun σ H Q => ∃ F pa t env P, Cf K B F pa t env σ H ∧ da env t P ∧
  ∀ vs ds F' pa' t' H', Gr F pa F' pa' → Cf K B F' pa' t' env σ H' → RelXs K F' pa' env σ ds vs → P ds t' → Q vs H'
def toOf (d : DO) : TO := fun σ H Q => ∃ F pa t env P, Cf K B F pa t env σ H ∧ d env t P ∧
  ∀ k F' pa' t' H', Gr F pa F' pa' → Cf K B F' pa' t' env σ H' → P k t' → Q k H'
/-- a target whose names have the slots vs -/
def tgOf (vs : List Nat) (g : DG) : TG := fun v σ H Q => ∃ F pa t env d P, Cf K B F pa t env σ H ∧ RelD K F pa d v ∧ g d env t P ∧
  ∀ F' pa' t' env' σ' H', Gr F pa F' pa' → Cf K B F' pa' t' env' σ' H' → wipe σ' vs = wipe σ vs → P env' t' → Q σ' H'
def tgsOf (vs : List Nat) (g : DGs) : TGs := fun us σ H Q => ∃ F pa t env ds P, Cf K B F pa t env σ H ∧ RelL K F pa ds us ∧ g ds env t P ∧
  ∀ F' pa' t' env' σ' H', Gr F pa F' pa' → Cf K B F' pa' t' env' σ' H' → wipe σ' vs = wipe σ vs → P env' t' → Q σ' H'
/-- how a datum is told back -/
def RetRel (F : Hp) (pa : Option Addr) (H : Hp) (d : D) (v : V) : Prop := match B.m with
  | false => RelD K F pa d v
  | true => (d = .non ∧ v = .non) ∨ ∃ p h, v = .ref p ∧ F p = none ∧ B.H p = none ∧ pa ≠ some p ∧ H p = some h ∧ RelO1 K F pa d h
structure Rz (F0 : Hp) (pa0 : Option Addr) (DD : DEnds) (D : Ends) : Prop where
  nx : ∀ F pa t env σ H, Gr F0 pa0 F pa → Cf K B F pa t env σ H → DD.nx env t → D.nx σ H
  rt : ∀ v d F pa t env σ H, Gr F0 pa0 F pa → Cf K B F pa t env σ H → RetRel K B F pa H d v → DD.rt d env t → D.rt v H
  bk : ∀ F pa t env σ H, Gr F0 pa0 F pa → Cf K B F pa t env σ H → DD.bk env t → D.bk σ H
  ct : ∀ F pa t env σ H, Gr F0 pa0 F pa → Cf K B F pa t env σ H → DD.ct env t → D.ct σ H
def tsOf (ds : DS) : TS := fun D σ H => ∃ F pa t env DD, Cf K B F pa t env σ H ∧ ds DD env t ∧ Rz K B F pa DD D
end
theorem Rz.mono {K : PySem.W.Frag} {B : Bs} {F0 F1 : Hp} {p0 p1 : Option Addr} {DD : DEnds} {D : Ends} (R : Rz K B F0 p0 DD D) (g : Gr F0 p0 F1 p1) : Rz K B F1 p1 DD D :=
  ⟨fun F pa t env σ H g' => R.nx F pa t env σ H (g.trans g'), fun v d F pa t env σ H g' => R.rt v d F pa t env σ H (g.trans g'), fun F pa t env σ H g' => R.bk F pa t env σ H (g.trans g'), fun F pa t env σ H g' => R.ct F pa t env σ H (g.trans g')⟩
abbrev QE (X : Cx) (B : Bs) (e : Expr) (de : DE) : Prop := PE X e (teOf X.K B de)
abbrev QV (X : Cx) (B : Bs) (e : Expr) (de : DE) : Prop := PE X e (tvOf X.K B de)
abbrev QN (X : Cx) (B : Bs) (e : Expr) (de : DE) : Prop := PE X e (tnOf X.K B de)
abbrev QT (X : Cx) (B : Bs) (e : Expr) (dt : DT) : Prop := PT X e (ttOf X.K B dt)
abbrev QW (X : Cx) (B : Bs) (e : Expr) (dt : DT) : Prop := PW X e (ttOf X.K B dt)
abbrev QA (X : Cx) (B : Bs) (es : List Expr) (da : DA) : Prop := PA X es (taOf X.K B da)
abbrev QX (X : Cx) (B : Bs) (es : List Expr) (da : DA) : Prop := PA X es (txOf X.K B da)
abbrev QO (X : Cx) (B : Bs) (e : Option Expr) (d : DO) : Prop := PO X e (toOf X.K B d)
abbrev QG (X : Cx) (B : Bs) (vs : List Nat) (e : Expr) (g : DG) : Prop := PG X e (tgOf X.K B vs g)
abbrev QGs (X : Cx) (B : Bs) (vs : List Nat) (es : List Expr) (g : DGs) : Prop := PGs X es (tgsOf X.K B vs g)
abbrev QS (X : Cx) (B : Bs) (st : Stmt) (ds : DS) : Prop := PS X st (tsOf X.K B ds)
abbrev QSs (X : Cx) (B : Bs) (st : List Stmt) (ds : DS) : Prop := PSs X st (tsOf X.K B ds)
theorem PE.imp {X : Cx} {e : Expr} {t t' : TE} (h : PE X e t) (i : ∀ σ H Q, t' σ H Q → t σ H Q) : PE X e t' := ⟨fun pins s σ H Q I q => h.run pins s σ H Q I (i σ H Q q)⟩
theorem PT.imp {X : Cx} {e : Expr} {t t' : TT} (h : PT X e t) (i : ∀ σ H Q, t' σ H Q → t σ H Q) : PT X e t' := ⟨fun pins s σ H Q I q => h.run pins s σ H Q I (i σ H Q q)⟩
theorem PW.imp {X : Cx} {e : Expr} {t t' : TT} (h : PW X e t) (i : ∀ σ H Q, t' σ H Q → t σ H Q) : PW X e t' := ⟨fun w pins s σ H Q I q => h.run w pins s σ H Q I (i σ H Q q)⟩
theorem PA.imp {X : Cx} {e : List Expr} {t t' : TA} (h : PA X e t) (i : ∀ σ H Q, t' σ H Q → t σ H Q) : PA X e t' := ⟨fun p pins s σ H Q I q => h.run p pins s σ H Q I (i σ H Q q)⟩
theorem PO.imp {X : Cx} {e : Option Expr} {t t' : TO} (h : PO X e t) (i : ∀ σ H Q, t' σ H Q → t σ H Q) : PO X e t' := ⟨fun pins s σ H Q I q => h.run pins s σ H Q I (i σ H Q q)⟩
theorem PG.imp {X : Cx} {e : Expr} {t t' : TG} (h : PG X e t) (i : ∀ v σ H Q, t' v σ H Q → t v σ H Q) : PG X e t' := ⟨fun pins s σ H v u Q I r q => h.run pins s σ H v u Q I r (i v σ H Q q)⟩
theorem PGs.imp {X : Cx} {e : List Expr} {t t' : TGs} (h : PGs X e t) (i : ∀ v σ H Q, t' v σ H Q → t v σ H Q) : PGs X e t' := ⟨fun pins s σ H v u Q I r q => h.run pins s σ H v u Q I r (i v σ H Q q)⟩
theorem PS.imp {X : Cx} {e : Stmt} {t t' : TS} (h : PS X e t) (i : ∀ D σ H, t' D σ H → t D σ H) : PS X e t' := ⟨fun pins s σ H D I q => h.run pins s σ H D I (i D σ H q)⟩
theorem PSs.imp {X : Cx} {e : List Stmt} {t t' : TS} (h : PSs X e t) (i : ∀ D σ H, t' D σ H → t D σ H) : PSs X e t' := ⟨fun pins s σ H D I q => h.run pins s σ H D I (i D σ H q)⟩
section
variable {X : Cx} {B : Bs} {K : PySem.W.Frag} {a b c e : Expr} {es : List Expr} {pos : Pos} {da db dc : DE} {as : DA}
theorem RelX.mono {F F' : Hp} {pa pa' : Option Addr} {env : En} {σ : L2.St} {d : D} {v : V} (g : Gr F pa F' pa') (r : RelX K F pa env σ d v) : RelX K F' pa' env σ d v := by
  rcases r with r | r
  · exact .inl (RelD.mono g d v r)
  · exact .inr r
theorem RelXs.mono {F F' : Hp} {pa pa' : Option Addr} {env : En} {σ : L2.St} {d : List D} {v : List V} (g : Gr F pa F' pa') (r : RelXs K F pa env σ d v) : RelXs K F' pa' env σ d v := by
  induction r with
  | nil => exact .nil
  | cons h _ ih => exact .cons (h.mono g) ih
theorem RelXs.of {F : Hp} {pa : Option Addr} {env : En} {σ : L2.St} : ∀ {d : List D} {v : List V}, RelL K F pa d v → RelXs K F pa env σ d v
  | [], v, h => by rw [h.inv0]; exact .nil
  | x :: d, v, h => by
    obtain ⟨y, w, rfl, r, q⟩ := h.inv
    exact .cons (.inl r) (RelXs.of q)
/-- what a list, a tuple, a dict that is read stands as -/
theorem RelX.lst {F : Hp} {pa : Option Addr} {t : Ts} {env : En} {σ : L2.St} {H : Hp} {l : List D} {v : V} (C : Cf K B F pa t env σ H) (r : RelX K F pa env σ (.lst l) v) : ∃ a vs, v = .ref a ∧ H a = some (.lst vs) ∧ RelL K F pa l vs := by
  rcases r with r | ⟨i, h1, h2⟩
  · unfold RelD at r
    obtain ⟨a, vs, e, q, z⟩ := r
    exact ⟨a, vs, e, C.sub _ _ q, z⟩
  · obtain ⟨a, h, s1, q, z, _⟩ := C.own i _ h1
    rw [h2] at s1; cases s1
    obtain ⟨vs, rfl, z⟩ := z
    exact ⟨a, vs, rfl, q, z⟩
theorem RelX.tup {F : Hp} {pa : Option Addr} {t : Ts} {env : En} {σ : L2.St} {H : Hp} {l : List D} {v : V} (C : Cf K B F pa t env σ H) (r : RelX K F pa env σ (.tup l) v) : ∃ a vs, v = .ref a ∧ H a = some (.tup vs) ∧ F a = some (.tup vs) ∧ RelL K F pa l vs := by
  rcases r with r | ⟨i, h1, h2⟩
  · unfold RelD at r
    obtain ⟨a, vs, e, q, z⟩ := r
    exact ⟨a, vs, e, C.sub _ _ q, q, z⟩
  · obtain ⟨a, h, s1, q, z, _⟩ := C.own i _ h1
    exact z.elim
theorem RelX.dic {F : Hp} {pa : Option Addr} {t : Ts} {env : En} {σ : L2.St} {H : Hp} {ks : List Ky} {l : List D} {v : V} (C : Cf K B F pa t env σ H) (r : RelX K F pa env σ (.dic ks l) v) : ∃ a vs, v = .ref a ∧ H a = some (.dK (ks.zip vs)) ∧ ks.length = vs.length ∧ RelL K F pa l vs := by
  rcases r with r | ⟨i, h1, h2⟩
  · unfold RelD at r
    obtain ⟨a, vs, e, q, z⟩ := r
    exact ⟨a, vs, e, C.sub _ _ q, z⟩
  · obtain ⟨a, h, s1, q, z, _⟩ := C.own i _ h1
    rw [h2] at s1; cases s1
    obtain ⟨vs, rfl, z⟩ := z
    exact ⟨a, vs, rfl, q, z⟩
theorem RelX.ins {F : Hp} {pa : Option Addr} {t : Ts} {env : En} {σ : L2.St} {H : Hp} {C : Addr} {ns : List Str} {l : List D} {v : V} (W : Cf K B F pa t env σ H) (r : RelX K F pa env σ (.ins C ns l) v) : ∃ a dx vs, v = .ref a ∧ H a = some (.ins C dx (ns.zip vs)) ∧ ns.length = vs.length ∧ RelL K F pa l vs := by
  rcases r with r | ⟨i, h1, h2⟩
  · unfold RelD at r
    obtain ⟨a, dx, vs, e, q, z⟩ := r
    exact ⟨a, dx, vs, e, W.sub _ _ q, z⟩
  · obtain ⟨a, h, s1, q, z, _⟩ := W.own i _ h1
    rw [h2] at s1; cases s1
    obtain ⟨dx, vs, rfl, z⟩ := z
    exact ⟨a, dx, vs, rfl, q, z⟩
theorem RelX.scr {F : Hp} {pa : Option Addr} {t : Ts} {env : En} {σ : L2.St} {H : Hp} {ns : List Int} {v : V} (W : Cf K B F pa t env σ H) (r : RelX K F pa env σ (.scr ns) v) : ∃ a, v = .ref a ∧ SqL K H a (ns.map V.int) := by
  rcases r with r | ⟨i, h1, h2⟩
  · unfold RelD at r
    obtain ⟨a, e, q⟩ := r
    exact ⟨a, e, sq_mono W.sub q⟩
  · obtain ⟨a, h, s1, q, z, _⟩ := W.own i _ h1
    exact z.elim
theorem RelX.int {F : Hp} {pa : Option Addr} {t : Ts} {env : En} {σ : L2.St} {H : Hp} {i : Int} {v : V} (W : Cf K B F pa t env σ H) (r : RelX K F pa env σ (.int i) v) : v = .int i := by
  rcases r with r | ⟨i, h1, h2⟩
  · unfold RelD at r; exact r
  · obtain ⟨a, h, s1, q, z, _⟩ := W.own i _ h1
    exact z.elim
theorem RelX.bl {F : Hp} {pa : Option Addr} {t : Ts} {env : En} {σ : L2.St} {H : Hp} {i : Bool} {v : V} (W : Cf K B F pa t env σ H) (r : RelX K F pa env σ (.bl i) v) : v = .bl i := by
  rcases r with r | ⟨i, h1, h2⟩
  · unfold RelD at r; exact r
  · obtain ⟨a, h, s1, q, z, _⟩ := W.own i _ h1
    exact z.elim
theorem RelX.str {F : Hp} {pa : Option Addr} {t : Ts} {env : En} {σ : L2.St} {H : Hp} {i : Str} {v : V} (W : Cf K B F pa t env σ H) (r : RelX K F pa env σ (.str i) v) : v = .str i := by
  rcases r with r | ⟨i, h1, h2⟩
  · unfold RelD at r; exact r
  · obtain ⟨a, h, s1, q, z, _⟩ := W.own i _ h1
    exact z.elim
theorem RelX.non {F : Hp} {pa : Option Addr} {t : Ts} {env : En} {σ : L2.St} {H : Hp} {v : V} (W : Cf K B F pa t env σ H) (r : RelX K F pa env σ .non v) : v = .non := by
  rcases r with r | ⟨i, h1, h2⟩
  · unfold RelD at r; exact r
  · obtain ⟨a, h, s1, q, z, _⟩ := W.own i _ h1
    exact z.elim
/-- a datum is read -/
theorem toV (h : QE X B e da) : QV X B e da := PE.imp h fun σ H Q ⟨F, pa, t, env, P, C, hd, k⟩ => ⟨F, pa, t, env, P, C, hd, fun v d F' pa' t' H' g C' r q => k v d F' pa' t' H' g C' (.inl r) q⟩
/-- a new object is frozen -/
theorem toE (h : QN X B e da) : QE X B e da := PE.imp h fun σ H Q ⟨F, pa, t, env, P, C, hd, k⟩ => ⟨F, pa, t, env, P, C, hd, fun p h d F' pa' t' H' g C' n e r q => by
  obtain ⟨g', C2⟩ := C'.frz n e
  exact k (.ref p) d _ pa' t' H' (g.trans g') C2 (RelO1.rel (RelO1.mono g' d h r) upd_same) q⟩
theorem toNV (h : QN X B e da) : QV X B e da := toV (toE h)
/-! ### names, constants -/
theorem q_var {i : Nat} {x : Str} {pos : Pos} (h : PE X (.Name x pos) (tVar i)) : QE X B (.Name x pos) (dVar i) := PE.imp h fun σ H Q ⟨F, pa, t, env, P, C, hd, k⟩ => by
  have hd : (match env[i]? with | some (.val d) => P d t | _ => False) := hd
  cases q : env[i]? with
  | none => rw [q] at hd; exact hd.elim
  | some s =>
    rw [q] at hd
    cases s with
    | val d =>
      obtain ⟨v, h1, h2⟩ := C.val i d q
      exact ⟨v, h1, k v d F pa t H (Gr.refl _ _) C h2 hd⟩
    | no => exact hd.elim
    | own d => exact hd.elim
theorem q_view {i : Nat} {x : Str} {pos : Pos} (h : PE X (.Name x pos) (tVar i)) : QV X B (.Name x pos) (dView i) := PE.imp h fun σ H Q ⟨F, pa, t, env, P, C, hd, k⟩ => by
  have hd : (match env[i]? with | some (.val d) => P d t | some (.own d) => P d t | _ => False) := hd
  cases q : env[i]? with
  | none => rw [q] at hd; exact hd.elim
  | some s =>
    rw [q] at hd
    cases s with
    | val d =>
      obtain ⟨v, h1, h2⟩ := C.val i d q
      exact ⟨v, h1, k v d F pa t H (Gr.refl _ _) C (.inl h2) hd⟩
    | no => exact hd.elim
    | own d =>
      obtain ⟨a, h, h1, h2, h3, _⟩ := C.own i d q
      exact ⟨.ref a, h1, k _ d F pa t H (Gr.refl _ _) C (.inr ⟨i, q, h1⟩) hd⟩
theorem q_c {v : V} {d : D} (h : PE X e (tC v)) (r : ∀ F pa, RelD X.K F pa d v) : QE X B e (dC d) := PE.imp h fun σ H Q ⟨F, pa, t, env, P, C, hd, k⟩ => k v d F pa t H (Gr.refl _ _) C (r F pa) hd
theorem q_int {i : Int} {j pos} : QE X B (.Constant (.int i) j pos) (dC (.int i)) := q_c pe_int fun _ _ => by unfold RelD; rfl
theorem q_bl {i : Bool} {j pos} : QE X B (.Constant (.bool i) j pos) (dC (.bl i)) := q_c pe_bl fun _ _ => by unfold RelD; rfl
theorem q_non {j pos} : QE X B (.Constant .none j pos) (dC .non) := q_c pe_non fun _ _ => by unfold RelD; rfl
theorem q_str {i : Str} {j pos} : QE X B (.Constant (.str i) j pos) (dC (.str i)) := q_c pe_str fun _ _ => by unfold RelD; rfl
/-! ### operators -/
def ROp (K : PySem.W.Frag) (r : R2) (o : DOp) : Prop := ∀ (B : Bs) F pa t env σ H x y v u P (Q : VK), Cf K B F pa t env σ H → RelX K F pa env σ x v → RelX K F pa env σ y u → o x y P →
  (∀ w d F' H', Gr F pa F' pa → Cf K B F' pa t env σ H' → RelD K F' pa d w → P d → Q w H') → r v u H Q
/-- an operation that gives a new object: the list itself -/
def RUn (K : PySem.W.Frag) (r : V → Hp → VK → Prop) (o : DU) : Prop := ∀ (B : Bs) F pa t env σ H x v P (Q : VK), Cf K B F pa t env σ H → RelX K F pa env σ x v → o x P →
  (∀ w d F' H', Gr F pa F' pa → Cf K B F' pa t env σ H' → RelD K F' pa d w → P d → Q w H') → r v H Q
theorem ev2 {r : R2} {o : DOp} (hr : ROp K r o) : ∀ σ H Q, teOf K B (dOp o da db) σ H Q → tOp r (tvOf K B da) (tvOf K B db) σ H Q := fun σ H Q ⟨F, pa, t, env, P, C, hd, k⟩ =>
  ⟨F, pa, t, env, _, C, hd, fun v x F1 pa1 t1 H1 g1 C1 r1 q1 => ⟨F1, pa1, t1, env, _, C1, q1, fun u y F2 pa2 t2 H2 g2 C2 r2 q2 =>
    hr B F2 pa2 t2 env σ H2 x y v u _ Q C2 (r1.mono g2) r2 q2 fun w d F' H' g3 C3 r3 q3 => k w d F' pa2 t2 H' ((g1.trans g2).trans g3) C3 r3 q3⟩⟩
theorem q_op {op : Operator} {r : R2} {o : DOp} (ho : OpR X (binaryOp op) r) (hr : ROp X.K r o) (ha : QV X B a da) (hb : QV X B b db) : QE X B (.BinOp a op b pos) (dOp o da db) := PE.imp (pe_op ho ha hb) (ev2 hr)
theorem q_un {op : UnaryOp} {r : V → Hp → VK → Prop} {o : DU} (ho : UnR X (unaryOp op) r) (hr : RUn X.K r o) (ha : QV X B a da) : QE X B (.UnaryOp op a pos) (dUn o da) := PE.imp (pe_un ho ha) fun σ H Q ⟨F, pa, t, env, P, C, hd, k⟩ =>
  ⟨F, pa, t, env, _, C, hd, fun v x F1 pa1 t1 H1 g1 C1 r1 q1 => hr B F1 pa1 t1 env σ H1 x v _ Q C1 r1 q1 fun w d F' H' g3 C3 r3 q3 => k w d F' pa1 t1 H' (g1.trans g3) C3 r3 q3⟩
theorem q_cmp {op : CmpOp} {r : R2} {o : DOp} (ho : OpR X (compareOp op) r) (hr : ROp X.K r o) (ha : QV X B a da) (hb : QV X B b db) (hm : behindInMarks op b = false) : QE X B (.Compare a [op] [b] pos) (dOp o da db) := PE.imp (pe_cmpR ho ha hb hm) (ev2 hr)
theorem q_tcmp {op : CmpOp} {r : R2} {o : DOp} (ho : OpR X (compareOp op) r) (hr : ROp X.K r o) (ha : QV X B a da) (hb : QV X B b db) (hm : behindInMarks op b = false) : QT X B (.Compare a [op] [b] pos) (dB (dOp o da db)) := PT.imp (pt_cmpR ho ha hb hm) fun σ H Q ⟨F, pa, t, env, P, C, hd, k⟩ => by
  refine ev2 hr σ H _ ⟨F, pa, t, env, _, C, hd, fun v d F' pa' t' H' g C' rd q => ?_⟩
  cases d with
  | bl b => unfold RelD at rd; exact ⟨b, rd, k b F' pa' t' H' g C' q⟩
  | _ => exact q.elim
/-! ### the operators' relations -/
theorem rD_int {F : Hp} {pa : Option Addr} (i : Int) : RelD K F pa (.int i) (.int i) := by unfold RelD; rfl
theorem rD_bl {F : Hp} {pa : Option Addr} (i : Bool) : RelD K F pa (.bl i) (.bl i) := by unfold RelD; rfl
theorem rD_str {F : Hp} {pa : Option Addr} (i : Str) : RelD K F pa (.str i) (.str i) := by unfold RelD; rfl
theorem rD_non {F : Hp} {pa : Option Addr} : RelD K F pa .non .non := by unfold RelD; rfl
theorem rop_int {C : Int → Int → Prop} {g : Int → Int → V} {f : Int → Int → D} {o : DOp} (hg : ∀ F pa i j, RelD K F pa (f i j) (g i j)) (ho : ∀ x y P, o x y P → ∃ i j, x = .int i ∧ y = .int j ∧ C i j ∧ P (f i j)) : ROp K (rI C g) o := fun B F pa t env σ H x y v u P Q W rx ry h k => by
  obtain ⟨i, j, rfl, rfl, hc, p⟩ := ho x y P h
  exact ⟨i, j, rx.int W, ry.int W, hc, k _ _ F H (Gr.refl _ _) W (hg F pa i j) p⟩
theorem rop_int0 {g : Int → Int → V} {f : Int → Int → D} {o : DOp} (hg : ∀ F pa i j, RelD K F pa (f i j) (g i j)) (ho : ∀ x y P, o x y P → ∃ i j, x = .int i ∧ y = .int j ∧ P (f i j)) : ROp K (rI0 g) o := fun B F pa t env σ H x y v u P Q W rx ry h k => by
  obtain ⟨i, j, rfl, rfl, p⟩ := ho x y P h
  exact ⟨i, j, rx.int W, ry.int W, k _ _ F H (Gr.refl _ _) W (hg F pa i j) p⟩
theorem rop_sub : ROp K (rI0 fun i j => .int (i - j)) oSub := rop_int0 (f := fun i j => .int (i - j)) (fun _ _ _ _ => rD_int _) fun x y P h => by
  cases x <;> cases y <;> first | exact ⟨_, _, rfl, rfl, h⟩ | exact (False.elim h)
theorem rop_lt : ROp K (rI0 fun i j => .bl (decide (i < j))) oLt := rop_int0 (f := fun i j => .bl (decide (i < j))) (fun _ _ _ _ => rD_bl _) fun x y P h => by
  cases x <;> cases y <;> first | exact ⟨_, _, rfl, rfl, h⟩ | exact (False.elim h)
theorem rop_le : ROp K (rI0 fun i j => .bl (decide (i ≤ j))) oLe := rop_int0 (f := fun i j => .bl (decide (i ≤ j))) (fun _ _ _ _ => rD_bl _) fun x y P h => by
  cases x <;> cases y <;> first | exact ⟨_, _, rfl, rfl, h⟩ | exact (False.elim h)
theorem rop_gt : ROp K (rI0 fun i j => .bl (decide (j < i))) oGt := rop_int0 (f := fun i j => .bl (decide (j < i))) (fun _ _ _ _ => rD_bl _) fun x y P h => by
  cases x <;> cases y <;> first | exact ⟨_, _, rfl, rfl, h⟩ | exact (False.elim h)
theorem rop_ge : ROp K (rI0 fun i j => .bl (decide (j ≤ i))) oGe := rop_int0 (f := fun i j => .bl (decide (j ≤ i))) (fun _ _ _ _ => rD_bl _) fun x y P h => by
  cases x <;> cases y <;> first | exact ⟨_, _, rfl, rfl, h⟩ | exact (False.elim h)
theorem rop_mod : ROp K (rI (fun _ j => 0 < j) fun i j => .int (i % j)) oMod := rop_int (f := fun i j => .int (i % j)) (fun _ _ _ _ => rD_int _) fun x y P h => by
  cases x <;> cases y <;> first | exact ⟨_, _, rfl, rfl, h.1, h.2⟩ | exact (False.elim h)
theorem rop_div : ROp K (rI CDivW fun i j => .int (i / j)) oDiv := rop_int (f := fun i j => .int (i / j)) (fun _ _ _ _ => rD_int _) fun x y P h => by
  cases x <;> cases y <;> first | exact ⟨_, _, rfl, rfl, wide_div h.1.1 h.1.2 (by decide) (by decide), h.2⟩ | exact (False.elim h)

theorem zle {n : Nat} (h : n ≤ zLen) : n ≤ sizeLine := by rw [sizeLine_eq]; unfold zLen at h; omega
theorem zlt {n : Nat} (h : n < zLen) : n < sizeLine := by rw [sizeLine_eq]; unfold zLen at h; omega
theorem few_of {l : List D} {p : Prop} (h : Few l p) : l.length ≤ sizeLine ∧ p := by
  unfold Few at h
  split at h
  · rename_i e
    exact ⟨by rw [sizeLine_eq]; have := Nat.le_of_ble_eq_true e; omega, h⟩
  · exact h.elim
/-- a new list | tuple, of what is there -/
theorem new_lst {F : Hp} {pa : Option Addr} {t : Ts} {env : En} {σ : L2.St} {H : Hp} {p : Addr} {l : List D} {vs : List V} (C : Cf K B F pa t env σ H) (h : H p = none) (r : RelL K F pa l vs) :
    ∃ F', Gr F pa F' pa ∧ Cf K B F' pa t env σ (upd H p (.lst vs)) ∧ RelD K F' pa (.lst l) (.ref p) := by
  obtain ⟨g, C'⟩ := C.alloc (.lst vs) h
  exact ⟨_, g, C', RelO1.rel (d := .lst l) ⟨vs, rfl, RelL.mono g l vs r⟩ upd_same⟩
theorem new_tup {F : Hp} {pa : Option Addr} {t : Ts} {env : En} {σ : L2.St} {H : Hp} {p : Addr} {l : List D} {vs : List V} (C : Cf K B F pa t env σ H) (h : H p = none) (r : RelL K F pa l vs) :
    ∃ F', Gr F pa F' pa ∧ Cf K B F' pa t env σ (upd H p (.tup vs)) ∧ RelD K F' pa (.tup l) (.ref p) := by
  obtain ⟨g, C'⟩ := C.alloc (.tup vs) h
  refine ⟨_, g, C', ?_⟩
  unfold RelD
  exact ⟨p, vs, rfl, upd_same, RelL.mono g l vs r⟩
def rAdd4 (K : PySem.W.Frag) : R2 := fun x y H Q => (rI0 (fun i j => .int (i + j)) x y H Q ∨ rCat x y H Q) ∨ (rCatT K x y H Q ∨ ∃ i j, x = .str i ∧ y = .str j ∧ i.length + j.length ≤ sizeLine ∧ Q (.str (i ++ j)) H)
theorem op_add4 : OpR X (binaryOp .Add) (rAdd4 X.K) := (op_add.or op_cat).or (op_catT.or op_add_str)
theorem rop_add : ROp K (rAdd4 K) oAdd := fun B F pa t env σ H x y v u P Q W rx ry h k => by
  cases x with
  | int i =>
    cases y with
    | int j => exact .inl (.inl ⟨i, j, rx.int W, ry.int W, k _ _ F H (Gr.refl _ _) W (rD_int _) h⟩)
    | _ => exact h.elim
  | str i =>
    cases y with
    | str j => exact .inr (.inr ⟨i, j, rx.str W, ry.str W, zle h.1, k _ _ F H (Gr.refl _ _) W (rD_str _) h.2⟩)
    | _ => exact h.elim
  | lst l =>
    cases y with
    | lst m =>
      obtain ⟨a, vs, rfl, e1, r1⟩ := rx.lst W
      obtain ⟨b, ws, rfl, e2, r2⟩ := ry.lst W
      refine .inl (.inr ⟨a, b, vs, ws, rfl, rfl, e1, e2, by rw [r1.len, r2.len]; exact zle h.1, fun p hp => ?_⟩)
      obtain ⟨F', g, C', rd⟩ := new_lst W hp (r1.append r2)
      exact k _ _ F' _ g C' rd h.2
    | _ => exact h.elim
  | tup l =>
    cases y with
    | tup m =>
      obtain ⟨a, vs, rfl, e1, _, r1⟩ := rx.tup W
      obtain ⟨b, ws, rfl, e2, _, r2⟩ := ry.tup W
      obtain ⟨⟨hz, hl, hm⟩, hp⟩ := h
      refine .inr (.inl ⟨a, b, vs, ws, rfl, rfl, SqT.of e1, SqT.of e2, ?_, by rw [r1.len, r2.len]; exact zle hz, ?_, fun _ p hp' => ?_⟩)
      · intro e; have := r1.len; rw [e] at this; exact hl (List.length_eq_zero_iff.mp this.symm)
      · intro e; have := r2.len; rw [e] at this; exact absurd (List.length_eq_zero_iff.mp this.symm) hm
      · obtain ⟨F', g, C', rd⟩ := new_tup W hp' (r1.append r2)
        exact k _ _ F' _ g C' rd hp
    | _ => exact h.elim
  | _ => exact h.elim
theorem sm_mul {i j : Int} (h : MulOk i j) : CMul i j ∨ CMulW i j := by
  rcases h with h | h | ⟨a, b, h1, h2, h3, h4, h5⟩
  · have h : i.natAbs < 2 ^ 64 := h
    exact .inl (.inl ⟨by omega, by omega⟩)
  · have h : j.natAbs < 2 ^ 64 := h
    exact .inl (.inr ⟨by omega, by omega⟩)
  · exact .inr (wide_mul h1 h2 h3 h4 h5)
def rMul3 : R2 := fun x y H Q => (rI CMul (fun i j => .int (i * j)) x y H Q ∨ rI CMulW (fun i j => .int (i * j)) x y H Q) ∨ rRep x y H Q
theorem op_mul3 : OpR X (binaryOp .Mult) rMul3 := (op_mul.or op_mulW).or op_rep
theorem rop_mul : ROp K rMul3 oMul := fun B F pa t env σ H x y v u P Q W rx ry h k => by
  cases x with
  | int i =>
    cases y with
    | int j =>
      rcases sm_mul h.1 with c | c
      · exact .inl (.inl ⟨i, j, rx.int W, ry.int W, c, k _ _ F H (Gr.refl _ _) W (rD_int _) h.2⟩)
      · exact .inl (.inr ⟨i, j, rx.int W, ry.int W, c, k _ _ F H (Gr.refl _ _) W (rD_int _) h.2⟩)
    | _ => exact h.elim
  | lst l =>
    cases y with
    | int j =>
      obtain ⟨a, vs, rfl, e1, r1⟩ := rx.lst W
      obtain ⟨⟨h1, h2, h3⟩, hp⟩ := h
      refine .inr ⟨a, j, vs, rfl, ry.int W, e1, by omega, by omega, by rw [r1.len]; exact zle h3, fun p hp' => ?_⟩
      obtain ⟨F', g, C', rd⟩ := new_lst W hp' (r1.rep j.toNat)
      exact k _ _ F' _ g C' rd hp
    | _ => exact h.elim
  | _ => exact h.elim
/-- ** of whole numbers -/
theorem sm_pow {i j : Int} (h : PowOk i j) : 0 ≤ j ∧ (Builtin.Int.intBits i : Int) * j ≤ 2 ^ 27 := by
  obtain ⟨h0, a, ha, hb⟩ := h
  refine ⟨h0, ?_⟩
  have hi : Builtin.Int.intBits i ≤ a ∨ i = 0 := by
    unfold Builtin.Int.intBits
    by_cases e : i = 0
    · exact .inr e
    · left
      split
      · omega
      · have ha' : i.natAbs < 2 ^ a := ha
        have : i.natAbs.log2 < a := (Nat.log2_lt (by omega)).mpr ha'
        omega
  rcases hi with hi | rfl
  · have h1 : (Builtin.Int.intBits i : Int) ≤ (a : Int) := by omega
    have := Int.mul_le_mul_of_nonneg_right h1 h0
    have : (2 : Int) ^ 27 = 134217728 := by decide
    omega
  · have : (Builtin.Int.intBits 0 : Int) ≤ 1 := by decide
    have hj : j ≤ 100000000 ∨ a = 0 := by
      by_cases e : a = 0
      · exact .inr e
      · left
        have h1 : (1 : Int) ≤ (a : Int) := by omega
        have := Int.mul_le_mul_of_nonneg_right h1 h0
        omega
    rcases hj with hj | rfl
    · have := Int.mul_le_mul_of_nonneg_right this h0
      have : (2 : Int) ^ 27 = 134217728 := by decide
      omega
    · have e0 : Builtin.Int.intBits 0 = 0 := by decide
      rw [e0]
      have : (2 : Int) ^ 27 = 134217728 := by decide
      omega
theorem op_powW : OpR X (binaryOp .Pow) (rI (fun i j => PowOk i j) fun i j => .int (i ^ j.toNat)) := opI fun _ _ _ _ _ _ _ hc q => pow_int (sm_pow hc).1 (sm_pow hc).2 q
theorem rop_pow : ROp K (rI (fun i j => PowOk i j) fun i j => .int (i ^ j.toNat)) oPow := rop_int (f := fun i j => .int (i ^ j.toNat)) (fun _ _ _ _ => rD_int _) fun x y P h => by
  cases x <;> cases y <;> first | exact ⟨_, _, rfl, rfl, h.1, h.2⟩ | exact (False.elim h)
theorem run_neg : RUn K (rU fun i => .int (-i)) oNeg := fun B F pa t env σ H x v P Q W rx h k => by
  cases x with
  | int i => exact ⟨i, rx.int W, k _ _ F H (Gr.refl _ _) W (rD_int _) h⟩
  | _ => exact h.elim
theorem rop_isN : ROp K (fun x y H Q => y = .non ∧ Q (.bl (decide (x = .non))) H) oIsN := fun B F pa t env σ H x y v u P Q W rx ry h k => by
  cases y with
  | non =>
    refine ⟨ry.non W, ?_⟩
    have e : decide (v = V.non) = isNon x := by
      cases x with
      | non => rw [rx.non W]; rfl
      | int i => rw [rx.int W]; rfl
      | bl i => rw [rx.bl W]; rfl
      | str i => rw [rx.str W]; rfl
      | lst l => obtain ⟨a, vs, rfl, _⟩ := rx.lst W; rfl
      | tup l => obtain ⟨a, vs, rfl, _⟩ := rx.tup W; rfl
      | dic ks l => obtain ⟨a, vs, rfl, _⟩ := rx.dic W; rfl
      | ins C ns l => obtain ⟨a, dx, vs, rfl, _⟩ := rx.ins W; rfl
      | scr ns => obtain ⟨a, rfl, _⟩ := rx.scr W; rfl
      | pen =>
        rcases rx with r | ⟨i, h1, h2⟩
        · unfold RelD at r; obtain ⟨a, _, rfl⟩ := r; rfl
        · obtain ⟨a, h, s1, q, z, _⟩ := W.own i _ h1; exact z.elim
      | ty n =>
        rcases rx with r | ⟨i, h1, h2⟩
        · unfold RelD at r; rw [r]; rfl
        · obtain ⟨a, h, s1, q, z, _⟩ := W.own i _ h1; exact z.elim
      | adr n =>
        rcases rx with r | ⟨i, h1, h2⟩
        · unfold RelD at r; rw [r]; rfl
        · obtain ⟨a, h, s1, q, z, _⟩ := W.own i _ h1; exact z.elim
      | rp n =>
        rcases rx with r | ⟨i, h1, h2⟩
        · unfold RelD at r; rw [r]; rfl
        · obtain ⟨a, h, s1, q, z, _⟩ := W.own i _ h1; exact z.elim
    rw [e]
    exact k _ _ F H (Gr.refl _ _) W (rD_bl _) h
  | _ => exact h.elim
theorem rop_notN : ROp K (fun x y H Q => y = .non ∧ Q (.bl (!decide (x = .non))) H) oNotN := fun B F pa t env σ H x y v u P Q W rx ry h k => by
  cases y with
  | non =>
    have := rop_isN (K := K) B F pa t env σ H x .non v u (fun d => match d with | .bl b => P (.bl (!b)) | _ => False) (fun w H' => match w with | .bl b => Q (.bl (!b)) H' | _ => False) W rx ry h fun w d F' H' g C r q => by
      cases d with
      | bl b => unfold RelD at r; subst r; exact k _ _ F' H' g C (rD_bl _) q
      | _ => exact q.elim
    exact this
  | _ => exact h.elim
/-! ### == as data -/

mutual
theorem eqv_toPy : ∀ (x y : D), plain x = true → plain y = true → PyData.eqv (toPy x) (toPy y) = deq x y
  | .lst l, .lst m, hx, hy => by
    simp only [toPy, PyData.eqv, deq]
    exact eqvs_toPy l m hx hy
  | .tup l, .tup m, hx, hy => by
    simp only [toPy, PyData.eqv, deq]
    exact eqvs_toPy l m hx hy
  | .non, y, hx, hy => by cases y <;> first | rfl | (simp [plain] at hy; done)
  | .bl b, y, hx, hy => by cases y <;> first | rfl | (simp [plain] at hy; done)
  | .int b, y, hx, hy => by cases y <;> first | rfl | (simp [plain] at hy; done)
  | .str b, y, hx, hy => by cases y <;> first | rfl | (simp [plain] at hy; done) | (simp [toPy, PyData.eqv, deq]; done)
  | .lst l, .non, _, _ => rfl
  | .lst l, .bl _, _, _ => rfl
  | .lst l, .int _, _, _ => rfl
  | .lst l, .str _, _, _ => rfl
  | .lst l, .tup _, _, _ => rfl
  | .lst l, .dic _ _, _, hy => by simp [plain] at hy
  | .lst l, .ins _ _ _, _, hy => by simp [plain] at hy
  | .lst l, .pen, _, hy => by simp [plain] at hy
  | .lst l, .ty _, _, hy => by simp [plain] at hy
  | .lst l, .adr _, _, hy => by simp [plain] at hy
  | .lst l, .rp _, _, hy => by simp [plain] at hy
  | .lst l, .scr _, _, hy => by simp [plain] at hy
  | .tup l, .non, _, _ => rfl
  | .tup l, .bl _, _, _ => rfl
  | .tup l, .int _, _, _ => rfl
  | .tup l, .str _, _, _ => rfl
  | .tup l, .lst _, _, _ => rfl
  | .tup l, .dic _ _, _, hy => by simp [plain] at hy
  | .tup l, .ins _ _ _, _, hy => by simp [plain] at hy
  | .tup l, .pen, _, hy => by simp [plain] at hy
  | .tup l, .ty _, _, hy => by simp [plain] at hy
  | .tup l, .adr _, _, hy => by simp [plain] at hy
  | .tup l, .rp _, _, hy => by simp [plain] at hy
  | .tup l, .scr _, _, hy => by simp [plain] at hy
  | .dic _ _, _, hx, _ => by simp [plain] at hx
  | .ins _ _ _, _, hx, _ => by simp [plain] at hx
  | .pen, _, hx, _ => by simp [plain] at hx
  | .ty _, _, hx, _ => by simp [plain] at hx
  | .adr _, _, hx, _ => by simp [plain] at hx
  | .rp _, _, hx, _ => by simp [plain] at hx
  | .scr _, _, hx, _ => by simp [plain] at hx
theorem eqvs_toPy : ∀ (x y : List D), plains x = true → plains y = true → PyData.eqvAll (toPys x) (toPys y) = deqs x y
  | [], [], _, _ => rfl
  | [], _ :: _, _, _ => rfl
  | _ :: _, [], _, _ => rfl
  | x :: l, y :: m, hx, hy => by
    simp only [plains, Bool.and_eq_true] at hx hy
    simp only [toPys, PyData.eqvAll, deqs]
    rw [eqv_toPy x y hx.1 hy.1, eqvs_toPy l m hx.2 hy.2]
end
mutual
theorem lay_toPy : ∀ x : D, plain x = true → (toPy x).canLay0 = true
  | .non, _ => rfl
  | .bl _, _ => rfl
  | .int _, _ => rfl
  | .str x, h => by
    have h : x.cps.all (· < 0x110000) = true := by simpa [plain] using h
    simpa [toPy, PyData.canLay0, PyData.strOk] using h
  | .lst l, h => by simp only [toPy, PyData.canLay0]; exact lays_toPy l (by simpa [plain] using h)
  | .tup l, h => by simp only [toPy, PyData.canLay0]; exact lays_toPy l (by simpa [plain] using h)
  | .dic _ _, h => by simp [plain] at h
  | .ins _ _ _, h => by simp [plain] at h
  | .pen, h => by simp [plain] at h
  | .ty _, h => by simp [plain] at h
  | .adr _, h => by simp [plain] at h
  | .rp _, h => by simp [plain] at h
  | .scr _, h => by simp [plain] at h
theorem lays_toPy : ∀ x : List D, plains x = true → PyData.canLayAll0 (toPys x) = true
  | [], _ => rfl
  | x :: l, h => by
    simp only [plains, Bool.and_eq_true] at h
    simp only [toPys, PyData.canLayAll0, Bool.and_eq_true]
    exact ⟨lay_toPy x h.1, lays_toPy l h.2⟩
end
mutual
theorem dep_toPy : ∀ x : D, plain x = true → (toPy x).depth = deep x
  | .non, _ => rfl
  | .bl _, _ => rfl
  | .int _, _ => rfl
  | .str x, h => rfl
  | .lst l, h => by simp only [toPy, PyData.depth, deep]; rw [deps_toPy l (by simpa [plain] using h)]
  | .tup l, h => by simp only [toPy, PyData.depth, deep]; rw [deps_toPy l (by simpa [plain] using h)]
  | .dic _ _, h => by simp [plain] at h
  | .ins _ _ _, h => by simp [plain] at h
  | .pen, h => by simp [plain] at h
  | .ty _, h => by simp [plain] at h
  | .adr _, h => by simp [plain] at h
  | .rp _, h => by simp [plain] at h
  | .scr _, h => by simp [plain] at h
theorem deps_toPy : ∀ x : List D, plains x = true → PyData.depthAll (toPys x) = deeps x
  | [], _ => rfl
  | x :: l, h => by
    simp only [plains, Bool.and_eq_true] at h
    simp only [toPys, PyData.depthAll, deeps]
    rw [dep_toPy x h.1, deps_toPy l h.2]
end
theorem shaped_toPy {x : D} (h : plain x = true) (d : deep x ≤ 60) : SeqAt.shaped (toPy x) = true := by
  unfold SeqAt.shaped
  rw [lay_toPy x h, dep_toPy x h, decide_eq_true (by omega)]
  rfl
mutual
theorem dp_of {F : Hp} {pa : Option Addr} {H : Hp} (g : ∀ a o, F a = some o → H a = some o) : ∀ (x : D) (v : V), RelD K F pa x v → plain x = true → Dp K H v (toPy x)
  | .non, v, r, _ => by unfold RelD at r; subst r; exact .non
  | .bl b, v, r, _ => by unfold RelD at r; subst r; exact .bl b
  | .int i, v, r, _ => by unfold RelD at r; subst r; exact .int i
  | .str x, v, r, _ => by unfold RelD at r; subst r; exact .str x
  | .lst l, v, r, h => by
    unfold RelD at r
    obtain ⟨a, vs, rfl, e, q⟩ := r
    exact .lst (SqL.of (g _ _ e)) (dps_of g l vs q (by simpa [plain] using h))
  | .tup l, v, r, h => by
    unfold RelD at r
    obtain ⟨a, vs, rfl, e, q⟩ := r
    exact .tup (SqT.of (g _ _ e)) (dps_of g l vs q (by simpa [plain] using h))
  | .dic _ _, _, _, h => by simp [plain] at h
  | .ins _ _ _, _, _, h => by simp [plain] at h
  | .pen, _, _, h => by simp [plain] at h
  | .ty _, _, _, h => by simp [plain] at h
  | .adr _, _, _, h => by simp [plain] at h
  | .rp _, _, _, h => by simp [plain] at h
  | .scr _, _, _, h => by simp [plain] at h
theorem dps_of {F : Hp} {pa : Option Addr} {H : Hp} (g : ∀ a o, F a = some o → H a = some o) : ∀ (x : List D) (vs : List V), RelL K F pa x vs → plains x = true → DpAll K H vs (toPys x)
  | [], vs, r, _ => by rw [r.inv0]; exact .nil
  | x :: l, vs, r, h => by
    obtain ⟨v, vr, rfl, r1, r2⟩ := r.inv
    simp only [plains, Bool.and_eq_true] at h
    exact .cons (dp_of g x v r1 h.1) (dps_of g l vr r2 h.2)
end
theorem dp_x {F : Hp} {pa : Option Addr} {t : Ts} {env : En} {σ : L2.St} {H : Hp} {x : D} {v : V} (W : Cf K B F pa t env σ H) (r : RelX K F pa env σ x v) (h : plain x = true) : Dp K H v (toPy x) := by
  rcases r with r | ⟨i, h1, h2⟩
  · exact dp_of W.sub x v r h
  · cases x with
    | lst l =>
      obtain ⟨a, vs, rfl, e, q⟩ := RelX.lst W (.inr ⟨i, h1, h2⟩)
      exact .lst (SqL.of e) (dps_of W.sub l vs q (by simpa [plain] using h))
    | dic _ _ => simp [plain] at h
    | ins _ _ _ => simp [plain] at h
    | _ => obtain ⟨a, hh, s1, q, z, _⟩ := W.own i _ h1; exact z.elim
theorem oEq_int {x y : D} {P : D → Prop} (h : oEq x y P) : (∃ i j, x = .int i ∧ y = .int j ∧ P (.bl (decide (i = j)))) ∨ ((plain x = true ∧ plain y = true ∧ deep x ≤ 60 ∧ deep y ≤ 60) ∧ P (.bl (deq x y))) := by
  unfold oEq at h
  split at h
  · exact .inl ⟨_, _, rfl, rfl, h⟩
  · exact .inr h
theorem oNe_int {x y : D} {P : D → Prop} (h : oNe x y P) : (∃ i j, x = .int i ∧ y = .int j ∧ P (.bl (!decide (i = j)))) ∨ ((plain x = true ∧ plain y = true ∧ deep x ≤ 60 ∧ deep y ≤ 60) ∧ P (.bl (!deq x y))) := by
  unfold oNe at h
  split at h
  · exact .inl ⟨_, _, rfl, rfl, h⟩
  · exact .inr h
theorem rop_eq : ROp K (rEqD K) oEq := fun B F pa t env σ H x y v u P Q W rx ry h k => by
  rcases oEq_int h with ⟨i, j, rfl, rfl, p⟩ | ⟨⟨h1, h2, h3, h4⟩, p⟩
  · refine ⟨.int i, .int j, by rw [rx.int W]; exact .int i, by rw [ry.int W]; exact .int j, rfl, rfl, ?_⟩
    refine k _ (.bl (decide (i = j))) F H (Gr.refl _ _) W ?_ p
    rw [show PyData.eqv (.int i) (.int j) = decide (i = j) by simp [PyData.eqv, Bool.beq_eq_decide_eq]]
    exact rD_bl _
  · refine ⟨toPy x, toPy y, dp_x W rx h1, dp_x W ry h2, shaped_toPy h1 h3, shaped_toPy h2 h4, ?_⟩
    rw [eqv_toPy x y h1 h2]
    exact k _ _ F H (Gr.refl _ _) W (rD_bl _) p
theorem rop_ne : ROp K (rNeD K) oNe := fun B F pa t env σ H x y v u P Q W rx ry h k => by
  rcases oNe_int h with ⟨i, j, rfl, rfl, p⟩ | ⟨⟨h1, h2, h3, h4⟩, p⟩
  · refine ⟨.int i, .int j, by rw [rx.int W]; exact .int i, by rw [ry.int W]; exact .int j, rfl, rfl, ?_⟩
    refine k _ (.bl (!decide (i = j))) F H (Gr.refl _ _) W ?_ p
    rw [show PyData.eqv (.int i) (.int j) = decide (i = j) by simp [PyData.eqv, Bool.beq_eq_decide_eq]]
    exact rD_bl _
  · refine ⟨toPy x, toPy y, dp_x W rx h1, dp_x W ry h2, shaped_toPy h1 h3, shaped_toPy h2 h4, ?_⟩
    rw [eqv_toPy x y h1 h2]
    exact k _ _ F H (Gr.refl _ _) W (rD_bl _) p
/-! ### an item by its place -/
theorem atI_rel {F : Hp} {pa : Option Addr} {l : List D} {vs : List V} {i : Int} {d : D} (r : RelL K F pa l vs) (h : Q.atI l i = some d) : ∃ v, L2.atI vs i = some v ∧ RelD K F pa d v := by
  unfold Q.atI at h
  unfold L2.atI L2.ixN
  rw [r.len]
  split at h
  · rename_i h0
    split at h
    · rename_i h1
      obtain ⟨v, q, z⟩ := r.get h
      refine ⟨v, ?_, z⟩
      rw [if_pos h0, if_pos h1]
      exact q
    · cases h
  · rename_i h0
    split at h
    · rename_i h1
      obtain ⟨v, q, z⟩ := r.get h
      refine ⟨v, ?_, z⟩
      rw [if_neg h0, if_pos h1]
      exact q
    · cases h
theorem rop_ix : ROp K (rIx K) oIx := fun B F pa t env σ H x y v u P Q W rx ry h k => by
  cases x with
  | lst l =>
    cases y with
    | int i =>
      obtain ⟨d, hd, p⟩ := h
      obtain ⟨a, vs, rfl, e1, r1⟩ := rx.lst W
      obtain ⟨w, hw, rw'⟩ := atI_rel r1 hd
      exact .inl ⟨a, vs, i, w, rfl, ry.int W, SqL.of e1, hw, k _ _ F H (Gr.refl _ _) W rw' p⟩
    | _ => exact h.elim
  | tup l =>
    cases y with
    | int i =>
      obtain ⟨d, hd, p⟩ := h
      obtain ⟨a, vs, rfl, e1, _, r1⟩ := rx.tup W
      obtain ⟨w, hw, rw'⟩ := atI_rel r1 hd
      exact .inr (.inl ⟨a, vs, i, w, rfl, ry.int W, SqT.of e1, hw, k _ _ F H (Gr.refl _ _) W rw' p⟩)
    | _ => exact h.elim
  | _ => exact h.elim
theorem q_ix (ha : QV X B a da) (hb : QV X B b db) (hs : PlainIx b) : QE X B (.Subscript a b pos) (dOp oIx da db) := PE.imp (pe_ix ix_seq ha hb hs) (ev2 rop_ix)
end
end Q

/-! QH3 -/
namespace Q
open PySem L2 PyProof.Rows
section
variable {X : Cx} {B : Bs} {K : PySem.W.Frag} {a b c e : Expr} {es : List Expr} {pos : Pos} {da db dc : DE} {as : DA}
/-! ### arguments -/
theorem q_anil : QA X B [] dNil := PA.imp pa_nil fun σ H Q ⟨F, pa, t, env, P, C, hd, k⟩ => k [] [] F pa t H (Gr.refl _ _) C RelL.nil hd
theorem q_acons {r : DA} (ha : QE X B e da) (hr : QA X B es r) (hs : starEach (e :: es) X.env = (false, eval e X.env) :: starEach es X.env := by rfl) : QA X B (e :: es) (dCons da r) := PA.imp (pa_cons ha hr hs) fun σ H Q ⟨F, pa, t, env, P, C, hd, k⟩ =>
  ⟨F, pa, t, env, _, C, hd, fun v d F1 pa1 t1 H1 g1 C1 r1 q1 => ⟨F1, pa1, t1, env, _, C1, q1, fun vs ds F2 pa2 t2 H2 g2 C2 r2 q2 => k _ _ F2 pa2 t2 H2 (g1.trans g2) C2 (.cons (RelD.mono g2 d v r1) r2) q2⟩⟩
theorem q_xnil : QX X B [] dNil := PA.imp pa_nil fun σ H Q ⟨F, pa, t, env, P, C, hd, k⟩ => k [] [] F pa t H (Gr.refl _ _) C .nil hd
theorem q_xcons {r : DA} (ha : QV X B e da) (hr : QX X B es r) (hs : starEach (e :: es) X.env = (false, eval e X.env) :: starEach es X.env := by rfl) : QX X B (e :: es) (dCons da r) := PA.imp (pa_cons ha hr hs) fun σ H Q ⟨F, pa, t, env, P, C, hd, k⟩ =>
  ⟨F, pa, t, env, _, C, hd, fun v d F1 pa1 t1 H1 g1 C1 r1 q1 => ⟨F1, pa1, t1, env, _, C1, q1, fun vs ds F2 pa2 t2 H2 g2 C2 r2 q2 => k _ _ F2 pa2 t2 H2 (g1.trans g2) C2 (.cons (r1.mono g2) r2) q2⟩⟩
theorem q_lst (h : QA X B es as) : QN X B (.List es pos) (dLst as) := PE.imp (pe_lst h) fun σ H Q ⟨F, pa, t, env, P, C, hd, k⟩ => ⟨F, pa, t, env, _, C, hd, fun vs ds F' pa' t' H' g C' r q => by
  obtain ⟨hl, q⟩ := few_of q
  refine ⟨by rw [r.len]; exact hl, fun p hp => ?_⟩
  exact k p _ (.lst ds) F' pa' t' _ g (C'.loose _ hp) (C'.nw hp) upd_same ⟨vs, rfl, r⟩ q⟩
theorem q_tup {x1} (h : QA X B es as) : QE X B (.Tuple es x1 pos) (dTup as) := PE.imp (pe_tup h) fun σ H Q ⟨F, pa, t, env, P, C, hd, k⟩ => ⟨F, pa, t, env, _, C, hd, fun vs ds F' pa' t' H' g C' r q => by
  obtain ⟨hl, q⟩ := few_of q
  refine ⟨by rw [r.len]; exact hl, fun p hp => ?_⟩
  obtain ⟨F2, g2, C2, rd⟩ := new_tup C' hp r
  exact k _ _ F2 pa' t' _ (g.trans g2) C2 rd q⟩
/-! ### built-in functions -/
def RCall (K : PySem.W.Frag) (r : List V → Hp → VK → Prop) (o : DB) : Prop := ∀ (B : Bs) F pa t env σ H xs vs P (Q : VK), Cf K B F pa t env σ H → RelXs K F pa env σ xs vs → o xs P →
  (∀ w d F' H', Gr F pa F' pa → Cf K B F' pa t env σ H' → RelD K F' pa d w → P d → Q w H') → r vs H Q
/-- a new list comes -/
def RCallN (K : PySem.W.Frag) (r : List V → Hp → VK → Prop) (o : DB) : Prop := ∀ (B : Bs) F pa t env σ H xs vs P (Q : VK), Cf K B F pa t env σ H → RelXs K F pa env σ xs vs → o xs P →
  (∀ p h d F' H', Gr F pa F' pa → Cf K B F' pa t env σ H' → Nw B F' pa env σ p → H' p = some h → RelO1 K F' pa d h → P d → Q (.ref p) H') → r vs H Q
theorem ev_cb {r : List V → Hp → VK → Prop} {o : DB} (hr : RCall K r o) : ∀ σ H Q, teOf K B (dCB o as) σ H Q → tCB r (txOf K B as) σ H Q := fun σ H Q ⟨F, pa, t, env, P, C, hd, k⟩ =>
  ⟨F, pa, t, env, _, C, hd, fun vs ds F1 pa1 t1 H1 g1 C1 r1 q1 => hr B F1 pa1 t1 env σ H1 ds vs _ Q C1 r1 q1 fun w d F' H' g3 C3 r3 q3 => k w d F' pa1 t1 H' (g1.trans g3) C3 r3 q3⟩
theorem ev_cbN {r : List V → Hp → VK → Prop} {o : DB} (hr : RCallN K r o) : ∀ σ H Q, tnOf K B (dCB o as) σ H Q → tCB r (txOf K B as) σ H Q := fun σ H Q ⟨F, pa, t, env, P, C, hd, k⟩ =>
  ⟨F, pa, t, env, _, C, hd, fun vs ds F1 pa1 t1 H1 g1 C1 r1 q1 => hr B F1 pa1 t1 env σ H1 ds vs _ Q C1 r1 q1 fun p h d F' H' g3 C3 n3 e3 r3 q3 => k p h d F' pa1 t1 H' (g1.trans g3) C3 n3 e3 r3 q3⟩
section
variable {x : Str} {p : Pos} {id T : String} {r : List V → Hp → VK → Prop} {o : DB}
theorem q_callB (hc : CallR X (.builtin id) r) (hr : RCall X.K r o) (hg : Gl X x) (hm : X.mg x = none) (hv : bootBuiltins x = some (.builtin id)) (ha : QX X B (e :: es) as) (hn : x ≠ "__name__" := by decide) (hdb : (x == ("__debug__" : Str)) = false := by decide)
    (he : starEach (e :: es) X.env = (false, eval e X.env) :: starEach es X.env := by rfl) (hpl : (backTo pos (starEach es X.env)).any (·.1) = false := by rfl) : QE X B (.Call (.Name x p) (e :: es) [] pos) (dCB o as) := PE.imp (pe_callB hc hg hm hv ha hn hdb he hpl) (ev_cb hr)
theorem q_callBN (hc : CallR X (.builtin id) r) (hr : RCallN X.K r o) (hg : Gl X x) (hm : X.mg x = none) (hv : bootBuiltins x = some (.builtin id)) (ha : QX X B (e :: es) as) (hn : x ≠ "__name__" := by decide) (hdb : (x == ("__debug__" : Str)) = false := by decide)
    (he : starEach (e :: es) X.env = (false, eval e X.env) :: starEach es X.env := by rfl) (hpl : (backTo pos (starEach es X.env)).any (·.1) = false := by rfl) : QN X B (.Call (.Name x p) (e :: es) [] pos) (dCB o as) := PE.imp (pe_callB hc hg hm hv ha hn hdb he hpl) (ev_cbN hr)
theorem q_callTy (hc : CallR X (.type T) r) (hr : RCall X.K r o) (hg : Gl X x) (hm : X.mg x = none) (hv : bootBuiltins x = some (.type T)) (ha : QX X B (e :: es) as) (hn : x ≠ "__name__" := by decide) (hdb : (x == ("__debug__" : Str)) = false := by decide)
    (he : starEach (e :: es) X.env = (false, eval e X.env) :: starEach es X.env := by rfl) (hpl : (backTo pos (starEach es X.env)).any (·.1) = false := by rfl) : QE X B (.Call (.Name x p) (e :: es) [] pos) (dCB o as) := PE.imp (pe_callTy hc hg hm hv ha hn hdb he hpl) (ev_cb hr)
theorem q_callTyN (hc : CallR X (.type T) r) (hr : RCallN X.K r o) (hg : Gl X x) (hm : X.mg x = none) (hv : bootBuiltins x = some (.type T)) (ha : QX X B (e :: es) as) (hn : x ≠ "__name__" := by decide) (hdb : (x == ("__debug__" : Str)) = false := by decide)
    (he : starEach (e :: es) X.env = (false, eval e X.env) :: starEach es X.env := by rfl) (hpl : (backTo pos (starEach es X.env)).any (·.1) = false := by rfl) : QN X B (.Call (.Name x p) (e :: es) [] pos) (dCB o as) := PE.imp (pe_callTy hc hg hm hv ha hn hdb he hpl) (ev_cbN hr)
end
theorem RelXs.one {F : Hp} {pa : Option Addr} {env : En} {σ : L2.St} {d : D} {vs : List V} (r : RelXs K F pa env σ [d] vs) : ∃ v, vs = [v] ∧ RelX K F pa env σ d v := by
  cases r with
  | cons h q => cases q; exact ⟨_, rfl, h⟩
theorem RelXs.two {F : Hp} {pa : Option Addr} {env : En} {σ : L2.St} {d d' : D} {vs : List V} (r : RelXs K F pa env σ [d, d'] vs) : ∃ v v', vs = [v, v'] ∧ RelX K F pa env σ d v ∧ RelX K F pa env σ d' v' := by
  cases r with
  | cons h q => cases q with
    | cons h' q => cases q; exact ⟨_, _, rfl, h, h'⟩
def rLen3 (K : PySem.W.Frag) : List V → Hp → VK → Prop := fun xs H Q => (∃ p ys, xs = [.ref p] ∧ (SqL K H p ys ∨ SqT K H p ys) ∧ Q (.int ys.length) H) ∨ ∃ z, xs = [.str z] ∧ z.length ≤ sizeLine ∧ Q (.int z.length) H
theorem call_len3 : CallR X (.builtin "len") (rLen3 X.K) := call_len_seq.or call_len_str
theorem rc_len : RCall K (rLen3 K) bLen := fun B F pa t env σ H xs vs P Q W r h k => by
  unfold bLen at h
  split at h
  · obtain ⟨v, rfl, r1⟩ := r.one
    obtain ⟨a, us, rfl, e, q⟩ := r1.lst W
    exact .inl ⟨a, us, rfl, .inl (SqL.of e), k _ _ F H (Gr.refl _ _) W (by rw [q.len]; exact rD_int _) h⟩
  · obtain ⟨v, rfl, r1⟩ := r.one
    obtain ⟨a, us, rfl, e, _, q⟩ := r1.tup W
    exact .inl ⟨a, us, rfl, .inr (SqT.of e), k _ _ F H (Gr.refl _ _) W (by rw [q.len]; exact rD_int _) h⟩
  · obtain ⟨v, rfl, r1⟩ := r.one
    obtain ⟨a, rfl, q⟩ := r1.scr W
    exact .inl ⟨a, _, rfl, .inl q, k _ _ F H (Gr.refl _ _) W (by rw [List.length_map]; exact rD_int _) h⟩
  · obtain ⟨v, rfl, r1⟩ := r.one
    exact .inr ⟨_, by rw [r1.str W], zle h.1, k _ _ F H (Gr.refl _ _) W (rD_int _) h.2⟩
  · exact h.elim
def rAbs : List V → Hp → VK → Prop := fun xs H Q => ∃ i, xs = [.int i] ∧ Q (.int (if i < 0 then -i else i)) H
theorem rc_abs : RCall K rAbs bAbs := fun B F pa t env σ H xs vs P Q W r h k => by
  unfold bAbs at h
  split at h
  · obtain ⟨v, rfl, r1⟩ := r.one
    exact ⟨_, by rw [r1.int W], k _ _ F H (Gr.refl _ _) W (rD_int _) h⟩
  · exact h.elim
def rMax2 (K : PySem.W.Frag) : List V → Hp → VK → Prop := fun xs H Q => (∃ i j, xs = [.int i, .int j] ∧ Q (.int (if j > i then j else i)) H) ∨ rMax K xs H Q
theorem call_max3 (hc : X.calm = true) : CallR X (.builtin "max") (rMax2 X.K) := (call_max2 hc).or (cr_max hc)
theorem rc_max : RCall K (rMax2 K) bMax := fun B F pa t env σ H xs vs P Q W r h k => by
  unfold bMax at h
  split at h
  · obtain ⟨v, v', rfl, r1, r2⟩ := r.two
    exact .inl ⟨_, _, by rw [r1.int W, r2.int W], k _ _ F H (Gr.refl _ _) W (rD_int _) h⟩
  · obtain ⟨v, rfl, r1⟩ := r.one
    obtain ⟨ns, hn, h0, hp⟩ := h
    obtain ⟨a, us, rfl, e, q⟩ := r1.lst W
    rw [q.intsD hn] at e
    exact .inr ⟨a, ns, rfl, SqL.of e, h0, fun m h1 h2 => k _ _ F H (Gr.refl _ _) W (rD_int _) (hp m h1 h2)⟩
  · exact h.elim
def rMin2 (K : PySem.W.Frag) : List V → Hp → VK → Prop := fun xs H Q => (∃ i j, xs = [.int i, .int j] ∧ Q (.int (if j < i then j else i)) H) ∨ rMin K xs H Q
theorem call_min3 (hc : X.calm = true) : CallR X (.builtin "min") (rMin2 X.K) := (call_min2 hc).or (cr_min hc)
theorem rc_min : RCall K (rMin2 K) bMin := fun B F pa t env σ H xs vs P Q W r h k => by
  unfold bMin at h
  split at h
  · obtain ⟨v, v', rfl, r1, r2⟩ := r.two
    exact .inl ⟨_, _, by rw [r1.int W, r2.int W], k _ _ F H (Gr.refl _ _) W (rD_int _) h⟩
  · obtain ⟨v, rfl, r1⟩ := r.one
    obtain ⟨ns, hn, h0, hp⟩ := h
    obtain ⟨a, us, rfl, e, q⟩ := r1.lst W
    rw [q.intsD hn] at e
    exact .inr ⟨a, ns, rfl, SqL.of e, h0, fun m h1 h2 => k _ _ F H (Gr.refl _ _) W (rD_int _) (hp m h1 h2)⟩
  · exact h.elim
theorem rc_sum : RCall K (rSum K) bSum := fun B F pa t env σ H xs vs P Q W r h k => by
  unfold bSum at h
  split at h
  · obtain ⟨v, rfl, r1⟩ := r.one
    obtain ⟨ns, hn, hp⟩ := h
    obtain ⟨a, us, rfl, e, q⟩ := r1.lst W
    rw [q.intsD hn] at e
    exact ⟨a, ns, rfl, SqL.of e, k _ _ F H (Gr.refl _ _) W (rD_int _) hp⟩
  · exact h.elim
theorem rc_all : RCall K (rAll K) bAll := fun B F pa t env σ H xs vs P Q W r h k => by
  unfold bAll at h
  split at h
  · obtain ⟨v, rfl, r1⟩ := r.one
    obtain ⟨ns, hn, hp⟩ := h
    obtain ⟨a, us, rfl, e, q⟩ := r1.lst W
    rw [q.bls hn] at e
    exact ⟨a, ns, rfl, SqL.of e, k _ _ F H (Gr.refl _ _) W (rD_bl _) hp⟩
  · exact h.elim
def rDivmod : List V → Hp → VK → Prop := fun xs H Q => ∃ i j, xs = [.int i, .int j] ∧ CDiv i j ∧ ∀ p, H p = none → Q (.ref p) (upd H p (.tup [.int (i / j), .int (i % j)]))
theorem rc_divmod : RCall K rDivmod bDivmod := fun B F pa t env σ H xs vs P Q W r h k => by
  unfold bDivmod at h
  split at h
  · obtain ⟨v, v', rfl, r1, r2⟩ := r.two
    refine ⟨_, _, by rw [r1.int W, r2.int W], h.1, fun p hp => ?_⟩
    obtain ⟨F', g, C', rd⟩ := new_tup W hp (RelL.cons (rD_int _) (RelL.cons (rD_int _) RelL.nil))
    exact k _ _ F' _ g C' rd h.2
  · exact h.elim
def rListOf (K : PySem.W.Frag) : List V → Hp → VK → Prop := fun xs H Q => ∃ p ys, xs = [.ref p] ∧ (SqL K H p ys ∨ SqT K H p ys) ∧ ∀ l, H l = none → Q (.ref l) (upd H l (.lst ys))
theorem rc_list : RCallN K (rListOf K) bList := fun B F pa t env σ H xs vs P Q W r h k => by
  unfold bList at h
  split at h
  · obtain ⟨v, rfl, r1⟩ := r.one
    obtain ⟨a, us, rfl, e, q⟩ := r1.lst W
    exact ⟨a, us, rfl, .inl (SqL.of e), fun p hp => k p _ (.lst _) F _ (Gr.refl _ _) (W.loose _ hp) (W.nw hp) upd_same ⟨us, rfl, q⟩ h⟩
  · obtain ⟨v, rfl, r1⟩ := r.one
    obtain ⟨a, us, rfl, e, _, q⟩ := r1.tup W
    exact ⟨a, us, rfl, .inr (SqT.of e), fun p hp => k p _ (.lst _) F _ (Gr.refl _ _) (W.loose _ hp) (W.nw hp) upd_same ⟨us, rfl, q⟩ h⟩
  · exact h.elim
def rTupOf (K : PySem.W.Frag) : List V → Hp → VK → Prop := fun xs H Q => ∃ p ys, xs = [.ref p] ∧ ((SqL K H p ys ∧ ∀ l, H l = none → Q (.ref l) (upd H l (.tup ys))) ∨ (SqT K H p ys ∧ Q (.ref p) H))
theorem rc_tuple : RCall K (rTupOf K) bTuple := fun B F pa t env σ H xs vs P Q W r h k => by
  unfold bTuple at h
  split at h
  · obtain ⟨v, rfl, r1⟩ := r.one
    obtain ⟨a, us, rfl, e, q⟩ := r1.lst W
    refine ⟨a, us, rfl, .inl ⟨SqL.of e, fun p hp => ?_⟩⟩
    obtain ⟨F', g, C', rd⟩ := new_tup W hp q
    exact k _ _ F' _ g C' rd h
  · obtain ⟨v, rfl, r1⟩ := r.one
    obtain ⟨a, us, rfl, e, f, q⟩ := r1.tup W
    refine ⟨a, us, rfl, .inr ⟨SqT.of e, k _ (.tup _) F H (Gr.refl _ _) W ?_ h⟩⟩
    unfold RelD
    exact ⟨a, us, rfl, f, q⟩
  · exact h.elim
/-! ### slices -/
theorem q_onone : QO X B none dNoPart := PO.imp po_none fun σ H Q ⟨F, pa, t, env, P, C, hd, k⟩ => k none F pa t H (Gr.refl _ _) C hd
theorem q_osome (h : QV X B e da) : QO X B (some e) (dPart da) := PO.imp (po_some h) fun σ H Q ⟨F, pa, t, env, P, C, hd, k⟩ => ⟨F, pa, t, env, _, C, hd, fun v d F' pa' t' H' g C' r q => by
  cases d with
  | int i =>
    have q : P (some i) t' := q
    exact ⟨i, r.int C', k _ F' pa' t' H' g C' q⟩
  | _ => exact q.elim⟩
theorem sIx_eq (n d : Nat) : ∀ o : Option Int, HT.sIx n d o = Q.sIx n d o
  | none => rfl
  | some i => by simp only [HT.sIx, Q.sIx]; split <;> first | rfl | (congr 1; omega)
theorem cut_rel {F : Hp} {pa : Option Addr} {l : List D} {vs : List V} (r : RelL K F pa l vs) (lo hi : Option Int) : RelL K F pa (cutD l lo hi) (cutV vs lo hi) := by
  unfold cutD cutV
  rw [r.len, sIx_eq, sIx_eq]
  exact (r.drop _).take _
def rSl2 (K : PySem.W.Frag) : V → Option Int → Option Int → Hp → VK → Prop := fun x l h H Q => rSlL K x l h H Q ∨ rSlT K x l h H Q
theorem sl2 : SlR X (rSl2 X.K) := sl_list.or sl_tup
theorem q_slice {lo hi : Option Expr} {dl dh : DO} {p2 : Pos} (ha : QV X B a da) (hl : QO X B lo dl) (hh : QO X B hi dh) : QE X B (.Subscript a (.Slice lo hi none p2) pos) (dSlice da dl dh) := PE.imp (pe_slice sl2 ha hl hh) fun σ H Q ⟨F, pa, t, env, P, C, hd, k⟩ =>
  ⟨F, pa, t, env, _, C, hd, fun v x F1 pa1 t1 H1 g1 C1 r1 q1 => ⟨F1, pa1, t1, env, _, C1, q1, fun l F2 pa2 t2 H2 g2 C2 q2 => ⟨F2, pa2, t2, env, _, C2, q2, fun h F3 pa3 t3 H3 g3 C3 q3 => by
    have r3 := (r1.mono g2).mono g3
    cases x with
    | lst xs =>
      obtain ⟨a, us, rfl, e, q⟩ := r3.lst C3
      refine .inl ⟨a, us, rfl, SqL.of e, fun p hp => ?_⟩
      obtain ⟨F', g, C', rd⟩ := new_lst C3 hp (cut_rel q l h)
      exact k _ _ F' _ _ _ (((g1.trans g2).trans g3).trans g) C' rd q3
    | tup xs =>
      obtain ⟨a, us, rfl, e, f, q⟩ := r3.tup C3
      obtain ⟨hz, q3⟩ := q3
      have rr := cut_rel q l h
      refine .inr ⟨a, us, rfl, SqT.of e, ?_, fun p hp => ?_⟩
      · rw [q.len, sIx_eq, sIx_eq]
        rintro ⟨z1, z2⟩
        unfold cutD at hz
        rw [z1, z2] at hz
        simp at hz
      · obtain ⟨F', g, C', rd⟩ := new_tup C3 hp rr
        exact k _ _ F' _ _ _ (((g1.trans g2).trans g3).trans g) C' rd q3
    | scr ns =>
      obtain ⟨a, rfl, q⟩ := r3.scr C3
      refine .inl ⟨a, _, rfl, q, fun p hp => ?_⟩
      obtain ⟨F', g, C', rd⟩ := new_lst C3 hp (cut_rel (RelL.of_ints ns) l h)
      exact k _ _ F' _ _ _ (((g1.trans g2).trans g3).trans g) C' rd q3
    | _ => exact q3.elim⟩⟩⟩
theorem q_rev {k : Nat} {p1 p2 p3 pos : Pos} (ha : QV X B a da) : QN X B (.Subscript a (.Slice none none (some (.UnaryOp .USub (.Constant (.int 1) k p1) p2)) p3) pos) (dRev da) := PE.imp (pe_revL ha) fun σ H Q ⟨F, pa, t, env, P, C, hd, k⟩ =>
  ⟨F, pa, t, env, _, C, hd, fun v x F1 pa1 t1 H1 g1 C1 r1 q1 => by
    cases x with
    | lst xs =>
      obtain ⟨a, us, rfl, e, q⟩ := r1.lst C1
      exact ⟨a, us, rfl, SqL.of e, fun p hp => k p _ (.lst _) F1 pa1 t1 _ g1 (C1.loose _ hp) (C1.nw hp) upd_same ⟨_, rfl, q.reverse⟩ q1⟩
    | _ => exact q1.elim⟩
/-! ### tests -/
theorem q_tval (h : QE X B e da) (he : ∀ whole, isTrue e X.env whole = (do let v ← whole; standAt e.pos; holding [v] (truthy v)) := by intro _; rfl) : QT X B e (dB da) := PT.imp (pt_val h he) fun σ H Q ⟨F, pa, t, env, P, C, hd, k⟩ => ⟨F, pa, t, env, _, C, hd, fun v d F' pa' t' H' g C' r q => by
  cases d with
  | bl b => unfold RelD at r; exact ⟨b, r, k b F' pa' t' H' g C' q⟩
  | _ => exact q.elim⟩
variable {ta tb : DT} {rest : List Expr}
theorem br_if {k : Bool} {p q : Prop} (h : Br k p q) : if k = true then p else q := by
  cases k with
  | true => rw [if_pos rfl]; exact h
  | false => rw [if_neg Bool.false_ne_true]; exact h
theorem q_and1 (ha : QT X B a ta) : QW X B (.BoolOp .And [a] pos) ta := pw_and1 ha
theorem q_or1 (ha : QT X B a ta) : QW X B (.BoolOp .Or [a] pos) ta := pw_or1 ha
theorem q_and (ha : QT X B a ta) (hb : QW X B (.BoolOp .And (b :: rest) pos) tb) : QW X B (.BoolOp .And (a :: b :: rest) pos) (dAnd ta tb) := PW.imp (pw_and ha hb) fun σ H Q ⟨F, pa, t, env, P, C, hd, k⟩ =>
  ⟨F, pa, t, env, _, C, hd, fun b F' pa' t' H' g C' q => by
    cases b with
    | true => rw [if_pos rfl]; exact ⟨F', pa', t', env, _, C', q, fun c F2 pa2 t2 H2 g2 C2 q2 => k c F2 pa2 t2 H2 (g.trans g2) C2 q2⟩
    | false => rw [if_neg Bool.false_ne_true]; exact k false F' pa' t' H' g C' q⟩
theorem q_or (ha : QT X B a ta) (hb : QW X B (.BoolOp .Or (b :: rest) pos) tb) : QW X B (.BoolOp .Or (a :: b :: rest) pos) (dOr ta tb) := PW.imp (pw_or ha hb) fun σ H Q ⟨F, pa, t, env, P, C, hd, k⟩ =>
  ⟨F, pa, t, env, _, C, hd, fun b F' pa' t' H' g C' q => by
    cases b with
    | false => rw [if_neg Bool.false_ne_true]; exact ⟨F', pa', t', env, _, C', q, fun c F2 pa2 t2 H2 g2 C2 q2 => k c F2 pa2 t2 H2 (g.trans g2) C2 q2⟩
    | true => rw [if_pos rfl]; exact k true F' pa' t' H' g C' q⟩
theorem q_not (ha : QT X B a ta) : QT X B (.UnaryOp .Not a pos) (dNot ta) := PT.imp (pt_not ha) fun σ H Q ⟨F, pa, t, env, P, C, hd, k⟩ =>
  ⟨F, pa, t, env, _, C, hd, fun b F' pa' t' H' g C' q => k (!b) F' pa' t' H' g C' q⟩
theorem q_ifE (hc : QT X B c ta) (ha : QE X B a da) (hb : QE X B b db) : QE X B (.IfExp c a b pos) (dIfE ta da db) := PE.imp (pe_ifExp hc ha hb) fun σ H Q ⟨F, pa, t, env, P, C, hd, k⟩ =>
  ⟨F, pa, t, env, _, C, hd, fun b F' pa' t' H' g C' q => by
    cases b with
    | true => rw [if_pos rfl]; exact ⟨F', pa', t', env, P, C', q, fun w d F2 pa2 t2 H2 g2 C2 r2 q2 => k w d F2 pa2 t2 H2 (g.trans g2) C2 r2 q2⟩
    | false => rw [if_neg Bool.false_ne_true]; exact ⟨F', pa', t', env, P, C', q, fun w d F2 pa2 t2 H2 g2 C2 r2 q2 => k w d F2 pa2 t2 H2 (g.trans g2) C2 r2 q2⟩⟩
theorem q_one {op} (h : QE X B a da) : QE X B (.BoolOp op [a] pos) da := pe_one h
theorem q_andV (ha : QE X B a da) (hb : QE X B (.BoolOp .And (b :: rest) pos) db) : QE X B (.BoolOp .And (a :: b :: rest) pos) (dAndV da db) := PE.imp (pe_and ha hb) fun σ H Q ⟨F, pa, t, env, P, C, hd, k⟩ =>
  ⟨F, pa, t, env, _, C, hd, fun v d F' pa' t' H' g C' r q => by
    cases d with
    | bl b =>
      unfold RelD at r
      refine ⟨b, r, ?_⟩
      cases b with
      | true => rw [if_pos rfl]; exact ⟨F', pa', t', env, P, C', q, fun w d F2 pa2 t2 H2 g2 C2 r2 q2 => k w d F2 pa2 t2 H2 (g.trans g2) C2 r2 q2⟩
      | false => rw [if_neg Bool.false_ne_true]; exact k _ _ F' pa' t' H' g C' (rD_bl _) q
    | _ => exact q.elim⟩
theorem q_orV (ha : QE X B a da) (hb : QE X B (.BoolOp .Or (b :: rest) pos) db) : QE X B (.BoolOp .Or (a :: b :: rest) pos) (dOrV da db) := PE.imp (pe_or ha hb) fun σ H Q ⟨F, pa, t, env, P, C, hd, k⟩ =>
  ⟨F, pa, t, env, _, C, hd, fun v d F' pa' t' H' g C' r q => by
    cases d with
    | bl b =>
      unfold RelD at r
      refine ⟨b, r, ?_⟩
      cases b with
      | false => rw [if_neg Bool.false_ne_true]; exact ⟨F', pa', t', env, P, C', q, fun w d F2 pa2 t2 H2 g2 C2 r2 q2 => k w d F2 pa2 t2 H2 (g.trans g2) C2 r2 q2⟩
      | true => rw [if_pos rfl]; exact k _ _ F' pa' t' H' g C' (rD_bl _) q
    | _ => exact q.elim⟩
theorem q_notV (ha : QE X B a da) : QE X B (.UnaryOp .Not a pos) (dNotV da) := PE.imp (pe_not ha) fun σ H Q ⟨F, pa, t, env, P, C, hd, k⟩ =>
  ⟨F, pa, t, env, _, C, hd, fun v d F' pa' t' H' g C' r q => by
    cases d with
    | bl b =>
      unfold RelD at r
      exact ⟨b, r, k _ _ F' pa' t' H' g C' (rD_bl _) q⟩
    | _ => exact q.elim⟩
end
end Q

/-! QH4 -/
namespace Q
open PySem L2 PyProof.Rows
section
variable {X : Cx} {B : Bs} {K : PySem.W.Frag} {a b c e : Expr} {es : List Expr} {pos : Pos} {da db dc : DE} {as : DA}
/-- two comparisons -/
theorem ev_chain {r r' : R2} {o o' : DOp} (hr : ROp K r o) (hr' : ROp K r' o') : ∀ σ H Q, teOf K B (dChain o o' da db dc) σ H Q → tChain r r' (tvOf K B da) (tvOf K B db) (tvOf K B dc) σ H Q := fun σ H Q ⟨F, pa, t, env, P, C, hd, k⟩ =>
  ⟨F, pa, t, env, _, C, hd, fun v x F1 pa1 t1 H1 g1 C1 r1 q1 => ⟨F1, pa1, t1, env, _, C1, q1, fun u y F2 pa2 t2 H2 g2 C2 r2 q2 =>
    hr B F2 pa2 t2 env σ H2 x y v u _ _ C2 (r1.mono g2) r2 q2 fun z d F3 H3 g3 C3 r3 q3 => by
      cases d with
      | bl k' =>
        unfold RelD at r3
        refine ⟨k', r3, ?_⟩
        cases k' with
        | true =>
          rw [if_pos rfl]
          exact ⟨F3, pa2, t2, env, _, C3, q3, fun w dw F4 pa4 t4 H4 g4 C4 r4 q4 => hr' B F4 pa4 t4 env σ H4 y dw u w _ Q C4 ((r2.mono g3).mono g4) r4 q4 fun w d F' H' g5 C5 r5 q5 =>
            k w d F' pa4 t4 H' ((((g1.trans g2).trans g3).trans g4).trans g5) C5 r5 q5⟩
        | false =>
          rw [if_neg Bool.false_ne_true]
          exact k _ _ F3 pa2 t2 H3 ((g1.trans g2).trans g3) C3 (rD_bl _) q3
      | _ => exact q3.elim⟩⟩
theorem q_chain {op op' : CmpOp} {r r' : R2} {o o' : DOp} (ho : OpR X (compareOp op) r) (hr : ROp X.K r o) (ho' : OpR X (compareOp op') r') (hr' : ROp X.K r' o') (ha : QV X B a da) (hb : QV X B b db) (hc : QV X B c dc)
    (hm : lastMarks [op, op'] [b, c] = false := by with_unfolding_all rfl) : QE X B (.Compare a [op, op'] [b, c] pos) (dChain o o' da db dc) := PE.imp (pe_chain ho ho' ha hb hc hm) (ev_chain hr hr')
theorem q_tchain {op op' : CmpOp} {r r' : R2} {o o' : DOp} (ho : OpR X (compareOp op) r) (hr : ROp X.K r o) (ho' : OpR X (compareOp op') r') (hr' : ROp X.K r' o') (ha : QV X B a da) (hb : QV X B b db) (hc : QV X B c dc)
    (hm : lastMarks [op, op'] [b, c] = false := by with_unfolding_all rfl) : QT X B (.Compare a [op, op'] [b, c] pos) (dB (dChain o o' da db dc)) := PT.imp (pt_chain ho ho' ha hb hc hm) fun σ H Q ⟨F, pa, t, env, P, C, hd, k⟩ => by
  refine ev_chain hr hr' σ H _ ⟨F, pa, t, env, _, C, hd, fun v d F' pa' t' H' g C' rd q => ?_⟩
  cases d with
  | bl b => unfold RelD at rd; exact ⟨b, rd, k b F' pa' t' H' g C' q⟩
  | _ => exact q.elim
/-! ### fields of frozen instances, calls of defs and methods -/
theorem zip_lookup {F : Hp} {pa : Option Addr} {f : Str} : ∀ {ns : List Str} {l : List D} {vs : List V} {d : D}, RelL K F pa l vs → (ns.zip l).lookup f = some d → ∃ v, (ns.zip vs).lookup f = some v ∧ RelD K F pa d v
  | [], _, _, _, _, h => by simp at h
  | _ :: _, [], _, _, _, h => by simp at h
  | n :: ns, x :: l, vs, d, r, h => by
    obtain ⟨v, vr, rfl, r1, r2⟩ := r.inv
    simp only [List.zip_cons_cons, List.lookup_cons] at h ⊢
    cases q : f == n with
    | true =>
      rw [q] at h; cases h
      exact ⟨v, rfl, r1⟩
    | false =>
      rw [q] at h
      exact zip_lookup r2 h
theorem zip_none {f : Str} : ∀ {ns : List Str} {vs : List V}, ns.contains f = false → (ns.zip vs).lookup f = none
  | [], _, _ => by simp
  | _ :: _, [], _ => by simp
  | n :: ns, v :: vs, h => by
    simp only [List.contains_cons, Bool.or_eq_false_iff] at h
    simp only [List.zip_cons_cons, List.lookup_cons, h.1]
    exact zip_none h.2
/-- a field of an instance of a class of the text -/
theorem q_fld {f : Str} {Cl : Addr} (ha : QV X B e da) (cl : Cls X.K Cl) (na : NoAttr X.K Cl f) (hb : attributeBase e f X.env (eval e X.env) = eval e X.env := by rfl) : QE X B (.Attribute e f pos) (dFld Cl f da) := PE.imp (pe_fld ha hb) fun σ H Q ⟨F, pa, t, env, P, C, hd, k⟩ =>
  ⟨F, pa, t, env, _, C, hd, fun v x F1 pa1 t1 H1 g1 C1 r1 q1 => by
    cases x with
    | ins C' ns l =>
      obtain ⟨rfl, q1⟩ := q1
      obtain ⟨a, dx, us, rfl, e1, _, r⟩ := r1.ins C1
      cases z : (ns.zip l).lookup f with
      | none => rw [z] at q1; exact q1.elim
      | some d =>
        rw [z] at q1
        obtain ⟨w, h1, h2⟩ := zip_lookup r z
        exact ⟨a, C', dx, _, w, rfl, e1, cl, na, h1, k w d F1 pa1 t1 H1 g1 C1 h2 q1⟩
    | _ => exact q1.elim⟩
end
/-- a def's promise, at the heap -/
def lift (K : PySem.W.Frag) (sp : PSp) : Sp := fun vs H Q E => ∃ F pa t ds P, Cf K (B0 F pa H) F pa t [] [] H ∧ RelL K F pa ds vs ∧ sp ds t P ∧
  ∀ v d F' pa' t' H', Cf K (B0 F pa H) F' pa' t' [] [] H' → RelD K F' pa' d v → P d t' → Q v H'
/-- .. that gives a new list -/
def liftN (K : PySem.W.Frag) (sp : PSp) : Sp := fun vs H Q E => ∃ F pa t ds P, Cf K (B0 F pa H) F pa t [] [] H ∧ RelL K F pa ds vs ∧ sp ds t P ∧
  ∀ p h d F' pa' t' H', Cf K (B0 F pa H) F' pa' t' [] [] H' → F' p = none → H p = none → pa' ≠ some p → H' p = some h → RelO1 K F' pa' d h → P d t' → Q (.ref p) H'
section
variable {X : Cx} {B : Bs} {K : PySem.W.Frag} {a b c e o : Expr} {es : List Expr} {pos : Pos} {da db dc : DE} {as : DA} {CX : CXT} {k : Nat} {f C : Addr} {fd : FuncData} {ps : List Str} {sp : PSp} {dvs : List V} {dds : List D} {ds : List Value} {E : XK} {x m : Str} {p apos : Pos}
theorem ev_call (hd : ∀ F pa, RelL K F pa dds dvs) : ∀ σ H Q, teOf K B (dCall sp dds as) σ H Q → tCall (lift K sp) dvs E (taOf K B as) σ H Q := fun σ H Q ⟨F, pa, t, env, P, W, h, k⟩ =>
  ⟨F, pa, t, env, _, W, h, fun vs xs F1 pa1 t1 H1 g1 W1 r1 q1 => ⟨F1, pa1, t1, xs ++ dds, P, W1.call, r1.append (hd _ _), q1, fun v d F' pa' t' H' W' r' q' => by
    obtain ⟨g, W2⟩ := W1.after W'
    exact k v d F' pa' t' H' (g1.trans g) W2 r' q'⟩⟩
theorem ev_callN (hd : ∀ F pa, RelL K F pa dds dvs) : ∀ σ H Q, tnOf K B (dCall sp dds as) σ H Q → tCall (liftN K sp) dvs E (taOf K B as) σ H Q := fun σ H Q ⟨F, pa, t, env, P, W, h, k⟩ =>
  ⟨F, pa, t, env, _, W, h, fun vs xs F1 pa1 t1 H1 g1 W1 r1 q1 => ⟨F1, pa1, t1, xs ++ dds, P, W1.call, r1.append (hd _ _), q1, fun p hh d F' pa' t' H' W' n1 n2 n3 e' r' q' => by
    obtain ⟨g, W2⟩ := W1.after W'
    refine k p hh d F' pa' t' H' (g1.trans g) W2 ⟨n1, (W1.fresh n2).2.1, n3, fun j d' ej sj => ?_⟩ e' r' q'
    obtain ⟨a, u, s1, e1, _⟩ := W1.own j d' ej
    rw [sj] at s1
    cases s1
    rw [n2] at e1; cases e1⟩⟩
theorem q_call (F : FnOk X.prog X.w X.K X.mg X.base CX k f fd ps (lift X.K sp)) (hr : Room k X.A) (hg : Gl X x) (hm : X.mg x = some (.ref f)) (hk : PySem.W.keepIn X.K (.ref f) = true) (hb : Binds X.K fd ps ds) (hd : Vals dvs ds) (hD : ∀ F pa, RelL X.K F pa dds dvs) (hx : Passes CX X E)
    (ha : QA X B (e :: es) as) (hdb : (x == ("__debug__" : Str)) = false := by decide) (he : starEach (e :: es) X.env = (false, eval e X.env) :: starEach es X.env := by rfl) (hpl : (backTo pos (starEach es X.env)).any (·.1) = false := by rfl) :
    QE X B (.Call (.Name x p) (e :: es) [] pos) (dCall sp dds as) := PE.imp (pe_call F hr hg hm hk hb hd hx ha hdb he hpl) (ev_call hD)
theorem q_callN (F : FnOk X.prog X.w X.K X.mg X.base CX k f fd ps (liftN X.K sp)) (hr : Room k X.A) (hg : Gl X x) (hm : X.mg x = some (.ref f)) (hk : PySem.W.keepIn X.K (.ref f) = true) (hb : Binds X.K fd ps ds) (hd : Vals dvs ds) (hD : ∀ F pa, RelL X.K F pa dds dvs) (hx : Passes CX X E)
    (ha : QA X B (e :: es) as) (hdb : (x == ("__debug__" : Str)) = false := by decide) (he : starEach (e :: es) X.env = (false, eval e X.env) :: starEach es X.env := by rfl) (hpl : (backTo pos (starEach es X.env)).any (·.1) = false := by rfl) :
    QN X B (.Call (.Name x p) (e :: es) [] pos) (dCall sp dds as) := PE.imp (pe_call F hr hg hm hk hb hd hx ha hdb he hpl) (ev_callN hD)
/-- a method of a frozen instance -/
theorem ev_meth (hd : ∀ F pa, RelL K F pa dds dvs) : ∀ σ H Q, teOf K B (dMeth C m sp dds da as) σ H Q → tMeth C m (lift K sp) dvs E (teOf K B da) (taOf K B as) σ H Q := fun σ H Q ⟨F, pa, t, env, P, W, h, k⟩ =>
  ⟨F, pa, t, env, _, W, h, fun v x F1 pa1 t1 H1 g1 W1 r1 q1 => by
    cases x with
    | ins C' ns l =>
      obtain ⟨rfl, hn, q1⟩ := q1
      have r1' := r1
      unfold RelD at r1'
      obtain ⟨a, dx, us, rfl, e1, _, _⟩ := r1'
      refine ⟨a, dx, _, rfl, W1.sub _ _ e1, zip_none hn, F1, pa1, t1, env, _, W1, q1, fun vs xs F2 pa2 t2 H2 g2 W2 r2 q2 => ⟨F2, pa2, t2, .ins C' ns l :: (xs ++ dds), P, W2.call, RelL.cons (RelD.mono g2 _ _ r1) (r2.append (hd _ _)), q2, fun v d F' pa' t' H' W' r' q' => ?_⟩⟩
      obtain ⟨g, W3⟩ := W2.after W'
      exact k v d F' pa' t' H' ((g1.trans g2).trans g) W3 r' q'
    | _ => exact q1.elim⟩
theorem q_meth {pl : Sem Bool} (he : QE X B o da) (c : Cls X.K C) (hm : Meth X.K C m f) (F : FnOk X.prog X.w X.K X.mg X.base CX k f fd ps (lift X.K sp)) (hr : Room k X.A) (hb : Binds X.K fd ps ds) (hd : Vals dvs ds) (hD : ∀ F pa, RelL X.K F pa dds dvs) (hx : Passes CX X E) (ha : QA X B (e :: es) as)
    (hst : starEach (e :: es) X.env = (false, eval e X.env) :: starEach es X.env := by rfl) (hpl : (backTo pos (starEach es X.env)).any (·.1) = false := by rfl)
    (ht : eval (.Call (.Attribute o m apos) (e :: es) [] pos) X.env = (do
      let ov ← eval o X.env
      standAt apos.atName
      let (f, first) ← holding [ov] (getMethod ov m pl)
      callWith pos f first (backTo pos (starEach (e :: es) X.env)) (backToKw pos (keywordEach [] X.env))) := by rfl) :
    QE X B (.Call (.Attribute o m apos) (e :: es) [] pos) (dMeth C m sp dds da as) := PE.imp (pe_meth he c hm F hr hb hd hx ha hst hpl ht) (ev_meth hD)
theorem q_meth0 {pl : Sem Bool} (he : QE X B o da) (c : Cls X.K C) (hm : Meth X.K C m f) (F : FnOk X.prog X.w X.K X.mg X.base CX k f fd ps (lift X.K sp)) (hr : Room k X.A) (hb : Binds X.K fd ps ds) (hd : Vals dvs ds) (hD : ∀ F pa, RelL X.K F pa dds dvs) (hx : Passes CX X E)
    (ht : eval (.Call (.Attribute o m apos) [] [] pos) X.env = (do
      let ov ← eval o X.env
      standAt apos.atName
      let (f, first) ← holding [ov] (getMethod ov m pl)
      callWith pos f first (backTo pos (starEach [] X.env)) (backToKw pos (keywordEach [] X.env))) := by rfl) :
    QE X B (.Call (.Attribute o m apos) [] [] pos) (dMeth C m sp dds da dNil) := PE.imp (pe_meth0 he c hm F hr hb hd hx ht) fun σ H Q h => by
  obtain ⟨F, pa, t, env, P, W, h1, h2⟩ := ev_meth (E := E) hD σ H Q h
  exact ⟨F, pa, t, env, _, W, h1, fun v d F' pa' t' H' g W' r q => by
    obtain ⟨a, dx, fs, e1, e2, e3, z⟩ := h2 v d F' pa' t' H' g W' r q
    refine ⟨a, dx, fs, e1, e2, e3, ?_⟩
    obtain ⟨F2, pa2, t2, env2, P2, W2, q2, k2⟩ := z
    exact k2 [] [] F2 pa2 t2 H' (Gr.refl _ _) W2 RelL.nil q2⟩
end
end Q

/-! QH5 -/
namespace Q
open PySem L2 PyProof.Rows
section
variable {X : Cx} {B : Bs} {K : PySem.W.Frag} {a b c e : Expr} {es : List Expr} {pos : Pos} {da db dc : DE} {as : DA} {g : DG} {gs : DGs} {st : Stmt} {rest sts sts2 : List Stmt} {s1 s2 : DS} {dt : DT}
/-! ### targets -/
variable {vs : List Nat}
theorem wipe_set {σ : L2.St} {i : Nat} {x : Option V} : ∀ {vs : List Nat}, i ∈ vs → wipe (σ.set i x) vs = wipe σ vs
  | [], h => by simp at h
  | j :: r, h => by
    show (wipe (σ.set i x) r).set j none = (wipe σ r).set j none
    by_cases hr : i ∈ r
    · rw [wipe_set hr]
    · have hj : i = j := by
        rcases List.mem_cons.mp h with z | z
        · exact z
        · exact absurd z hr
      subst hj
      apply List.ext_getElem?
      intro k
      by_cases hk : i = k
      · subst hk
        rw [List.getElem?_set_self', List.getElem?_set_self', wipe_out hr, wipe_out hr, List.getElem?_set_self']
        cases σ[i]? <;> rfl
      · rw [List.getElem?_set_ne hk, List.getElem?_set_ne hk]
        exact wipe_setk hk
  where
  wipe_setk {σ : L2.St} {i k : Nat} {x : Option V} (hk : i ≠ k) : ∀ {vs : List Nat}, (wipe (σ.set i x) vs)[k]? = (wipe σ vs)[k]?
    | [] => by show (σ.set i x)[k]? = σ[k]?; rw [List.getElem?_set_ne hk]
    | j :: r => by
      show ((wipe (σ.set i x) r).set j none)[k]? = ((wipe σ r).set j none)[k]?
      by_cases hj : j = k
      · subst hj
        rw [List.getElem?_set_self', List.getElem?_set_self', wipe_setk hk]
      · rw [List.getElem?_set_ne hj, List.getElem?_set_ne hj]
        exact wipe_setk hk
theorem q_gname {i : Nat} {x : Str} {pos : Pos} (h : PG X (.Name x pos) (L2.gName i)) (hi : i ∈ vs) : QG X B vs (.Name x pos) (Q.gName i) := PG.imp h fun v σ H Q ⟨F, pa, t, env, d, P, C, r, hd, k⟩ =>
  k F pa t _ _ H (Gr.refl _ _) (C.setV i r) (wipe_set hi) hd
theorem q_gnil : QGs X B vs [] gNil := PGs.imp pgs_nil fun v σ H Q ⟨F, pa, t, env, ds, P, C, r, hd, k⟩ => by
  cases ds with
  | nil => exact ⟨r.inv0, k F pa t env σ H (Gr.refl _ _) C rfl hd⟩
  | cons => exact hd.elim
theorem q_gcons (h1 : QG X B vs e g) (h2 : QGs X B vs es gs) (hs : (assignEach (e :: es) X.env).map (·.2) = assign e X.env :: (assignEach es X.env).map (·.2) := by rfl) : QGs X B vs (e :: es) (gCons g gs) := PGs.imp (pgs_cons h1 h2 hs) fun v σ H Q ⟨F, pa, t, env, ds, P, C, r, hd, k⟩ => by
  cases ds with
  | nil => exact hd.elim
  | cons d ds =>
    obtain ⟨v, vr, rfl, r1, r2⟩ := r.inv
    exact ⟨v, vr, rfl, F, pa, t, env, d, _, C, r1, hd, fun F' pa' t' env' σ' H' g' C' w1 q => ⟨F', pa', t', env', ds, P, C', RelL.mono g' ds vr r2, q, fun F2 pa2 t2 env2 σ2 H2 g2 C2 w2 q2 => k F2 pa2 t2 env2 σ2 H2 (g'.trans g2) C2 (w2.trans w1) q2⟩⟩
theorem q_gtup {k : Nat} {n : Nat} (hc : X.calm = true) (h : QGs X B vs es gs) (hn : (assignEach es X.env).length = n := by rfl) (hst : (assignEach es X.env).findIdx? (·.1) = none := by rfl) : QG X B vs (.Tuple es k pos) (Q.gTup n gs) := PG.imp (pg_tup hc h hn hst) fun v σ H Q ⟨F, pa, t, env, d, P, C, r, hd, k⟩ => by
  cases d with
  | tup l =>
    obtain ⟨hl, hd⟩ := hd
    have r' := r
    unfold RelD at r'
    obtain ⟨a, us, rfl, e, q⟩ := r'
    exact ⟨a, us, rfl, SqT.of (C.sub _ _ e), by rw [q.len]; exact hl, F, pa, t, env, l, P, C, q, hd, k⟩
  | _ => exact hd.elim
/-! ### statements -/
theorem q_nil : QSs X B [] dNext := PSs.imp pss_nil fun D σ H ⟨F, pa, t, env, DD, C, h, R⟩ => R.nx F pa t env σ H (Gr.refl _ _) C h
theorem q_cons (h1 : QS X B st s1) (h2 : QSs X B rest s2) : QSs X B (st :: rest) (dSeq s1 s2) := PSs.imp (pss_cons h1 h2) fun D σ H ⟨F, pa, t, env, DD, C, h, R⟩ =>
  ⟨F, pa, t, env, _, C, h, ⟨fun F pa t env σ H g C q => ⟨F, pa, t, env, DD, C, q, R.mono g⟩, R.rt, R.bk, R.ct⟩⟩
/-- the name's own list is frozen ahead of the rest -/
theorem q_frz {i : Nat} (hB : B.Top) (h2 : QSs X B rest s2) : QSs X B rest (dSeq (dFrz i) s2) := PSs.imp h2 fun D σ H ⟨F, pa, t, env, DD, C, h, R⟩ => by
  have h : (match env[i]? with | some (.own d) => s2 DD (env.set i (.val d)) t | _ => s2 DD env t) := h
  cases q : env[i]? with
  | none => rw [q] at h; exact ⟨F, pa, t, env, DD, C, h, R⟩
  | some z =>
    rw [q] at h
    cases z with
    | own d =>
      obtain ⟨F', g, C'⟩ := C.frzO hB q
      exact ⟨F', pa, t, _, DD, C', h, R.mono g⟩
    | val d => exact ⟨F, pa, t, env, DD, C, h, R⟩
    | no => exact ⟨F, pa, t, env, DD, C, h, R⟩
theorem q_pass : QS X B (.Pass pos) dNext := PS.imp ps_pass fun D σ H ⟨F, pa, t, env, DD, C, h, R⟩ => R.nx F pa t env σ H (Gr.refl _ _) C h
theorem q_doc {x j pos pos'} : QS X B (.Expr (.Constant (.str x) j pos) pos') dNext := PS.imp ps_doc fun D σ H ⟨F, pa, t, env, DD, C, h, R⟩ => R.nx F pa t env σ H (Gr.refl _ _) C h
theorem q_break : QS X B (.Break pos) dBreak := PS.imp ps_break fun D σ H ⟨F, pa, t, env, DD, C, h, R⟩ => R.bk F pa t env σ H (Gr.refl _ _) C h
theorem q_cont : QS X B (.Continue pos) dCont := PS.imp ps_continue fun D σ H ⟨F, pa, t, env, DD, C, h, R⟩ => R.ct F pa t env σ H (Gr.refl _ _) C h
theorem q_never : QS X B st dNever := PS.imp ps_never fun D σ H ⟨F, pa, t, env, DD, C, h, R⟩ => h.elim
theorem q_nevers : QSs X B sts dNever := PSs.imp pss_never fun D σ H ⟨F, pa, t, env, DD, C, h, R⟩ => h.elim
theorem ret0 {F : Hp} {pa : Option Addr} {H : Hp} {d : D} {v : V} (hm : B.m = false) (r : RelD K F pa d v) : RetRel K B F pa H d v := by
  unfold RetRel; rw [hm]; exact r
theorem q_ret (hm : B.m = false) (h : QE X B e da) : QS X B (.Return (some e) pos) (dRet da) := PS.imp (ps_ret h) fun D σ H ⟨F, pa, t, env, DD, C, h, R⟩ =>
  ⟨F, pa, t, env, _, C, h, fun v d F' pa' t' H' g C' r q => R.rt v d F' pa' t' env σ H' g C' (ret0 hm r) q⟩
theorem q_retNew (hm : B.m = true) (h : QN X B e da) : QS X B (.Return (some e) pos) (dRet da) := PS.imp (ps_ret h) fun D σ H ⟨F, pa, t, env, DD, C, h, R⟩ =>
  ⟨F, pa, t, env, _, C, h, fun p hh d F' pa' t' H' g C' n e r q => R.rt _ d F' pa' t' env σ H' g C' (by unfold RetRel; rw [hm]; exact .inr ⟨p, hh, rfl, n.f, n.b, n.a, e, r⟩) q⟩
/-- a name's own object is told back -/
theorem q_retOwn {i : Nat} {x : Str} {p : Pos} (hm : B.m = true) (hB : B.Top) (h : PE X (.Name x p) (tVar i)) : QS X B (.Return (some (.Name x p)) pos) (dRetO i) := PS.imp (ps_ret h) fun De σ H ⟨F, pa, t, env, DD, C, h, R⟩ => by
  have h : (match env[i]? with | some (.own d) => DD.rt d env t | _ => False) := h
  cases q : env[i]? with
  | none => rw [q] at h; exact h.elim
  | some s =>
    rw [q] at h
    cases s with
    | own d =>
      obtain ⟨a, hh, h1, h2, h3, h4, h5, h6⟩ := C.own i d q
      have hb : B.H a = none := by
        rcases h6 with z | z
        · exact absurd (Eq.trans C.pnn (hB a z)) h5
        · exact z
      exact ⟨_, h1, R.rt _ d F pa t env σ H (Gr.refl _ _) C (by unfold RetRel; rw [hm]; exact .inr ⟨a, hh, rfl, h4, hb, h5, h2, h3⟩) h⟩
    | val d => exact h.elim
    | no => exact h.elim
theorem q_retN (hm : B.m = false) : QS X B (.Return none pos) dRetN := PS.imp ps_retN fun D σ H ⟨F, pa, t, env, DD, C, h, R⟩ => R.rt _ _ F pa t env σ H (Gr.refl _ _) C (ret0 hm rD_non) h
theorem q_drop (he : QE X B e da) (hs : swapsWith e none pos.line X.env = pure false := by rfl) : QS X B (.Expr e pos) (dDrop da) := PS.imp (ps_expr he hs) fun D σ H ⟨F, pa, t, env, DD, C, h, R⟩ =>
  ⟨F, pa, t, env, _, C, h, fun v d F' pa' t' H' g C' r q => R.nx F' pa' t' env σ H' g C' q⟩
theorem ev_asg {D : Ends} {σ : L2.St} {H : Hp} (h : tsOf K B (dAsg da g) D σ H) : tAsg (teOf K B da) (tgOf K B vs g) D σ H := by
  obtain ⟨F, pa, t, env, DD, C, h, R⟩ := h
  exact ⟨F, pa, t, env, _, C, h, fun v d F' pa' t' H' g' C' r q => ⟨F', pa', t', env, d, _, C', r, q, fun F2 pa2 t2 env2 σ2 H2 g2 C2 _ q2 => R.nx F2 pa2 t2 env2 σ2 H2 (g'.trans g2) C2 q2⟩⟩
theorem q_asg {tg : Expr} (he : QE X B e da) (hg : QG X B vs tg g) (hs : swapsWithSole [tg] e pos.line X.env = pure false := by rfl) (hw : swappedStores [tg] e X.env = pure none := by rfl)
    (h1 : (assignEach [tg] X.env).map (·.2) = [assign tg X.env] := by rfl) : QS X B (.Assign [tg] e pos) (dAsg da g) := PS.imp (ps_asg he hg hs hw h1) fun D σ H h => ev_asg h
theorem q_set {i : Nat} {x : Str} {pos' : Pos} (hN : X.N.Nodup) (hi : X.N[i]? = some x) (hx : Loc X.env.scope x) (he : QE X B e da) (hs : swapsWith e (some (.Name x pos')) pos.line X.env = pure false := by rfl) (hf : X.fn x = true ∨ X.env.scope.names.lookup x = some .local := by first | exact .inl rfl | exact .inr rfl | assumption) :
    QS X B (.Assign [.Name x pos'] e pos) (dAsg da (Q.gName i)) := PS.imp (ps_set hN hi hx he hs hf) fun D σ H ⟨F, pa, t, env, DD, C, h, R⟩ =>
  ⟨F, pa, t, env, _, C, h, fun v d F' pa' t' H' g' C' r q => R.nx F' pa' t' _ _ H' g' (C'.setV i r) q⟩
/-- a new list, the name's own -/
theorem q_setN {i : Nat} {x : Str} {pos' : Pos} (hN : X.N.Nodup) (hi : X.N[i]? = some x) (hx : Loc X.env.scope x) (he : QN X B e da) (hs : swapsWith e (some (.Name x pos')) pos.line X.env = pure false := by rfl) (hf : X.fn x = true ∨ X.env.scope.names.lookup x = some .local := by first | exact .inl rfl | exact .inr rfl | assumption) :
    QS X B (.Assign [.Name x pos'] e pos) (dAsgN i da) := PS.imp (ps_set hN hi hx he hs hf) fun D σ H ⟨F, pa, t, env, DD, C, h, R⟩ =>
  ⟨F, pa, t, env, _, C, h, fun p hh d F' pa' t' H' g' C' n e r q => R.nx F' pa' t' _ _ H' g' (C'.setN i n e r) q⟩
theorem q_par {i j : Nat} {x y : Str} {px py pt : Pos} {kt k2 pt2} (hc : X.calm = true) (hN : X.N.Nodup) (hi : X.N[i]? = some x) (hj : X.N[j]? = some y) (hij : i ≠ j)
    (hx : X.env.scope.names.lookup x = some .local) (hy : X.env.scope.names.lookup y = some .local) (ha : QA X B [a, b] as)
    (hw : swappedStores [.Tuple [.Name x px, .Name y py] kt pt] (.Tuple [a, b] k2 pt2) X.env = pure (some [x, y]))
    (hs : swapsWithSole [.Tuple [.Name x px, .Name y py] kt pt] (.Tuple [a, b] k2 pt2) pos.line X.env = pure false := by rfl) :
    QS X B (.Assign [.Tuple [.Name x px, .Name y py] kt pt] (.Tuple [a, b] k2 pt2) pos) (dPar i j as) := PS.imp (ps_par hc hN hi hj hij hx hy ha hw hs) fun D σ H ⟨F, pa, t, env, DD, C, h, R⟩ =>
  ⟨F, pa, t, env, _, C, h, fun vs ds F' pa' t' H' g' C' r q => by
    match ds, q with
    | [d, e], q =>
      obtain ⟨v, vr, rfl, r1, r2⟩ := r.inv
      obtain ⟨w, wr, rfl, r3, r4⟩ := r2.inv
      obtain rfl := r4.inv0
      exact ⟨v, w, rfl, R.nx F' pa' t' _ _ H' g' ((C'.setV i r1).setV j r3) q⟩⟩
theorem q_par3 {i j l : Nat} {x y z : Str} {px py pz pt : Pos} {kt k2 pt2} (hc : X.calm = true) (hN : X.N.Nodup) (hi : X.N[i]? = some x) (hj : X.N[j]? = some y) (hl : X.N[l]? = some z) (hij : i ≠ j) (hil : i ≠ l) (hjl : j ≠ l)
    (hx : X.env.scope.names.lookup x = some .local) (hy : X.env.scope.names.lookup y = some .local) (hz : X.env.scope.names.lookup z = some .local) (ha : QA X B [a, b, c] as)
    (hw : swappedStores [.Tuple [.Name x px, .Name y py, .Name z pz] kt pt] (.Tuple [a, b, c] k2 pt2) X.env = pure (some [x, y, z]))
    (hs : swapsWithSole [.Tuple [.Name x px, .Name y py, .Name z pz] kt pt] (.Tuple [a, b, c] k2 pt2) pos.line X.env = pure false := by rfl) :
    QS X B (.Assign [.Tuple [.Name x px, .Name y py, .Name z pz] kt pt] (.Tuple [a, b, c] k2 pt2) pos) (dPar3 i j l as) := PS.imp (ps_par3 hc hN hi hj hl hij hil hjl hx hy hz ha hw hs) fun D σ H ⟨F, pa, t, env, DD, C, h, R⟩ =>
  ⟨F, pa, t, env, _, C, h, fun vs ds F' pa' t' H' g' C' r q => by
    match ds, q with
    | [d, e, f], q =>
      obtain ⟨v, vr, rfl, r1, r2⟩ := r.inv
      obtain ⟨w, wr, rfl, r3, r4⟩ := r2.inv
      obtain ⟨u, ur, rfl, r5, r6⟩ := r4.inv
      obtain rfl := r6.inv0
      exact ⟨v, w, u, rfl, R.nx F' pa' t' _ _ H' g' (((C'.setV i r1).setV j r3).setV l r5) q⟩⟩
theorem q_aug {i : Nat} {x : Str} {op : Operator} {pos' : Pos} {r : R2} {o : DOp} (hN : X.N.Nodup) (hi : X.N[i]? = some x) (hx : Loc X.env.scope x) (he : QV X B e da) (ho : OpR X (inplaceOp op) r) (hr : ROp X.K r o)
    (hf : X.fn x = true ∨ X.env.scope.names.lookup x = some .local := by first | exact .inl rfl | exact .inr rfl | assumption) : QS X B (.AugAssign (.Name x pos') op e pos) (dAug i o da) :=
  PS.imp (ps_aug (ti := r) hN hi hx he (fun pins s σ H x y v u Q I r1 r2 h => ho pins s σ H x y v u Q I r1 r2 h) hf) fun D σ H ⟨F, pa, t, env, DD, C, h, R⟩ => by
    have h : (match env[i]? with | some (.val x) => da env t (fun y t1 => o x y fun z => DD.nx (env.set i (.val z)) t1) | _ => False) := h
    cases q : env[i]? with
    | none => rw [q] at h; exact h.elim
    | some z =>
      rw [q] at h
      cases z with
      | val d =>
        obtain ⟨v, h1, h2⟩ := C.val i d q
        exact ⟨v, h1, F, pa, t, env, _, C, h, fun w y F' pa' t' H' g' C' r1 q1 => hr B F' pa' t' env σ H' d y v w _ _ C' (.inl (RelD.mono g' d v h2)) r1 q1 fun u z F2 H2 g2 C2 r2 q2 => R.nx F2 pa' t' _ _ H2 (g'.trans g2) (C2.setV i r2) q2⟩
      | no => exact h.elim
      | own d => exact h.elim
theorem q_if {l r : List Stmt} (hc : QT X B c dt) (ha : QSs X B l s1) (hb : QSs X B r s2) : QS X B (.If c l r pos) (dIf dt s1 s2) := PS.imp (ps_if hc ha hb) fun D σ H ⟨F, pa, t, env, DD, C, h, R⟩ =>
  ⟨F, pa, t, env, _, C, h, fun k F' pa' t' H' g C' q => by
    cases k with
    | true => rw [if_pos rfl]; exact ⟨F', pa', t', env, DD, C', q, R.mono g⟩
    | false => rw [if_neg Bool.false_ne_true]; exact ⟨F', pa', t', env, DD, C', q, R.mono g⟩⟩
/-! ### lists of a name's own, written -/
theorem own_lst {F : Hp} {pa : Option Addr} {t : Ts} {env : En} {σ : L2.St} {H : Hp} {i : Nat} {l : List D} (C : Cf K B F pa t env σ H) (h : env[i]? = some (Sl.own (.lst l))) : ∃ a vs, σ[i]? = some (some (V.ref a)) ∧ H a = some (.lst vs) ∧ RelL K F pa l vs := by
  obtain ⟨a, u, h1, h2, h3, _⟩ := C.own i _ h
  obtain ⟨vs, rfl, q⟩ := h3
  exact ⟨a, vs, h1, h2, q⟩
theorem get_own {env : En} {i : Nat} {p : List D → Prop} (h : match env[i]? with | some (.own (.lst l)) => p l | _ => False) : ∃ l, env[i]? = some (Sl.own (.lst l)) ∧ p l := by
  split at h
  · rename_i l e; exact ⟨l, e, h⟩
  · exact h.elim
theorem q_app {i : Nat} (hp : PE X e (tBM X.K "list" rAppend (tVar i) (tCons (teOf X.K B da) tNil))) (hs : swapsWith e none pos.line X.env = pure false := by rfl) : QS X B (.Expr e pos) (dApp i da) :=
  PS.imp (ps_expr hp hs) fun De σ H ⟨F, pa, t, env, DD, C, h, R⟩ => by
    obtain ⟨l, hi, h⟩ := get_own h
    obtain ⟨a, vs, s1, e1, r1⟩ := own_lst C hi
    refine ⟨.ref a, s1, Or.inl ⟨rfl, vs, SqL.of e1⟩, F, pa, t, env, _, C, h, fun w y F' pa' t' H' g' C' r2 q2 => ?_⟩
    obtain ⟨hl, q2⟩ := q2
    obtain ⟨a', us, s2, e2, r3⟩ := own_lst C' hi
    rw [s1] at s2; cases s2
    refine ⟨a, us, w, rfl, rfl, e2, by rw [r3.len]; exact zlt hl, ?_⟩
    exact R.nx F' pa' t' _ σ _ g' (C'.wrO (d' := .lst (l ++ [y])) hi s1 ⟨_, rfl, r3.append (.cons r2 .nil)⟩) q2
theorem q_ext {i : Nat} (hp : PE X e (tBM X.K "list" rExtend (tVar i) (tCons (tvOf X.K B da) tNil))) (hs : swapsWith e none pos.line X.env = pure false := by rfl) : QS X B (.Expr e pos) (dExt i da) :=
  PS.imp (ps_expr hp hs) fun De σ H ⟨F, pa, t, env, DD, C, h, R⟩ => by
    obtain ⟨l, hi, h⟩ := get_own h
    obtain ⟨a, vs, s1, e1, r1⟩ := own_lst C hi
    refine ⟨.ref a, s1, Or.inl ⟨rfl, vs, SqL.of e1⟩, F, pa, t, env, _, C, h, fun w y F' pa' t' H' g' C' r2 q2 => ?_⟩
    cases y with
    | lst m =>
      obtain ⟨hl, q2⟩ := q2
      obtain ⟨a', us, s2, e2, r3⟩ := own_lst C' hi
      rw [s1] at s2; cases s2
      obtain ⟨b, ws, rfl, e3, r4⟩ := r2.lst C'
      refine ⟨a, b, us, ws, rfl, rfl, e2, e3, by rw [r3.len, r4.len]; exact zle hl, ?_⟩
      exact R.nx F' pa' t' _ σ _ g' (C'.wrO (d' := .lst (l ++ m)) hi s1 ⟨_, rfl, r3.append r4⟩) q2
    | _ => exact q2.elim
theorem ixN_eq (n : Nat) (i : Int) : L2.ixN n i = Q.ixN n i := rfl
theorem q_seti {i : Nat} {dk : DE} {tg : Expr} (hp : PS X (.Assign [tg] e pos) (tAsg (teOf X.K B da) (gSub (tVar i) (tvOf X.K B dk) rSetL))) : QS X B (.Assign [tg] e pos) (dSet i dk da) :=
  PS.imp hp fun De σ H ⟨F, pa, t, env, DD, C, h, R⟩ => ⟨F, pa, t, env, _, C, h, fun w y F' pa' t' H' g' C' r2 q2 => by
    obtain ⟨l, hi, q2⟩ := get_own q2
    obtain ⟨a, vs, s1, e1, r1⟩ := own_lst C' hi
    refine ⟨.ref a, s1, F', pa', t', env, _, C', q2, fun u z F2 pa2 t2 H2 g2 C2 r3 q3 => ?_⟩
    cases z with
    | int m =>
      obtain ⟨j, hj, q3⟩ := q3
      obtain ⟨a', us, s2, e2, r4⟩ := own_lst C2 hi
      rw [s1] at s2; cases s2
      refine ⟨a, us, m, j, rfl, r3.int C2, e2, by rw [ixN_eq, r4.len]; exact hj, ?_⟩
      exact R.nx F2 pa2 t2 _ σ _ (g'.trans g2) (C2.wrO (d' := .lst (l.set j y)) hi s1 ⟨_, rfl, r4.set j (RelD.mono g2 y w r2)⟩) q3
    | _ => exact q3.elim⟩
/-! ### loops -/
theorem q_while {body : List Stmt} (hp : PassesOwn (model X.prog X.w) X.A X.env X.xe) (hc : QT X B c dt) (hb : QSs X B body s1) : QS X B (.While c body [] pos) (dWhile dt s1) := PS.imp (ps_while hp hc hb) fun De σ H ⟨F, pa, t, env, DD, C, h, R⟩ => by
  obtain ⟨Inv, mu, h0, hs⟩ := h
  refine ⟨fun m σ H => ∃ F1 pa1 t env, Gr F pa F1 pa1 ∧ Cf X.K B F1 pa1 t env σ H ∧ Inv env t ∧ m = mu env t, ⟨mu env t, F, pa, t, env, Gr.refl _ _, C, h0, rfl⟩, ?_⟩
  rintro m σ1 H1 ⟨F1, pa1, t1, env1, g1, C1, h1, rfl⟩
  refine ⟨F1, pa1, t1, env1, _, C1, hs env1 t1 h1, fun k F2 pa2 t2 H2 g2 C2 q2 => ?_⟩
  cases k with
  | true =>
    rw [if_pos rfl]
    have nn : ∀ F3 pa3 t env σ' H', Gr F2 pa2 F3 pa3 → Cf X.K B F3 pa3 t env σ' H' → (Inv env t ∧ mu env t < mu env1 t1) → ∃ m', m' < mu env1 t1 ∧ ∃ F3 pa3 t env, Gr F pa F3 pa3 ∧ Cf X.K B F3 pa3 t env σ' H' ∧ Inv env t ∧ m' = mu env t := fun F3 pa3 t env σ' H' g3 C' q => ⟨mu env t, q.2, F3, pa3, t, env, (g1.trans g2).trans g3, C', q.1, rfl⟩
    have R2 := R.mono (g1.trans g2)
    refine ⟨fun σ' H' => ∃ m', m' < mu env1 t1 ∧ ∃ F3 pa3 t env, Gr F pa F3 pa3 ∧ Cf X.K B F3 pa3 t env σ' H' ∧ Inv env t ∧ m' = mu env t, fun σ' H' z => z, F2, pa2, t2, env1, _, C2, q2, ⟨nn, R2.rt, R2.nx, nn⟩⟩
  | false =>
    rw [if_neg Bool.false_ne_true]
    exact R.nx F2 pa2 t2 env1 σ1 H2 (g1.trans g2) C2 q2
/-- what is walked -/
def ItOk (K : PySem.W.Frag) (J : It) (items : List D) (F0 : Hp) (pa0 : Option Addr) : Prop := ∀ (B : Bs) F pa t env σ H (i : Nat), Gr F0 pa0 F pa → Cf K B F pa t env σ H →
  (items.length = i → J.stop i H) ∧ ∀ d, items[i]? = some d → J.go i H ∧ ∀ x H', J.yld i H x H' → Gf H H' ∧ ∃ F', (∀ a o, F' a = some o → (∃ o', F a = some o') ∨ H a = none) ∧ Gr F pa F' pa ∧ Cf K B F' pa t env σ H' ∧ RelD K F' pa d x
theorem ItOk.mono {J : It} {items : List D} {F0 F1 : Hp} {p0 p1 : Option Addr} (h : ItOk K J items F0 p0) (g : Gr F0 p0 F1 p1) : ItOk K J items F1 p1 := fun B F pa t env σ H i g' C => h B F pa t env σ H i (g.trans g') C
def tiOf (K : PySem.W.Frag) (B : Bs) (di : DI) : TI := fun σ H R => ∃ F pa t env P, Cf K B F pa t env σ H ∧ di env t P ∧
  ∀ J items F' pa' t' H', Gr F pa F' pa' → Cf K B F' pa' t' env σ H' → ItOk K J items F' pa' → P items t' → R J H'
abbrev QI (X : Cx) (B : Bs) (tg e : Expr) (di : DI) : Prop := PI X tg e (tiOf X.K B di)
theorem PI.imp {tg e : Expr} {w w' : TI} (h : PI X tg e w) (i : ∀ σ H R, w' σ H R → w σ H R) : PI X tg e w' := ⟨fun pins s σ H R I q => h.run pins s σ H R I (i σ H R q)⟩
theorem it_list {F0 : Hp} {pa0 : Option Addr} {a : Addr} {l : List D} {vs : List V} (e : SqL K F0 a vs) (r : RelL K F0 pa0 l vs) : ItOk K (Itl K a) l F0 pa0 := fun B F pa t env σ H i g C => by
  have eH : SqL K H a vs := sq_mono C.sub (sq_mono g.f e)
  refine ⟨fun hi => ⟨vs, eH, by rw [r.len]; exact Nat.le_of_eq hi⟩, fun d hd => ?_⟩
  obtain ⟨v, hv, rv⟩ := r.get hd
  refine ⟨⟨vs, v, eH, hv⟩, fun x H' y => ?_⟩
  obtain ⟨rfl, y⟩ := y
  have y := y vs eH
  rw [hv] at y; cases y
  exact ⟨fun _ _ z => z, F, fun a o e => .inl ⟨o, e⟩, Gr.refl _ _, C, RelD.mono g d v rv⟩
theorem it_tup {F0 : Hp} {pa0 : Option Addr} {a : Addr} {l : List D} {vs : List V} (e : F0 a = some (.tup vs)) (r : RelL K F0 pa0 l vs) : ItOk K (Itt K a) l F0 pa0 := fun B F pa t env σ H i g C => by
  have eH : SqT K H a vs := SqT.of (C.sub _ _ (g.f _ _ e))
  refine ⟨fun hi => ⟨vs, eH, by rw [r.len]; exact Nat.le_of_eq hi⟩, fun d hd => ?_⟩
  obtain ⟨v, hv, rv⟩ := r.get hd
  refine ⟨⟨vs, v, eH, hv⟩, fun x H' y => ?_⟩
  obtain ⟨rfl, y⟩ := y
  have y := y vs eH
  rw [hv] at y; cases y
  exact ⟨fun _ _ z => z, F, fun a o e => .inl ⟨o, e⟩, Gr.refl _ _, C, RelD.mono g d v rv⟩
theorem it_rng {F0 : Hp} {pa0 : Option Addr} (lo : Int) (n : Nat) : ItOk K (Itr lo n) (rng lo n) F0 pa0 := fun B F pa t env σ H i g C => by
  refine ⟨fun hi => by rw [rng_len] at hi; exact Nat.le_of_eq hi, fun d hd => ?_⟩
  obtain ⟨h1, rfl⟩ := rng_get hd
  refine ⟨h1, fun x H' y => ?_⟩
  obtain ⟨rfl, rfl⟩ := y
  exact ⟨fun _ _ z => z, F, fun a o e => .inl ⟨o, e⟩, Gr.refl _ _, C, rD_int _⟩
/-- over a list, a tuple, the script: which of them, the caller says -/
theorem q_ilist {tg : Expr} (he : QE X B e da) : QI X B tg e (iSeqL da) := PI.imp (pi_list he) fun σ H R ⟨F, pa, t, env, P, C, h, k⟩ => ⟨F, pa, t, env, _, C, h, fun v d F' pa' t' H' g C' r q => by
  cases d with
  | lst l =>
    have r' := r
    unfold RelD at r'
    obtain ⟨a, vs, rfl, e1, r1⟩ := r'
    refine ⟨a, rfl, ⟨vs, SqL.of (C'.sub _ _ e1)⟩, k _ l F' pa' t' H' g C' ?_ q⟩
    exact it_list (SqL.of e1) r1
  | scr ns =>
    have r' := r
    unfold RelD at r'
    obtain ⟨a, rfl, e1⟩ := r'
    refine ⟨a, rfl, ⟨_, sq_mono C'.sub e1⟩, k _ _ F' pa' t' H' g C' ?_ q⟩
    exact it_list e1 (RelL.of_ints ns)
  | _ => exact q.elim⟩
theorem q_itup {tg : Expr} (he : QE X B e da) : QI X B tg e (iSeqT da) := PI.imp (pi_tup he) fun σ H R ⟨F, pa, t, env, P, C, h, k⟩ => ⟨F, pa, t, env, _, C, h, fun v d F' pa' t' H' g C' r q => by
  cases d with
  | tup l =>
    have r' := r
    unfold RelD at r'
    obtain ⟨a, vs, rfl, e1, r1⟩ := r'
    exact ⟨a, rfl, ⟨vs, SqT.of (C'.sub _ _ e1)⟩, k _ l F' pa' t' H' g C' (it_tup e1 r1) q⟩
  | _ => exact q.elim⟩
theorem q_irng1 {tg : Expr} {p pos : Pos} (hg : Gl X "range") (hm : X.mg "range" = none) (ha : QV X B a da) (hs : starEach [a] X.env = [(false, eval a X.env)] := by rfl) (hs' : starEach (a :: []) X.env = (false, eval a X.env) :: starEach [] X.env := by rfl) : QI X B tg (.Call (.Name "range" p) [a] [] pos) (iRng1 da) := PI.imp (pi_range1 hg hm (pa_cons ha pa_nil hs') hs) fun σ H R ⟨F, pa, t, env, P, C, h, k⟩ =>
  ⟨F, pa, t, env, _, C, h, fun v d F' pa' t' H' g C' r q => by
    cases d with
    | int n =>
      obtain ⟨⟨h1, h2⟩, q⟩ := q
      exact ⟨n, by rw [r.int C'], by omega, by omega, k _ _ F' pa' t' H' g C' (it_rng 0 n.toNat) q⟩
    | _ => exact q.elim⟩
theorem q_irng2 {tg : Expr} {p pos : Pos} (hg : Gl X "range") (hm : X.mg "range" = none) (ha : QV X B a da) (hb : QV X B b db) (hs : starEach [a, b] X.env = [(false, eval a X.env), (false, eval b X.env)] := by rfl) (hs2 : starEach [b] X.env = [(false, eval b X.env)] := by rfl)
    (hs' : starEach (a :: [b]) X.env = (false, eval a X.env) :: starEach [b] X.env := by rfl) (hs3 : starEach (b :: []) X.env = (false, eval b X.env) :: starEach [] X.env := by rfl) : QI X B tg (.Call (.Name "range" p) [a, b] [] pos) (iRng2 da db) := PI.imp (pi_range2 hg hm (pa_cons ha (pa_cons hb pa_nil hs3) hs') hs hs2) fun σ H R ⟨F, pa, t, env, P, C, h, k⟩ =>
  ⟨F, pa, t, env, _, C, h, fun v d F' pa' t' H' g C' r q => ⟨F', pa', t', env, _, C', q, fun u y F2 pa2 t2 H2 g2 C2 r2 q2 => by
    cases d with
    | int m =>
      cases y with
      | int n =>
        obtain ⟨⟨h1, h2, h3, h4⟩, q2⟩ := q2
        exact ⟨m, n, by rw [(r.mono g2).int C2, r2.int C2], ⟨by omega, by omega, by omega, by omega⟩, k _ _ F2 pa2 t2 H2 (g.trans g2) C2 (it_rng m (n - m).toNat) q2⟩
      | _ => exact q2.elim
    | _ => exact q2.elim⟩⟩
theorem q_for {tg iter : Expr} {body : List Stmt} {di : DI} (hp : PassesOwn (model X.prog X.w) X.A X.env X.xe) (hc : X.calm = true) (hi : QI X B tg iter di) (hg : QG X B vs tg g) (hb : QSs X B body s1) (hs : ∀ x, foldedSetIterable iter X.env x = pure x := by intro _; rfl) : QS X B (.For tg iter body [] pos) (dFor di g s1) :=
  PS.imp (ps_for hp hc hi hg hb hs) fun De σ H ⟨F, pa, t, env, DD, C, h, R⟩ => ⟨F, pa, t, env, _, C, h, fun J items F1 pa1 t1 H1 g1 C1 iok q => by
    obtain ⟨Inv, h0, hstep, hd⟩ := q
    refine ⟨fun i m σ H => m = items.length - i ∧ i ≤ items.length ∧ ∃ F pa t env, Gr F1 pa1 F pa ∧ Cf X.K B F pa t env σ H ∧ Inv i env t, ⟨_, rfl, Nat.zero_le _, F1, pa1, t1, env, Gr.refl _ _, C1, h0⟩, ?_⟩
    rintro i m σ2 H2 ⟨rfl, hi, F2, pa2, t2, env2, g2, C2, q2⟩
    have io := iok B F2 pa2 t2 env2 σ2 H2 i g2 C2
    by_cases hlt : i < items.length
    · have hx : items[i]? = some items[i] := by simp [hlt]
      obtain ⟨go, yl⟩ := io.2 _ hx
      refine .inr ⟨go, fun σ' H' => ∃ m', m' < items.length - i ∧ (m' = items.length - (i + 1) ∧ i + 1 ≤ items.length ∧ ∃ F pa t env, Gr F1 pa1 F pa ∧ Cf X.K B F pa t env σ' H' ∧ Inv (i + 1) env t), fun σ' H' z => z, fun x H' y => ?_⟩
      obtain ⟨_, F3, _, g3, C3, r3⟩ := yl x H' y
      refine ⟨F3, pa2, t2, env2, items[i], _, C3, r3, hstep i _ env2 t2 hx q2, fun F4 pa4 t4 env4 σ4 H4 g4 C4 _ q4 => ?_⟩
      have g14 := (g2.trans g3).trans g4
      have nn : ∀ F pa t env σ' H', Gr F4 pa4 F pa → Cf X.K B F pa t env σ' H' → Inv (i + 1) env t → ∃ m', m' < items.length - i ∧ (m' = items.length - (i + 1) ∧ i + 1 ≤ items.length ∧ ∃ F pa t env, Gr F1 pa1 F pa ∧ Cf X.K B F pa t env σ' H' ∧ Inv (i + 1) env t) := fun F pa t env σ' H' g C' q => ⟨items.length - (i + 1), by omega, rfl, hlt, F, pa, t, env, g14.trans g, C', q⟩
      have R4 := R.mono (g1.trans g14)
      exact ⟨F4, pa4, t4, env4, _, C4, q4, ⟨nn, R4.rt, R4.nx, nn⟩⟩
    · have e : i = items.length := by omega
      subst e
      exact .inl ⟨io.1 rfl, R.nx F2 pa2 t2 env2 σ2 H2 (g1.trans g2) C2 (hd env2 t2 q2)⟩⟩
end
end Q

/-! QH6 -/
namespace Q
open PySem L2 PyProof.Rows
section
variable {X : Cx} {B : Bs} {K : PySem.W.Frag} {a b c e : Expr} {es : List Expr} {pos : Pos} {da db dc : DE} {as : DA} {g : DG} {gs : DGs} {dt : DT}
/-! ### comprehensions -/
theorem wipeE_length (env : En) : ∀ vs : List Nat, (wipeE env vs).length = env.length
  | [] => rfl
  | i :: r => by simp [wipeE, wipeE_length env r]
theorem wipeE_some {env : En} {i : Nat} {x : Sl} (hx : x ≠ .no) : ∀ {vs : List Nat}, (wipeE env vs)[i]? = some x → env[i]? = some x ∧ i ∉ vs
  | [], h => ⟨h, by simp⟩
  | j :: r, h => by
    rcases get_set (show ((wipeE env r).set j .no)[i]? = some x from h) with ⟨_, z⟩ | ⟨ne, z⟩
    · exact absurd z hx
    · obtain ⟨h1, h2⟩ := wipeE_some hx z
      exact ⟨h1, by simp [h2, Ne.symm ne]⟩
theorem wipeE_out {env : En} {i : Nat} : ∀ {vs : List Nat}, i ∉ vs → (wipeE env vs)[i]? = env[i]?
  | [], _ => rfl
  | j :: r, h => by
    simp only [List.mem_cons, not_or] at h
    show ((wipeE env r).set j .no)[i]? = _
    rw [List.getElem?_set_ne (Ne.symm h.1)]
    exact wipeE_out h.2
/-- the addresses of the names' own objects -/
def ownA (env : En) (σ : L2.St) : List Addr := (env.zip σ).filterMap fun p => match p with
  | (.own _, some (.ref a)) => some a
  | _ => none
theorem mem_ownA {env : En} {σ : L2.St} {a : Addr} : a ∈ ownA env σ ↔ ∃ (i : Nat) (d : D), env[i]? = some (Sl.own d) ∧ σ[i]? = some (some (V.ref a)) := by
  unfold ownA
  rw [List.mem_filterMap]
  constructor
  · rintro ⟨⟨s, v⟩, hm, h⟩
    obtain ⟨i, hi⟩ := List.mem_iff_getElem?.mp hm
    rw [List.getElem?_zip_eq_some] at hi
    cases s with
    | own d =>
      cases v with
      | none => cases h
      | some v =>
        cases v with
        | ref b => cases h; exact ⟨i, d, hi.1, hi.2⟩
        | _ => cases h
    | _ => cases h
  · rintro ⟨i, d, h1, h2⟩
    exact ⟨(.own d, some (.ref a)), List.mem_iff_getElem?.mpr ⟨i, List.getElem?_zip_eq_some.mpr ⟨h1, h2⟩⟩, rfl⟩
def Bk (F : Hp) (pa : Option Addr) (env : En) (σ : L2.St) (H : Hp) : Bs := ⟨F, H, pa.toList ++ ownA env σ, pa, false⟩
theorem Cf.block {F : Hp} {pa : Option Addr} {t : Ts} {env : En} {σ : L2.St} {H : Hp} (C : Cf K B F pa t env σ H) (vs : List Nat) : Cf K (Bk F pa (wipeE env vs) (wipe σ vs) H) F pa t (wipeE env vs) (wipe σ vs) H := by
  have wo : ∀ {i : Nat}, i ∉ vs → (wipe σ vs)[i]? = σ[i]? := fun h => wipe_out h
  refine ⟨by rw [wipeE_length, wipe_length, C.len], C.sub, fun _ _ e => e, fun _ _ e _ => e, fun a o e => .inl ⟨o, e⟩, fun a ha => ?_, fun i d e => ?_, fun i d e => ?_, fun i j d e a q1 q2 s1 s2 => ?_, fun a e => ?_, rfl⟩
  · rcases List.mem_append.mp ha with h | h
    · obtain ⟨_, ⟨u, q, _⟩, _⟩ := C.pen a (mem_pa.mp h)
      exact ⟨u, q⟩
    · obtain ⟨i, d, h1, h2⟩ := mem_ownA.mp h
      obtain ⟨h1', hi⟩ := wipeE_some (by simp) h1
      rw [wo hi] at h2
      obtain ⟨a', u, s1, e1, _⟩ := C.own i d h1'
      rw [h2] at s1; cases s1
      exact ⟨u, e1⟩
  · obtain ⟨h1, hi⟩ := wipeE_some (by simp) e
    obtain ⟨v, s1, r⟩ := C.val i d h1
    exact ⟨v, by rw [wo hi]; exact s1, r⟩
  · obtain ⟨h1, hi⟩ := wipeE_some (by simp) e
    obtain ⟨a, u, s1, e1, r, f1, p1, _⟩ := C.own i d h1
    refine ⟨a, u, by rw [wo hi]; exact s1, e1, r, f1, p1, .inl (List.mem_append.mpr (.inr (mem_ownA.mpr ⟨i, d, e, by rw [wo hi]; exact s1⟩)))⟩
  · obtain ⟨h1, hi⟩ := wipeE_some (by simp) q1
    obtain ⟨h2, hj⟩ := wipeE_some (by simp) q2
    rw [wo hi] at s1
    rw [wo hj] at s2
    exact C.sep i j d e a h1 h2 s1 s2
  · obtain ⟨h1, h2, _⟩ := C.pen a e
    exact ⟨h1, h2, .inl (List.mem_append.mpr (.inl (mem_pa.mpr e)))⟩
theorem Cf.join {F F3 : Hp} {pa pa3 : Option Addr} {t t3 : Ts} {env e' : En} {σ σ2 : L2.St} {H H4 : Hp} {vs : List Nat} (C : Cf K B F pa t env σ H) (C' : Cf K (Bk F pa (wipeE env vs) (wipe σ vs) H) F3 pa3 t3 e' σ2 H4)
    (he : wipeE e' vs = wipeE env vs) (hs : wipe σ2 vs = wipe σ vs) : Gr F pa F3 pa3 ∧ Cf K B F3 pa3 t3 env σ H4 := by
  have wo : ∀ {i : Nat}, i ∉ vs → (wipe σ vs)[i]? = σ[i]? := fun h => wipe_out h
  have wo2 : ∀ {i : Nat}, i ∉ vs → (wipe σ2 vs)[i]? = σ2[i]? := fun h => wipe_out h
  have g : Gr F pa F3 pa3 := ⟨C'.bas, C'.pnn⟩
  -- what the block may change
  have ex : ∀ a, a ∈ (Bk F pa (wipeE env vs) (wipe σ vs) H).ex → pa = some a ∨ ∃ (i : Nat) (d : D), i ∉ vs ∧ env[i]? = some (Sl.own d) ∧ σ[i]? = some (some (V.ref a)) := fun a ha => by
    rcases List.mem_append.mp ha with h | h
    · exact .inl (mem_pa.mp h)
    · obtain ⟨i, d, h1, h2⟩ := mem_ownA.mp h
      obtain ⟨h1', hi⟩ := wipeE_some (by simp) h1
      exact .inr ⟨i, d, hi, h1', by rw [← wo hi]; exact h2⟩
  have exB : ∀ a, a ∈ (Bk F pa (wipeE env vs) (wipe σ vs) H).ex → a ∈ B.ex ∨ B.H a = none := fun a ha => by
    rcases ex a ha with h | ⟨i, d, _, h1, h2⟩
    · exact (C.pen a h).2.2
    · obtain ⟨a', u, s1, _, _, _, _, x⟩ := C.own i d h1
      rw [h2] at s1; cases s1
      exact x
  have kp : ∀ a o, H a = some o → a ∉ (Bk F pa (wipeE env vs) (wipe σ vs) H).ex → H4 a = some o := fun a o e n => C'.frm a o e n
  have nf : ∀ a o, H a = some o → F a = none → F3 a = none := fun a o e n => by
    cases q : F3 a with
    | none => rfl
    | some u =>
      rcases C'.new a u q with ⟨u', z⟩ | z
      · have z : F a = some u' := z
        rw [n] at z; cases z
      · have z : H a = none := z
        rw [e] at z; cases z
  refine ⟨g, ⟨C.len, C'.sub, fun a o e => g.f _ _ (C.bas a o e), fun a o e hx => ?_, fun a o e => ?_, fun a ha => ?_, fun i d e => ?_, fun i d e => ?_, C.sep, fun a e => ?_, Eq.trans g.p C.pnn⟩⟩
  · refine kp a o (C.frm a o e hx) fun z => ?_
    rcases exB a z with q | q
    · exact hx q
    · rw [q] at e; cases e
  · rcases C'.new a o e with ⟨o', q⟩ | q
    · exact C.new a o' q
    · exact .inr (C.fresh q).2.1
  · by_cases hx : a ∈ (Bk F pa (wipeE env vs) (wipe σ vs) H).ex
    · exact C'.exl a hx
    · obtain ⟨o, q⟩ := C.exl a ha
      exact ⟨o, kp a o q hx⟩
  · obtain ⟨v, h1, h2⟩ := C.val i d e
    exact ⟨v, h1, RelD.mono g d v h2⟩
  · obtain ⟨a, h, h1, h2, h3, h4, h5, h6⟩ := C.own i d e
    by_cases hi : i ∈ vs
    · have nx : a ∉ (Bk F pa (wipeE env vs) (wipe σ vs) H).ex := fun z => by
        rcases ex a z with q | ⟨j, d', hj, q1, q2⟩
        · exact h5 q
        · have := C.sep i j d d' a e q1 h1 q2
          exact hj (this ▸ hi)
      refine ⟨a, h, h1, kp a h h2 nx, RelO1.mono g d h h3, nf a h h2 h4, fun z => ?_, h6⟩
      rcases (C'.pen a z).2.2 with q | q
      · exact nx q
      · have q : H a = none := q
        rw [h2] at q; cases q
    · have e1 : e'[i]? = some (Sl.own d) := by
        rw [← wipeE_out (env := e') hi, he, wipeE_out hi]; exact e
      obtain ⟨a', h', s1, q1, q2, q3, q4, _⟩ := C'.own i d e1
      rw [← wo2 hi, hs, wo hi, h1] at s1
      cases s1
      exact ⟨a, h', h1, q1, q2, q3, q4, h6⟩
  · obtain ⟨h1, h2, h3⟩ := C'.pen a e
    refine ⟨h1, h2, ?_⟩
    rcases h3 with q | q
    · exact exB a q
    · exact .inr (C.fresh q).2.1
def teU (K : PySem.W.Frag) (de : DE) : TE := fun σ H Q => ∃ B, teOf K B de σ H Q
def ttU (K : PySem.W.Frag) (dt : DT) : TT := fun σ H Q => ∃ B, ttOf K B dt σ H Q
def tgU (K : PySem.W.Frag) (vs : List Nat) (g : DG) : TG := fun v σ H Q => ∃ B, tgOf K B vs g v σ H Q
theorem pe_U (h : ∀ B, QE X B e da) : PE X e (teU X.K da) := ⟨fun pins s σ H Q I ⟨B, q⟩ => (h B).run pins s σ H Q I q⟩
theorem pg_U {vs : List Nat} (h : ∀ B, QG X B vs e g) : PG X e (tgU X.K vs g) := ⟨fun pins s σ H v u Q I r ⟨B, q⟩ => (h B).run pins s σ H v u Q I r q⟩
theorem pts_U1 (h : ∀ B, QT X B e dt) : PTs X [e] (ttU X.K dt) := pts_one ⟨fun pins s σ H Q I ⟨B, q⟩ => (h B).run pins s σ H Q I q⟩
theorem pts_U0 : PTs X [] (ttU X.K dYes) := ⟨fun pins s σ H Q I ⟨B, q⟩ => pts_nil.run pins s σ H Q I (by
  obtain ⟨F, pa, t, env, P, C, h, k⟩ := q
  exact k true F pa t H (Gr.refl _ _) C h)⟩
theorem wipe_idem {σ : L2.St} : ∀ {vs : List Nat}, wipe (wipe σ vs) vs = wipe σ vs := fun {vs} => by
  apply List.ext_getElem?
  intro k
  by_cases hk : k ∈ vs
  · have : ∀ (τ : L2.St) (us : List Nat), k ∈ us → (wipe τ us)[k]? = τ[k]?.map fun _ => none := fun τ us => by
      induction us with
      | nil => intro h; simp at h
      | cons j r ih =>
        intro h
        show ((wipe τ r).set j none)[k]? = _
        by_cases hj : j = k
        · subst hj
          rw [List.getElem?_set_self']
          by_cases hr : j ∈ r
          · rw [ih hr]; cases τ[j]? <;> rfl
          · rw [wipe_out hr]; cases τ[j]? <;> rfl
        · rw [List.getElem?_set_ne hj]
          exact ih ((List.mem_cons.mp h).resolve_left (Ne.symm hj))
    rw [this _ _ hk, this _ _ hk]
    cases σ[k]? <;> rfl
  · rw [wipe_out hk]
theorem ev_lc {di : DI} {vs : List Nat} : ∀ σ H Q, tnOf K B (dLc vs di g dt da) σ H Q → tLc (tiOf K B di) (tgU K vs g) (ttU K dt) (teU K da) vs σ H Q := fun σ H Q ⟨F, pa, t, env, P, C, h, k⟩ => by
  refine ⟨F, pa, t, env, _, C, h, fun J items F1 pa1 t1 H1 g1 C1 iok q D hD => ?_⟩
  obtain ⟨Inv, h0, hstep, hd⟩ := q
  refine ⟨fun i m H => m = items.length - i ∧ i ≤ items.length ∧ ∃ F pa t acc us, Gr F1 pa1 F pa ∧ Cf K B F pa t env σ H ∧ Nw B F pa env σ D ∧ H D = some (.lst us) ∧ RelL K F pa acc us ∧ Inv i acc t,
    ⟨_, rfl, Nat.zero_le _, F1, pa1, t1, [], [], Gr.refl _ _, C1.loose _ hD, C1.nw hD, upd_same, RelL.nil, h0⟩, ?_⟩
  rintro i m H2 ⟨rfl, hi, F2, pa2, t2, acc, us, g2, C2, n2, e2, r2, q2⟩
  have io := iok B F2 pa2 t2 env σ H2 i g2 C2
  by_cases hlt : i < items.length
  · have hx : items[i]? = some items[i] := by simp [hlt]
    obtain ⟨go, yl⟩ := io.2 _ hx
    refine .inr ⟨go, fun H' => ∃ m', m' < items.length - i ∧ (m' = items.length - (i + 1) ∧ i + 1 ≤ items.length ∧ ∃ F pa t acc us, Gr F1 pa1 F pa ∧ Cf K B F pa t env σ H' ∧ Nw B F pa env σ D ∧ H' D = some (.lst us) ∧ RelL K F pa acc us ∧ Inv (i + 1) acc t), fun H' z => z, fun x H' y => ?_⟩
    obtain ⟨hk, F3, nw3, g3, C3, r3⟩ := yl x H' y
    have e3 : H' D = some (.lst us) := hk _ _ e2
    have dn : D ∉ (Bk F3 pa2 (wipeE env vs) (wipe σ vs) H').ex := fun z => by
      rcases List.mem_append.mp z with z | z
      · exact n2.a (mem_pa.mp z)
      · obtain ⟨j, d, h1, h2⟩ := mem_ownA.mp z
        obtain ⟨h1', hj⟩ := wipeE_some (by simp) h1
        have wo : (wipe σ vs)[j]? = σ[j]? := wipe_out hj
        rw [wo] at h2
        exact n2.s j d h1' h2
    have fD : F3 D = none := by
      cases z : F3 D with
      | none => rfl
      | some o =>
        rcases nw3 D o z with ⟨o', q⟩ | q
        · rw [n2.f] at q; cases q
        · rw [e2] at q; cases q
    have n3 : Nw B F3 pa2 env σ D := ⟨fD, n2.b, n2.a, n2.s⟩
    have CB := C3.block vs
    refine ⟨_, F3, pa2, t2, wipeE env vs, items[i], _, CB, r3, hstep i _ acc t2 hx q2, fun F4 pa4 t4 e4 σ4 H4 g4 C4 w4 q4 => ?_⟩
    obtain ⟨we, q4⟩ := q4
    have hs4 : wipe σ4 vs = wipe σ vs := w4.trans wipe_idem
    refine ⟨hs4, _, F4, pa4, t4, e4, _, C4, q4, fun k F5 pa5 t5 H5 g5 C5 q5 => ?_⟩
    have fin : ∀ {F6 : Hp} {pa6 : Option Addr} {t6 : Ts} {H6 : Hp}, Gr F3 pa2 F6 pa6 → Cf K (Bk F3 pa2 (wipeE env vs) (wipe σ vs) H') F6 pa6 t6 e4 σ4 H6 →
        Gr F1 pa1 F6 pa6 ∧ Cf K B F6 pa6 t6 env σ H6 ∧ Nw B F6 pa6 env σ D ∧ H6 D = some (.lst us) ∧ RelL K F6 pa6 acc us := fun {F6 pa6 t6 H6} g6 C6 => by
      obtain ⟨g7, C7⟩ := C3.join C6 we hs4
      have eD : H6 D = some (.lst us) := C6.frm D _ e3 dn
      refine ⟨(g2.trans g3).trans g7, C7, ⟨?_, n2.b, fun z => ?_, n2.s⟩, eD, RelL.mono (g3.trans g7) acc us r2⟩
      · cases z : F6 D with
        | none => rfl
        | some o =>
          rcases C6.new D o z with ⟨o', q⟩ | q
          · have q : F3 D = some o' := q
            rw [fD] at q; cases q
          · have q : H' D = none := q
            rw [e3] at q; cases q
      · rcases (C6.pen D z).2.2 with q | q
        · exact dn q
        · have q : H' D = none := q
          rw [e3] at q; cases q
    cases k with
    | true =>
      refine L2.iteT ?_
      refine ⟨_, F5, pa5, t5, e4, _, C5, q5, fun v d F6 pa6 t6 H6 g6 C6 r6 q6 => ?_⟩
      obtain ⟨hl, q6⟩ := q6
      obtain ⟨h1, h2, h3, h4, h5⟩ := fin ((g4.trans g5).trans g6) C6
      refine ⟨us, h4, by rw [h5.len]; exact zlt hl, _, by omega, rfl, hlt, F6, pa6, t6, acc ++ [d], us ++ [v], h1, h2.write h3, h3, upd_same, h5.append (.cons r6 .nil), q6⟩
    | false =>
      refine L2.iteF ?_
      obtain ⟨h1, h2, h3, h4, h5⟩ := fin (g4.trans g5) C5
      exact ⟨_, by omega, rfl, hlt, F5, pa5, t5, acc, us, h1, h2, h3, h4, h5, q5⟩
  · have e : i = items.length := by omega
    subst e
    exact .inl ⟨io.1 rfl, k D _ (.lst acc) F2 pa2 t2 H2 (g1.trans g2) C2 n2 e2 ⟨us, rfl, r2⟩ (hd acc t2 q2)⟩
theorem q_lc {elt tg iter : Expr} {ifs : List Expr} {scope : Scope} {own : List (Str × Nat)} {pos : Pos} {di : DI} (hc : X.calm = true) (hN : X.N.Nodup) (hi : QI X B tg iter di) (ok : BlkOk X.N X.env.scope scope own)
    (hg : ∀ (s : Shared) (H : Hp) (C : Addr) (cl : List (Str × Addr)) (fp : List Addr) (B : Bs), QG (X.blk s H scope (compEnvC scope cl C X.env) fp) B (own.map (·.2)) tg g) (ht : ∀ (s : Shared) (H : Hp) (C : Addr) (cl : List (Str × Addr)) (fp : List Addr), PTs (X.blk s H scope (compEnvC scope cl C X.env) fp) ifs (ttU X.K dt))
    (he : ∀ (s : Shared) (H : Hp) (C : Addr) (cl : List (Str × Addr)) (fp : List Addr) (B : Bs), QE (X.blk s H scope (compEnvC scope cl C X.env) fp) B elt da) (hs : ∀ x, foldedSetIterable iter X.env x = pure x := by intro _; rfl) :
    QN X B (.ListComp elt [⟨tg, iter, ifs, 0⟩] scope pos) (dLc (own.map (·.2)) di g dt da) :=
  PE.imp (pe_lc hc hN hi ok (fun s H C cl fp => pg_U fun B => hg s H C cl fp B) ht (fun s H C cl fp => pe_U fun B => he s H C cl fp B) hs) ev_lc
/-- name = [..], frozen at once -/
theorem q_setLc {i : Nat} {y : Str} {py : Pos} {elt tg iter : Expr} {ifs : List Expr} {scope : Scope} {own : List (Str × Nat)} {pos spos : Pos} {di : DI} (hc : X.calm = true) (hN : X.N.Nodup) (hy : X.N[i]? = some y) (hyl : X.env.scope.names.lookup y = some .local)
    (hsw : swapsWith (.ListComp elt [⟨tg, iter, ifs, 0⟩] scope pos) (some (.Name y py)) spos.line X.env = pure true) (hi : QI X B tg iter di) (ok : BlkOk X.N X.env.scope scope own)
    (hg : ∀ (s : Shared) (H : Hp) (C : Addr) (cl : List (Str × Addr)) (fp : List Addr) (B : Bs), QG (X.blk s H scope (compEnvC scope cl C X.env) fp) B (own.map (·.2)) tg g) (ht : ∀ (s : Shared) (H : Hp) (C : Addr) (cl : List (Str × Addr)) (fp : List Addr), PTs (X.blk s H scope (compEnvC scope cl C X.env) fp) ifs (ttU X.K dt))
    (he : ∀ (s : Shared) (H : Hp) (C : Addr) (cl : List (Str × Addr)) (fp : List Addr) (B : Bs), QE (X.blk s H scope (compEnvC scope cl C X.env) fp) B elt da) (hs : ∀ x, foldedSetIterable iter X.env x = pure x := by intro _; rfl) :
    QS X B (.Assign [.Name y py] (.ListComp elt [⟨tg, iter, ifs, 0⟩] scope pos) spos) (dAsg (dLc (own.map (·.2)) di g dt da) (Q.gName i)) :=
  PS.imp (ps_setLc hc hN hy hyl hsw hi ok (fun s H C cl fp => pg_U fun B => hg s H C cl fp B) ht (fun s H C cl fp => pe_U fun B => he s H C cl fp B) hs) fun De σ H ⟨F, pa, t, env, DD, C, h, R⟩ =>
    ev_lc σ H _ ⟨F, pa, t, env, _, C, h, fun p hh d F' pa' t' H' g' C' n e r q => by
      obtain ⟨g2, C2⟩ := C'.frz n e
      exact R.nx _ pa' t' _ _ H' (g'.trans g2) (C2.setV i (RelO1.rel (p := p) (RelO1.mono g2 d hh r) upd_same)) q⟩
theorem q_setLcN {i : Nat} {y : Str} {py : Pos} {elt tg iter : Expr} {ifs : List Expr} {scope : Scope} {own : List (Str × Nat)} {pos spos : Pos} {di : DI} (hc : X.calm = true) (hN : X.N.Nodup) (hy : X.N[i]? = some y) (hyl : X.env.scope.names.lookup y = some .local)
    (hsw : swapsWith (.ListComp elt [⟨tg, iter, ifs, 0⟩] scope pos) (some (.Name y py)) spos.line X.env = pure true) (hi : QI X B tg iter di) (ok : BlkOk X.N X.env.scope scope own)
    (hg : ∀ (s : Shared) (H : Hp) (C : Addr) (cl : List (Str × Addr)) (fp : List Addr) (B : Bs), QG (X.blk s H scope (compEnvC scope cl C X.env) fp) B (own.map (·.2)) tg g) (ht : ∀ (s : Shared) (H : Hp) (C : Addr) (cl : List (Str × Addr)) (fp : List Addr), PTs (X.blk s H scope (compEnvC scope cl C X.env) fp) ifs (ttU X.K dt))
    (he : ∀ (s : Shared) (H : Hp) (C : Addr) (cl : List (Str × Addr)) (fp : List Addr) (B : Bs), QE (X.blk s H scope (compEnvC scope cl C X.env) fp) B elt da) (hs : ∀ x, foldedSetIterable iter X.env x = pure x := by intro _; rfl) :
    QS X B (.Assign [.Name y py] (.ListComp elt [⟨tg, iter, ifs, 0⟩] scope pos) spos) (dAsgN i (dLc (own.map (·.2)) di g dt da)) :=
  PS.imp (ps_setLc hc hN hy hyl hsw hi ok (fun s H C cl fp => pg_U fun B => hg s H C cl fp B) ht (fun s H C cl fp => pe_U fun B => he s H C cl fp B) hs) fun De σ H ⟨F, pa, t, env, DD, C, h, R⟩ =>
    ev_lc σ H _ ⟨F, pa, t, env, _, C, h, fun p hh d F' pa' t' H' g' C' n e r q => R.nx F' pa' t' _ _ H' g' (C'.setN i n e r) q⟩
end
/-! ### a def keeps its promise -/
section
variable {P : Program} {w : World} {K : PySem.W.Frag} {mg : Str → Option Value} {base : Heap}
/-- the slots at the entry -/
theorem cf_start {F : Hp} {pa : Option Addr} {t : Ts} {H : Hp} {N : List Str} {ds : List D} {vs : List V} (C : Cf K (B0 F pa H) F pa t [] [] H) (r : RelL K F pa ds vs) : Cf K (B0 F pa H) F pa t (start0 N ds) (start N vs) H := by
  have hl := r.len
  have val : ∀ (i : Nat) (d : D), (start0 N ds)[i]? = some (Sl.val d) → ds[i]? = some d := fun i d e => by
    unfold start0 at e
    by_cases hi : i < ds.length
    · rw [List.getElem?_append_left (by simpa using hi), List.getElem?_map] at e
      cases q : ds[i]? with
      | none => rw [q] at e; cases e
      | some x => rw [q] at e; cases e; rfl
    · rw [List.getElem?_append_right (by simpa using hi), List.getElem?_replicate] at e
      split at e <;> cases e
  have noown : ∀ (i : Nat) (d : D), (start0 N ds)[i]? ≠ some (Sl.own d) := fun i d e => by
    unfold start0 at e
    by_cases hi : i < ds.length
    · rw [List.getElem?_append_left (by simpa using hi), List.getElem?_map] at e
      cases q : ds[i]? with
      | none => rw [q] at e; cases e
      | some x => rw [q] at e; cases e
    · rw [List.getElem?_append_right (by simpa using hi), List.getElem?_replicate] at e
      split at e <;> cases e
  refine ⟨by simp [start0, L2.start, hl], C.sub, C.bas, C.frm, C.new, C.exl, fun i d e => ?_, fun i d e => absurd e (noown i d), fun i j d e a q => absurd q (noown i d), C.pen, C.pnn⟩
  obtain ⟨v, h1, h2⟩ := r.get (val i d e)
  refine ⟨v, ?_, h2⟩
  unfold L2.start
  have hi : i < vs.length := (List.getElem?_eq_some_iff.mp h1).1
  rw [List.getElem?_append_left (by simpa using hi), List.getElem?_map, h1]
  rfl
/-- THE RULE for a def: its body's reading ds, and what ds does from the arguments -/
theorem fn_ok {x qual : Str} {st : Stmt} {f : Addr} {fd : FuncData} {N ps : List Str} {k : Nat} {sp : PSp} {ds : DS} (Fu : Fun K x qual st f fd) (S : FnScope N ps (defScope st)) (len : ∀ as t Q, sp as t Q → as.length = ps.length)
    (hbody : ∀ (cdv : Value) (A : Around) (outer : List PySem.Env) (s : Shared) (H : Hp) (E : XK) (B : Bs), Room k (A.deeper (envOfC qual (defScope st) s.heap.objs.size f cdv)) → B.Top → B.m = false →
      QSs (cxOf CX0 P w K mg base N qual (defScope st) f cdv A outer s H E).nox B (defBody st) ds)
    (hds : ∀ as t Q, sp as t Q → ds (endsOf Q) (start0 N as) t) : FnOk P w K mg base CX0 (k + 1) f fd ps (lift K sp) := by
  refine Fu.ok S (fun vs H Q E h => ?_) (fun cdv A outer s H vs Q E hr h => ?_)
  · obtain ⟨F, pa, t, as, R, C, r, q, _⟩ := h
    rw [r.len]; exact len as t R q
  · obtain ⟨F, pa, t, as, R, C, r, q, fin⟩ := h
    refine ⟨_, hbody cdv A outer s H E (B0 F pa H) hr (B0.top F pa H) rfl, F, pa, t, start0 N as, endsOf R, cf_start C r, hds as t R q, ⟨?_, ?_, ?_, ?_⟩⟩
    · intro F' pa' t' env σ H' g C' q'
      exact fin .non .non F' pa' t' H' C'.nil rD_non q'
    · intro v d F' pa' t' env σ H' g C' r' q'
      exact fin v d F' pa' t' H' C'.nil r' q'
    · intro F' pa' t' env σ H' g C' q'
      exact q'.elim
    · intro F' pa' t' env σ H' g C' q'
      exact q'.elim
/-- .. that tells back a new object -/
theorem fn_okN {x qual : Str} {st : Stmt} {f : Addr} {fd : FuncData} {N ps : List Str} {k : Nat} {sp : PSp} {ds : DS} (Fu : Fun K x qual st f fd) (S : FnScope N ps (defScope st)) (len : ∀ as t Q, sp as t Q → as.length = ps.length)
    (hbody : ∀ (cdv : Value) (A : Around) (outer : List PySem.Env) (s : Shared) (H : Hp) (E : XK) (B : Bs), Room k (A.deeper (envOfC qual (defScope st) s.heap.objs.size f cdv)) → B.Top → B.m = true →
      QSs (cxOf CX0 P w K mg base N qual (defScope st) f cdv A outer s H E).nox B (defBody st) ds)
    (hds : ∀ as t Q, sp as t Q → ds (endsN Q) (start0 N as) t) : FnOk P w K mg base CX0 (k + 1) f fd ps (liftN K sp) := by
  refine Fu.ok S (fun vs H Q E h => ?_) (fun cdv A outer s H vs Q E hr h => ?_)
  · obtain ⟨F, pa, t, as, R, C, r, q, _⟩ := h
    rw [r.len]; exact len as t R q
  · obtain ⟨F, pa, t, as, R, C, r, q, fin⟩ := h
    refine ⟨_, hbody cdv A outer s H E (B1 F pa H) hr (B1.top F pa H) rfl, F, pa, t, start0 N as, _, (cf_start C r).cong rfl rfl rfl rfl, hds as t R q, ⟨?_, ?_, ?_, ?_⟩⟩
    · intro F' pa' t' env σ H' g C' q'
      exact q'.elim
    · intro v d F' pa' t' env σ H' g C' r' q'
      rcases r' with ⟨rfl, rfl⟩ | ⟨p, h, rfl, n1, n2, n3, e, r'⟩
      · exact q'.elim
      have q2 : R d t' := by
        cases d with
        | non => exact q'.elim
        | _ => exact q'
      exact fin p h d F' pa' t' H' (C'.nil.cong rfl rfl rfl rfl) n1 n2 n3 e r' q2
    · intro F' pa' t' env σ H' g C' q'
      exact q'.elim
    · intro F' pa' t' env σ H' g C' q'
      exact q'.elim
/-- a new object may be taken frozen -/
theorem liftN.lift {sp : PSp} {vs : List V} {H : Hp} {Q : VK} {E : XK} (h : _root_.Q.lift K sp vs H Q E) : liftN K sp vs H Q E := by
  obtain ⟨F, pa, t, ds, R, C, r, q, fin⟩ := h
  refine ⟨F, pa, t, ds, R, C, r, q, fun p hh d F' pa' t' H' C' n1 n2 n3 e r' q' => ?_⟩
  have n : Nw (B0 F pa H) F' pa' [] [] p := ⟨n1, n2, n3, fun j e hj => by simp at hj⟩
  obtain ⟨g, C2⟩ := C'.frz n e
  exact fin (.ref p) d _ pa' t' H' C2 (RelO1.rel (RelO1.mono g d hh r') upd_same) q'
theorem fn_frz {f : Addr} {fd : FuncData} {ps : List Str} {k : Nat} {sp : PSp} {CX : CXT} (h : FnOk P w K mg base CX k f fd ps (liftN K sp)) : FnOk P w K mg base CX k f fd ps (lift K sp) := h.imp fun vs H Q E q => liftN.lift q
end
end Q

/-! QH7 -/
namespace Q
open PySem L2 PyProof.Rows
section
variable {X : Cx} {B : Bs} {K : PySem.W.Frag} {a b c e o i' : Expr} {es : List Expr} {pos : Pos} {da db dk dz : DE} {as : DA}
theorem keyD_v {F : Hp} {pa : Option Addr} {t : Ts} {env : En} {σ : L2.St} {H : Hp} {d : D} {v : V} {k : Ky} (W : Cf K B F pa t env σ H) (r : RelX K F pa env σ d v) (h : keyD d = some k) : v = kV k := by
  cases d with
  | int i => cases h; exact r.int W
  | str x => cases h; exact r.str W
  | _ => cases h
theorem getL_val {F : Hp} {pa : Option Addr} {k : Ky} : ∀ {ks : List Ky} {l : List D} {vs : List V}, RelL K F pa l vs → ks.length = vs.length → (∀ d, getL ks l k = some d → ∃ v, valV (ks.zip vs) k = some v ∧ RelD K F pa d v) ∧ (getL ks l k = none → valV (ks.zip vs) k = none)
  | [], l, vs, r, hl => ⟨fun d h => by simp [getL] at h, fun _ => by simp [valV]⟩
  | k' :: ks, [], vs, r, hl => by rw [r.inv0] at hl; simp at hl
  | k' :: ks, x :: l, vs, r, hl => by
    obtain ⟨v, vr, rfl, r1, r2⟩ := r.inv
    have hl' : ks.length = vr.length := by simpa using hl
    obtain ⟨h1, h2⟩ := getL_val (k := k) r2 hl'
    simp only [getL, List.zip_cons_cons]
    by_cases e : k' = k
    · rw [if_pos e, valV_pos (p := (k', v)) e]
      exact ⟨fun d h => by cases h; exact ⟨v, rfl, r1⟩, fun h => by cases h⟩
    · rw [if_neg e, valV_neg (p := (k', v)) e]
      exact ⟨h1, h2⟩
theorem any_zip {k : Ky} : ∀ {ks : List Ky} {vs : List V}, ks.length = vs.length → ((ks.zip vs).any fun kv => decide (kv.1 = k)) = ks.any fun x => decide (x = k)
  | [], vs, _ => by simp
  | k' :: ks, [], h => by simp at h
  | k' :: ks, v :: vs, h => by
    simp only [List.zip_cons_cons, List.any_cons]
    rw [any_zip (by simpa using h)]
theorem putL_zip {F : Hp} {pa : Option Addr} {k : Ky} {y : D} {u : V} (ry : RelD K F pa y u) {ks : List Ky} {l : List D} {vs : List V} (r : RelL K F pa l vs) (hl : ks.length = vs.length) : ∃ ws, putK (ks.zip vs) k u = (putKs ks k).zip ws ∧ (putKs ks k).length = ws.length ∧ RelL K F pa (putL ks l k y) ws := by
  have go : ∀ (ks : List Ky) (l : List D) (vs : List V), RelL K F pa l vs → ks.length = vs.length → ∃ ws, (ks.zip vs).map (fun kv => if kv.1 = k then (kv.1, u) else kv) = ks.zip ws ∧ ks.length = ws.length ∧ RelL K F pa (repL ks l k y) ws := by
    intro ks
    induction ks with
    | nil =>
      intro l vs r hl
      refine ⟨[], rfl, rfl, ?_⟩
      cases l <;> exact RelL.nil
    | cons k' ks ih =>
      intro l vs r hl
      cases l with
      | nil => rw [r.inv0] at hl; simp at hl
      | cons x l =>
        obtain ⟨v, vr, rfl, r1, r2⟩ := r.inv
        have hl' : ks.length = vr.length := by simpa using hl
        obtain ⟨ws, q1, q2, q3⟩ := ih l vr r2 hl'
        by_cases e : k' = k
        · refine ⟨u :: ws, ?_, by simpa using q2, ?_⟩
          · simp only [List.zip_cons_cons, List.map_cons, if_pos e, q1]
          · show RelL K F pa ((if k' = k then y else x) :: repL ks l k y) _
            rw [if_pos e]
            exact RelL.cons ry q3
        · refine ⟨v :: ws, ?_, by simpa using q2, ?_⟩
          · simp only [List.zip_cons_cons, List.map_cons, if_neg e, q1]
          · show RelL K F pa ((if k' = k then y else x) :: repL ks l k y) _
            rw [if_neg e]
            exact RelL.cons r1 q3
  unfold putK putKs putL hasK
  rw [any_zip hl]
  cases q : ks.any fun x => decide (x = k) with
  | true =>
    simp only [if_true]
    exact go ks l vs r hl
  | false =>
    simp only [Bool.false_eq_true, if_false]
    refine ⟨vs ++ [u], ?_, by simp [hl], r.append (.cons ry .nil)⟩
    rw [List.zip_append hl]; rfl
theorem q_dget (hu : X.A.units + 1 < cLine) (ho : QV X B o da) (hi : QV X B i' dk) (hs : NoSl i') : QE X B (.Subscript o i' pos) (dDGet da dk) := PE.imp (pe_dget hu ho hi hs) fun σ H Q ⟨F, pa, t, env, P, C, h, k⟩ =>
  ⟨F, pa, t, env, _, C, h, fun v d F1 pa1 t1 H1 g1 C1 r1 q1 => ⟨F1, pa1, t1, env, _, C1, q1, fun u y F2 pa2 t2 H2 g2 C2 r2 q2 => by
    cases d with
    | dic ks l =>
      have q2 : (match keyD y with | some k => ∃ d, getL ks l k = some d ∧ P d t2 | none => False) := q2
      cases hk : keyD y with
      | none => rw [hk] at q2; exact q2.elim
      | some kk =>
        rw [hk] at q2
        obtain ⟨d, hd, q2⟩ := q2
        obtain ⟨a, vs, rfl, e, hl, r⟩ := (r1.mono g2).dic C2
        obtain ⟨w, hw, rw'⟩ := (getL_val r hl).1 d hd
        refine ⟨a, w, rfl, ?_, k w d F2 pa2 t2 H2 (g1.trans g2) C2 rw' q2⟩
        rw [← hw, keyD_v C2 r2 hk]
        exact DGet.k e
    | _ => exact False.elim q2⟩⟩
theorem q_dget2 {apos cpos : Pos} {f : Expr} (hu : X.A.units + 1 < cLine) (ho : QV X B o da) (he : QV X B e dk) (hf : QE X B f dz) (m : M2 X o "get" apos e f cpos) : QE X B (.Call (.Attribute o "get" apos) [e, f] [] cpos) (dDGet2 da dk dz) := PE.imp (pe_dget2 hu ho he hf m) fun σ H Q ⟨F, pa, t, env, P, C, h, k⟩ =>
  ⟨F, pa, t, env, _, C, h, fun v d F1 pa1 t1 H1 g1 C1 r1 q1 => by
    cases d with
    | dic ks l =>
      obtain ⟨a, vs, rfl, e1, _, _⟩ := r1.dic C1
      refine ⟨a, rfl, .inl ⟨_, .inl e1⟩, F1, pa1, t1, env, _, C1, q1, fun u y F2 pa2 t2 H2 g2 C2 r2 q2 => ⟨F2, pa2, t2, env, _, C2, q2, fun w z F3 pa3 t3 H3 g3 C3 r3 q3 => ?_⟩⟩
      have q3 : (match keyD y with | some k => P ((getL ks l k).getD z) t3 | none => False) := q3
      cases hk : keyD y with
      | none => rw [hk] at q3; exact q3.elim
      | some kk =>
        rw [hk] at q3
        obtain ⟨a', us, ea, e, hl, r⟩ := ((r1.mono g2).mono g3).dic C3
        cases ea
        have dg : DGet H3 a (kV kk) (valV (ks.zip us) kk) := DGet.k e
        rw [← keyD_v C3 (r2.mono g3) hk] at dg
        refine ⟨_, dg, ?_⟩
        cases hd : getL ks l kk with
        | some d =>
          obtain ⟨w', hw, rw'⟩ := (getL_val r hl).1 d hd
          have q3 : P ((getL ks l kk).getD z) t3 := q3
          rw [hw]
          rw [hd] at q3
          exact k w' d F3 pa3 t3 H3 ((g1.trans g2).trans g3) C3 rw' q3
        | none =>
          have q3 : P ((getL ks l kk).getD z) t3 := q3
          rw [(getL_val r hl).2 hd]
          rw [hd] at q3
          exact k w z F3 pa3 t3 H3 ((g1.trans g2).trans g3) C3 r3 q3
    | _ => exact False.elim q1⟩
theorem get_ownD {env : En} {i : Nat} {p : List Ky → List D → Prop} (h : match env[i]? with | some (.own (.dic ks l)) => p ks l | _ => False) : ∃ ks l, env[i]? = some (Sl.own (.dic ks l)) ∧ p ks l := by
  split at h
  · rename_i ks l e; exact ⟨ks, l, e, h⟩
  · exact h.elim
theorem own_dic {F : Hp} {pa : Option Addr} {t : Ts} {env : En} {σ : L2.St} {H : Hp} {i : Nat} {ks : List Ky} {l : List D} (C : Cf K B F pa t env σ H) (h : env[i]? = some (Sl.own (.dic ks l))) : ∃ a vs, σ[i]? = some (some (V.ref a)) ∧ H a = some (.dK (ks.zip vs)) ∧ ks.length = vs.length ∧ RelL K F pa l vs := by
  obtain ⟨a, u, h1, h2, h3, _⟩ := C.own i _ h
  obtain ⟨vs, rfl, q, z⟩ := h3
  exact ⟨a, vs, h1, h2, q, z⟩
/-- d[k] = e -/
theorem q_dput {i : Nat} {x : Str} {p pos' : Pos} (hu : X.A.units + 1 < cLine) (hx : PE X (.Name x p) (tVar i)) (hk : QV X B i' dk) (he : QE X B e da) (hs : swapsWith e (some (.Subscript (.Name x p) i' pos')) pos.line X.env = pure false := by rfl) : QS X B (.Assign [.Subscript (.Name x p) i' pos'] e pos) (dDPut i dk da) :=
  PS.imp (ps_dput hu hx hk he hs) fun De σ H ⟨F, pa, t, env, DD, C, h, R⟩ => ⟨F, pa, t, env, _, C, h, fun w y F' pa' t' H' g' C' r2 q2 => by
    obtain ⟨ks, l, hi, q2⟩ := get_ownD q2
    obtain ⟨a, vs, s1, e1, _, _⟩ := own_dic C' hi
    refine ⟨.ref a, s1, F', pa', t', env, _, C', q2, fun u z F2 pa2 t2 H2 g2 C2 r3 q3 => ?_⟩
    have q3 : (match keyD z with | some k => ks.length < zLen ∧ DD.nx (env.set i (.own (.dic (putKs ks k) (putL ks l k y)))) t2 | none => False) := q3
    cases hkk : keyD z with
    | none => rw [hkk] at q3; exact q3.elim
    | some kk =>
      rw [hkk] at q3
      obtain ⟨hl, q3⟩ := q3
      obtain ⟨a', us, s2, e2, hl2, r4⟩ := own_dic C2 hi
      rw [s1] at s2; cases s2
      obtain ⟨ws, z1, z2, z3⟩ := putL_zip (k := kk) (RelD.mono g2 y w r2) r4 hl2
      refine ⟨a, _, rfl, by rw [keyD_v C2 r3 hkk]; exact DPut.k e2 (by rw [List.length_zip, ← hl2, Nat.min_self]; exact zlt hl), ?_⟩
      rw [z1]
      exact R.nx F2 pa2 t2 _ σ _ (g'.trans g2) (C2.wrO (d' := .dic (putKs ks kk) (putL ks l kk y)) hi s1 ⟨ws, rfl, z2, z3⟩) q3⟩
/-- {} -/
theorem q_dnew : QN X B (.Dict [] [] pos) (dC (.dic [] [])) := PE.imp pe_dnewK fun σ H Q ⟨F, pa, t, env, P, C, h, k⟩ => fun p hp =>
  k p _ (.dic [] []) F pa t _ (Gr.refl _ _) (C.loose _ hp) (C.nw hp) upd_same ⟨[], rfl, rfl, RelL.nil⟩ h
end
end Q

/-! QH8 -/
namespace Q
open PySem L2 PyProof.Rows
section
variable {X : Cx} {B : Bs} {K : PySem.W.Frag} {a b c e o i' : Expr} {es : List Expr} {pos : Pos} {da db dk dz : DE} {as : DA}
/-- the readings of a display's pairs -/
def dispT (K : PySem.W.Frag) (l : List (Str × DE)) : List (TE × TE) := l.map fun p => (tC (.str p.1), teU K p.2)
theorem q_pnil : PPs X pos [] [] (dispT X.K []) := pps_nil
theorem q_pcons {k : Str} {j : Nat} {p : Pos} {ks : List (Option Expr)} {vs : List Expr} {l : List (Str × DE)} (hv : ∀ B, QE X B e da) (hr : PPs X pos ks vs (dispT X.K l)) : PPs X pos (some (.Constant (.str k) j p) :: ks) (e :: vs) (dispT X.K ((k, da) :: l)) :=
  pps_cons pe_str (pe_U hv) hr
theorem ev_disp {l : List (Str × DE)} : ∀ {σ : L2.St} {F : Hp} {pa : Option Addr} {t : Ts} {env : En} {H : Hp} {P : List D → Ts → Prop} {Q : List (V × V) → Hp → Prop} {D : Addr} {h : HO}, Cf K B F pa t env σ H → Nw B F pa env σ D → H D = some h → dDispL l env t P →
    (∀ vs ds F' pa' t' H', Gr F pa F' pa' → Cf K B F' pa' t' env σ H' → Nw B F' pa' env σ D → H' D = some h → RelL K F' pa' ds vs → ds.length = l.length → P ds t' → Q ((l.map fun p => V.str p.1).zip vs) H') → tPairs (dispT K l) σ H Q := by
  induction l with
  | nil =>
    intro σ F pa t env H P Q D h C n e hd k
    exact k [] [] F pa t H (Gr.refl _ _) C n e RelL.nil rfl hd
  | cons p l ih =>
    intro σ F pa t env H P Q D h C n e hd k
    have CB := C.block []
    have dn : D ∉ (Bk F pa (wipeE env []) (wipe σ []) H).ex := fun z => by
      rcases List.mem_append.mp z with z | z
      · exact n.a (mem_pa.mp z)
      · obtain ⟨j, d, h1, h2⟩ := mem_ownA.mp z
        exact n.s j d h1 h2
    refine ⟨_, F, pa, t, env, _, CB, hd, fun v d F1 pa1 t1 H1 g1 C1 r1 q1 => ?_⟩
    obtain ⟨g, C2⟩ := C.join (vs := []) C1 rfl rfl
    have e1 : H1 D = some h := C1.frm D _ e dn
    have n1 : Nw B F1 pa1 env σ D := by
      refine ⟨?_, n.b, fun z => ?_, n.s⟩
      · cases z : F1 D with
        | none => rfl
        | some o =>
          rcases C1.new D o z with ⟨o', q⟩ | q
          · have q : F D = some o' := q
            rw [n.f] at q; cases q
          · have q : H D = none := q
            rw [e] at q; cases q
      · rcases (C1.pen D z).2.2 with q | q
        · exact dn q
        · have q : H D = none := q
          rw [e] at q; cases q
    exact ih C2 n1 e1 q1 fun vs ds F2 pa2 t2 H2 g2 C3 n3 e3 r3 l3 q3 => k (v :: vs) (d :: ds) F2 pa2 t2 H2 (g.trans g2) C3 n3 e3 (.cons (RelD.mono g2 d v r1) r3) (by simp [l3]) q3
theorem merge_nd : ∀ {more acc : List (L2.Key × V)}, ((acc ++ more).map (·.1)).Nodup → mergeK acc more = acc ++ more
  | [], acc, _ => by simp [mergeK]
  | p :: more, acc, h => by
    have : valV acc p.1 = none := by
      cases q : valV acc p.1 with
      | none => rfl
      | some v =>
        exfalso
        have hm : p.1 ∈ acc.map (·.1) := by
          unfold valV at q
          cases z : acc.find? (fun kv => decide (kv.1 = p.1)) with
          | none => rw [z] at q; cases q
          | some x =>
            have h1 := List.mem_of_find?_eq_some z
            have h2 := List.find?_some z
            exact List.mem_map.mpr ⟨x, h1, of_decide_eq_true h2⟩
        rw [List.map_append, List.nodup_append] at h
        exact h.2.2 _ hm _ (List.mem_cons_self ..) rfl
    show mergeK (putK acc p.1 p.2) more = _
    rw [putK_new p.2 this, merge_nd (by simpa using h)]
    simp
theorem q_disp {keys : List (Option Expr)} {values : List Expr} {l : List (Str × DE)} (h : PPs X pos keys values (dispT X.K l)) (nd : (l.map fun p => p.1).Nodup) (h15 : l.length ≤ 15) (hall : keys.all (·.isSome) = true := by rfl) (hl : keys.length = values.length := by rfl) (h0 : keys ≠ [] := by exact fun z => nomatch z)
    (h15' : keys.length ≤ 15 := by decide) : QN X B (.Dict keys values pos) (dDisp l) := PE.imp (pe_disp h hall hl h0 h15') fun σ H Q ⟨F, pa, t, env, P, C, hd, k⟩ => fun p hp => by
  refine ev_disp (C.loose _ hp) (C.nw hp) upd_same hd fun vs ds F' pa' t' H' g C' n e r ld q => ?_
  have hlen : vs.length = l.length := by rw [r.len, ld]
  have e1 : ∀ (l : List (Str × DE)) (vs : List V), (l.map fun p => V.str p.1).zip vs = ((l.map fun p => (Sum.inr p.1 : L2.Key)).zip vs).map fun kv => (kV kv.1, kv.2) := by
    intro l
    induction l with
    | nil => intro vs; rfl
    | cons x l ih =>
      intro vs
      cases vs with
      | nil => rfl
      | cons v vs => simp only [List.map_cons, List.zip_cons_cons, ih vs]; rfl
  have nd2 : (((l.map fun p => (Sum.inr p.1 : L2.Key)).zip vs).map (·.1)).Nodup := by
    rw [List.map_fst_zip (by simp [hlen])]
    have : (l.map fun p => (Sum.inr p.1 : L2.Key)) = (l.map fun p => p.1).map Sum.inr := by simp
    rw [this]
    exact List.Pairwise.map _ (fun a b h z => h (Sum.inr.inj z)) nd
  have e2 := merge_nd (more := (l.map fun p => (Sum.inr p.1 : L2.Key)).zip vs) (acc := []) (by simpa using nd2)
  refine ⟨e, (l.map fun p => (Sum.inr p.1 : L2.Key)).zip vs, e1 l vs, by rw [List.length_zip]; simp; omega, ?_⟩
  rw [e2]
  exact k p _ _ F' pa' t' _ g (C'.write n) n upd_same (show RelO1 X.K F' pa' (.dic (l.map fun p => .inr p.1) ds) _ from ⟨vs, rfl, by simp [hlen], r⟩) q
end
end Q

/-! QH9 -/
namespace Q
open PySem L2 PyProof.Rows
section
variable {X : Cx} {B : Bs} {K : PySem.W.Frag} {a b c e o i' : Expr} {es : List Expr} {pos : Pos} {da db dk dz : DE} {as : DA}
theorem Cf.wrPen {F : Hp} {pa : Option Addr} {t t' : Ts} {env : En} {σ : L2.St} {H : Hp} (C : Cf K B F pa t env σ H) {a : Addr} {h : HO} (e : pa = some a) (p : PenOk F t' h) : Cf K B F pa t' env σ (upd H a h) := by
  obtain ⟨f0, ⟨h0, e0, _⟩, x0⟩ := C.pen a e
  have nb : ∀ {c : Addr} {u : HO}, F c = some u → c ≠ a := fun z => ne_of_none z f0
  refine ⟨C.len, fun c u q => by rw [upd_ne (nb q)]; exact C.sub c u q, C.bas, fun c u q hx => ?_, C.new, fun c hc => ?_, C.val, fun i d q => ?_, C.sep, fun c q => ?_, C.pnn⟩
  · rw [upd_ne ?_]
    · exact C.frm c u q hx
    · rintro rfl
      rcases x0 with z | z
      · exact hx z
      · rw [z] at q; cases q
  · by_cases hc' : c = a
    · subst hc'; exact ⟨h, upd_same⟩
    · obtain ⟨u, q⟩ := C.exl c hc
      exact ⟨u, by rw [upd_ne hc']; exact q⟩
  · obtain ⟨c, u, h1, h2, h3, h4, h5, h6⟩ := C.own i d q
    refine ⟨c, u, h1, ?_, h3, h4, h5, h6⟩
    rw [upd_ne ?_]
    · exact h2
    · rintro rfl
      exact h5 e
  · rw [e] at q; cases q
    exact ⟨f0, ⟨h, upd_same, p⟩, x0⟩
theorem pen_at {F : Hp} {pa : Option Addr} {t : Ts} {env : En} {σ : L2.St} {H : Hp} {v : V} (C : Cf K B F pa t env σ H) (r : RelX K F pa env σ .pen v) : ∃ a ca, v = .ref a ∧ pa = some a ∧ H a = some (.dK (penRows t ca)) ∧ F ca = some (.lst (t.cells.map V.int)) := by
  rcases r with r | ⟨i, h1, h2⟩
  · unfold RelD at r
    obtain ⟨a, e, rfl⟩ := r
    obtain ⟨_, ⟨h, q, ca, rfl, z⟩, _⟩ := C.pen a e
    exact ⟨a, ca, rfl, e, q, z⟩
  · obtain ⟨a, h, s1, q, z, _⟩ := C.own i _ h1
    exact z.elim
theorem q_penC {j : Nat} {p1 : Pos} (hu : X.A.units + 1 < cLine) (ho : QV X B o da) (hs : NoSl (.Constant (.str "cells") j p1)) : QE X B (.Subscript o (.Constant (.str "cells") j p1) pos) (dPenC da) := PE.imp (pe_dget hu ho (pe_str (x := "cells")) hs) fun σ H Q ⟨F, pa, t, env, P, C, h, k⟩ =>
  ⟨F, pa, t, env, _, C, h, fun v d F1 pa1 t1 H1 g1 C1 r1 q1 => by
    cases d with
    | pen =>
      obtain ⟨a, ca, rfl, e, q, z⟩ := pen_at C1 r1
      refine ⟨a, .ref ca, rfl, ?_, k _ _ F1 pa1 t1 H1 g1 C1 (by unfold RelD; exact ⟨ca, _, rfl, z, RelL.of_ints _⟩) q1⟩
      have dg := DGet.k (k := Sum.inr "cells") q
      have : valV (penRows t1 ca) (Sum.inr "cells" : L2.Key) = some (.ref ca) := by
        unfold penRows; split <;> exact valV_pos rfl
      rw [this] at dg
      exact dg
    | _ => exact q1.elim⟩
theorem val2 {k1 k2 k3 : Str} {v1 v2 v3 : V} (h : ¬ k1 = k2) : valV [((Sum.inr k1 : L2.Key), v1), (.inr k2, v2), (.inr k3, v3)] (.inr k2) = some v2 := by
  rw [valV_neg (fun z => h (Sum.inr.inj z)), valV_pos rfl]
theorem val3 {k1 k2 k3 : Str} {v1 v2 v3 : V} (h : ¬ k1 = k3) (h' : ¬ k2 = k3) : valV [((Sum.inr k1 : L2.Key), v1), (.inr k2, v2), (.inr k3, v3)] (.inr k3) = some v3 := by
  rw [valV_neg (fun z => h (Sum.inr.inj z)), valV_neg (fun z => h' (Sum.inr.inj z)), valV_pos rfl]
theorem put2 {k1 k2 k3 : Str} {v1 v2 v3 y : V} (h : ¬ k1 = k2) (h' : ¬ k3 = k2) : putK [((Sum.inr k1 : L2.Key), v1), (.inr k2, v2), (.inr k3, v3)] (.inr k2) y = [(.inr k1, v1), (.inr k2, y), (.inr k3, v3)] := by
  have e1 : ¬ ((Sum.inr k1 : L2.Key) = Sum.inr k2) := fun z => h (Sum.inr.inj z)
  have e3 : ¬ ((Sum.inr k3 : L2.Key) = Sum.inr k2) := fun z => h' (Sum.inr.inj z)
  simp [putK, e1, e3, h, h']
theorem put3 {k1 k2 k3 : Str} {v1 v2 v3 y : V} (h : ¬ k1 = k3) (h' : ¬ k2 = k3) : putK [((Sum.inr k1 : L2.Key), v1), (.inr k2, v2), (.inr k3, v3)] (.inr k3) y = [(.inr k1, v1), (.inr k2, v2), (.inr k3, y)] := by
  simp [putK, h, h']
theorem q_penA {b : Bool} {kw : Str} {j : Nat} {p1 : Pos} (hu : X.A.units + 1 < cLine) (ho : QV X B o da) (hk : kw = (if b then "turn" else "at" : Str)) (hs : NoSl (.Constant (.str kw) j p1)) : QE X B (.Subscript o (.Constant (.str kw) j p1) pos) (dPenA b da) := PE.imp (pe_dget hu ho (pe_str (x := kw)) hs) fun σ H Q ⟨F, pa, t, env, P, C, h, k⟩ =>
  ⟨F, pa, t, env, _, C, h, fun v d F1 pa1 t1 H1 g1 C1 r1 q1 => by
    cases d with
    | pen =>
      obtain ⟨hb, q1⟩ := q1
      obtain ⟨a, ca, rfl, e, q, z⟩ := pen_at C1 r1
      refine ⟨a, .int t1.at', rfl, ?_, k _ _ F1 pa1 t1 H1 g1 C1 (rD_int _) q1⟩
      have dg := DGet.k (k := Sum.inr kw) q
      have : valV (penRows t1 ca) (Sum.inr kw : L2.Key) = some (.int t1.at') := by
        unfold penRows
        rw [hb, hk]
        cases b
        · exact val2 (by decide +kernel)
        · exact val2 (by decide +kernel)
      rw [this] at dg
      exact dg
    | _ => exact q1.elim⟩
theorem q_penL {b : Bool} {kw : Str} {j : Nat} {p1 : Pos} (hu : X.A.units + 1 < cLine) (ho : QV X B o da) (hk : kw = (if b then "rest" else "left" : Str)) (hs : NoSl (.Constant (.str kw) j p1)) : QE X B (.Subscript o (.Constant (.str kw) j p1) pos) (dPenL b da) := PE.imp (pe_dget hu ho (pe_str (x := kw)) hs) fun σ H Q ⟨F, pa, t, env, P, C, h, k⟩ =>
  ⟨F, pa, t, env, _, C, h, fun v d F1 pa1 t1 H1 g1 C1 r1 q1 => by
    cases d with
    | pen =>
      obtain ⟨hb, q1⟩ := q1
      obtain ⟨a, ca, rfl, e, q, z⟩ := pen_at C1 r1
      refine ⟨a, .int t1.left, rfl, ?_, k _ _ F1 pa1 t1 H1 g1 C1 (rD_int _) q1⟩
      have dg := DGet.k (k := Sum.inr kw) q
      have : valV (penRows t1 ca) (Sum.inr kw : L2.Key) = some (.int t1.left) := by
        unfold penRows
        rw [hb, hk]
        cases b
        · exact val3 (by decide +kernel) (by decide +kernel)
        · exact val3 (by decide +kernel) (by decide +kernel)
      rw [this] at dg
      exact dg
    | _ => exact q1.elim⟩
theorem pen_name {F : Hp} {pa : Option Addr} {t : Ts} {env : En} {σ : L2.St} {H : Hp} {i : Nat} {p : Prop} (C : Cf K B F pa t env σ H) (h : match env[i]? with | some (.val .pen) => p | _ => False) : p ∧ ∃ a ca, σ[i]? = some (some (V.ref a)) ∧ pa = some a ∧ H a = some (.dK (penRows t ca)) ∧ F ca = some (.lst (t.cells.map V.int)) := by
  split at h
  · rename_i e
    obtain ⟨v, h1, h2⟩ := C.val i _ e
    obtain ⟨a, ca, rfl, r⟩ := pen_at C (.inl h2)
    exact ⟨h, a, ca, h1, r⟩
  · exact h.elim
theorem q_putA {b : Bool} {kw : Str} {i : Nat} {x : Str} {j : Nat} {p p1 pos' : Pos} (hu : X.A.units + 1 < cLine) (hx : PE X (.Name x p) (tVar i)) (he : QE X B e da) (hk : kw = (if b then "turn" else "at" : Str)) (hs : swapsWith e (some (.Subscript (.Name x p) (.Constant (.str kw) j p1) pos')) pos.line X.env = pure false := by rfl) :
    QS X B (.Assign [.Subscript (.Name x p) (.Constant (.str kw) j p1) pos'] e pos) (dPutA b i da) :=
  PS.imp (ps_dput hu hx (pe_str (x := kw)) he hs) fun De σ H ⟨F, pa, t, env, DD, C, h, R⟩ => ⟨F, pa, t, env, _, C, h, fun w y F' pa' t' H' g' C' r2 q2 => by
    cases y with
    | int n =>
      unfold RelD at r2
      subst r2
      obtain ⟨⟨hb, q2⟩, a, ca, s1, e1, q, z⟩ := pen_name C' q2
      refine ⟨.ref a, s1, a, _, rfl, DPut.k (k := Sum.inr kw) q (by unfold penRows; rw [sizeLine_eq]; split <;> simp), ?_⟩
      refine R.nx F' pa' ⟨t'.cells, n, t'.left, t'.tape⟩ env σ _ g' (C'.wrPen (t' := ⟨t'.cells, n, t'.left, t'.tape⟩) e1 ⟨ca, ?_, z⟩) q2
      unfold penRows
      rw [hb, hk]
      cases b
      · exact congrArg HO.dK (put2 (k1 := "cells") (k2 := "at") (k3 := "left") (by decide +kernel) (by decide +kernel))
      · exact congrArg HO.dK (put2 (k1 := "cells") (k2 := "turn") (k3 := "rest") (by decide +kernel) (by decide +kernel))
    | _ => exact q2.elim⟩
theorem q_putL {b : Bool} {kw : Str} {i : Nat} {x : Str} {j : Nat} {p p1 pos' : Pos} (hu : X.A.units + 1 < cLine) (hx : PE X (.Name x p) (tVar i)) (he : QE X B e da) (hk : kw = (if b then "rest" else "left" : Str)) (hs : swapsWith e (some (.Subscript (.Name x p) (.Constant (.str kw) j p1) pos')) pos.line X.env = pure false := by rfl) :
    QS X B (.Assign [.Subscript (.Name x p) (.Constant (.str kw) j p1) pos'] e pos) (dPutL b i da) :=
  PS.imp (ps_dput hu hx (pe_str (x := kw)) he hs) fun De σ H ⟨F, pa, t, env, DD, C, h, R⟩ => ⟨F, pa, t, env, _, C, h, fun w y F' pa' t' H' g' C' r2 q2 => by
    cases y with
    | int n =>
      unfold RelD at r2
      subst r2
      obtain ⟨⟨hb, q2⟩, a, ca, s1, e1, q, z⟩ := pen_name C' q2
      refine ⟨.ref a, s1, a, _, rfl, DPut.k (k := Sum.inr kw) q (by unfold penRows; rw [sizeLine_eq]; split <;> simp), ?_⟩
      refine R.nx F' pa' ⟨t'.cells, t'.at', n, t'.tape⟩ env σ _ g' (C'.wrPen (t' := ⟨t'.cells, t'.at', n, t'.tape⟩) e1 ⟨ca, ?_, z⟩) q2
      unfold penRows
      rw [hb, hk]
      cases b
      · exact congrArg HO.dK (put3 (k1 := "cells") (k2 := "at") (k3 := "left") (by decide +kernel) (by decide +kernel))
      · exact congrArg HO.dK (put3 (k1 := "cells") (k2 := "turn") (k3 := "rest") (by decide +kernel) (by decide +kernel))
    | _ => exact q2.elim⟩
end
/-! ### the law's own def -/
section
variable {P : Program} {w : World} {K : PySem.W.Frag} {mg : Str → Option Value} {base : Heap}
/-- the law's promise -/
def spLaw (K : PySem.W.Frag) : Sp := fun vs H Q _ => ∃ (a : Addr) (ns : List Int), vs = [.ref a] ∧ Only H ∧ SqL K H a (ns.map V.int) ∧ ns.length ≤ 63 ∧ ∀ H', Q (.bl true) H'
/-- the frozen part at the entry: nothing but what may be the script -/
theorem law_body {qual : Str} {st : Stmt} {f : Addr} {N : List Str} {i : Nat} {s0 : Stmt} {rest : List Stmt} {dp : DE} {ds : DS} (hst : defBody st = s0 :: rest) {cdv : Value} {A : Around} {outer : List PySem.Env} {s : Shared} {H : Hp} {vs : List V} {Q : VK} {E : XK}
    (hfirst : ∀ B : Bs, PS (cxOf CX0 P w K mg base N qual (defScope st) f cdv A outer s H E).nox s0 (tAsg (tnOf K B dp) (L2.gName i)))
    (hbody : ∀ B : Bs, B.Top → B.m = false → QSs (cxOf CX0 P w K mg base N qual (defScope st) f cdv A outer s H E).nox B rest ds)
    (hi : i ≠ 0 ∧ i < N.length) (tape : Bool)
    (hds : ∀ ns : List Int, ns.length ≤ 63 → dp (start0 N [.scr ns]) ⟨[], 0, 0, false⟩ fun d _ => ∃ cs : List Int, d = .dic (if tape then [.inr "cells", .inr "turn", .inr "rest"] else [.inr "cells", .inr "at", .inr "left"]) [.lst (cs.map .int), .int 0, .int 0] ∧ cs.length ≤ 63 ∧
      ds (endsOf fun d _ => d = .bl true) ((start0 N [.scr ns]).set i (.val .pen)) ⟨cs, 0, 0, tape⟩) (h : spLaw K vs H Q E) :
    ∃ t, PSs (cxOf CX0 P w K mg base N qual (defScope st) f cdv A outer s H E).nox (defBody st) t ∧ t { nx := fun _ H' => Q .non H', rt := Q } (start N vs) H := by
  obtain ⟨a, ns, rfl, hO, hS, hl, fin⟩ := h
  rw [hst]
  have hall : PSs (cxOf CX0 P w K mg base N qual (defScope st) f cdv A outer s H E).nox rest (fun De σ H' => ∃ p' : Addr, tsOf K ⟨fun _ => none, fun _ => none, [], some p', false⟩ ds De σ H') := ⟨fun pins s' σ H' De I ⟨p', q⟩ => (hbody ⟨fun _ => none, fun _ => none, [], some p', false⟩ (fun a ha => by simp at ha) rfl).run pins s' σ H' De I q⟩
  refine ⟨_, pss_cons (hfirst (B0 H none H)) hall, ?_⟩
  have C0 : Cf K (B0 H none H) H none ⟨[], 0, 0, false⟩ [] [] H := ⟨rfl, fun _ _ e => e, fun _ _ e => e, fun _ _ e _ => e, fun a o e => .inl ⟨o, e⟩, fun a ha => by simp [B0] at ha, fun i d e => by simp at e, fun i d e => by simp at e, fun i j d e a q => by simp at q, fun a e => by simp at e, rfl⟩
  have rs : RelL K H none [.scr ns] [.ref a] := .cons (by unfold RelD; exact ⟨a, rfl, hS⟩) .nil
  refine ⟨H, none, _, _, _, cf_start C0 rs, hds ns hl, fun p' h d F' pa' t' H' g C' n e r q => ?_⟩
  obtain ⟨cs, rfl, hcs, q⟩ := q
  obtain ⟨us, rfl, hlen, rl⟩ := r
  obtain ⟨v1, u1, rfl, r1, rl⟩ := rl.inv
  obtain ⟨v2, u2, rfl, r2, rl⟩ := rl.inv
  obtain ⟨v3, u3, rfl, r3, rl⟩ := rl.inv
  obtain rfl := rl.inv0
  unfold RelD at r1 r2 r3
  obtain ⟨ca, us, rfl, ec, rl4⟩ := r1
  subst r2 r3
  have eu : us = cs.map V.int := by
    have : ∀ {cs : List Int} {vs : List V}, RelL K F' pa' (cs.map .int) vs → vs = cs.map V.int := by
      intro cs
      induction cs with
      | nil => intro vs r; exact r.inv0
      | cons c cs ih =>
        intro vs r
        obtain ⟨v, vr, rfl, r1, r2⟩ := RelL.inv (show RelL K F' pa' (D.int c :: cs.map .int) vs from r)
        unfold RelD at r1
        rw [r1, ih r2]; rfl
    exact this rl4
  subst eu
  have C2 : Cf K ⟨fun _ => none, fun _ => none, [], some p', false⟩ F' (some p') ⟨cs, 0, 0, tape⟩ ((start0 N [.scr ns]).set i (.val .pen)) ((start N [.ref a]).set i (some (.ref p'))) H' := by
    have noown : ∀ (j : Nat) (d : D), ((start0 N [.scr ns]).set i (.val .pen))[j]? ≠ some (Sl.own d) := fun j d e => by
      rcases get_set e with ⟨_, z⟩ | ⟨_, z⟩
      · cases z
      · have : ∀ (j : Nat) (d : D), (start0 N [.scr ns])[j]? ≠ some (Sl.own d) := fun j d e => by
          unfold start0 at e
          cases j with
          | zero => simp at e
          | succ j =>
            simp [List.getElem?_replicate] at e
        exact this j d z
    refine ⟨by simp [C'.len], C'.sub, fun _ _ z => (by cases z), fun _ _ z => (by cases z), fun _ _ _ => .inr rfl, fun _ z => (by simp at z), fun j d e => ?_, fun j d e => absurd e (noown j d), fun j j' d d' a q => absurd q (noown j d), fun a' e' => ?_, rfl⟩
    · rcases get_set e with ⟨rfl, z⟩ | ⟨ne, z⟩
      · cases z
        refine ⟨.ref p', ?_, by unfold RelD; exact ⟨p', rfl, rfl⟩⟩
        rw [List.getElem?_set_self]
        unfold L2.start
        simp; omega
      · obtain ⟨v, h1, h2⟩ := C'.val j d z
        refine ⟨v, by rw [List.getElem?_set_ne ne]; exact h1, ?_⟩
        -- the only datum there is the script
        have hj : j = 0 ∧ d = .scr ns := by
          unfold start0 at z
          cases j with
          | zero => simp at z; exact ⟨rfl, z.symm⟩
          | succ j => simp [List.getElem?_replicate] at z
        obtain ⟨rfl, rfl⟩ := hj
        unfold RelD at h2 ⊢
        exact h2
    · cases e'
      refine ⟨n.f, ⟨_, e, ca, ?_, ec⟩, .inr rfl⟩
      unfold penRows
      cases tape <;> rfl
  refine ⟨p', F', some p', _, _, _, C2, q, ⟨?_, ?_, ?_, ?_⟩⟩
  · intro F pa t env σ H g C q
    cases q
  · intro v d F pa t env σ H g C r q
    have q : d = .bl true := q
    subst q
    unfold RetRel RelD at r
    rw [r]; exact fin H
  · intro F pa t env σ H g C q
    exact q.elim
  · intro F pa t env σ H g C q
    exact q.elim
theorem fn_law {x qual : Str} {st : Stmt} {f : Addr} {fd : FuncData} {N : List Str} {p : Str} {k i : Nat} {s0 : Stmt} {rest : List Stmt} {dp : DE} {ds : DS} (Fu : Fun K x qual st f fd) (S : FnScope N [p] (defScope st)) (hst : defBody st = s0 :: rest)
    (hfirst : ∀ (cdv : Value) (A : Around) (outer : List PySem.Env) (s : Shared) (H : Hp) (E : XK) (B : Bs), Room k (A.deeper (envOfC qual (defScope st) s.heap.objs.size f cdv)) →
      PS (cxOf CX0 P w K mg base N qual (defScope st) f cdv A outer s H E).nox s0 (tAsg (tnOf K B dp) (L2.gName i)))
    (hbody : ∀ (cdv : Value) (A : Around) (outer : List PySem.Env) (s : Shared) (H : Hp) (E : XK) (B : Bs), Room k (A.deeper (envOfC qual (defScope st) s.heap.objs.size f cdv)) → B.Top → B.m = false →
      QSs (cxOf CX0 P w K mg base N qual (defScope st) f cdv A outer s H E).nox B rest ds)
    (hi : i ≠ 0 ∧ i < N.length) (tape : Bool)
    (hds : ∀ ns : List Int, ns.length ≤ 63 → dp (start0 N [.scr ns]) ⟨[], 0, 0, false⟩ fun d _ => ∃ cs : List Int, d = .dic (if tape then [.inr "cells", .inr "turn", .inr "rest"] else [.inr "cells", .inr "at", .inr "left"]) [.lst (cs.map .int), .int 0, .int 0] ∧ cs.length ≤ 63 ∧
      ds (endsOf fun d _ => d = .bl true) ((start0 N [.scr ns]).set i (.val .pen)) ⟨cs, 0, 0, tape⟩) : FnOk P w K mg base CX0 (k + 1) f fd [p] (spLaw K) := by
  refine Fu.ok S (fun vs H Q E h => ?_) (fun cdv A outer s H vs Q E hr h => ?_)
  · obtain ⟨a, ns, rfl, _⟩ := h
    rfl
  · exact law_body hst (fun B => hfirst cdv A outer s H E B hr) (fun B => hbody cdv A outer s H E B hr) hi tape hds h
end
end Q

/-! QH10 -/
namespace Q
open PySem L2 PyProof.Rows
section
variable {X : Cx} {B : Bs} {K : PySem.W.Frag}
theorem iop_mulW : OpR X (inplaceOp .Mult) (rI CMulW fun i j => .int (i * j)) := opI fun _ _ _ _ _ _ _ hc q => imul_int q hc.ok
theorem iop_fdivW : OpR X (inplaceOp .FloorDiv) (rI CDivW fun i j => .int (i / j)) := opI fun i j _ _ _ _ _ hc q => by
  have h1 : (0 : Int) < j := hc.1
  exact ifloordiv_int (by omega) (by rw [Int.fdiv_eq_ediv_of_nonneg i (by omega)]; exact q) (.inl (PyProof.noPylong_of_log2 hc.2))
theorem iop_mul2 : OpR X (inplaceOp .Mult) (fun x y H Q => rI CMul (fun i j => .int (i * j)) x y H Q ∨ rI CMulW (fun i j => .int (i * j)) x y H Q) := iop_mul.or iop_mulW
theorem rop_addI : ROp K (rI0 fun i j => .int (i + j)) oAddI := rop_int0 (f := fun i j => .int (i + j)) (fun _ _ _ _ => rD_int _) fun x y P h => by
  cases x <;> cases y <;> first | exact ⟨_, _, rfl, rfl, h⟩ | exact (False.elim h)
theorem rop_mulI : ROp K (fun x y H Q => rI CMul (fun i j => .int (i * j)) x y H Q ∨ rI CMulW (fun i j => .int (i * j)) x y H Q) oMulI := fun B F pa t env σ H x y v u P Q W rx ry h k => by
  cases x with
  | int i =>
    cases y with
    | int j =>
      rcases sm_mul h.1 with c | c
      · exact .inl ⟨i, j, rx.int W, ry.int W, c, k _ _ F H (Gr.refl _ _) W (rD_int _) h.2⟩
      · exact .inr ⟨i, j, rx.int W, ry.int W, c, k _ _ F H (Gr.refl _ _) W (rD_int _) h.2⟩
    | _ => exact h.elim
  | _ => exact h.elim
end
end Q

/-! QH11 -/
namespace Q
open PySem L2 PyProof.Rows
section
variable {X : Cx} {B : Bs} {K : PySem.W.Frag} {a b c e o : Expr} {es : List Expr} {pos : Pos} {da db dc : DE} {as : DA} {st : Stmt}
/-! ### a list or a tuple, walked -/
def iAny (K : PySem.W.Frag) (tl : TE) : TI := fun σ H R => tl σ H fun x H1 => ∃ a, x = .ref a ∧ (((∃ xs, SqL K H1 a xs) ∧ R (Itl K a) H1) ∨ ((∃ xs, SqT K H1 a xs) ∧ R (Itt K a) H1))
theorem pi_any {tg : Expr} {tl : TE} (hl : PE X e tl) : PI X tg e (iAny X.K tl) := ⟨fun pins s σ H R I h => by
  refine thn (hl.run pins s σ H _ I h) ?_
  rintro v s1 ⟨x, H1, I1, r1, a, rfl, h2⟩
  cases r1
  have fp : ∀ b ∈ [s1.heap.objs.size], FpOk X pins H1 b := by
    intro b hb
    rw [List.mem_singleton.mp hb]
    exact I1.fpOk (Nat.le_refl _) (I1.hok.fresh (Nat.le_refl _))
  have kp : ∀ (u : Obj) b o, s1.heap.get? b = some o → (s1.heap.push u).get? b = some o := fun u b o z => Heap.get?_push_of_some _ z
  rcases h2 with ⟨⟨xs, hq⟩, q⟩ | ⟨⟨xs, hq⟩, q⟩
  · have L := I1.list hq
    obtain ⟨its, rv, p, hz⟩ := L
    exact wpAny_pyIter_list p.isList ⟨_, _, _, _, H1, rfl, I1.kept (t' := s1.toks) (kp _), turn_list a _, ⟨_, Heap.get?_push_size _ rfl, rfl, rfl⟩, fp, q⟩
  · have L := I1.tuple hq
    obtain ⟨its, rv, p, hz⟩ := L
    exact wpAny_pyIter_tuple (s := s1) (items := its.toArray) p ⟨_, _, _, _, H1, rfl, I1.kept (t' := s1.toks) (kp _), turn_tuple a _, ⟨_, Heap.get?_push_size _ rfl, rfl, rfl⟩, fp, q⟩⟩
theorem q_iany {tg : Expr} (he : QE X B e da) : QI X B tg e (iSeq da) := PI.imp (pi_any he) fun σ H R ⟨F, pa, t, env, P, C, h, k⟩ => ⟨F, pa, t, env, _, C, h, fun v d F' pa' t' H' g C' r q => by
  cases d with
  | lst l =>
    have r' := r
    unfold RelD at r'
    obtain ⟨a, vs, rfl, e1, r1⟩ := r'
    exact ⟨a, rfl, .inl ⟨⟨vs, SqL.of (C'.sub _ _ e1)⟩, k _ l F' pa' t' H' g C' (it_list (SqL.of e1) r1) q⟩⟩
  | tup l =>
    have r' := r
    unfold RelD at r'
    obtain ⟨a, vs, rfl, e1, r1⟩ := r'
    exact ⟨a, rfl, .inr ⟨⟨vs, SqT.of (C'.sub _ _ e1)⟩, k _ l F' pa' t' H' g C' (it_tup e1 r1) q⟩⟩
  | scr ns =>
    have r' := r
    unfold RelD at r'
    obtain ⟨a, rfl, e1⟩ := r'
    exact ⟨a, rfl, .inl ⟨⟨_, sq_mono C'.sub e1⟩, k _ _ F' pa' t' H' g C' (it_list e1 (RelL.of_ints ns)) q⟩⟩
  | _ => exact q.elim⟩
/-! ### isinstance, of built-in types -/
theorem RelX.tyx {F : Hp} {pa : Option Addr} {t : Ts} {env : En} {σ : L2.St} {H : Hp} {d : D} {v : V} {n : Tn} (W : Cf K B F pa t env σ H) (r : RelX K F pa env σ d v) (h : tn d = some n) : TyX K H v (.type n.name) := by
  cases d with
  | non => cases h; rw [r.non W]; exact .base .non
  | bl b => cases h; rw [r.bl W]; exact .base (.bl b)
  | int i => cases h; rw [r.int W]; exact .base (.int i)
  | str s => cases h; rw [r.str W]; exact .base (.str s)
  | lst l => cases h; obtain ⟨a, us, rfl, e, _⟩ := r.lst W; exact .base (.lst e)
  | tup l => cases h; obtain ⟨a, us, rfl, e, _⟩ := r.tup W; exact .base (.tup e)
  | dic ks l => cases h; obtain ⟨a, us, rfl, e, _⟩ := r.dic W; exact .base (.dK e)
  | _ => cases h
theorem kit_isa (n c : Tn) : PySem.W.kitOne K (.type n.name) (.type c.name) = some (isa n c) := by
  refine kit_ty ?_
  cases n <;> cases c <;> decide +kernel
theorem kit_isas (n : Tn) : ∀ cs : List Tn, PySem.W.kitAny K (.type n.name) (cs.map fun c => .type c.name) = some (cs.any (isa n))
  | [] => rfl
  | c :: cs => kitAny_cons (b := isa n c) (kit_isa n c) (fun h => by rw [kit_isas n cs]; simp [h]) (fun h => by simp [h])
section
variable {p p2 tpos : Pos} {x : Str}
/-- isinstance(e, T) -/
theorem q_isi {c : Tn} (he : QV X B e da) (hg : Gl X "isinstance") (hm : X.mg "isinstance" = none) (hg2 : Gl X x) (hm2 : X.mg x = none) (hv : bootBuiltins x = some (.type c.name)) (hn : x ≠ "__name__" := by decide) (hdb : (x == ("__debug__" : Str)) = false := by decide)
    (hs : starEach [e, .Name x p2] X.env = (false, eval e X.env) :: starEach [.Name x p2] X.env := by rfl) (hs2 : starEach [.Name x p2] X.env = (false, eval (.Name x p2) X.env) :: starEach [] X.env := by rfl) :
    QE X B (.Call (.Name "isinstance" p) [e, .Name x p2] [] pos) (dIsi [c] da) :=
  PE.imp (pe_callB call_isi hg hm (by rfl) (pa_cons he (pa_cons (pe_bltn (v := .ty c.name) hg2 hm2 hv rfl hn hdb) pa_nil hs2) hs) (by decide) (by decide) hs (by rfl)) fun σ H Q ⟨F, pa, t, env, P, C, h, k⟩ =>
    ⟨F, pa, t, env, _, C, h, fun v d F' pa' t' H' g C' r q => by
      split at q
      · rename_i n hn
        exact ⟨v, .ty c.name, _, _, _, rfl, .ty _, r.tyx C' hn, kit_isa n c, k _ _ F' pa' t' H' g C' (rD_bl _) (by simpa using q)⟩
      · exact q.elim⟩
theorem q_isi2 {c c2 : Tn} {x2 : Str} {p3 : Pos} {kk : Nat} (he : QV X B e da) (hg : Gl X "isinstance") (hm : X.mg "isinstance" = none) (hg2 : Gl X x) (hm2 : X.mg x = none) (hv : bootBuiltins x = some (.type c.name))
    (hg3 : Gl X x2) (hm3 : X.mg x2 = none) (hv3 : bootBuiltins x2 = some (.type c2.name)) (hn : x ≠ "__name__" := by decide) (hdb : (x == ("__debug__" : Str)) = false := by decide) (hn2 : x2 ≠ "__name__" := by decide) (hdb2 : (x2 == ("__debug__" : Str)) = false := by decide)
    (hs : starEach [e, .Tuple [.Name x p2, .Name x2 p3] kk tpos] X.env = (false, eval e X.env) :: starEach [.Tuple [.Name x p2, .Name x2 p3] kk tpos] X.env := by rfl)
    (hs1 : starEach [.Tuple [.Name x p2, .Name x2 p3] kk tpos] X.env = (false, eval (.Tuple [.Name x p2, .Name x2 p3] kk tpos) X.env) :: starEach [] X.env := by rfl)
    (hs2 : starEach [.Name x p2, .Name x2 p3] X.env = (false, eval (.Name x p2) X.env) :: starEach [.Name x2 p3] X.env := by rfl) (hs3 : starEach [.Name x2 p3] X.env = (false, eval (.Name x2 p3) X.env) :: starEach [] X.env := by rfl) :
    QE X B (.Call (.Name "isinstance" p) [e, .Tuple [.Name x p2, .Name x2 p3] kk tpos] [] pos) (dIsi [c, c2] da) :=
  PE.imp (pe_callB call_isiT hg hm (by rfl) (pa_cons he (pa_cons (pe_tup (pa_cons (pe_bltn (v := .ty c.name) hg2 hm2 hv rfl hn hdb) (pa_cons (pe_bltn (v := .ty c2.name) hg3 hm3 hv3 rfl hn2 hdb2) pa_nil hs3) hs2)) pa_nil hs1) hs) (by decide) (by decide) hs (by rfl)) fun σ H Q ⟨F, pa, t, env, P, C, h, k⟩ =>
    ⟨F, pa, t, env, _, C, h, fun v d F' pa' t' H' g C' r q => by
      split at q
      · rename_i n hn
        refine ⟨by show 2 ≤ sizeLine; unfold sizeLine; decide, fun tp ht => ?_⟩
        have C2 := C'.loose (.tup [V.ty c.name, V.ty c2.name]) ht
        exact ⟨v, tp, _, _, _, _, rfl, upd_same, .cons (.ty _) (.cons (.ty _) .nil), r.tyx C2 hn, kit_isas n [c, c2], k _ _ F' pa' t' _ g C2 (rD_bl _) q⟩
      · exact q.elim⟩
end
/-! ### an instance made -/
def BI (F : Hp) (pa : Option Addr) (H : Hp) (x : Addr) : Bs := ⟨F, H, x :: pa.toList, pa, false⟩
/-- what __init__ promises: the instance that it is handed holds the datum -/
def liftI (K : PySem.W.Frag) (C : Addr) (sp : PSp) : Sp := fun vs H Q E => ∃ x dx us F pa t ds P, vs = .ref x :: us ∧ H x = some (.ins C dx []) ∧ F x = none ∧ pa ≠ some x ∧ Cf K (B0 F pa H) F pa t [] [] H ∧ RelL K F pa ds us ∧ sp ds t P ∧
  ∀ h d F' pa' t' H', Cf K (BI F pa H x) F' pa' t' [] [] H' → F' x = none → pa' ≠ some x → H' x = some h → RelO1 K F' pa' d h → P d t' → Q .non H'
section
variable {CX : CXT} {k : Nat} {f Cl' : Addr} {fd : FuncData} {ps : List Str} {sp : PSp} {dvs : List V} {dds : List D} {ds : List Value} {E : XK} {x m : Str} {p apos : Pos}
theorem ev_make (hd : ∀ F pa, RelL K F pa dds dvs) : ∀ σ H Q, tnOf K B (dCall sp dds as) σ H Q → tMake Cl' (liftI K Cl' sp) dvs E (taOf K B as) σ H Q := fun σ H Q ⟨F, pa, t, env, P, W, h, k⟩ =>
  ⟨F, pa, t, env, _, W, h, fun vs xs F1 pa1 t1 H1 g1 W1 r1 q1 x dx hx hdx hne => by
    have hx2 : upd H1 dx (.own x) x = none := by rw [upd_ne (Ne.symm hne)]; exact hx
    have W2 := (W1.loose (.own x) hdx).loose (.ins Cl' dx []) hx2
    obtain ⟨hF, hB, _⟩ := W1.fresh hx
    have nw := W1.nw hx
    have up : ∀ a o, H1 a = some o → upd (upd H1 dx (.own x)) x (.ins Cl' dx []) a = some o := fun a o e => by
      rw [upd_ne (ne_of_none e hx), upd_ne (ne_of_none e hdx)]; exact e
    refine ⟨x, dx, _, F1, pa1, t1, xs ++ dds, P, rfl, upd_same, hF, nw.a, W2.call, r1.append (hd _ _), q1, fun hh d F' pa' t' H' W' n1 n2 e' r' q' => ⟨rfl, ?_⟩⟩
    have W3 : Cf K (B0 F1 pa1 H1) F' pa' t' [] [] H' := by
      refine ⟨rfl, W'.sub, W'.bas, fun a o e hp => ?_, fun a o e => ?_, fun a ha => ?_, W'.val, fun i d e => by simp at e, W'.sep, fun a e => ?_, W'.pnn⟩
      · refine W'.frm a o (up a o e) fun z => ?_
        rcases List.mem_cons.mp z with z | z
        · exact absurd z (ne_of_none e hx)
        · exact hp z
      · rcases W'.new a o e with z | z
        · exact .inl z
        · refine .inr ?_
          cases q : H1 a with
          | none => exact q
          | some u => rw [show (BI F1 pa1 (upd (upd H1 dx (.own x)) x (.ins Cl' dx [])) x).H a = upd (upd H1 dx (.own x)) x (.ins Cl' dx []) a from rfl, up a u q] at z; cases z
      · exact W'.exl a (List.mem_cons_of_mem _ ha)
      · obtain ⟨h1, h2, h3⟩ := W'.pen a e
        refine ⟨h1, h2, ?_⟩
        rcases h3 with z | z
        · rcases List.mem_cons.mp z with z | z
          · exact absurd (by rw [e, z]) n2
          · exact .inl z
        · refine .inr ?_
          cases q : H1 a with
          | none => exact q
          | some u => rw [show (BI F1 pa1 (upd (upd H1 dx (.own x)) x (.ins Cl' dx [])) x).H a = upd (upd H1 dx (.own x)) x (.ins Cl' dx []) a from rfl, up a u q] at z; cases z
    obtain ⟨g, W4⟩ := W1.after W3
    exact k x hh d F' pa' t' H' (g1.trans g) W4 ⟨n1, hB, n2, nw.s⟩ e' r' q'⟩
theorem q_make (M : Mk X.K Cl' f) (F : FnOk X.prog X.w X.K X.mg X.base CX k f fd ps (liftI X.K Cl' sp)) (hr : Room (k + 1) X.A) (hg : Gl X x) (hm : X.mg x = some (.ref Cl')) (hb : Binds X.K fd ps ds) (hd : Vals dvs ds) (hD : ∀ F pa, RelL X.K F pa dds dvs) (hx : Passes CX X E)
    (ha : QA X B (e :: es) as) (hdb : (x == ("__debug__" : Str)) = false := by decide) (he : starEach (e :: es) X.env = (false, eval e X.env) :: starEach es X.env := by rfl) (hpl : (backTo pos (starEach es X.env)).any (·.1) = false := by rfl) :
    QN X B (.Call (.Name x p) (e :: es) [] pos) (dCall sp dds as) := PE.imp (pe_make M F hr hg hm hb hd hx ha hdb he hpl) (ev_make hD)
/-- self.f = e -/
theorem putF_new {f : Str} {v : V} : ∀ {fs : List (Str × V)}, fs.lookup f = none → putF f v fs = fs ++ [(f, v)]
  | [], _ => rfl
  | (g, y) :: r, h => by
    have hne : ¬ g = f := by
      rintro rfl
      simp [List.lookup] at h
    have h2 : r.lookup f = none := by
      have : (f == g) = false := by simpa using fun z => hne z.symm
      simpa [List.lookup, this] using h
    show (if g = f then _ else _) = _
    rw [if_neg hne, putF_new h2]
    rfl
theorem zip_snoc {α β : Type} : ∀ {a : List α} {b : List β} {x : α} {y : β}, a.length = b.length → (a ++ [x]).zip (b ++ [y]) = a.zip b ++ [(x, y)]
  | [], [], _, _, _ => rfl
  | _ :: _, _ :: _, _, _, h => by
    simp only [List.cons_append, List.zip_cons_cons]
    rw [zip_snoc (by simpa using h)]
  | [], _ :: _, _, _, h => by simp at h
  | _ :: _, [], _, _, h => by simp at h
/-- an instance of a name's own -/
theorem own_ins {F : Hp} {pa : Option Addr} {t : Ts} {env : En} {σ : L2.St} {H : Hp} {i : Nat} {C : Addr} {ns : List Str} {l : List D} (W : Cf K B F pa t env σ H) (h : env[i]? = some (Sl.own (.ins C ns l))) :
    ∃ a dx vs, σ[i]? = some (some (V.ref a)) ∧ H a = some (.ins C dx (ns.zip vs)) ∧ ns.length = vs.length ∧ RelL K F pa l vs := by
  obtain ⟨a, u, h1, h2, h3, _⟩ := W.own i _ h
  obtain ⟨dx, vs, rfl, hl, q⟩ := h3
  exact ⟨a, dx, vs, h1, h2, hl, q⟩
theorem relL_snoc {F : Hp} {pa : Option Addr} {d : D} {v : V} (h : RelD K F pa d v) : ∀ {l : List D} {vs : List V}, RelL K F pa l vs → RelL K F pa (l ++ [d]) (vs ++ [v])
  | [], vs, r => by
    have e : vs = [] := by unfold RelL at r; exact r
    subst e
    exact RelL.cons h (by unfold RelL; rfl)
  | x :: l, vs, r => by
    obtain ⟨v1, vr, rfl, r1, r2⟩ := r.inv
    exact RelL.cons r1 (relL_snoc h r2)
end
end
end Q

/-! QH12 -/
namespace Q
open PySem L2 PyProof.Rows
section
variable {K : PySem.W.Frag} {F F' : Hp} {pa : Option Addr}
/-! ### without a pen -/
mutual
theorem RelD.un : ∀ (d : D) (v : V), nopen d = true → RelD K F pa d v → RelD K F none d v
  | .non, v, _, h => by unfold RelD at h ⊢; exact h
  | .bl b, v, _, h => by unfold RelD at h ⊢; exact h
  | .int i, v, _, h => by unfold RelD at h ⊢; exact h
  | .str x, v, _, h => by unfold RelD at h ⊢; exact h
  | .ty n, v, _, h => by unfold RelD at h ⊢; exact h
  | .adr a, v, _, h => by unfold RelD at h ⊢; exact h
  | .rp a, v, _, h => by unfold RelD at h ⊢; exact h
  | .pen, v, n, h => by simp [nopen] at n
  | .scr ns, v, _, h => by unfold RelD at h ⊢; exact h
  | .lst l, v, n, h => by
    unfold RelD at h ⊢
    unfold nopen at n
    obtain ⟨a, vs, e, r, q⟩ := h
    exact ⟨a, vs, e, r, RelL.un l vs n q⟩
  | .tup l, v, n, h => by
    unfold RelD at h ⊢
    unfold nopen at n
    obtain ⟨a, vs, e, r, q⟩ := h
    exact ⟨a, vs, e, r, RelL.un l vs n q⟩
  | .dic ks l, v, n, h => by
    unfold RelD at h ⊢
    unfold nopen at n
    obtain ⟨a, vs, e, r, z, q⟩ := h
    exact ⟨a, vs, e, r, z, RelL.un l vs n q⟩
  | .ins C ns l, v, n, h => by
    unfold RelD at h ⊢
    unfold nopen at n
    obtain ⟨a, dx, vs, e, r, z, q⟩ := h
    exact ⟨a, dx, vs, e, r, z, RelL.un l vs n q⟩
theorem RelL.un : ∀ (l : List D) (vs : List V), nopens l = true → RelL K F pa l vs → RelL K F none l vs
  | [], vs, _, h => by unfold RelL at h ⊢; exact h
  | d :: ds, vs, n, h => by
    unfold RelL at h ⊢
    unfold nopens at n
    obtain ⟨v, vr, e, r, q⟩ := h
    have n2 := Bool.and_eq_true_iff.mp n
    exact ⟨v, vr, e, RelD.un d v n2.1 r, RelL.un ds vr n2.2 q⟩
end
mutual
theorem RelD.up : ∀ (d : D) (v : V), RelD K F none d v → RelD K F pa d v
  | .non, v, h => by unfold RelD at h ⊢; exact h
  | .bl b, v, h => by unfold RelD at h ⊢; exact h
  | .int i, v, h => by unfold RelD at h ⊢; exact h
  | .str x, v, h => by unfold RelD at h ⊢; exact h
  | .ty n, v, h => by unfold RelD at h ⊢; exact h
  | .adr a, v, h => by unfold RelD at h ⊢; exact h
  | .rp a, v, h => by unfold RelD at h ⊢; exact h
  | .pen, v, h => by
    unfold RelD at h
    obtain ⟨a, e, _⟩ := h
    cases e
  | .scr ns, v, h => by unfold RelD at h ⊢; exact h
  | .lst l, v, h => by
    unfold RelD at h ⊢
    obtain ⟨a, vs, e, r, q⟩ := h
    exact ⟨a, vs, e, r, RelL.up l vs q⟩
  | .tup l, v, h => by
    unfold RelD at h ⊢
    obtain ⟨a, vs, e, r, q⟩ := h
    exact ⟨a, vs, e, r, RelL.up l vs q⟩
  | .dic ks l, v, h => by
    unfold RelD at h ⊢
    obtain ⟨a, vs, e, r, z, q⟩ := h
    exact ⟨a, vs, e, r, z, RelL.up l vs q⟩
  | .ins C ns l, v, h => by
    unfold RelD at h ⊢
    obtain ⟨a, dx, vs, e, r, z, q⟩ := h
    exact ⟨a, dx, vs, e, r, z, RelL.up l vs q⟩
theorem RelL.up : ∀ (l : List D) (vs : List V), RelL K F none l vs → RelL K F pa l vs
  | [], vs, h => by unfold RelL at h ⊢; exact h
  | d :: ds, vs, h => by
    unfold RelL at h ⊢
    obtain ⟨v, vr, e, r, q⟩ := h
    exact ⟨v, vr, e, RelD.up d v r, RelL.up ds vr q⟩
end
end
/-! ### the state of a def that makes: the instance at x, of its own -/
def BX (F : Hp) (H : Hp) (x : Addr) : Bs := ⟨F, H, [x], none, false⟩
structure Is (K : PySem.W.Frag) (F0 H0 : Hp) (x Cl' : Addr) (ns : List Str) (l : List D) (F : Hp) (t : Ts) (env : En) (σ : L2.St) (H : Hp) : Prop where
  c : Cf K (BX F0 H0 x) F none t env σ H
  nov : ∀ (i : Nat) (d : D), env[i]? ≠ some (Sl.own d)
  ins : ∃ dx vs, H x = some (.ins Cl' dx (ns.zip vs)) ∧ ns.length = vs.length ∧ RelL K F none l vs
  f : F x = none
  s : σ[0]? = some (some (V.ref x))
section
variable {K : PySem.W.Frag} {F0 H0 : Hp} {x Cl' : Addr} {ns : List Str} {l : List D} {F F' : Hp} {t t' : Ts} {env : En} {σ : L2.St} {H H' : Hp} {B : Bs} {pa : Option Addr}
theorem Cf.here (C : Cf K B F pa t env σ H) (n : ∀ (i : Nat) (d : D), env[i]? ≠ some (Sl.own d)) : Cf K (B0 F pa H) F pa t env σ H := by
  have C2 := C.call
  exact ⟨C.len, C2.sub, C2.bas, C2.frm, C2.new, C2.exl, C.val, fun i d e => absurd e (n i d), fun i j d e a q => absurd q (n i d), C2.pen, C2.pnn⟩
theorem Is.step (S : Is K F0 H0 x Cl' ns l F t env σ H) {pa' : Option Addr} (C : Cf K (B0 F none H) F' pa' t' env σ H') : pa' = none ∧ Is K F0 H0 x Cl' ns l F' t' env σ H' := by
  have hp : pa' = none := C.pnn
  subst hp
  obtain ⟨g, C2⟩ := S.c.after C.nil
  obtain ⟨dx, vs, h1, h2, h3⟩ := S.ins
  refine ⟨rfl, C2, S.nov, ⟨dx, vs, C.frm x _ h1 (by simp [B0]), h2, RelL.mono g l vs h3⟩, ?_, S.s⟩
  cases q : F' x with
  | none => rfl
  | some o =>
    rcases C.new x o q with ⟨o', z⟩ | z
    · rw [show (B0 F none H).F x = F x from rfl, S.f] at z; cases z
    · rw [show (B0 F none H).H x = H x from rfl, h1] at z; cases z
theorem Is.put (S : Is K F0 H0 x Cl' ns l F t env σ H) {ns' : List Str} {l' : List D} {dx : Addr} {vs : List V} (h2 : ns'.length = vs.length) (h3 : RelL K F none l' vs) : Is K F0 H0 x Cl' ns' l' F t env σ (upd H x (.ins Cl' dx (ns'.zip vs))) := by
  have C := S.c
  have nx : ∀ {a : Addr} {o : HO}, F a = some o → a ≠ x := fun e => ne_of_none e S.f
  refine ⟨⟨C.len, fun a o e => by rw [upd_ne (nx e)]; exact C.sub a o e, C.bas, fun a o e hp => ?_, C.new, fun a ha => ?_, C.val, fun i d e => absurd e (S.nov i d), fun i j d e a q => absurd q (S.nov i d), fun a e => (by cases e), C.pnn⟩, S.nov, ⟨dx, vs, upd_same, h2, h3⟩, S.f, S.s⟩
  · have : a ≠ x := fun z => hp (by rw [z]; exact List.mem_singleton.mpr rfl)
    rw [upd_ne this]; exact C.frm a o e hp
  · have : a = x := List.mem_singleton.mp ha
    rw [this]; exact ⟨_, upd_same⟩
end
/-! ### its statements -/
def tiS (K : PySem.W.Frag) (Cl' : Addr) (ds : IS) : TS := fun D σ H => ∃ F0 H0 x ns l F t env k, Is K F0 H0 x Cl' ns l F t env σ H ∧ ds k ns l env t ∧
  ∀ ns' l' F' t' env' σ' H', Is K F0 H0 x Cl' ns' l' F' t' env' σ' H' → k ns' l' env' t' → D.nx σ' H'
section
variable {X : Cx} {Cl' : Addr} {st : Stmt} {sts : List Stmt} {a b : IS} {c o value : Expr} {dt : DT} {da : DE} {pos pos' : Pos}
theorem i_nil : PSs X [] (tiS X.K Cl' iEnd) := PSs.imp pss_nil fun D σ H ⟨F0, H0, x, ns, l, F, t, env, k, S, h, R⟩ => R ns l F t env σ H S h
theorem i_cons (h1 : PS X st (tiS X.K Cl' a)) (h2 : PSs X sts (tiS X.K Cl' b)) : PSs X (st :: sts) (tiS X.K Cl' (iThen a b)) :=
  PSs.imp (pss_cons h1 h2) fun D σ H ⟨F0, H0, x, ns, l, F, t, env, k, S, h, R⟩ => ⟨F0, H0, x, ns, l, F, t, env, _, S, h, fun ns' l' F' t' env' σ' H' S' h' => ⟨F0, H0, x, ns', l', F', t', env', k, S', h', R⟩⟩
theorem i_guard (hc : ∀ B, QT X B c dt) : PS X (.If c sts [] pos) (tiS X.K Cl' (iGuard dt)) :=
  PS.imp (ps_if (tc := ttU X.K dt) ⟨fun pins s σ H Q I ⟨B, q⟩ => (hc B).run pins s σ H Q I q⟩ pss_never pss_nil) fun D σ H ⟨F0, H0, x, ns, l, F, t, env, k, S, h, R⟩ =>
    ⟨B0 F none H, F, none, t, env, _, S.c.here S.nov, h, fun kb F' pa' t' H' g C q => by
      obtain ⟨rfl, S'⟩ := S.step C
      cases kb with
      | true => exact False.elim q
      | false => exact R ns l F' t' env σ H' S' q⟩
theorem i_set {f : Str} (h0 : PE X o (tVar 0)) (hv : ∀ B, QE X B value da) (cl : Cls X.K Cl') (na : NoAttr X.K Cl' f) (hs : swapsWith value (some (.Attribute o f pos')) pos.line X.env = pure false := by rfl) :
    PS X (.Assign [.Attribute o f pos'] value pos) (tiS X.K Cl' (iSet f da)) :=
  PS.imp (ps_fld h0 (pe_U hv) hs) fun D σ H ⟨F0, H0, x, ns, l, F, t, env, k, S, h, R⟩ =>
    ⟨B0 F none H, F, none, t, env, _, S.c.here S.nov, h, fun v d F' pa' t' H' g C r q => by
      obtain ⟨rfl, S'⟩ := S.step C
      obtain ⟨⟨hn, hl⟩, q⟩ := q
      obtain ⟨dx, vs, e1, l1, r1⟩ := S'.ins
      refine ⟨_, S'.s, x, Cl', dx, _, rfl, e1, cl, na, by rw [List.length_zip]; omega, ?_⟩
      rw [putF_new (zip_none hn), ← zip_snoc l1]
      exact R _ _ F' t' env σ _ (S'.put (by simp [l1]) (relL_snoc r r1)) q⟩
/-! ### self.sums -/
theorem sumsOf_snoc : ∀ (bs : List Int) (s b : Int), sumsOf s (bs ++ [b]) = sumsOf s bs ++ [(sumsOf s bs).getLastD s + b - 1]
  | [], s, b => rfl
  | c :: bs, s, b => by
    show (s + c - 1) :: sumsOf (s + c - 1) (bs ++ [b]) = _
    rw [sumsOf_snoc bs (s + c - 1) b]
    show _ = (s + c - 1) :: sumsOf (s + c - 1) bs ++ [((s + c - 1) :: sumsOf (s + c - 1) bs).getLastD s + b - 1]
    rw [List.getLastD_cons]
    rfl
theorem sumsOf_len : ∀ (bs : List Int) (s : Int), (sumsOf s bs).length = bs.length
  | [], _ => rfl
  | c :: bs, s => by
    show (sumsOf (s + c - 1) bs).length + 1 = bs.length + 1
    rw [sumsOf_len bs]
/-- the loop's state: p the list, x the instance -/
structure Ls (K : PySem.W.Frag) (F Hs : Hp) (x p Cl' dx : Addr) (ns : List Str) (vs : List V) (l : List D) (t : Ts) (env : En) (σ : L2.St) (H : Hp) (cur : List Int) : Prop where
  len : env.length = σ.length
  sub : ∀ a o, F a = some o → H a = some o
  frm : ∀ a o, Hs a = some o → a ≠ x → a ≠ p → H a = some o
  val : ∀ (i : Nat) (d : D), env[i]? = some (Sl.val d) → ∃ v : V, σ[i]? = some (some v) ∧ RelD K F none d v
  nov : ∀ (i : Nat) (d : D), env[i]? ≠ some (Sl.own d)
  s : σ[0]? = some (some (V.ref x))
  hx : H x = some (.ins Cl' dx ((ns ++ [("sums" : Str)]).zip (vs ++ [.ref p])))
  hp : H p = some (.lst (cur.map V.int))
  ls : ns.length = vs.length
  rl : RelL K F none l vs
  fx : F x = none
  fp : F p = none
  xp : x ≠ p
section
variable {K : PySem.W.Frag} {F Hs : Hp} {x p dx : Addr} {ns : List Str} {vs : List V} {l : List D} {t : Ts} {env : En} {σ : L2.St} {H : Hp} {cur : List Int}
/-- the state as it is seen by a reading: all frozen -/
theorem Ls.seen (S : Ls K F Hs x p Cl' dx ns vs l t env σ H cur) : ∃ F2, Gr F none F2 none ∧ Cf K (B0 F2 none H) F2 none t (env.set 0 (.val (.ins Cl' (ns ++ [("sums" : Str)]) (l ++ [.lst (cur.map .int)])))) σ H := by
  let F2 : Hp := upd (upd F p (.lst (cur.map V.int))) x (.ins Cl' dx ((ns ++ [("sums" : Str)]).zip (vs ++ [.ref p])))
  have g1 : Gf F (upd F p (.lst (cur.map V.int))) := Gf.upd S.fp
  have fx2 : (upd F p (.lst (cur.map V.int))) x = none := by rw [upd_ne S.xp]; exact S.fx
  have g2 : Gf (upd F p (.lst (cur.map V.int))) F2 := Gf.upd fx2
  have g : Gr F none F2 none := ⟨fun a o e => g2 a o (g1 a o e), rfl⟩
  have ep : F2 p = some (.lst (cur.map V.int)) := g2 _ _ upd_same
  have ex : F2 x = some (.ins Cl' dx ((ns ++ [("sums" : Str)]).zip (vs ++ [.ref p]))) := upd_same
  refine ⟨F2, g, ⟨by simp [S.len], fun a o e => ?_, fun _ _ e => e, fun _ _ e _ => e, fun a o e => .inl ⟨o, e⟩, fun a ha => ?_, fun i d e => ?_, fun i d e => ?_, fun i j d e a q => ?_, fun a e => ?_, rfl⟩⟩
  · by_cases h1 : a = x
    · subst h1; rw [ex] at e; cases e; exact S.hx
    · by_cases h2 : a = p
      · subst h2; rw [ep] at e; cases e; exact S.hp
      · have : F2 a = F a := by show upd (upd F p _) x _ a = _; rw [upd_ne h1, upd_ne h2]
        rw [this] at e; exact S.sub a o e
  · simp [B0] at ha
  · rcases get_set e with ⟨rfl, z⟩ | ⟨ne, z⟩
    · cases z
      refine ⟨.ref x, S.s, ?_⟩
      unfold RelD
      refine ⟨x, dx, _, rfl, ex, by simp [S.ls], relL_snoc ?_ (RelL.mono g l vs S.rl)⟩
      unfold RelD
      exact ⟨p, _, rfl, ep, RelL.of_ints cur⟩
    · obtain ⟨v, h1, h2⟩ := S.val i d z
      exact ⟨v, h1, RelD.mono g d v h2⟩
  · rcases get_set e with ⟨_, z⟩ | ⟨_, z⟩
    · cases z
    · exact absurd z (S.nov i d)
  · rcases get_set q with ⟨_, z⟩ | ⟨_, z⟩
    · cases z
    · exact absurd z (S.nov i d)
  · cases e
theorem Ls.kept (S : Ls K F Hs x p Cl' dx ns vs l t env σ H cur) {H' : Hp} (g : Gf H H') : Ls K F Hs x p Cl' dx ns vs l t env σ H' cur :=
  ⟨S.len, fun a o e => g _ _ (S.sub a o e), fun a o e h1 h2 => g _ _ (S.frm a o e h1 h2), S.val, S.nov, S.s, g _ _ S.hx, g _ _ S.hp, S.ls, S.rl, S.fx, S.fp, S.xp⟩
theorem Ls.setj (S : Ls K F Hs x p Cl' dx ns vs l t env σ H cur) {j : Nat} (hj : j ≠ 0) (b : Int) : Ls K F Hs x p Cl' dx ns vs l t (env.set j (.val (.int b))) (σ.set j (some (.int b))) H cur := by
  refine ⟨by simp [S.len], S.sub, S.frm, fun i d e => ?_, fun i d e => ?_, by rw [List.getElem?_set_ne hj]; exact S.s, S.hx, S.hp, S.ls, S.rl, S.fx, S.fp, S.xp⟩
  · rcases get_set e with ⟨rfl, z⟩ | ⟨ne, z⟩
    · cases z
      have hi : j < env.length := by simpa using (List.getElem?_eq_some_iff.mp e).1
      exact ⟨.int b, by rw [List.getElem?_set_self (by rw [← S.len]; exact hi)], by unfold RelD; rfl⟩
    · obtain ⟨v, h1, h2⟩ := S.val i d z
      exact ⟨v, by rw [List.getElem?_set_ne ne]; exact h1, h2⟩
  · rcases get_set e with ⟨_, z⟩ | ⟨_, z⟩
    · cases z
    · exact S.nov i d z
theorem Ls.app (S : Ls K F Hs x p Cl' dx ns vs l t env σ H cur) (z : Int) : Ls K F Hs x p Cl' dx ns vs l t env σ (upd H p (.lst ((cur ++ [z]).map V.int))) (cur ++ [z]) :=
  ⟨S.len, fun a o e => by rw [upd_ne (ne_of_none e S.fp)]; exact S.sub a o e, fun a o e h1 h2 => by rw [upd_ne h2]; exact S.frm a o e h1 h2, S.val, S.nov, S.s, by rw [upd_ne S.xp]; exact S.hx, upd_same, S.ls, S.rl, S.fx, S.fp, S.xp⟩
end
theorem intsD_map : ∀ bs : List Int, Q.intsD (bs.map .int) = some bs
  | [] => rfl
  | c :: r => by simp [Q.intsD, intsD_map r]
theorem set_self {α : Type} (l : List α) (i : Nat) : l = [] ∨ ∃ s, l.set i s = l := by
  by_cases h : i < l.length
  · exact .inr ⟨l[i], by simp⟩
  · cases l with
    | nil => exact .inl rfl
    | cons a r => exact .inr ⟨a, List.set_eq_of_length_le (by omega)⟩
theorem zip_look {α : Type} {f : Str} : ∀ {a : List Str} {b : List α} {y : α}, a.length = b.length → a.contains f = false → ((a ++ [f]).zip (b ++ [y])).lookup f = some y
  | [], [], y, _, _ => by simp [List.lookup]
  | g :: a, _ :: b, y, h, n => by
    have n2 : (f == g) = false ∧ a.contains f = false := by
      simp only [List.contains_cons, Bool.or_eq_false_iff] at n
      exact n
    show List.lookup f ((g, _) :: (a ++ [f]).zip (b ++ [y])) = _
    rw [List.lookup_cons, n2.1]
    exact zip_look (by simpa using h) n2.2
  | [], _ :: _, _, h, _ => by simp at h
  | _ :: _, [], _, h, _ => by simp at h
section
variable {o iter ecall tg : Expr} {de : DE} {ib j : Nat} {p1 p2 p3 p4 p5 : Pos}
theorem i_sums (h0 : PE X o (tVar 0)) (hb : PE X iter (tVar ib)) (hg : PG X tg (L2.gName j)) (hap : PE X ecall (tBM X.K "list" rAppend (tFld X.K (tVar 0) "sums") (tCons (teU X.K de) tNil))) (hde : SumsE Cl' j de) (cl : Cls X.K Cl') (na : NoAttr X.K Cl' "sums")
    (hpo : PassesOwn (model X.prog X.w) X.A X.env X.xe) (hc : X.calm = true) (hj : j ≠ 0) (hs : swapsWith (.List [] p1) (some (.Attribute o "sums" p2)) p3.line X.env = pure false := by rfl)
    (hsE : swapsWith ecall none p4.line X.env = pure false := by rfl) (hsF : ∀ x, foldedSetIterable iter X.env x = pure x := by intro _; rfl) :
    PSs X [.Assign [.Attribute o "sums" p2] (.List [] p1) p3, .For tg iter [.Expr ecall p4] [] p5] (tiS X.K Cl' (iSums ib j)) :=
  PSs.imp (pss_cons (ps_fld h0 (pe_lst pa_nil) hs) (pss_one (ps_for hpo hc (pi_any hb) hg (pss_one (ps_expr hap hsE)) hsF))) fun D σ H ⟨F0, H0, x, ns, l, F, t, env, k, S, h, R⟩ => by
    -- the numbers
    have hv : ∃ bs : List Int, ∃ a : Addr, σ[ib]? = some (some (V.ref a)) ∧ (F a = some (.lst (bs.map V.int)) ∨ F a = some (.tup (bs.map V.int))) ∧ bs.length ≤ 1000 ∧ (ns.contains ("sums" : Str) = false ∧ ns.length < 900 ∧ j < env.length) ∧ ∀ s, k (ns ++ [("sums" : Str)]) (l ++ [.lst ((sumsOf 0 bs).map .int)]) (env.set j s) t := by
      have ri : ∀ (bs : List Int) (us : List V), RelL X.K F none (bs.map .int) us → us = bs.map V.int := fun bs us r => RelL.intsD r (intsD_map bs)
      unfold iSums at h
      split at h
      · rename_i m e
        obtain ⟨bs, rfl, h1, h2, h3⟩ := h
        obtain ⟨v, e1, r⟩ := S.c.val _ _ e
        unfold RelD at r
        obtain ⟨a, us, rfl, e2, r2⟩ := r
        rw [ri bs us r2] at e2
        exact ⟨bs, a, e1, .inl e2, h1, h2, h3⟩
      · rename_i m e
        obtain ⟨bs, rfl, h1, h2, h3⟩ := h
        obtain ⟨v, e1, r⟩ := S.c.val _ _ e
        unfold RelD at r
        obtain ⟨a, us, rfl, e2, r2⟩ := r
        rw [ri bs us r2] at e2
        exact ⟨bs, a, e1, .inr e2, h1, h2, h3⟩
      · exact h.elim
    obtain ⟨bs, ab, hib, hab, hbl, ⟨hns, hnl, hjl⟩, hk⟩ := hv
    obtain ⟨dx, vs, hx, hlen, rl⟩ := S.ins
    refine ⟨Nat.zero_le _, fun p hp0 => ⟨.ref x, S.s, x, Cl', dx, _, rfl, by rw [upd_ne (ne_of_none hx hp0)]; exact hx, cl, na, by rw [List.length_zip]; omega, ?_⟩⟩
    rw [putF_new (zip_none hns), ← zip_snoc hlen]
    have xp : x ≠ p := ne_of_none hx hp0
    have fp : F p = none := (S.c.fresh hp0).1
    have L0 : Ls X.K F (upd (upd H p (.lst [])) x (.ins Cl' dx ((ns ++ [("sums" : Str)]).zip (vs ++ [.ref p])))) x p Cl' dx ns vs l t env σ (upd (upd H p (.lst [])) x (.ins Cl' dx ((ns ++ [("sums" : Str)]).zip (vs ++ [.ref p])))) [] :=
      ⟨S.c.len, fun a u e => by rw [upd_ne (ne_of_none e S.f), upd_ne (ne_of_none e fp)]; exact S.c.sub a u e, fun a u e _ _ => e, S.c.val, S.nov, S.s, upd_same, by rw [upd_ne (Ne.symm xp)]; exact upd_same, hlen, rl, S.f, fp, xp⟩
    generalize hHs : upd (upd H p (.lst [])) x (.ins Cl' dx ((ns ++ [("sums" : Str)]).zip (vs ++ [.ref p]))) = Hs at L0 ⊢
    have hfin : ∀ σ' H' s, Ls X.K F Hs x p Cl' dx ns vs l t (env.set j s) σ' H' (sumsOf 0 bs) → D.nx σ' H' := fun σ' H' s L => by
      refine R _ _ (upd F p (.lst ((sumsOf 0 bs).map V.int))) t (env.set j s) σ' H' ⟨⟨L.len, fun a u e => ?_, fun a u e => ?_, fun a u e hx' => ?_, fun a u e => ?_, fun a ha => ?_, fun i d e => ?_, fun i d e => absurd e (L.nov i d), fun i _ d _ _ q => absurd q (L.nov i d), fun a e => (by cases e), rfl⟩, L.nov, ⟨dx, _, L.hx, by simp [hlen], ?_⟩, by rw [upd_ne xp]; exact S.f, L.s⟩ (hk s)
      · by_cases ha : a = p
        · subst ha; rw [upd_same] at e; cases e; exact L.hp
        · rw [upd_ne ha] at e; exact L.sub a u e
      · exact Gf.upd fp _ _ (S.c.bas a u e)
      · have h1 := S.c.frm a u e hx'
        have hax : a ≠ x := fun z => hx' (by rw [z]; exact List.mem_singleton.mpr rfl)
        have hap' : a ≠ p := ne_of_none h1 hp0
        refine L.frm a u ?_ hax hap'
        rw [← hHs, upd_ne hax, upd_ne hap']; exact h1
      · by_cases ha : a = p
        · subst ha; exact .inr (S.c.fresh hp0).2.1
        · rw [upd_ne ha] at e; exact S.c.new a u e
      · rw [List.mem_singleton.mp ha]; exact ⟨_, L.hx⟩
      · obtain ⟨v, h1, h2⟩ := L.val i d e
        exact ⟨v, h1, RelD.mono ⟨Gf.upd fp, rfl⟩ d v h2⟩
      · refine relL_snoc ?_ (RelL.mono ⟨Gf.upd fp, rfl⟩ l vs rl)
        unfold RelD
        exact ⟨p, _, rfl, upd_same, RelL.of_ints _⟩
    have ne0 : env ≠ [] := fun z => by
      have := S.c.len
      rw [z] at this
      have h2 := S.s
      have : σ = [] := List.eq_nil_of_length_eq_zero (by simpa using this.symm)
      rw [this] at h2; cases h2
    -- the loop
    have hloop : ∀ J, ItOk X.K J (bs.map .int) F none → ∃ W : Nat → Nat → L2.St → Hp → Prop, (∃ m, W 0 m σ Hs) ∧ ∀ i m σ H, W i m σ H →
        (J.stop i H ∧ D.nx σ H) ∨ (J.go i H ∧ ∃ N : L2.St → Hp → Prop, (∀ σ' H', N σ' H' → ∃ m', m' < m ∧ W (i + 1) m' σ' H') ∧ ∀ x H', J.yld i H x H' → L2.gName j x σ H' fun σ2 H2 => tDrop (tBM X.K "list" rAppend (tFld X.K (tVar 0) "sums") (tCons (teU X.K de) tNil)) { D with nx := N, ct := N, bk := D.nx } σ2 H2) := by
      intro J iok
      refine ⟨fun i m σ' H' => m = bs.length - i ∧ i ≤ bs.length ∧ ∃ s, Ls X.K F Hs x p Cl' dx ns vs l t (env.set j s) σ' H' (sumsOf 0 (bs.take i)), ?_, ?_⟩
      · rcases set_self env j with z | ⟨s, hs'⟩
        · exact absurd z ne0
        · exact ⟨_, rfl, Nat.zero_le _, s, by rw [hs']; exact L0⟩
      · rintro i m σ2 H2 ⟨rfl, hi, s, L⟩
        obtain ⟨F2, g2, C2⟩ := L.seen
        have io := iok _ F2 none t _ σ2 H2 i g2 C2
        by_cases hlt : i < bs.length
        · have hb2 : (bs.map Q.D.int)[i]? = some (.int bs[i]) := by simp [hlt]
          obtain ⟨go, yl⟩ := io.2 _ hb2
          refine .inr ⟨go, fun σ' H' => ∃ m', m' < bs.length - i ∧ (m' = bs.length - (i + 1) ∧ i + 1 ≤ bs.length ∧ ∃ s, Ls X.K F Hs x p Cl' dx ns vs l t (env.set j s) σ' H' (sumsOf 0 (bs.take (i + 1)))), fun σ' H' z => z, fun xv H3 y => ?_⟩
          obtain ⟨gh, F3, _, _, _, rv⟩ := yl xv H3 y
          have exv : xv = .int bs[i] := by unfold RelD at rv; exact rv
          subst exv
          have L2' := (L.kept gh).setj hj bs[i]
          rw [List.set_set] at L2'
          obtain ⟨F4, _, C4⟩ := L2'.seen
          refine ⟨.ref x, L2'.s, x, Cl', dx, _, .ref p, rfl, L2'.hx, cl, na, zip_look hlen hns, Or.inl ⟨rfl, _, SqL.of L2'.hp⟩, ?_⟩
          refine ⟨B0 F4 none H3, F4, none, t, _, fun d t2 => d = .int (bs[i] - 1 + (sumsOf 0 (bs.take i)).getLastD 0) ∧ t2 = t, C4, ?_, ?_⟩
          · refine hde _ t _ (ns ++ [("sums" : Str)]) (l ++ [.lst ((sumsOf 0 (bs.take i)).map .int)]) (sumsOf 0 (bs.take i)) bs[i] ?_ ?_ ?_ ⟨rfl, rfl⟩
            · rw [List.getElem?_set_self (by simp; omega)]
            · exact zip_look (hlen.trans (RelL.len rl)) hns
            · rw [List.getElem?_set_ne (Ne.symm hj), List.getElem?_set_self hjl]
          · rintro v d F5 pa5 t5 H5 g5 C5 r5 ⟨rfl, rfl⟩
            have ev : v = .int (bs[i] - 1 + (sumsOf 0 (bs.take i)).getLastD 0) := by unfold RelD at r5; exact r5
            subst ev
            have gh5 : Gf H3 H5 := fun a u e => C5.frm a u e (by simp [B0])
            have L3 := L2'.kept gh5
            refine ⟨p, _, _, rfl, rfl, L3.hp, ?_, ?_⟩
            · simp only [List.length_map, sumsOf_len, List.length_take]
              unfold sizeLine
              omega
            · have L4 := L3.app (bs[i] - 1 + (sumsOf 0 (bs.take i)).getLastD 0)
              rw [List.map_append] at L4
              rw [show (sumsOf 0 (bs.take i)) ++ [bs[i] - 1 + (sumsOf 0 (bs.take i)).getLastD 0] = sumsOf 0 (bs.take (i + 1)) from ?_] at L4
              · refine ⟨bs.length - (i + 1), by omega, rfl, hlt, .val (.int bs[i]), ?_⟩
                exact L4
              · rw [List.take_add_one, List.getElem?_eq_getElem hlt]
                show _ = sumsOf 0 (bs.take i ++ [bs[i]])
                rw [sumsOf_snoc]
                refine congrArg (fun z => _ ++ [z]) ?_
                omega
        · have e : i = bs.length := by omega
          subst e
          rw [List.take_length] at L
          exact .inl ⟨io.1 (by simp), hfin _ _ _ L⟩
    rcases hab with hab | hab
    · refine ⟨.ref ab, hib, ab, rfl, .inl ⟨⟨_, SqL.of (L0.sub _ _ hab)⟩, hloop _ (it_list (SqL.of hab) (RelL.of_ints bs))⟩⟩
    · refine ⟨.ref ab, hib, ab, rfl, .inr ⟨⟨_, SqT.of (L0.sub _ _ hab)⟩, hloop _ (it_tup hab (RelL.of_ints bs))⟩⟩
end
end
end Q
namespace Q
open PySem L2 PyProof.Rows
section
variable {P : Program} {w : World} {K : PySem.W.Frag} {mg : Str → Option Value} {base : Heap}
theorem start0_nov {N : List Str} {ds : List D} (j : Nat) (d : D) : (start0 N ds)[j]? ≠ some (Sl.own d) := fun e => by
  unfold start0 at e
  by_cases hi : j < ds.length
  · rw [List.getElem?_append_left (by simpa using hi), List.getElem?_map] at e
    cases q : ds[j]? with
    | none => rw [q] at e; cases e
    | some y => rw [q] at e; cases e
  · rw [List.getElem?_append_right (by simpa using hi), List.getElem?_replicate] at e
    split at e <;> cases e
theorem is_start {F : Hp} {pa : Option Addr} {t : Ts} {H : Hp} {N : List Str} {n : Str} {ds : List D} {us : List V} {x dx C' : Addr} (C : Cf K (B0 F pa H) F pa t [] [] H) (np : nopens ds = true) (r : RelL K F pa ds us) (hx : H x = some (.ins C' dx [])) (h1 : F x = none) :
    Is K F H x C' [] [] F t (startI x N ds) (start (n :: N) (.ref x :: us)) H := by
  have r0 := RelL.un ds us np r
  have C0 : Cf K (B0 F none H) F none t [] [] H := ⟨rfl, C.sub, C.bas, fun _ _ e _ => e, fun a o e => .inl ⟨o, e⟩, fun a ha => by simp [B0] at ha, fun i d e => by simp at e, fun i d e => by simp at e, C.sep, fun a e => (by cases e), rfl⟩
  have S := cf_start (N := N) C0 r0
  have e2 : start (n :: N) (.ref x :: us) = some (V.ref x) :: start N us := by
    unfold L2.start
    simp
  have nov : ∀ (i : Nat) (d : D), (startI x N ds)[i]? ≠ some (Sl.own d) := fun i d e => by
    cases i with
    | zero => cases e
    | succ i => exact start0_nov i d e
  rw [e2]
  refine ⟨⟨by simpa [startI] using S.len, S.sub, fun _ _ e => e, fun a o e hp => e, fun a o e => .inl ⟨o, e⟩, fun a ha => ?_, fun i d e => ?_, fun i d e => absurd e (nov i d), fun i j d e a q1 => absurd q1 (nov i d), fun a e => (by cases e), rfl⟩, nov, ⟨dx, [], hx, rfl, RelL.nil⟩, h1, rfl⟩
  · rw [List.mem_singleton.mp ha]; exact ⟨_, hx⟩
  · cases i with
    | zero => cases e; exact ⟨.ref x, rfl, by unfold RelD; rfl⟩
    | succ i => exact S.val i d e
theorem fn_okI {x qual : Str} {st : Stmt} {f C' : Addr} {fd : FuncData} {n : Str} {N ps : List Str} {k : Nat} {sp : PSp} {ds : IS} (Fu : Fun K x qual st f fd) (S : FnScope (n :: N) ps (defScope st)) (len : ∀ as t Q, sp as t Q → as.length + 1 = ps.length)
    (hnp : ∀ as t Q, sp as t Q → nopens as = true)
    (hbody : ∀ (cdv : Value) (A : Around) (outer : List PySem.Env) (s : Shared) (H : Hp) (E : XK), Room k (A.deeper (envOfC qual (defScope st) s.heap.objs.size f cdv)) →
      PSs (cxOf CX0 P w K mg base (n :: N) qual (defScope st) f cdv A outer s H E).nox (defBody st) (tiS K C' ds))
    (hds : ∀ as t Q x, sp as t Q → ds (fun ns l env t' => t' = t ∧ Q (.ins C' ns l) t) [] [] (startI x N as) t) : FnOk P w K mg base CX0 (k + 1) f fd ps (liftI K C' sp) := by
  refine Fu.ok S (fun vs H Q E h => ?_) (fun cdv A outer s H vs Q E hr h => ?_)
  · obtain ⟨x, dx, us, F, pa, t, as, R, rfl, hx, h1, h2, C, r, q, _⟩ := h
    rw [List.length_cons, r.len]; exact len as t R q
  · obtain ⟨x, dx, us, F, pa, t, as, R, rfl, hx, h1, h2, C, r, q, fin⟩ := h
    refine ⟨_, hbody cdv A outer s H E hr, F, H, x, [], [], F, t, startI x N as, _, is_start C (hnp as t R q) r hx h1, hds as t R x q, fun ns' l' F' t' env' σ' H' S' h' => ?_⟩
    obtain ⟨rfl, h'⟩ := h'
    obtain ⟨dx', vs', e1, e2, e3⟩ := S'.ins
    have kp : ∀ a o, H a = some o → a ≠ x → H' a = some o := fun a o e ne => S'.c.frm a o e fun z => ne (List.mem_singleton.mp z)
    refine fin _ (.ins C' ns' l') F' pa t' H' ⟨rfl, S'.c.sub, S'.c.bas, fun a o e hp => ?_, S'.c.new, fun a ha => ?_, fun i d e => by simp at e, fun i d e => by simp at e, fun i j d e a q => by simp at q, fun a e => ?_, rfl⟩ S'.f h2 e1 ⟨dx', vs', rfl, e2, RelL.up l' vs' e3⟩ h'
    · exact kp a o e fun z => hp (by rw [z]; exact List.mem_cons_self ..)
    · rcases List.mem_cons.mp ha with z | z
      · rw [z]; exact ⟨_, e1⟩
      · obtain ⟨o, e⟩ := C.exl a z
        by_cases hax : a = x
        · rw [hax]; exact ⟨_, e1⟩
        · exact ⟨o, kp a o e hax⟩
    · obtain ⟨h3, ⟨h, h4, h5⟩, h6⟩ := C.pen a e
      have hax : a ≠ x := fun z => h2 (by rw [← z]; exact e)
      refine ⟨?_, ⟨h, kp a h h4 hax, h5.mono S'.c.bas⟩, .inl (List.mem_cons_of_mem _ (mem_pa.mpr e))⟩
      cases q2 : F' a with
      | none => rfl
      | some o =>
        rcases S'.c.new a o q2 with ⟨o', z⟩ | z
        · rw [show (BX F H x).F a = F a from rfl, h3] at z; cases z
        · rw [show (BX F H x).H a = H a from rfl, h4] at z; cases z
end
end Q

/-! QH13 -/
namespace Q
open PySem L2 PyProof.Rows
section
variable {X : Cx} {B : Bs} {K : PySem.W.Frag} {a b c e o : Expr} {es : List Expr} {pos : Pos} {da db dc : DE} {as : DA}
/-! ### an operation that gives a new object -/
def ROpN (K : PySem.W.Frag) (r : R2) (o : DOp) : Prop := ∀ (B : Bs) F pa t env σ H x y v u P (Q : VK), Cf K B F pa t env σ H → RelX K F pa env σ x v → RelX K F pa env σ y u → o x y P →
  (∀ p h d F' H', Gr F pa F' pa → Cf K B F' pa t env σ H' → Nw B F' pa env σ p → H' p = some h → RelO1 K F' pa d h → P d → Q (.ref p) H') → r v u H Q
theorem ev2N {r : R2} {o : DOp} (hr : ROpN K r o) : ∀ σ H Q, tnOf K B (dOp o da db) σ H Q → tOp r (tvOf K B da) (tvOf K B db) σ H Q := fun σ H Q ⟨F, pa, t, env, P, C, hd, k⟩ =>
  ⟨F, pa, t, env, _, C, hd, fun v x F1 pa1 t1 H1 g1 C1 r1 q1 => ⟨F1, pa1, t1, env, _, C1, q1, fun u y F2 pa2 t2 H2 g2 C2 r2 q2 =>
    hr B F2 pa2 t2 env σ H2 x y v u _ Q C2 (r1.mono g2) r2 q2 fun p h d F' H' g3 C3 n3 e3 r3 q3 => k p h d F' pa2 t2 H' ((g1.trans g2).trans g3) C3 n3 e3 r3 q3⟩⟩
theorem q_opN {op : Operator} {r : R2} {o : DOp} (ho : OpR X (binaryOp op) r) (hr : ROpN X.K r o) (ha : QV X B a da) (hb : QV X B b db) : QN X B (.BinOp a op b pos) (dOp o da db) := PE.imp (pe_op ho ha hb) (ev2N hr)
theorem ropn_cat : ROpN K rCat oCat := fun B F pa t env σ H x y v u P Q W rx ry h k => by
  cases x with
  | lst l =>
    cases y with
    | lst m =>
      obtain ⟨a, vs, rfl, e1, r1⟩ := rx.lst W
      obtain ⟨b, ws, rfl, e2, r2⟩ := ry.lst W
      exact ⟨a, b, vs, ws, rfl, rfl, e1, e2, by rw [r1.len, r2.len]; exact zle h.1, fun p hp => k p _ (.lst (l ++ m)) F _ (Gr.refl _ _) (W.loose _ hp) (W.nw hp) upd_same ⟨_, rfl, r1.append r2⟩ h.2⟩
    | _ => exact h.elim
  | _ => exact h.elim
theorem relL_rep {F : Hp} {pa : Option Addr} {l : List D} {vs : List V} (r : RelL K F pa l vs) : ∀ n : Nat, RelL K F pa (rep n l) (List.replicate n vs).flatten
  | 0 => RelL.nil
  | n + 1 => by
    unfold rep
    rw [List.replicate_succ, List.replicate_succ, List.flatten_cons, List.flatten_cons]
    exact r.append (relL_rep r n)
theorem ropn_rep : ROpN K rRep oRep := fun B F pa t env σ H x y v u P Q W rx ry h k => by
  cases x with
  | lst l =>
    cases y with
    | int j =>
      obtain ⟨a, vs, rfl, e1, r1⟩ := rx.lst W
      obtain ⟨⟨h1, h2, h3⟩, h4⟩ := h
      exact ⟨a, j, vs, rfl, ry.int W, e1, by omega, by omega, by rw [r1.len]; exact zle h3, fun p hp => k p _ (.lst (rep j.toNat l)) F _ (Gr.refl _ _) (W.loose _ hp) (W.nw hp) upd_same ⟨_, rfl, relL_rep r1 _⟩ h4⟩
    | _ => exact h.elim
  | _ => exact h.elim
/-! ### a whole number among whole numbers -/
theorem relL_ints {F : Hp} {pa : Option Addr} {l : List D} {vs : List V} {ns : List Int} (r : RelL K F pa l vs) (h : Q.intsD l = some ns) : vs = ns.map V.int := RelL.intsD r h
theorem flat_ints (ns : List Int) : (ns.map V.int).all flatV = true := by
  induction ns with
  | nil => rfl
  | cons n ns ih => rw [List.map_cons, List.all_cons, ih]; rfl
theorem in_ints (i : Int) (ns : List Int) : inV (.int i) (ns.map V.int) = ns.contains i := by
  unfold inV
  induction ns with
  | nil => rfl
  | cons n ns ih =>
    rw [List.map_cons, List.any_cons, ih, List.contains_cons]
    congr 1
    show (n == i) = (i == n)
    exact BEq.comm
def InP (P : List Int → Int → Prop) : D → D → Prop := fun x y => match x, y with
  | .int i, .lst l => ∃ ns, Q.intsD l = some ns ∧ P ns i
  | .int i, .tup l => ∃ ns, Q.intsD l = some ns ∧ P ns i
  | _, _ => False
theorem in_got {F : Hp} {pa : Option Addr} {t : Ts} {env : En} {σ : L2.St} {H : Hp} {x y : D} {v u : V} (W : Cf K B F pa t env σ H) (rx : RelX K F pa env σ x v) (ry : RelX K F pa env σ y u) {P : List Int → Int → Prop} (h : InP P x y) :
    ∃ p ns i, v = .int i ∧ u = .ref p ∧ (SqL K H p (ns.map V.int) ∨ SqT K H p (ns.map V.int)) ∧ P ns i := by
  cases x with
  | int i =>
    cases y with
    | lst l =>
      obtain ⟨ns, h1, h2⟩ := h
      obtain ⟨a, vs, rfl, e1, r1⟩ := ry.lst W
      rw [relL_ints r1 h1] at e1
      exact ⟨a, ns, _, rx.int W, rfl, .inl (SqL.of e1), h2⟩
    | tup l =>
      obtain ⟨ns, h1, h2⟩ := h
      obtain ⟨a, vs, rfl, e1, _, r1⟩ := ry.tup W
      rw [relL_ints r1 h1] at e1
      exact ⟨a, ns, _, rx.int W, rfl, .inr (SqT.of e1), h2⟩
    | _ => exact h.elim
  | _ => exact h.elim
theorem rop_in : ROp K (rIn K false) oIn := fun B F pa t env σ H x y v u P Q W rx ry h k => by
  obtain ⟨p, ns, i, rfl, rfl, hs, hP⟩ := in_got (P := fun ns i => P (.bl (ns.contains i))) W rx ry h
  exact ⟨p, _, rfl, hs, rfl, flat_ints ns, k _ _ F H (Gr.refl _ _) W (by rw [in_ints]; exact rD_bl _) hP⟩
theorem rop_notIn : ROp K (rIn K true) oNotIn := fun B F pa t env σ H x y v u P Q W rx ry h k => by
  obtain ⟨p, ns, i, rfl, rfl, hs, hP⟩ := in_got (P := fun ns i => P (.bl (!ns.contains i))) W rx ry h
  exact ⟨p, _, rfl, hs, rfl, flat_ints ns, k _ _ F H (Gr.refl _ _) W (by rw [in_ints]; exact rD_bl _) hP⟩
/-! ### l.index(x), l.count(x) -/
section
variable {apos cpos : Pos}
/-- the receiver first, its type, then the argument -/
theorem q_bm1 {name : Str} {id : String} {r : V → List V → Hp → VK → Prop} {o2 : DOp} (slot : Slot "list" name id) (hty : typeOf (.builtin id) = pure (.type "method_descriptor")) (hm : MtR X id r)
    (hr : ∀ (B : Bs) F pa t env σ H x y v u P (Q : VK), Cf X.K B F pa t env σ H → RelX X.K F pa env σ x v → RelX X.K F pa env σ y u → o2 x y P →
      (∀ w d F' H', Gr F pa F' pa → Cf X.K B F' pa t env σ H' → RelD X.K F' pa d w → P d → Q w H') → r v [u] H Q)
    (ho : QV X B o da) (he : QE X B e db) (hbase : attributeBase o name X.env (eval o X.env) = eval o X.env := by rfl)
    (hfew : ((backTo cpos (starEach [e] X.env)).all (fun x => !x.1) && (backToKw cpos (keywordEach [] X.env)).all (fun x => x.1.isSome) && decide ([e].length + ([] : List Keyword).length + (if ([] : List Keyword).isEmpty then 0 else 1) < 30)) = true := by rfl)
    (hline : (apos.endLine == cpos.line) = true := by rfl) (hs : starEach [e] X.env = (false, eval e X.env) :: starEach [] X.env := by rfl) (hplain : (backTo cpos (starEach [] X.env)).any (·.1) = false := by rfl) :
    QE X B (.Call (.Attribute o name apos) [e] [] cpos) (dLM o2 da db) :=
  PE.imp (pe_bm PySem.F.plainAttrs_list slot hty hm ho (pa_cons he pa_nil hs) hbase hfew hline hs hplain) fun σ H Q ⟨F, pa, t, env, P, C, hd, k⟩ =>
    ⟨F, pa, t, env, _, C, hd, fun v x F1 pa1 t1 H1 g1 C1 r1 q1 => by
      cases x with
      | lst l =>
        obtain ⟨a, vs, rfl, e1, r2⟩ := r1.lst C1
        exact ⟨Or.inl ⟨rfl, vs, SqL.of e1⟩, F1, pa1, t1, env, _, C1, q1, fun u y F2 pa2 t2 H2 g2 C2 r3 q3 =>
          hr B F2 pa2 t2 env σ H2 _ y _ u _ Q C2 (r1.mono g2) (.inl r3) q3 fun w d F' H' g3 C3 r3 q3 => k w d F' pa2 t2 H' ((g1.trans g2).trans g3) C3 r3 q3⟩
      | _ => exact q1.elim⟩
theorem rbm_index : ∀ (B : Bs) F pa t env σ H x y v u P (Q : VK), Cf K B F pa t env σ H → RelX K F pa env σ x v → RelX K F pa env σ y u → oIdx x y P →
      (∀ w d F' H', Gr F pa F' pa → Cf K B F' pa t env σ H' → RelD K F' pa d w → P d → Q w H') → rIndex K v [u] H Q := fun B F pa t env σ H x y v u P Q W rx ry h k => by
  unfold oIdx at h
  split at h
  · obtain ⟨ns, j, h1, h2, h3, h4⟩ := h
    obtain ⟨a, vs, rfl, e1, r1⟩ := rx.lst W
    rw [relL_ints r1 h1] at e1
    refine ⟨a, _, u, j, .int _, rfl, rfl, SqL.of e1, by rw [ry.int W]; rfl, flat_ints ns, by rw [List.getElem?_map, h2]; rfl, by rw [ry.int W]; exact beq_self_eq_true _, fun m z' hm hz => ?_, k _ _ F H (Gr.refl _ _) W (rD_int _) h4⟩
    rw [List.getElem?_map] at hz
    cases q : ns[m]? with
    | none => rw [q] at hz; cases hz
    | some z =>
      rw [q] at hz
      cases hz
      rw [ry.int W]
      exact beq_eq_false_iff_ne.mpr fun z2 => h3 m hm (by rw [q, z2])
  · exact h.elim
theorem rbm_count : ∀ (B : Bs) F pa t env σ H x y v u P (Q : VK), Cf K B F pa t env σ H → RelX K F pa env σ x v → RelX K F pa env σ y u → oCnt x y P →
      (∀ w d F' H', Gr F pa F' pa → Cf K B F' pa t env σ H' → RelD K F' pa d w → P d → Q w H') → rCntI K v [u] H Q := fun B F pa t env σ H x y v u P Q W rx ry h k => by
  unfold oCnt at h
  split at h
  · obtain ⟨ns, h1, h4⟩ := h
    obtain ⟨a, vs, rfl, e1, r1⟩ := rx.lst W
    rw [relL_ints r1 h1] at e1
    exact ⟨a, ns, _, rfl, by rw [ry.int W], SqL.of e1, k _ _ F H (Gr.refl _ _) W (rD_int _) h4⟩
  · exact h.elim
theorem q_idx {apos cpos : Pos} (ho : QV X B o da) (he : QE X B e db) (h1 : attributeBase o "index" X.env (eval o X.env) = eval o X.env := by rfl)
    (h2 : ((backTo cpos (starEach [e] X.env)).all (fun x => !x.1) && (backToKw cpos (keywordEach [] X.env)).all (fun x => x.1.isSome) && decide ([e].length + ([] : List Keyword).length + (if ([] : List Keyword).isEmpty then 0 else 1) < 30)) = true := by rfl)
    (h3 : (apos.endLine == cpos.line) = true := by rfl) (h4 : starEach [e] X.env = (false, eval e X.env) :: starEach [] X.env := by rfl) (h5 : (backTo cpos (starEach [] X.env)).any (·.1) = false := by rfl) :
    QE X B (.Call (.Attribute o "index" apos) [e] [] cpos) (dLM oIdx da db) := q_bm1 PySem.F.slot_list_index PySem.F.type_list_index mt_index rbm_index ho he h1 h2 h3 h4 h5
theorem q_cnt {apos cpos : Pos} (ho : QV X B o da) (he : QE X B e db) (h1 : attributeBase o "count" X.env (eval o X.env) = eval o X.env := by rfl)
    (h2 : ((backTo cpos (starEach [e] X.env)).all (fun x => !x.1) && (backToKw cpos (keywordEach [] X.env)).all (fun x => x.1.isSome) && decide ([e].length + ([] : List Keyword).length + (if ([] : List Keyword).isEmpty then 0 else 1) < 30)) = true := by rfl)
    (h3 : (apos.endLine == cpos.line) = true := by rfl) (h4 : starEach [e] X.env = (false, eval e X.env) :: starEach [] X.env := by rfl) (h5 : (backTo cpos (starEach [] X.env)).any (·.1) = false := by rfl) :
    QE X B (.Call (.Attribute o "count" apos) [e] [] cpos) (dLM oCnt da db) := q_bm1 PySem.F.slot_list_count PySem.F.type_list_count mt_lcount rbm_count ho he h1 h2 h3 h4 h5
end
theorem rc_int : RCall K (fun xs H Q => (∃ i, xs = [.int i] ∧ Q (.int i) H) ∨ ∃ k, xs = [.bl k] ∧ Q (.int (if k then 1 else 0)) H) bInt := fun B F pa t env σ H xs vs P Q W r h k => by
  unfold bInt at h
  split at h
  · obtain ⟨v, rfl, r1⟩ := r.one
    exact .inl ⟨_, by rw [r1.int W], k _ _ F H (Gr.refl _ _) W (rD_int _) h⟩
  · obtain ⟨v, rfl, r1⟩ := r.one
    exact .inr ⟨_, by rw [r1.bl W], k _ _ F H (Gr.refl _ _) W (rD_int _) h⟩
  · exact h.elim
end
end Q

/-! QH14 -/
namespace Q
open PySem L2 PyProof.Rows
section
variable {X : Cx} {B : Bs} {K : PySem.W.Frag}
theorem vals_pick {vs : List V} {us : List Value} (r : Vals vs us) : ∀ ix : List Nat, Vals (pick ix vs) (pick ix us)
  | [] => .nil
  | i :: ix => by
    unfold pick
    rw [List.filterMap_cons, List.filterMap_cons]
    have ih := vals_pick r ix
    unfold pick at ih
    have hl := r.length
    by_cases h : i < vs.length
    · obtain ⟨u, h1, h2⟩ : ∃ u, us[i]? = some u ∧ RelV vs[i] u := by
        clear ih hl
        induction r generalizing i with
        | nil => simp at h
        | cons a b ih => 
          cases i with
          | zero => exact ⟨_, rfl, a⟩
          | succ i => exact ih i (by simpa using h)
      rw [List.getElem?_eq_getElem h, h1]
      exact .cons h2 ih
    · rw [List.getElem?_eq_none (by omega), List.getElem?_eq_none (by omega)]
      exact ih
theorem relL_pick {F : Hp} {pa : Option Addr} {ds : List D} {vs : List V} (r : RelL K F pa ds vs) : ∀ ix : List Nat, RelL K F pa (pick ix ds) (pick ix vs)
  | [] => RelL.nil
  | i :: ix => by
    unfold pick
    rw [List.filterMap_cons, List.filterMap_cons]
    have ih := relL_pick r ix
    unfold pick at ih
    have hl := r.len
    cases h : ds[i]? with
    | some d =>
      obtain ⟨v, h1, h2⟩ := r.get h
      rw [h1]
      exact RelL.cons h2 ih
    | none =>
      rw [List.getElem?_eq_none (by have := List.getElem?_eq_none_iff.mp h; omega)]
      exact ih
/-- the values alone, by names -/
def gK {α : Type} (ix : List Nat) (us ws : List α) : List α := match us with
  | [] => pick ix ws
  | _ => []
theorem kb_of {fd : FuncData} {ps ks : List Str} {ix : List Nat} (hps : ps ≠ []) (h : ∀ (s : Shared) (ws : List Value), (pick ix ws).length = ps.length → BindsTo s fd ⟨[], ks.zip ws⟩ (ps.zip (pick ix ws))) : KBinds K fd ps ks (gK ix) (gK ix) :=
  ⟨fun s us ws _ hl => by
    cases us with
    | nil => exact h s ws hl
    | cons a r => exact absurd (List.length_eq_zero_iff.mp hl.symm) hps, fun {vs us zs ws} r rz => by
    cases r with
    | nil => exact vals_pick rz ix
    | cons a b => exact .nil⟩
section
variable {CX : CXT} {k : Nat} {f : Addr} {fd : FuncData} {ps ks : List Str} {sp : Sp} {E : XK} {x : Str} {p pos : Pos} {kws : List Keyword} {tk : TA} {g : List Value → List Value → List Value} {gV : List V → List V → List V}
theorem pe_callK0 (F : FnOk X.prog X.w X.K X.mg X.base CX k f fd ps sp) (hr : Room k X.A) (hg : Gl X x) (hm : X.mg x = some (.ref f)) (hk : PySem.W.keepIn X.K (.ref f) = true) (hb : KBinds X.K fd ps ks g gV) (hx : Passes CX X E) (hkw : PK X kws tk)
    (h1 : (backToKw pos (keywordEach kws X.env)).all (·.1.isSome) = true := by rfl) (h2 : (backToKw pos (keywordEach kws X.env)).filterMap (·.1) = ks := by rfl) (hdb : (x == ("__debug__" : Str)) = false := by decide)
    (h3 : ((backTo pos (starEach [] X.env)).any (·.1) || (backToKw pos (keywordEach kws X.env)).any (·.1.isNone)) = false := by rfl) : PE X (.Call (.Name x p) [] kws pos) (tCallK sp gV E tNil tk) := ⟨fun pins s σ H Q I h => by
  refine wpAny_Call_Name_kw (ld_glob I hg hm ?_ hdb)
  refine PySem.W.callWith_KW0 (h₀ := X.base) I.ok.mod.kin hk h1 (thn (hkw.run pos pins s σ H _ I h) ?_) h3
  rintro ws s1 ⟨zs, H1, I1, rz, q⟩
  refine ⟨I1.kIn, ?_⟩
  rw [h2]
  exact run_fnk (us := []) (vs := []) F hr hb hx I1 .nil rz q⟩
end
/-- keywords' values -/
abbrev QK (X : Cx) (B : Bs) (kws : List Keyword) (da : DA) : Prop := PK X kws (taOf X.K B da)
theorem q_knil : QK X B [] dNil := ⟨fun pos pins s σ H Q I ⟨F, pa, t, env, P, C, hd, k⟩ => pk_nil.run pos pins s σ H Q I (k [] [] F pa t H (Gr.refl _ _) C RelL.nil hd)⟩
theorem PK.imp {kws : List Keyword} {t t' : TA} (h : PK X kws t) (i : ∀ σ H Q, t' σ H Q → t σ H Q) : PK X kws t' := ⟨fun pos pins s σ H Q I q => h.run pos pins s σ H Q I (i σ H Q q)⟩
theorem q_kcons {nm : Option Str} {e : Expr} {kpos : Pos} {kws : List Keyword} {da : DE} {as : DA} (ha : QE X B e da) (hr : QK X B kws as) : QK X B (⟨nm, e, kpos⟩ :: kws) (dCons da as) :=
  PK.imp (pk_cons ha hr) fun σ H Q ⟨F, pa, t, env, P, C, hd, k⟩ => ⟨F, pa, t, env, _, C, hd, fun v x F1 pa1 t1 H1 g1 C1 r1 q1 => ⟨F1, pa1, t1, env, _, C1, q1, fun vs xs F2 pa2 t2 H2 g2 C2 r2 q2 => k (v :: vs) (x :: xs) F2 pa2 t2 H2 (g1.trans g2) C2 (RelL.cons (RelD.mono g2 _ _ r1) r2) q2⟩⟩
section
variable {CX : CXT} {k : Nat} {f : Addr} {fd : FuncData} {ps ks : List Str} {sp : PSp} {E : XK} {x : Str} {p pos : Pos} {kws : List Keyword} {as : DA} {ix : List Nat}
theorem ev_callK : ∀ σ H Q, teOf K B (dCallK sp ix as) σ H Q → tCallK (lift K sp) (gK ix) E tNil (taOf K B as) σ H Q := fun σ H Q ⟨F, pa, t, env, P, W, h, k⟩ =>
  ⟨F, pa, t, env, _, W, h, fun vs xs F1 pa1 t1 H1 g1 W1 r1 q1 => ⟨F1, pa1, t1, pick ix xs, P, W1.call, relL_pick r1 ix, q1, fun v d F' pa' t' H' W' r' q' => by
    obtain ⟨g, W2⟩ := W1.after W'
    exact k v d F' pa' t' H' (g1.trans g) W2 r' q'⟩⟩
theorem q_callK (F : FnOk X.prog X.w X.K X.mg X.base CX k f fd ps (lift X.K sp)) (hr : Room k X.A) (hg : Gl X x) (hm : X.mg x = some (.ref f)) (hk : PySem.W.keepIn X.K (.ref f) = true) (hb : KBinds X.K fd ps ks (gK ix) (gK ix)) (hx : Passes CX X E) (hkw : QK X B kws as)
    (h1 : (backToKw pos (keywordEach kws X.env)).all (·.1.isSome) = true := by rfl) (h2 : (backToKw pos (keywordEach kws X.env)).filterMap (·.1) = ks := by rfl) (hdb : (x == ("__debug__" : Str)) = false := by decide)
    (h3 : ((backTo pos (starEach [] X.env)).any (·.1) || (backToKw pos (keywordEach kws X.env)).any (·.1.isNone)) = false := by rfl) : QE X B (.Call (.Name x p) [] kws pos) (dCallK sp ix as) :=
  PE.imp (pe_callK0 F hr hg hm hk hb hx hkw h1 h2 hdb h3) ev_callK
end
end
end Q

/-! QH15 -/
namespace Q
open PySem L2 PyProof.Rows
/-! ### enumerate(xs, start=c) -/
/-- the list at a, its items in new pairs behind c, c + 1, .. -/
def IteS (K : PySem.W.Frag) (a : Addr) (c : Int) : It :=
  ⟨fun i H => ∃ (xs : List V) (x : V), SqL K H a xs ∧ xs[i]? = some x,
   fun i H v H' => ∃ T x, v = .ref T ∧ H T = none ∧ H' = upd H T (.tup [.int (c + i), x]) ∧ ∀ xs, SqL K H a xs → xs[i]? = some x,
   fun i H => ∃ xs : List V, SqL K H a xs ∧ xs.length = i⟩
/-- the two cells of it, the counter apart -/
def EnS (c : Int) (a e it : Addr) (i : Nat) (h : Heap) : Prop := (∃ v0, IsEnum h e it (c + i) v0) ∧ h.IsListIter it a i ∧ e ≠ it
theorem turn_enumS {P : Program} {w : World} {K : PySem.W.Frag} {elts : List Expr} {kk : Nat} {tpos : Pos} (c : Int) (a e it : Addr) : Turn P w K (.Tuple elts kk tpos) (IteS K a c) [e, it] e (EnS c a e it) := by
  have two : ∀ {b : Addr}, b ∈ [e, it] → b = e ∨ b = it := fun h => by simpa using h
  refine ⟨List.mem_cons_self .., fun i h st b hb => ?_, fun i h h' st k => ?_, ?_, ?_, fun A i s Q E st h => ?_⟩
  · obtain ⟨⟨v0, h1⟩, ⟨o, h2, _, h3⟩, _⟩ := st
    rcases two hb with rfl | rfl
    · exact ⟨_, h1, fun _ z => by cases z⟩
    · exact ⟨o, h2, fun _ z => by rw [h3] at z; cases z⟩
  · obtain ⟨⟨v0, h1⟩, h2, h3⟩ := st
    exact ⟨⟨v0, k e (List.mem_cons_self ..) _ h1⟩, h2.at fun o z => k it (List.mem_cons_of_mem _ (List.mem_cons_self ..)) o z, h3⟩
  · intro X hP hw hK hcalm i pins s σ H E I free st go
    subst hP hw hK
    obtain ⟨⟨v0, h1⟩, h2, h3⟩ := st
    obtain ⟨xs, x, hq, hx⟩ := go
    obtain ⟨its, rv, p, hz⟩ := I.list hq
    obtain ⟨u, hu, ru⟩ := rv.get hx
    have le : e < s.heap.objs.size := Heap.lt_size h1
    have li : it < s.heap.objs.size := by
      obtain ⟨_, z, _⟩ := h2
      exact Heap.lt_size z
    have nia : a ≠ it := by
      rintro rfl
      obtain ⟨o1, z1, c1, _⟩ := p.isList
      obtain ⟨o2, z2, c2, _⟩ := h2
      rw [z1] at z2
      cases z2
      rw [c1] at c2
      simp at c2
    have nea : e ≠ a := by
      rintro rfl
      obtain ⟨o1, z1, c1, _⟩ := p.isList
      rw [h1] at z1
      cases z1
      simp at c1
    have Dr := Draws.list (prog := X.prog) (w := X.w) (A := X.A.in1) (I.ok.hd hcalm) it a nia its.toArray
    refine wpAny_pyNext_enum_itemC (i := i) Dr h1 ⟨h2, p.isList⟩ (by have := (List.getElem?_eq_some_iff.mp hu).1; simpa using this) h3 (by simp [h3, nea]) fun y h' tk hy ho hst hT hsz hk => ?_
    have hyu : y = u := by
      have : its.toArray[i]? = some u := by simpa using hu
      rw [this] at hy
      cases hy
      rfl
    subst hyu
    refine ⟨_, rfl, wpAny_letOwnedTupleGo_enum (s := { s with heap := h', toks := tk + 1 }) ho fun h'' he' sb => ?_⟩
    have hT2 := (sb.2 _ (Nat.ne_of_gt le)).trans hT
    have new : ObjOk X.prog X.w (upd H s.heap.objs.size (.tup [.int (c + i), x])) h'' s.heap.objs.size (.tup [.int (c + i), x]) := ⟨by show 2 ≤ sizeLine; decide, _, .cons ⟨tk, rfl⟩ (.cons ru .nil), _, hT2, rfl, _, rfl⟩
    have J : Inv X pins σ (upd H s.heap.objs.size (.tup [.int (c + i), x])) { s with heap := h'', toks := tk + 1 } := by
      refine I.turnedNew (ch := [e, it]) (fun b ob hb q => ?_) free (Nat.le_refl _) new
      have n1 : b ≠ e := fun z => hb (by simp [z])
      have n2 : b ≠ it := fun z => hb (by simp [z])
      exact (sb.2 b n1).trans (hk b ob n1 n2 q)
    refine ⟨.ref s.heap.objs.size, _, J, rfl, ⟨_, x, rfl, I.hok.fresh (Nat.le_refl _), rfl, fun ys hy => ?_⟩, ⟨⟨y, ?_⟩, hst.1.at fun o q => (sb.2 it (Ne.symm h3)).trans q, h3⟩, fun b hb => ?_⟩
    · rw [I.list_inj hy hq]; exact hx
    · rw [show c + ((i + 1 : Nat) : Int) = c + i + 1 by omega]
      exact he'
    · have lb : b < s.heap.objs.size := by rcases two hb with rfl | rfl <;> assumption
      rw [upd_ne (Nat.ne_of_lt lb)]
      exact (free b hb).1
  · intro X hP hw hK hcalm i pins s σ H E I free st go
    subst hP hw hK
    obtain ⟨⟨v0, h1⟩, h2, h3⟩ := st
    obtain ⟨xs, hq, hx⟩ := go
    obtain ⟨its, rv, p, hz⟩ := I.list hq
    have nia : a ≠ it := by
      rintro rfl
      obtain ⟨o1, z1, c1, _⟩ := p.isList
      obtain ⟨o2, z2, c2, _⟩ := h2
      rw [z1] at z2
      cases z2
      rw [c1] at c2
      simp at c2
    obtain ⟨f0, f1, f2, f3, f4, f5⟩ := free it (List.mem_cons_of_mem _ (List.mem_cons_self ..))
    have hl := rv.length
    have Dr := Draws.list (prog := X.prog) (w := X.w) (A := X.A.in1) (I.ok.hd hcalm) it a nia its.toArray
    refine wpAny_pyNext_enum_endD Dr h1 ⟨?_, p.isList⟩ fun h' eb => ⟨rfl, I.turned (t' := s.toks) (fun b o hb q => eb b o hb q) f0 f1 f3 f4 f5⟩
    rw [show its.toArray.size = i by simp; omega]
    exact h2
  · obtain ⟨⟨v0, h1⟩, h2, h3⟩ := st
    exact wpAny_pyIter_enum h1 h
section
variable {X : Cx} {B : Bs} {K : PySem.W.Frag} {e : Expr} {da : DE}
def iEnS (K : PySem.W.Frag) (c : Int) (ta : TA) : TI := fun σ H R => ta σ H fun vs H1 => ∃ a xs, vs = [.ref a] ∧ SqL K H1 a xs ∧ R (IteS K a c) H1
theorem pi_enumS {ta : TA} {p tpos kpos pos jp : Pos} {elts : List Expr} {kk j : Nat} {c : Int} (hc0 : -(2 ^ 63) ≤ c) (hc1 : c < 2 ^ 63) (hg : Gl X "enumerate") (hm : X.mg "enumerate" = none) (ha : PA X [e] ta)
    (hs : starEach [e] X.env = (false, eval e X.env) :: starEach [] X.env := by rfl) (h1 : (backToKw pos (keywordEach [⟨some "start", .Constant (.int c) j jp, kpos⟩] X.env)).all (·.1.isSome) = true := by rfl)
    (h2 : (backToKw pos (keywordEach [⟨some "start", .Constant (.int c) j jp, kpos⟩] X.env)).filterMap (·.1) = [Str.ofString "start"] := by rfl)
    (h3 : ((backTo pos (starEach [e] X.env)).any (·.1) || (backToKw pos (keywordEach [⟨some "start", .Constant (.int c) j jp, kpos⟩] X.env)).any (·.1.isNone)) = false := by rfl) :
    PI X (.Tuple elts kk tpos) (.Call (.Name "enumerate" p) [e] [⟨some "start", .Constant (.int c) j jp, kpos⟩] pos) (iEnS X.K c ta) := ⟨fun pins s σ H R I h => by
  have hkw : PK X [⟨some "start", .Constant (.int c) j jp, kpos⟩] (tCons (tC (.int c)) tNil) := pk_cons pe_int pk_nil
  refine wpAny_Call_Name_kw (ld_blt I hg hm boot_enumerate ?_ (by decide) (by decide))
  refine PySem.W.callWith_of (P := fun _ => True) h3 (fun hh _ => ⟨Keeper.machine, .inr (.inl rfl), PySem.W.Looks.of_pure (by rfl)⟩) (evalArgs_kw2 h1 ?_ hs)
  refine thn (ha.run pos pins s σ H _ I h) ?_
  rintro us s1 ⟨vs, H1, I1, r1, a, xs, rfl, hq, q⟩
  obtain ⟨u, rfl, ru⟩ := vals1 r1
  obtain rfl : u = Value.ref a := ru
  refine thn (hkw.run pos pins s1 σ H1 (fun zs H2 => zs = [.int c] ∧ H2 = H1) I1 ⟨rfl, rfl⟩) ?_
  rintro ws s2 ⟨zs, H2, I2, r2, rfl, rfl⟩
  obtain ⟨w, rfl, rw'⟩ := vals1 r2
  obtain ⟨tk, rfl⟩ := (show ∃ tk, w = Value.int c tk from rw')
  refine ⟨True.intro, ?_⟩
  rw [h2]
  obtain ⟨its, rv, p', hz⟩ := I2.list hq
  show wpAny _ _ (PySem.call (.type "enumerate") [.ref a] [(Str.ofString "start", .int c tk)]) _ _ s2
  refine enum_begins_start (begins_list a its.toArray) p'.isList hc0 hc1 fun h' he hit hsz hk => wpAny_pyIter_enum he ?_
  have I3 : Inv X pins σ H2 { s2 with heap := h' } := I2.kept (t' := s2.toks) hk
  refine ⟨s2.heap.objs.size + 1, [s2.heap.objs.size + 1, s2.heap.objs.size], _, _, H2, rfl, I3, turn_enumS c a (s2.heap.objs.size + 1) s2.heap.objs.size, ⟨⟨.none, by simpa using he⟩, ⟨_, hit, rfl, rfl⟩, Nat.succ_ne_self _⟩, fun b hb => ?_, q⟩
  have le : s2.heap.objs.size ≤ b := by
    rcases List.mem_cons.mp hb with z | z
    · rw [z]; exact Nat.le_succ _
    · rw [List.mem_singleton.mp z]; exact Nat.le_refl _
  exact I2.fpOk le (I2.hok.fresh le)⟩
theorem it_enum {F0 : Hp} {pa0 : Option Addr} {a : Addr} {l : List D} {vs : List V} {c : Int} (e : SqL K F0 a vs) (r : RelL K F0 pa0 l vs) : ItOk K (IteS K a c) (enumL c l) F0 pa0 := fun B F pa t env σ H i g C => by
  have eH : SqL K H a vs := sq_mono C.sub (sq_mono g.f e)
  refine ⟨fun hi => ⟨vs, eH, by rw [r.len, ← enumL_len l c]; exact hi⟩, fun d hd => ?_⟩
  rw [enumL_get] at hd
  cases q : l[i]? with
  | none => rw [q] at hd; cases hd
  | some d0 =>
    rw [q] at hd
    cases hd
    obtain ⟨v, hv, rv⟩ := r.get q
    refine ⟨⟨vs, v, eH, hv⟩, fun x H' y => ?_⟩
    obtain ⟨T, x0, rfl, hT, rfl, hx⟩ := y
    have := hx vs eH
    rw [hv] at this
    cases this
    have fr : F T = none := (C.fresh hT).1
    have rr : RelL K F pa [.int (c + i), d0] [.int (c + i), v] := RelL.cons (rD_int _) (RelL.cons (RelD.mono g d0 v rv) RelL.nil)
    obtain ⟨g', C'⟩ := C.alloc (.tup [.int (c + i), v]) hT
    refine ⟨fun b o z => by rw [upd_ne (ne_of_none z hT)]; exact z, _, fun b o z => ?_, g', C', ?_⟩
    · by_cases hb : b = T
      · rw [hb]; exact .inr hT
      · rw [upd_ne hb] at z
        exact .inl ⟨o, z⟩
    · unfold RelD
      exact ⟨T, _, rfl, upd_same, RelL.mono g' _ _ rr⟩
theorem q_ienum {elts : List Expr} {kk j : Nat} {p tpos kpos pos jp : Pos} {c : Int} (hc0 : -(2 ^ 63) ≤ c) (hc1 : c < 2 ^ 63) (hg : Gl X "enumerate") (hm : X.mg "enumerate" = none) (he : QE X B e da)
    (hs : starEach [e] X.env = (false, eval e X.env) :: starEach [] X.env := by rfl) (h1 : (backToKw pos (keywordEach [⟨some "start", .Constant (.int c) j jp, kpos⟩] X.env)).all (·.1.isSome) = true := by rfl)
    (h2 : (backToKw pos (keywordEach [⟨some "start", .Constant (.int c) j jp, kpos⟩] X.env)).filterMap (·.1) = [Str.ofString "start"] := by rfl)
    (h3 : ((backTo pos (starEach [e] X.env)).any (·.1) || (backToKw pos (keywordEach [⟨some "start", .Constant (.int c) j jp, kpos⟩] X.env)).any (·.1.isNone)) = false := by rfl) :
    QI X B (.Tuple elts kk tpos) (.Call (.Name "enumerate" p) [e] [⟨some "start", .Constant (.int c) j jp, kpos⟩] pos) (iEnumD c da) :=
  PI.imp (pi_enumS hc0 hc1 hg hm (pa_cons he pa_nil hs) hs h1 h2 h3) fun σ H R ⟨F, pa, t, env, P, C, h, k⟩ => ⟨F, pa, t, env, _, C, h, fun v d F' pa' t' H' g C' r q => by
    cases d with
    | lst l =>
      have r' := r
      unfold RelD at r'
      obtain ⟨a, vs, rfl, e1, r1⟩ := r'
      exact ⟨a, vs, rfl, SqL.of (C'.sub _ _ e1), k _ _ F' pa' t' H' g C' (it_enum (SqL.of e1) r1) q⟩
    | _ => exact q.elim⟩
end
end Q

/-! QH16 -/
namespace Q
open PySem L2 PyProof.Rows
section
variable {X : Cx} {B : Bs} {K : PySem.W.Frag}
/-- an instance is made: what its __init__ is handed -/
theorem make_in {Cl' : Addr} {sp : PSp} {E : XK} {F1 : Hp} {pa1 : Option Addr} {t1 : Ts} {env : En} {σ : L2.St} {H1 : Hp} {xs : List D} {us : List V} {P : D → Ts → Prop} {Q : VK} {x dx : Addr} (W1 : Cf K B F1 pa1 t1 env σ H1) (r1 : RelL K F1 pa1 xs us) (q1 : sp xs t1 P) (hx : H1 x = none) (hdx : H1 dx = none) (hne : dx ≠ x)
    (k : ∀ h d F' pa' t' H', Gr F1 pa1 F' pa' → Cf K B F' pa' t' env σ H' → Nw B F' pa' env σ x → H' x = some h → RelO1 K F' pa' d h → P d t' → Q (.ref x) H') : liftI K Cl' sp (.ref x :: us) (upd (upd H1 dx (.own x)) x (.ins Cl' dx [])) (fun v H2 => v = .non ∧ Q (.ref x) H2) E := by
    have hx2 : upd H1 dx (.own x) x = none := by rw [upd_ne (Ne.symm hne)]; exact hx
    have W2 := (W1.loose (.own x) hdx).loose (.ins Cl' dx []) hx2
    obtain ⟨hF, hB, _⟩ := W1.fresh hx
    have nw := W1.nw hx
    have up : ∀ a o, H1 a = some o → upd (upd H1 dx (.own x)) x (.ins Cl' dx []) a = some o := fun a o e => by
      rw [upd_ne (ne_of_none e hx), upd_ne (ne_of_none e hdx)]; exact e
    refine ⟨x, dx, _, F1, pa1, t1, xs, P, rfl, upd_same, hF, nw.a, W2.call, r1, q1, fun hh d F' pa' t' H' W' n1 n2 e' r' q' => ⟨rfl, ?_⟩⟩
    have W3 : Cf K (B0 F1 pa1 H1) F' pa' t' [] [] H' := by
      refine ⟨rfl, W'.sub, W'.bas, fun a o e hp => ?_, fun a o e => ?_, fun a ha => ?_, W'.val, fun i d e => by simp at e, W'.sep, fun a e => ?_, W'.pnn⟩
      · refine W'.frm a o (up a o e) fun z => ?_
        rcases List.mem_cons.mp z with z | z
        · exact absurd z (ne_of_none e hx)
        · exact hp z
      · rcases W'.new a o e with z | z
        · exact .inl z
        · refine .inr ?_
          cases q : H1 a with
          | none => exact q
          | some u => rw [show (BI F1 pa1 (upd (upd H1 dx (.own x)) x (.ins Cl' dx [])) x).H a = upd (upd H1 dx (.own x)) x (.ins Cl' dx []) a from rfl, up a u q] at z; cases z
      · exact W'.exl a (List.mem_cons_of_mem _ ha)
      · obtain ⟨h1, h2, h3⟩ := W'.pen a e
        refine ⟨h1, h2, ?_⟩
        rcases h3 with z | z
        · rcases List.mem_cons.mp z with z | z
          · exact absurd (by rw [e, z]) n2
          · exact .inl z
        · refine .inr ?_
          cases q : H1 a with
          | none => exact q
          | some u => rw [show (BI F1 pa1 (upd (upd H1 dx (.own x)) x (.ins Cl' dx [])) x).H a = upd (upd H1 dx (.own x)) x (.ins Cl' dx []) a from rfl, up a u q] at z; cases z
    obtain ⟨g, W4⟩ := W1.after W3
    exact k hh d F' pa' t' H' g W4 ⟨n1, hB, n2, nw.s⟩ e' r' q'
/-- by names alone -/
def gM {α : Type} (ix : List Nat) (us ws : List α) : List α := match us with
  | [x] => x :: pick ix ws
  | _ => []
theorem kbn_of {fd : FuncData} {ps ks : List Str} {ix : List Nat} (h : ∀ (s : Shared) (x : Value) (ws : List Value), ws.length = ks.length → BindsTo s fd ⟨[x], ks.zip ws⟩ (ps.zip (x :: pick ix ws))) : KBn K fd ps 1 ks (gM ix) (gM ix) :=
  ⟨fun s us ws _ l1 l2 => by
    match us, l1 with
    | [x], _ => exact h s x ws l2, fun {vs us zs ws} r rz => by
    cases r with
    | nil => exact .nil
    | cons a b =>
      cases b with
      | nil => exact .cons a (vals_pick rz ix)
      | cons _ _ => exact .nil⟩
theorem q_makeK {CX : CXT} {k : Nat} {f Cl' : Addr} {fd : FuncData} {ps ks : List Str} {sp : PSp} {E : XK} {x : Str} {p pos : Pos} {kws : List Keyword} {as : DA} {ix : List Nat} (M : Mk X.K Cl' f) (F : FnOk X.prog X.w X.K X.mg X.base CX k f fd ps (liftI X.K Cl' sp)) (hr : Room (k + 1) X.A) (hg : Gl X x) (hm : X.mg x = some (.ref Cl')) (hb : KBn X.K fd ps 1 ks (gM ix) (gM ix))
    (hl : ix.length = ks.length) (hx : Passes CX X E) (hkw : QK X B kws as) (h1 : (backToKw pos (keywordEach kws X.env)).all (·.1.isSome) = true := by rfl) (h2 : (backToKw pos (keywordEach kws X.env)).filterMap (·.1) = ks := by rfl) (hdb : (x == ("__debug__" : Str)) = false := by decide)
    (h3 : ((backTo pos (starEach [] X.env)).any (·.1) || (backToKw pos (keywordEach kws X.env)).any (·.1.isNone)) = false := by rfl) : QN X B (.Call (.Name x p) [] kws pos) (dMakeK sp ix as) :=
  PE.imp (pe_makeK0 M F hr hg hm hb hx hkw h1 h2 hdb h3) fun σ H Q ⟨F, pa, t, env, P, W, h, k⟩ => ⟨F, pa, t, env, _, W, h, fun vs xs F1 pa1 t1 H1 g1 W1 r1 q1 => by
    split at q1
    · rename_i e
      refine ⟨rfl, by rw [r1.len, Nat.eq_of_beq_eq_true e, hl], fun y dx hy hdx hne => ?_⟩
      exact make_in W1 (relL_pick r1 ix) q1 hy hdx hne fun hh d F' pa' t' H' g C n e' r' q' => k y hh d F' pa' t' H' (g1.trans g) C n e' r' q'
    · exact q1.elim⟩
end
end Q

/-! QH17 -/
namespace Q
open PySem L2 PyProof.Rows
section
variable {X : Cx} {B : Bs} {K : PySem.W.Frag} {a b c e o : Expr} {es : List Expr} {pos : Pos} {da db dc : DE} {as : DA}
/-! ### a, b = x, y with new objects -/
def RelM (K : PySem.W.Frag) (B : Bs) (F : Hp) (pa : Option Addr) (env : En) (σ : L2.St) (H : Hp) : List Bool → List D → List V → Prop
  | [], [], [] => True
  | false :: bs, d :: ds, v :: vs => RelD K F pa d v ∧ RelM K B F pa env σ H bs ds vs
  | true :: bs, d :: ds, v :: vs => (∃ p h, v = .ref p ∧ Nw B F pa env σ p ∧ H p = some h ∧ RelO1 K F pa d h ∧ ∀ j : Nat, bs[j]? = some true → vs[j]? ≠ some (.ref p)) ∧ RelM K B F pa env σ H bs ds vs
  | _, _, _ => False
def tamOf (K : PySem.W.Frag) (B : Bs) (bs : List Bool) (da : DA) : TA := fun σ H Q => ∃ F pa t env P, Cf K B F pa t env σ H ∧ da env t P ∧
  ∀ vs ds F' pa' t' H', Gr F pa F' pa' → Cf K B F' pa' t' env σ H' → RelM K B F' pa' env σ H' bs ds vs → P ds t' → Q vs H'
abbrev QM (X : Cx) (B : Bs) (bs : List Bool) (es : List Expr) (da : DA) : Prop := PA X es (tamOf X.K B bs da)
theorem q_mnil : QM X B [] [] dNil := PA.imp pa_nil fun σ H Q ⟨F, pa, t, env, P, C, hd, k⟩ => k [] [] F pa t H (Gr.refl _ _) C True.intro hd
theorem RelM.monoD {F F' : Hp} {pa : Option Addr} : True := True.intro
theorem q_mconsV {bs : List Bool} {r : DA} (ha : QE X B e da) (hr : QM X B bs es r) (hs : starEach (e :: es) X.env = (false, eval e X.env) :: starEach es X.env := by rfl) : QM X B (false :: bs) (e :: es) (dCons da r) := PA.imp (pa_cons ha hr hs) fun σ H Q ⟨F, pa, t, env, P, C, hd, k⟩ =>
  ⟨F, pa, t, env, _, C, hd, fun v d F1 pa1 t1 H1 g1 C1 r1 q1 => ⟨F1, pa1, t1, env, _, C1, q1, fun vs ds F2 pa2 t2 H2 g2 C2 r2 q2 => k (v :: vs) (d :: ds) F2 pa2 t2 H2 (g1.trans g2) C2 ⟨RelD.mono g2 d v r1, r2⟩ q2⟩⟩
/-- what stands new for the block's base stands new for ours -/
theorem RelM.up {F1 F2 : Hp} {pa1 pa2 : Option Addr} {t1 : Ts} {env : En} {σ : L2.St} {H1 H2 : Hp} {p : Addr} {h : HO} (C1 : Cf K B F1 pa1 t1 env σ H1) (hp : H1 p = some h) : ∀ {bs : List Bool} {ds : List D} {vs : List V}, RelM K (Bk F1 pa1 env σ H1) F2 pa2 env σ H2 bs ds vs →
    RelM K B F2 pa2 env σ H2 bs ds vs ∧ ∀ j : Nat, bs[j]? = some true → vs[j]? ≠ some (.ref p)
  | [], [], [], _ => ⟨True.intro, fun j hj => by simp at hj⟩
  | false :: bs, d :: ds, v :: vs, r => by
    obtain ⟨r1, r2⟩ := r
    obtain ⟨i1, i2⟩ := RelM.up C1 hp r2
    refine ⟨⟨r1, i1⟩, fun j hj => ?_⟩
    cases j with
    | zero => simp at hj
    | succ j => simpa using i2 j (by simpa using hj)
  | true :: bs, d :: ds, v :: vs, r => by
    obtain ⟨⟨q, h', rfl, n, e, r1, hd⟩, r2⟩ := r
    obtain ⟨i1, i2⟩ := RelM.up C1 hp r2
    have hq : H1 q = none := n.b
    refine ⟨⟨⟨q, h', rfl, ⟨n.f, (C1.fresh hq).2.1, n.a, n.s⟩, e, r1, hd⟩, i1⟩, fun j hj => ?_⟩
    cases j with
    | zero =>
      intro z
      simp at z
      rw [z, hp] at hq
      cases hq
    | succ j => simpa using i2 j (by simpa using hj)
  | [], [], _ :: _, r => r.elim
  | [], _ :: _, vs, r => by cases vs <;> exact r.elim
  | b :: _, [], vs, r => by cases b <;> cases vs <;> exact r.elim
  | b :: _, _ :: _, [], r => by cases b <;> exact r.elim
theorem q_mconsN {bs : List Bool} {r : DA} (ha : QN X B e da) (hr : ∀ B', QM X B' bs es r) (hs : starEach (e :: es) X.env = (false, eval e X.env) :: starEach es X.env := by rfl) : QM X B (true :: bs) (e :: es) (dCons da r) :=
  PA.imp (pa_cons (t := fun σ H Q => ∃ B', tamOf X.K B' bs r σ H Q) ha ⟨fun pos pins s σ H Q I ⟨B', q⟩ => (hr B').run pos pins s σ H Q I q⟩ hs) fun σ H Q ⟨F, pa, t, env, P, C, hd, k⟩ =>
  ⟨F, pa, t, env, _, C, hd, fun p h d F1 pa1 t1 H1 g1 C1 n1 e1 r1 q1 => ⟨_, F1, pa1, t1, env, _, C1.block [], q1, fun vs ds F2 pa2 t2 H2 g2 C2 r2 q2 => by
    obtain ⟨g3, C3⟩ := C1.join (vs := []) C2 rfl rfl
    have dn : p ∉ (Bk F1 pa1 env σ H1).ex := fun z => by
      rcases List.mem_append.mp z with z | z
      · exact n1.a (mem_pa.mp z)
      · obtain ⟨j, d', h1, h2⟩ := mem_ownA.mp z
        exact n1.s j d' h1 h2
    have e2 : H2 p = some h := C2.frm p _ e1 dn
    have n2 : Nw B F2 pa2 env σ p := by
      refine ⟨?_, n1.b, fun z => ?_, n1.s⟩
      · cases z : F2 p with
        | none => rfl
        | some o =>
          rcases C2.new p o z with ⟨o', q⟩ | q
          · have q : F1 p = some o' := q
            rw [n1.f] at q; cases q
          · have q : H1 p = none := q
            rw [e1] at q; cases q
      · rcases (C2.pen p z).2.2 with q | q
        · exact dn q
        · have q : H1 p = none := q
          rw [e1] at q; cases q
    obtain ⟨i1, i2⟩ := RelM.up C1 e1 r2
    exact k (.ref p :: vs) (d :: ds) F2 pa2 t2 H2 (g1.trans g3) C3 ⟨⟨p, h, rfl, n2, e2, RelO1.mono g3 d h r1, i2⟩, i1⟩ q2⟩⟩
theorem Cf.setM1 {F : Hp} {pa : Option Addr} {t : Ts} {env : En} {σ : L2.St} {H : Hp} (C : Cf K B F pa t env σ H) {i : Nat} {b : Bool} {d : D} {v : V} {bs : List Bool} {ds : List D} {vs : List V} (r : RelM K B F pa env σ H (b :: bs) (d :: ds) (v :: vs)) :
    Cf K B F pa t (env.set i (mSl b d)) (σ.set i (some v)) H ∧ RelM K B F pa (env.set i (mSl b d)) (σ.set i (some v)) H bs ds vs := by
  have keep : ∀ (e' : En) (σ' : L2.St), (∀ p, (∀ j : Nat, b = true → v ≠ .ref p) → Nw B F pa env σ p → Nw B F pa e' σ' p) → (∀ p, (v = .ref p → b = true → False) → Nw B F pa env σ p → Nw B F pa e' σ' p) → True := fun _ _ _ _ => True.intro
  cases b with
  | false =>
    obtain ⟨r1, r2⟩ := r
    refine ⟨C.setV i r1, ?_⟩
    have nw : ∀ p, Nw B F pa env σ p → Nw B F pa (env.set i (.val d)) (σ.set i (some v)) p := fun p n => by
      refine ⟨n.f, n.b, n.a, fun j e hj hs => ?_⟩
      rcases get_set hj with ⟨_, z⟩ | ⟨ne, z⟩
      · cases z
      · rw [List.getElem?_set_ne ne] at hs
        exact n.s j e z hs
    have go : ∀ (bs : List Bool) (ds : List D) (vs : List V), RelM K B F pa env σ H bs ds vs → RelM K B F pa (env.set i (.val d)) (σ.set i (some v)) H bs ds vs := by
      intro bs
      induction bs with
      | nil => intro ds vs r; cases ds <;> cases vs <;> exact r
      | cons b bs ih =>
        intro ds vs r
        cases ds with
        | nil => cases b <;> cases r
        | cons d' ds =>
          cases vs with
          | nil => cases b <;> cases r
          | cons v' vs =>
            cases b with
            | false => exact ⟨r.1, ih _ _ r.2⟩
            | true =>
              obtain ⟨⟨p, h, e, n, q⟩, r2⟩ := r
              exact ⟨⟨p, h, e, nw p n, q⟩, ih _ _ r2⟩
    exact go bs ds vs r2
  | true =>
    obtain ⟨⟨p, h, rfl, n, e, r1, hd⟩, r2⟩ := r
    refine ⟨C.setN i n e r1, ?_⟩
    have nw : ∀ q, q ≠ p → Nw B F pa env σ q → Nw B F pa (env.set i (.own d)) (σ.set i (some (.ref p))) q := fun q hq n => by
      refine ⟨n.f, n.b, n.a, fun j e hj hs => ?_⟩
      rcases get_set hs with ⟨_, z⟩ | ⟨ne, z⟩
      · cases z
        exact hq rfl
      · rw [List.getElem?_set_ne ne] at hj
        exact n.s j e hj z
    have go : ∀ (bs : List Bool) (ds : List D) (vs : List V), (∀ j : Nat, bs[j]? = some true → vs[j]? ≠ some (.ref p)) → RelM K B F pa env σ H bs ds vs → RelM K B F pa (env.set i (.own d)) (σ.set i (some (.ref p))) H bs ds vs := by
      intro bs
      induction bs with
      | nil => intro ds vs _ r; cases ds <;> cases vs <;> exact r
      | cons b bs ih =>
        intro ds vs hd r
        have hd' : ∀ (v' : V) (vs' : List V), vs = v' :: vs' → ∀ j : Nat, bs[j]? = some true → vs'[j]? ≠ some (.ref p) := fun v' vs' ev j hj => by
          have := hd (j + 1) (by simpa using hj)
          rw [ev] at this
          simpa using this
        cases ds with
        | nil => cases b <;> cases r
        | cons d' ds =>
          cases vs with
          | nil => cases b <;> cases r
          | cons v' vs =>
            cases b with
            | false => exact ⟨r.1, ih _ _ (hd' v' vs rfl) r.2⟩
            | true =>
              obtain ⟨⟨q, h', e', n', z⟩, r2⟩ := r
              have hq : q ≠ p := fun y => by
                have := hd 0 rfl
                rw [e', y] at this
                exact this rfl
              exact ⟨⟨q, h', e', nw q hq n', z⟩, ih _ _ (hd' v' vs rfl) r2⟩
    exact go bs ds vs hd r2
theorem RelM.len {F : Hp} {pa : Option Addr} {env : En} {σ : L2.St} {H : Hp} : ∀ {bs : List Bool} {ds : List D} {vs : List V}, RelM K B F pa env σ H bs ds vs → ds.length = bs.length ∧ vs.length = bs.length
  | [], [], [], _ => ⟨rfl, rfl⟩
  | false :: bs, d :: ds, v :: vs, r => by
    obtain ⟨i1, i2⟩ := RelM.len r.2
    exact ⟨by simp [i1], by simp [i2]⟩
  | true :: bs, d :: ds, v :: vs, r => by
    obtain ⟨i1, i2⟩ := RelM.len r.2
    exact ⟨by simp [i1], by simp [i2]⟩
  | [], [], _ :: _, r => r.elim
  | [], _ :: _, vs, r => by cases vs <;> exact r.elim
  | b :: _, [], vs, r => by cases b <;> cases vs <;> exact r.elim
  | b :: _, _ :: _, [], r => by cases b <;> exact r.elim
theorem q_par2M {i j : Nat} {x y : Str} {px py pt : Pos} {kt k2 pt2} {b1 b2 : Bool} (hc : X.calm = true) (hN : X.N.Nodup) (hi : X.N[i]? = some x) (hj : X.N[j]? = some y) (hij : i ≠ j)
    (hx : X.env.scope.names.lookup x = some .local) (hy : X.env.scope.names.lookup y = some .local) (ha : QM X B [b1, b2] [a, b] as)
    (hw : swappedStores [.Tuple [.Name x px, .Name y py] kt pt] (.Tuple [a, b] k2 pt2) X.env = pure (some [x, y]))
    (hs : swapsWithSole [.Tuple [.Name x px, .Name y py] kt pt] (.Tuple [a, b] k2 pt2) pos.line X.env = pure false := by rfl) :
    QS X B (.Assign [.Tuple [.Name x px, .Name y py] kt pt] (.Tuple [a, b] k2 pt2) pos) (dParM [(i, b1), (j, b2)] as) := PS.imp (ps_par hc hN hi hj hij hx hy ha hw hs) fun D σ H ⟨F, pa, t, env, DD, C, h, R⟩ =>
  ⟨F, pa, t, env, _, C, h, fun vs ds F' pa' t' H' g' C' r q => by
    obtain ⟨l1, l2⟩ := r.len
    match ds, vs, l1, l2, q, r with
    | [d, e], [v, w], _, _, q, r =>
      obtain ⟨C1, r1⟩ := C'.setM1 (i := i) r
      obtain ⟨C2, _⟩ := C1.setM1 (i := j) r1
      exact ⟨v, w, rfl, R.nx F' pa' t' _ _ H' g' C2 q⟩⟩
theorem q_par3M {i j l : Nat} {x y z : Str} {px py pz pt : Pos} {kt k2 pt2} {b1 b2 b3 : Bool} (hc : X.calm = true) (hN : X.N.Nodup) (hi : X.N[i]? = some x) (hj : X.N[j]? = some y) (hl : X.N[l]? = some z) (hij : i ≠ j) (hil : i ≠ l) (hjl : j ≠ l)
    (hx : X.env.scope.names.lookup x = some .local) (hy : X.env.scope.names.lookup y = some .local) (hz : X.env.scope.names.lookup z = some .local) (ha : QM X B [b1, b2, b3] [a, b, c] as)
    (hw : swappedStores [.Tuple [.Name x px, .Name y py, .Name z pz] kt pt] (.Tuple [a, b, c] k2 pt2) X.env = pure (some [x, y, z]))
    (hs : swapsWithSole [.Tuple [.Name x px, .Name y py, .Name z pz] kt pt] (.Tuple [a, b, c] k2 pt2) pos.line X.env = pure false := by rfl) :
    QS X B (.Assign [.Tuple [.Name x px, .Name y py, .Name z pz] kt pt] (.Tuple [a, b, c] k2 pt2) pos) (dParM [(i, b1), (j, b2), (l, b3)] as) := PS.imp (ps_par3 hc hN hi hj hl hij hil hjl hx hy hz ha hw hs) fun D σ H ⟨F, pa, t, env, DD, C, h, R⟩ =>
  ⟨F, pa, t, env, _, C, h, fun vs ds F' pa' t' H' g' C' r q => by
    obtain ⟨l1, l2⟩ := r.len
    match ds, vs, l1, l2, q, r with
    | [d, e, f], [v, w, u], _, _, q, r =>
      obtain ⟨C1, r1⟩ := C'.setM1 (i := i) r
      obtain ⟨C2, r2⟩ := C1.setM1 (i := j) r1
      obtain ⟨C3, _⟩ := C2.setM1 (i := l) r2
      exact ⟨v, w, u, rfl, R.nx F' pa' t' _ _ H' g' C3 q⟩⟩
/-! ### sorted, whole numbers -/
theorem rcn_sorted : RCallN K (rSortedI K) bSorted := fun B F pa t env σ H xs vs P Q W r h k => by
  unfold bSorted at h
  split at h
  · obtain ⟨v, rfl, r1⟩ := r.one
    obtain ⟨ns, hn, hp⟩ := h
    obtain ⟨a, us, rfl, e, q⟩ := r1.lst W
    rw [q.intsD hn] at e
    exact ⟨a, ns, rfl, SqL.of e, fun ns' p h1 h2 h3 => k p _ (.lst (ns'.map .int)) F _ (Gr.refl _ _) (W.loose _ h3) (W.nw h3) upd_same ⟨_, rfl, RelL.of_ints ns'⟩ (hp ns' h1 h2)⟩
  · exact h.elim
/-! ### reversed -/
theorem it_rev {F0 : Hp} {pa0 : Option Addr} {a : Addr} {l : List D} {vs : List V} (e : SqL K F0 a vs) (r : RelL K F0 pa0 l vs) : ItOk K (Itv K a vs.length) l.reverse F0 pa0 := fun B F pa t env σ H i g C => by
  have eH : SqL K H a vs := sq_mono C.sub (sq_mono g.f e)
  have hl := r.len
  refine ⟨fun hi => by rw [List.length_reverse] at hi; show vs.length ≤ i; omega, fun d hd => ?_⟩
  have hi : i < l.length := by have := (List.getElem?_eq_some_iff.mp hd).1; simpa using this
  rw [List.getElem?_reverse hi] at hd
  obtain ⟨v, hv, rv⟩ := r.get hd
  rw [show l.length - 1 - i = vs.length - 1 - i by omega] at hv
  refine ⟨⟨by omega, vs, v, eH, hv⟩, fun x H' y => ?_⟩
  obtain ⟨rfl, y⟩ := y
  have y := y vs eH
  rw [hv] at y; cases y
  exact ⟨fun _ _ z => z, F, fun a o e => .inl ⟨o, e⟩, Gr.refl _ _, C, RelD.mono g d v rv⟩
theorem it_revT {F0 : Hp} {pa0 : Option Addr} {a : Addr} {l : List D} {vs : List V} (e : F0 a = some (.tup vs)) (r : RelL K F0 pa0 l vs) : ItOk K (RT.ItvT K a vs.length) l.reverse F0 pa0 := fun B F pa t env σ H i g C => by
  have eH : SqT K H a vs := SqT.of (C.sub _ _ (g.f _ _ e))
  have hl := r.len
  refine ⟨fun hi => by rw [List.length_reverse] at hi; show vs.length ≤ i; omega, fun d hd => ?_⟩
  have hi : i < l.length := by have := (List.getElem?_eq_some_iff.mp hd).1; simpa using this
  rw [List.getElem?_reverse hi] at hd
  obtain ⟨v, hv, rv⟩ := r.get hd
  rw [show l.length - 1 - i = vs.length - 1 - i by omega] at hv
  refine ⟨⟨by omega, vs, v, eH, hv⟩, fun x H' y => ?_⟩
  obtain ⟨rfl, y⟩ := y
  have y := y vs eH
  rw [hv] at y; cases y
  exact ⟨fun _ _ z => z, F, fun a o e => .inl ⟨o, e⟩, Gr.refl _ _, C, RelD.mono g d v rv⟩
theorem q_irev {tg : Expr} {p : Pos} (hg : Gl X "reversed") (hm : X.mg "reversed" = none) (he : QE X B e da) (hs : starEach [e] X.env = (false, eval e X.env) :: starEach [] X.env := by rfl) : QI X B tg (.Call (.Name "reversed" p) [e] [] pos) (iRevD da) :=
  PI.imp (RT.pi_revA hg hm he hs) fun σ H R ⟨F, pa, t, env, P, C, h, k⟩ => ⟨F, pa, t, env, _, C, h, fun v d F' pa' t' H' g C' r q => by
    cases d with
    | lst l =>
      have r' := r
      unfold RelD at r'
      obtain ⟨a, vs, rfl, e1, r1⟩ := r'
      exact ⟨a, vs, rfl, .inl ⟨SqL.of (C'.sub _ _ e1), k _ _ F' pa' t' H' g C' (it_rev (SqL.of e1) r1) q⟩⟩
    | tup l =>
      have r' := r
      unfold RelD at r'
      obtain ⟨a, vs, rfl, e1, r1⟩ := r'
      exact ⟨a, vs, rfl, .inr ⟨SqT.of (C'.sub _ _ e1), k _ _ F' pa' t' H' g C' (it_revT e1 r1) q⟩⟩
    | _ => exact q.elim⟩
/-! ### zip -/
theorem pair_of {F0 F : Hp} {pa0 pa : Option Addr} {t : Ts} {env : En} {σ : L2.St} {H : Hp} {T : Addr} {d1 d2 : D} {x y : V} (C : Cf K B F pa t env σ H) (hT : H T = none) (r1 : RelD K F pa d1 x) (r2 : RelD K F pa d2 y) :
    Gf H (upd H T (.tup [x, y])) ∧ ∃ F', (∀ a o, F' a = some o → (∃ o', F a = some o') ∨ H a = none) ∧ Gr F pa F' pa ∧ Cf K B F' pa t env σ (upd H T (.tup [x, y])) ∧ RelD K F' pa (.tup [d1, d2]) (.ref T) := by
  obtain ⟨g', C'⟩ := C.alloc (.tup [x, y]) hT
  refine ⟨fun b o z => by rw [upd_ne (ne_of_none z hT)]; exact z, _, fun b o z => ?_, g', C', ?_⟩
  · by_cases hb : b = T
    · rw [hb]; exact .inr hT
    · rw [upd_ne hb] at z
      exact .inl ⟨o, z⟩
  · unfold RelD
    exact ⟨T, _, rfl, upd_same, RelL.mono g' _ _ (RelL.cons r1 (RelL.cons r2 RelL.nil))⟩
theorem it_zip {F0 : Hp} {pa0 : Option Addr} {a b : Addr} {l m : List D} {vs us : List V} (e : SqL K F0 a vs) (r : RelL K F0 pa0 l vs) (e2 : SqL K F0 b us) (r2 : RelL K F0 pa0 m us) : ItOk K (Itz K a b) (zipD l m) F0 pa0 := fun B F pa t env σ H i g C => by
  have eH : SqL K H a vs := sq_mono C.sub (sq_mono g.f e)
  have eH2 : SqL K H b us := sq_mono C.sub (sq_mono g.f e2)
  have hl := r.len
  have hl2 := r2.len
  refine ⟨fun hi => ⟨vs, us, eH, eH2, by rw [zipD_len] at hi; omega⟩, fun d hd => ?_⟩
  rw [zipD_get] at hd
  cases q1 : l[i]? with
  | none => rw [q1] at hd; cases hd
  | some d1 =>
    cases q2 : m[i]? with
    | none => rw [q1, q2] at hd; cases hd
    | some d2 =>
      rw [q1, q2] at hd
      cases hd
      obtain ⟨v, hv, rv⟩ := r.get q1
      obtain ⟨u, hu, ru⟩ := r2.get q2
      refine ⟨⟨vs, us, v, u, eH, eH2, hv, hu⟩, fun x H' y => ?_⟩
      obtain ⟨T, x0, y0, rfl, hT, rfl, hx, hy⟩ := y
      have := hx vs eH
      rw [hv] at this
      cases this
      have := hy us eH2
      rw [hu] at this
      cases this
      exact pair_of (F0 := F0) (pa0 := pa0) C hT (RelD.mono g d1 v rv) (RelD.mono g d2 u ru)
theorem it_zipT {F0 : Hp} {pa0 : Option Addr} {a b : Addr} {l m : List D} {vs us : List V} (e : F0 a = some (.tup vs)) (r : RelL K F0 pa0 l vs) (e2 : F0 b = some (.tup us)) (r2 : RelL K F0 pa0 m us) : ItOk K (RZ.ItzT K a b) (zipD l m) F0 pa0 := fun B F pa t env σ H i g C => by
  have eH : SqT K H a vs := SqT.of (C.sub _ _ (g.f _ _ e))
  have eH2 : SqT K H b us := SqT.of (C.sub _ _ (g.f _ _ e2))
  have hl := r.len
  have hl2 := r2.len
  refine ⟨fun hi => ⟨vs, us, eH, eH2, by rw [zipD_len] at hi; omega⟩, fun d hd => ?_⟩
  rw [zipD_get] at hd
  cases q1 : l[i]? with
  | none => rw [q1] at hd; cases hd
  | some d1 =>
    cases q2 : m[i]? with
    | none => rw [q1, q2] at hd; cases hd
    | some d2 =>
      rw [q1, q2] at hd
      cases hd
      obtain ⟨v, hv, rv⟩ := r.get q1
      obtain ⟨u, hu, ru⟩ := r2.get q2
      refine ⟨⟨vs, us, v, u, eH, eH2, hv, hu⟩, fun x H' y => ?_⟩
      obtain ⟨T, x0, y0, rfl, hT, rfl, hx, hy⟩ := y
      have := hx vs eH
      rw [hv] at this
      cases this
      have := hy us eH2
      rw [hu] at this
      cases this
      exact pair_of (F0 := F0) (pa0 := pa0) C hT (RelD.mono g d1 v rv) (RelD.mono g d2 u ru)
theorem q_izip {elts : List Expr} {kk : Nat} {p tpos : Pos} (hg : Gl X "zip") (hm : X.mg "zip" = none) (ha : QE X B a da) (hb : QE X B b db)
    (hs : starEach [a, b] X.env = (false, eval a X.env) :: starEach [b] X.env := by rfl) (hs2 : starEach [b] X.env = (false, eval b X.env) :: starEach [] X.env := by rfl) (hpl : (backTo pos (starEach [b] X.env)).any (·.1) = false := by rfl) :
    QI X B (.Tuple elts kk tpos) (.Call (.Name "zip" p) [a, b] [] pos) (iZipD da db) :=
  PI.imp (RZ.pi_zipA hg hm (pa_cons ha (pa_cons hb pa_nil hs2) hs) hs hpl) fun σ H R ⟨F, pa, t, env, P, C, h, k⟩ => ⟨F, pa, t, env, _, C, h, fun v d F1 pa1 t1 H1 g1 C1 r q => ⟨F1, pa1, t1, env, _, C1, q, fun u d2 F2 pa2 t2 H2 g2 C2 r2 q2 => by
    have r := RelD.mono g2 d v r
    cases d with
    | lst l =>
      cases d2 with
      | lst m =>
        unfold RelD at r r2
        obtain ⟨a, vs, rfl, e1, r1⟩ := r
        obtain ⟨b, us, rfl, e2, r2⟩ := r2
        exact ⟨a, b, vs, us, rfl, .inl ⟨SqL.of (C2.sub _ _ e1), SqL.of (C2.sub _ _ e2), k _ _ F2 pa2 t2 H2 (g1.trans g2) C2 (it_zip (SqL.of e1) r1 (SqL.of e2) r2) q2⟩⟩
      | _ => exact q2.elim
    | tup l =>
      cases d2 with
      | tup m =>
        unfold RelD at r r2
        obtain ⟨a, vs, rfl, e1, r1⟩ := r
        obtain ⟨b, us, rfl, e2, r2⟩ := r2
        exact ⟨a, b, vs, us, rfl, .inr ⟨SqT.of (C2.sub _ _ e1), SqT.of (C2.sub _ _ e2), k _ _ F2 pa2 t2 H2 (g1.trans g2) C2 (it_zipT e1 r1 e2 r2) q2⟩⟩
      | _ => exact q2.elim
    | _ => exact q2.elim⟩⟩
end
end Q

/-! QH18 -/
namespace Q
open PySem L2 PyProof.Rows
section
variable {X : Cx} {B : Bs} {K : PySem.W.Frag} {a b c e o : Expr} {es : List Expr} {pos : Pos} {da db dc dk : DE} {as : DA}
/-! ### list(range(..)) -/
theorem rgV_rel {F : Hp} {pa : Option Addr} (m n : Int) : RelL K F pa (rng m (n - m).toNat) (rgV m n) := by
  have : ∀ l : List Nat, RelL K F pa (l.map fun (i : Nat) => D.int (m + i)) (l.map fun i => V.int (m + (i : Nat))) := by
    intro l
    induction l with
    | nil => exact RelL.nil
    | cons x l ih => exact RelL.cons (rD_int _) ih
  exact this _
theorem q_lrng2 {p p2 pos2 : Pos} (hc : X.calm = true) (hg : Gl X "list") (hm : X.mg "list" = none) (hg2 : Gl X "range") (hm2 : X.mg "range" = none) (ha : QV X B a da) (hb : QV X B b db)
    (h1 : starEach [a, b] X.env = (false, eval a X.env) :: starEach [b] X.env := by rfl) (h2 : starEach [b] X.env = (false, eval b X.env) :: starEach [] X.env := by rfl) (hp : (backTo pos2 (starEach [b] X.env)).any (·.1) = false := by rfl)
    (na : starEach [.Call (.Name "range" p2) [a, b] [] pos2] X.env = (false, eval (.Call (.Name "range" p2) [a, b] [] pos2) X.env) :: starEach [] X.env := by rfl) :
    QN X B (.Call (.Name "list" p) [.Call (.Name "range" p2) [a, b] [] pos2] [] pos) (dLRng da db) :=
  PE.imp (pe_listRg hc hg hm (prg_2 hg2 hm2 ha hb h1 h2 hp) na) fun σ H Q ⟨F, pa, t, env, P, C, h, k⟩ => ⟨F, pa, t, env, _, C, h, fun v d F1 pa1 t1 H1 g1 C1 r q => ⟨F1, pa1, t1, env, _, C1, q, fun u y F2 pa2 t2 H2 g2 C2 r2 q2 => by
    cases d with
    | int m =>
      cases y with
      | int n =>
        obtain ⟨⟨h1, h2, h3, h4, h5⟩, q2⟩ := q2
        refine ⟨m, n, by rw [(r.mono g2).int C2], by rw [r2.int C2], ⟨by omega, by omega, by omega, by omega, by unfold zLen at h5; omega⟩, fun p hp => ?_⟩
        exact k p _ (.lst (rng m (n - m).toNat)) F2 pa2 t2 _ (g1.trans g2) (C2.loose _ hp) (C2.nw hp) upd_same ⟨_, rfl, rgV_rel m n⟩ q2
      | _ => exact q2.elim
    | _ => exact q2.elim⟩⟩
theorem q_lrng1 {p p2 pos2 : Pos} (hc : X.calm = true) (hg : Gl X "list") (hm : X.mg "list" = none) (hg2 : Gl X "range") (hm2 : X.mg "range" = none) (ha : QV X B a da)
    (h1 : starEach [a] X.env = (false, eval a X.env) :: starEach [] X.env := by rfl)
    (na : starEach [.Call (.Name "range" p2) [a] [] pos2] X.env = (false, eval (.Call (.Name "range" p2) [a] [] pos2) X.env) :: starEach [] X.env := by rfl) :
    QN X B (.Call (.Name "list" p) [.Call (.Name "range" p2) [a] [] pos2] [] pos) (dLRng (dC (.int 0)) da) :=
  PE.imp (pe_listRg hc hg hm (prg_1 hg2 hm2 ha h1) na) fun σ H Q ⟨F, pa, t, env, P, C, h, k⟩ => ⟨F, pa, t, env, _, C, h, fun v d F1 pa1 t1 H1 g1 C1 r q => by
    cases d with
    | int n =>
      obtain ⟨⟨h1, h2, h3, h4, h5⟩, q2⟩ := q
      refine ⟨n, by rw [r.int C1], ⟨by omega, by omega, by omega, by omega, by unfold zLen at h5; omega⟩, fun p hp => ?_⟩
      exact k p _ (.lst (rng 0 (n - 0).toNat)) F1 pa1 t1 _ g1 (C1.loose _ hp) (C1.nw hp) upd_same ⟨_, rfl, rgV_rel 0 n⟩ q2
    | _ => exact q.elim⟩
/-! ### x.reverse(), x.insert(i, y), x.pop(i) -/
theorem q_rvs {i : Nat} {x : Str} {p apos cpos : Pos} (hx : PE X (.Name x p) (tVar i)) (h1 : attributeBase (.Name x p) "reverse" X.env (eval (.Name x p) X.env) = eval (.Name x p) X.env := by rfl) (hl : (apos.endLine == cpos.line) = true := by rfl)
    (hs : swapsWith (.Call (.Attribute (.Name x p) "reverse" apos) [] [] cpos) none pos.line X.env = pure false := by rfl) : QS X B (.Expr (.Call (.Attribute (.Name x p) "reverse" apos) [] [] cpos) pos) (dRvs i) :=
  PS.imp (ps_expr (pe_bm0 PySem.F.plainAttrs_list PySem.F.slot_list_reverse PySem.F.type_list_reverse mt_reverse hx h1 hl) hs) fun De σ H ⟨F, pa, t, env, DD, C, h, R⟩ => by
    obtain ⟨l, hi, h⟩ := get_own h
    obtain ⟨a, vs, s1, e1, r1⟩ := own_lst C hi
    exact ⟨.ref a, s1, Or.inl ⟨rfl, vs, SqL.of e1⟩, a, vs, rfl, rfl, e1, R.nx F pa t _ σ _ (Gr.refl _ _) (C.wrO (d' := .lst l.reverse) hi s1 ⟨_, rfl, r1.reverse⟩) h⟩
theorem q_ins {i : Nat} {x : Str} {p apos cpos : Pos} (hx : PE X (.Name x p) (tVar i)) (hk : QE X B a dk) (he : QE X B b da) (h1 : attributeBase (.Name x p) "insert" X.env (eval (.Name x p) X.env) = eval (.Name x p) X.env := by rfl) (hl : (apos.endLine == cpos.line) = true := by rfl)
    (hfew : ((backTo cpos (starEach [a, b] X.env)).all (fun x => !x.1) && (backToKw cpos (keywordEach [] X.env)).all (fun x => x.1.isSome)
      && decide (([a, b] : List Expr).length + ([] : List Keyword).length + (if ([] : List Keyword).isEmpty then 0 else 1) < 30)) = true := by rfl)
    (h2 : starEach [a, b] X.env = (false, eval a X.env) :: starEach [b] X.env := by rfl) (h3 : starEach [b] X.env = (false, eval b X.env) :: starEach [] X.env := by rfl) (hp : (backTo cpos (starEach [b] X.env)).any (·.1) = false := by rfl)
    (hs : swapsWith (.Call (.Attribute (.Name x p) "insert" apos) [a, b] [] cpos) none pos.line X.env = pure false := by rfl) : QS X B (.Expr (.Call (.Attribute (.Name x p) "insert" apos) [a, b] [] cpos) pos) (dIns i dk da) :=
  PS.imp (ps_expr (pe_bm PySem.F.plainAttrs_list PySem.F.slot_list_insert PySem.F.type_list_insert mt_insert hx (pa_cons hk (pa_cons he pa_nil h3) h2) h1 hfew hl h2 hp) hs) fun De σ H ⟨F, pa, t, env, DD, C, h, R⟩ => by
    obtain ⟨l, hi, h⟩ := get_own h
    obtain ⟨ad, vs, s1, e1, r1⟩ := own_lst C hi
    refine ⟨.ref ad, s1, Or.inl ⟨rfl, vs, SqL.of e1⟩, F, pa, t, env, _, C, h, fun w y F1 pa1 t1 H1 g1 C1 r2 q2 => ⟨F1, pa1, t1, env, _, C1, q2, fun w3 y3 F2 pa2 t2 H2 g2 C2 r3 q3 => ?_⟩⟩
    cases y with
    | int m =>
      obtain ⟨⟨h4, h5, h6⟩, q3⟩ := q3
      obtain ⟨a', us, s2, e2, r4⟩ := own_lst C2 hi
      rw [s1] at s2; cases s2
      unfold RelD at r2
      subst r2
      refine ⟨ad, us, m, w3, rfl, rfl, e2, by rw [r4.len]; exact zlt h4, h5, by omega, ?_⟩
      exact R.nx F2 pa2 t2 _ σ _ (g1.trans g2) (C2.wrO (d' := .lst (l.take m.toNat ++ [y3] ++ l.drop m.toNat)) hi s1 ⟨_, rfl, ((r4.take m.toNat).append (.cons r3 .nil)).append (r4.drop m.toNat)⟩) q3
    | _ => exact q3.elim
theorem RelL.erase {F : Hp} {pa : Option Addr} : ∀ {l : List D} {vs : List V} (j : Nat), RelL K F pa l vs → RelL K F pa (l.eraseIdx j) (vs.eraseIdx j)
  | [], vs, j, h => by rw [h.inv0]; simpa using RelL.nil
  | d :: l, vs, 0, h => by
    obtain ⟨v, vr, rfl, _, q⟩ := h.inv
    simpa using q
  | d :: l, vs, j + 1, h => by
    obtain ⟨v, vr, rfl, r, q⟩ := h.inv
    simpa using RelL.cons r (RelL.erase j q)
theorem seqIx (n : Nat) (i : Int) : seqIndex? i n = Q.ixN n i := by
  unfold seqIndex? Q.ixN
  by_cases h : i < 0
  · rw [if_neg (by omega : ¬ 0 ≤ i)]
    simp only [if_pos h, Bool.and_eq_true, decide_eq_true_eq]
    by_cases h2 : -(n : Int) ≤ i
    · rw [if_pos h2, if_pos (by omega)]
    · rw [if_neg h2, if_neg (by omega)]
  · rw [if_pos (by omega : 0 ≤ i)]
    simp only [if_neg h, Bool.and_eq_true, decide_eq_true_eq]
    by_cases h2 : i < (n : Int)
    · rw [if_pos h2, if_pos (by omega)]
    · rw [if_neg h2, if_neg (by omega)]
theorem q_popS {i : Nat} {x : Str} {p apos cpos : Pos} (hx : PE X (.Name x p) (tVar i)) (hk : QE X B a dk) (h1 : attributeBase (.Name x p) "pop" X.env (eval (.Name x p) X.env) = eval (.Name x p) X.env := by rfl) (hl : (apos.endLine == cpos.line) = true := by rfl)
    (hfew : ((backTo cpos (starEach [a] X.env)).all (fun x => !x.1) && (backToKw cpos (keywordEach [] X.env)).all (fun x => x.1.isSome)
      && decide (([a] : List Expr).length + ([] : List Keyword).length + (if ([] : List Keyword).isEmpty then 0 else 1) < 30)) = true := by rfl)
    (h2 : starEach [a] X.env = (false, eval a X.env) :: starEach [] X.env := by rfl) (hp : (backTo cpos (starEach [] X.env)).any (·.1) = false := by rfl)
    (hs : swapsWith (.Call (.Attribute (.Name x p) "pop" apos) [a] [] cpos) none pos.line X.env = pure false := by rfl) : QS X B (.Expr (.Call (.Attribute (.Name x p) "pop" apos) [a] [] cpos) pos) (dPopS i dk) :=
  PS.imp (ps_expr (pe_bm PySem.F.plainAttrs_list PySem.F.slot_list_pop PySem.F.type_list_pop mt_popAt hx (pa_cons hk pa_nil h2) h1 hfew hl h2 hp) hs) fun De σ H ⟨F, pa, t, env, DD, C, h, R⟩ => by
    obtain ⟨l, hi, h⟩ := get_own h
    obtain ⟨ad, vs, s1, e1, r1⟩ := own_lst C hi
    refine ⟨.ref ad, s1, Or.inl ⟨rfl, vs, SqL.of e1⟩, F, pa, t, env, _, C, h, fun w y F1 pa1 t1 H1 g1 C1 r2 q2 => ?_⟩
    cases y with
    | int m =>
      obtain ⟨⟨hm1, hm2⟩, j, hj, q3⟩ := q2
      obtain ⟨a', us, s2, e2, r4⟩ := own_lst C1 hi
      rw [s1] at s2; cases s2
      unfold RelD at r2
      subst r2
      have hlen := r4.len
      have hjl : j < l.length := by
        unfold Q.ixN at hj
        split at hj
        · split at hj <;> cases hj
          omega
        · split at hj <;> cases hj
          omega
      have hu : us[j]? = some us[j] := List.getElem?_eq_getElem (by omega)
      refine ⟨ad, us, m, j, us[j], rfl, rfl, e2, by omega, by omega, by rw [seqIx, hlen]; exact hj, hu, ?_⟩
      exact R.nx F1 pa1 t1 _ σ _ g1 (C1.wrO (d' := .lst (l.eraseIdx j)) hi s1 ⟨_, rfl, r4.erase j⟩) q3
    | _ => exact q2.elim
/-! ### enumerate(x), x a list or a tuple -/
def IteT (K : PySem.W.Frag) (a : Addr) : It :=
  ⟨fun i H => ∃ (xs : List V) (x : V), SqT K H a xs ∧ xs[i]? = some x,
   fun i H v H' => ∃ T x, v = .ref T ∧ H T = none ∧ H' = upd H T (.tup [.int ((i : Nat) : Int), x]) ∧ ∀ xs, SqT K H a xs → xs[i]? = some x,
   fun i H => ∃ xs : List V, SqT K H a xs ∧ xs.length = i⟩
def EnT (a e it : Addr) (i : Nat) (h : Heap) : Prop := (∃ v0, IsEnum h e it (i : Nat) v0) ∧ h.IsTupleIter it a i ∧ e ≠ it
theorem turn_enumT {P : Program} {w : World} {K : PySem.W.Frag} {elts : List Expr} {kk : Nat} {tpos : Pos} (a e it : Addr) : Turn P w K (.Tuple elts kk tpos) (IteT K a) [e, it] e (EnT a e it) := by
  have two : ∀ {b : Addr}, b ∈ [e, it] → b = e ∨ b = it := fun h => by simpa using h
  refine ⟨List.mem_cons_self .., fun i h st b hb => ?_, fun i h h' st k => ?_, ?_, ?_, fun A i s Q E st h => ?_⟩
  · obtain ⟨⟨v0, h1⟩, ⟨o, h2, _, h3⟩, _⟩ := st
    rcases two hb with rfl | rfl
    · exact ⟨_, h1, fun _ z => by cases z⟩
    · exact ⟨o, h2, fun _ z => by rw [h3] at z; cases z⟩
  · obtain ⟨⟨v0, h1⟩, h2, h3⟩ := st
    exact ⟨⟨v0, k e (List.mem_cons_self ..) _ h1⟩, h2.at fun o z => k it (List.mem_cons_of_mem _ (List.mem_cons_self ..)) o z, h3⟩
  · intro X hP hw hK hcalm i pins s σ H E I free st go
    subst hP hw hK
    obtain ⟨⟨v0, h1⟩, h2, h3⟩ := st
    obtain ⟨xs, x, hq, hx⟩ := go
    obtain ⟨its, rv, p, hz⟩ := I.tuple hq
    obtain ⟨u, hu, ru⟩ := rv.get hx
    have le : e < s.heap.objs.size := Heap.lt_size h1
    have nia : a ≠ it := by
      rintro rfl
      obtain ⟨o1, z1, c1, _⟩ := p
      obtain ⟨o2, z2, c2, _⟩ := h2
      rw [z1] at z2
      cases z2
      rw [c1] at c2
      simp at c2
    have nea : e ≠ a := by
      rintro rfl
      obtain ⟨o1, z1, c1, _⟩ := p
      rw [h1] at z1
      cases z1
      simp at c1
    have Dr := Draws.tuple (prog := X.prog) (w := X.w) (A := X.A.in1) (I.ok.hd hcalm) it a nia its.toArray
    refine wpAny_pyNext_enum_itemC (i := i) Dr h1 ⟨h2, p⟩ (by have := (List.getElem?_eq_some_iff.mp hu).1; simpa using this) h3 (by simp [h3, nea]) fun y h' tk hy ho hst hT hsz hk => ?_
    have hyu : y = u := by
      have : its.toArray[i]? = some u := by simpa using hu
      rw [this] at hy
      cases hy
      rfl
    subst hyu
    refine ⟨_, rfl, wpAny_letOwnedTupleGo_enum (s := { s with heap := h', toks := tk + 1 }) ho fun h'' he' sb => ?_⟩
    have hT2 := (sb.2 _ (Nat.ne_of_gt le)).trans hT
    have new : ObjOk X.prog X.w (upd H s.heap.objs.size (.tup [.int ((i : Nat) : Int), x])) h'' s.heap.objs.size (.tup [.int ((i : Nat) : Int), x]) := ⟨by show 2 ≤ sizeLine; decide, _, .cons ⟨tk, rfl⟩ (.cons ru .nil), _, hT2, rfl, _, rfl⟩
    have J : Inv X pins σ (upd H s.heap.objs.size (.tup [.int ((i : Nat) : Int), x])) { s with heap := h'', toks := tk + 1 } := by
      refine I.turnedNew (ch := [e, it]) (fun b ob hb q => ?_) free (Nat.le_refl _) new
      have n1 : b ≠ e := fun z => hb (by simp [z])
      have n2 : b ≠ it := fun z => hb (by simp [z])
      exact (sb.2 b n1).trans (hk b ob n1 n2 q)
    refine ⟨.ref s.heap.objs.size, _, J, rfl, ⟨_, x, rfl, I.hok.fresh (Nat.le_refl _), rfl, fun ys hy => ?_⟩, ⟨⟨y, ?_⟩, hst.1.at fun o q => (sb.2 it (Ne.symm h3)).trans q, h3⟩, fun b hb => ?_⟩
    · rw [I.tuple_inj hy hq]; exact hx
    · rw [show ((i + 1 : Nat) : Int) = (i : Int) + 1 by omega]
      exact he'
    · have lb : b < s.heap.objs.size := by
        rcases two hb with rfl | rfl
        · assumption
        · obtain ⟨_, z, _⟩ := h2
          exact Heap.lt_size z
      rw [upd_ne (Nat.ne_of_lt lb)]
      exact (free b hb).1
  · intro X hP hw hK hcalm i pins s σ H E I free st go
    subst hP hw hK
    obtain ⟨⟨v0, h1⟩, h2, h3⟩ := st
    obtain ⟨xs, hq, hx⟩ := go
    obtain ⟨its, rv, p, hz⟩ := I.tuple hq
    have nia : a ≠ it := by
      rintro rfl
      obtain ⟨o1, z1, c1, _⟩ := p
      obtain ⟨o2, z2, c2, _⟩ := h2
      rw [z1] at z2
      cases z2
      rw [c1] at c2
      simp at c2
    obtain ⟨f0, f1, f2, f3, f4, f5⟩ := free it (List.mem_cons_of_mem _ (List.mem_cons_self ..))
    have hl := rv.length
    have Dr := Draws.tuple (prog := X.prog) (w := X.w) (A := X.A.in1) (I.ok.hd hcalm) it a nia its.toArray
    refine wpAny_pyNext_enum_endD Dr h1 ⟨?_, p⟩ fun h' eb => ⟨rfl, I.turned (t' := s.toks) (fun b o hb q => eb b o hb q) f0 f1 f3 f4 f5⟩
    rw [show its.toArray.size = i by simp; omega]
    exact h2
  · obtain ⟨⟨v0, h1⟩, h2, h3⟩ := st
    exact wpAny_pyIter_enum h1 h
set_option maxHeartbeats 1000000 in
theorem meets_enumerate_newB0 {v : Value} {o : Obj} {H : Heap → Prop} (B : Begins v o H) :
    Meets (Builtin.«enumerate.__new__» ⟨[.type "enumerate", v], []⟩) (fun _ R s => H s.heap ∧
      R (.ok (.ret (.ref (s.heap.push o).objs.size))) { s with heap := (s.heap.push o).push { cls := .type "enumerate", data := .fields #[.none, .bool false, .ref s.heap.objs.size, rawInt 0, .none, .none] } }) :=
  .of_wp fun prog w A R s h => by
    obtain ⟨hp, g, d, tk, os⟩ := s; obtain ⟨h1, h⟩ := h
    have hsub := sub_enumerate
    have q1 : ∀ {A' : Around} {E : Value → Shared → Prop} {Q : Value → Shared → Prop}, Q (.ref hp.objs.size) ⟨hp.push o, g, d, tk, os⟩ → wpAny (model prog w) A' (pyIter v) Q E ⟨hp, g, d, tk, os⟩ :=
      fun q => B.iter prog w _ _ ⟨hp, g, d, tk, os⟩ _ h1 q
    wp_walk using q1
    refine wpAny_stack_any fun st => wpAny_pure ?_
    split
    · rename_i c _ _ _ _ _
      cases (c == Value.type "enumerate")
      · wp_walk using q1
        exact ⟨_, rfl, h⟩
      · wp_walk using q1
        exact ⟨_, rfl, h⟩
    · wp_walk using q1
      exact ⟨_, rfl, h⟩
theorem enumerate_begins {prog : Program} {w : World} {A : Around} {E : Value → Shared → Prop} {s : Shared} {v : Value} {o : Obj} {H : Heap → Prop} {Q : Value → Shared → Prop} (B : Begins v o H) (h1 : H s.heap)
    (h : ∀ h', IsEnum h' (s.heap.objs.size + 1) s.heap.objs.size 0 .none → h'.get? s.heap.objs.size = some o → h'.objs.size = s.heap.objs.size + 2 →
      (∀ b o, s.heap.get? b = some o → h'.get? b = some o) → Q (.ref (s.heap.objs.size + 1)) { s with heap := h' }) :
    wpAny (model prog w) A (call (.type "enumerate") [v]) Q E s := by
  refine callType_new F.called_enumerate (by decide) (F.typeCall_enumerate_1 _) (F.newCall_enumerate_1 _) (fun obj => F.args_object_init_2 obj _) F.entry_enumerate_new
    (meets_enumerate_newB0 B) ⟨h1, ?_⟩
  have hz : (s.heap.push o).objs.size = s.heap.objs.size + 1 := Heap.size_push ..
  show _ ∧ _
  rw [hz]
  have he : IsEnum ((s.heap.push o).push { cls := .type "enumerate", data := .fields #[.none, .bool false, .ref s.heap.objs.size, rawInt 0, .none, .none] }) (s.heap.objs.size + 1) s.heap.objs.size 0 .none := by
    have := Heap.get?_push_size (s.heap.push o) (o := { cls := .type "enumerate", data := .fields #[.none, .bool false, .ref s.heap.objs.size, rawInt 0, .none, .none] }) rfl
    rw [hz] at this; exact this
  refine ⟨⟨_, he, rfl⟩, h _ he (Heap.get?_push_of_some _ (Heap.get?_push_size _ B.free)) (by rw [Heap.size_push, hz]) fun b o x => Heap.get?_push_of_some _ (Heap.get?_push_of_some _ x)⟩
def iEnA (K : PySem.W.Frag) (ta : TA) : TI := fun σ H R => ta σ H fun vs H1 => ∃ a xs, vs = [.ref a] ∧ ((SqL K H1 a xs ∧ R (Ite K a) H1) ∨ (SqT K H1 a xs ∧ R (IteT K a) H1))
theorem pi_enumA {ta : TA} {p tpos : Pos} {elts : List Expr} {kk : Nat} (hg : Gl X "enumerate") (hm : X.mg "enumerate" = none) (ha : PA X [e] ta) (hs : starEach [e] X.env = [(false, eval e X.env)] := by rfl) :
    PI X (.Tuple elts kk tpos) (.Call (.Name "enumerate" p) [e] [] pos) (iEnA X.K ta) := by
  refine ⟨fun pins s σ H R I h => ?_⟩
  refine Call_ (ld_blt I hg hm boot_enumerate (PyProof.Rows.callWith_type1 (thn (ha.run pos pins s σ H _ I h) fun us s1 ⟨vs, H1, I1, r1, q1⟩ => ?_) hs rfl))
  obtain ⟨a, xs, ex, q1⟩ := q1
  subst ex
  cases r1 with
  | cons r rr =>
    cases rr
    cases r
    have fr : ∀ b, b ∈ [s1.heap.objs.size + 1, s1.heap.objs.size] → FpOk X pins H1 b := fun b hb => by
      have e' : b = s1.heap.objs.size + 1 ∨ b = s1.heap.objs.size := by simpa using hb
      have hle : s1.heap.objs.size ≤ b := by
        rcases e' with z | z
        · rw [z]; exact Nat.le_add_right _ _
        · rw [z]; exact Nat.le_refl _
      exact I1.fpOk hle (I1.hok.fresh hle)
    rcases q1 with ⟨hq, q⟩ | ⟨hq, q⟩
    · obtain ⟨its, rv, p', hz⟩ := I1.list hq
      refine call_enumerate_list p'.isList fun h' he hit hsz hk => wpAny_pyIter_enum he ?_
      have I2 : Inv X pins σ H1 { s1 with heap := h' } := I1.kept (t' := s1.toks) hk
      exact ⟨s1.heap.objs.size + 1, [s1.heap.objs.size + 1, s1.heap.objs.size], _, _, H1, rfl, I2, turn_enum a (s1.heap.objs.size + 1) s1.heap.objs.size, ⟨⟨.none, he⟩, hit, Nat.succ_ne_self _⟩, fr, q⟩
    · obtain ⟨its, rv, p', hz⟩ := I1.tuple hq
      refine enumerate_begins (begins_tuple a its.toArray) p' fun h' he hit hsz hk => wpAny_pyIter_enum he ?_
      have I2 : Inv X pins σ H1 { s1 with heap := h' } := I1.kept (t' := s1.toks) hk
      exact ⟨s1.heap.objs.size + 1, [s1.heap.objs.size + 1, s1.heap.objs.size], _, _, H1, rfl, I2, turn_enumT a (s1.heap.objs.size + 1) s1.heap.objs.size, ⟨⟨.none, he⟩, ⟨_, hit, rfl, rfl⟩, Nat.succ_ne_self _⟩, fr, q⟩
theorem it_enum0 {F0 : Hp} {pa0 : Option Addr} {a : Addr} {l : List D} {vs : List V} (e : SqL K F0 a vs) (r : RelL K F0 pa0 l vs) : ItOk K (Ite K a) (enumL 0 l) F0 pa0 := fun B F pa t env σ H i g C => by
  have eH : SqL K H a vs := sq_mono C.sub (sq_mono g.f e)
  have hl := r.len
  refine ⟨fun hi => ⟨vs, eH, by rw [enumL_len] at hi; omega⟩, fun d hd => ?_⟩
  rw [enumL_get] at hd
  cases q : l[i]? with
  | none => rw [q] at hd; cases hd
  | some d0 =>
    rw [q] at hd
    cases hd
    obtain ⟨v, hv, rv⟩ := r.get q
    refine ⟨⟨vs, v, eH, hv⟩, fun x H' y => ?_⟩
    obtain ⟨T, x0, rfl, hT, rfl, hx⟩ := y
    have := hx vs eH
    rw [hv] at this
    cases this
    rw [Int.zero_add]
    exact pair_of (F0 := F0) (pa0 := pa0) C hT (rD_int _) (RelD.mono g d0 v rv)
theorem it_enumT {F0 : Hp} {pa0 : Option Addr} {a : Addr} {l : List D} {vs : List V} (e : F0 a = some (.tup vs)) (r : RelL K F0 pa0 l vs) : ItOk K (IteT K a) (enumL 0 l) F0 pa0 := fun B F pa t env σ H i g C => by
  have eH : SqT K H a vs := SqT.of (C.sub _ _ (g.f _ _ e))
  have hl := r.len
  refine ⟨fun hi => ⟨vs, eH, by rw [enumL_len] at hi; omega⟩, fun d hd => ?_⟩
  rw [enumL_get] at hd
  cases q : l[i]? with
  | none => rw [q] at hd; cases hd
  | some d0 =>
    rw [q] at hd
    cases hd
    obtain ⟨v, hv, rv⟩ := r.get q
    refine ⟨⟨vs, v, eH, hv⟩, fun x H' y => ?_⟩
    obtain ⟨T, x0, rfl, hT, rfl, hx⟩ := y
    have := hx vs eH
    rw [hv] at this
    cases this
    rw [Int.zero_add]
    exact pair_of (F0 := F0) (pa0 := pa0) C hT (rD_int _) (RelD.mono g d0 v rv)
theorem q_ienum0 {elts : List Expr} {kk : Nat} {p tpos : Pos} (hg : Gl X "enumerate") (hm : X.mg "enumerate" = none) (he : QE X B e da) (hs : starEach [e] X.env = [(false, eval e X.env)] := by rfl)
    (hs' : starEach (e :: []) X.env = (false, eval e X.env) :: starEach [] X.env := by rfl) : QI X B (.Tuple elts kk tpos) (.Call (.Name "enumerate" p) [e] [] pos) (iEnum0 da) :=
  PI.imp (pi_enumA hg hm (pa_cons he pa_nil hs') hs) fun σ H R ⟨F, pa, t, env, P, C, h, k⟩ => ⟨F, pa, t, env, _, C, h, fun v d F' pa' t' H' g C' r q => by
    cases d with
    | lst l =>
      have r' := r
      unfold RelD at r'
      obtain ⟨a, vs, rfl, e1, r1⟩ := r'
      exact ⟨a, vs, rfl, .inl ⟨SqL.of (C'.sub _ _ e1), k _ _ F' pa' t' H' g C' (it_enum0 (SqL.of e1) r1) q⟩⟩
    | tup l =>
      have r' := r
      unfold RelD at r'
      obtain ⟨a, vs, rfl, e1, r1⟩ := r'
      exact ⟨a, vs, rfl, .inr ⟨SqT.of (C'.sub _ _ e1), k _ _ F' pa' t' H' g C' (it_enumT e1 r1) q⟩⟩
    | _ => exact q.elim⟩
end
end Q

/-! QH19 -/
namespace Q
open PySem L2 PyProof.Rows
section
variable {X : Cx} {B : Bs} {K : PySem.W.Frag} {a b c e o : Expr} {es : List Expr} {pos : Pos} {da db dc dk : DE} {as : DA}
/-! ### a, b, .. = x, y, .. by a tuple that is taken apart; some values are new objects -/
def setS : List Nat → L2.St → List V → L2.St
  | i :: r, σ, u :: us => setS r (σ.set i (some u)) us
  | _, σ, _ => σ
def tNm (l : List Nat) : TGs := fun us σ H Q => us.length = l.length ∧ Q (setS l σ us) H
theorem q_nmnil : PGs X [] (tNm []) := PGs.imp pgs_nil fun us σ H Q ⟨hl, q⟩ => by
  cases us with
  | nil => exact ⟨rfl, q⟩
  | cons u us => simp at hl
theorem q_nmcons {i : Nat} {l : List Nat} (h1 : PG X e (L2.gName i)) (h2 : PGs X es (tNm l)) (hs : (assignEach (e :: es) X.env).map (·.2) = assign e X.env :: (assignEach es X.env).map (·.2) := by rfl) : PGs X (e :: es) (tNm (i :: l)) :=
  PGs.imp (pgs_cons h1 h2 hs) fun us σ H Q ⟨hl, q⟩ => by
    cases us with
    | nil => simp at hl
    | cons u us => exact ⟨u, us, rfl, by simpa using hl, q⟩
theorem RelM.heap {F : Hp} {pa : Option Addr} {env : En} {σ : L2.St} {H H' : Hp} (hk : ∀ a o, H a = some o → H' a = some o) : ∀ {bs : List Bool} {ds : List D} {vs : List V}, RelM K B F pa env σ H bs ds vs → RelM K B F pa env σ H' bs ds vs
  | [], [], [], _ => True.intro
  | false :: bs, d :: ds, v :: vs, r => ⟨r.1, RelM.heap hk r.2⟩
  | true :: bs, d :: ds, v :: vs, r => by
    obtain ⟨⟨p, h, e, n, e1, r1, q⟩, r2⟩ := r
    exact ⟨⟨p, h, e, n, hk _ _ e1, r1, q⟩, RelM.heap hk r2⟩
  | [], [], _ :: _, r => r.elim
  | [], _ :: _, vs, r => by cases vs <;> exact r.elim
  | b :: _, [], vs, r => by cases b <;> cases vs <;> exact r.elim
  | b :: _, _ :: _, [], r => by cases b <;> exact r.elim
theorem Cf.setMs {F : Hp} {pa : Option Addr} {t : Ts} {H : Hp} : ∀ {l : List (Nat × Bool)} {ds : List D} {vs : List V} {env : En} {σ : L2.St}, Cf K B F pa t env σ H → RelM K B F pa env σ H (l.map (·.2)) ds vs → Cf K B F pa t (setM l env ds) (setS (l.map (·.1)) σ vs) H
  | [], [], [], env, σ, C, _ => C
  | (i, b) :: l, d :: ds, v :: vs, env, σ, C, r => by
    obtain ⟨C1, r1⟩ := C.setM1 (i := i) r
    have q := Cf.setMs (l := l) (env := env.set i (mSl b d)) (σ := σ.set i (some v)) C1 r1
    exact q
  | [], [], _ :: _, _, _, _, r => r.elim
  | [], _ :: _, vs, _, _, _, r => by cases vs <;> exact r.elim
  | (_, b) :: _, [], vs, _, _, _, r => by cases b <;> cases vs <;> exact r.elim
  | (_, b) :: _, _ :: _, [], _, _, _, r => by cases b <;> exact r.elim
theorem q_asgM {l : List (Nat × Bool)} {tg : List Expr} {kt k2 : Nat} {pt pt2 : Pos} (hc : X.calm = true) (ha : QM X B (l.map (·.2)) es as) (hg : PGs X tg (tNm (l.map (·.1)))) (hn : (assignEach tg X.env).length = l.length := by rfl) (hst : (assignEach tg X.env).findIdx? (·.1) = none := by rfl) (hz : l.length ≤ 900 := by decide)
    (hs : swapsWithSole [.Tuple tg kt pt] (.Tuple es k2 pt2) pos.line X.env = pure false := by rfl) (hw : swappedStores [.Tuple tg kt pt] (.Tuple es k2 pt2) X.env = pure none := by rfl)
    (h1 : (assignEach [.Tuple tg kt pt] X.env).map (·.2) = [assign (.Tuple tg kt pt) X.env] := by rfl) : QS X B (.Assign [.Tuple tg kt pt] (.Tuple es k2 pt2) pos) (dParM l as) :=
  PS.imp (ps_asg (pe_tup ha) (pg_tup (n := l.length) hc hg hn hst) hs hw h1) fun D σ H ⟨F, pa, t, env, DD, C, h, R⟩ => ⟨F, pa, t, env, _, C, h, fun vs ds F1 pa1 t1 H1 g1 C1 r1 q1 => by
    obtain ⟨l1, l2⟩ := r1.len
    rw [List.length_map] at l1 l2
    have e : Nat.beq ds.length l.length = true := by rw [l1]; exact Nat.beq_refl _
    rw [e] at q1
    refine ⟨by rw [l2]; exact Nat.le_trans hz (by decide), fun T hT => ⟨T, vs, rfl, SqT.of upd_same, l2, by rw [List.length_map]; exact l2, ?_⟩⟩
    have C2 := C1.loose (.tup vs) hT
    have r2 := RelM.heap (H' := upd H1 T (.tup vs)) (fun a o z => by rw [upd_ne (ne_of_none z hT)]; exact z) r1
    exact R.nx F1 pa1 t1 _ _ _ g1 (C2.setMs r2) q1⟩
end
end Q

/-! QH20 -/
namespace Q
open PySem L2 PyProof.Rows
section
variable {X : Cx} {B : Bs} {K : PySem.W.Frag} {a b c e : Expr} {es : List Expr} {pos : Pos} {da db dc : DE} {as : DA} {g : DG} {gs : DGs} {dt : DT}
/-! ### comprehensions over what a name's own list holds -/
def ItOkE (K : PySem.W.Frag) (J : It) (items : List D) (F0 : Hp) (pa0 : Option Addr) (env : En) (σ : L2.St) : Prop := ∀ (B : Bs) F pa t (env' : En) (σ' : L2.St) H (i : Nat), Gr F0 pa0 F pa → Cf K B F pa t env σ H → env' = env → σ' = σ →
  (items.length = i → J.stop i H) ∧ ∀ d, items[i]? = some d → J.go i H ∧ ∀ x H', J.yld i H x H' → Gf H H' ∧ ∃ F', (∀ a o, F' a = some o → (∃ o', F a = some o') ∨ H a = none) ∧ Gr F pa F' pa ∧ Cf K B F' pa t env σ H' ∧ RelD K F' pa d x
def tivOf (K : PySem.W.Frag) (B : Bs) (di : DI) : TI := fun σ H R => ∃ F pa t env P, Cf K B F pa t env σ H ∧ di env t P ∧
  ∀ J items F' pa' t' H', Gr F pa F' pa' → Cf K B F' pa' t' env σ H' → ItOkE K J items F' pa' env σ → P items t' → R J H'
abbrev QIV (X : Cx) (B : Bs) (tg e : Expr) (di : DI) : Prop := PI X tg e (tivOf X.K B di)
theorem itOk_toE {J : It} {items : List D} {F0 : Hp} {p0 : Option Addr} {env : En} {σ : L2.St} (h : ItOk K J items F0 p0) : ItOkE K J items F0 p0 env σ := fun B F pa t env' σ' H i g C _ _ => h B F pa t env σ H i g C
theorem it_ownL {F0 : Hp} {pa0 : Option Addr} {env : En} {σ : L2.St} {i0 : Nat} {a : Addr} {l : List D} (h1 : env[i0]? = some (Sl.own (.lst l))) (h2 : σ[i0]? = some (some (V.ref a))) : ItOkE K (Itl K a) l F0 pa0 env σ := fun B F pa t env' σ' H i g C _ _ => by
  obtain ⟨a', h, s1, e1, r1, _⟩ := C.own i0 _ h1
  rw [h2] at s1
  cases s1
  obtain ⟨vs, rfl, r⟩ := r1
  have eH : SqL K H a vs := SqL.of e1
  refine ⟨fun hi => ⟨vs, eH, by rw [r.len]; exact Nat.le_of_eq hi⟩, fun d hd => ?_⟩
  obtain ⟨v, hv, rv⟩ := r.get hd
  refine ⟨⟨vs, v, eH, hv⟩, fun x H' y => ?_⟩
  obtain ⟨rfl, y⟩ := y
  have y := y vs eH
  rw [hv] at y; cases y
  exact ⟨fun _ _ z => z, F, fun a o e => .inl ⟨o, e⟩, Gr.refl _ _, C, rv⟩
theorem q_ianyV {tg : Expr} (he : QV X B e da) : QIV X B tg e (iSeq da) := PI.imp (pi_any he) fun σ H R ⟨F, pa, t, env, P, C, h, k⟩ => ⟨F, pa, t, env, _, C, h, fun v d F' pa' t' H' g C' r q => by
  rcases r with r | ⟨i0, r1, r2⟩
  · cases d with
    | lst l =>
      have r' := r
      unfold RelD at r'
      obtain ⟨a, vs, rfl, e1, r1⟩ := r'
      exact ⟨a, rfl, .inl ⟨⟨vs, SqL.of (C'.sub _ _ e1)⟩, k _ l F' pa' t' H' g C' (itOk_toE (it_list (SqL.of e1) r1)) q⟩⟩
    | tup l =>
      have r' := r
      unfold RelD at r'
      obtain ⟨a, vs, rfl, e1, r1⟩ := r'
      exact ⟨a, rfl, .inr ⟨⟨vs, SqT.of (C'.sub _ _ e1)⟩, k _ l F' pa' t' H' g C' (itOk_toE (it_tup e1 r1)) q⟩⟩
    | scr ns =>
      have r' := r
      unfold RelD at r'
      obtain ⟨a, rfl, e1⟩ := r'
      exact ⟨a, rfl, .inl ⟨⟨_, sq_mono C'.sub e1⟩, k _ _ F' pa' t' H' g C' (itOk_toE (it_list e1 (RelL.of_ints ns))) q⟩⟩
    | _ => exact q.elim
  · cases d with
    | lst l =>
      obtain ⟨a, h, s1, e1, rr, _⟩ := C'.own i0 _ r1
      rw [r2] at s1
      cases s1
      obtain ⟨vs, rfl, r⟩ := rr
      exact ⟨a, rfl, .inl ⟨⟨vs, SqL.of e1⟩, k _ l F' pa' t' H' g C' (it_ownL r1 r2) q⟩⟩
    | tup l =>
      obtain ⟨a, h, s1, e1, rr, _⟩ := C'.own i0 _ r1
      exact rr.elim
    | scr l =>
      obtain ⟨a, h, s1, e1, rr, _⟩ := C'.own i0 _ r1
      exact rr.elim
    | _ => exact q.elim⟩
theorem ev_lcV {di : DI} {vs : List Nat} : ∀ σ H Q, tnOf K B (dLc vs di g dt da) σ H Q → tLc (tivOf K B di) (tgU K vs g) (ttU K dt) (teU K da) vs σ H Q := fun σ H Q ⟨F, pa, t, env, P, C, h, k⟩ => by
  refine ⟨F, pa, t, env, _, C, h, fun J items F1 pa1 t1 H1 g1 C1 iok q D hD => ?_⟩
  obtain ⟨Inv, h0, hstep, hd⟩ := q
  refine ⟨fun i m H => m = items.length - i ∧ i ≤ items.length ∧ ∃ F pa t acc us, Gr F1 pa1 F pa ∧ Cf K B F pa t env σ H ∧ Nw B F pa env σ D ∧ H D = some (.lst us) ∧ RelL K F pa acc us ∧ Inv i acc t,
    ⟨_, rfl, Nat.zero_le _, F1, pa1, t1, [], [], Gr.refl _ _, C1.loose _ hD, C1.nw hD, upd_same, RelL.nil, h0⟩, ?_⟩
  rintro i m H2 ⟨rfl, hi, F2, pa2, t2, acc, us, g2, C2, n2, e2, r2, q2⟩
  have io := iok B F2 pa2 t2 env σ H2 i g2 C2 rfl rfl
  by_cases hlt : i < items.length
  · have hx : items[i]? = some items[i] := by simp [hlt]
    obtain ⟨go, yl⟩ := io.2 _ hx
    refine .inr ⟨go, fun H' => ∃ m', m' < items.length - i ∧ (m' = items.length - (i + 1) ∧ i + 1 ≤ items.length ∧ ∃ F pa t acc us, Gr F1 pa1 F pa ∧ Cf K B F pa t env σ H' ∧ Nw B F pa env σ D ∧ H' D = some (.lst us) ∧ RelL K F pa acc us ∧ Inv (i + 1) acc t), fun H' z => z, fun x H' y => ?_⟩
    obtain ⟨hk, F3, nw3, g3, C3, r3⟩ := yl x H' y
    have e3 : H' D = some (.lst us) := hk _ _ e2
    have dn : D ∉ (Bk F3 pa2 (wipeE env vs) (wipe σ vs) H').ex := fun z => by
      rcases List.mem_append.mp z with z | z
      · exact n2.a (mem_pa.mp z)
      · obtain ⟨j, d, h1, h2⟩ := mem_ownA.mp z
        obtain ⟨h1', hj⟩ := wipeE_some (by simp) h1
        have wo : (wipe σ vs)[j]? = σ[j]? := wipe_out hj
        rw [wo] at h2
        exact n2.s j d h1' h2
    have fD : F3 D = none := by
      cases z : F3 D with
      | none => rfl
      | some o =>
        rcases nw3 D o z with ⟨o', q⟩ | q
        · rw [n2.f] at q; cases q
        · rw [e2] at q; cases q
    have n3 : Nw B F3 pa2 env σ D := ⟨fD, n2.b, n2.a, n2.s⟩
    have CB := C3.block vs
    refine ⟨_, F3, pa2, t2, wipeE env vs, items[i], _, CB, r3, hstep i _ acc t2 hx q2, fun F4 pa4 t4 e4 σ4 H4 g4 C4 w4 q4 => ?_⟩
    obtain ⟨we, q4⟩ := q4
    have hs4 : wipe σ4 vs = wipe σ vs := w4.trans wipe_idem
    refine ⟨hs4, _, F4, pa4, t4, e4, _, C4, q4, fun k F5 pa5 t5 H5 g5 C5 q5 => ?_⟩
    have fin : ∀ {F6 : Hp} {pa6 : Option Addr} {t6 : Ts} {H6 : Hp}, Gr F3 pa2 F6 pa6 → Cf K (Bk F3 pa2 (wipeE env vs) (wipe σ vs) H') F6 pa6 t6 e4 σ4 H6 →
        Gr F1 pa1 F6 pa6 ∧ Cf K B F6 pa6 t6 env σ H6 ∧ Nw B F6 pa6 env σ D ∧ H6 D = some (.lst us) ∧ RelL K F6 pa6 acc us := fun {F6 pa6 t6 H6} g6 C6 => by
      obtain ⟨g7, C7⟩ := C3.join C6 we hs4
      have eD : H6 D = some (.lst us) := C6.frm D _ e3 dn
      refine ⟨(g2.trans g3).trans g7, C7, ⟨?_, n2.b, fun z => ?_, n2.s⟩, eD, RelL.mono (g3.trans g7) acc us r2⟩
      · cases z : F6 D with
        | none => rfl
        | some o =>
          rcases C6.new D o z with ⟨o', q⟩ | q
          · have q : F3 D = some o' := q
            rw [fD] at q; cases q
          · have q : H' D = none := q
            rw [e3] at q; cases q
      · rcases (C6.pen D z).2.2 with q | q
        · exact dn q
        · have q : H' D = none := q
          rw [e3] at q; cases q
    cases k with
    | true =>
      refine L2.iteT ?_
      refine ⟨_, F5, pa5, t5, e4, _, C5, q5, fun v d F6 pa6 t6 H6 g6 C6 r6 q6 => ?_⟩
      obtain ⟨hl, q6⟩ := q6
      obtain ⟨h1, h2, h3, h4, h5⟩ := fin ((g4.trans g5).trans g6) C6
      refine ⟨us, h4, by rw [h5.len]; exact zlt hl, _, by omega, rfl, hlt, F6, pa6, t6, acc ++ [d], us ++ [v], h1, h2.write h3, h3, upd_same, h5.append (.cons r6 .nil), q6⟩
    | false =>
      refine L2.iteF ?_
      obtain ⟨h1, h2, h3, h4, h5⟩ := fin (g4.trans g5) C5
      exact ⟨_, by omega, rfl, hlt, F5, pa5, t5, acc, us, h1, h2, h3, h4, h5, q5⟩
  · have e : i = items.length := by omega
    subst e
    exact .inl ⟨io.1 rfl, k D _ (.lst acc) F2 pa2 t2 H2 (g1.trans g2) C2 n2 e2 ⟨us, rfl, r2⟩ (hd acc t2 q2)⟩
theorem q_lcV {elt tg iter : Expr} {ifs : List Expr} {scope : Scope} {own : List (Str × Nat)} {pos : Pos} {di : DI} (hc : X.calm = true) (hN : X.N.Nodup) (hi : QIV X B tg iter di) (ok : BlkOk X.N X.env.scope scope own)
    (hg : ∀ (s : Shared) (H : Hp) (C : Addr) (cl : List (Str × Addr)) (fp : List Addr) (B : Bs), QG (X.blk s H scope (compEnvC scope cl C X.env) fp) B (own.map (·.2)) tg g) (ht : ∀ (s : Shared) (H : Hp) (C : Addr) (cl : List (Str × Addr)) (fp : List Addr), PTs (X.blk s H scope (compEnvC scope cl C X.env) fp) ifs (ttU X.K dt))
    (he : ∀ (s : Shared) (H : Hp) (C : Addr) (cl : List (Str × Addr)) (fp : List Addr) (B : Bs), QE (X.blk s H scope (compEnvC scope cl C X.env) fp) B elt da) (hs : ∀ x, foldedSetIterable iter X.env x = pure x := by intro _; rfl) :
    QN X B (.ListComp elt [⟨tg, iter, ifs, 0⟩] scope pos) (dLc (own.map (·.2)) di g dt da) :=
  PE.imp (pe_lc hc hN hi ok (fun s H C cl fp => pg_U fun B => hg s H C cl fp B) ht (fun s H C cl fp => pe_U fun B => he s H C cl fp B) hs) ev_lcV
/-- name = [..], frozen at once -/
theorem q_setLcV {i : Nat} {y : Str} {py : Pos} {elt tg iter : Expr} {ifs : List Expr} {scope : Scope} {own : List (Str × Nat)} {pos spos : Pos} {di : DI} (hc : X.calm = true) (hN : X.N.Nodup) (hy : X.N[i]? = some y) (hyl : X.env.scope.names.lookup y = some .local)
    (hsw : swapsWith (.ListComp elt [⟨tg, iter, ifs, 0⟩] scope pos) (some (.Name y py)) spos.line X.env = pure true) (hi : QIV X B tg iter di) (ok : BlkOk X.N X.env.scope scope own)
    (hg : ∀ (s : Shared) (H : Hp) (C : Addr) (cl : List (Str × Addr)) (fp : List Addr) (B : Bs), QG (X.blk s H scope (compEnvC scope cl C X.env) fp) B (own.map (·.2)) tg g) (ht : ∀ (s : Shared) (H : Hp) (C : Addr) (cl : List (Str × Addr)) (fp : List Addr), PTs (X.blk s H scope (compEnvC scope cl C X.env) fp) ifs (ttU X.K dt))
    (he : ∀ (s : Shared) (H : Hp) (C : Addr) (cl : List (Str × Addr)) (fp : List Addr) (B : Bs), QE (X.blk s H scope (compEnvC scope cl C X.env) fp) B elt da) (hs : ∀ x, foldedSetIterable iter X.env x = pure x := by intro _; rfl) :
    QS X B (.Assign [.Name y py] (.ListComp elt [⟨tg, iter, ifs, 0⟩] scope pos) spos) (dAsg (dLc (own.map (·.2)) di g dt da) (Q.gName i)) :=
  PS.imp (ps_setLc hc hN hy hyl hsw hi ok (fun s H C cl fp => pg_U fun B => hg s H C cl fp B) ht (fun s H C cl fp => pe_U fun B => he s H C cl fp B) hs) fun De σ H ⟨F, pa, t, env, DD, C, h, R⟩ =>
    ev_lcV σ H _ ⟨F, pa, t, env, _, C, h, fun p hh d F' pa' t' H' g' C' n e r q => by
      obtain ⟨g2, C2⟩ := C'.frz n e
      exact R.nx _ pa' t' _ _ H' (g'.trans g2) (C2.setV i (RelO1.rel (p := p) (RelO1.mono g2 d hh r) upd_same)) q⟩
theorem q_setLcNV {i : Nat} {y : Str} {py : Pos} {elt tg iter : Expr} {ifs : List Expr} {scope : Scope} {own : List (Str × Nat)} {pos spos : Pos} {di : DI} (hc : X.calm = true) (hN : X.N.Nodup) (hy : X.N[i]? = some y) (hyl : X.env.scope.names.lookup y = some .local)
    (hsw : swapsWith (.ListComp elt [⟨tg, iter, ifs, 0⟩] scope pos) (some (.Name y py)) spos.line X.env = pure true) (hi : QIV X B tg iter di) (ok : BlkOk X.N X.env.scope scope own)
    (hg : ∀ (s : Shared) (H : Hp) (C : Addr) (cl : List (Str × Addr)) (fp : List Addr) (B : Bs), QG (X.blk s H scope (compEnvC scope cl C X.env) fp) B (own.map (·.2)) tg g) (ht : ∀ (s : Shared) (H : Hp) (C : Addr) (cl : List (Str × Addr)) (fp : List Addr), PTs (X.blk s H scope (compEnvC scope cl C X.env) fp) ifs (ttU X.K dt))
    (he : ∀ (s : Shared) (H : Hp) (C : Addr) (cl : List (Str × Addr)) (fp : List Addr) (B : Bs), QE (X.blk s H scope (compEnvC scope cl C X.env) fp) B elt da) (hs : ∀ x, foldedSetIterable iter X.env x = pure x := by intro _; rfl) :
    QS X B (.Assign [.Name y py] (.ListComp elt [⟨tg, iter, ifs, 0⟩] scope pos) spos) (dAsgN i (dLc (own.map (·.2)) di g dt da)) :=
  PS.imp (ps_setLc hc hN hy hyl hsw hi ok (fun s H C cl fp => pg_U fun B => hg s H C cl fp B) ht (fun s H C cl fp => pe_U fun B => he s H C cl fp B) hs) fun De σ H ⟨F, pa, t, env, DD, C, h, R⟩ =>
    ev_lcV σ H _ ⟨F, pa, t, env, _, C, h, fun p hh d F' pa' t' H' g' C' n e r q => R.nx F' pa' t' _ _ H' g' (C'.setN i n e r) q⟩
end
end Q

/-! QH21 -/
namespace Q
open PySem L2 PyProof.Rows

section
variable {K : PySem.W.Frag} {X : Cx} {B : Bs}
variable {CX : CXT} {k : Nat} {f : Addr} {fd : FuncData} {ps ks : List Str} {sp : PSp} {E : XK} {x : Str} {p pos : Pos} {kws : List Keyword} {as : DA} {ix : List Nat}
theorem ev_callKN : ∀ σ H Q, tnOf K B (dCallK sp ix as) σ H Q → tCallK (liftN K sp) (gK ix) E tNil (taOf K B as) σ H Q := fun σ H Q ⟨F, pa, t, env, P, W, h, k⟩ =>
  ⟨F, pa, t, env, _, W, h, fun vs xs F1 pa1 t1 H1 g1 W1 r1 q1 => ⟨F1, pa1, t1, pick ix xs, P, W1.call, relL_pick r1 ix, q1, fun p hh d F' pa' t' H' W' n1 n2 n3 e' r' q' => by
    obtain ⟨g, W2⟩ := W1.after W'
    refine k p hh d F' pa' t' H' (g1.trans g) W2 ⟨n1, (W1.fresh n2).2.1, n3, fun j d' ej sj => ?_⟩ e' r' q'
    obtain ⟨a, u, s1, e1, _⟩ := W1.own j d' ej
    rw [sj] at s1
    cases s1
    rw [n2] at e1; cases e1⟩⟩
theorem q_callKN (F : FnOk X.prog X.w X.K X.mg X.base CX k f fd ps (liftN X.K sp)) (hr : Room k X.A) (hg : Gl X x) (hm : X.mg x = some (.ref f)) (hk : PySem.W.keepIn X.K (.ref f) = true) (hb : KBinds X.K fd ps ks (gK ix) (gK ix)) (hx : Passes CX X E) (hkw : QK X B kws as)
    (h1 : (backToKw pos (keywordEach kws X.env)).all (·.1.isSome) = true := by rfl) (h2 : (backToKw pos (keywordEach kws X.env)).filterMap (·.1) = ks := by rfl) (hdb : (x == ("__debug__" : Str)) = false := by decide)
    (h3 : ((backTo pos (starEach [] X.env)).any (·.1) || (backToKw pos (keywordEach kws X.env)).any (·.1.isNone)) = false := by rfl) : QN X B (.Call (.Name x p) [] kws pos) (dCallK sp ix as) :=
  PE.imp (pe_callK0 F hr hg hm hk hb hx hkw h1 h2 hdb h3) ev_callKN
end
end Q

/-! QH22 -/
namespace Q
open PySem L2 PyProof.Rows
/-! ### defs that tell None or a new object -/
def liftM (K : PySem.W.Frag) (sp : PSp) : Sp := fun vs H Q E => ∃ F pa t ds P, Cf K (B0 F pa H) F pa t [] [] H ∧ RelL K F pa ds vs ∧ sp ds t P ∧
  (∀ F' pa' t' H', Cf K (B0 F pa H) F' pa' t' [] [] H' → P .non t' → Q .non H') ∧
  ∀ p h d F' pa' t' H', Cf K (B0 F pa H) F' pa' t' [] [] H' → F' p = none → H p = none → pa' ≠ some p → H' p = some h → RelO1 K F' pa' d h → P d t' → Q (.ref p) H'
def tmOf (K : PySem.W.Frag) (B : Bs) (de : DE) : TE := fun σ H Q => ∃ F pa t env P, Cf K B F pa t env σ H ∧ de env t P ∧
  (∀ F' pa' t' H', Gr F pa F' pa' → Cf K B F' pa' t' env σ H' → P .non t' → Q .non H') ∧
  ∀ p h d F' pa' t' H', Gr F pa F' pa' → Cf K B F' pa' t' env σ H' → Nw B F' pa' env σ p → H' p = some h → RelO1 K F' pa' d h → P d t' → Q (.ref p) H'
abbrev QMb (X : Cx) (B : Bs) (e : Expr) (de : DE) : Prop := PE X e (tmOf X.K B de)
section
variable {P : Program} {w : World} {K : PySem.W.Frag} {mg : Str → Option Value} {base : Heap}
theorem fn_okM {x qual : Str} {st : Stmt} {f : Addr} {fd : FuncData} {N ps : List Str} {k : Nat} {sp : PSp} {ds : DS} (Fu : Fun K x qual st f fd) (S : FnScope N ps (defScope st)) (len : ∀ as t Q, sp as t Q → as.length = ps.length)
    (hbody : ∀ (cdv : Value) (A : Around) (outer : List PySem.Env) (s : Shared) (H : Hp) (E : XK) (B : Bs), Room k (A.deeper (envOfC qual (defScope st) s.heap.objs.size f cdv)) → B.Top → B.m = true →
      QSs (cxOf CX0 P w K mg base N qual (defScope st) f cdv A outer s H E).nox B (defBody st) ds)
    (hds : ∀ as t Q, sp as t Q → ds (endsOf Q) (start0 N as) t) : FnOk P w K mg base CX0 (k + 1) f fd ps (liftM K sp) := by
  refine Fu.ok S (fun vs H Q E h => ?_) (fun cdv A outer s H vs Q E hr h => ?_)
  · obtain ⟨F, pa, t, as, R, C, r, q, _⟩ := h
    rw [r.len]; exact len as t R q
  · obtain ⟨F, pa, t, as, R, C, r, q, fin0, fin⟩ := h
    refine ⟨_, hbody cdv A outer s H E (B1 F pa H) hr (B1.top F pa H) rfl, F, pa, t, start0 N as, _, (cf_start C r).cong rfl rfl rfl rfl, hds as t R q, ⟨?_, ?_, ?_, ?_⟩⟩
    · intro F' pa' t' env σ H' g C' q'
      exact fin0 F' pa' t' H' (C'.nil.cong rfl rfl rfl rfl) q'
    · intro v d F' pa' t' env σ H' g C' r' q'
      rcases r' with ⟨rfl, rfl⟩ | ⟨p, h, rfl, n1, n2, n3, e, r'⟩
      · exact fin0 F' pa' t' H' (C'.nil.cong rfl rfl rfl rfl) q'
      · exact fin p h d F' pa' t' H' (C'.nil.cong rfl rfl rfl rfl) n1 n2 n3 e r' q'
    · intro F' pa' t' env σ H' g C' q'
      exact q'.elim
    · intro F' pa' t' env σ H' g C' q'
      exact q'.elim
theorem liftM.lift {sp : PSp} {vs : List V} {H : Hp} {Q : VK} {E : XK} (h : _root_.Q.lift K sp vs H Q E) : liftM K sp vs H Q E := by
  obtain ⟨F, pa, t, ds, R, C, r, q, fin⟩ := h
  refine ⟨F, pa, t, ds, R, C, r, q, fun F' pa' t' H' C' q' => fin _ _ F' pa' t' H' C' rD_non q', fun p hh d F' pa' t' H' C' n1 n2 n3 e r' q' => ?_⟩
  have n : Nw (B0 F pa H) F' pa' [] [] p := ⟨n1, n2, n3, fun j e hj => by simp at hj⟩
  obtain ⟨g, C2⟩ := C'.frz n e
  exact fin (.ref p) d _ pa' t' H' C2 (RelO1.rel (RelO1.mono g d hh r') upd_same) q'
theorem fn_frzM {f : Addr} {fd : FuncData} {ps : List Str} {k : Nat} {sp : PSp} {CX : CXT} (h : FnOk P w K mg base CX k f fd ps (liftM K sp)) : FnOk P w K mg base CX k f fd ps (lift K sp) := h.imp fun vs H Q E q => liftM.lift q
end
section
variable {K : PySem.W.Frag} {X : Cx} {B : Bs} {e : Expr} {es : List Expr} {da : DE}
variable {CX : CXT} {k : Nat} {f : Addr} {fd : FuncData} {ps ks : List Str} {sp : PSp} {E : XK} {x : Str} {p pos : Pos} {kws : List Keyword} {as : DA} {ix : List Nat} {dvs : List V} {dds : List D} {ds : List Value}
theorem ev_callM (hd : ∀ F pa, RelL K F pa dds dvs) : ∀ σ H Q, tmOf K B (dCall sp dds as) σ H Q → tCall (liftM K sp) dvs E (taOf K B as) σ H Q := fun σ H Q ⟨F, pa, t, env, P, W, h, k0, k⟩ =>
  ⟨F, pa, t, env, _, W, h, fun vs xs F1 pa1 t1 H1 g1 W1 r1 q1 => ⟨F1, pa1, t1, xs ++ dds, P, W1.call, r1.append (hd _ _), q1, fun F' pa' t' H' W' q' => by
    obtain ⟨g, W2⟩ := W1.after W'
    exact k0 F' pa' t' H' (g1.trans g) W2 q', fun p hh d F' pa' t' H' W' n1 n2 n3 e' r' q' => by
    obtain ⟨g, W2⟩ := W1.after W'
    refine k p hh d F' pa' t' H' (g1.trans g) W2 ⟨n1, (W1.fresh n2).2.1, n3, fun j d' ej sj => ?_⟩ e' r' q'
    obtain ⟨a, u, s1, e1, _⟩ := W1.own j d' ej
    rw [sj] at s1
    cases s1
    rw [n2] at e1; cases e1⟩⟩
theorem q_callM (F : FnOk X.prog X.w X.K X.mg X.base CX k f fd ps (liftM X.K sp)) (hr : Room k X.A) (hg : Gl X x) (hm : X.mg x = some (.ref f)) (hk : PySem.W.keepIn X.K (.ref f) = true) (hb : Binds X.K fd ps ds) (hd : Vals dvs ds) (hD : ∀ F pa, RelL X.K F pa dds dvs) (hx : Passes CX X E)
    (ha : QA X B (e :: es) as) (hdb : (x == ("__debug__" : Str)) = false := by decide) (he : starEach (e :: es) X.env = (false, eval e X.env) :: starEach es X.env := by rfl) (hpl : (backTo pos (starEach es X.env)).any (·.1) = false := by rfl) :
    QMb X B (.Call (.Name x p) (e :: es) [] pos) (dCall sp dds as) := PE.imp (pe_call F hr hg hm hk hb hd hx ha hdb he hpl) (ev_callM hD)
theorem q_setM {i : Nat} {x : Str} {pos' : Pos} (hN : X.N.Nodup) (hi : X.N[i]? = some x) (hx : Loc X.env.scope x) (he : QMb X B e da) (hs : swapsWith e (some (.Name x pos')) pos.line X.env = pure false := by rfl) (hf : X.fn x = true ∨ X.env.scope.names.lookup x = some .local := by first | exact .inl rfl | exact .inr rfl | assumption) :
    QS X B (.Assign [.Name x pos'] e pos) (dAsgM i da) := PS.imp (ps_set hN hi hx he hs hf) fun D σ H ⟨F, pa, t, env, DD, C, h, R⟩ =>
  ⟨F, pa, t, env, _, C, h, fun F' pa' t' H' g' C' q => R.nx F' pa' t' _ _ H' g' (C'.setV i rD_non) q, fun p hh d F' pa' t' H' g' C' n e r q => by
    refine R.nx F' pa' t' _ _ H' g' (C'.setN i n e r) ?_
    cases d with
    | non => exact (show False by simpa [RelO1] using r).elim
    | _ => exact q⟩
theorem q_retNonM (hm : B.m = true) (h : QE X B e (dC .non)) : QS X B (.Return (some e) pos) (dRet (dC .non)) := PS.imp (ps_ret h) fun D σ H ⟨F, pa, t, env, DD, C, h, R⟩ =>
  ⟨F, pa, t, env, fun d t1 => d = .non ∧ DD.rt .non env t1, C, ⟨rfl, h⟩, fun v d F' pa' t' H' g C' r q => by
    obtain ⟨rfl, q⟩ := q
    refine R.rt v .non F' pa' t' env σ H' g C' ?_ q
    unfold RetRel; rw [hm]
    refine .inl ⟨rfl, ?_⟩
    unfold RelD at r; exact r⟩
end
end Q

/-! QH23 -/
/-! ### sorted(d), a dict of whole numbers, any number of keys -/
namespace L2
open PySem PySem.Spec PyProof.Rows
section
variable {X : Cx}
def rSortD : List V → Hp → VK → Prop := fun xs H Q => ∃ (a : Addr) (kvs : List (Key × V)) (ks : List Int), xs = [.ref a] ∧ Rd H a (.dK kvs) ∧ kvs.map (·.1) = ks.map Sum.inl ∧ ks.length ≤ 100000 ∧
    ∀ (ys : List Int) (p : Addr), ys.Perm ks → ys.Pairwise (· ≤ ·) → H p = none → Q (.ref p) (upd H p (.lst (ys.map V.int)))
theorem call_sortD (hcalm : X.calm = true) : CallR X (.builtin "sorted") rSortD := by
  intro pins s σ H xs us Q I r ⟨a, kvs, ks, ex, hd, hks, h9, q⟩
  subst ex
  obtain ⟨u, eu, rx⟩ := vals1 r
  subst eu
  cases rx
  obtain ⟨z, lo, vs, rel, dd⟩ := dk_rd I.hok hd
  obtain ⟨ep, hat⟩ := dd.dictAt
  have hkeys : vs.map (·.1) = ks.map Sum.inl := rel.keys.symm.trans hks
  have hl : vs.length = ks.length := by simpa using congrArg List.length hkeys
  have hz9 : ks.length ≤ sizeLine := Nat.le_trans h9 (by rw [sizeLine_eq]; decide)
  refine Calls.call_function_entry kind_sorted plain_sorted entry_sorted (args_sorted1 _) ?_
  unfold Builtin.«sorted»
  refine wpAny_bind (m := checkCount "sorted" 1 1 _) (wpAny_pure ?_)
  refine wpAny_bind (PySem.W.kdu_collect (A := X.A.in1) (PySem.W.kdl_dict (knd := mixKind X.prog X.w) (kvs := vs) (ep := ep) lo) (I.ok.hd hcalm) hat (by rw [hl]; exact hz9) fun h' tk acc hk hacc => ?_)
  have hal : acc.toList.length = ks.length := by rw [Array.length_toList, hacc.1, hl]
  have hS : IntsAre acc.toList ks := ints_each hal fun j v e => by
    obtain ⟨k, x, e1, e2⟩ := hacc.2 j v (by rw [← Array.getElem?_toList]; exact e)
    have e3 : (ks.map Sum.inl)[j]? = some k := by rw [← hkeys, List.getElem?_map, e1]; rfl
    rw [List.getElem?_map] at e3
    cases e4 : ks[j]? with
    | none => rw [e4] at e3; cases e3
    | some y =>
      rw [e4] at e3
      cases e3
      rcases keyIs_shape (show keyIs (Sum.inl y) v = true from e2) with ⟨i, t, ek, ev⟩ | ⟨z, t, ek, ev⟩
      · cases ek
        exact ⟨y, t, rfl, ev⟩
      · cases ek
  have I1 : Inv X pins σ H { s with heap := h', toks := tk } := I.kept hk
  refine wpAny_bind (wpAny_newList ?_ (by rw [hal]; exact hz9))
  have hoL : (h'.push (seqObj "list" acc.toList.toArray 0)).get? h'.objs.size = some (seqObj "list" acc.toList.toArray 0) := Heap.get?_push_size _ rfl
  show wpAny _ _ _ _ _ { s with heap := h'.push (seqObj "list" acc.toList.toArray 0), toks := tk }
  refine wpAny_bind (wpAny_holding (wpAny_call_entry slot_list_sort ⟨_, hoL, rfl⟩ entry_list_sort
    (SrtO.list_sort_ord SrtO.swo_int hoL (by rw [hal]; exact hz9) (fun h2 => SrtO.ints_sortable hS h2) fun out g1 g2 => ⟨_, rfl, ?_⟩) (args_list_sort _)))
  obtain ⟨k1, k2, k3⟩ := SrtO.ints_out hS g1 g2
  obtain ⟨e', he'⟩ := sortedHeap_at (vs := acc.toList) (out := out.toArray) hoL
  have hlen : ((out.map SrtO.iv).map V.int).length ≤ sizeLine := by rw [List.length_map, k2.length_eq]; exact hz9
  refine wpAny_pure ⟨_, rfl, .ref h'.objs.size, upd H h'.objs.size (.lst ((out.map SrtO.iv).map V.int)), I1.laid (t' := tk) (fun b u e => ?_) (Nat.le_refl _)
    (show ObjOk X.prog X.w _ _ _ (.lst ((out.map SrtO.iv).map V.int)) from ⟨hlen, out, e', vals_of_ints k1, he'⟩), rfl, q _ _ k2 k3 (I1.hok.fresh (Nat.le_refl _))⟩
  have hb : b < h'.objs.size := Heap.lt_size e
  rw [sortedHeap_old (Nat.ne_of_lt hb) (by rw [size_push']; exact Nat.lt_succ_of_lt hb)]
  exact Heap.get?_push_of_some _ e
end
end L2
namespace Q
open PySem L2 PyProof.Rows
section
variable {K : PySem.W.Frag}
theorem zip_keys {α β : Type} : ∀ (l : List α) (m : List β), l.length = m.length → (l.zip m).map (·.1) = l
  | [], _, _ => rfl
  | a :: l, [], h => by simp at h
  | a :: l, b :: m, h => by simp [zip_keys l m (by simpa using h)]
theorem rcn_sortD : RCallN K rSortD bSortD := fun B F pa t env σ H xs vs P Q W r h k => by
  unfold bSortD at h
  split at h
  · obtain ⟨v, rfl, r1⟩ := r.one
    obtain ⟨ns, rfl, hn, hp⟩ := h
    obtain ⟨a, us, rfl, e, hl, q⟩ := r1.dic W
    exact ⟨a, _, ns, rfl, .inl e, zip_keys _ _ hl, hn, fun ns' p h1 h2 h3 => k p _ (.lst (ns'.map .int)) F _ (Gr.refl _ _) (W.loose _ h3) (W.nw h3) upd_same ⟨_, rfl, RelL.of_ints ns'⟩ (hp ns' h1 h2)⟩
  · exact h.elim
end
end Q

/-! QH24 -/
namespace Q
open PySem L2 PyProof.Rows
section
variable {K : PySem.W.Frag} {X : Cx} {B : Bs} {e o : Expr} {dk da : DE} {pos : Pos}
theorem ev_din (neg : Bool) {P : D → Ts → Prop} {F2 : Hp} {pa2 : Option Addr} {t2 : Ts} {env : En} {σ : L2.St} {H2 : Hp} {y x : D} {u v : V} (C2 : Cf K B F2 pa2 t2 env σ H2) (r1 : RelX K F2 pa2 env σ y u) (r2 : RelX K F2 pa2 env σ x v)
    (q2 : dDIn neg (fun _ t P => P y t) (fun _ t P => P x t) [] t2 P) :
    ∃ a ov, v = .ref a ∧ DGet H2 a u ov ∧ P (.bl (xor neg ov.isSome)) t2 := by
  cases x with
  | dic ks l =>
    have q2 : (match keyD y with | some k => P (.bl (xor neg (getL ks l k).isSome)) t2 | none => False) := q2
    cases hk : keyD y with
    | none => rw [hk] at q2; exact q2.elim
    | some kk =>
      rw [hk] at q2
      obtain ⟨a, us, ea, e, hl, r⟩ := r2.dic C2
      have dg : DGet H2 a (kV kk) (valV (ks.zip us) kk) := DGet.k e
      refine ⟨a, _, ea, by rw [keyD_v C2 r1 hk]; exact dg, ?_⟩
      have q2 : P (.bl (xor neg (getL ks l kk).isSome)) t2 := q2
      cases hd : getL ks l kk with
      | some d =>
        obtain ⟨w', hw, _⟩ := (getL_val r hl).1 d hd
        rw [hw]; rw [hd] at q2; exact q2
      | none =>
        rw [(getL_val r hl).2 hd]; rw [hd] at q2; exact q2
  | _ => exact False.elim q2
theorem q_tdin (hu : X.A.units + 1 < cLine) (he : QV X B e dk) (ho : QV X B o da) (hm : behindInMarks .In o = false) : QT X B (.Compare e [.In] [o] pos) (dB (dDIn false dk da)) := PT.imp (pt_cmp (pc_din hu he ho) hm) fun σ H Q ⟨F, pa, t, env, P, C, h, k⟩ =>
  ⟨F, pa, t, env, _, C, h, fun u y F1 pa1 t1 H1 g1 C1 r1 q1 => ⟨F1, pa1, t1, env, _, C1, q1, fun v x F2 pa2 t2 H2 g2 C2 r2 q2 => by
    obtain ⟨a, ov, e1, e2, e3⟩ := ev_din false (P := fun x t1 => match x with | .bl b => P b t1 | _ => False) C2 (r1.mono g2) r2 q2
    exact ⟨a, ov, e1, e2, ov.isSome, rfl, k _ F2 pa2 t2 H2 (g1.trans g2) C2 (by have e3 : P (xor false ov.isSome) t2 := e3; rw [Bool.false_xor] at e3; exact e3)⟩⟩⟩
theorem q_tdnotin (hu : X.A.units + 1 < cLine) (he : QV X B e dk) (ho : QV X B o da) (hm : behindInMarks .NotIn o = false) : QT X B (.Compare e [.NotIn] [o] pos) (dB (dDIn true dk da)) := PT.imp (pt_cmp (pc_dnotin hu he ho) hm) fun σ H Q ⟨F, pa, t, env, P, C, h, k⟩ =>
  ⟨F, pa, t, env, _, C, h, fun u y F1 pa1 t1 H1 g1 C1 r1 q1 => ⟨F1, pa1, t1, env, _, C1, q1, fun v x F2 pa2 t2 H2 g2 C2 r2 q2 => by
    obtain ⟨a, ov, e1, e2, e3⟩ := ev_din true (P := fun x t1 => match x with | .bl b => P b t1 | _ => False) C2 (r1.mono g2) r2 q2
    exact ⟨a, ov, e1, e2, (!ov.isSome), rfl, k _ F2 pa2 t2 H2 (g1.trans g2) C2 (by have e3 : P (xor true ov.isSome) t2 := e3; rw [Bool.true_xor] at e3; exact e3)⟩⟩⟩
end
end Q

/-! QH25 -/
/-! ### range(a, b) with bounds of any size -/
namespace L2
open PySem PySem.Spec PyProof.Rows
theorem turn_long {P : Program} {w : World} {K : PySem.W.Frag} {tg : Expr} (it : Addr) (lo : Int) (n : Nat) : Turn P w K tg (Itr lo n) [it] it (fun i h => IsLongIter h it (lo + (i : Nat) * 1) ((n : Int) - (i : Nat)) 1) where
  mem := by simp
  obj := fun i h st b hb => by
    have e : b = it := by simpa using hb
    subst e
    exact ⟨_, st, fun v z => by
      have z' : Data.fields _ = Data.cell v := z
      cases z'⟩
  keep := fun i h h' st k => k it (by simp) _ st
  item := by
    intro X hP hw hK hc i pins s σ H E I hf st hg
    subst hP hw hK
    obtain ⟨f0, f1, f2, f3, f4, f5⟩ := hf it (by simp)
    refine (Walks.longrange (prog := X.prog) (w := X.w) (I.ok.hd hc) it lo 1 n).item i s _ _ hg st fun v h' tk hv st' kk => ?_
    obtain ⟨t, rfl⟩ := hv
    have I1 : Inv X pins σ H { s with heap := h', toks := tk } := I.turned (fun b o hb e => kk b o (by simpa using hb) e) f0 f1 f3 f4 f5
    refine ⟨_, rfl, go_of (s := { s with heap := h', toks := tk }) (n := "longrange_iterator") st' rfl rfl (by decide) ⟨.int (lo + i), H, I1, ⟨t, by rw [Int.mul_one]⟩, ⟨rfl, rfl⟩, st', fun b hb => (hf b hb).1⟩⟩
  done := by
    intro X hP hw hK hc i pins s σ H E I hf st hg
    subst hP hw hK
    obtain ⟨f0, f1, f2, f3, f4, f5⟩ := hf it (by simp)
    exact wpAny_pyNext_long_end (I.ok.hd hc) st (by have : n ≤ i := hg; omega) fun h' eb => ⟨rfl, I.turned (t' := s.toks) (fun b o hb e => eb b o hb e) f0 f1 f3 f4 f5⟩
  self := fun _ _ _ _ _ st h => wpAny_pyIter_longiter st h
section
variable {X : Cx} {tg : Expr}
theorem range_any {pins : List (Addr × Obj)} {σ : St} {H : Hp} {s : Shared} {R : It → Hp → Prop} {E : Value → Shared → Prop} {lo hi : Int} {t u v : Tok} {tk : Nat} (I : Inv X pins σ H s)
    (q : R (Itr lo (hi - lo).toNat) H) : wpAny (model X.prog X.w) X.A (pyIter (.ref s.heap.objs.size)) (PIE X pins σ tg R) E { s with heap := s.heap.push { cls := .type "range", data := .fields #[.int lo t, .int hi u, .int 1 v] }, toks := tk } := by
  have I1 : Inv X pins σ H { s with heap := s.heap.push { cls := .type "range", data := .fields #[.int lo t, .int hi u, .int 1 v] }, toks := tk } := I.kept fun b o e => Heap.get?_push_of_some _ e
  have e1 : lo + ((0 : Nat) : Int) * 1 = lo := by simp
  have e2 : (((hi - lo).toNat : Nat) : Int) - ((0 : Nat) : Int) = Builtin.Range.rangeSize lo hi 1 := by rw [rangeSize_one]; split <;> omega
  have fp : ∀ b ∈ [(s.heap.push { cls := .type "range", data := .fields #[.int lo t, .int hi u, .int 1 v] }).objs.size], FpOk X pins H b := fun b hb => by
    have e : b = (s.heap.push { cls := .type "range", data := .fields #[.int lo t, .int hi u, .int 1 v] }).objs.size := by simpa using hb
    subst e
    exact I1.fpOk (Nat.le_refl _) (I1.hok.fresh (Nat.le_refl _))
  cases hs : Builtin.Range.small lo hi 1 with
  | true =>
    refine wpAny_pyIter_range (IsRange.new ..) hs ?_
    refine ⟨_, [(s.heap.push { cls := .type "range", data := .fields #[.int lo t, .int hi u, .int 1 v] }).objs.size], _, _, H, rfl, I1.kept (t' := tk) fun b o e => Heap.get?_push_of_some _ e, turn_range _ lo (hi - lo).toNat, ?_, fp, q⟩
    show IsRangeIter _ _ (lo + ((0 : Nat) : Int) * 1) ((((hi - lo).toNat : Nat) : Int) - ((0 : Nat) : Int)) 1
    rw [e1, e2]
    exact Heap.get?_push_size _ rfl
  | false =>
    refine wpAny_pyIter_longrange (IsRange.new ..) hs ?_
    refine ⟨_, [(s.heap.push { cls := .type "range", data := .fields #[.int lo t, .int hi u, .int 1 v] }).objs.size], _, _, H, rfl, I1.kept (t' := tk) fun b o e => Heap.get?_push_of_some _ e, turn_long _ lo (hi - lo).toNat, ?_, fp, q⟩
    show IsLongIter _ _ (lo + ((0 : Nat) : Int) * 1) ((((hi - lo).toNat : Nat) : Int) - ((0 : Nat) : Int)) 1
    rw [e1, e2]
    exact Heap.get?_push_size _ rfl
def iRngA (ta : TA) : TI := fun σ H R => ta σ H fun vs H1 => ∃ i j : Int, vs = [.int i, .int j] ∧ R (Itr i (j - i).toNat) H1
theorem pi_rangeA {a b : Expr} {ta : TA} {p pos : Pos} (hg : Gl X "range") (hm : X.mg "range" = none) (ha : PA X [a, b] ta) (hs : starEach [a, b] X.env = [(false, eval a X.env), (false, eval b X.env)] := by rfl) (hs2 : starEach [b] X.env = [(false, eval b X.env)] := by rfl) :
    PI X tg (.Call (.Name "range" p) [a, b] [] pos) (iRngA ta) := by
  refine ⟨fun pins s σ H R I h => ?_⟩
  refine Call_ (ld_blt I hg hm boot_range (PyProof.Rows.callWith_type1 (thn (ha.run pos pins s σ H _ I h) fun us s1 ⟨vs, H1, I1, r1, q1⟩ => ?_) (by rw [hs, hs2]) (by rw [hs2]; rfl)))
  obtain ⟨i, j, e, q⟩ := q1
  subst e
  cases r1 with
  | cons r rr =>
    cases rr with
    | cons r' rr =>
      cases rr
      obtain ⟨t, rfl⟩ := r
      obtain ⟨t', rfl⟩ := r'
      exact call_range_2 (range_any I1 q)
end
end L2
namespace Q
open PySem L2 PyProof.Rows
section
variable {X : Cx} {B : Bs} {a b : Expr} {da db : DE}
theorem q_irngL {tg : Expr} {p pos : Pos} (hg : Gl X "range") (hm : X.mg "range" = none) (ha : QV X B a da) (hb : QV X B b db) (hs : starEach [a, b] X.env = [(false, eval a X.env), (false, eval b X.env)] := by rfl) (hs2 : starEach [b] X.env = [(false, eval b X.env)] := by rfl)
    (hs' : starEach (a :: [b]) X.env = (false, eval a X.env) :: starEach [b] X.env := by rfl) (hs3 : starEach (b :: []) X.env = (false, eval b X.env) :: starEach [] X.env := by rfl) : QI X B tg (.Call (.Name "range" p) [a, b] [] pos) (iRngL da db) := PI.imp (pi_rangeA hg hm (pa_cons ha (pa_cons hb pa_nil hs3) hs') hs hs2) fun σ H R ⟨F, pa, t, env, P, C, h, k⟩ =>
  ⟨F, pa, t, env, _, C, h, fun v d F' pa' t' H' g C' r q => ⟨F', pa', t', env, _, C', q, fun u y F2 pa2 t2 H2 g2 C2 r2 q2 => by
    cases d with
    | int m =>
      cases y with
      | int n => exact ⟨m, n, by rw [(r.mono g2).int C2, r2.int C2], k _ _ F2 pa2 t2 H2 (g.trans g2) C2 (it_rng m (n - m).toNat) q2⟩
      | _ => exact q2.elim
    | _ => exact q2.elim⟩⟩
end
end Q

/-! QH26 -/
/-! ### defs that ask what is being shown (repr): the guards are known there -/
namespace Q
open PySem L2 PyProof.Rows PySem.Spec
/-- room, and nothing is being shown -/
structure RoomG (k : Nat) (A : Around) : Prop where
  room : Room k A
  idle : A.guards = some []
theorem RoomG.mono {j k : Nat} {A : Around} (r : RoomG k A) (h : j ≤ k) : RoomG j A := ⟨r.room.mono h, r.idle⟩
structure FnOkG (P : Program) (w : World) (K : PySem.W.Frag) (mg : Str → Option Value) (base : Heap) (CX : CXT) (k : Nat) (f : Addr) (fd : FuncData) (ps : List Str) (sp : Sp) : Prop where
  len : ∀ vs H Q E, sp vs H Q E → vs.length = ps.length
  goes : ∀ (A : Around), RoomG k A → ∀ (outer : List PySem.Env) (s : Shared) (H : Hp), Env0 P w K mg base A outer s H → ∀ (args : Args) (us : List Value) (vs : List V), Vals vs us → BindsTo s fd args (ps.zip us) →
    ∀ (R : VK) (E : XK), sp vs H R E → codeAny (model P w) A (.call (.ref f) args) (CR CX outer P w H s R E) s
section
variable {P : Program} {w : World} {K : PySem.W.Frag} {mg : Str → Option Value} {base : Heap} {CX : CXT} {k : Nat} {f : Addr} {fd : FuncData} {ps : List Str} {sp : Sp}
theorem FnOkG.of (F : FnOk P w K mg base CX k f fd ps sp) : FnOkG P w K mg base CX k f fd ps sp where
  len := F.len
  goes A r outer s H e args us vs rel b R E h := F.run A outer s H args us vs R E r.room e b rel h
end
section
variable {X : Cx} {CX : CXT} {k : Nat} {f : Addr} {fd : FuncData} {ps : List Str} {sp : Sp} {E : XK} {ds : List Value} {dvs : List V} {x : Str} {p pos : Pos} {e : Expr} {es : List Expr} {t : TA}
/-- the call itself, all evaluated -/
theorem FnOkG.call (F : FnOkG X.prog X.w X.K X.mg X.base CX k f fd ps sp) (r : RoomG k X.A) (b : Binds X.K fd ps ds) (d : Vals dvs ds) (px : Passes CX X E) {pins : List (Addr × Obj)} {σ : L2.St} {H : Hp} {s : Shared} {R : VK} {us : List Value} {vs : List V}
    (I : Inv X pins σ H s) (rv : Vals vs us) (h : sp (vs ++ dvs) H R E) : wpAny (model X.prog X.w) X.A (call (.ref f) us) (EP X pins σ R) X.xe s :=
  have rall : Vals (vs ++ dvs) (us ++ ds) := rv.append d
  have bs := b s us I.kIn (by have := F.len _ _ _ _ h; have e := rall.length; omega)
  wpAny_call (codeAny_mono (F.goes X.A r X.stack s H I.env0 ⟨us, []⟩ _ _ rall bs R E h) fun res s' q =>
    match res, q with
    | .ok (.ret _), q => I.after q
    | .ok .next, q => q.elim
    | .ok .brk, q => q.elim
    | .ok .cont, q => q.elim
    | .error ex, q => px pins σ H s ex s' I q)
theorem FnOkG.pe (F : FnOkG X.prog X.w X.K X.mg X.base CX k f fd ps sp) (r : RoomG k X.A) (gl : Gl X x) (gm : X.mg x = some (.ref f)) (kp : PySem.W.keepIn X.K (.ref f) = true) (b : Binds X.K fd ps ds) (d : Vals dvs ds) (px : Passes CX X E)
    (ha : PA X (e :: es) t) (nd : (x == ("__debug__" : Str)) = false) (st : starEach (e :: es) X.env = (false, eval e X.env) :: starEach es X.env) (pl : (backTo pos (starEach es X.env)).any (·.1) = false) :
    PE X (.Call (.Name x p) (e :: es) [] pos) (tCall sp dvs E t) where
  run pins s σ H R I h := wpAny_Call_Name_kw (ld_glob I gl gm (PySem.W.callWith_K (h₀ := X.base) I.ok.mod.kin kp
    (thn (ha.run pos pins s σ H _ I h) fun us s1 q => by
      obtain ⟨vs, H1, J, rv, q⟩ := q
      exact ⟨J.kIn, F.call r b d px J rv q⟩) st pl) nd)
end
section
variable {P : Program} {w : World} {K : PySem.W.Frag} {mg : Str → Option Value} {base : Heap}
/-- where a parameter's value goes -/
theorem par_kind {N ps : List Str} {scope : Scope} (S : FnScope N ps scope) (us : List Value) (n : Nat) : ∀ y ∈ ps.zip us, scope.names.lookup y.1 = some .local ∨ (scope.names.lookup y.1 = some .cell ∧ ((cellsFrom n scope.names []).lookup y.1).isSome = true) := by
  intro y hy
  have hp := S.par y.1 (List.of_mem_zip (a := y.1) (b := y.2) hy).1
  exact hp.imp id fun c => ⟨c, PySem.W.cellsFrom_some _ _ _ (.inl c)⟩
theorem Fun.okG {x qual : Str} {st : Stmt} {f : Addr} {fd : FuncData} {N ps : List Str} {k : Nat} {sp : Sp} (Fu : Fun K x qual st f fd) (S : FnScope N ps (defScope st)) (len : ∀ vs H R E, sp vs H R E → vs.length = ps.length)
    (hbody : ∀ (cdv : Value) (A : Around) (outer : List PySem.Env) (s : Shared) (H : Hp) (vs : List V) (R : VK) (E : XK), RoomG k (A.deeper (envOfC qual (defScope st) s.heap.objs.size f cdv)) → sp vs H R E →
      ∃ t, PSs (cxOf CX0 P w K mg base N qual (defScope st) f cdv A outer s H E).nox (defBody st) t ∧ t { nx := fun _ H' => R .non H', rt := R } (start N vs) H) : FnOkG P w K mg base CX0 (k + 1) f fd ps sp where
  len := len
  goes A r outer s H e args us vs rel b R E h := by
    obtain ⟨oc, od, kV, doc, pm, an, cdv, ct, osl, rfl, lk, hcd⟩ := Fu.ex
    obtain ⟨t, ht, hq⟩ := hbody cdv A outer s H vs R E ⟨r.room.deeper _, r.idle⟩ h
    have there : ∀ c o, base.get? c = some o → s.heap.get? c = some o := fun c o g => (e.bs c o g).1
    have inK := e.mod.kin.keeps there
    have noL := e.mod.nolimit.keeps there
    refine codeAny_call_function r.room.depth (inK f _ lk) rfl S.co S.gen rfl (PySem.W.codeRec_of inK hcd) (b _ _ _ _ ?_)
    refine wpAny_newFunctionEnv_cells S.kind (par_kind S us _) ?_
    rintro env rfl s1 made
    refine ⟨noL.keeps made.toInCall.keep, codeAny_func ?_⟩
    have go := ht.nox.run [] s1 (start N vs) H _ (inv_start S (r.room.deeper (envOfC qual (defScope st) s.heap.objs.size f cdv)).hd e (len _ _ _ _ h) rel made) hq
    refine wpAny_mono go ?_ fun _ _ z => z
    rintro (_ | _ | _ | u) s' z
    · obtain ⟨σ', H', J, q⟩ := z
      exact ⟨.non, H', J.os, J.bare, J.base, J.hok, rfl, q⟩
    · obtain ⟨_, _, _, q⟩ := z
      exact q.elim
    · obtain ⟨_, _, _, q⟩ := z
      exact q.elim
    · obtain ⟨v, σ', H', J, rv, q⟩ := z
      exact ⟨v, H', J.os, J.bare, J.base, J.hok, rv, q⟩
/-! ### the law's call -/
/-- what is tracked there: the script, where the written part doesn't hold it -/
def scrH (K : PySem.W.Frag) (a : Addr) (o : Obj) (ns : List Int) : Hp := fun b => if b = a ∧ K.lookup a = none then some (.frz o (.lst (ns.map V.int))) else none
theorem scrH_inv {K : PySem.W.Frag} {a b : Addr} {o : Obj} {ns : List Int} {u : HO} (h : scrH K a o ns b = some u) : b = a ∧ K.lookup a = none ∧ u = .frz o (.lst (ns.map V.int)) := by
  unfold scrH at h
  split at h
  · rename_i c; cases h; exact ⟨c.1, c.2, rfl⟩
  · cases h
theorem scrH_only (K : PySem.W.Frag) (a : Addr) (o : Obj) (ns : List Int) : Only (scrH K a o ns) := fun b => by
  cases q : scrH K a o ns b with
  | none => exact .inl rfl
  | some u => exact .inr ⟨o, _, congrArg some (scrH_inv q).2.2⟩
theorem scrH_none {K : PySem.W.Frag} {a b : Addr} {o : Obj} {ns : List Int} (h : b = a → K.lookup a ≠ none) : scrH K a o ns b = none := if_neg fun c => h c.1 c.2
/-- the script as the model lays it -/
abbrev scrO (vs : List Value) : Obj := { cls := .type "list", data := .seq vs.toArray }
theorem law_callG {mb : Str → Option Value} {k : Nat} {fa a : Addr} {fd : FuncData} {x : Str} {s : Shared} {vs : List Value} {ns : List Int} {sp : Sp} (room : RoomG k callerA)
    (inK : K.In s.heap) (hG : s.heap.Ns mainGlobals mg) (hB : s.heap.Ns builtinsNs mb) (boot : ∀ y : Str, y ≠ "__name__" → mb y = bootBuiltins y) (noL : s.heap.NoLimit) (gens : s.gens = #[])
    (at_ : s.heap.get? a = some (scrO vs)) (iv : IntsAre vs ns) (small : ns.length ≤ sizeLine)
    (F : ∀ base : Heap, K.In base → base.Ns mainGlobals mg → FnOkG P w K mg base CX0 k fa fd [x] sp) (bind : ∀ (s : Shared) (u : Value), BindsTo s fd ⟨[u], []⟩ [(x, u)])
    (asks : ∀ H : Hp, Only H → SqL K H a (ns.map V.int) → sp [.ref a] H (fun v _ => v = .bl true) E0) :
    codeAny (model P w) callerA (.call (.ref fa) ⟨[.ref a], []⟩) (fun r s' => r = .ok (.ret (.bool true)) ∧ OldK s.heap s'.heap ∧ s'.os = s.os ∧ AllBare s'.gens) s := by
  have vals := vals_ints iv
  have vlen : vs.length = ns.length := by have := vals.length; simpa using this.symm
  let T := scrH K a (scrO vs) ns
  -- nothing but the script is tracked, so all else of the heap is the base's
  have clear : ∀ {b : Addr} {o : Obj}, s.heap.get? b = some o → (b = a → K.lookup a = none → False) → T b = none := fun {b o} _ n => scrH_none fun e z => n e z
  have keepNs : ∀ {b : Addr} {m : Str → Option Value}, s.heap.Ns b m → (hidT s.heap T).Ns b m := by
    rintro b m ⟨o, es, ep, g, d, rest⟩
    refine ⟨o, es, ep, hidT_get g (clear g fun e _ => ?_), d, rest⟩
    subst e
    have := at_.symm.trans g
    cases this
    cases d
  have baseK : K.In (hidT s.heap T) := fun b o l => hidT_get (inK b o l) (scrH_none fun e z => by subst e; rw [l] at z; cases z)
  have seq : SqL K T a (ns.map V.int) := by
    cases l : K.lookup a with
    | none => exact .inl (.inr ⟨scrO vs, if_pos ⟨rfl, l⟩⟩)
    | some o =>
      have := at_.symm.trans (inK a o l)
      cases this
      exact .inr ⟨_, vs.toArray, _, l, rfl, rfl, rfl, by simpa [vlen] using small, by simpa using vals⟩
  have objs : HOk P w T s.heap := fun b u h => by
    obtain ⟨rfl, _, rfl⟩ := scrH_inv h
    exact ⟨at_, by simpa using small, vs, _, vals, at_⟩
  obtain ⟨mc, nb, bb⟩ := noL
  have md : Mod K mg (hidT s.heap T) := { kin := baseK, glob := keepNs hG, blt := ⟨mb, keepNs hB, boot⟩, nolimit := ⟨mc, keepNs nb, bb⟩ }
  have env0 : Env0 P w K mg (hidT s.heap T) callerA [] s T :=
    { frames := rfl, mod := md, bs := fun _ _ g => of_hidT g, bsz := by rw [hidT_size]; exact Nat.le_refl _, funs := trivial, frf := fun b z => (by cases z), hok := objs, bare := .of_eq gens }
  refine codeAny_mono ((F _ baseK (keepNs hG)).goes callerA room [] s T env0 ⟨[.ref a], []⟩ [.ref a] [.ref a] (.cons rfl .nil) (bind s (.ref a)) _ _ (asks T (scrH_only _ _ _ _) seq)) ?_
  rintro (ex | fl) s' h
  · exact h.elim
  · cases fl with
    | ret u =>
      obtain ⟨v, H', os, bare, un, ok', rv, q⟩ := h
      have q : v = .bl true := q
      subst q
      have rv : u = Value.bool true := rv
      subst rv
      refine ⟨rfl, OldK.of_keep fun b o g => ?_, os, bare⟩
      cases q : T b with
      | none => exact un.keep b o g q (fun z => by cases z) (fun z => by cases z)
      | some u =>
        obtain ⟨rfl, _, rfl⟩ := scrH_inv q
        have g2 := (ok' b _ (un.frzs b _ _ q)).1
        have := at_.symm.trans g
        cases this
        exact g2
    | next => exact h.elim
    | brk => exact h.elim
    | cont => exact h.elim
end
open PySem.Spec in
theorem walk_ofG {l : PySem.W.OpenLaw} {n k : Nat} {q : Program} {loose : List Str} {XP : (Str → Option Value) → Heap → Prop} {YP : World → Heap → Prop} {d : DefRec} {K : Params → PySem.W.Frag} {sp : PySem.W.Frag → Sp} {x : Str}
    (hn : l.most = some n) (fits : n ≤ sizeLine) (hdf : d.params.defaults = []) (room : RoomG k callerA) (hY : ∀ (w : World) (h : Heap), YP w h → (K w.params).In h)
    (F : ∀ (w : World) (mg : Str → Option Value) (fa : Addr) (h : Heap), (K w.params).In h → h.Ns mainGlobals mg → mg d.name = some (.ref fa) →
      ∃ fd : FuncData, (∀ (s : Shared) (u : Value), BindsTo s fd ⟨[u], []⟩ [(x, u)]) ∧ ∀ base : Heap, (K w.params).In base → base.Ns mainGlobals mg → FnOkG l.prog w (K w.params) mg base CX0 k fa fd [x] (sp (K w.params)))
    (asks : ∀ (K : PySem.W.Frag) (H : Hp) (a : Addr) (ns : List Int), ns.length ≤ n → Only H → SqL K H a (ns.map V.int) → sp K [.ref a] H (fun v _ => v = .bl true) E0) :
    PySem.W.WalkO q loose XP YP l.row.toRowW d [] (fun f vs => PySem.call f vs) := by
  apply Att.attach_call hn hdf
  intro w s₀ s mg mb fa o pm cd doc a vs ns G Y _ _ _ at_fa at_a iv short gens
  have inK := hY w _ Y
  obtain ⟨fd, bind, ok⟩ := F w mg fa _ inK G.T.g at_fa
  exact law_callG room inK G.T.g G.T.b G.T.builtins G.T.nolimit gens at_a iv (Nat.le_trans short fits) ok bind fun H o1 o2 => asks _ H a ns short o1 o2
section
variable {P : Program} {w : World} {K : PySem.W.Frag} {mg : Str → Option Value} {base : Heap}
theorem fn_okG {x qual : Str} {st : Stmt} {f : Addr} {fd : FuncData} {N ps : List Str} {k : Nat} {sp : PSp} {ds : DS} (Fu : Fun K x qual st f fd) (S : FnScope N ps (defScope st)) (len : ∀ as t Q, sp as t Q → as.length = ps.length)
    (hbody : ∀ (cdv : Value) (A : Around) (outer : List PySem.Env) (s : Shared) (H : Hp) (E : XK) (B : Bs), RoomG k (A.deeper (envOfC qual (defScope st) s.heap.objs.size f cdv)) → B.Top → B.m = false →
      QSs (cxOf CX0 P w K mg base N qual (defScope st) f cdv A outer s H E).nox B (defBody st) ds)
    (hds : ∀ as t Q, sp as t Q → ds (endsOf Q) (start0 N as) t) : FnOkG P w K mg base CX0 (k + 1) f fd ps (lift K sp) := by
  refine Fun.okG Fu S (fun vs H Q E h => ?_) (fun cdv A outer s H vs Q E hr h => ?_)
  · obtain ⟨F, pa, t, as, R, C, r, q, _⟩ := h
    rw [r.len]; exact len as t R q
  · obtain ⟨F, pa, t, as, R, C, r, q, fin⟩ := h
    refine ⟨_, hbody cdv A outer s H E (B0 F pa H) hr (B0.top F pa H) rfl, F, pa, t, start0 N as, endsOf R, cf_start C r, hds as t R q, ⟨?_, ?_, ?_, ?_⟩⟩
    · intro F' pa' t' env σ H' g C' q'
      exact fin .non .non F' pa' t' H' C'.nil rD_non q'
    · intro v d F' pa' t' env σ H' g C' r' q'
      exact fin v d F' pa' t' H' C'.nil r' q'
    · intro F' pa' t' env σ H' g C' q'
      exact q'.elim
    · intro F' pa' t' env σ H' g C' q'
      exact q'.elim
theorem fn_lawG {x qual : Str} {st : Stmt} {f : Addr} {fd : FuncData} {N : List Str} {p : Str} {k i : Nat} {s0 : Stmt} {rest : List Stmt} {dp : DE} {ds : DS} (Fu : Fun K x qual st f fd) (S : FnScope N [p] (defScope st)) (hst : defBody st = s0 :: rest)
    (hfirst : ∀ (cdv : Value) (A : Around) (outer : List PySem.Env) (s : Shared) (H : Hp) (E : XK) (B : Bs), RoomG k (A.deeper (envOfC qual (defScope st) s.heap.objs.size f cdv)) →
      PS (cxOf CX0 P w K mg base N qual (defScope st) f cdv A outer s H E).nox s0 (tAsg (tnOf K B dp) (L2.gName i)))
    (hbody : ∀ (cdv : Value) (A : Around) (outer : List PySem.Env) (s : Shared) (H : Hp) (E : XK) (B : Bs), RoomG k (A.deeper (envOfC qual (defScope st) s.heap.objs.size f cdv)) → B.Top → B.m = false →
      QSs (cxOf CX0 P w K mg base N qual (defScope st) f cdv A outer s H E).nox B rest ds)
    (hi : i ≠ 0 ∧ i < N.length) (tape : Bool)
    (hds : ∀ ns : List Int, ns.length ≤ 63 → dp (start0 N [.scr ns]) ⟨[], 0, 0, false⟩ fun d _ => ∃ cs : List Int, d = .dic (if tape then [.inr "cells", .inr "turn", .inr "rest"] else [.inr "cells", .inr "at", .inr "left"]) [.lst (cs.map .int), .int 0, .int 0] ∧ cs.length ≤ 63 ∧
      ds (endsOf fun d _ => d = .bl true) ((start0 N [.scr ns]).set i (.val .pen)) ⟨cs, 0, 0, tape⟩) : FnOkG P w K mg base CX0 (k + 1) f fd [p] (spLaw K) := by
  refine Fun.okG Fu S (fun vs H Q E h => ?_) (fun cdv A outer s H vs Q E hr h => ?_)
  · obtain ⟨a, ns, rfl, _⟩ := h
    rfl
  · exact law_body hst (fun B => hfirst cdv A outer s H E B hr) (fun B => hbody cdv A outer s H E B hr) hi tape hds h
end
section
variable {X : Cx} {CX : CXT} {B : Bs} {k : Nat} {f : Addr} {fd : FuncData} {ps : List Str} {sp : PSp} {E : XK} {ds : List Value} {dvs : List V} {dds : List D} {x : Str} {p pos : Pos} {e : Expr} {es : List Expr} {as : DA}
theorem q_callG (F : FnOkG X.prog X.w X.K X.mg X.base CX k f fd ps (lift X.K sp)) (hr : RoomG k X.A) (hg : Gl X x) (hm : X.mg x = some (.ref f)) (hk : PySem.W.keepIn X.K (.ref f) = true) (hb : Binds X.K fd ps ds) (hd : Vals dvs ds) (hD : ∀ F pa, RelL X.K F pa dds dvs) (hx : Passes CX X E)
    (ha : QA X B (e :: es) as) (hdb : (x == ("__debug__" : Str)) = false := by decide) (he : starEach (e :: es) X.env = (false, eval e X.env) :: starEach es X.env := by rfl) (hpl : (backTo pos (starEach es X.env)).any (·.1) = false := by rfl) :
    QE X B (.Call (.Name x p) (e :: es) [] pos) (dCall sp dds as) := PE.imp (F.pe hr hg hm hk hb hd hx ha hdb he hpl) (ev_call hD)
/-! ### repr -/
def rReprD (K : PySem.W.Frag) : List V → Hp → VK → Prop := fun xs H Q => ∃ v d, xs = [v] ∧ Dp K H v d ∧ d.showable = true ∧ d.hasDict = false ∧ d.depth ≤ 60 ∧ d.shown.length ≤ sizeLine ∧ Q (.str d.shown) H
theorem call_reprD (hg : X.A.guards = some []) (hu : X.A.units + 64 < cLine) : CallR X (.builtin "repr") (rReprD X.K) := by
  intro pins s σ H xs us Q I r h
  obtain ⟨v, d, rfl, hv, hs, hd, dd, hz, q⟩ := h
  obtain ⟨u, rfl, ru⟩ := vals1 r
  obtain ⟨rs, reads⟩ := Dp.reads I d v u hv ru
  have fin : ∀ {a : Addr}, u = .ref a → wpAny (model X.prog X.w) X.A (PySem.call (.builtin "repr") [u]) (EP X pins σ Q) X.xe s := fun {a} e => by
    subst e
    exact repr_of_reads' reads hs (PyData.noDict_hsm hd) hg (by omega) (fun _ _ z => z) (fun h' u tk keep => ⟨.str d.shown, H, I.kept keep, ⟨u, rfl⟩, q⟩) hz
  cases hv with
  | non =>
    obtain rfl : u = Value.none := ru
    exact PySem.P.repr_of_none ⟨.str _, H, I.tok _, ⟨_, rfl⟩, q⟩
  | bl b =>
    obtain rfl : u = Value.bool b := ru
    cases b
    · exact PySem.P.repr_of_bool ⟨.str _, H, I.tok _, ⟨_, rfl⟩, q⟩
    · exact PySem.P.repr_of_bool ⟨.str _, H, I.tok _, ⟨_, rfl⟩, q⟩
  | int i =>
    obtain ⟨t, rfl⟩ := ru
    exact PySem.P.repr_of_int (by simpa [PyData.showable] using hs) ⟨.str _, H, I.tok _, ⟨_, rfl⟩, q⟩
  | str x =>
    obtain ⟨t, rfl⟩ := ru
    exact PySem.P.repr_of_str ⟨.str _, H, I.tok _, ⟨_, rfl⟩, q⟩ hz
  | lst h1 h2 => exact fin ru
  | tup h1 h2 => exact fin ru
mutual
theorem rs_show : ∀ d : D, plain d = true → rsOk d → (toPy d).showable = true
  | .non, _, _ => rfl
  | .bl _, _, _ => rfl
  | .int i, _, h => by
    have h : i.natAbs < 2 ^ 1900 := h
    show decide (i.natAbs.log2 < 1920) = true
    rw [decide_eq_true_eq]
    exact log2_small (Nat.lt_trans h (Nat.pow_lt_pow_right (by decide) (by decide)))
  | .str _, _, _ => rfl
  | .lst l, p, h => by simp only [toPy, PyData.showable]; exact rss_show l (by simpa [plain] using p) (by simpa [rsOk] using h)
  | .tup l, p, h => by simp only [toPy, PyData.showable]; exact rss_show l (by simpa [plain] using p) (by simpa [rsOk] using h)
  | .dic _ _, p, _ => by simp [plain] at p
  | .ins _ _ _, p, _ => by simp [plain] at p
  | .pen, p, _ => by simp [plain] at p
  | .ty _, p, _ => by simp [plain] at p
  | .adr _, p, _ => by simp [plain] at p
  | .scr _, p, _ => by simp [plain] at p
  | .rp _, p, _ => by simp [plain] at p
theorem rss_show : ∀ l : List D, plains l = true → rssOk l → PyData.showableAll (toPys l) = true
  | [], _, _ => rfl
  | d :: l, p, h => by
    simp only [plains, Bool.and_eq_true] at p
    simp only [rssOk] at h
    simp only [toPys, PyData.showableAll, Bool.and_eq_true]
    exact ⟨rs_show d p.1 h.1, rss_show l p.2 h.2⟩
end
theorem shown_lens : ∀ l : List D, (∀ d ∈ l, (toPy d).shown.length ≤ rsz d) → ((PyData.shownAll (toPys l)).map (·.length)).sum + 2 * (PyData.shownAll (toPys l)).length ≤ rszs l
  | [], _ => by simp [toPys, PyData.shownAll, rszs]
  | d :: l, h => by
    have h1 := h d List.mem_cons_self
    have h2 := shown_lens l fun e he => h e (List.mem_cons_of_mem _ he)
    simp only [toPys, PyData.shownAll, List.map_cons, List.sum_cons, List.length_cons, rszs]
    omega
mutual
theorem rs_len : ∀ d : D, plain d = true → rsOk d → (toPy d).shown.length ≤ rsz d
  | .non, _, _ => by simp only [toPy, PyData.shown, rsz]; decide
  | .bl b, _, _ => by cases b <;> simp only [toPy, PyData.shown, rsz] <;> decide
  | .int i, p, h => by
    have hs : decide (i.natAbs.log2 < 1920) = true := rs_show (.int i) p h
    exact int_text_len_1921 (of_decide_eq_true hs)
  | .str x, p, _ => by
    have hp : x.cps.all (· < 0x110000) = true := p
    have := StrLaws.reprText_len x fun c hc => by
      rw [Array.all_eq_true_iff_forall_mem] at hp
      have := hp c (Array.mem_toList_iff.mp hc)
      have h2 : c < 0x110000 := of_decide_eq_true this
      exact Nat.lt_trans h2 (by decide)
    show (reprText x).length ≤ 10 * x.length + 5
    omega
  | .lst l, p, h => by
    have := shown_lens l (rss_len l (by simpa [plain] using p) (by simpa [rsOk] using h))
    have h2 := listText_len_le (PyData.shownAll (toPys l))
    simp only [toPy, PyData.shown, rsz]
    omega
  | .tup l, p, h => by
    have := shown_lens l (rss_len l (by simpa [plain] using p) (by simpa [rsOk] using h))
    have h2 := tupleText_len_le (PyData.shownAll (toPys l))
    simp only [toPy, PyData.shown, rsz]
    omega
  | .dic _ _, p, _ => by simp [plain] at p
  | .ins _ _ _, p, _ => by simp [plain] at p
  | .pen, p, _ => by simp [plain] at p
  | .ty _, p, _ => by simp [plain] at p
  | .adr _, p, _ => by simp [plain] at p
  | .scr _, p, _ => by simp [plain] at p
  | .rp _, p, _ => by simp [plain] at p
theorem rss_len : ∀ l : List D, plains l = true → rssOk l → ∀ d ∈ l, (toPy d).shown.length ≤ rsz d
  | [], _, _ => fun d hd => by cases hd
  | e :: l, p, h => fun d hd => by
    simp only [plains, Bool.and_eq_true] at p
    simp only [rssOk] at h
    rcases List.mem_cons.mp hd with z | hd
    · rw [z]; exact rs_len e p.1 h.1
    · exact rss_len l p.2 h.2 d hd
end
theorem rc_repr {K : PySem.W.Frag} : RCall K (rReprD K) bRepr := fun B F pa t env σ H xs vs P Q W r h k => by
  unfold bRepr at h
  split at h
  · rename_i x
    obtain ⟨⟨h1, h2, h3, h4⟩, h⟩ := h
    obtain ⟨v, rfl, r1⟩ := r.one
    have dp := dp_x W r1 h1
    refine ⟨v, toPy x, rfl, dp, rs_show x h1 h3, PyData.hasDict_of_canLay _ (lay_toPy x h1), by rw [dep_toPy x h1]; exact h2, Nat.le_trans (rs_len x h1 h3) (Nat.le_trans h4 (by decide)), ?_⟩
    exact k (.str (toPy x).shown) (.rp x) F H (Gr.refl _ _) W (by unfold RelD; rfl) h
  · exact h.elim
theorem RelX.rp {K : PySem.W.Frag} {F : Hp} {pa : Option Addr} {t : Ts} {env : En} {σ : L2.St} {H : Hp} {i : D} {v : V} (W : Cf K B F pa t env σ H) (r : RelX K F pa env σ (.rp i) v) : v = .str (toPy i).shown := by
  rcases r with r | ⟨i, h1, h2⟩
  · unfold RelD at r; exact r
  · obtain ⟨a, h, s1, q, z, _⟩ := W.own _ _ h1; exact z.elim
theorem rop_eqR {K : PySem.W.Frag} : ROp K rEq oEqR := fun B F pa t env σ H x y v u P Q W rx ry h k => by
  cases x with
  | rp a =>
    cases y with
    | rp b =>
      have e1 := RelX.rp W rx
      have e2 := RelX.rp W ry
      subst e1 e2
      refine ⟨rfl, k _ (.bl (decide ((V.str (toPy a).shown) = V.str (toPy b).shown))) F H (Gr.refl _ _) W (rD_bl _) (h _ fun e => ?_)⟩
      subst e; simp
    | _ => exact h.elim
  | _ => exact h.elim
theorem rop_neR {K : PySem.W.Frag} : ROp K rNe oNeR := fun B F pa t env σ H x y v u P Q W rx ry h k => by
  cases x with
  | rp a =>
    cases y with
    | rp b =>
      have e1 := RelX.rp W rx
      have e2 := RelX.rp W ry
      subst e1 e2
      refine ⟨rfl, k _ (.bl (!decide ((V.str (toPy a).shown) = V.str (toPy b).shown))) F H (Gr.refl _ _) W (rD_bl _) (h _ fun e => ?_)⟩
      subst e; simp
    | _ => exact h.elim
  | _ => exact h.elim
end
end Q

/-! QH27 -/
namespace Q
open PySem L2 PyProof.Rows
section
variable {X : Cx} {B : Bs} {K : PySem.W.Frag} {a b c e : Expr} {es : List Expr} {pos : Pos} {da db dc : DE} {dt : DT}
/-- an item of a list by its place, of any sign -/
theorem get_own_list : PGet X (rIxL X.K) := by
  intro pins s σ H o i ov iv Q I r1 r2 h
  obtain ⟨p, xs, m, z, rfl, rfl, hq, he, q⟩ := h
  cases r1
  obtain ⟨tk, rfl⟩ := r2
  obtain ⟨its, rv, pl, hz⟩ := I.list hq
  obtain ⟨j, h1, h2, h3, h4, h5⟩ := atI_get he
  obtain ⟨w, ew, rw'⟩ := rv.get h2
  have hl := rv.length
  have hn := line63
  by_cases h0 : 0 ≤ m
  · have hj : m.toNat = j := Option.some.inj ((seqIndex_of h0 h5).symm.trans h1)
    exact wpAny_getItem_list pl.isList (by omega) (by omega) (by rw [hj]; simpa using ew) ⟨z, H, I, rw', q⟩
  · have hj : (m + (its.toArray.size : Int)).toNat = j := by
      have := Option.some.inj ((seqIndex_neg (by omega) h4).symm.trans h1)
      rw [List.size_toArray, ← hl]
      exact this
    exact wpAny_getItem_list_neg pl.isList (by omega) (by rw [List.size_toArray] <;> omega) (by omega) (by rw [hj]; simpa using ew) ⟨z, H, I, rw', q⟩
/-- x[k] op= e, x the name's own list -/
theorem q_augS {i : Nat} {x : Str} {xp tp : Pos} {k : Expr} {dk : DE} {op : Operator} {r : R2} {o : DOp} (hp : PE X (.Name x xp) (tVar i)) (hk : QE X B k dk) (he : QE X B e da) (ho : OpR X (inplaceOp op) r) (hr : ROp X.K r o)
    (ha : ∀ ov iv new, augStore k ov iv new = (do holding [new, ov, iv] (setItem ov iv new); release [new, ov, iv] []; pure .next) := by intros; rfl) : QS X B (.AugAssign (.Subscript (.Name x xp) k tp) op e pos) (dAugS i dk o da) :=
  PS.imp (ps_augS hp hk get_own_list he (fun pins s σ H x y v u Q I r1 r2 h => ho pins s σ H x y v u Q I r1 r2 h) set_list ha) fun De σ H ⟨F, pa, t, env, DD, C, h, R⟩ => by
    obtain ⟨l, hi, h⟩ := get_own h
    obtain ⟨p, vs, s1, e1, r1⟩ := own_lst C hi
    refine ⟨.ref p, s1, F, pa, t, env, _, C, h, fun v z F1 pa1 t1 H1 g1 C1 rz q1 => ?_⟩
    cases z with
    | int m =>
      obtain ⟨j, d, hj, hd, q1⟩ := q1
      obtain ⟨p', us, s2, e2, r2⟩ := own_lst C1 hi
      rw [s1] at s2; cases s2
      obtain rfl : v = .int m := by unfold RelD at rz; exact rz
      obtain ⟨w, hw, rw'⟩ := r2.get hd
      have hj2 : L2.ixN us.length m = some j := by rw [ixN_eq, r2.len]; exact hj
      refine ⟨p, us, m, w, rfl, rfl, SqL.of e2, ?_, ?_⟩
      · unfold L2.atI; rw [hj2]; exact hw
      · refine ⟨F1, pa1, t1, env, _, C1, q1, fun u y F2 pa2 t2 H2 g2 C2 ry q2 => ?_⟩
        refine hr B F2 pa2 t2 env σ H2 d y w u _ _ C2 (.inl (RelD.mono g2 d w rw')) (.inl ry) q2 fun n z' F3 H3 g3 C3 r3 q3 => ?_
        obtain ⟨p3, us3, s3, e3, r4⟩ := own_lst C3 hi
        rw [s1] at s3; cases s3
        refine ⟨p, us3, m, j, rfl, rfl, e3, by rw [ixN_eq, r4.len]; exact hj, ?_⟩
        exact R.nx F3 pa2 t2 _ σ _ ((g1.trans g2).trans g3) (C3.wrO (d' := .lst (l.set j z')) hi s1 ⟨_, rfl, r4.set j r3⟩) q3
    | _ => exact q1.elim
/-- a, b = a list -/
theorem q_gtupL {k : Nat} {n : Nat} {vs : List Nat} {gs : DGs} (hc : X.calm = true) (h : QGs X B vs es gs) (hn : (assignEach es X.env).length = n := by rfl) (hst : (assignEach es X.env).findIdx? (·.1) = none := by rfl) : QG X B vs (.Tuple es k pos) (Q.gTupL n gs) := PG.imp (pg_unl hc h hn hst) fun v σ H Q ⟨F, pa, t, env, d, P, C, r, hd, k⟩ => by
  cases d with
  | lst l =>
    obtain ⟨hl, hd⟩ := hd
    have r' := r
    unfold RelD at r'
    obtain ⟨a, us, rfl, e, q⟩ := r'
    exact ⟨a, us, rfl, SqL.of (C.sub _ _ e), by rw [q.len]; exact hl, F, pa, t, env, l, P, C, q, hd, k⟩
  | _ => exact hd.elim
end
end Q

/-! QD2 -/
/-! Q, the data level, more of it. -/
namespace Q
open PySem
/-- x == y, instances of the class at C, by its own __eq__ -/
def dEqH (C : Addr) (sp : PSp) (a b : DE) : DE := fun env t P => a env t fun x t1 => b env t1 fun y t2 => match x, y with
  | .ins C1 ns l, .ins C2 ms k => C1 = C ∧ C2 = C ∧ sp [.ins C1 ns l, .ins C2 ms k] t2 P
  | _, _ => False
/-- isinstance(x, C), x an instance of C -/
def bIsC (C : Addr) : DB := fun xs P => match xs with
  | [.ins C1 _ _, .adr A] => C1 = C ∧ A = C ∧ P (.bl true)
  | _ => False
/-- enumerate(zip(a, b)) -/
def iEnZip (a b : DE) : DI := fun env t P => a env t fun x t1 => b env t1 fun y t2 => match x, y with
  | .lst l, .lst m => P (enumL 0 (zipD l m)) t2
  | _, _ => False
/-- l[a:b], a list: the new list -/
def dSliceN (a : DE) (lo hi : DO) : DE := fun env t P => a env t fun x t1 => lo env t1 fun l t2 => hi env t2 fun h t3 => match x with
  | .lst xs => P (.lst (cutD xs l h)) t3
  | _ => False
end Q

/-! QH28 -/
namespace Q
open PySem L2 PyProof.Rows
section
variable {X : Cx} {CX : CXT} {B : Bs} {K : PySem.W.Frag} {k : Nat} {f C : Addr} {fd : FuncData} {ps : List Str} {E : XK} {a b : Expr} {da db : DE} {pos : Pos}
/-- x == y, by the class's own def -/
def rEqI (C : Addr) (sp : Sp) (E : XK) : R2 := fun x y H Q => ∃ a b dx dy fs gs, x = V.ref a ∧ y = V.ref b ∧ H a = some (HO.ins C dx fs) ∧ H b = some (HO.ins C dy gs) ∧ sp [x, y] H Q E
theorem op_eqI {sp : Sp} (F : FnOk X.prog X.w X.K X.mg X.base CX k f fd ps sp) (hr : Room k X.A) (m : Meth X.K C "__eq__" f) (hb : Binds X.K fd ps []) (hx : Passes CX X E) : OpR X (compareOp .Eq) (rEqI C sp E) := by
  intro pins s σ H x y v u Q I rx ry h
  obtain ⟨p, q, dx, dy, fs, gs, rfl, rfl, h1, h2, h⟩ := h
  obtain rfl : v = Value.ref p := rx
  obtain rfl : u = Value.ref q := ry
  obtain ⟨_, J1, _⟩ := ins_get I.hok h1
  obtain ⟨_, J2, _⟩ := ins_get I.hok h2
  obtain ⟨_, J1, _⟩ := J1.look
  obtain ⟨_, J2, _⟩ := J2.look
  obtain ⟨n, fr⟩ := I.fr
  have vs : Vals [V.ref p, V.ref q] [Value.ref p, Value.ref q] := .cons rfl (.cons rfl .nil)
  have go := run_fn (ds := []) (dvs := []) F hr hb .nil hx I vs h
  show wpAny _ _ (richCompare .Eq (Value.ref p) (Value.ref q)) _ _ s
  refine PySem.W.cmp_K (op := .Eq) (tb := .ref C) hr.units0 fr I.ok.mod.kin J1 J2.type (by unfold PySem.W.notFirst; simp) m.at_ m.fn (wpAny_mono go (fun r s' z => ?_) fun _ _ z => z)
  obtain ⟨z', H', I', rz, qz⟩ := z
  exact SlX.cmpback rz ⟨z', H', I', rz, qz⟩
theorem ev_eqH {sp : PSp} : ∀ σ H Q, teOf X.K B (dEqH C sp da db) σ H Q → tOp (rEqI C (lift X.K sp) E) (teOf X.K B da) (teOf X.K B db) σ H Q := fun σ H Q ⟨F, pa, t, env, P, W, hd, k⟩ =>
    ⟨F, pa, t, env, _, W, hd, fun v x F1 pa1 t1 H1 g1 W1 r1 q1 => ⟨F1, pa1, t1, env, _, W1, q1, fun u y F2 pa2 t2 H2 g2 W2 r2 q2 => by
      cases x with
      | ins C1 ns l =>
        cases y with
        | ins C2 ms l2 =>
          obtain ⟨rfl, e2, q2⟩ := q2
          subst e2
          have r1' := RelD.mono g2 _ _ r1
          have r1c := r1'
          have r2c := r2
          unfold RelD at r1c r2c
          obtain ⟨p, dx, us, rfl, e1, n1, l1⟩ := r1c
          obtain ⟨p', dy, us', rfl, e1', n1', l1'⟩ := r2c
          refine ⟨p, p', dx, dy, _, _, rfl, rfl, W2.sub _ _ e1, W2.sub _ _ e1', F2, pa2, t2, [.ins _ ns l, .ins _ ms l2], P, W2.call, RelL.cons r1' (RelL.cons r2 RelL.nil), q2, fun v d F' pa' t' H' W' r' q' => ?_⟩
          obtain ⟨g, W3⟩ := W2.after W'
          exact k v d F' pa' t' H' ((g1.trans g2).trans g) W3 r' q'
        | _ => exact q2.elim
      | _ => exact q2.elim⟩⟩
theorem q_eqH {sp : PSp} (F : FnOk X.prog X.w X.K X.mg X.base CX k f fd ps (lift X.K sp)) (hr : Room k X.A) (m : Meth X.K C "__eq__" f) (hb : Binds X.K fd ps []) (hx : Passes CX X E) (ha : QE X B a da) (hb' : QE X B b db) (hm : behindInMarks .Eq b = false) : QE X B (.Compare a [.Eq] [b] pos) (dEqH C sp da db) :=
  PE.imp (pe_cmpR (op_eqI (E := E) F hr m hb hx) ha hb' hm) ev_eqH
theorem q_teqH {sp : PSp} (F : FnOk X.prog X.w X.K X.mg X.base CX k f fd ps (lift X.K sp)) (hr : Room k X.A) (m : Meth X.K C "__eq__" f) (hb : Binds X.K fd ps []) (hx : Passes CX X E) (ha : QE X B a da) (hb' : QE X B b db) (hm : behindInMarks .Eq b = false) : QT X B (.Compare a [.Eq] [b] pos) (dB (dEqH C sp da db)) :=
  PT.imp (pt_cmpR (op_eqI (E := E) F hr m hb hx) ha hb' hm) fun σ H Q ⟨F, pa, t, env, P, W, hd, k⟩ => by
    refine ev_eqH (E := E) σ H _ ⟨F, pa, t, env, _, W, hd, fun v d F' pa' t' H' g W' rd q => ?_⟩
    cases d with
    | bl b => unfold RelD at rd; exact ⟨b, rd, k b F' pa' t' H' g W' q⟩
    | _ => exact q.elim
theorem RelX.adr {F : Hp} {pa : Option Addr} {t : Ts} {env : En} {σ : L2.St} {H : Hp} {A : Addr} {v : V} (W : Cf K B F pa t env σ H) (r : RelX K F pa env σ (.adr A) v) : v = .ref A := by
  rcases r with r | ⟨i, z1, z2⟩
  · unfold RelD at r; exact r
  · obtain ⟨_, _, _, _, z, _⟩ := W.own _ _ z1; exact z.elim
/-- isinstance(x, C), x an instance of C -/
theorem rc_isC : RCall K (fun xs H Q => ∃ a dx fs, xs = [V.ref a, V.ref C] ∧ H a = some (HO.ins C dx fs) ∧ Q (.bl true) H) (bIsC C) := fun B F pa t env σ H xs vs P Q W r h k => by
  unfold bIsC at h
  split at h
  · rename_i C1 ns l A
    obtain ⟨rfl, rfl, h⟩ := h
    cases r with
    | cons r1 r2 =>
      cases r2 with
      | cons r2 r3 =>
        cases r3
        obtain ⟨a, dx, us, rfl, e, _⟩ := RelX.ins W r1
        obtain rfl := RelX.adr W r2
        exact ⟨a, dx, _, rfl, e, k _ _ F H (Gr.refl _ _) W (rD_bl _) h⟩
  · exact h.elim
theorem q_adr {x : Str} {p : Pos} (hg : Gl X x) (hm : X.mg x = some (.ref C)) (hdb : (x == ("__debug__" : Str)) = false := by decide) : QE X B (.Name x p) (dC (.adr C)) := q_c (pe_glob (v := .ref C) hg hm rfl hdb) fun _ _ => by unfold RelD; rfl
theorem q_sliceN {lo hi : Option Expr} {dl dh : DO} {p2 : Pos} (ha : QV X B a da) (hl : QO X B lo dl) (hh : QO X B hi dh) : QN X B (.Subscript a (.Slice lo hi none p2) pos) (dSliceN da dl dh) := PE.imp (pe_slice sl2 ha hl hh) fun σ H Q ⟨F, pa, t, env, P, C, hd, k⟩ =>
  ⟨F, pa, t, env, _, C, hd, fun v x F1 pa1 t1 H1 g1 C1 r1 q1 => ⟨F1, pa1, t1, env, _, C1, q1, fun l F2 pa2 t2 H2 g2 C2 q2 => ⟨F2, pa2, t2, env, _, C2, q2, fun h F3 pa3 t3 H3 g3 C3 q3 => by
    have r3 := (r1.mono g2).mono g3
    cases x with
    | lst xs =>
      obtain ⟨a, us, rfl, e, q⟩ := r3.lst C3
      exact .inl ⟨a, us, rfl, SqL.of e, fun p hp => k p _ (.lst _) F3 pa3 t3 _ ((g1.trans g2).trans g3) (C3.loose _ hp) (C3.nw hp) upd_same ⟨_, rfl, cut_rel q l h⟩ q3⟩
    | _ => exact q3.elim⟩⟩⟩
end
end Q

/-! QD3 -/
/-! Q, the data level, still more. -/
namespace Q
open PySem
/-- a text in a tuple of texts -/
def oInT : DOp := fun x y P => match x, y with
  | .str x, .tup l => ∃ ss : List Str, l = ss.map .str ∧ P (.bl (ss.any fun z => z == x))
  | _, _ => False
end Q

/-! QH29 -/
namespace Q
open PySem L2 PyProof.Rows
section
variable {X : Cx} {B : Bs} {K : PySem.W.Frag}
theorem relL_strs {F : Hp} {pa : Option Addr} : ∀ {ss : List Str} {vs : List V}, RelL K F pa (ss.map .str) vs → vs = ss.map V.str
  | [], vs, r => r.inv0
  | s :: ss, vs, r => by
    obtain ⟨v, vr, rfl, r1, r2⟩ := RelL.inv (show RelL K F pa (D.str s :: ss.map .str) vs from r)
    unfold RelD at r1
    rw [r1, relL_strs r2]; rfl
theorem flat_strs : ∀ ss : List Str, (ss.map V.str).all flatV = true
  | [] => rfl
  | s :: ss => by simp [flatV, flat_strs ss]
theorem inV_strs (x : Str) : ∀ ss : List Str, inV (.str x) (ss.map V.str) = ss.any fun z => z == x
  | [] => rfl
  | s :: ss => by
    have := inV_strs x ss
    unfold inV at this ⊢
    rw [List.map_cons, List.any_cons, List.any_cons, this]
    rfl
theorem rop_inT : ROp K (rIn K false) oInT := fun B F pa t env σ H x y v u P Q W rx ry h k => by
  cases x with
  | str x =>
    cases y with
    | tup l =>
      obtain ⟨ss, rfl, h⟩ := h
      obtain ⟨a, vs, rfl, e1, _, r1⟩ := ry.tup W
      rw [relL_strs r1] at e1
      obtain rfl := rx.str W
      refine ⟨a, _, rfl, .inr (SqT.of e1), rfl, flat_strs ss, ?_⟩
      refine k _ (.bl (ss.any fun z => z == x)) F H (Gr.refl _ _) W ?_ h
      rw [if_neg Bool.false_ne_true, inV_strs]
      exact rD_bl _
    | _ => exact h.elim
  | _ => exact h.elim
end
end Q

/-! MLib -/
namespace Q
open PySem
/-! ### data made of whole numbers -/
theorem plains_ints : ∀ a : List Int, plains (a.map .int) = true
  | [] => rfl
  | x :: a => by simp [plains, plain, plains_ints a]
theorem deeps_ints : ∀ a : List Int, deeps (a.map .int) = 0
  | [] => rfl
  | x :: a => by simp [deeps, deep, deeps_ints a]
theorem deqs_ints : ∀ a b : List Int, deqs (a.map .int) (b.map .int) = decide (a = b)
  | [], [] => rfl
  | [], _ :: _ => by simp [deqs]
  | _ :: _, [] => by simp [deqs]
  | x :: a, y :: b => by simp [deqs, deq, deqs_ints a b]
theorem deq_ints (a b : List Int) : deq (.lst (a.map .int)) (.lst (b.map .int)) = decide (a = b) := by simp [deq, deqs_ints]
theorem eqok_ints (a b : List Int) : plain (.lst (a.map .int)) = true ∧ plain (.lst (b.map .int)) = true ∧ deep (.lst (a.map .int)) ≤ 60 ∧ deep (.lst (b.map .int)) ≤ 60 := by
  simp [plain, plains_ints, deep, deeps_ints]
theorem deq_t {a b : List Int} (h : deq (.lst (a.map .int)) (.lst (b.map .int)) = true) : a = b := by rw [deq_ints] at h; exact of_decide_eq_true h
theorem deq_f {a b : List Int} (h : deq (.lst (a.map .int)) (.lst (b.map .int)) = false) : a ≠ b := by rw [deq_ints] at h; exact of_decide_eq_false h
theorem deqn_t {a b : List Int} (h : (!deq (.lst (a.map .int)) (.lst (b.map .int))) = true) : a ≠ b := by rw [deq_ints] at h; simpa using h
theorem deqn_f {a b : List Int} (h : (!deq (.lst (a.map .int)) (.lst (b.map .int))) = false) : a = b := by rw [deq_ints] at h; simpa using h
theorem ints_map : ∀ a : List Int, intsD (a.map .int) = some a
  | [] => rfl
  | x :: a => by simp [intsD, ints_map a]
theorem bls_map : ∀ a : List Bool, bls (a.map .bl) = some a
  | [] => rfl
  | x :: a => by simp [bls, bls_map a]
theorem atI_nat {xs : List D} {i : Int} {d : D} (h0 : 0 ≤ i) (h : xs[i.toNat]? = some d) : atI xs i = some d := by
  unfold atI
  have := (List.getElem?_eq_some_iff.mp h).1
  rw [if_pos h0, if_pos (by omega), h]
theorem atI_ints {xs : List Int} {i : Int} (h0 : 0 ≤ i) (h : i < xs.length) : atI (xs.map .int) i = some (.int (xs.getD i.toNat 0)) := by
  refine atI_nat h0 ?_
  have h' : i.toNat < xs.length := by omega
  rw [List.getElem?_map, List.getElem?_eq_getElem h']
  simp [List.getD_eq_getElem?_getD, List.getElem?_eq_getElem h']
theorem atI_ints0 {xs : List Int} (h : 0 < xs.length) : atI (xs.map .int) 0 = some (.int (xs.getD 0 0)) := atI_ints (i := 0) (by decide) (by omega)
/-! ### tests whose answer is known -/
theorem br_ne {c : Prop} [Decidable c] {p q : Prop} (h : c) (k : q) : Br (!decide c) p q := Br.mk (fun z => by simp [h] at z) fun _ => k
theorem br_eq {c : Prop} [Decidable c] {p q : Prop} (h : c) (k : p) : Br (decide c) p q := Br.mk (fun _ => k) fun z => absurd h (of_decide_eq_false z)
theorem br_nq {c : Prop} [Decidable c] {p q : Prop} (h : ¬ c) (k : q) : Br (decide c) p q := Br.mk (fun z => absurd (of_decide_eq_true z) h) fun _ => k
theorem br_nn {c : Prop} [Decidable c] {p q : Prop} (h : ¬ c) (k : p) : Br (!decide c) p q := Br.mk (fun _ => k) fun z => by simp [h] at z
theorem br_nl {a b : List Int} {p q : Prop} (h : a = b) (k : q) : Br (!deq (.lst (a.map .int)) (.lst (b.map .int))) p q := Br.mk (fun z => absurd h (deqn_t z)) fun _ => k
theorem br_el {a b : List Int} {p q : Prop} (h : a = b) (k : p) : Br (deq (.lst (a.map .int)) (.lst (b.map .int))) p q := Br.mk (fun _ => k) fun z => absurd h (deq_f z)
/-! ### sizes -/
theorem Sm.lit {b : Nat} {i : Int} (h : i.natAbs < 2 ^ b) : Sm b i := h
theorem Sm.mono {a b : Nat} {i : Int} (h : Sm a i) (hab : a ≤ b) : Sm b i := Nat.lt_of_lt_of_le h (Nat.pow_le_pow_right (by decide) hab)
theorem Sm.of {b : Nat} {i j : Int} (h0 : 0 ≤ i) (h : i ≤ j) (hj : Sm b j) : Sm b i := by unfold Sm at *; omega
theorem Sm.mul {a b : Nat} {i j : Int} (h : Sm a i) (k : Sm b j) : Sm (a + b) (i * j) := by
  unfold Sm at *
  rw [Int.natAbs_mul, Nat.pow_add]
  exact Nat.mul_lt_mul'' h k
theorem Sm.add {a : Nat} {i j : Int} (h : Sm a i) (k : Sm a j) : Sm (a + 1) (i + j) := by
  unfold Sm at *
  have := Nat.pow_succ 2 a
  omega
theorem Sm.sub {a : Nat} {i j : Int} (h : Sm a i) (k : Sm a j) : Sm (a + 1) (i - j) := by
  unfold Sm at *
  have := Nat.pow_succ 2 a
  omega
theorem sm64 {i : Int} (h0 : -1000000000000000000 ≤ i) (h1 : i ≤ 1000000000000000000) : Sm 64 i := by
  unfold Sm
  have : (2 : Nat) ^ 64 = 18446744073709551616 := by decide
  omega
theorem MulOk.l {i j : Int} (h0 : -1000000000000000000 ≤ i) (h1 : i ≤ 1000000000000000000) : MulOk i j := .inl (sm64 h0 h1)
theorem MulOk.r {i j : Int} (h0 : -1000000000000000000 ≤ j) (h1 : j ≤ 1000000000000000000) : MulOk i j := .inr (.inl (sm64 h0 h1))
theorem MulOk.w {i j : Int} {a b : Nat} (h1 : Sm a i) (h2 : Sm b j) (h3 : 0 < a) (h4 : 0 < b) (h5 : a + b ≤ 1000000) : MulOk i j := .inr (.inr ⟨a, b, h1, h2, h3, h4, h5⟩)
theorem DivOk.s {j : Int} (h0 : 0 < j) (h1 : j ≤ 1000000000000000000) : DivOk j := ⟨h0, (sm64 (by omega) h1).mono (by decide)⟩
theorem DivOk.w {j : Int} {b : Nat} (h0 : 0 < j) (h1 : Sm b j) (h2 : b ≤ 9000) : DivOk j := ⟨h0, h1.mono h2⟩
theorem PowOk.s {i j : Int} (h0 : 0 ≤ j) (h1 : j ≤ 1000000) (h2 : -1000000000000000000 ≤ i) (h3 : i ≤ 1000000000000000000) : PowOk i j := ⟨h0, 64, sm64 h2 h3, by omega⟩
/-! ### the pen after at most n draws -/
structure Pk (n : Int) (t : Ts) : Prop where
  c : t.cells.length ≤ 63
  a0 : 0 ≤ t.at'
  a1 : t.at' ≤ n
  l : 0 ≤ t.left
  tp : t.tape = false
theorem Pk.mono {n m : Int} {t : Ts} (p : Pk n t) (h : n ≤ m) : Pk m t := ⟨p.c, p.a0, Int.le_trans p.a1 h, p.l, p.tp⟩
theorem Pk.zero {cs : List Int} (h : cs.length ≤ 63) : Pk 0 ⟨cs, 0, 0, false⟩ := ⟨h, Int.le_refl 0, Int.le_refl 0, Int.le_refl 0, rfl⟩
theorem Pk.n0 {n : Int} {t : Ts} (p : Pk n t) : 0 ≤ n := Int.le_trans p.a0 p.a1
theorem map_get {xs : List Int} {i : Nat} {d : D} (h : (xs.map D.int)[i]? = some d) : ∃ x, xs[i]? = some x ∧ d = .int x := by
  rw [List.getElem?_map] at h
  cases q : xs[i]? with
  | none => rw [q] at h; cases h
  | some j => rw [q] at h; cases h; exact ⟨j, rfl, rfl⟩
end Q

/-! MPen -/
namespace Q
open PySem
/-! ### the pen -/
def sp__law_pen : PSp := fun ds t P => ∃ ns, ds = [.scr ns] ∧ ns.length ≤ 63 ∧ ∀ cs : List Int, cs.length ≤ 63 → P (.dic [.inr "cells", .inr "at", .inr "left"] [.lst (cs.map .int), .int 0, .int 0]) t
def sp__law_draw : PSp := fun ds t P => ∃ many n, ds = [.pen, .int many] ∧ 0 < many ∧ Sm 9000 many ∧ Pk n t ∧ n < 100000000 ∧ ∀ z t', 0 ≤ z → z < many → Pk (n + 1) t' → P (.int z) t'
def d__law_pen : DS := (dSeq (dAsg (dOp oPow (dOp oPow (dC (.int 10)) (dC (.int 60))) (dC (.int 60))) (gName 1)) (dSeq (dRet (dDisp (("cells", (dLc [2] (iSeq (dSlice (dVar 0) dNoPart (dPart (dC (.int 63))))) (gName 2) dYes (dIfE (dB (dOp oGe (dCB bAbs (dCons (dVar 2) dNil)) (dOp oPow (dC (.int 10)) (dC (.int 18))))) (dOp oMod (dCB bAbs (dCons (dVar 2) dNil)) (dVar 1)) (dVar 2)))) :: (("at", (dC (.int 0))) :: (("left", (dC (.int 0))) :: []))))) dNext))
def d__law_draw : DS := (dSeq (dIf (dB (dOp oGt (dPenL false (dVar 0)) (dC (.int 0)))) (dSeq (dAsg (dOp oMod (dPenL false (dVar 0)) (dVar 1)) (gName 6)) (dSeq (dPutL false 0 (dOp oDiv (dPenL false (dVar 0)) (dVar 1))) (dSeq (dRet (dVar 6)) dNext))) dNext) (dSeq (dAsg (dPenA false (dVar 0)) (gName 2)) (dSeq (dPutA false 0 (dOp oAdd (dVar 2) (dC (.int 1)))) (dSeq (dAsg (dOp oAdd (dOp oMul (dVar 2) (dVar 2)) (dC (.int 5))) (gName 3)) (dSeq (dIf (dB (dOp oNe (dPenC (dVar 0)) (dLst dNil))) (dSeq (dAsg (dOp oIx (dPenC (dVar 0)) (dOp oMod (dVar 2) (dCB bLen (dCons (dPenC (dVar 0)) dNil)))) (gName 3)) dNext) dNext) (dSeq (dIf (dAnd (dB (dOp oLt (dVar 2) (dCB bLen (dCons (dPenC (dVar 0)) dNil)))) (dB (dOp oGe (dVar 3) (dOp oPow (dC (.int 10)) (dC (.int 18)))))) (dSeq (dPutL false 0 (dOp oDiv (dVar 3) (dVar 1))) (dSeq (dRet (dOp oMod (dVar 3) (dVar 1))) dNext)) dNext) (dSeq (dAsg (dOp oMod (dOp oMul (dOp oAdd (dOp oAdd (dOp oMod (dVar 3) (dC (.int 4294967311))) (dOp oMul (dC (.int 65539)) (dVar 2))) (dC (.int 17))) (dC (.int 48271))) (dC (.int 4294967311))) (gName 4)) (dSeq (dFor (iRng1 (dC (.int 3))) (gName 5) (dSeq (dAsg (dOp oAdd (dOp oAdd (dOp oAdd (dOp oMul (dVar 4) (dVar 4)) (dOp oMul (dC (.int 69621)) (dVar 4))) (dVar 2)) (dVar 5)) (gName 4)) (dSeq (dAsg (dOp oMod (dVar 4) (dC (.int 4294967311))) (gName 4)) dNext))) (dSeq (dRet (dOp oMod (dOp oDiv (dVar 4) (dC (.int 32))) (dVar 1))) dNext)))))))))
theorem len__law_pen (as : List D) (t : Ts) (P : D → Ts → Prop) (h : sp__law_pen as t P) : as.length = 1 := by obtain ⟨_, rfl, _⟩ := h; rfl
theorem len__law_draw (as : List D) (t : Ts) (P : D → Ts → Prop) (h : sp__law_draw as t P) : as.length = 2 := by obtain ⟨_, _, rfl, _⟩ := h; rfl
/-- the draw's tail: its three rounds -/
theorem draw_tail {many n c : Int} {t : Ts} {P : D → Ts → Prop} (h0 : 0 < many) (hn : n < 100000000) (ha : 0 ≤ c) (hc : c ≤ n) (hp : Pk (n + 1) t) (k : ∀ z t', 0 ≤ z → z < many → Pk (n + 1) t' → P (.int z) t') (env : En) (e0 : env[0]? = some (.val .pen)) (e1 : env[1]? = some (.val (.int many))) (e2 : env[2]? = some (.val (.int c))) (v : Int) (e3 : env[3]? = some (.val (.int v))) (hl : env.length = 7) :
    (dSeq (dAsg (dOp oMod (dOp oMul (dOp oAdd (dOp oAdd (dOp oMod (dVar 3) (dC (.int 4294967311))) (dOp oMul (dC (.int 65539)) (dVar 2))) (dC (.int 17))) (dC (.int 48271))) (dC (.int 4294967311))) (gName 4)) (dSeq (dFor (iRng1 (dC (.int 3))) (gName 5) (dSeq (dAsg (dOp oAdd (dOp oAdd (dOp oAdd (dOp oMul (dVar 4) (dVar 4)) (dOp oMul (dC (.int 69621)) (dVar 4))) (dVar 2)) (dVar 5)) (gName 4)) (dSeq (dAsg (dOp oMod (dVar 4) (dC (.int 4294967311))) (gName 4)) dNext))) (dSeq (dRet (dOp oMod (dOp oDiv (dVar 4) (dC (.int 32))) (dVar 1))) dNext))) (endsOf P) env t := by
  match env, hl, e0, e1, e2, e3 with
  | [_, _, _, _, x4, x5, x6], _, e0, e1, e2, e3 =>
  cases e0; cases e1; cases e2; cases e3
  conv => whnf
  refine ⟨by decide, ?_⟩
  conv => whnf
  refine ⟨.l (by omega) (by omega), ?_⟩
  conv => whnf
  refine ⟨.r (by omega) (by omega), ?_⟩
  conv => whnf
  refine ⟨by decide, ?_⟩
  conv => whnf
  refine ⟨by decide, ?_⟩
  conv => whnf
  refine ⟨fun i e m => m = t ∧ ∃ z x5' : Int, 0 ≤ z ∧ z < 4294967311 ∧ ∃ s5, e = [.val .pen, .val (.int many), .val (.int c), .val (.int v), .val (.int z), s5, x6], ⟨rfl, _, 0, Int.emod_nonneg _ (by decide), Int.emod_lt_of_pos _ (by decide), _, rfl⟩, fun i x e m hx hI => ?_, fun e m hI => ?_⟩
  · obtain ⟨rfl, z, _, hz, hz', s5, rfl⟩ := hI
    obtain ⟨hi, rfl⟩ := rng_get hx
    conv => whnf
    refine ⟨.l (by omega) (by omega), ?_⟩
    conv => whnf
    refine ⟨.l (by omega) (by omega), ?_⟩
    conv => whnf
    refine ⟨by decide, ?_⟩
    conv => whnf
    exact ⟨rfl, _, 0, Int.emod_nonneg _ (by decide), Int.emod_lt_of_pos _ (by decide), _, rfl⟩
  · obtain ⟨rfl, z, _, hz, hz', s5, rfl⟩ := hI
    conv => whnf
    refine ⟨.s (by decide) (by decide), ?_⟩
    conv => whnf
    refine ⟨h0, ?_⟩
    conv => whnf
    exact k _ _ (Int.emod_nonneg _ (by omega)) (Int.emod_lt_of_pos _ h0) hp
theorem d__law_draw_ok (as : List D) (t : Ts) (P : D → Ts → Prop) (h : sp__law_draw as t P) : d__law_draw (endsOf P) (start0 ["_law_pen_here", "_law_many", "_law_at", "_law_cell", "_law_number", "_law_rounds", "_law_digit"] as) t := by
  obtain ⟨many, n, rfl, h0, hs, hp, hn, k⟩ := h
  have tp := hp.tp
  have a0 := hp.a0
  have a1 := hp.a1
  conv => whnf
  refine ⟨tp, ?_⟩
  conv => whnf
  refine Br.mk (fun hl => ?_) (fun hl => ?_)
  · have hl : 0 < t.left := of_decide_eq_true hl
    conv => whnf
    refine ⟨tp, ?_⟩
    conv => whnf
    refine ⟨h0, ?_⟩
    conv => whnf
    refine ⟨tp, ?_⟩
    conv => whnf
    refine ⟨⟨h0, hs⟩, ?_⟩
    conv => whnf
    refine ⟨tp, ?_⟩
    conv => whnf
    exact k _ _ (Int.emod_nonneg _ (by omega)) (Int.emod_lt_of_pos _ h0) ⟨hp.c, hp.a0, (by show t.at' ≤ n + 1; omega), Int.ediv_nonneg hp.l (by omega), tp⟩
  · conv => whnf
    refine ⟨tp, ?_⟩
    conv => whnf
    refine ⟨tp, ?_⟩
    conv => whnf
    refine ⟨.l (by omega) (by omega), ?_⟩
    conv => whnf
    have P1 : Pk (n + 1) ⟨t.cells, t.at' + 1, t.left, t.tape⟩ := ⟨hp.c, (by show 0 ≤ t.at' + 1; omega), (by show t.at' + 1 ≤ n + 1; omega), hp.l, tp⟩
    refine ⟨eqok_ints t.cells [], ?_⟩
    conv => whnf
    refine Br.mk (fun hc => ?_) (fun hc => ?_)
    · have hc : t.cells ≠ [] := deqn_t (b := []) hc
      have hn0 : 0 < t.cells.length := by
        cases q : t.cells with
        | nil => exact absurd q hc
        | cons => simp
      conv => whnf
      refine ⟨by simpa using hn0, ?_⟩
      conv => whnf
      refine ⟨_, atI_ints (Int.emod_nonneg _ (by simp; omega)) (by simpa using Int.emod_lt_of_pos _ (by simpa using hn0)), ?_⟩
      generalize t.cells.getD _ 0 = v
      conv => whnf
      refine Br.mk (fun hx => ?_) (fun hx => ?_)
      · conv => whnf
        refine ⟨PowOk.s (by decide) (by decide) (by decide) (by decide), ?_⟩
        conv => whnf
        refine Br.mk (fun hy => ?_) (fun hy => ?_)
        · conv => whnf
          refine ⟨⟨h0, hs⟩, ?_⟩
          conv => whnf
          refine ⟨tp, ?_⟩
          conv => whnf
          refine ⟨h0, ?_⟩
          conv => whnf
          refine k _ _ (Int.emod_nonneg _ (by omega)) (Int.emod_lt_of_pos _ h0) ⟨hp.c, P1.a0, P1.a1, Int.ediv_nonneg ?_ (by omega), tp⟩
          have := of_decide_eq_true hy
          exact Int.le_trans (by decide) this
        · exact draw_tail h0 hn a0 a1 P1 k [.val .pen, .val (.int many), .val (.int t.at'), .val (.int v), .no, .no, .no] rfl rfl rfl _ rfl rfl
      · exact draw_tail h0 hn a0 a1 P1 k [.val .pen, .val (.int many), .val (.int t.at'), .val (.int v), .no, .no, .no] rfl rfl rfl _ rfl rfl
    · have hc : t.cells = [] := deqn_f (b := []) hc
      conv => whnf
      refine Br.mk (fun hx => ?_) (fun hx => ?_)
      · have hx := of_decide_eq_true hx
        rw [hc] at hx
        exact absurd hx (by show ¬ t.at' < 0; omega)
      · exact draw_tail h0 hn a0 a1 P1 k [.val .pen, .val (.int many), .val (.int t.at'), .val (.int (t.at' * t.at' + 5)), .no, .no, .no] rfl rfl rfl _ rfl rfl
theorem d__law_pen_ok (as : List D) (t : Ts) (P : D → Ts → Prop) (h : sp__law_pen as t P) : d__law_pen (endsN P) (start0 ["_law_script", "_law_most", "_law_cell"] as) t := by
  obtain ⟨ns, rfl, hl, k⟩ := h
  conv => whnf
  refine ⟨PowOk.s (by decide) (by decide) (by decide) (by decide), ?_⟩
  conv => whnf
  refine ⟨⟨by decide, 200, Sm.lit (by decide), by decide⟩, ?_⟩
  have hM0 : (0 : Int) < (10 ^ Int.toNat 60) ^ Int.toNat 60 := by decide
  revert hM0
  generalize ((10 : Int) ^ Int.toNat 60) ^ Int.toNat 60 = M
  intro hM0
  conv => whnf
  refine ⟨fun i acc m => m = t ∧ acc.length = i ∧ ∃ cs : List Int, acc = cs.map .int, ⟨rfl, rfl, [], rfl⟩, fun i x acc m hx hI => ?_, fun acc m hI => ?_⟩
  · obtain ⟨rfl, hi, cs, rfl⟩ := hI
    have hlt := (List.getElem?_eq_some_iff.mp hx).1
    have hlt : i < 63 := by
      simp [cutD, sIx] at hlt
      omega
    obtain ⟨c, rfl⟩ : ∃ c : Int, x = .int c := by
      have := List.mem_of_getElem? hx
      unfold cutD at this
      obtain ⟨c, _, h⟩ := List.mem_map.mp (List.mem_of_mem_drop (List.mem_of_mem_take this))
      exact ⟨c, h.symm⟩
    conv => whnf
    refine ⟨rfl, ?_⟩
    conv => whnf
    refine ⟨PowOk.s (by decide) (by decide) (by decide) (by decide), ?_⟩
    conv => whnf
    refine Br.mk (fun hx => ?_) (fun hx => ?_)
    · conv => whnf
      refine ⟨hM0, ?_⟩
      conv => whnf
      refine ⟨by rw [hi]; unfold zLen; omega, rfl, by simp at hi ⊢; omega, cs ++ [_], by simp; rfl⟩
    · refine ⟨by rw [hi]; unfold zLen; omega, rfl, by simp at hi ⊢; omega, cs ++ [_], by simp; rfl⟩
  · obtain ⟨rfl, hi, cs, rfl⟩ := hI
    refine k cs ?_
    simp at hi
    rw [hi]
    simp [cutD, sIx]
    omega
/-! far numbers -/
def sp__law_far : PSp := fun ds t P => ∃ (f : Nat) (n : Int), ds = [.pen, .int f] ∧ f ≤ 6000 ∧ Pk n t ∧ n < 90000000 ∧ ∀ z t', 1 ≤ z → Sm (20 * (f / 6 + 1) + 1) z → Pk (n + 2 + f / 6) t' → P (.int z) t'
def d__law_far : DS := (dSeq (dAsg (dC (.int 0)) (gName 2)) (dSeq (dFor (iRng1 (dOp oAdd (dCall sp__law_draw [] (dCons (dVar 0) (dCons (dOp oAdd (dC (.int 1)) (dOp oDiv (dVar 1) (dC (.int 6)))) dNil))) (dC (.int 1)))) (gName 3) (dSeq (dAsg (dOp oAdd (dOp oMul (dVar 2) (dOp oPow (dC (.int 10)) (dC (.int 6)))) (dCall sp__law_draw [] (dCons (dVar 0) (dCons (dOp oPow (dC (.int 10)) (dC (.int 6))) dNil)))) (gName 2)) dNext)) (dSeq (dRet (dOp oAdd (dVar 2) (dC (.int 1)))) dNext)))
theorem len__law_far (as : List D) (t : Ts) (P : D → Ts → Prop) (h : sp__law_far as t P) : as.length = 2 := by obtain ⟨_, _, rfl, _⟩ := h; rfl
theorem d__law_far_ok (as : List D) (t : Ts) (P : D → Ts → Prop) (h : sp__law_far as t P) : d__law_far (endsOf P) (start0 ["_law_pen_here", "_law_figures", "_law_number", "_law_k"] as) t := by
  obtain ⟨f, n, rfl, hf, hp, hn, k⟩ := h
  conv => whnf
  refine ⟨.s (by decide) (by decide), ?_⟩
  conv => whnf
  refine ⟨_, n, rfl, by omega, (sm64 (by omega) (by omega)).mono (by decide), hp, by omega, fun c t' hc hc' p' => ?_⟩
  conv => whnf
  refine ⟨by omega, ?_⟩
  conv => whnf
  refine ⟨fun i e m => ∃ z s3, Pk (n + 1 + i) m ∧ 0 ≤ z ∧ z < 2 ^ (20 * i) ∧ e = [.val .pen, .val (.int f), .val (.int z), s3], ⟨0, _, by simpa using p', by decide, by decide, rfl⟩, fun i x e m hx hI => ?_, fun e m hI => ?_⟩
  · obtain ⟨z, s3, pm, hz, hz', rfl⟩ := hI
    obtain ⟨hi, rfl⟩ := rng_get hx
    conv => whnf
    refine ⟨PowOk.s (by decide) (by decide) (by decide) (by decide), ?_⟩
    conv => whnf
    refine ⟨.r (by decide) (by decide), ?_⟩
    conv => whnf
    refine ⟨PowOk.s (by decide) (by decide) (by decide) (by decide), ?_⟩
    conv => whnf
    refine ⟨_, _, rfl, by decide, (sm64 (by decide) (by decide)).mono (by decide), pm, by omega, fun y t2 hy hy' p2 => ?_⟩
    refine ⟨_, _, p2.mono (by omega), ?_, ?_, rfl⟩
    · exact Int.add_nonneg (Int.mul_nonneg hz (by decide)) hy
    · have h1 : (10 : Int) ^ (6 : Int).toNat = 1000000 := by decide
      rw [h1] at hy' ⊢
      have h2 : (2 : Int) ^ (20 * (i + 1)) = 2 ^ (20 * i) * 1048576 := by rw [Nat.mul_add, Int.pow_add]; rfl
      rw [h2]
      omega
  · obtain ⟨z, s3, pm, hz, hz', rfl⟩ := hI
    rw [rng_len] at pm hz'
    refine k _ _ (by omega) ?_ (pm.mono (by omega))
    unfold Sm
    have h1 : z.natAbs < 2 ^ (20 * (f / 6 + 1)) := by
      have h3 : (c + 1).toNat ≤ f / 6 + 1 := by omega
      have h4 : (2 : Nat) ^ (20 * (c + 1).toNat) ≤ 2 ^ (20 * (f / 6 + 1)) := Nat.pow_le_pow_right (by decide) (by omega)
      have h5 : ((2 : Nat) ^ (20 * (c + 1).toNat) : Nat) = ((2 : Int) ^ (20 * (c + 1).toNat)) := by simp
      omega
    have h2 := Nat.pow_succ 2 (20 * (f / 6 + 1))
    omega
end Q

/-! MSig -/
namespace Q
open PySem
/-! ### signs by a base -/
theorem ediv_toNat_lt {b x : Int} (h : 0 < x ∧ 2 ≤ b) : (x / b).toNat < x.toNat := by
  have h1 : x / b < x := Int.ediv_lt_of_lt_mul (by omega) (by
    have := Int.mul_le_mul_of_nonneg_left h.2 (Int.le_of_lt h.1)
    omega)
  have h2 : 0 ≤ x / b := Int.ediv_nonneg (by omega) (by omega)
  omega
def sigs (b x : Int) : List Int := if h : 0 < x ∧ 2 ≤ b then sigs b (x / b) ++ [x % b] else []
termination_by x.toNat
decreasing_by exact ediv_toNat_lt h
theorem sigs_pos {b x : Int} (h : 0 < x) (hb : 2 ≤ b) : sigs b x = sigs b (x / b) ++ [x % b] := by
  rw [sigs, dif_pos ⟨h, hb⟩]
theorem sigs_zero {b x : Int} (h : ¬ 0 < x) : sigs b x = [] := by
  rw [sigs, dif_neg (fun z => h z.1)]
def nts (b x : Int) : Int := if h : (0 < x ∧ 2 ≤ b) ∧ x % b = 0 then 1 + nts b (x / b) else 0
termination_by x.toNat
decreasing_by exact ediv_toNat_lt h.1
theorem nts_pos {b x : Int} (h : 0 < x) (hb : 2 ≤ b) (hm : x % b = 0) : nts b x = 1 + nts b (x / b) := by
  rw [nts, dif_pos ⟨⟨h, hb⟩, hm⟩]
theorem nts_zero {b x : Int} (h : ¬ x % b = 0) : nts b x = 0 := by
  rw [nts, dif_neg (fun z => h z.2)]
theorem nts_nn (b : Int) (x : Int) : 0 ≤ nts b x := by
  rw [nts]
  split
  · rename_i h
    have := nts_nn b (x / b)
    omega
  · omega
termination_by x.toNat
decreasing_by exact ediv_toNat_lt (by assumption : (0 < x ∧ 2 ≤ b) ∧ x % b = 0).1
def heap (b x : Int) : Int := if h : 0 < x ∧ 2 ≤ b then x / b + heap b (x / b) else 0
termination_by x.toNat
decreasing_by exact ediv_toNat_lt h
theorem heap_pos {b x : Int} (h : 0 < x) (hb : 2 ≤ b) : heap b x = x / b + heap b (x / b) := by
  rw [heap, dif_pos ⟨h, hb⟩]
theorem heap_zero {b x : Int} (h : ¬ 0 < x) : heap b x = 0 := by
  rw [heap, dif_neg (fun z => h z.1)]
theorem ediv_le2 {x b : Int} (h0 : 0 ≤ x) (hb : 2 ≤ b) : x / b * 2 ≤ x := by
  have h2 : 0 ≤ x / b := Int.ediv_nonneg h0 (by omega)
  have h3 := Int.mul_ediv_add_emod x b
  have h4 := Int.emod_nonneg x (show b ≠ 0 by omega)
  have h5 : 2 * (x / b) ≤ b * (x / b) := Int.mul_le_mul_of_nonneg_right hb h2
  omega
theorem sigs_len {b : Int} (hb : 2 ≤ b) : ∀ (c : Nat) (x : Int), 0 ≤ x → Sm c x → (sigs b x).length ≤ c
  | 0, x, h0, h => by
    rw [sigs_zero (by unfold Sm at h; omega)]
    simp
  | c + 1, x, h0, h => by
    by_cases hx : 0 < x
    · rw [sigs_pos hx hb]
      have := sigs_len hb c (x / b) (Int.ediv_nonneg h0 (by omega)) (by
        have h1 := ediv_le2 h0 hb
        have h2 : 0 ≤ x / b := Int.ediv_nonneg h0 (by omega)
        unfold Sm at *
        have := Nat.pow_succ 2 c
        omega)
      simp
      omega
    · rw [sigs_zero hx]
      simp
theorem sigs_ne {b x : Int} (h : 0 < x) (hb : 2 ≤ b) : sigs b x ≠ [] := by
  rw [sigs_pos h hb]
  simp
/-- signs put together -/
def sval (b : Int) (l : List Int) : Int := l.foldl (fun a d => a * b + d) 0
theorem sval_snoc (b : Int) (l : List Int) (d : Int) : sval b (l ++ [d]) = sval b l * b + d := by simp [sval]
theorem sval_sigs {b : Int} (hb : 2 ≤ b) : ∀ (n : Nat) (x : Int), 0 ≤ x → x.toNat ≤ n → sval b (sigs b x) = x
  | 0, x, h0, h => by
    have : x = 0 := by omega
    subst this
    rw [sigs_zero (by decide)]
    rfl
  | n + 1, x, h0, h => by
    by_cases hx : 0 < x
    · have := ediv_toNat_lt (b := b) ⟨hx, hb⟩
      rw [sigs_pos hx hb, sval_snoc, sval_sigs hb n (x / b) (Int.ediv_nonneg h0 (by omega)) (by omega)]
      exact Int.ediv_mul_add_emod x b
    · have : x = 0 := by omega
      subst this
      rw [sigs_zero (by decide)]
      rfl
theorem sigs_mem {b : Int} (hb : 2 ≤ b) : ∀ (n : Nat) (x : Int), x.toNat ≤ n → ∀ d, d ∈ sigs b x → 0 ≤ d ∧ d < b
  | 0, x, h, d, hd => by
    rw [sigs_zero (by omega)] at hd
    cases hd
  | n + 1, x, h, d, hd => by
    by_cases hx : 0 < x
    · have := ediv_toNat_lt (b := b) ⟨hx, hb⟩
      rw [sigs_pos hx hb] at hd
      rcases List.mem_append.mp hd with h1 | h1
      · exact sigs_mem hb n (x / b) (by omega) d h1
      · have : d = x % b := by simpa using h1
        subst this
        exact ⟨Int.emod_nonneg _ (by omega), Int.emod_lt_of_pos _ (by omega)⟩
    · rw [sigs_zero hx] at hd
      cases hd
theorem sigs_head {b : Int} (hb : 2 ≤ b) : ∀ (n : Nat) (x : Int), 0 < x → x.toNat ≤ n → (sigs b x).getD 0 0 ≠ 0
  | 0, x, h0, h => by omega
  | n + 1, x, h0, h => by
    have := ediv_toNat_lt (b := b) ⟨h0, hb⟩
    rw [sigs_pos h0 hb]
    by_cases hq : 0 < x / b
    · have h1 := sigs_head hb n (x / b) hq (by omega)
      have h2 := sigs_ne hq hb
      cases q : sigs b (x / b) with
      | nil => exact absurd q h2
      | cons a l => rw [q] at h1; simpa using h1
    · rw [sigs_zero hq]
      have h3 := Int.mul_ediv_add_emod x b
      have h4 : 0 ≤ x / b := Int.ediv_nonneg (by omega) (by omega)
      have : x / b = 0 := by omega
      rw [this] at h3
      simp
      omega
/-- one sign more -/
theorem more_div {b x s : Int} (hb : 2 ≤ b) (h0 : 0 ≤ s) (h1 : s < b) : (x * b + s) / b = x ∧ (x * b + s) % b = s := by
  constructor
  · rw [Int.mul_comm, Int.mul_add_ediv_left _ _ (by omega), Int.ediv_eq_zero_of_lt h0 h1]; omega
  · rw [Int.mul_comm, Int.mul_add_emod_self_left, Int.emod_eq_of_lt h0 h1]
theorem more_pos {b x s : Int} (hb : 2 ≤ b) (hx : 0 < x) (h0 : 0 ≤ s) : 0 < x * b + s := by
  have := Int.mul_pos hx (show 0 < b by omega)
  omega
/-! the program's -/
def sp_signs_of : PSp := fun ds t P => ∃ x b, ds = [.int x, .int b] ∧ 0 ≤ x ∧ 2 ≤ b ∧ b < 1000000000 ∧ Sm 1000000 x ∧ P (.lst ((sigs b x).map .int)) t
def sp_exponent_of : PSp := fun ds t P => ∃ x b, ds = [.int x, .int b] ∧ 0 ≤ x ∧ 2 ≤ b ∧ b < 1000000000 ∧ Sm 1000000 x ∧ P (.int ((sigs b x).length - 1)) t
def sp_first_sign : PSp := fun ds t P => ∃ x b, ds = [.int x, .int b] ∧ 0 < x ∧ 2 ≤ b ∧ b < 1000000000 ∧ Sm 1000000 x ∧ P (.int ((sigs b x).getD 0 0)) t
def sp_noughts_of : PSp := fun ds t P => ∃ x b, ds = [.int x, .int b] ∧ 0 < x ∧ 2 ≤ b ∧ b < 1000000000 ∧ P (.int (nts b x)) t
def sp_heap_of : PSp := fun ds t P => ∃ x b, ds = [.int x, .int b] ∧ 2 ≤ b ∧ b < 1000000000 ∧ P (.int (heap b x)) t
theorem len_signs_of (as : List D) (t : Ts) (P : D → Ts → Prop) (h : sp_signs_of as t P) : as.length = 2 := by obtain ⟨_, _, rfl, _⟩ := h; rfl
theorem len_exponent_of (as : List D) (t : Ts) (P : D → Ts → Prop) (h : sp_exponent_of as t P) : as.length = 2 := by obtain ⟨_, _, rfl, _⟩ := h; rfl
theorem len_first_sign (as : List D) (t : Ts) (P : D → Ts → Prop) (h : sp_first_sign as t P) : as.length = 2 := by obtain ⟨_, _, rfl, _⟩ := h; rfl
theorem len_noughts_of (as : List D) (t : Ts) (P : D → Ts → Prop) (h : sp_noughts_of as t P) : as.length = 2 := by obtain ⟨_, _, rfl, _⟩ := h; rfl
theorem len_heap_of (as : List D) (t : Ts) (P : D → Ts → Prop) (h : sp_heap_of as t P) : as.length = 2 := by obtain ⟨_, _, rfl, _⟩ := h; rfl
def d_signs_of : DS := (dSeq (dAsgN 2 (dLst dNil)) (dSeq (dWhile (dB (dOp oGt (dVar 0) (dC (.int 0)))) (dSeq (dAsg (dCB bDivmod (dCons (dVar 0) (dCons (dVar 1) dNil))) (gTup 2 (gCons (gName 0) (gCons (gName 3) gNil)))) (dSeq (dApp 2 (dVar 3)) dNext))) (dSeq (dFrz 2) (dSeq (dRet (dRev (dView 2))) dNext))))
def d_exponent_of : DS := (dSeq (dRet (dOp oSub (dCB bLen (dCons (dCall sp_signs_of [] (dCons (dVar 0) (dCons (dVar 1) dNil))) dNil)) (dC (.int 1)))) dNext)
def d_first_sign : DS := (dSeq (dRet (dOp oIx (dCall sp_signs_of [] (dCons (dVar 0) (dCons (dVar 1) dNil))) (dC (.int 0)))) dNext)
def d_noughts_of : DS := (dSeq (dAsg (dC (.int 0)) (gName 2)) (dSeq (dWhile (dB (dOp oEq (dOp oMod (dVar 0) (dVar 1)) (dC (.int 0)))) (dSeq (dAug 0 oDiv (dVar 1)) (dSeq (dAug 2 oAddI (dC (.int 1))) dNext))) (dSeq (dRet (dVar 2)) dNext)))
def d_heap_of : DS := (dSeq (dAsg (dC (.int 0)) (gName 2)) (dSeq (dWhile (dB (dOp oGt (dVar 0) (dC (.int 0)))) (dSeq (dAug 0 oDiv (dVar 1)) (dSeq (dAug 2 oAddI (dVar 0)) dNext))) (dSeq (dRet (dVar 2)) dNext)))
theorem d_signs_of_ok (as : List D) (t : Ts) (P : D → Ts → Prop) (h : sp_signs_of as t P) : d_signs_of (endsN P) (start0 ["number", "base", "found", "sign"] as) t := by
  obtain ⟨x, b, rfl, h0, hb, hb', hs, k⟩ := h
  have hlen := sigs_len hb _ x h0 hs
  conv => whnf
  refine ⟨fun e m => ∃ y ys s3, e = [.val (.int y), .val (.int b), .own (.lst (ys.map .int)), s3] ∧ m = t ∧ 0 ≤ y ∧ sigs b x = sigs b y ++ ys.reverse, fun e m => match e with | .val (.int y) :: _ => y.toNat | _ => 0, ⟨x, [], _, rfl, rfl, h0, by simp⟩, fun e m hI => ?_⟩
  obtain ⟨y, ys, s3, rfl, rfl, hy, hq⟩ := hI
  conv => whnf
  refine Br.mk (fun hc => ?_) (fun hc => ?_)
  · have hc : 0 < y := of_decide_eq_true hc
    conv => whnf
    refine ⟨⟨by omega, by omega⟩, ?_⟩
    conv => whnf
    refine ⟨rfl, ?_⟩
    conv => whnf
    have hl := congrArg List.length hq
    simp at hl
    refine ⟨(by simp; unfold zLen; omega), ?_⟩
    conv => whnf
    refine ⟨⟨y / b, ys ++ [y % b], _, by simp; rfl, rfl, Int.ediv_nonneg hy (by omega), by rw [hq, sigs_pos hc hb]; simp⟩, ediv_toNat_lt ⟨hc, hb⟩⟩
  · have hc : ¬ 0 < y := of_decide_eq_false hc
    conv => whnf
    rw [sigs_zero hc] at hq
    have : (ys.map D.int).reverse = (sigs b x).map .int := by rw [hq]; simp
    rw [this]
    exact k
theorem d_exponent_of_ok (as : List D) (t : Ts) (P : D → Ts → Prop) (h : sp_exponent_of as t P) : d_exponent_of (endsOf P) (start0 ["number", "base"] as) t := by
  obtain ⟨x, b, rfl, h0, hb, hb', hs, k⟩ := h
  conv => whnf
  refine ⟨_, _, rfl, h0, hb, hb', hs, ?_⟩
  conv => whnf
  simpa using k
theorem d_first_sign_ok (as : List D) (t : Ts) (P : D → Ts → Prop) (h : sp_first_sign as t P) : d_first_sign (endsOf P) (start0 ["number", "base"] as) t := by
  obtain ⟨x, b, rfl, h0, hb, hb', hs, k⟩ := h
  conv => whnf
  refine ⟨_, _, rfl, by omega, hb, hb', hs, ?_⟩
  conv => whnf
  refine ⟨_, atI_ints (by decide) ?_, k⟩
  have := List.length_pos_iff.mpr (sigs_ne h0 hb)
  omega
theorem d_noughts_of_ok (as : List D) (t : Ts) (P : D → Ts → Prop) (h : sp_noughts_of as t P) : d_noughts_of (endsOf P) (start0 ["number", "base", "found"] as) t := by
  obtain ⟨x, b, rfl, h0, hb, hb', k⟩ := h
  conv => whnf
  refine ⟨fun e m => ∃ y n, e = [.val (.int y), .val (.int b), .val (.int n)] ∧ m = t ∧ 0 < y ∧ nts b x = n + nts b y, fun e m => match e with | .val (.int y) :: _ => y.toNat | _ => 0, ⟨x, 0, rfl, rfl, h0, by simp⟩, fun e m hI => ?_⟩
  obtain ⟨y, n, rfl, rfl, hy, hq⟩ := hI
  conv => whnf
  refine ⟨by omega, ?_⟩
  conv => whnf
  refine Br.mk (fun hc => ?_) (fun hc => ?_)
  · have hc : y % b = 0 := of_decide_eq_true hc
    conv => whnf
    refine ⟨.s (by omega) (by omega), ?_⟩
    conv => whnf
    refine ⟨⟨y / b, n + 1, rfl, rfl, ?_, ?_⟩, ediv_toNat_lt ⟨hy, hb⟩⟩
    · have h1 := Int.mul_ediv_add_emod y b
      rcases Int.lt_or_le 0 (y / b) with h | h
      · exact h
      · have := Int.ediv_nonneg (Int.le_of_lt hy) (show 0 ≤ b by omega)
        rw [show y / b = 0 by omega] at h1
        omega
    · rw [hq, nts_pos hy hb hc]
      omega
  · have hc : ¬ y % b = 0 := of_decide_eq_false hc
    conv => whnf
    rw [nts_zero hc] at hq
    rw [show n = nts b x by omega]
    exact k
theorem d_heap_of_ok (as : List D) (t : Ts) (P : D → Ts → Prop) (h : sp_heap_of as t P) : d_heap_of (endsOf P) (start0 ["number", "base", "found"] as) t := by
  obtain ⟨x, b, rfl, hb, hb', k⟩ := h
  conv => whnf
  refine ⟨fun e m => ∃ y n, e = [.val (.int y), .val (.int b), .val (.int n)] ∧ m = t ∧ heap b x = n + heap b y, fun e m => match e with | .val (.int y) :: _ => y.toNat | _ => 0, ⟨x, 0, rfl, rfl, by simp⟩, fun e m hI => ?_⟩
  obtain ⟨y, n, rfl, rfl, hq⟩ := hI
  conv => whnf
  refine Br.mk (fun hc => ?_) (fun hc => ?_)
  · have hc : 0 < y := of_decide_eq_true hc
    conv => whnf
    refine ⟨.s (by omega) (by omega), ?_⟩
    conv => whnf
    refine ⟨⟨y / b, n + y / b, rfl, rfl, ?_⟩, ediv_toNat_lt ⟨hc, hb⟩⟩
    rw [hq, heap_pos hc hb]
    omega
  · have hc : ¬ 0 < y := of_decide_eq_false hc
    conv => whnf
    rw [heap_zero hc] at hq
    rw [show n = heap b x by omega]
    exact k
end Q

/-! MHous -/
namespace Q
open PySem
/-! ### the row: last places, from the plain law -/
/-- the beginning's sums, each less one -/
def Su (bs : List Int) (j : Int) : Int := ((bs.take j.toNat).map (· - 1)).sum
structure Hou (b : Int) (bs : List Int) : Prop where
  b2 : 2 ≤ b
  b30 : b ≤ 30
  len : (bs.length : Int) = b - 1
  pos : ∀ x ∈ bs, 1 ≤ x
def Re (bs : List Int) : Int := Su bs bs.length
def Lp (b : Int) (bs : List Int) (n : Int) : Int := if h : 0 < n ∧ 2 ≤ b then (if n < b then n + Su bs n else Lp b bs (n / b) + n + Re bs) else 0
termination_by n.toNat
decreasing_by exact ediv_toNat_lt h
theorem Lp_le0 {b : Int} {bs : List Int} {n : Int} (h : n ≤ 0) : Lp b bs n = 0 := by
  rw [Lp, dif_neg (fun z => by omega)]
theorem Lp_lt {b : Int} {bs : List Int} {n : Int} (hb : 2 ≤ b) (h : 0 < n) (h2 : n < b) : Lp b bs n = n + Su bs n := by
  rw [Lp, dif_pos ⟨h, hb⟩, if_pos h2]
theorem Lp_ge {b : Int} {bs : List Int} {n : Int} (hb : 2 ≤ b) (h2 : b ≤ n) : Lp b bs n = Lp b bs (n / b) + n + Re bs := by
  rw [Lp, dif_pos ⟨by omega, hb⟩, if_neg (by omega)]
theorem sum_nn : ∀ {l : List Int}, (∀ x ∈ l, 0 ≤ x) → 0 ≤ l.sum
  | [], _ => by simp
  | a :: l, h => by
    rw [List.sum_cons]
    have h1 := h a (List.mem_cons_self ..)
    have h2 := sum_nn (l := l) fun x hx => h x (List.mem_cons_of_mem _ hx)
    omega
section
variable {b : Int} {bs : List Int}
theorem Hou.l0 (h : Hou b bs) : 0 < bs.length := by have := h.len; have := h.b2; omega
theorem Su_zero : Su bs 0 = 0 := by simp [Su]
theorem Su_succ {j : Int} (h0 : 0 ≤ j) (h1 : j < bs.length) : Su bs (j + 1) = Su bs j + bs.getD j.toNat 0 - 1 := by
  unfold Su
  have e : (j + 1).toNat = j.toNat + 1 := by omega
  have hj : j.toNat < bs.length := by omega
  rw [e, List.take_add_one, List.getElem?_eq_getElem hj, List.map_append, List.sum_append, List.getD_eq_getElem?_getD, List.getElem?_eq_getElem hj]
  simp
  omega
theorem Hou.at (h : Hou b bs) {j : Int} (h0 : 0 ≤ j) (h1 : j < bs.length) : 1 ≤ bs.getD j.toNat 0 := by
  have hj : j.toNat < bs.length := by omega
  rw [List.getD_eq_getElem?_getD, List.getElem?_eq_getElem hj]
  exact h.pos _ (List.getElem_mem hj)
theorem Su_mono (h : Hou b bs) : ∀ (n : Nat) (i : Int), 0 ≤ i → i + n ≤ bs.length → Su bs i ≤ Su bs (i + n)
  | 0, i, _, _ => by simp
  | n + 1, i, h0, h1 => by
    have h2 := Su_mono h n i h0 (by omega)
    have h3 := Su_succ (bs := bs) (j := i + n) (by omega) (by omega)
    have h4 := h.at (j := i + n) (by omega) (by omega)
    have e : i + ((n + 1 : Nat) : Int) = i + n + 1 := by omega
    rw [e, h3]
    omega
theorem Su_le (h : Hou b bs) {i j : Int} (h0 : 0 ≤ i) (h1 : i ≤ j) (h2 : j ≤ bs.length) : Su bs i ≤ Su bs j := by
  have := Su_mono h (j - i).toNat i h0 (by omega)
  rwa [show i + ((j - i).toNat : Int) = j by omega] at this
theorem Su_nn (h : Hou b bs) {j : Int} (h0 : 0 ≤ j) (h2 : j ≤ bs.length) : 0 ≤ Su bs j := by
  have := Su_le h (Int.le_refl 0) h0 h2
  rwa [Su_zero] at this
theorem Su_re (h : Hou b bs) {j : Int} (h0 : 0 ≤ j) (h2 : j ≤ bs.length) : Su bs j ≤ Re bs := Su_le h h0 h2 (Int.le_refl _)
theorem Re_nn (h : Hou b bs) : 0 ≤ Re bs := Su_nn h (by omega) (Int.le_refl _)
/-- the row within the row, from b - 1 on -/
theorem Lp_rec (h : Hou b bs) {n : Int} (hn : b - 1 ≤ n) : Lp b bs n = Lp b bs (n / b) + n + Re bs := by
  have hb := h.b2
  by_cases h1 : b ≤ n
  · exact Lp_ge hb h1
  · have e : n = b - 1 := by omega
    subst e
    rw [Lp_lt hb (by omega) (by omega), Int.ediv_eq_zero_of_lt (by omega) (by omega), Lp_le0 (Int.le_refl 0)]
    have : Su bs (b - 1) = Re bs := by rw [Re, h.len]
    omega
/-- how many times a number is said -/
def Ti (b : Int) (bs : List Int) (n : Int) : Int := Lp b bs n - Lp b bs (n - 1)
theorem Ti_lt (h : Hou b bs) {n : Int} (h0 : 1 ≤ n) (h1 : n < b) : Ti b bs n = bs.getD (n - 1).toNat 0 := by
  have hb := h.b2
  have hl := h.len
  have e := Su_succ (bs := bs) (j := n - 1) (by omega) (by omega)
  rw [show n - 1 + 1 = n by omega] at e
  unfold Ti
  rw [Lp_lt hb (by omega) h1]
  by_cases h2 : n = 1
  · subst h2
    rw [Lp_le0 (by decide)]
    rw [show (1 : Int) - 1 = 0 by decide, Su_zero] at e
    simp at e ⊢
    omega
  · rw [Lp_lt hb (by omega) (by omega)]
    omega
theorem Ti_ge (h : Hou b bs) {n : Int} (h1 : b ≤ n) : Ti b bs n = 1 + (Lp b bs (n / b) - Lp b bs ((n - 1) / b)) := by
  unfold Ti
  rw [Lp_rec h (n := n) (by omega), Lp_rec h (n := n - 1) (by omega)]
  omega
theorem div_pred {b n : Int} (hb : 2 ≤ b) (h : ¬ n % b = 0) : (n - 1) / b = n / b := by
  have h1 := Int.mul_ediv_add_emod n b
  have h2 := Int.emod_nonneg n (show b ≠ 0 by omega)
  have h3 := Int.emod_lt_of_pos n (show 0 < b by omega)
  refine Int.ediv_emod_unique (show 0 < b by omega) (r := n % b - 1) |>.mpr ⟨by omega, by omega, by omega⟩ |>.1
theorem div_predm {b u : Int} (hb : 2 ≤ b) : (b * u - 1) / b = u - 1 := by
  refine Int.ediv_emod_unique (show 0 < b by omega) (r := b - 1) |>.mpr ⟨by rw [Int.mul_sub]; omega, by omega, by omega⟩ |>.1
theorem Ti_one (h : Hou b bs) {n : Int} (h1 : b ≤ n) (h2 : ¬ n % b = 0) : Ti b bs n = 1 := by
  rw [Ti_ge h h1, div_pred h.b2 h2]
  omega
theorem Ti_mul (h : Hou b bs) {u : Int} (h1 : 1 ≤ u) : Ti b bs (b * u) = Ti b bs u + 1 := by
  have hb := h.b2
  have : b ≤ b * u := by
    have := Int.mul_le_mul_of_nonneg_left h1 (show 0 ≤ b by omega)
    omega
  rw [Ti_ge h this, div_predm hb, Int.mul_ediv_cancel_left _ (by omega)]
  unfold Ti
  omega
theorem Ti_pos (h : Hou b bs) : ∀ (k : Nat) (n : Int), n.toNat ≤ k → 1 ≤ n → 1 ≤ Ti b bs n
  | 0, n, h0, h1 => by omega
  | k + 1, n, h0, h1 => by
    have hb := h.b2
    by_cases h2 : n < b
    · rw [Ti_lt h h1 h2]
      have := h.len
      exact h.at (by omega) (by omega)
    · by_cases h3 : n % b = 0
      · have h4 := Int.mul_ediv_add_emod n b
        have h5 : n = b * (n / b) := by omega
        have h6 : 1 ≤ n / b := by
          rcases Int.lt_or_le 0 (n / b) with h | h
          · omega
          · have := Int.ediv_nonneg (show 0 ≤ n by omega) (show 0 ≤ b by omega)
            rw [show n / b = 0 by omega] at h5
            omega
        have h7 := ediv_toNat_lt (b := b) (x := n) ⟨by omega, hb⟩
        rw [h5, Ti_mul h h6]
        have := Ti_pos h k (n / b) (by omega) h6
        omega
      · rw [Ti_one h (by omega) h3]
        omega
theorem Lp_step (h : Hou b bs) {n : Int} (h1 : 1 ≤ n) : Lp b bs (n - 1) + 1 ≤ Lp b bs n := by
  have := Ti_pos h _ n (Nat.le_refl _) h1
  unfold Ti at this
  omega
theorem Lp_mono' (h : Hou b bs) : ∀ (k : Nat) (n : Int), 0 ≤ n → Lp b bs n + k ≤ Lp b bs (n + k)
  | 0, n, _ => by simp
  | k + 1, n, h0 => by
    have h1 := Lp_mono' h k n h0
    have h2 := Lp_step h (n := n + k + 1) (by omega)
    rw [show n + k + 1 - 1 = n + k by omega] at h2
    rw [show n + ((k + 1 : Nat) : Int) = n + k + 1 by omega]
    omega
theorem Lp_lt_of (h : Hou b bs) {m n : Int} (h0 : 0 ≤ m) (h1 : m < n) : Lp b bs m < Lp b bs n := by
  have := Lp_mono' h (n - m).toNat m h0
  rw [show m + ((n - m).toNat : Int) = n by omega] at this
  omega
theorem Lp_le_of (h : Hou b bs) {m n : Int} (h0 : 0 ≤ m) (h1 : m ≤ n) : Lp b bs m ≤ Lp b bs n := by
  rcases Int.lt_or_eq_of_le h1 with z | z
  · exact Int.le_of_lt (Lp_lt_of h h0 z)
  · rw [z]; exact Int.le_refl _
theorem Lp_ge_self (h : Hou b bs) {n : Int} (h0 : 0 ≤ n) : n ≤ Lp b bs n := by
  have := Lp_mono' h n.toNat 0 (Int.le_refl 0)
  rw [Lp_le0 (Int.le_refl 0), show 0 + (n.toNat : Int) = n by omega] at this
  omega
/-! what is said at a place -/
structure Sa (b : Int) (bs : List Int) (p m : Int) : Prop where
  m1 : 1 ≤ m
  lo : Lp b bs (m - 1) < p
  hi : p ≤ Lp b bs m
theorem Sa.uniq (h : Hou b bs) {p m n : Int} (x : Sa b bs p m) (y : Sa b bs p n) : m = n := by
  rcases Int.lt_trichotomy m n with z | z | z
  · have := Lp_le_of h (m := m) (n := n - 1) (by have := x.m1; omega) (by omega)
    have := x.hi; have := y.lo
    omega
  · exact z
  · have := Lp_le_of h (m := n) (n := m - 1) (by have := y.m1; omega) (by omega)
    have := y.hi; have := x.lo
    omega
theorem Sa.ex' (h : Hou b bs) : ∀ (k : Nat) (p : Int), 1 ≤ p → p ≤ Lp b bs k → ∃ m, Sa b bs p m
  | 0, p, h1, h2 => by
    rw [show ((0 : Nat) : Int) = 0 from rfl, Lp_le0 (Int.le_refl 0)] at h2
    omega
  | k + 1, p, h1, h2 => by
    by_cases h3 : p ≤ Lp b bs k
    · exact Sa.ex' h k p h1 h3
    · exact ⟨(k : Int) + 1, by omega, by rw [show (k : Int) + 1 - 1 = k by omega]; omega, by simpa using h2⟩
theorem Sa.ex (h : Hou b bs) {p : Int} (h1 : 1 ≤ p) : ∃ m, Sa b bs p m := by
  refine Sa.ex' h p.toNat p h1 ?_
  have := Lp_ge_self h (n := p) (by omega)
  rwa [show (p.toNat : Int) = p by omega]
end
end Q

/-! MHou2 -/
namespace Q
open PySem
section
variable {b : Int} {bs : List Int}
/-! ### the last place by signs -/
theorem Lp_sigs (h : Hou b bs) : ∀ (k : Nat) (n : Int), n.toNat ≤ k → 0 < n → Lp b bs n = n + heap b n + (((sigs b n).length : Int) - 1) * Re bs + Su bs ((sigs b n).getD 0 0)
  | 0, n, h0, h1 => by omega
  | k + 1, n, h0, h1 => by
    have hb := h.b2
    have h7 := ediv_toNat_lt (b := b) (x := n) ⟨h1, hb⟩
    rw [sigs_pos h1 hb, heap_pos h1 hb]
    by_cases h2 : n < b
    · have e : n / b = 0 := Int.ediv_eq_zero_of_lt (by omega) h2
      rw [Lp_lt hb h1 h2, e, sigs_zero (by decide), heap_zero (by decide), Int.emod_eq_of_lt (by omega) h2]
      simp
    · have h3 : 0 < n / b := by
        have := Int.ediv_le_ediv (show 0 < b by omega) (show b ≤ n by omega)
        rw [Int.ediv_self (by omega)] at this
        omega
      rw [Lp_ge hb (by omega), Lp_sigs h k (n / b) (by omega) h3]
      have hne := sigs_ne h3 hb
      cases q : sigs b (n / b) with
      | nil => exact absurd q hne
      | cons a l =>
        simp only [List.length_append, List.length_cons, List.length_nil, List.getD_cons_zero, List.cons_append]
        have : ((l.length + 1 + (0 + 1) : Nat) : Int) - 1 = ((l.length + 1 : Nat) : Int) - 1 + 1 := by omega
        rw [this, Int.add_mul]
        omega
/-! ### numbers of e + 1 signs whose first is c -/
theorem in_div {c m : Int} {e : Nat} (hb : 2 ≤ b) (h1 : c * b ^ (e + 1) ≤ m) (h2 : m < (c + 1) * b ^ (e + 1)) : c * b ^ e ≤ m / b ∧ m / b < (c + 1) * b ^ e := by
  rw [Int.pow_succ, ← Int.mul_assoc] at h1 h2
  exact ⟨(Int.le_ediv_iff_mul_le (by omega)).mpr h1, (Int.ediv_lt_iff_lt_mul (by omega)).mpr h2⟩
theorem pow_pos' (hb : 2 ≤ b) (e : Nat) : 0 < b ^ e := Int.pow_pos (by omega)
theorem Lp_in (h : Hou b bs) {c : Int} (c1 : 1 ≤ c) (c2 : c < b) : ∀ (e : Nat) (m : Int), c * b ^ e ≤ m → m < (c + 1) * b ^ e → Lp b bs m = m + heap b m + e * Re bs + Su bs c
  | 0, m, h1, h2 => by
    have hb := h.b2
    have e : m = c := by simp at h1 h2; omega
    subst e
    rw [Lp_lt hb (by omega) c2, heap_pos (by omega) hb, Int.ediv_eq_zero_of_lt (by omega) c2, heap_zero (by decide)]
    simp
  | e + 1, m, h1, h2 => by
    have hb := h.b2
    have h3 := in_div hb h1 h2
    have h4 := pow_pos' hb e
    have h5 : 0 < c * b ^ e := Int.mul_pos (by omega) h4
    have h6 : b ≤ m := by
      have := (Int.le_ediv_iff_mul_le (show 0 < b by omega)).mp (show 1 ≤ m / b by omega)
      omega
    rw [Lp_ge hb h6, Lp_in h c1 c2 e (m / b) h3.1 h3.2, heap_pos (x := m) (by omega) hb]
    have : ((e + 1 : Nat) : Int) = (e : Int) + 1 := by omega
    rw [this, Int.add_mul]
    omega
theorem heap_in (hb : 2 ≤ b) {c : Int} (c1 : 1 ≤ c) (c2 : c < b) : ∀ (e : Nat) (m : Int), c * b ^ e ≤ m → m < (c + 1) * b ^ e → m - (b - 1) * (e + 1) ≤ (b - 1) * heap b m ∧ (b - 1) * heap b m ≤ m
  | 0, m, h1, h2 => by
    have e : m = c := by simp at h1 h2; omega
    subst e
    rw [heap_pos (by omega) hb, Int.ediv_eq_zero_of_lt (by omega) c2, heap_zero (by decide)]
    simp
    omega
  | e + 1, m, h1, h2 => by
    have h3 := in_div hb h1 h2
    have h4 := pow_pos' hb e
    have h5 : 0 < c * b ^ e := Int.mul_pos (by omega) h4
    have h6 : b ≤ m := by
      have := (Int.le_ediv_iff_mul_le (show 0 < b by omega)).mp (show 1 ≤ m / b by omega)
      omega
    have h7 := heap_in hb c1 c2 e (m / b) h3.1 h3.2
    rw [heap_pos (x := m) (by omega) hb, Int.mul_add (b - 1) (m / b)]
    have h8 := Int.mul_ediv_add_emod m b
    have h9 := Int.emod_nonneg m (show b ≠ 0 by omega)
    have h10 := Int.emod_lt_of_pos m (show 0 < b by omega)
    have h11 : (b - 1) * (m / b) = b * (m / b) - m / b := by rw [Int.sub_mul, Int.one_mul]
    have h12 : (b - 1) * (((e + 1 : Nat) : Int) + 1) = (b - 1) * ((e : Int) + 1) + (b - 1) := by
      rw [show (((e + 1 : Nat) : Int) + 1) = ((e : Int) + 1) + 1 by omega, Int.mul_add, Int.mul_one]
    rw [h12, h11]
    omega
/-- the last place ahead of a sign's multiple of a power -/
theorem Lp_ahead (h : Hou b bs) {f : Int} (f1 : 1 ≤ f) (f2 : f < b) : ∀ s : Nat, Lp b bs ((f + 1) * b ^ s - 1) = ((f + 1) * b ^ s - 1) + ((f + 1) * b ^ s - 1 - (f + (b - 1) * s)) / (b - 1) + s * Re bs + Su bs f
  | 0 => by
    have hb := h.b2
    simp
    rw [Lp_lt hb (by omega) f2]
  | s + 1 => by
    have hb := h.b2
    have hp := pow_pos' hb s
    have e1 : (f + 1) * b ^ (s + 1) = b * ((f + 1) * b ^ s) := by rw [Int.pow_succ, ← Int.mul_assoc, Int.mul_comm]
    have hu : 1 ≤ (f + 1) * b ^ s := by have := Int.mul_pos (show 0 < f + 1 by omega) hp; omega
    have hbu : b ≤ b * ((f + 1) * b ^ s) := by have := Int.mul_le_mul_of_nonneg_left hu (show 0 ≤ b by omega); omega
    have ih := Lp_ahead h f1 f2 s
    rw [e1, Lp_rec h (by omega), div_predm hb]
    generalize (f + 1) * b ^ s = u at *
    rw [ih]
    have e2 : b * u - 1 - (f + (b - 1) * ((s + 1 : Nat) : Int)) = (u - 1 - (f + (b - 1) * s)) + (u - 1) * (b - 1) := by
      rw [show ((s + 1 : Nat) : Int) = (s : Int) + 1 by omega, Int.mul_add, Int.mul_one, Int.sub_mul u 1 (b - 1), Int.mul_sub u b 1, Int.mul_comm b u]
      omega
    rw [e2, Int.add_mul_ediv_right _ _ (by omega), show ((s + 1 : Nat) : Int) = (s : Int) + 1 by omega, Int.add_mul]
    omega
/-! ### the sums, as the house keeps them -/
theorem sumsOf_get : ∀ (bs : List Int) (s : Int) (i : Nat), i < bs.length → (sumsOf s bs)[i]? = some (s + Su bs (i + 1))
  | [], s, i, h => by simp at h
  | c :: r, s, 0, h => by
    show some (s + c - 1) = _
    simp [Su]
    omega
  | c :: r, s, i + 1, h => by
    show (sumsOf (s + c - 1) r)[i]? = _
    rw [sumsOf_get r (s + c - 1) i (by simpa using h)]
    have : Su (c :: r) (((i + 1 : Nat) : Int) + 1) = (c - 1) + Su r ((i : Int) + 1) := by
      unfold Su
      rw [show ((((i + 1 : Nat) : Int) + 1).toNat) = ((i : Int) + 1).toNat + 1 by omega, List.take_succ_cons]
      simp
    rw [this]
    congr 1
    omega
theorem sumsOf_len' : ∀ (bs : List Int) (s : Int), (sumsOf s bs).length = bs.length
  | [], _ => rfl
  | c :: r, s => by
    show (sumsOf (s + c - 1) r).length + 1 = r.length + 1
    rw [sumsOf_len' r]
theorem sums_at (h : Hou b bs) {j : Int} (h0 : 1 ≤ j) (h1 : j < b) : atI ((sumsOf 0 bs).map .int) (j - 1) = some (.int (Su bs j)) := by
  have hl := h.len
  refine atI_nat (by omega) ?_
  rw [List.getElem?_map, sumsOf_get bs 0 (j - 1).toNat (by omega)]
  rw [show (((j - 1).toNat : Int) + 1) = j by omega]
  simp
theorem sums_last (h : Hou b bs) : atI ((sumsOf 0 bs).map .int) (-1) = some (.int (Re bs)) := by
  have hl := h.l0
  unfold atI
  rw [if_neg (by decide), if_pos (by rw [List.length_map, sumsOf_len']; omega), List.getElem?_map]
  rw [show ((-1 : Int) + (((sumsOf 0 bs).map D.int).length : Int)).toNat = bs.length - 1 by rw [List.length_map, sumsOf_len']; omega, sumsOf_get bs 0 _ (by omega)]
  rw [show (((bs.length - 1 : Nat) : Int) + 1) = bs.length by omega]
  simp [Re]
end
end Q

/-! MHouse -/
namespace Q
open PySem
/-! ### what is a whole number, a list .. -/
def isInt : D → Bool
  | .int _ => true
  | _ => false
def isCount : D → Bool
  | .int i => decide (0 < i)
  | _ => false
def isBase : D → Bool
  | .int i => decide (2 ≤ i ∧ i ≤ 30)
  | _ => false
def isList : D → Bool
  | .lst _ => true
  | .tup _ => true
  | _ => false
def isBeg (b : Int) : D → Bool
  | .lst l => decide ((l.length : Int) = b - 1) && l.all isCount
  | .tup l => decide ((l.length : Int) = b - 1) && l.all isCount
  | _ => false
def tnOk (d : D) : Prop := ∃ n, tn d = some n
def sp_is_whole : PSp := fun ds t P => ∃ d, ds = [d] ∧ tnOk d ∧ P (.bl (isInt d)) t
def sp_is_count : PSp := fun ds t P => ∃ d, ds = [d] ∧ tnOk d ∧ P (.bl (isCount d)) t
def sp_is_base : PSp := fun ds t P => ∃ d, ds = [d] ∧ tnOk d ∧ P (.bl (isBase d)) t
def sp_is_listing : PSp := fun ds t P => ∃ d, ds = [d] ∧ tnOk d ∧ P (.bl (isList d)) t
def sp_is_beginning : PSp := fun ds t P => ∃ b d, ds = [.int b, d] ∧ tnOk d ∧ (∀ l, d = .lst l ∨ d = .tup l → l.length ≤ 1000000 ∧ ∀ x ∈ l, tnOk x) ∧ P (.bl (isBeg b d)) t
theorem len_is_whole (as : List D) (t : Ts) (P : D → Ts → Prop) (h : sp_is_whole as t P) : as.length = 1 := by obtain ⟨_, rfl, _⟩ := h; rfl
theorem len_is_count (as : List D) (t : Ts) (P : D → Ts → Prop) (h : sp_is_count as t P) : as.length = 1 := by obtain ⟨_, rfl, _⟩ := h; rfl
theorem len_is_base (as : List D) (t : Ts) (P : D → Ts → Prop) (h : sp_is_base as t P) : as.length = 1 := by obtain ⟨_, rfl, _⟩ := h; rfl
theorem len_is_listing (as : List D) (t : Ts) (P : D → Ts → Prop) (h : sp_is_listing as t P) : as.length = 1 := by obtain ⟨_, rfl, _⟩ := h; rfl
theorem len_is_beginning (as : List D) (t : Ts) (P : D → Ts → Prop) (h : sp_is_beginning as t P) : as.length = 2 := by obtain ⟨_, _, rfl, _⟩ := h; rfl
def d_is_whole : DS := (dSeq (dRet (dAndV (dIsi [.int] (dVar 0)) (dNotV (dIsi [.bl] (dVar 0))))) dNext)
def d_is_count : DS := (dSeq (dRet (dAndV (dCall sp_is_whole [] (dCons (dVar 0) dNil)) (dOp oGt (dVar 0) (dC (.int 0))))) dNext)
def d_is_base : DS := (dSeq (dRet (dAndV (dCall sp_is_whole [] (dCons (dVar 0) dNil)) (dChain oLe oLe (dC (.int 2)) (dVar 0) (dC (.int 30))))) dNext)
def d_is_listing : DS := (dSeq (dRet (dIsi [.lst, .tup] (dVar 0))) dNext)
def d_is_beginning : DS := (dSeq (dIf (dOr (dNot (dB (dCall sp_is_listing [] (dCons (dVar 1) dNil)))) (dB (dOp oNe (dCB bLen (dCons (dVar 1) dNil)) (dOp oSub (dVar 0) (dC (.int 1)))))) (dSeq (dRet (dC (.bl false))) dNext) dNext) (dSeq (dRet (dCB bAll (dCons (dLc [2] (iSeq (dVar 1)) (gName 2) dYes (dCall sp_is_count [] (dCons (dVar 2) dNil))) dNil))) dNext))
theorem d_is_whole_ok (as : List D) (t : Ts) (P : D → Ts → Prop) (h : sp_is_whole as t P) : d_is_whole (endsOf P) (start0 ["thing"] as) t := by
  obtain ⟨d, rfl, ⟨n, hn⟩, k⟩ := h
  cases d <;> first | exact k | cases hn
theorem d_is_count_ok (as : List D) (t : Ts) (P : D → Ts → Prop) (h : sp_is_count as t P) : d_is_count (endsOf P) (start0 ["thing"] as) t := by
  obtain ⟨d, rfl, hn, k⟩ := h
  conv => whnf
  refine ⟨d, rfl, hn, ?_⟩
  cases d <;> exact k
theorem d_is_base_ok (as : List D) (t : Ts) (P : D → Ts → Prop) (h : sp_is_base as t P) : d_is_base (endsOf P) (start0 ["thing"] as) t := by
  obtain ⟨d, rfl, hn, k⟩ := h
  conv => whnf
  refine ⟨d, rfl, hn, ?_⟩
  cases d with
  | int i =>
    conv => whnf
    refine Br.mk (fun h1 => ?_) (fun h1 => ?_)
    · have h1 : 2 ≤ i := of_decide_eq_true h1
      conv => whnf
      have e : isBase (.int i) = decide (i ≤ 30) := by
        show decide (2 ≤ i ∧ i ≤ 30) = _
        simp [h1]
      rw [e] at k
      exact k
    · have h1 : ¬ 2 ≤ i := of_decide_eq_false h1
      conv => whnf
      have e : isBase (.int i) = false := by
        show decide (2 ≤ i ∧ i ≤ 30) = _
        simp [h1]
      rw [e] at k
      exact k
  | _ => exact k
theorem d_is_listing_ok (as : List D) (t : Ts) (P : D → Ts → Prop) (h : sp_is_listing as t P) : d_is_listing (endsOf P) (start0 ["thing"] as) t := by
  obtain ⟨d, rfl, ⟨n, hn⟩, k⟩ := h
  cases d <;> first | exact k | cases hn
theorem bls_mapf (f : D → Bool) : ∀ l : List D, bls (l.map fun x => .bl (f x)) = some (l.map f)
  | [] => rfl
  | x :: l => by simp [bls, bls_mapf f l]
theorem all_id {α : Type} (f : α → Bool) (l : List α) : (l.map f).all id = l.all f := by
  induction l with
  | nil => rfl
  | cons a l ih => rw [List.map_cons, List.all_cons, List.all_cons, ih]; rfl
theorem take_map {α β : Type} (f : α → β) {l : List α} {i : Nat} {x : α} (h : l[i]? = some x) : (l.take i).map f ++ [f x] = (l.take (i + 1)).map f := by
  rw [List.take_add_one, h]
  simp
theorem d_is_beginning_ok (as : List D) (t : Ts) (P : D → Ts → Prop) (h : sp_is_beginning as t P) : d_is_beginning (endsOf P) (start0 ["base", "thing", "many"] as) t := by
  obtain ⟨b, d, rfl, hn, hl, k⟩ := h
  conv => whnf
  refine ⟨d, rfl, hn, ?_⟩
  cases d with
  | lst l =>
    conv => whnf
    refine Br.mk (fun h1 => ?_) (fun h1 => ?_)
    · conv => whnf
      have e : isBeg b (.lst l) = false := by
        show (decide ((l.length : Int) = b - 1) && _) = _
        simp at h1
        simp [h1]
      rw [e] at k
      exact k
    · have h1 : (l.length : Int) = b - 1 := by simpa using h1
      obtain ⟨hl1, hl2⟩ := hl l (.inl rfl)
      conv => whnf
      refine ⟨fun i acc m => t = m ∧ acc = (l.take i).map fun x => .bl (isCount x), ⟨rfl, rfl⟩, fun i x acc m hx hI => ?_, fun acc m hI => ?_⟩
      · obtain ⟨rfl, rfl⟩ := hI
        conv => whnf
        refine ⟨rfl, ?_⟩
        conv => whnf
        refine ⟨x, rfl, hl2 x (List.mem_of_getElem? hx), ?_⟩
        refine ⟨by rw [List.length_map, List.length_take]; unfold zLen; omega, rfl, take_map (fun x => D.bl (isCount x)) hx⟩
      · obtain ⟨rfl, rfl⟩ := hI
        rw [List.take_length]
        refine ⟨_, bls_mapf isCount l, ?_⟩
        rw [all_id]
        have e : isBeg b (.lst l) = l.all isCount := by
          show (decide ((l.length : Int) = b - 1) && _) = _
          simp [h1]
        rw [e] at k
        exact k
  | tup l =>
    conv => whnf
    refine Br.mk (fun h1 => ?_) (fun h1 => ?_)
    · conv => whnf
      have e : isBeg b (.tup l) = false := by
        show (decide ((l.length : Int) = b - 1) && _) = _
        simp at h1
        simp [h1]
      rw [e] at k
      exact k
    · have h1 : (l.length : Int) = b - 1 := by simpa using h1
      obtain ⟨hl1, hl2⟩ := hl l (.inr rfl)
      conv => whnf
      refine ⟨fun i acc m => t = m ∧ acc = (l.take i).map fun x => .bl (isCount x), ⟨rfl, rfl⟩, fun i x acc m hx hI => ?_, fun acc m hI => ?_⟩
      · obtain ⟨rfl, rfl⟩ := hI
        conv => whnf
        refine ⟨rfl, ?_⟩
        conv => whnf
        refine ⟨x, rfl, hl2 x (List.mem_of_getElem? hx), ?_⟩
        refine ⟨by rw [List.length_map, List.length_take]; unfold zLen; omega, rfl, take_map (fun x => D.bl (isCount x)) hx⟩
      · obtain ⟨rfl, rfl⟩ := hI
        rw [List.take_length]
        refine ⟨_, bls_mapf isCount l, ?_⟩
        rw [all_id]
        have e : isBeg b (.tup l) = l.all isCount := by
          show (decide ((l.length : Int) = b - 1) && _) = _
          simp [h1]
        rw [e] at k
        exact k
  | _ => exact k
end Q

/-! MHse2 -/
namespace Q
open PySem
/-! ### the house -/
abbrev hNs : List Str := ["kept_base", "kept_beginning", "sums"]
def hD (W : Cl) (b : Int) (bs : List Int) : D := .ins W.House ["kept_base", "kept_beginning", "sums"] [.int b, .lst (bs.map .int), .lst ((sumsOf 0 bs).map .int)]
def sp_House___init__ (W : Cl) : PSp := fun ds t P => ∃ b bs, (ds = [.int b, .lst (bs.map .int)] ∨ ds = [.int b, .tup (bs.map .int)]) ∧ Hou b bs ∧ P (hD W b bs) t
def sp_House_base (W : Cl) : PSp := fun ds t P => ∃ b bs, ds = [hD W b bs] ∧ P (.int b) t
def sp_House_beginning (W : Cl) : PSp := fun ds t P => ∃ b bs, ds = [hD W b bs] ∧ P (.lst (bs.map .int)) t
def sp_House_reach (W : Cl) : PSp := fun ds t P => ∃ b bs, ds = [hD W b bs] ∧ Hou b bs ∧ P (.int (Re bs)) t
def sp_House_folk (W : Cl) : PSp := fun ds t P => ∃ b bs, ds = [hD W b bs] ∧ P (.int bs.sum) t
def sp_last_by : PSp := fun ds t P => ∃ b bs n, ds = [.int b, .lst ((sumsOf 0 bs).map .int), .int n] ∧ Hou b bs ∧ 0 ≤ n ∧ Sm 1000000 n ∧ P (.int (Lp b bs n)) t
def sp_House_last_place (W : Cl) : PSp := fun ds t P => ∃ b bs n, ds = [hD W b bs, .int n] ∧ Hou b bs ∧ 0 ≤ n ∧ Sm 1000000 n ∧ P (.int (Lp b bs n)) t
def sp_House_first_place (W : Cl) : PSp := fun ds t P => ∃ b bs n, ds = [hD W b bs, .int n] ∧ Hou b bs ∧ 1 ≤ n ∧ Sm 1000000 n ∧ P (.int (Lp b bs (n - 1) + 1)) t
def sp_House_times (W : Cl) : PSp := fun ds t P => ∃ b bs n, ds = [hD W b bs, .int n] ∧ Hou b bs ∧ 1 ≤ n ∧ Sm 1000000 n ∧ P (.int (Ti b bs n)) t
def sp_House_ahead_of (W : Cl) : PSp := fun ds t P => ∃ b bs c, ∃ e : Nat, ds = [hD W b bs, .int (b ^ e), .int e, .int c] ∧ e ≤ 1000001 ∧ Hou b bs ∧ 1 ≤ c ∧ c < b ∧ P (.int (Lp b bs (c * b ^ e - 1))) t
def sp_House_said (W : Cl) : PSp := fun ds t P => ∃ b bs p, ds = [hD W b bs, .int p] ∧ Hou b bs ∧ 1 ≤ p ∧ Sm 1000000 p ∧ ∀ m, Sa b bs p m → P (.int m) t
section
variable (W : Cl) (as : List D) (t : Ts) (P : D → Ts → Prop)
theorem len_House___init__ (h : sp_House___init__ W as t P) : as.length + 1 = 3 := by
  obtain ⟨_, _, rfl | rfl, _⟩ := h <;> rfl
theorem len_House_base (h : sp_House_base W as t P) : as.length = 1 := by obtain ⟨_, _, rfl, _⟩ := h; rfl
theorem len_House_beginning (h : sp_House_beginning W as t P) : as.length = 1 := by obtain ⟨_, _, rfl, _⟩ := h; rfl
theorem len_House_reach (h : sp_House_reach W as t P) : as.length = 1 := by obtain ⟨_, _, rfl, _⟩ := h; rfl
theorem len_House_folk (h : sp_House_folk W as t P) : as.length = 1 := by obtain ⟨_, _, rfl, _⟩ := h; rfl
theorem len_House_last_place (h : sp_House_last_place W as t P) : as.length = 2 := by obtain ⟨_, _, _, rfl, _⟩ := h; rfl
theorem len_House_first_place (h : sp_House_first_place W as t P) : as.length = 2 := by obtain ⟨_, _, _, rfl, _⟩ := h; rfl
theorem len_House_times (h : sp_House_times W as t P) : as.length = 2 := by obtain ⟨_, _, _, rfl, _⟩ := h; rfl
theorem len_House_ahead_of (h : sp_House_ahead_of W as t P) : as.length = 4 := by obtain ⟨_, _, _, _, rfl, _⟩ := h; rfl
theorem len_House_said (h : sp_House_said W as t P) : as.length = 2 := by obtain ⟨_, _, _, rfl, _⟩ := h; rfl
theorem len_last_by (h : sp_last_by as t P) : as.length = 3 := by obtain ⟨_, _, _, rfl, _⟩ := h; rfl
end
theorem nopens_ints : ∀ l : List Int, nopens (l.map .int) = true
  | [] => rfl
  | a :: l => by simp [nopens, nopen, nopens_ints l]
theorem np_House___init__ (W : Cl) (as : List D) (t : Ts) (P : D → Ts → Prop) (h : sp_House___init__ W as t P) : nopens as = true := by
  obtain ⟨_, _, rfl | rfl, _⟩ := h <;> simp [nopens, nopen, nopens_ints]
def d_House_sumsE (W : Cl) : DE := (dOp oAdd (dOp oSub (dVar 3) (dC (.int 1))) (dIfE (dB (dOp oNe (dFld W.House "sums" (dVar 0)) (dLst dNil))) (dOp oIx (dFld W.House "sums" (dVar 0)) (dUn oNeg (dC (.int 1)))) (dC (.int 0))))
def d_House___init__ (W : Cl) : IS := (iThen (iGuard (dNot (dB (dCall sp_is_base [] (dCons (dVar 1) dNil))))) (iThen (iGuard (dNot (dB (dCall sp_is_beginning [] (dCons (dVar 1) (dCons (dVar 2) dNil)))))) (iThen (iSet "kept_base" (dVar 1)) (iThen (iSet "kept_beginning" (dCB bList (dCons (dVar 2) dNil))) (iSums 2 3)))))
def d_House_reach (W : Cl) : DS := (dSeq (dRet (dOp oIx (dFld W.House "sums" (dVar 0)) (dUn oNeg (dC (.int 1))))) dNext)
def d_House_folk (W : Cl) : DS := (dSeq (dRet (dCB bSum (dCons (dFld W.House "kept_beginning" (dVar 0)) dNil))) dNext)
def d_last_by : DS := (dSeq (dIf (dB (dOp oEq (dVar 2) (dC (.int 0)))) (dSeq (dRet (dC (.int 0))) dNext) dNext) (dSeq (dAsg (dCall sp_signs_of [] (dCons (dVar 2) (dCons (dVar 0) dNil))) (gName 3)) (dSeq (dRet (dOp oAdd (dOp oAdd (dOp oAdd (dVar 2) (dCall sp_heap_of [] (dCons (dVar 2) (dCons (dVar 0) dNil)))) (dOp oMul (dOp oSub (dCB bLen (dCons (dVar 3) dNil)) (dC (.int 1))) (dOp oIx (dVar 1) (dUn oNeg (dC (.int 1)))))) (dOp oIx (dVar 1) (dOp oSub (dOp oIx (dVar 3) (dC (.int 0))) (dC (.int 1)))))) dNext)))
def d_House_last_place (W : Cl) : DS := (dSeq (dRet (dCall sp_last_by [] (dCons (dFld W.House "kept_base" (dVar 0)) (dCons (dFld W.House "sums" (dVar 0)) (dCons (dVar 1) dNil))))) dNext)
def d_House_first_place (W : Cl) : DS := (dSeq (dRet (dOp oAdd (dMeth W.House "last_place" (sp_House_last_place W) [] (dVar 0) (dCons (dOp oSub (dVar 1) (dC (.int 1))) dNil)) (dC (.int 1)))) dNext)
def d_House_times (W : Cl) : DS := (dSeq (dRet (dOp oSub (dMeth W.House "last_place" (sp_House_last_place W) [] (dVar 0) (dCons (dVar 1) dNil)) (dMeth W.House "last_place" (sp_House_last_place W) [] (dVar 0) (dCons (dOp oSub (dVar 1) (dC (.int 1))) dNil)))) dNext)
def d_House_ahead_of (W : Cl) : DS := (dSeq (dAsg (dFld W.House "kept_base" (dVar 0)) (gName 4)) (dSeq (dAsg (dOp oSub (dOp oMul (dVar 3) (dVar 1)) (dC (.int 1))) (gName 5)) (dSeq (dIf (dB (dOp oEq (dVar 5) (dC (.int 0)))) (dSeq (dRet (dC (.int 0))) dNext) dNext) (dSeq (dIf (dB (dOp oEq (dVar 3) (dC (.int 1)))) (dSeq (dPar 7 8 (dCons (dOp oSub (dVar 2) (dC (.int 1))) (dCons (dOp oSub (dVar 4) (dC (.int 1))) dNil))) dNext) (dSeq (dPar 7 8 (dCons (dVar 2) (dCons (dOp oSub (dVar 3) (dC (.int 1))) dNil))) dNext)) (dSeq (dAsg (dOp oAdd (dVar 8) (dOp oMul (dOp oSub (dVar 4) (dC (.int 1))) (dVar 7))) (gName 6)) (dSeq (dRet (dOp oAdd (dOp oAdd (dOp oAdd (dVar 5) (dOp oDiv (dOp oSub (dVar 5) (dVar 6)) (dOp oSub (dVar 4) (dC (.int 1))))) (dOp oMul (dVar 7) (dOp oIx (dFld W.House "sums" (dVar 0)) (dUn oNeg (dC (.int 1)))))) (dOp oIx (dFld W.House "sums" (dVar 0)) (dOp oSub (dVar 8) (dC (.int 1)))))) dNext))))))
def d_House_said (W : Cl) : DS := (dSeq (dAsg (dTup (dCons (dFld W.House "kept_base" (dVar 0)) (dCons (dC (.int 0)) (dCons (dC (.int 1)) (dCons (dC (.int 1)) dNil))))) (gTup 4 (gCons (gName 5) (gCons (gName 6) (gCons (gName 7) (gCons (gName 8) gNil)))))) (dSeq (dWhile (dB (dOp oLt (dMeth W.House "ahead_of" (sp_House_ahead_of W) [] (dVar 0) (dCons (dOp oMul (dVar 7) (dVar 5)) (dCons (dOp oAdd (dVar 6) (dC (.int 1))) (dCons (dC (.int 1)) dNil)))) (dVar 1))) (dSeq (dAug 6 oAddI (dC (.int 1))) (dSeq (dAug 7 oMulI (dVar 5)) dNext))) (dSeq (dWhile (dAnd (dB (dOp oLt (dVar 8) (dOp oSub (dVar 5) (dC (.int 1))))) (dB (dOp oLt (dMeth W.House "ahead_of" (sp_House_ahead_of W) [] (dVar 0) (dCons (dVar 7) (dCons (dVar 6) (dCons (dOp oAdd (dVar 8) (dC (.int 1))) dNil)))) (dVar 1)))) (dSeq (dAug 8 oAddI (dC (.int 1))) dNext)) (dSeq (dAsg (dOp oSub (dOp oSub (dVar 1) (dOp oMul (dVar 6) (dOp oIx (dFld W.House "sums" (dVar 0)) (dUn oNeg (dC (.int 1)))))) (dOp oIx (dFld W.House "sums" (dVar 0)) (dOp oSub (dVar 8) (dC (.int 1))))) (gName 2)) (dSeq (dAsg (dOp oSub (dCB bMax (dCons (dOp oMul (dVar 8) (dVar 7)) (dCons (dOp oDiv (dOp oMul (dVar 2) (dOp oSub (dVar 5) (dC (.int 1)))) (dVar 5)) dNil))) (dC (.int 1))) (gName 3)) (dSeq (dAsg (dCB bMin (dCons (dOp oSub (dOp oMul (dOp oAdd (dVar 8) (dC (.int 1))) (dVar 7)) (dC (.int 1))) (dCons (dOp oAdd (dOp oAdd (dVar 3) (dVar 6)) (dC (.int 3))) dNil))) (gName 4)) (dSeq (dWhile (dB (dOp oGt (dOp oSub (dVar 4) (dVar 3)) (dC (.int 1)))) (dSeq (dAsg (dOp oDiv (dOp oAdd (dVar 3) (dVar 4)) (dC (.int 2))) (gName 9)) (dSeq (dIf (dB (dOp oLt (dOp oAdd (dVar 9) (dCall sp_heap_of [] (dCons (dVar 9) (dCons (dVar 5) dNil)))) (dVar 2))) (dSeq (dAsg (dVar 9) (gName 3)) dNext) (dSeq (dAsg (dVar 9) (gName 4)) dNext)) dNext))) (dSeq (dRet (dVar 4)) dNext))))))))
theorem sumsE_House (W : Cl) : SumsE W.House 3 (d_House_sumsE W) := by
  intro env t P ns l cur m h0 h1 h3 k
  match env, h0, h3 with
  | a0 :: a1 :: a2 :: a3 :: r, h0, h3 =>
  cases h0
  cases h3
  conv => whnf
  refine ⟨rfl, ?_⟩
  conv => whnf
  rw [h1]
  conv => whnf
  refine ⟨eqok_ints cur [], ?_⟩
  conv => whnf
  refine Br.mk (fun hc => ?_) (fun hc => ?_)
  · have hc : cur ≠ [] := deqn_t (b := []) hc
    conv => whnf
    refine ⟨rfl, ?_⟩
    conv => whnf
    rw [h1]
    conv => whnf
    have hl : 0 < cur.length := List.length_pos_iff.mpr hc
    refine ⟨.int (cur.getLastD 0), ?_, k⟩
    unfold atI
    rw [if_neg (by decide), if_pos (by rw [List.length_map]; omega), List.getElem?_map]
    rw [show ((-1 : Int) + ((cur.map D.int).length : Int)).toNat = cur.length - 1 by rw [List.length_map]; omega, List.getElem?_eq_getElem (by omega)]
    simp [List.getLastD_eq_getLast?, List.getLast?_eq_getElem?, List.getElem?_eq_getElem (show cur.length - 1 < cur.length by omega)]
  · have hc : cur = [] := deqn_f (b := []) hc
    subst hc
    exact k
theorem Hou.isBeg {b : Int} {bs : List Int} (h : Hou b bs) : bs.all (fun x => isCount (.int x)) = true := List.all_eq_true.mpr fun x hx => decide_eq_true (by have := h.pos x hx; omega)
theorem all_map_int (bs : List Int) : (bs.map D.int).all isCount = bs.all (fun x => isCount (.int x)) := by
  induction bs with
  | nil => rfl
  | cons a l ih => rw [List.map_cons, List.all_cons, List.all_cons, ih]
theorem beg_lst {b : Int} {bs : List Int} (h : Hou b bs) : isBeg b (.lst (bs.map .int)) = true := by
  show (decide (((bs.map D.int).length : Int) = b - 1) && (bs.map D.int).all isCount) = true
  rw [List.length_map, h.len, all_map_int, h.isBeg]
  simp
theorem beg_tup {b : Int} {bs : List Int} (h : Hou b bs) : isBeg b (.tup (bs.map .int)) = true := by
  show (decide (((bs.map D.int).length : Int) = b - 1) && (bs.map D.int).all isCount) = true
  rw [List.length_map, h.len, all_map_int, h.isBeg]
  simp
theorem tnOk_ints (bs : List Int) : ∀ x ∈ bs.map D.int, tnOk x := fun x hx => by
  obtain ⟨i, _, rfl⟩ := List.mem_map.mp hx
  exact ⟨_, rfl⟩
theorem d_House___init___ok (W : Cl) (as : List D) (t : Ts) (P : D → Ts → Prop) (x : Addr) (h : sp_House___init__ W as t P) : d_House___init__ W (fun ns l env t' => t' = t ∧ P (.ins W.House ns l) t) [] [] (startI x ["k", "beginning", "many"] as) t := by
  obtain ⟨b, bs, hd, hh, k⟩ := h
  have hl := hh.len
  have h2 := hh.b2
  have h30 := hh.b30
  rcases hd with rfl | rfl
  · conv => whnf
    refine ⟨_, rfl, ⟨_, rfl⟩, ?_⟩
    conv => whnf
    refine br_ne (⟨h2, h30⟩) ?_
    conv => whnf
    refine ⟨_, _, rfl, ⟨_, rfl⟩, fun l hl' => ?_, ?_⟩
    · rcases hl' with z | z
      · cases z
        exact ⟨by rw [List.length_map]; omega, tnOk_ints bs⟩
      · cases z
    rw [beg_lst hh]
    conv => whnf
    refine ⟨⟨rfl, by decide⟩, ?_⟩
    conv => whnf
    refine ⟨⟨rfl, by decide⟩, ?_⟩
    conv => whnf
    refine ⟨bs, rfl, by omega, ⟨rfl, by decide, (show 3 < 4 by decide)⟩, fun s => ⟨rfl, k⟩⟩
  · conv => whnf
    refine ⟨_, rfl, ⟨_, rfl⟩, ?_⟩
    conv => whnf
    refine br_ne (⟨h2, h30⟩) ?_
    conv => whnf
    refine ⟨_, _, rfl, ⟨_, rfl⟩, fun l hl' => ?_, ?_⟩
    · rcases hl' with z | z
      · cases z
      · cases z
        exact ⟨by rw [List.length_map]; omega, tnOk_ints bs⟩
    rw [beg_tup hh]
    conv => whnf
    refine ⟨⟨rfl, by decide⟩, ?_⟩
    conv => whnf
    refine ⟨⟨rfl, by decide⟩, ?_⟩
    conv => whnf
    refine ⟨bs, rfl, by omega, ⟨rfl, by decide, (show 3 < 4 by decide)⟩, fun s => ⟨rfl, k⟩⟩
section
variable (W : Cl) (as : List D) (t : Ts) (P : D → Ts → Prop)
theorem d_House_reach_ok (h : sp_House_reach W as t P) : d_House_reach W (endsOf P) (start0 ["self"] as) t := by
  obtain ⟨b, bs, rfl, hh, k⟩ := h
  conv => whnf
  refine ⟨rfl, ?_⟩
  conv => whnf
  exact ⟨_, sums_last hh, k⟩
theorem d_House_folk_ok (h : sp_House_folk W as t P) : d_House_folk W (endsOf P) (start0 ["self"] as) t := by
  obtain ⟨b, bs, rfl, k⟩ := h
  conv => whnf
  refine ⟨rfl, ?_⟩
  conv => whnf
  exact ⟨_, ints_map bs, k⟩
theorem d_last_by_ok (h : sp_last_by as t P) : d_last_by (endsOf P) (start0 ["base", "sums", "number", "signs"] as) t := by
  obtain ⟨b, bs, n, rfl, hh, h0, hs, k⟩ := h
  have h2 := hh.b2
  have h30 := hh.b30
  conv => whnf
  refine Br.mk (fun hn => ?_) (fun hn => ?_)
  · have hn : n = 0 := of_decide_eq_true hn
    conv => whnf
    rw [Lp_le0 (by omega)] at k
    exact k
  · have hn : ¬ n = 0 := of_decide_eq_false hn
    have hn0 : 0 < n := by omega
    have hlen := sigs_len h2 _ n h0 hs
    have hpos := List.length_pos_iff.mpr (sigs_ne hn0 h2)
    have hhd := sigs_mem h2 _ n (Nat.le_refl _) ((sigs b n).getD 0 0) (by
      rw [List.getD_eq_getElem?_getD, List.getElem?_eq_getElem hpos]
      exact List.getElem_mem hpos)
    have hh0 := sigs_head h2 _ n hn0 (Nat.le_refl _)
    conv => whnf
    refine ⟨_, _, rfl, h0, h2, by omega, hs, ?_⟩
    conv => whnf
    refine ⟨_, _, rfl, h2, by omega, ?_⟩
    conv => whnf
    refine ⟨_, sums_last hh, ?_⟩
    conv => whnf
    refine ⟨.l (by omega) (by rw [List.length_map]; omega), ?_⟩
    conv => whnf
    refine ⟨_, atI_ints0 (by omega), ?_⟩
    conv => whnf
    refine ⟨_, sums_at hh (by omega) hhd.2, ?_⟩
    conv => whnf
    rw [Lp_sigs hh _ n (Nat.le_refl _) hn0] at k
    rw [List.length_map]
    exact k
theorem d_House_last_place_ok (h : sp_House_last_place W as t P) : d_House_last_place W (endsOf P) (start0 ["self", "number"] as) t := by
  obtain ⟨b, bs, n, rfl, hh, h0, hs, k⟩ := h
  conv => whnf
  refine ⟨rfl, ?_⟩
  conv => whnf
  refine ⟨rfl, ?_⟩
  conv => whnf
  exact ⟨_, _, _, rfl, hh, h0, hs, k⟩
theorem d_House_first_place_ok (h : sp_House_first_place W as t P) : d_House_first_place W (endsOf P) (start0 ["self", "number"] as) t := by
  obtain ⟨b, bs, n, rfl, hh, h0, hs, k⟩ := h
  conv => whnf
  refine ⟨rfl, ?_⟩
  conv => whnf
  refine ⟨rfl, ?_⟩
  conv => whnf
  exact ⟨_, _, _, rfl, hh, by omega, Sm.of (by omega) (by omega) hs, k⟩
theorem d_House_times_ok (h : sp_House_times W as t P) : d_House_times W (endsOf P) (start0 ["self", "number"] as) t := by
  obtain ⟨b, bs, n, rfl, hh, h0, hs, k⟩ := h
  conv => whnf
  refine ⟨rfl, ?_⟩
  conv => whnf
  refine ⟨rfl, ?_⟩
  conv => whnf
  refine ⟨_, _, _, rfl, hh, by omega, hs, ?_⟩
  conv => whnf
  refine ⟨rfl, ?_⟩
  conv => whnf
  refine ⟨rfl, ?_⟩
  conv => whnf
  exact ⟨_, _, _, rfl, hh, by omega, Sm.of (by omega) (by omega) hs, k⟩
theorem d_House_ahead_of_ok (h : sp_House_ahead_of W as t P) : d_House_ahead_of W (endsOf P) (start0 ["self", "power", "exponent", "sign", "base", "number", "signs", "steps", "first"] as) t := by
  obtain ⟨b, bs, c, e, rfl, he9, hh, c1, c2, k⟩ := h
  have h2 := hh.b2
  have h30 := hh.b30
  have hp := pow_pos' h2 e
  conv => whnf
  refine ⟨rfl, ?_⟩
  conv => whnf
  refine ⟨.l (by omega) (by omega), ?_⟩
  conv => whnf
  refine Br.mk (fun hn => ?_) (fun hn => ?_)
  · have hn : c * b ^ e - 1 = 0 := of_decide_eq_true hn
    rw [hn, Lp_le0 (by decide)] at k
    exact k
  · have hn : ¬ c * b ^ e - 1 = 0 := of_decide_eq_false hn
    conv => whnf
    refine Br.mk (fun hc => ?_) (fun hc => ?_)
    · have hc : c = 1 := of_decide_eq_true hc
      subst hc
      have he : ∃ s : Nat, e = s + 1 := by
        cases e with
        | zero => simp at hn
        | succ s => exact ⟨s, rfl⟩
      obtain ⟨s, rfl⟩ := he
      have A := Lp_ahead hh (f := b - 1) (by omega) (by omega) s
      have e1 : (b - 1 + 1) * b ^ s = 1 * b ^ (s + 1) := by rw [Int.pow_succ, Int.one_mul, Int.mul_comm]; congr 1; omega
      rw [e1] at A
      rw [A] at k
      have e2 : ((s + 1 : Nat) : Int) - 1 = s := by omega
      conv => whnf
      refine ⟨.l (by omega) (by omega), ?_⟩
      conv => whnf
      refine ⟨.s (by omega) (by omega), ?_⟩
      conv => whnf
      refine ⟨rfl, ?_⟩
      conv => whnf
      refine ⟨_, sums_last hh, ?_⟩
      conv => whnf
      refine ⟨.l (by omega) (by omega), ?_⟩
      conv => whnf
      refine ⟨rfl, ?_⟩
      conv => whnf
      refine ⟨_, sums_at hh (by omega) (by omega), ?_⟩
      conv => whnf
      rw [e2]
      exact k
    · have hc : ¬ c = 1 := of_decide_eq_false hc
      have A := Lp_ahead hh (f := c - 1) (by omega) (by omega) e
      rw [show c - 1 + 1 = c by omega] at A
      rw [A] at k
      conv => whnf
      refine ⟨.l (by omega) (by omega), ?_⟩
      conv => whnf
      refine ⟨.s (by omega) (by omega), ?_⟩
      conv => whnf
      refine ⟨rfl, ?_⟩
      conv => whnf
      refine ⟨_, sums_last hh, ?_⟩
      conv => whnf
      refine ⟨.l (by omega) (by omega), ?_⟩
      conv => whnf
      refine ⟨rfl, ?_⟩
      conv => whnf
      refine ⟨_, sums_at hh (by omega) (by omega), ?_⟩
      exact k
end
theorem two_pow_le {b : Int} (h2 : 2 ≤ b) : ∀ e : Nat, (2 : Int) ^ e ≤ b ^ e
  | 0 => by simp
  | e + 1 => by
    rw [Int.pow_succ, Int.pow_succ]
    exact Int.mul_le_mul (two_pow_le h2 e) h2 (by decide) (Int.le_of_lt (pow_pos' h2 e))
/-- where the search begins and ends -/
theorem said_lo {b m w H : Int} (h2 : 2 ≤ b) (hw : w ≤ m + H) (hH : (b - 1) * H ≤ m) : w * (b - 1) / b ≤ m := by
  refine Int.ediv_le_of_le_mul (by omega) ?_
  have h1 := Int.mul_le_mul_of_nonneg_left hw (show 0 ≤ b - 1 by omega)
  rw [Int.mul_add, Int.mul_comm (b - 1) w] at h1
  have h3 : (b - 1) * m = m * b - m := by rw [Int.sub_mul, Int.one_mul, Int.mul_comm]
  omega
theorem said_hi {b n w H e : Int} (h2 : 2 ≤ b) (hn : w * (b - 1) / b + e + 2 ≤ n) (hH : n - (b - 1) * (e + 1) ≤ (b - 1) * H) (he : 0 ≤ e) : w ≤ n + H := by
  rcases Int.lt_or_le (n + H) w with h | h
  · exfalso
    have q1 := Int.mul_ediv_add_emod (w * (b - 1)) b
    have q2 := Int.emod_lt_of_pos (w * (b - 1)) (show 0 < b by omega)
    generalize w * (b - 1) / b = v at *
    generalize hk : b - 1 = k at *
    have hb : b = k + 1 := by omega
    subst hb
    have p1 := Int.mul_le_mul_of_nonneg_left hn (show 0 ≤ k by omega)
    have p2 := Int.mul_le_mul_of_nonneg_left (show n + H + 1 ≤ w by omega) (show 0 ≤ k by omega)
    rw [Int.mul_add, Int.mul_add] at p1 p2
    rw [Int.mul_add] at hH
    rw [Int.add_mul, Int.one_mul] at q1
    rw [Int.mul_comm w k] at q1 q2
    omega
  · exact h
section
variable (W : Cl) (as : List D) (t : Ts) (P : D → Ts → Prop)
theorem d_House_said_ok (h : sp_House_said W as t P) : d_House_said W (endsOf P) (start0 ["self", "place", "wanted", "low", "high", "base", "exponent", "power", "sign", "middle"] as) t := by
  obtain ⟨b, bs, p, rfl, hh, hp1, hps, k⟩ := h
  have h2 := hh.b2
  have h30 := hh.b30
  obtain ⟨m, hm⟩ := Sa.ex hh hp1
  have k := k m hm
  -- how many powers lie below
  have few : ∀ e : Nat, b ^ e ≤ p → e ≤ 1000000 := fun e he => by
    rcases Nat.lt_or_ge 1000000 e with z | z
    · exfalso
      have h1 := two_pow_le h2 e
      have h3 : (2 : Nat) ^ 1000000 ≤ 2 ^ e := Nat.pow_le_pow_right (by decide) (by omega)
      have h4 : (((2 : Nat) ^ e : Nat) : Int) = (2 : Int) ^ e := by simp
      unfold Sm at hps
      omega
    · exact z
  conv => whnf
  refine ⟨rfl, ?_⟩
  conv => whnf
  refine ⟨rfl, ?_⟩
  conv => whnf
  refine ⟨fun e m => t = m ∧ ∃ x : Nat, x ≤ 1000000 ∧ Lp b bs (b ^ x - 1) < p ∧ e = [.val (hD W b bs), .val (.int p), .no, .no, .no, .val (.int b), .val (.int x), .val (.int (b ^ x)), .val (.int 1), .no], fun e m => match e with | [_, _, _, _, _, _, _, .val (.int y), _, _] => (p - y).toNat | _ => 0, ⟨rfl, 0, by decide, by rw [Lp_le0 (by simp)]; omega, by simp; rfl⟩, fun e m hI => ?_⟩
  obtain ⟨rfl, x, hx, hxp, rfl⟩ := hI
  have hpx := pow_pos' h2 x
  conv => whnf
  refine ⟨rfl, ?_⟩
  conv => whnf
  refine ⟨rfl, ?_⟩
  conv => whnf
  refine ⟨.r (by omega) (by omega), ?_⟩
  conv => whnf
  refine ⟨b, bs, 1, x + 1, by rw [Int.pow_succ]; rfl, by omega, hh, by decide, by omega, ?_⟩
  conv => whnf
  refine Br.mk (fun hc => ?_) (fun hc => ?_)
  · have hc : Lp b bs (1 * b ^ (x + 1) - 1) < p := of_decide_eq_true hc
    rw [Int.one_mul] at hc
    have h3 := Lp_ge_self hh (n := b ^ (x + 1) - 1) (by have := pow_pos' h2 (x + 1); omega)
    have h4 : b ^ (x + 1) = b ^ x * b := Int.pow_succ ..
    conv => whnf
    refine ⟨.r (by omega) (by omega), ?_⟩
    conv => whnf
    refine ⟨⟨rfl, x + 1, few _ (by omega), hc, by rw [h4]; rfl⟩, ?_⟩
    show (p - b ^ x * b).toNat < (p - b ^ x).toNat
    have : b ^ x * 2 ≤ b ^ x * b := Int.mul_le_mul_of_nonneg_left h2 (by omega)
    omega
  have hc : p ≤ Lp b bs (b ^ (x + 1) - 1) := by
    have := of_decide_eq_false hc
    rw [Int.one_mul] at this
    omega
  conv => whnf
  refine ⟨fun e m => t = m ∧ ∃ c, 1 ≤ c ∧ c < b ∧ Lp b bs (c * b ^ x - 1) < p ∧ e = [.val (hD W b bs), .val (.int p), .no, .no, .no, .val (.int b), .val (.int x), .val (.int (b ^ x)), .val (.int c), .no], fun e m => match e with | [_, _, _, _, _, _, _, _, .val (.int y), _] => (b - y).toNat | _ => 0, ⟨rfl, 1, by decide, by omega, by rw [Int.one_mul]; exact hxp, rfl⟩, fun e m hI => ?_⟩
  obtain ⟨rfl, c, c1, c2, hcp, rfl⟩ := hI
  have tail : p ≤ Lp b bs ((c + 1) * b ^ x - 1) → dSeq (dAsg (dOp oSub (dOp oSub (dVar 1) (dOp oMul (dVar 6) (dOp oIx (dFld W.House "sums" (dVar 0)) (dUn oNeg (dC (.int 1)))))) (dOp oIx (dFld W.House "sums" (dVar 0)) (dOp oSub (dVar 8) (dC (.int 1))))) (gName 2)) (dSeq (dAsg (dOp oSub (dCB bMax (dCons (dOp oMul (dVar 8) (dVar 7)) (dCons (dOp oDiv (dOp oMul (dVar 2) (dOp oSub (dVar 5) (dC (.int 1)))) (dVar 5)) dNil))) (dC (.int 1))) (gName 3)) (dSeq (dAsg (dCB bMin (dCons (dOp oSub (dOp oMul (dOp oAdd (dVar 8) (dC (.int 1))) (dVar 7)) (dC (.int 1))) (dCons (dOp oAdd (dOp oAdd (dVar 3) (dVar 6)) (dC (.int 3))) dNil))) (gName 4)) (dSeq (dWhile (dB (dOp oGt (dOp oSub (dVar 4) (dVar 3)) (dC (.int 1)))) (dSeq (dAsg (dOp oDiv (dOp oAdd (dVar 3) (dVar 4)) (dC (.int 2))) (gName 9)) (dSeq (dIf (dB (dOp oLt (dOp oAdd (dVar 9) (dCall sp_heap_of [] (dCons (dVar 9) (dCons (dVar 5) dNil)))) (dVar 2))) (dSeq (dAsg (dVar 9) (gName 3)) dNext) (dSeq (dAsg (dVar 9) (gName 4)) dNext)) dNext))) (dSeq (dRet (dVar 4)) dNext)))) (endsOf P) [.val (hD W b bs), .val (.int p), .no, .no, .no, .val (.int b), .val (.int x), .val (.int (b ^ x)), .val (.int c), .no] t := by
    intro hcq
    have m0 : c * b ^ x ≤ m := by
      rcases Int.lt_or_le m (c * b ^ x) with z | z
      · have := Lp_le_of hh (m := m) (n := c * b ^ x - 1) (by have := hm.m1; omega) (by omega)
        have := hm.hi
        omega
      · exact z
    have m9 : m < (c + 1) * b ^ x := by
      rcases Int.lt_or_le m ((c + 1) * b ^ x) with z | z
      · exact z
      · have h6 : 0 < (c + 1) * b ^ x := Int.mul_pos (by omega) hpx
        have := Lp_le_of hh (m := (c + 1) * b ^ x - 1) (n := m - 1) (by omega) (by omega)
        have := hm.lo
        omega
    have hLm := Lp_in hh c1 c2 x m m0 m9
    have hHm := heap_in h2 c1 c2 x m m0 m9
    conv => whnf
    refine ⟨rfl, ?_⟩
    conv => whnf
    refine ⟨_, sums_last hh, ?_⟩
    conv => whnf
    refine ⟨.l (by omega) (by omega), ?_⟩
    conv => whnf
    refine ⟨rfl, ?_⟩
    conv => whnf
    refine ⟨_, sums_at hh c1 c2, ?_⟩
    conv => whnf
    refine ⟨.l (by omega) (by omega), ?_⟩
    conv => whnf
    refine ⟨.r (by omega) (by omega), ?_⟩
    conv => whnf
    refine ⟨.s (by omega) (by omega), ?_⟩
    conv => whnf
    generalize hw : p - x * Re bs - Su bs c = w
    have hwm : w ≤ m + heap b m := by have := hm.hi; omega
    have lo1 := said_lo h2 hwm hHm.2
    refine ⟨.l (by omega) (by omega), ?_⟩
    conv => whnf
    generalize hA : c * b ^ x = A at *
    generalize hE : (c + 1) * b ^ x = E at *
    have hAE : 0 < A := by rw [← hA]; exact Int.mul_pos (by omega) hpx
    -- the beginning's bounds
    generalize hl : (if w * (b - 1) / b > A then w * (b - 1) / b else A) - 1 = low
    have l1 : low < m := by rw [← hl]; split <;> omega
    have l2 : A - 1 ≤ low := by rw [← hl]; split <;> omega
    have l3 : w * (b - 1) / b - 1 ≤ low := by rw [← hl]; split <;> omega
    generalize hg : (if low + x + 3 < E - 1 then low + x + 3 else E - 1) = high
    have g1 : m ≤ high := by
      rw [← hg]
      split
      · rename_i hlt
        rcases Int.lt_or_le (low + x + 3) m with z | z
        · exfalso
          have i1 := heap_in h2 c1 c2 x (low + x + 3) (by rw [hA]; omega) (by rw [hE]; omega)
          have i2 := said_hi (e := x) h2 (show w * (b - 1) / b + x + 2 ≤ low + x + 3 by omega) i1.1 (by omega)
          have i3 := Lp_in hh c1 c2 x (low + x + 3) (by rw [hA]; omega) (by rw [hE]; omega)
          have i4 := Lp_le_of hh (m := low + x + 3) (n := m - 1) (by omega) (by omega)
          have := hm.lo
          omega
        · exact z
      · omega
    have g2 : high ≤ E - 1 := by rw [← hg]; split <;> omega
    clear hl hg l3
    refine ⟨fun e u => t = u ∧ ∃ lo hi s9, A - 1 ≤ lo ∧ lo < m ∧ m ≤ hi ∧ hi ≤ E - 1 ∧ e = [.val (hD W b bs), .val (.int p), .val (.int w), .val (.int lo), .val (.int hi), .val (.int b), .val (.int x), .val (.int (b ^ x)), .val (.int c), s9], fun e m => match e with | [_, _, _, .val (.int y), .val (.int z), _, _, _, _, _] => (z - y).toNat | _ => 0, ⟨rfl, _, _, _, l2, l1, g1, g2, rfl⟩, fun e u hI => ?_⟩
    obtain ⟨rfl, lo, hi, s9, a1, a2, a3, a4, rfl⟩ := hI
    conv => whnf
    refine Br.mk (fun hd => ?_) (fun hd => ?_)
    · have hd : 1 < hi - lo := of_decide_eq_true hd
      conv => whnf
      refine ⟨.s (by decide) (by decide), ?_⟩
      conv => whnf
      have d1 : lo < (lo + hi) / 2 := by omega
      have d2 : (lo + hi) / 2 < hi := by omega
      generalize (lo + hi) / 2 = mid at *
      have hLd := Lp_in hh c1 c2 x mid (by rw [hA]; omega) (by rw [hE]; omega)
      refine ⟨_, _, rfl, h2, by omega, ?_⟩
      conv => whnf
      refine Br.mk (fun hq => ?_) (fun hq => ?_)
      · have hq : mid + heap b mid < w := of_decide_eq_true hq
        have : mid < m := by
          rcases Int.lt_or_le mid m with z | z
          · exact z
          · have := Lp_le_of hh (m := m) (n := mid) (by have := hm.m1; omega) z
            have := hm.hi
            omega
        exact ⟨⟨rfl, mid, hi, _, by omega, this, a3, a4, rfl⟩, by show (hi - mid).toNat < (hi - lo).toNat; omega⟩
      · have hq : ¬ mid + heap b mid < w := of_decide_eq_false hq
        have : m ≤ mid := by
          rcases Int.lt_or_le mid m with z | z
          · have := Lp_le_of hh (m := mid) (n := m - 1) (by omega) (by omega)
            have := hm.lo
            omega
          · exact z
        exact ⟨⟨rfl, lo, mid, _, a1, a2, this, by omega, rfl⟩, by show (mid - lo).toNat < (hi - lo).toNat; omega⟩
    · have hd : ¬ 1 < hi - lo := of_decide_eq_false hd
      conv => whnf
      rw [show hi = m by omega]
      exact k
  conv => whnf
  refine Br.mk (fun hd => ?_) (fun hd => ?_)
  · have hd : c < b - 1 := of_decide_eq_true hd
    conv => whnf
    refine ⟨rfl, ?_⟩
    conv => whnf
    refine ⟨rfl, ?_⟩
    conv => whnf
    refine ⟨b, bs, c + 1, x, rfl, by omega, hh, by omega, by omega, ?_⟩
    conv => whnf
    refine Br.mk (fun he => ?_) (fun he => ?_)
    · have he : Lp b bs ((c + 1) * b ^ x - 1) < p := of_decide_eq_true he
      exact ⟨⟨rfl, c + 1, by omega, by omega, he, rfl⟩, by show (b - (c + 1)).toNat < (b - c).toNat; omega⟩
    · have he : ¬ Lp b bs ((c + 1) * b ^ x - 1) < p := of_decide_eq_false he
      exact tail (by omega)
  · have hd : ¬ c < b - 1 := of_decide_eq_false hd
    refine tail ?_
    have e1 : (c + 1) * b ^ x = b ^ (x + 1) := by rw [Int.pow_succ, Int.mul_comm]; congr 1; omega
    rw [e1]
    exact hc
end
end Q

/-! MHLaw -/
namespace Q
open PySem
/-! ### sizes of last places -/
section
variable {b : Int} {bs : List Int}
theorem Lp_up (h : Hou b bs) : ∀ (k : Nat) (n : Int), n.toNat ≤ k → 0 ≤ n → Lp b bs n ≤ n * (2 + Re bs)
  | 0, n, h0, h1 => by
    have : n = 0 := by omega
    subst this
    rw [Lp_le0 (by decide)]
    simp
  | k + 1, n, h0, h1 => by
    have h2 := h.b2
    have hR := Re_nn h
    by_cases hn : 0 < n
    · by_cases hb : n < b
      · rw [Lp_lt h2 hn hb]
        have h3 := Su_re h (j := n) (by omega) (by have := h.len; omega)
        have h4 : 1 * Re bs ≤ n * Re bs := Int.mul_le_mul_of_nonneg_right (by omega) hR
        rw [Int.mul_add]
        omega
      · have h3 := ediv_toNat_lt (b := b) (x := n) ⟨hn, h2⟩
        have h5 := Int.ediv_nonneg h1 (show 0 ≤ b by omega)
        have h4 := Lp_up h k (n / b) (by omega) h5
        have h6 := ediv_le2 h1 h2
        have h7 : 1 ≤ n / b := by
          have := Int.ediv_le_ediv (show 0 < b by omega) (show b ≤ n by omega)
          rw [Int.ediv_self (by omega)] at this
          exact this
        rw [Lp_ge h2 (by omega)]
        have h8 : (n / b + 1) * Re bs ≤ n * Re bs := Int.mul_le_mul_of_nonneg_right (by omega) hR
        rw [Int.add_mul, Int.one_mul] at h8
        rw [Int.mul_add] at h4 ⊢
        omega
    · have : n = 0 := by omega
      subst this
      rw [Lp_le0 (by decide)]
      simp
theorem Lp_nn (h : Hou b bs) {n : Int} (h0 : 0 ≤ n) : 0 ≤ Lp b bs n := Int.le_trans h0 (Lp_ge_self h h0)
theorem Lp_sm (h : Hou b bs) {n : Int} {x y : Nat} (h0 : 0 ≤ n) (hn : Sm x n) (hR : Sm y (Re bs)) (hy : 2 ≤ y) : Sm (x + (y + 1)) (Lp b bs n) := by
  refine Sm.of (Lp_nn h h0) (Lp_up h _ n (Nat.le_refl _) h0) (Sm.mul hn ?_)
  refine Sm.add (a := y) ?_ hR
  exact Sm.mono (a := 2) (by unfold Sm; decide) hy
theorem Su_bound {M : Int} (hM : 0 ≤ M) (hx : ∀ x ∈ bs, x ≤ M + 1) : ∀ (l : List Int), (∀ x ∈ l, x ∈ bs) → (l.map (· - 1)).sum ≤ l.length * M
  | [], _ => by simp
  | a :: l, hl => by
    have h1 := hx a (hl a (List.mem_cons_self ..))
    have h2 := Su_bound hM hx l fun x h => hl x (List.mem_cons_of_mem _ h)
    simp only [List.map_cons, List.sum_cons, List.length_cons]
    rw [show ((l.length + 1 : Nat) : Int) = (l.length : Int) + 1 by omega, Int.add_mul]
    omega
theorem Re_sm (h : Hou b bs) {M : Int} {y : Nat} (hM : 0 ≤ M) (hx : ∀ x ∈ bs, x ≤ M + 1) (hS : Sm y M) : Sm (y + 5) (Re bs) := by
  refine Sm.of (Re_nn h) (j := bs.length * M) ?_ ?_
  · unfold Re Su
    rw [show ((bs.length : Int)).toNat = bs.length by omega, List.take_length]
    exact Su_bound hM hx bs fun _ z => z
  · rw [Nat.add_comm]
    refine Sm.mul ?_ hS
    have := h.len
    have := h.b30
    unfold Sm
    omega
end
/-! ### a drawn beginning -/
def sp__law_beginning : PSp := fun ds t P => ∃ b most n, ds = [.pen, .int b, .int most] ∧ 2 ≤ b ∧ b ≤ 30 ∧ 1 ≤ most ∧ Sm 8000 most ∧ Pk n t ∧ n < 90000000 ∧
  ∀ bs t', Hou b bs → (∀ x ∈ bs, x ≤ most + 3) → Pk (n + 100) t' → P (.lst (bs.map .int)) t'
theorem len__law_beginning (as : List D) (t : Ts) (P : D → Ts → Prop) (h : sp__law_beginning as t P) : as.length = 3 := by obtain ⟨_, _, _, rfl, _⟩ := h; rfl
def d__law_beginning : DS := (dSeq (dRet (dLc [3] (iRng1 (dOp oSub (dVar 1) (dC (.int 1)))) (gName 3) dYes (dOp oAdd (dC (.int 1)) (dOp oIx (dLst (dCons (dC (.int 0)) (dCons (dCall sp__law_draw [] (dCons (dVar 0) (dCons (dC (.int 3)) dNil))) (dCons (dCall sp__law_draw [] (dCons (dVar 0) (dCons (dVar 2) dNil))) dNil)))) (dCall sp__law_draw [] (dCons (dVar 0) (dCons (dC (.int 3)) dNil))))))) dNext)
theorem pick3 {a c : Int} {i : Int} (hi : 0 ≤ i) (hi' : i < 3) (ha : 0 ≤ a) (hc : 0 ≤ c) {M : Int} (hM : 0 ≤ M) (ha' : a ≤ M) (hc' : c ≤ M) : ∃ x : Int, atI [.int 0, .int a, .int c] i = some (.int x) ∧ 0 ≤ x ∧ x ≤ M := by
  match i, hi, hi' with
  | 0, _, _ => exact ⟨0, rfl, by omega, by omega⟩
  | 1, _, _ => exact ⟨a, rfl, ha, ha'⟩
  | 2, _, _ => exact ⟨c, rfl, hc, hc'⟩
theorem d__law_beginning_ok (as : List D) (t : Ts) (P : D → Ts → Prop) (h : sp__law_beginning as t P) : d__law_beginning (endsOf P) (start0 ["_law_pen_here", "_law_base", "_law_most", "_law_k"] as) t := by
  obtain ⟨b, most, n, rfl, h2, h30, hm, hs, hp, hn, k⟩ := h
  conv => whnf
  refine ⟨by omega, ?_⟩
  conv => whnf
  refine ⟨fun i acc m => ∃ bs : List Int, acc = bs.map .int ∧ bs.length = i ∧ (∀ x ∈ bs, 1 ≤ x ∧ x ≤ most + 3) ∧ Pk (n + 3 * i) m, ⟨[], rfl, rfl, by simp, by simpa using hp⟩, fun i x acc m hx hI => ?_, fun acc m hI => ?_⟩
  · obtain ⟨bs, rfl, hl, hb, pm⟩ := hI
    obtain ⟨hi, rfl⟩ := rng_get hx
    conv => whnf
    refine ⟨rfl, ?_⟩
    conv => whnf
    refine ⟨_, _, rfl, by first | omega | decide, (sm64 (by first | omega | decide) (by first | omega | decide)).mono (by decide), pm, by omega, fun u t1 u0 u1 pt1 => ?_⟩
    conv => whnf
    refine ⟨_, _, rfl, by omega, hs.mono (by decide), pt1, by omega, fun w t2 w0 w1 pt2 => ?_⟩
    conv => whnf
    refine ⟨_, _, rfl, by first | omega | decide, (sm64 (by first | omega | decide) (by first | omega | decide)).mono (by decide), pt2, by omega, fun v t3 v0 v1 pt3 => ?_⟩
    conv => whnf
    obtain ⟨y, e, y0, y1⟩ := pick3 v0 v1 u0 w0 (M := most + 2) (by omega) (by omega) (by omega)
    refine ⟨_, e, ?_⟩
    refine ⟨by rw [List.length_map]; unfold zLen; omega, bs ++ [1 + y], by simp, by simp [hl], fun z hz => ?_, pt3.mono (by omega)⟩
    rcases List.mem_append.mp hz with h | h
    · exact hb z h
    · have : z = 1 + y := by simpa using h
      omega
  · obtain ⟨bs, rfl, hl, hb, pm⟩ := hI
    rw [rng_len] at hl pm
    exact k bs m ⟨h2, h30, by omega, fun x hx => (hb x hx).1⟩ (fun x hx => (hb x hx).2) (pm.mono (by omega))
theorem pick2 {a c : Int} {i : Int} (hi : 0 ≤ i) (hi' : i < 2) : ∃ x : Int, atI [.int a, .int c] i = some (.int x) ∧ (x = a ∨ x = c) := by
  match i, hi, hi' with
  | 0, _, _ => exact ⟨a, rfl, .inl rfl⟩
  | 1, _, _ => exact ⟨c, rfl, .inr rfl⟩
theorem wipe1 (env : En) (v : Nat) (x : Sl) : wipeE ((wipeE env [v]).set v x) [v] = wipeE env [v] := by simp [wipeE]
/-- [_law_far(pen, f) for _ in ..] -/
theorem lc_far {xs : List D} {env : En} {t : Ts} {n : Int} {c f v : Nat} {P : List D → Ts → Prop} (hv : v ≠ 1) (h1 : env[1]? = some (.val .pen)) (hx : xs.length = c) (hf : f ≤ 6000) (hc : c ≤ 100) (pm : Pk n t) (hn : n < 1000000)
    (k : ∀ (fs : List Int) t', fs.length = c → (∀ x ∈ fs, 1 ≤ x ∧ Sm (20 * (f / 6 + 1) + 1) x) → Pk (n + c * (2 + f / 6)) t' → P (fs.map .int) t') :
    ∃ Inv : Nat → List D → Ts → Prop, Inv 0 [] t ∧ (∀ i x acc m, xs[i]? = some x → Inv i acc m → gName v x (wipeE env [v]) m fun e' m' => wipeE e' [v] = wipeE env [v] ∧ dYes e' m' fun k m1 => Br k (dCall sp__law_far [] (dCons (dVar 1) (dCons (dC (.int f)) dNil)) e' m1 fun y m2 => acc.length < zLen ∧ Inv (i + 1) (acc ++ [y]) m2) (Inv (i + 1) acc m1)) ∧ ∀ acc m, Inv xs.length acc m → P acc m := by
  refine ⟨fun j acc m => ∃ fs : List Int, acc = fs.map .int ∧ fs.length = j ∧ (∀ x ∈ fs, 1 ≤ x ∧ Sm (20 * (f / 6 + 1) + 1) x) ∧ Pk (n + j * (2 + f / 6)) m, ⟨[], rfl, rfl, by simp, by simpa using pm⟩, fun j x acc m hx' hI => ?_, fun acc m hI => ?_⟩
  · obtain ⟨fs, rfl, hl, hg, pm⟩ := hI
    have hj : j < c := by rw [← hx]; exact (List.getElem?_eq_some_iff.mp hx').1
    have hjf : ((j : Int)) * (2 + (f : Int) / 6) ≤ 100 * 1002 := Int.mul_le_mul (by omega) (by omega) (by omega) (by decide)
    refine ⟨wipe1 env v _, ?_⟩
    have e1 : ((wipeE env [v]).set v (.val x))[1]? = some (.val .pen) := by
      simp only [wipeE]
      rw [List.getElem?_set_ne hv, List.getElem?_set_ne hv]
      exact h1
    show dVar 1 ((wipeE env [v]).set v (.val x)) m _
    unfold dVar
    rw [e1]
    show sp__law_far _ m _
    refine ⟨f, _, rfl, hf, pm, by omega, fun y t7 y1 ys pt7 => ?_⟩
    refine ⟨by rw [List.length_map]; unfold zLen; omega, fs ++ [y], by simp, by simp [hl], fun z hz => ?_, pt7.mono ?_⟩
    · rcases List.mem_append.mp hz with h | h
      · exact hg z h
      · have : z = y := by simpa using h
        subst this
        exact ⟨y1, ys⟩
    · rw [show ((j + 1 : Nat) : Int) = (j : Int) + 1 by omega, Int.add_mul, Int.one_mul]
      omega
  · obtain ⟨fs, rfl, hl, hg, pm⟩ := hI
    rw [hx] at hl pm
    exact k fs m hl hg pm
end Q

/-! MRec -/
namespace Q
open PySem
/-! ### what is said, as a function; 1 at places below 1 -/
def sdF (b : Int) (bs : List Int) (p : Int) : Nat → Int → Int
  | 0, m => m
  | k + 1, m => if p ≤ Lp b bs m then m else sdF b bs p k (m + 1)
def sd (b : Int) (bs : List Int) (p : Int) : Int := if 1 ≤ p then sdF b bs p p.toNat 1 else 1
def sumN (g : Nat → Int) : Nat → Int
  | 0 => 0
  | n + 1 => sumN g n + g n
theorem sumN_congr {g g' : Nat → Int} : ∀ n : Nat, (∀ j, j < n → g j = g' j) → sumN g n = sumN g' n
  | 0, _ => rfl
  | n + 1, h => by
    show sumN g n + g n = sumN g' n + g' n
    rw [sumN_congr n (fun j hj => h j (by omega)), h n (by omega)]
section
variable {b : Int} {bs : List Int}
theorem sdF_sa (h : Hou b bs) {p : Int} : ∀ (k : Nat) (m : Int), 1 ≤ m → Lp b bs (m - 1) < p → p ≤ m - 1 + k → Sa b bs p (sdF b bs p k m)
  | 0, m, h1, h2, h3 => by
    have := Lp_ge_self h (n := m - 1) (by omega)
    omega
  | k + 1, m, h1, h2, h3 => by
    show Sa b bs p (if p ≤ Lp b bs m then m else sdF b bs p k (m + 1))
    split
    · rename_i hp
      exact ⟨h1, h2, hp⟩
    · rename_i hp
      exact sdF_sa h k (m + 1) (by omega) (by rw [show m + 1 - 1 = m by omega]; omega) (by omega)
theorem sd_sa (h : Hou b bs) {p : Int} (h1 : 1 ≤ p) : Sa b bs p (sd b bs p) := by
  unfold sd
  rw [if_pos h1]
  exact sdF_sa h _ 1 (by decide) (by rw [Lp_le0 (by decide)]; omega) (by omega)
theorem sd_le0 {p : Int} (h : p ≤ 0) : sd b bs p = 1 := by
  unfold sd
  rw [if_neg (by omega)]
theorem sd_eq (h : Hou b bs) {p m : Int} (s : Sa b bs p m) : sd b bs p = m := by
  have h0 := Lp_nn h (n := m - 1) (by have := s.m1; omega)
  exact Sa.uniq h (sd_sa h (by have := s.lo; omega)) s
theorem sd_pos (h : Hou b bs) (p : Int) : 1 ≤ sd b bs p := by
  by_cases h1 : 1 ≤ p
  · exact (sd_sa h h1).m1
  · rw [sd_le0 (by omega)]
    decide
theorem sd_one (h : Hou b bs) : sd b bs 1 = 1 := sd_eq h ⟨by decide, by rw [Lp_le0 (by decide)]; decide, by have := Lp_ge_self h (n := 1) (by decide); exact this⟩
theorem sd_mono (h : Hou b bs) {p q : Int} (h1 : p ≤ q) : sd b bs p ≤ sd b bs q := by
  by_cases hp : 1 ≤ p
  · have s1 := sd_sa h hp
    have s2 := sd_sa h (p := q) (by omega)
    rcases Int.lt_or_le (sd b bs q) (sd b bs p) with z | z
    · have := Lp_le_of h (m := sd b bs q) (n := sd b bs p - 1) (by have := s2.m1; omega) (by omega)
      have := s2.hi
      have := s1.lo
      omega
    · exact z
  · rw [sd_le0 (p := p) (by omega)]
    exact sd_pos h q
theorem sd_next (h : Hou b bs) {p m : Int} (s : Sa b bs p m) : sd b bs (p + 1) = if p = Lp b bs m then m + 1 else m := by
  split
  · rename_i e
    exact sd_eq h ⟨by have := s.m1; omega, by rw [show m + 1 - 1 = m by omega]; omega, by have := Lp_step h (n := m + 1) (by have := s.m1; omega); rw [show m + 1 - 1 = m by omega] at this; omega⟩
  · rename_i e
    exact sd_eq h ⟨s.m1, by have := s.lo; omega, by have := s.hi; omega⟩
theorem sd_slow (h : Hou b bs) (p : Int) : sd b bs (p + 1) ≤ sd b bs p + 1 := by
  by_cases hp : 1 ≤ p
  · rw [sd_next h (sd_sa h hp)]
    split <;> omega
  · by_cases h0 : p = 0
    · subst h0
      rw [show (0 : Int) + 1 = 1 by decide, sd_one h]
      have := sd_pos h 0
      omega
    · rw [sd_le0 (by omega), sd_le0 (by omega)]
      decide
theorem sd_slow' (h : Hou b bs) (p : Int) : ∀ j : Nat, sd b bs p ≤ sd b bs (p - j) + j
  | 0 => by simp
  | j + 1 => by
    have h1 := sd_slow' h p j
    have h2 := sd_slow h (p - ((j + 1 : Nat) : Int))
    rw [show p - ((j + 1 : Nat) : Int) + 1 = p - (j : Int) by omega] at h2
    omega
theorem ceil_eq {v u : Int} (hb : 2 ≤ b) (h1 : b * (u - 1) < v) (h2 : v ≤ b * u) : (v + b - 1) / b = u := by
  refine (Int.ediv_emod_unique (show 0 < b by omega) (r := v + b - 1 - b * u) |>.mpr ⟨by omega, ?_, by omega⟩).1
  rw [Int.mul_sub] at h1
  omega
/-- what is asked at a place -/
theorem ask_is (h : Hou b bs) {y : Int} (hy : 1 ≤ y) : sd b bs (y - Re bs - sd b bs (y - 1)) = (sd b bs y + b - 1) / b := by
  have h2 := h.b2
  have hR := Re_nn h
  by_cases h0 : y = 1
  · subst h0
    rw [show (1 : Int) - 1 = 0 by decide, sd_le0 (p := 0) (by decide), sd_le0 (by omega), sd_one h, ceil_eq h2 (u := 1)] <;> omega
  · have hx : 1 ≤ y - 1 := by omega
    have s := sd_sa h hx
    have hn := sd_next h s
    rw [show y - 1 + 1 = y by omega] at hn
    generalize sd b bs (y - 1) = m at *
    have m1 := s.m1
    have lo := s.lo
    have hi := s.hi
    by_cases hm : m < b
    · have e := Lp_lt (bs := bs) h2 (by omega : 0 < m) hm
      have hs := Su_re h (j := m) (by omega) (by have := h.len; omega)
      have hq : sd b bs (y - Re bs - m) = 1 := by
        by_cases z : y - Re bs - m = 1
        · rw [z, sd_one h]
        · exact sd_le0 (by omega)
      rw [hq, hn, ceil_eq h2 (u := 1)]
      · split <;> omega
      · split <;> omega
    · have e := Lp_rec h (n := m - 1) (by omega)
      have e2 := Lp_rec h (n := m) (by omega)
      have u0 : 0 ≤ (m - 1) / b := Int.ediv_nonneg (by omega) (by omega)
      by_cases hd : m % b = 0
      · have hmu : m = b * (m / b) := by have := Int.mul_ediv_add_emod m b; omega
        have hu : (m - 1) / b = m / b - 1 := by
          have := div_predm (b := b) (u := m / b) h2
          rw [← hmu] at this
          exact this
        rw [hu] at e u0
        generalize m / b = u at *
        have e4 : b * (u - 1) = b * u - b := by rw [Int.mul_sub, Int.mul_one]
        have e5 : b * (u + 1) = b * u + b := by rw [Int.mul_add, Int.mul_one]
        by_cases hl : y - 1 = Lp b bs m
        · rw [hn, if_pos hl, ceil_eq h2 (u := u + 1) (by rw [show u + 1 - 1 = u by omega]; omega) (by omega)]
          refine sd_eq h ⟨by omega, by rw [show u + 1 - 1 = u by omega]; omega, ?_⟩
          have := Lp_step h (n := u + 1) (by omega)
          rw [show u + 1 - 1 = u by omega] at this
          omega
        · rw [hn, if_neg hl, ceil_eq h2 (u := u) (by omega) (by omega)]
          exact sd_eq h ⟨by omega, by omega, by omega⟩
      · have hu := div_pred h2 hd
        rw [hu] at e u0
        have hr := Int.mul_ediv_add_emod m b
        have r1 := Int.emod_nonneg m (show b ≠ 0 by omega)
        have r2 := Int.emod_lt_of_pos m (show 0 < b by omega)
        generalize m / b = u at *
        have e5 : b * (u + 1) = b * u + b := by rw [Int.mul_add, Int.mul_one]
        have hl : y - 1 = Lp b bs m := by omega
        rw [hn, if_pos hl, ceil_eq h2 (u := u + 1) (by rw [show u + 1 - 1 = u by omega]; omega) (by omega)]
        refine sd_eq h ⟨by omega, by rw [show u + 1 - 1 = u by omega]; omega, ?_⟩
        have := Lp_step h (n := u + 1) (by omega)
        rw [show u + 1 - 1 = u by omega] at this
        omega
theorem win_key (h : Hou b bs) {p : Int} (hp : Lp b bs (b - 1) < p) : ∀ j : Nat, (j : Int) < b → (sd b bs (p - j) + b - 1) / b = if (j : Int) < (sd b bs p - 1) % b + 1 then (sd b bs p - 1) / b + 1 else (sd b bs p - 1) / b := by
  have h2 := h.b2
  have h3 := Lp_ge_self h (n := b - 1) (by omega)
  have s := sd_sa h (p := p) (by omega)
  have hmb : b ≤ sd b bs p := by
    rcases Int.lt_or_le (sd b bs p) b with z | z
    · have := Lp_le_of h (m := sd b bs p) (n := b - 1) (by have := s.m1; omega) (by omega)
      have := s.hi
      omega
    · exact z
  have up : ∀ j : Nat, sd b bs (p - j) ≤ sd b bs p := fun j => sd_mono h (by omega)
  have dn : ∀ j : Nat, sd b bs p ≤ sd b bs (p - j) + j := sd_slow' h p
  generalize hm : sd b bs p = m at *
  have hr := Int.mul_ediv_add_emod (m - 1) b
  have r1 := Int.emod_nonneg (m - 1) (show b ≠ 0 by omega)
  have r2 := Int.emod_lt_of_pos (m - 1) (show 0 < b by omega)
  generalize hu : (m - 1) / b = u at *
  generalize hc : (m - 1) % b = c0 at *
  have e4 : b * (u - 1) = b * u - b := by rw [Int.mul_sub, Int.mul_one]
  have e5 : b * (u + 1) = b * u + b := by rw [Int.mul_add, Int.mul_one]
  -- m = b u + c, c from 1 to b
  intro j hj
  have dj := dn j
  have uj := up j
  by_cases hcb : c0 + 1 = b
  · rw [if_pos (by omega)]
    exact ceil_eq h2 (by rw [show u + 1 - 1 = u by omega]; omega) (by omega)
  · -- single ones
    have hu1 : 1 ≤ u := by
      rcases Int.lt_or_le u 1 with z | z
      · have : b * u ≤ b * 0 := Int.mul_le_mul_of_nonneg_left (by omega) (by omega)
        omega
      · exact z
    have hbu : b ≤ b * u := by
      have := Int.mul_le_mul_of_nonneg_left hu1 (show 0 ≤ b by omega)
      omega
    have one : ∀ v : Int, b * u < v → v ≤ m → Ti b bs v = 1 := fun v v1 v2 => Ti_one h (by omega) (by
      intro z
      have q := Int.mul_ediv_add_emod v b
      rw [z] at q
      have q2 : v / b = u := by
        have : b * (v / b) = v := by omega
        rcases Int.lt_trichotomy (v / b) u with t | t | t
        · have := Int.mul_le_mul_of_nonneg_left (show v / b ≤ u - 1 by omega) (show 0 ≤ b by omega)
          omega
        · exact t
        · have := Int.mul_le_mul_of_nonneg_left (show u + 1 ≤ v / b by omega) (show 0 ≤ b by omega)
          omega
      rw [q2] at q
      omega)
    have at' : ∀ i : Nat, (i : Int) ≤ c0 + 1 → p - i = Lp b bs (m - i) := by
      intro i
      induction i with
      | zero =>
        intro _
        have := one m (by omega) (Int.le_refl _)
        unfold Ti at this
        have := s.lo
        have := s.hi
        simp
        omega
      | succ i ih =>
        intro hi
        have a := ih (by omega)
        have := one (m - i) (by omega) (by omega)
        unfold Ti at this
        rw [show m - ((i + 1 : Nat) : Int) = m - i - 1 by omega]
        omega
    have sa' : ∀ i : Nat, (i : Int) ≤ c0 + 1 → sd b bs (p - i) = m - i := fun i hi => by
      have a := at' i hi
      rw [a]
      exact sd_eq h ⟨by omega, by have := Lp_step h (n := m - i) (by omega); omega, Int.le_refl _⟩
    by_cases hjc : (j : Int) < c0 + 1
    · rw [if_pos hjc, sa' j (by omega)]
      exact ceil_eq h2 (by rw [show u + 1 - 1 = u by omega]; omega) (by omega)
    · rw [if_neg hjc]
      have z := sd_mono h (p := p - j) (q := p - ((c0 + 1).toNat : Int)) (by omega)
      rw [sa' (c0 + 1).toNat (by omega)] at z
      exact ceil_eq h2 (by omega) (by omega)
/-- the window of b places -/
theorem win_is (h : Hou b bs) {p : Int} (hp : Lp b bs (b - 1) < p) : sumN (fun j => (sd b bs (p - j) + b - 1) / b) b.toNat = sd b bs p := by
  have key := win_key h hp
  have h2 := h.b2
  have h3 := Lp_ge_self h (n := b - 1) (by omega)
  have s := sd_sa h (p := p) (by omega)
  have hmb : b ≤ sd b bs p := by
    rcases Int.lt_or_le (sd b bs p) b with z | z
    · have := Lp_le_of h (m := sd b bs p) (n := b - 1) (by have := s.m1; omega) (by omega)
      have := s.hi
      omega
    · exact z
  have up : ∀ j : Nat, sd b bs (p - j) ≤ sd b bs p := fun j => sd_mono h (by omega)
  have dn : ∀ j : Nat, sd b bs p ≤ sd b bs (p - j) + j := sd_slow' h p
  generalize hm : sd b bs p = m at *
  have hr := Int.mul_ediv_add_emod (m - 1) b
  have r1 := Int.emod_nonneg (m - 1) (show b ≠ 0 by omega)
  have r2 := Int.emod_lt_of_pos (m - 1) (show 0 < b by omega)
  generalize hu : (m - 1) / b = u at *
  generalize hc : (m - 1) % b = c0 at *
  have e4 : b * (u - 1) = b * u - b := by rw [Int.mul_sub, Int.mul_one]
  have e5 : b * (u + 1) = b * u + b := by rw [Int.mul_add, Int.mul_one]
  -- m = b u + c, c from 1 to b
  have tot : ∀ n : Nat, (n : Int) ≤ b → sumN (fun j => (sd b bs (p - j) + b - 1) / b) n = n * u + if (n : Int) < c0 + 1 then (n : Int) else c0 + 1 := by
    intro n
    induction n with
    | zero =>
      intro _
      rw [if_pos (by omega)]
      show (0 : Int) = ((0 : Nat) : Int) * u + ((0 : Nat) : Int)
      simp
    | succ n ih =>
      intro hn
      show sumN _ n + (sd b bs (p - n) + b - 1) / b = _
      rw [ih (by omega), key n (by omega), show ((n + 1 : Nat) : Int) = (n : Int) + 1 by omega, Int.add_mul, Int.one_mul]
      split <;> split <;> omega
  rw [tot b.toNat (by omega), show ((b.toNat : Nat) : Int) = b by omega]
  rw [if_neg (by omega)]
  omega
/-- THE RULE: each newcomer asks -/
theorem rule_is (h : Hou b bs) {p : Int} (hp : Lp b bs (b - 1) < p) : sumN (fun j => sd b bs (p - j - Re bs - sd b bs (p - j - 1))) b.toNat = sd b bs p := by
  rw [← win_is h hp]
  refine sumN_congr _ fun j hj => ?_
  have h2 := h.b2
  have h3 := Lp_ge_self h (n := b - 1) (by omega)
  exact ask_is h (by omega)
theorem folk_is (h : Hou b bs) : Lp b bs (b - 1) = bs.sum := by
  have h2 := h.b2
  rw [Lp_lt h2 (by omega) (by omega)]
  have e : ∀ l : List Int, (l.map (· - 1)).sum = l.sum - l.length := by
    intro l
    induction l with
    | nil => rfl
    | cons a l ih => simp only [List.map_cons, List.sum_cons, List.length_cons, ih]; omega
  unfold Su
  rw [show (b - 1).toNat = bs.length by have := h.len; omega, List.take_length, e, h.len]
  omega
end
end Q

/-! MGone -/
namespace Q
open PySem
/-! ### going: what is said at the first places -/
def gl (b : Int) (bs : List Int) (n : Nat) : List Int := (List.range n).map fun (i : Nat) => sd b bs ((i : Int) + 1)
section
variable {b : Int} {bs : List Int}
theorem gl_len (n : Nat) : (gl b bs n).length = n := by simp [gl]
theorem gl_succ (n : Nat) : gl b bs (n + 1) = gl b bs n ++ [sd b bs ((n : Int) + 1)] := by simp [gl, List.range_succ]
theorem gl_at {n i : Nat} (h : i < n) : (gl b bs n).getD i 0 = sd b bs ((i : Int) + 1) := by
  rw [List.getD_eq_getElem?_getD]
  simp [gl, h]
theorem gl_take {m n : Nat} (h : m ≤ n) : (gl b bs n).take m = gl b bs m := by
  simp [gl, ← List.map_take, List.take_range, Nat.min_eq_left h]
theorem gl_rep (v : Int) : ∀ (k n : Nat), (∀ i : Nat, i < k → sd b bs ((n : Int) + i + 1) = v) → gl b bs (n + k) = gl b bs n ++ List.replicate k v
  | 0, n, _ => by simp
  | k + 1, n, h => by
    rw [← Nat.add_assoc, gl_succ, gl_rep v k n (fun i hi => h i (by omega)), List.replicate_succ']
    have := h k (by omega)
    rw [show ((n + k : Nat) : Int) + 1 = (n : Int) + k + 1 by omega, this, List.append_assoc]
/-- the beginning's rows -/
theorem gl_row (h : Hou b bs) {i : Nat} (hi : i < bs.length) : gl b bs (Lp b bs ((i : Int) + 1)).toNat = gl b bs (Lp b bs i).toNat ++ List.replicate (bs.getD i 0).toNat ((i : Int) + 1) := by
  have hl := h.len
  have e := Ti_lt h (n := (i : Int) + 1) (by omega) (by omega)
  rw [show ((i : Int) + 1 - 1).toNat = i by omega] at e
  unfold Ti at e
  rw [show (i : Int) + 1 - 1 = i by omega] at e
  have hp := h.at (j := (i : Int)) (by omega) (by omega)
  rw [show ((i : Int)).toNat = i by omega] at hp
  have h0 := Lp_nn h (n := (i : Int)) (by omega)
  rw [← gl_rep ((i : Int) + 1) (bs.getD i 0).toNat (Lp b bs i).toNat (fun j hj => sd_eq h ⟨by omega, by rw [show (i : Int) + 1 - 1 = i by omega]; omega, by omega⟩)]
  congr 1
  omega
end
theorem rep_one (n : Nat) (d : D) : rep n [d] = List.replicate n d := by
  unfold rep
  induction n with
  | zero => rfl
  | succ n ih => rw [List.replicate_succ, List.flatten_cons, ih, List.replicate_succ]; rfl
def sp__law_gone : PSp := fun ds t P => ∃ b bs, ∃ many : Nat, ds = [.int b, .lst (bs.map .int), .int many] ∧ Hou b bs ∧ (∀ x ∈ bs, x ≤ 1000) ∧ many ≤ 100000 ∧ P (.lst ((gl b bs many).map .int)) t
theorem len__law_gone (as : List D) (t : Ts) (P : D → Ts → Prop) (h : sp__law_gone as t P) : as.length = 3 := by obtain ⟨_, _, _, rfl, _⟩ := h; rfl
def d__law_gone : DS := (dSeq (dAsgN 3 (dLst dNil)) (dSeq (dFor (iRng1 (dOp oSub (dVar 0) (dC (.int 1)))) (gName 4) (dSeq (dAsgN 3 (dOp oCat (dView 3) (dOp oMul (dLst (dCons (dOp oAdd (dVar 4) (dC (.int 1))) dNil)) (dOp oIx (dVar 1) (dVar 4))))) dNext)) (dSeq (dAsg (dOp oSub (dCB bSum (dCons (dVar 1) dNil)) (dCB bLen (dCons (dVar 1) dNil))) (gName 5)) (dSeq (dWhile (dB (dOp oLt (dCB bLen (dCons (dView 3) dNil)) (dVar 2))) (dSeq (dPar 6 7 (dCons (dOp oAdd (dCB bLen (dCons (dView 3) dNil)) (dC (.int 1))) (dCons (dC (.int 0)) dNil))) (dSeq (dFor (iRng1 (dVar 0)) (gName 4) (dSeq (dAsg (dIfE (dB (dOp oGt (dOp oSub (dVar 6) (dVar 4)) (dC (.int 1)))) (dOp oIx (dView 3) (dOp oSub (dOp oSub (dVar 6) (dVar 4)) (dC (.int 2)))) (dC (.int 1))) (gName 8)) (dSeq (dAsg (dOp oSub (dOp oSub (dOp oSub (dVar 6) (dVar 4)) (dVar 5)) (dVar 8)) (gName 9)) (dSeq (dAsg (dOp oAdd (dVar 7) (dIfE (dB (dOp oGt (dVar 9) (dC (.int 0)))) (dOp oIx (dView 3) (dOp oSub (dVar 9) (dC (.int 1)))) (dC (.int 1)))) (gName 7)) dNext)))) (dSeq (dApp 3 (dVar 7)) dNext)))) (dSeq (dFrz 3) (dSeq (dRet (dSlice (dView 3) dNoPart (dPart (dVar 2)))) dNext))))))
theorem d__law_gone_ok (as : List D) (t : Ts) (P : D → Ts → Prop) (h : sp__law_gone as t P) : d__law_gone (endsOf P) (start0 ["_law_base", "_law_begun", "_law_many", "_law_found", "_law_k", "_law_reach", "_law_place_here", "_law_total", "_law_one", "_law_spot"] as) t := by
  obtain ⟨b, bs, many, rfl, hh, hx9, hm, k⟩ := h
  have h2 := hh.b2
  have h30 := hh.b30
  have hl := hh.len
  have hfk := folk_is hh
  have hat : ∀ i : Nat, i < bs.length → 1 ≤ bs.getD i 0 ∧ bs.getD i 0 ≤ 1000 := fun i hi => by
    rw [List.getD_eq_getElem?_getD, List.getElem?_eq_getElem hi]
    exact ⟨hh.pos _ (List.getElem_mem hi), hx9 _ (List.getElem_mem hi)⟩
  have hup : ∀ i : Nat, i ≤ bs.length → Lp b bs i ≤ 1000 * i := by
    intro i
    induction i with
    | zero => intro _; rw [show ((0 : Nat) : Int) = 0 from rfl, Lp_le0 (by decide)]; decide
    | succ i ih =>
      intro hi
      have e := Ti_lt hh (n := (i : Int) + 1) (by omega) (by omega)
      rw [show ((i : Int) + 1 - 1).toNat = i by omega] at e
      unfold Ti at e
      rw [show (i : Int) + 1 - 1 = i by omega] at e
      have := ih (by omega)
      have := (hat i (by omega)).2
      rw [show ((i + 1 : Nat) : Int) = (i : Int) + 1 by omega]
      omega
  conv => whnf
  refine ⟨by omega, ?_⟩
  conv => whnf
  refine ⟨fun i e m => t = m ∧ ∃ s4, e = [.val (.int b), .val (.lst (bs.map .int)), .val (.int many), .own (.lst ((gl b bs (Lp b bs i).toNat).map .int)), s4, .no, .no, .no, .no, .no], ⟨rfl, .no, ?_⟩, fun i x e m hx hI => ?_, fun e m hI => ?_⟩
  · rw [show ((0 : Nat) : Int) = 0 from rfl, Lp_le0 (by decide)]
    rfl
  · obtain ⟨rfl, s4, rfl⟩ := hI
    obtain ⟨hi, rfl⟩ := rng_get hx
    have hi : i < bs.length := by omega
    obtain ⟨g1, g2⟩ := hat i hi
    have hu := hup i (by omega)
    rw [Int.zero_add]
    conv => whnf
    refine ⟨_, atI_ints (by omega) (by omega), ?_⟩
    rw [show ((i : Int)).toNat = i by omega]
    conv => whnf
    refine ⟨⟨by omega, by omega, by simp only [List.length_cons, List.length_nil]; unfold zLen; omega⟩, ?_⟩
    conv => whnf
    refine ⟨(by rw [rep_one]; simp only [List.length_map, gl_len, List.length_replicate]; unfold zLen; omega), ?_⟩
    conv => whnf
    refine ⟨rfl, .val (.int i), ?_⟩
    rw [rep_one, show ((i + 1 : Nat) : Int) = (i : Int) + 1 by omega, gl_row hh hi]
    simp
  · obtain ⟨rfl, s4, rfl⟩ := hI
    rw [rng_len, show (((b - 1).toNat : Nat) : Int) = b - 1 by omega]
    conv => whnf
    refine ⟨bs, ints_map bs, ?_⟩
    have hre : bs.sum - ((bs.map D.int).length : Int) = Re bs := by
      rw [List.length_map, hl, ← hfk, Lp_lt h2 (by omega) (by omega)]
      have : Su bs (b - 1) = Re bs := by rw [Re, hl]
      omega
    have hf0 := Lp_ge_self hh (n := b - 1) (by omega)
    have hf9 := hup bs.length (Nat.le_refl _)
    rw [hl] at hf9
    conv => whnf
    rw [hre]
    refine ⟨fun e m => t = m ∧ ∃ n : Nat, ∃ s4 s6 s7 s8 s9, Lp b bs (b - 1) ≤ n ∧ n ≤ 200000 ∧ e = [.val (.int b), .val (.lst (bs.map .int)), .val (.int many), .own (.lst ((gl b bs n).map .int)), s4, .val (.int (Re bs)), s6, s7, s8, s9], fun e m => match e with | [_, _, _, .own (.lst l), _, _, _, _, _, _] => many - l.length | _ => 0, ⟨rfl, (Lp b bs (b - 1)).toNat, _, _, _, _, _, by omega, by omega, rfl⟩, fun e m hI => ?_⟩
    obtain ⟨rfl, n, s4, s6, s7, s8, s9, hn, hn9, rfl⟩ := hI
    conv => whnf
    refine Br.mk (fun hc => ?_) (fun hc => ?_)
    · have hc : (((gl b bs n).map D.int).length : Int) < many := of_decide_eq_true hc
      rw [List.length_map, gl_len] at hc
      conv => whnf
      rw [List.length_map, gl_len]
      refine ⟨by omega, ?_⟩
      conv => whnf
      refine ⟨fun j e m => t = m ∧ ∃ s4 s8 s9, e = [.val (.int b), .val (.lst (bs.map .int)), .val (.int many), .own (.lst ((gl b bs n).map .int)), s4, .val (.int (Re bs)), .val (.int (n + 1)), .val (.int (sumN (fun j => sd b bs ((n : Int) + 1 - j - Re bs - sd b bs ((n : Int) + 1 - j - 1))) j)), s8, s9], ⟨rfl, _, _, _, rfl⟩, fun j x e m hx hI => ?_, fun e m hI => ?_⟩
      · obtain ⟨rfl, s4, s8, s9, rfl⟩ := hI
        obtain ⟨hj, rfl⟩ := rng_get hx
        have hj : (j : Int) < b := by omega
        rw [Int.zero_add]
        have hone : ∀ Q : D → Ts → Prop, Q (.int (sd b bs ((n : Int) + 1 - j - 1))) t → (dIfE (dB (dOp oGt (dOp oSub (dVar 6) (dVar 4)) (dC (.int 1)))) (dOp oIx (dView 3) (dOp oSub (dOp oSub (dVar 6) (dVar 4)) (dC (.int 2)))) (dC (.int 1))) [.val (.int b), .val (.lst (bs.map .int)), .val (.int many), .own (.lst ((gl b bs n).map .int)), .val (.int j), .val (.int (Re bs)), .val (.int (n + 1)), .val (.int (sumN (fun j => sd b bs ((n : Int) + 1 - j - Re bs - sd b bs ((n : Int) + 1 - j - 1))) j)), s8, s9] t Q := by
          intro Q q
          conv => whnf
          refine Br.mk (fun hp => ?_) (fun hp => ?_)
          · have hp : 1 < (n : Int) + 1 - j := of_decide_eq_true hp
            conv => whnf
            refine ⟨_, atI_ints (by omega) (by rw [gl_len]; omega), ?_⟩
            rw [gl_at (by omega), show ((((n : Int) + 1 - j - 2).toNat : Nat) : Int) + 1 = (n : Int) + 1 - j - 1 by omega]
            exact q
          · have hp : ¬ 1 < (n : Int) + 1 - j := of_decide_eq_false hp
            conv => whnf
            rw [sd_le0 (by omega)] at q
            exact q
        refine hone _ ?_
        have o1 := sd_pos hh ((n : Int) + 1 - j - 1)
        generalize hO : sd b bs ((n : Int) + 1 - j - 1) = one at *
        have hR := Re_nn hh
        conv => whnf
        refine Br.mk (fun hp => ?_) (fun hp => ?_)
        · have hp : 0 < (n : Int) + 1 - j - Re bs - one := of_decide_eq_true hp
          conv => whnf
          refine ⟨_, atI_ints (by omega) (by rw [gl_len]; omega), ?_⟩
          rw [gl_at (by omega), show ((((n : Int) + 1 - j - Re bs - one - 1).toNat : Nat) : Int) + 1 = (n : Int) + 1 - j - Re bs - one by omega]
          refine ⟨rfl, .val (.int j), .val (.int one), .val (.int ((n : Int) + 1 - j - Re bs - one)), ?_⟩
          rw [← hO]
          rfl
        · have hp : ¬ 0 < (n : Int) + 1 - j - Re bs - one := of_decide_eq_false hp
          conv => whnf
          refine ⟨rfl, .val (.int j), .val (.int one), .val (.int ((n : Int) + 1 - j - Re bs - one)), ?_⟩
          have e9 : sd b bs ((n : Int) + 1 - j - Re bs - sd b bs ((n : Int) + 1 - j - 1)) = 1 := sd_le0 (by rw [hO]; omega)
          show _ = [_, _, _, _, _, _, _, Sl.val (.int (sumN _ j + sd b bs ((n : Int) + 1 - j - Re bs - sd b bs ((n : Int) + 1 - j - 1)))), _, _]
          rw [e9]
          rfl
      · obtain ⟨rfl, s4, s8, s9, rfl⟩ := hI
        rw [rng_len, rule_is hh (p := (n : Int) + 1) (by omega)]
        conv => whnf
        refine ⟨(by rw [List.length_map, gl_len]; unfold zLen; omega), ?_⟩
        conv => whnf
        have e1 : (gl b bs n).map D.int ++ [D.int (sd b bs ((n : Int) + 1))] = (gl b bs (n + 1)).map D.int := by
          rw [gl_succ, List.map_append]
          rfl
        rw [e1]
        refine ⟨⟨rfl, n + 1, _, _, _, _, _, by omega, by omega, rfl⟩, ?_⟩
        show many - ((gl b bs (n + 1)).map D.int).length < many - ((gl b bs n).map D.int).length
        rw [List.length_map, List.length_map, gl_len, gl_len]
        omega
    · have hc : ¬ (((gl b bs n).map D.int).length : Int) < many := of_decide_eq_false hc
      rw [List.length_map, gl_len] at hc
      conv => whnf
      have e : cutD ((gl b bs n).map D.int) none (some (many : Int)) = (gl b bs many).map D.int := by
        unfold cutD
        have e1 : sIx ((gl b bs n).map D.int).length ((gl b bs n).map D.int).length (some (many : Int)) = many := by
          unfold sIx
          simp only [gl_len, List.length_map]
          rw [if_neg (by omega)]
          omega
        rw [e1]
        show (((gl b bs n).map D.int).drop 0).take (many - 0) = _
        simp only [List.drop_zero, Nat.sub_zero]
        rw [← List.map_take, gl_take (by omega)]
      rw [e]
      exact k
end Q

/-! MTot -/
namespace Q
open PySem
/-! ### sums over the row -/
def tri (n : Int) : Int := n * (n + 1) / 2
theorem tri_two (n : Int) : tri n * 2 = n * (n + 1) := by
  unfold tri
  have h : n * (n + 1) % 2 = 0 := by
    rcases Int.emod_two_eq n with h | h
    · rw [Int.mul_emod, h]; simp
    · rw [Int.mul_emod, Int.add_emod, h]; decide
  omega
theorem tri_zero : tri 0 = 0 := by decide
theorem tri_step (n : Int) : tri n = tri (n - 1) + n := by
  have h1 := tri_two n
  have h2 := tri_two (n - 1)
  rw [show n - 1 + 1 = n by omega, Int.sub_mul, Int.one_mul] at h2
  rw [Int.mul_add, Int.mul_one] at h1
  omega
/-- the weights of the beginning's numbers -/
def wts : Int → List Int → List Int
  | _, [] => []
  | i, c :: r => i * (c - 1) :: wts (i + 1) r
def Ws (bs : List Int) (j : Int) : Int := ((wts 1 bs).take j.toNat).sum
theorem wts_len : ∀ (l : List Int) (i : Int), (wts i l).length = l.length
  | [], _ => rfl
  | c :: r, i => by
    show (wts (i + 1) r).length + 1 = r.length + 1
    rw [wts_len r]
theorem wts_get : ∀ (l : List Int) (i : Int) (k : Nat), k < l.length → (wts i l)[k]? = some ((i + k) * (l.getD k 0 - 1))
  | [], i, k, h => by simp at h
  | c :: r, i, 0, h => by simp [wts]
  | c :: r, i, k + 1, h => by
    show (wts (i + 1) r)[k]? = _
    rw [wts_get r (i + 1) k (by simpa using h)]
    simp only [List.getD_cons_succ]
    congr 2
    omega
def To (b : Int) (bs : List Int) (n : Int) : Int := if h : 0 < n ∧ 2 ≤ b then (if n < b then tri n + Ws bs n else b * To b bs (n / b) + tri n + Ws bs bs.length) else 0
termination_by n.toNat
decreasing_by exact ediv_toNat_lt h
theorem To_le0 {b : Int} {bs : List Int} {n : Int} (h : n ≤ 0) : To b bs n = 0 := by
  rw [To, dif_neg (fun z => by omega)]
theorem To_lt {b : Int} {bs : List Int} {n : Int} (hb : 2 ≤ b) (h : 0 < n) (h2 : n < b) : To b bs n = tri n + Ws bs n := by
  rw [To, dif_pos ⟨h, hb⟩, if_pos h2]
theorem To_ge {b : Int} {bs : List Int} {n : Int} (hb : 2 ≤ b) (h2 : b ≤ n) : To b bs n = b * To b bs (n / b) + tri n + Ws bs bs.length := by
  rw [To, dif_pos ⟨by omega, hb⟩, if_neg (by omega)]
section
variable {b : Int} {bs : List Int}
theorem Ws_zero : Ws bs 0 = 0 := by simp [Ws]
theorem Ws_succ {j : Nat} (h : j < bs.length) : Ws bs (j + 1) = Ws bs j + (j + 1) * (bs.getD j 0 - 1) := by
  unfold Ws
  rw [show ((j : Int) + 1).toNat = j + 1 by omega, show ((j : Int)).toNat = j by omega, List.take_add_one, wts_get bs 1 j h, Int.add_comm 1]
  simp
theorem To_rec (h : Hou b bs) {n : Int} (hn : b - 1 ≤ n) : To b bs n = b * To b bs (n / b) + tri n + Ws bs bs.length := by
  have hb := h.b2
  by_cases h1 : b ≤ n
  · exact To_ge hb h1
  · have e : n = b - 1 := by omega
    subst e
    rw [To_lt hb (by omega) (by omega), Int.ediv_eq_zero_of_lt (by omega) (by omega), To_le0 (Int.le_refl 0), h.len]
    omega
/-- each place of a number adds the number -/
theorem To_step (h : Hou b bs) : ∀ (k : Nat) (n : Int), n.toNat ≤ k → 1 ≤ n → To b bs n = To b bs (n - 1) + n * Ti b bs n
  | 0, n, h0, h1 => by omega
  | k + 1, n, h0, h1 => by
    have hb := h.b2
    have hl := h.len
    by_cases h2 : n < b
    · rw [Ti_lt h h1 h2, To_lt hb (by omega) h2]
      obtain ⟨j, rfl⟩ : ∃ j : Nat, n = (j : Int) + 1 := ⟨(n - 1).toNat, by omega⟩
      have e := Ws_succ (bs := bs) (j := j) (by omega)
      have t := tri_step ((j : Int) + 1)
      rw [show (j : Int) + 1 - 1 = j by omega] at t ⊢
      rw [show ((j : Int)).toNat = j by omega, e, t]
      have e2 : ((j : Int) + 1) * (bs.getD j 0 - 1) = ((j : Int) + 1) * bs.getD j 0 - ((j : Int) + 1) := by rw [Int.mul_sub, Int.mul_one]
      by_cases h3 : j = 0
      · subst h3
        rw [To_le0 (by decide)]
        simp [tri_zero, Ws_zero]
        omega
      · rw [To_lt hb (by omega) (by omega)]
        omega
    · have t := tri_step n
      rw [To_rec h (n := n) (by omega), To_rec h (n := n - 1) (by omega)]
      by_cases hd : n % b = 0
      · have e1 := Int.mul_ediv_add_emod n b
        have e2 : n = b * (n / b) := by omega
        have e3 : 1 ≤ n / b := (Int.le_ediv_iff_mul_le (by omega)).mpr (by omega)
        have h7 := ediv_toNat_lt (b := b) (x := n) ⟨by omega, hb⟩
        have ih := To_step h k (n / b) (by omega) e3
        have hT := Ti_mul h e3
        rw [← e2] at hT
        have e4 : (n - 1) / b = n / b - 1 := by
          have := div_predm (b := b) (u := n / b) hb
          rw [← e2] at this
          exact this
        rw [e4, ih, hT, t, Int.mul_add, Int.mul_add n, Int.mul_one]
        have e5 : b * (n / b * Ti b bs (n / b)) = n * Ti b bs (n / b) := by rw [← Int.mul_assoc, ← e2]
        omega
      · rw [div_pred hb hd, Ti_one h (by omega) hd, t]
        omega
end
end Q

/-! MOft -/
namespace Q
open PySem
/-! ### powers -/
def sp_power_of : PSp := fun ds t P => ∃ b, ∃ e : Nat, ds = [.int b, .int e] ∧ 2 ≤ b ∧ b ≤ 30 ∧ e ≤ 90000 ∧ P (.int (b ^ e)) t
theorem len_power_of (as : List D) (t : Ts) (P : D → Ts → Prop) (h : sp_power_of as t P) : as.length = 2 := by first | (obtain ⟨_, rfl, _⟩ := h; rfl) | (obtain ⟨_, _, rfl, _⟩ := h; rfl) | (obtain ⟨_, _, _, rfl, _⟩ := h; rfl) | (obtain ⟨_, _, _, _, rfl, _⟩ := h; rfl) | (obtain ⟨_, _, _, _, _, rfl, _⟩ := h; rfl) | (obtain ⟨_, _, _, _, _, _, rfl, _⟩ := h; rfl) | (obtain ⟨_, _, _, _, _, _, _, rfl, _⟩ := h; rfl) | (obtain ⟨_, _, _, _, _, _, _, _, rfl, _⟩ := h; rfl) | (obtain ⟨_, rfl | rfl, _⟩ := h <;> rfl) | (obtain ⟨_, _, rfl | rfl, _⟩ := h <;> rfl) | (obtain ⟨_, _, _, rfl | rfl, _⟩ := h <;> rfl) | (obtain ⟨_, _, _, _, rfl | rfl, _⟩ := h <;> rfl) | (obtain ⟨_, _, _, _, _, rfl | rfl, _⟩ := h <;> rfl) | (obtain ⟨_, _, _, _, _, _, rfl | rfl, _⟩ := h <;> rfl) | (obtain ⟨_, _, _, _, _, _, _, rfl | rfl, _⟩ := h <;> rfl) | (obtain ⟨_, _, _, _, _, _, _, _, rfl | rfl, _⟩ := h <;> rfl)
def d_power_of : DS := (dSeq (dPar3 2 3 4 (dCons (dC (.int 1)) (dCons (dVar 0) (dCons (dVar 1) dNil)))) (dSeq (dWhile (dB (dOp oGt (dVar 4) (dC (.int 0)))) (dSeq (dIf (dB (dOp oEq (dOp oMod (dVar 4) (dC (.int 2))) (dC (.int 1)))) (dSeq (dAug 2 oMulI (dVar 3)) dNext) dNext) (dSeq (dPar 3 4 (dCons (dOp oMul (dVar 3) (dVar 3)) (dCons (dOp oDiv (dVar 4) (dC (.int 2))) dNil))) dNext))) (dSeq (dRet (dVar 2)) dNext)))
theorem pow_sm {b : Int} (h2 : 2 ≤ b) (h30 : b ≤ 30) (e : Nat) : Sm (5 * e + 1) (b ^ e) := by
  unfold Sm
  have h0 := pow_pos' h2 e
  have h1 : b ^ e ≤ 32 ^ e := by
    induction e with
    | zero => simp
    | succ e ih =>
      rw [Int.pow_succ, Int.pow_succ]
      have i1 := ih (pow_pos' h2 e)
      exact Int.mul_le_mul i1 (by omega) (by omega) (by have : (0 : Int) < 32 ^ e := Int.pow_pos (by decide); omega)
  have h3 : (32 : Int) ^ e = ((2 ^ (5 * e) : Nat) : Int) := by
    rw [Nat.pow_mul]; simp
  have h4 := Nat.pow_succ 2 (5 * e)
  have h5 := Nat.two_pow_pos (5 * e)
  omega
theorem d_power_of_ok (as : List D) (t : Ts) (P : D → Ts → Prop) (h : sp_power_of as t P) : d_power_of (endsOf P) (start0 ["base", "exponent", "found", "factor", "left"] as) t := by
  obtain ⟨b, e, rfl, h2, h30, he, k⟩ := h
  conv => whnf
  repeat (refine And.intro (by first | omega | rfl | exact MulOk.r (by decide) (by decide) | exact MulOk.l (by omega) (by omega) | exact MulOk.r (by omega) (by omega) | exact DivOk.s (by omega) (by omega) | exact PowOk.s (by decide) (by decide) (by decide) (by decide) | (unfold zLen; omega) | (simp only [List.length_append, List.length_map, List.length_cons, List.length_nil]; unfold zLen; omega)) ?_; conv => whnf)
  refine ⟨fun en m => t = m ∧ ∃ (g : Int) (j l : Nat), [.val (.int b), .val (.int e), .val (.int g), .val (.int (b ^ j)), .val (.int l)] = en ∧ g * (b ^ j) ^ l = b ^ e ∧ 0 < g ∧ Sm (5 * e + 1) g ∧ (l = 0 ∨ j * l ≤ e), fun en m => match en with | [_, _, _, _, .val (.int y)] => y.toNat | _ => 0, ⟨rfl, 1, 1, e, by rw [Int.pow_succ, Int.pow_zero, Int.one_mul]; rfl, by rw [Int.pow_succ, Int.pow_zero, Int.one_mul, Int.one_mul], by decide, Nat.lt_of_lt_of_le (by decide) (Nat.pow_le_pow_right (by decide) (show 1 ≤ 5 * e + 1 by omega)), .inr (by omega)⟩, fun en m hI => ?_⟩
  obtain ⟨rfl, g, j, l, rfl, hg, hg0, hgs, hjl⟩ := hI
  conv => whnf
  repeat (refine And.intro (by first | omega | rfl | exact MulOk.r (by decide) (by decide) | exact MulOk.l (by omega) (by omega) | exact MulOk.r (by omega) (by omega) | exact DivOk.s (by omega) (by omega) | exact PowOk.s (by decide) (by decide) (by decide) (by decide) | (unfold zLen; omega) | (simp only [List.length_append, List.length_map, List.length_cons, List.length_nil]; unfold zLen; omega)) ?_; conv => whnf)
  refine Br.mk (fun hl => ?_) (fun hl => ?_)
  · have hl : 0 < l := by have := of_decide_eq_true hl; omega
    have hje : j ≤ e := by
      rcases hjl with z | z
      · omega
      · exact Nat.le_trans (Nat.le_mul_of_pos_right j hl) z
    have hfs := pow_sm h2 h30 j
    have hff : MulOk (b ^ j) (b ^ j) := MulOk.w hfs hfs (by omega) (by omega) (by omega)
    have e2 : b ^ j * b ^ j = b ^ (2 * j) := by rw [← Int.pow_add]; congr 1; omega
    have e4 : ((l : Int) / 2) = ((l / 2 : Nat) : Int) := by omega
    have hjl2 : l / 2 = 0 ∨ 2 * j * (l / 2) ≤ e := by
      right
      rcases hjl with z | z
      · omega
      · refine Nat.le_trans ?_ z
        rw [show 2 * j * (l / 2) = j * (2 * (l / 2)) by grind]
        exact Nat.mul_le_mul_left j (by omega)
    conv => whnf
    repeat (refine And.intro (by first | omega | rfl | exact MulOk.r (by decide) (by decide) | exact MulOk.l (by omega) (by omega) | exact MulOk.r (by omega) (by omega) | exact DivOk.s (by omega) (by omega) | exact PowOk.s (by decide) (by decide) (by decide) (by decide) | (unfold zLen; omega) | (simp only [List.length_append, List.length_map, List.length_cons, List.length_nil]; unfold zLen; omega)) ?_; conv => whnf)
    refine Br.mk (fun ho => ?_) (fun ho => ?_)
    · have ho : (l : Int) % 2 = 1 := of_decide_eq_true ho
      have hm : MulOk g (b ^ j) := MulOk.w hgs hfs (by omega) (by omega) (by omega)
      have e3 : g * b ^ j * (b ^ (2 * j)) ^ (l / 2) = b ^ e := by
        rw [← hg, Int.mul_assoc, ← Int.pow_mul, ← Int.pow_mul, ← Int.pow_add]
        congr 2
        have : l = 2 * (l / 2) + 1 := by omega
        generalize l / 2 = q at *
        subst this
        grind
      have g0 : 0 < g * b ^ j := Int.mul_pos hg0 (pow_pos' h2 j)
      have gs : Sm (5 * e + 1) (g * b ^ j) := by
        refine Sm.of (by omega) ?_ (pow_sm h2 h30 e)
        rw [← e3]
        have := pow_pos' (show 2 ≤ b by omega) (2 * j * (l / 2))
        have h9 := Int.mul_le_mul_of_nonneg_left (show 1 ≤ b ^ (2 * j * (l / 2)) by omega) (show 0 ≤ g * b ^ j by omega)
        rw [Int.pow_mul] at h9
        omega
      conv => whnf
      refine ⟨hm, ?_⟩
      conv => whnf
      refine ⟨hff, ?_⟩
      conv => whnf
      repeat (refine And.intro (by first | omega | rfl | exact MulOk.r (by decide) (by decide) | exact MulOk.l (by omega) (by omega) | exact MulOk.r (by omega) (by omega) | exact DivOk.s (by omega) (by omega) | exact PowOk.s (by decide) (by decide) (by decide) (by decide) | (unfold zLen; omega) | (simp only [List.length_append, List.length_map, List.length_cons, List.length_nil]; unfold zLen; omega)) ?_; conv => whnf)
      refine ⟨⟨rfl, g * b ^ j, 2 * j, l / 2, by rw [e2, e4]; rfl, e3, g0, gs, hjl2⟩, ?_⟩
      show ((l : Int) / 2).toNat < (l : Int).toNat
      omega
    · have ho : ¬ (l : Int) % 2 = 1 := of_decide_eq_false ho
      have e3 : g * (b ^ (2 * j)) ^ (l / 2) = b ^ e := by
        rw [← hg, ← Int.pow_mul, ← Int.pow_mul]
        congr 2
        have : l = 2 * (l / 2) := by omega
        generalize l / 2 = q at *
        subst this
        grind
      conv => whnf
      refine ⟨hff, ?_⟩
      conv => whnf
      repeat (refine And.intro (by first | omega | rfl | exact MulOk.r (by decide) (by decide) | exact MulOk.l (by omega) (by omega) | exact MulOk.r (by omega) (by omega) | exact DivOk.s (by omega) (by omega) | exact PowOk.s (by decide) (by decide) (by decide) (by decide) | (unfold zLen; omega) | (simp only [List.length_append, List.length_map, List.length_cons, List.length_nil]; unfold zLen; omega)) ?_; conv => whnf)
      refine ⟨⟨rfl, g, 2 * j, l / 2, by rw [e2, e4]; rfl, e3, hg0, hgs, hjl2⟩, ?_⟩
      show ((l : Int) / 2).toNat < (l : Int).toNat
      omega
  · have hl : l = 0 := by have := of_decide_eq_false hl; omega
    subst hl
    rw [Int.pow_zero, Int.mul_one] at hg
    subst hg
    exact k
end Q

/-! MHA -/
namespace Q
open PySem
/-! ### what the laws of one house (k13 to k34) share -/
def sp__law_base : PSp := fun ds t P => ∃ n, ds = [.pen] ∧ Pk n t ∧ n < 90000000 ∧ ∀ b t', 2 ≤ b → b ≤ 30 → Pk (n + 2) t' → P (.int b) t'
def sp__law_begun : PSp := fun ds t P => ∃ b most n, ds = [.pen, .int b, .int most] ∧ 2 ≤ b ∧ b ≤ 30 ∧ 3 ≤ most ∧ most ≤ 100000 ∧ Pk n t ∧ n < 90000000 ∧ ∀ bs t', Hou b bs → (∀ x ∈ bs, x ≤ most) → Pk (n + 60) t' → P (.lst (bs.map .int)) t'
def sp__law_far_2 : PSp := fun ds t P => ∃ n, ∃ f : Nat, ds = [.pen, .int f] ∧ 1 ≤ f ∧ f ≤ 1000 ∧ Pk n t ∧ n < 90000000 ∧ ∀ z t', 0 ≤ z → z < 1000000 ^ f → Pk (n + 1 + f) t' → P (.int z) t'
def sp__law_begun_2 : PSp := fun ds t P => ∃ b n, ∃ f : Nat, ds = [.pen, .int b, .int f] ∧ 2 ≤ b ∧ b ≤ 30 ∧ 1 ≤ f ∧ f ≤ 1000 ∧ Pk n t ∧ n < 80000000 ∧ ∀ bs t', Hou b bs → (∀ x ∈ bs, x ≤ 1000000 ^ f) → Pk (n + 30 * (f + 2)) t' → P (.lst (bs.map .int)) t'
def sp__law_house (W : Cl) : PSp := fun ds t P => ∃ b bs n, ds = [.pen, .int b, .lst (bs.map .int)] ∧ Hou b bs ∧ Pk n t ∧ n < 90000000 ∧ ∀ t', Pk (n + 1) t' → P (hD W b bs) t'
def sp__law_is_number : PSp := fun ds t P => ∃ d, ds = [d] ∧ tnOk d ∧ P (.bl (isInt d)) t
def sp__law_pick : PSp := fun ds t P => ∃ n, ∃ l : List D, ds = [.pen, .lst l] ∧ 0 < l.length ∧ l.length ≤ 10000 ∧ Pk n t ∧ n < 90000000 ∧ ∀ (i : Nat) d t', l[i]? = some d → Pk (n + 1) t' → P d t'
def sp__law_number : PSp := fun ds t P => ∃ b n, ∃ f : Nat, ds = [.pen, .int b, .int f] ∧ 2 ≤ b ∧ b ≤ 30 ∧ 1 ≤ f ∧ f ≤ 1000 ∧ Pk n t ∧ n < 80000000 ∧ ∀ m t', 1 ≤ m → Sm (20 * f + 10) m → Pk (n + 5 + f) t' → P (.int m) t'
def sp__law_last_2 : PSp := fun ds t P => ∃ b bs m, ds = [.int b, .lst (bs.map .int), .int m] ∧ Hou b bs ∧ 0 ≤ m ∧ Sm 1000000 m ∧ P (.int (Lp b bs m)) t
def sp__law_times : PSp := fun ds t P => ∃ b bs m, ds = [.int b, .lst (bs.map .int), .int m] ∧ Hou b bs ∧ 1 ≤ m ∧ P (.int (Ti b bs m)) t
def sp__law_gone_2 : PSp := fun ds t P => ∃ b bs, ∃ many : Nat, ds = [.int b, .lst (bs.map .int), .int many] ∧ Hou b bs ∧ (∀ x ∈ bs, x ≤ 1000) ∧ bs.sum ≤ many ∧ many ≤ 100000 ∧ P (.lst ((gl b bs many).map .int)) t
theorem len__law_base (as : List D) (t : Ts) (P : D → Ts → Prop) (h : sp__law_base as t P) : as.length = 1 := by first | (obtain ⟨_, rfl, _⟩ := h; rfl) | (obtain ⟨_, _, rfl, _⟩ := h; rfl) | (obtain ⟨_, _, _, rfl, _⟩ := h; rfl) | (obtain ⟨_, _, _, _, rfl, _⟩ := h; rfl) | (obtain ⟨_, _, _, _, _, rfl, _⟩ := h; rfl) | (obtain ⟨_, _, _, _, _, _, rfl, _⟩ := h; rfl) | (obtain ⟨_, _, _, _, _, _, _, rfl, _⟩ := h; rfl) | (obtain ⟨_, _, _, _, _, _, _, _, rfl, _⟩ := h; rfl) | (obtain ⟨_, rfl | rfl, _⟩ := h <;> rfl) | (obtain ⟨_, _, rfl | rfl, _⟩ := h <;> rfl) | (obtain ⟨_, _, _, rfl | rfl, _⟩ := h <;> rfl) | (obtain ⟨_, _, _, _, rfl | rfl, _⟩ := h <;> rfl) | (obtain ⟨_, _, _, _, _, rfl | rfl, _⟩ := h <;> rfl) | (obtain ⟨_, _, _, _, _, _, rfl | rfl, _⟩ := h <;> rfl) | (obtain ⟨_, _, _, _, _, _, _, rfl | rfl, _⟩ := h <;> rfl) | (obtain ⟨_, _, _, _, _, _, _, _, rfl | rfl, _⟩ := h <;> rfl)
theorem len__law_begun (as : List D) (t : Ts) (P : D → Ts → Prop) (h : sp__law_begun as t P) : as.length = 3 := by first | (obtain ⟨_, rfl, _⟩ := h; rfl) | (obtain ⟨_, _, rfl, _⟩ := h; rfl) | (obtain ⟨_, _, _, rfl, _⟩ := h; rfl) | (obtain ⟨_, _, _, _, rfl, _⟩ := h; rfl) | (obtain ⟨_, _, _, _, _, rfl, _⟩ := h; rfl) | (obtain ⟨_, _, _, _, _, _, rfl, _⟩ := h; rfl) | (obtain ⟨_, _, _, _, _, _, _, rfl, _⟩ := h; rfl) | (obtain ⟨_, _, _, _, _, _, _, _, rfl, _⟩ := h; rfl) | (obtain ⟨_, rfl | rfl, _⟩ := h <;> rfl) | (obtain ⟨_, _, rfl | rfl, _⟩ := h <;> rfl) | (obtain ⟨_, _, _, rfl | rfl, _⟩ := h <;> rfl) | (obtain ⟨_, _, _, _, rfl | rfl, _⟩ := h <;> rfl) | (obtain ⟨_, _, _, _, _, rfl | rfl, _⟩ := h <;> rfl) | (obtain ⟨_, _, _, _, _, _, rfl | rfl, _⟩ := h <;> rfl) | (obtain ⟨_, _, _, _, _, _, _, rfl | rfl, _⟩ := h <;> rfl) | (obtain ⟨_, _, _, _, _, _, _, _, rfl | rfl, _⟩ := h <;> rfl)
theorem len__law_far_2 (as : List D) (t : Ts) (P : D → Ts → Prop) (h : sp__law_far_2 as t P) : as.length = 2 := by first | (obtain ⟨_, rfl, _⟩ := h; rfl) | (obtain ⟨_, _, rfl, _⟩ := h; rfl) | (obtain ⟨_, _, _, rfl, _⟩ := h; rfl) | (obtain ⟨_, _, _, _, rfl, _⟩ := h; rfl) | (obtain ⟨_, _, _, _, _, rfl, _⟩ := h; rfl) | (obtain ⟨_, _, _, _, _, _, rfl, _⟩ := h; rfl) | (obtain ⟨_, _, _, _, _, _, _, rfl, _⟩ := h; rfl) | (obtain ⟨_, _, _, _, _, _, _, _, rfl, _⟩ := h; rfl) | (obtain ⟨_, rfl | rfl, _⟩ := h <;> rfl) | (obtain ⟨_, _, rfl | rfl, _⟩ := h <;> rfl) | (obtain ⟨_, _, _, rfl | rfl, _⟩ := h <;> rfl) | (obtain ⟨_, _, _, _, rfl | rfl, _⟩ := h <;> rfl) | (obtain ⟨_, _, _, _, _, rfl | rfl, _⟩ := h <;> rfl) | (obtain ⟨_, _, _, _, _, _, rfl | rfl, _⟩ := h <;> rfl) | (obtain ⟨_, _, _, _, _, _, _, rfl | rfl, _⟩ := h <;> rfl) | (obtain ⟨_, _, _, _, _, _, _, _, rfl | rfl, _⟩ := h <;> rfl)
theorem len__law_begun_2 (as : List D) (t : Ts) (P : D → Ts → Prop) (h : sp__law_begun_2 as t P) : as.length = 3 := by first | (obtain ⟨_, rfl, _⟩ := h; rfl) | (obtain ⟨_, _, rfl, _⟩ := h; rfl) | (obtain ⟨_, _, _, rfl, _⟩ := h; rfl) | (obtain ⟨_, _, _, _, rfl, _⟩ := h; rfl) | (obtain ⟨_, _, _, _, _, rfl, _⟩ := h; rfl) | (obtain ⟨_, _, _, _, _, _, rfl, _⟩ := h; rfl) | (obtain ⟨_, _, _, _, _, _, _, rfl, _⟩ := h; rfl) | (obtain ⟨_, _, _, _, _, _, _, _, rfl, _⟩ := h; rfl) | (obtain ⟨_, rfl | rfl, _⟩ := h <;> rfl) | (obtain ⟨_, _, rfl | rfl, _⟩ := h <;> rfl) | (obtain ⟨_, _, _, rfl | rfl, _⟩ := h <;> rfl) | (obtain ⟨_, _, _, _, rfl | rfl, _⟩ := h <;> rfl) | (obtain ⟨_, _, _, _, _, rfl | rfl, _⟩ := h <;> rfl) | (obtain ⟨_, _, _, _, _, _, rfl | rfl, _⟩ := h <;> rfl) | (obtain ⟨_, _, _, _, _, _, _, rfl | rfl, _⟩ := h <;> rfl) | (obtain ⟨_, _, _, _, _, _, _, _, rfl | rfl, _⟩ := h <;> rfl)
theorem len__law_house (W : Cl) (as : List D) (t : Ts) (P : D → Ts → Prop) (h : sp__law_house W as t P) : as.length = 3 := by first | (obtain ⟨_, rfl, _⟩ := h; rfl) | (obtain ⟨_, _, rfl, _⟩ := h; rfl) | (obtain ⟨_, _, _, rfl, _⟩ := h; rfl) | (obtain ⟨_, _, _, _, rfl, _⟩ := h; rfl) | (obtain ⟨_, _, _, _, _, rfl, _⟩ := h; rfl) | (obtain ⟨_, _, _, _, _, _, rfl, _⟩ := h; rfl) | (obtain ⟨_, _, _, _, _, _, _, rfl, _⟩ := h; rfl) | (obtain ⟨_, _, _, _, _, _, _, _, rfl, _⟩ := h; rfl) | (obtain ⟨_, rfl | rfl, _⟩ := h <;> rfl) | (obtain ⟨_, _, rfl | rfl, _⟩ := h <;> rfl) | (obtain ⟨_, _, _, rfl | rfl, _⟩ := h <;> rfl) | (obtain ⟨_, _, _, _, rfl | rfl, _⟩ := h <;> rfl) | (obtain ⟨_, _, _, _, _, rfl | rfl, _⟩ := h <;> rfl) | (obtain ⟨_, _, _, _, _, _, rfl | rfl, _⟩ := h <;> rfl) | (obtain ⟨_, _, _, _, _, _, _, rfl | rfl, _⟩ := h <;> rfl) | (obtain ⟨_, _, _, _, _, _, _, _, rfl | rfl, _⟩ := h <;> rfl)
theorem len__law_is_number (as : List D) (t : Ts) (P : D → Ts → Prop) (h : sp__law_is_number as t P) : as.length = 1 := by first | (obtain ⟨_, rfl, _⟩ := h; rfl) | (obtain ⟨_, _, rfl, _⟩ := h; rfl) | (obtain ⟨_, _, _, rfl, _⟩ := h; rfl) | (obtain ⟨_, _, _, _, rfl, _⟩ := h; rfl) | (obtain ⟨_, _, _, _, _, rfl, _⟩ := h; rfl) | (obtain ⟨_, _, _, _, _, _, rfl, _⟩ := h; rfl) | (obtain ⟨_, _, _, _, _, _, _, rfl, _⟩ := h; rfl) | (obtain ⟨_, _, _, _, _, _, _, _, rfl, _⟩ := h; rfl) | (obtain ⟨_, rfl | rfl, _⟩ := h <;> rfl) | (obtain ⟨_, _, rfl | rfl, _⟩ := h <;> rfl) | (obtain ⟨_, _, _, rfl | rfl, _⟩ := h <;> rfl) | (obtain ⟨_, _, _, _, rfl | rfl, _⟩ := h <;> rfl) | (obtain ⟨_, _, _, _, _, rfl | rfl, _⟩ := h <;> rfl) | (obtain ⟨_, _, _, _, _, _, rfl | rfl, _⟩ := h <;> rfl) | (obtain ⟨_, _, _, _, _, _, _, rfl | rfl, _⟩ := h <;> rfl) | (obtain ⟨_, _, _, _, _, _, _, _, rfl | rfl, _⟩ := h <;> rfl)
theorem len__law_pick (as : List D) (t : Ts) (P : D → Ts → Prop) (h : sp__law_pick as t P) : as.length = 2 := by first | (obtain ⟨_, rfl, _⟩ := h; rfl) | (obtain ⟨_, _, rfl, _⟩ := h; rfl) | (obtain ⟨_, _, _, rfl, _⟩ := h; rfl) | (obtain ⟨_, _, _, _, rfl, _⟩ := h; rfl) | (obtain ⟨_, _, _, _, _, rfl, _⟩ := h; rfl) | (obtain ⟨_, _, _, _, _, _, rfl, _⟩ := h; rfl) | (obtain ⟨_, _, _, _, _, _, _, rfl, _⟩ := h; rfl) | (obtain ⟨_, _, _, _, _, _, _, _, rfl, _⟩ := h; rfl) | (obtain ⟨_, rfl | rfl, _⟩ := h <;> rfl) | (obtain ⟨_, _, rfl | rfl, _⟩ := h <;> rfl) | (obtain ⟨_, _, _, rfl | rfl, _⟩ := h <;> rfl) | (obtain ⟨_, _, _, _, rfl | rfl, _⟩ := h <;> rfl) | (obtain ⟨_, _, _, _, _, rfl | rfl, _⟩ := h <;> rfl) | (obtain ⟨_, _, _, _, _, _, rfl | rfl, _⟩ := h <;> rfl) | (obtain ⟨_, _, _, _, _, _, _, rfl | rfl, _⟩ := h <;> rfl) | (obtain ⟨_, _, _, _, _, _, _, _, rfl | rfl, _⟩ := h <;> rfl)
theorem len__law_number (as : List D) (t : Ts) (P : D → Ts → Prop) (h : sp__law_number as t P) : as.length = 3 := by first | (obtain ⟨_, rfl, _⟩ := h; rfl) | (obtain ⟨_, _, rfl, _⟩ := h; rfl) | (obtain ⟨_, _, _, rfl, _⟩ := h; rfl) | (obtain ⟨_, _, _, _, rfl, _⟩ := h; rfl) | (obtain ⟨_, _, _, _, _, rfl, _⟩ := h; rfl) | (obtain ⟨_, _, _, _, _, _, rfl, _⟩ := h; rfl) | (obtain ⟨_, _, _, _, _, _, _, rfl, _⟩ := h; rfl) | (obtain ⟨_, _, _, _, _, _, _, _, rfl, _⟩ := h; rfl) | (obtain ⟨_, rfl | rfl, _⟩ := h <;> rfl) | (obtain ⟨_, _, rfl | rfl, _⟩ := h <;> rfl) | (obtain ⟨_, _, _, rfl | rfl, _⟩ := h <;> rfl) | (obtain ⟨_, _, _, _, rfl | rfl, _⟩ := h <;> rfl) | (obtain ⟨_, _, _, _, _, rfl | rfl, _⟩ := h <;> rfl) | (obtain ⟨_, _, _, _, _, _, rfl | rfl, _⟩ := h <;> rfl) | (obtain ⟨_, _, _, _, _, _, _, rfl | rfl, _⟩ := h <;> rfl) | (obtain ⟨_, _, _, _, _, _, _, _, rfl | rfl, _⟩ := h <;> rfl)
theorem len__law_last_2 (as : List D) (t : Ts) (P : D → Ts → Prop) (h : sp__law_last_2 as t P) : as.length = 3 := by first | (obtain ⟨_, rfl, _⟩ := h; rfl) | (obtain ⟨_, _, rfl, _⟩ := h; rfl) | (obtain ⟨_, _, _, rfl, _⟩ := h; rfl) | (obtain ⟨_, _, _, _, rfl, _⟩ := h; rfl) | (obtain ⟨_, _, _, _, _, rfl, _⟩ := h; rfl) | (obtain ⟨_, _, _, _, _, _, rfl, _⟩ := h; rfl) | (obtain ⟨_, _, _, _, _, _, _, rfl, _⟩ := h; rfl) | (obtain ⟨_, _, _, _, _, _, _, _, rfl, _⟩ := h; rfl) | (obtain ⟨_, rfl | rfl, _⟩ := h <;> rfl) | (obtain ⟨_, _, rfl | rfl, _⟩ := h <;> rfl) | (obtain ⟨_, _, _, rfl | rfl, _⟩ := h <;> rfl) | (obtain ⟨_, _, _, _, rfl | rfl, _⟩ := h <;> rfl) | (obtain ⟨_, _, _, _, _, rfl | rfl, _⟩ := h <;> rfl) | (obtain ⟨_, _, _, _, _, _, rfl | rfl, _⟩ := h <;> rfl) | (obtain ⟨_, _, _, _, _, _, _, rfl | rfl, _⟩ := h <;> rfl) | (obtain ⟨_, _, _, _, _, _, _, _, rfl | rfl, _⟩ := h <;> rfl)
theorem len__law_times (as : List D) (t : Ts) (P : D → Ts → Prop) (h : sp__law_times as t P) : as.length = 3 := by first | (obtain ⟨_, rfl, _⟩ := h; rfl) | (obtain ⟨_, _, rfl, _⟩ := h; rfl) | (obtain ⟨_, _, _, rfl, _⟩ := h; rfl) | (obtain ⟨_, _, _, _, rfl, _⟩ := h; rfl) | (obtain ⟨_, _, _, _, _, rfl, _⟩ := h; rfl) | (obtain ⟨_, _, _, _, _, _, rfl, _⟩ := h; rfl) | (obtain ⟨_, _, _, _, _, _, _, rfl, _⟩ := h; rfl) | (obtain ⟨_, _, _, _, _, _, _, _, rfl, _⟩ := h; rfl) | (obtain ⟨_, rfl | rfl, _⟩ := h <;> rfl) | (obtain ⟨_, _, rfl | rfl, _⟩ := h <;> rfl) | (obtain ⟨_, _, _, rfl | rfl, _⟩ := h <;> rfl) | (obtain ⟨_, _, _, _, rfl | rfl, _⟩ := h <;> rfl) | (obtain ⟨_, _, _, _, _, rfl | rfl, _⟩ := h <;> rfl) | (obtain ⟨_, _, _, _, _, _, rfl | rfl, _⟩ := h <;> rfl) | (obtain ⟨_, _, _, _, _, _, _, rfl | rfl, _⟩ := h <;> rfl) | (obtain ⟨_, _, _, _, _, _, _, _, rfl | rfl, _⟩ := h <;> rfl)
theorem len__law_gone_2 (as : List D) (t : Ts) (P : D → Ts → Prop) (h : sp__law_gone_2 as t P) : as.length = 3 := by first | (obtain ⟨_, rfl, _⟩ := h; rfl) | (obtain ⟨_, _, rfl, _⟩ := h; rfl) | (obtain ⟨_, _, _, rfl, _⟩ := h; rfl) | (obtain ⟨_, _, _, _, rfl, _⟩ := h; rfl) | (obtain ⟨_, _, _, _, _, rfl, _⟩ := h; rfl) | (obtain ⟨_, _, _, _, _, _, rfl, _⟩ := h; rfl) | (obtain ⟨_, _, _, _, _, _, _, rfl, _⟩ := h; rfl) | (obtain ⟨_, _, _, _, _, _, _, _, rfl, _⟩ := h; rfl) | (obtain ⟨_, rfl | rfl, _⟩ := h <;> rfl) | (obtain ⟨_, _, rfl | rfl, _⟩ := h <;> rfl) | (obtain ⟨_, _, _, rfl | rfl, _⟩ := h <;> rfl) | (obtain ⟨_, _, _, _, rfl | rfl, _⟩ := h <;> rfl) | (obtain ⟨_, _, _, _, _, rfl | rfl, _⟩ := h <;> rfl) | (obtain ⟨_, _, _, _, _, _, rfl | rfl, _⟩ := h <;> rfl) | (obtain ⟨_, _, _, _, _, _, _, rfl | rfl, _⟩ := h <;> rfl) | (obtain ⟨_, _, _, _, _, _, _, _, rfl | rfl, _⟩ := h <;> rfl)
def d__law_base : DS := (dSeq (dAsg (dCall sp__law_draw [] (dCons (dVar 0) (dCons (dC (.int 4)) dNil))) (gName 1)) (dSeq (dRet (dOp oAdd (dC (.int 2)) (dCall sp__law_draw [] (dCons (dVar 0) (dCons (dOp oIx (dLst (dCons (dC (.int 1)) (dCons (dC (.int 3)) (dCons (dC (.int 7)) (dCons (dC (.int 29)) dNil))))) (dVar 1)) dNil))))) dNext))
def d__law_begun : DS := (dSeq (dAsgN 3 (dLst dNil)) (dSeq (dFor (iRng1 (dOp oSub (dVar 1) (dC (.int 1)))) (gName 4) (dSeq (dAsg (dCall sp__law_draw [] (dCons (dVar 0) (dCons (dC (.int 3)) dNil))) (gName 5)) (dSeq (dApp 3 (dIfE (dB (dOp oEq (dVar 5) (dC (.int 0)))) (dC (.int 1)) (dOp oAdd (dC (.int 1)) (dCall sp__law_draw [] (dCons (dVar 0) (dCons (dOp oIx (dLst (dCons (dC (.int 3)) (dCons (dVar 2) dNil))) (dOp oSub (dVar 5) (dC (.int 1)))) dNil)))))) dNext))) (dSeq (dFrz 3) (dSeq (dRet (dVar 3)) dNext))))
def d__law_far_2 : DS := (dSeq (dAsg (dC (.int 0)) (gName 2)) (dSeq (dFor (iRng1 (dOp oAdd (dC (.int 1)) (dCall sp__law_draw [] (dCons (dVar 0) (dCons (dVar 1) dNil))))) (gName 3) (dSeq (dAsg (dOp oAdd (dOp oMul (dVar 2) (dOp oPow (dC (.int 10)) (dC (.int 6)))) (dCall sp__law_draw [] (dCons (dVar 0) (dCons (dOp oPow (dC (.int 10)) (dC (.int 6))) dNil)))) (gName 2)) dNext)) (dSeq (dRet (dVar 2)) dNext)))
def d__law_begun_2 : DS := (dSeq (dAsgN 3 (dLst dNil)) (dSeq (dFor (iRng1 (dOp oSub (dVar 1) (dC (.int 1)))) (gName 4) (dSeq (dAsg (dCall sp__law_draw [] (dCons (dVar 0) (dCons (dC (.int 4)) dNil))) (gName 5)) (dSeq (dApp 3 (dIfE (dB (dOp oLt (dVar 5) (dC (.int 3)))) (dOp oAdd (dC (.int 1)) (dCall sp__law_draw [] (dCons (dVar 0) (dCons (dOp oIx (dLst (dCons (dC (.int 1)) (dCons (dC (.int 4)) (dCons (dC (.int 30)) (dCons (dC (.int 1)) dNil))))) (dVar 5)) dNil)))) (dOp oAdd (dC (.int 1)) (dCall sp__law_far_2 [] (dCons (dVar 0) (dCons (dVar 2) dNil)))))) dNext))) (dSeq (dFrz 3) (dSeq (dRet (dVar 3)) dNext))))
def d__law_house (W : Cl) : DS := (dSeq (dIf (dB (dOp oEq (dCall sp__law_draw [] (dCons (dVar 0) (dCons (dC (.int 2)) dNil))) (dC (.int 0)))) (dSeq (dRet (dCall (sp_House___init__ W) [] (dCons (dVar 1) (dCons (dCB bTuple (dCons (dVar 2) dNil)) dNil)))) dNext) dNext) (dSeq (dRet (dMakeK (sp_House___init__ W) [1, 0] (dCons (dCB bList (dCons (dVar 2) dNil)) (dCons (dVar 1) dNil)))) dNext))
def d__law_is_number : DS := (dSeq (dRet (dAndV (dIsi [.int] (dVar 0)) (dNotV (dIsi [.bl] (dVar 0))))) dNext)
def d__law_pick : DS := (dSeq (dRet (dOp oIx (dVar 1) (dCall sp__law_draw [] (dCons (dVar 0) (dCons (dCB bLen (dCons (dVar 1) dNil)) dNil))))) dNext)
def d__law_number : DS := (dSeq (dAsg (dCall sp__law_draw [] (dCons (dVar 0) (dCons (dC (.int 3)) dNil))) (gName 3)) (dSeq (dIf (dB (dOp oEq (dVar 3) (dC (.int 0)))) (dSeq (dRet (dOp oAdd (dC (.int 1)) (dCall sp__law_far_2 [] (dCons (dVar 0) (dCons (dVar 2) dNil))))) dNext) dNext) (dSeq (dAsg (dOp oAdd (dC (.int 1)) (dCall sp__law_draw [] (dCons (dVar 0) (dCons (dOp oIx (dLst (dCons (dC (.int 200)) (dCons (dOp oMul (dC (.int 3)) (dVar 1)) dNil))) (dOp oSub (dVar 3) (dC (.int 1)))) dNil)))) (gName 4)) (dSeq (dIf (dB (dOp oEq (dVar 3) (dC (.int 1)))) (dSeq (dRet (dVar 4)) dNext) dNext) (dSeq (dFor (iRng1 (dCall sp__law_draw [] (dCons (dVar 0) (dCons (dOp oAdd (dC (.int 1)) (dOp oMul (dC (.int 4)) (dVar 2))) dNil)))) (gName 5) (dSeq (dAsg (dOp oMul (dVar 4) (dVar 1)) (gName 4)) dNext)) (dSeq (dRet (dIfE (dB (dOp oGt (dVar 4) (dC (.int 1)))) (dOp oSub (dOp oAdd (dVar 4) (dCall sp__law_draw [] (dCons (dVar 0) (dCons (dC (.int 3)) dNil)))) (dC (.int 1))) (dC (.int 1)))) dNext))))))
def d__law_last_2 : DS := (dSeq (dPar3 4 5 6 (dCons (dVar 2) (dCons (dC (.int 0)) (dCons (dC (.int 0)) dNil)))) (dSeq (dWhile (dB (dOp oGe (dVar 4) (dVar 0))) (dSeq (dAsg (dOp oDiv (dVar 4) (dVar 0)) (gName 4)) (dSeq (dPar 5 6 (dCons (dOp oAdd (dVar 5) (dVar 4)) (dCons (dOp oAdd (dVar 6) (dC (.int 1))) dNil))) dNext))) (dSeq (dAsg (dOp oSub (dCB bSum (dCons (dVar 1) dNil)) (dCB bLen (dCons (dVar 1) dNil))) (gName 3)) (dSeq (dRet (dOp oSub (dOp oAdd (dOp oAdd (dOp oAdd (dVar 2) (dVar 5)) (dOp oMul (dVar 6) (dVar 3))) (dCB bSum (dCons (dSlice (dVar 1) dNoPart (dPart (dVar 4))) dNil))) (dVar 4))) dNext))))
def d__law_times : DS := (dSeq (dPar 3 4 (dCons (dVar 2) (dCons (dC (.int 0)) dNil))) (dSeq (dWhile (dAnd (dB (dOp oGe (dVar 3) (dVar 0))) (dB (dOp oEq (dOp oMod (dVar 3) (dVar 0)) (dC (.int 0))))) (dSeq (dPar 3 4 (dCons (dOp oDiv (dVar 3) (dVar 0)) (dCons (dOp oAdd (dVar 4) (dC (.int 1))) dNil))) dNext)) (dSeq (dRet (dOp oAdd (dVar 4) (dIfE (dB (dOp oLt (dVar 3) (dVar 0))) (dOp oIx (dVar 1) (dOp oSub (dVar 3) (dC (.int 1)))) (dC (.int 1))))) dNext)))
def d__law_gone_2 : DS := (dSeq (dAsgN 3 (dLst dNil)) (dSeq (dFor (iRng1 (dOp oSub (dVar 0) (dC (.int 1)))) (gName 4) (dSeq (dExt 3 (dOp oMul (dLst (dCons (dOp oAdd (dVar 4) (dC (.int 1))) dNil)) (dOp oIx (dVar 1) (dVar 4)))) dNext)) (dSeq (dAsg (dOp oSub (dCB bSum (dCons (dVar 1) dNil)) (dCB bLen (dCons (dVar 1) dNil))) (gName 5)) (dSeq (dFor (iRng2 (dOp oAdd (dCB bLen (dCons (dView 3) dNil)) (dC (.int 1))) (dOp oAdd (dVar 2) (dC (.int 1)))) (gName 6) (dSeq (dAsg (dC (.int 0)) (gName 7)) (dSeq (dFor (iRng1 (dVar 0)) (gName 4) (dSeq (dAsg (dIfE (dB (dOp oGt (dOp oSub (dVar 6) (dVar 4)) (dC (.int 1)))) (dOp oIx (dView 3) (dOp oSub (dOp oSub (dVar 6) (dVar 4)) (dC (.int 2)))) (dC (.int 1))) (gName 8)) (dSeq (dAsg (dOp oSub (dOp oSub (dOp oSub (dVar 6) (dVar 4)) (dVar 5)) (dVar 8)) (gName 9)) (dSeq (dAsg (dOp oAdd (dVar 7) (dIfE (dB (dOp oGt (dVar 9) (dC (.int 0)))) (dOp oIx (dView 3) (dOp oSub (dVar 9) (dC (.int 1)))) (dC (.int 1)))) (gName 7)) dNext)))) (dSeq (dApp 3 (dVar 7)) dNext)))) (dSeq (dFrz 3) (dSeq (dRet (dVar 3)) dNext))))))
theorem mil_sm : ∀ f : Nat, (1000000 : Int) ^ f ≤ ((2 ^ (20 * f) : Nat) : Int)
  | 0 => by simp
  | f + 1 => by
    have ih := mil_sm f
    have h0 : (0 : Int) < 1000000 ^ f := Int.pow_pos (by decide)
    rw [Int.pow_succ, Nat.mul_add, Nat.pow_add]
    have : ((2 ^ (20 * f) * 2 ^ (20 * 1) : Nat) : Int) = ((2 ^ (20 * f) : Nat) : Int) * 1048576 := by simp
    omega
theorem mil_pos (f : Nat) : (0 : Int) < 1000000 ^ f := Int.pow_pos (by decide)
theorem sm_mil {z : Int} {f : Nat} (h0 : 0 ≤ z) (h1 : z ≤ 1000000 ^ f) : Sm (20 * f + 1) z := by
  have := mil_sm f
  have := Nat.pow_succ 2 (20 * f)
  have := Nat.two_pow_pos (20 * f)
  unfold Sm
  omega
theorem mil_ge {f : Nat} (h : 1 ≤ f) : (1000000 : Int) ≤ 1000000 ^ f := by
  obtain ⟨g, rfl⟩ : ∃ g, f = g + 1 := ⟨f - 1, by omega⟩
  have := mil_pos g
  rw [Int.pow_succ]
  omega
theorem getD_mem {l : List Int} {i : Nat} (h : i < l.length) : l.getD i 0 ∈ l := by
  rw [List.getD_eq_getElem?_getD, List.getElem?_eq_getElem h]
  exact List.getElem_mem h
theorem d__law_base_ok (as : List D) (t : Ts) (P : D → Ts → Prop) (h : sp__law_base as t P) : d__law_base (endsOf P) (start0 ["_law_pen_here", "_law_way"] as) t := by
  obtain ⟨n, rfl, pm, hn, k⟩ := h
  conv => whnf
  refine ⟨_, _, rfl, by first | omega | decide, (sm64 (by first | omega | decide) (by first | omega | decide)).mono (by decide), pm, by omega, fun u t1 u0 u1 pt1 => ?_⟩
  conv => whnf
  refine ⟨_, atI_ints (xs := [1, 3, 7, 29]) (by omega) (by simp; omega), ?_⟩
  have hv : 1 ≤ ([1, 3, 7, 29] : List Int).getD u.toNat 0 ∧ ([1, 3, 7, 29] : List Int).getD u.toNat 0 ≤ 29 := by
    rcases (by omega : u = 0 ∨ u = 1 ∨ u = 2 ∨ u = 3) with rfl | rfl | rfl | rfl <;> decide
  generalize ([1, 3, 7, 29] : List Int).getD u.toNat 0 = v at *
  conv => whnf
  refine ⟨_, _, rfl, by first | omega | decide, (sm64 (by first | omega | decide) (by first | omega | decide)).mono (by decide), pt1, by omega, fun w t2 w0 w1 pt2 => ?_⟩
  conv => whnf
  exact k _ _ (by omega) (by omega) (pt2.mono (by omega))
theorem d__law_far_2_ok (as : List D) (t : Ts) (P : D → Ts → Prop) (h : sp__law_far_2 as t P) : d__law_far_2 (endsOf P) (start0 ["_law_pen_here", "_law_pieces", "_law_number", "_law_j"] as) t := by
  obtain ⟨n, f, rfl, h1, h2, pm, hn, k⟩ := h
  conv => whnf
  refine ⟨_, _, rfl, by first | omega | decide, (sm64 (by first | omega | decide) (by first | omega | decide)).mono (by decide), pm, by omega, fun u t1 u0 u1 pt1 => ?_⟩
  conv => whnf
  refine ⟨by omega, ?_⟩
  conv => whnf
  refine ⟨fun i e m => Pk (n + 1 + i) m ∧ ∃ z s3, e = [.val .pen, .val (.int f), .val (.int z), s3] ∧ 0 ≤ z ∧ z < 1000000 ^ i, ⟨by simpa using pt1, 0, _, rfl, by decide, by simp⟩, fun i x e m hx hI => ?_, fun e m hI => ?_⟩
  · obtain ⟨pm, z, s3, rfl, z0, z1⟩ := hI
    obtain ⟨hi, rfl⟩ := rng_get hx
    conv => whnf
    repeat (refine And.intro (by first | omega | rfl | exact MulOk.r (by decide) (by decide) | exact MulOk.l (by omega) (by omega) | exact MulOk.r (by omega) (by omega) | exact DivOk.s (by omega) (by omega) | exact PowOk.s (by decide) (by decide) (by decide) (by decide) | (unfold zLen; omega) | (simp only [List.length_append, List.length_map, List.length_cons, List.length_nil]; unfold zLen; omega)) ?_; conv => whnf)
    refine ⟨_, _, rfl, by first | omega | decide, (sm64 (by first | omega | decide) (by first | omega | decide)).mono (by decide), pm, by omega, fun v t2 v0 v1 pt2 => ?_⟩
    conv => whnf
    have h1 : (10 : Int) ^ (6 : Int).toNat = 1000000 := by decide
    rw [h1] at v1 ⊢
    refine ⟨pt2.mono (by omega), _, _, rfl, by omega, ?_⟩
    rw [Int.pow_succ]
    omega
  · obtain ⟨pm, z, s3, rfl, z0, z1⟩ := hI
    rw [rng_len] at pm z1
    refine k _ _ z0 ?_ (pm.mono (by omega))
    obtain ⟨c, hc⟩ : ∃ c, f = (1 + u).toNat + c := ⟨f - (1 + u).toNat, by omega⟩
    rw [hc, Int.pow_add]
    have := mil_pos c
    have := mil_pos (1 + u).toNat
    have := Int.mul_le_mul_of_nonneg_left (show (1 : Int) ≤ 1000000 ^ c by omega) (show (0 : Int) ≤ 1000000 ^ (1 + u).toNat by omega)
    omega
theorem d__law_begun_ok (as : List D) (t : Ts) (P : D → Ts → Prop) (h : sp__law_begun as t P) : d__law_begun (endsOf P) (start0 ["_law_pen_here", "_law_base_here", "_law_most", "_law_found", "_law_j", "_law_way"] as) t := by
  obtain ⟨b, most, n, rfl, h2, h30, m3, m9, pm, hn, k⟩ := h
  conv => whnf
  repeat (refine And.intro (by first | omega | rfl | exact MulOk.r (by decide) (by decide) | exact MulOk.l (by omega) (by omega) | exact MulOk.r (by omega) (by omega) | exact DivOk.s (by omega) (by omega) | exact PowOk.s (by decide) (by decide) (by decide) (by decide) | (unfold zLen; omega) | (simp only [List.length_append, List.length_map, List.length_cons, List.length_nil]; unfold zLen; omega)) ?_; conv => whnf)
  refine ⟨fun i e m => Pk (n + 2 * i) m ∧ ∃ bs : List Int, ∃ s4 s5, e = [.val .pen, .val (.int b), .val (.int most), .own (.lst (bs.map .int)), s4, s5] ∧ bs.length = i ∧ ∀ x ∈ bs, 1 ≤ x ∧ x ≤ most, ⟨by simpa using pm, [], _, _, rfl, rfl, by simp⟩, fun i x e m hx hI => ?_, fun e m hI => ?_⟩
  · obtain ⟨pm, bs, s4, s5, rfl, hl, hb⟩ := hI
    obtain ⟨hi, rfl⟩ := rng_get hx
    have fin : ∀ (v : Int) (m : Ts), 1 ≤ v → v ≤ most → Pk (n + 2 * i + 2) m → Pk (n + 2 * (i + 1 : Nat)) m ∧ ∃ bs' : List Int, (bs.map D.int ++ [D.int v]) = bs'.map D.int ∧ bs'.length = i + 1 ∧ ∀ x ∈ bs', 1 ≤ x ∧ x ≤ most := fun v m h1 h9 p => ⟨p.mono (by omega), bs ++ [v], by simp, by simp [hl], fun x hx => by
      rcases List.mem_append.mp hx with z | z
      · exact hb x z
      · rw [List.mem_singleton.mp z]; exact ⟨h1, h9⟩⟩
    conv => whnf
    refine ⟨_, _, rfl, by first | omega | decide, (sm64 (by first | omega | decide) (by first | omega | decide)).mono (by decide), pm, by omega, fun u t1 u0 u1 pt1 => ?_⟩
    conv => whnf
    refine Br.mk (fun hu => ?_) (fun hu => ?_)
    · conv => whnf
      refine ⟨(by rw [List.length_map, hl]; unfold zLen; omega), ?_⟩
      conv => whnf
      obtain ⟨p, bs', e, l', b'⟩ := fin 1 t1 (by omega) (by omega) (pt1.mono (by omega))
      rw [e]
      exact ⟨p, bs', _, _, rfl, l', b'⟩
    · have hu : ¬ u = 0 := of_decide_eq_false hu
      conv => whnf
      refine ⟨_, atI_ints (xs := [3, most]) (by omega) (by simp; omega), ?_⟩
      have hv : 3 ≤ ([3, most] : List Int).getD (u - 1).toNat 0 ∧ ([3, most] : List Int).getD (u - 1).toNat 0 ≤ most := by
        rcases (by omega : u = 1 ∨ u = 2) with rfl | rfl
        · exact ⟨Int.le_refl _, m3⟩
        · exact ⟨m3, Int.le_refl _⟩
      generalize ([3, most] : List Int).getD (u - 1).toNat 0 = v at *
      conv => whnf
      refine ⟨_, _, rfl, by first | omega | decide, (sm64 (by first | omega | decide) (by first | omega | decide)).mono (by decide), pt1, by omega, fun w t2 w0 w1 pt2 => ?_⟩
      conv => whnf
      refine ⟨(by rw [List.length_map, hl]; unfold zLen; omega), ?_⟩
      conv => whnf
      obtain ⟨p, bs', e, l', b'⟩ := fin (1 + w) t2 (by omega) (by omega) (pt2.mono (by omega))
      rw [e]
      exact ⟨p, bs', _, _, rfl, l', b'⟩
  · obtain ⟨pm, bs, s4, s5, rfl, hl, hb⟩ := hI
    rw [rng_len] at pm hl
    conv => whnf
    exact k bs _ ⟨h2, h30, by omega, fun x hx => (hb x hx).1⟩ (fun x hx => (hb x hx).2) (pm.mono (by omega))
theorem d__law_begun_2_ok (as : List D) (t : Ts) (P : D → Ts → Prop) (h : sp__law_begun_2 as t P) : d__law_begun_2 (endsOf P) (start0 ["_law_pen_here", "_law_base_here", "_law_most", "_law_found", "_law_j", "_law_way"] as) t := by
  obtain ⟨b, n, f, rfl, h2, h30, f1, f9, pm, hn, k⟩ := h
  have hM := mil_ge f1
  conv => whnf
  repeat (refine And.intro (by first | omega | rfl | exact MulOk.r (by decide) (by decide) | exact MulOk.l (by omega) (by omega) | exact MulOk.r (by omega) (by omega) | exact DivOk.s (by omega) (by omega) | exact PowOk.s (by decide) (by decide) (by decide) (by decide) | (unfold zLen; omega) | (simp only [List.length_append, List.length_map, List.length_cons, List.length_nil]; unfold zLen; omega)) ?_; conv => whnf)
  refine ⟨fun i e m => Pk (n + (f + 2) * i) m ∧ ∃ bs : List Int, ∃ s4 s5, e = [.val .pen, .val (.int b), .val (.int f), .own (.lst (bs.map .int)), s4, s5] ∧ bs.length = i ∧ ∀ x ∈ bs, 1 ≤ x ∧ x ≤ 1000000 ^ f, ⟨by simpa using pm, [], _, _, rfl, rfl, by simp⟩, fun i x e m hx hI => ?_, fun e m hI => ?_⟩
  · obtain ⟨pm, bs, s4, s5, rfl, hl, hb⟩ := hI
    obtain ⟨hi, rfl⟩ := rng_get hx
    have hfi : ((f : Int) + 2) * i ≤ 1002 * 29 := Int.mul_le_mul (by omega) (by omega) (by omega) (by omega)
    have fin : ∀ (v : Int) (m : Ts), 1 ≤ v → v ≤ 1000000 ^ f → Pk (n + (f + 2) * i + (f + 2)) m → Pk (n + (f + 2) * (i + 1 : Nat)) m ∧ ∃ bs' : List Int, (bs.map D.int ++ [D.int v]) = bs'.map D.int ∧ bs'.length = i + 1 ∧ ∀ x ∈ bs', 1 ≤ x ∧ x ≤ 1000000 ^ f := fun v m h1 h9 p => ⟨p.mono (by rw [show ((i + 1 : Nat) : Int) = (i : Int) + 1 by omega, Int.mul_add]; omega), bs ++ [v], by simp, by simp [hl], fun x hx => by
      rcases List.mem_append.mp hx with z | z
      · exact hb x z
      · rw [List.mem_singleton.mp z]; exact ⟨h1, h9⟩⟩
    conv => whnf
    refine ⟨_, _, rfl, by first | omega | decide, (sm64 (by first | omega | decide) (by first | omega | decide)).mono (by decide), pm, by omega, fun u t1 u0 u1 pt1 => ?_⟩
    conv => whnf
    refine Br.mk (fun hu => ?_) (fun hu => ?_)
    · have hu : u < 3 := of_decide_eq_true hu
      conv => whnf
      refine ⟨_, atI_ints (xs := [1, 4, 30, 1]) (by omega) (by simp; omega), ?_⟩
      have hv : 1 ≤ ([1, 4, 30, 1] : List Int).getD u.toNat 0 ∧ ([1, 4, 30, 1] : List Int).getD u.toNat 0 ≤ 30 := by
        rcases (by omega : u = 0 ∨ u = 1 ∨ u = 2) with rfl | rfl | rfl <;> decide
      generalize ([1, 4, 30, 1] : List Int).getD u.toNat 0 = v at *
      conv => whnf
      refine ⟨_, _, rfl, by first | omega | decide, (sm64 (by first | omega | decide) (by first | omega | decide)).mono (by decide), pt1, by omega, fun w t2 w0 w1 pt2 => ?_⟩
      conv => whnf
      refine ⟨(by rw [List.length_map, hl]; unfold zLen; omega), ?_⟩
      conv => whnf
      obtain ⟨p, bs', e, l', b'⟩ := fin (1 + w) t2 (by omega) (by omega) (pt2.mono (by omega))
      rw [e]
      exact ⟨p, bs', _, _, rfl, l', b'⟩
    · conv => whnf
      refine ⟨_, f, rfl, f1, f9, pt1, by omega, fun w t2 w0 w1 p2 => ?_⟩
      conv => whnf
      refine ⟨(by rw [List.length_map, hl]; unfold zLen; omega), ?_⟩
      conv => whnf
      obtain ⟨p, bs', e, l', b'⟩ := fin (1 + w) t2 (by omega) (by omega) (p2.mono (by omega))
      rw [e]
      exact ⟨p, bs', _, _, rfl, l', b'⟩
  · obtain ⟨pm, bs, s4, s5, rfl, hl, hb⟩ := hI
    rw [rng_len] at pm hl
    conv => whnf
    refine k bs _ ⟨h2, h30, by omega, fun x hx => (hb x hx).1⟩ (fun x hx => (hb x hx).2) (pm.mono ?_)
    have hfi : ((f : Int) + 2) * (((b - 1).toNat : Nat) : Int) ≤ (f + 2) * 30 := Int.mul_le_mul_of_nonneg_left (by omega) (by omega)
    omega
theorem d__law_house_ok (W : Cl) (as : List D) (t : Ts) (P : D → Ts → Prop) (h : sp__law_house W as t P) : d__law_house W (endsOf P) (start0 ["_law_pen_here", "_law_base_here", "_law_begun_here"] as) t := by
  obtain ⟨b, bs, n, rfl, hh, pm, hn, k⟩ := h
  conv => whnf
  refine ⟨_, _, rfl, by first | omega | decide, (sm64 (by first | omega | decide) (by first | omega | decide)).mono (by decide), pm, by omega, fun u t1 u0 u1 pt1 => ?_⟩
  conv => whnf
  refine Br.mk (fun hu => ?_) (fun hu => ?_)
  · conv => whnf
    exact ⟨b, bs, .inr rfl, hh, k _ pt1⟩
  · conv => whnf
    exact ⟨b, bs, .inl rfl, hh, k _ pt1⟩
theorem d__law_is_number_ok (as : List D) (t : Ts) (P : D → Ts → Prop) (h : sp__law_is_number as t P) : d__law_is_number (endsOf P) (start0 ["_law_thing"] as) t := by
  obtain ⟨d, rfl, ⟨m, hm⟩, k⟩ := h
  cases d <;> (first | exact k | cases hm)
theorem d__law_pick_ok (as : List D) (t : Ts) (P : D → Ts → Prop) (h : sp__law_pick as t P) : d__law_pick (endsOf P) (start0 ["_law_pen_here", "_law_some"] as) t := by
  obtain ⟨n, l, rfl, h1, h2, pm, hn, k⟩ := h
  conv => whnf
  refine ⟨_, _, rfl, by first | omega | decide, (sm64 (by first | omega | decide) (by first | omega | decide)).mono (by decide), pm, by omega, fun u t1 u0 u1 pt1 => ?_⟩
  conv => whnf
  have h : u.toNat < l.length := by omega
  exact ⟨_, atI_nat u0 (List.getElem?_eq_getElem h), k _ _ _ (List.getElem?_eq_getElem h) pt1⟩
theorem d__law_number_ok (as : List D) (t : Ts) (P : D → Ts → Prop) (h : sp__law_number as t P) : d__law_number (endsOf P) (start0 ["_law_pen_here", "_law_base_here", "_law_pieces", "_law_way", "_law_number_here", "_law_j"] as) t := by
  obtain ⟨b, n, f, rfl, h2, h30, f1, f9, pm, hn, k⟩ := h
  have hM := mil_ge f1
  have low : ∀ z : Int, 0 ≤ z → z ≤ 300 → Sm (20 * f + 10) z := fun z z0 z1 => (Sm.lit (b := 10) (by omega)).mono (by omega)
  conv => whnf
  refine ⟨_, _, rfl, by first | omega | decide, (sm64 (by first | omega | decide) (by first | omega | decide)).mono (by decide), pm, by omega, fun u t1 u0 u1 pt1 => ?_⟩
  conv => whnf
  refine Br.mk (fun hu => ?_) (fun hu => ?_)
  · conv => whnf
    refine ⟨_, f, rfl, f1, f9, pt1, by omega, fun w t2 w0 w1 p2 => ?_⟩
    exact k _ _ (by omega) ((sm_mil (f := f) (by omega) (by omega)).mono (by omega)) (p2.mono (by omega))
  · have hu : ¬ u = 0 := of_decide_eq_false hu
    conv => whnf
    refine ⟨.l (by omega) (by omega), ?_⟩
    conv => whnf
    refine ⟨_, atI_ints (xs := [200, 3 * b]) (by omega) (by simp; omega), ?_⟩
    have hv : 6 ≤ ([200, 3 * b] : List Int).getD (u - 1).toNat 0 ∧ ([200, 3 * b] : List Int).getD (u - 1).toNat 0 ≤ 200 := by
      rcases (by omega : u = 1 ∨ u = 2) with rfl | rfl
      · show (6 : Int) ≤ 200 ∧ (200 : Int) ≤ 200; decide
      · show 6 ≤ 3 * b ∧ 3 * b ≤ 200; omega
    generalize ([200, 3 * b] : List Int).getD (u - 1).toNat 0 = v at *
    conv => whnf
    refine ⟨_, _, rfl, by first | omega | decide, (sm64 (by first | omega | decide) (by first | omega | decide)).mono (by decide), pt1, by omega, fun w t2 w0 w1 pt2 => ?_⟩
    conv => whnf
    refine Br.mk (fun hq => ?_) (fun hq => ?_)
    · exact k _ _ (by omega) (low _ (by omega) (by omega)) (pt2.mono (by omega))
    · conv => whnf
      refine ⟨.l (by omega) (by omega), ?_⟩
      conv => whnf
      refine ⟨_, _, rfl, by first | omega | decide, (sm64 (by first | omega | decide) (by first | omega | decide)).mono (by decide), pt2, by omega, fun x t3 x0 x1 pt3 => ?_⟩
      conv => whnf
      refine ⟨by omega, ?_⟩
      conv => whnf
      refine ⟨fun i e m => t3 = m ∧ ∃ g s5, e = [.val .pen, .val (.int b), .val (.int f), .val (.int u), .val (.int g), s5] ∧ 1 ≤ g ∧ g ≤ 200 * 32 ^ i, ⟨rfl, _, _, rfl, by omega, by simp; omega⟩, fun i y e m hx hI => ?_, fun e m hI => ?_⟩
      · obtain ⟨rfl, g, s5, rfl, g1, g2⟩ := hI
        conv => whnf
        repeat (refine And.intro (by first | omega | rfl | exact MulOk.r (by decide) (by decide) | exact MulOk.l (by omega) (by omega) | exact MulOk.r (by omega) (by omega) | exact DivOk.s (by omega) (by omega) | exact PowOk.s (by decide) (by decide) (by decide) (by decide) | (unfold zLen; omega) | (simp only [List.length_append, List.length_map, List.length_cons, List.length_nil]; unfold zLen; omega)) ?_; conv => whnf)
        refine ⟨_, _, rfl, ?_, ?_⟩
        · have := Int.mul_le_mul_of_nonneg_left h2 (show 0 ≤ g by omega)
          omega
        · have := Int.mul_le_mul_of_nonneg_left (show b ≤ 32 by omega) (show 0 ≤ g by omega)
          rw [Int.pow_succ]
          omega
      · obtain ⟨rfl, g, s5, rfl, g1, g2⟩ := hI
        rw [rng_len] at g2
        have hs : (200 : Int) * 32 ^ x.toNat + 2 < 2 ^ (20 * f + 10) := by
          have h1 : (32 : Int) ^ x.toNat = ((2 ^ (5 * x.toNat) : Nat) : Int) := by rw [Nat.pow_mul]; simp
          have h3 : 2 ^ (5 * x.toNat) ≤ 2 ^ (20 * f) := Nat.pow_le_pow_right (by decide) (by omega)
          have h4 : ((2 : Int) ^ (20 * f + 10)) = ((2 ^ (20 * f) : Nat) : Int) * 1024 := by rw [Int.pow_add]; simp
          have h5 := Nat.two_pow_pos (20 * f)
          omega
        have hs2 : ∀ z : Int, 0 ≤ z → z ≤ g + 1 → Sm (20 * f + 10) z := fun z z0 z1 => by
          unfold Sm
          have : ((2 ^ (20 * f + 10) : Nat) : Int) = 2 ^ (20 * f + 10) := by simp
          omega
        conv => whnf
        refine Br.mk (fun hg => ?_) (fun hg => ?_)
        · have hg : 1 < g := of_decide_eq_true hg
          conv => whnf
          refine ⟨_, _, rfl, by first | omega | decide, (sm64 (by first | omega | decide) (by first | omega | decide)).mono (by decide), pt3, by omega, fun y t4 y0 y1 pt4 => ?_⟩
          conv => whnf
          exact k _ _ (by omega) (hs2 _ (by omega) (by omega)) (pt4.mono (by omega))
        · exact k _ _ (by decide) (low _ (by decide) (by decide)) (pt3.mono (by omega))
/-- places by the laws' own -/
theorem sum_less (l : List Int) : (l.map (· - 1)).sum = l.sum - l.length := by
  induction l with
  | nil => simp
  | cons a l ih => simp [ih]; omega
theorem Su_sum {bs : List Int} {j : Nat} (h : j ≤ bs.length) : (bs.take j).sum = Su bs j + j := by
  unfold Su
  rw [sum_less, List.length_take, show ((j : Int)).toNat = j by omega]
  omega
theorem Re_sum (bs : List Int) : bs.sum - bs.length = Re bs := by
  have := Su_sum (bs := bs) (Nat.le_refl _)
  rw [List.take_length] at this
  unfold Re
  omega
theorem d__law_last_2_ok (as : List D) (t : Ts) (P : D → Ts → Prop) (h : sp__law_last_2 as t P) : d__law_last_2 (endsOf P) (start0 ["_law_base_here", "_law_begun_here", "_law_number_here", "_law_reach", "_law_left", "_law_heap", "_law_deep"] as) t := by
  obtain ⟨b, bs, m, rfl, hh, h0, hs, k⟩ := h
  have h2 := hh.b2
  have h30 := hh.b30
  have hl := hh.len
  conv => whnf
  refine ⟨fun e u => t = u ∧ ∃ l hp, ∃ d : Nat, e = [.val (.int b), .val (.lst (bs.map .int)), .val (.int m), .no, .val (.int l), .val (.int hp), .val (.int d)] ∧ 0 ≤ l ∧ 2 ^ d * l ≤ m ∧ (d = 0 ∨ 1 ≤ l) ∧ Lp b bs m = m + hp - l + d * Re bs + Lp b bs l, fun e u => match e with | [_, _, _, _, .val (.int y), _, _] => y.toNat | _ => 0, ⟨rfl, m, 0, 0, rfl, h0, by simp, .inl rfl, by simp⟩, fun e u hI => ?_⟩
  obtain ⟨rfl, l, hp, d, rfl, l0, hdl, hd1, hL⟩ := hI
  conv => whnf
  refine Br.mk (fun hc => ?_) (fun hc => ?_)
  · have hc : b ≤ l := of_decide_eq_true hc
    have e1 := Lp_ge (bs := bs) h2 hc
    have l1 : 0 ≤ l / b := Int.ediv_nonneg l0 (by omega)
    have l2 : 1 ≤ l / b := (Int.le_ediv_iff_mul_le (by omega)).mpr (by omega)
    have e3 := ediv_le2 l0 h2
    have hp2 : (0 : Int) < 2 ^ d := Int.pow_pos (by decide)
    conv => whnf
    repeat (refine And.intro (by first | omega | rfl | exact MulOk.r (by decide) (by decide) | exact MulOk.l (by omega) (by omega) | exact MulOk.r (by omega) (by omega) | exact DivOk.s (by omega) (by omega) | exact PowOk.s (by decide) (by decide) (by decide) (by decide) | (unfold zLen; omega) | (simp only [List.length_append, List.length_map, List.length_cons, List.length_nil]; unfold zLen; omega)) ?_; conv => whnf)
    refine ⟨⟨rfl, l / b, _, d + 1, rfl, l1, ?_, .inr l2, ?_⟩, ?_⟩
    · have := Int.mul_le_mul_of_nonneg_left e3 (show (0 : Int) ≤ 2 ^ d by omega)
      rw [Int.pow_succ]
      grind
    · rw [hL, e1, show ((d + 1 : Nat) : Int) = d + 1 by omega]
      grind
    · show (l / b).toNat < l.toNat
      omega
  · have hc : ¬ b ≤ l := of_decide_eq_false hc
    have hd : d ≤ 1000000 := by
      rcases hd1 with z | z
      · omega
      · rcases Nat.lt_or_ge 1000000 d with q | q
        · exfalso
          have h3 : (2 : Nat) ^ 1000000 ≤ 2 ^ d := Nat.pow_le_pow_right (by decide) (by omega)
          have h4 : (((2 : Nat) ^ d : Nat) : Int) = (2 : Int) ^ d := by simp
          have hp2 : (0 : Int) < 2 ^ d := Int.pow_pos (by decide)
          have := Int.mul_le_mul_of_nonneg_left z (show (0 : Int) ≤ 2 ^ d by omega)
          unfold Sm at hs
          omega
        · exact q
    conv => whnf
    refine ⟨bs, ints_map bs, ?_⟩
    conv => whnf
    rw [List.length_map, Re_sum]
    refine ⟨.l (by omega) (by omega), ?_⟩
    conv => whnf
    obtain ⟨j, rfl⟩ : ∃ j : Nat, l = j := ⟨l.toNat, by omega⟩
    rw [show cutD (bs.map D.int) none (some (j : Int)) = (bs.take j).map D.int by
      unfold cutD
      have e1 : sIx (bs.map D.int).length (bs.map D.int).length (some (j : Int)) = j := by
        unfold sIx
        simp only [List.length_map]
        rw [if_neg (by omega)]
        omega
      rw [e1]
      simp [List.map_take, sIx]]
    refine ⟨_, ints_map _, ?_⟩
    conv => whnf
    rw [Su_sum (by omega)]
    have e : Lp b bs (j : Int) = j + Su bs j := by
      by_cases z : (j : Int) = 0
      · rw [z, Lp_le0 (by omega), Su_zero]; rfl
      · exact Lp_lt h2 (by omega) (by omega)
    rw [hL, e] at k
    rw [show m + hp + d * Re bs + (Su bs j + j) - j = m + hp - j + d * Re bs + (j + Su bs j) by omega]
    exact k
theorem d__law_times_ok (as : List D) (t : Ts) (P : D → Ts → Prop) (h : sp__law_times as t P) : d__law_times (endsOf P) (start0 ["_law_base_here", "_law_begun_here", "_law_number_here", "_law_left", "_law_more"] as) t := by
  obtain ⟨b, bs, m, rfl, hh, h1, k⟩ := h
  have h2 := hh.b2
  have h30 := hh.b30
  have hl := hh.len
  conv => whnf
  refine ⟨fun e u => t = u ∧ ∃ l d, e = [.val (.int b), .val (.lst (bs.map .int)), .val (.int m), .val (.int l), .val (.int d)] ∧ 1 ≤ l ∧ Ti b bs m = d + Ti b bs l, fun e u => match e with | [_, _, _, .val (.int y), _] => y.toNat | _ => 0, ⟨rfl, m, 0, rfl, h1, by omega⟩, fun e u hI => ?_⟩
  obtain ⟨rfl, l, d, rfl, l1, hT⟩ := hI
  have fin : (l < b ∨ l % b ≠ 0) → (dSeq (dRet (dOp oAdd (dVar 4) (dIfE (dB (dOp oLt (dVar 3) (dVar 0))) (dOp oIx (dVar 1) (dOp oSub (dVar 3) (dC (.int 1)))) (dC (.int 1))))) dNext) (endsOf P) [.val (.int b), .val (.lst (bs.map .int)), .val (.int m), .val (.int l), .val (.int d)] t := fun hq => by
    conv => whnf
    refine Br.mk (fun hv => ?_) (fun hv => ?_)
    · have hv : l < b := of_decide_eq_true hv
      conv => whnf
      refine ⟨_, atI_ints (by omega) (by omega), ?_⟩
      rw [← Ti_lt hh l1 hv]
      conv => whnf
      rw [← hT]
      exact k
    · have hv : ¬ l < b := of_decide_eq_false hv
      rw [hT, Ti_one hh (by omega) (by omega)] at k
      exact k
  conv => whnf
  refine Br.mk (fun hc => ?_) (fun hc => ?_)
  · have hc : b ≤ l := of_decide_eq_true hc
    have e3 := ediv_le2 (show 0 ≤ l by omega) h2
    conv => whnf
    repeat (refine And.intro (by first | omega | rfl | exact MulOk.r (by decide) (by decide) | exact MulOk.l (by omega) (by omega) | exact MulOk.r (by omega) (by omega) | exact DivOk.s (by omega) (by omega) | exact PowOk.s (by decide) (by decide) (by decide) (by decide) | (unfold zLen; omega) | (simp only [List.length_append, List.length_map, List.length_cons, List.length_nil]; unfold zLen; omega)) ?_; conv => whnf)
    refine Br.mk (fun hd => ?_) (fun hd => ?_)
    · have hd : l % b = 0 := of_decide_eq_true hd
      have l2 : 1 ≤ l / b := (Int.le_ediv_iff_mul_le (by omega)).mpr (by omega)
      have e2 : l = b * (l / b) := by have := Int.mul_ediv_add_emod l b; omega
      have e4 := Ti_mul hh l2
      rw [← e2] at e4
      conv => whnf
      repeat (refine And.intro (by first | omega | rfl | exact MulOk.r (by decide) (by decide) | exact MulOk.l (by omega) (by omega) | exact MulOk.r (by omega) (by omega) | exact DivOk.s (by omega) (by omega) | exact PowOk.s (by decide) (by decide) (by decide) (by decide) | (unfold zLen; omega) | (simp only [List.length_append, List.length_map, List.length_cons, List.length_nil]; unfold zLen; omega)) ?_; conv => whnf)
      refine ⟨⟨rfl, l / b, d + 1, rfl, l2, by omega⟩, ?_⟩
      show (l / b).toNat < l.toNat
      omega
    · exact fin (.inr (of_decide_eq_false hd))
  · exact fin (.inl (by have := of_decide_eq_false hc; omega))
theorem d__law_gone_2_ok (as : List D) (t : Ts) (P : D → Ts → Prop) (h : sp__law_gone_2 as t P) : d__law_gone_2 (endsOf P) (start0 ["_law_base_here", "_law_begun_here", "_law_many", "_law_row", "_law_j", "_law_reach", "_law_at", "_law_goal", "_law_elder", "_law_spot"] as) t := by
  obtain ⟨b, bs, many, rfl, hh, hx9, hsm, hm, k⟩ := h
  have h2 := hh.b2
  have h30 := hh.b30
  have hl := hh.len
  have hfk := folk_is hh
  have hat : ∀ i : Nat, i < bs.length → 1 ≤ bs.getD i 0 ∧ bs.getD i 0 ≤ 1000 := fun i hi => ⟨hh.pos _ (getD_mem hi), hx9 _ (getD_mem hi)⟩
  have hup : ∀ i : Nat, i ≤ bs.length → Lp b bs i ≤ 1000 * i := by
    intro i
    induction i with
    | zero => intro _; rw [show ((0 : Nat) : Int) = 0 from rfl, Lp_le0 (by decide)]; decide
    | succ i ih =>
      intro hi
      have e := Ti_lt hh (n := (i : Int) + 1) (by omega) (by omega)
      rw [show ((i : Int) + 1 - 1).toNat = i by omega] at e
      unfold Ti at e
      rw [show (i : Int) + 1 - 1 = i by omega] at e
      have := ih (by omega)
      have := (hat i (by omega)).2
      rw [show ((i + 1 : Nat) : Int) = (i : Int) + 1 by omega]
      omega
  conv => whnf
  repeat (refine And.intro (by first | omega | rfl | exact MulOk.r (by decide) (by decide) | exact MulOk.l (by omega) (by omega) | exact MulOk.r (by omega) (by omega) | exact DivOk.s (by omega) (by omega) | exact PowOk.s (by decide) (by decide) (by decide) (by decide) | (unfold zLen; omega) | (simp only [List.length_append, List.length_map, List.length_cons, List.length_nil]; unfold zLen; omega)) ?_; conv => whnf)
  refine ⟨fun i e m => t = m ∧ ∃ s4, e = [.val (.int b), .val (.lst (bs.map .int)), .val (.int many), .own (.lst ((gl b bs (Lp b bs i).toNat).map .int)), s4, .no, .no, .no, .no, .no], ⟨rfl, .no, ?_⟩, fun i x e m hx hI => ?_, fun e m hI => ?_⟩
  · rw [show ((0 : Nat) : Int) = 0 from rfl, Lp_le0 (by decide)]
    rfl
  · obtain ⟨rfl, s4, rfl⟩ := hI
    obtain ⟨hi, rfl⟩ := rng_get hx
    have hi : i < bs.length := by omega
    obtain ⟨g1, g2⟩ := hat i hi
    have hu := hup i (by omega)
    rw [Int.zero_add]
    conv => whnf
    refine ⟨_, atI_ints (by omega) (by omega), ?_⟩
    rw [show ((i : Int)).toNat = i by omega]
    conv => whnf
    refine ⟨⟨by omega, by omega, by simp only [List.length_cons, List.length_nil]; unfold zLen; omega⟩, ?_⟩
    conv => whnf
    refine ⟨(by rw [rep_one]; simp only [List.length_map, gl_len, List.length_replicate]; unfold zLen; omega), ?_⟩
    conv => whnf
    refine ⟨rfl, .val (.int i), ?_⟩
    rw [rep_one, show ((i + 1 : Nat) : Int) = (i : Int) + 1 by omega, gl_row hh hi]
    simp
  · obtain ⟨rfl, s4, rfl⟩ := hI
    rw [rng_len, show (((b - 1).toNat : Nat) : Int) = b - 1 by omega]
    conv => whnf
    refine ⟨bs, ints_map bs, ?_⟩
    conv => whnf
    simp only [List.length_map, gl_len]
    rw [Re_sum]
    have hf0 := Lp_ge_self hh (n := b - 1) (by omega)
    have hf9 := hup bs.length (Nat.le_refl _)
    rw [hl] at hf9
    refine ⟨⟨by omega, by omega, by omega, by omega⟩, ?_⟩
    conv => whnf
    refine ⟨fun i e m => t = m ∧ ∃ s4 s6 s7 s8 s9, e = [.val (.int b), .val (.lst (bs.map .int)), .val (.int many), .own (.lst ((gl b bs ((Lp b bs (b - 1)).toNat + i)).map .int)), s4, .val (.int (Re bs)), s6, s7, s8, s9], ⟨rfl, _, _, _, _, _, rfl⟩, fun i x e m hx hI => ?_, fun e m hI => ?_⟩
    · obtain ⟨rfl, s4, s6, s7, s8, s9, rfl⟩ := hI
      obtain ⟨hi, rfl⟩ := rng_get hx
      generalize hn : (Lp b bs (b - 1)).toNat + i = n at *
      rw [show (((Lp b bs (b - 1)).toNat : Nat) : Int) + 1 + i = (n : Int) + 1 by omega]
      conv => whnf
      repeat (refine And.intro (by first | omega | rfl | exact MulOk.r (by decide) (by decide) | exact MulOk.l (by omega) (by omega) | exact MulOk.r (by omega) (by omega) | exact DivOk.s (by omega) (by omega) | exact PowOk.s (by decide) (by decide) (by decide) (by decide) | (unfold zLen; omega) | (simp only [List.length_append, List.length_map, List.length_cons, List.length_nil]; unfold zLen; omega)) ?_; conv => whnf)
      refine ⟨fun j e m => t = m ∧ ∃ s4 s8 s9, e = [.val (.int b), .val (.lst (bs.map .int)), .val (.int many), .own (.lst ((gl b bs n).map .int)), s4, .val (.int (Re bs)), .val (.int (n + 1)), .val (.int (sumN (fun j => sd b bs ((n : Int) + 1 - j - Re bs - sd b bs ((n : Int) + 1 - j - 1))) j)), s8, s9], ⟨rfl, _, _, _, rfl⟩, fun j x e m hx hI => ?_, fun e m hI => ?_⟩
      · obtain ⟨rfl, s4, s8, s9, rfl⟩ := hI
        obtain ⟨hj, rfl⟩ := rng_get hx
        have hj : (j : Int) < b := by omega
        rw [Int.zero_add]
        have hone : ∀ Q : D → Ts → Prop, Q (.int (sd b bs ((n : Int) + 1 - j - 1))) t → (dIfE (dB (dOp oGt (dOp oSub (dVar 6) (dVar 4)) (dC (.int 1)))) (dOp oIx (dView 3) (dOp oSub (dOp oSub (dVar 6) (dVar 4)) (dC (.int 2)))) (dC (.int 1))) [.val (.int b), .val (.lst (bs.map .int)), .val (.int many), .own (.lst ((gl b bs n).map .int)), .val (.int j), .val (.int (Re bs)), .val (.int (n + 1)), .val (.int (sumN (fun j => sd b bs ((n : Int) + 1 - j - Re bs - sd b bs ((n : Int) + 1 - j - 1))) j)), s8, s9] t Q := by
          intro Q q
          conv => whnf
          refine Br.mk (fun hp => ?_) (fun hp => ?_)
          · have hp : 1 < (n : Int) + 1 - j := of_decide_eq_true hp
            conv => whnf
            refine ⟨_, atI_ints (by omega) (by rw [gl_len]; omega), ?_⟩
            rw [gl_at (by omega), show ((((n : Int) + 1 - j - 2).toNat : Nat) : Int) + 1 = (n : Int) + 1 - j - 1 by omega]
            exact q
          · have hp : ¬ 1 < (n : Int) + 1 - j := of_decide_eq_false hp
            conv => whnf
            rw [sd_le0 (by omega)] at q
            exact q
        refine hone _ ?_
        have o1 := sd_pos hh ((n : Int) + 1 - j - 1)
        generalize hO : sd b bs ((n : Int) + 1 - j - 1) = one at *
        have hR := Re_nn hh
        conv => whnf
        refine Br.mk (fun hp => ?_) (fun hp => ?_)
        · have hp : 0 < (n : Int) + 1 - j - Re bs - one := of_decide_eq_true hp
          conv => whnf
          refine ⟨_, atI_ints (by omega) (by rw [gl_len]; omega), ?_⟩
          rw [gl_at (by omega), show ((((n : Int) + 1 - j - Re bs - one - 1).toNat : Nat) : Int) + 1 = (n : Int) + 1 - j - Re bs - one by omega]
          refine ⟨rfl, .val (.int j), .val (.int one), .val (.int ((n : Int) + 1 - j - Re bs - one)), ?_⟩
          rw [← hO]
          rfl
        · have hp : ¬ 0 < (n : Int) + 1 - j - Re bs - one := of_decide_eq_false hp
          conv => whnf
          refine ⟨rfl, .val (.int j), .val (.int one), .val (.int ((n : Int) + 1 - j - Re bs - one)), ?_⟩
          have e9 : sd b bs ((n : Int) + 1 - j - Re bs - sd b bs ((n : Int) + 1 - j - 1)) = 1 := sd_le0 (by rw [hO]; omega)
          show _ = [_, _, _, _, _, _, _, Sl.val (.int (sumN _ j + sd b bs ((n : Int) + 1 - j - Re bs - sd b bs ((n : Int) + 1 - j - 1)))), _, _]
          rw [e9]
          rfl
      · obtain ⟨rfl, s4, s8, s9, rfl⟩ := hI
        rw [rng_len, rule_is hh (p := (n : Int) + 1) (by omega)]
        conv => whnf
        refine ⟨(by rw [List.length_map, gl_len]; unfold zLen; omega), ?_⟩
        conv => whnf
        have e1 : (gl b bs n).map D.int ++ [D.int (sd b bs ((n : Int) + 1))] = (gl b bs (n + 1)).map D.int := by
          rw [gl_succ, List.map_append]
          rfl
        rw [e1, ← hn]
        exact ⟨rfl, _, _, _, _, _, rfl⟩
    · obtain ⟨rfl, s4, s6, s7, s8, s9, rfl⟩ := hI
      rw [rng_len, show (Lp b bs (b - 1)).toNat + ((many : Int) + 1 - (((Lp b bs (b - 1)).toNat : Nat) + 1)).toNat = many by omega]
      conv => whnf
      exact k
end Q

/-! MTool -/
namespace Q
open PySem
/-! ### comprehensions that draw nothing -/
section
variable {xs : List D} {env : En} {t : Ts} {vs : List Nat} {g : DG} {c : DT} {a : DE} {P : List D → Ts → Prop}
/-- by the items' places; some are left out -/
theorem lc_fm (f : Nat → Option D) (hl : xs.length ≤ zLen) (h : ∀ (i : Nat) (x : D), xs[i]? = some x → ∀ (Qy : D → Ts → Prop) (Qn : Ts → Prop), (∀ y, f i = some y → Qy y t) → (f i = none → Qn t) →
    g x (wipeE env vs) t fun e' m' => wipeE e' vs = wipeE env vs ∧ c e' m' fun k m1 => Br k (a e' m1 Qy) (Qn m1)) (k : P ((List.range xs.length).filterMap f) t) :
    ∃ Inv : Nat → List D → Ts → Prop, Inv 0 [] t ∧ (∀ i x acc m, xs[i]? = some x → Inv i acc m → g x (wipeE env vs) m fun e' m' => wipeE e' vs = wipeE env vs ∧ c e' m' fun k m1 => Br k (a e' m1 fun y m2 => acc.length < zLen ∧ Inv (i + 1) (acc ++ [y]) m2) (Inv (i + 1) acc m1)) ∧ ∀ acc m, Inv xs.length acc m → P acc m := by
  refine ⟨fun i acc m => t = m ∧ acc = (List.range i).filterMap f, ⟨rfl, rfl⟩, fun i x acc m hx hI => ?_, fun acc m hI => ?_⟩
  · obtain ⟨rfl, rfl⟩ := hI
    have hi : i < xs.length := (List.getElem?_eq_some_iff.mp hx).1
    refine h i x hx _ _ (fun y hy => ⟨?_, rfl, ?_⟩) (fun hn => ⟨rfl, ?_⟩)
    · refine Nat.lt_of_le_of_lt (List.length_filterMap_le _ _) ?_
      rw [List.length_range]; omega
    · rw [List.range_succ, List.filterMap_append]
      simp [hy]
    · rw [List.range_succ, List.filterMap_append]
      simp [hn]
  · obtain ⟨rfl, rfl⟩ := hI
    exact k
theorem fm_some {α β : Type} (f : α → β) : ∀ l : List α, l.filterMap (fun x => some (f x)) = l.map f
  | [] => rfl
  | x :: l => by simp [fm_some f l]
/-- .. all taken -/
theorem lc_idx (f : Nat → D) (hl : xs.length ≤ zLen) (h : ∀ (i : Nat) (x : D), xs[i]? = some x → ∀ Qy : D → Ts → Prop, Qy (f i) t →
    g x (wipeE env vs) t fun e' m' => wipeE e' vs = wipeE env vs ∧ a e' m' Qy) (k : P ((List.range xs.length).map f) t) :
    ∃ Inv : Nat → List D → Ts → Prop, Inv 0 [] t ∧ (∀ i x acc m, xs[i]? = some x → Inv i acc m → g x (wipeE env vs) m fun e' m' => wipeE e' vs = wipeE env vs ∧ dYes e' m' fun k m1 => Br k (a e' m1 fun y m2 => acc.length < zLen ∧ Inv (i + 1) (acc ++ [y]) m2) (Inv (i + 1) acc m1)) ∧ ∀ acc m, Inv xs.length acc m → P acc m := by
  refine lc_fm (c := dYes) (fun i => some (f i)) hl (fun i x hx Qy Qn h1 h2 => h i x hx Qy (h1 _ rfl)) ?_
  rw [fm_some]
  exact k
/-- .. by the items -/
theorem lc_map (f : D → D) (hl : xs.length ≤ zLen) (h : ∀ (i : Nat) (x : D), xs[i]? = some x → ∀ Qy : D → Ts → Prop, Qy (f x) t →
    g x (wipeE env vs) t fun e' m' => wipeE e' vs = wipeE env vs ∧ a e' m' Qy) (k : P (xs.map f) t) :
    ∃ Inv : Nat → List D → Ts → Prop, Inv 0 [] t ∧ (∀ i x acc m, xs[i]? = some x → Inv i acc m → g x (wipeE env vs) m fun e' m' => wipeE e' vs = wipeE env vs ∧ dYes e' m' fun k m1 => Br k (a e' m1 fun y m2 => acc.length < zLen ∧ Inv (i + 1) (acc ++ [y]) m2) (Inv (i + 1) acc m1)) ∧ ∀ acc m, Inv xs.length acc m → P acc m := by
  refine lc_idx (fun i => f (xs.getD i .non)) hl (fun i x hx Qy q => ?_) ?_
  · refine h i x hx Qy ?_
    rw [List.getD_eq_getElem?_getD, hx] at q
    exact q
  · have e : (List.range xs.length).map (fun i => f (xs.getD i .non)) = xs.map f := by
      apply List.ext_getElem
      · simp
      · intro i h1 h2
        simp at h1
        simp [List.getD_eq_getElem?_getD, List.getElem?_eq_getElem h1]
    rw [e]
    exact k
end
theorem map_map_int {α : Type} (l : List α) (f : α → Int) : l.map (fun x => D.int (f x)) = (l.map f).map .int := by simp
theorem ints_fn {α : Type} (l : List α) (f : α → Int) : intsD (l.map fun x => D.int (f x)) = some (l.map f) := by rw [map_map_int, ints_map]
theorem getD_some {α : Type} {l : List α} {i : Nat} {x d : α} (h : l[i]? = some x) : l.getD i d = x := by rw [List.getD_eq_getElem?_getD, h]; rfl
theorem getElem?_getD {l : List Int} {i : Nat} (h : i < l.length) : l[i]? = some (l.getD i 0) := by rw [List.getD_eq_getElem?_getD, List.getElem?_eq_getElem h]; rfl
theorem cut_to {l : List Int} {a : Nat} (h : a ≤ l.length) : cutD (l.map D.int) none (some (a : Int)) = (l.take a).map D.int := by
  unfold cutD
  have e1 : sIx (l.map D.int).length (l.map D.int).length (some (a : Int)) = a := by
    unfold sIx
    simp only [List.length_map]
    rw [if_neg (by omega)]
    omega
  rw [e1]
  simp [List.map_take, sIx]
theorem pick_nat {l : List Nat} {M : Nat} {i : Nat} {d : D} (h : (l.map fun (n : Nat) => D.int n)[i]? = some d) (hl : ∀ n ∈ l, 1 ≤ n ∧ n ≤ M) : ∃ f : Nat, d = .int f ∧ 1 ≤ f ∧ f ≤ M := by
  rw [List.getElem?_map] at h
  cases q : l[i]? with
  | none => rw [q] at h; cases h
  | some n =>
    rw [q] at h
    cases h
    have := hl n (List.mem_of_getElem? q)
    exact ⟨n, rfl, this.1, this.2⟩
theorem pick_int {l : List Int} {lo hi : Int} {i : Nat} {d : D} (h : (l.map D.int)[i]? = some d) (hl : ∀ n ∈ l, lo ≤ n ∧ n ≤ hi) : ∃ f : Int, d = .int f ∧ lo ≤ f ∧ f ≤ hi := by
  rw [List.getElem?_map] at h
  cases q : l[i]? with
  | none => rw [q] at h; cases h
  | some n =>
    rw [q] at h
    cases h
    have := hl n (List.mem_of_getElem? q)
    exact ⟨n, rfl, this.1, this.2⟩
/-! ### data that are alike -/
mutual
theorem deq_refl : ∀ d : D, plain d = true → deq d d = true
  | .non, _ => rfl
  | .bl b, _ => by simp [deq]
  | .int i, _ => by simp [deq]
  | .str x, _ => by simp [deq]
  | .lst l, h => by unfold deq; exact deqs_refl l (by unfold plain at h; exact h)
  | .tup l, h => by unfold deq; exact deqs_refl l (by unfold plain at h; exact h)
  | .dic _ _, h => by simp [plain] at h
  | .ins _ _ _, h => by simp [plain] at h
  | .pen, h => by simp [plain] at h
  | .ty _, h => by simp [plain] at h
  | .adr _, h => by simp [plain] at h
  | .scr _, h => by simp [plain] at h
theorem deqs_refl : ∀ l : List D, plains l = true → deqs l l = true
  | [], _ => rfl
  | d :: l, h => by
    unfold plains at h
    unfold deqs
    rw [Bool.and_eq_true] at h
    rw [deq_refl d h.1, deqs_refl l h.2]
    rfl
end
theorem br_nr {a c : D} {p q : Prop} (h : a = c) (hp : plain a = true) (k : q) : Br (!deq a c) p q := by
  subst h
  rw [deq_refl a hp]
  exact k
theorem br_er {a c : D} {p q : Prop} (h : a = c) (hp : plain a = true) (k : p) : Br (deq a c) p q := by
  subst h
  rw [deq_refl a hp]
  exact k
/-- told = due, data of these kinds: ok -/
theorem eqok {x y : D} (h1 : plain x = true) (h2 : plain y = true) (h3 : deep x ≤ 60) (h4 : deep y ≤ 60) : plain x = true ∧ plain y = true ∧ deep x ≤ 60 ∧ deep y ≤ 60 := ⟨h1, h2, h3, h4⟩
theorem plain_ints (l : List Int) : plain (.lst (l.map .int)) = true := by simp [plain, plains_ints]
theorem deep_ints (l : List Int) : deep (.lst (l.map .int)) = 1 := by simp [deep, deeps_ints]
theorem eqok_ii (a : List Int) {y : D} (h2 : plain y = true) (h4 : deep y ≤ 60) : plain (.lst (a.map .int)) = true ∧ plain y = true ∧ deep (.lst (a.map .int)) ≤ 60 ∧ deep y ≤ 60 := ⟨plain_ints a, h2, by rw [deep_ints]; decide, h4⟩
theorem atI_last {xs : List Int} (h : xs ≠ []) : atI (xs.map .int) (-1) = some (.int (xs.getLastD 0)) := by
  have hl : 0 < xs.length := List.length_pos_iff.mpr h
  unfold atI
  rw [if_neg (by decide), if_pos (by rw [List.length_map]; omega), List.getElem?_map]
  rw [show ((-1 : Int) + ((xs.map D.int).length : Int)).toNat = xs.length - 1 by rw [List.length_map]; omega, List.getElem?_eq_getElem (by omega)]
  simp [List.getLastD_eq_getLast?, List.getLast?_eq_getElem?, List.getElem?_eq_getElem (show xs.length - 1 < xs.length by omega)]
/-- [x for x in whole numbers if not _law_is_number(x)] is empty -/
theorem lc_none {xs : List D} {env : En} {t : Ts} {vs : List Nat} {g : DG} {c : DT} {a : DE} {P : List D → Ts → Prop} (h : ∀ (i : Nat) (x : D), xs[i]? = some x → ∀ (Qn : Ts → Prop) (Qy : D → Ts → Prop), Qn t →
    g x (wipeE env vs) t fun e' m' => wipeE e' vs = wipeE env vs ∧ c e' m' fun k m1 => Br k (a e' m1 Qy) (Qn m1)) (k : P [] t) :
    ∃ Inv : Nat → List D → Ts → Prop, Inv 0 [] t ∧ (∀ i x acc m, xs[i]? = some x → Inv i acc m → g x (wipeE env vs) m fun e' m' => wipeE e' vs = wipeE env vs ∧ c e' m' fun k m1 => Br k (a e' m1 fun y m2 => acc.length < zLen ∧ Inv (i + 1) (acc ++ [y]) m2) (Inv (i + 1) acc m1)) ∧ ∀ acc m, Inv xs.length acc m → P acc m := by
  refine ⟨fun _ acc m => t = m ∧ acc = [], ⟨rfl, rfl⟩, fun i x acc m hx hI => ?_, fun acc m hI => ?_⟩
  · obtain ⟨rfl, rfl⟩ := hI
    exact h i x hx _ _ ⟨rfl, rfl⟩
  · obtain ⟨rfl, rfl⟩ := hI
    exact k
end Q

/-! MSum -/
namespace Q
open PySem
/-! ### often.py: sums -/
def HSm (y : Nat) (bs : List Int) : Prop := ∀ x ∈ bs, Sm y x
def sp_triangle : PSp := fun ds t P => ∃ n, ds = [.int n] ∧ 0 ≤ n ∧ Sm 400000 n ∧ P (.int (tri n)) t
def sp_total_by (W : Cl) : PSp := fun ds t P => ∃ b bs n, ds = [hD W b bs, .int n] ∧ Hou b bs ∧ HSm 30000 bs ∧ 0 ≤ n ∧ Sm 100000 n ∧ P (.int (To b bs n)) t
def So (b : Int) (bs : List Int) (p : Int) : Int := if p ≤ 0 then 0 else To b bs (sd b bs p - 1) + sd b bs p * (p - Lp b bs (sd b bs p - 1))
def sp_sum_upto (W : Cl) : PSp := fun ds t P => ∃ b bs p, ds = [hD W b bs, .int p] ∧ Hou b bs ∧ HSm 30000 bs ∧ 0 ≤ p ∧ Sm 90000 p ∧ P (.int (So b bs p)) t
def sp_least_place (W : Cl) : PSp := fun ds t P => ∃ b bs g, ds = [hD W b bs, .int g] ∧ Hou b bs ∧ HSm 30000 bs ∧ 1 ≤ g ∧ Sm 8000 g ∧ ∀ p, 1 ≤ p → So b bs (p - 1) < g → g ≤ So b bs p → P (.int p) t
theorem len_triangle (as : List D) (t : Ts) (P : D → Ts → Prop) (h : sp_triangle as t P) : as.length = 1 := by first | (obtain ⟨_, rfl, _⟩ := h; rfl) | (obtain ⟨_, _, rfl, _⟩ := h; rfl) | (obtain ⟨_, _, _, rfl, _⟩ := h; rfl) | (obtain ⟨_, _, _, _, rfl, _⟩ := h; rfl) | (obtain ⟨_, _, _, _, _, rfl, _⟩ := h; rfl) | (obtain ⟨_, _, _, _, _, _, rfl, _⟩ := h; rfl) | (obtain ⟨_, _, _, _, _, _, _, rfl, _⟩ := h; rfl) | (obtain ⟨_, _, _, _, _, _, _, _, rfl, _⟩ := h; rfl) | (obtain ⟨_, rfl | rfl, _⟩ := h <;> rfl) | (obtain ⟨_, _, rfl | rfl, _⟩ := h <;> rfl) | (obtain ⟨_, _, _, rfl | rfl, _⟩ := h <;> rfl) | (obtain ⟨_, _, _, _, rfl | rfl, _⟩ := h <;> rfl) | (obtain ⟨_, _, _, _, _, rfl | rfl, _⟩ := h <;> rfl) | (obtain ⟨_, _, _, _, _, _, rfl | rfl, _⟩ := h <;> rfl) | (obtain ⟨_, _, _, _, _, _, _, rfl | rfl, _⟩ := h <;> rfl) | (obtain ⟨_, _, _, _, _, _, _, _, rfl | rfl, _⟩ := h <;> rfl)
theorem len_total_by (W : Cl) (as : List D) (t : Ts) (P : D → Ts → Prop) (h : sp_total_by W as t P) : as.length = 2 := by first | (obtain ⟨_, rfl, _⟩ := h; rfl) | (obtain ⟨_, _, rfl, _⟩ := h; rfl) | (obtain ⟨_, _, _, rfl, _⟩ := h; rfl) | (obtain ⟨_, _, _, _, rfl, _⟩ := h; rfl) | (obtain ⟨_, _, _, _, _, rfl, _⟩ := h; rfl) | (obtain ⟨_, _, _, _, _, _, rfl, _⟩ := h; rfl) | (obtain ⟨_, _, _, _, _, _, _, rfl, _⟩ := h; rfl) | (obtain ⟨_, _, _, _, _, _, _, _, rfl, _⟩ := h; rfl) | (obtain ⟨_, rfl | rfl, _⟩ := h <;> rfl) | (obtain ⟨_, _, rfl | rfl, _⟩ := h <;> rfl) | (obtain ⟨_, _, _, rfl | rfl, _⟩ := h <;> rfl) | (obtain ⟨_, _, _, _, rfl | rfl, _⟩ := h <;> rfl) | (obtain ⟨_, _, _, _, _, rfl | rfl, _⟩ := h <;> rfl) | (obtain ⟨_, _, _, _, _, _, rfl | rfl, _⟩ := h <;> rfl) | (obtain ⟨_, _, _, _, _, _, _, rfl | rfl, _⟩ := h <;> rfl) | (obtain ⟨_, _, _, _, _, _, _, _, rfl | rfl, _⟩ := h <;> rfl)
theorem len_sum_upto (W : Cl) (as : List D) (t : Ts) (P : D → Ts → Prop) (h : sp_sum_upto W as t P) : as.length = 2 := by first | (obtain ⟨_, rfl, _⟩ := h; rfl) | (obtain ⟨_, _, rfl, _⟩ := h; rfl) | (obtain ⟨_, _, _, rfl, _⟩ := h; rfl) | (obtain ⟨_, _, _, _, rfl, _⟩ := h; rfl) | (obtain ⟨_, _, _, _, _, rfl, _⟩ := h; rfl) | (obtain ⟨_, _, _, _, _, _, rfl, _⟩ := h; rfl) | (obtain ⟨_, _, _, _, _, _, _, rfl, _⟩ := h; rfl) | (obtain ⟨_, _, _, _, _, _, _, _, rfl, _⟩ := h; rfl) | (obtain ⟨_, rfl | rfl, _⟩ := h <;> rfl) | (obtain ⟨_, _, rfl | rfl, _⟩ := h <;> rfl) | (obtain ⟨_, _, _, rfl | rfl, _⟩ := h <;> rfl) | (obtain ⟨_, _, _, _, rfl | rfl, _⟩ := h <;> rfl) | (obtain ⟨_, _, _, _, _, rfl | rfl, _⟩ := h <;> rfl) | (obtain ⟨_, _, _, _, _, _, rfl | rfl, _⟩ := h <;> rfl) | (obtain ⟨_, _, _, _, _, _, _, rfl | rfl, _⟩ := h <;> rfl) | (obtain ⟨_, _, _, _, _, _, _, _, rfl | rfl, _⟩ := h <;> rfl)
theorem len_least_place (W : Cl) (as : List D) (t : Ts) (P : D → Ts → Prop) (h : sp_least_place W as t P) : as.length = 2 := by first | (obtain ⟨_, rfl, _⟩ := h; rfl) | (obtain ⟨_, _, rfl, _⟩ := h; rfl) | (obtain ⟨_, _, _, rfl, _⟩ := h; rfl) | (obtain ⟨_, _, _, _, rfl, _⟩ := h; rfl) | (obtain ⟨_, _, _, _, _, rfl, _⟩ := h; rfl) | (obtain ⟨_, _, _, _, _, _, rfl, _⟩ := h; rfl) | (obtain ⟨_, _, _, _, _, _, _, rfl, _⟩ := h; rfl) | (obtain ⟨_, _, _, _, _, _, _, _, rfl, _⟩ := h; rfl) | (obtain ⟨_, rfl | rfl, _⟩ := h <;> rfl) | (obtain ⟨_, _, rfl | rfl, _⟩ := h <;> rfl) | (obtain ⟨_, _, _, rfl | rfl, _⟩ := h <;> rfl) | (obtain ⟨_, _, _, _, rfl | rfl, _⟩ := h <;> rfl) | (obtain ⟨_, _, _, _, _, rfl | rfl, _⟩ := h <;> rfl) | (obtain ⟨_, _, _, _, _, _, rfl | rfl, _⟩ := h <;> rfl) | (obtain ⟨_, _, _, _, _, _, _, rfl | rfl, _⟩ := h <;> rfl) | (obtain ⟨_, _, _, _, _, _, _, _, rfl | rfl, _⟩ := h <;> rfl)
def d_triangle : DS := (dSeq (dRet (dOp oDiv (dOp oMul (dVar 0) (dOp oAdd (dVar 0) (dC (.int 1)))) (dC (.int 2)))) dNext)
def d_total_by (W : Cl) : DS := (dSeq (dAsg (dTup (dCons (dMeth W.House "base" (sp_House_base W) [] (dVar 0) dNil) (dCons (dC (.int 0)) (dCons (dVar 1) (dCons (dC (.int 1)) dNil))))) (gTup 4 (gCons (gName 4) (gCons (gName 3) (gCons (gName 5) (gCons (gName 6) gNil)))))) (dSeq (dWhile (dB (dOp oGe (dVar 5) (dVar 4))) (dSeq (dAug 3 oAddI (dOp oMul (dVar 6) (dCall sp_triangle [] (dCons (dVar 5) dNil)))) (dSeq (dAug 5 oDiv (dVar 4)) (dSeq (dAug 6 oMulI (dVar 4)) dNext)))) (dSeq (dAsg (dLc [7, 8] (iEnumD 1 (dMeth W.House "beginning" (sp_House_beginning W) [] (dVar 0) dNil)) (gTup 2 (gCons (gName 7) (gCons (gName 8) gNil))) dYes (dOp oMul (dVar 7) (dOp oSub (dVar 8) (dC (.int 1))))) (gName 2)) (dSeq (dAug 3 oAddI (dOp oAdd (dOp oMul (dVar 6) (dCall sp_triangle [] (dCons (dVar 5) dNil))) (dOp oMul (dCB bSum (dCons (dSlice (dVar 2) dNoPart (dPart (dVar 5))) dNil)) (dVar 6)))) (dSeq (dRet (dOp oAdd (dVar 3) (dIfE (dB (dOp oGt (dVar 1) (dC (.int 0)))) (dOp oMul (dCB bSum (dCons (dVar 2) dNil)) (dOp oDiv (dOp oSub (dVar 6) (dC (.int 1))) (dOp oSub (dVar 4) (dC (.int 1))))) (dC (.int 0))))) dNext)))))
def d_sum_upto (W : Cl) : DS := (dSeq (dIf (dB (dOp oEq (dVar 1) (dC (.int 0)))) (dSeq (dRet (dC (.int 0))) dNext) dNext) (dSeq (dAsg (dMeth W.House "said" (sp_House_said W) [] (dVar 0) (dCons (dVar 1) dNil)) (gName 2)) (dSeq (dRet (dOp oAdd (dCall (sp_total_by W) [] (dCons (dVar 0) (dCons (dOp oSub (dVar 2) (dC (.int 1))) dNil))) (dOp oMul (dVar 2) (dOp oSub (dVar 1) (dMeth W.House "last_place" (sp_House_last_place W) [] (dVar 0) (dCons (dOp oSub (dVar 2) (dC (.int 1))) dNil)))))) dNext)))
def d_least_place (W : Cl) : DS := (dSeq (dAsg (dTup (dCons (dC (.int 0)) (dCons (dC (.int 1)) dNil))) (gTup 2 (gCons (gName 2) (gCons (gName 3) gNil)))) (dSeq (dWhile (dB (dOp oLt (dCall (sp_total_by W) [] (dCons (dVar 0) (dCons (dVar 3) dNil))) (dVar 1))) (dSeq (dPar 2 3 (dCons (dVar 3) (dCons (dOp oMul (dC (.int 2)) (dVar 3)) dNil))) dNext)) (dSeq (dWhile (dB (dOp oGt (dOp oSub (dVar 3) (dVar 2)) (dC (.int 1)))) (dSeq (dAsg (dOp oDiv (dOp oAdd (dVar 2) (dVar 3)) (dC (.int 2))) (gName 4)) (dSeq (dIf (dB (dOp oLt (dCall (sp_total_by W) [] (dCons (dVar 0) (dCons (dVar 4) dNil))) (dVar 1))) (dSeq (dAsg (dVar 4) (gName 2)) dNext) (dSeq (dAsg (dVar 4) (gName 3)) dNext)) dNext))) (dSeq (dRet (dOp oAdd (dMeth W.House "last_place" (sp_House_last_place W) [] (dVar 0) (dCons (dVar 2) dNil)) (dOp oDiv (dOp oSub (dOp oAdd (dOp oSub (dVar 1) (dCall (sp_total_by W) [] (dCons (dVar 0) (dCons (dVar 2) dNil)))) (dVar 3)) (dC (.int 1))) (dVar 3)))) dNext))))
def d_House_base (W : Cl) : DS := (dSeq (dRet (dFld W.House "kept_base" (dVar 0))) dNext)
def d_House_beginning (W : Cl) : DS := (dSeq (dRet (dCB bList (dCons (dFld W.House "kept_beginning" (dVar 0)) dNil))) dNext)
section
variable {b : Int} {bs : List Int}
theorem tri_nn {n : Int} (h : 0 ≤ n) : 0 ≤ tri n := by
  have := tri_two n
  have : 0 ≤ n * (n + 1) := Int.mul_nonneg h (by omega)
  omega
theorem wts_nn : ∀ (l : List Int) (i : Int), 0 ≤ i → (∀ x ∈ l, 1 ≤ x) → ∀ x ∈ wts i l, 0 ≤ x
  | [], _, _, _, x, hx => by simp [wts] at hx
  | c :: r, i, h0, h, x, hx => by
    rcases List.mem_cons.mp hx with rfl | z
    · exact Int.mul_nonneg h0 (by have := h c (List.mem_cons_self ..); omega)
    · exact wts_nn r (i + 1) (by omega) (fun x hx => h x (List.mem_cons_of_mem _ hx)) x z
theorem Ws_nn (h : Hou b bs) (j : Int) : 0 ≤ Ws bs j := sum_nn fun x hx => wts_nn bs 1 (by decide) h.pos x (List.mem_of_mem_take hx)
theorem To_nn (h : Hou b bs) : ∀ (k : Nat) (n : Int), n.toNat ≤ k → 0 ≤ To b bs n
  | k, n, hk => by
    have hb := h.b2
    by_cases h0 : n ≤ 0
    · rw [To_le0 h0]; exact Int.le_refl 0
    · by_cases h1 : n < b
      · rw [To_lt hb (by omega) h1]
        have := tri_nn (show 0 ≤ n by omega)
        have := Ws_nn h n
        omega
      · have h7 := ediv_toNat_lt (b := b) (x := n) ⟨by omega, hb⟩
        match k with
        | 0 => omega
        | k + 1 =>
          have ih := To_nn h k (n / b) (by omega)
          rw [To_ge hb (by omega)]
          have := tri_nn (show 0 ≤ n by omega)
          have := Ws_nn h bs.length
          have := Int.mul_nonneg (show 0 ≤ b by omega) ih
          omega
theorem To_step' (h : Hou b bs) {n : Int} (h1 : 1 ≤ n) : To b bs n = To b bs (n - 1) + n * Ti b bs n := To_step h _ n (Nat.le_refl _) h1
theorem Ti_pos' (h : Hou b bs) {n : Int} (h1 : 1 ≤ n) : 1 ≤ Ti b bs n := Ti_pos h _ n (Nat.le_refl _) h1
theorem To_up (h : Hou b bs) {n : Int} (h1 : 1 ≤ n) : To b bs (n - 1) + n ≤ To b bs n := by
  rw [To_step' h h1]
  have := Int.mul_le_mul_of_nonneg_left (Ti_pos' h h1) (show 0 ≤ n by omega)
  omega
theorem To_mono (h : Hou b bs) : ∀ (k : Nat) (n : Int), 0 ≤ n → To b bs n ≤ To b bs (n + k)
  | 0, n, _ => by simp
  | k + 1, n, h0 => by
    have ih := To_mono h k n h0
    have e := To_up h (n := n + ((k + 1 : Nat) : Int)) (by omega)
    rw [show n + ((k + 1 : Nat) : Int) - 1 = n + k by omega] at e
    omega
theorem To_le (h : Hou b bs) {m n : Int} (h0 : 0 ≤ m) (h1 : m ≤ n) : To b bs m ≤ To b bs n := by
  obtain ⟨k, rfl⟩ : ∃ k : Nat, n = m + k := ⟨(n - m).toNat, by omega⟩
  exact To_mono h k m h0
theorem To_ge_self (h : Hou b bs) {n : Int} (h0 : 0 ≤ n) : n ≤ To b bs n := by
  by_cases z : n = 0
  · rw [z, To_le0 (by decide)]; decide
  · have := To_up h (n := n) (by omega)
    have := To_nn h _ (n - 1) (Nat.le_refl _)
    omega
/-- the sum grows by what is said -/
theorem So_at (h : Hou b bs) {m p : Int} (h1 : 1 ≤ m) (h2 : Lp b bs (m - 1) ≤ p) (h3 : p ≤ Lp b bs m) : So b bs p = To b bs (m - 1) + m * (p - Lp b bs (m - 1)) := by
  by_cases hp : p ≤ 0
  · have : 0 ≤ Lp b bs (m - 1) := Lp_nn h (by omega)
    have e : p = Lp b bs (m - 1) := by omega
    have e2 : m = 1 := by
      have := Lp_ge_self h (n := m - 1) (by omega)
      omega
    subst e2
    unfold So
    rw [if_pos hp, show (1 : Int) - 1 = 0 by decide, To_le0 (by decide), Lp_le0 (by decide)]
    have : Lp b bs (1 - 1) = 0 := Lp_le0 (by decide)
    omega
  · by_cases hq : p = Lp b bs (m - 1)
    · have m2 : 2 ≤ m := by
        rcases Int.lt_or_le m 2 with z | z
        · rw [show m - 1 = 0 by omega, Lp_le0 (by decide)] at hq; omega
        · exact z
      have s : Sa b bs p (m - 1) := ⟨by omega, by rw [hq]; have := Lp_step h (n := m - 1) (by omega); omega, by rw [hq]; exact Int.le_refl _⟩
      unfold So
      rw [if_neg hp, sd_eq h s, To_step' h (n := m - 1) (by omega), ← hq]
      unfold Ti
      rw [← hq]
      omega
    · have s : Sa b bs p m := ⟨h1, by omega, h3⟩
      unfold So
      rw [if_neg hp, sd_eq h s]
theorem So_zero : So b bs 0 = 0 := by unfold So; rw [if_pos (by decide)]
theorem So_step (h : Hou b bs) {p : Int} (h0 : 0 ≤ p) : So b bs (p + 1) = So b bs p + sd b bs (p + 1) := by
  have s := sd_sa h (p := p + 1) (by omega)
  have m1 := s.m1
  have lo := s.lo
  have hi := s.hi
  generalize sd b bs (p + 1) = m at *
  rw [So_at h m1 (by omega) hi, So_at h m1 (p := p) (by omega) (by omega)]
  grind
theorem So_last (h : Hou b bs) {m : Int} (h0 : 0 ≤ m) : So b bs (Lp b bs m) = To b bs m := by
  by_cases z : m = 0
  · rw [z, Lp_le0 (by decide), So_zero, To_le0 (by decide)]
  · rw [So_at h (m := m) (by omega) (Lp_le_of h (by omega) (by omega)) (Int.le_refl _), To_step' h (n := m) (by omega)]
    unfold Ti
    rfl
theorem So_mono (h : Hou b bs) : ∀ (k : Nat) (p : Int), 0 ≤ p → So b bs p + k ≤ So b bs (p + k)
  | 0, p, _ => by simp
  | k + 1, p, h0 => by
    have ih := So_mono h k p h0
    have e := So_step h (p := p + k) (by omega)
    have := sd_pos h (p + k + 1)
    rw [show p + ((k + 1 : Nat) : Int) = p + k + 1 by omega]
    omega
theorem So_lt (h : Hou b bs) {p q : Int} (h0 : 0 ≤ p) (h1 : p < q) : So b bs p < So b bs q := by
  obtain ⟨k, rfl⟩ : ∃ k : Nat, q = p + (k + 1 : Nat) := ⟨(q - p - 1).toNat, by omega⟩
  have := So_mono h (k + 1) p h0
  omega
theorem So_inj (h : Hou b bs) {p q g : Int} (p1 : 1 ≤ p) (q1 : 1 ≤ q) (a1 : So b bs (p - 1) < g) (a2 : g ≤ So b bs p) (b1 : So b bs (q - 1) < g) (b2 : g ≤ So b bs q) : p = q := by
  rcases Int.lt_trichotomy p q with z | z | z
  · have : So b bs p ≤ So b bs (q - 1) := by
      by_cases e : p = q - 1
      · rw [e]; exact Int.le_refl _
      · exact Int.le_of_lt (So_lt h (by omega) (by omega))
    omega
  · exact z
  · have : So b bs q ≤ So b bs (p - 1) := by
      by_cases e : q = p - 1
      · rw [e]; exact Int.le_refl _
      · exact Int.le_of_lt (So_lt h (by omega) (by omega))
    omega
end
theorem d_triangle_ok (as : List D) (t : Ts) (P : D → Ts → Prop) (h : sp_triangle as t P) : d_triangle (endsOf P) (start0 ["number"] as) t := by
  obtain ⟨n, rfl, h0, hs, k⟩ := h
  conv => whnf
  refine ⟨MulOk.w hs ((Sm.add hs (Sm.lit (b := 400000) (Nat.lt_of_lt_of_le (by decide) (Nat.pow_le_pow_right (by decide) (show 1 ≤ 400000 by decide))))).mono (show 400001 ≤ 500000 by decide)) (by decide) (by decide) (by decide), ?_⟩
  conv => whnf
  conv => whnf
  repeat (refine And.intro (by first | omega | rfl | exact MulOk.r (by decide) (by decide) | exact MulOk.l (by omega) (by omega) | exact MulOk.r (by omega) (by omega) | exact DivOk.s (by omega) (by omega) | exact PowOk.s (by decide) (by decide) (by decide) (by decide) | (unfold zLen; omega) | (simp only [List.length_append, List.length_map, List.length_cons, List.length_nil]; unfold zLen; omega)) ?_; conv => whnf)
  exact k
theorem d_House_base_ok (W : Cl) (as : List D) (t : Ts) (P : D → Ts → Prop) (h : sp_House_base W as t P) : d_House_base W (endsOf P) (start0 ["self"] as) t := by
  obtain ⟨b, bs, rfl, k⟩ := h
  conv => whnf
  repeat (refine And.intro (by first | omega | rfl | exact MulOk.r (by decide) (by decide) | exact MulOk.l (by omega) (by omega) | exact MulOk.r (by omega) (by omega) | exact DivOk.s (by omega) (by omega) | exact PowOk.s (by decide) (by decide) (by decide) (by decide) | (unfold zLen; omega) | (simp only [List.length_append, List.length_map, List.length_cons, List.length_nil]; unfold zLen; omega)) ?_; conv => whnf)
  exact k
theorem d_House_beginning_ok (W : Cl) (as : List D) (t : Ts) (P : D → Ts → Prop) (h : sp_House_beginning W as t P) : d_House_beginning W (endsOf P) (start0 ["self"] as) t := by
  obtain ⟨b, bs, rfl, k⟩ := h
  conv => whnf
  repeat (refine And.intro (by first | omega | rfl | exact MulOk.r (by decide) (by decide) | exact MulOk.l (by omega) (by omega) | exact MulOk.r (by omega) (by omega) | exact DivOk.s (by omega) (by omega) | exact PowOk.s (by decide) (by decide) (by decide) (by decide) | (unfold zLen; omega) | (simp only [List.length_append, List.length_map, List.length_cons, List.length_nil]; unfold zLen; omega)) ?_; conv => whnf)
  exact k
theorem wts_sm {y : Nat} : ∀ (l : List Int) (i : Int), 0 ≤ i → i + l.length ≤ 31 → (∀ x ∈ l, 1 ≤ x ∧ x ≤ y) → (wts i l).sum ≤ l.length * (31 * y)
  | [], _, _, _, _ => by simp [wts]
  | c :: r, i, h0, h1, h => by
    simp only [List.length_cons] at h1
    have ih := wts_sm (y := y) r (i + 1) (by omega) (by omega) fun x hx => h x (List.mem_cons_of_mem _ hx)
    have ⟨c1, c2⟩ := h c (List.mem_cons_self ..)
    have h3 : i * (c - 1) ≤ 31 * y := Int.mul_le_mul (by omega) (by omega) (by omega) (by omega)
    simp only [wts, List.sum_cons, List.length_cons]
    rw [show ((r.length + 1 : Nat) : Int) = r.length + 1 by omega, Int.add_mul]
    omega
theorem sum_take_le : ∀ (l : List Int) (j : Nat), (∀ x ∈ l, 0 ≤ x) → (l.take j).sum ≤ l.sum
  | [], j, _ => by simp
  | a :: l, 0, h => by simp; have := h a (List.mem_cons_self ..); have := sum_nn (l := l) fun x hx => h x (List.mem_cons_of_mem _ hx); omega
  | a :: l, j + 1, h => by
    simp
    exact sum_take_le l j fun x hx => h x (List.mem_cons_of_mem _ hx)
theorem Ws_full (bs : List Int) : Ws bs bs.length = (wts 1 bs).sum := by
  unfold Ws
  rw [show ((bs.length : Int)).toNat = (wts 1 bs).length by rw [wts_len]; omega, List.take_length]
theorem Ws_sm {b : Int} {bs : List Int} (h : Hou b bs) (hs : HSm 30000 bs) (j : Int) : Sm 30010 (Ws bs j) := by
  have h0 := Ws_nn h j
  have h30 := h.b30
  have hl := h.len
  have hle := wts_sm (y := 2 ^ 30000) bs 1 (by decide) (by omega) fun x hx => ⟨h.pos x hx, by have := hs x hx; unfold Sm at this; omega⟩
  have h1 := sum_take_le (wts 1 bs) j.toNat fun x hx => wts_nn bs 1 (by decide) h.pos x hx
  have h2 : (bs.length : Int) * (31 * ((2 ^ 30000 : Nat) : Int)) ≤ 29 * (31 * ((2 ^ 30000 : Nat) : Int)) := Int.mul_le_mul_of_nonneg_right (by omega) (by omega)
  have h3 : (2 : Nat) ^ 30010 = 2 ^ 30000 * 1024 := by rw [show 30010 = 30000 + 10 from rfl, Nat.pow_add]
  have h4 : Ws bs j = ((wts 1 bs).take j.toNat).sum := rfl
  unfold Sm
  rw [h3]
  generalize (2 : Nat) ^ 30000 = M at *
  omega
theorem weights_is (bs : List Int) : (enumL 1 (bs.map D.int)).map (fun d => match d with | .tup [.int i, .int c] => D.int (i * (c - 1)) | _ => .non) = (wts 1 bs).map .int := by
  have : ∀ (l : List Int) (i : Int), (enumL i (l.map D.int)).map (fun d => match d with | .tup [.int i, .int c] => D.int (i * (c - 1)) | _ => .non) = (wts i l).map .int := by
    intro l
    induction l with
    | nil => intro i; rfl
    | cons c r ih =>
      intro i
      simp only [List.map_cons, enumL, wts]
      rw [ih (i + 1)]
  exact this bs 1
theorem enumL_ints {bs : List Int} {c : Int} {i : Nat} {x : D} (h : (enumL c (bs.map D.int))[i]? = some x) : ∃ y, bs[i]? = some y ∧ x = .tup [.int (c + i), .int y] := by
  rw [enumL_get] at h
  rw [List.getElem?_map] at h
  cases q : bs[i]? with
  | none => rw [q] at h; cases h
  | some y => rw [q] at h; cases h; exact ⟨y, rfl, rfl⟩
theorem d_total_by_ok (W : Cl) (as : List D) (t : Ts) (P : D → Ts → Prop) (h : sp_total_by W as t P) : d_total_by W (endsOf P) (start0 ["house", "number", "weights", "found", "base", "left", "unit", "here", "many"] as) t := by
  obtain ⟨b, bs, n, rfl, hh, hbs, h0, hs, k⟩ := h
  have h2 := hh.b2
  have h30 := hh.b30
  have hl := hh.len
  conv => whnf
  repeat (refine And.intro (by first | omega | rfl | exact MulOk.r (by decide) (by decide) | exact MulOk.l (by omega) (by omega) | exact MulOk.r (by omega) (by omega) | exact DivOk.s (by omega) (by omega) | exact PowOk.s (by decide) (by decide) (by decide) (by decide) | (unfold zLen; omega) | (simp only [List.length_append, List.length_map, List.length_cons, List.length_nil]; unfold zLen; omega)) ?_; conv => whnf)
  refine ⟨b, bs, rfl, ?_⟩
  conv => whnf
  repeat (refine And.intro (by first | omega | rfl | exact MulOk.r (by decide) (by decide) | exact MulOk.l (by omega) (by omega) | exact MulOk.r (by omega) (by omega) | exact DivOk.s (by omega) (by omega) | exact PowOk.s (by decide) (by decide) (by decide) (by decide) | (unfold zLen; omega) | (simp only [List.length_append, List.length_map, List.length_cons, List.length_nil]; unfold zLen; omega)) ?_; conv => whnf)
  have sm1 : Sm 400000 n := hs.mono (by decide)
  refine ⟨fun e m => t = m ∧ ∃ f l u G, e = [.val (hD W b bs), .val (.int n), .no, .val (.int f), .val (.int b), .val (.int l), .val (.int u), .no, .no] ∧ 0 ≤ l ∧ 1 ≤ u ∧ u * l ≤ n ∧ (u = 1 ∨ 1 ≤ l) ∧ 0 ≤ G ∧ u - 1 = (b - 1) * G ∧ (0 < n → 0 < l) ∧ To b bs n = f + Ws bs bs.length * G + u * To b bs l, fun e m => match e with | [_, _, _, _, _, .val (.int y), _, _, _] => y.toNat | _ => 0, ⟨rfl, 0, n, 1, 0, rfl, h0, by decide, by omega, .inl rfl, by decide, by omega, id, by omega⟩, fun e m hI => ?_⟩
  obtain ⟨rfl, f, l, u, G, rfl, l0, u1, hul, hu1, hG, huG, hln, hT⟩ := hI
  have un : u ≤ n ∨ u = 1 := by
    rcases hu1 with z | z
    · exact .inr z
    · exact .inl (by have := Int.mul_le_mul_of_nonneg_left z (show 0 ≤ u by omega); omega)
  have lm : l ≤ n := by have := Int.mul_le_mul_of_nonneg_right u1 l0; omega
  have us : Sm 100001 u := by
    unfold Sm at *
    have : (2 : Nat) ^ 100001 = 2 ^ 100000 * 2 := by rw [Nat.pow_succ]
    have := Nat.two_pow_pos 100000
    generalize (2 : Nat) ^ 100000 = M at *
    omega
  have ls : Sm 100000 l := Sm.of l0 lm hs
  have trs : Sm 200001 (tri l) := by
    have e := tri_two l
    have h9 : Sm 200001 (l * (l + 1)) := Sm.mul (a := 100000) (b := 100001) ls (Sm.add ls (Sm.lit (b := 100000) (Nat.lt_of_lt_of_le (by decide) (Nat.pow_le_pow_right (by decide) (show 1 ≤ 100000 by decide)))))
    exact Sm.of (tri_nn l0) (by have := tri_nn l0; omega) h9
  have mt : MulOk u (tri l) := MulOk.w us trs (by decide) (by decide) (by decide)
  conv => whnf
  refine Br.mk (fun hc => ?_) (fun hc => ?_)
  · have hc : b ≤ l := of_decide_eq_true hc
    have l2 : 1 ≤ l / b := (Int.le_ediv_iff_mul_le (by omega)).mpr (by omega)
    have e3 := ediv_le2 l0 h2
    have e1 := Int.mul_ediv_add_emod l b
    have e2 := Int.emod_nonneg l (show b ≠ 0 by omega)
    conv => whnf
    refine ⟨l, rfl, l0, ls.mono (by decide), ?_⟩
    conv => whnf
    refine ⟨mt, ?_⟩
    conv => whnf
    conv => whnf
    repeat (refine And.intro (by first | omega | rfl | exact MulOk.r (by decide) (by decide) | exact MulOk.l (by omega) (by omega) | exact MulOk.r (by omega) (by omega) | exact DivOk.s (by omega) (by omega) | exact PowOk.s (by decide) (by decide) (by decide) (by decide) | (unfold zLen; omega) | (simp only [List.length_append, List.length_map, List.length_cons, List.length_nil]; unfold zLen; omega)) ?_; conv => whnf)
    refine ⟨⟨rfl, _, l / b, u * b, 1 + b * G, rfl, by omega, ?_, ?_, .inr l2, ?_, ?_, fun _ => by omega, ?_⟩, ?_⟩
    · have := Int.mul_le_mul_of_nonneg_left h2 (show 0 ≤ u by omega)
      omega
    · have : u * (b * (l / b)) ≤ u * l := Int.mul_le_mul_of_nonneg_left (by omega) (by omega)
      rw [Int.mul_assoc]
      omega
    · have := Int.mul_nonneg (show 0 ≤ b by omega) hG
      omega
    · grind
    · rw [hT, To_ge h2 hc]
      grind
    · show (l / b).toNat < l.toNat
      omega
  · have hc : ¬ b ≤ l := of_decide_eq_false hc
    conv => whnf
    repeat (refine And.intro (by first | omega | rfl | exact MulOk.r (by decide) (by decide) | exact MulOk.l (by omega) (by omega) | exact MulOk.r (by omega) (by omega) | exact DivOk.s (by omega) (by omega) | exact PowOk.s (by decide) (by decide) (by decide) (by decide) | (unfold zLen; omega) | (simp only [List.length_append, List.length_map, List.length_cons, List.length_nil]; unfold zLen; omega)) ?_; conv => whnf)
    refine ⟨b, bs, rfl, ?_⟩
    conv => whnf
    refine lc_map (fun d => match d with | .tup [.int i, .int c] => D.int (i * (c - 1)) | _ => .non) (by rw [enumL_len, List.length_map]; unfold zLen; omega) (fun i x hx Qy q => ?_) ?_
    · obtain ⟨y, hy, rfl⟩ := enumL_ints hx
      have hi : i < bs.length := (List.getElem?_eq_some_iff.mp hy).1
      conv => whnf
      refine ⟨rfl, ?_⟩
      conv => whnf
      refine ⟨rfl, ?_⟩
      conv => whnf
      refine ⟨.l (by omega) (by omega), ?_⟩
      conv => whnf
      exact q
    rw [weights_is]
    obtain ⟨j, rfl⟩ : ∃ j : Nat, l = j := ⟨l.toNat, by omega⟩
    conv => whnf
    refine ⟨j, rfl, l0, ls.mono (by decide), ?_⟩
    conv => whnf
    refine ⟨mt, ?_⟩
    conv => whnf
    rw [cut_to (by rw [wts_len]; omega)]
    refine ⟨_, ints_map _, ?_⟩
    have eW : ((wts 1 bs).take j).sum = Ws bs j := rfl
    rw [eW]
    conv => whnf
    refine ⟨MulOk.w (Ws_sm hh hbs j) us (by decide) (by decide) (by decide), ?_⟩
    conv => whnf
    have e : To b bs (j : Int) = tri j + Ws bs j := by
      by_cases z : (j : Int) = 0
      · rw [z, To_le0 (by omega), tri_zero, Ws_zero]; rfl
      · exact To_lt h2 (by omega) (by omega)
    refine Br.mk (fun hn => ?_) (fun hn => ?_)
    · have hG2 : (u - 1) / (b - 1) = G := by rw [huG, Int.mul_ediv_cancel_left _ (by omega)]
      have Gs : Sm 100001 G := by
        refine Sm.of hG ?_ us
        have := Int.mul_le_mul_of_nonneg_right (show 1 ≤ b - 1 by omega) hG
        omega
      conv => whnf
      refine ⟨_, ints_map _, ?_⟩
      conv => whnf
      refine ⟨.s (by omega) (by omega), ?_⟩
      conv => whnf
      rw [hG2, ← Ws_full]
      refine ⟨MulOk.w (Ws_sm hh hbs _) Gs (by decide) (by decide) (by decide), ?_⟩
      conv => whnf
      rw [hT, e] at k
      rw [show f + (u * tri j + Ws bs j * u) + Ws bs bs.length * G = f + Ws bs bs.length * G + u * (tri j + Ws bs j) by grind]
      exact k
    · have hn : n = 0 := by have := of_decide_eq_false hn; omega
      have j0 : (j : Int) = 0 := by omega
      have u0 : u = 1 := by
        rcases hu1 with z | z
        · exact z
        · omega
      have G0 : G = 0 := by
        rw [u0] at huG
        rcases Int.mul_eq_zero.mp huG.symm with z | z
        · omega
        · exact z
      conv => whnf
      rw [hT, e, G0] at k
      rw [show f + (u * tri j + Ws bs j * u) + 0 = f + Ws bs bs.length * 0 + u * (tri j + Ws bs j) by grind]
      exact k
theorem d_sum_upto_ok (W : Cl) (as : List D) (t : Ts) (P : D → Ts → Prop) (h : sp_sum_upto W as t P) : d_sum_upto W (endsOf P) (start0 ["house", "place", "number"] as) t := by
  obtain ⟨b, bs, p, rfl, hh, hbs, h0, hs, k⟩ := h
  conv => whnf
  refine Br.mk (fun hp => ?_) (fun hp => ?_)
  · have hp : p = 0 := of_decide_eq_true hp
    subst hp
    rw [So_zero] at k
    exact k
  · have hp : ¬ p = 0 := of_decide_eq_false hp
    conv => whnf
    repeat (refine And.intro (by first | omega | rfl | exact MulOk.r (by decide) (by decide) | exact MulOk.l (by omega) (by omega) | exact MulOk.r (by omega) (by omega) | exact DivOk.s (by omega) (by omega) | exact PowOk.s (by decide) (by decide) (by decide) (by decide) | (unfold zLen; omega) | (simp only [List.length_append, List.length_map, List.length_cons, List.length_nil]; unfold zLen; omega)) ?_; conv => whnf)
    refine ⟨b, bs, p, rfl, hh, by omega, hs.mono (by decide), fun m hm => ?_⟩
    have m1 := hm.m1
    have lo := hm.lo
    have hi := hm.hi
    have ge := Lp_ge_self hh (n := m - 1) (by omega)
    have ms : Sm 90000 (m - 1) := Sm.of (by omega) (by omega) hs
    conv => whnf
    repeat (refine And.intro (by first | omega | rfl | exact MulOk.r (by decide) (by decide) | exact MulOk.l (by omega) (by omega) | exact MulOk.r (by omega) (by omega) | exact DivOk.s (by omega) (by omega) | exact PowOk.s (by decide) (by decide) (by decide) (by decide) | (unfold zLen; omega) | (simp only [List.length_append, List.length_map, List.length_cons, List.length_nil]; unfold zLen; omega)) ?_; conv => whnf)
    refine ⟨b, bs, m - 1, rfl, hh, hbs, by omega, ms.mono (by decide), ?_⟩
    conv => whnf
    repeat (refine And.intro (by first | omega | rfl | exact MulOk.r (by decide) (by decide) | exact MulOk.l (by omega) (by omega) | exact MulOk.r (by omega) (by omega) | exact DivOk.s (by omega) (by omega) | exact PowOk.s (by decide) (by decide) (by decide) (by decide) | (unfold zLen; omega) | (simp only [List.length_append, List.length_map, List.length_cons, List.length_nil]; unfold zLen; omega)) ?_; conv => whnf)
    refine ⟨b, bs, m - 1, rfl, hh, by omega, ms.mono (by decide), ?_⟩
    conv => whnf
    refine ⟨MulOk.w (a := 90000) (b := 90000) (Sm.of (by omega) (show m ≤ p by omega) hs) (Sm.of (by omega) (show p - Lp b bs (m - 1) ≤ p by omega) hs) (by decide) (by decide) (by decide), ?_⟩
    conv => whnf
    rw [So_at hh m1 (by omega) hi] at k
    exact k
theorem d_least_place_ok (W : Cl) (as : List D) (t : Ts) (P : D → Ts → Prop) (h : sp_least_place W as t P) : d_least_place W (endsOf P) (start0 ["house", "total", "low", "high", "middle"] as) t := by
  obtain ⟨b, bs, g, rfl, hh, hbs, g1, hs, k⟩ := h
  conv => whnf
  repeat (refine And.intro (by first | omega | rfl | exact MulOk.r (by decide) (by decide) | exact MulOk.l (by omega) (by omega) | exact MulOk.r (by omega) (by omega) | exact DivOk.s (by omega) (by omega) | exact PowOk.s (by decide) (by decide) (by decide) (by decide) | (unfold zLen; omega) | (simp only [List.length_append, List.length_map, List.length_cons, List.length_nil]; unfold zLen; omega)) ?_; conv => whnf)
  have dbl : ∀ z : Int, 0 ≤ z → z ≤ 2 * g → Sm 8001 z := fun z z0 z1 => by
    unfold Sm at *
    have : (2 : Nat) ^ 8001 = 2 ^ 8000 * 2 := by rw [Nat.pow_succ]
    generalize (2 : Nat) ^ 8000 = M at *
    omega
  refine ⟨fun e m => t = m ∧ ∃ lo hi, e = [.val (hD W b bs), .val (.int g), .val (.int lo), .val (.int hi), .no] ∧ 0 ≤ lo ∧ lo < hi ∧ hi ≤ 2 * g ∧ To b bs lo < g, fun e m => match e with | [_, _, _, .val (.int y), _] => (2 * g - y).toNat | _ => 0, ⟨rfl, 0, 1, rfl, by decide, by decide, by omega, by rw [To_le0 (by decide)]; omega⟩, fun e m hI => ?_⟩
  obtain ⟨rfl, lo, hi, rfl, lo0, lh, hg, hT⟩ := hI
  conv => whnf
  repeat (refine And.intro (by first | omega | rfl | exact MulOk.r (by decide) (by decide) | exact MulOk.l (by omega) (by omega) | exact MulOk.r (by omega) (by omega) | exact DivOk.s (by omega) (by omega) | exact PowOk.s (by decide) (by decide) (by decide) (by decide) | (unfold zLen; omega) | (simp only [List.length_append, List.length_map, List.length_cons, List.length_nil]; unfold zLen; omega)) ?_; conv => whnf)
  refine ⟨b, bs, hi, rfl, hh, hbs, by omega, (dbl hi (by omega) hg).mono (by decide), ?_⟩
  conv => whnf
  refine Br.mk (fun hc => ?_) (fun hc => ?_)
  · have hc : To b bs hi < g := of_decide_eq_true hc
    have := To_ge_self hh (n := hi) (by omega)
    conv => whnf
    repeat (refine And.intro (by first | omega | rfl | exact MulOk.r (by decide) (by decide) | exact MulOk.l (by omega) (by omega) | exact MulOk.r (by omega) (by omega) | exact DivOk.s (by omega) (by omega) | exact PowOk.s (by decide) (by decide) (by decide) (by decide) | (unfold zLen; omega) | (simp only [List.length_append, List.length_map, List.length_cons, List.length_nil]; unfold zLen; omega)) ?_; conv => whnf)
    exact ⟨⟨rfl, hi, 2 * hi, rfl, by omega, by omega, by omega, hc⟩, by show (2 * g - 2 * hi).toNat < (2 * g - hi).toNat; omega⟩
  · have hc : ¬ To b bs hi < g := of_decide_eq_false hc
    conv => whnf
    refine ⟨fun e m => t = m ∧ ∃ lo hi s4, e = [.val (hD W b bs), .val (.int g), .val (.int lo), .val (.int hi), s4] ∧ 0 ≤ lo ∧ lo < hi ∧ hi ≤ 2 * g ∧ To b bs lo < g ∧ g ≤ To b bs hi, fun e m => match e with | [_, _, .val (.int x), .val (.int y), _] => (y - x).toNat | _ => 0, ⟨rfl, lo, hi, _, rfl, lo0, lh, hg, hT, by omega⟩, fun e m hI => ?_⟩
    obtain ⟨rfl, lo, hi, s4, rfl, lo0, lh, hg, hT, hU⟩ := hI
    conv => whnf
    refine Br.mk (fun hd => ?_) (fun hd => ?_)
    · have hd : 1 < hi - lo := of_decide_eq_true hd
      conv => whnf
      repeat (refine And.intro (by first | omega | rfl | exact MulOk.r (by decide) (by decide) | exact MulOk.l (by omega) (by omega) | exact MulOk.r (by omega) (by omega) | exact DivOk.s (by omega) (by omega) | exact PowOk.s (by decide) (by decide) (by decide) (by decide) | (unfold zLen; omega) | (simp only [List.length_append, List.length_map, List.length_cons, List.length_nil]; unfold zLen; omega)) ?_; conv => whnf)
      refine ⟨b, bs, (lo + hi) / 2, rfl, hh, hbs, by omega, (dbl _ (by omega) (by omega)).mono (by decide), ?_⟩
      conv => whnf
      refine Br.mk (fun he => ?_) (fun he => ?_)
      · have he : To b bs ((lo + hi) / 2) < g := of_decide_eq_true he
        conv => whnf
        repeat (refine And.intro (by first | omega | rfl | exact MulOk.r (by decide) (by decide) | exact MulOk.l (by omega) (by omega) | exact MulOk.r (by omega) (by omega) | exact DivOk.s (by omega) (by omega) | exact PowOk.s (by decide) (by decide) (by decide) (by decide) | (unfold zLen; omega) | (simp only [List.length_append, List.length_map, List.length_cons, List.length_nil]; unfold zLen; omega)) ?_; conv => whnf)
        exact ⟨⟨rfl, _, hi, _, rfl, by omega, by omega, hg, he, hU⟩, by show (hi - (lo + hi) / 2).toNat < (hi - lo).toNat; omega⟩
      · have he : ¬ To b bs ((lo + hi) / 2) < g := of_decide_eq_false he
        conv => whnf
        repeat (refine And.intro (by first | omega | rfl | exact MulOk.r (by decide) (by decide) | exact MulOk.l (by omega) (by omega) | exact MulOk.r (by omega) (by omega) | exact DivOk.s (by omega) (by omega) | exact PowOk.s (by decide) (by decide) (by decide) (by decide) | (unfold zLen; omega) | (simp only [List.length_append, List.length_map, List.length_cons, List.length_nil]; unfold zLen; omega)) ?_; conv => whnf)
        exact ⟨⟨rfl, lo, _, _, rfl, by omega, by omega, by omega, hT, by omega⟩, by show ((lo + hi) / 2 - lo).toNat < (hi - lo).toNat; omega⟩
    · have hd : ¬ 1 < hi - lo := of_decide_eq_false hd
      have e : lo = hi - 1 := by omega
      subst e
      conv => whnf
      repeat (refine And.intro (by first | omega | rfl | exact MulOk.r (by decide) (by decide) | exact MulOk.l (by omega) (by omega) | exact MulOk.r (by omega) (by omega) | exact DivOk.s (by omega) (by omega) | exact PowOk.s (by decide) (by decide) (by decide) (by decide) | (unfold zLen; omega) | (simp only [List.length_append, List.length_map, List.length_cons, List.length_nil]; unfold zLen; omega)) ?_; conv => whnf)
      refine ⟨b, bs, hi - 1, rfl, hh, by omega, (dbl _ (by omega) (by omega)).mono (by decide), ?_⟩
      conv => whnf
      repeat (refine And.intro (by first | omega | rfl | exact MulOk.r (by decide) (by decide) | exact MulOk.l (by omega) (by omega) | exact MulOk.r (by omega) (by omega) | exact DivOk.s (by omega) (by omega) | exact PowOk.s (by decide) (by decide) (by decide) (by decide) | (unfold zLen; omega) | (simp only [List.length_append, List.length_map, List.length_cons, List.length_nil]; unfold zLen; omega)) ?_; conv => whnf)
      refine ⟨b, bs, hi - 1, rfl, hh, hbs, by omega, (dbl _ (by omega) (by omega)).mono (by decide), ?_⟩
      conv => whnf
      refine ⟨.w (by omega) (dbl hi (by omega) hg) (by decide), ?_⟩
      conv => whnf
      have q1 := Int.mul_ediv_add_emod (g - To b bs (hi - 1) + hi - 1) hi
      have q2 := Int.emod_nonneg (g - To b bs (hi - 1) + hi - 1) (show hi ≠ 0 by omega)
      have q3 := Int.emod_lt_of_pos (g - To b bs (hi - 1) + hi - 1) (show 0 < hi by omega)
      have q4 : 1 ≤ (g - To b bs (hi - 1) + hi - 1) / hi := (Int.le_ediv_iff_mul_le (by omega)).mpr (by omega)
      generalize (g - To b bs (hi - 1) + hi - 1) / hi = c at *
      have st := To_step' hh (n := hi) (by omega)
      have c9 : c ≤ Ti b bs hi := by
        rcases Int.lt_or_le (Ti b bs hi) c with z | z
        · exfalso
          have := Int.mul_le_mul_of_nonneg_left (show Ti b bs hi + 1 ≤ c by omega) (show 0 ≤ hi by omega)
          rw [Int.mul_add] at this
          omega
        · exact z
      have hTi : Ti b bs hi = Lp b bs hi - Lp b bs (hi - 1) := rfl
      have a1 := So_at hh (m := hi) (p := Lp b bs (hi - 1) + c) (by omega) (by omega) (by omega)
      have a2 := So_at hh (m := hi) (p := Lp b bs (hi - 1) + c - 1) (by omega) (by omega) (by omega)
      rw [show Lp b bs (hi - 1) + c - Lp b bs (hi - 1) = c by omega] at a1
      rw [show Lp b bs (hi - 1) + c - 1 - Lp b bs (hi - 1) = c - 1 by omega, Int.mul_sub] at a2
      have := Lp_nn hh (n := hi - 1) (by omega)
      refine k _ (by omega) ?_ ?_
      · rw [a2]; omega
      · rw [a1]; omega
end Q

/-! MPenT -/
namespace Q
open PySem
/-! ### the tape pen -/
structure Pt (n : Int) (t : Ts) : Prop where
  c : t.cells.length ≤ 63
  a0 : 0 ≤ t.at'
  a1 : t.at' ≤ n
  l : 0 ≤ t.left
  tp : t.tape = true
theorem Pt.mono {n m : Int} {t : Ts} (p : Pt n t) (h : n ≤ m) : Pt m t := ⟨p.c, p.a0, Int.le_trans p.a1 h, p.l, p.tp⟩
theorem Pt.zero {cs : List Int} (h : cs.length ≤ 63) : Pt 0 ⟨cs, 0, 0, true⟩ := ⟨h, Int.le_refl 0, Int.le_refl 0, Int.le_refl 0, rfl⟩
theorem Pt.n0 {n : Int} {t : Ts} (p : Pt n t) : 0 ≤ n := Int.le_trans p.a0 p.a1
def sp__law_tape : PSp := fun ds t P => ∃ ns, ds = [.scr ns] ∧ ns.length ≤ 63 ∧ ∀ cs : List Int, cs.length ≤ 63 → P (.dic [.inr "cells", .inr "turn", .inr "rest"] [.lst (cs.map .int), .int 0, .int 0]) t
def sp__law_draw_2 : PSp := fun ds t P => ∃ many n, ds = [.pen, .int many] ∧ 0 < many ∧ Sm 9000 many ∧ Pt n t ∧ n < 100000000 ∧ ∀ z t', 0 ≤ z → z < many → Pt (n + 1) t' → P (.int z) t'
def sp__law_pick_2 : PSp := fun ds t P => ∃ n, ∃ l : List D, ds = [.pen, .lst l] ∧ 0 < l.length ∧ l.length ≤ 10000 ∧ Pt n t ∧ n < 90000000 ∧ ∀ (i : Nat) d t', l[i]? = some d → Pt (n + 1) t' → P d t'
def sp__law_many_2 : PSp := fun ds t P => ∃ n, ∃ f : Nat, ds = [.pen, .int f] ∧ f ≤ 6000 ∧ Pt n t ∧ n < 90000000 ∧ ∀ z t', 0 ≤ z → z < 1000000 ^ (f / 6 + 1) → Pt (n + 2 + f / 6) t' → P (.int z) t'
def sp__law_begun_3 : PSp := fun ds t P => ∃ b most n, ds = [.pen, .int b, .int most] ∧ 2 ≤ b ∧ b ≤ 30 ∧ 1 ≤ most ∧ Sm 8000 most ∧ Pt n t ∧ n < 80000000 ∧ ∀ bs t', Hou b bs → (∀ x ∈ bs, x ≤ most + 3) → Pt (n + 100) t' → P (.lst (bs.map .int)) t'
def sp__law_signed : PSp := fun ds t P => ∃ n, ∃ f : Nat, ds = [.pen, .int f] ∧ f ≤ 6000 ∧ Pt n t ∧ n < 80000000 ∧ ∀ z t', Sm (20 * (f / 6 + 1) + 2) z → Pt (n + 6 + f / 6) t' → P (.int z) t'
theorem len__law_tape (as : List D) (t : Ts) (P : D → Ts → Prop) (h : sp__law_tape as t P) : as.length = 1 := by first | (obtain ⟨_, rfl, _⟩ := h; rfl) | (obtain ⟨_, _, rfl, _⟩ := h; rfl) | (obtain ⟨_, _, _, rfl, _⟩ := h; rfl) | (obtain ⟨_, _, _, _, rfl, _⟩ := h; rfl) | (obtain ⟨_, _, _, _, _, rfl, _⟩ := h; rfl) | (obtain ⟨_, _, _, _, _, _, rfl, _⟩ := h; rfl) | (obtain ⟨_, _, _, _, _, _, _, rfl, _⟩ := h; rfl) | (obtain ⟨_, _, _, _, _, _, _, _, rfl, _⟩ := h; rfl) | (obtain ⟨_, rfl | rfl, _⟩ := h <;> rfl) | (obtain ⟨_, _, rfl | rfl, _⟩ := h <;> rfl) | (obtain ⟨_, _, _, rfl | rfl, _⟩ := h <;> rfl) | (obtain ⟨_, _, _, _, rfl | rfl, _⟩ := h <;> rfl) | (obtain ⟨_, _, _, _, _, rfl | rfl, _⟩ := h <;> rfl) | (obtain ⟨_, _, _, _, _, _, rfl | rfl, _⟩ := h <;> rfl) | (obtain ⟨_, _, _, _, _, _, _, rfl | rfl, _⟩ := h <;> rfl) | (obtain ⟨_, _, _, _, _, _, _, _, rfl | rfl, _⟩ := h <;> rfl)
theorem len__law_draw_2 (as : List D) (t : Ts) (P : D → Ts → Prop) (h : sp__law_draw_2 as t P) : as.length = 2 := by first | (obtain ⟨_, rfl, _⟩ := h; rfl) | (obtain ⟨_, _, rfl, _⟩ := h; rfl) | (obtain ⟨_, _, _, rfl, _⟩ := h; rfl) | (obtain ⟨_, _, _, _, rfl, _⟩ := h; rfl) | (obtain ⟨_, _, _, _, _, rfl, _⟩ := h; rfl) | (obtain ⟨_, _, _, _, _, _, rfl, _⟩ := h; rfl) | (obtain ⟨_, _, _, _, _, _, _, rfl, _⟩ := h; rfl) | (obtain ⟨_, _, _, _, _, _, _, _, rfl, _⟩ := h; rfl) | (obtain ⟨_, rfl | rfl, _⟩ := h <;> rfl) | (obtain ⟨_, _, rfl | rfl, _⟩ := h <;> rfl) | (obtain ⟨_, _, _, rfl | rfl, _⟩ := h <;> rfl) | (obtain ⟨_, _, _, _, rfl | rfl, _⟩ := h <;> rfl) | (obtain ⟨_, _, _, _, _, rfl | rfl, _⟩ := h <;> rfl) | (obtain ⟨_, _, _, _, _, _, rfl | rfl, _⟩ := h <;> rfl) | (obtain ⟨_, _, _, _, _, _, _, rfl | rfl, _⟩ := h <;> rfl) | (obtain ⟨_, _, _, _, _, _, _, _, rfl | rfl, _⟩ := h <;> rfl)
theorem len__law_pick_2 (as : List D) (t : Ts) (P : D → Ts → Prop) (h : sp__law_pick_2 as t P) : as.length = 2 := by first | (obtain ⟨_, rfl, _⟩ := h; rfl) | (obtain ⟨_, _, rfl, _⟩ := h; rfl) | (obtain ⟨_, _, _, rfl, _⟩ := h; rfl) | (obtain ⟨_, _, _, _, rfl, _⟩ := h; rfl) | (obtain ⟨_, _, _, _, _, rfl, _⟩ := h; rfl) | (obtain ⟨_, _, _, _, _, _, rfl, _⟩ := h; rfl) | (obtain ⟨_, _, _, _, _, _, _, rfl, _⟩ := h; rfl) | (obtain ⟨_, _, _, _, _, _, _, _, rfl, _⟩ := h; rfl) | (obtain ⟨_, rfl | rfl, _⟩ := h <;> rfl) | (obtain ⟨_, _, rfl | rfl, _⟩ := h <;> rfl) | (obtain ⟨_, _, _, rfl | rfl, _⟩ := h <;> rfl) | (obtain ⟨_, _, _, _, rfl | rfl, _⟩ := h <;> rfl) | (obtain ⟨_, _, _, _, _, rfl | rfl, _⟩ := h <;> rfl) | (obtain ⟨_, _, _, _, _, _, rfl | rfl, _⟩ := h <;> rfl) | (obtain ⟨_, _, _, _, _, _, _, rfl | rfl, _⟩ := h <;> rfl) | (obtain ⟨_, _, _, _, _, _, _, _, rfl | rfl, _⟩ := h <;> rfl)
theorem len__law_many_2 (as : List D) (t : Ts) (P : D → Ts → Prop) (h : sp__law_many_2 as t P) : as.length = 2 := by first | (obtain ⟨_, rfl, _⟩ := h; rfl) | (obtain ⟨_, _, rfl, _⟩ := h; rfl) | (obtain ⟨_, _, _, rfl, _⟩ := h; rfl) | (obtain ⟨_, _, _, _, rfl, _⟩ := h; rfl) | (obtain ⟨_, _, _, _, _, rfl, _⟩ := h; rfl) | (obtain ⟨_, _, _, _, _, _, rfl, _⟩ := h; rfl) | (obtain ⟨_, _, _, _, _, _, _, rfl, _⟩ := h; rfl) | (obtain ⟨_, _, _, _, _, _, _, _, rfl, _⟩ := h; rfl) | (obtain ⟨_, rfl | rfl, _⟩ := h <;> rfl) | (obtain ⟨_, _, rfl | rfl, _⟩ := h <;> rfl) | (obtain ⟨_, _, _, rfl | rfl, _⟩ := h <;> rfl) | (obtain ⟨_, _, _, _, rfl | rfl, _⟩ := h <;> rfl) | (obtain ⟨_, _, _, _, _, rfl | rfl, _⟩ := h <;> rfl) | (obtain ⟨_, _, _, _, _, _, rfl | rfl, _⟩ := h <;> rfl) | (obtain ⟨_, _, _, _, _, _, _, rfl | rfl, _⟩ := h <;> rfl) | (obtain ⟨_, _, _, _, _, _, _, _, rfl | rfl, _⟩ := h <;> rfl)
theorem len__law_begun_3 (as : List D) (t : Ts) (P : D → Ts → Prop) (h : sp__law_begun_3 as t P) : as.length = 3 := by first | (obtain ⟨_, rfl, _⟩ := h; rfl) | (obtain ⟨_, _, rfl, _⟩ := h; rfl) | (obtain ⟨_, _, _, rfl, _⟩ := h; rfl) | (obtain ⟨_, _, _, _, rfl, _⟩ := h; rfl) | (obtain ⟨_, _, _, _, _, rfl, _⟩ := h; rfl) | (obtain ⟨_, _, _, _, _, _, rfl, _⟩ := h; rfl) | (obtain ⟨_, _, _, _, _, _, _, rfl, _⟩ := h; rfl) | (obtain ⟨_, _, _, _, _, _, _, _, rfl, _⟩ := h; rfl) | (obtain ⟨_, rfl | rfl, _⟩ := h <;> rfl) | (obtain ⟨_, _, rfl | rfl, _⟩ := h <;> rfl) | (obtain ⟨_, _, _, rfl | rfl, _⟩ := h <;> rfl) | (obtain ⟨_, _, _, _, rfl | rfl, _⟩ := h <;> rfl) | (obtain ⟨_, _, _, _, _, rfl | rfl, _⟩ := h <;> rfl) | (obtain ⟨_, _, _, _, _, _, rfl | rfl, _⟩ := h <;> rfl) | (obtain ⟨_, _, _, _, _, _, _, rfl | rfl, _⟩ := h <;> rfl) | (obtain ⟨_, _, _, _, _, _, _, _, rfl | rfl, _⟩ := h <;> rfl)
theorem len__law_signed (as : List D) (t : Ts) (P : D → Ts → Prop) (h : sp__law_signed as t P) : as.length = 2 := by first | (obtain ⟨_, rfl, _⟩ := h; rfl) | (obtain ⟨_, _, rfl, _⟩ := h; rfl) | (obtain ⟨_, _, _, rfl, _⟩ := h; rfl) | (obtain ⟨_, _, _, _, rfl, _⟩ := h; rfl) | (obtain ⟨_, _, _, _, _, rfl, _⟩ := h; rfl) | (obtain ⟨_, _, _, _, _, _, rfl, _⟩ := h; rfl) | (obtain ⟨_, _, _, _, _, _, _, rfl, _⟩ := h; rfl) | (obtain ⟨_, _, _, _, _, _, _, _, rfl, _⟩ := h; rfl) | (obtain ⟨_, rfl | rfl, _⟩ := h <;> rfl) | (obtain ⟨_, _, rfl | rfl, _⟩ := h <;> rfl) | (obtain ⟨_, _, _, rfl | rfl, _⟩ := h <;> rfl) | (obtain ⟨_, _, _, _, rfl | rfl, _⟩ := h <;> rfl) | (obtain ⟨_, _, _, _, _, rfl | rfl, _⟩ := h <;> rfl) | (obtain ⟨_, _, _, _, _, _, rfl | rfl, _⟩ := h <;> rfl) | (obtain ⟨_, _, _, _, _, _, _, rfl | rfl, _⟩ := h <;> rfl) | (obtain ⟨_, _, _, _, _, _, _, _, rfl | rfl, _⟩ := h <;> rfl)
def d__law_tape : DS := (dSeq (dRet (dDisp (("cells", (dCB bList (dCons (dSlice (dVar 0) dNoPart (dPart (dC (.int 63)))) dNil))) :: (("turn", (dC (.int 0))) :: (("rest", (dC (.int 0))) :: []))))) dNext)
def d__law_draw_2 : DS := (dSeq (dIf (dB (dOp oGt (dPenL true (dVar 0)) (dC (.int 0)))) (dSeq (dAsg (dOp oMod (dPenL true (dVar 0)) (dVar 1)) (gName 7)) (dSeq (dPutL true 0 (dOp oDiv (dPenL true (dVar 0)) (dVar 1))) (dSeq (dRet (dVar 7)) dNext))) dNext) (dSeq (dAsg (dPenA true (dVar 0)) (gName 2)) (dSeq (dPutA true 0 (dOp oAdd (dVar 2) (dC (.int 1)))) (dSeq (dAsg (dOp oAdd (dOp oMul (dC (.int 41)) (dVar 2)) (dC (.int 3))) (gName 3)) (dSeq (dIf (dB (dOp oNe (dPenC (dVar 0)) (dLst dNil))) (dSeq (dAsg (dOp oIx (dPenC (dVar 0)) (dOp oMod (dVar 2) (dCB bLen (dCons (dPenC (dVar 0)) dNil)))) (gName 3)) dNext) dNext) (dSeq (dIf (dAnd (dB (dOp oLt (dVar 2) (dCB bLen (dCons (dPenC (dVar 0)) dNil)))) (dB (dOp oGe (dCB bAbs (dCons (dVar 3) dNil)) (dOp oPow (dC (.int 10)) (dC (.int 18)))))) (dSeq (dPutL true 0 (dOp oDiv (dOp oSub (dCB bAbs (dCons (dVar 3) dNil)) (dOp oPow (dC (.int 10)) (dC (.int 18)))) (dVar 1))) (dSeq (dRet (dOp oMod (dOp oSub (dCB bAbs (dCons (dVar 3) dNil)) (dOp oPow (dC (.int 10)) (dC (.int 18)))) (dVar 1))) dNext)) dNext) (dSeq (dAsg (dLst (dCons (dC (.int 2147483647)) (dCons (dC (.int 2147483629)) (dCons (dC (.int 2147483587)) (dCons (dC (.int 2147483579)) (dCons (dC (.int 2147483563)) dNil)))))) (gName 4)) (dSeq (dAsg (dOp oIx (dVar 4) (dOp oMod (dVar 2) (dC (.int 5)))) (gName 5)) (dSeq (dAsg (dOp oMod (dOp oAdd (dOp oAdd (dOp oMul (dOp oMod (dVar 3) (dVar 5)) (dC (.int 48271))) (dOp oMul (dOp oMul (dC (.int 40507)) (dVar 2)) (dVar 2))) (dC (.int 31))) (dVar 5)) (gName 6)) (dSeq (dAsg (dOp oMod (dOp oMul (dVar 6) (dOp oAdd (dVar 6) (dC (.int 69621)))) (dOp oIx (dVar 4) (dOp oMod (dOp oAdd (dVar 2) (dC (.int 2))) (dC (.int 5))))) (gName 6)) (dSeq (dRet (dOp oMod (dOp oDiv (dOp oMod (dOp oMul (dVar 6) (dVar 6)) (dC (.int 2147483549))) (dC (.int 64))) (dVar 1))) dNext)))))))))))
def d__law_pick_2 : DS := (dSeq (dRet (dOp oIx (dVar 1) (dCall sp__law_draw_2 [] (dCons (dVar 0) (dCons (dCB bLen (dCons (dVar 1) dNil)) dNil))))) dNext)
def d__law_many_2 : DS := (dSeq (dAsg (dC (.int 0)) (gName 2)) (dSeq (dFor (iRng1 (dOp oAdd (dCall sp__law_draw_2 [] (dCons (dVar 0) (dCons (dOp oAdd (dC (.int 1)) (dOp oDiv (dVar 1) (dC (.int 6)))) dNil))) (dC (.int 1)))) (gName 3) (dSeq (dAsg (dOp oAdd (dOp oMul (dVar 2) (dOp oPow (dC (.int 10)) (dC (.int 6)))) (dCall sp__law_draw_2 [] (dCons (dVar 0) (dCons (dOp oPow (dC (.int 10)) (dC (.int 6))) dNil)))) (gName 2)) dNext)) (dSeq (dRet (dVar 2)) dNext)))
def d__law_begun_3 : DS := (dSeq (dRet (dLc [3] (iRng1 (dOp oSub (dVar 1) (dC (.int 1)))) (gName 3) dYes (dOp oAdd (dC (.int 1)) (dCall sp__law_pick_2 [] (dCons (dVar 0) (dCons (dLst (dCons (dC (.int 0)) (dCons (dCall sp__law_draw_2 [] (dCons (dVar 0) (dCons (dC (.int 3)) dNil))) (dCons (dCall sp__law_draw_2 [] (dCons (dVar 0) (dCons (dVar 2) dNil))) dNil)))) dNil)))))) dNext)
def d__law_signed : DS := (dSeq (dRet (dOp oMul (dCall sp__law_pick_2 [] (dCons (dVar 0) (dCons (dLst (dCons (dC (.int 1)) (dCons (dUn oNeg (dC (.int 1))) (dCons (dC (.int 0)) (dCons (dC (.int 1)) (dCons (dUn oNeg (dC (.int 1))) dNil)))))) dNil))) (dCall sp__law_pick_2 [] (dCons (dVar 0) (dCons (dLst (dCons (dCall sp__law_draw_2 [] (dCons (dVar 0) (dCons (dC (.int 9)) dNil))) (dCons (dCall sp__law_many_2 [] (dCons (dVar 0) (dCons (dVar 1) dNil))) dNil))) dNil))))) dNext)
theorem d__law_tape_ok (as : List D) (t : Ts) (P : D → Ts → Prop) (h : sp__law_tape as t P) : d__law_tape (endsN P) (start0 ["_law_script"] as) t := by
  obtain ⟨ns, rfl, hl, k⟩ := h
  conv => whnf
  have e : cutD (ns.map D.int) none (some 63) = ns.map .int := by
    unfold cutD
    have : sIx (ns.map D.int).length (ns.map D.int).length (some 63) = ns.length := by
      unfold sIx
      simp; omega
    rw [this]
    simp only [sIx, List.drop_zero, Nat.sub_zero]
    exact List.take_of_length_le (by simp)
  have := k ns hl
  rw [← e] at this
  exact this
/-- the draw's tail -/
theorem prime_at {i : Int} (h0 : 0 ≤ i) (h1 : i < 5) : ∃ p : Int, atI [.int 2147483647, .int 2147483629, .int 2147483587, .int 2147483579, .int 2147483563] i = some (.int p) ∧ 0 < p ∧ p < 2147483648 := by
  match i, h0, h1 with
  | 0, _, _ => exact ⟨2147483647, rfl, by decide, by decide⟩
  | 1, _, _ => exact ⟨2147483629, rfl, by decide, by decide⟩
  | 2, _, _ => exact ⟨2147483587, rfl, by decide, by decide⟩
  | 3, _, _ => exact ⟨2147483579, rfl, by decide, by decide⟩
  | 4, _, _ => exact ⟨2147483563, rfl, by decide, by decide⟩
theorem tape_tail {many n c : Int} {t : Ts} {P : D → Ts → Prop} (h0 : 0 < many) (hn : n < 100000000) (ha : 0 ≤ c) (hc : c ≤ n) (hp : Pt (n + 1) t) (k : ∀ z t', 0 ≤ z → z < many → Pt (n + 1) t' → P (.int z) t') (v : Int) (s4 s5 s6 s7 : Sl) :
    (dSeq (dAsg (dLst (dCons (dC (.int 2147483647)) (dCons (dC (.int 2147483629)) (dCons (dC (.int 2147483587)) (dCons (dC (.int 2147483579)) (dCons (dC (.int 2147483563)) dNil)))))) (gName 4)) (dSeq (dAsg (dOp oIx (dVar 4) (dOp oMod (dVar 2) (dC (.int 5)))) (gName 5)) (dSeq (dAsg (dOp oMod (dOp oAdd (dOp oAdd (dOp oMul (dOp oMod (dVar 3) (dVar 5)) (dC (.int 48271))) (dOp oMul (dOp oMul (dC (.int 40507)) (dVar 2)) (dVar 2))) (dC (.int 31))) (dVar 5)) (gName 6)) (dSeq (dAsg (dOp oMod (dOp oMul (dVar 6) (dOp oAdd (dVar 6) (dC (.int 69621)))) (dOp oIx (dVar 4) (dOp oMod (dOp oAdd (dVar 2) (dC (.int 2))) (dC (.int 5))))) (gName 6)) (dSeq (dRet (dOp oMod (dOp oDiv (dOp oMod (dOp oMul (dVar 6) (dVar 6)) (dC (.int 2147483549))) (dC (.int 64))) (dVar 1))) dNext))))) (endsOf P) [.val .pen, .val (.int many), .val (.int c), .val (.int v), s4, s5, s6, s7] t := by
  conv => whnf
  refine ⟨by decide, ?_⟩
  conv => whnf
  obtain ⟨p, e, p0, p1⟩ := prime_at (i := c % 5) (Int.emod_nonneg _ (by decide)) (Int.emod_lt_of_pos _ (by decide))
  refine ⟨_, e, ?_⟩
  conv => whnf
  refine ⟨p0, ?_⟩
  conv => whnf
  refine ⟨.r (by decide) (by decide), ?_⟩
  conv => whnf
  refine ⟨.r (by omega) (by omega), ?_⟩
  conv => whnf
  refine ⟨.r (by omega) (by omega), ?_⟩
  conv => whnf
  refine ⟨p0, ?_⟩
  conv => whnf
  have q0 := Int.emod_nonneg (v % p * 48271 + 40507 * c * c + 31) (show p ≠ 0 by omega)
  have q1 := Int.emod_lt_of_pos (v % p * 48271 + 40507 * c * c + 31) p0
  generalize (v % p * 48271 + 40507 * c * c + 31) % p = q at q0 q1
  conv => whnf
  refine ⟨.l (by omega) (by omega), ?_⟩
  conv => whnf
  refine ⟨by decide, ?_⟩
  conv => whnf
  obtain ⟨p2, e2, p20, p21⟩ := prime_at (i := (c + 2) % 5) (Int.emod_nonneg _ (by decide)) (Int.emod_lt_of_pos _ (by decide))
  refine ⟨_, e2, ?_⟩
  conv => whnf
  refine ⟨p20, ?_⟩
  conv => whnf
  have r0 := Int.emod_nonneg (q * (q + 69621)) (show p2 ≠ 0 by omega)
  have r1 := Int.emod_lt_of_pos (q * (q + 69621)) p20
  generalize (q * (q + 69621)) % p2 = r at r0 r1
  conv => whnf
  refine ⟨.l (by omega) (by omega), ?_⟩
  conv => whnf
  refine ⟨by decide, ?_⟩
  conv => whnf
  refine ⟨.s (by decide) (by decide), ?_⟩
  conv => whnf
  refine ⟨h0, ?_⟩
  conv => whnf
  exact k _ _ (Int.emod_nonneg _ (by omega)) (Int.emod_lt_of_pos _ h0) hp
theorem d__law_draw_2_ok (as : List D) (t : Ts) (P : D → Ts → Prop) (h : sp__law_draw_2 as t P) : d__law_draw_2 (endsOf P) (start0 ["_law_tape_here", "_law_many_here", "_law_turn", "_law_cell", "_law_primes", "_law_prime", "_law_drawn", "_law_digit"] as) t := by
  obtain ⟨many, n, rfl, h0, hs, hp, hn, k⟩ := h
  have tp := hp.tp
  have a0 := hp.a0
  have a1 := hp.a1
  conv => whnf
  refine ⟨tp, ?_⟩
  conv => whnf
  refine Br.mk (fun hl => ?_) (fun hl => ?_)
  · have hl : 0 < t.left := of_decide_eq_true hl
    conv => whnf
    refine ⟨tp, ?_⟩
    conv => whnf
    refine ⟨h0, ?_⟩
    conv => whnf
    refine ⟨tp, ?_⟩
    conv => whnf
    refine ⟨⟨h0, hs⟩, ?_⟩
    conv => whnf
    refine ⟨tp, ?_⟩
    conv => whnf
    exact k _ _ (Int.emod_nonneg _ (by omega)) (Int.emod_lt_of_pos _ h0) ⟨hp.c, hp.a0, (by show t.at' ≤ n + 1; omega), Int.ediv_nonneg hp.l (by omega), tp⟩
  · conv => whnf
    refine ⟨tp, ?_⟩
    conv => whnf
    refine ⟨tp, ?_⟩
    conv => whnf
    refine ⟨.l (by omega) (by omega), ?_⟩
    conv => whnf
    have P1 : Pt (n + 1) ⟨t.cells, t.at' + 1, t.left, t.tape⟩ := ⟨hp.c, (by show 0 ≤ t.at' + 1; omega), (by show t.at' + 1 ≤ n + 1; omega), hp.l, tp⟩
    refine ⟨eqok_ints t.cells [], ?_⟩
    conv => whnf
    refine Br.mk (fun hc => ?_) (fun hc => ?_)
    · have hc : t.cells ≠ [] := deqn_t (b := []) hc
      have hn0 : 0 < t.cells.length := by
        cases q : t.cells with
        | nil => exact absurd q hc
        | cons => simp
      conv => whnf
      refine ⟨by simpa using hn0, ?_⟩
      conv => whnf
      refine ⟨_, atI_ints (Int.emod_nonneg _ (by simp; omega)) (by simpa using Int.emod_lt_of_pos _ (by simpa using hn0)), ?_⟩
      generalize t.cells.getD _ 0 = v
      conv => whnf
      refine Br.mk (fun hx => ?_) (fun hx => ?_)
      · conv => whnf
        refine ⟨PowOk.s (by decide) (by decide) (by decide) (by decide), ?_⟩
        conv => whnf
        refine Br.mk (fun hy => ?_) (fun hy => ?_)
        · have hy := of_decide_eq_true hy
          conv => whnf
          refine ⟨PowOk.s (by decide) (by decide) (by decide) (by decide), ?_⟩
          conv => whnf
          refine ⟨⟨h0, hs⟩, ?_⟩
          conv => whnf
          refine ⟨tp, ?_⟩
          conv => whnf
          refine ⟨PowOk.s (by decide) (by decide) (by decide) (by decide), ?_⟩
          conv => whnf
          refine ⟨h0, ?_⟩
          conv => whnf
          exact k _ _ (Int.emod_nonneg _ (by omega)) (Int.emod_lt_of_pos _ h0) ⟨hp.c, P1.a0, P1.a1, Int.ediv_nonneg (Int.sub_nonneg_of_le hy) (by omega), tp⟩
        · have z := tape_tail (s4 := .no) (s5 := .no) (s6 := .no) (s7 := .no) h0 hn a0 a1 P1 k v
          conv at z => whnf
          conv => whnf
          exact z
      · have z := tape_tail (s4 := .no) (s5 := .no) (s6 := .no) (s7 := .no) h0 hn a0 a1 P1 k v
        conv at z => whnf
        conv => whnf
        exact z
    · have hc : t.cells = [] := deqn_f (b := []) hc
      conv => whnf
      refine Br.mk (fun hx => ?_) (fun hx => ?_)
      · have hx := of_decide_eq_true hx
        rw [hc] at hx
        exact absurd hx (by show ¬ t.at' < 0; omega)
      · have z := tape_tail (s4 := .no) (s5 := .no) (s6 := .no) (s7 := .no) h0 hn a0 a1 P1 k (41 * t.at' + 3)
        conv at z => whnf
        conv => whnf
        exact z
theorem d__law_pick_2_ok (as : List D) (t : Ts) (P : D → Ts → Prop) (h : sp__law_pick_2 as t P) : d__law_pick_2 (endsOf P) (start0 ["_law_tape_here", "_law_some"] as) t := by
  obtain ⟨n, l, rfl, h1, h2, pm, hn, k⟩ := h
  conv => whnf
  refine ⟨_, _, rfl, by first | omega | decide, (sm64 (by first | omega | decide) (by first | omega | decide)).mono (by decide), pm, by omega, fun u t1 u0 u1 pt1 => ?_⟩
  conv => whnf
  have h : u.toNat < l.length := by omega
  exact ⟨_, atI_nat u0 (List.getElem?_eq_getElem h), k _ _ _ (List.getElem?_eq_getElem h) pt1⟩
theorem d__law_many_2_ok (as : List D) (t : Ts) (P : D → Ts → Prop) (h : sp__law_many_2 as t P) : d__law_many_2 (endsOf P) (start0 ["_law_tape_here", "_law_figures", "_law_found", "_law_k"] as) t := by
  obtain ⟨n, f, rfl, hf, hp, hn, k⟩ := h
  conv => whnf
  refine ⟨.s (by decide) (by decide), ?_⟩
  conv => whnf
  refine ⟨_, n, rfl, by omega, (sm64 (by omega) (by omega)).mono (by decide), hp, by omega, fun c t' hc hc' p' => ?_⟩
  conv => whnf
  refine ⟨by omega, ?_⟩
  conv => whnf
  refine ⟨fun i e m => ∃ z s3, Pt (n + 1 + i) m ∧ 0 ≤ z ∧ z < 1000000 ^ i ∧ e = [.val .pen, .val (.int f), .val (.int z), s3], ⟨0, _, by simpa using p', by decide, by decide, rfl⟩, fun i x e m hx hI => ?_, fun e m hI => ?_⟩
  · obtain ⟨z, s3, pm, hz, hz', rfl⟩ := hI
    obtain ⟨hi, rfl⟩ := rng_get hx
    conv => whnf
    refine ⟨PowOk.s (by decide) (by decide) (by decide) (by decide), ?_⟩
    conv => whnf
    refine ⟨.r (by decide) (by decide), ?_⟩
    conv => whnf
    refine ⟨PowOk.s (by decide) (by decide) (by decide) (by decide), ?_⟩
    conv => whnf
    refine ⟨_, _, rfl, by decide, (sm64 (by decide) (by decide)).mono (by decide), pm, by omega, fun y t2 hy hy' p2 => ?_⟩
    refine ⟨_, _, p2.mono (by omega), ?_, ?_, rfl⟩
    · exact Int.add_nonneg (Int.mul_nonneg hz (by decide)) hy
    · have h1 : (10 : Int) ^ (6 : Int).toNat = 1000000 := by decide
      rw [h1] at hy' ⊢
      rw [Int.pow_succ]
      omega
  · obtain ⟨z, s3, pm, hz, hz', rfl⟩ := hI
    rw [rng_len] at pm hz'
    refine k _ _ hz ?_ (pm.mono (by omega))
    refine Int.lt_of_lt_of_le hz' ?_
    have : ∀ a c : Nat, a ≤ c → (1000000 : Int) ^ a ≤ 1000000 ^ c := fun a c h => by
      obtain ⟨d, rfl⟩ := Nat.le.dest h
      rw [Int.pow_add]
      have h1 := mil_pos a
      have h2 := mil_pos d
      have := Int.mul_le_mul_of_nonneg_left (show (1 : Int) ≤ 1000000 ^ d by omega) (show (0 : Int) ≤ 1000000 ^ a by omega)
      simpa using this
    exact this _ _ (by omega)
theorem d__law_begun_3_ok (as : List D) (t : Ts) (P : D → Ts → Prop) (h : sp__law_begun_3 as t P) : d__law_begun_3 (endsOf P) (start0 ["_law_tape_here", "_law_base", "_law_most", "_law_k"] as) t := by
  obtain ⟨b, most, n, rfl, h2, h30, hm, hs, hp, hn, k⟩ := h
  conv => whnf
  refine ⟨by omega, ?_⟩
  conv => whnf
  refine ⟨fun i acc m => ∃ bs : List Int, acc = bs.map .int ∧ bs.length = i ∧ (∀ x ∈ bs, 1 ≤ x ∧ x ≤ most + 3) ∧ Pt (n + 3 * i) m, ⟨[], rfl, rfl, by simp, by simpa using hp⟩, fun i x acc m hx hI => ?_, fun acc m hI => ?_⟩
  · obtain ⟨bs, rfl, hl, hb, pm⟩ := hI
    obtain ⟨hi, rfl⟩ := rng_get hx
    conv => whnf
    refine ⟨rfl, ?_⟩
    conv => whnf
    refine ⟨_, _, rfl, by first | omega | decide, (sm64 (by first | omega | decide) (by first | omega | decide)).mono (by decide), pm, by omega, fun u t1 u0 u1 pt1 => ?_⟩
    conv => whnf
    refine ⟨_, _, rfl, by omega, hs.mono (by decide), pt1, by omega, fun w t2 w0 w1 pt2 => ?_⟩
    conv => whnf
    refine ⟨_, [.int 0, .int u, .int w], rfl, by simp, by simp, pt2, by omega, fun i0 d0 t3 hi0 pt3 => ?_⟩
    obtain ⟨y, rfl, y0, y1⟩ : ∃ y : Int, d0 = .int y ∧ 0 ≤ y ∧ y ≤ most + 2 := by
      match i0, hi0 with
      | 0, e => cases e; exact ⟨0, rfl, by omega, by omega⟩
      | 1, e => cases e; exact ⟨u, rfl, by omega, by omega⟩
      | 2, e => cases e; exact ⟨w, rfl, by omega, by omega⟩
      | _ + 3, e => cases e
    refine ⟨by rw [List.length_map]; unfold zLen; omega, bs ++ [1 + y], by simp, by simp [hl], fun z hz => ?_, pt3.mono (by omega)⟩
    rcases List.mem_append.mp hz with h | h
    · exact hb z h
    · have : z = 1 + y := by simpa using h
      omega
  · obtain ⟨bs, rfl, hl, hb, pm⟩ := hI
    rw [rng_len] at hl pm
    exact k bs m ⟨h2, h30, by omega, fun x hx => (hb x hx).1⟩ (fun x hx => (hb x hx).2) (pm.mono (by omega))
theorem d__law_signed_ok (as : List D) (t : Ts) (P : D → Ts → Prop) (h : sp__law_signed as t P) : d__law_signed (endsOf P) (start0 ["_law_tape_here", "_law_figures"] as) t := by
  obtain ⟨n, f, rfl, hf, hp, hn, k⟩ := h
  conv => whnf
  refine ⟨_, [.int 1, .int (-1), .int 0, .int 1, .int (-1)], rfl, by decide, by decide, hp, by omega, fun i0 d0 t1 hi0 p1 => ?_⟩
  obtain ⟨s, rfl, s0, s1⟩ : ∃ s : Int, d0 = .int s ∧ -1 ≤ s ∧ s ≤ 1 := by
    match i0, hi0 with
    | 0, e => cases e; exact ⟨_, rfl, by decide, by decide⟩
    | 1, e => cases e; exact ⟨_, rfl, by decide, by decide⟩
    | 2, e => cases e; exact ⟨_, rfl, by decide, by decide⟩
    | 3, e => cases e; exact ⟨_, rfl, by decide, by decide⟩
    | 4, e => cases e; exact ⟨_, rfl, by decide, by decide⟩
    | _ + 5, e => cases e
  clear hi0
  conv => whnf
  refine ⟨_, _, rfl, by first | omega | decide, (sm64 (by first | omega | decide) (by first | omega | decide)).mono (by decide), p1, by omega, fun u t2 u0 u1 pt2 => ?_⟩
  conv => whnf
  refine ⟨_, f, rfl, hf, pt2, by omega, fun z t3 z0 z1 p3 => ?_⟩
  conv => whnf
  refine ⟨_, [.int u, .int z], rfl, by simp, by simp, p3, by omega, fun i1 d1 t4 hi1 p4 => ?_⟩
  have hM := mil_ge (f := f / 6 + 1) (by omega)
  obtain ⟨y, rfl, y0, y1⟩ : ∃ y : Int, d1 = .int y ∧ 0 ≤ y ∧ y ≤ 1000000 ^ (f / 6 + 1) := by
    match i1, hi1 with
    | 0, e => cases e; exact ⟨_, rfl, by omega, by omega⟩
    | 1, e => cases e; exact ⟨_, rfl, by omega, by omega⟩
    | _ + 2, e => cases e
  conv => whnf
  refine ⟨.l (by omega) (by omega), ?_⟩
  conv => whnf
  refine k _ _ ?_ (p4.mono (by omega))
  have := sm_mil y0 y1
  have e : (s * y).natAbs ≤ y.natAbs := by
    rw [Int.natAbs_mul]
    have : s.natAbs ≤ 1 := by omega
    exact Nat.le_trans (Nat.mul_le_mul_right _ this) (by simp)
  exact Nat.lt_of_le_of_lt e (Nat.lt_of_lt_of_le this (Nat.pow_le_pow_right (by decide) (by omega)))
end Q

/-! MMark -/
namespace Q
open PySem
/-! ### marks: the power below a number, marks by it, shares -/
def pw (b n : Int) : Int := if h : 0 < n ∧ 2 ≤ b then (if n < b then 1 else b * pw b (n / b)) else 1
termination_by n.toNat
decreasing_by exact ediv_toNat_lt h
theorem pw_lt {b n : Int} (h : n < b) : pw b n = 1 := by
  rw [pw]
  split
  · first | rfl | rw [if_pos h]
  · rfl
theorem pw_ge {b n : Int} (hb : 2 ≤ b) (h : b ≤ n) : pw b n = b * pw b (n / b) := by
  rw [pw, dif_pos ⟨by omega, hb⟩, if_neg (by omega)]
theorem pw_spec {b : Int} (hb : 2 ≤ b) : ∀ (k : Nat) (n : Int), n.toNat ≤ k → 1 ≤ n → 1 ≤ pw b n ∧ pw b n ≤ n ∧ n < b * pw b n
  | 0, n, h0, h1 => by omega
  | k + 1, n, h0, h1 => by
    by_cases h : n < b
    · rw [pw_lt h]; omega
    · have h3 := ediv_toNat_lt (b := b) (x := n) ⟨by omega, hb⟩
      have h7 : 1 ≤ n / b := by
        have := Int.ediv_le_ediv (show 0 < b by omega) (show b ≤ n by omega)
        rw [Int.ediv_self (by omega)] at this
        exact this
      obtain ⟨i1, i2, i3⟩ := pw_spec hb k (n / b) (by omega) h7
      rw [pw_ge hb (by omega)]
      have e := Int.mul_ediv_add_emod n b
      have r1 := Int.emod_nonneg n (show b ≠ 0 by omega)
      have r2 := Int.emod_lt_of_pos n (show 0 < b by omega)
      generalize n / b = u at *
      generalize pw b u = p at *
      have a1 := Int.mul_le_mul_of_nonneg_left i2 (show 0 ≤ b by omega)
      have a2 := Int.mul_le_mul_of_nonneg_left (show u + 1 ≤ b * p by omega) (show 0 ≤ b by omega)
      have a3 := Int.mul_le_mul_of_nonneg_left i1 (show 0 ≤ b by omega)
      rw [Int.mul_add] at a2
      refine ⟨by omega, by omega, by omega⟩
section
variable {b : Int}
theorem pw_pos (hb : 2 ≤ b) {n : Int} (h : 1 ≤ n) : 1 ≤ pw b n := (pw_spec hb _ n (Nat.le_refl _) h).1
theorem pw_le (hb : 2 ≤ b) {n : Int} (h : 1 ≤ n) : pw b n ≤ n := (pw_spec hb _ n (Nat.le_refl _) h).2.1
theorem pw_up (hb : 2 ≤ b) {n : Int} (h : 1 ≤ n) : n < b * pw b n := (pw_spec hb _ n (Nat.le_refl _) h).2.2
theorem sg_in (hb : 2 ≤ b) {n : Int} (h : 1 ≤ n) : 1 ≤ n / pw b n ∧ n / pw b n < b := by
  have h0 := pw_pos hb h
  have h1 := pw_le hb h
  have h2 := pw_up hb h
  refine ⟨?_, ?_⟩
  · have := Int.ediv_le_ediv (show 0 < pw b n by omega) h1
    rw [Int.ediv_self (by omega)] at this
    exact this
  · exact Int.ediv_lt_of_lt_mul (by omega) h2
theorem rs_in (hb : 2 ≤ b) {n : Int} (h : 1 ≤ n) : 0 ≤ n % pw b n ∧ n % pw b n < pw b n := by
  have h0 := pw_pos hb h
  exact ⟨Int.emod_nonneg _ (by omega), Int.emod_lt_of_pos _ (by omega)⟩
theorem pw_head (hb : 2 ≤ b) {n r : Int} (h : 1 ≤ n) (r0 : 0 ≤ r) (r1 : r < b) : pw b (b * n + r) = b * pw b n := by
  have h1 : b ≤ b * n := by
    have := Int.mul_le_mul_of_nonneg_left h (show 0 ≤ b by omega)
    omega
  have e : (b * n + r) / b = n := by
    rw [Int.mul_add_ediv_left _ _ (by omega), Int.ediv_eq_zero_of_lt r0 r1]
    omega
  rw [pw_ge hb (by omega), e]
/-- what comes behind a sign's mark -/
def mF (b : Int) (ms : List Int) (s : Int) : Int := if s < b - 1 then ms.getD s.toNat 0 else b * ms.getD 0 0
def Mk (b : Int) (ms : List Int) (n : Int) : Int := (pw b n - n % pw b n) * ms.getD (n / pw b n - 1).toNat 0 + n % pw b n * mF b ms (n / pw b n)
/-- by any power -/
theorem Mk_at (hb : 2 ≤ b) (ms : List Int) {p j r : Int} (hp : 1 ≤ p) (j1 : 1 ≤ j) (j2 : j < b) (r0 : 0 ≤ r) (r1 : r < p) (hpw : pw b (j * p + r) = p) : Mk b ms (j * p + r) = (p - r) * ms.getD (j - 1).toNat 0 + r * mF b ms j := by
  unfold Mk
  have e1 : (j * p + r) / p = j := by
    rw [Int.add_comm, Int.add_mul_ediv_right _ _ (by omega), Int.ediv_eq_zero_of_lt r0 r1]
    omega
  have e2 : (j * p + r) % p = r := by
    rw [Int.add_comm, Int.add_mul_emod_self_right, Int.emod_eq_of_lt r0 r1]
  rw [hpw, e1, e2]
theorem n_is (hb : 2 ≤ b) {n : Int} (h : 1 ≤ n) : n = n / pw b n * pw b n + n % pw b n := by
  have := Int.mul_ediv_add_emod n (pw b n)
  rw [Int.mul_comm] at this
  omega
/-- the power stays up to the next sign's multiple of it -/
theorem pw_same (hb : 2 ≤ b) : ∀ (k : Nat) (n m : Int), n.toNat ≤ k → 1 ≤ n → pw b n ≤ m → m < b * pw b n → pw b m = pw b n
  | 0, n, m, h0, h1, _, _ => by omega
  | k + 1, n, m, h0, h1, m1, m2 => by
    by_cases h : n < b
    · rw [pw_lt h] at m1 m2 ⊢
      exact pw_lt (by omega)
    · have h3 := ediv_toNat_lt (b := b) (x := n) ⟨by omega, hb⟩
      have h7 : 1 ≤ n / b := by
        have := Int.ediv_le_ediv (show 0 < b by omega) (show b ≤ n by omega)
        rw [Int.ediv_self (by omega)] at this
        exact this
      have p1 := pw_pos hb h7
      rw [pw_ge (n := n) hb (by omega)] at m1 m2 ⊢
      have hbm : b ≤ m := by
        have := Int.mul_le_mul_of_nonneg_left p1 (show 0 ≤ b by omega)
        omega
      rw [pw_ge hb hbm, pw_same hb k (n / b) (m / b) (by omega) h7 ?_ ?_]
      · have := Int.ediv_le_ediv (show 0 < b by omega) m1
        rw [Int.mul_ediv_cancel_left _ (by omega)] at this
        exact this
      · rw [Int.mul_comm b (b * _)] at m2
        exact Int.ediv_lt_of_lt_mul (by omega) m2
/-- the next number's mark -/
theorem Mk_next (hb : 2 ≤ b) (ms : List Int) {n : Int} (h : 1 ≤ n) : Mk b ms (n + 1) = (pw b n - n % pw b n - 1) * ms.getD (n / pw b n - 1).toNat 0 + (n % pw b n + 1) * mF b ms (n / pw b n) := by
  have hp := pw_pos hb h
  have hl := pw_le hb h
  have hu := pw_up hb h
  obtain ⟨s1, s2⟩ := sg_in hb h
  obtain ⟨r1, r2⟩ := rs_in hb h
  have e := n_is hb h
  by_cases hr : n % pw b n + 1 < pw b n
  · have hlt : n + 1 < b * pw b n := by
      have := Int.mul_le_mul_of_nonneg_right (show n / pw b n + 1 ≤ b by omega) (show 0 ≤ pw b n by omega)
      rw [Int.add_mul, Int.one_mul] at this
      omega
    have hs := pw_same hb _ n (n + 1) (Nat.le_refl _) h (by omega) hlt
    generalize hP : pw b n = p at *
    generalize hS : n / p = s at *
    generalize hR : n % p = r at *
    have e2 : n + 1 = s * p + (r + 1) := by omega
    have := Mk_at hb ms (p := p) (j := s) (r := r + 1) hp s1 s2 (by omega) hr (by rw [← e2]; exact hs)
    rw [e2, this, show p - (r + 1) = p - r - 1 by omega]
  · have hr : n % pw b n + 1 = pw b n := by omega
    have e2 : n + 1 = (n / pw b n + 1) * pw b n := by rw [Int.add_mul, Int.one_mul]; omega
    by_cases hs : n / pw b n < b - 1
    · have hlt : n + 1 < b * pw b n := by
        have := Int.mul_le_mul_of_nonneg_right (show n / pw b n + 1 + 1 ≤ b by omega) (show 0 ≤ pw b n by omega)
        rw [Int.add_mul, Int.one_mul, ← e2] at this
        omega
      have hq := pw_same hb _ n (n + 1) (Nat.le_refl _) h (by omega) hlt
      generalize hP : pw b n = p at *
      generalize hS : n / p = s at *
      have e3 : n + 1 = (s + 1) * p + 0 := by omega
      have := Mk_at hb ms (p := p) (j := s + 1) (r := 0) hp (by omega) (by omega) (by omega) (by omega) (by rw [← e3]; exact hq)
      rw [e3, this, hr, show p - n % p - 1 = 0 by omega]
      unfold mF
      rw [if_pos hs, show (s + 1 - 1).toNat = s.toNat by omega]
      simp
    · have hs : n / pw b n = b - 1 := by omega
      have e3 : n + 1 = b * pw b n := by rw [e2, hs, show b - 1 + 1 = b by omega]
      have hq : pw b (n + 1) = b * pw b n := by
        have := pw_same hb _ (b * n) (n + 1) (Nat.le_refl _) (by have := Int.mul_le_mul_of_nonneg_left h (show 0 ≤ b by omega); omega)
        have hh := pw_head hb h (r := 0) (by omega) (by omega)
        rw [Int.add_zero] at hh
        rw [hh] at this
        refine this (by omega) ?_
        have h9 := Int.mul_le_mul_of_nonneg_left (show (2 : Int) ≤ b by omega) (show 0 ≤ b * pw b n by omega)
        rw [Int.mul_comm b (b * pw b n)]
        omega
      have := Mk_at hb ms (p := b * pw b n) (j := 1) (r := 0) (by omega) (by omega) (by omega) (by omega) (by omega) (by rw [show 1 * (b * pw b n) + 0 = n + 1 by omega]; exact hq)
      rw [show 1 * (b * pw b n) + 0 = n + 1 by omega] at this
      rw [this, hr, show pw b n - n % pw b n - 1 = 0 by omega, hs]
      unfold mF
      rw [if_neg (show ¬ b - 1 < b - 1 by omega)]
      simp
      rw [Int.mul_comm b (pw b n), Int.mul_assoc]
/-- marks lie between those of the heads -/
theorem Mk_head (hb : 2 ≤ b) (ms : List Int) {n r : Int} (h : 1 ≤ n) (r0 : 0 ≤ r) (r1 : r < b) : Mk b ms (b * n + r) = (b - r) * Mk b ms n + r * Mk b ms (n + 1) := by
  have hp := pw_pos hb h
  obtain ⟨s1, s2⟩ := sg_in hb h
  obtain ⟨q1, q2⟩ := rs_in hb h
  have e := n_is hb h
  have hh := pw_head hb h r0 r1
  rw [Mk_next hb ms h]
  unfold Mk
  rw [hh]
  generalize hP : pw b n = p at *
  generalize hS : n / p = s at *
  generalize hR : n % p = ρ at *
  have hbr : b * ρ + r < b * p := by
    have := Int.mul_le_mul_of_nonneg_left (show ρ + 1 ≤ p by omega) (show 0 ≤ b by omega)
    rw [Int.mul_add] at this
    omega
  have hbr0 : 0 ≤ b * ρ := Int.mul_nonneg (by omega) q1
  have e3 : b * n + r = (b * ρ + r) + s * (b * p) := by
    rw [e, Int.mul_add, ← Int.mul_assoc, Int.mul_comm b s, Int.mul_assoc]
    omega
  have hbp : 0 < b * p := Int.mul_pos (by omega) (by omega)
  have e1 : (b * n + r) / (b * p) = s := by
    rw [e3, Int.add_mul_ediv_right _ _ (by omega), Int.ediv_eq_zero_of_lt (by omega) hbr]
    omega
  have e2 : (b * n + r) % (b * p) = b * ρ + r := by
    rw [e3, Int.add_mul_emod_self_right, Int.emod_eq_of_lt (by omega) hbr]
  rw [e1, e2]
  generalize ms.getD (s - 1).toNat 0 = A
  generalize mF b ms s = F
  have c1 : (b - r) * ((p - ρ) * A + ρ * F) + r * ((p - ρ - 1) * A + (ρ + 1) * F) = ((b - r) * (p - ρ) + r * (p - ρ - 1)) * A + ((b - r) * ρ + r * (ρ + 1)) * F := by
    simp only [Int.mul_add, Int.add_mul, Int.mul_assoc]
    omega
  rw [c1]
  congr 2
  · simp only [Int.mul_sub, Int.sub_mul, Int.mul_one]
    omega
  · simp only [Int.mul_add, Int.sub_mul, Int.mul_one]
    omega
end
end Q

/-! MMark2 -/
namespace Q
open PySem
/-! ### rows' sums of products -/
def dot (l ms : List Int) : Int := (List.zipWith (· * ·) l ms).sum
theorem dot_cons (x y : Int) (l ms : List Int) : dot (x :: l) (y :: ms) = x * y + dot l ms := by simp [dot]
theorem dot_nil (ms : List Int) : dot [] ms = 0 := by simp [dot]
theorem dot_set : ∀ (l ms : List Int) (i : Nat) (x : Int), i < l.length → l.length = ms.length → dot (l.set i x) ms = dot l ms + (x - l.getD i 0) * ms.getD i 0
  | [], _, _, _, h, _ => by simp at h
  | y :: l, [], _, _, _, h => by simp at h
  | y :: l, z :: ms, 0, x, _, _ => by
    simp only [List.set_cons_zero, dot_cons, List.getD_cons_zero, Int.sub_mul]
    omega
  | y :: l, z :: ms, i + 1, x, h, e => by
    have := dot_set l ms i x (by simpa using h) (by simpa using e)
    simp only [List.set_cons_succ, dot_cons, List.getD_cons_succ, this]
    omega
theorem dot_zero : ∀ (n : Nat) (ms : List Int), dot (List.replicate n 0) ms = 0
  | 0, ms => by simp [dot]
  | n + 1, [] => by simp [dot]
  | n + 1, z :: ms => by
    rw [List.replicate_succ, dot_cons, dot_zero n ms]
    omega
/-! ### shares -/
def sh0 (b n : Int) : List Int := (List.replicate (b - 1).toNat 0).set (n / pw b n - 1).toNat (pw b n - n % pw b n)
def sh (b n : Int) : List Int := if n / pw b n < b - 1 then (sh0 b n).set (n / pw b n).toNat (n % pw b n) else (sh0 b n).set 0 ((sh0 b n).getD 0 0 + b * (n % pw b n))
theorem sh0_len (b n : Int) : (sh0 b n).length = (b - 1).toNat := by simp [sh0]
theorem sh_len (b n : Int) : (sh b n).length = (b - 1).toNat := by
  unfold sh
  split <;> simp [sh0_len]
theorem getD_rep (n i : Nat) : (List.replicate n (0 : Int)).getD i 0 = 0 := by
  rw [List.getD_eq_getElem?_getD, List.getElem?_replicate]
  split <;> rfl
theorem getD_set_ne {l : List Int} {i j : Nat} {x : Int} (h : i ≠ j) : (l.set i x).getD j 0 = l.getD j 0 := by
  rw [List.getD_eq_getElem?_getD, List.getElem?_set_ne h, List.getD_eq_getElem?_getD]
theorem getD_set_eq {l : List Int} {i : Nat} {x : Int} (h : i < l.length) : (l.set i x).getD i 0 = x := by
  rw [List.getD_eq_getElem?_getD, List.getElem?_set_self h]; rfl
section
variable {b : Int}
theorem sh_dot (hb : 2 ≤ b) {n : Int} (h : 1 ≤ n) {ms : List Int} (hm : (ms.length : Int) = b - 1) : dot (sh b n) ms = Mk b ms n := by
  obtain ⟨s1, s2⟩ := sg_in hb h
  have d0 : dot (sh0 b n) ms = (pw b n - n % pw b n) * ms.getD (n / pw b n - 1).toNat 0 := by
    unfold sh0
    rw [dot_set _ _ _ _ (by rw [List.length_replicate]; omega) (by rw [List.length_replicate]; omega), dot_zero, getD_rep]
    simp
  unfold sh Mk mF
  by_cases hs : n / pw b n < b - 1
  · rw [if_pos hs, if_pos hs, dot_set _ _ _ _ (by rw [sh0_len]; omega) (by rw [sh0_len]; omega), d0]
    have : (sh0 b n).getD (n / pw b n).toNat 0 = 0 := by
      unfold sh0
      rw [getD_set_ne (by omega), getD_rep]
    rw [this]
    simp
  · rw [if_neg hs, if_neg hs, dot_set _ _ _ _ (by rw [sh0_len]; omega) (by rw [sh0_len]; omega), d0]
    rw [show (sh0 b n).getD 0 0 + b * (n % pw b n) - (sh0 b n).getD 0 0 = b * (n % pw b n) by omega, Int.mul_comm b (n % pw b n), Int.mul_assoc]
theorem Mk_lin (hb : 2 ≤ b) {n a c : Int} (h : 1 ≤ n) {ms x y : List Int} (hm : ∀ i : Nat, (i : Int) < b - 1 → ms.getD i 0 = a * x.getD i 0 + c * y.getD i 0) : Mk b ms n = a * Mk b x n + c * Mk b y n := by
  obtain ⟨s1, s2⟩ := sg_in hb h
  unfold Mk
  have e1 := hm (n / pw b n - 1).toNat (by omega)
  have e2 : mF b ms (n / pw b n) = a * mF b x (n / pw b n) + c * mF b y (n / pw b n) := by
    unfold mF
    split
    · exact hm _ (by omega)
    · rw [hm 0 (by omega)]
      rw [Int.mul_add, Int.mul_left_comm, Int.mul_left_comm b c]
  rw [e1, e2]
  generalize pw b n - n % pw b n = A
  generalize n % pw b n = B
  rw [Int.mul_add, Int.mul_add, Int.mul_add, Int.mul_add, Int.mul_left_comm A a, Int.mul_left_comm A c, Int.mul_left_comm B a, Int.mul_left_comm B c]
  omega
theorem Mk_id (hb : 2 ≤ b) {n : Int} (h : 1 ≤ n) {ms : List Int} (hm : ∀ i : Nat, (i : Int) < b - 1 → ms.getD i 0 = i + 1) : Mk b ms n = n := by
  obtain ⟨s1, s2⟩ := sg_in hb h
  have e := n_is hb h
  unfold Mk
  have e1 := hm (n / pw b n - 1).toNat (by omega)
  have e2 : mF b ms (n / pw b n) = n / pw b n + 1 := by
    unfold mF
    split
    · rw [hm _ (by omega)]; omega
    · rw [hm 0 (by omega)]; omega
  rw [e1, e2, show (((n / pw b n - 1).toNat : Nat) : Int) + 1 = n / pw b n by omega, Int.sub_mul, Int.mul_add, Int.mul_comm (pw b n)]
  omega
theorem Mk_one (hb : 2 ≤ b) (ms : List Int) {n : Int} (h : 1 ≤ n) (hn : n < b) : Mk b ms n = ms.getD (n - 1).toNat 0 := by
  unfold Mk
  rw [pw_lt hn, Int.ediv_one, Int.emod_one]
  simp
/-- which numbers, how often: none with 0 -/
def whF : Int → List Int → List (Int × Int)
  | _, [] => []
  | c, x :: l => if 0 < x then (c, x) :: whF (c + 1) l else whF (c + 1) l
def prD2 (z : Int × Int) : D := .tup [.int z.1, .int z.2]
theorem whF_app : ∀ (l m : List Int) (c : Int), whF c (l ++ m) = whF c l ++ whF (c + l.length) m
  | [], m, c => by simp [whF]
  | x :: l, m, c => by
    simp only [List.cons_append, whF, whF_app l m (c + 1), List.length_cons]
    rw [show c + 1 + (l.length : Int) = c + ((l.length + 1 : Nat) : Int) by omega]
    split <;> rfl
theorem whF_mem : ∀ (l : List Int) (c : Int) (z : Int × Int), z ∈ whF c l → c ≤ z.1 ∧ z.1 < c + l.length ∧ 1 ≤ z.2
  | [], c, z, h => by cases h
  | x :: l, c, z, h => by
    unfold whF at h
    rw [List.length_cons]
    split at h
    · rename_i hx
      rcases List.mem_cons.mp h with e | h
      · subst e
        refine ⟨Int.le_refl _, ?_, by show 1 ≤ x; omega⟩
        show c < _
        omega
      · obtain ⟨h1, h2, h3⟩ := whF_mem l (c + 1) z h
        exact ⟨by omega, by omega, h3⟩
    · obtain ⟨h1, h2, h3⟩ := whF_mem l (c + 1) z h
      exact ⟨by omega, by omega, h3⟩
theorem whF_up : ∀ (l : List Int) (c : Int), (whF c l).Pairwise (fun x y => x.1 < y.1)
  | [], c => .nil
  | x :: l, c => by
    unfold whF
    split
    · refine .cons (fun z hz => ?_) (whF_up l (c + 1))
      have := (whF_mem l (c + 1) z hz).1
      show c < z.1
      omega
    · exact whF_up l (c + 1)
theorem whF_len : ∀ (l : List Int) (c : Int), (whF c l).length ≤ l.length
  | [], c => by simp [whF]
  | x :: l, c => by
    unfold whF
    have := whF_len l (c + 1)
    split <;> simp <;> omega
theorem whF_sum : ∀ (l ms : List Int) (c : Int), l.length = ms.length → (∀ x ∈ l, 0 ≤ x) → (f : Int → Int) → (∀ i : Nat, i < ms.length → f (c + i) = ms.getD i 0) → ((whF c l).map fun z => f z.1 * z.2).sum = dot l ms
  | [], ms, c, h, h0, f, hf => by simp [whF, dot]
  | x :: l, [], c, h, h0, f, hf => by simp at h
  | x :: l, y :: ms, c, h, h0, f, hf => by
    have ih := whF_sum l ms (c + 1) (by simpa using h) (fun z hz => h0 z (List.mem_cons_of_mem _ hz)) f (fun i hi => by
      have := hf (i + 1) (by simpa using hi)
      rw [show c + ((i + 1 : Nat) : Int) = c + 1 + i by omega] at this
      simpa using this)
    have hc : f c = y := by
      have := hf 0 (by simp)
      simpa using this
    have hx := h0 x List.mem_cons_self
    rw [dot_cons]
    unfold whF
    split
    · rw [List.map_cons, List.sum_cons, ih]
      show f c * x + _ = _
      rw [hc, Int.mul_comm]
    · rw [ih, show x = 0 by omega]
      omega
theorem sh_nn (hb : 2 ≤ b) {n : Int} (h : 1 ≤ n) : ∀ x ∈ sh b n, 0 ≤ x := by
  obtain ⟨r0, r1⟩ := rs_in hb h
  have h0 : ∀ x ∈ sh0 b n, 0 ≤ x := fun x hx => by
    rcases List.mem_or_eq_of_mem_set hx with hx | hx
    · rw [List.eq_of_mem_replicate hx]; exact Int.le_refl 0
    · omega
  intro x hx
  unfold sh at hx
  split at hx
  · rcases List.mem_or_eq_of_mem_set hx with hx | hx
    · exact h0 x hx
    · omega
  · rcases List.mem_or_eq_of_mem_set hx with hx | hx
    · exact h0 x hx
    · have h3 : 0 ≤ (sh0 b n).getD 0 0 := by
        rw [List.getD_eq_getElem?_getD]
        cases q : (sh0 b n)[0]? with
        | none => exact Int.le_refl 0
        | some z => exact h0 z (List.mem_of_getElem? q)
      have := Int.mul_nonneg (show 0 ≤ b by omega) r0
      omega
theorem whF_rep : ∀ (k : Nat) (c : Int), whF c (List.replicate k 0) = []
  | 0, c => rfl
  | k + 1, c => by rw [List.replicate_succ]; unfold whF; rw [if_neg (by decide)]; exact whF_rep k (c + 1)
theorem whF_single : ∀ (k i : Nat) (c : Int), i < k → whF c ((List.replicate k 0).set i 1) = [(c + i, 1)]
  | 0, i, c, h => by omega
  | k + 1, 0, c, h => by
    rw [List.replicate_succ, List.set_cons_zero]
    unfold whF
    rw [if_pos (by decide), whF_rep]
    simp
  | k + 1, i + 1, c, h => by
    rw [List.replicate_succ, List.set_cons_succ]
    unfold whF
    rw [if_neg (by decide), whF_single k i (c + 1) (by omega), show c + 1 + (i : Int) = c + ((i + 1 : Nat) : Int) by omega]
theorem wh_small (hb : 2 ≤ b) {n : Int} (h : 1 ≤ n) (hn : n < b) : whF 1 (sh b n) = [(n, 1)] := by
  have e0 : sh0 b n = (List.replicate (b - 1).toNat 0).set (n - 1).toNat 1 := by
    unfold sh0
    rw [pw_lt hn, Int.ediv_one, Int.emod_one]
    rfl
  have e : sh b n = sh0 b n := by
    unfold sh
    rw [pw_lt hn, Int.ediv_one, Int.emod_one]
    split
    · refine List.ext_getElem? fun i => ?_
      by_cases hi : n.toNat = i
      · subst hi
        rw [List.getElem?_set_self (by rw [sh0_len]; omega), e0, List.getElem?_set_ne (by omega), List.getElem?_replicate, if_pos (by omega)]
      · rw [List.getElem?_set_ne hi]
    · rw [Int.mul_zero, Int.add_zero]
      refine List.ext_getElem? fun i => ?_
      by_cases hi : 0 = i
      · subst hi
        rw [List.getElem?_set_self (by rw [sh0_len]; omega), List.getD_eq_getElem?_getD, List.getElem?_eq_getElem (show 0 < (sh0 b n).length by rw [sh0_len]; omega)]
        rfl
      · rw [List.getElem?_set_ne hi]
  rw [e, e0, whF_single _ _ _ (by omega), show (1 : Int) + ((n - 1).toNat : Nat) = n by omega]
theorem wh_ne (hb : 2 ≤ b) {n : Int} (h : 1 ≤ n) : whF 1 (sh b n) ≠ [] := by
  intro e
  have h1 := whF_sum (sh b n) ((List.range (b - 1).toNat).map fun (i : Nat) => (i : Int) + 1) 1 (by rw [sh_len]; simp) (sh_nn hb h) (fun x => x) (fun i hi => by
    rw [List.length_map, List.length_range] at hi
    rw [List.getD_eq_getElem?_getD, List.getElem?_map, List.getElem?_range hi]
    show 1 + (i : Int) = i + 1
    omega)
  rw [e, sh_dot hb h (by simp; omega), Mk_id hb h (fun i hi => by
    rw [List.getD_eq_getElem?_getD, List.getElem?_map, List.getElem?_range (by omega)]
    rfl)] at h1
  have h1 : (0 : Int) = n := h1
  omega
end
/-! ### THE RULE for marks -/
section
variable {b : Int} {bs : List Int}
theorem rule_f (h : Hou b bs) (f : Int → Int) {p : Int} (hp : Lp b bs (b - 1) < p) : sumN (fun j => f (sd b bs (p - j - Re bs - sd b bs (p - j - 1)))) b.toNat = ((sd b bs p - 1) % b + 1) * f ((sd b bs p - 1) / b + 1) + (b - ((sd b bs p - 1) % b + 1)) * f ((sd b bs p - 1) / b) := by
  have h2 := h.b2
  have h3 := Lp_ge_self h (n := b - 1) (by omega)
  have key := win_key h hp
  have r1 := Int.emod_nonneg (sd b bs p - 1) (show b ≠ 0 by omega)
  have r2 := Int.emod_lt_of_pos (sd b bs p - 1) (show 0 < b by omega)
  generalize (sd b bs p - 1) % b = c0 at *
  generalize (sd b bs p - 1) / b = u at *
  have tot : ∀ n : Nat, (n : Int) ≤ b → sumN (fun j => f (sd b bs (p - j - Re bs - sd b bs (p - j - 1)))) n = (if (n : Int) < c0 + 1 then (n : Int) else c0 + 1) * f (u + 1) + (n - if (n : Int) < c0 + 1 then (n : Int) else c0 + 1) * f u := by
    intro n
    induction n with
    | zero =>
      intro _
      rw [if_pos (by omega)]
      show (0 : Int) = _
      simp
    | succ n ih =>
      intro hn
      show sumN _ n + f (sd b bs (p - n - Re bs - sd b bs (p - n - 1))) = _
      rw [ih (by omega), ask_is h (by omega), key n (by omega)]
      by_cases hc : (n : Int) < c0 + 1
      · rw [if_pos hc, if_pos hc]
        have e : (if ((n + 1 : Nat) : Int) < c0 + 1 then ((n + 1 : Nat) : Int) else c0 + 1) = n + 1 := by split <;> omega
        rw [e, Int.add_mul, Int.one_mul, show ((n + 1 : Nat) : Int) - ((n : Int) + 1) = 0 by omega, show (n : Int) - n = 0 by omega]
        omega
      · rw [if_neg hc, if_neg hc, if_neg (by omega), show ((n + 1 : Nat) : Int) - (c0 + 1) = n - (c0 + 1) + 1 by omega, Int.add_mul ((n : Int) - (c0 + 1)) 1 (f u), Int.one_mul]
        omega
  rw [tot b.toNat (by omega), show ((b.toNat : Nat) : Int) = b by omega, if_neg (by omega)]
theorem rule_mark (h : Hou b bs) (ms : List Int) {p : Int} (hp : Lp b bs (b - 1) < p) : sumN (fun j => Mk b ms (sd b bs (p - j - Re bs - sd b bs (p - j - 1)))) b.toNat = Mk b ms (sd b bs p) := by
  rw [rule_f h (Mk b ms) hp]
  have h2 := h.b2
  have h3 := Lp_ge_self h (n := b - 1) (by omega)
  have s := sd_sa h (p := p) (by omega)
  have hmb : b ≤ sd b bs p := by
    rcases Int.lt_or_le (sd b bs p) b with z | z
    · have := Lp_le_of h (m := sd b bs p) (n := b - 1) (by have := s.m1; omega) (by omega)
      have := s.hi
      omega
    · exact z
  generalize sd b bs p = m at *
  have hr := Int.mul_ediv_add_emod (m - 1) b
  have r1 := Int.emod_nonneg (m - 1) (show b ≠ 0 by omega)
  have r2 := Int.emod_lt_of_pos (m - 1) (show 0 < b by omega)
  generalize (m - 1) / b = u at *
  generalize (m - 1) % b = c at *
  by_cases hc : c + 1 = b
  · have hu : 1 ≤ u + 1 := by
      rcases Int.lt_or_le u 0 with z | z
      · have := Int.mul_le_mul_of_nonneg_left (show u ≤ -1 by omega) (show 0 ≤ b by omega)
        omega
      · omega
    have e := Mk_head h2 ms (n := u + 1) (r := 0) hu (by omega) (by omega)
    rw [show b * (u + 1) + 0 = m by rw [Int.mul_add]; omega] at e
    rw [e, hc]
    simp
  · have hu : 1 ≤ u := by
      rcases Int.lt_or_le u 1 with z | z
      · have := Int.mul_le_mul_of_nonneg_left (show u ≤ 0 by omega) (show 0 ≤ b by omega)
        omega
      · exact z
    have e := Mk_head h2 ms (n := u) (r := c + 1) hu (by omega) (by omega)
    rw [show b * u + (c + 1) = m by omega] at e
    rw [e]
    omega
end
end Q

/-! MMark3 -/
namespace Q
open PySem
theorem sd_le {b : Int} {bs : List Int} (h : Hou b bs) {p : Int} (h1 : 1 ≤ p) : sd b bs p ≤ p := by
  have s := sd_sa h h1
  have := Lp_ge_self h (n := sd b bs p - 1) (by have := s.m1; omega)
  have := s.lo
  omega
theorem sd_sm {b : Int} {bs : List Int} (h : Hou b bs) {p : Int} {x : Nat} (h1 : 1 ≤ p) (hs : Sm x p) : Sm x (sd b bs p) := Sm.of (by have := sd_pos h p; omega) (sd_le h h1) hs
def sp_parted : PSp := fun ds t P => ∃ b n, ds = [.int n, .int b] ∧ 2 ≤ b ∧ b ≤ 30 ∧ 1 ≤ n ∧ Sm 8000 n ∧ P (.tup [.int (pw b n), .int (n / pw b n), .int (n % pw b n)]) t
/-- a row of marks, a list or a tuple -/
def Row (d : D) (ms : List Int) : Prop := d = .lst (ms.map .int) ∨ d = .tup (ms.map .int)
def sp_mark_by : PSp := fun ds t P => ∃ b n d ms, ds = [.int b, d, .int n] ∧ Row d ms ∧ (ms.length : Int) = b - 1 ∧ 2 ≤ b ∧ b ≤ 30 ∧ HSm 8000 ms ∧ 1 ≤ n ∧ Sm 8000 n ∧ P (.int (Mk b ms n)) t
def sp_mark_at (W : Cl) : PSp := fun ds t P => ∃ b bs p d ms, ds = [hD W b bs, d, .int p] ∧ Hou b bs ∧ Row d ms ∧ (ms.length : Int) = b - 1 ∧ HSm 8000 ms ∧ 1 ≤ p ∧ Sm 8000 p ∧ P (.int (Mk b ms (sd b bs p))) t
def sp_shares_of (W : Cl) : PSp := fun ds t P => ∃ b bs p, ds = [hD W b bs, .int p] ∧ Hou b bs ∧ 1 ≤ p ∧ Sm 8000 p ∧ P (.lst ((sh b (sd b bs p)).map .int)) t
def sp_whence (W : Cl) : PSp := fun ds t P => ∃ b bs p, ds = [hD W b bs, .int p] ∧ Hou b bs ∧ 1 ≤ p ∧ Sm 8000 p ∧ P (.lst ((whF 1 (sh b (sd b bs p))).map prD2)) t
theorem len_parted (as : List D) (t : Ts) (P : D → Ts → Prop) (h : sp_parted as t P) : as.length = 2 := by first | (obtain ⟨_, rfl, _⟩ := h; rfl) | (obtain ⟨_, _, rfl, _⟩ := h; rfl) | (obtain ⟨_, _, _, rfl, _⟩ := h; rfl) | (obtain ⟨_, _, _, _, rfl, _⟩ := h; rfl) | (obtain ⟨_, _, _, _, _, rfl, _⟩ := h; rfl) | (obtain ⟨_, _, _, _, _, _, rfl, _⟩ := h; rfl) | (obtain ⟨_, _, _, _, _, _, _, rfl, _⟩ := h; rfl) | (obtain ⟨_, _, _, _, _, _, _, _, rfl, _⟩ := h; rfl) | (obtain ⟨_, rfl | rfl, _⟩ := h <;> rfl) | (obtain ⟨_, _, rfl | rfl, _⟩ := h <;> rfl) | (obtain ⟨_, _, _, rfl | rfl, _⟩ := h <;> rfl) | (obtain ⟨_, _, _, _, rfl | rfl, _⟩ := h <;> rfl) | (obtain ⟨_, _, _, _, _, rfl | rfl, _⟩ := h <;> rfl) | (obtain ⟨_, _, _, _, _, _, rfl | rfl, _⟩ := h <;> rfl) | (obtain ⟨_, _, _, _, _, _, _, rfl | rfl, _⟩ := h <;> rfl) | (obtain ⟨_, _, _, _, _, _, _, _, rfl | rfl, _⟩ := h <;> rfl)
theorem len_mark_by (as : List D) (t : Ts) (P : D → Ts → Prop) (h : sp_mark_by as t P) : as.length = 3 := by first | (obtain ⟨_, rfl, _⟩ := h; rfl) | (obtain ⟨_, _, rfl, _⟩ := h; rfl) | (obtain ⟨_, _, _, rfl, _⟩ := h; rfl) | (obtain ⟨_, _, _, _, rfl, _⟩ := h; rfl) | (obtain ⟨_, _, _, _, _, rfl, _⟩ := h; rfl) | (obtain ⟨_, _, _, _, _, _, rfl, _⟩ := h; rfl) | (obtain ⟨_, _, _, _, _, _, _, rfl, _⟩ := h; rfl) | (obtain ⟨_, _, _, _, _, _, _, _, rfl, _⟩ := h; rfl) | (obtain ⟨_, rfl | rfl, _⟩ := h <;> rfl) | (obtain ⟨_, _, rfl | rfl, _⟩ := h <;> rfl) | (obtain ⟨_, _, _, rfl | rfl, _⟩ := h <;> rfl) | (obtain ⟨_, _, _, _, rfl | rfl, _⟩ := h <;> rfl) | (obtain ⟨_, _, _, _, _, rfl | rfl, _⟩ := h <;> rfl) | (obtain ⟨_, _, _, _, _, _, rfl | rfl, _⟩ := h <;> rfl) | (obtain ⟨_, _, _, _, _, _, _, rfl | rfl, _⟩ := h <;> rfl) | (obtain ⟨_, _, _, _, _, _, _, _, rfl | rfl, _⟩ := h <;> rfl)
theorem len_mark_at (W : Cl) (as : List D) (t : Ts) (P : D → Ts → Prop) (h : sp_mark_at W as t P) : as.length = 3 := by first | (obtain ⟨_, rfl, _⟩ := h; rfl) | (obtain ⟨_, _, rfl, _⟩ := h; rfl) | (obtain ⟨_, _, _, rfl, _⟩ := h; rfl) | (obtain ⟨_, _, _, _, rfl, _⟩ := h; rfl) | (obtain ⟨_, _, _, _, _, rfl, _⟩ := h; rfl) | (obtain ⟨_, _, _, _, _, _, rfl, _⟩ := h; rfl) | (obtain ⟨_, _, _, _, _, _, _, rfl, _⟩ := h; rfl) | (obtain ⟨_, _, _, _, _, _, _, _, rfl, _⟩ := h; rfl) | (obtain ⟨_, rfl | rfl, _⟩ := h <;> rfl) | (obtain ⟨_, _, rfl | rfl, _⟩ := h <;> rfl) | (obtain ⟨_, _, _, rfl | rfl, _⟩ := h <;> rfl) | (obtain ⟨_, _, _, _, rfl | rfl, _⟩ := h <;> rfl) | (obtain ⟨_, _, _, _, _, rfl | rfl, _⟩ := h <;> rfl) | (obtain ⟨_, _, _, _, _, _, rfl | rfl, _⟩ := h <;> rfl) | (obtain ⟨_, _, _, _, _, _, _, rfl | rfl, _⟩ := h <;> rfl) | (obtain ⟨_, _, _, _, _, _, _, _, rfl | rfl, _⟩ := h <;> rfl)
theorem len_shares_of (W : Cl) (as : List D) (t : Ts) (P : D → Ts → Prop) (h : sp_shares_of W as t P) : as.length = 2 := by first | (obtain ⟨_, rfl, _⟩ := h; rfl) | (obtain ⟨_, _, rfl, _⟩ := h; rfl) | (obtain ⟨_, _, _, rfl, _⟩ := h; rfl) | (obtain ⟨_, _, _, _, rfl, _⟩ := h; rfl) | (obtain ⟨_, _, _, _, _, rfl, _⟩ := h; rfl) | (obtain ⟨_, _, _, _, _, _, rfl, _⟩ := h; rfl) | (obtain ⟨_, _, _, _, _, _, _, rfl, _⟩ := h; rfl) | (obtain ⟨_, _, _, _, _, _, _, _, rfl, _⟩ := h; rfl) | (obtain ⟨_, rfl | rfl, _⟩ := h <;> rfl) | (obtain ⟨_, _, rfl | rfl, _⟩ := h <;> rfl) | (obtain ⟨_, _, _, rfl | rfl, _⟩ := h <;> rfl) | (obtain ⟨_, _, _, _, rfl | rfl, _⟩ := h <;> rfl) | (obtain ⟨_, _, _, _, _, rfl | rfl, _⟩ := h <;> rfl) | (obtain ⟨_, _, _, _, _, _, rfl | rfl, _⟩ := h <;> rfl) | (obtain ⟨_, _, _, _, _, _, _, rfl | rfl, _⟩ := h <;> rfl) | (obtain ⟨_, _, _, _, _, _, _, _, rfl | rfl, _⟩ := h <;> rfl)
theorem len_whence (W : Cl) (as : List D) (t : Ts) (P : D → Ts → Prop) (h : sp_whence W as t P) : as.length = 2 := by first | (obtain ⟨_, rfl, _⟩ := h; rfl) | (obtain ⟨_, _, rfl, _⟩ := h; rfl) | (obtain ⟨_, _, _, rfl, _⟩ := h; rfl) | (obtain ⟨_, _, _, _, rfl, _⟩ := h; rfl) | (obtain ⟨_, _, _, _, _, rfl, _⟩ := h; rfl) | (obtain ⟨_, _, _, _, _, _, rfl, _⟩ := h; rfl) | (obtain ⟨_, _, _, _, _, _, _, rfl, _⟩ := h; rfl) | (obtain ⟨_, _, _, _, _, _, _, _, rfl, _⟩ := h; rfl) | (obtain ⟨_, rfl | rfl, _⟩ := h <;> rfl) | (obtain ⟨_, _, rfl | rfl, _⟩ := h <;> rfl) | (obtain ⟨_, _, _, rfl | rfl, _⟩ := h <;> rfl) | (obtain ⟨_, _, _, _, rfl | rfl, _⟩ := h <;> rfl) | (obtain ⟨_, _, _, _, _, rfl | rfl, _⟩ := h <;> rfl) | (obtain ⟨_, _, _, _, _, _, rfl | rfl, _⟩ := h <;> rfl) | (obtain ⟨_, _, _, _, _, _, _, rfl | rfl, _⟩ := h <;> rfl) | (obtain ⟨_, _, _, _, _, _, _, _, rfl | rfl, _⟩ := h <;> rfl)
def d_parted : DS := (dSeq (dAsg (dC (.int 1)) (gName 2)) (dSeq (dWhile (dB (dOp oLe (dOp oMul (dVar 2) (dVar 1)) (dVar 0))) (dSeq (dAug 2 oMulI (dVar 1)) dNext)) (dSeq (dRet (dTup (dCons (dVar 2) (dCons (dOp oDiv (dVar 0) (dVar 2)) (dCons (dOp oMod (dVar 0) (dVar 2)) dNil))))) dNext)))
def d_mark_by : DS := (dSeq (dAsg (dCall sp_parted [] (dCons (dVar 2) (dCons (dVar 0) dNil))) (gTup 3 (gCons (gName 4) (gCons (gName 5) (gCons (gName 6) gNil))))) (dSeq (dAsg (dIfE (dB (dOp oLt (dVar 5) (dOp oSub (dVar 0) (dC (.int 1))))) (dOp oIx (dVar 1) (dVar 5)) (dOp oMul (dVar 0) (dOp oIx (dVar 1) (dC (.int 0))))) (gName 3)) (dSeq (dRet (dOp oAdd (dOp oMul (dOp oSub (dVar 4) (dVar 6)) (dOp oIx (dVar 1) (dOp oSub (dVar 5) (dC (.int 1))))) (dOp oMul (dVar 6) (dVar 3)))) dNext)))
def d_mark_at (W : Cl) : DS := (dSeq (dRet (dCall sp_mark_by [] (dCons (dMeth W.House "base" (sp_House_base W) [] (dVar 0) dNil) (dCons (dVar 1) (dCons (dMeth W.House "said" (sp_House_said W) [] (dVar 0) (dCons (dVar 2) dNil)) dNil))))) dNext)
def d_shares_of (W : Cl) : DS := (dSeq (dAsg (dCall sp_parted [] (dCons (dMeth W.House "said" (sp_House_said W) [] (dVar 0) (dCons (dVar 1) dNil)) (dCons (dMeth W.House "base" (sp_House_base W) [] (dVar 0) dNil) dNil))) (gTup 3 (gCons (gName 3) (gCons (gName 4) (gCons (gName 5) gNil))))) (dSeq (dAsgN 2 (dOp oRep (dLst (dCons (dC (.int 0)) dNil)) (dOp oSub (dMeth W.House "base" (sp_House_base W) [] (dVar 0) dNil) (dC (.int 1))))) (dSeq (dSet 2 (dOp oSub (dVar 4) (dC (.int 1))) (dOp oSub (dVar 3) (dVar 5))) (dSeq (dIf (dB (dOp oLt (dVar 4) (dOp oSub (dMeth W.House "base" (sp_House_base W) [] (dVar 0) dNil) (dC (.int 1))))) (dSeq (dSet 2 (dVar 4) (dVar 5)) dNext) (dSeq (dAugS 2 (dC (.int 0)) oAddI (dOp oMul (dMeth W.House "base" (sp_House_base W) [] (dVar 0) dNil) (dVar 5))) dNext)) (dSeq (dFrz 2) (dSeq (dRet (dVar 2)) dNext))))))
def d_whence (W : Cl) : DS := (dSeq (dRet (dLc [2, 3] (iEnum0 (dCall (sp_shares_of W) [] (dCons (dVar 0) (dCons (dVar 1) dNil)))) (gTup 2 (gCons (gName 2) (gCons (gName 3) gNil))) (dB (dOp oGt (dVar 3) (dC (.int 0)))) (dTup (dCons (dOp oAdd (dVar 2) (dC (.int 1))) (dCons (dVar 3) dNil))))) dNext)
theorem d_parted_ok (as : List D) (t : Ts) (P : D → Ts → Prop) (h : sp_parted as t P) : d_parted (endsOf P) (start0 ["number", "base", "power"] as) t := by
  obtain ⟨b, n, rfl, h2, h30, h1, hs, k⟩ := h
  conv => whnf
  refine ⟨fun e m => t = m ∧ ∃ p : Int, 1 ≤ p ∧ p ≤ n ∧ pw b n = p * pw b (n / p) ∧ e = [.val (.int n), .val (.int b), .val (.int p)], fun e _ => match e with | [_, _, .val (.int p)] => (n - p).toNat | _ => 0, ⟨rfl, 1, by decide, h1, by simp, rfl⟩, fun e m hI => ?_⟩
  obtain ⟨rfl, p, p1, pn, hp, rfl⟩ := hI
  conv => whnf
  refine ⟨.r (by omega) (by omega), ?_⟩
  conv => whnf
  have hnp : 1 ≤ n / p := by
    have := Int.ediv_le_ediv (show 0 < p by omega) pn
    rw [Int.ediv_self (by omega)] at this
    exact this
  have hlow := Int.mul_le_mul_of_nonneg_left h2 (show 0 ≤ p by omega)
  refine Br.mk (fun hx => ?_) (fun hx => ?_)
  · have hx := of_decide_eq_true hx
    conv => whnf
    refine ⟨.r (by omega) (by omega), ?_⟩
    conv => whnf
    refine ⟨⟨rfl, p * b, by omega, hx, ?_, rfl⟩, ?_⟩
    · rw [hp]
      have hb : b ≤ n / p := (Int.le_ediv_iff_mul_le (by omega)).mpr (by rw [Int.mul_comm]; exact hx)
      rw [pw_ge h2 hb, Int.ediv_ediv_of_nonneg (by omega), Int.mul_assoc]
    · show (n - p * b).toNat < (n - p).toNat
      omega
  · have hx := of_decide_eq_false hx
    have hb : n / p < b := Int.ediv_lt_of_lt_mul (by omega) (by rw [Int.mul_comm]; omega)
    rw [pw_lt hb, Int.mul_one] at hp
    subst hp
    conv => whnf
    have h0 := pw_pos h2 h1
    have hsp : Sm 8000 (pw b n) := Sm.of (by omega) pn hs
    refine ⟨.w (by omega) hsp (by decide), ?_⟩
    conv => whnf
    refine ⟨by omega, ?_⟩
    conv => whnf
    exact k
theorem row_at {d : D} {ms : List Int} (h : Row d ms) {i : Int} (h0 : 0 ≤ i) (hi : i < ms.length) {P : D → Prop} (k : P (.int (ms.getD i.toNat 0))) : oIx d (.int i) P := by
  rcases h with rfl | rfl
  · exact ⟨_, atI_ints h0 hi, k⟩
  · exact ⟨_, atI_ints h0 hi, k⟩
theorem HSm.at {y : Nat} {ms : List Int} (h : HSm y ms) (i : Nat) : Sm y (ms.getD i 0) := by
  rw [List.getD_eq_getElem?_getD]
  cases q : ms[i]? with
  | none => show (0 : Int).natAbs < 2 ^ y; exact Nat.two_pow_pos y
  | some x => exact h x (List.mem_of_getElem? q)
theorem d_mark_by_ok (as : List D) (t : Ts) (P : D → Ts → Prop) (h : sp_mark_by as t P) : d_mark_by (endsOf P) (start0 ["base", "marks", "number", "further", "power", "sign", "rest"] as) t := by
  obtain ⟨b, n, d, ms, rfl, hr, hl, h2, h30, hm, h1, hs, k⟩ := h
  obtain ⟨s1, s2⟩ := sg_in h2 h1
  obtain ⟨r0, r1⟩ := rs_in h2 h1
  have p1 := pw_pos h2 h1
  have pn := pw_le h2 h1
  have hsp : Sm 8000 (pw b n) := Sm.of (by omega) pn hs
  have hsr : Sm 8000 (n % pw b n) := Sm.of r0 (by omega) hsp
  have hsq : Sm 8000 (pw b n - n % pw b n) := Sm.of (by omega) (by omega) hsp
  conv => whnf
  refine ⟨b, n, rfl, h2, h30, h1, hs, ?_⟩
  conv => whnf
  refine ⟨rfl, ?_⟩
  conv => whnf
  have fin : ∀ F : Int, F = mF b ms (n / pw b n) → Sm 8010 F → (dSeq (dRet (dOp oAdd (dOp oMul (dOp oSub (dVar 4) (dVar 6)) (dOp oIx (dVar 1) (dOp oSub (dVar 5) (dC (.int 1))))) (dOp oMul (dVar 6) (dVar 3)))) dNext) (endsOf P) [.val (.int b), .val d, .val (.int n), .val (.int F), .val (.int (pw b n)), .val (.int (n / pw b n)), .val (.int (n % pw b n))] t := by
    intro F hF hFs
    conv => whnf
    refine row_at hr (by omega) (by omega) ?_
    conv => whnf
    refine ⟨.w (a := 8000) (b := 8000) hsq (hm.at _) (by decide) (by decide) (by decide), ?_⟩
    conv => whnf
    refine ⟨.w (a := 8000) (b := 8010) hsr hFs (by decide) (by decide) (by decide), ?_⟩
    conv => whnf
    subst hF
    exact k
  refine Br.mk (fun hx => ?_) (fun hx => ?_)
  · have hx := of_decide_eq_true hx
    conv => whnf
    refine row_at hr (by omega) (by omega) ?_
    refine fin _ ?_ ((hm.at _).mono (by decide))
    unfold mF
    rw [if_pos hx]
  · have hx := of_decide_eq_false hx
    conv => whnf
    refine row_at hr (by decide) (by omega) ?_
    conv => whnf
    refine ⟨.l (by omega) (by omega), ?_⟩
    conv => whnf
    refine fin _ ?_ ?_
    · unfold mF
      rw [if_neg hx]
      rfl
    · exact (Sm.mul (a := 5) (show Sm 5 b by unfold Sm; omega) (hm.at _)).mono (by decide)
theorem said_k {b : Int} {bs : List Int} (h : Hou b bs) {p : Int} {t : Ts} {P : D → Ts → Prop} (k : P (.int (sd b bs p)) t) : ∀ m, Sa b bs p m → P (.int m) t := fun m hm => by rw [← sd_eq h hm]; exact k
theorem d_mark_at_ok (W : Cl) (as : List D) (t : Ts) (P : D → Ts → Prop) (h : sp_mark_at W as t P) : d_mark_at W (endsOf P) (start0 ["house", "marks", "place"] as) t := by
  obtain ⟨b, bs, p, d, ms, rfl, hh, hr, hl, hm, p1, ps, k⟩ := h
  conv => whnf
  refine ⟨rfl, ?_⟩
  conv => whnf
  refine ⟨rfl, ?_⟩
  conv => whnf
  refine ⟨b, bs, rfl, ?_⟩
  conv => whnf
  refine ⟨rfl, ?_⟩
  conv => whnf
  refine ⟨rfl, ?_⟩
  conv => whnf
  refine ⟨b, bs, p, rfl, hh, p1, ps.mono (by decide), fun m0 hm0 => ?_⟩
  obtain rfl := sd_eq hh hm0
  exact ⟨b, _, d, ms, rfl, hr, hl, hh.b2, hh.b30, hm, sd_pos hh p, sd_sm hh p1 ps, k⟩
theorem rep_ints (n : Nat) : rep n [D.int 0] = (List.replicate n (0 : Int)).map .int := by
  unfold rep
  induction n with
  | zero => rfl
  | succ n ih => rw [List.replicate_succ, List.flatten_cons, ih, List.replicate_succ]; rfl
theorem ixN_nn {n : Nat} {i : Int} (h0 : 0 ≤ i) (h : i < n) : ixN n i = some i.toNat := by
  unfold ixN
  rw [if_pos h0, if_pos h]
theorem d_shares_of_ok (W : Cl) (as : List D) (t : Ts) (P : D → Ts → Prop) (h : sp_shares_of W as t P) : d_shares_of W (endsOf P) (start0 ["house", "place", "found", "power", "sign", "rest"] as) t := by
  obtain ⟨b, bs, p, rfl, hh, p1, ps, k⟩ := h
  have h2 := hh.b2
  have h30 := hh.b30
  conv => whnf
  refine ⟨rfl, ?_⟩
  conv => whnf
  refine ⟨rfl, ?_⟩
  conv => whnf
  refine ⟨b, bs, p, rfl, hh, p1, ps.mono (by decide), fun m0 hm0 => ?_⟩
  obtain rfl := sd_eq hh hm0
  have hn := sd_pos hh p
  have hs := sd_sm hh p1 ps
  generalize sd b bs p = n at *
  obtain ⟨s1, s2⟩ := sg_in h2 hn
  obtain ⟨r0, r1⟩ := rs_in h2 hn
  conv => whnf
  refine ⟨rfl, ?_⟩
  conv => whnf
  refine ⟨rfl, ?_⟩
  conv => whnf
  refine ⟨b, bs, rfl, ?_⟩
  refine ⟨b, n, rfl, h2, h30, hn, hs, ?_⟩
  conv => whnf
  refine ⟨rfl, ?_⟩
  conv => whnf
  refine ⟨rfl, ?_⟩
  conv => whnf
  refine ⟨rfl, ?_⟩
  conv => whnf
  refine ⟨b, bs, rfl, ?_⟩
  conv => whnf
  refine ⟨⟨by omega, by omega, by show 1 * (b - 1).toNat ≤ zLen; unfold zLen; omega⟩, ?_⟩
  conv => whnf
  rw [rep_ints]
  refine ⟨_, ixN_nn (by omega) (by rw [List.length_map, List.length_replicate]; omega), ?_⟩
  rw [← List.map_set]
  have e0 : (List.replicate (b - 1).toNat (0 : Int)).set (n / pw b n - 1).toNat (pw b n - n % pw b n) = sh0 b n := rfl
  rw [e0]
  conv => whnf
  refine ⟨rfl, ?_⟩
  conv => whnf
  refine ⟨rfl, ?_⟩
  conv => whnf
  refine ⟨b, bs, rfl, ?_⟩
  conv => whnf
  refine Br.mk (fun hx => ?_) (fun hx => ?_)
  · have hx := of_decide_eq_true hx
    conv => whnf
    refine ⟨_, ixN_nn (by omega) (by rw [List.length_map, sh0_len]; omega), ?_⟩
    rw [← List.map_set, show (sh0 b n).set (n / pw b n).toNat (n % pw b n) = sh b n by unfold sh; rw [if_pos hx]]
    exact k
  · have hx := of_decide_eq_false hx
    conv => whnf
    refine ⟨0, .int ((sh0 b n).getD 0 0), ixN_nn (by decide) (by rw [List.length_map, sh0_len]; omega), ?_, ?_⟩
    · rw [List.getElem?_map, List.getElem?_eq_getElem (show 0 < (sh0 b n).length by rw [sh0_len]; omega), List.getD_eq_getElem?_getD, List.getElem?_eq_getElem (show 0 < (sh0 b n).length by rw [sh0_len]; omega)]
      rfl
    · conv => whnf
      refine ⟨rfl, ?_⟩
      conv => whnf
      refine ⟨rfl, ?_⟩
      conv => whnf
      refine ⟨b, bs, rfl, ?_⟩
      conv => whnf
      refine ⟨.l (by omega) (by omega), ?_⟩
      conv => whnf
      rw [← List.map_set, show (sh0 b n).set 0 ((sh0 b n).getD 0 0 + b * (n % pw b n)) = sh b n by unfold sh; rw [if_neg hx]]
      exact k
theorem take_succ_getD {l : List Int} {i : Nat} (h : i < l.length) : l.take (i + 1) = l.take i ++ [l.getD i 0] := by
  rw [List.take_add_one, List.getElem?_eq_getElem h, List.getD_eq_getElem?_getD, List.getElem?_eq_getElem h]
  rfl
theorem d_whence_ok (W : Cl) (as : List D) (t : Ts) (P : D → Ts → Prop) (h : sp_whence W as t P) : d_whence W (endsN P) (start0 ["house", "place", "at", "many"] as) t := by
  obtain ⟨b, bs, p, rfl, hh, p1, ps, k⟩ := h
  have h2 := hh.b2
  have h30 := hh.b30
  conv => whnf
  refine ⟨b, bs, p, rfl, hh, p1, ps, ?_⟩
  have hn := sd_pos hh p
  generalize sd b bs p = n at *
  have hl := sh_len b n
  conv => whnf
  refine ⟨fun i acc m => t = m ∧ acc = (whF 1 ((sh b n).take i)).map prD2, ⟨rfl, rfl⟩, fun i x acc m hx hI => ?_, fun acc m hI => ?_⟩
  · obtain ⟨rfl, rfl⟩ := hI
    obtain ⟨y, hy, rfl⟩ := enumL_ints hx
    have hi := (List.getElem?_eq_some_iff.mp hy).1
    have e : whF 1 ((sh b n).take (i + 1)) = whF 1 ((sh b n).take i) ++ whF (1 + i) [y] := by
      rw [take_succ_getD hi, getD_some hy, whF_app, List.length_take, Nat.min_eq_left (by omega)]
    conv => whnf
    refine ⟨rfl, rfl, ?_⟩
    conv => whnf
    refine Br.mk (fun hc => ?_) (fun hc => ?_)
    · have hc := of_decide_eq_true hc
      refine ⟨?_, rfl, ?_⟩
      · have := whF_len ((sh b n).take i) 1
        rw [List.length_map]
        rw [List.length_take] at this
        unfold zLen
        omega
      · rw [e]
        unfold whF
        rw [if_pos hc, List.map_append]
        unfold whF prD2
        rw [show 0 + (i : Int) + 1 = 1 + i by omega]
        rfl
    · have hc := of_decide_eq_false hc
      refine ⟨rfl, ?_⟩
      rw [e]
      have : whF (1 + (i : Int)) [y] = [] := by
        unfold whF
        rw [if_neg hc]
        rfl
      rw [this, List.append_nil]
  · obtain ⟨rfl, rfl⟩ := hI
    rw [enumL_len, List.length_map, List.take_length]
    exact k
end Q

/-! MMark4 -/
namespace Q
open PySem
def sp__law_whole : PSp := fun ds t P => ∃ d, ds = [d] ∧ tnOk d ∧ P (.bl (isInt d)) t
theorem len__law_whole (as : List D) (t : Ts) (P : D → Ts → Prop) (h : sp__law_whole as t P) : as.length = 1 := by first | (obtain ⟨_, rfl, _⟩ := h; rfl) | (obtain ⟨_, _, rfl, _⟩ := h; rfl) | (obtain ⟨_, _, _, rfl, _⟩ := h; rfl) | (obtain ⟨_, _, _, _, rfl, _⟩ := h; rfl) | (obtain ⟨_, _, _, _, _, rfl, _⟩ := h; rfl) | (obtain ⟨_, _, _, _, _, _, rfl, _⟩ := h; rfl) | (obtain ⟨_, _, _, _, _, _, _, rfl, _⟩ := h; rfl) | (obtain ⟨_, _, _, _, _, _, _, _, rfl, _⟩ := h; rfl) | (obtain ⟨_, rfl | rfl, _⟩ := h <;> rfl) | (obtain ⟨_, _, rfl | rfl, _⟩ := h <;> rfl) | (obtain ⟨_, _, _, rfl | rfl, _⟩ := h <;> rfl) | (obtain ⟨_, _, _, _, rfl | rfl, _⟩ := h <;> rfl) | (obtain ⟨_, _, _, _, _, rfl | rfl, _⟩ := h <;> rfl) | (obtain ⟨_, _, _, _, _, _, rfl | rfl, _⟩ := h <;> rfl) | (obtain ⟨_, _, _, _, _, _, _, rfl | rfl, _⟩ := h <;> rfl) | (obtain ⟨_, _, _, _, _, _, _, _, rfl | rfl, _⟩ := h <;> rfl)
def d__law_whole : DS := (dSeq (dRet (dAndV (dIsi [.int] (dVar 0)) (dNotV (dIsi [.bl] (dVar 0))))) dNext)
theorem d__law_whole_ok (as : List D) (t : Ts) (P : D → Ts → Prop) (h : sp__law_whole as t P) : d__law_whole (endsOf P) (start0 ["_law_thing"] as) t := by
  obtain ⟨d, rfl, ⟨m, hm⟩, k⟩ := h
  cases d <;> (first | exact k | cases hm)
theorem Mk_sm {b : Int} (h2 : 2 ≤ b) (h30 : b ≤ 30) {n : Int} (h1 : 1 ≤ n) {ms : List Int} {x y : Nat} (hm : HSm x ms) (hn : Sm y n) : Sm (x + y + 8) (Mk b ms n) := by
  have p1 := pw_pos h2 h1
  have pn := pw_le h2 h1
  obtain ⟨r0, r1⟩ := rs_in h2 h1
  have a1 : Sm (y + x) ((pw b n - n % pw b n) * ms.getD (n / pw b n - 1).toNat 0) := Sm.mul (Sm.of (by omega) (by omega) hn) (hm.at _)
  have a2 : Sm (y + (5 + x)) (n % pw b n * mF b ms (n / pw b n)) := by
    refine Sm.mul (Sm.of r0 (by omega) hn) ?_
    unfold mF
    split
    · exact (hm.at _).mono (by omega)
    · exact Sm.mul (show Sm 5 b by unfold Sm; omega) (hm.at _)
  exact (Sm.add (a1.mono (by omega : y + x ≤ y + (5 + x))) a2).mono (by omega)
theorem sum_ge {α : Type} : ∀ (l : List α) (f : α → Int), (∀ z ∈ l, 0 ≤ f z) → ∀ z ∈ l, f z ≤ (l.map f).sum
  | [], _, _, z, h => by cases h
  | a :: l, f, h0, z, h => by
    have ha := h0 a List.mem_cons_self
    have hs : 0 ≤ (l.map f).sum := sum_nn fun x hx => by
      obtain ⟨w, hw, rfl⟩ := List.mem_map.mp hx
      exact h0 w (List.mem_cons_of_mem _ hw)
    rw [List.map_cons, List.sum_cons]
    rcases List.mem_cons.mp h with rfl | h
    · omega
    · have := sum_ge l f (fun w hw => h0 w (List.mem_cons_of_mem _ hw)) z h
      omega
theorem wh_le {b : Int} (hb : 2 ≤ b) {n : Int} (h : 1 ≤ n) : ∀ z ∈ whF 1 (sh b n), z.2 ≤ n := by
  intro z hz
  have h1 := whF_sum (sh b n) ((List.range (b - 1).toNat).map fun (i : Nat) => (i : Int) + 1) 1 (by rw [sh_len]; simp) (sh_nn hb h) (fun x => x) (fun i hi => by
    rw [List.length_map, List.length_range] at hi
    rw [List.getD_eq_getElem?_getD, List.getElem?_map, List.getElem?_range hi]
    show 1 + (i : Int) = i + 1
    omega)
  rw [sh_dot hb h (by simp; omega), Mk_id hb h (fun i hi => by
    rw [List.getD_eq_getElem?_getD, List.getElem?_map, List.getElem?_range (by omega)]
    rfl)] at h1
  have h2 := sum_ge (whF 1 (sh b n)) (fun z => z.1 * z.2) (fun w hw => by
    obtain ⟨a1, _, a3⟩ := whF_mem _ _ _ hw
    exact Int.mul_nonneg (by omega) (by omega)) z hz
  obtain ⟨a1, _, a3⟩ := whF_mem _ _ _ hz
  have h3 : 1 * z.2 ≤ z.1 * z.2 := Int.mul_le_mul_of_nonneg_right a1 (by omega)
  have h1 : ((whF 1 (sh b n)).map fun z => z.1 * z.2).sum = n := h1
  omega
def sp__law_is_origin : PSp := fun ds t P => ∃ b l, ds = [.int b, .lst ((whF 1 l).map prD2)] ∧ (l.length : Int) = b - 1 ∧ b ≤ 30 ∧ whF 1 l ≠ [] ∧ P (.bl true) t
theorem len__law_is_origin (as : List D) (t : Ts) (P : D → Ts → Prop) (h : sp__law_is_origin as t P) : as.length = 2 := by first | (obtain ⟨_, rfl, _⟩ := h; rfl) | (obtain ⟨_, _, rfl, _⟩ := h; rfl) | (obtain ⟨_, _, _, rfl, _⟩ := h; rfl) | (obtain ⟨_, _, _, _, rfl, _⟩ := h; rfl) | (obtain ⟨_, _, _, _, _, rfl, _⟩ := h; rfl) | (obtain ⟨_, _, _, _, _, _, rfl, _⟩ := h; rfl) | (obtain ⟨_, _, _, _, _, _, _, rfl, _⟩ := h; rfl) | (obtain ⟨_, _, _, _, _, _, _, _, rfl, _⟩ := h; rfl) | (obtain ⟨_, rfl | rfl, _⟩ := h <;> rfl) | (obtain ⟨_, _, rfl | rfl, _⟩ := h <;> rfl) | (obtain ⟨_, _, _, rfl | rfl, _⟩ := h <;> rfl) | (obtain ⟨_, _, _, _, rfl | rfl, _⟩ := h <;> rfl) | (obtain ⟨_, _, _, _, _, rfl | rfl, _⟩ := h <;> rfl) | (obtain ⟨_, _, _, _, _, _, rfl | rfl, _⟩ := h <;> rfl) | (obtain ⟨_, _, _, _, _, _, _, rfl | rfl, _⟩ := h <;> rfl) | (obtain ⟨_, _, _, _, _, _, _, _, rfl | rfl, _⟩ := h <;> rfl)
def d__law_is_origin : DS := (dSeq (dIf (dOr (dNot (dB (dIsi [.lst] (dVar 1)))) (dB (dOp oEq (dVar 1) (dLst dNil)))) (dSeq (dRet (dC (.bl false))) dNext) dNext) (dSeq (dFor (iSeq (dVar 1)) (gName 2) (dSeq (dIf (dOr (dNot (dB (dIsi [.tup] (dVar 2)))) (dOr (dB (dOp oNe (dCB bLen (dCons (dVar 2) dNil)) (dC (.int 2)))) (dOr (dNot (dB (dCall sp__law_whole [] (dCons (dOp oIx (dVar 2) (dC (.int 0))) dNil)))) (dNot (dB (dCall sp__law_whole [] (dCons (dOp oIx (dVar 2) (dC (.int 1))) dNil))))))) (dSeq (dRet (dC (.bl false))) dNext) dNext) (dSeq (dIf (dOr (dNot (dB (dChain oLt oLt (dC (.int 0)) (dOp oIx (dVar 2) (dC (.int 0))) (dVar 0)))) (dB (dOp oLt (dOp oIx (dVar 2) (dC (.int 1))) (dC (.int 1))))) (dSeq (dRet (dC (.bl false))) dNext) dNext) dNext))) (dSeq (dRet (dOp oEq (dLc [3] (iRng2 (dC (.int 1)) (dCB bLen (dCons (dVar 1) dNil))) (gName 3) (dB (dOp oGe (dOp oIx (dOp oIx (dVar 1) (dOp oSub (dVar 3) (dC (.int 1)))) (dC (.int 0))) (dOp oIx (dOp oIx (dVar 1) (dVar 3)) (dC (.int 0))))) (dVar 3)) (dLst dNil))) dNext)))
theorem plains_pr : ∀ l : List (Int × Int), plains (l.map prD2) = true
  | [] => rfl
  | z :: l => by simp [plains, plain, prD2, plains_pr l]
theorem deeps_pr : ∀ l : List (Int × Int), deeps (l.map prD2) ≤ 1
  | [] => by simp [deeps]
  | z :: l => by
    have := deeps_pr l
    simp only [List.map_cons, deeps, prD2, deep]
    omega
theorem plain_pr (l : List (Int × Int)) : plain (.lst (l.map prD2)) = true := by simp [plain, plains_pr]
theorem deep_pr (l : List (Int × Int)) : deep (.lst (l.map prD2)) ≤ 60 := by
  have := deeps_pr l
  simp only [deep]
  omega
theorem map_get2 {l : List (Int × Int)} {i : Nat} {d : D} (h : (l.map prD2)[i]? = some d) : ∃ z, l[i]? = some z ∧ d = .tup [.int z.1, .int z.2] := by
  rw [List.getElem?_map] at h
  cases q : l[i]? with
  | none => rw [q] at h; cases h
  | some z => rw [q] at h; cases h; exact ⟨z, rfl, rfl⟩
theorem d__law_is_origin_ok (as : List D) (t : Ts) (P : D → Ts → Prop) (h : sp__law_is_origin as t P) : d__law_is_origin (endsOf P) (start0 ["_law_base", "_law_told", "_law_thing", "_law_k"] as) t := by
  obtain ⟨b, l, rfl, hl, h30, hne, k⟩ := h
  have hlen := whF_len l 1
  conv => whnf
  refine ⟨⟨plain_pr _, rfl, deep_pr _, by decide⟩, ?_⟩
  conv => whnf
  have e : deq (.lst ((whF 1 l).map prD2)) (.lst []) = false := by
    cases q : whF 1 l with
    | nil => exact absurd q hne
    | cons z r => simp [deq, deqs]
  rw [e]
  conv => whnf
  refine ⟨fun i e m => t = m ∧ ∃ s2, e = [.val (.int b), .val (.lst ((whF 1 l).map prD2)), s2, .no], ⟨rfl, _, rfl⟩, fun i x e m hx hI => ?_, fun e m hI => ?_⟩
  · obtain ⟨rfl, s2, rfl⟩ := hI
    obtain ⟨z, hz, rfl⟩ := map_get2 hx
    obtain ⟨a1, a2, a3⟩ := whF_mem _ _ _ (List.mem_of_getElem? hz)
    conv => whnf
    refine ⟨_, rfl, ?_⟩
    refine ⟨_, rfl, ⟨.int, rfl⟩, ?_⟩
    conv => whnf
    refine ⟨_, rfl, ?_⟩
    refine ⟨_, rfl, ⟨.int, rfl⟩, ?_⟩
    conv => whnf
    refine ⟨_, rfl, ?_⟩
    conv => whnf
    refine br_eq (by omega) ?_
    conv => whnf
    refine br_ne (by omega) ?_
    conv => whnf
    refine ⟨_, rfl, ?_⟩
    conv => whnf
    refine br_nq (by omega) ?_
    conv => whnf
    exact ⟨rfl, _, rfl⟩
  · obtain ⟨rfl, s2, rfl⟩ := hI
    conv => whnf
    refine ⟨by rw [List.length_map]; omega, ?_⟩
    conv => whnf
    refine lc_none (fun i x hx Qn Qy q => ?_) ?_
    · obtain ⟨hi, rfl⟩ := rng_get hx
      have hi2 : i + 1 < (whF 1 l).length := by rw [List.length_map] at hi; omega
      have hi1 : i < (whF 1 l).length := by omega
      have up := whF_up l 1
      have lt := List.pairwise_iff_getElem.mp up i (i + 1) hi1 hi2 (by omega)
      conv => whnf
      refine ⟨rfl, ?_⟩
      conv => whnf
      refine ⟨_, atI_nat (i := 1 + (i : Int) - 1) (by omega) (by rw [show (1 + (i : Int) - 1).toNat = i by omega, List.getElem?_map, List.getElem?_eq_getElem hi1]; rfl), ?_⟩
      conv => whnf
      refine ⟨_, rfl, ?_⟩
      conv => whnf
      refine ⟨_, atI_nat (i := 1 + (i : Int)) (by omega) (by rw [show (1 + (i : Int)).toNat = i + 1 by omega, List.getElem?_map, List.getElem?_eq_getElem hi2]; rfl), ?_⟩
      conv => whnf
      refine ⟨_, rfl, ?_⟩
      conv => whnf
      refine br_nq (by omega) ?_
      conv => whnf
      exact q
    · conv => whnf
      refine ⟨by decide, ?_⟩
      conv => whnf
      exact k
theorem Lp_sm4 {b : Int} {bs : List Int} (h : Hou b bs) {y : Nat} (hb : HSm y bs) {n : Int} {x : Nat} (h0 : 0 ≤ n) (hn : Sm x n) : Sm (x + y + 10) (Lp b bs n) := by
  have hR : Sm (y + 5) (Re bs) := Re_sm h (M := ((2 ^ y : Nat) : Int) - 1) (by have := Nat.two_pow_pos y; omega) (fun x hx => by have := hb x hx; have := h.pos x hx; unfold Sm at *; omega) (by unfold Sm; have := Nat.two_pow_pos y; omega)
  exact (Lp_sm h h0 hn hR (by omega)).mono (by omega)
def sp__law_spots (W : Cl) : PSp := fun ds t P => ∃ b bs n, ds = [.pen, hD W b bs, .int b] ∧ Hou b bs ∧ HSm 210 bs ∧ Pt n t ∧ n < 70000000 ∧ ∀ (ps : List Int) t', ps.length = 5 → (∀ p ∈ ps, 1 ≤ p ∧ Sm 400 p) → Pt (n + 20) t' → P (.lst (ps.map .int)) t'
theorem len__law_spots (W : Cl) (as : List D) (t : Ts) (P : D → Ts → Prop) (h : sp__law_spots W as t P) : as.length = 3 := by first | (obtain ⟨_, rfl, _⟩ := h; rfl) | (obtain ⟨_, _, rfl, _⟩ := h; rfl) | (obtain ⟨_, _, _, rfl, _⟩ := h; rfl) | (obtain ⟨_, _, _, _, rfl, _⟩ := h; rfl) | (obtain ⟨_, _, _, _, _, rfl, _⟩ := h; rfl) | (obtain ⟨_, _, _, _, _, _, rfl, _⟩ := h; rfl) | (obtain ⟨_, _, _, _, _, _, _, rfl, _⟩ := h; rfl) | (obtain ⟨_, _, _, _, _, _, _, _, rfl, _⟩ := h; rfl) | (obtain ⟨_, rfl | rfl, _⟩ := h <;> rfl) | (obtain ⟨_, _, rfl | rfl, _⟩ := h <;> rfl) | (obtain ⟨_, _, _, rfl | rfl, _⟩ := h <;> rfl) | (obtain ⟨_, _, _, _, rfl | rfl, _⟩ := h <;> rfl) | (obtain ⟨_, _, _, _, _, rfl | rfl, _⟩ := h <;> rfl) | (obtain ⟨_, _, _, _, _, _, rfl | rfl, _⟩ := h <;> rfl) | (obtain ⟨_, _, _, _, _, _, _, rfl | rfl, _⟩ := h <;> rfl) | (obtain ⟨_, _, _, _, _, _, _, _, rfl | rfl, _⟩ := h <;> rfl)
def d__law_spots (W : Cl) : DS := (dSeq (dAsg (dC (.int 1)) (gName 3)) (dSeq (dFor (iRng1 (dCall sp__law_draw_2 [] (dCons (dVar 0) (dCons (dC (.int 20)) dNil)))) (gName 4) (dSeq (dAsg (dOp oMul (dVar 3) (dVar 2)) (gName 3)) dNext)) (dSeq (dAsg (dLst (dCons (dOp oAdd (dC (.int 1)) (dCall sp__law_many_2 [] (dCons (dVar 0) (dCons (dC (.int 24)) dNil)))) (dCons (dMeth W.House "last_place" (sp_House_last_place W) [] (dVar 1) (dCons (dVar 3) dNil)) (dCons (dOp oAdd (dOp oAdd (dMeth W.House "last_place" (sp_House_last_place W) [] (dVar 1) (dCons (dVar 3) dNil)) (dC (.int 1))) (dCall sp__law_draw_2 [] (dCons (dVar 0) (dCons (dC (.int 2)) dNil)))) dNil)))) (gName 5)) (dSeq (dRet (dOp oAdd (dVar 5) (dLst (dCons (dMeth W.House "folk" (sp_House_folk W) [] (dVar 1) dNil) (dCons (dOp oAdd (dOp oAdd (dMeth W.House "folk" (sp_House_folk W) [] (dVar 1) dNil) (dC (.int 1))) (dCall sp__law_draw_2 [] (dCons (dVar 0) (dCons (dC (.int 99)) dNil)))) dNil))))) dNext))))
theorem d__law_spots_ok (W : Cl) (as : List D) (t : Ts) (P : D → Ts → Prop) (h : sp__law_spots W as t P) : d__law_spots W (endsOf P) (start0 ["_law_tape_here", "_law_house", "_law_base", "_law_power", "_law_k", "_law_spots_here"] as) t := by
  obtain ⟨b, bs, n, rfl, hh, hbs, hp, hn, k⟩ := h
  have h2 := hh.b2
  have h30 := hh.b30
  conv => whnf
  refine ⟨_, _, rfl, by first | omega | decide, (sm64 (by first | omega | decide) (by first | omega | decide)).mono (by decide), hp, by omega, fun c t1 c0 c1 pt1 => ?_⟩
  conv => whnf
  refine ⟨by omega, ?_⟩
  conv => whnf
  refine ⟨fun i e m => t1 = m ∧ ∃ q s4, 1 ≤ q ∧ Sm (5 * i + 1) q ∧ e = [.val .pen, .val (hD W b bs), .val (.int b), .val (.int q), s4, .no], ⟨rfl, 1, _, by decide, by unfold Sm; decide, rfl⟩, fun i x e m hx hI => ?_, fun e m hI => ?_⟩
  · obtain ⟨rfl, q, s4, q1, qs, rfl⟩ := hI
    obtain ⟨hi, rfl⟩ := rng_get hx
    conv => whnf
    refine ⟨.r (by omega) (by omega), ?_⟩
    conv => whnf
    refine ⟨rfl, q * b, _, ?_, (Sm.mul qs (b := 5) (by unfold Sm; omega)).mono (by omega), rfl⟩
    have := Int.mul_le_mul_of_nonneg_left (show (1 : Int) ≤ b by omega) (show 0 ≤ q by omega)
    omega
  · obtain ⟨rfl, q, s4, q1, qs, rfl⟩ := hI
    rw [rng_len] at qs
    have qs : Sm 96 q := qs.mono (by omega)
    have L0 := Lp_sm4 hh hbs (show 0 ≤ q by omega) qs
    have L1 := Lp_ge_self hh (show 0 ≤ q by omega)
    have hf := folk_is hh
    have F1 := Lp_ge_self hh (show 0 ≤ b - 1 by omega)
    have F0 := Lp_sm4 hh hbs (show 0 ≤ b - 1 by omega) (show Sm 5 (b - 1) by unfold Sm; omega)
    rw [hf] at F1 F0
    conv => whnf
    refine ⟨n + 1, 24, rfl, by decide, pt1, by omega, fun z t2 z0 z1 pt2 => ?_⟩
    have pt2 : Pt (n + 10) t2 := pt2.mono (by omega)
    conv => whnf
    refine ⟨rfl, ?_⟩
    conv => whnf
    refine ⟨rfl, ?_⟩
    conv => whnf
    refine ⟨b, bs, q, rfl, hh, by omega, qs.mono (by decide), ?_⟩
    conv => whnf
    refine ⟨rfl, ?_⟩
    conv => whnf
    refine ⟨rfl, ?_⟩
    conv => whnf
    refine ⟨b, bs, q, rfl, hh, by omega, qs.mono (by decide), ?_⟩
    conv => whnf
    refine ⟨_, _, rfl, by first | omega | decide, (sm64 (by first | omega | decide) (by first | omega | decide)).mono (by decide), pt2, by omega, fun u t3 u0 u1 pt3 => ?_⟩
    conv => whnf
    refine ⟨rfl, ?_⟩
    conv => whnf
    refine ⟨rfl, ?_⟩
    conv => whnf
    refine ⟨b, bs, rfl, ?_⟩
    conv => whnf
    refine ⟨rfl, ?_⟩
    conv => whnf
    refine ⟨rfl, ?_⟩
    conv => whnf
    refine ⟨b, bs, rfl, ?_⟩
    conv => whnf
    refine ⟨_, _, rfl, by first | omega | decide, (sm64 (by first | omega | decide) (by first | omega | decide)).mono (by decide), pt3, by omega, fun v t4 v0 v1 pt4 => ?_⟩
    conv => whnf
    refine ⟨by show 3 + 2 ≤ zLen; unfold zLen; decide, ?_⟩
    conv => whnf
    have big : ∀ x : Int, Sm 320 x → 0 ≤ x → ∀ d : Int, 0 ≤ d → d ≤ 200 → Sm 400 (x + d) := fun x hx x0 d d0 d1 => (Sm.add (a := 321) (hx.mono (by decide)) ((sm64 (by omega) (by omega)).mono (by decide))).mono (by decide)
    have zs : Sm 102 z := (sm_mil (f := 5) z0 (Int.le_of_lt z1)).mono (by decide)
    refine k [1 + z, Lp b bs q, Lp b bs q + 1 + u, bs.sum, bs.sum + 1 + v] t4 rfl ?_ (pt4.mono (by omega))
    intro p hp
    simp only [List.mem_cons, List.not_mem_nil, or_false] at hp
    rcases hp with rfl | rfl | rfl | rfl | rfl
    · exact ⟨by omega, by rw [Int.add_comm]; exact big z (zs.mono (by decide)) z0 1 (by decide) (by decide)⟩
    · exact ⟨by omega, L0.mono (by decide)⟩
    · exact ⟨by omega, by rw [Int.add_assoc]; exact big _ (L0.mono (by decide)) (by omega) _ (by omega) (by omega)⟩
    · exact ⟨by omega, F0.mono (by decide)⟩
    · exact ⟨by omega, by rw [Int.add_assoc]; exact big _ (F0.mono (by decide)) (by omega) _ (by omega) (by omega)⟩
/-- draws of a row -/
def mF2 (one : List Int) : D → D
  | .tup [.int i, .int x] => .int (one.getD (i - 1).toNat 0 * x)
  | _ => .non
theorem mF2_map (one : List Int) : ∀ l : List (Int × Int), (l.map prD2).map (mF2 one) = (l.map fun z => one.getD (z.1 - 1).toNat 0 * z.2).map .int
  | [] => rfl
  | z :: l => by
    simp only [List.map_cons, mF2_map one l]
    rfl
theorem rp_int {x : Int} (h : Sm 1900 x) : RpOk (.int x) := ⟨rfl, by show 0 ≤ 60; decide, h, by show 1921 ≤ zLen; unfold zLen; decide⟩
theorem pick_P {l : List Int} {Pr : Int → Prop} {i : Nat} {d : D} (h : (l.map D.int)[i]? = some d) (hl : ∀ n ∈ l, Pr n) : ∃ f : Int, d = .int f ∧ Pr f := by
  obtain ⟨x, hx, rfl⟩ := map_get h
  exact ⟨x, rfl, hl x (List.mem_of_getElem? hx)⟩
/-- [_law_signed(tape, f) for _ in range(b - 1)] -/
theorem lc_signed {xs : List D} {env : En} {t : Ts} {n : Int} {c f v : Nat} {P : List D → Ts → Prop} (hv : v ≠ 1) (h1 : env[1]? = some (.val .pen)) (hx : xs.length = c) (hf : f ≤ 600) (hc : c ≤ 100) (pm : Pt n t) (hn : n < 1000000)
    (k : ∀ (fs : List Int) t', fs.length = c → HSm (20 * (f / 6 + 1) + 2) fs → Pt (n + c * (6 + f / 6)) t' → P (fs.map .int) t') :
    ∃ Inv : Nat → List D → Ts → Prop, Inv 0 [] t ∧ (∀ i x acc m, xs[i]? = some x → Inv i acc m → gName v x (wipeE env [v]) m fun e' m' => wipeE e' [v] = wipeE env [v] ∧ dYes e' m' fun k m1 => Br k (dCall sp__law_signed [] (dCons (dVar 1) (dCons (dC (.int f)) dNil)) e' m1 fun y m2 => acc.length < zLen ∧ Inv (i + 1) (acc ++ [y]) m2) (Inv (i + 1) acc m1)) ∧ ∀ acc m, Inv xs.length acc m → P acc m := by
  refine ⟨fun j acc m => ∃ fs : List Int, acc = fs.map .int ∧ fs.length = j ∧ HSm (20 * (f / 6 + 1) + 2) fs ∧ Pt (n + j * (6 + f / 6)) m, ⟨[], rfl, rfl, (fun x hx => by cases hx), by simpa using pm⟩, fun j x acc m hx' hI => ?_, fun acc m hI => ?_⟩
  · obtain ⟨fs, rfl, hl, hg, pm⟩ := hI
    have hj : j < c := by rw [← hx]; exact (List.getElem?_eq_some_iff.mp hx').1
    have hjf : ((j : Int)) * (6 + (f : Int) / 6) ≤ 100 * 106 := Int.mul_le_mul (by omega) (by omega) (by omega) (by decide)
    refine ⟨wipe1 env v _, ?_⟩
    have e1 : ((wipeE env [v]).set v (.val x))[1]? = some (.val .pen) := by
      simp only [wipeE]
      rw [List.getElem?_set_ne hv, List.getElem?_set_ne hv]
      exact h1
    show dVar 1 ((wipeE env [v]).set v (.val x)) m _
    unfold dVar
    rw [e1]
    refine ⟨_, f, rfl, by omega, pm, by omega, fun z t2 zs p2 => ?_⟩
    refine ⟨by rw [List.length_map]; unfold zLen; omega, fs ++ [z], by simp, by simp [hl], fun y hy => ?_, p2.mono ?_⟩
    · rcases List.mem_append.mp hy with h | h
      · exact hg y h
      · have : y = z := by simpa using h
        rw [this]; exact zs
    · rw [show ((j + 1 : Nat) : Int) = (j : Int) + 1 by omega, Int.add_mul]
      omega
  · obtain ⟨fs, rfl, hl, hg, pm⟩ := hI
    rw [hx] at hl pm
    exact k fs m hl hg pm
end Q

/-! MPart -/
namespace Q
open PySem
/-! ### where two houses part -/
/-- the least number that is said unlike often -/
structure Ap (b : Int) (bs : List Int) (c : Int) (cs : List Int) (n : Int) : Prop where
  n1 : 1 ≤ n
  ne : Ti b bs n ≠ Ti c cs n
  eq : ∀ m, 1 ≤ m → m < n → Ti b bs m = Ti c cs m
theorem Ap.symm {b c n : Int} {bs cs : List Int} (a : Ap b bs c cs n) : Ap c cs b bs n := ⟨a.n1, fun e => a.ne e.symm, fun m h1 h2 => (a.eq m h1 h2).symm⟩
theorem Ap.uniq {b c n m : Int} {bs cs : List Int} (x : Ap b bs c cs n) (y : Ap b bs c cs m) : n = m := by
  rcases Int.lt_trichotomy n m with h | h | h
  · exact absurd (y.eq n x.n1 h) x.ne
  · exact h
  · exact absurd (x.eq m y.n1 h) y.ne
section
variable {b c : Int} {bs cs : List Int}
theorem Lp_same (hb : Hou b bs) (hc : Hou c cs) : ∀ (k : Nat), (∀ m : Int, 1 ≤ m → m ≤ k → Ti b bs m = Ti c cs m) → Lp b bs k = Lp c cs k
  | 0, _ => by rw [Lp_le0 (by decide), Lp_le0 (by decide)]
  | k + 1, h => by
    have ih := Lp_same hb hc k fun m h1 h2 => h m h1 (by omega)
    have e := h (k + 1) (by omega) (by omega)
    unfold Ti at e
    rw [show (k : Int) + 1 - 1 = k by omega] at e
    rw [show ((k + 1 : Nat) : Int) = (k : Int) + 1 by omega]
    omega
theorem Ap.last (hb : Hou b bs) (hc : Hou c cs) {n : Int} (a : Ap b bs c cs n) {m : Int} (h0 : 0 ≤ m) (h1 : m < n) : Lp b bs m = Lp c cs m := by
  have := Lp_same hb hc m.toNat fun k h2 h3 => a.eq k h2 (by omega)
  rw [show ((m.toNat : Nat) : Int) = m by omega] at this
  exact this
theorem ti1 (h : Hou b bs) {n : Int} (h1 : 1 ≤ n) : 1 ≤ Ti b bs n := Ti_pos' h h1
theorem differ_lt (hb : Hou b bs) (hc : Hou c cs) (hlt : b < c) : ¬ ∀ m : Int, 1 ≤ m → m ≤ b + c → Ti b bs m = Ti c cs m := by
  intro h
  have h2 := hb.b2
  have c2 := hc.b2
  have ec : Ti c cs c = Ti c cs 1 + 1 := by
    have := Ti_mul hc (u := 1) (by decide)
    rw [Int.mul_one] at this
    exact this
  have t1 := ti1 hc (n := 1) (by decide)
  by_cases hd : c % b = 0
  · have hu : c = b * (c / b) := by have := Int.mul_ediv_add_emod c b; omega
    have hu1 : 1 ≤ c / b := by
      have := Int.ediv_le_ediv (show 0 < b by omega) (show b ≤ c by omega)
      rw [Int.ediv_self (by omega)] at this
      exact this
    have e1 : Ti b bs (c + b) = Ti b bs (c / b + 1) + 1 := by
      have := Ti_mul hb (u := c / b + 1) (by omega)
      rw [Int.mul_add, ← hu, Int.mul_one] at this
      exact this
    have e2 : Ti c cs (c + b) = 1 := Ti_one hc (by omega) (by
      rw [Int.add_comm, Int.add_emod_right, Int.emod_eq_of_lt (by omega) hlt]
      omega)
    have t2 := ti1 hb (n := c / b + 1) (by omega)
    have := h (c + b) (by omega) (by omega)
    omega
  · have e1 := Ti_one hb (n := c) (by omega) hd
    have := h c (by omega) (by omega)
    omega
theorem differ_eq (hb : Hou b bs) (hc : Hou b cs) (hne : bs ≠ cs) : ¬ ∀ m : Int, 1 ≤ m → m ≤ b + b → Ti b bs m = Ti b cs m := by
  intro h
  have l1 := hb.len
  have l2 := hc.len
  apply hne
  refine List.ext_getElem (by omega) fun i h1 h2 => ?_
  have e := h (i + 1) (by omega) (by omega)
  rw [Ti_lt hb (by omega) (by omega), Ti_lt hc (by omega) (by omega), show ((i : Int) + 1 - 1).toNat = i by omega] at e
  rw [List.getD_eq_getElem?_getD, List.getD_eq_getElem?_getD, List.getElem?_eq_getElem h1, List.getElem?_eq_getElem h2] at e
  exact e
theorem differ (hb : Hou b bs) (hc : Hou c cs) (hne : ¬ (b = c ∧ bs = cs)) : ¬ ∀ m : Int, 1 ≤ m → m ≤ b + c → Ti b bs m = Ti c cs m := by
  rcases Int.lt_trichotomy b c with h | h | h
  · exact differ_lt hb hc h
  · subst h
    exact differ_eq hb hc fun e => hne ⟨rfl, e⟩
  · intro z
    exact differ_lt hc hb h fun m h1 h2 => (z m h1 (by omega)).symm
theorem Ap.le (hb : Hou b bs) (hc : Hou c cs) (hne : ¬ (b = c ∧ bs = cs)) {n : Int} (a : Ap b bs c cs n) : n ≤ b + c := by
  rcases Int.lt_or_le (b + c) n with h | h
  · exact absurd (fun m h1 h2 => a.eq m h1 (by omega)) (differ hb hc hne)
  · exact h
theorem Ap.not (hb : Hou b bs) (hc : Hou c cs) {n : Int} (a : Ap b bs c cs n) : ¬ (b = c ∧ bs = cs) := fun ⟨e1, e2⟩ => by
  subst e1 e2
  exact a.ne rfl
end
def sp_House___eq__ (W : Cl) : PSp := fun ds t P => ∃ b bs c cs, ds = [hD W b bs, hD W c cs] ∧ P (.bl (decide (b = c ∧ bs = cs))) t
def sp_parts (W : Cl) : PSp := fun ds t P => ∃ b bs c cs, ds = [hD W b bs, hD W c cs] ∧ Hou b bs ∧ Hou c cs ∧ (b = c ∧ bs = cs → P .non t) ∧ (¬ (b = c ∧ bs = cs) → ∀ n, Ap b bs c cs n → P (.int ((if Lp c cs n < Lp b bs n then Lp c cs n else Lp b bs n) + 1)) t)
theorem len_House___eq__ (W : Cl) (as : List D) (t : Ts) (P : D → Ts → Prop) (h : sp_House___eq__ W as t P) : as.length = 2 := by first | (obtain ⟨_, rfl, _⟩ := h; rfl) | (obtain ⟨_, _, rfl, _⟩ := h; rfl) | (obtain ⟨_, _, _, rfl, _⟩ := h; rfl) | (obtain ⟨_, _, _, _, rfl, _⟩ := h; rfl) | (obtain ⟨_, _, _, _, _, rfl, _⟩ := h; rfl) | (obtain ⟨_, _, _, _, _, _, rfl, _⟩ := h; rfl) | (obtain ⟨_, _, _, _, _, _, _, rfl, _⟩ := h; rfl) | (obtain ⟨_, _, _, _, _, _, _, _, rfl, _⟩ := h; rfl) | (obtain ⟨_, rfl | rfl, _⟩ := h <;> rfl) | (obtain ⟨_, _, rfl | rfl, _⟩ := h <;> rfl) | (obtain ⟨_, _, _, rfl | rfl, _⟩ := h <;> rfl) | (obtain ⟨_, _, _, _, rfl | rfl, _⟩ := h <;> rfl) | (obtain ⟨_, _, _, _, _, rfl | rfl, _⟩ := h <;> rfl) | (obtain ⟨_, _, _, _, _, _, rfl | rfl, _⟩ := h <;> rfl) | (obtain ⟨_, _, _, _, _, _, _, rfl | rfl, _⟩ := h <;> rfl) | (obtain ⟨_, _, _, _, _, _, _, _, rfl | rfl, _⟩ := h <;> rfl)
theorem len_parts (W : Cl) (as : List D) (t : Ts) (P : D → Ts → Prop) (h : sp_parts W as t P) : as.length = 2 := by first | (obtain ⟨_, rfl, _⟩ := h; rfl) | (obtain ⟨_, _, rfl, _⟩ := h; rfl) | (obtain ⟨_, _, _, rfl, _⟩ := h; rfl) | (obtain ⟨_, _, _, _, rfl, _⟩ := h; rfl) | (obtain ⟨_, _, _, _, _, rfl, _⟩ := h; rfl) | (obtain ⟨_, _, _, _, _, _, rfl, _⟩ := h; rfl) | (obtain ⟨_, _, _, _, _, _, _, rfl, _⟩ := h; rfl) | (obtain ⟨_, _, _, _, _, _, _, _, rfl, _⟩ := h; rfl) | (obtain ⟨_, rfl | rfl, _⟩ := h <;> rfl) | (obtain ⟨_, _, rfl | rfl, _⟩ := h <;> rfl) | (obtain ⟨_, _, _, rfl | rfl, _⟩ := h <;> rfl) | (obtain ⟨_, _, _, _, rfl | rfl, _⟩ := h <;> rfl) | (obtain ⟨_, _, _, _, _, rfl | rfl, _⟩ := h <;> rfl) | (obtain ⟨_, _, _, _, _, _, rfl | rfl, _⟩ := h <;> rfl) | (obtain ⟨_, _, _, _, _, _, _, rfl | rfl, _⟩ := h <;> rfl) | (obtain ⟨_, _, _, _, _, _, _, _, rfl | rfl, _⟩ := h <;> rfl)
def d_House___eq__ (W : Cl) : DS := (dSeq (dRet (dAndV (dCB (bIsC W.House) (dCons (dVar 1) (dCons (dC (.adr W.House)) dNil))) (dAndV (dOp oEq (dMeth W.House "base" (sp_House_base W) [] (dVar 0) dNil) (dMeth W.House "base" (sp_House_base W) [] (dVar 1) dNil)) (dOp oEq (dMeth W.House "beginning" (sp_House_beginning W) [] (dVar 0) dNil) (dMeth W.House "beginning" (sp_House_beginning W) [] (dVar 1) dNil))))) dNext)
def d_parts (W : Cl) : DS := (dSeq (dIf (dB (dEqH W.House (sp_House___eq__ W) (dVar 0) (dVar 1))) (dSeq (dRet (dC .non)) dNext) dNext) (dSeq (dAsg (dC (.int 1)) (gName 2)) (dSeq (dWhile (dB (dOp oEq (dMeth W.House "times" (sp_House_times W) [] (dVar 0) (dCons (dVar 2) dNil)) (dMeth W.House "times" (sp_House_times W) [] (dVar 1) (dCons (dVar 2) dNil)))) (dSeq (dAug 2 oAddI (dC (.int 1))) dNext)) (dSeq (dRet (dOp oAdd (dCB bMin (dCons (dMeth W.House "last_place" (sp_House_last_place W) [] (dVar 0) (dCons (dVar 2) dNil)) (dCons (dMeth W.House "last_place" (sp_House_last_place W) [] (dVar 1) (dCons (dVar 2) dNil)) dNil))) (dC (.int 1)))) dNext))))
theorem d_House___eq___ok (W : Cl) (as : List D) (t : Ts) (P : D → Ts → Prop) (h : sp_House___eq__ W as t P) : d_House___eq__ W (endsOf P) (start0 ["self", "other"] as) t := by
  obtain ⟨b, bs, c, cs, rfl, k⟩ := h
  conv => whnf
  refine ⟨rfl, ?_⟩
  conv => whnf
  refine ⟨rfl, ?_⟩
  conv => whnf
  conv => whnf
  refine ⟨rfl, ?_⟩
  conv => whnf
  refine ⟨rfl, ?_⟩
  conv => whnf
  refine ⟨b, bs, rfl, ?_⟩
  conv => whnf
  refine ⟨rfl, ?_⟩
  conv => whnf
  refine ⟨rfl, ?_⟩
  conv => whnf
  refine ⟨c, cs, rfl, ?_⟩
  conv => whnf
  refine Br.mk (fun hbc => ?_) (fun hbc => ?_)
  · have hbc := of_decide_eq_true hbc
    conv => whnf
    refine ⟨rfl, ?_⟩
    conv => whnf
    refine ⟨rfl, ?_⟩
    conv => whnf
    refine ⟨b, bs, rfl, ?_⟩
    conv => whnf
    refine ⟨rfl, ?_⟩
    conv => whnf
    refine ⟨rfl, ?_⟩
    conv => whnf
    refine ⟨c, cs, rfl, ?_⟩
    refine ⟨eqok_ints bs cs, ?_⟩
    rw [deq_ints]
    have e : decide (b = c ∧ bs = cs) = decide (bs = cs) := by simp [hbc]
    rw [e] at k
    exact k
  · have hbc := of_decide_eq_false hbc
    have e : decide (b = c ∧ bs = cs) = false := by simp [hbc]
    rw [e] at k
    exact k
theorem d_parts_ok (W : Cl) (as : List D) (t : Ts) (P : D → Ts → Prop) (h : sp_parts W as t P) : d_parts W (endsOf P) (start0 ["one", "other", "number"] as) t := by
  obtain ⟨b, bs, c, cs, rfl, hb, hc, k1, k2⟩ := h
  have h2 := hb.b2
  have h30 := hb.b30
  have c2 := hc.b2
  have c30 := hc.b30
  conv => whnf
  refine ⟨rfl, ?_⟩
  conv => whnf
  refine ⟨rfl, ?_⟩
  conv => whnf
  refine ⟨b, bs, c, cs, rfl, ?_⟩
  conv => whnf
  refine Br.mk (fun he => ?_) (fun he => ?_)
  · exact k1 (of_decide_eq_true he)
  · have he := of_decide_eq_false he
    have hd := differ hb hc he
    conv => whnf
    refine ⟨fun e m => t = m ∧ ∃ n : Int, 1 ≤ n ∧ n ≤ b + c + 1 ∧ (∀ m, 1 ≤ m → m < n → Ti b bs m = Ti c cs m) ∧ e = [.val (hD W b bs), .val (hD W c cs), .val (.int n)], fun e _ => match e with | [_, _, .val (.int n)] => (b + c + 5 - n).toNat | _ => 0, ⟨rfl, 1, by decide, by omega, fun m h1 h2 => by omega, rfl⟩, fun e m hI => ?_⟩
    obtain ⟨rfl, n, n1, n2, hn, rfl⟩ := hI
    conv => whnf
    refine ⟨rfl, ?_⟩
    conv => whnf
    refine ⟨rfl, ?_⟩
    conv => whnf
    refine ⟨b, bs, n, rfl, hb, n1, (sm64 (by omega) (by omega)).mono (by decide), ?_⟩
    conv => whnf
    refine ⟨rfl, ?_⟩
    conv => whnf
    refine ⟨rfl, ?_⟩
    conv => whnf
    refine ⟨c, cs, n, rfl, hc, n1, (sm64 (by omega) (by omega)).mono (by decide), ?_⟩
    conv => whnf
    refine Br.mk (fun hx => ?_) (fun hx => ?_)
    · have hx := of_decide_eq_true hx
      have hle : n ≤ b + c := by
        rcases Int.lt_or_le (b + c) n with z | z
        · exact absurd (fun m h1 h2 => hn m h1 (by omega)) hd
        · exact z
      conv => whnf
      refine ⟨⟨rfl, n + 1, by omega, by omega, fun m h1 h2 => ?_, rfl⟩, ?_⟩
      · by_cases e : m = n
        · subst e; exact hx
        · exact hn m h1 (by omega)
      · show (b + c + 5 - (n + 1)).toNat < (b + c + 5 - n).toNat
        omega
    · have hx := of_decide_eq_false hx
      conv => whnf
      refine ⟨rfl, ?_⟩
      conv => whnf
      refine ⟨rfl, ?_⟩
      conv => whnf
      refine ⟨b, bs, n, rfl, hb, by omega, (sm64 (by omega) (by omega)).mono (by decide), ?_⟩
      conv => whnf
      refine ⟨rfl, ?_⟩
      conv => whnf
      refine ⟨rfl, ?_⟩
      conv => whnf
      refine ⟨c, cs, n, rfl, hc, by omega, (sm64 (by omega) (by omega)).mono (by decide), ?_⟩
      exact k2 he n ⟨n1, hx, hn⟩
end Q

/-! MRow -/
namespace Q
open PySem
/-! ### a row gone one by one -/
def sp__law_row_2 : PSp := fun ds t P => ∃ b bs, ∃ many : Nat, ds = [.int b, .lst (bs.map .int), .int many] ∧ Hou b bs ∧ (∀ x ∈ bs, x ≤ 1000) ∧ many ≤ 200000 ∧ P (.lst ((gl b bs many).map .int)) t
theorem len__law_row_2 (as : List D) (t : Ts) (P : D → Ts → Prop) (h : sp__law_row_2 as t P) : as.length = 3 := by first | (obtain ⟨_, rfl, _⟩ := h; rfl) | (obtain ⟨_, _, rfl, _⟩ := h; rfl) | (obtain ⟨_, _, _, rfl, _⟩ := h; rfl) | (obtain ⟨_, _, _, _, rfl, _⟩ := h; rfl) | (obtain ⟨_, _, _, _, _, rfl, _⟩ := h; rfl) | (obtain ⟨_, _, _, _, _, _, rfl, _⟩ := h; rfl) | (obtain ⟨_, _, _, _, _, _, _, rfl, _⟩ := h; rfl) | (obtain ⟨_, _, _, _, _, _, _, _, rfl, _⟩ := h; rfl) | (obtain ⟨_, rfl | rfl, _⟩ := h <;> rfl) | (obtain ⟨_, _, rfl | rfl, _⟩ := h <;> rfl) | (obtain ⟨_, _, _, rfl | rfl, _⟩ := h <;> rfl) | (obtain ⟨_, _, _, _, rfl | rfl, _⟩ := h <;> rfl) | (obtain ⟨_, _, _, _, _, rfl | rfl, _⟩ := h <;> rfl) | (obtain ⟨_, _, _, _, _, _, rfl | rfl, _⟩ := h <;> rfl) | (obtain ⟨_, _, _, _, _, _, _, rfl | rfl, _⟩ := h <;> rfl) | (obtain ⟨_, _, _, _, _, _, _, _, rfl | rfl, _⟩ := h <;> rfl)
def d__law_row_2 : DS := (dSeq (dParM [(4, true), (5, false)] (dCons (dLst dNil) (dCons (dOp oAdd (dOp oSub (dCB bSum (dCons (dVar 1) dNil)) (dVar 0)) (dC (.int 1))) dNil))) (dSeq (dFor (iRng1 (dOp oSub (dVar 0) (dC (.int 1)))) (gName 3) (dSeq (dAsgN 4 (dOp oCat (dView 4) (dOp oMul (dLst (dCons (dOp oAdd (dVar 3) (dC (.int 1))) dNil)) (dOp oIx (dVar 1) (dVar 3))))) dNext)) (dSeq (dAsgN 4 (dSliceN (dView 4) dNoPart (dPart (dVar 2)))) (dSeq (dWhile (dB (dOp oLt (dCB bLen (dCons (dView 4) dNil)) (dVar 2))) (dSeq (dPar 7 8 (dCons (dOp oAdd (dCB bLen (dCons (dView 4) dNil)) (dC (.int 1))) (dCons (dC (.int 0)) dNil))) (dSeq (dFor (iRng1 (dVar 0)) (gName 6) (dSeq (dAsg (dOp oSub (dOp oSub (dOp oSub (dVar 7) (dVar 6)) (dVar 5)) (dIfE (dB (dOp oGt (dOp oSub (dVar 7) (dVar 6)) (dC (.int 1)))) (dOp oIx (dView 4) (dOp oSub (dOp oSub (dVar 7) (dVar 6)) (dC (.int 2)))) (dC (.int 1)))) (gName 9)) (dSeq (dAsg (dOp oAdd (dVar 8) (dIfE (dB (dOp oGt (dVar 9) (dC (.int 0)))) (dOp oIx (dView 4) (dOp oSub (dVar 9) (dC (.int 1)))) (dC (.int 1)))) (gName 8)) dNext))) (dSeq (dApp 4 (dVar 8)) dNext)))) (dSeq (dFrz 4) (dSeq (dRet (dVar 4)) dNext))))))
theorem cut_own {l : List Int} {a : Nat} : cutD (l.map D.int) none (some (a : Int)) = (l.take a).map D.int := by
  unfold cutD
  have e1 : sIx (l.map D.int).length (l.map D.int).length (some (a : Int)) = min a l.length := by
    unfold sIx
    simp
    omega
  rw [e1]
  simp only [sIx, List.drop_zero, Nat.sub_zero, ← List.map_take]
  congr 1
  rw [List.take_eq_take_iff]
  omega
theorem d__law_row_2_ok (as : List D) (t : Ts) (P : D → Ts → Prop) (h : sp__law_row_2 as t P) : d__law_row_2 (endsOf P) (start0 ["_law_base", "_law_begun_here", "_law_many_here", "_law_at", "_law_row_here", "_law_back", "_law_k", "_law_spot", "_law_total", "_law_far"] as) t := by
  obtain ⟨b, bs, many, rfl, hh, hx9, hm, k⟩ := h
  have h2 := hh.b2
  have h30 := hh.b30
  have hl := hh.len
  have hfk := folk_is hh
  have hat : ∀ i : Nat, i < bs.length → 1 ≤ bs.getD i 0 ∧ bs.getD i 0 ≤ 1000 := fun i hi => by
    rw [List.getD_eq_getElem?_getD, List.getElem?_eq_getElem hi]
    exact ⟨hh.pos _ (List.getElem_mem hi), hx9 _ (List.getElem_mem hi)⟩
  have hup : ∀ i : Nat, i ≤ bs.length → Lp b bs i ≤ 1000 * i := by
    intro i
    induction i with
    | zero => intro _; rw [show ((0 : Nat) : Int) = 0 from rfl, Lp_le0 (by decide)]; decide
    | succ i ih =>
      intro hi
      have e := Ti_lt hh (n := (i : Int) + 1) (by omega) (by omega)
      rw [show ((i : Int) + 1 - 1).toNat = i by omega] at e
      unfold Ti at e
      rw [show (i : Int) + 1 - 1 = i by omega] at e
      have := ih (by omega)
      have := (hat i (by omega)).2
      rw [show ((i + 1 : Nat) : Int) = (i : Int) + 1 by omega]
      omega
  conv => whnf
  refine ⟨bs, ints_map bs, ?_⟩
  have hre : bs.sum - b + 1 = Re bs := by have := Re_sum bs; omega
  conv => whnf
  rw [hre]
  refine ⟨by omega, ?_⟩
  conv => whnf
  refine ⟨fun i e m => t = m ∧ ∃ s3, e = [.val (.int b), .val (.lst (bs.map .int)), .val (.int many), s3, .own (.lst ((gl b bs (Lp b bs i).toNat).map .int)), .val (.int (Re bs)), .no, .no, .no, .no], ⟨rfl, .no, ?_⟩, fun i x e m hx hI => ?_, fun e m hI => ?_⟩
  · rw [show ((0 : Nat) : Int) = 0 from rfl, Lp_le0 (by decide)]
    rfl
  · obtain ⟨rfl, s3, rfl⟩ := hI
    obtain ⟨hi, rfl⟩ := rng_get hx
    have hi : i < bs.length := by omega
    obtain ⟨g1, g2⟩ := hat i hi
    have hu := hup i (by omega)
    rw [Int.zero_add]
    conv => whnf
    refine ⟨_, atI_ints (by omega) (by omega), ?_⟩
    rw [show ((i : Int)).toNat = i by omega]
    conv => whnf
    refine ⟨⟨by omega, by omega, by simp only [List.length_cons, List.length_nil]; unfold zLen; omega⟩, ?_⟩
    conv => whnf
    refine ⟨(by rw [rep_one]; simp only [List.length_map, gl_len, List.length_replicate]; unfold zLen; omega), ?_⟩
    conv => whnf
    refine ⟨rfl, .val (.int i), ?_⟩
    rw [rep_one, show ((i + 1 : Nat) : Int) = (i : Int) + 1 by omega, gl_row hh hi]
    simp
  · obtain ⟨rfl, s3, rfl⟩ := hI
    rw [rng_len, show (((b - 1).toNat : Nat) : Int) = b - 1 by omega]
    have hf0 := Lp_ge_self hh (n := b - 1) (by omega)
    have hf9 := hup bs.length (Nat.le_refl _)
    rw [hl] at hf9
    conv => whnf
    have e : ∀ n0 : Nat, cutD ((gl b bs n0).map D.int) none (some (many : Int)) = (gl b bs (min n0 many)).map D.int := by
      intro n0
      rw [cut_own]
      by_cases h : many ≤ n0
      · rw [gl_take h, Nat.min_eq_right h]
      · rw [List.take_of_length_le (by rw [gl_len]; omega), Nat.min_eq_left (by omega)]
    rw [e]
    refine ⟨fun e m => t = m ∧ ∃ n : Nat, ∃ s3 s6 s7 s8 s9, (Lp b bs (b - 1) ≤ n ∨ n = many) ∧ n ≤ many ∧ e = [.val (.int b), .val (.lst (bs.map .int)), .val (.int many), s3, .own (.lst ((gl b bs n).map .int)), .val (.int (Re bs)), s6, s7, s8, s9], fun e m => match e with | [_, _, _, _, .own (.lst l), _, _, _, _, _] => many - l.length | _ => 0, ⟨rfl, min (Lp b bs (b - 1)).toNat many, _, _, _, _, _, by omega, by omega, rfl⟩, fun e m hI => ?_⟩
    obtain ⟨rfl, n, s3, s6, s7, s8, s9, hn, hn9, rfl⟩ := hI
    conv => whnf
    refine Br.mk (fun hc => ?_) (fun hc => ?_)
    · have hc : (((gl b bs n).map D.int).length : Int) < many := of_decide_eq_true hc
      rw [List.length_map, gl_len] at hc
      conv => whnf
      rw [List.length_map, gl_len]
      refine ⟨by omega, ?_⟩
      conv => whnf
      refine ⟨fun j e m => t = m ∧ ∃ s6 s9, e = [.val (.int b), .val (.lst (bs.map .int)), .val (.int many), s3, .own (.lst ((gl b bs n).map .int)), .val (.int (Re bs)), s6, .val (.int (n + 1)), .val (.int (sumN (fun j => sd b bs ((n : Int) + 1 - j - Re bs - sd b bs ((n : Int) + 1 - j - 1))) j)), s9], ⟨rfl, _, _, rfl⟩, fun j x e m hx hI => ?_, fun e m hI => ?_⟩
      · obtain ⟨rfl, s6, s9, rfl⟩ := hI
        obtain ⟨hj, rfl⟩ := rng_get hx
        have hj : (j : Int) < b := by omega
        rw [Int.zero_add]
        have hone : ∀ Q : D → Ts → Prop, Q (.int (sd b bs ((n : Int) + 1 - j - 1))) t → (dIfE (dB (dOp oGt (dOp oSub (dVar 7) (dVar 6)) (dC (.int 1)))) (dOp oIx (dView 4) (dOp oSub (dOp oSub (dVar 7) (dVar 6)) (dC (.int 2)))) (dC (.int 1))) [.val (.int b), .val (.lst (bs.map .int)), .val (.int many), s3, .own (.lst ((gl b bs n).map .int)), .val (.int (Re bs)), .val (.int j), .val (.int (n + 1)), .val (.int (sumN (fun j => sd b bs ((n : Int) + 1 - j - Re bs - sd b bs ((n : Int) + 1 - j - 1))) j)), s9] t Q := by
          intro Q q
          conv => whnf
          refine Br.mk (fun hp => ?_) (fun hp => ?_)
          · have hp : 1 < (n : Int) + 1 - j := of_decide_eq_true hp
            conv => whnf
            refine ⟨_, atI_ints (by omega) (by rw [gl_len]; omega), ?_⟩
            rw [gl_at (by omega), show ((((n : Int) + 1 - j - 2).toNat : Nat) : Int) + 1 = (n : Int) + 1 - j - 1 by omega]
            exact q
          · have hp : ¬ 1 < (n : Int) + 1 - j := of_decide_eq_false hp
            conv => whnf
            rw [sd_le0 (by omega)] at q
            exact q
        refine hone _ ?_
        have o1 := sd_pos hh ((n : Int) + 1 - j - 1)
        generalize hO : sd b bs ((n : Int) + 1 - j - 1) = one at *
        have hR := Re_nn hh
        conv => whnf
        refine Br.mk (fun hp => ?_) (fun hp => ?_)
        · have hp : 0 < (n : Int) + 1 - j - Re bs - one := of_decide_eq_true hp
          conv => whnf
          refine ⟨_, atI_ints (by omega) (by rw [gl_len]; omega), ?_⟩
          rw [gl_at (by omega), show ((((n : Int) + 1 - j - Re bs - one - 1).toNat : Nat) : Int) + 1 = (n : Int) + 1 - j - Re bs - one by omega]
          refine ⟨rfl, .val (.int j), .val (.int ((n : Int) + 1 - j - Re bs - one)), ?_⟩
          rw [← hO]
          rfl
        · have hp : ¬ 0 < (n : Int) + 1 - j - Re bs - one := of_decide_eq_false hp
          conv => whnf
          refine ⟨rfl, .val (.int j), .val (.int ((n : Int) + 1 - j - Re bs - one)), ?_⟩
          have e9 : sd b bs ((n : Int) + 1 - j - Re bs - sd b bs ((n : Int) + 1 - j - 1)) = 1 := sd_le0 (by rw [hO]; omega)
          show _ = [_, _, _, _, _, _, _, _, Sl.val (.int (sumN _ j + sd b bs ((n : Int) + 1 - j - Re bs - sd b bs ((n : Int) + 1 - j - 1)))), _]
          rw [e9]
          rfl
      · obtain ⟨rfl, s6, s9, rfl⟩ := hI
        rw [rng_len, rule_is hh (p := (n : Int) + 1) (by omega)]
        conv => whnf
        refine ⟨(by rw [List.length_map, gl_len]; unfold zLen; omega), ?_⟩
        conv => whnf
        have e1 : (gl b bs n).map D.int ++ [D.int (sd b bs ((n : Int) + 1))] = (gl b bs (n + 1)).map D.int := by
          rw [gl_succ, List.map_append]
          rfl
        rw [e1]
        refine ⟨⟨rfl, n + 1, _, _, _, _, _, .inl (by omega), by omega, rfl⟩, ?_⟩
        show many - ((gl b bs (n + 1)).map D.int).length < many - ((gl b bs n).map D.int).length
        rw [List.length_map, List.length_map, gl_len, gl_len]
        omega
    · have hc : ¬ (((gl b bs n).map D.int).length : Int) < many := of_decide_eq_false hc
      rw [List.length_map, gl_len] at hc
      obtain rfl : n = many := by omega
      conv => whnf
      exact k
end Q

/-! MLast3 -/
namespace Q
open PySem
def sp__law_last_3 : PSp := fun ds t P => ∃ b bs m, ds = [.int b, .lst (bs.map .int), .int m] ∧ Hou b bs ∧ 0 ≤ m ∧ Sm 8000 m ∧ P (.int (Lp b bs m)) t
theorem len__law_last_3 (as : List D) (t : Ts) (P : D → Ts → Prop) (h : sp__law_last_3 as t P) : as.length = 3 := by first | (obtain ⟨_, rfl, _⟩ := h; rfl) | (obtain ⟨_, _, rfl, _⟩ := h; rfl) | (obtain ⟨_, _, _, rfl, _⟩ := h; rfl) | (obtain ⟨_, _, _, _, rfl, _⟩ := h; rfl) | (obtain ⟨_, _, _, _, _, rfl, _⟩ := h; rfl) | (obtain ⟨_, _, _, _, _, _, rfl, _⟩ := h; rfl) | (obtain ⟨_, _, _, _, _, _, _, rfl, _⟩ := h; rfl) | (obtain ⟨_, _, _, _, _, _, _, _, rfl, _⟩ := h; rfl) | (obtain ⟨_, rfl | rfl, _⟩ := h <;> rfl) | (obtain ⟨_, _, rfl | rfl, _⟩ := h <;> rfl) | (obtain ⟨_, _, _, rfl | rfl, _⟩ := h <;> rfl) | (obtain ⟨_, _, _, _, rfl | rfl, _⟩ := h <;> rfl) | (obtain ⟨_, _, _, _, _, rfl | rfl, _⟩ := h <;> rfl) | (obtain ⟨_, _, _, _, _, _, rfl | rfl, _⟩ := h <;> rfl) | (obtain ⟨_, _, _, _, _, _, _, rfl | rfl, _⟩ := h <;> rfl) | (obtain ⟨_, _, _, _, _, _, _, _, rfl | rfl, _⟩ := h <;> rfl)
def d__law_last_3 : DS := (dSeq (dPar3 3 4 5 (dCons (dVar 2) (dCons (dVar 0) (dCons (dC (.int 0)) dNil)))) (dSeq (dWhile (dB (dOp oLe (dVar 4) (dVar 2))) (dSeq (dAsg (dOp oAdd (dVar 3) (dOp oDiv (dVar 2) (dVar 4))) (gName 3)) (dSeq (dPar 4 5 (dCons (dOp oMul (dVar 4) (dVar 0)) (dCons (dOp oAdd (dVar 5) (dC (.int 1))) dNil))) dNext))) (dSeq (dPar 6 7 (dCons (dOp oDiv (dOp oMul (dVar 2) (dVar 0)) (dVar 4)) (dCons (dOp oAdd (dOp oSub (dCB bSum (dCons (dVar 1) dNil)) (dVar 0)) (dC (.int 1))) dNil))) (dSeq (dRet (dOp oSub (dOp oAdd (dOp oAdd (dVar 3) (dOp oMul (dVar 5) (dVar 7))) (dCB bSum (dCons (dSlice (dVar 1) dNoPart (dPart (dVar 6))) dNil))) (dVar 6))) dNext))))
theorem heap_small {b x : Int} (h2 : 2 ≤ b) (h0 : 0 ≤ x) (h : x < b) : heap b x = 0 := by
  by_cases hx : 0 < x
  · rw [heap_pos hx h2, Int.ediv_eq_zero_of_lt h0 h, heap_zero (by decide)]
    rfl
  · exact heap_zero hx
theorem d__law_last_3_ok (as : List D) (t : Ts) (P : D → Ts → Prop) (h : sp__law_last_3 as t P) : d__law_last_3 (endsOf P) (start0 ["_law_base", "_law_begun_here", "_law_number", "_law_found", "_law_power", "_law_exponent", "_law_sign", "_law_back"] as) t := by
  obtain ⟨b, bs, n, rfl, hh, n0, hs, k⟩ := h
  have h2 := hh.b2
  have h30 := hh.b30
  have hl := hh.len
  conv => whnf
  refine ⟨fun e m => t = m ∧ ∃ (i : Nat) (f q : Int), q = b ^ (i + 1) ∧ f + heap b (n / b ^ i) = n + heap b n ∧ (1 ≤ n → b ^ i ≤ n) ∧ (n = 0 → i = 0) ∧ e = [.val (.int b), .val (.lst (bs.map .int)), .val (.int n), .val (.int f), .val (.int q), .val (.int i), .no, .no], fun e _ => match e with | [_, _, _, _, .val (.int q), _, _, _] => (n + 1 - q).toNat | _ => 0, ⟨rfl, 0, n, b, by rw [Int.pow_succ, Int.pow_zero, Int.one_mul], by simp, fun h => by simpa using h, fun _ => rfl, rfl⟩, fun e m hI => ?_⟩
  obtain ⟨rfl, i, f, q, hq, hf, hb, hz, rfl⟩ := hI
  have hpi := pow_pos' (b := b) h2 i
  have hpq := pow_pos' (b := b) h2 (i + 1)
  have hstep : (b : Int) ^ (i + 1) = b ^ i * b := Int.pow_succ ..
  conv => whnf
  refine Br.mk (fun hx => ?_) (fun hx => ?_)
  · have hx := of_decide_eq_true hx
    have hqs : Sm 8000 q := Sm.of (by omega) hx hs
    have e1 : n / b ^ (i + 1) = n / b ^ i / b := by rw [hstep, Int.ediv_ediv_of_nonneg (by omega)]
    have hnb : b ≤ n / b ^ i := (Int.le_ediv_iff_mul_le hpi).mpr (by rw [Int.mul_comm, ← hstep]; omega)
    conv => whnf
    refine ⟨.w (by omega) hqs (by decide), ?_⟩
    conv => whnf
    refine ⟨.r (by omega) (by omega), ?_⟩
    conv => whnf
    refine ⟨⟨rfl, i + 1, f + n / q, q * b, by rw [hq, ← Int.pow_succ], ?_, fun _ => by omega, fun h => by omega, rfl⟩, ?_⟩
    · rw [hq, e1, ← hf, heap_pos (by omega : 0 < n / b ^ i) h2]
      omega
    · show (n + 1 - q * b).toNat < (n + 1 - q).toNat
      have := Int.mul_le_mul_of_nonneg_left h2 (show 0 ≤ q by omega)
      omega
  · have hx := of_decide_eq_false hx
    have hc : n / b ^ i < b := Int.ediv_lt_of_lt_mul hpi (by rw [Int.mul_comm, ← hstep]; omega)
    have hc0 : 0 ≤ n / b ^ i := Int.ediv_nonneg n0 (by omega)
    have hh0 : heap b (n / b ^ i) = 0 := heap_small h2 hc0 hc
    rw [hh0] at hf
    have hsg : n * b / q = n / b ^ i := by
      rw [hq, hstep, Int.mul_ediv_mul_of_pos_left _ _ (by omega)]
    have hqs : Sm 8010 q := by
      by_cases hn : n = 0
      · rw [hq, hz hn]
        show Sm 8010 (b ^ 1)
        rw [Int.pow_succ, Int.pow_zero, Int.one_mul]
        exact (show Sm 5 b by unfold Sm; omega).mono (by decide)
      · rw [hq, hstep]
        exact (Sm.mul (Sm.of (by omega) (hb (by omega)) hs) (show Sm 5 b by unfold Sm; omega)).mono (by decide)
    have hsum := Su_sum (bs := bs) (j := (n / b ^ i).toNat) (by omega)
    conv => whnf
    refine ⟨.r (by omega) (by omega), ?_⟩
    conv => whnf
    refine ⟨.w (by omega) hqs (by decide), ?_⟩
    conv => whnf
    refine ⟨bs, ints_map bs, ?_⟩
    conv => whnf
    have hi8 : i < 8000 := by
      by_cases hn : n = 0
      · rw [hz hn]; decide
      · have a1 := two_pow_le h2 i
        have a2 := hb (by omega)
        have a3 : n < ((2 ^ 8000 : Nat) : Int) := by
          unfold Sm at hs
          omega
        rcases Nat.lt_or_ge i 8000 with z | z
        · exact z
        · exfalso
          have a4 : (2 : Nat) ^ 8000 ≤ 2 ^ i := Nat.pow_le_pow_right (by decide) z
          have a5 : ((2 ^ i : Nat) : Int) = (2 : Int) ^ i := by simp
          omega
    refine ⟨.l (by omega) (by omega), ?_⟩
    conv => whnf
    rw [hsg]
    have hcut : cutD (bs.map D.int) none (some (n / b ^ i)) = (bs.take (n / b ^ i).toNat).map .int := by
      have := cut_own (l := bs) (a := (n / b ^ i).toNat)
      rw [show (((n / b ^ i).toNat : Nat) : Int) = n / b ^ i by omega] at this
      exact this
    rw [hcut]
    refine ⟨_, ints_map _, ?_⟩
    conv => whnf
    have hfin : f + i * (bs.sum - b + 1) + (bs.take (n / b ^ i).toNat).sum - n / b ^ i = Lp b bs n := by
      have hre : bs.sum - b + 1 = Re bs := by have := Re_sum bs; omega
      rw [hre, hsum, show (((n / b ^ i).toNat : Nat) : Int) = n / b ^ i by omega]
      by_cases hn : n = 0
      · have e := hz hn
        subst e
        rw [hn, Int.zero_ediv, Lp_le0 (by decide), Su_zero]
        have : heap b 0 = 0 := heap_zero (by decide)
        rw [hn, this] at hf
        omega
      · have c1 : 1 ≤ n / b ^ i := by
          have := Int.ediv_le_ediv hpi (hb (by omega))
          rw [Int.ediv_self (by omega)] at this
          exact this
        have e1 := Int.mul_ediv_add_emod n (b ^ i)
        have r1 := Int.emod_nonneg n (show b ^ i ≠ 0 by omega)
        have r2 := Int.emod_lt_of_pos n hpi
        rw [Lp_in hh c1 hc i n (by rw [Int.mul_comm]; omega) (by rw [Int.add_mul, Int.one_mul, Int.mul_comm]; omega)]
        omega
    rw [hfin]
    exact k
end Q

/-! MSay -/
namespace Q
open PySem
/-! ### sayings -/
def sAm : Str := "at most"
def sAl : Str := "at least"
structure Sy where
  w : Bool
  p : Int
  n : Int
def syD : Sy → D
  | ⟨true, p, n⟩ => .tup [.str "at most", .int p, .int n]
  | ⟨false, p, n⟩ => .tup [.str "at least", .int p, .int n]
structure Sy.Ok (s : Sy) : Prop where
  p1 : 1 ≤ s.p
  n1 : 1 ≤ s.n
/-- whether a house keeps it -/
def keepB (b : Int) (bs : List Int) (s : Sy) : Bool := if s.w then decide (s.p ≤ Lp b bs s.n) else decide (Lp b bs (s.n - 1) < s.p)
theorem keep_am {b : Int} {bs : List Int} (h : Hou b bs) {p n : Int} (p1 : 1 ≤ p) (n1 : 1 ≤ n) : keepB b bs ⟨true, p, n⟩ = decide (sd b bs p ≤ n) := by
  show (if true = true then decide (p ≤ Lp b bs n) else decide (Lp b bs (n - 1) < p)) = _
  rw [if_pos rfl]
  have s := sd_sa h p1
  rw [decide_eq_decide]
  constructor
  · intro z
    rcases Int.lt_or_le n (sd b bs p) with y | y
    · have := Lp_le_of h (m := n) (n := sd b bs p - 1) (by omega) (by omega)
      have := s.lo
      omega
    · exact y
  · intro z
    have := Lp_le_of h (m := sd b bs p) (n := n) (by have := s.m1; omega) z
    have := s.hi
    omega
theorem keep_al {b : Int} {bs : List Int} (h : Hou b bs) {p n : Int} (p1 : 1 ≤ p) (n1 : 1 ≤ n) : keepB b bs ⟨false, p, n⟩ = decide (n ≤ sd b bs p) := by
  show (if false = true then decide (p ≤ Lp b bs n) else decide (Lp b bs (n - 1) < p)) = _
  rw [if_neg Bool.false_ne_true]
  have s := sd_sa h p1
  rw [decide_eq_decide]
  constructor
  · intro z
    rcases Int.lt_or_le (sd b bs p) n with y | y
    · have := Lp_le_of h (m := sd b bs p) (n := n - 1) (by have := s.m1; omega) (by omega)
      have := s.hi
      omega
    · exact y
  · intro z
    have := Lp_le_of h (m := n - 1) (n := sd b bs p - 1) (by omega) (by omega)
    have := s.lo
    omega
def SyS (s : Sy) : Prop := s.Ok ∧ Sm 8000 s.p ∧ Sm 8000 s.n
def sp_kept_by (W : Cl) : PSp := fun ds t P => ∃ b bs s, ds = [hD W b bs, syD s] ∧ Hou b bs ∧ SyS s ∧ P (.bl (keepB b bs s)) t
def sp_is_saying : PSp := fun ds t P => ∃ s, ds = [syD s] ∧ s.Ok ∧ P (.bl true) t
def Lis (d : D) (l : List D) : Prop := d = .lst l ∨ d = .tup l
def sp_need_sayings : PSp := fun ds t P => ∃ (d : D) (ss : List Sy), ds = [d] ∧ Lis d (ss.map syD) ∧ (∀ s ∈ ss, s.Ok) ∧ P .non t
def sp_keeps (W : Cl) : PSp := fun ds t P => ∃ b bs s, ds = [hD W b bs, syD s] ∧ Hou b bs ∧ SyS s ∧ P (.bl (keepB b bs s)) t
theorem len_kept_by (W : Cl) (as : List D) (t : Ts) (P : D → Ts → Prop) (h : sp_kept_by W as t P) : as.length = 2 := by first | (obtain ⟨_, rfl, _⟩ := h; rfl) | (obtain ⟨_, _, rfl, _⟩ := h; rfl) | (obtain ⟨_, _, _, rfl, _⟩ := h; rfl) | (obtain ⟨_, _, _, _, rfl, _⟩ := h; rfl) | (obtain ⟨_, _, _, _, _, rfl, _⟩ := h; rfl) | (obtain ⟨_, _, _, _, _, _, rfl, _⟩ := h; rfl) | (obtain ⟨_, _, _, _, _, _, _, rfl, _⟩ := h; rfl) | (obtain ⟨_, _, _, _, _, _, _, _, rfl, _⟩ := h; rfl) | (obtain ⟨_, rfl | rfl, _⟩ := h <;> rfl) | (obtain ⟨_, _, rfl | rfl, _⟩ := h <;> rfl) | (obtain ⟨_, _, _, rfl | rfl, _⟩ := h <;> rfl) | (obtain ⟨_, _, _, _, rfl | rfl, _⟩ := h <;> rfl) | (obtain ⟨_, _, _, _, _, rfl | rfl, _⟩ := h <;> rfl) | (obtain ⟨_, _, _, _, _, _, rfl | rfl, _⟩ := h <;> rfl) | (obtain ⟨_, _, _, _, _, _, _, rfl | rfl, _⟩ := h <;> rfl) | (obtain ⟨_, _, _, _, _, _, _, _, rfl | rfl, _⟩ := h <;> rfl)
theorem len_is_saying (as : List D) (t : Ts) (P : D → Ts → Prop) (h : sp_is_saying as t P) : as.length = 1 := by first | (obtain ⟨_, rfl, _⟩ := h; rfl) | (obtain ⟨_, _, rfl, _⟩ := h; rfl) | (obtain ⟨_, _, _, rfl, _⟩ := h; rfl) | (obtain ⟨_, _, _, _, rfl, _⟩ := h; rfl) | (obtain ⟨_, _, _, _, _, rfl, _⟩ := h; rfl) | (obtain ⟨_, _, _, _, _, _, rfl, _⟩ := h; rfl) | (obtain ⟨_, _, _, _, _, _, _, rfl, _⟩ := h; rfl) | (obtain ⟨_, _, _, _, _, _, _, _, rfl, _⟩ := h; rfl) | (obtain ⟨_, rfl | rfl, _⟩ := h <;> rfl) | (obtain ⟨_, _, rfl | rfl, _⟩ := h <;> rfl) | (obtain ⟨_, _, _, rfl | rfl, _⟩ := h <;> rfl) | (obtain ⟨_, _, _, _, rfl | rfl, _⟩ := h <;> rfl) | (obtain ⟨_, _, _, _, _, rfl | rfl, _⟩ := h <;> rfl) | (obtain ⟨_, _, _, _, _, _, rfl | rfl, _⟩ := h <;> rfl) | (obtain ⟨_, _, _, _, _, _, _, rfl | rfl, _⟩ := h <;> rfl) | (obtain ⟨_, _, _, _, _, _, _, _, rfl | rfl, _⟩ := h <;> rfl)
theorem len_need_sayings (as : List D) (t : Ts) (P : D → Ts → Prop) (h : sp_need_sayings as t P) : as.length = 1 := by first | (obtain ⟨_, rfl, _⟩ := h; rfl) | (obtain ⟨_, _, rfl, _⟩ := h; rfl) | (obtain ⟨_, _, _, rfl, _⟩ := h; rfl) | (obtain ⟨_, _, _, _, rfl, _⟩ := h; rfl) | (obtain ⟨_, _, _, _, _, rfl, _⟩ := h; rfl) | (obtain ⟨_, _, _, _, _, _, rfl, _⟩ := h; rfl) | (obtain ⟨_, _, _, _, _, _, _, rfl, _⟩ := h; rfl) | (obtain ⟨_, _, _, _, _, _, _, _, rfl, _⟩ := h; rfl) | (obtain ⟨_, rfl | rfl, _⟩ := h <;> rfl) | (obtain ⟨_, _, rfl | rfl, _⟩ := h <;> rfl) | (obtain ⟨_, _, _, rfl | rfl, _⟩ := h <;> rfl) | (obtain ⟨_, _, _, _, rfl | rfl, _⟩ := h <;> rfl) | (obtain ⟨_, _, _, _, _, rfl | rfl, _⟩ := h <;> rfl) | (obtain ⟨_, _, _, _, _, _, rfl | rfl, _⟩ := h <;> rfl) | (obtain ⟨_, _, _, _, _, _, _, rfl | rfl, _⟩ := h <;> rfl) | (obtain ⟨_, _, _, _, _, _, _, _, rfl | rfl, _⟩ := h <;> rfl)
theorem len_keeps (W : Cl) (as : List D) (t : Ts) (P : D → Ts → Prop) (h : sp_keeps W as t P) : as.length = 2 := by first | (obtain ⟨_, rfl, _⟩ := h; rfl) | (obtain ⟨_, _, rfl, _⟩ := h; rfl) | (obtain ⟨_, _, _, rfl, _⟩ := h; rfl) | (obtain ⟨_, _, _, _, rfl, _⟩ := h; rfl) | (obtain ⟨_, _, _, _, _, rfl, _⟩ := h; rfl) | (obtain ⟨_, _, _, _, _, _, rfl, _⟩ := h; rfl) | (obtain ⟨_, _, _, _, _, _, _, rfl, _⟩ := h; rfl) | (obtain ⟨_, _, _, _, _, _, _, _, rfl, _⟩ := h; rfl) | (obtain ⟨_, rfl | rfl, _⟩ := h <;> rfl) | (obtain ⟨_, _, rfl | rfl, _⟩ := h <;> rfl) | (obtain ⟨_, _, _, rfl | rfl, _⟩ := h <;> rfl) | (obtain ⟨_, _, _, _, rfl | rfl, _⟩ := h <;> rfl) | (obtain ⟨_, _, _, _, _, rfl | rfl, _⟩ := h <;> rfl) | (obtain ⟨_, _, _, _, _, _, rfl | rfl, _⟩ := h <;> rfl) | (obtain ⟨_, _, _, _, _, _, _, rfl | rfl, _⟩ := h <;> rfl) | (obtain ⟨_, _, _, _, _, _, _, _, rfl | rfl, _⟩ := h <;> rfl)
def d_kept_by (W : Cl) : DS := (dSeq (dAsg (dVar 1) (gTup 3 (gCons (gName 2) (gCons (gName 3) (gCons (gName 4) gNil))))) (dSeq (dIf (dB (dOp oEq (dVar 2) (dC (.str "at most")))) (dSeq (dRet (dOp oGe (dMeth W.House "last_place" (sp_House_last_place W) [] (dVar 0) (dCons (dVar 4) dNil)) (dVar 3))) dNext) dNext) (dSeq (dRet (dOrV (dOp oEq (dVar 4) (dC (.int 1))) (dOp oLt (dMeth W.House "last_place" (sp_House_last_place W) [] (dVar 0) (dCons (dOp oSub (dVar 4) (dC (.int 1))) dNil)) (dVar 3)))) dNext)))
def d_is_saying : DS := (dSeq (dIf (dOr (dNot (dB (dIsi [.tup] (dVar 0)))) (dOr (dB (dOp oNe (dCB bLen (dCons (dVar 0) dNil)) (dC (.int 3)))) (dNot (dB (dIsi [.str] (dOp oIx (dVar 0) (dC (.int 0)))))))) (dSeq (dRet (dC (.bl false))) dNext) dNext) (dSeq (dRet (dAndV (dOp oInT (dOp oIx (dVar 0) (dC (.int 0))) (dTup (dCons (dC (.str "at most")) (dCons (dC (.str "at least")) dNil)))) (dAndV (dCall sp_is_count [] (dCons (dOp oIx (dVar 0) (dC (.int 1))) dNil)) (dCall sp_is_count [] (dCons (dOp oIx (dVar 0) (dC (.int 2))) dNil))))) dNext))
def d_need_sayings : DS := (dSeq (dIf (dNot (dB (dCall sp_is_listing [] (dCons (dVar 0) dNil)))) (dSeq dNever dNext) dNext) (dSeq (dFor (iEnum0 (dVar 0)) (gTup 2 (gCons (gName 1) (gCons (gName 2) gNil))) (dSeq (dIf (dNot (dB (dCall sp_is_saying [] (dCons (dVar 2) dNil)))) (dSeq dNever dNext) dNext) dNext)) dNext))
def d_keeps (W : Cl) : DS := (dSeq (dDrop (dCall sp_need_sayings [] (dCons (dLst (dCons (dVar 1) dNil)) dNil))) (dSeq (dRet (dCall (sp_kept_by W) [] (dCons (dVar 0) (dCons (dVar 1) dNil)))) dNext))
theorem pl_am : plain (.str "at most") = true := by decide +kernel
theorem pl_al : plain (.str "at least") = true := by decide +kernel
theorem str_tt : deq (.str "at most") (.str "at most") = true := by decide
theorem str_ft : deq (.str "at least") (.str "at most") = false := by decide
theorem d_kept_by_ok (W : Cl) (as : List D) (t : Ts) (P : D → Ts → Prop) (h : sp_kept_by W as t P) : d_kept_by W (endsOf P) (start0 ["house", "saying", "word", "place", "number"] as) t := by
  obtain ⟨b, bs, ⟨w, p, n⟩, rfl, hh, ⟨⟨p1, n1⟩, ps, ns⟩, k⟩ := h
  have p1 : 1 ≤ p := p1
  have n1 : 1 ≤ n := n1
  have ns : Sm 8000 n := ns
  cases w with
  | true =>
    conv => whnf
    refine ⟨rfl, ?_⟩
    conv => whnf
    refine ⟨⟨pl_am, pl_am, Nat.zero_le _, Nat.zero_le _⟩, ?_⟩
    conv => whnf
    refine ⟨rfl, ?_⟩
    conv => whnf
    refine ⟨rfl, ?_⟩
    conv => whnf
    refine ⟨b, bs, n, rfl, hh, by omega, ns.mono (by decide), ?_⟩
    exact k
  | false =>
    conv => whnf
    refine ⟨rfl, ?_⟩
    conv => whnf
    refine ⟨⟨pl_al, pl_am, Nat.zero_le _, Nat.zero_le _⟩, ?_⟩
    conv => whnf
    refine Br.mk (fun hn => ?_) (fun hn => ?_)
    · have hn := of_decide_eq_true hn
      subst hn
      have e : keepB b bs ⟨false, p, 1⟩ = true := by
        show decide (Lp b bs (1 - 1) < p) = true
        rw [Lp_le0 (by decide)]
        exact decide_eq_true (by omega)
      rw [e] at k
      exact k
    · conv => whnf
      refine ⟨rfl, ?_⟩
      conv => whnf
      refine ⟨rfl, ?_⟩
      conv => whnf
      refine ⟨b, bs, n - 1, rfl, hh, by omega, (Sm.of (by omega) (show n - 1 ≤ n by omega) ns).mono (by decide), ?_⟩
      exact k
theorem d_is_saying_ok (as : List D) (t : Ts) (P : D → Ts → Prop) (h : sp_is_saying as t P) : d_is_saying (endsOf P) (start0 ["thing"] as) t := by
  obtain ⟨⟨w, p, n⟩, rfl, ⟨p1, n1⟩, k⟩ := h
  have p1 : 1 ≤ p := p1
  have n1 : 1 ≤ n := n1
  cases w with
  | true =>
    conv => whnf
    refine ⟨_, rfl, ?_⟩
    conv => whnf
    refine ⟨_, rfl, ?_⟩
    conv => whnf
    refine ⟨[("at most" : Str), "at least"], rfl, ?_⟩
    rw [show ([("at most" : Str), "at least"].any fun z => z == ("at most" : Str)) = true by decide +kernel]
    conv => whnf
    refine ⟨_, rfl, ?_⟩
    refine ⟨_, rfl, ⟨.int, rfl⟩, ?_⟩
    rw [show isCount (.int p) = true from decide_eq_true (by omega)]
    conv => whnf
    refine ⟨_, rfl, ?_⟩
    refine ⟨_, rfl, ⟨.int, rfl⟩, ?_⟩
    rw [show isCount (.int n) = true from decide_eq_true (by omega)]
    exact k
  | false =>
    conv => whnf
    refine ⟨_, rfl, ?_⟩
    conv => whnf
    refine ⟨_, rfl, ?_⟩
    conv => whnf
    refine ⟨[("at most" : Str), "at least"], rfl, ?_⟩
    rw [show ([("at most" : Str), "at least"].any fun z => z == ("at least" : Str)) = true by decide +kernel]
    conv => whnf
    refine ⟨_, rfl, ?_⟩
    refine ⟨_, rfl, ⟨.int, rfl⟩, ?_⟩
    rw [show isCount (.int p) = true from decide_eq_true (by omega)]
    conv => whnf
    refine ⟨_, rfl, ?_⟩
    refine ⟨_, rfl, ⟨.int, rfl⟩, ?_⟩
    rw [show isCount (.int n) = true from decide_eq_true (by omega)]
    exact k
theorem d_need_sayings_ok (as : List D) (t : Ts) (P : D → Ts → Prop) (h : sp_need_sayings as t P) : d_need_sayings (endsOf P) (start0 ["sayings", "place", "saying"] as) t := by
  obtain ⟨d, ss, rfl, hd, hs, k⟩ := h
  have loop : ∀ d : D, (∃ Inv : Nat → En → Ts → Prop, Inv 0 [.val d, .no, .no] t ∧
      (∀ i x e m, (enumL 0 (ss.map syD))[i]? = some x → Inv i e m → gTup 2 (gCons (gName 1) (gCons (gName 2) gNil)) x e m fun e' m' => (dSeq (dIf (dNot (dB (dCall sp_is_saying [] (dCons (dVar 2) dNil)))) (dSeq dNever dNext) dNext) dNext) ⟨Inv (i + 1), (endsOf P).rt, dNext (endsOf P), Inv (i + 1)⟩ e' m') ∧ ∀ e m, Inv (enumL 0 (ss.map syD)).length e m → dNext (endsOf P) e m) := by
    intro d
    refine ⟨fun i e m => t = m ∧ ∃ s1 s2, e = [.val d, s1, s2], ⟨rfl, _, _, rfl⟩, fun i x e m hx hI => ?_, fun e m hI => ?_⟩
    · obtain ⟨rfl, s1, s2, rfl⟩ := hI
      rw [enumL_get] at hx
      cases q : (ss.map syD)[i]? with
      | none => rw [q] at hx; cases hx
      | some y =>
        rw [q] at hx
        cases hx
        rw [List.getElem?_map] at q
        cases q2 : ss[i]? with
        | none => rw [q2] at q; cases q
        | some s =>
          rw [q2] at q
          cases q
          conv => whnf
          refine ⟨rfl, ?_⟩
          conv => whnf
          refine ⟨s, rfl, hs s (List.mem_of_getElem? q2), ?_⟩
          exact ⟨rfl, _, _, rfl⟩
    · obtain ⟨rfl, s1, s2, rfl⟩ := hI
      exact k
  rcases hd with rfl | rfl
  · conv => whnf
    refine ⟨_, rfl, ⟨.lst, rfl⟩, ?_⟩
    exact loop _
  · conv => whnf
    refine ⟨_, rfl, ⟨.tup, rfl⟩, ?_⟩
    exact loop _
theorem d_keeps_ok (W : Cl) (as : List D) (t : Ts) (P : D → Ts → Prop) (h : sp_keeps W as t P) : d_keeps W (endsOf P) (start0 ["house", "saying"] as) t := by
  obtain ⟨b, bs, s, rfl, hh, hs, k⟩ := h
  conv => whnf
  refine ⟨_, [s], rfl, .inl rfl, fun z hz => ?_, ?_⟩
  · have : z = s := by simpa using hz
    rw [this]; exact hs.1
  · exact ⟨b, bs, s, rfl, hh, hs, k⟩
end Q

/-! MSum2 -/
namespace Q
open PySem
/-! ### sums by the laws' own signs -/
def sp__law_total : PSp := fun ds t P => ∃ b bs n, ds = [.int b, .lst (bs.map .int), .int n] ∧ Hou b bs ∧ HSm 30000 bs ∧ 0 ≤ n ∧ Sm 100000 n ∧ P (.int (To b bs n)) t
theorem len__law_total (as : List D) (t : Ts) (P : D → Ts → Prop) (h : sp__law_total as t P) : as.length = 3 := by first | (obtain ⟨_, rfl, _⟩ := h; rfl) | (obtain ⟨_, _, rfl, _⟩ := h; rfl) | (obtain ⟨_, _, _, rfl, _⟩ := h; rfl) | (obtain ⟨_, _, _, _, rfl, _⟩ := h; rfl) | (obtain ⟨_, _, _, _, _, rfl, _⟩ := h; rfl) | (obtain ⟨_, _, _, _, _, _, rfl, _⟩ := h; rfl) | (obtain ⟨_, _, _, _, _, _, _, rfl, _⟩ := h; rfl) | (obtain ⟨_, _, _, _, _, _, _, _, rfl, _⟩ := h; rfl) | (obtain ⟨_, rfl | rfl, _⟩ := h <;> rfl) | (obtain ⟨_, _, rfl | rfl, _⟩ := h <;> rfl) | (obtain ⟨_, _, _, rfl | rfl, _⟩ := h <;> rfl) | (obtain ⟨_, _, _, _, rfl | rfl, _⟩ := h <;> rfl) | (obtain ⟨_, _, _, _, _, rfl | rfl, _⟩ := h <;> rfl) | (obtain ⟨_, _, _, _, _, _, rfl | rfl, _⟩ := h <;> rfl) | (obtain ⟨_, _, _, _, _, _, _, rfl | rfl, _⟩ := h <;> rfl) | (obtain ⟨_, _, _, _, _, _, _, _, rfl | rfl, _⟩ := h <;> rfl)
def d__law_total : DS := (dSeq (dIf (dB (dOp oLt (dVar 2) (dVar 0))) (dSeq (dRet (dCB bSum (dCons (dLc [9] (iRng1 (dVar 2)) (gName 9) dYes (dOp oMul (dOp oAdd (dVar 9) (dC (.int 1))) (dOp oIx (dVar 1) (dVar 9)))) dNil))) dNext) dNext) (dSeq (dAsg (dCB bSum (dCons (dLc [9] (iRng1 (dOp oSub (dVar 0) (dC (.int 1)))) (gName 9) dYes (dOp oMul (dOp oAdd (dVar 9) (dC (.int 1))) (dOp oSub (dOp oIx (dVar 1) (dVar 9)) (dC (.int 1))))) dNil)) (gName 3)) (dSeq (dParM [(6, true), (7, false)] (dCons (dLst dNil) (dCons (dVar 2) dNil))) (dSeq (dWhile (dB (dOp oGe (dVar 7) (dVar 0))) (dSeq (dApp 6 (dOp oMod (dVar 7) (dVar 0))) (dSeq (dAsg (dOp oDiv (dVar 7) (dVar 0)) (gName 7)) dNext))) (dSeq (dFrz 6) (dSeq (dAsg (dCB bSum (dCons (dLc [9] (iRng1 (dVar 7)) (gName 9) dYes (dOp oMul (dOp oAdd (dVar 9) (dC (.int 1))) (dOp oIx (dVar 1) (dVar 9)))) dNil)) (gName 4)) (dSeq (dFor (iRevD (dVar 6)) (gName 5) (dSeq (dAsg (dOp oMul (dVar 7) (dVar 0)) (gName 8)) (dSeq (dAsg (dOp oAdd (dOp oAdd (dOp oDiv (dOp oMul (dVar 8) (dOp oAdd (dVar 8) (dC (.int 1)))) (dC (.int 2))) (dVar 3)) (dOp oMul (dVar 0) (dVar 4))) (gName 4)) (dSeq (dAsg (dOp oAdd (dVar 8) (dVar 5)) (gName 7)) (dSeq (dAsg (dOp oAdd (dOp oAdd (dVar 4) (dOp oMul (dVar 5) (dVar 8))) (dOp oDiv (dOp oMul (dVar 5) (dOp oAdd (dVar 5) (dC (.int 1)))) (dC (.int 2)))) (gName 4)) dNext))))) (dSeq (dRet (dVar 4)) dNext))))))))
/-- digits, the last one first -/
def up (b : Int) (l : List Int) (x : Int) : Int := l.foldr (fun s a => a * b + s) x
theorem up_snoc (b : Int) (l : List Int) (s x : Int) : up b (l ++ [s]) x = up b l (x * b + s) := by simp [up]
theorem up_cons (b : Int) (l : List Int) (s x : Int) : up b (s :: l) x = up b l x * b + s := rfl
/-- (j + 1) * bs[j], added -/
theorem own_sum (bs : List Int) : ∀ j : Nat, j ≤ bs.length → ((List.range j).map fun (i : Nat) => ((i : Int) + 1) * bs.getD i 0).sum = tri j + Ws bs j
  | 0, _ => by
    rw [show ((0 : Nat) : Int) = 0 from rfl, tri_zero, Ws_zero]; rfl
  | j + 1, h => by
    have ih := own_sum bs j (by omega)
    have e := Ws_succ (bs := bs) (j := j) (by omega)
    have t := tri_step ((j : Int) + 1)
    rw [show (j : Int) + 1 - 1 = j by omega] at t
    rw [List.range_succ, List.map_append, List.sum_append, ih, show ((j + 1 : Nat) : Int) = (j : Int) + 1 by omega, e, t]
    simp
    grind
theorem own_wts (bs : List Int) : ∀ j : Nat, j ≤ bs.length → ((List.range j).map fun (i : Nat) => ((i : Int) + 1) * (bs.getD i 0 - 1)).sum = Ws bs j
  | 0, _ => by rw [show ((0 : Nat) : Int) = 0 from rfl, Ws_zero]; rfl
  | j + 1, h => by
    have ih := own_wts bs j (by omega)
    have e := Ws_succ (bs := bs) (j := j) (by omega)
    rw [List.range_succ, List.map_append, List.sum_append, ih, show ((j + 1 : Nat) : Int) = (j : Int) + 1 by omega, e]
    simp
theorem tri_add (w s : Int) : tri (w + s) = tri w + s * w + tri s := by
  have a := tri_two (w + s)
  have b := tri_two w
  have c := tri_two s
  grind
theorem To_head {b : Int} {bs : List Int} (h : Hou b bs) {x s : Int} (hx : 1 ≤ x) (s0 : 0 ≤ s) (s1 : s < b) : To b bs (x * b + s) = tri (x * b) + Ws bs bs.length + b * To b bs x + s * (x * b) + tri s := by
  have hb := h.b2
  have h1 : b ≤ x * b + s := by have := Int.mul_le_mul_of_nonneg_right hx (show 0 ≤ b by omega); omega
  rw [To_ge hb h1, (more_div hb s0 s1).1, tri_add]
  omega
theorem d__law_total_ok (as : List D) (t : Ts) (P : D → Ts → Prop) (h : sp__law_total as t P) : d__law_total (endsOf P) (start0 ["_law_base_here", "_law_begun_here", "_law_number_here", "_law_extra", "_law_found", "_law_sign", "_law_signs", "_law_left", "_law_whole", "_law_j"] as) t := by
  obtain ⟨b, bs, n, rfl, hh, hbs, h0, hs, k⟩ := h
  have h2 := hh.b2
  have h30 := hh.b30
  have hl := hh.len
  have lowTo : ∀ j : Nat, (j : Int) < b → tri j + Ws bs j = To b bs j := fun j hj => by
    by_cases z : (j : Int) = 0
    · rw [z, To_le0 (by omega), tri_zero, Ws_zero]; rfl
    · rw [To_lt h2 (by omega) hj]
  conv => whnf
  refine Br.mk (fun hc => ?_) (fun hc => ?_)
  · have hc : n < b := of_decide_eq_true hc
    obtain ⟨j, rfl⟩ : ∃ j : Nat, n = j := ⟨n.toNat, by omega⟩
    conv => whnf
    repeat (refine And.intro (by first | omega | rfl | exact MulOk.r (by decide) (by decide) | exact MulOk.l (by omega) (by omega) | exact MulOk.r (by omega) (by omega) | exact DivOk.s (by omega) (by omega) | exact PowOk.s (by decide) (by decide) (by decide) (by decide) | (unfold zLen; omega) | (simp only [List.length_append, List.length_map, List.length_cons, List.length_nil]; unfold zLen; omega)) ?_; conv => whnf)
    refine lc_idx (fun i => .int (((i : Int) + 1) * bs.getD i 0)) (by rw [rng_len]; unfold zLen; omega) (fun i x hx Qy q => ?_) ?_
    · obtain ⟨hi, rfl⟩ := rng_get hx
      rw [Int.zero_add]
      conv => whnf
      refine ⟨rfl, ?_⟩
      conv => whnf
      refine ⟨_, atI_ints (by omega) (by omega), ?_⟩
      conv => whnf
      refine ⟨.l (by omega) (by omega), ?_⟩
      conv => whnf
      exact q
    rw [rng_len]
    refine ⟨_, ints_fn _ _, ?_⟩
    rw [show ((j : Int)).toNat = j by omega, own_sum bs j (by omega), lowTo j hc]
    exact k
  · have hc : ¬ n < b := of_decide_eq_false hc
    conv => whnf
    repeat (refine And.intro (by first | omega | rfl | exact MulOk.r (by decide) (by decide) | exact MulOk.l (by omega) (by omega) | exact MulOk.r (by omega) (by omega) | exact DivOk.s (by omega) (by omega) | exact PowOk.s (by decide) (by decide) (by decide) (by decide) | (unfold zLen; omega) | (simp only [List.length_append, List.length_map, List.length_cons, List.length_nil]; unfold zLen; omega)) ?_; conv => whnf)
    refine lc_idx (fun i => .int (((i : Int) + 1) * (bs.getD i 0 - 1))) (by rw [rng_len]; unfold zLen; omega) (fun i x hx Qy q => ?_) ?_
    · obtain ⟨hi, rfl⟩ := rng_get hx
      rw [Int.zero_add]
      conv => whnf
      refine ⟨rfl, ?_⟩
      conv => whnf
      refine ⟨_, atI_ints (by omega) (by omega), ?_⟩
      conv => whnf
      refine ⟨.l (by omega) (by omega), ?_⟩
      conv => whnf
      exact q
    rw [rng_len]
    refine ⟨_, ints_fn _ _, ?_⟩
    rw [show (b - 1).toNat = bs.length by omega, own_wts bs _ (Nat.le_refl _)]
    conv => whnf
    refine ⟨fun e m => t = m ∧ ∃ l, ∃ L : List Int, e = [.val (.int b), .val (.lst (bs.map .int)), .val (.int n), .val (.int (Ws bs bs.length)), .no, .no, .own (.lst (L.map .int)), .val (.int l), .no, .no] ∧ 1 ≤ l ∧ 2 ^ L.length * l ≤ n ∧ up b L l = n ∧ (∀ s ∈ L, 0 ≤ s ∧ s < b), fun e m => match e with | [_, _, _, _, _, _, _, .val (.int y), _, _] => y.toNat | _ => 0, ⟨rfl, n, [], rfl, by omega, by simp, rfl, by simp⟩, fun e m hI => ?_⟩
    obtain ⟨rfl, l, L, rfl, l1, hL2, hup, hLs⟩ := hI
    have hLl : L.length ≤ 100000 := by
      rcases Nat.lt_or_ge 100000 L.length with q | q
      · exfalso
        have h3 : (2 : Nat) ^ 100000 ≤ 2 ^ L.length := Nat.pow_le_pow_right (by decide) (by omega)
        have h4 : (((2 : Nat) ^ L.length : Nat) : Int) = (2 : Int) ^ L.length := by simp
        have hp2 : (0 : Int) < 2 ^ L.length := Int.pow_pos (by decide)
        have := Int.mul_le_mul_of_nonneg_left l1 (show (0 : Int) ≤ 2 ^ L.length by omega)
        unfold Sm at hs
        omega
      · exact q
    conv => whnf
    refine Br.mk (fun hd => ?_) (fun hd => ?_)
    · have hd : b ≤ l := of_decide_eq_true hd
      have l2 : 1 ≤ l / b := (Int.le_ediv_iff_mul_le (by omega)).mpr (by omega)
      have e3 := ediv_le2 (show 0 ≤ l by omega) h2
      have e1 := Int.mul_ediv_add_emod l b
      have r0 := Int.emod_nonneg l (show b ≠ 0 by omega)
      have r1 := Int.emod_lt_of_pos l (show 0 < b by omega)
      conv => whnf
      repeat (refine And.intro (by first | omega | rfl | exact MulOk.r (by decide) (by decide) | exact MulOk.l (by omega) (by omega) | exact MulOk.r (by omega) (by omega) | exact DivOk.s (by omega) (by omega) | exact PowOk.s (by decide) (by decide) (by decide) (by decide) | (unfold zLen; omega) | (simp only [List.length_append, List.length_map, List.length_cons, List.length_nil]; unfold zLen; omega)) ?_; conv => whnf)
      refine ⟨⟨rfl, l / b, L ++ [l % b], by simp, l2, ?_, ?_, fun s hs => ?_⟩, ?_⟩
      · have hp2 : (0 : Int) < 2 ^ L.length := Int.pow_pos (by decide)
        have := Int.mul_le_mul_of_nonneg_left e3 (show (0 : Int) ≤ 2 ^ L.length by omega)
        rw [List.length_append, List.length_singleton, Int.pow_succ]
        grind
      · rw [up_snoc, show l / b * b + l % b = l by rw [Int.mul_comm]; exact e1]
        exact hup
      · rcases List.mem_append.mp hs with z | z
        · exact hLs s z
        · rw [List.mem_singleton.mp z]; exact ⟨r0, r1⟩
      · show (l / b).toNat < l.toNat
        omega
    · have hd : ¬ b ≤ l := of_decide_eq_false hd
      obtain ⟨j, rfl⟩ : ∃ j : Nat, l = j := ⟨l.toNat, by omega⟩
      conv => whnf
      repeat (refine And.intro (by first | omega | rfl | exact MulOk.r (by decide) (by decide) | exact MulOk.l (by omega) (by omega) | exact MulOk.r (by omega) (by omega) | exact DivOk.s (by omega) (by omega) | exact PowOk.s (by decide) (by decide) (by decide) (by decide) | (unfold zLen; omega) | (simp only [List.length_append, List.length_map, List.length_cons, List.length_nil]; unfold zLen; omega)) ?_; conv => whnf)
      refine lc_idx (fun i => .int (((i : Int) + 1) * bs.getD i 0)) (by rw [rng_len]; unfold zLen; omega) (fun i x hx Qy q => ?_) ?_
      · obtain ⟨hi, rfl⟩ := rng_get hx
        rw [Int.zero_add]
        conv => whnf
        refine ⟨rfl, ?_⟩
        conv => whnf
        refine ⟨_, atI_ints (by omega) (by omega), ?_⟩
        conv => whnf
        refine ⟨.l (by omega) (by omega), ?_⟩
        conv => whnf
        exact q
      rw [rng_len]
      refine ⟨_, ints_fn _ _, ?_⟩
      rw [show ((j : Int)).toNat = j by omega, own_sum bs j (by omega), lowTo j (by omega)]
      conv => whnf
      rw [← List.map_reverse]
      -- what stands behind i signs
      refine ⟨fun i e m => t = m ∧ ∃ s5 s8, e = [.val (.int b), .val (.lst (bs.map .int)), .val (.int n), .val (.int (Ws bs bs.length)), .val (.int (To b bs (up b (L.drop (L.length - i)) j))), s5, .val (.lst (L.map .int)), .val (.int (up b (L.drop (L.length - i)) j)), s8, .no], ⟨rfl, .no, .no, by rw [Nat.sub_zero, List.drop_length]; rfl⟩, fun i x e m hx hI => ?_, fun e m hI => ?_⟩
      · obtain ⟨rfl, s5, s8, rfl⟩ := hI
        obtain ⟨s, hs', rfl⟩ := map_get hx
        have hi : i < L.length := by have := (List.getElem?_eq_some_iff.mp hs').1; rw [List.length_reverse] at this; exact this
        rw [List.getElem?_reverse hi] at hs'
        have hs9 := hLs s (List.mem_of_getElem? hs')
        have hdrop : L.drop (L.length - (i + 1)) = s :: L.drop (L.length - i) := by
          have h7 : L.length - 1 - i < L.length := by omega
          rw [show L.length - (i + 1) = L.length - 1 - i by omega, List.drop_eq_getElem_cons h7]
          have h8 : L[L.length - 1 - i] = s := by
            have := List.getElem?_eq_getElem h7
            rw [this] at hs'
            injection hs'
          rw [h8, show L.length - 1 - i + 1 = L.length - i by omega]
        -- what stands is no more than the number
        have hle : ∀ (M : List Int) (y : Int), 1 ≤ y → (∀ s ∈ M, 0 ≤ s ∧ s < b) → y ≤ up b M y ∧ 1 ≤ up b M y := by
          intro M
          induction M with
          | nil => intro y hy _; exact ⟨Int.le_refl _, hy⟩
          | cons a M ih =>
            intro y hy hM
            obtain ⟨i1, i2⟩ := ih y hy fun s hs => hM s (List.mem_cons_of_mem _ hs)
            have := (hM a (List.mem_cons_self ..)).1
            have := Int.mul_le_mul_of_nonneg_left h2 (show 0 ≤ up b M y by omega)
            rw [up_cons]
            omega
        have happ : ∀ (M M' : List Int) (y : Int), up b (M ++ M') y = up b M (up b M' y) := fun M M' y => by simp [up]
        have hlast : up b (L.drop (L.length - i)) j ≤ n ∧ 1 ≤ up b (L.drop (L.length - i)) j := by
          have q1 := hle (L.drop (L.length - i)) j l1 fun s hs => hLs s (List.mem_of_mem_drop hs)
          have q2 := hle (L.take (L.length - i)) (up b (L.drop (L.length - i)) j) q1.2 fun s hs => hLs s (List.mem_of_mem_take hs)
          rw [← happ, List.take_append_drop, hup] at q2
          exact ⟨q2.1, q1.2⟩
        generalize hx0 : up b (L.drop (L.length - i)) j = x at *
        have xs : Sm 100000 x := Sm.of (by omega) hlast.1 hs
        have ws : Sm 100010 (x * b) := (Sm.mul xs (b := 6) (by unfold Sm; omega)).mono (by decide)
        have ws1 : Sm 100011 (x * b + 1) := Sm.add ws (Sm.lit (b := 100010) (Nat.lt_of_lt_of_le (by decide) (Nat.pow_le_pow_right (by decide) (show 1 ≤ 100010 by decide))))
        conv => whnf
        repeat (refine And.intro (by first | omega | rfl | exact MulOk.r (by decide) (by decide) | exact MulOk.l (by omega) (by omega) | exact MulOk.r (by omega) (by omega) | exact DivOk.s (by omega) (by omega) | exact PowOk.s (by decide) (by decide) (by decide) (by decide) | (unfold zLen; omega) | (simp only [List.length_append, List.length_map, List.length_cons, List.length_nil]; unfold zLen; omega)) ?_; conv => whnf)
        refine ⟨MulOk.w ws ws1 (by decide) (by decide) (by decide), ?_⟩
        conv => whnf
        conv => whnf
        repeat (refine And.intro (by first | omega | rfl | exact MulOk.r (by decide) (by decide) | exact MulOk.l (by omega) (by omega) | exact MulOk.r (by omega) (by omega) | exact DivOk.s (by omega) (by omega) | exact PowOk.s (by decide) (by decide) (by decide) (by decide) | (unfold zLen; omega) | (simp only [List.length_append, List.length_map, List.length_cons, List.length_nil]; unfold zLen; omega)) ?_; conv => whnf)
        have hTh := To_head hh hlast.2 hs9.1 hs9.2
        have e1 : x * b * (x * b + 1) / 2 = tri (x * b) := rfl
        have e2 : s * (s + 1) / 2 = tri s := rfl
        rw [e1, e2]
        rw [hdrop, up_cons, hx0, hTh]
        exact ⟨_, _, rfl⟩
      · obtain ⟨rfl, s5, s8, rfl⟩ := hI
        rw [List.length_map, List.length_reverse, Nat.sub_self, List.drop_zero, hup]
        conv => whnf
        repeat (refine And.intro (by first | omega | rfl | exact MulOk.r (by decide) (by decide) | exact MulOk.l (by omega) (by omega) | exact MulOk.r (by omega) (by omega) | exact DivOk.s (by omega) (by omega) | exact PowOk.s (by decide) (by decide) (by decide) (by decide) | (unfold zLen; omega) | (simp only [List.length_append, List.length_map, List.length_cons, List.length_nil]; unfold zLen; omega)) ?_; conv => whnf)
        exact k
def sp__law_within (W : Cl) : PSp := fun ds t P => ∃ b bs n, ds = [.int b, .lst (bs.map .int), hD W b bs, .int n] ∧ Hou b bs ∧ HSm 2000 bs ∧ 1 ≤ n ∧ Sm 2000 n ∧ P (.bl true) t
theorem len__law_within (W : Cl) (as : List D) (t : Ts) (P : D → Ts → Prop) (h : sp__law_within W as t P) : as.length = 4 := by first | (obtain ⟨_, rfl, _⟩ := h; rfl) | (obtain ⟨_, _, rfl, _⟩ := h; rfl) | (obtain ⟨_, _, _, rfl, _⟩ := h; rfl) | (obtain ⟨_, _, _, _, rfl, _⟩ := h; rfl) | (obtain ⟨_, _, _, _, _, rfl, _⟩ := h; rfl) | (obtain ⟨_, _, _, _, _, _, rfl, _⟩ := h; rfl) | (obtain ⟨_, _, _, _, _, _, _, rfl, _⟩ := h; rfl) | (obtain ⟨_, _, _, _, _, _, _, _, rfl, _⟩ := h; rfl) | (obtain ⟨_, rfl | rfl, _⟩ := h <;> rfl) | (obtain ⟨_, _, rfl | rfl, _⟩ := h <;> rfl) | (obtain ⟨_, _, _, rfl | rfl, _⟩ := h <;> rfl) | (obtain ⟨_, _, _, _, rfl | rfl, _⟩ := h <;> rfl) | (obtain ⟨_, _, _, _, _, rfl | rfl, _⟩ := h <;> rfl) | (obtain ⟨_, _, _, _, _, _, rfl | rfl, _⟩ := h <;> rfl) | (obtain ⟨_, _, _, _, _, _, _, rfl | rfl, _⟩ := h <;> rfl) | (obtain ⟨_, _, _, _, _, _, _, _, rfl | rfl, _⟩ := h <;> rfl)
def d__law_within (W : Cl) : DS := (dSeq (dAsg (dOp oMul (dVar 0) (dVar 3)) (gName 4)) (dSeq (dAsg (dCB bSum (dCons (dLc [8] (iRng1 (dOp oSub (dVar 0) (dC (.int 1)))) (gName 8) dYes (dOp oMul (dOp oAdd (dVar 8) (dC (.int 1))) (dOp oSub (dOp oIx (dVar 1) (dVar 8)) (dC (.int 1))))) dNil)) (gName 5)) (dSeq (dAsg (dCall (sp_sum_upto W) [] (dCons (dVar 2) (dCons (dCall sp__law_last_2 [] (dCons (dVar 0) (dCons (dVar 1) (dCons (dVar 4) dNil)))) dNil))) (gName 6)) (dSeq (dAsg (dCall (sp_sum_upto W) [] (dCons (dVar 2) (dCons (dCall sp__law_last_2 [] (dCons (dVar 0) (dCons (dVar 1) (dCons (dVar 3) dNil)))) dNil))) (gName 7)) (dSeq (dRet (dAndV (dOp oEq (dVar 6) (dOp oAdd (dOp oAdd (dOp oDiv (dOp oMul (dVar 4) (dOp oAdd (dVar 4) (dC (.int 1)))) (dC (.int 2))) (dVar 5)) (dOp oMul (dVar 0) (dVar 7)))) (dOp oEq (dVar 7) (dCall sp__law_total [] (dCons (dVar 0) (dCons (dVar 1) (dCons (dVar 3) dNil))))))) dNext)))))
theorem Lp_sm3 {b : Int} {bs : List Int} (h : Hou b bs) {y : Nat} (hb : HSm y bs) (hy : y ≤ 2000) {n : Int} {x : Nat} (h0 : 0 ≤ n) (hn : Sm x n) : Sm (x + 3000) (Lp b bs n) := by
  have hR : Sm (y + 5) (Re bs) := Re_sm h (M := ((2 ^ y : Nat) : Int) - 1) (by have := Nat.two_pow_pos y; omega) (fun x hx => by have := hb x hx; have := h.pos x hx; unfold Sm at *; omega) (by unfold Sm; have := Nat.two_pow_pos y; omega)
  exact (Lp_sm h h0 hn hR (by omega)).mono (by omega)
theorem Ti_sm' {b : Int} {bs : List Int} (h : Hou b bs) {y : Nat} (hb : HSm y bs) (hy : y ≤ 2000) {n : Int} {x : Nat} (h1 : 1 ≤ n) (hn : Sm x n) : Sm (x + 3000) (Ti b bs n) := by
  have := Lp_nn h (n := n - 1) (by omega)
  have := Ti_pos' h h1
  exact Sm.of (by omega) (by unfold Ti; omega) (Lp_sm3 h hb hy (by omega) hn)
theorem d__law_within_ok (W : Cl) (as : List D) (t : Ts) (P : D → Ts → Prop) (h : sp__law_within W as t P) : d__law_within W (endsOf P) (start0 ["_law_base_here", "_law_begun_here", "_law_home", "_law_number_here", "_law_whole", "_law_extra", "_law_told", "_law_part", "_law_j"] as) t := by
  obtain ⟨b, bs, n, rfl, hh, hbs, h1, hs, k⟩ := h
  have h2 := hh.b2
  have h30 := hh.b30
  have hl := hh.len
  have hbs3 : HSm 30000 bs := fun x hx => (hbs x hx).mono (by decide)
  have ws : Sm 2006 (b * n) := (Sm.mul (a := 6) (by unfold Sm; omega) hs).mono (by decide)
  have w0 : b ≤ b * n := by have := Int.mul_le_mul_of_nonneg_left h1 (show 0 ≤ b by omega); omega
  conv => whnf
  repeat (refine And.intro (by first | omega | rfl | exact MulOk.r (by decide) (by decide) | exact MulOk.l (by omega) (by omega) | exact MulOk.r (by omega) (by omega) | exact DivOk.s (by omega) (by omega) | exact PowOk.s (by decide) (by decide) (by decide) (by decide) | (unfold zLen; omega) | (simp only [List.length_append, List.length_map, List.length_cons, List.length_nil]; unfold zLen; omega)) ?_; conv => whnf)
  refine lc_idx (fun i => .int (((i : Int) + 1) * (bs.getD i 0 - 1))) (by rw [rng_len]; unfold zLen; omega) (fun i x hx Qy q => ?_) ?_
  · obtain ⟨hi, rfl⟩ := rng_get hx
    rw [Int.zero_add]
    conv => whnf
    refine ⟨rfl, ?_⟩
    conv => whnf
    refine ⟨_, atI_ints (by omega) (by omega), ?_⟩
    conv => whnf
    refine ⟨.l (by omega) (by omega), ?_⟩
    conv => whnf
    exact q
  rw [rng_len]
  refine ⟨_, ints_fn _ _, ?_⟩
  rw [show (b - 1).toNat = bs.length by omega, own_wts bs _ (Nat.le_refl _)]
  conv => whnf
  refine ⟨b, bs, b * n, rfl, hh, by omega, ws.mono (by decide), ?_⟩
  conv => whnf
  refine ⟨b, bs, _, rfl, hh, hbs3, Lp_nn hh (by omega), (Lp_sm3 hh hbs (by decide) (by omega) ws).mono (by decide), ?_⟩
  conv => whnf
  refine ⟨b, bs, n, rfl, hh, by omega, hs.mono (by decide), ?_⟩
  conv => whnf
  refine ⟨b, bs, _, rfl, hh, hbs3, Lp_nn hh (by omega), (Lp_sm3 hh hbs (by decide) (by omega) hs).mono (by decide), ?_⟩
  rw [So_last hh (by omega), So_last hh (by omega)]
  conv => whnf
  refine ⟨MulOk.w ws (Sm.add ws (Sm.lit (b := 2006) (by decide))) (by decide) (by decide) (by decide), ?_⟩
  conv => whnf
  conv => whnf
  repeat (refine And.intro (by first | omega | rfl | exact MulOk.r (by decide) (by decide) | exact MulOk.l (by omega) (by omega) | exact MulOk.r (by omega) (by omega) | exact DivOk.s (by omega) (by omega) | exact PowOk.s (by decide) (by decide) (by decide) (by decide) | (unfold zLen; omega) | (simp only [List.length_append, List.length_map, List.length_cons, List.length_nil]; unfold zLen; omega)) ?_; conv => whnf)
  have e1 : b * n * (b * n + 1) / 2 = tri (b * n) := rfl
  rw [e1]
  have e2 : To b bs (b * n) = tri (b * n) + Ws bs bs.length + b * To b bs n := by
    rw [To_ge h2 w0, Int.mul_ediv_cancel_left _ (by omega)]; omega
  refine br_eq (e2) ?_
  conv => whnf
  refine ⟨b, bs, n, rfl, hh, hbs3, by omega, hs.mono (by decide), ?_⟩
  conv => whnf
  rw [show (decide (To b bs n = To b bs n)) = true from decide_eq_true rfl]
  exact k
end Q

/-! MSay2 -/
namespace Q
open PySem
def sp__law_head : PSp := fun ds t P => ∃ b n, ds = [.int b, .int n] ∧ 2 ≤ b ∧ b ≤ 30 ∧ 1 ≤ n ∧ Sm 8000 n ∧ ∀ (c : Int) (e : Nat), 1 ≤ c → c < b → c * b ^ e ≤ n → n < (c + 1) * b ^ e → e < 8000 → P (.tup [.int c, .int e]) t
def sp__law_heap : PSp := fun ds t P => ∃ b n, ds = [.int b, .int n] ∧ 2 ≤ b ∧ b ≤ 30 ∧ 0 ≤ n ∧ P (.int (heap b n)) t
def sp__law_last_4 : PSp := fun ds t P => ∃ b bs n, ds = [.int b, .lst (bs.map .int), .int n] ∧ Hou b bs ∧ 0 ≤ n ∧ Sm 8000 n ∧ P (.int (Lp b bs n)) t
def sp__law_keeps_far : PSp := fun ds t P => ∃ b bs s, ds = [.int b, .lst (bs.map .int), syD s] ∧ Hou b bs ∧ SyS s ∧ P (.bl (keepB b bs s)) t
def sp__law_number_2 : PSp := fun ds t P => ∃ b n, ds = [.pen, .int b] ∧ 2 ≤ b ∧ b ≤ 30 ∧ Pk n t ∧ n < 80000000 ∧ ∀ m t', 1 ≤ m → Sm 210 m → Pk (n + 20) t' → P (.int m) t'
def sp__law_spot : PSp := fun ds t P => ∃ b bs m n, ds = [.pen, .int b, .lst (bs.map .int), .int m] ∧ Hou b bs ∧ HSm 2000 bs ∧ 1 ≤ m ∧ Sm 1000 m ∧ Pk n t ∧ n < 80000000 ∧ ∀ p t', Lp b bs (m - 1) < p → p ≤ Lp b bs m → Pk (n + 2) t' → P (.int p) t'
def sp__law_saying : PSp := fun ds t P => ∃ b bs o n, ds = [.pen, .int b, .lst (bs.map .int), .int o] ∧ Hou b bs ∧ HSm 2000 bs ∧ -10 ≤ o ∧ o ≤ 10 ∧ Pk n t ∧ n < 70000000 ∧ ∀ s t', SyS s → Sm 4000 s.p → Sm 300 s.n → Pk (n + 30) t' → P (syD s) t'
theorem len__law_head (as : List D) (t : Ts) (P : D → Ts → Prop) (h : sp__law_head as t P) : as.length = 2 := by first | (obtain ⟨_, rfl, _⟩ := h; rfl) | (obtain ⟨_, _, rfl, _⟩ := h; rfl) | (obtain ⟨_, _, _, rfl, _⟩ := h; rfl) | (obtain ⟨_, _, _, _, rfl, _⟩ := h; rfl) | (obtain ⟨_, _, _, _, _, rfl, _⟩ := h; rfl) | (obtain ⟨_, _, _, _, _, _, rfl, _⟩ := h; rfl) | (obtain ⟨_, _, _, _, _, _, _, rfl, _⟩ := h; rfl) | (obtain ⟨_, _, _, _, _, _, _, _, rfl, _⟩ := h; rfl) | (obtain ⟨_, rfl | rfl, _⟩ := h <;> rfl) | (obtain ⟨_, _, rfl | rfl, _⟩ := h <;> rfl) | (obtain ⟨_, _, _, rfl | rfl, _⟩ := h <;> rfl) | (obtain ⟨_, _, _, _, rfl | rfl, _⟩ := h <;> rfl) | (obtain ⟨_, _, _, _, _, rfl | rfl, _⟩ := h <;> rfl) | (obtain ⟨_, _, _, _, _, _, rfl | rfl, _⟩ := h <;> rfl) | (obtain ⟨_, _, _, _, _, _, _, rfl | rfl, _⟩ := h <;> rfl) | (obtain ⟨_, _, _, _, _, _, _, _, rfl | rfl, _⟩ := h <;> rfl)
theorem len__law_heap (as : List D) (t : Ts) (P : D → Ts → Prop) (h : sp__law_heap as t P) : as.length = 2 := by first | (obtain ⟨_, rfl, _⟩ := h; rfl) | (obtain ⟨_, _, rfl, _⟩ := h; rfl) | (obtain ⟨_, _, _, rfl, _⟩ := h; rfl) | (obtain ⟨_, _, _, _, rfl, _⟩ := h; rfl) | (obtain ⟨_, _, _, _, _, rfl, _⟩ := h; rfl) | (obtain ⟨_, _, _, _, _, _, rfl, _⟩ := h; rfl) | (obtain ⟨_, _, _, _, _, _, _, rfl, _⟩ := h; rfl) | (obtain ⟨_, _, _, _, _, _, _, _, rfl, _⟩ := h; rfl) | (obtain ⟨_, rfl | rfl, _⟩ := h <;> rfl) | (obtain ⟨_, _, rfl | rfl, _⟩ := h <;> rfl) | (obtain ⟨_, _, _, rfl | rfl, _⟩ := h <;> rfl) | (obtain ⟨_, _, _, _, rfl | rfl, _⟩ := h <;> rfl) | (obtain ⟨_, _, _, _, _, rfl | rfl, _⟩ := h <;> rfl) | (obtain ⟨_, _, _, _, _, _, rfl | rfl, _⟩ := h <;> rfl) | (obtain ⟨_, _, _, _, _, _, _, rfl | rfl, _⟩ := h <;> rfl) | (obtain ⟨_, _, _, _, _, _, _, _, rfl | rfl, _⟩ := h <;> rfl)
theorem len__law_last_4 (as : List D) (t : Ts) (P : D → Ts → Prop) (h : sp__law_last_4 as t P) : as.length = 3 := by first | (obtain ⟨_, rfl, _⟩ := h; rfl) | (obtain ⟨_, _, rfl, _⟩ := h; rfl) | (obtain ⟨_, _, _, rfl, _⟩ := h; rfl) | (obtain ⟨_, _, _, _, rfl, _⟩ := h; rfl) | (obtain ⟨_, _, _, _, _, rfl, _⟩ := h; rfl) | (obtain ⟨_, _, _, _, _, _, rfl, _⟩ := h; rfl) | (obtain ⟨_, _, _, _, _, _, _, rfl, _⟩ := h; rfl) | (obtain ⟨_, _, _, _, _, _, _, _, rfl, _⟩ := h; rfl) | (obtain ⟨_, rfl | rfl, _⟩ := h <;> rfl) | (obtain ⟨_, _, rfl | rfl, _⟩ := h <;> rfl) | (obtain ⟨_, _, _, rfl | rfl, _⟩ := h <;> rfl) | (obtain ⟨_, _, _, _, rfl | rfl, _⟩ := h <;> rfl) | (obtain ⟨_, _, _, _, _, rfl | rfl, _⟩ := h <;> rfl) | (obtain ⟨_, _, _, _, _, _, rfl | rfl, _⟩ := h <;> rfl) | (obtain ⟨_, _, _, _, _, _, _, rfl | rfl, _⟩ := h <;> rfl) | (obtain ⟨_, _, _, _, _, _, _, _, rfl | rfl, _⟩ := h <;> rfl)
theorem len__law_keeps_far (as : List D) (t : Ts) (P : D → Ts → Prop) (h : sp__law_keeps_far as t P) : as.length = 3 := by first | (obtain ⟨_, rfl, _⟩ := h; rfl) | (obtain ⟨_, _, rfl, _⟩ := h; rfl) | (obtain ⟨_, _, _, rfl, _⟩ := h; rfl) | (obtain ⟨_, _, _, _, rfl, _⟩ := h; rfl) | (obtain ⟨_, _, _, _, _, rfl, _⟩ := h; rfl) | (obtain ⟨_, _, _, _, _, _, rfl, _⟩ := h; rfl) | (obtain ⟨_, _, _, _, _, _, _, rfl, _⟩ := h; rfl) | (obtain ⟨_, _, _, _, _, _, _, _, rfl, _⟩ := h; rfl) | (obtain ⟨_, rfl | rfl, _⟩ := h <;> rfl) | (obtain ⟨_, _, rfl | rfl, _⟩ := h <;> rfl) | (obtain ⟨_, _, _, rfl | rfl, _⟩ := h <;> rfl) | (obtain ⟨_, _, _, _, rfl | rfl, _⟩ := h <;> rfl) | (obtain ⟨_, _, _, _, _, rfl | rfl, _⟩ := h <;> rfl) | (obtain ⟨_, _, _, _, _, _, rfl | rfl, _⟩ := h <;> rfl) | (obtain ⟨_, _, _, _, _, _, _, rfl | rfl, _⟩ := h <;> rfl) | (obtain ⟨_, _, _, _, _, _, _, _, rfl | rfl, _⟩ := h <;> rfl)
theorem len__law_number_2 (as : List D) (t : Ts) (P : D → Ts → Prop) (h : sp__law_number_2 as t P) : as.length = 2 := by first | (obtain ⟨_, rfl, _⟩ := h; rfl) | (obtain ⟨_, _, rfl, _⟩ := h; rfl) | (obtain ⟨_, _, _, rfl, _⟩ := h; rfl) | (obtain ⟨_, _, _, _, rfl, _⟩ := h; rfl) | (obtain ⟨_, _, _, _, _, rfl, _⟩ := h; rfl) | (obtain ⟨_, _, _, _, _, _, rfl, _⟩ := h; rfl) | (obtain ⟨_, _, _, _, _, _, _, rfl, _⟩ := h; rfl) | (obtain ⟨_, _, _, _, _, _, _, _, rfl, _⟩ := h; rfl) | (obtain ⟨_, rfl | rfl, _⟩ := h <;> rfl) | (obtain ⟨_, _, rfl | rfl, _⟩ := h <;> rfl) | (obtain ⟨_, _, _, rfl | rfl, _⟩ := h <;> rfl) | (obtain ⟨_, _, _, _, rfl | rfl, _⟩ := h <;> rfl) | (obtain ⟨_, _, _, _, _, rfl | rfl, _⟩ := h <;> rfl) | (obtain ⟨_, _, _, _, _, _, rfl | rfl, _⟩ := h <;> rfl) | (obtain ⟨_, _, _, _, _, _, _, rfl | rfl, _⟩ := h <;> rfl) | (obtain ⟨_, _, _, _, _, _, _, _, rfl | rfl, _⟩ := h <;> rfl)
theorem len__law_spot (as : List D) (t : Ts) (P : D → Ts → Prop) (h : sp__law_spot as t P) : as.length = 4 := by first | (obtain ⟨_, rfl, _⟩ := h; rfl) | (obtain ⟨_, _, rfl, _⟩ := h; rfl) | (obtain ⟨_, _, _, rfl, _⟩ := h; rfl) | (obtain ⟨_, _, _, _, rfl, _⟩ := h; rfl) | (obtain ⟨_, _, _, _, _, rfl, _⟩ := h; rfl) | (obtain ⟨_, _, _, _, _, _, rfl, _⟩ := h; rfl) | (obtain ⟨_, _, _, _, _, _, _, rfl, _⟩ := h; rfl) | (obtain ⟨_, _, _, _, _, _, _, _, rfl, _⟩ := h; rfl) | (obtain ⟨_, rfl | rfl, _⟩ := h <;> rfl) | (obtain ⟨_, _, rfl | rfl, _⟩ := h <;> rfl) | (obtain ⟨_, _, _, rfl | rfl, _⟩ := h <;> rfl) | (obtain ⟨_, _, _, _, rfl | rfl, _⟩ := h <;> rfl) | (obtain ⟨_, _, _, _, _, rfl | rfl, _⟩ := h <;> rfl) | (obtain ⟨_, _, _, _, _, _, rfl | rfl, _⟩ := h <;> rfl) | (obtain ⟨_, _, _, _, _, _, _, rfl | rfl, _⟩ := h <;> rfl) | (obtain ⟨_, _, _, _, _, _, _, _, rfl | rfl, _⟩ := h <;> rfl)
theorem len__law_saying (as : List D) (t : Ts) (P : D → Ts → Prop) (h : sp__law_saying as t P) : as.length = 4 := by first | (obtain ⟨_, rfl, _⟩ := h; rfl) | (obtain ⟨_, _, rfl, _⟩ := h; rfl) | (obtain ⟨_, _, _, rfl, _⟩ := h; rfl) | (obtain ⟨_, _, _, _, rfl, _⟩ := h; rfl) | (obtain ⟨_, _, _, _, _, rfl, _⟩ := h; rfl) | (obtain ⟨_, _, _, _, _, _, rfl, _⟩ := h; rfl) | (obtain ⟨_, _, _, _, _, _, _, rfl, _⟩ := h; rfl) | (obtain ⟨_, _, _, _, _, _, _, _, rfl, _⟩ := h; rfl) | (obtain ⟨_, rfl | rfl, _⟩ := h <;> rfl) | (obtain ⟨_, _, rfl | rfl, _⟩ := h <;> rfl) | (obtain ⟨_, _, _, rfl | rfl, _⟩ := h <;> rfl) | (obtain ⟨_, _, _, _, rfl | rfl, _⟩ := h <;> rfl) | (obtain ⟨_, _, _, _, _, rfl | rfl, _⟩ := h <;> rfl) | (obtain ⟨_, _, _, _, _, _, rfl | rfl, _⟩ := h <;> rfl) | (obtain ⟨_, _, _, _, _, _, _, rfl | rfl, _⟩ := h <;> rfl) | (obtain ⟨_, _, _, _, _, _, _, _, rfl | rfl, _⟩ := h <;> rfl)
def d__law_head : DS := (dSeq (dAsg (dC (.int 0)) (gName 2)) (dSeq (dWhile (dB (dOp oGe (dVar 1) (dVar 0))) (dSeq (dPar 1 2 (dCons (dOp oDiv (dVar 1) (dVar 0)) (dCons (dOp oAdd (dVar 2) (dC (.int 1))) dNil))) dNext)) (dSeq (dRet (dTup (dCons (dVar 1) (dCons (dVar 2) dNil)))) dNext)))
def d__law_heap : DS := (dSeq (dPar 2 3 (dCons (dC (.int 0)) (dCons (dOp oDiv (dVar 1) (dVar 0)) dNil))) (dSeq (dWhile (dB (dOp oGt (dVar 3) (dC (.int 0)))) (dSeq (dPar 2 3 (dCons (dOp oAdd (dVar 2) (dVar 3)) (dCons (dOp oDiv (dVar 3) (dVar 0)) dNil))) dNext)) (dSeq (dRet (dVar 2)) dNext)))
def d__law_last_4 : DS := (dSeq (dIf (dB (dOp oEq (dVar 2) (dC (.int 0)))) (dSeq (dRet (dC (.int 0))) dNext) dNext) (dSeq (dAsg (dCall sp__law_head [] (dCons (dVar 0) (dCons (dVar 2) dNil))) (gTup 2 (gCons (gName 4) (gCons (gName 5) gNil)))) (dSeq (dAsg (dOp oAdd (dOp oAdd (dVar 2) (dCall sp__law_heap [] (dCons (dVar 0) (dCons (dVar 2) dNil)))) (dOp oMul (dVar 5) (dOp oSub (dCB bSum (dCons (dVar 1) dNil)) (dCB bLen (dCons (dVar 1) dNil))))) (gName 3)) (dSeq (dRet (dOp oSub (dOp oAdd (dVar 3) (dCB bSum (dCons (dSlice (dVar 1) dNoPart (dPart (dVar 4))) dNil))) (dVar 4))) dNext))))
def d__law_keeps_far : DS := (dSeq (dAsg (dVar 2) (gTup 3 (gCons (gName 3) (gCons (gName 4) (gCons (gName 5) gNil))))) (dSeq (dIf (dB (dOp oEq (dVar 3) (dC (.str "at most")))) (dSeq (dRet (dOp oGe (dCall sp__law_last_4 [] (dCons (dVar 0) (dCons (dVar 1) (dCons (dVar 5) dNil)))) (dVar 4))) dNext) dNext) (dSeq (dRet (dOp oLt (dCall sp__law_last_4 [] (dCons (dVar 0) (dCons (dVar 1) (dCons (dOp oSub (dVar 5) (dC (.int 1))) dNil)))) (dVar 4))) dNext)))
def d__law_number_2 : DS := (dSeq (dAsg (dCall sp__law_draw [] (dCons (dVar 0) (dCons (dC (.int 4)) dNil))) (gName 2)) (dSeq (dIf (dB (dOp oEq (dVar 2) (dC (.int 0)))) (dSeq (dRet (dOp oAdd (dC (.int 1)) (dCall sp__law_draw [] (dCons (dVar 0) (dCons (dOp oMul (dC (.int 3)) (dVar 1)) dNil))))) dNext) dNext) (dSeq (dIf (dB (dOp oEq (dVar 2) (dC (.int 1)))) (dSeq (dRet (dCall sp__law_far [] (dCons (dVar 0) (dCons (dC (.int 54)) dNil)))) dNext) dNext) (dSeq (dAsg (dC (.int 1)) (gName 3)) (dSeq (dFor (iRng1 (dCall sp__law_draw [] (dCons (dVar 0) (dCons (dC (.int 30)) dNil)))) (gName 4) (dSeq (dAsg (dOp oMul (dVar 3) (dVar 1)) (gName 3)) dNext)) (dSeq (dAsg (dOp oMul (dVar 3) (dOp oAdd (dC (.int 1)) (dCall sp__law_draw [] (dCons (dVar 0) (dCons (dOp oSub (dVar 1) (dC (.int 1))) dNil))))) (gName 3)) (dSeq (dRet (dCB bMax (dCons (dC (.int 1)) (dCons (dOp oSub (dOp oAdd (dVar 3) (dCall sp__law_draw [] (dCons (dVar 0) (dCons (dC (.int 3)) dNil)))) (dC (.int 1))) dNil)))) dNext)))))))
def d__law_spot : DS := (dSeq (dAsg (dCall sp__law_last_4 [] (dCons (dVar 1) (dCons (dVar 2) (dCons (dVar 3) dNil)))) (gName 4)) (dSeq (dAsg (dOp oSub (dVar 4) (dCall sp__law_last_4 [] (dCons (dVar 1) (dCons (dVar 2) (dCons (dOp oSub (dVar 3) (dC (.int 1))) dNil))))) (gName 5)) (dSeq (dRet (dOp oSub (dVar 4) (dOp oIx (dLst (dCons (dC (.int 0)) (dCons (dOp oSub (dVar 5) (dC (.int 1))) (dCons (dCall sp__law_draw [] (dCons (dVar 0) (dCons (dVar 5) dNil))) dNil)))) (dCall sp__law_draw [] (dCons (dVar 0) (dCons (dC (.int 3)) dNil)))))) dNext)))
def d__law_saying : DS := (dSeq (dAsg (dCall sp__law_number_2 [] (dCons (dVar 0) (dCons (dVar 1) dNil))) (gName 4)) (dSeq (dAsg (dCall sp__law_spot [] (dCons (dVar 0) (dCons (dVar 1) (dCons (dVar 2) (dCons (dVar 4) dNil))))) (gName 5)) (dSeq (dIf (dB (dOp oEq (dCall sp__law_draw [] (dCons (dVar 0) (dCons (dC (.int 2)) dNil))) (dC (.int 0)))) (dSeq (dRet (dTup (dCons (dC (.str "at most")) (dCons (dVar 5) (dCons (dCB bMax (dCons (dC (.int 1)) (dCons (dOp oAdd (dVar 4) (dVar 3)) dNil))) dNil))))) dNext) dNext) (dSeq (dRet (dTup (dCons (dC (.str "at least")) (dCons (dVar 5) (dCons (dCB bMax (dCons (dC (.int 1)) (dCons (dOp oSub (dVar 4) (dVar 3)) dNil))) dNil))))) dNext))))
theorem exp_lt {b n : Int} (h2 : 2 ≤ b) {i : Nat} (h : b ^ i ≤ n) (hs : Sm 8000 n) : i < 8000 := by
  have a1 := two_pow_le h2 i
  have a3 : n < ((2 ^ 8000 : Nat) : Int) := by
    unfold Sm at hs
    omega
  rcases Nat.lt_or_ge i 8000 with z | z
  · exact z
  · exfalso
    have a4 : (2 : Nat) ^ 8000 ≤ 2 ^ i := Nat.pow_le_pow_right (by decide) z
    have a5 : ((2 ^ i : Nat) : Int) = (2 : Int) ^ i := by simp
    omega
theorem d__law_head_ok (as : List D) (t : Ts) (P : D → Ts → Prop) (h : sp__law_head as t P) : d__law_head (endsOf P) (start0 ["_law_base", "_law_number_here", "_law_steps"] as) t := by
  obtain ⟨b, n, rfl, h2, h30, n1, hs, k⟩ := h
  conv => whnf
  refine ⟨fun e m => t = m ∧ ∃ i : Nat, b ^ i ≤ n ∧ e = [.val (.int b), .val (.int (n / b ^ i)), .val (.int i)], fun e _ => match e with | [_, .val (.int q), _] => q.toNat | _ => 0, ⟨rfl, 0, by simpa using n1, by simp [start0]⟩, fun e m hI => ?_⟩
  obtain ⟨rfl, i, hi, rfl⟩ := hI
  have hp := pow_pos' (b := b) h2 i
  have hstep : (b : Int) ^ (i + 1) = b ^ i * b := Int.pow_succ ..
  have c1 : 1 ≤ n / b ^ i := by
    have := Int.ediv_le_ediv hp hi
    rw [Int.ediv_self (by omega)] at this
    exact this
  conv => whnf
  refine Br.mk (fun hx => ?_) (fun hx => ?_)
  · have hx := of_decide_eq_true hx
    have hle : b ^ (i + 1) ≤ n := by
      have := (Int.le_ediv_iff_mul_le hp).mp hx
      rw [hstep, Int.mul_comm]
      exact this
    conv => whnf
    refine ⟨.s (by omega) (by omega), ?_⟩
    conv => whnf
    refine ⟨⟨rfl, i + 1, hle, ?_⟩, ?_⟩
    · rw [hstep, Int.ediv_ediv_of_nonneg (by omega)]
      rfl
    · exact ediv_toNat_lt ⟨by omega, h2⟩
  · have hx := of_decide_eq_false hx
    have e1 := Int.mul_ediv_add_emod n (b ^ i)
    have r1 := Int.emod_nonneg n (show b ^ i ≠ 0 by omega)
    have r2 := Int.emod_lt_of_pos n hp
    conv => whnf
    exact k _ i c1 (by omega) (by rw [Int.mul_comm]; omega) (by rw [Int.add_mul, Int.one_mul, Int.mul_comm]; omega) (exp_lt h2 hi hs)
theorem d__law_heap_ok (as : List D) (t : Ts) (P : D → Ts → Prop) (h : sp__law_heap as t P) : d__law_heap (endsOf P) (start0 ["_law_base", "_law_number_here", "_law_found", "_law_left"] as) t := by
  obtain ⟨b, n, rfl, h2, h30, n0, k⟩ := h
  have h0 : 0 + n / b + heap b (n / b) = heap b n := by
    by_cases hn : 0 < n
    · rw [heap_pos hn h2]; omega
    · have : n = 0 := by omega
      subst this
      rw [Int.zero_ediv, heap_zero (by decide)]
      rfl
  conv => whnf
  refine ⟨.s (by omega) (by omega), ?_⟩
  conv => whnf
  refine ⟨fun e m => t = m ∧ ∃ f l : Int, 0 ≤ l ∧ f + l + heap b l = heap b n ∧ e = [.val (.int b), .val (.int n), .val (.int f), .val (.int l)], fun e _ => match e with | [_, _, _, .val (.int q)] => q.toNat | _ => 0, ⟨rfl, 0, n / b, Int.ediv_nonneg n0 (by omega), h0, rfl⟩, fun e m hI => ?_⟩
  obtain ⟨rfl, f, l, l0, hf, rfl⟩ := hI
  conv => whnf
  refine Br.mk (fun hx => ?_) (fun hx => ?_)
  · have hx : 0 < l := of_decide_eq_true hx
    conv => whnf
    refine ⟨.s (by omega) (by omega), ?_⟩
    conv => whnf
    refine ⟨⟨rfl, f + l, l / b, Int.ediv_nonneg l0 (by omega), ?_, rfl⟩, ediv_toNat_lt ⟨hx, h2⟩⟩
    rw [heap_pos hx h2] at hf
    omega
  · have hx : ¬ 0 < l := of_decide_eq_false hx
    have : l = 0 := by omega
    subst this
    rw [heap_zero (by decide)] at hf
    conv => whnf
    rw [show f = heap b n by omega]
    exact k
theorem d__law_last_4_ok (as : List D) (t : Ts) (P : D → Ts → Prop) (h : sp__law_last_4 as t P) : d__law_last_4 (endsOf P) (start0 ["_law_base", "_law_begun", "_law_number_here", "_law_found", "_law_sign", "_law_steps"] as) t := by
  obtain ⟨b, bs, n, rfl, hh, n0, hs, k⟩ := h
  have h2 := hh.b2
  have h30 := hh.b30
  have hl := hh.len
  conv => whnf
  refine Br.mk (fun hn => ?_) (fun hn => ?_)
  · have hn := of_decide_eq_true hn
    subst hn
    rw [Lp_le0 (by decide)] at k
    exact k
  · have hn := of_decide_eq_false hn
    conv => whnf
    refine ⟨b, n, rfl, h2, h30, by omega, hs, fun c e c1 c2 e1 e2 he => ?_⟩
    conv => whnf
    refine ⟨rfl, ?_⟩
    conv => whnf
    refine ⟨b, n, rfl, h2, h30, n0, ?_⟩
    refine ⟨bs, ints_map bs, ?_⟩
    conv => whnf
    refine ⟨.l (by omega) (by omega), ?_⟩
    conv => whnf
    have hcut : cutD (bs.map D.int) none (some c) = (bs.take c.toNat).map .int := by
      have := cut_own (l := bs) (a := c.toNat)
      rw [show ((c.toNat : Nat) : Int) = c by omega] at this
      exact this
    rw [hcut]
    refine ⟨_, ints_map _, ?_⟩
    conv => whnf
    have hfin : n + heap b n + e * (bs.sum - ((bs.map D.int).length : Int)) + (bs.take c.toNat).sum - c = Lp b bs n := by
      rw [List.length_map, Re_sum, Su_sum (by omega), show ((c.toNat : Nat) : Int) = c by omega, Lp_in hh c1 c2 e n e1 e2]
      omega
    rw [hfin]
    exact k
theorem d__law_keeps_far_ok (as : List D) (t : Ts) (P : D → Ts → Prop) (h : sp__law_keeps_far as t P) : d__law_keeps_far (endsOf P) (start0 ["_law_base", "_law_begun", "_law_saying_here", "_law_word", "_law_spot_here", "_law_number_here"] as) t := by
  obtain ⟨b, bs, ⟨w, p, n⟩, rfl, hh, ⟨⟨p1, n1⟩, ps, ns⟩, k⟩ := h
  have p1 : 1 ≤ p := p1
  have n1 : 1 ≤ n := n1
  have ns : Sm 8000 n := ns
  cases w with
  | true =>
    conv => whnf
    refine ⟨rfl, ?_⟩
    conv => whnf
    refine ⟨⟨pl_am, pl_am, Nat.zero_le _, Nat.zero_le _⟩, ?_⟩
    conv => whnf
    refine ⟨b, bs, n, rfl, hh, by omega, ns, ?_⟩
    exact k
  | false =>
    conv => whnf
    refine ⟨rfl, ?_⟩
    conv => whnf
    refine ⟨⟨pl_al, pl_am, Nat.zero_le _, Nat.zero_le _⟩, ?_⟩
    conv => whnf
    refine ⟨b, bs, n - 1, rfl, hh, by omega, Sm.of (by omega) (show n - 1 ≤ n by omega) ns, ?_⟩
    exact k
theorem d__law_number_2_ok (as : List D) (t : Ts) (P : D → Ts → Prop) (h : sp__law_number_2 as t P) : d__law_number_2 (endsOf P) (start0 ["_law_pen_here", "_law_base", "_law_road", "_law_power", "_law_k"] as) t := by
  obtain ⟨b, n, rfl, h2, h30, hp, hn, k⟩ := h
  conv => whnf
  refine ⟨_, _, rfl, by first | omega | decide, (sm64 (by first | omega | decide) (by first | omega | decide)).mono (by decide), hp, by omega, fun r t1 r0 r1 pt1 => ?_⟩
  conv => whnf
  refine Br.mk (fun hr => ?_) (fun hr => ?_)
  · conv => whnf
    refine ⟨.r (by omega) (by omega), ?_⟩
    conv => whnf
    refine ⟨_, _, rfl, by omega, (sm64 (by omega) (by omega)).mono (by decide), pt1, by omega, fun z t2 z0 z1 p2 => ?_⟩
    exact k _ _ (by omega) ((sm64 (by omega) (by omega)).mono (by decide)) (p2.mono (by omega))
  · conv => whnf
    refine Br.mk (fun hr1 => ?_) (fun hr1 => ?_)
    · conv => whnf
      refine ⟨54, _, rfl, by decide, pt1, by omega, fun z t2 z1 zs p2 => ?_⟩
      exact k _ _ z1 (zs.mono (by decide)) (p2.mono (by omega))
    · conv => whnf
      refine ⟨_, _, rfl, by first | omega | decide, (sm64 (by first | omega | decide) (by first | omega | decide)).mono (by decide), pt1, by omega, fun c t2 c0 c1 pt2 => ?_⟩
      conv => whnf
      refine ⟨by omega, ?_⟩
      conv => whnf
      refine ⟨fun i e m => t2 = m ∧ ∃ q s4, 1 ≤ q ∧ Sm (5 * i + 1) q ∧ e = [.val .pen, .val (.int b), .val (.int r), .val (.int q), s4], ⟨rfl, 1, _, by decide, by unfold Sm; decide, rfl⟩, fun i x e m hx hI => ?_, fun e m hI => ?_⟩
      · obtain ⟨rfl, q, s4, q1, qs, rfl⟩ := hI
        obtain ⟨hi, rfl⟩ := rng_get hx
        conv => whnf
        refine ⟨.r (by omega) (by omega), ?_⟩
        conv => whnf
        refine ⟨rfl, q * b, _, ?_, (Sm.mul qs (b := 5) (by unfold Sm; omega)).mono (by omega), rfl⟩
        have := Int.mul_le_mul_of_nonneg_left (show (1 : Int) ≤ b by omega) (show 0 ≤ q by omega)
        omega
      · obtain ⟨rfl, q, s4, q1, qs, rfl⟩ := hI
        rw [rng_len] at qs
        have qs : Sm 150 q := qs.mono (by omega)
        conv => whnf
        refine ⟨_, _, rfl, by first | omega | decide, (sm64 (by first | omega | decide) (by first | omega | decide)).mono (by decide), pt2, by omega, fun v t3 v0 v1 pt3 => ?_⟩
        conv => whnf
        refine ⟨.r (by omega) (by omega), ?_⟩
        conv => whnf
        refine ⟨_, _, rfl, by first | omega | decide, (sm64 (by first | omega | decide) (by first | omega | decide)).mono (by decide), pt3, by omega, fun y t4 y0 y1 pt4 => ?_⟩
        conv => whnf
        have hq : Sm 160 (q * (1 + v)) := (Sm.mul qs (show Sm 5 (1 + v) by unfold Sm; omega)).mono (by decide)
        have hq1 : 1 ≤ q * (1 + v) := by
          have := Int.mul_le_mul_of_nonneg_left (show (1 : Int) ≤ 1 + v by omega) (show 0 ≤ q by omega)
          omega
        have hs2 : Sm 170 (q * (1 + v) + y) := (Sm.add hq ((sm64 (by omega) (by omega)).mono (by decide))).mono (by decide)
        refine k _ _ (by split <;> omega) ?_ (pt4.mono (by omega))
        split
        · exact (Sm.of (by omega) (show q * (1 + v) + y - 1 ≤ q * (1 + v) + y by omega) hs2).mono (by decide)
        · exact (sm64 (by decide) (by decide)).mono (by decide)
theorem d__law_spot_ok (as : List D) (t : Ts) (P : D → Ts → Prop) (h : sp__law_spot as t P) : d__law_spot (endsOf P) (start0 ["_law_pen_here", "_law_base", "_law_begun", "_law_number_here", "_law_last_here", "_law_many"] as) t := by
  obtain ⟨b, bs, m, n, rfl, hh, hbs, m1, ms, hp, hn, k⟩ := h
  have st := Lp_step hh m1
  have T := Ti_sm' hh hbs (by decide) m1 ms
  unfold Ti at T
  conv => whnf
  refine ⟨b, bs, m, rfl, hh, by omega, ms.mono (by decide), ?_⟩
  conv => whnf
  refine ⟨b, bs, m - 1, rfl, hh, by omega, (Sm.of (by omega) (show m - 1 ≤ m by omega) ms).mono (by decide), ?_⟩
  conv => whnf
  refine ⟨_, _, rfl, by omega, T.mono (by decide), hp, by omega, fun z t1 z0 z1 p1 => ?_⟩
  conv => whnf
  refine ⟨_, _, rfl, by first | omega | decide, (sm64 (by first | omega | decide) (by first | omega | decide)).mono (by decide), p1, by omega, fun w t2 w0 w1 pt2 => ?_⟩
  conv => whnf
  have hv : ∃ v : Int, atI [.int 0, .int (Lp b bs m - Lp b bs (m - 1) - 1), .int z] w = some (.int v) ∧ 0 ≤ v ∧ v ≤ Lp b bs m - Lp b bs (m - 1) - 1 := by
    rcases (by omega : w = 0 ∨ w = 1 ∨ w = 2) with e | e | e <;> subst e
    · exact ⟨_, rfl, by omega, by omega⟩
    · exact ⟨_, rfl, by omega, by omega⟩
    · exact ⟨_, rfl, by omega, by omega⟩
  obtain ⟨v, hv, v0, v1⟩ := hv
  refine ⟨_, hv, ?_⟩
  exact k _ _ (by omega) (by omega) (pt2.mono (by omega))
theorem d__law_saying_ok (as : List D) (t : Ts) (P : D → Ts → Prop) (h : sp__law_saying as t P) : d__law_saying (endsOf P) (start0 ["_law_pen_here", "_law_base", "_law_begun", "_law_off", "_law_number_here", "_law_spot_here"] as) t := by
  obtain ⟨b, bs, o, n, rfl, hh, hbs, o0, o1, hp, hn, k⟩ := h
  conv => whnf
  refine ⟨b, n, rfl, hh.b2, hh.b30, hp, by omega, fun m t1 m1 ms p1 => ?_⟩
  conv => whnf
  refine ⟨b, bs, m, _, rfl, hh, hbs, m1, ms.mono (by decide), p1, by omega, fun p t2 q0 q1 p2 => ?_⟩
  have L0 := Lp_nn hh (n := m - 1) (by omega)
  have psm : Sm 4000 p := Sm.of (by omega) q1 ((Lp_sm3 hh hbs (by decide) (show 0 ≤ m by omega) ms).mono (by decide))
  have big : ∀ x : Int, 1 ≤ x → x ≤ m + 20 → Sm 300 x := fun x h1 h2 => Sm.of (by omega) h2 ((Sm.add ms ((show Sm 5 20 by unfold Sm; decide).mono (by decide))).mono (by decide))
  conv => whnf
  refine ⟨_, _, rfl, by first | omega | decide, (sm64 (by first | omega | decide) (by first | omega | decide)).mono (by decide), p2, by omega, fun w t3 w0 w1 pt3 => ?_⟩
  conv => whnf
  refine Br.mk (fun hw => ?_) (fun hw => ?_)
  · conv => whnf
    have hx : 1 ≤ (if m + o > 1 then m + o else 1) ∧ (if m + o > 1 then m + o else 1) ≤ m + 20 := by split <;> omega
    exact k ⟨true, p, _⟩ t3 ⟨⟨by show 1 ≤ p; omega, hx.1⟩, psm.mono (by decide), (big _ hx.1 hx.2).mono (by decide)⟩ psm (big _ hx.1 hx.2) (pt3.mono (by omega))
  · conv => whnf
    have hx : 1 ≤ (if m - o > 1 then m - o else 1) ∧ (if m - o > 1 then m - o else 1) ≤ m + 20 := by split <;> omega
    exact k ⟨false, p, _⟩ t3 ⟨⟨by show 1 ≤ p; omega, hx.1⟩, psm.mono (by decide), (big _ hx.1 hx.2).mono (by decide)⟩ psm (big _ hx.1 hx.2) (pt3.mono (by omega))
end Q

/-! M_k51 -/
namespace Q
open PySem
theorem rp_bl (x : Bool) : RpOk (.bl x) := ⟨rfl, by show 0 ≤ 60; decide, trivial, by show 5 ≤ zLen; unfold zLen; decide⟩
def d_law (W : Cl) : DS := (dSeq (dFor (iRng1 (dOp oAdd (dC (.int 1)) (dCB bMin (dCons (dC (.int 4)) (dCons (dOp oDiv (dCB bLen (dCons (dVar 0) dNil)) (dC (.int 2))) dNil))))) (gName 2) (dSeq (dAsg (dOp oIx (dLst (dCons (dOp oAdd (dC (.int 2)) (dCall sp__law_draw [] (dCons (dVar 1) (dCons (dC (.int 5)) dNil)))) (dCons (dOp oAdd (dC (.int 2)) (dCall sp__law_draw [] (dCons (dVar 1) (dCons (dC (.int 29)) dNil)))) dNil))) (dCall sp__law_draw [] (dCons (dVar 1) (dCons (dC (.int 2)) dNil)))) (gName 3)) (dSeq (dAsg (dCall sp__law_beginning [] (dCons (dVar 1) (dCons (dVar 3) (dCons (dC (.int 6)) dNil)))) (gName 4)) (dSeq (dPar 6 7 (dCons (dCall (sp_House___init__ W) [] (dCons (dVar 3) (dCons (dCB bList (dCons (dVar 4) dNil)) dNil))) (dCons (dCall sp__law_gone [] (dCons (dVar 3) (dCons (dVar 4) (dCons (dOp oAdd (dC (.int 30)) (dCall sp__law_draw [] (dCons (dVar 1) (dCons (dC (.int 71)) dNil)))) dNil)))) dNil))) (dSeq (dFor (iRng1 (dC (.int 16))) (gName 5) (dSeq (dAsg (dOp oAdd (dC (.int 1)) (dCall sp__law_draw [] (dCons (dVar 1) (dCons (dCB bLen (dCons (dVar 7) dNil)) dNil)))) (gName 8)) (dSeq (dAsg (dOp oIx (dVar 7) (dOp oSub (dVar 8) (dC (.int 1)))) (gName 9)) (dSeq (dAsg (dOp oIx (dLst (dCons (dCB bMax (dCons (dC (.int 1)) (dCons (dOp oSub (dOp oAdd (dVar 9) (dCall sp__law_draw [] (dCons (dVar 1) (dCons (dC (.int 5)) dNil)))) (dC (.int 2))) dNil))) (dCons (dOp oAdd (dC (.int 1)) (dCall sp__law_draw [] (dCons (dVar 1) (dCons (dOp oPow (dC (.int 10)) (dC (.int 12))) dNil)))) dNil))) (dCB bInt (dCons (dOp oEq (dCall sp__law_draw [] (dCons (dVar 1) (dCons (dC (.int 9)) dNil))) (dC (.int 0))) dNil))) (gName 10)) (dSeq (dIf (dB (dOp oNeR (dCB bRepr (dCons (dCall (sp_keeps W) [] (dCons (dVar 6) (dCons (dTup (dCons (dC (.str "at most")) (dCons (dVar 8) (dCons (dVar 10) dNil)))) dNil))) dNil)) (dCB bRepr (dCons (dOp oLe (dVar 9) (dVar 10)) dNil)))) (dSeq (dRet (dC (.bl false))) dNext) dNext) (dSeq (dIf (dB (dOp oNeR (dCB bRepr (dCons (dCall (sp_keeps W) [] (dCons (dVar 6) (dCons (dTup (dCons (dC (.str "at least")) (dCons (dVar 8) (dCons (dVar 10) dNil)))) dNil))) dNil)) (dCB bRepr (dCons (dOp oGe (dVar 9) (dVar 10)) dNil)))) (dSeq (dRet (dC (.bl false))) dNext) dNext) dNext)))))) (dSeq (dAsg (dCall sp__law_beginning [] (dCons (dVar 1) (dCons (dVar 3) (dCons (dOp oPow (dC (.int 10)) (dC (.int 40))) dNil)))) (gName 4)) (dSeq (dAsg (dCall (sp_House___init__ W) [] (dCons (dVar 3) (dCons (dVar 4) dNil))) (gName 6)) (dSeq (dFor (iRng1 (dC (.int 6))) (gName 5) (dSeq (dAsg (dCall sp__law_saying [] (dCons (dVar 1) (dCons (dVar 3) (dCons (dVar 4) (dCons (dOp oSub (dCall sp__law_draw [] (dCons (dVar 1) (dCons (dC (.int 5)) dNil))) (dC (.int 2))) dNil))))) (gName 11)) (dSeq (dIf (dB (dOp oNeR (dCB bRepr (dCons (dCall (sp_keeps W) [] (dCons (dVar 6) (dCons (dVar 11) dNil))) dNil)) (dCB bRepr (dCons (dCall sp__law_keeps_far [] (dCons (dVar 3) (dCons (dVar 4) (dCons (dVar 11) dNil)))) dNil)))) (dSeq (dRet (dC (.bl false))) dNext) dNext) dNext))) dNext)))))))) (dSeq (dRet (dC (.bl true))) dNext))
abbrev Nlaw : List Str := ["_law_script", "_law_pen_here", "_law_turn", "_law_base", "_law_begun", "_law_k", "_law_house", "_law_row", "_law_spot_here", "_law_here", "_law_number_here", "_law_saying_here"]
theorem law_run (W : Cl) (ns : List Int) (t : Ts) (hp : Pk 0 t) : d_law W (endsOf fun d _ => d = .bl true) ((start0 Nlaw [.scr ns]).set 1 (.val .pen)) t := by
  conv => whnf
  repeat (refine And.intro (by first | omega | rfl | exact MulOk.r (by decide) (by decide) | exact MulOk.l (by omega) (by omega) | exact MulOk.r (by omega) (by omega) | exact DivOk.s (by omega) (by omega) | exact PowOk.s (by decide) (by decide) (by decide) (by decide) | (unfold zLen; omega) | (simp only [List.length_append, List.length_map, List.length_cons, List.length_nil]; unfold zLen; omega)) ?_; conv => whnf)
  refine ⟨fun i e m => Pk (3000 * i) m ∧ ∃ s2 s3 s4 s5 s6 s7 s8 s9 s10 s11, e = [.val (.scr ns), .val .pen, s2, s3, s4, s5, s6, s7, s8, s9, s10, s11], ⟨by simpa using hp, _, _, _, _, _, _, _, _, _, _, rfl⟩, fun i x e m hx hI => ?_, fun e m hI => ?_⟩
  · obtain ⟨pm, s2, s3, s4, s5, s6, s7, s8, s9, s10, s11, rfl⟩ := hI
    obtain ⟨hi, rfl⟩ := rng_get hx
    have hi : i < 5 := by omega
    clear hx
    conv => whnf
    refine ⟨_, _, rfl, by first | omega | decide, (sm64 (by first | omega | decide) (by first | omega | decide)).mono (by decide), pm, by omega, fun u t1 u0 u1 pt1 => ?_⟩
    conv => whnf
    refine ⟨_, _, rfl, by first | omega | decide, (sm64 (by first | omega | decide) (by first | omega | decide)).mono (by decide), pt1, by omega, fun v t2 v0 v1 pt2 => ?_⟩
    conv => whnf
    refine ⟨_, _, rfl, by first | omega | decide, (sm64 (by first | omega | decide) (by first | omega | decide)).mono (by decide), pt2, by omega, fun w t3 w0 w1 pt3 => ?_⟩
    conv => whnf
    obtain ⟨b, e, hb⟩ := pick2 (a := 2 + u) (c := 2 + v) w0 w1
    refine ⟨_, e, ?_⟩
    have h2 : 2 ≤ b := by omega
    have h30 : b ≤ 30 := by omega
    clear e hb
    conv => whnf
    refine ⟨b, 6, _, rfl, h2, h30, by decide, (sm64 (by decide) (by decide)).mono (by decide), pt3, by omega, fun bs t4 hh hbb pt4 => ?_⟩
    have hl := hh.len
    conv => whnf
    refine ⟨b, bs, .inl rfl, hh, ?_⟩
    conv => whnf
    refine ⟨_, _, rfl, by first | omega | decide, (sm64 (by first | omega | decide) (by first | omega | decide)).mono (by decide), pt4, by omega, fun z t5 z0 z1 pt5 => ?_⟩
    conv => whnf
    obtain ⟨n, hn, hn6⟩ : ∃ n : Nat, (30 + z : Int) = n ∧ 30 ≤ n ∧ n ≤ 101 := ⟨(30 + z).toNat, by omega, by omega, by omega⟩
    rw [hn]
    refine ⟨b, bs, n, rfl, hh, fun x hx => by have := hbb x hx; omega, by omega, ?_⟩
    have pt5 : Pk (3000 * i + 300) t5 := pt5.mono (by omega)
    conv => whnf
    refine ⟨by omega, ?_⟩
    conv => whnf
    refine ⟨fun j e m => Pk (3000 * i + 300 + 10 * j) m ∧ ∃ s5 s8 s9 s10, e = [.val (.scr ns), .val .pen, .val (.int (0 + i)), .val (.int b), .val (.lst (bs.map .int)), s5, .val (hD W b bs), .val (.lst ((gl b bs n).map .int)), s8, s9, s10, s11], ⟨pt5.mono (by omega), _, _, _, _, rfl⟩, fun j x e m hx hI => ?_, fun e m hI => ?_⟩
    · obtain ⟨pm, s5, s8, s9, s10, rfl⟩ := hI
      obtain ⟨hj, rfl⟩ := rng_get hx
      have hj : j < 16 := by omega
      clear hx
      conv => whnf
      rw [List.length_map, gl_len]
      refine ⟨_, _, rfl, by first | omega | decide, (sm64 (by first | omega | decide) (by first | omega | decide)).mono (by decide), pm, by omega, fun q t6 q0 q1 pt6 => ?_⟩
      conv => whnf
      refine ⟨_, atI_ints (i := 1 + q - 1) (by omega) (by rw [gl_len]; omega), ?_⟩
      rw [gl_at (by omega), show (((1 + q - 1).toNat : Nat) : Int) + 1 = 1 + q by omega]
      have hh1 := sd_pos hh (1 + q)
      have hh2 := sd_le hh (p := 1 + q) (by omega)
      generalize hp : 1 + q = p at *
      conv => whnf
      refine ⟨_, _, rfl, by first | omega | decide, (sm64 (by first | omega | decide) (by first | omega | decide)).mono (by decide), pt6, by omega, fun y t7 y0 y1 pt7 => ?_⟩
      conv => whnf
      refine ⟨PowOk.s (by decide) (by decide) (by decide) (by decide), ?_⟩
      conv => whnf
      have h12 : (10 : Int) ^ Int.toNat 12 = 1000000000000 := by decide
      rw [h12]
      refine ⟨_, _, rfl, by first | omega | decide, (sm64 (by first | omega | decide) (by first | omega | decide)).mono (by decide), pt7, by omega, fun r t8 r0 r1 pt8 => ?_⟩
      conv => whnf
      refine ⟨_, _, rfl, by first | omega | decide, (sm64 (by first | omega | decide) (by first | omega | decide)).mono (by decide), pt8, by omega, fun g t9 g0 g1 pt9 => ?_⟩
      conv => whnf
      have hN : ∃ N : Int, atI [.int (if sd b bs p + y - 2 > 1 then sd b bs p + y - 2 else 1), .int (1 + r)] (if decide (g = 0) = true then 1 else 0) = some (.int N) ∧ 1 ≤ N ∧ N ≤ 2000000000000 := by
        generalize hm : (if sd b bs p + y - 2 > 1 then sd b bs p + y - 2 else 1) = mx
        have hm1 : 1 ≤ mx ∧ mx ≤ 2000 := by rw [← hm]; split <;> omega
        by_cases hg : g = 0
        · rw [show (if decide (g = 0) = true then (1 : Int) else 0) = 1 by simp [hg]]
          exact ⟨1 + r, rfl, by omega, by omega⟩
        · rw [show (if decide (g = 0) = true then (1 : Int) else 0) = 0 by simp [hg]]
          exact ⟨mx, rfl, by omega, by omega⟩
      obtain ⟨N, hN, N1, N2⟩ := hN
      refine ⟨_, hN, ?_⟩
      have psm : Sm 64 p := sm64 (by omega) (by omega)
      have nsm : Sm 64 N := sm64 (by omega) (by omega)
      conv => whnf
      refine ⟨b, bs, ⟨true, p, N⟩, rfl, hh, ⟨⟨by show 1 ≤ p; omega, N1⟩, psm.mono (by decide), nsm.mono (by decide)⟩, ?_⟩
      conv => whnf
      refine ⟨rp_bl _, ?_⟩
      conv => whnf
      refine ⟨rp_bl _, ?_⟩
      conv => whnf
      refine fun kk hk => ?_
      obtain rfl := hk (by rw [keep_am hh (by omega) N1])
      conv => whnf
      refine ⟨b, bs, ⟨false, p, N⟩, rfl, hh, ⟨⟨by show 1 ≤ p; omega, N1⟩, psm.mono (by decide), nsm.mono (by decide)⟩, ?_⟩
      conv => whnf
      refine ⟨rp_bl _, ?_⟩
      conv => whnf
      refine ⟨rp_bl _, ?_⟩
      conv => whnf
      refine fun kk hk => ?_
      obtain rfl := hk (by rw [keep_al hh (by omega) N1])
      exact ⟨pt9.mono (by omega), _, _, _, _, rfl⟩
    obtain ⟨pm, s5, s8, s9, s10, rfl⟩ := hI
    rw [rng_len] at pm
    conv => whnf
    refine ⟨PowOk.s (by decide) (by decide) (by decide) (by decide), ?_⟩
    conv => whnf
    refine ⟨b, _, _, rfl, h2, h30, by decide, Sm.lit (b := 8000) (Nat.lt_of_lt_of_le (show ((10 : Int) ^ Int.toNat 40).natAbs < 2 ^ 140 by decide) (Nat.pow_le_pow_right (by decide) (by decide))), pm, by omega, fun cs t10 hc hcb p10 => ?_⟩
    have hcs : HSm 2000 cs := fun x hx => by
      have h1 := hcb x hx
      have h3 := hc.pos x hx
      exact (Sm.of (by omega) h1 (Sm.lit (b := 140) (by decide))).mono (by decide)
    conv => whnf
    refine ⟨b, cs, .inl rfl, hc, ?_⟩
    conv => whnf
    refine ⟨by omega, ?_⟩
    conv => whnf
    refine ⟨fun j e m => Pk (3000 * i + 700 + 50 * j) m ∧ ∃ s5 s11, e = [.val (.scr ns), .val .pen, .val (.int (0 + i)), .val (.int b), .val (.lst (cs.map .int)), s5, .val (hD W b cs), .val (.lst ((gl b bs n).map .int)), s8, s9, s10, s11], ⟨p10.mono (by omega), _, _, rfl⟩, fun j x e m hx hI => ?_, fun e m hI => ?_⟩
    · obtain ⟨pm, s5, s11, rfl⟩ := hI
      obtain ⟨hj, rfl⟩ := rng_get hx
      have hj : j < 6 := by omega
      clear hx
      conv => whnf
      refine ⟨_, _, rfl, by first | omega | decide, (sm64 (by first | omega | decide) (by first | omega | decide)).mono (by decide), pm, by omega, fun q t6 q0 q1 pt6 => ?_⟩
      conv => whnf
      refine ⟨b, cs, _, _, rfl, hc, hcs, by omega, by omega, pt6, by omega, fun s t7 hs _ _ p7 => ?_⟩
      conv => whnf
      refine ⟨b, cs, s, rfl, hc, hs, ?_⟩
      conv => whnf
      refine ⟨rp_bl _, ?_⟩
      conv => whnf
      refine ⟨b, cs, s, rfl, hc, hs, ?_⟩
      conv => whnf
      refine ⟨rp_bl _, ?_⟩
      conv => whnf
      refine fun kk hk => ?_
      obtain rfl := hk rfl
      exact ⟨p7.mono (by omega), _, _, rfl⟩
    · obtain ⟨pm, s5, s11, rfl⟩ := hI
      rw [rng_len] at pm
      exact ⟨pm.mono (by omega), _, _, _, _, _, _, _, _, _, _, rfl⟩
  · obtain ⟨pm, s2, s3, s4, s5, s6, s7, s8, s9, s10, s11, rfl⟩ := hI
    rfl
theorem d_law_ok (W : Cl) (ns : List Int) (hl : ns.length ≤ 63) : (dCall sp__law_pen [] (dCons (dVar 0) dNil)) (start0 Nlaw [.scr ns]) ⟨[], 0, 0, false⟩ (fun d _ => ∃ cs : List Int, d = .dic (if false = true then [.inr "cells", .inr "turn", .inr "rest"] else [.inr "cells", .inr "at", .inr "left"]) [.lst (cs.map .int), .int 0, .int 0] ∧ cs.length ≤ 63 ∧ d_law W (endsOf fun d _ => d = .bl true) ((start0 Nlaw [.scr ns]).set 1 (.val .pen)) ⟨cs, 0, 0, false⟩) :=
  ⟨ns, rfl, hl, fun cs hc => ⟨cs, rfl, hc, law_run W ns _ (Pk.zero hc)⟩⟩
end Q

/-! T_k51 -/
namespace L_k51
open PySem L2 PyProof.Rows Q
def top (i : Nat) : Stmt := PySem.Challenge.pw_askback_k51_sayings_kept_by_going.main.body.getD i (.Pass ⟨0, 0, 0, 0⟩)
abbrev s__law_draw : Stmt := top 25
abbrev N__law_draw : List Str := ["_law_pen_here", "_law_many", "_law_at", "_law_cell", "_law_number_here", "_law_lap", "_law_digit"]
abbrev s__law_beginning : Stmt := top 26
abbrev N__law_beginning : List Str := ["_law_pen_here", "_law_base", "_law_most", "_law_k"]
abbrev s__law_gone : Stmt := top 28
abbrev N__law_gone : List Str := ["_law_base", "_law_begun", "_law_many", "_law_found", "_law_k", "_law_span", "_law_place_here", "_law_total", "_law_one", "_law_spot_here"]
abbrev s__law_head : Stmt := top 29
abbrev N__law_head : List Str := ["_law_base", "_law_number_here", "_law_steps"]
abbrev s__law_heap : Stmt := top 30
abbrev N__law_heap : List Str := ["_law_base", "_law_number_here", "_law_found", "_law_left"]
abbrev s__law_last_4 : Stmt := top 31
abbrev N__law_last_4 : List Str := ["_law_base", "_law_begun", "_law_number_here", "_law_found", "_law_sign", "_law_steps"]
abbrev s__law_keeps_far : Stmt := top 32
abbrev N__law_keeps_far : List Str := ["_law_base", "_law_begun", "_law_saying_here", "_law_word", "_law_spot_here", "_law_number_here"]
abbrev s__law_pen : Stmt := top 24
abbrev N__law_pen : List Str := ["_law_script", "_law_most", "_law_cell"]
abbrev s__law_far : Stmt := top 27
abbrev N__law_far : List Str := ["_law_pen_here", "_law_figures", "_law_number_here", "_law_k"]
abbrev s__law_number_2 : Stmt := top 33
abbrev N__law_number_2 : List Str := ["_law_pen_here", "_law_base", "_law_road", "_law_power", "_law_k"]
abbrev s__law_spot : Stmt := top 34
abbrev N__law_spot : List Str := ["_law_pen_here", "_law_base", "_law_begun", "_law_number_here", "_law_last_here", "_law_many"]
abbrev s__law_saying : Stmt := top 35
abbrev N__law_saying : List Str := ["_law_pen_here", "_law_base", "_law_begun", "_law_off", "_law_number_here", "_law_spot_here"]
abbrev s_heap_of : Stmt := top 3
abbrev N_heap_of : List Str := ["number", "base", "found"]
abbrev s_signs_of : Stmt := top 2
abbrev N_signs_of : List Str := ["number", "base", "found", "sign"]
abbrev s_last_by : Stmt := top 16
abbrev N_last_by : List Str := ["base", "sums", "number", "signs"]
abbrev s_House_last_place : Stmt := inClass (top 17) 6
abbrev N_House_last_place : List Str := ["self", "number"]
abbrev s_kept_by : Stmt := top 21
abbrev N_kept_by : List Str := ["house", "saying", "word", "place", "number"]
abbrev s_is_listing : Stmt := top 13
abbrev N_is_listing : List Str := ["thing"]
abbrev s_is_whole : Stmt := top 10
abbrev N_is_whole : List Str := ["thing"]
abbrev s_is_count : Stmt := top 11
abbrev N_is_count : List Str := ["thing"]
abbrev s_is_saying : Stmt := top 19
abbrev N_is_saying : List Str := ["thing"]
abbrev s_need_sayings : Stmt := top 20
abbrev N_need_sayings : List Str := ["sayings", "place", "saying"]
abbrev s_keeps : Stmt := top 22
abbrev N_keeps : List Str := ["house", "saying"]
abbrev s_is_base : Stmt := top 12
abbrev N_is_base : List Str := ["thing"]
abbrev s_is_beginning : Stmt := top 15
abbrev N_is_beginning : List Str := ["base", "thing", "many"]
abbrev s_House___init__ : Stmt := inClass (top 17) 0
abbrev N_House___init__ : List Str := ["self", "k", "beginning", "many"]
abbrev s_law : Stmt := top 36
abbrev N_law : List Str := ["_law_script", "_law_pen_here", "_law_turn", "_law_base", "_law_begun", "_law_k", "_law_house", "_law_row", "_law_spot_here", "_law_here", "_law_number_here", "_law_saying_here"]
structure Tx (K : PySem.W.Frag) (mg : Str → Option Value) (a__law_draw a__law_beginning a__law_gone a__law_head a__law_heap a__law_last_4 a__law_keeps_far a__law_pen a__law_far a__law_number_2 a__law_spot a__law_saying a_heap_of a_signs_of a_last_by a_House_last_place a_kept_by a_is_listing a_is_whole a_is_count a_is_saying a_need_sayings a_keeps a_is_base a_is_beginning a_House___init__ a_law a_House : Addr) (tk_LEAST_BASE tk_MOST_BASE : Tok) : Prop where
  b_abs : mg "abs" = none
  b_all : mg "all" = none
  b_bool : mg "bool" = none
  b_divmod : mg "divmod" = none
  b_enumerate : mg "enumerate" = none
  b_int : mg "int" = none
  b_isinstance : mg "isinstance" = none
  b_len : mg "len" = none
  b_list : mg "list" = none
  b_max : mg "max" = none
  b_min : mg "min" = none
  b_range : mg "range" = none
  b_repr : mg "repr" = none
  b_str : mg "str" = none
  b_sum : mg "sum" = none
  b_tuple : mg "tuple" = none
  c_LEAST_BASE : mg "LEAST_BASE" = some (Value.int 2 tk_LEAST_BASE)
  c_MOST_BASE : mg "MOST_BASE" = some (Value.int 30 tk_MOST_BASE)
  g__law_draw : mg "_law_draw" = some (.ref a__law_draw)
  k__law_draw : PySem.W.keepIn K (.ref a__law_draw) = true
  g__law_beginning : mg "_law_beginning" = some (.ref a__law_beginning)
  k__law_beginning : PySem.W.keepIn K (.ref a__law_beginning) = true
  g__law_gone : mg "_law_gone" = some (.ref a__law_gone)
  k__law_gone : PySem.W.keepIn K (.ref a__law_gone) = true
  g__law_head : mg "_law_head" = some (.ref a__law_head)
  k__law_head : PySem.W.keepIn K (.ref a__law_head) = true
  g__law_heap : mg "_law_heap" = some (.ref a__law_heap)
  k__law_heap : PySem.W.keepIn K (.ref a__law_heap) = true
  g__law_last_4 : mg "_law_last" = some (.ref a__law_last_4)
  k__law_last_4 : PySem.W.keepIn K (.ref a__law_last_4) = true
  g__law_keeps_far : mg "_law_keeps_far" = some (.ref a__law_keeps_far)
  k__law_keeps_far : PySem.W.keepIn K (.ref a__law_keeps_far) = true
  g__law_pen : mg "_law_pen" = some (.ref a__law_pen)
  k__law_pen : PySem.W.keepIn K (.ref a__law_pen) = true
  g__law_far : mg "_law_far" = some (.ref a__law_far)
  k__law_far : PySem.W.keepIn K (.ref a__law_far) = true
  g__law_number_2 : mg "_law_number" = some (.ref a__law_number_2)
  k__law_number_2 : PySem.W.keepIn K (.ref a__law_number_2) = true
  g__law_spot : mg "_law_spot" = some (.ref a__law_spot)
  k__law_spot : PySem.W.keepIn K (.ref a__law_spot) = true
  g__law_saying : mg "_law_saying" = some (.ref a__law_saying)
  k__law_saying : PySem.W.keepIn K (.ref a__law_saying) = true
  g_heap_of : mg "heap_of" = some (.ref a_heap_of)
  k_heap_of : PySem.W.keepIn K (.ref a_heap_of) = true
  g_signs_of : mg "signs_of" = some (.ref a_signs_of)
  k_signs_of : PySem.W.keepIn K (.ref a_signs_of) = true
  g_last_by : mg "last_by" = some (.ref a_last_by)
  k_last_by : PySem.W.keepIn K (.ref a_last_by) = true
  g_kept_by : mg "kept_by" = some (.ref a_kept_by)
  k_kept_by : PySem.W.keepIn K (.ref a_kept_by) = true
  g_is_listing : mg "is_listing" = some (.ref a_is_listing)
  k_is_listing : PySem.W.keepIn K (.ref a_is_listing) = true
  g_is_whole : mg "is_whole" = some (.ref a_is_whole)
  k_is_whole : PySem.W.keepIn K (.ref a_is_whole) = true
  g_is_count : mg "is_count" = some (.ref a_is_count)
  k_is_count : PySem.W.keepIn K (.ref a_is_count) = true
  g_is_saying : mg "is_saying" = some (.ref a_is_saying)
  k_is_saying : PySem.W.keepIn K (.ref a_is_saying) = true
  g_need_sayings : mg "need_sayings" = some (.ref a_need_sayings)
  k_need_sayings : PySem.W.keepIn K (.ref a_need_sayings) = true
  g_keeps : mg "keeps" = some (.ref a_keeps)
  k_keeps : PySem.W.keepIn K (.ref a_keeps) = true
  g_is_base : mg "is_base" = some (.ref a_is_base)
  k_is_base : PySem.W.keepIn K (.ref a_is_base) = true
  g_is_beginning : mg "is_beginning" = some (.ref a_is_beginning)
  k_is_beginning : PySem.W.keepIn K (.ref a_is_beginning) = true
  g_law : mg "law" = some (.ref a_law)
  k_law : PySem.W.keepIn K (.ref a_law) = true
  g_House : mg "House" = some (.ref a_House)
  cl_House : Cls K a_House
  n_House_kept_base : NoAttr K a_House "kept_base"
  n_House_kept_beginning : NoAttr K a_House "kept_beginning"
  n_House_sums : NoAttr K a_House "sums"
  m_House_last_place : Meth K a_House "last_place" a_House_last_place
  mk_House : Mk K a_House a_House___init__
section
variable {P : Program} {w : World} {K : PySem.W.Frag} {mg : Str → Option Value} {base : Heap} {a__law_draw a__law_beginning a__law_gone a__law_head a__law_heap a__law_last_4 a__law_keeps_far a__law_pen a__law_far a__law_number_2 a__law_spot a__law_saying a_heap_of a_signs_of a_last_by a_House_last_place a_kept_by a_is_listing a_is_whole a_is_count a_is_saying a_need_sayings a_keeps a_is_base a_is_beginning a_House___init__ a_law a_House : Addr} {tk_LEAST_BASE tk_MOST_BASE : Tok}
theorem sc__law_draw : FnScope N__law_draw ["_law_pen_here", "_law_many"] (defScope s__law_draw) := ⟨rfl, rfl, rfl, by decide +kernel, rfl, by decide +kernel, by decide +kernel⟩
theorem ok__law_draw {fd : FuncData} (F : Fun K "_law_draw" "_law_draw" s__law_draw a__law_draw fd) (T : Tx K mg a__law_draw a__law_beginning a__law_gone a__law_head a__law_heap a__law_last_4 a__law_keeps_far a__law_pen a__law_far a__law_number_2 a__law_spot a__law_saying a_heap_of a_signs_of a_last_by a_House_last_place a_kept_by a_is_listing a_is_whole a_is_count a_is_saying a_need_sayings a_keeps a_is_base a_is_beginning a_House___init__ a_law a_House tk_LEAST_BASE tk_MOST_BASE) : FnOk P w K mg base CX0 1 a__law_draw fd ["_law_pen_here", "_law_many"] (lift K (sp__law_draw)) := by
  refine fn_ok (ds := d__law_draw) F sc__law_draw (len__law_draw) (fun cdv A outer s H E B hr hB hm => ?_) (d__law_draw_ok)
  exact (q_cons (q_if (q_tcmp op_gt rop_gt (toV (q_penL (b := false) (hu_of hr) (toV (q_var (pv 0))) (by rfl) (fun _ _ => rfl))) (toV q_int) (nomark _)) (q_cons (q_set (i := 6) sc__law_draw.nd rfl (Or.inl rfl) (q_op op_mod rop_mod (toV (q_penL (b := false) (hu_of hr) (toV (q_var (pv 0))) (by rfl) (fun _ _ => rfl))) (toV (q_var (pv 1))))) (q_cons (q_putL (b := false) (i := 0) (hu_of hr) (pv 0) (q_op op_fdivW rop_div (toV (q_penL (b := false) (hu_of hr) (toV (q_var (pv 0))) (by rfl) (fun _ _ => rfl))) (toV (q_var (pv 1)))) (by rfl)) (q_cons (q_ret hm (q_var (pv 6))) q_nil))) q_nil) (q_cons (q_set (i := 2) sc__law_draw.nd rfl (Or.inl rfl) (q_penA (b := false) (hu_of hr) (toV (q_var (pv 0))) (by rfl) (fun _ _ => rfl))) (q_cons (q_putA (b := false) (i := 0) (hu_of hr) (pv 0) (q_op op_add4 rop_add (toV (q_var (pv 2))) (toV q_int)) (by rfl)) (q_cons (q_set (i := 3) sc__law_draw.nd rfl (Or.inl rfl) (q_op op_add4 rop_add (toV (q_op op_mul3 rop_mul (toV (q_var (pv 2))) (toV (q_var (pv 2))))) (toV q_int))) (q_cons (q_if (q_tcmp (op_neD hr.units) rop_ne (toV (q_penC (hu_of hr) (toV (q_var (pv 0))) (fun _ _ => rfl))) (toV (toE (q_lst q_anil))) (nomark _)) (q_cons (q_set (i := 3) sc__law_draw.nd rfl (Or.inl rfl) (q_ix (toV (q_penC (hu_of hr) (toV (q_var (pv 0))) (fun _ _ => rfl))) (toV (q_op op_mod rop_mod (toV (q_var (pv 2))) (toV (q_callB call_len3 rc_len (by rfl) T.b_len (by decide +kernel) (q_xcons (toV (q_penC (hu_of hr) (toV (q_var (pv 0))) (fun _ _ => rfl))) q_xnil))))) (fun _ _ => rfl))) q_nil) q_nil) (q_cons (q_if (L2.PW.pt (q_and (q_tcmp op_lt rop_lt (toV (q_var (pv 2))) (toV (q_callB call_len3 rc_len (by rfl) T.b_len (by decide +kernel) (q_xcons (toV (q_penC (hu_of hr) (toV (q_var (pv 0))) (fun _ _ => rfl))) q_xnil))) (nomark _)) (q_and1 (q_tcmp op_ge rop_ge (toV (q_var (pv 3))) (toV (q_op op_powW rop_pow (toV q_int) (toV q_int))) (nomark _))))) (q_cons (q_putL (b := false) (i := 0) (hu_of hr) (pv 0) (q_op op_fdivW rop_div (toV (q_var (pv 3))) (toV (q_var (pv 1)))) (by rfl)) (q_cons (q_ret hm (q_op op_mod rop_mod (toV (q_var (pv 3))) (toV (q_var (pv 1))))) q_nil)) q_nil) (q_cons (q_set (i := 4) sc__law_draw.nd rfl (Or.inl rfl) (q_op op_mod rop_mod (toV (q_op op_mul3 rop_mul (toV (q_op op_add4 rop_add (toV (q_op op_add4 rop_add (toV (q_op op_mod rop_mod (toV (q_var (pv 3))) (toV q_int))) (toV (q_op op_mul3 rop_mul (toV q_int) (toV (q_var (pv 2))))))) (toV q_int))) (toV q_int))) (toV q_int))) (q_cons (q_for PassesOwn.never rfl (q_irng1 (by rfl) T.b_range (toV q_int)) (q_gname (vs := [5]) (pg_name (i := 5) sc__law_draw.nd rfl (Or.inl rfl)) (by decide)) (q_cons (q_set (i := 4) sc__law_draw.nd rfl (Or.inl rfl) (q_op op_add4 rop_add (toV (q_op op_add4 rop_add (toV (q_op op_add4 rop_add (toV (q_op op_mul3 rop_mul (toV (q_var (pv 4))) (toV (q_var (pv 4))))) (toV (q_op op_mul3 rop_mul (toV q_int) (toV (q_var (pv 4))))))) (toV (q_var (pv 2))))) (toV (q_var (pv 5))))) (q_cons (q_set (i := 4) sc__law_draw.nd rfl (Or.inl rfl) (q_op op_mod rop_mod (toV (q_var (pv 4))) (toV q_int))) q_nil))) (q_cons (q_ret hm (q_op op_mod rop_mod (toV (q_op op_fdivW rop_div (toV (q_var (pv 4))) (toV q_int))) (toV (q_var (pv 1))))) q_nil)))))))))
theorem sc__law_beginning : FnScope N__law_beginning ["_law_pen_here", "_law_base", "_law_most"] (defScope s__law_beginning) := ⟨rfl, rfl, rfl, by decide +kernel, rfl, by decide +kernel, by decide +kernel⟩
theorem ok__law_beginning {fd fd__law_draw : FuncData} (F : Fun K "_law_beginning" "_law_beginning" s__law_beginning a__law_beginning fd) (T : Tx K mg a__law_draw a__law_beginning a__law_gone a__law_head a__law_heap a__law_last_4 a__law_keeps_far a__law_pen a__law_far a__law_number_2 a__law_spot a__law_saying a_heap_of a_signs_of a_last_by a_House_last_place a_kept_by a_is_listing a_is_whole a_is_count a_is_saying a_need_sayings a_keeps a_is_base a_is_beginning a_House___init__ a_law a_House tk_LEAST_BASE tk_MOST_BASE) (G__law_draw : FnOk P w K mg base CX0 1 a__law_draw fd__law_draw ["_law_pen_here", "_law_many"] (lift K (sp__law_draw))) (b__law_draw : Binds K fd__law_draw ["_law_pen_here", "_law_many"] []) : FnOk P w K mg base CX0 2 a__law_beginning fd ["_law_pen_here", "_law_base", "_law_most"] (lift K (sp__law_beginning)) := by
  refine fn_ok (ds := d__law_beginning) F sc__law_beginning (len__law_beginning) (fun cdv A outer s H E B hr hB hm => ?_) (d__law_beginning_ok)
  exact (q_cons (q_ret hm (toE (q_lc (own := [("_law_k", 3)]) rfl sc__law_beginning.nd (q_irng1 (by rfl) T.b_range (toV (q_op op_sub rop_sub (toV (q_var (pv 1))) (toV q_int)))) (blkOk_by (N := N__law_beginning) (sc := defScope s__law_beginning) (own := [("_law_k", 3)]) (by decide +kernel)) (fun _ _ _ _ _ B => (q_gname (vs := [3]) (pg_name (i := 3) sc__law_beginning.nd rfl (Or.inl rfl)) (by decide))) (fun _ _ _ _ _ => pts_U0) (fun _ _ _ _ _ B => (q_op op_add4 rop_add (toV q_int) (toV (q_ix (toV (toE (q_lst (q_acons q_int (q_acons (q_call G__law_draw (hr.mono (by decide)) rfl T.g__law_draw T.k__law_draw b__law_draw .nil (fun _ _ => RelL.nil) pass0 (q_acons (q_var (pv 0)) (q_acons q_int q_anil))) (q_acons (q_call G__law_draw (hr.mono (by decide)) rfl T.g__law_draw T.k__law_draw b__law_draw .nil (fun _ _ => RelL.nil) pass0 (q_acons (q_var (pv 0)) (q_acons (q_var (pv 2)) q_anil))) q_anil)))))) (toV (q_call G__law_draw (hr.mono (by decide)) rfl T.g__law_draw T.k__law_draw b__law_draw .nil (fun _ _ => RelL.nil) pass0 (q_acons (q_var (pv 0)) (q_acons q_int q_anil)))) (fun _ _ => rfl)))))))) q_nil)
theorem sc__law_gone : FnScope N__law_gone ["_law_base", "_law_begun", "_law_many"] (defScope s__law_gone) := ⟨rfl, rfl, rfl, by decide +kernel, rfl, by decide +kernel, by decide +kernel⟩
theorem ok__law_gone {fd : FuncData} (F : Fun K "_law_gone" "_law_gone" s__law_gone a__law_gone fd) (T : Tx K mg a__law_draw a__law_beginning a__law_gone a__law_head a__law_heap a__law_last_4 a__law_keeps_far a__law_pen a__law_far a__law_number_2 a__law_spot a__law_saying a_heap_of a_signs_of a_last_by a_House_last_place a_kept_by a_is_listing a_is_whole a_is_count a_is_saying a_need_sayings a_keeps a_is_base a_is_beginning a_House___init__ a_law a_House tk_LEAST_BASE tk_MOST_BASE) : FnOk P w K mg base CX0 1 a__law_gone fd ["_law_base", "_law_begun", "_law_many"] (lift K (sp__law_gone)) := by
  refine fn_ok (ds := d__law_gone) F sc__law_gone (len__law_gone) (fun cdv A outer s H E B hr hB hm => ?_) (d__law_gone_ok)
  exact (q_cons (q_setN (i := 3) sc__law_gone.nd rfl (Or.inl rfl) (q_lst q_anil)) (q_cons (q_for PassesOwn.never rfl (q_irng1 (by rfl) T.b_range (toV (q_op op_sub rop_sub (toV (q_var (pv 0))) (toV q_int)))) (q_gname (vs := [4]) (pg_name (i := 4) sc__law_gone.nd rfl (Or.inl rfl)) (by decide)) (q_cons (q_setN (i := 3) sc__law_gone.nd rfl (Or.inl rfl) (q_opN op_cat ropn_cat (q_view (pv 3)) (toV (q_op op_mul3 rop_mul (toV (toE (q_lst (q_acons (q_op op_add4 rop_add (toV (q_var (pv 4))) (toV q_int)) q_anil)))) (toV (q_ix (toV (q_var (pv 1))) (toV (q_var (pv 4))) (fun _ _ => rfl))))))) q_nil)) (q_cons (q_set (i := 5) sc__law_gone.nd rfl (Or.inl rfl) (q_op op_sub rop_sub (toV (q_callB (cr_sum rfl) rc_sum (by rfl) T.b_sum (by decide +kernel) (q_xcons (toV (q_var (pv 1))) q_xnil))) (toV (q_callB call_len3 rc_len (by rfl) T.b_len (by decide +kernel) (q_xcons (toV (q_var (pv 1))) q_xnil))))) (q_cons (q_while PassesOwn.never (q_tcmp op_lt rop_lt (toV (q_callB call_len3 rc_len (by rfl) T.b_len (by decide +kernel) (q_xcons (q_view (pv 3)) q_xnil))) (toV (q_var (pv 2))) (nomark _)) (q_cons (q_par (i := 6) (j := 7) rfl sc__law_gone.nd rfl rfl (by decide) rfl rfl (q_acons (q_op op_add4 rop_add (toV (q_callB call_len3 rc_len (by rfl) T.b_len (by decide +kernel) (q_xcons (q_view (pv 3)) q_xnil))) (toV q_int)) (q_acons q_int q_anil)) (by rfl)) (q_cons (q_for PassesOwn.never rfl (q_irng1 (by rfl) T.b_range (toV (q_var (pv 0)))) (q_gname (vs := [4]) (pg_name (i := 4) sc__law_gone.nd rfl (Or.inl rfl)) (by decide)) (q_cons (q_set (i := 8) sc__law_gone.nd rfl (Or.inl rfl) (q_ifE (q_tcmp op_gt rop_gt (toV (q_op op_sub rop_sub (toV (q_var (pv 6))) (toV (q_var (pv 4))))) (toV q_int) (nomark _)) (q_ix (q_view (pv 3)) (toV (q_op op_sub rop_sub (toV (q_op op_sub rop_sub (toV (q_var (pv 6))) (toV (q_var (pv 4))))) (toV q_int))) (fun _ _ => rfl)) q_int)) (q_cons (q_set (i := 9) sc__law_gone.nd rfl (Or.inl rfl) (q_op op_sub rop_sub (toV (q_op op_sub rop_sub (toV (q_op op_sub rop_sub (toV (q_var (pv 6))) (toV (q_var (pv 4))))) (toV (q_var (pv 5))))) (toV (q_var (pv 8))))) (q_cons (q_set (i := 7) sc__law_gone.nd rfl (Or.inl rfl) (q_op op_add4 rop_add (toV (q_var (pv 7))) (toV (q_ifE (q_tcmp op_gt rop_gt (toV (q_var (pv 9))) (toV q_int) (nomark _)) (q_ix (q_view (pv 3)) (toV (q_op op_sub rop_sub (toV (q_var (pv 9))) (toV q_int))) (fun _ _ => rfl)) q_int)))) q_nil)))) (q_cons (q_app (i := 3) (pe_bm PySem.F.plainAttrs_list PySem.F.slot_list_append PySem.F.type_list_append mt_append (pv 3) (pa_cons (q_var (pv 7)) pa_nil))) q_nil)))) (q_frz (i := 3) hB (q_cons (q_ret hm (q_slice (q_view (pv 3)) q_onone (q_osome (toV (q_var (pv 2)))))) q_nil))))))
theorem sc__law_head : FnScope N__law_head ["_law_base", "_law_number_here"] (defScope s__law_head) := ⟨rfl, rfl, rfl, by decide +kernel, rfl, by decide +kernel, by decide +kernel⟩
theorem ok__law_head {fd : FuncData} (F : Fun K "_law_head" "_law_head" s__law_head a__law_head fd) (T : Tx K mg a__law_draw a__law_beginning a__law_gone a__law_head a__law_heap a__law_last_4 a__law_keeps_far a__law_pen a__law_far a__law_number_2 a__law_spot a__law_saying a_heap_of a_signs_of a_last_by a_House_last_place a_kept_by a_is_listing a_is_whole a_is_count a_is_saying a_need_sayings a_keeps a_is_base a_is_beginning a_House___init__ a_law a_House tk_LEAST_BASE tk_MOST_BASE) : FnOk P w K mg base CX0 1 a__law_head fd ["_law_base", "_law_number_here"] (lift K (sp__law_head)) := by
  refine fn_ok (ds := d__law_head) F sc__law_head (len__law_head) (fun cdv A outer s H E B hr hB hm => ?_) (d__law_head_ok)
  exact (q_cons (q_set (i := 2) sc__law_head.nd rfl (Or.inl rfl) q_int) (q_cons (q_while PassesOwn.never (q_tcmp op_ge rop_ge (toV (q_var (pv 1))) (toV (q_var (pv 0))) (nomark _)) (q_cons (q_par (i := 1) (j := 2) rfl sc__law_head.nd rfl rfl (by decide) rfl rfl (q_acons (q_op op_fdivW rop_div (toV (q_var (pv 1))) (toV (q_var (pv 0)))) (q_acons (q_op op_add4 rop_add (toV (q_var (pv 2))) (toV q_int)) q_anil)) (by rfl)) q_nil)) (q_cons (q_ret hm (q_tup (q_acons (q_var (pv 1)) (q_acons (q_var (pv 2)) q_anil)))) q_nil)))
theorem sc__law_heap : FnScope N__law_heap ["_law_base", "_law_number_here"] (defScope s__law_heap) := ⟨rfl, rfl, rfl, by decide +kernel, rfl, by decide +kernel, by decide +kernel⟩
theorem ok__law_heap {fd : FuncData} (F : Fun K "_law_heap" "_law_heap" s__law_heap a__law_heap fd) (T : Tx K mg a__law_draw a__law_beginning a__law_gone a__law_head a__law_heap a__law_last_4 a__law_keeps_far a__law_pen a__law_far a__law_number_2 a__law_spot a__law_saying a_heap_of a_signs_of a_last_by a_House_last_place a_kept_by a_is_listing a_is_whole a_is_count a_is_saying a_need_sayings a_keeps a_is_base a_is_beginning a_House___init__ a_law a_House tk_LEAST_BASE tk_MOST_BASE) : FnOk P w K mg base CX0 1 a__law_heap fd ["_law_base", "_law_number_here"] (lift K (sp__law_heap)) := by
  refine fn_ok (ds := d__law_heap) F sc__law_heap (len__law_heap) (fun cdv A outer s H E B hr hB hm => ?_) (d__law_heap_ok)
  exact (q_cons (q_par (i := 2) (j := 3) rfl sc__law_heap.nd rfl rfl (by decide) rfl rfl (q_acons q_int (q_acons (q_op op_fdivW rop_div (toV (q_var (pv 1))) (toV (q_var (pv 0)))) q_anil)) (by rfl)) (q_cons (q_while PassesOwn.never (q_tcmp op_gt rop_gt (toV (q_var (pv 3))) (toV q_int) (nomark _)) (q_cons (q_par (i := 2) (j := 3) rfl sc__law_heap.nd rfl rfl (by decide) rfl rfl (q_acons (q_op op_add4 rop_add (toV (q_var (pv 2))) (toV (q_var (pv 3)))) (q_acons (q_op op_fdivW rop_div (toV (q_var (pv 3))) (toV (q_var (pv 0)))) q_anil)) (by rfl)) q_nil)) (q_cons (q_ret hm (q_var (pv 2))) q_nil)))
theorem sc__law_last_4 : FnScope N__law_last_4 ["_law_base", "_law_begun", "_law_number_here"] (defScope s__law_last_4) := ⟨rfl, rfl, rfl, by decide +kernel, rfl, by decide +kernel, by decide +kernel⟩
theorem ok__law_last_4 {fd fd__law_head fd__law_heap : FuncData} (F : Fun K "_law_last" "_law_last" s__law_last_4 a__law_last_4 fd) (T : Tx K mg a__law_draw a__law_beginning a__law_gone a__law_head a__law_heap a__law_last_4 a__law_keeps_far a__law_pen a__law_far a__law_number_2 a__law_spot a__law_saying a_heap_of a_signs_of a_last_by a_House_last_place a_kept_by a_is_listing a_is_whole a_is_count a_is_saying a_need_sayings a_keeps a_is_base a_is_beginning a_House___init__ a_law a_House tk_LEAST_BASE tk_MOST_BASE) (G__law_head : FnOk P w K mg base CX0 1 a__law_head fd__law_head ["_law_base", "_law_number_here"] (lift K (sp__law_head))) (b__law_head : Binds K fd__law_head ["_law_base", "_law_number_here"] []) (G__law_heap : FnOk P w K mg base CX0 1 a__law_heap fd__law_heap ["_law_base", "_law_number_here"] (lift K (sp__law_heap))) (b__law_heap : Binds K fd__law_heap ["_law_base", "_law_number_here"] []) : FnOk P w K mg base CX0 2 a__law_last_4 fd ["_law_base", "_law_begun", "_law_number_here"] (lift K (sp__law_last_4)) := by
  refine fn_ok (ds := d__law_last_4) F sc__law_last_4 (len__law_last_4) (fun cdv A outer s H E B hr hB hm => ?_) (d__law_last_4_ok)
  exact (q_cons (q_if (q_tcmp (op_eqD hr.units) rop_eq (toV (q_var (pv 2))) (toV q_int) (nomark _)) (q_cons (q_ret hm q_int) q_nil) q_nil) (q_cons (q_asg (q_call G__law_head (hr.mono (by decide)) rfl T.g__law_head T.k__law_head b__law_head .nil (fun _ _ => RelL.nil) pass0 (q_acons (q_var (pv 0)) (q_acons (q_var (pv 2)) q_anil))) (q_gtup (n := 2) rfl (q_gcons (q_gname (vs := [4, 5]) (pg_name (i := 4) sc__law_last_4.nd rfl (Or.inl rfl)) (by decide)) (q_gcons (q_gname (vs := [4, 5]) (pg_name (i := 5) sc__law_last_4.nd rfl (Or.inl rfl)) (by decide)) q_gnil)))) (q_cons (q_set (i := 3) sc__law_last_4.nd rfl (Or.inl rfl) (q_op op_add4 rop_add (toV (q_op op_add4 rop_add (toV (q_var (pv 2))) (toV (q_call G__law_heap (hr.mono (by decide)) rfl T.g__law_heap T.k__law_heap b__law_heap .nil (fun _ _ => RelL.nil) pass0 (q_acons (q_var (pv 0)) (q_acons (q_var (pv 2)) q_anil)))))) (toV (q_op op_mul3 rop_mul (toV (q_var (pv 5))) (toV (q_op op_sub rop_sub (toV (q_callB (cr_sum rfl) rc_sum (by rfl) T.b_sum (by decide +kernel) (q_xcons (toV (q_var (pv 1))) q_xnil))) (toV (q_callB call_len3 rc_len (by rfl) T.b_len (by decide +kernel) (q_xcons (toV (q_var (pv 1))) q_xnil))))))))) (q_cons (q_ret hm (q_op op_sub rop_sub (toV (q_op op_add4 rop_add (toV (q_var (pv 3))) (toV (q_callB (cr_sum rfl) rc_sum (by rfl) T.b_sum (by decide +kernel) (q_xcons (toV (q_slice (toV (q_var (pv 1))) q_onone (q_osome (toV (q_var (pv 4)))))) q_xnil))))) (toV (q_var (pv 4))))) q_nil))))
theorem sc__law_keeps_far : FnScope N__law_keeps_far ["_law_base", "_law_begun", "_law_saying_here"] (defScope s__law_keeps_far) := ⟨rfl, rfl, rfl, by decide +kernel, rfl, by decide +kernel, by decide +kernel⟩
theorem ok__law_keeps_far {fd fd__law_last_4 : FuncData} (F : Fun K "_law_keeps_far" "_law_keeps_far" s__law_keeps_far a__law_keeps_far fd) (T : Tx K mg a__law_draw a__law_beginning a__law_gone a__law_head a__law_heap a__law_last_4 a__law_keeps_far a__law_pen a__law_far a__law_number_2 a__law_spot a__law_saying a_heap_of a_signs_of a_last_by a_House_last_place a_kept_by a_is_listing a_is_whole a_is_count a_is_saying a_need_sayings a_keeps a_is_base a_is_beginning a_House___init__ a_law a_House tk_LEAST_BASE tk_MOST_BASE) (G__law_last_4 : FnOk P w K mg base CX0 2 a__law_last_4 fd__law_last_4 ["_law_base", "_law_begun", "_law_number_here"] (lift K (sp__law_last_4))) (b__law_last_4 : Binds K fd__law_last_4 ["_law_base", "_law_begun", "_law_number_here"] []) : FnOk P w K mg base CX0 3 a__law_keeps_far fd ["_law_base", "_law_begun", "_law_saying_here"] (lift K (sp__law_keeps_far)) := by
  refine fn_ok (ds := d__law_keeps_far) F sc__law_keeps_far (len__law_keeps_far) (fun cdv A outer s H E B hr hB hm => ?_) (d__law_keeps_far_ok)
  exact (q_cons (q_asg (q_var (pv 2)) (q_gtup (n := 3) rfl (q_gcons (q_gname (vs := [3, 4, 5]) (pg_name (i := 3) sc__law_keeps_far.nd rfl (Or.inl rfl)) (by decide)) (q_gcons (q_gname (vs := [3, 4, 5]) (pg_name (i := 4) sc__law_keeps_far.nd rfl (Or.inl rfl)) (by decide)) (q_gcons (q_gname (vs := [3, 4, 5]) (pg_name (i := 5) sc__law_keeps_far.nd rfl (Or.inl rfl)) (by decide)) q_gnil))))) (q_cons (q_if (q_tcmp (op_eqD hr.units) rop_eq (toV (q_var (pv 3))) (toV q_str) (nomark _)) (q_cons (q_ret hm (q_cmp op_ge rop_ge (toV (q_call G__law_last_4 (hr.mono (by decide)) rfl T.g__law_last_4 T.k__law_last_4 b__law_last_4 .nil (fun _ _ => RelL.nil) pass0 (q_acons (q_var (pv 0)) (q_acons (q_var (pv 1)) (q_acons (q_var (pv 5)) q_anil))))) (toV (q_var (pv 4))) (nomark _))) q_nil) q_nil) (q_cons (q_ret hm (q_cmp op_lt rop_lt (toV (q_call G__law_last_4 (hr.mono (by decide)) rfl T.g__law_last_4 T.k__law_last_4 b__law_last_4 .nil (fun _ _ => RelL.nil) pass0 (q_acons (q_var (pv 0)) (q_acons (q_var (pv 1)) (q_acons (q_op op_sub rop_sub (toV (q_var (pv 5))) (toV q_int)) q_anil))))) (toV (q_var (pv 4))) (nomark _))) q_nil)))
theorem sc__law_pen : FnScope N__law_pen ["_law_script"] (defScope s__law_pen) := ⟨rfl, rfl, rfl, by decide +kernel, rfl, by decide +kernel, by decide +kernel⟩
theorem ok__law_pen {fd : FuncData} (F : Fun K "_law_pen" "_law_pen" s__law_pen a__law_pen fd) (T : Tx K mg a__law_draw a__law_beginning a__law_gone a__law_head a__law_heap a__law_last_4 a__law_keeps_far a__law_pen a__law_far a__law_number_2 a__law_spot a__law_saying a_heap_of a_signs_of a_last_by a_House_last_place a_kept_by a_is_listing a_is_whole a_is_count a_is_saying a_need_sayings a_keeps a_is_base a_is_beginning a_House___init__ a_law a_House tk_LEAST_BASE tk_MOST_BASE) : FnOk P w K mg base CX0 1 a__law_pen fd ["_law_script"] (liftN K (sp__law_pen)) := by
  refine fn_okN (ds := d__law_pen) F sc__law_pen (len__law_pen) (fun cdv A outer s H E B hr hB hm => ?_) (d__law_pen_ok)
  exact (q_cons (q_set (i := 1) sc__law_pen.nd rfl (Or.inr rfl) (q_op op_powW rop_pow (toV (q_op op_powW rop_pow (toV q_int) (toV q_int))) (toV q_int))) (q_cons (q_retNew hm (q_disp (q_pcons (fun B => (toE (q_lc (own := [("_law_cell", 2)]) rfl sc__law_pen.nd (q_iany (q_slice (toV (q_var (pv 0))) q_onone (q_osome (toV q_int)))) (blkOk_by (N := N__law_pen) (sc := defScope s__law_pen) (own := [("_law_cell", 2)]) (by decide +kernel)) (fun _ _ _ _ _ B => (q_gname (vs := [2]) (pg_name (i := 2) sc__law_pen.nd rfl (Or.inl rfl)) (by decide))) (fun _ _ _ _ _ => pts_U0) (fun _ _ _ _ _ B => (q_ifE (q_tcmp op_ge rop_ge (toV (q_callB call_abs rc_abs (by rfl) T.b_abs (by decide +kernel) (q_xcons (toV (q_var (pv 2))) q_xnil))) (toV (q_op op_powW rop_pow (toV q_int) (toV q_int))) (nomark _)) (q_op op_mod rop_mod (toV (q_callB call_abs rc_abs (by rfl) T.b_abs (by decide +kernel) (q_xcons (toV (q_var (pv 2))) q_xnil))) (toV (q_var (pv 1)))) (q_var (pv 2))))))) (q_pcons (fun B => q_int) (q_pcons (fun B => q_int) q_pnil))) (by decide +kernel) (by decide))) q_nil))
theorem sc__law_far : FnScope N__law_far ["_law_pen_here", "_law_figures"] (defScope s__law_far) := ⟨rfl, rfl, rfl, by decide +kernel, rfl, by decide +kernel, by decide +kernel⟩
theorem ok__law_far {fd fd__law_draw : FuncData} (F : Fun K "_law_far" "_law_far" s__law_far a__law_far fd) (T : Tx K mg a__law_draw a__law_beginning a__law_gone a__law_head a__law_heap a__law_last_4 a__law_keeps_far a__law_pen a__law_far a__law_number_2 a__law_spot a__law_saying a_heap_of a_signs_of a_last_by a_House_last_place a_kept_by a_is_listing a_is_whole a_is_count a_is_saying a_need_sayings a_keeps a_is_base a_is_beginning a_House___init__ a_law a_House tk_LEAST_BASE tk_MOST_BASE) (G__law_draw : FnOk P w K mg base CX0 1 a__law_draw fd__law_draw ["_law_pen_here", "_law_many"] (lift K (sp__law_draw))) (b__law_draw : Binds K fd__law_draw ["_law_pen_here", "_law_many"] []) : FnOk P w K mg base CX0 2 a__law_far fd ["_law_pen_here", "_law_figures"] (lift K (sp__law_far)) := by
  refine fn_ok (ds := d__law_far) F sc__law_far (len__law_far) (fun cdv A outer s H E B hr hB hm => ?_) (d__law_far_ok)
  exact (q_cons (q_set (i := 2) sc__law_far.nd rfl (Or.inl rfl) q_int) (q_cons (q_for PassesOwn.never rfl (q_irng1 (by rfl) T.b_range (toV (q_op op_add4 rop_add (toV (q_call G__law_draw (hr.mono (by decide)) rfl T.g__law_draw T.k__law_draw b__law_draw .nil (fun _ _ => RelL.nil) pass0 (q_acons (q_var (pv 0)) (q_acons (q_op op_add4 rop_add (toV q_int) (toV (q_op op_fdivW rop_div (toV (q_var (pv 1))) (toV q_int)))) q_anil)))) (toV q_int)))) (q_gname (vs := [3]) (pg_name (i := 3) sc__law_far.nd rfl (Or.inl rfl)) (by decide)) (q_cons (q_set (i := 2) sc__law_far.nd rfl (Or.inl rfl) (q_op op_add4 rop_add (toV (q_op op_mul3 rop_mul (toV (q_var (pv 2))) (toV (q_op op_powW rop_pow (toV q_int) (toV q_int))))) (toV (q_call G__law_draw (hr.mono (by decide)) rfl T.g__law_draw T.k__law_draw b__law_draw .nil (fun _ _ => RelL.nil) pass0 (q_acons (q_var (pv 0)) (q_acons (q_op op_powW rop_pow (toV q_int) (toV q_int)) q_anil)))))) q_nil)) (q_cons (q_ret hm (q_op op_add4 rop_add (toV (q_var (pv 2))) (toV q_int))) q_nil)))
theorem sc__law_number_2 : FnScope N__law_number_2 ["_law_pen_here", "_law_base"] (defScope s__law_number_2) := ⟨rfl, rfl, rfl, by decide +kernel, rfl, by decide +kernel, by decide +kernel⟩
theorem ok__law_number_2 {fd fd__law_draw fd__law_far : FuncData} (F : Fun K "_law_number" "_law_number" s__law_number_2 a__law_number_2 fd) (T : Tx K mg a__law_draw a__law_beginning a__law_gone a__law_head a__law_heap a__law_last_4 a__law_keeps_far a__law_pen a__law_far a__law_number_2 a__law_spot a__law_saying a_heap_of a_signs_of a_last_by a_House_last_place a_kept_by a_is_listing a_is_whole a_is_count a_is_saying a_need_sayings a_keeps a_is_base a_is_beginning a_House___init__ a_law a_House tk_LEAST_BASE tk_MOST_BASE) (G__law_draw : FnOk P w K mg base CX0 1 a__law_draw fd__law_draw ["_law_pen_here", "_law_many"] (lift K (sp__law_draw))) (b__law_draw : Binds K fd__law_draw ["_law_pen_here", "_law_many"] []) (G__law_far : FnOk P w K mg base CX0 2 a__law_far fd__law_far ["_law_pen_here", "_law_figures"] (lift K (sp__law_far))) (b__law_far : Binds K fd__law_far ["_law_pen_here", "_law_figures"] []) : FnOk P w K mg base CX0 3 a__law_number_2 fd ["_law_pen_here", "_law_base"] (lift K (sp__law_number_2)) := by
  refine fn_ok (ds := d__law_number_2) F sc__law_number_2 (len__law_number_2) (fun cdv A outer s H E B hr hB hm => ?_) (d__law_number_2_ok)
  exact (q_cons (q_set (i := 2) sc__law_number_2.nd rfl (Or.inl rfl) (q_call G__law_draw (hr.mono (by decide)) rfl T.g__law_draw T.k__law_draw b__law_draw .nil (fun _ _ => RelL.nil) pass0 (q_acons (q_var (pv 0)) (q_acons q_int q_anil)))) (q_cons (q_if (q_tcmp (op_eqD hr.units) rop_eq (toV (q_var (pv 2))) (toV q_int) (nomark _)) (q_cons (q_ret hm (q_op op_add4 rop_add (toV q_int) (toV (q_call G__law_draw (hr.mono (by decide)) rfl T.g__law_draw T.k__law_draw b__law_draw .nil (fun _ _ => RelL.nil) pass0 (q_acons (q_var (pv 0)) (q_acons (q_op op_mul3 rop_mul (toV q_int) (toV (q_var (pv 1)))) q_anil)))))) q_nil) q_nil) (q_cons (q_if (q_tcmp (op_eqD hr.units) rop_eq (toV (q_var (pv 2))) (toV q_int) (nomark _)) (q_cons (q_ret hm (q_call G__law_far (hr.mono (by decide)) rfl T.g__law_far T.k__law_far b__law_far .nil (fun _ _ => RelL.nil) pass0 (q_acons (q_var (pv 0)) (q_acons q_int q_anil)))) q_nil) q_nil) (q_cons (q_set (i := 3) sc__law_number_2.nd rfl (Or.inl rfl) q_int) (q_cons (q_for PassesOwn.never rfl (q_irng1 (by rfl) T.b_range (toV (q_call G__law_draw (hr.mono (by decide)) rfl T.g__law_draw T.k__law_draw b__law_draw .nil (fun _ _ => RelL.nil) pass0 (q_acons (q_var (pv 0)) (q_acons q_int q_anil))))) (q_gname (vs := [4]) (pg_name (i := 4) sc__law_number_2.nd rfl (Or.inl rfl)) (by decide)) (q_cons (q_set (i := 3) sc__law_number_2.nd rfl (Or.inl rfl) (q_op op_mul3 rop_mul (toV (q_var (pv 3))) (toV (q_var (pv 1))))) q_nil)) (q_cons (q_set (i := 3) sc__law_number_2.nd rfl (Or.inl rfl) (q_op op_mul3 rop_mul (toV (q_var (pv 3))) (toV (q_op op_add4 rop_add (toV q_int) (toV (q_call G__law_draw (hr.mono (by decide)) rfl T.g__law_draw T.k__law_draw b__law_draw .nil (fun _ _ => RelL.nil) pass0 (q_acons (q_var (pv 0)) (q_acons (q_op op_sub rop_sub (toV (q_var (pv 1))) (toV q_int)) q_anil)))))))) (q_cons (q_ret hm (q_callB (call_max3 rfl) rc_max (by rfl) T.b_max (by decide +kernel) (q_xcons (toV q_int) (q_xcons (toV (q_op op_sub rop_sub (toV (q_op op_add4 rop_add (toV (q_var (pv 3))) (toV (q_call G__law_draw (hr.mono (by decide)) rfl T.g__law_draw T.k__law_draw b__law_draw .nil (fun _ _ => RelL.nil) pass0 (q_acons (q_var (pv 0)) (q_acons q_int q_anil)))))) (toV q_int))) q_xnil)))) q_nil)))))))
theorem sc__law_spot : FnScope N__law_spot ["_law_pen_here", "_law_base", "_law_begun", "_law_number_here"] (defScope s__law_spot) := ⟨rfl, rfl, rfl, by decide +kernel, rfl, by decide +kernel, by decide +kernel⟩
theorem ok__law_spot {fd fd__law_draw fd__law_last_4 : FuncData} (F : Fun K "_law_spot" "_law_spot" s__law_spot a__law_spot fd) (T : Tx K mg a__law_draw a__law_beginning a__law_gone a__law_head a__law_heap a__law_last_4 a__law_keeps_far a__law_pen a__law_far a__law_number_2 a__law_spot a__law_saying a_heap_of a_signs_of a_last_by a_House_last_place a_kept_by a_is_listing a_is_whole a_is_count a_is_saying a_need_sayings a_keeps a_is_base a_is_beginning a_House___init__ a_law a_House tk_LEAST_BASE tk_MOST_BASE) (G__law_draw : FnOk P w K mg base CX0 1 a__law_draw fd__law_draw ["_law_pen_here", "_law_many"] (lift K (sp__law_draw))) (b__law_draw : Binds K fd__law_draw ["_law_pen_here", "_law_many"] []) (G__law_last_4 : FnOk P w K mg base CX0 2 a__law_last_4 fd__law_last_4 ["_law_base", "_law_begun", "_law_number_here"] (lift K (sp__law_last_4))) (b__law_last_4 : Binds K fd__law_last_4 ["_law_base", "_law_begun", "_law_number_here"] []) : FnOk P w K mg base CX0 3 a__law_spot fd ["_law_pen_here", "_law_base", "_law_begun", "_law_number_here"] (lift K (sp__law_spot)) := by
  refine fn_ok (ds := d__law_spot) F sc__law_spot (len__law_spot) (fun cdv A outer s H E B hr hB hm => ?_) (d__law_spot_ok)
  exact (q_cons (q_set (i := 4) sc__law_spot.nd rfl (Or.inl rfl) (q_call G__law_last_4 (hr.mono (by decide)) rfl T.g__law_last_4 T.k__law_last_4 b__law_last_4 .nil (fun _ _ => RelL.nil) pass0 (q_acons (q_var (pv 1)) (q_acons (q_var (pv 2)) (q_acons (q_var (pv 3)) q_anil))))) (q_cons (q_set (i := 5) sc__law_spot.nd rfl (Or.inl rfl) (q_op op_sub rop_sub (toV (q_var (pv 4))) (toV (q_call G__law_last_4 (hr.mono (by decide)) rfl T.g__law_last_4 T.k__law_last_4 b__law_last_4 .nil (fun _ _ => RelL.nil) pass0 (q_acons (q_var (pv 1)) (q_acons (q_var (pv 2)) (q_acons (q_op op_sub rop_sub (toV (q_var (pv 3))) (toV q_int)) q_anil))))))) (q_cons (q_ret hm (q_op op_sub rop_sub (toV (q_var (pv 4))) (toV (q_ix (toV (toE (q_lst (q_acons q_int (q_acons (q_op op_sub rop_sub (toV (q_var (pv 5))) (toV q_int)) (q_acons (q_call G__law_draw (hr.mono (by decide)) rfl T.g__law_draw T.k__law_draw b__law_draw .nil (fun _ _ => RelL.nil) pass0 (q_acons (q_var (pv 0)) (q_acons (q_var (pv 5)) q_anil))) q_anil)))))) (toV (q_call G__law_draw (hr.mono (by decide)) rfl T.g__law_draw T.k__law_draw b__law_draw .nil (fun _ _ => RelL.nil) pass0 (q_acons (q_var (pv 0)) (q_acons q_int q_anil)))) (fun _ _ => rfl))))) q_nil)))
theorem sc__law_saying : FnScope N__law_saying ["_law_pen_here", "_law_base", "_law_begun", "_law_off"] (defScope s__law_saying) := ⟨rfl, rfl, rfl, by decide +kernel, rfl, by decide +kernel, by decide +kernel⟩
theorem ok__law_saying {fd fd__law_draw fd__law_number_2 fd__law_spot : FuncData} (F : Fun K "_law_saying" "_law_saying" s__law_saying a__law_saying fd) (T : Tx K mg a__law_draw a__law_beginning a__law_gone a__law_head a__law_heap a__law_last_4 a__law_keeps_far a__law_pen a__law_far a__law_number_2 a__law_spot a__law_saying a_heap_of a_signs_of a_last_by a_House_last_place a_kept_by a_is_listing a_is_whole a_is_count a_is_saying a_need_sayings a_keeps a_is_base a_is_beginning a_House___init__ a_law a_House tk_LEAST_BASE tk_MOST_BASE) (G__law_draw : FnOk P w K mg base CX0 1 a__law_draw fd__law_draw ["_law_pen_here", "_law_many"] (lift K (sp__law_draw))) (b__law_draw : Binds K fd__law_draw ["_law_pen_here", "_law_many"] []) (G__law_number_2 : FnOk P w K mg base CX0 3 a__law_number_2 fd__law_number_2 ["_law_pen_here", "_law_base"] (lift K (sp__law_number_2))) (b__law_number_2 : Binds K fd__law_number_2 ["_law_pen_here", "_law_base"] []) (G__law_spot : FnOk P w K mg base CX0 3 a__law_spot fd__law_spot ["_law_pen_here", "_law_base", "_law_begun", "_law_number_here"] (lift K (sp__law_spot))) (b__law_spot : Binds K fd__law_spot ["_law_pen_here", "_law_base", "_law_begun", "_law_number_here"] []) : FnOk P w K mg base CX0 4 a__law_saying fd ["_law_pen_here", "_law_base", "_law_begun", "_law_off"] (lift K (sp__law_saying)) := by
  refine fn_ok (ds := d__law_saying) F sc__law_saying (len__law_saying) (fun cdv A outer s H E B hr hB hm => ?_) (d__law_saying_ok)
  exact (q_cons (q_set (i := 4) sc__law_saying.nd rfl (Or.inl rfl) (q_call G__law_number_2 (hr.mono (by decide)) rfl T.g__law_number_2 T.k__law_number_2 b__law_number_2 .nil (fun _ _ => RelL.nil) pass0 (q_acons (q_var (pv 0)) (q_acons (q_var (pv 1)) q_anil)))) (q_cons (q_set (i := 5) sc__law_saying.nd rfl (Or.inl rfl) (q_call G__law_spot (hr.mono (by decide)) rfl T.g__law_spot T.k__law_spot b__law_spot .nil (fun _ _ => RelL.nil) pass0 (q_acons (q_var (pv 0)) (q_acons (q_var (pv 1)) (q_acons (q_var (pv 2)) (q_acons (q_var (pv 4)) q_anil)))))) (q_cons (q_if (q_tcmp (op_eqD hr.units) rop_eq (toV (q_call G__law_draw (hr.mono (by decide)) rfl T.g__law_draw T.k__law_draw b__law_draw .nil (fun _ _ => RelL.nil) pass0 (q_acons (q_var (pv 0)) (q_acons q_int q_anil)))) (toV q_int) (nomark _)) (q_cons (q_ret hm (q_tup (q_acons q_str (q_acons (q_var (pv 5)) (q_acons (q_callB (call_max3 rfl) rc_max (by rfl) T.b_max (by decide +kernel) (q_xcons (toV q_int) (q_xcons (toV (q_op op_add4 rop_add (toV (q_var (pv 4))) (toV (q_var (pv 3))))) q_xnil))) q_anil))))) q_nil) q_nil) (q_cons (q_ret hm (q_tup (q_acons q_str (q_acons (q_var (pv 5)) (q_acons (q_callB (call_max3 rfl) rc_max (by rfl) T.b_max (by decide +kernel) (q_xcons (toV q_int) (q_xcons (toV (q_op op_sub rop_sub (toV (q_var (pv 4))) (toV (q_var (pv 3))))) q_xnil))) q_anil))))) q_nil))))
theorem sc_heap_of : FnScope N_heap_of ["number", "base"] (defScope s_heap_of) := ⟨rfl, rfl, rfl, by decide +kernel, rfl, by decide +kernel, by decide +kernel⟩
theorem ok_heap_of {fd : FuncData} (F : Fun K "heap_of" "heap_of" s_heap_of a_heap_of fd) (T : Tx K mg a__law_draw a__law_beginning a__law_gone a__law_head a__law_heap a__law_last_4 a__law_keeps_far a__law_pen a__law_far a__law_number_2 a__law_spot a__law_saying a_heap_of a_signs_of a_last_by a_House_last_place a_kept_by a_is_listing a_is_whole a_is_count a_is_saying a_need_sayings a_keeps a_is_base a_is_beginning a_House___init__ a_law a_House tk_LEAST_BASE tk_MOST_BASE) : FnOk P w K mg base CX0 1 a_heap_of fd ["number", "base"] (lift K (sp_heap_of)) := by
  refine fn_ok (ds := d_heap_of) F sc_heap_of (len_heap_of) (fun cdv A outer s H E B hr hB hm => ?_) (d_heap_of_ok)
  exact (q_cons (q_set (i := 2) sc_heap_of.nd rfl (Or.inl rfl) q_int) (q_cons (q_while PassesOwn.never (q_tcmp op_gt rop_gt (toV (q_var (pv 0))) (toV q_int) (nomark _)) (q_cons (q_aug (i := 0) sc_heap_of.nd rfl (Or.inl rfl) (toV (q_var (pv 1))) iop_fdivW rop_div) (q_cons (q_aug (i := 2) sc_heap_of.nd rfl (Or.inl rfl) (toV (q_var (pv 0))) iop_add rop_addI) q_nil))) (q_cons (q_ret hm (q_var (pv 2))) q_nil)))
theorem sc_signs_of : FnScope N_signs_of ["number", "base"] (defScope s_signs_of) := ⟨rfl, rfl, rfl, by decide +kernel, rfl, by decide +kernel, by decide +kernel⟩
theorem ok_signs_of {fd : FuncData} (F : Fun K "signs_of" "signs_of" s_signs_of a_signs_of fd) (T : Tx K mg a__law_draw a__law_beginning a__law_gone a__law_head a__law_heap a__law_last_4 a__law_keeps_far a__law_pen a__law_far a__law_number_2 a__law_spot a__law_saying a_heap_of a_signs_of a_last_by a_House_last_place a_kept_by a_is_listing a_is_whole a_is_count a_is_saying a_need_sayings a_keeps a_is_base a_is_beginning a_House___init__ a_law a_House tk_LEAST_BASE tk_MOST_BASE) : FnOk P w K mg base CX0 1 a_signs_of fd ["number", "base"] (liftN K (sp_signs_of)) := by
  refine fn_okN (ds := d_signs_of) F sc_signs_of (len_signs_of) (fun cdv A outer s H E B hr hB hm => ?_) (d_signs_of_ok)
  exact (q_cons (q_setN (i := 2) sc_signs_of.nd rfl (Or.inl rfl) (q_lst q_anil)) (q_cons (q_while PassesOwn.never (q_tcmp op_gt rop_gt (toV (q_var (pv 0))) (toV q_int) (nomark _)) (q_cons (q_asg (q_callB call_divmod rc_divmod (by rfl) T.b_divmod (by decide +kernel) (q_xcons (toV (q_var (pv 0))) (q_xcons (toV (q_var (pv 1))) q_xnil))) (q_gtup (n := 2) rfl (q_gcons (q_gname (vs := [0, 3]) (pg_name (i := 0) sc_signs_of.nd rfl (Or.inl rfl)) (by decide)) (q_gcons (q_gname (vs := [0, 3]) (pg_name (i := 3) sc_signs_of.nd rfl (Or.inl rfl)) (by decide)) q_gnil)))) (q_cons (q_app (i := 2) (pe_bm PySem.F.plainAttrs_list PySem.F.slot_list_append PySem.F.type_list_append mt_append (pv 2) (pa_cons (q_var (pv 3)) pa_nil))) q_nil))) (q_frz (i := 2) hB (q_cons (q_retNew hm (q_rev (q_view (pv 2)))) q_nil))))
theorem sc_last_by : FnScope N_last_by ["base", "sums", "number"] (defScope s_last_by) := ⟨rfl, rfl, rfl, by decide +kernel, rfl, by decide +kernel, by decide +kernel⟩
theorem ok_last_by {fd fd_heap_of fd_signs_of : FuncData} (F : Fun K "last_by" "last_by" s_last_by a_last_by fd) (T : Tx K mg a__law_draw a__law_beginning a__law_gone a__law_head a__law_heap a__law_last_4 a__law_keeps_far a__law_pen a__law_far a__law_number_2 a__law_spot a__law_saying a_heap_of a_signs_of a_last_by a_House_last_place a_kept_by a_is_listing a_is_whole a_is_count a_is_saying a_need_sayings a_keeps a_is_base a_is_beginning a_House___init__ a_law a_House tk_LEAST_BASE tk_MOST_BASE) (G_heap_of : FnOk P w K mg base CX0 1 a_heap_of fd_heap_of ["number", "base"] (lift K (sp_heap_of))) (b_heap_of : Binds K fd_heap_of ["number", "base"] []) (G_signs_of : FnOk P w K mg base CX0 1 a_signs_of fd_signs_of ["number", "base"] (liftN K (sp_signs_of))) (b_signs_of : Binds K fd_signs_of ["number", "base"] []) : FnOk P w K mg base CX0 2 a_last_by fd ["base", "sums", "number"] (lift K (sp_last_by)) := by
  refine fn_ok (ds := d_last_by) F sc_last_by (len_last_by) (fun cdv A outer s H E B hr hB hm => ?_) (d_last_by_ok)
  exact (q_cons (q_if (q_tcmp (op_eqD hr.units) rop_eq (toV (q_var (pv 2))) (toV q_int) (nomark _)) (q_cons (q_ret hm q_int) q_nil) q_nil) (q_cons (q_set (i := 3) sc_last_by.nd rfl (Or.inl rfl) (toE (q_callN G_signs_of (hr.mono (by decide)) rfl T.g_signs_of T.k_signs_of b_signs_of .nil (fun _ _ => RelL.nil) pass0 (q_acons (q_var (pv 2)) (q_acons (q_var (pv 0)) q_anil))))) (q_cons (q_ret hm (q_op op_add4 rop_add (toV (q_op op_add4 rop_add (toV (q_op op_add4 rop_add (toV (q_var (pv 2))) (toV (q_call G_heap_of (hr.mono (by decide)) rfl T.g_heap_of T.k_heap_of b_heap_of .nil (fun _ _ => RelL.nil) pass0 (q_acons (q_var (pv 2)) (q_acons (q_var (pv 0)) q_anil)))))) (toV (q_op op_mul3 rop_mul (toV (q_op op_sub rop_sub (toV (q_callB call_len3 rc_len (by rfl) T.b_len (by decide +kernel) (q_xcons (toV (q_var (pv 3))) q_xnil))) (toV q_int))) (toV (q_ix (toV (q_var (pv 1))) (toV (q_un un_neg run_neg (toV q_int))) (fun _ _ => rfl))))))) (toV (q_ix (toV (q_var (pv 1))) (toV (q_op op_sub rop_sub (toV (q_ix (toV (q_var (pv 3))) (toV q_int) (fun _ _ => rfl))) (toV q_int))) (fun _ _ => rfl))))) q_nil)))
theorem sc_House_last_place : FnScope N_House_last_place ["self", "number"] (defScope s_House_last_place) := ⟨rfl, rfl, rfl, by decide +kernel, rfl, by decide +kernel, by decide +kernel⟩
theorem ok_House_last_place {fd fd_last_by : FuncData} (F : Fun K "last_place" "House.last_place" s_House_last_place a_House_last_place fd) (T : Tx K mg a__law_draw a__law_beginning a__law_gone a__law_head a__law_heap a__law_last_4 a__law_keeps_far a__law_pen a__law_far a__law_number_2 a__law_spot a__law_saying a_heap_of a_signs_of a_last_by a_House_last_place a_kept_by a_is_listing a_is_whole a_is_count a_is_saying a_need_sayings a_keeps a_is_base a_is_beginning a_House___init__ a_law a_House tk_LEAST_BASE tk_MOST_BASE) (G_last_by : FnOk P w K mg base CX0 2 a_last_by fd_last_by ["base", "sums", "number"] (lift K (sp_last_by))) (b_last_by : Binds K fd_last_by ["base", "sums", "number"] []) : FnOk P w K mg base CX0 3 a_House_last_place fd ["self", "number"] (lift K (sp_House_last_place (Cl.mk a_House a_law a_law a_law a_law))) := by
  refine fn_ok (ds := d_House_last_place (Cl.mk a_House a_law a_law a_law a_law)) F sc_House_last_place (len_House_last_place (Cl.mk a_House a_law a_law a_law a_law)) (fun cdv A outer s H E B hr hB hm => ?_) (d_House_last_place_ok (Cl.mk a_House a_law a_law a_law a_law))
  exact (q_cons (q_ret hm (q_call G_last_by (hr.mono (by decide)) rfl T.g_last_by T.k_last_by b_last_by .nil (fun _ _ => RelL.nil) pass0 (q_acons (q_fld (toV (q_var (pv 0))) T.cl_House T.n_House_kept_base) (q_acons (q_fld (toV (q_var (pv 0))) T.cl_House T.n_House_sums) (q_acons (q_var (pv 1)) q_anil))))) q_nil)
theorem sc_kept_by : FnScope N_kept_by ["house", "saying"] (defScope s_kept_by) := ⟨rfl, rfl, rfl, by decide +kernel, rfl, by decide +kernel, by decide +kernel⟩
theorem ok_kept_by {fd fd_House_last_place : FuncData} (F : Fun K "kept_by" "kept_by" s_kept_by a_kept_by fd) (T : Tx K mg a__law_draw a__law_beginning a__law_gone a__law_head a__law_heap a__law_last_4 a__law_keeps_far a__law_pen a__law_far a__law_number_2 a__law_spot a__law_saying a_heap_of a_signs_of a_last_by a_House_last_place a_kept_by a_is_listing a_is_whole a_is_count a_is_saying a_need_sayings a_keeps a_is_base a_is_beginning a_House___init__ a_law a_House tk_LEAST_BASE tk_MOST_BASE) (G_House_last_place : FnOk P w K mg base CX0 3 a_House_last_place fd_House_last_place ["self", "number"] (lift K (sp_House_last_place (Cl.mk a_House a_law a_law a_law a_law)))) (b_House_last_place : Binds K fd_House_last_place ["self", "number"] []) : FnOk P w K mg base CX0 4 a_kept_by fd ["house", "saying"] (lift K (sp_kept_by (Cl.mk a_House a_law a_law a_law a_law))) := by
  refine fn_ok (ds := d_kept_by (Cl.mk a_House a_law a_law a_law a_law)) F sc_kept_by (len_kept_by (Cl.mk a_House a_law a_law a_law a_law)) (fun cdv A outer s H E B hr hB hm => ?_) (d_kept_by_ok (Cl.mk a_House a_law a_law a_law a_law))
  exact (q_cons (q_asg (q_var (pv 1)) (q_gtup (n := 3) rfl (q_gcons (q_gname (vs := [2, 3, 4]) (pg_name (i := 2) sc_kept_by.nd rfl (Or.inl rfl)) (by decide)) (q_gcons (q_gname (vs := [2, 3, 4]) (pg_name (i := 3) sc_kept_by.nd rfl (Or.inl rfl)) (by decide)) (q_gcons (q_gname (vs := [2, 3, 4]) (pg_name (i := 4) sc_kept_by.nd rfl (Or.inl rfl)) (by decide)) q_gnil))))) (q_cons (q_if (q_tcmp (op_eqD hr.units) rop_eq (toV (q_var (pv 2))) (toV q_str) (nomark _)) (q_cons (q_ret hm (q_cmp op_ge rop_ge (toV (q_meth (q_var (pv 0)) T.cl_House T.m_House_last_place G_House_last_place (hr.mono (by decide)) b_House_last_place .nil (fun _ _ => RelL.nil) pass0 (q_acons (q_var (pv 4)) q_anil))) (toV (q_var (pv 3))) (nomark _))) q_nil) q_nil) (q_cons (q_ret hm (q_orV (q_cmp (op_eqD hr.units) rop_eq (toV (q_var (pv 4))) (toV q_int) (nomark _)) (q_one (q_cmp op_lt rop_lt (toV (q_meth (q_var (pv 0)) T.cl_House T.m_House_last_place G_House_last_place (hr.mono (by decide)) b_House_last_place .nil (fun _ _ => RelL.nil) pass0 (q_acons (q_op op_sub rop_sub (toV (q_var (pv 4))) (toV q_int)) q_anil))) (toV (q_var (pv 3))) (nomark _))))) q_nil)))
theorem sc_is_listing : FnScope N_is_listing ["thing"] (defScope s_is_listing) := ⟨rfl, rfl, rfl, by decide +kernel, rfl, by decide +kernel, by decide +kernel⟩
theorem ok_is_listing {fd : FuncData} (F : Fun K "is_listing" "is_listing" s_is_listing a_is_listing fd) (T : Tx K mg a__law_draw a__law_beginning a__law_gone a__law_head a__law_heap a__law_last_4 a__law_keeps_far a__law_pen a__law_far a__law_number_2 a__law_spot a__law_saying a_heap_of a_signs_of a_last_by a_House_last_place a_kept_by a_is_listing a_is_whole a_is_count a_is_saying a_need_sayings a_keeps a_is_base a_is_beginning a_House___init__ a_law a_House tk_LEAST_BASE tk_MOST_BASE) : FnOk P w K mg base CX0 1 a_is_listing fd ["thing"] (lift K (sp_is_listing)) := by
  refine fn_ok (ds := d_is_listing) F sc_is_listing (len_is_listing) (fun cdv A outer s H E B hr hB hm => ?_) (d_is_listing_ok)
  exact (q_cons (q_ret hm (q_isi2 (c := .lst) (c2 := .tup) (toV (q_var (pv 0))) rfl T.b_isinstance rfl T.b_list (by rfl) rfl T.b_tuple (by rfl))) q_nil)
theorem sc_is_whole : FnScope N_is_whole ["thing"] (defScope s_is_whole) := ⟨rfl, rfl, rfl, by decide +kernel, rfl, by decide +kernel, by decide +kernel⟩
theorem ok_is_whole {fd : FuncData} (F : Fun K "is_whole" "is_whole" s_is_whole a_is_whole fd) (T : Tx K mg a__law_draw a__law_beginning a__law_gone a__law_head a__law_heap a__law_last_4 a__law_keeps_far a__law_pen a__law_far a__law_number_2 a__law_spot a__law_saying a_heap_of a_signs_of a_last_by a_House_last_place a_kept_by a_is_listing a_is_whole a_is_count a_is_saying a_need_sayings a_keeps a_is_base a_is_beginning a_House___init__ a_law a_House tk_LEAST_BASE tk_MOST_BASE) : FnOk P w K mg base CX0 1 a_is_whole fd ["thing"] (lift K (sp_is_whole)) := by
  refine fn_ok (ds := d_is_whole) F sc_is_whole (len_is_whole) (fun cdv A outer s H E B hr hB hm => ?_) (d_is_whole_ok)
  exact (q_cons (q_ret hm (q_andV (q_isi (c := .int) (toV (q_var (pv 0))) rfl T.b_isinstance rfl T.b_int (by rfl)) (q_one (q_notV (q_isi (c := .bl) (toV (q_var (pv 0))) rfl T.b_isinstance rfl T.b_bool (by rfl)))))) q_nil)
theorem sc_is_count : FnScope N_is_count ["thing"] (defScope s_is_count) := ⟨rfl, rfl, rfl, by decide +kernel, rfl, by decide +kernel, by decide +kernel⟩
theorem ok_is_count {fd fd_is_whole : FuncData} (F : Fun K "is_count" "is_count" s_is_count a_is_count fd) (T : Tx K mg a__law_draw a__law_beginning a__law_gone a__law_head a__law_heap a__law_last_4 a__law_keeps_far a__law_pen a__law_far a__law_number_2 a__law_spot a__law_saying a_heap_of a_signs_of a_last_by a_House_last_place a_kept_by a_is_listing a_is_whole a_is_count a_is_saying a_need_sayings a_keeps a_is_base a_is_beginning a_House___init__ a_law a_House tk_LEAST_BASE tk_MOST_BASE) (G_is_whole : FnOk P w K mg base CX0 1 a_is_whole fd_is_whole ["thing"] (lift K (sp_is_whole))) (b_is_whole : Binds K fd_is_whole ["thing"] []) : FnOk P w K mg base CX0 2 a_is_count fd ["thing"] (lift K (sp_is_count)) := by
  refine fn_ok (ds := d_is_count) F sc_is_count (len_is_count) (fun cdv A outer s H E B hr hB hm => ?_) (d_is_count_ok)
  exact (q_cons (q_ret hm (q_andV (q_call G_is_whole (hr.mono (by decide)) rfl T.g_is_whole T.k_is_whole b_is_whole .nil (fun _ _ => RelL.nil) pass0 (q_acons (q_var (pv 0)) q_anil)) (q_one (q_cmp op_gt rop_gt (toV (q_var (pv 0))) (toV q_int) (nomark _))))) q_nil)
theorem sc_is_saying : FnScope N_is_saying ["thing"] (defScope s_is_saying) := ⟨rfl, rfl, rfl, by decide +kernel, rfl, by decide +kernel, by decide +kernel⟩
theorem ok_is_saying {fd fd_is_count : FuncData} (F : Fun K "is_saying" "is_saying" s_is_saying a_is_saying fd) (T : Tx K mg a__law_draw a__law_beginning a__law_gone a__law_head a__law_heap a__law_last_4 a__law_keeps_far a__law_pen a__law_far a__law_number_2 a__law_spot a__law_saying a_heap_of a_signs_of a_last_by a_House_last_place a_kept_by a_is_listing a_is_whole a_is_count a_is_saying a_need_sayings a_keeps a_is_base a_is_beginning a_House___init__ a_law a_House tk_LEAST_BASE tk_MOST_BASE) (G_is_count : FnOk P w K mg base CX0 2 a_is_count fd_is_count ["thing"] (lift K (sp_is_count))) (b_is_count : Binds K fd_is_count ["thing"] []) : FnOk P w K mg base CX0 3 a_is_saying fd ["thing"] (lift K (sp_is_saying)) := by
  refine fn_ok (ds := d_is_saying) F sc_is_saying (len_is_saying) (fun cdv A outer s H E B hr hB hm => ?_) (d_is_saying_ok)
  exact (q_cons (q_if (L2.PW.pt (q_or (q_not (q_tval (q_isi (c := .tup) (toV (q_var (pv 0))) rfl T.b_isinstance rfl T.b_tuple (by rfl)))) (q_or (q_tcmp (op_neD hr.units) rop_ne (toV (q_callB call_len3 rc_len (by rfl) T.b_len (by decide +kernel) (q_xcons (toV (q_var (pv 0))) q_xnil))) (toV q_int) (nomark _)) (q_or1 (q_not (q_tval (q_isi (c := .str) (toV (q_ix (toV (q_var (pv 0))) (toV q_int) (fun _ _ => rfl))) rfl T.b_isinstance rfl T.b_str (by rfl)))))))) (q_cons (q_ret hm q_bl) q_nil) q_nil) (q_cons (q_ret hm (q_andV (q_cmp op_in_seq rop_inT (toV (q_ix (toV (q_var (pv 0))) (toV q_int) (fun _ _ => rfl))) (toV (q_tup (q_acons q_str (q_acons q_str q_anil)))) rfl) (q_andV (q_call G_is_count (hr.mono (by decide)) rfl T.g_is_count T.k_is_count b_is_count .nil (fun _ _ => RelL.nil) pass0 (q_acons (q_ix (toV (q_var (pv 0))) (toV q_int) (fun _ _ => rfl)) q_anil)) (q_one (q_call G_is_count (hr.mono (by decide)) rfl T.g_is_count T.k_is_count b_is_count .nil (fun _ _ => RelL.nil) pass0 (q_acons (q_ix (toV (q_var (pv 0))) (toV q_int) (fun _ _ => rfl)) q_anil)))))) q_nil))
theorem sc_need_sayings : FnScope N_need_sayings ["sayings"] (defScope s_need_sayings) := ⟨rfl, rfl, rfl, by decide +kernel, rfl, by decide +kernel, by decide +kernel⟩
theorem ok_need_sayings {fd fd_is_listing fd_is_saying : FuncData} (F : Fun K "need_sayings" "need_sayings" s_need_sayings a_need_sayings fd) (T : Tx K mg a__law_draw a__law_beginning a__law_gone a__law_head a__law_heap a__law_last_4 a__law_keeps_far a__law_pen a__law_far a__law_number_2 a__law_spot a__law_saying a_heap_of a_signs_of a_last_by a_House_last_place a_kept_by a_is_listing a_is_whole a_is_count a_is_saying a_need_sayings a_keeps a_is_base a_is_beginning a_House___init__ a_law a_House tk_LEAST_BASE tk_MOST_BASE) (G_is_listing : FnOk P w K mg base CX0 1 a_is_listing fd_is_listing ["thing"] (lift K (sp_is_listing))) (b_is_listing : Binds K fd_is_listing ["thing"] []) (G_is_saying : FnOk P w K mg base CX0 3 a_is_saying fd_is_saying ["thing"] (lift K (sp_is_saying))) (b_is_saying : Binds K fd_is_saying ["thing"] []) : FnOk P w K mg base CX0 4 a_need_sayings fd ["sayings"] (lift K (sp_need_sayings)) := by
  refine fn_ok (ds := d_need_sayings) F sc_need_sayings (len_need_sayings) (fun cdv A outer s H E B hr hB hm => ?_) (d_need_sayings_ok)
  exact (q_cons (q_if (q_not (q_tval (q_call G_is_listing (hr.mono (by decide)) rfl T.g_is_listing T.k_is_listing b_is_listing .nil (fun _ _ => RelL.nil) pass0 (q_acons (q_var (pv 0)) q_anil)))) (q_cons q_never q_nil) q_nil) (q_cons (q_for PassesOwn.never rfl (q_ienum0 (by rfl) T.b_enumerate (q_var (pv 0))) (q_gtup (n := 2) rfl (q_gcons (q_gname (vs := [1, 2]) (pg_name (i := 1) sc_need_sayings.nd rfl (Or.inl rfl)) (by decide)) (q_gcons (q_gname (vs := [1, 2]) (pg_name (i := 2) sc_need_sayings.nd rfl (Or.inl rfl)) (by decide)) q_gnil))) (q_cons (q_if (q_not (q_tval (q_call G_is_saying (hr.mono (by decide)) rfl T.g_is_saying T.k_is_saying b_is_saying .nil (fun _ _ => RelL.nil) pass0 (q_acons (q_var (pv 2)) q_anil)))) (q_cons q_never q_nil) q_nil) q_nil)) q_nil))
theorem sc_keeps : FnScope N_keeps ["house", "saying"] (defScope s_keeps) := ⟨rfl, rfl, rfl, by decide +kernel, rfl, by decide +kernel, by decide +kernel⟩
theorem ok_keeps {fd fd_kept_by fd_need_sayings : FuncData} (F : Fun K "keeps" "keeps" s_keeps a_keeps fd) (T : Tx K mg a__law_draw a__law_beginning a__law_gone a__law_head a__law_heap a__law_last_4 a__law_keeps_far a__law_pen a__law_far a__law_number_2 a__law_spot a__law_saying a_heap_of a_signs_of a_last_by a_House_last_place a_kept_by a_is_listing a_is_whole a_is_count a_is_saying a_need_sayings a_keeps a_is_base a_is_beginning a_House___init__ a_law a_House tk_LEAST_BASE tk_MOST_BASE) (G_kept_by : FnOk P w K mg base CX0 4 a_kept_by fd_kept_by ["house", "saying"] (lift K (sp_kept_by (Cl.mk a_House a_law a_law a_law a_law)))) (b_kept_by : Binds K fd_kept_by ["house", "saying"] []) (G_need_sayings : FnOk P w K mg base CX0 4 a_need_sayings fd_need_sayings ["sayings"] (lift K (sp_need_sayings))) (b_need_sayings : Binds K fd_need_sayings ["sayings"] []) : FnOk P w K mg base CX0 5 a_keeps fd ["house", "saying"] (lift K (sp_keeps (Cl.mk a_House a_law a_law a_law a_law))) := by
  refine fn_ok (ds := d_keeps (Cl.mk a_House a_law a_law a_law a_law)) F sc_keeps (len_keeps (Cl.mk a_House a_law a_law a_law a_law)) (fun cdv A outer s H E B hr hB hm => ?_) (d_keeps_ok (Cl.mk a_House a_law a_law a_law a_law))
  exact (q_cons (q_drop (q_call G_need_sayings (hr.mono (by decide)) rfl T.g_need_sayings T.k_need_sayings b_need_sayings .nil (fun _ _ => RelL.nil) pass0 (q_acons (toE (q_lst (q_acons (q_var (pv 1)) q_anil))) q_anil))) (q_cons (q_ret hm (q_call G_kept_by (hr.mono (by decide)) rfl T.g_kept_by T.k_kept_by b_kept_by .nil (fun _ _ => RelL.nil) pass0 (q_acons (q_var (pv 0)) (q_acons (q_var (pv 1)) q_anil)))) q_nil))
theorem sc_is_base : FnScope N_is_base ["thing"] (defScope s_is_base) := ⟨rfl, rfl, rfl, by decide +kernel, rfl, by decide +kernel, by decide +kernel⟩
theorem ok_is_base {fd fd_is_whole : FuncData} (F : Fun K "is_base" "is_base" s_is_base a_is_base fd) (T : Tx K mg a__law_draw a__law_beginning a__law_gone a__law_head a__law_heap a__law_last_4 a__law_keeps_far a__law_pen a__law_far a__law_number_2 a__law_spot a__law_saying a_heap_of a_signs_of a_last_by a_House_last_place a_kept_by a_is_listing a_is_whole a_is_count a_is_saying a_need_sayings a_keeps a_is_base a_is_beginning a_House___init__ a_law a_House tk_LEAST_BASE tk_MOST_BASE) (G_is_whole : FnOk P w K mg base CX0 1 a_is_whole fd_is_whole ["thing"] (lift K (sp_is_whole))) (b_is_whole : Binds K fd_is_whole ["thing"] []) : FnOk P w K mg base CX0 2 a_is_base fd ["thing"] (lift K (sp_is_base)) := by
  refine fn_ok (ds := d_is_base) F sc_is_base (len_is_base) (fun cdv A outer s H E B hr hB hm => ?_) (d_is_base_ok)
  exact (q_cons (q_ret hm (q_andV (q_call G_is_whole (hr.mono (by decide)) rfl T.g_is_whole T.k_is_whole b_is_whole .nil (fun _ _ => RelL.nil) pass0 (q_acons (q_var (pv 0)) q_anil)) (q_one (q_chain op_le rop_le op_le rop_le (toV (q_c (pe_glob (v := (.int 2)) rfl T.c_LEAST_BASE ⟨_, rfl⟩) (fun _ _ => rD_int _))) (toV (q_var (pv 0))) (toV (q_c (pe_glob (v := (.int 30)) rfl T.c_MOST_BASE ⟨_, rfl⟩) (fun _ _ => rD_int _))))))) q_nil)
theorem sc_is_beginning : FnScope N_is_beginning ["base", "thing"] (defScope s_is_beginning) := ⟨rfl, rfl, rfl, by decide +kernel, rfl, by decide +kernel, by decide +kernel⟩
theorem ok_is_beginning {fd fd_is_count fd_is_listing : FuncData} (F : Fun K "is_beginning" "is_beginning" s_is_beginning a_is_beginning fd) (T : Tx K mg a__law_draw a__law_beginning a__law_gone a__law_head a__law_heap a__law_last_4 a__law_keeps_far a__law_pen a__law_far a__law_number_2 a__law_spot a__law_saying a_heap_of a_signs_of a_last_by a_House_last_place a_kept_by a_is_listing a_is_whole a_is_count a_is_saying a_need_sayings a_keeps a_is_base a_is_beginning a_House___init__ a_law a_House tk_LEAST_BASE tk_MOST_BASE) (G_is_count : FnOk P w K mg base CX0 2 a_is_count fd_is_count ["thing"] (lift K (sp_is_count))) (b_is_count : Binds K fd_is_count ["thing"] []) (G_is_listing : FnOk P w K mg base CX0 1 a_is_listing fd_is_listing ["thing"] (lift K (sp_is_listing))) (b_is_listing : Binds K fd_is_listing ["thing"] []) : FnOk P w K mg base CX0 3 a_is_beginning fd ["base", "thing"] (lift K (sp_is_beginning)) := by
  refine fn_ok (ds := d_is_beginning) F sc_is_beginning (len_is_beginning) (fun cdv A outer s H E B hr hB hm => ?_) (d_is_beginning_ok)
  exact (q_cons (q_if (L2.PW.pt (q_or (q_not (q_tval (q_call G_is_listing (hr.mono (by decide)) rfl T.g_is_listing T.k_is_listing b_is_listing .nil (fun _ _ => RelL.nil) pass0 (q_acons (q_var (pv 1)) q_anil)))) (q_or1 (q_tcmp (op_neD hr.units) rop_ne (toV (q_callB call_len3 rc_len (by rfl) T.b_len (by decide +kernel) (q_xcons (toV (q_var (pv 1))) q_xnil))) (toV (q_op op_sub rop_sub (toV (q_var (pv 0))) (toV q_int))) (nomark _))))) (q_cons (q_ret hm q_bl) q_nil) q_nil) (q_cons (q_ret hm (q_callB (cr_all rfl) rc_all (by rfl) T.b_all (by decide +kernel) (q_xcons (toV (toE (q_lc (own := [("many", 2)]) rfl sc_is_beginning.nd (q_iany (q_var (pv 1))) (blkOk_by (N := N_is_beginning) (sc := defScope s_is_beginning) (own := [("many", 2)]) (by decide +kernel)) (fun _ _ _ _ _ B => (q_gname (vs := [2]) (pg_name (i := 2) sc_is_beginning.nd rfl (Or.inl rfl)) (by decide))) (fun _ _ _ _ _ => pts_U0) (fun _ _ _ _ _ B => (q_call G_is_count (hr.mono (by decide)) rfl T.g_is_count T.k_is_count b_is_count .nil (fun _ _ => RelL.nil) pass0 (q_acons (q_var (pv 2)) q_anil)))))) q_xnil))) q_nil))
theorem sc_House___init__ : FnScope N_House___init__ ["self", "k", "beginning"] (defScope s_House___init__) := ⟨rfl, rfl, rfl, by decide +kernel, rfl, by decide +kernel, by decide +kernel⟩
theorem ok_House___init__ {fd fd_is_base fd_is_beginning : FuncData} (F : Fun K "__init__" "House.__init__" s_House___init__ a_House___init__ fd) (T : Tx K mg a__law_draw a__law_beginning a__law_gone a__law_head a__law_heap a__law_last_4 a__law_keeps_far a__law_pen a__law_far a__law_number_2 a__law_spot a__law_saying a_heap_of a_signs_of a_last_by a_House_last_place a_kept_by a_is_listing a_is_whole a_is_count a_is_saying a_need_sayings a_keeps a_is_base a_is_beginning a_House___init__ a_law a_House tk_LEAST_BASE tk_MOST_BASE) (G_is_base : FnOk P w K mg base CX0 2 a_is_base fd_is_base ["thing"] (lift K (sp_is_base))) (b_is_base : Binds K fd_is_base ["thing"] []) (G_is_beginning : FnOk P w K mg base CX0 3 a_is_beginning fd_is_beginning ["base", "thing"] (lift K (sp_is_beginning))) (b_is_beginning : Binds K fd_is_beginning ["base", "thing"] []) : FnOk P w K mg base CX0 4 a_House___init__ fd ["self", "k", "beginning"] (liftI K a_House (sp_House___init__ (Cl.mk a_House a_law a_law a_law a_law))) := by
  refine fn_okI (ds := d_House___init__ (Cl.mk a_House a_law a_law a_law a_law)) F sc_House___init__ (len_House___init__ (Cl.mk a_House a_law a_law a_law a_law)) (np_House___init__ (Cl.mk a_House a_law a_law a_law a_law)) (fun cdv A outer s H E hr => ?_) (d_House___init___ok (Cl.mk a_House a_law a_law a_law a_law))
  exact (i_cons (i_guard fun B => (q_not (q_tval (q_call G_is_base (hr.mono (by decide)) rfl T.g_is_base T.k_is_base b_is_base .nil (fun _ _ => RelL.nil) pass0 (q_acons (q_var (pv 1)) q_anil))))) (i_cons (i_guard fun B => (q_not (q_tval (q_call G_is_beginning (hr.mono (by decide)) rfl T.g_is_beginning T.k_is_beginning b_is_beginning .nil (fun _ _ => RelL.nil) pass0 (q_acons (q_var (pv 1)) (q_acons (q_var (pv 2)) q_anil)))))) (i_cons (i_set (pv 0) (fun B => (q_var (pv 1))) T.cl_House T.n_House_kept_base) (i_cons (i_set (pv 0) (fun B => (toE (q_callTyN call_list_of rc_list (by rfl) T.b_list (by decide +kernel) (q_xcons (toV (q_var (pv 2))) q_xnil)))) T.cl_House T.n_House_kept_beginning) (i_sums (pv 0) (pv 2) (pg_name (i := 3) sc_House___init__.nd rfl (Or.inl rfl)) (pe_bm PySem.F.plainAttrs_list PySem.F.slot_list_append PySem.F.type_list_append mt_append (pe_fld (pv 0) rfl) (pa_cons (pe_U fun B => (q_op op_add4 rop_add (toV (q_op op_sub rop_sub (toV (q_var (pv 3))) (toV q_int))) (toV (q_ifE (q_tcmp (op_neD hr.units) rop_ne (toV (q_fld (toV (q_var (pv 0))) T.cl_House T.n_House_sums)) (toV (toE (q_lst q_anil))) (nomark _)) (q_ix (toV (q_fld (toV (q_var (pv 0))) T.cl_House T.n_House_sums)) (toV (q_un un_neg run_neg (toV q_int))) (fun _ _ => rfl)) q_int)))) pa_nil)) (sumsE_House (Cl.mk a_House a_law a_law a_law a_law)) T.cl_House T.n_House_sums PassesOwn.never rfl (by decide))))))
theorem sc_law : FnScope N_law ["_law_script"] (defScope s_law) := ⟨rfl, rfl, rfl, by decide +kernel, rfl, by decide +kernel, by decide +kernel⟩
theorem ok_law {fd fd__law_beginning fd__law_draw fd__law_gone fd__law_keeps_far fd__law_pen fd__law_saying fd_keeps fd_House___init__ : FuncData} (F : Fun K "law" "law" s_law a_law fd) (T : Tx K mg a__law_draw a__law_beginning a__law_gone a__law_head a__law_heap a__law_last_4 a__law_keeps_far a__law_pen a__law_far a__law_number_2 a__law_spot a__law_saying a_heap_of a_signs_of a_last_by a_House_last_place a_kept_by a_is_listing a_is_whole a_is_count a_is_saying a_need_sayings a_keeps a_is_base a_is_beginning a_House___init__ a_law a_House tk_LEAST_BASE tk_MOST_BASE) (G__law_beginning : FnOk P w K mg base CX0 2 a__law_beginning fd__law_beginning ["_law_pen_here", "_law_base", "_law_most"] (lift K (sp__law_beginning))) (b__law_beginning : Binds K fd__law_beginning ["_law_pen_here", "_law_base", "_law_most"] []) (G__law_draw : FnOk P w K mg base CX0 1 a__law_draw fd__law_draw ["_law_pen_here", "_law_many"] (lift K (sp__law_draw))) (b__law_draw : Binds K fd__law_draw ["_law_pen_here", "_law_many"] []) (G__law_gone : FnOk P w K mg base CX0 1 a__law_gone fd__law_gone ["_law_base", "_law_begun", "_law_many"] (lift K (sp__law_gone))) (b__law_gone : Binds K fd__law_gone ["_law_base", "_law_begun", "_law_many"] []) (G__law_keeps_far : FnOk P w K mg base CX0 3 a__law_keeps_far fd__law_keeps_far ["_law_base", "_law_begun", "_law_saying_here"] (lift K (sp__law_keeps_far))) (b__law_keeps_far : Binds K fd__law_keeps_far ["_law_base", "_law_begun", "_law_saying_here"] []) (G__law_pen : FnOk P w K mg base CX0 1 a__law_pen fd__law_pen ["_law_script"] (liftN K (sp__law_pen))) (b__law_pen : Binds K fd__law_pen ["_law_script"] []) (G__law_saying : FnOk P w K mg base CX0 4 a__law_saying fd__law_saying ["_law_pen_here", "_law_base", "_law_begun", "_law_off"] (lift K (sp__law_saying))) (b__law_saying : Binds K fd__law_saying ["_law_pen_here", "_law_base", "_law_begun", "_law_off"] []) (G_keeps : FnOk P w K mg base CX0 5 a_keeps fd_keeps ["house", "saying"] (lift K (sp_keeps (Cl.mk a_House a_law a_law a_law a_law)))) (b_keeps : Binds K fd_keeps ["house", "saying"] []) (G_House___init__ : FnOk P w K mg base CX0 4 a_House___init__ fd_House___init__ ["self", "k", "beginning"] (liftI K a_House (sp_House___init__ (Cl.mk a_House a_law a_law a_law a_law)))) (b_House___init__ : Binds K fd_House___init__ ["self", "k", "beginning"] []) : FnOkG P w K mg base CX0 6 a_law fd ["_law_script"] (spLaw K) := by
  refine fn_lawG (i := 1) (dp := dCall sp__law_pen [] (dCons (dVar 0) dNil)) (ds := d_law (Cl.mk a_House a_law a_law a_law a_law)) F sc_law rfl (fun cdv A outer s H E B hr0 => ?_) (fun cdv A outer s H E B hr0 hB hm => ?_) ⟨by decide, by decide⟩ false (d_law_ok (Cl.mk a_House a_law a_law a_law a_law))
  · have hr := hr0.room
    exact ps_set (i := 1) sc_law.nd rfl (Or.inl rfl) (q_callN G__law_pen (hr.mono (by decide)) rfl T.g__law_pen T.k__law_pen b__law_pen .nil (fun _ _ => RelL.nil) pass0 (q_acons (q_var (pv 0)) q_anil))
  · have hr := hr0.room
    exact (q_cons (q_for PassesOwn.never rfl (q_irng1 (by rfl) T.b_range (toV (q_op op_add4 rop_add (toV q_int) (toV (q_callB (call_min3 rfl) rc_min (by rfl) T.b_min (by decide +kernel) (q_xcons (toV q_int) (q_xcons (toV (q_op op_fdivW rop_div (toV (q_callB call_len3 rc_len (by rfl) T.b_len (by decide +kernel) (q_xcons (toV (q_var (pv 0))) q_xnil))) (toV q_int))) q_xnil))))))) (q_gname (vs := [2]) (pg_name (i := 2) sc_law.nd rfl (Or.inl rfl)) (by decide)) (q_cons (q_set (i := 3) sc_law.nd rfl (Or.inl rfl) (q_ix (toV (toE (q_lst (q_acons (q_op op_add4 rop_add (toV q_int) (toV (q_call G__law_draw (hr.mono (by decide)) rfl T.g__law_draw T.k__law_draw b__law_draw .nil (fun _ _ => RelL.nil) pass0 (q_acons (q_var (pv 1)) (q_acons q_int q_anil))))) (q_acons (q_op op_add4 rop_add (toV q_int) (toV (q_call G__law_draw (hr.mono (by decide)) rfl T.g__law_draw T.k__law_draw b__law_draw .nil (fun _ _ => RelL.nil) pass0 (q_acons (q_var (pv 1)) (q_acons q_int q_anil))))) q_anil))))) (toV (q_call G__law_draw (hr.mono (by decide)) rfl T.g__law_draw T.k__law_draw b__law_draw .nil (fun _ _ => RelL.nil) pass0 (q_acons (q_var (pv 1)) (q_acons q_int q_anil)))) (fun _ _ => rfl))) (q_cons (q_set (i := 4) sc_law.nd rfl (Or.inl rfl) (q_call G__law_beginning (hr.mono (by decide)) rfl T.g__law_beginning T.k__law_beginning b__law_beginning .nil (fun _ _ => RelL.nil) pass0 (q_acons (q_var (pv 1)) (q_acons (q_var (pv 3)) (q_acons q_int q_anil))))) (q_cons (q_par (i := 6) (j := 7) rfl sc_law.nd rfl rfl (by decide) rfl rfl (q_acons (toE (q_make T.mk_House G_House___init__ (hr.mono (by decide)) rfl T.g_House b_House___init__ .nil (fun _ _ => RelL.nil) pass0 (q_acons (q_var (pv 3)) (q_acons (toE (q_callTyN call_list_of rc_list (by rfl) T.b_list (by decide +kernel) (q_xcons (toV (q_var (pv 4))) q_xnil))) q_anil)))) (q_acons (q_call G__law_gone (hr.mono (by decide)) rfl T.g__law_gone T.k__law_gone b__law_gone .nil (fun _ _ => RelL.nil) pass0 (q_acons (q_var (pv 3)) (q_acons (q_var (pv 4)) (q_acons (q_op op_add4 rop_add (toV q_int) (toV (q_call G__law_draw (hr.mono (by decide)) rfl T.g__law_draw T.k__law_draw b__law_draw .nil (fun _ _ => RelL.nil) pass0 (q_acons (q_var (pv 1)) (q_acons q_int q_anil))))) q_anil)))) q_anil)) (by rfl)) (q_cons (q_for PassesOwn.never rfl (q_irng1 (by rfl) T.b_range (toV q_int)) (q_gname (vs := [5]) (pg_name (i := 5) sc_law.nd rfl (Or.inl rfl)) (by decide)) (q_cons (q_set (i := 8) sc_law.nd rfl (Or.inl rfl) (q_op op_add4 rop_add (toV q_int) (toV (q_call G__law_draw (hr.mono (by decide)) rfl T.g__law_draw T.k__law_draw b__law_draw .nil (fun _ _ => RelL.nil) pass0 (q_acons (q_var (pv 1)) (q_acons (q_callB call_len3 rc_len (by rfl) T.b_len (by decide +kernel) (q_xcons (toV (q_var (pv 7))) q_xnil)) q_anil)))))) (q_cons (q_set (i := 9) sc_law.nd rfl (Or.inl rfl) (q_ix (toV (q_var (pv 7))) (toV (q_op op_sub rop_sub (toV (q_var (pv 8))) (toV q_int))) (fun _ _ => rfl))) (q_cons (q_set (i := 10) sc_law.nd rfl (Or.inl rfl) (q_ix (toV (toE (q_lst (q_acons (q_callB (call_max3 rfl) rc_max (by rfl) T.b_max (by decide +kernel) (q_xcons (toV q_int) (q_xcons (toV (q_op op_sub rop_sub (toV (q_op op_add4 rop_add (toV (q_var (pv 9))) (toV (q_call G__law_draw (hr.mono (by decide)) rfl T.g__law_draw T.k__law_draw b__law_draw .nil (fun _ _ => RelL.nil) pass0 (q_acons (q_var (pv 1)) (q_acons q_int q_anil)))))) (toV q_int))) q_xnil))) (q_acons (q_op op_add4 rop_add (toV q_int) (toV (q_call G__law_draw (hr.mono (by decide)) rfl T.g__law_draw T.k__law_draw b__law_draw .nil (fun _ _ => RelL.nil) pass0 (q_acons (q_var (pv 1)) (q_acons (q_op op_powW rop_pow (toV q_int) (toV q_int)) q_anil))))) q_anil))))) (toV (q_callTy call_int1 rc_int (by rfl) T.b_int (by decide +kernel) (q_xcons (toV (q_cmp (op_eqD hr.units) rop_eq (toV (q_call G__law_draw (hr.mono (by decide)) rfl T.g__law_draw T.k__law_draw b__law_draw .nil (fun _ _ => RelL.nil) pass0 (q_acons (q_var (pv 1)) (q_acons q_int q_anil)))) (toV q_int) (nomark _))) q_xnil))) (fun _ _ => rfl))) (q_cons (q_if (q_tcmp op_ne rop_neR (toV (q_callB (call_reprD hr0.idle hr.units) rc_repr (by rfl) T.b_repr (by decide +kernel) (q_xcons (toV (q_call G_keeps (hr.mono (by decide)) rfl T.g_keeps T.k_keeps b_keeps .nil (fun _ _ => RelL.nil) pass0 (q_acons (q_var (pv 6)) (q_acons (q_tup (q_acons q_str (q_acons (q_var (pv 8)) (q_acons (q_var (pv 10)) q_anil)))) q_anil)))) q_xnil))) (toV (q_callB (call_reprD hr0.idle hr.units) rc_repr (by rfl) T.b_repr (by decide +kernel) (q_xcons (toV (q_cmp op_le rop_le (toV (q_var (pv 9))) (toV (q_var (pv 10))) (nomark _))) q_xnil))) (nomark _)) (q_cons (q_ret hm q_bl) q_nil) q_nil) (q_cons (q_if (q_tcmp op_ne rop_neR (toV (q_callB (call_reprD hr0.idle hr.units) rc_repr (by rfl) T.b_repr (by decide +kernel) (q_xcons (toV (q_call G_keeps (hr.mono (by decide)) rfl T.g_keeps T.k_keeps b_keeps .nil (fun _ _ => RelL.nil) pass0 (q_acons (q_var (pv 6)) (q_acons (q_tup (q_acons q_str (q_acons (q_var (pv 8)) (q_acons (q_var (pv 10)) q_anil)))) q_anil)))) q_xnil))) (toV (q_callB (call_reprD hr0.idle hr.units) rc_repr (by rfl) T.b_repr (by decide +kernel) (q_xcons (toV (q_cmp op_ge rop_ge (toV (q_var (pv 9))) (toV (q_var (pv 10))) (nomark _))) q_xnil))) (nomark _)) (q_cons (q_ret hm q_bl) q_nil) q_nil) q_nil)))))) (q_cons (q_set (i := 4) sc_law.nd rfl (Or.inl rfl) (q_call G__law_beginning (hr.mono (by decide)) rfl T.g__law_beginning T.k__law_beginning b__law_beginning .nil (fun _ _ => RelL.nil) pass0 (q_acons (q_var (pv 1)) (q_acons (q_var (pv 3)) (q_acons (q_op op_powW rop_pow (toV q_int) (toV q_int)) q_anil))))) (q_cons (q_set (i := 6) sc_law.nd rfl (Or.inl rfl) (toE (q_make T.mk_House G_House___init__ (hr.mono (by decide)) rfl T.g_House b_House___init__ .nil (fun _ _ => RelL.nil) pass0 (q_acons (q_var (pv 3)) (q_acons (q_var (pv 4)) q_anil))))) (q_cons (q_for PassesOwn.never rfl (q_irng1 (by rfl) T.b_range (toV q_int)) (q_gname (vs := [5]) (pg_name (i := 5) sc_law.nd rfl (Or.inl rfl)) (by decide)) (q_cons (q_set (i := 11) sc_law.nd rfl (Or.inl rfl) (q_call G__law_saying (hr.mono (by decide)) rfl T.g__law_saying T.k__law_saying b__law_saying .nil (fun _ _ => RelL.nil) pass0 (q_acons (q_var (pv 1)) (q_acons (q_var (pv 3)) (q_acons (q_var (pv 4)) (q_acons (q_op op_sub rop_sub (toV (q_call G__law_draw (hr.mono (by decide)) rfl T.g__law_draw T.k__law_draw b__law_draw .nil (fun _ _ => RelL.nil) pass0 (q_acons (q_var (pv 1)) (q_acons q_int q_anil)))) (toV q_int)) q_anil)))))) (q_cons (q_if (q_tcmp op_ne rop_neR (toV (q_callB (call_reprD hr0.idle hr.units) rc_repr (by rfl) T.b_repr (by decide +kernel) (q_xcons (toV (q_call G_keeps (hr.mono (by decide)) rfl T.g_keeps T.k_keeps b_keeps .nil (fun _ _ => RelL.nil) pass0 (q_acons (q_var (pv 6)) (q_acons (q_var (pv 11)) q_anil)))) q_xnil))) (toV (q_callB (call_reprD hr0.idle hr.units) rc_repr (by rfl) T.b_repr (by decide +kernel) (q_xcons (toV (q_call G__law_keeps_far (hr.mono (by decide)) rfl T.g__law_keeps_far T.k__law_keeps_far b__law_keeps_far .nil (fun _ _ => RelL.nil) pass0 (q_acons (q_var (pv 3)) (q_acons (q_var (pv 4)) (q_acons (q_var (pv 11)) q_anil))))) q_xnil))) (nomark _)) (q_cons (q_ret hm q_bl) q_nil) q_nil) q_nil))) q_nil)))))))) (q_cons (q_ret hm q_bl) q_nil))
end
theorem all_mk {l : PySem.W.OpenLaw} {w : World} {K : PySem.W.Frag} {h : Heap} {mg : Str → Option Value} {fa a__law_draw a__law_beginning a__law_gone a__law_head a__law_heap a__law_last_4 a__law_keeps_far a__law_pen a__law_far a__law_number_2 a__law_spot a__law_saying a_heap_of a_signs_of a_last_by a_House_last_place a_kept_by a_is_listing a_is_whole a_is_count a_is_saying a_need_sayings a_keeps a_is_base a_is_beginning a_House___init__ a_law a_House : Addr} {tk_LEAST_BASE tk_MOST_BASE : Tok} (X : K.In h) (G : h.Ns mainGlobals mg) (hfa : mg "law" = some (.ref fa))
    {od1 an1 od2 an2 od3 an3 od4 an4 od5 an5 od6 an6 od7 an7 od8 an8 od9 an9 od10 an10 od11 an11 od12 an12 od13 an13 od14 an14 od15 an15 od16 an16 od17 an17 od18 an18 od19 an19 od20 an20 od21 an21 od22 an22 od23 an23 od24 an24 od25 an25 od26 an26 od27 an27 : Option Addr} {sl1 sl2 sl3 sl4 sl5 sl6 sl7 sl8 sl9 sl10 sl11 sl12 sl13 sl14 sl15 sl16 sl17 sl18 sl19 sl20 sl21 sl22 sl23 sl24 sl25 sl26 sl27 : Array (Option Value)} {oc1 kV1 dc1 pm1 cd1 ct1 oc2 kV2 dc2 pm2 cd2 ct2 oc3 kV3 dc3 pm3 cd3 ct3 oc4 kV4 dc4 pm4 cd4 ct4 oc5 kV5 dc5 pm5 cd5 ct5 oc6 kV6 dc6 pm6 cd6 ct6 oc7 kV7 dc7 pm7 cd7 ct7 oc8 kV8 dc8 pm8 cd8 ct8 oc9 kV9 dc9 pm9 cd9 ct9 oc10 kV10 dc10 pm10 cd10 ct10 oc11 kV11 dc11 pm11 cd11 ct11 oc12 kV12 dc12 pm12 cd12 ct12 oc13 kV13 dc13 pm13 cd13 ct13 oc14 kV14 dc14 pm14 cd14 ct14 oc15 kV15 dc15 pm15 cd15 ct15 oc16 kV16 dc16 pm16 cd16 ct16 oc17 kV17 dc17 pm17 cd17 ct17 oc18 kV18 dc18 pm18 cd18 ct18 oc19 kV19 dc19 pm19 cd19 ct19 oc20 kV20 dc20 pm20 cd20 ct20 oc21 kV21 dc21 pm21 cd21 ct21 oc22 kV22 dc22 pm22 cd22 ct22 oc23 kV23 dc23 pm23 cd23 ct23 oc24 kV24 dc24 pm24 cd24 ct24 oc25 kV25 dc25 pm25 cd25 ct25 oc26 kV26 dc26 pm26 cd26 ct26 oc27 kV27 dc27 pm27 cd27 ct27 : Value}
    (ac_House : PySem.W.nsIn K mainGlobals "House" = some (some (.ref a_House))) (pg_House : PySem.W.plainGet K a_House Str.empty = true) (hd_House : PySem.W.hasDictIn K a_House = true) (po_House : PySem.W.plainOver K a_House = true)
    (sa_House : PySem.W.findIn K (.ref a_House) "__setattr__" = some (some (.builtin "object.__setattr__")))
    (a1 : PySem.W.nsIn K mainGlobals "_law_draw" = some (some (.ref a__law_draw)))
    (l1 : K.lookup a__law_draw = some ⟨oc1, od1, .func (PySem.W.fnOf "_law_draw" "_law_draw" (defArgs s__law_draw) (defBody s__law_draw) (defScope s__law_draw) .none kV1 dc1 pm1 an1 cd1 ct1), sl1⟩) (c1 : PySem.W.codeIn K cd1 "_law_draw" = true) (k1 : PySem.W.keepIn K (.ref a__law_draw) = true)
    (a2 : PySem.W.nsIn K mainGlobals "_law_beginning" = some (some (.ref a__law_beginning)))
    (l2 : K.lookup a__law_beginning = some ⟨oc2, od2, .func (PySem.W.fnOf "_law_beginning" "_law_beginning" (defArgs s__law_beginning) (defBody s__law_beginning) (defScope s__law_beginning) .none kV2 dc2 pm2 an2 cd2 ct2), sl2⟩) (c2 : PySem.W.codeIn K cd2 "_law_beginning" = true) (k2 : PySem.W.keepIn K (.ref a__law_beginning) = true)
    (a3 : PySem.W.nsIn K mainGlobals "_law_gone" = some (some (.ref a__law_gone)))
    (l3 : K.lookup a__law_gone = some ⟨oc3, od3, .func (PySem.W.fnOf "_law_gone" "_law_gone" (defArgs s__law_gone) (defBody s__law_gone) (defScope s__law_gone) .none kV3 dc3 pm3 an3 cd3 ct3), sl3⟩) (c3 : PySem.W.codeIn K cd3 "_law_gone" = true) (k3 : PySem.W.keepIn K (.ref a__law_gone) = true)
    (a4 : PySem.W.nsIn K mainGlobals "_law_head" = some (some (.ref a__law_head)))
    (l4 : K.lookup a__law_head = some ⟨oc4, od4, .func (PySem.W.fnOf "_law_head" "_law_head" (defArgs s__law_head) (defBody s__law_head) (defScope s__law_head) .none kV4 dc4 pm4 an4 cd4 ct4), sl4⟩) (c4 : PySem.W.codeIn K cd4 "_law_head" = true) (k4 : PySem.W.keepIn K (.ref a__law_head) = true)
    (a5 : PySem.W.nsIn K mainGlobals "_law_heap" = some (some (.ref a__law_heap)))
    (l5 : K.lookup a__law_heap = some ⟨oc5, od5, .func (PySem.W.fnOf "_law_heap" "_law_heap" (defArgs s__law_heap) (defBody s__law_heap) (defScope s__law_heap) .none kV5 dc5 pm5 an5 cd5 ct5), sl5⟩) (c5 : PySem.W.codeIn K cd5 "_law_heap" = true) (k5 : PySem.W.keepIn K (.ref a__law_heap) = true)
    (a6 : PySem.W.nsIn K mainGlobals "_law_last" = some (some (.ref a__law_last_4)))
    (l6 : K.lookup a__law_last_4 = some ⟨oc6, od6, .func (PySem.W.fnOf "_law_last" "_law_last" (defArgs s__law_last_4) (defBody s__law_last_4) (defScope s__law_last_4) .none kV6 dc6 pm6 an6 cd6 ct6), sl6⟩) (c6 : PySem.W.codeIn K cd6 "_law_last" = true) (k6 : PySem.W.keepIn K (.ref a__law_last_4) = true)
    (a7 : PySem.W.nsIn K mainGlobals "_law_keeps_far" = some (some (.ref a__law_keeps_far)))
    (l7 : K.lookup a__law_keeps_far = some ⟨oc7, od7, .func (PySem.W.fnOf "_law_keeps_far" "_law_keeps_far" (defArgs s__law_keeps_far) (defBody s__law_keeps_far) (defScope s__law_keeps_far) .none kV7 dc7 pm7 an7 cd7 ct7), sl7⟩) (c7 : PySem.W.codeIn K cd7 "_law_keeps_far" = true) (k7 : PySem.W.keepIn K (.ref a__law_keeps_far) = true)
    (a8 : PySem.W.nsIn K mainGlobals "_law_pen" = some (some (.ref a__law_pen)))
    (l8 : K.lookup a__law_pen = some ⟨oc8, od8, .func (PySem.W.fnOf "_law_pen" "_law_pen" (defArgs s__law_pen) (defBody s__law_pen) (defScope s__law_pen) .none kV8 dc8 pm8 an8 cd8 ct8), sl8⟩) (c8 : PySem.W.codeIn K cd8 "_law_pen" = true) (k8 : PySem.W.keepIn K (.ref a__law_pen) = true)
    (a9 : PySem.W.nsIn K mainGlobals "_law_far" = some (some (.ref a__law_far)))
    (l9 : K.lookup a__law_far = some ⟨oc9, od9, .func (PySem.W.fnOf "_law_far" "_law_far" (defArgs s__law_far) (defBody s__law_far) (defScope s__law_far) .none kV9 dc9 pm9 an9 cd9 ct9), sl9⟩) (c9 : PySem.W.codeIn K cd9 "_law_far" = true) (k9 : PySem.W.keepIn K (.ref a__law_far) = true)
    (a10 : PySem.W.nsIn K mainGlobals "_law_number" = some (some (.ref a__law_number_2)))
    (l10 : K.lookup a__law_number_2 = some ⟨oc10, od10, .func (PySem.W.fnOf "_law_number" "_law_number" (defArgs s__law_number_2) (defBody s__law_number_2) (defScope s__law_number_2) .none kV10 dc10 pm10 an10 cd10 ct10), sl10⟩) (c10 : PySem.W.codeIn K cd10 "_law_number" = true) (k10 : PySem.W.keepIn K (.ref a__law_number_2) = true)
    (a11 : PySem.W.nsIn K mainGlobals "_law_spot" = some (some (.ref a__law_spot)))
    (l11 : K.lookup a__law_spot = some ⟨oc11, od11, .func (PySem.W.fnOf "_law_spot" "_law_spot" (defArgs s__law_spot) (defBody s__law_spot) (defScope s__law_spot) .none kV11 dc11 pm11 an11 cd11 ct11), sl11⟩) (c11 : PySem.W.codeIn K cd11 "_law_spot" = true) (k11 : PySem.W.keepIn K (.ref a__law_spot) = true)
    (a12 : PySem.W.nsIn K mainGlobals "_law_saying" = some (some (.ref a__law_saying)))
    (l12 : K.lookup a__law_saying = some ⟨oc12, od12, .func (PySem.W.fnOf "_law_saying" "_law_saying" (defArgs s__law_saying) (defBody s__law_saying) (defScope s__law_saying) .none kV12 dc12 pm12 an12 cd12 ct12), sl12⟩) (c12 : PySem.W.codeIn K cd12 "_law_saying" = true) (k12 : PySem.W.keepIn K (.ref a__law_saying) = true)
    (a13 : PySem.W.nsIn K mainGlobals "heap_of" = some (some (.ref a_heap_of)))
    (l13 : K.lookup a_heap_of = some ⟨oc13, od13, .func (PySem.W.fnOf "heap_of" "heap_of" (defArgs s_heap_of) (defBody s_heap_of) (defScope s_heap_of) .none kV13 dc13 pm13 an13 cd13 ct13), sl13⟩) (c13 : PySem.W.codeIn K cd13 "heap_of" = true) (k13 : PySem.W.keepIn K (.ref a_heap_of) = true)
    (a14 : PySem.W.nsIn K mainGlobals "signs_of" = some (some (.ref a_signs_of)))
    (l14 : K.lookup a_signs_of = some ⟨oc14, od14, .func (PySem.W.fnOf "signs_of" "signs_of" (defArgs s_signs_of) (defBody s_signs_of) (defScope s_signs_of) .none kV14 dc14 pm14 an14 cd14 ct14), sl14⟩) (c14 : PySem.W.codeIn K cd14 "signs_of" = true) (k14 : PySem.W.keepIn K (.ref a_signs_of) = true)
    (a15 : PySem.W.nsIn K mainGlobals "last_by" = some (some (.ref a_last_by)))
    (l15 : K.lookup a_last_by = some ⟨oc15, od15, .func (PySem.W.fnOf "last_by" "last_by" (defArgs s_last_by) (defBody s_last_by) (defScope s_last_by) .none kV15 dc15 pm15 an15 cd15 ct15), sl15⟩) (c15 : PySem.W.codeIn K cd15 "last_by" = true) (k15 : PySem.W.keepIn K (.ref a_last_by) = true)
    (a16 : PySem.W.findIn K (.ref a_House) "last_place" = some (some (.ref a_House_last_place))) (i16 : PySem.W.isFn K (.ref a_House_last_place) = true)
    (l16 : K.lookup a_House_last_place = some ⟨oc16, od16, .func (PySem.W.fnOf "last_place" "House.last_place" (defArgs s_House_last_place) (defBody s_House_last_place) (defScope s_House_last_place) .none kV16 dc16 pm16 an16 cd16 ct16), sl16⟩) (c16 : PySem.W.codeIn K cd16 "House.last_place" = true) (k16 : PySem.W.keepIn K (.ref a_House_last_place) = true)
    (a17 : PySem.W.nsIn K mainGlobals "kept_by" = some (some (.ref a_kept_by)))
    (l17 : K.lookup a_kept_by = some ⟨oc17, od17, .func (PySem.W.fnOf "kept_by" "kept_by" (defArgs s_kept_by) (defBody s_kept_by) (defScope s_kept_by) .none kV17 dc17 pm17 an17 cd17 ct17), sl17⟩) (c17 : PySem.W.codeIn K cd17 "kept_by" = true) (k17 : PySem.W.keepIn K (.ref a_kept_by) = true)
    (a18 : PySem.W.nsIn K mainGlobals "is_listing" = some (some (.ref a_is_listing)))
    (l18 : K.lookup a_is_listing = some ⟨oc18, od18, .func (PySem.W.fnOf "is_listing" "is_listing" (defArgs s_is_listing) (defBody s_is_listing) (defScope s_is_listing) .none kV18 dc18 pm18 an18 cd18 ct18), sl18⟩) (c18 : PySem.W.codeIn K cd18 "is_listing" = true) (k18 : PySem.W.keepIn K (.ref a_is_listing) = true)
    (a19 : PySem.W.nsIn K mainGlobals "is_whole" = some (some (.ref a_is_whole)))
    (l19 : K.lookup a_is_whole = some ⟨oc19, od19, .func (PySem.W.fnOf "is_whole" "is_whole" (defArgs s_is_whole) (defBody s_is_whole) (defScope s_is_whole) .none kV19 dc19 pm19 an19 cd19 ct19), sl19⟩) (c19 : PySem.W.codeIn K cd19 "is_whole" = true) (k19 : PySem.W.keepIn K (.ref a_is_whole) = true)
    (a20 : PySem.W.nsIn K mainGlobals "is_count" = some (some (.ref a_is_count)))
    (l20 : K.lookup a_is_count = some ⟨oc20, od20, .func (PySem.W.fnOf "is_count" "is_count" (defArgs s_is_count) (defBody s_is_count) (defScope s_is_count) .none kV20 dc20 pm20 an20 cd20 ct20), sl20⟩) (c20 : PySem.W.codeIn K cd20 "is_count" = true) (k20 : PySem.W.keepIn K (.ref a_is_count) = true)
    (a21 : PySem.W.nsIn K mainGlobals "is_saying" = some (some (.ref a_is_saying)))
    (l21 : K.lookup a_is_saying = some ⟨oc21, od21, .func (PySem.W.fnOf "is_saying" "is_saying" (defArgs s_is_saying) (defBody s_is_saying) (defScope s_is_saying) .none kV21 dc21 pm21 an21 cd21 ct21), sl21⟩) (c21 : PySem.W.codeIn K cd21 "is_saying" = true) (k21 : PySem.W.keepIn K (.ref a_is_saying) = true)
    (a22 : PySem.W.nsIn K mainGlobals "need_sayings" = some (some (.ref a_need_sayings)))
    (l22 : K.lookup a_need_sayings = some ⟨oc22, od22, .func (PySem.W.fnOf "need_sayings" "need_sayings" (defArgs s_need_sayings) (defBody s_need_sayings) (defScope s_need_sayings) .none kV22 dc22 pm22 an22 cd22 ct22), sl22⟩) (c22 : PySem.W.codeIn K cd22 "need_sayings" = true) (k22 : PySem.W.keepIn K (.ref a_need_sayings) = true)
    (a23 : PySem.W.nsIn K mainGlobals "keeps" = some (some (.ref a_keeps)))
    (l23 : K.lookup a_keeps = some ⟨oc23, od23, .func (PySem.W.fnOf "keeps" "keeps" (defArgs s_keeps) (defBody s_keeps) (defScope s_keeps) .none kV23 dc23 pm23 an23 cd23 ct23), sl23⟩) (c23 : PySem.W.codeIn K cd23 "keeps" = true) (k23 : PySem.W.keepIn K (.ref a_keeps) = true)
    (a24 : PySem.W.nsIn K mainGlobals "is_base" = some (some (.ref a_is_base)))
    (l24 : K.lookup a_is_base = some ⟨oc24, od24, .func (PySem.W.fnOf "is_base" "is_base" (defArgs s_is_base) (defBody s_is_base) (defScope s_is_base) .none kV24 dc24 pm24 an24 cd24 ct24), sl24⟩) (c24 : PySem.W.codeIn K cd24 "is_base" = true) (k24 : PySem.W.keepIn K (.ref a_is_base) = true)
    (a25 : PySem.W.nsIn K mainGlobals "is_beginning" = some (some (.ref a_is_beginning)))
    (l25 : K.lookup a_is_beginning = some ⟨oc25, od25, .func (PySem.W.fnOf "is_beginning" "is_beginning" (defArgs s_is_beginning) (defBody s_is_beginning) (defScope s_is_beginning) .none kV25 dc25 pm25 an25 cd25 ct25), sl25⟩) (c25 : PySem.W.codeIn K cd25 "is_beginning" = true) (k25 : PySem.W.keepIn K (.ref a_is_beginning) = true)
    (a26 : PySem.W.findIn K (.ref a_House) "__init__" = some (some (.ref a_House___init__))) (i26 : PySem.W.isFn K (.ref a_House___init__) = true)
    (l26 : K.lookup a_House___init__ = some ⟨oc26, od26, .func (PySem.W.fnOf "__init__" "House.__init__" (defArgs s_House___init__) (defBody s_House___init__) (defScope s_House___init__) .none kV26 dc26 pm26 an26 cd26 ct26), sl26⟩) (c26 : PySem.W.codeIn K cd26 "House.__init__" = true) (k26 : PySem.W.keepIn K (.ref a_House___init__) = true)
    (a27 : PySem.W.nsIn K mainGlobals "law" = some (some (.ref a_law)))
    (l27 : K.lookup a_law = some ⟨oc27, od27, .func (PySem.W.fnOf "law" "law" (defArgs s_law) (defBody s_law) (defScope s_law) .none kV27 dc27 pm27 an27 cd27 ct27), sl27⟩) (c27 : PySem.W.codeIn K cd27 "law" = true) (k27 : PySem.W.keepIn K (.ref a_law) = true)
    (n_House_kept_base : PySem.W.findIn K (.ref a_House) "kept_base" = some none)
    (n_House_kept_beginning : PySem.W.findIn K (.ref a_House) "kept_beginning" = some none)
    (n_House_sums : PySem.W.findIn K (.ref a_House) "sums" = some none)
    (mk_House : PySem.W.makesIn K a_House = true) (kc_House : PySem.W.keepIn K (.ref a_House) = true)
    (q_LEAST_BASE : PySem.W.nsIn K mainGlobals "LEAST_BASE" = some (some (Value.int 2 tk_LEAST_BASE)))
    (q_MOST_BASE : PySem.W.nsIn K mainGlobals "MOST_BASE" = some (some (Value.int 30 tk_MOST_BASE)))
    (z_abs : PySem.W.nsIn K mainGlobals "abs" = some none)
    (z_all : PySem.W.nsIn K mainGlobals "all" = some none)
    (z_bool : PySem.W.nsIn K mainGlobals "bool" = some none)
    (z_divmod : PySem.W.nsIn K mainGlobals "divmod" = some none)
    (z_enumerate : PySem.W.nsIn K mainGlobals "enumerate" = some none)
    (z_int : PySem.W.nsIn K mainGlobals "int" = some none)
    (z_isinstance : PySem.W.nsIn K mainGlobals "isinstance" = some none)
    (z_len : PySem.W.nsIn K mainGlobals "len" = some none)
    (z_list : PySem.W.nsIn K mainGlobals "list" = some none)
    (z_max : PySem.W.nsIn K mainGlobals "max" = some none)
    (z_min : PySem.W.nsIn K mainGlobals "min" = some none)
    (z_range : PySem.W.nsIn K mainGlobals "range" = some none)
    (z_repr : PySem.W.nsIn K mainGlobals "repr" = some none)
    (z_str : PySem.W.nsIn K mainGlobals "str" = some none)
    (z_sum : PySem.W.nsIn K mainGlobals "sum" = some none)
    (z_tuple : PySem.W.nsIn K mainGlobals "tuple" = some none)
    : ∃ fd : FuncData, (∀ (s : Shared) (v : Value), BindsTo s fd ⟨[v], []⟩ [("_law_script", v)]) ∧ ∀ base : Heap, K.In base → base.Ns mainGlobals mg → FnOkG l.prog w K mg base CX0 6 fa fd ["_law_script"] (spLaw K) := by
  have e := hfa.symm.trans (PySem.W.mg_of X G a27)
  cases e
  have T : Tx K mg a__law_draw a__law_beginning a__law_gone a__law_head a__law_heap a__law_last_4 a__law_keeps_far a__law_pen a__law_far a__law_number_2 a__law_spot a__law_saying a_heap_of a_signs_of a_last_by a_House_last_place a_kept_by a_is_listing a_is_whole a_is_count a_is_saying a_need_sayings a_keeps a_is_base a_is_beginning a_House___init__ fa a_House tk_LEAST_BASE tk_MOST_BASE := ⟨PySem.W.mg_none_of X G z_abs, PySem.W.mg_none_of X G z_all, PySem.W.mg_none_of X G z_bool, PySem.W.mg_none_of X G z_divmod, PySem.W.mg_none_of X G z_enumerate, PySem.W.mg_none_of X G z_int, PySem.W.mg_none_of X G z_isinstance, PySem.W.mg_none_of X G z_len, PySem.W.mg_none_of X G z_list, PySem.W.mg_none_of X G z_max, PySem.W.mg_none_of X G z_min, PySem.W.mg_none_of X G z_range, PySem.W.mg_none_of X G z_repr, PySem.W.mg_none_of X G z_str, PySem.W.mg_none_of X G z_sum, PySem.W.mg_none_of X G z_tuple, PySem.W.mg_of X G q_LEAST_BASE, PySem.W.mg_of X G q_MOST_BASE, PySem.W.mg_of X G a1, k1, PySem.W.mg_of X G a2, k2, PySem.W.mg_of X G a3, k3, PySem.W.mg_of X G a4, k4, PySem.W.mg_of X G a5, k5, PySem.W.mg_of X G a6, k6, PySem.W.mg_of X G a7, k7, PySem.W.mg_of X G a8, k8, PySem.W.mg_of X G a9, k9, PySem.W.mg_of X G a10, k10, PySem.W.mg_of X G a11, k11, PySem.W.mg_of X G a12, k12, PySem.W.mg_of X G a13, k13, PySem.W.mg_of X G a14, k14, PySem.W.mg_of X G a15, k15, PySem.W.mg_of X G a17, k17, PySem.W.mg_of X G a18, k18, PySem.W.mg_of X G a19, k19, PySem.W.mg_of X G a20, k20, PySem.W.mg_of X G a21, k21, PySem.W.mg_of X G a22, k22, PySem.W.mg_of X G a23, k23, PySem.W.mg_of X G a24, k24, PySem.W.mg_of X G a25, k25, PySem.W.mg_of X G a27, k27, PySem.W.mg_of X G ac_House, ⟨pg_House, hd_House, po_House, sa_House⟩, n_House_kept_base, n_House_kept_beginning, n_House_sums, ⟨a16, i16, k16⟩, ⟨mk_House, a26, i26, kc_House⟩⟩
  have F1 := fun_mk (st := s__law_draw) l1 c1 k1
  have b1 := F1.binds (ps := ["_law_pen_here", "_law_many"]) fun _ _ _ _ _ _ us hl => match us, hl with | [_, _], _ => rfl
  have F2 := fun_mk (st := s__law_beginning) l2 c2 k2
  have b2 := F2.binds (ps := ["_law_pen_here", "_law_base", "_law_most"]) fun _ _ _ _ _ _ us hl => match us, hl with | [_, _, _], _ => rfl
  have F3 := fun_mk (st := s__law_gone) l3 c3 k3
  have b3 := F3.binds (ps := ["_law_base", "_law_begun", "_law_many"]) fun _ _ _ _ _ _ us hl => match us, hl with | [_, _, _], _ => rfl
  have F4 := fun_mk (st := s__law_head) l4 c4 k4
  have b4 := F4.binds (ps := ["_law_base", "_law_number_here"]) fun _ _ _ _ _ _ us hl => match us, hl with | [_, _], _ => rfl
  have F5 := fun_mk (st := s__law_heap) l5 c5 k5
  have b5 := F5.binds (ps := ["_law_base", "_law_number_here"]) fun _ _ _ _ _ _ us hl => match us, hl with | [_, _], _ => rfl
  have F6 := fun_mk (st := s__law_last_4) l6 c6 k6
  have b6 := F6.binds (ps := ["_law_base", "_law_begun", "_law_number_here"]) fun _ _ _ _ _ _ us hl => match us, hl with | [_, _, _], _ => rfl
  have F7 := fun_mk (st := s__law_keeps_far) l7 c7 k7
  have b7 := F7.binds (ps := ["_law_base", "_law_begun", "_law_saying_here"]) fun _ _ _ _ _ _ us hl => match us, hl with | [_, _, _], _ => rfl
  have F8 := fun_mk (st := s__law_pen) l8 c8 k8
  have b8 := F8.binds (ps := ["_law_script"]) fun _ _ _ _ _ _ us hl => match us, hl with | [_], _ => rfl
  have F9 := fun_mk (st := s__law_far) l9 c9 k9
  have b9 := F9.binds (ps := ["_law_pen_here", "_law_figures"]) fun _ _ _ _ _ _ us hl => match us, hl with | [_, _], _ => rfl
  have F10 := fun_mk (st := s__law_number_2) l10 c10 k10
  have b10 := F10.binds (ps := ["_law_pen_here", "_law_base"]) fun _ _ _ _ _ _ us hl => match us, hl with | [_, _], _ => rfl
  have F11 := fun_mk (st := s__law_spot) l11 c11 k11
  have b11 := F11.binds (ps := ["_law_pen_here", "_law_base", "_law_begun", "_law_number_here"]) fun _ _ _ _ _ _ us hl => match us, hl with | [_, _, _, _], _ => rfl
  have F12 := fun_mk (st := s__law_saying) l12 c12 k12
  have b12 := F12.binds (ps := ["_law_pen_here", "_law_base", "_law_begun", "_law_off"]) fun _ _ _ _ _ _ us hl => match us, hl with | [_, _, _, _], _ => rfl
  have F13 := fun_mk (st := s_heap_of) l13 c13 k13
  have b13 := F13.binds (ps := ["number", "base"]) fun _ _ _ _ _ _ us hl => match us, hl with | [_, _], _ => rfl
  have F14 := fun_mk (st := s_signs_of) l14 c14 k14
  have b14 := F14.binds (ps := ["number", "base"]) fun _ _ _ _ _ _ us hl => match us, hl with | [_, _], _ => rfl
  have F15 := fun_mk (st := s_last_by) l15 c15 k15
  have b15 := F15.binds (ps := ["base", "sums", "number"]) fun _ _ _ _ _ _ us hl => match us, hl with | [_, _, _], _ => rfl
  have F16 := fun_mk (st := s_House_last_place) l16 c16 k16
  have b16 := F16.binds (ps := ["self", "number"]) fun _ _ _ _ _ _ us hl => match us, hl with | [_, _], _ => rfl
  have F17 := fun_mk (st := s_kept_by) l17 c17 k17
  have b17 := F17.binds (ps := ["house", "saying"]) fun _ _ _ _ _ _ us hl => match us, hl with | [_, _], _ => rfl
  have F18 := fun_mk (st := s_is_listing) l18 c18 k18
  have b18 := F18.binds (ps := ["thing"]) fun _ _ _ _ _ _ us hl => match us, hl with | [_], _ => rfl
  have F19 := fun_mk (st := s_is_whole) l19 c19 k19
  have b19 := F19.binds (ps := ["thing"]) fun _ _ _ _ _ _ us hl => match us, hl with | [_], _ => rfl
  have F20 := fun_mk (st := s_is_count) l20 c20 k20
  have b20 := F20.binds (ps := ["thing"]) fun _ _ _ _ _ _ us hl => match us, hl with | [_], _ => rfl
  have F21 := fun_mk (st := s_is_saying) l21 c21 k21
  have b21 := F21.binds (ps := ["thing"]) fun _ _ _ _ _ _ us hl => match us, hl with | [_], _ => rfl
  have F22 := fun_mk (st := s_need_sayings) l22 c22 k22
  have b22 := F22.binds (ps := ["sayings"]) fun _ _ _ _ _ _ us hl => match us, hl with | [_], _ => rfl
  have F23 := fun_mk (st := s_keeps) l23 c23 k23
  have b23 := F23.binds (ps := ["house", "saying"]) fun _ _ _ _ _ _ us hl => match us, hl with | [_, _], _ => rfl
  have F24 := fun_mk (st := s_is_base) l24 c24 k24
  have b24 := F24.binds (ps := ["thing"]) fun _ _ _ _ _ _ us hl => match us, hl with | [_], _ => rfl
  have F25 := fun_mk (st := s_is_beginning) l25 c25 k25
  have b25 := F25.binds (ps := ["base", "thing"]) fun _ _ _ _ _ _ us hl => match us, hl with | [_, _], _ => rfl
  have F26 := fun_mk (st := s_House___init__) l26 c26 k26
  have b26 := F26.binds (ps := ["self", "k", "beginning"]) fun _ _ _ _ _ _ us hl => match us, hl with | [_, _, _], _ => rfl
  have F27 := fun_mk (st := s_law) l27 c27 k27
  refine ⟨PySem.W.fnOf "law" "law" (defArgs s_law) (defBody s_law) (defScope s_law) .none kV27 dc27 pm27 an27 cd27 ct27, fun s v => .of_eq rfl, fun base _ _ => ?_⟩
  have G1 := ok__law_draw (P := l.prog) (w := w) (base := base) F1 T
  have G2 := ok__law_beginning (P := l.prog) (w := w) (base := base) F2 T G1 b1
  have G3 := ok__law_gone (P := l.prog) (w := w) (base := base) F3 T
  have G4 := ok__law_head (P := l.prog) (w := w) (base := base) F4 T
  have G5 := ok__law_heap (P := l.prog) (w := w) (base := base) F5 T
  have G6 := ok__law_last_4 (P := l.prog) (w := w) (base := base) F6 T G4 b4 G5 b5
  have G7 := ok__law_keeps_far (P := l.prog) (w := w) (base := base) F7 T G6 b6
  have G8 := ok__law_pen (P := l.prog) (w := w) (base := base) F8 T
  have G9 := ok__law_far (P := l.prog) (w := w) (base := base) F9 T G1 b1
  have G10 := ok__law_number_2 (P := l.prog) (w := w) (base := base) F10 T G1 b1 G9 b9
  have G11 := ok__law_spot (P := l.prog) (w := w) (base := base) F11 T G1 b1 G6 b6
  have G12 := ok__law_saying (P := l.prog) (w := w) (base := base) F12 T G1 b1 G10 b10 G11 b11
  have G13 := ok_heap_of (P := l.prog) (w := w) (base := base) F13 T
  have G14 := ok_signs_of (P := l.prog) (w := w) (base := base) F14 T
  have G15 := ok_last_by (P := l.prog) (w := w) (base := base) F15 T G13 b13 G14 b14
  have G16 := ok_House_last_place (P := l.prog) (w := w) (base := base) F16 T G15 b15
  have G17 := ok_kept_by (P := l.prog) (w := w) (base := base) F17 T G16 b16
  have G18 := ok_is_listing (P := l.prog) (w := w) (base := base) F18 T
  have G19 := ok_is_whole (P := l.prog) (w := w) (base := base) F19 T
  have G20 := ok_is_count (P := l.prog) (w := w) (base := base) F20 T G19 b19
  have G21 := ok_is_saying (P := l.prog) (w := w) (base := base) F21 T G20 b20
  have G22 := ok_need_sayings (P := l.prog) (w := w) (base := base) F22 T G18 b18 G21 b21
  have G23 := ok_keeps (P := l.prog) (w := w) (base := base) F23 T G17 b17 G22 b22
  have G24 := ok_is_base (P := l.prog) (w := w) (base := base) F24 T G19 b19
  have G25 := ok_is_beginning (P := l.prog) (w := w) (base := base) F25 T G20 b20 G18 b18
  have G26 := ok_House___init__ (P := l.prog) (w := w) (base := base) F26 T G24 b24 G25 b25
  have G27 := ok_law (P := l.prog) (w := w) (base := base) F27 T G2 b2 G1 b1 G3 b3 G7 b7 G8 b8 G12 b12 G23 b23 G26 b26
  exact G27
theorem walk {l : PySem.W.OpenLaw} {q : Program} {loose : List Str} {XP : (Str → Option Value) → Heap → Prop} {YP : World → Heap → Prop} {d : DefRec} {K : Params → PySem.W.Frag} (hn : l.most = some 63) (hdf : d.params.defaults = [])
    (hY : ∀ (w : World) (h : Heap), YP w h → (K w.params).In h)
    (F : ∀ (w : World) (mg : Str → Option Value) (fa : Addr) (h : Heap), (K w.params).In h → h.Ns mainGlobals mg → mg d.name = some (.ref fa) →
      ∃ fd : FuncData, (∀ (s : Shared) (u : Value), BindsTo s fd ⟨[u], []⟩ [("_law_script", u)]) ∧ ∀ base : Heap, (K w.params).In base → base.Ns mainGlobals mg → FnOkG l.prog w (K w.params) mg base CX0 6 fa fd ["_law_script"] (spLaw (K w.params))) :
    PySem.W.WalkO q loose XP YP l.row.toRowW d [] (fun f vs => PySem.call f vs) :=
  walk_ofG (n := 63) (k := 6) (x := "_law_script") (sp := spLaw) hn (by decide) hdf ⟨⟨rfl, by decide, by decide⟩, rfl⟩ hY F (fun _ H a ns hl hO hS => ⟨a, ns, rfl, hO, hS, hl, fun _ => rfl⟩)
end L_k51
open PySem PySem.W PyProof.Rows
set_option maxRecDepth 100000 in
set_option maxHeartbeats 0 in
theorem PySem.Challenge.cw_askback_k51_sayings_kept_by_going_holds : PySem.Challenge.rw_askback_k51_sayings_kept_by_going.Holds := by
  w_on; o_law; k_head; (case hw => w_witness2)
  k_fill
  refine L_k51.walk (l := PySem.Challenge.rw_askback_k51_sayings_kept_by_going) rfl rfl (fun w h Y => PySem.W.kIn_of Y) ?F
  case F =>
    intro w mg fa h KX G hmg
    refine' L_k51.all_mk KX G hmg ?ac_House ?pg_House ?hd_House ?po_House ?sa_House ?a1 ?l1 ?c1 ?k1 ?a2 ?l2 ?c2 ?k2 ?a3 ?l3 ?c3 ?k3 ?a4 ?l4 ?c4 ?k4 ?a5 ?l5 ?c5 ?k5 ?a6 ?l6 ?c6 ?k6 ?a7 ?l7 ?c7 ?k7 ?a8 ?l8 ?c8 ?k8 ?a9 ?l9 ?c9 ?k9 ?a10 ?l10 ?c10 ?k10 ?a11 ?l11 ?c11 ?k11 ?a12 ?l12 ?c12 ?k12 ?a13 ?l13 ?c13 ?k13 ?a14 ?l14 ?c14 ?k14 ?a15 ?l15 ?c15 ?k15 ?a16 ?i16 ?l16 ?c16 ?k16 ?a17 ?l17 ?c17 ?k17 ?a18 ?l18 ?c18 ?k18 ?a19 ?l19 ?c19 ?k19 ?a20 ?l20 ?c20 ?k20 ?a21 ?l21 ?c21 ?k21 ?a22 ?l22 ?c22 ?k22 ?a23 ?l23 ?c23 ?k23 ?a24 ?l24 ?c24 ?k24 ?a25 ?l25 ?c25 ?k25 ?a26 ?i26 ?l26 ?c26 ?k26 ?a27 ?l27 ?c27 ?k27 ?n_House_kept_base ?n_House_kept_beginning ?n_House_sums ?mk_House ?kc_House ?q_LEAST_BASE ?q_MOST_BASE ?z_abs ?z_all ?z_bool ?z_divmod ?z_enumerate ?z_int ?z_isinstance ?z_len ?z_list ?z_max ?z_min ?z_range ?z_repr ?z_str ?z_sum ?z_tuple
    (case ac_House => k_is)
    (case pg_House => k_is)
    (case hd_House => k_is)
    (case po_House => k_is)
    (case sa_House => k_is)
    (case a1 => k_is)
    (case l1 => k_is)
    (case c1 => k_is)
    (case k1 => k_is)
    (case a2 => k_is)
    (case l2 => k_is)
    (case c2 => k_is)
    (case k2 => k_is)
    (case a3 => k_is)
    (case l3 => k_is)
    (case c3 => k_is)
    (case k3 => k_is)
    (case a4 => k_is)
    (case l4 => k_is)
    (case c4 => k_is)
    (case k4 => k_is)
    (case a5 => k_is)
    (case l5 => k_is)
    (case c5 => k_is)
    (case k5 => k_is)
    (case a6 => k_is)
    (case l6 => k_is)
    (case c6 => k_is)
    (case k6 => k_is)
    (case a7 => k_is)
    (case l7 => k_is)
    (case c7 => k_is)
    (case k7 => k_is)
    (case a8 => k_is)
    (case l8 => k_is)
    (case c8 => k_is)
    (case k8 => k_is)
    (case a9 => k_is)
    (case l9 => k_is)
    (case c9 => k_is)
    (case k9 => k_is)
    (case a10 => k_is)
    (case l10 => k_is)
    (case c10 => k_is)
    (case k10 => k_is)
    (case a11 => k_is)
    (case l11 => k_is)
    (case c11 => k_is)
    (case k11 => k_is)
    (case a12 => k_is)
    (case l12 => k_is)
    (case c12 => k_is)
    (case k12 => k_is)
    (case a13 => k_is)
    (case l13 => k_is)
    (case c13 => k_is)
    (case k13 => k_is)
    (case a14 => k_is)
    (case l14 => k_is)
    (case c14 => k_is)
    (case k14 => k_is)
    (case a15 => k_is)
    (case l15 => k_is)
    (case c15 => k_is)
    (case k15 => k_is)
    (case a16 => k_is)
    (case i16 => k_is)
    (case l16 => k_is)
    (case c16 => k_is)
    (case k16 => k_is)
    (case a17 => k_is)
    (case l17 => k_is)
    (case c17 => k_is)
    (case k17 => k_is)
    (case a18 => k_is)
    (case l18 => k_is)
    (case c18 => k_is)
    (case k18 => k_is)
    (case a19 => k_is)
    (case l19 => k_is)
    (case c19 => k_is)
    (case k19 => k_is)
    (case a20 => k_is)
    (case l20 => k_is)
    (case c20 => k_is)
    (case k20 => k_is)
    (case a21 => k_is)
    (case l21 => k_is)
    (case c21 => k_is)
    (case k21 => k_is)
    (case a22 => k_is)
    (case l22 => k_is)
    (case c22 => k_is)
    (case k22 => k_is)
    (case a23 => k_is)
    (case l23 => k_is)
    (case c23 => k_is)
    (case k23 => k_is)
    (case a24 => k_is)
    (case l24 => k_is)
    (case c24 => k_is)
    (case k24 => k_is)
    (case a25 => k_is)
    (case l25 => k_is)
    (case c25 => k_is)
    (case k25 => k_is)
    (case a26 => k_is)
    (case i26 => k_is)
    (case l26 => k_is)
    (case c26 => k_is)
    (case k26 => k_is)
    (case a27 => k_is)
    (case l27 => k_is)
    (case c27 => k_is)
    (case k27 => k_is)
    (case n_House_kept_base => k_is)
    (case n_House_kept_beginning => k_is)
    (case n_House_sums => k_is)
    (case mk_House => k_is)
    (case kc_House => k_is)
    (case q_LEAST_BASE => k_is)
    (case q_MOST_BASE => k_is)
    (case z_abs => k_is)
    (case z_all => k_is)
    (case z_bool => k_is)
    (case z_divmod => k_is)
    (case z_enumerate => k_is)
    (case z_int => k_is)
    (case z_isinstance => k_is)
    (case z_len => k_is)
    (case z_list => k_is)
    (case z_max => k_is)
    (case z_min => k_is)
    (case z_range => k_is)
    (case z_repr => k_is)
    (case z_str => k_is)
    (case z_sum => k_is)
    (case z_tuple => k_is)
