import PyProof.Rows.All
import Wide.All
import OpenK.AllK
import Wide.FinOn
import HandS.ForMost
import HandS.Wide
import HandS.Flow
import HandS.Style
import HandS.IsInst
import HandS.Lambda
import HandS.SetFor
import KE.GoesEnumKw
import HandS.MakeKwOnly
import HandS.Zip
import HandS.Rev
import HandS.SortInts
import HandS.More
import KE.GoesMore
import HandS.Conv
import PyProof.LongRange
import HandS.EndBits
import PyProof.ReprRoads
import PyProof.ReprLen
import HandS.NoneIn
import HandS.Codes
import HandS.SlotsOwn
import HandS.Defaults
import HandS.SetBool
import HandS.Strs
import KE.IntText
import PyProof.StrBlockL
import PyProof.StrBlock2
import HandS.Text
import KE.DataMinKey
import HandS.SortKw
import PyProof.WalkInts
import HandS.ExcInit
import HandS.ExcOwn
import HandS.ExcIs
import HandS.WordsExc
import PyProof.ExcBaseAll.RuntimeError
import KE.KExcInit
import HandS.ExcField
import PyProof.ExcBaseAll.IndexError
import KE.KExcIs
import HandS.EndOwn
import HandS.NestedK
import KE.DatumOrd
import HandS.DictComp
import HandS.Steps
import HandS.RevRange
import PyProof.ListRange
import HandS.CallSlots
import HandS.TryOnly
import PyProof.EvalArms
import PyProof.InstNe
import OpenK.KMake
import HandS.OwnEq
import PyProof.NeKinds
import OpenK.KOps
import HandS.Set
import HandS.Deep
import KE.SortKeyHeap
import PyProof.Rows.IntBool
import PyProof.Rows.FloatCmp
import PyProof.Rows.ReprOcc
import PyProof.Rows.RegStrFacts
import HandS.FStr
import HandS.HeadHook3
import PyProof.ExcBaseAll.LookupError
import PyProof.ExcBaseAll.ValueError
import HandS.TryMany
import PySem.Challenge.RW_askback_k52_sayings_refused_first
set_option Elab.async false
set_option linter.all false
set_option autoImplicit false
set_option maxRecDepth 100000
set_option maxHeartbeats 8000000
/-! QD -/
namespace Q
open PySem
structure LamK where
  qual : Str
  params : Arguments
  body : Expr
  scope : Scope
def LamK.free (L : LamK) : List Str := ((L.scope.names.filter fun y => y.2 == NameKind.free).map (·.1)).reverse
inductive Ob where
  | fn (i : Nat) (L : LamK) (Z : List (Str × Addr)) (c : Bool) | exc (x : Nat) (C : Addr) (ns : List Str)
inductive D where
  | non | bl (b : Bool) | int (i : Int) | str (x : Str)
  | lst (l : List D) | tup (l : List D) | dic (ks : List (Sum Int Str)) (l : List D)
  | ins (C : Addr) (ns : List Str) (l : List D)
  | pen | ty (n : String) | adr (a : Addr) | scr (ns : List Int)
  | rp (d : D)   -- the text that repr tells of a datum
  | fl (m : List ((Int × Int) × Int))   -- a dict: pairs of whole numbers, whole numbers
  | ob (x : Ob) (l : List D)
abbrev Ky := Sum Int Str
inductive Sl where
  | no | val (d : D) | own (d : D)
abbrev En := List Sl
structure Ts where
  cells : List Int
  at' : Int
  left : Int
  tape : Bool
  /-- objects that may change, by their addresses -/
  obs : Addr → Option D
def Ts.dom (t : Ts) (a : Addr) : Prop := ∃ d, t.obs a = some d
def noObs : Addr → Option D := fun _ => none
def Ts.bare (t : Ts) : Ts := ⟨t.cells, t.at', t.left, t.tape, noObs⟩
def Ts.put (t : Ts) (a : Addr) (d : D) : Ts := ⟨t.cells, t.at', t.left, t.tape, fun b => if b = a then some d else t.obs b⟩
theorem Ts.put_ne (t : Ts) {a b : Addr} (d : D) (h : b ≠ a) : (t.put a d).obs b = t.obs b := if_neg h
abbrev DE := En → Ts → (D → Ts → Prop) → Prop
abbrev DT := En → Ts → (Bool → Ts → Prop) → Prop
abbrev DA := En → Ts → (List D → Ts → Prop) → Prop
abbrev DO := En → Ts → (Option Int → Ts → Prop) → Prop
structure DEnds where
  nx : En → Ts → Prop
  rt : D → En → Ts → Prop
  bk : En → Ts → Prop
  ct : En → Ts → Prop
abbrev DS := DEnds → En → Ts → Prop
abbrev DG := D → En → Ts → (En → Ts → Prop) → Prop
abbrev DGs := List D → En → Ts → (En → Ts → Prop) → Prop
abbrev DOp := D → D → (D → Prop) → Prop
abbrev DU := D → (D → Prop) → Prop
abbrev DB := List D → (D → Prop) → Prop
abbrev PSp := List D → Ts → (D → Ts → Prop) → Prop
def Br (b : Bool) (p q : Prop) : Prop := match b with
  | true => p
  | false => q
theorem Br.mk {b : Bool} {p q : Prop} (h1 : b = true → p) (h2 : b = false → q) : Br b p q := by
  cases b with
  | true => exact h1 rfl
  | false => exact h2 rfl
/- as data, alike (True is 1) -/
def b2i (b : Bool) : Int := if b then 1 else 0
mutual
def deq : D → D → Bool
  | .non, .non => true
  | .bl a, .bl b => a == b
  | .bl a, .int i => b2i a == i
  | .int i, .bl a => i == b2i a
  | .int i, .int j => decide (i = j)
  | .str x, .str y => decide (x = y)
  | .lst a, .lst b => deqs a b
  | .tup a, .tup b => deqs a b
  | _, _ => false
def deqs : List D → List D → Bool
  | [], [] => true
  | x :: a, y :: b => deq x y && deqs a b
  | _, _ => false
end
/- what == is told of here -/
mutual
def plain : D → Bool
  | .non => true | .bl _ => true | .int _ => true | .str x => x.cps.all (· < 0x110000)
  | .lst l => plains l | .tup l => plains l
  | _ => false
def plains : List D → Bool
  | [] => true
  | x :: a => plain x && plains a
end
mutual
def deep : D → Nat
  | .lst l => deeps l + 1 | .tup l => deeps l + 1
  | _ => 0
def deeps : List D → Nat
  | [] => 0
  | x :: a => max (deep x) (deeps a)
end
def Sm (b : Nat) (i : Int) : Prop := i.natAbs < 2 ^ b
def MulOk (i j : Int) : Prop := Sm 64 i ∨ Sm 64 j ∨ (∃ a b, Sm a i ∧ Sm b j ∧ 0 < a ∧ 0 < b ∧ a + b ≤ 1000000)
def DivOk (j : Int) : Prop := 0 < j ∧ Sm 9000 j
def PowOk (i j : Int) : Prop := 0 ≤ j ∧ ∃ a : Nat, Sm a i ∧ (a : Int) * j ≤ 100000000
def zLen : Nat := 16000000
def dVar (i : Nat) : DE := fun env t P => match env[i]? with
  | some (.val d) => P d t
  | _ => False
def dView (i : Nat) : DE := fun env t P => match env[i]? with
  | some (.val d) => P d t
  | some (.own d) => P d t
  | _ => False
def dC (d : D) : DE := fun _ t P => P d t
def dOp (o : DOp) (a b : DE) : DE := fun env t P => a env t fun x t1 => b env t1 fun y t2 => o x y fun z => P z t2
def dUn (o : DU) (a : DE) : DE := fun env t P => a env t fun x t1 => o x fun z => P z t1
def dNil : DA := fun _ t P => P [] t
def dCons (a : DE) (r : DA) : DA := fun env t P => a env t fun x t1 => r env t1 fun xs t2 => P (x :: xs) t2
def dCB (b : DB) (a : DA) : DE := fun env t P => a env t fun xs t1 => b xs fun z => P z t1
def Few (l : List D) (p : Prop) : Prop := match Nat.ble l.length 1000 with
  | true => p
  | false => False
def dTup (a : DA) : DE := fun env t P => a env t fun xs t1 => Few xs (P (.tup xs) t1)
def dLst (a : DA) : DE := fun env t P => a env t fun xs t1 => Few xs (P (.lst xs) t1)
def dCall (sp : PSp) (dvs : List D) (a : DA) : DE := fun env t P => a env t fun xs t1 => sp (xs ++ dvs) t1 P
def dFld (C : Addr) (f : Str) (a : DE) : DE := fun env t P => a env t fun x t1 => match x with
  | .ins C' ns l => C' = C ∧ (match (ns.zip l).lookup f with | some d => P d t1 | none => False)
  | _ => False
def dIfE (c : DT) (a b : DE) : DE := fun env t P => c env t fun k t1 => Br k (a env t1 P) (b env t1 P)
def dChain (o o' : DOp) (a b c : DE) : DE := fun env t P => a env t fun x t1 => b env t1 fun y t2 => o x y fun z => match z with
  | .bl k => Br k (c env t2 fun w t3 => o' y w fun z' => P z' t3) (P (.bl false) t2)
  | _ => False
def dAndV (a b : DE) : DE := fun env t P => a env t fun x t1 => match x with
  | .bl k => Br k (b env t1 P) (P (.bl false) t1)
  | _ => False
def dNotV (a : DE) : DE := fun env t P => a env t fun x t1 => match x with
  | .bl k => P (.bl (!k)) t1
  | _ => False
def dNoPart : DO := fun _ t P => P none t
def dPart (a : DE) : DO := fun env t P => a env t fun x t1 => match x with
  | .int i => P (some i) t1
  | _ => False
def sIx (n d : Nat) : Option Int → Nat
  | none => d
  | some i => if i < 0 then ((n : Int) + i).toNat else min i.toNat n
def cutD (xs : List D) (lo hi : Option Int) : List D := (xs.drop (sIx xs.length 0 lo)).take (sIx xs.length xs.length hi - sIx xs.length 0 lo)
def dSlice (a : DE) (lo hi : DO) : DE := fun env t P => a env t fun x t1 => lo env t1 fun l t2 => hi env t2 fun h t3 => match x with
  | .lst xs => P (.lst (cutD xs l h)) t3
  | .tup xs => (cutD xs l h).length < xs.length ∧ P (.tup (cutD xs l h)) t3
  | .scr ns => P (.lst (cutD (ns.map .int) l h)) t3
  | _ => False
def dB (a : DE) : DT := fun env t P => a env t fun x t1 => match x with
  | .bl b => P b t1
  | _ => False
def dAnd (a b : DT) : DT := fun env t P => a env t fun k t1 => Br k (b env t1 P) (P false t1)
def dOr (a b : DT) : DT := fun env t P => a env t fun k t1 => Br k (P true t1) (b env t1 P)
def dNot (a : DT) : DT := fun env t P => a env t fun k t1 => P (!k) t1
def oAdd : DOp := fun x y P => match x, y with
  | .int i, .int j => P (.int (i + j))
  | .lst a, .lst b => a.length + b.length ≤ zLen ∧ P (.lst (a ++ b))
  | .tup a, .tup b => (a.length + b.length ≤ zLen ∧ a ≠ [] ∧ b ≠ []) ∧ P (.tup (a ++ b))
  | .str a, .str b => a.length + b.length ≤ zLen ∧ P (.str (a ++ b))
  | _, _ => False
def oSub : DOp := fun x y P => match x, y with
  | .int i, .int j => P (.int (i - j))
  | _, _ => False
def rep (n : Nat) (a : List D) : List D := (List.replicate n a).flatten
def oMul : DOp := fun x y P => match x, y with
  | .int i, .int j => MulOk i j ∧ P (.int (i * j))
  | .lst a, .int j => (j < 1000000000 ∧ -1000000000 < j ∧ a.length * j.toNat ≤ zLen) ∧ P (.lst (rep j.toNat a))
  | _, _ => False
def oDiv : DOp := fun x y P => match x, y with
  | .int i, .int j => DivOk j ∧ P (.int (i / j))
  | _, _ => False
def oMod : DOp := fun x y P => match x, y with
  | .int i, .int j => 0 < j ∧ P (.int (i % j))
  | _, _ => False
def oPow : DOp := fun x y P => match x, y with
  | .int i, .int j => PowOk i j ∧ P (.int (i ^ j.toNat))
  | _, _ => False
def oNeg : DU := fun x P => match x with
  | .int i => P (.int (-i))
  | _ => False
def oLt : DOp := fun x y P => match x, y with
  | .int i, .int j => P (.bl (decide (i < j)))
  | _, _ => False
def oLe : DOp := fun x y P => match x, y with
  | .int i, .int j => P (.bl (decide (i ≤ j)))
  | _, _ => False
def oGt : DOp := fun x y P => match x, y with
  | .int i, .int j => P (.bl (decide (j < i)))
  | _, _ => False
def oGe : DOp := fun x y P => match x, y with
  | .int i, .int j => P (.bl (decide (j ≤ i)))
  | _, _ => False
def oNe : DOp := fun x y P => match x, y with
  | .int i, .int j => P (.bl (!decide (i = j)))
  | x, y => (plain x = true ∧ plain y = true ∧ deep x ≤ 60 ∧ deep y ≤ 60) ∧ P (.bl (!deq x y))
def isNon : D → Bool
  | .non => true
  | _ => false
def oIsN : DOp := fun x y P => match y with
  | .non => P (.bl (isNon x))
  | _ => False
def atI (xs : List D) (i : Int) : Option D := if 0 ≤ i then (if i < xs.length then xs[i.toNat]? else none) else if -(xs.length : Int) ≤ i then xs[(i + xs.length).toNat]? else none
def oIx : DOp := fun x y P => match x, y with
  | .lst xs, .int i => ∃ d, atI xs i = some d ∧ P d
  | .tup xs, .int i => ∃ d, atI xs i = some d ∧ P d
  | _, _ => False
def bLen : DB := fun xs P => match xs with
  | [.lst l] => P (.int l.length)
  | [.tup l] => P (.int l.length)
  | [.scr l] => P (.int l.length)
  | [.str z] => z.length ≤ zLen ∧ P (.int z.length)
  | _ => False
def bAbs : DB := fun xs P => match xs with
  | [.int i] => P (.int (if i < 0 then -i else i))
  | _ => False
def intsD : List D → Option (List Int)
  | [] => some []
  | .int i :: r => (intsD r).map (i :: ·)
  | _ => none
def bMin : DB := fun xs P => match xs with
  | [.int i, .int j] => P (.int (if j < i then j else i))
  | [.lst l] => ∃ ns, intsD l = some ns ∧ 0 < ns.length ∧ ∀ m, m ∈ ns → (∀ y, y ∈ ns → m ≤ y) → P (.int m)
  | _ => False
def bls : List D → Option (List Bool)
  | [] => some []
  | .bl i :: r => (bls r).map (i :: ·)
  | _ => none
def bAll : DB := fun xs P => match xs with
  | [.lst l] => ∃ bs, bls l = some bs ∧ P (.bl (bs.all id))
  | _ => False
def bList : DB := fun xs P => match xs with
  | [.lst l] => P (.lst l)
  | [.tup l] => P (.lst l)
  | _ => False
def bTuple : DB := fun xs P => match xs with
  | [.lst l] => P (.tup l)
  | [.tup l] => P (.tup l)
  | _ => False
def dNext : DS := fun DD env t => DD.nx env t
def dSeq (a b : DS) : DS := fun DD env t => a ⟨b DD, DD.rt, DD.bk, DD.ct⟩ env t
def gName (i : Nat) : DG := fun d env t P => P (env.set i (.val d)) t
def gNil : DGs := fun ds env t P => match ds with
  | [] => P env t
  | _ => False
def gCons (g : DG) (r : DGs) : DGs := fun ds env t P => match ds with
  | d :: ds => g d env t fun env' t' => r ds env' t' P
  | _ => False
def gTup (n : Nat) (g : DGs) : DG := fun d env t P => match d with
  | .tup l => l.length = n ∧ g l env t P
  | _ => False
def dAsg (a : DE) (g : DG) : DS := fun DD env t => a env t fun x t1 => g x env t1 DD.nx
def dFrz (i : Nat) : DS := fun DD env t => match env[i]? with
  | some (.own d) => DD.nx (env.set i (.val d)) t
  | _ => DD.nx env t
def dPar (i j : Nat) (a : DA) : DS := fun DD env t => a env t fun xs t1 => match xs with
  | [v, w] => DD.nx ((env.set i (.val v)).set j (.val w)) t1
  | _ => False
def dIf (c : DT) (a b : DS) : DS := fun DD env t => c env t fun k t1 => Br k (a DD env t1) (b DD env t1)
def dRet (a : DE) : DS := fun DD env t => a env t fun x t1 => DD.rt x env t1
def dDrop (a : DE) : DS := fun DD env t => a env t fun _ t1 => DD.nx env t1
def dNever : DS := fun _ _ _ => False
def dApp (i : Nat) (a : DE) : DS := fun DD env t => match env[i]? with
  | some (.own (.lst l)) => a env t fun y t1 => l.length < zLen ∧ DD.nx (env.set i (.own (.lst (l ++ [y])))) t1
  | _ => False
def ixN (n : Nat) (i : Int) : Option Nat := if 0 ≤ i then (if i < n then some i.toNat else none) else if -(n : Int) ≤ i then some (i + n).toNat else none
def dDispL : List (Str × DE) → DA
  | [] => fun _ t P => P [] t
  | (_, a) :: r => fun env t P => a env t fun x t1 => dDispL r env t1 fun xs t2 => P (x :: xs) t2
def dDisp (l : List (Str × DE)) : DE := fun env t P => dDispL l env t fun xs t1 => P (.dic (l.map fun p => .inr p.1) xs) t1
def dPenC (a : DE) : DE := fun env t P => a env t fun x t1 => match x with
  | .pen => P (.lst (t1.cells.map .int)) t1
  | _ => False
def dPenA (b : Bool) (a : DE) : DE := fun env t P => a env t fun x t1 => match x with
  | .pen => t1.tape = b ∧ P (.int t1.at') t1
  | _ => False
def dPenL (b : Bool) (a : DE) : DE := fun env t P => a env t fun x t1 => match x with
  | .pen => t1.tape = b ∧ P (.int t1.left) t1
  | _ => False
def dPutA (b : Bool) (i : Nat) (a : DE) : DS := fun DD env t => a env t fun y t1 => match y with
  | .int n => (match env[i]? with
    | some (.val .pen) => t1.tape = b ∧ DD.nx env ⟨t1.cells, n, t1.left, t1.tape, t1.obs⟩
    | _ => False)
  | _ => False
def dPutL (b : Bool) (i : Nat) (a : DE) : DS := fun DD env t => a env t fun y t1 => match y with
  | .int n => (match env[i]? with
    | some (.val .pen) => t1.tape = b ∧ DD.nx env ⟨t1.cells, t1.at', n, t1.tape, t1.obs⟩
    | _ => False)
  | _ => False
abbrev DI := En → Ts → (List D → Ts → Prop) → Prop
def rng (lo : Int) (n : Nat) : List D := (List.range n).map fun (i : Nat) => D.int (lo + i)
def iRng1 (a : DE) : DI := fun env t P => a env t fun x t1 => match x with
  | .int n => (-1000000000000 < n ∧ n < 1000000000000) ∧ P (rng 0 n.toNat) t1
  | _ => False
def dFor (di : DI) (g : DG) (b : DS) : DS := fun DD env t => di env t fun xs t1 => ∃ Inv : Nat → En → Ts → Prop, Inv 0 env t1 ∧
  (∀ i x e m, xs[i]? = some x → Inv i e m → g x e m fun e' m' => b ⟨Inv (i + 1), DD.rt, DD.nx, Inv (i + 1)⟩ e' m') ∧ ∀ e m, Inv xs.length e m → DD.nx e m
def wipeE (env : En) : List Nat → En
  | [] => env
  | i :: r => (wipeE env r).set i .no
def dLc (vs : List Nat) (di : DI) (g : DG) (c : DT) (a : DE) : DE := fun env t P => di env t fun xs t1 => ∃ Inv : Nat → List D → Ts → Prop, Inv 0 [] t1 ∧
  (∀ i x acc m, xs[i]? = some x → Inv i acc m → g x (wipeE env vs) m fun e' m' => wipeE e' vs = wipeE env vs ∧ c e' m' fun k m1 => Br k (a e' m1 fun y m2 => acc.length < zLen ∧ Inv (i + 1) (acc ++ [y]) m2) (Inv (i + 1) acc m1)) ∧
  ∀ acc m, Inv xs.length acc m → P (.lst acc) m
def dYes : DT := fun _ t P => P true t
def start0 (N : List Str) (ds : List D) : En := ds.map Sl.val ++ List.replicate (N.length - ds.length) Sl.no
def endsOf (P : D → Ts → Prop) : DEnds := ⟨fun _ t => P .non t, fun d _ t => P d t, fun _ _ => False, fun _ _ => False⟩
def endsN (P : D → Ts → Prop) : DEnds := ⟨fun _ _ => False, fun d _ t => match d with | .non => False | d => P d t, fun _ _ => False, fun _ _ => False⟩
theorem rng_len (lo : Int) (n : Nat) : (rng lo n).length = n := by simp [rng]
theorem rng_get {lo : Int} {n i : Nat} {d : D} (h : (rng lo n)[i]? = some d) : i < n ∧ d = .int (lo + i) := by
  unfold rng at h
  rw [List.getElem?_map] at h
  cases q : (List.range n)[i]? with
  | none => rw [q] at h; cases h
  | some j =>
    rw [q] at h
    obtain ⟨h1, h2⟩ := List.getElem?_eq_some_iff.mp q
    simp at h1 h2
    cases h
    exact ⟨h1, by rw [← h2]⟩
structure Cl where
  House : Addr
  Lore : Addr
  Desk : Addr
  Beside : Addr
  Solver : Addr
inductive Tn where
  | non | bl | int | str | lst | tup | dic
def tn : D → Option Tn
  | .non => some .non
  | .bl _ => some .bl
  | .int _ => some .int
  | .str _ => some .str
  | .lst _ => some .lst
  | .tup _ => some .tup
  | .dic _ _ => some .dic
  | _ => none
def isa : Tn → Tn → Bool
  | .non, .non => true
  | .bl, .bl => true
  | .bl, .int => true
  | .int, .int => true
  | .str, .str => true
  | .lst, .lst => true
  | .tup, .tup => true
  | .dic, .dic => true
  | _, _ => false
def Tn.name : Tn → String
  | .non => "NoneType"
  | .bl => "bool"
  | .int => "int"
  | .str => "str"
  | .lst => "list"
  | .tup => "tuple"
  | .dic => "dict"
def dIsi (cs : List Tn) (a : DE) : DE := fun env t P => a env t fun x t1 => match tn x with
  | some n => P (.bl (cs.any (isa n))) t1
  | none => False
abbrev IK := List Str → List D → En → Ts → Prop
abbrev IS := IK → List Str → List D → En → Ts → Prop
def iThen (a b : IS) : IS := fun k => a (b k)
def iGuard (c : DT) : IS := fun k ns l env t => c env t fun b t1 => Br b False (k ns l env t1)
def iSet (f : Str) (a : DE) : IS := fun k ns l env t => a env t fun y t1 => (ns.contains f = false ∧ ns.length < 900) ∧ k (ns ++ [f]) (l ++ [y]) env t1
def startI (x : Addr) (N : List Str) (ds : List D) : En := .val (.adr x) :: start0 N ds
mutual
def nopen : D → Bool
  | .pen => false
  | .lst l => nopens l
  | .tup l => nopens l
  | .dic _ l => nopens l
  | .ins _ _ l => nopens l
  | .ob _ _ => false
  | _ => true
def nopens : List D → Bool
  | [] => true
  | d :: l => nopen d && nopens l
end
def sumsOf : Int → List Int → List Int
  | _, [] => []
  | s, b :: r => (s + b - 1) :: sumsOf (s + b - 1) r
def iSums (i j : Nat) : IS := fun k ns l env t => match env[i]? with
  | some (.val (.lst m)) => ∃ bs : List Int, m = bs.map .int ∧ bs.length ≤ 1000 ∧ (ns.contains ("sums" : Str) = false ∧ ns.length < 900 ∧ j < env.length) ∧ ∀ s, k (ns ++ [("sums" : Str)]) (l ++ [.lst ((sumsOf 0 bs).map .int)]) (env.set j s) t
  | some (.val (.tup m)) => ∃ bs : List Int, m = bs.map .int ∧ bs.length ≤ 1000 ∧ (ns.contains ("sums" : Str) = false ∧ ns.length < 900 ∧ j < env.length) ∧ ∀ s, k (ns ++ [("sums" : Str)]) (l ++ [.lst ((sumsOf 0 bs).map .int)]) (env.set j s) t
  | _ => False
def SumsE (C : Addr) (j : Nat) (de : DE) : Prop := ∀ (env : En) (t : Ts) (P : D → Ts → Prop) (ns : List Str) (l : List D) (cur : List Int) (m : Int), env[0]? = some (.val (.ins C ns l)) → (ns.zip l).lookup ("sums" : Str) = some (.lst (cur.map .int)) → env[j]? = some (.val (.int m)) →
  P (.int (m - 1 + cur.getLastD 0)) t → de env t P
def iSeq (a : DE) : DI := fun env t P => a env t fun x t1 => match x with
  | .lst l => P l t1
  | .tup l => P l t1
  | .scr ns => P (ns.map .int) t1
  | _ => False
mutual
def rsOk : D → Prop
  | .int i => Sm 1900 i
  | .lst l => rssOk l
  | .tup l => rssOk l
  | _ => True
def rssOk : List D → Prop
  | [] => True
  | x :: l => rsOk x ∧ rssOk l
end
mutual
def rsz : D → Nat
  | .int _ => 1921
  | .str x => 10 * x.length + 5
  | .lst l => rszs l + 3
  | .tup l => rszs l + 3
  | _ => 5
def rszs : List D → Nat
  | [] => 0
  | x :: l => rsz x + 2 + rszs l
end
def pick {α : Type} (ix : List Nat) (l : List α) : List α := ix.filterMap fun i => l[i]?
def enumL : Int → List D → List D
  | _, [] => []
  | c, d :: l => .tup [.int c, d] :: enumL (c + 1) l
theorem enumL_get : ∀ (l : List D) (c : Int) (i : Nat), (enumL c l)[i]? = l[i]?.map fun d => .tup [.int (c + i), d]
  | [], c, i => by simp [enumL]
  | d :: l, c, 0 => by simp [enumL]
  | d :: l, c, i + 1 => by
    show (enumL (c + 1) l)[i]? = l[i]?.map _
    rw [enumL_get l (c + 1) i]
    congr 1
    funext e
    rw [show c + ((i + 1 : Nat) : Int) = c + 1 + i by omega]
theorem enumL_len : ∀ (l : List D) (c : Int), (enumL c l).length = l.length
  | [], _ => rfl
  | d :: l, c => by
    show (enumL (c + 1) l).length + 1 = l.length + 1
    rw [enumL_len l]
def mSl (b : Bool) (d : D) : Sl := match b with
  | true => .own d
  | false => .val d
def setM : List (Nat × Bool) → En → List D → En
  | (i, b) :: r, env, d :: ds => setM r (env.set i (mSl b d)) ds
  | _, env, _ => env
def dParM (l : List (Nat × Bool)) (a : DA) : DS := fun DD env t => a env t fun xs t1 => match Nat.beq xs.length l.length with
  | true => DD.nx (setM l env xs) t1
  | false => False
def iEnum0 (a : DE) : DI := fun env t P => a env t fun x t1 => match x with
  | .lst l => P (enumL 0 l) t1
  | .tup l => P (enumL 0 l) t1
  | _ => False
end Q
/-! QH1 -/
namespace Q
open PySem L2 PyProof.Rows
mutual
def toPy : D → PyData
  | .bl b => .bool b | .int i => .int i | .str x => .str x
  | .lst l => .list (toPys l) | .tup l => .tuple (toPys l)
  | _ => .none
def toPys : List D → List PyData
  | [] => []
  | d :: l => toPy d :: toPys l
end
def flK (m : List ((Int × Int) × Int)) : List (List L2.Key × V) := m.map fun p => ([Sum.inl p.1.1, Sum.inl p.1.2], V.int p.2)
def ObX (a : Addr) (o : Obj) : HO := .ext fun h => h.get? a = some o
def ZInj (Z : List (Str × Addr)) : Prop := ∀ y z c, Z.lookup y = some c → Z.lookup z = some c → y = z
def ObRel (F : Hp) (a : Addr) : Ob → List V → Prop
  | .fn _ L Z b, vs => ∃ c' o, F a = some (ObX a o) ∧ (∃ pm ctv, o = PySem.W.kla_obj "<lambda>" L.qual L.params L.body L.scope Z pm c' ctv) ∧ F c' = some (LamX.CodeO c' L.qual) ∧ ZInj Z ∧ Z.map Prod.fst = L.free ∧ (b = true → vs.length = Z.length) ∧
      ∀ (k : Nat) (z : Str × Addr) (x : V), Z[k]? = some z → vs[k]? = some x → ∃ oc u, F z.2 = some (ObX z.2 oc) ∧ oc.data = .cell (some u) ∧ RelV x u
  | .exc _ C ns, vs => ∃ oe od, F a = some (ObX a oe) ∧ Zc (.ref C) od oe ∧ (∃ ds, oe.data = .fields ds) ∧ ns.length = vs.length ∧ (match od with
      | none => ns = []
      | some d => ∃ fs, F d = some (.xd fs) ∧ ∀ (k : Nat) (n : Str) (x : V), ns[k]? = some n → vs[k]? = some x → fs.lookup n = some x)
theorem ObRel.mono {F F' : Hp} {a : Addr} {x : Ob} {vs : List V} (g : ∀ a o, F a = some o → F' a = some o) (h : ObRel F a x vs) : ObRel F' a x vs := by
  cases x with
  | fn i L Z b =>
    obtain ⟨c', o, h1, h2, h3, h4, h6, h7, h5⟩ := h
    refine ⟨c', o, g _ _ h1, h2, g _ _ h3, h4, h6, h7, fun k z x e1 e2 => ?_⟩
    obtain ⟨oc, u, q1, q2⟩ := h5 k z x e1 e2
    exact ⟨oc, u, g _ _ q1, q2⟩
  | exc i C ns =>
    obtain ⟨oe, od, h1, h2, h3, h4, h5⟩ := h
    refine ⟨oe, od, g _ _ h1, h2, h3, h4, ?_⟩
    cases od with
    | none => exact h5
    | some d =>
      obtain ⟨fs, q1, q2⟩ := h5
      exact ⟨fs, g _ _ q1, q2⟩
mutual
def RelD (K : PySem.W.Frag) (F : Hp) (pa : Option Addr) : D → V → Prop
  | .non, v => v = .non
  | .bl b, v => v = .bl b
  | .int i, v => v = .int i
  | .str x, v => v = .str x
  | .ty n, v => v = .ty n
  | .adr a, v => v = .ref a
  | .rp d, v => v = .str (toPy d).shown
  | .pen, v => ∃ a, pa = some a ∧ v = .ref a
  | .scr ns, v => ∃ a, v = .ref a ∧ SqL K F a (ns.map V.int)
  | .fl m, v => ∃ a, v = .ref a ∧ F a = some (.dT (flK m))
  | .ob x l, v => ∃ a vs, v = .ref a ∧ ObRel F a x vs ∧ RelL K F pa l vs
  | .lst l, v => ∃ a vs, v = .ref a ∧ F a = some (.lst vs) ∧ RelL K F pa l vs
  | .tup l, v => ∃ a vs, v = .ref a ∧ F a = some (.tup vs) ∧ RelL K F pa l vs
  | .dic ks l, v => ∃ a vs, v = .ref a ∧ F a = some (.dK (ks.zip vs)) ∧ ks.length = vs.length ∧ RelL K F pa l vs
  | .ins C ns l, v => ∃ a dx vs, v = .ref a ∧ F a = some (.ins C dx (ns.zip vs)) ∧ ns.length = vs.length ∧ RelL K F pa l vs
def RelL (K : PySem.W.Frag) (F : Hp) (pa : Option Addr) : List D → List V → Prop
  | [], vs => vs = []
  | d :: ds, vs => ∃ v vr, vs = v :: vr ∧ RelD K F pa d v ∧ RelL K F pa ds vr
end
def RelO1 (K : PySem.W.Frag) (F : Hp) (pa : Option Addr) : D → HO → Prop
  | .lst l, h => ∃ vs, h = .lst vs ∧ RelL K F pa l vs
  | .dic ks l, h => ∃ vs, h = .dK (ks.zip vs) ∧ ks.length = vs.length ∧ RelL K F pa l vs
  | .ins C ns l, h => ∃ dx vs, h = .ins C dx (ns.zip vs) ∧ ns.length = vs.length ∧ RelL K F pa l vs
  | .fl m, h => h = .dT (flK m)
  | _, _ => False
def Gf (F F' : Hp) : Prop := ∀ a o, F a = some o → F' a = some o
def Gp (pa pa' : Option Addr) : Prop := pa' = pa
structure Gr (F : Hp) (pa : Option Addr) (F' : Hp) (pa' : Option Addr) : Prop where
  f : Gf F F'
  p : Gp pa pa'
theorem Gr.refl (F : Hp) (pa : Option Addr) : Gr F pa F pa := ⟨fun _ _ h => h, rfl⟩
theorem Gr.trans {F F1 F2 : Hp} {p p1 p2 : Option Addr} (a : Gr F p F1 p1) (b : Gr F1 p1 F2 p2) : Gr F p F2 p2 := ⟨fun x o h => b.f x o (a.f x o h), Eq.trans b.p a.p⟩
section
variable {K : PySem.W.Frag} {F F' : Hp} {pa pa' : Option Addr}
theorem sq_mono {a : Addr} {xs : List V} (g : Gf F F') (h : SqL K F a xs) : SqL K F' a xs := by
  rcases h with (h | ⟨o, h⟩) | h
  · exact .inl (.inl (g _ _ h))
  · exact .inl (.inr ⟨o, g _ _ h⟩)
  · exact .inr h
mutual
theorem RelD.mono (g : Gr F pa F' pa') : ∀ (d : D) (v : V), RelD K F pa d v → RelD K F' pa' d v
  | .non, v, h => by unfold RelD at h ⊢; exact h
  | .bl b, v, h => by unfold RelD at h ⊢; exact h
  | .int i, v, h => by unfold RelD at h ⊢; exact h
  | .str x, v, h => by unfold RelD at h ⊢; exact h
  | .ty n, v, h => by unfold RelD at h ⊢; exact h
  | .adr a, v, h => by unfold RelD at h ⊢; exact h
  | .rp d, v, h => by unfold RelD at h ⊢; exact h
  | .pen, v, h => by
    unfold RelD at h ⊢
    obtain ⟨a, e, r⟩ := h
    exact ⟨a, (show pa' = pa from g.p).trans e, r⟩
  | .scr ns, v, h => by
    unfold RelD at h ⊢
    obtain ⟨a, e, r⟩ := h
    exact ⟨a, e, sq_mono g.f r⟩
  | .fl m, v, h => by
    unfold RelD at h ⊢
    obtain ⟨a, e, r⟩ := h
    exact ⟨a, e, g.f _ _ r⟩
  | .ob x l, v, h => by
    unfold RelD at h ⊢
    obtain ⟨a, vs, e, r, q⟩ := h
    exact ⟨a, vs, e, r.mono g.f, RelL.mono g l vs q⟩
  | .lst l, v, h => by
    unfold RelD at h ⊢
    obtain ⟨a, vs, e, r, q⟩ := h
    exact ⟨a, vs, e, g.f _ _ r, RelL.mono g l vs q⟩
  | .tup l, v, h => by
    unfold RelD at h ⊢
    obtain ⟨a, vs, e, r, q⟩ := h
    exact ⟨a, vs, e, g.f _ _ r, RelL.mono g l vs q⟩
  | .dic ks l, v, h => by
    unfold RelD at h ⊢
    obtain ⟨a, vs, e, r, z, q⟩ := h
    exact ⟨a, vs, e, g.f _ _ r, z, RelL.mono g l vs q⟩
  | .ins C ns l, v, h => by
    unfold RelD at h ⊢
    obtain ⟨a, dx, vs, e, r, z, q⟩ := h
    exact ⟨a, dx, vs, e, g.f _ _ r, z, RelL.mono g l vs q⟩
theorem RelL.mono (g : Gr F pa F' pa') : ∀ (l : List D) (vs : List V), RelL K F pa l vs → RelL K F' pa' l vs
  | [], vs, h => by unfold RelL at h ⊢; exact h
  | d :: ds, vs, h => by
    unfold RelL at h ⊢
    obtain ⟨v, vr, e, r, q⟩ := h
    exact ⟨v, vr, e, RelD.mono g d v r, RelL.mono g ds vr q⟩
end
theorem RelO1.mono (g : Gr F pa F' pa') : ∀ (d : D) (h : HO), RelO1 K F pa d h → RelO1 K F' pa' d h
  | .lst l, h, r => by
    obtain ⟨vs, e, q⟩ := r
    exact ⟨vs, e, RelL.mono g l vs q⟩
  | .dic ks l, h, r => by
    obtain ⟨vs, e, z, q⟩ := r
    exact ⟨vs, e, z, RelL.mono g l vs q⟩
  | .ins C ns l, h, r => by
    obtain ⟨dx, vs, e, z, q⟩ := r
    exact ⟨dx, vs, e, z, RelL.mono g l vs q⟩
  | .fl _, _, r => r
  | .non, _, r => r.elim
  | .bl _, _, r => r.elim
  | .int _, _, r => r.elim
  | .str _, _, r => r.elim
  | .tup _, _, r => r.elim
  | .pen, _, r => r.elim
  | .ty _, _, r => r.elim
  | .adr _, _, r => r.elim
  | .scr _, _, r => r.elim
  | .rp _, _, r => r.elim
  | .ob _ _, _, r => r.elim
end
section
variable {K : PySem.W.Frag} {F : Hp} {pa : Option Addr}
theorem RelL.nil : RelL K F pa [] [] := by unfold RelL; rfl
theorem RelL.cons {d : D} {v : V} {ds : List D} {vs : List V} (h : RelD K F pa d v) (r : RelL K F pa ds vs) : RelL K F pa (d :: ds) (v :: vs) := by
  unfold RelL; exact ⟨v, vs, rfl, h, r⟩
theorem RelL.inv {d : D} {ds : List D} {vs : List V} (h : RelL K F pa (d :: ds) vs) : ∃ v vr, vs = v :: vr ∧ RelD K F pa d v ∧ RelL K F pa ds vr := by unfold RelL at h; exact h
theorem RelL.inv0 {vs : List V} (h : RelL K F pa [] vs) : vs = [] := by unfold RelL at h; exact h
theorem RelL.len : ∀ {ds : List D} {vs : List V}, RelL K F pa ds vs → vs.length = ds.length
  | [], vs, h => by rw [h.inv0]; rfl
  | d :: ds, vs, h => by
    obtain ⟨v, vr, rfl, _, q⟩ := h.inv
    simp [RelL.len q]
theorem RelL.get : ∀ {ds : List D} {vs : List V} {i : Nat} {d : D}, RelL K F pa ds vs → ds[i]? = some d → ∃ v, vs[i]? = some v ∧ RelD K F pa d v
  | [], _, _, _, _, e => by simp at e
  | x :: ds, vs, 0, d, h, e => by
    obtain ⟨v, vr, rfl, r, _⟩ := h.inv
    simp at e; subst e
    exact ⟨v, rfl, r⟩
  | x :: ds, vs, i + 1, d, h, e => by
    obtain ⟨v, vr, rfl, _, q⟩ := h.inv
    simp at e
    obtain ⟨u, h1, h2⟩ := RelL.get q e
    exact ⟨u, by simpa using h1, h2⟩
theorem RelL.get' : ∀ {ds : List D} {vs : List V} {i : Nat} {v : V}, RelL K F pa ds vs → vs[i]? = some v → ∃ d, ds[i]? = some d ∧ RelD K F pa d v
  | [], _, _, _, h, e => by rw [h.inv0] at e; simp at e
  | x :: ds, vs, 0, d, h, e => by
    obtain ⟨v, vr, rfl, r, _⟩ := h.inv
    simp at e; subst e
    exact ⟨x, rfl, r⟩
  | x :: ds, vs, i + 1, d, h, e => by
    obtain ⟨v, vr, rfl, _, q⟩ := h.inv
    simp at e
    obtain ⟨u, h1, h2⟩ := RelL.get' q e
    exact ⟨u, by simpa using h1, h2⟩
theorem RelL.append : ∀ {a b : List D} {u v : List V}, RelL K F pa a u → RelL K F pa b v → RelL K F pa (a ++ b) (u ++ v)
  | [], b, u, v, h, r => by rw [h.inv0]; exact r
  | d :: a, b, u, v, h, r => by
    obtain ⟨x, ur, rfl, h1, q⟩ := h.inv
    exact RelL.cons h1 (RelL.append q r)
theorem RelL.take : ∀ {a : List D} {u : List V} (n : Nat), RelL K F pa a u → RelL K F pa (a.take n) (u.take n)
  | _, _, 0, h => by simpa using RelL.nil
  | [], _, n + 1, h => by rw [h.inv0]; simpa using RelL.nil
  | d :: a, u, n + 1, h => by
    obtain ⟨x, ur, rfl, h1, q⟩ := h.inv
    simpa using RelL.cons h1 (RelL.take n q)
theorem RelL.drop : ∀ {a : List D} {u : List V} (n : Nat), RelL K F pa a u → RelL K F pa (a.drop n) (u.drop n)
  | _, _, 0, h => by simpa using h
  | [], _, n + 1, h => by rw [h.inv0]; simpa using RelL.nil
  | d :: a, u, n + 1, h => by
    obtain ⟨x, ur, rfl, h1, q⟩ := h.inv
    simpa using RelL.drop n q
theorem RelL.reverse : ∀ {a : List D} {u : List V}, RelL K F pa a u → RelL K F pa a.reverse u.reverse
  | [], u, h => by rw [h.inv0]; simpa using RelL.nil
  | d :: a, u, h => by
    obtain ⟨x, ur, rfl, h1, q⟩ := h.inv
    simpa using RelL.append (RelL.reverse q) (RelL.cons h1 RelL.nil)
theorem RelL.set : ∀ {a : List D} {u : List V} (j : Nat) {d : D} {v : V}, RelL K F pa a u → RelD K F pa d v → RelL K F pa (a.set j d) (u.set j v)
  | [], u, j, d, v, h, r => by rw [h.inv0]; simpa using RelL.nil
  | x :: a, u, 0, d, v, h, r => by
    obtain ⟨y, ur, rfl, h1, q⟩ := h.inv
    simpa using RelL.cons r q
  | x :: a, u, j + 1, d, v, h, r => by
    obtain ⟨y, ur, rfl, h1, q⟩ := h.inv
    simpa using RelL.cons h1 (RelL.set j q r)
theorem RelL.rep {a : List D} {u : List V} (h : RelL K F pa a u) : ∀ n : Nat, RelL K F pa (rep n a) (List.replicate n u).flatten
  | 0 => by simpa [Q.rep] using RelL.nil
  | n + 1 => by
    have := RelL.append h (RelL.rep h n)
    simpa [Q.rep, List.replicate_succ] using this
theorem RelL.intsD : ∀ {l : List D} {vs : List V} {ns : List Int}, RelL K F pa l vs → Q.intsD l = some ns → vs = ns.map V.int
  | [], vs, ns, h, e => by
    rw [h.inv0]
    simp [Q.intsD] at e; subst e; rfl
  | d :: l, vs, ns, h, e => by
    obtain ⟨x, ur, rfl, h1, q⟩ := h.inv
    cases d with
    | int i =>
      unfold RelD at h1
      subst h1
      unfold Q.intsD at e
      cases e2 : Q.intsD l with
      | none => rw [e2] at e; simp at e
      | some ms =>
        rw [e2] at e
        simp at e; subst e
        rw [RelL.intsD q e2]; rfl
    | _ => simp [Q.intsD] at e
theorem RelL.bls : ∀ {l : List D} {vs : List V} {ns : List Bool}, RelL K F pa l vs → Q.bls l = some ns → vs = ns.map V.bl
  | [], vs, ns, h, e => by
    rw [h.inv0]
    simp [Q.bls] at e; subst e; rfl
  | d :: l, vs, ns, h, e => by
    obtain ⟨x, ur, rfl, h1, q⟩ := h.inv
    cases d with
    | bl i =>
      unfold RelD at h1
      subst h1
      unfold Q.bls at e
      cases e2 : Q.bls l with
      | none => rw [e2] at e; simp at e
      | some ms =>
        rw [e2] at e
        simp at e; subst e
        rw [RelL.bls q e2]; rfl
    | _ => simp [Q.bls] at e
theorem RelL.of_ints : ∀ (ns : List Int), RelL K F pa (ns.map D.int) (ns.map V.int)
  | [] => RelL.nil
  | n :: ns => RelL.cons (by unfold RelD; rfl) (RelL.of_ints ns)
end
structure Bs where
  F : Hp
  H : Hp
  ex : List Addr
  pn : Option Addr
  /-- what is told back: a datum, or a new object -/
  m : Bool
  /-- tables of code objects that may grow, with the code objects' name -/
  T : List (Addr × Str)
  /-- objects that may change -/
  O : Addr → Prop
def Bs.Top (B : Bs) : Prop := ∀ a ∈ B.ex, B.pn = some a ∨ ∃ p ∈ B.T, p.1 = a
def TabF (T : List (Addr × Str)) (BH F H : Hp) : Prop := ∀ p ∈ T, BH p.1 ≠ none ∧ F p.1 = none ∧ ∃ ps : Array Value, H p.1 = some (.tbl ps) ∧ TriplesOk ps.toList ∧ ∀ (pos : Pos) (cv : Value), codeAmong pos ps.toList = some cv → ∃ c, cv = .ref c ∧ F c = some (LamX.CodeO c p.2)
theorem TabF.nil {BH F H : Hp} : TabF [] BH F H := fun p hp => by cases hp
theorem TabF.keep {T : List (Addr × Str)} {BH F H F' H' : Hp} (t : TabF T BH F H) (g : ∀ a o, F a = some o → F' a = some o) (hF : ∀ p ∈ T, ∀ ps, H p.1 = some (.tbl ps) → F' p.1 = none) (hH : ∀ p ∈ T, ∀ ps, H p.1 = some (.tbl ps) → H' p.1 = some (.tbl ps)) : TabF T BH F' H' := fun p hp => by
  obtain ⟨h1, h2, ps, h3, h4, h5⟩ := t p hp
  refine ⟨h1, hF p hp ps h3, ps, hH p hp ps h3, h4, fun pos cv hc => ?_⟩
  obtain ⟨c, e, q⟩ := h5 pos cv hc
  exact ⟨c, e, g _ _ q⟩
theorem TabF.hs {T : List (Addr × Str)} {BH F H H' : Hp} (t : TabF T BH F H) (hH : ∀ p ∈ T, ∀ ps, H p.1 = some (.tbl ps) → H' p.1 = some (.tbl ps)) : TabF T BH F H' := t.keep (fun _ _ h => h) (fun p hp _ _ => (t p hp).2.1) hH
theorem RelO1.ntb {K : PySem.W.Frag} {F : Hp} {pa : Option Addr} : ∀ {d : D} {h : HO}, RelO1 K F pa d h → ∀ ps, h ≠ .tbl ps := fun {d h} r ps e => by
  subst e
  cases d with
  | lst l => obtain ⟨_, z, _⟩ := r; cases z
  | dic ks l => obtain ⟨_, z, _⟩ := r; cases z
  | ins C ns l => obtain ⟨_, _, z, _⟩ := r; cases z
  | fl m => cases r
  | _ => exact r.elim
def penRows (t : Ts) (ca : Addr) : List (L2.Key × V) := match t.tape with
  | false => [(.inr "cells", .ref ca), (.inr "at", .int t.at'), (.inr "left", .int t.left)]
  | true => [(.inr "cells", .ref ca), (.inr "turn", .int t.at'), (.inr "rest", .int t.left)]
def PenOk (F : Hp) (t : Ts) (h : HO) : Prop := ∃ ca : Addr, h = .dK (penRows t ca) ∧ F ca = some (.lst (t.cells.map V.int))
theorem PenOk.mono {F F' : Hp} {t : Ts} {h : HO} (g : Gf F F') (p : PenOk F t h) : PenOk F' t h := by
  obtain ⟨ca, e, q⟩ := p
  exact ⟨ca, e, g _ _ q⟩
structure Cf (K : PySem.W.Frag) (B : Bs) (F : Hp) (pa : Option Addr) (t : Ts) (env : En) (σ : L2.St) (H : Hp) : Prop where
  len : env.length = σ.length
  sub : ∀ a o, F a = some o → H a = some o
  bas : ∀ a o, B.F a = some o → F a = some o
  frm : ∀ a o, B.H a = some o → a ∉ B.ex → ¬ B.O a → H a = some o
  new : ∀ a o, F a = some o → (∃ o', B.F a = some o') ∨ B.H a = none
  exl : ∀ a ∈ B.ex, ∃ o, H a = some o
  val : ∀ (i : Nat) (d : D), env[i]? = some (Sl.val d) → ∃ v : V, σ[i]? = some (some v) ∧ RelD K F pa d v
  own : ∀ (i : Nat) (d : D), env[i]? = some (Sl.own d) → ∃ (a : Addr) (h : HO), σ[i]? = some (some (V.ref a)) ∧ H a = some h ∧ RelO1 K F pa d h ∧ F a = none ∧ pa ≠ some a ∧ (a ∈ B.ex ∨ B.H a = none)
  sep : ∀ (i j : Nat) (d e : D) (a : Addr), env[i]? = some (Sl.own d) → env[j]? = some (Sl.own e) → σ[i]? = some (some (V.ref a)) → σ[j]? = some (some (V.ref a)) → i = j
  pen : ∀ a, pa = some a → F a = none ∧ (∃ h, H a = some h ∧ PenOk F t h) ∧ (a ∈ B.ex ∨ B.H a = none)
  pnn : Gp B.pn pa
  tab : TabF B.T B.H F H
  ntb : ∀ a ps, F a ≠ some (.tbl ps)
  obs : ∀ a d, t.obs a = some d → F a = none ∧ (∃ h, H a = some h ∧ RelO1 K F pa d h) ∧ pa ≠ some a ∧ (B.O a ∨ B.H a = none) ∧ nopen d = true
  obx : ∀ a, B.O a → ∃ d, t.obs a = some d
  osp : ∀ (i : Nat) (d : D) (a : Addr), env[i]? = some (Sl.own d) → σ[i]? = some (some (V.ref a)) → t.obs a = none
section
variable {K : PySem.W.Frag} {B : Bs} {F : Hp} {pa : Option Addr} {t : Ts} {env : En} {σ : L2.St} {H : Hp}
theorem Cf.fresh (C : Cf K B F pa t env σ H) {p : Addr} (h : H p = none) : F p = none ∧ B.H p = none ∧ p ∉ B.ex := by
  refine ⟨?_, ?_, ?_⟩
  · cases e : F p with
    | none => rfl
    | some o => rw [C.sub p o e] at h; cases h
  · cases e : B.H p with
    | none => rfl
    | some o =>
      by_cases hp : p ∈ B.ex
      · obtain ⟨o', q⟩ := C.exl p hp
        rw [q] at h; cases h
      · rw [C.frm p o e hp fun z => by
          obtain ⟨d, q⟩ := C.obx p z
          obtain ⟨_, ⟨u, q2, _⟩, _⟩ := C.obs p d q
          rw [h] at q2; cases q2] at h
        cases h
  · intro hp
    obtain ⟨o', q⟩ := C.exl p hp
    rw [q] at h; cases h
theorem Gf.upd {F : Hp} {p : Addr} {o : HO} (h : F p = none) : Gf F (upd F p o) := fun a u e => by
  rw [upd_ne (ne_of_none e h)]; exact e
theorem Cf.alloc (C : Cf K B F pa t env σ H) {p : Addr} (o : HO) (h : H p = none) (hno : ∀ ps, o ≠ .tbl ps := by intro ps z; cases z) : Gr F pa (upd F p o) pa ∧ Cf K B (upd F p o) pa t env σ (upd H p o) := by
  obtain ⟨hF, hB, hex⟩ := C.fresh h
  have g : Gr F pa (upd F p o) pa := ⟨Gf.upd hF, rfl⟩
  have ne : ∀ {a : Addr} {u : HO}, H a = some u → a ≠ p := fun e => ne_of_none e h
  refine ⟨g, ⟨C.len, fun a u e => ?_, fun a u e => g.f _ _ (C.bas a u e), fun a u e hx ho => ?_, fun a u e => ?_, fun a ha => ?_, fun i d e => ?_, fun i d e => ?_, C.sep, fun a e => ?_, C.pnn, C.tab.keep g.f (fun q hq ps e => by rw [upd_ne (ne e)]; exact (C.tab q hq).2.1) (fun q hq ps e => by rw [upd_ne (ne e)]; exact e), fun a ps e => by
    by_cases ha : a = p
    · subst ha; rw [upd_same] at e; exact hno ps (Option.some.inj e)
    · rw [upd_ne ha] at e; exact C.ntb a ps e, fun a d e => by
    obtain ⟨h1, ⟨u, h2, h3⟩, h4⟩ := C.obs a d e
    exact ⟨by rw [upd_ne (ne h2)]; exact h1, ⟨u, by rw [upd_ne (ne h2)]; exact h2, RelO1.mono g d u h3⟩, h4⟩, C.obx, C.osp⟩⟩
  · by_cases ha : a = p
    · subst ha; rw [upd_same] at e ⊢; exact e
    · rw [upd_ne ha] at e ⊢; exact C.sub a u e
  · have := C.frm a u e hx ho
    rw [upd_ne (ne this)]; exact this
  · by_cases ha : a = p
    · subst ha; exact .inr hB
    · rw [upd_ne ha] at e; exact C.new a u e
  · obtain ⟨u, q⟩ := C.exl a ha
    exact ⟨u, by rw [upd_ne (ne q)]; exact q⟩
  · obtain ⟨v, h1, h2⟩ := C.val i d e
    exact ⟨v, h1, RelD.mono g d v h2⟩
  · obtain ⟨a, u, h1, h2, h3, h4, h5, h6⟩ := C.own i d e
    exact ⟨a, u, h1, by rw [upd_ne (ne h2)]; exact h2, RelO1.mono g d u h3, by rw [upd_ne (ne h2)]; exact h4, h5, h6⟩
  · obtain ⟨h1, ⟨u, h2, h3⟩, h4⟩ := C.pen a e
    exact ⟨by rw [upd_ne (ne h2)]; exact h1, ⟨u, by rw [upd_ne (ne h2)]; exact h2, h3.mono g.f⟩, h4⟩
theorem Cf.loose (C : Cf K B F pa t env σ H) {p : Addr} (o : HO) (h : H p = none) : Cf K B F pa t env σ (upd H p o) := by
  have ne : ∀ {a : Addr} {u : HO}, H a = some u → a ≠ p := fun e => ne_of_none e h
  have kp : ∀ a u, H a = some u → upd H p o a = some u := fun a u e => by rw [upd_ne (ne e)]; exact e
  refine ⟨C.len, fun a u e => kp _ _ (C.sub a u e), C.bas, fun a u e hx ho => kp _ _ (C.frm a u e hx ho), C.new, fun a ha => ?_, C.val, fun i d e => ?_, C.sep, fun a e => ?_, C.pnn, C.tab.hs (fun q _ ps e => kp _ _ e), C.ntb, fun a d e => by
    obtain ⟨h1, ⟨u, h2, h3⟩, h4⟩ := C.obs a d e
    exact ⟨h1, ⟨u, kp _ _ h2, h3⟩, h4⟩, C.obx, C.osp⟩
  · obtain ⟨u, q⟩ := C.exl a ha
    exact ⟨u, kp _ _ q⟩
  · obtain ⟨a, u, h1, h2, h3⟩ := C.own i d e
    exact ⟨a, u, h1, kp _ _ h2, h3⟩
  · obtain ⟨h1, ⟨u, h2, h3⟩, h4⟩ := C.pen a e
    exact ⟨h1, ⟨u, kp _ _ h2, h3⟩, h4⟩
structure Nw (B : Bs) (F : Hp) (pa : Option Addr) (t : Ts) (env : En) (σ : L2.St) (p : Addr) : Prop where
  f : F p = none
  b : B.H p = none
  a : pa ≠ some p
  s : ∀ (j : Nat) (e : D), env[j]? = some (Sl.own e) → σ[j]? ≠ some (some (V.ref p))
  o : t.obs p = none
theorem Cf.noob (C : Cf K B F pa t env σ H) {p : Addr} (h : H p = none) : t.obs p = none := by
  cases q : t.obs p with
  | none => rfl
  | some d =>
    obtain ⟨_, ⟨u, q2, _⟩, _⟩ := C.obs p d q
    rw [h] at q2; cases q2
theorem Cf.nw (C : Cf K B F pa t env σ H) {p : Addr} (h : H p = none) : Nw B F pa t env σ p := by
  obtain ⟨hF, hB, _⟩ := C.fresh h
  refine ⟨hF, hB, fun e => ?_, fun j e hj hs => ?_, C.noob h⟩
  · obtain ⟨_, ⟨u, q, _⟩, _⟩ := C.pen p e
    rw [h] at q; cases q
  · obtain ⟨a, u, h1, h2, _⟩ := C.own j e hj
    rw [hs] at h1
    cases h1
    rw [h] at h2; cases h2
theorem Cf.frz (C : Cf K B F pa t env σ H) {p : Addr} {h : HO} (n : Nw B F pa t env σ p) (e : H p = some h) (hno : ∀ ps, h ≠ .tbl ps) : Gr F pa (upd F p h) pa ∧ Cf K B (upd F p h) pa t env σ H := by
  have g : Gr F pa (upd F p h) pa := ⟨Gf.upd n.f, rfl⟩
  refine ⟨g, ⟨C.len, fun a u q => ?_, fun a u q => g.f _ _ (C.bas a u q), C.frm, fun a u q => ?_, C.exl, fun i d q => ?_, fun i d q => ?_, C.sep, fun a q => ?_, C.pnn, C.tab.keep g.f (fun q hq ps z => by rw [upd_ne (fun y => (C.tab q hq).1 (by rw [y]; exact n.b))]; exact (C.tab q hq).2.1) (fun _ _ _ z => z), fun a ps z => by
    by_cases ha : a = p
    · subst ha; rw [upd_same] at z; exact hno ps (Option.some.inj z)
    · rw [upd_ne ha] at z; exact C.ntb a ps z, fun a d q => by
    obtain ⟨h1, ⟨u, h2, h3⟩, h4⟩ := C.obs a d q
    refine ⟨?_, ⟨u, h2, RelO1.mono g d u h3⟩, h4⟩
    rw [upd_ne ?_]
    · exact h1
    · rintro rfl
      rw [n.o] at q; exact (nomatch q), C.obx, C.osp⟩⟩
  · by_cases ha : a = p
    · subst ha; rw [upd_same] at q; cases q; exact e
    · rw [upd_ne ha] at q; exact C.sub a u q
  · by_cases ha : a = p
    · subst ha; exact .inr n.b
    · rw [upd_ne ha] at q; exact C.new a u q
  · obtain ⟨v, h1, h2⟩ := C.val i d q
    exact ⟨v, h1, RelD.mono g d v h2⟩
  · obtain ⟨a, u, h1, h2, h3, h4, h5, h6⟩ := C.own i d q
    refine ⟨a, u, h1, h2, RelO1.mono g d u h3, ?_, h5, h6⟩
    rw [upd_ne ?_]
    · exact h4
    · rintro rfl
      exact n.s i d q h1
  · obtain ⟨h1, ⟨u, h2, h3⟩, h4⟩ := C.pen a q
    refine ⟨?_, ⟨u, h2, h3.mono g.f⟩, h4⟩
    rw [upd_ne ?_]
    · exact h1
    · rintro rfl
      exact n.a q
theorem Cf.write (C : Cf K B F pa t env σ H) {p : Addr} {h : HO} (n : Nw B F pa t env σ p) : Cf K B F pa t env σ (upd H p h) := by
  refine ⟨C.len, fun a u q => ?_, C.bas, fun a u q hx ho => ?_, C.new, fun a ha => ?_, C.val, fun i d q => ?_, C.sep, fun a q => ?_, C.pnn, C.tab.hs (fun q hq ps z => by rw [upd_ne (fun y => (C.tab q hq).1 (by rw [y]; exact n.b))]; exact z), C.ntb, fun a d q => by
    obtain ⟨h1, ⟨u, h2, h3⟩, h4⟩ := C.obs a d q
    refine ⟨h1, ⟨u, ?_, h3⟩, h4⟩
    rw [upd_ne ?_]
    · exact h2
    · rintro rfl
      rw [n.o] at q; exact (nomatch q), C.obx, C.osp⟩
  · rw [upd_ne (ne_of_none q n.f)]; exact C.sub a u q
  · rw [upd_ne (ne_of_none q n.b)]; exact C.frm a u q hx ho
  · obtain ⟨u, q⟩ := C.exl a ha
    by_cases hb : a = p
    · subst hb; exact ⟨h, upd_same⟩
    · exact ⟨u, by rw [upd_ne hb]; exact q⟩
  · obtain ⟨a, u, h1, h2, r⟩ := C.own i d q
    refine ⟨a, u, h1, ?_, r⟩
    rw [upd_ne ?_]
    · exact h2
    · rintro rfl
      exact n.s i d q h1
  · obtain ⟨h1, ⟨u, h2, h3⟩, h4⟩ := C.pen a q
    refine ⟨h1, ⟨u, ?_, h3⟩, h4⟩
    rw [upd_ne ?_]
    · exact h2
    · rintro rfl
      exact n.a q
theorem RelO1.rel {d : D} {h : HO} {p : Addr} (r : RelO1 K F pa d h) (e : F p = some h) : RelD K F pa d (.ref p) := by
  cases d with
  | lst l =>
    obtain ⟨vs, rfl, q⟩ := r
    unfold RelD; exact ⟨p, vs, rfl, e, q⟩
  | dic ks l =>
    obtain ⟨vs, rfl, z, q⟩ := r
    unfold RelD; exact ⟨p, vs, rfl, e, z, q⟩
  | ins C ns l =>
    obtain ⟨dx, vs, rfl, z, q⟩ := r
    unfold RelD; exact ⟨p, dx, vs, rfl, e, z, q⟩
  | fl m =>
    cases r
    unfold RelD; exact ⟨p, rfl, e⟩
  | _ => exact r.elim
theorem get_set {α : Type} {l : List α} {i j : Nat} {x y : α} (h : (l.set i x)[j]? = some y) : (i = j ∧ y = x) ∨ (i ≠ j ∧ l[j]? = some y) := by
  by_cases e : i = j
  · subst e
    left
    rw [List.getElem?_set_self'] at h
    cases q : l[i]? with
    | none => rw [q] at h; simp at h
    | some z => rw [q] at h; simp at h; exact ⟨rfl, h.symm⟩
  · right
    rw [List.getElem?_set_ne e] at h
    exact ⟨e, h⟩
theorem Cf.setV (C : Cf K B F pa t env σ H) (i : Nat) {d : D} {v : V} (r : RelD K F pa d v) : Cf K B F pa t (env.set i (.val d)) (σ.set i (some v)) H := by
  refine ⟨by simp [C.len], C.sub, C.bas, C.frm, C.new, C.exl, fun j e q => ?_, fun j e q => ?_, fun j k e f a q1 q2 s1 s2 => ?_, C.pen, C.pnn, C.tab, C.ntb, C.obs, C.obx, fun j e a q s => by
    rcases get_set q with ⟨_, z⟩ | ⟨ne, z⟩
    · cases z
    · rw [List.getElem?_set_ne ne] at s
      exact C.osp j e a z s⟩
  · rcases get_set q with ⟨rfl, z⟩ | ⟨ne, z⟩
    · cases z
      have hi : i < env.length := by
        have := (List.getElem?_eq_some_iff.mp q).1
        simpa using this
      exact ⟨v, by rw [List.getElem?_set_self (by rw [← C.len]; exact hi)], r⟩
    · obtain ⟨w, h1, h2⟩ := C.val j e z
      exact ⟨w, by rw [List.getElem?_set_ne ne]; exact h1, h2⟩
  · rcases get_set q with ⟨rfl, z⟩ | ⟨ne, z⟩
    · cases z
    · obtain ⟨a, u, h1, h2⟩ := C.own j e z
      exact ⟨a, u, by rw [List.getElem?_set_ne ne]; exact h1, h2⟩
  · rcases get_set q1 with ⟨_, z⟩ | ⟨n1, z1⟩
    · cases z
    · rcases get_set q2 with ⟨_, z⟩ | ⟨n2, z2⟩
      · cases z
      · rw [List.getElem?_set_ne n1] at s1
        rw [List.getElem?_set_ne n2] at s2
        exact C.sep j k e f a z1 z2 s1 s2
theorem Cf.setN (C : Cf K B F pa t env σ H) (i : Nat) {d : D} {p : Addr} {h : HO} (n : Nw B F pa t env σ p) (e : H p = some h) (r : RelO1 K F pa d h) : Cf K B F pa t (env.set i (.own d)) (σ.set i (some (.ref p))) H := by
  refine ⟨by simp [C.len], C.sub, C.bas, C.frm, C.new, C.exl, fun j e q => ?_, fun j e' q => ?_, fun j k e' f a q1 q2 s1 s2 => ?_, C.pen, C.pnn, C.tab, C.ntb, C.obs, C.obx, fun j e a q s => by
    rcases get_set q with ⟨rfl, z⟩ | ⟨ne, z⟩
    · rcases get_set s with ⟨_, zz⟩ | ⟨nn, _⟩
      · cases zz; exact n.o
      · exact absurd rfl nn
    · rw [List.getElem?_set_ne ne] at s
      exact C.osp j e a z s⟩
  · rcases get_set q with ⟨rfl, z⟩ | ⟨ne, z⟩
    · cases z
    · obtain ⟨w, h1, h2⟩ := C.val j e z
      exact ⟨w, by rw [List.getElem?_set_ne ne]; exact h1, h2⟩
  · rcases get_set q with ⟨rfl, z⟩ | ⟨ne, z⟩
    · cases z
      have hi : i < env.length := by
        have := (List.getElem?_eq_some_iff.mp q).1
        simpa using this
      exact ⟨p, h, by rw [List.getElem?_set_self (by rw [← C.len]; exact hi)], e, r, n.f, n.a, .inr n.b⟩
    · obtain ⟨a, u, h1, h2⟩ := C.own j e' z
      exact ⟨a, u, by rw [List.getElem?_set_ne ne]; exact h1, h2⟩
  · rcases get_set q1 with ⟨rfl, z⟩ | ⟨n1, z1⟩
    · rcases get_set q2 with ⟨rfl, z'⟩ | ⟨n2, z2⟩
      · rfl
      · rw [List.getElem?_set_ne n2] at s2
        rcases get_set s1 with ⟨_, zz⟩ | ⟨nn, _⟩
        · cases zz
          exact absurd s2 (n.s k f z2)
        · exact absurd rfl nn
    · rw [List.getElem?_set_ne n1] at s1
      rcases get_set q2 with ⟨rfl, z'⟩ | ⟨n2, z2⟩
      · rcases get_set s2 with ⟨_, zz⟩ | ⟨nn, _⟩
        · cases zz
          exact absurd s1 (n.s j e' z1)
        · exact absurd rfl nn
      · rw [List.getElem?_set_ne n2] at s2
        exact C.sep j k e' f a z1 z2 s1 s2
theorem Cf.wrO (C : Cf K B F pa t env σ H) {i : Nat} {d d' : D} {a : Addr} {h : HO} (hi : env[i]? = some (Sl.own d)) (hs : σ[i]? = some (some (V.ref a))) (r : RelO1 K F pa d' h) : Cf K B F pa t (env.set i (.own d')) σ (upd H a h) := by
  obtain ⟨a', h0, s0, e0, r0, f0, p0, x0⟩ := C.own i d hi
  rw [hs] at s0; cases s0
  have nb : ∀ {c : Addr} {u : HO}, F c = some u → c ≠ a := fun e => ne_of_none e f0
  refine ⟨by simp [C.len], fun c u q => by rw [upd_ne (nb q)]; exact C.sub c u q, C.bas, fun c u q hx ho => ?_, C.new, fun c hc => ?_, fun j e q => ?_, fun j e q => ?_, fun j k e f c q1 q2 s1 s2 => ?_, fun c q => ?_, C.pnn, C.tab.hs (fun p _ ps z => by rw [upd_ne (fun y => by rw [y, e0] at z; exact r0.ntb ps (Option.some.inj z))]; exact z), C.ntb, fun c d q => by
    obtain ⟨h1, ⟨u, h2, h3⟩, h4⟩ := C.obs c d q
    refine ⟨h1, ⟨u, ?_, h3⟩, h4⟩
    rw [upd_ne ?_]
    · exact h2
    · rintro rfl
      rw [C.osp i _ c hi hs] at q; exact (nomatch q), C.obx, fun j e c q s => by
    rcases get_set q with ⟨rfl, _⟩ | ⟨_, z⟩
    · exact C.osp i d c hi s
    · exact C.osp j e c z s⟩
  · rw [upd_ne ?_]
    · exact C.frm c u q hx ho
    · rintro rfl
      rcases x0 with z | z
      · exact hx z
      · rw [z] at q; cases q
  · by_cases hc' : c = a
    · subst hc'; exact ⟨h, upd_same⟩
    · obtain ⟨u, q⟩ := C.exl c hc
      exact ⟨u, by rw [upd_ne hc']; exact q⟩
  · rcases get_set q with ⟨rfl, z⟩ | ⟨ne, z⟩
    · cases z
    · exact C.val j e z
  · rcases get_set q with ⟨rfl, z⟩ | ⟨ne, z⟩
    · cases z
      exact ⟨a, h, hs, upd_same, r, f0, p0, x0⟩
    · obtain ⟨c, u, h1, h2, h3⟩ := C.own j e z
      refine ⟨c, u, h1, ?_, h3⟩
      rw [upd_ne ?_]
      · exact h2
      · rintro rfl
        exact ne (C.sep i j d e c hi z hs h1)
  · have z1 : ∃ e', env[j]? = some (Sl.own e') := by
      rcases get_set q1 with ⟨rfl, _⟩ | ⟨_, z⟩
      · exact ⟨d, hi⟩
      · exact ⟨e, z⟩
    have z2 : ∃ e', env[k]? = some (Sl.own e') := by
      rcases get_set q2 with ⟨rfl, _⟩ | ⟨_, z⟩
      · exact ⟨d, hi⟩
      · exact ⟨f, z⟩
    obtain ⟨e1, z1⟩ := z1
    obtain ⟨e2, z2⟩ := z2
    exact C.sep j k e1 e2 c z1 z2 s1 s2
  · obtain ⟨h1, ⟨u, h2, h3⟩, h4⟩ := C.pen c q
    refine ⟨h1, ⟨u, ?_, h3⟩, h4⟩
    rw [upd_ne ?_]
    · exact h2
    · rintro rfl
      exact p0 q
theorem Cf.frzO (C : Cf K B F pa t env σ H) (hB : B.Top) {i : Nat} {d : D} (hi : env[i]? = some (Sl.own d)) : ∃ F', Gr F pa F' pa ∧ Cf K B F' pa t (env.set i (.val d)) σ H := by
  obtain ⟨a, h, hs, e, r, f0, p0, x0⟩ := C.own i d hi
  have hb : B.H a = none := by
    rcases x0 with z | z
    · rcases hB a z with y | ⟨p, hp, y⟩
      · exact absurd ((show pa = B.pn from C.pnn).trans y) p0
      · obtain ⟨_, _, ps, q, _⟩ := C.tab p hp
        rw [y, e] at q
        exact absurd (Option.some.inj q) (r.ntb ps)
    · exact z
  have hl : i < env.length := (List.getElem?_eq_some_iff.mp hi).1
  have C1 : Cf K B F pa t (env.set i .no) σ H := by
    refine ⟨by simp [C.len], C.sub, C.bas, C.frm, C.new, C.exl, fun j e q => ?_, fun j e q => ?_, fun j k e f c q1 q2 => ?_, C.pen, C.pnn, C.tab, C.ntb, C.obs, C.obx, fun j e c q s => by
      rcases get_set q with ⟨_, z⟩ | ⟨_, z⟩
      · cases z
      · exact C.osp j e c z s⟩
    · rcases get_set q with ⟨rfl, z⟩ | ⟨ne, z⟩
      · cases z
      · exact C.val j e z
    · rcases get_set q with ⟨rfl, z⟩ | ⟨ne, z⟩
      · cases z
      · exact C.own j e z
    · rcases get_set q1 with ⟨_, z⟩ | ⟨n1, z1⟩
      · cases z
      · rcases get_set q2 with ⟨_, z⟩ | ⟨n2, z2⟩
        · cases z
        · exact C.sep j k e f c z1 z2
  have n : Nw B F pa t (env.set i .no) σ a := by
    refine ⟨f0, hb, p0, fun j e' q s1 => ?_, C.osp i d a hi hs⟩
    rcases get_set q with ⟨_, z⟩ | ⟨ne, z⟩
    · cases z
    · exact ne (C.sep i j d e' a hi z hs s1)
  obtain ⟨g, C2⟩ := C1.frz n e r.ntb
  have C3 := C2.setV i (RelO1.rel (p := a) (RelO1.mono g d h r) upd_same)
  rw [List.set_set] at C3
  have hσ : σ.set i (some (V.ref a)) = σ := by
    apply List.ext_getElem?
    intro j
    by_cases hj : i = j
    · subst hj
      rw [List.getElem?_set_self (by rw [← C.len]; exact hl), hs]
    · rw [List.getElem?_set_ne hj]
  rw [hσ] at C3
  exact ⟨_, g, C3⟩
theorem Cf.nil (C : Cf K B F pa t env σ H) : Cf K B F pa t [] [] H :=
  ⟨rfl, C.sub, C.bas, C.frm, C.new, C.exl, fun i d e => by simp at e, fun i d e => by simp at e, fun i j d e a q => by simp at q, C.pen, C.pnn, C.tab, C.ntb, C.obs, C.obx, fun i d a e => by simp at e⟩
def B0 (F : Hp) (pa : Option Addr) (t : Ts) (H : Hp) : Bs := ⟨F, H, pa.toList, pa, false, [], t.dom⟩
def B1 (F : Hp) (pa : Option Addr) (t : Ts) (H : Hp) : Bs := ⟨F, H, pa.toList, pa, true, [], t.dom⟩
theorem B0.top (F : Hp) (pa : Option Addr) (t : Ts) (H : Hp) : (B0 F pa t H).Top := fun a h => .inl (by
  show pa = some a
  have h : a ∈ pa.toList := h
  cases pa with
  | none => simp at h
  | some b => simp at h; rw [h])
theorem B1.top (F : Hp) (pa : Option Addr) (t : Ts) (H : Hp) : (B1 F pa t H).Top := B0.top F pa t H
theorem Cf.cong {B' : Bs} (C : Cf K B F pa t env σ H) (h1 : B'.F = B.F) (h2 : B'.H = B.H) (h3 : B'.ex = B.ex) (h4 : B'.pn = B.pn) (h5 : B'.T = B.T) (h6 : B'.O = B.O := by rfl) : Cf K B' F pa t env σ H := by
  obtain ⟨F1, H1, e1, p1, m1, T1, O1⟩ := B
  obtain ⟨F2, H2, e2, p2, m2, T2, O2⟩ := B'
  cases h1; cases h2; cases h3; cases h4; cases h5; cases h6
  exact ⟨C.len, C.sub, C.bas, C.frm, C.new, C.exl, C.val, C.own, C.sep, C.pen, C.pnn, C.tab, C.ntb, C.obs, C.obx, C.osp⟩
theorem mem_pa {pa : Option Addr} {a : Addr} : a ∈ pa.toList ↔ pa = some a := by
  cases pa with
  | none => simp
  | some b => simp [eq_comm]
theorem Cf.call (C : Cf K B F pa t env σ H) : Cf K (B0 F pa t H) F pa t [] [] H := by
  refine ⟨rfl, C.sub, fun _ _ e => e, fun _ _ e _ _ => e, fun a o e => .inl ⟨o, e⟩, fun a ha => ?_, fun i d e => by simp at e, fun i d e => by simp at e, fun i j d e a q => by simp at q, fun a e => ?_, rfl, TabF.nil, C.ntb, fun a d e => by
    obtain ⟨h1, h2, h3, _, h5⟩ := C.obs a d e
    exact ⟨h1, h2, h3, .inl ⟨d, e⟩, h5⟩, fun a e => e, fun i d a e => by simp at e⟩
  · have q : pa = some a := mem_pa.mp ha
    obtain ⟨_, ⟨h, q, _⟩, _⟩ := C.pen a q
    exact ⟨h, q⟩
  · obtain ⟨h1, h2, _⟩ := C.pen a e
    exact ⟨h1, h2, .inl (mem_pa.mpr e)⟩
theorem Cf.after {F' : Hp} {pa' : Option Addr} {t' : Ts} {H' : Hp} (C : Cf K B F pa t env σ H) (C' : Cf K (B0 F pa t H) F' pa' t' [] [] H') : Gr F pa F' pa' ∧ Cf K B F' pa' t' env σ H' := by
  have g : Gr F pa F' pa' := ⟨C'.bas, C'.pnn⟩
  have kp : ∀ a o, H a = some o → pa ≠ some a → t.obs a = none → H' a = some o := fun a o e n no => C'.frm a o e (fun z => n (mem_pa.mp z)) (fun ⟨d, z⟩ => by rw [no] at z; cases z)
  have al : ∀ a o, H a = some o → ∃ o', H' a = some o' := fun a o e => by
    by_cases hp : pa = some a
    · obtain ⟨_, ⟨h, q, _⟩, _⟩ := C'.pen a ((show pa' = pa from g.p).trans hp)
      exact ⟨h, q⟩
    · cases q : t.obs a with
      | none => exact ⟨o, kp a o e hp q⟩
      | some d =>
        obtain ⟨d', q'⟩ := C'.obx a ⟨d, q⟩
        obtain ⟨_, ⟨u, z, _⟩, _⟩ := C'.obs a d' q'
        exact ⟨u, z⟩
  have nf : ∀ a o, H a = some o → F a = none → F' a = none := fun a o e n => by
    cases q : F' a with
    | none => rfl
    | some u =>
      rcases C'.new a u q with ⟨u', z⟩ | z
      · have z : F a = some u' := z
        rw [n] at z; cases z
      · have z : H a = none := z
        rw [e] at z; cases z
  refine ⟨g, ⟨C.len, C'.sub, fun a o e => g.f _ _ (C.bas a o e), fun a o e hx ho => ?_, fun a o e => ?_, fun a ha => ?_, fun i d e => ?_, fun i d e => ?_, C.sep, fun a e => ?_, (show pa' = pa from g.p).trans C.pnn, C.tab.keep g.f (fun p hp ps z => nf _ _ z (C.tab p hp).2.1) (fun p hp ps z => kp _ _ z (fun y => by
    obtain ⟨_, ⟨u, q, ca, w, _⟩, _⟩ := C.pen p.1 y
    rw [z] at q
    subst w
    cases q) (by
    cases q : t.obs p.1 with
    | none => rfl
    | some d =>
      obtain ⟨_, ⟨u, q2, r⟩, _⟩ := C.obs p.1 d q
      rw [z] at q2
      exact absurd (Option.some.inj q2).symm (r.ntb ps))), C'.ntb, fun a d q => ?_, fun a q => C'.obx a (C.obx a q), fun i d a e s => ?_⟩⟩
  · refine kp a o (C.frm a o e hx ho) (fun z => ?_) ?_
    · rcases (C.pen a z).2.2 with q | q
      · exact hx q
      · rw [q] at e; cases e
    · cases q : t.obs a with
      | none => rfl
      | some d =>
        rcases (C.obs a d q).2.2.2.1 with z | z
        · exact absurd z ho
        · rw [z] at e; cases e
  · rcases C'.new a o e with ⟨o', q⟩ | q
    · exact C.new a o' q
    · exact .inr (C.fresh q).2.1
  · obtain ⟨o, q⟩ := C.exl a ha
    exact al a o q
  · obtain ⟨v, h1, h2⟩ := C.val i d e
    exact ⟨v, h1, RelD.mono g d v h2⟩
  · obtain ⟨a, h, h1, h2, h3, h4, h5, h6⟩ := C.own i d e
    refine ⟨a, h, h1, kp a h h2 h5 (C.osp i d a e h1), RelO1.mono g d h h3, ?_, fun z => ?_, h6⟩
    · cases q : F' a with
      | none => rfl
      | some o =>
        rcases C'.new a o q with ⟨o', z⟩ | z
        · have z : F a = some o' := z
          rw [h4] at z; cases z
        · have z : H a = none := z
          rw [h2] at z; cases z
    · rcases (C'.pen a z).2.2 with q | q
      · exact h5 (mem_pa.mp q)
      · have q : H a = none := q
        rw [h2] at q; cases q
  · obtain ⟨h1, h2, h3⟩ := C'.pen a e
    refine ⟨h1, h2, ?_⟩
    rcases h3 with q | q
    · exact (C.pen a (mem_pa.mp q)).2.2
    · exact .inr (C.fresh q).2.1
  · obtain ⟨h1, h2, h3, h4, h5⟩ := C'.obs a d q
    refine ⟨h1, h2, h3, ?_, h5⟩
    rcases h4 with ⟨d0, z⟩ | z
    · exact (C.obs a d0 z).2.2.2.1
    · exact .inr (C.fresh z).2.1
  · cases q : t'.obs a with
    | none => rfl
    | some d' =>
      rcases (C'.obs a d' q).2.2.2.1 with ⟨d0, z⟩ | z
      · rw [C.osp i d a e s] at z; cases z
      · obtain ⟨a', h, h1, h2, _⟩ := C.own i d e
        rw [s] at h1; cases h1
        have z : H a = none := z
        rw [h2] at z; cases z
theorem Cf.bare (C : Cf K B F pa t env σ H) : Cf K (B0 F pa t.bare H) F pa t.bare [] [] H := by
  refine ⟨rfl, C.sub, fun _ _ e => e, fun _ _ e _ _ => e, fun a o e => .inl ⟨o, e⟩, fun a ha => ?_, fun i d e => by simp at e, fun i d e => by simp at e, fun i j d e a q => by simp at q, fun a e => ?_, rfl, TabF.nil, C.ntb, fun a d e => (nomatch e), fun a e => e, fun i d a e => by simp at e⟩
  · have q : pa = some a := mem_pa.mp ha
    obtain ⟨_, ⟨h, q, _⟩, _⟩ := C.pen a q
    exact ⟨h, q⟩
  · obtain ⟨h1, h2, _⟩ := C.pen a e
    exact ⟨h1, h2, .inl (mem_pa.mpr e)⟩
end
end Q
/-! QH2 -/
namespace Q
open PySem L2 PyProof.Rows
section
variable (K : PySem.W.Frag) (B : Bs)
def teOf (de : DE) : TE := fun σ H Q => ∃ F pa t env P, Cf K B F pa t env σ H ∧ de env t P ∧
  ∀ v d F' pa' t' H', Gr F pa F' pa' → Cf K B F' pa' t' env σ H' → RelD K F' pa' d v → P d t' → Q v H'
def RelX (F : Hp) (pa : Option Addr) (env : En) (σ : L2.St) (d : D) (v : V) : Prop := RelD K F pa d v ∨ ∃ i : Nat, env[i]? = some (Sl.own d) ∧ σ[i]? = some (some v)
def tvOf (de : DE) : TE := fun σ H Q => ∃ F pa t env P, Cf K B F pa t env σ H ∧ de env t P ∧
  ∀ v d F' pa' t' H', Gr F pa F' pa' → Cf K B F' pa' t' env σ H' → RelX K F' pa' env σ d v → P d t' → Q v H'
def tnOf (de : DE) : TE := fun σ H Q => ∃ F pa t env P, Cf K B F pa t env σ H ∧ de env t P ∧
  ∀ p h d F' pa' t' H', Gr F pa F' pa' → Cf K B F' pa' t' env σ H' → Nw B F' pa' t' env σ p → H' p = some h → RelO1 K F' pa' d h → P d t' → Q (.ref p) H'
def ttOf (dt : DT) : TT := fun σ H Q => ∃ F pa t env P, Cf K B F pa t env σ H ∧ dt env t P ∧
  ∀ k F' pa' t' H', Gr F pa F' pa' → Cf K B F' pa' t' env σ H' → P k t' → Q k H'
def taOf (da : DA) : TA := fun σ H Q => ∃ F pa t env P, Cf K B F pa t env σ H ∧ da env t P ∧
  ∀ vs ds F' pa' t' H', Gr F pa F' pa' → Cf K B F' pa' t' env σ H' → RelL K F' pa' ds vs → P ds t' → Q vs H'
inductive RelXs (F : Hp) (pa : Option Addr) (env : En) (σ : L2.St) : List D → List V → Prop
  | nil : RelXs F pa env σ [] []
  | cons {d : D} {v : V} {ds : List D} {vs : List V} : RelX K F pa env σ d v → RelXs F pa env σ ds vs → RelXs F pa env σ (d :: ds) (v :: vs)
def txOf (da : DA) : TA := fun σ H Q => ∃ F pa t env P, Cf K B F pa t env σ H ∧ da env t P ∧
  ∀ vs ds F' pa' t' H', Gr F pa F' pa' → Cf K B F' pa' t' env σ H' → RelXs K F' pa' env σ ds vs → P ds t' → Q vs H'
def toOf (d : DO) : TO := fun σ H Q => ∃ F pa t env P, Cf K B F pa t env σ H ∧ d env t P ∧
  ∀ k F' pa' t' H', Gr F pa F' pa' → Cf K B F' pa' t' env σ H' → P k t' → Q k H'
def tgOf (vs : List Nat) (g : DG) : TG := fun v σ H Q => ∃ F pa t env d P, Cf K B F pa t env σ H ∧ RelD K F pa d v ∧ g d env t P ∧
  ∀ F' pa' t' env' σ' H', Gr F pa F' pa' → Cf K B F' pa' t' env' σ' H' → wipe σ' vs = wipe σ vs → P env' t' → Q σ' H'
def tgsOf (vs : List Nat) (g : DGs) : TGs := fun us σ H Q => ∃ F pa t env ds P, Cf K B F pa t env σ H ∧ RelL K F pa ds us ∧ g ds env t P ∧
  ∀ F' pa' t' env' σ' H', Gr F pa F' pa' → Cf K B F' pa' t' env' σ' H' → wipe σ' vs = wipe σ vs → P env' t' → Q σ' H'
def RetRel (F : Hp) (pa : Option Addr) (t : Ts) (H : Hp) (d : D) (v : V) : Prop := match B.m with
  | false => RelD K F pa d v
  | true => (d = .non ∧ v = .non) ∨ ∃ p h, v = .ref p ∧ F p = none ∧ B.H p = none ∧ pa ≠ some p ∧ t.obs p = none ∧ H p = some h ∧ RelO1 K F pa d h
structure Rz (F0 : Hp) (pa0 : Option Addr) (DD : DEnds) (D : Ends) : Prop where
  nx : ∀ F pa t env σ H, Gr F0 pa0 F pa → Cf K B F pa t env σ H → DD.nx env t → D.nx σ H
  rt : ∀ v d F pa t env σ H, Gr F0 pa0 F pa → Cf K B F pa t env σ H → RetRel K B F pa t H d v → DD.rt d env t → D.rt v H
  bk : ∀ F pa t env σ H, Gr F0 pa0 F pa → Cf K B F pa t env σ H → DD.bk env t → D.bk σ H
  ct : ∀ F pa t env σ H, Gr F0 pa0 F pa → Cf K B F pa t env σ H → DD.ct env t → D.ct σ H
def tsOf (ds : DS) : TS := fun D σ H => ∃ F pa t env DD, Cf K B F pa t env σ H ∧ ds DD env t ∧ Rz K B F pa DD D
end
theorem Rz.mono {K : PySem.W.Frag} {B : Bs} {F0 F1 : Hp} {p0 p1 : Option Addr} {DD : DEnds} {D : Ends} (R : Rz K B F0 p0 DD D) (g : Gr F0 p0 F1 p1) : Rz K B F1 p1 DD D :=
  ⟨fun F pa t env σ H g' => R.nx F pa t env σ H (g.trans g'), fun v d F pa t env σ H g' => R.rt v d F pa t env σ H (g.trans g'), fun F pa t env σ H g' => R.bk F pa t env σ H (g.trans g'), fun F pa t env σ H g' => R.ct F pa t env σ H (g.trans g')⟩
abbrev QE (X : Cx) (B : Bs) (e : Expr) (de : DE) : Prop := PE X e (teOf X.K B de)
abbrev QV (X : Cx) (B : Bs) (e : Expr) (de : DE) : Prop := PE X e (tvOf X.K B de)
abbrev QN (X : Cx) (B : Bs) (e : Expr) (de : DE) : Prop := PE X e (tnOf X.K B de)
abbrev QT (X : Cx) (B : Bs) (e : Expr) (dt : DT) : Prop := PT X e (ttOf X.K B dt)
abbrev QW (X : Cx) (B : Bs) (e : Expr) (dt : DT) : Prop := PW X e (ttOf X.K B dt)
abbrev QA (X : Cx) (B : Bs) (es : List Expr) (da : DA) : Prop := PA X es (taOf X.K B da)
abbrev QX (X : Cx) (B : Bs) (es : List Expr) (da : DA) : Prop := PA X es (txOf X.K B da)
abbrev QO (X : Cx) (B : Bs) (e : Option Expr) (d : DO) : Prop := PO X e (toOf X.K B d)
abbrev QG (X : Cx) (B : Bs) (vs : List Nat) (e : Expr) (g : DG) : Prop := PG X e (tgOf X.K B vs g)
abbrev QGs (X : Cx) (B : Bs) (vs : List Nat) (es : List Expr) (g : DGs) : Prop := PGs X es (tgsOf X.K B vs g)
abbrev QS (X : Cx) (B : Bs) (st : Stmt) (ds : DS) : Prop := PS X st (tsOf X.K B ds)
abbrev QSs (X : Cx) (B : Bs) (st : List Stmt) (ds : DS) : Prop := PSs X st (tsOf X.K B ds)
theorem PE.imp {X : Cx} {e : Expr} {t t' : TE} (h : PE X e t) (i : ∀ σ H Q, t' σ H Q → t σ H Q) : PE X e t' := ⟨fun pins s σ H Q I q => h.run pins s σ H Q I (i σ H Q q)⟩
theorem PT.imp {X : Cx} {e : Expr} {t t' : TT} (h : PT X e t) (i : ∀ σ H Q, t' σ H Q → t σ H Q) : PT X e t' := ⟨fun pins s σ H Q I q => h.run pins s σ H Q I (i σ H Q q)⟩
theorem PW.imp {X : Cx} {e : Expr} {t t' : TT} (h : PW X e t) (i : ∀ σ H Q, t' σ H Q → t σ H Q) : PW X e t' := ⟨fun w pins s σ H Q I q => h.run w pins s σ H Q I (i σ H Q q)⟩
theorem PA.imp {X : Cx} {e : List Expr} {t t' : TA} (h : PA X e t) (i : ∀ σ H Q, t' σ H Q → t σ H Q) : PA X e t' := ⟨fun p pins s σ H Q I q => h.run p pins s σ H Q I (i σ H Q q)⟩
theorem PO.imp {X : Cx} {e : Option Expr} {t t' : TO} (h : PO X e t) (i : ∀ σ H Q, t' σ H Q → t σ H Q) : PO X e t' := ⟨fun pins s σ H Q I q => h.run pins s σ H Q I (i σ H Q q)⟩
theorem PG.imp {X : Cx} {e : Expr} {t t' : TG} (h : PG X e t) (i : ∀ v σ H Q, t' v σ H Q → t v σ H Q) : PG X e t' := ⟨fun pins s σ H v u Q I r q => h.run pins s σ H v u Q I r (i v σ H Q q)⟩
theorem PGs.imp {X : Cx} {e : List Expr} {t t' : TGs} (h : PGs X e t) (i : ∀ v σ H Q, t' v σ H Q → t v σ H Q) : PGs X e t' := ⟨fun pins s σ H v u Q I r q => h.run pins s σ H v u Q I r (i v σ H Q q)⟩
theorem PS.imp {X : Cx} {e : Stmt} {t t' : TS} (h : PS X e t) (i : ∀ D σ H, t' D σ H → t D σ H) : PS X e t' := ⟨fun pins s σ H D I q => h.run pins s σ H D I (i D σ H q)⟩
theorem PSs.imp {X : Cx} {e : List Stmt} {t t' : TS} (h : PSs X e t) (i : ∀ D σ H, t' D σ H → t D σ H) : PSs X e t' := ⟨fun pins s σ H D I q => h.run pins s σ H D I (i D σ H q)⟩
section
variable {X : Cx} {B : Bs} {K : PySem.W.Frag} {a b c e : Expr} {es : List Expr} {pos : Pos} {da db dc : DE} {as : DA}
theorem RelX.mono {F F' : Hp} {pa pa' : Option Addr} {env : En} {σ : L2.St} {d : D} {v : V} (g : Gr F pa F' pa') (r : RelX K F pa env σ d v) : RelX K F' pa' env σ d v := by
  rcases r with r | r
  · exact .inl (RelD.mono g d v r)
  · exact .inr r
theorem RelXs.mono {F F' : Hp} {pa pa' : Option Addr} {env : En} {σ : L2.St} {d : List D} {v : List V} (g : Gr F pa F' pa') (r : RelXs K F pa env σ d v) : RelXs K F' pa' env σ d v := by
  induction r with
  | nil => exact .nil
  | cons h _ ih => exact .cons (h.mono g) ih
theorem RelXs.of {F : Hp} {pa : Option Addr} {env : En} {σ : L2.St} : ∀ {d : List D} {v : List V}, RelL K F pa d v → RelXs K F pa env σ d v
  | [], v, h => by rw [h.inv0]; exact .nil
  | x :: d, v, h => by
    obtain ⟨y, w, rfl, r, q⟩ := h.inv
    exact .cons (.inl r) (RelXs.of q)
theorem RelX.lst {F : Hp} {pa : Option Addr} {t : Ts} {env : En} {σ : L2.St} {H : Hp} {l : List D} {v : V} (C : Cf K B F pa t env σ H) (r : RelX K F pa env σ (.lst l) v) : ∃ a vs, v = .ref a ∧ H a = some (.lst vs) ∧ RelL K F pa l vs := by
  rcases r with r | ⟨i, h1, h2⟩
  · unfold RelD at r
    obtain ⟨a, vs, e, q, z⟩ := r
    exact ⟨a, vs, e, C.sub _ _ q, z⟩
  · obtain ⟨a, h, s1, q, z, _⟩ := C.own i _ h1
    rw [h2] at s1; cases s1
    obtain ⟨vs, rfl, z⟩ := z
    exact ⟨a, vs, rfl, q, z⟩
theorem RelX.tup {F : Hp} {pa : Option Addr} {t : Ts} {env : En} {σ : L2.St} {H : Hp} {l : List D} {v : V} (C : Cf K B F pa t env σ H) (r : RelX K F pa env σ (.tup l) v) : ∃ a vs, v = .ref a ∧ H a = some (.tup vs) ∧ F a = some (.tup vs) ∧ RelL K F pa l vs := by
  rcases r with r | ⟨i, h1, h2⟩
  · unfold RelD at r
    obtain ⟨a, vs, e, q, z⟩ := r
    exact ⟨a, vs, e, C.sub _ _ q, q, z⟩
  · obtain ⟨a, h, s1, q, z, _⟩ := C.own i _ h1
    exact z.elim
theorem RelX.dic {F : Hp} {pa : Option Addr} {t : Ts} {env : En} {σ : L2.St} {H : Hp} {ks : List Ky} {l : List D} {v : V} (C : Cf K B F pa t env σ H) (r : RelX K F pa env σ (.dic ks l) v) : ∃ a vs, v = .ref a ∧ H a = some (.dK (ks.zip vs)) ∧ ks.length = vs.length ∧ RelL K F pa l vs := by
  rcases r with r | ⟨i, h1, h2⟩
  · unfold RelD at r
    obtain ⟨a, vs, e, q, z⟩ := r
    exact ⟨a, vs, e, C.sub _ _ q, z⟩
  · obtain ⟨a, h, s1, q, z, _⟩ := C.own i _ h1
    rw [h2] at s1; cases s1
    obtain ⟨vs, rfl, z⟩ := z
    exact ⟨a, vs, rfl, q, z⟩
theorem RelX.ins {F : Hp} {pa : Option Addr} {t : Ts} {env : En} {σ : L2.St} {H : Hp} {C : Addr} {ns : List Str} {l : List D} {v : V} (W : Cf K B F pa t env σ H) (r : RelX K F pa env σ (.ins C ns l) v) : ∃ a dx vs, v = .ref a ∧ H a = some (.ins C dx (ns.zip vs)) ∧ ns.length = vs.length ∧ RelL K F pa l vs := by
  rcases r with r | ⟨i, h1, h2⟩
  · unfold RelD at r
    obtain ⟨a, dx, vs, e, q, z⟩ := r
    exact ⟨a, dx, vs, e, W.sub _ _ q, z⟩
  · obtain ⟨a, h, s1, q, z, _⟩ := W.own i _ h1
    rw [h2] at s1; cases s1
    obtain ⟨dx, vs, rfl, z⟩ := z
    exact ⟨a, dx, vs, rfl, q, z⟩
theorem RelX.scr {F : Hp} {pa : Option Addr} {t : Ts} {env : En} {σ : L2.St} {H : Hp} {ns : List Int} {v : V} (W : Cf K B F pa t env σ H) (r : RelX K F pa env σ (.scr ns) v) : ∃ a, v = .ref a ∧ SqL K H a (ns.map V.int) := by
  rcases r with r | ⟨i, h1, h2⟩
  · unfold RelD at r
    obtain ⟨a, e, q⟩ := r
    exact ⟨a, e, sq_mono W.sub q⟩
  · obtain ⟨a, h, s1, q, z, _⟩ := W.own i _ h1
    exact z.elim
theorem RelX.int {F : Hp} {pa : Option Addr} {t : Ts} {env : En} {σ : L2.St} {H : Hp} {i : Int} {v : V} (W : Cf K B F pa t env σ H) (r : RelX K F pa env σ (.int i) v) : v = .int i := by
  rcases r with r | ⟨i, h1, h2⟩
  · unfold RelD at r; exact r
  · obtain ⟨a, h, s1, q, z, _⟩ := W.own i _ h1
    exact z.elim
theorem RelX.bl {F : Hp} {pa : Option Addr} {t : Ts} {env : En} {σ : L2.St} {H : Hp} {i : Bool} {v : V} (W : Cf K B F pa t env σ H) (r : RelX K F pa env σ (.bl i) v) : v = .bl i := by
  rcases r with r | ⟨i, h1, h2⟩
  · unfold RelD at r; exact r
  · obtain ⟨a, h, s1, q, z, _⟩ := W.own i _ h1
    exact z.elim
theorem RelX.str {F : Hp} {pa : Option Addr} {t : Ts} {env : En} {σ : L2.St} {H : Hp} {i : Str} {v : V} (W : Cf K B F pa t env σ H) (r : RelX K F pa env σ (.str i) v) : v = .str i := by
  rcases r with r | ⟨i, h1, h2⟩
  · unfold RelD at r; exact r
  · obtain ⟨a, h, s1, q, z, _⟩ := W.own i _ h1
    exact z.elim
theorem RelX.non {F : Hp} {pa : Option Addr} {t : Ts} {env : En} {σ : L2.St} {H : Hp} {v : V} (W : Cf K B F pa t env σ H) (r : RelX K F pa env σ .non v) : v = .non := by
  rcases r with r | ⟨i, h1, h2⟩
  · unfold RelD at r; exact r
  · obtain ⟨a, h, s1, q, z, _⟩ := W.own i _ h1
    exact z.elim
theorem toV (h : QE X B e da) : QV X B e da := PE.imp h fun σ H Q ⟨F, pa, t, env, P, C, hd, k⟩ => ⟨F, pa, t, env, P, C, hd, fun v d F' pa' t' H' g C' r q => k v d F' pa' t' H' g C' (.inl r) q⟩
theorem toE (h : QN X B e da) : QE X B e da := PE.imp h fun σ H Q ⟨F, pa, t, env, P, C, hd, k⟩ => ⟨F, pa, t, env, P, C, hd, fun p h d F' pa' t' H' g C' n e r q => by
  obtain ⟨g', C2⟩ := C'.frz n e r.ntb
  exact k (.ref p) d _ pa' t' H' (g.trans g') C2 (RelO1.rel (RelO1.mono g' d h r) upd_same) q⟩
theorem q_var {i : Nat} {x : Str} {pos : Pos} (h : PE X (.Name x pos) (tVar i)) : QE X B (.Name x pos) (dVar i) := PE.imp h fun σ H Q ⟨F, pa, t, env, P, C, hd, k⟩ => by
  have hd : (match env[i]? with | some (.val d) => P d t | _ => False) := hd
  cases q : env[i]? with
  | none => rw [q] at hd; exact hd.elim
  | some s =>
    rw [q] at hd
    cases s with
    | val d =>
      obtain ⟨v, h1, h2⟩ := C.val i d q
      exact ⟨v, h1, k v d F pa t H (Gr.refl _ _) C h2 hd⟩
    | no => exact hd.elim
    | own d => exact hd.elim
theorem q_view {i : Nat} {x : Str} {pos : Pos} (h : PE X (.Name x pos) (tVar i)) : QV X B (.Name x pos) (dView i) := PE.imp h fun σ H Q ⟨F, pa, t, env, P, C, hd, k⟩ => by
  have hd : (match env[i]? with | some (.val d) => P d t | some (.own d) => P d t | _ => False) := hd
  cases q : env[i]? with
  | none => rw [q] at hd; exact hd.elim
  | some s =>
    rw [q] at hd
    cases s with
    | val d =>
      obtain ⟨v, h1, h2⟩ := C.val i d q
      exact ⟨v, h1, k v d F pa t H (Gr.refl _ _) C (.inl h2) hd⟩
    | no => exact hd.elim
    | own d =>
      obtain ⟨a, h, h1, h2, h3, _⟩ := C.own i d q
      exact ⟨.ref a, h1, k _ d F pa t H (Gr.refl _ _) C (.inr ⟨i, q, h1⟩) hd⟩
theorem q_c {v : V} {d : D} (h : PE X e (tC v)) (r : ∀ F pa, RelD X.K F pa d v) : QE X B e (dC d) := PE.imp h fun σ H Q ⟨F, pa, t, env, P, C, hd, k⟩ => k v d F pa t H (Gr.refl _ _) C (r F pa) hd
theorem q_int {i : Int} {j pos} : QE X B (.Constant (.int i) j pos) (dC (.int i)) := q_c pe_int fun _ _ => by unfold RelD; rfl
theorem q_bl {i : Bool} {j pos} : QE X B (.Constant (.bool i) j pos) (dC (.bl i)) := q_c pe_bl fun _ _ => by unfold RelD; rfl
theorem q_non {j pos} : QE X B (.Constant .none j pos) (dC .non) := q_c pe_non fun _ _ => by unfold RelD; rfl
theorem q_str {i : Str} {j pos} : QE X B (.Constant (.str i) j pos) (dC (.str i)) := q_c pe_str fun _ _ => by unfold RelD; rfl
def ROp (K : PySem.W.Frag) (r : R2) (o : DOp) : Prop := ∀ (B : Bs) F pa t env σ H x y v u P (Q : VK), Cf K B F pa t env σ H → RelX K F pa env σ x v → RelX K F pa env σ y u → o x y P →
  (∀ w d F' H', Gr F pa F' pa → Cf K B F' pa t env σ H' → RelD K F' pa d w → P d → Q w H') → r v u H Q
def RUn (K : PySem.W.Frag) (r : V → Hp → VK → Prop) (o : DU) : Prop := ∀ (B : Bs) F pa t env σ H x v P (Q : VK), Cf K B F pa t env σ H → RelX K F pa env σ x v → o x P →
  (∀ w d F' H', Gr F pa F' pa → Cf K B F' pa t env σ H' → RelD K F' pa d w → P d → Q w H') → r v H Q
theorem ev2 {r : R2} {o : DOp} (hr : ROp K r o) : ∀ σ H Q, teOf K B (dOp o da db) σ H Q → tOp r (tvOf K B da) (tvOf K B db) σ H Q := fun σ H Q ⟨F, pa, t, env, P, C, hd, k⟩ =>
  ⟨F, pa, t, env, _, C, hd, fun v x F1 pa1 t1 H1 g1 C1 r1 q1 => ⟨F1, pa1, t1, env, _, C1, q1, fun u y F2 pa2 t2 H2 g2 C2 r2 q2 =>
    hr B F2 pa2 t2 env σ H2 x y v u _ Q C2 (r1.mono g2) r2 q2 fun w d F' H' g3 C3 r3 q3 => k w d F' pa2 t2 H' ((g1.trans g2).trans g3) C3 r3 q3⟩⟩
theorem q_op {op : Operator} {r : R2} {o : DOp} (ho : OpR X (binaryOp op) r) (hr : ROp X.K r o) (ha : QV X B a da) (hb : QV X B b db) : QE X B (.BinOp a op b pos) (dOp o da db) := PE.imp (pe_op ho ha hb) (ev2 hr)
theorem q_un {op : UnaryOp} {r : V → Hp → VK → Prop} {o : DU} (ho : UnR X (unaryOp op) r) (hr : RUn X.K r o) (ha : QV X B a da) : QE X B (.UnaryOp op a pos) (dUn o da) := PE.imp (pe_un ho ha) fun σ H Q ⟨F, pa, t, env, P, C, hd, k⟩ =>
  ⟨F, pa, t, env, _, C, hd, fun v x F1 pa1 t1 H1 g1 C1 r1 q1 => hr B F1 pa1 t1 env σ H1 x v _ Q C1 r1 q1 fun w d F' H' g3 C3 r3 q3 => k w d F' pa1 t1 H' (g1.trans g3) C3 r3 q3⟩
theorem q_cmp {op : CmpOp} {r : R2} {o : DOp} (ho : OpR X (compareOp op) r) (hr : ROp X.K r o) (ha : QV X B a da) (hb : QV X B b db) (hm : behindInMarks op b = false) : QE X B (.Compare a [op] [b] pos) (dOp o da db) := PE.imp (pe_cmpR ho ha hb hm) (ev2 hr)
theorem q_tcmp {op : CmpOp} {r : R2} {o : DOp} (ho : OpR X (compareOp op) r) (hr : ROp X.K r o) (ha : QV X B a da) (hb : QV X B b db) (hm : behindInMarks op b = false) : QT X B (.Compare a [op] [b] pos) (dB (dOp o da db)) := PT.imp (pt_cmpR ho ha hb hm) fun σ H Q ⟨F, pa, t, env, P, C, hd, k⟩ => by
  refine ev2 hr σ H _ ⟨F, pa, t, env, _, C, hd, fun v d F' pa' t' H' g C' rd q => ?_⟩
  cases d with
  | bl b => unfold RelD at rd; exact ⟨b, rd, k b F' pa' t' H' g C' q⟩
  | _ => exact q.elim
theorem rD_int {F : Hp} {pa : Option Addr} (i : Int) : RelD K F pa (.int i) (.int i) := by unfold RelD; rfl
theorem rD_bl {F : Hp} {pa : Option Addr} (i : Bool) : RelD K F pa (.bl i) (.bl i) := by unfold RelD; rfl
theorem rD_str {F : Hp} {pa : Option Addr} (i : Str) : RelD K F pa (.str i) (.str i) := by unfold RelD; rfl
theorem rD_non {F : Hp} {pa : Option Addr} : RelD K F pa .non .non := by unfold RelD; rfl
theorem rop_int {C : Int → Int → Prop} {g : Int → Int → V} {f : Int → Int → D} {o : DOp} (hg : ∀ F pa i j, RelD K F pa (f i j) (g i j)) (ho : ∀ x y P, o x y P → ∃ i j, x = .int i ∧ y = .int j ∧ C i j ∧ P (f i j)) : ROp K (rI C g) o := fun B F pa t env σ H x y v u P Q W rx ry h k => by
  obtain ⟨i, j, rfl, rfl, hc, p⟩ := ho x y P h
  exact ⟨i, j, rx.int W, ry.int W, hc, k _ _ F H (Gr.refl _ _) W (hg F pa i j) p⟩
theorem rop_int0 {g : Int → Int → V} {f : Int → Int → D} {o : DOp} (hg : ∀ F pa i j, RelD K F pa (f i j) (g i j)) (ho : ∀ x y P, o x y P → ∃ i j, x = .int i ∧ y = .int j ∧ P (f i j)) : ROp K (rI0 g) o := fun B F pa t env σ H x y v u P Q W rx ry h k => by
  obtain ⟨i, j, rfl, rfl, p⟩ := ho x y P h
  exact ⟨i, j, rx.int W, ry.int W, k _ _ F H (Gr.refl _ _) W (hg F pa i j) p⟩
theorem rop_sub : ROp K (rI0 fun i j => .int (i - j)) oSub := rop_int0 (f := fun i j => .int (i - j)) (fun _ _ _ _ => rD_int _) fun x y P h => by
  cases x <;> cases y <;> first | exact ⟨_, _, rfl, rfl, h⟩ | exact (False.elim h)
theorem rop_lt : ROp K (rI0 fun i j => .bl (decide (i < j))) oLt := rop_int0 (f := fun i j => .bl (decide (i < j))) (fun _ _ _ _ => rD_bl _) fun x y P h => by
  cases x <;> cases y <;> first | exact ⟨_, _, rfl, rfl, h⟩ | exact (False.elim h)
theorem rop_le : ROp K (rI0 fun i j => .bl (decide (i ≤ j))) oLe := rop_int0 (f := fun i j => .bl (decide (i ≤ j))) (fun _ _ _ _ => rD_bl _) fun x y P h => by
  cases x <;> cases y <;> first | exact ⟨_, _, rfl, rfl, h⟩ | exact (False.elim h)
theorem rop_gt : ROp K (rI0 fun i j => .bl (decide (j < i))) oGt := rop_int0 (f := fun i j => .bl (decide (j < i))) (fun _ _ _ _ => rD_bl _) fun x y P h => by
  cases x <;> cases y <;> first | exact ⟨_, _, rfl, rfl, h⟩ | exact (False.elim h)
theorem rop_ge : ROp K (rI0 fun i j => .bl (decide (j ≤ i))) oGe := rop_int0 (f := fun i j => .bl (decide (j ≤ i))) (fun _ _ _ _ => rD_bl _) fun x y P h => by
  cases x <;> cases y <;> first | exact ⟨_, _, rfl, rfl, h⟩ | exact (False.elim h)
theorem rop_mod : ROp K (rI (fun _ j => 0 < j) fun i j => .int (i % j)) oMod := rop_int (f := fun i j => .int (i % j)) (fun _ _ _ _ => rD_int _) fun x y P h => by
  cases x <;> cases y <;> first | exact ⟨_, _, rfl, rfl, h.1, h.2⟩ | exact (False.elim h)
theorem rop_div : ROp K (rI CDivW fun i j => .int (i / j)) oDiv := rop_int (f := fun i j => .int (i / j)) (fun _ _ _ _ => rD_int _) fun x y P h => by
  cases x <;> cases y <;> first | exact ⟨_, _, rfl, rfl, wide_div h.1.1 h.1.2 (by decide) (by decide), h.2⟩ | exact (False.elim h)
theorem zle {n : Nat} (h : n ≤ zLen) : n ≤ sizeLine := by rw [sizeLine_eq]; unfold zLen at h; omega
theorem zlt {n : Nat} (h : n < zLen) : n < sizeLine := by rw [sizeLine_eq]; unfold zLen at h; omega
theorem few_of {l : List D} {p : Prop} (h : Few l p) : l.length ≤ sizeLine ∧ p := by
  unfold Few at h
  split at h
  · rename_i e
    exact ⟨by rw [sizeLine_eq]; have := Nat.le_of_ble_eq_true e; omega, h⟩
  · exact h.elim
theorem new_lst {F : Hp} {pa : Option Addr} {t : Ts} {env : En} {σ : L2.St} {H : Hp} {p : Addr} {l : List D} {vs : List V} (C : Cf K B F pa t env σ H) (h : H p = none) (r : RelL K F pa l vs) :
    ∃ F', Gr F pa F' pa ∧ Cf K B F' pa t env σ (upd H p (.lst vs)) ∧ RelD K F' pa (.lst l) (.ref p) := by
  obtain ⟨g, C'⟩ := C.alloc (.lst vs) h
  exact ⟨_, g, C', RelO1.rel (d := .lst l) ⟨vs, rfl, RelL.mono g l vs r⟩ upd_same⟩
theorem new_tup {F : Hp} {pa : Option Addr} {t : Ts} {env : En} {σ : L2.St} {H : Hp} {p : Addr} {l : List D} {vs : List V} (C : Cf K B F pa t env σ H) (h : H p = none) (r : RelL K F pa l vs) :
    ∃ F', Gr F pa F' pa ∧ Cf K B F' pa t env σ (upd H p (.tup vs)) ∧ RelD K F' pa (.tup l) (.ref p) := by
  obtain ⟨g, C'⟩ := C.alloc (.tup vs) h
  refine ⟨_, g, C', ?_⟩
  unfold RelD
  exact ⟨p, vs, rfl, upd_same, RelL.mono g l vs r⟩
def rAdd4 (K : PySem.W.Frag) : R2 := fun x y H Q => (rI0 (fun i j => .int (i + j)) x y H Q ∨ rCat x y H Q) ∨ (rCatT K x y H Q ∨ ∃ i j, x = .str i ∧ y = .str j ∧ i.length + j.length ≤ sizeLine ∧ Q (.str (i ++ j)) H)
theorem op_add4 : OpR X (binaryOp .Add) (rAdd4 X.K) := (op_add.or op_cat).or (op_catT.or op_add_str)
theorem rop_add : ROp K (rAdd4 K) oAdd := fun B F pa t env σ H x y v u P Q W rx ry h k => by
  cases x with
  | int i =>
    cases y with
    | int j => exact .inl (.inl ⟨i, j, rx.int W, ry.int W, k _ _ F H (Gr.refl _ _) W (rD_int _) h⟩)
    | _ => exact h.elim
  | str i =>
    cases y with
    | str j => exact .inr (.inr ⟨i, j, rx.str W, ry.str W, zle h.1, k _ _ F H (Gr.refl _ _) W (rD_str _) h.2⟩)
    | _ => exact h.elim
  | lst l =>
    cases y with
    | lst m =>
      obtain ⟨a, vs, rfl, e1, r1⟩ := rx.lst W
      obtain ⟨b, ws, rfl, e2, r2⟩ := ry.lst W
      refine .inl (.inr ⟨a, b, vs, ws, rfl, rfl, e1, e2, by rw [r1.len, r2.len]; exact zle h.1, fun p hp => ?_⟩)
      obtain ⟨F', g, C', rd⟩ := new_lst W hp (r1.append r2)
      exact k _ _ F' _ g C' rd h.2
    | _ => exact h.elim
  | tup l =>
    cases y with
    | tup m =>
      obtain ⟨a, vs, rfl, e1, _, r1⟩ := rx.tup W
      obtain ⟨b, ws, rfl, e2, _, r2⟩ := ry.tup W
      obtain ⟨⟨hz, hl, hm⟩, hp⟩ := h
      refine .inr (.inl ⟨a, b, vs, ws, rfl, rfl, SqT.of e1, SqT.of e2, ?_, by rw [r1.len, r2.len]; exact zle hz, ?_, fun _ p hp' => ?_⟩)
      · intro e; have := r1.len; rw [e] at this; exact hl (List.length_eq_zero_iff.mp this.symm)
      · intro e; have := r2.len; rw [e] at this; exact absurd (List.length_eq_zero_iff.mp this.symm) hm
      · obtain ⟨F', g, C', rd⟩ := new_tup W hp' (r1.append r2)
        exact k _ _ F' _ g C' rd hp
    | _ => exact h.elim
  | _ => exact h.elim
theorem sm_mul {i j : Int} (h : MulOk i j) : CMul i j ∨ CMulW i j := by
  rcases h with h | h | ⟨a, b, h1, h2, h3, h4, h5⟩
  · have h : i.natAbs < 2 ^ 64 := h
    exact .inl (.inl ⟨by omega, by omega⟩)
  · have h : j.natAbs < 2 ^ 64 := h
    exact .inl (.inr ⟨by omega, by omega⟩)
  · exact .inr (wide_mul h1 h2 h3 h4 h5)
def rMul3 : R2 := fun x y H Q => (rI CMul (fun i j => .int (i * j)) x y H Q ∨ rI CMulW (fun i j => .int (i * j)) x y H Q) ∨ rRep x y H Q
theorem op_mul3 : OpR X (binaryOp .Mult) rMul3 := (op_mul.or op_mulW).or op_rep
theorem rop_mul : ROp K rMul3 oMul := fun B F pa t env σ H x y v u P Q W rx ry h k => by
  cases x with
  | int i =>
    cases y with
    | int j =>
      rcases sm_mul h.1 with c | c
      · exact .inl (.inl ⟨i, j, rx.int W, ry.int W, c, k _ _ F H (Gr.refl _ _) W (rD_int _) h.2⟩)
      · exact .inl (.inr ⟨i, j, rx.int W, ry.int W, c, k _ _ F H (Gr.refl _ _) W (rD_int _) h.2⟩)
    | _ => exact h.elim
  | lst l =>
    cases y with
    | int j =>
      obtain ⟨a, vs, rfl, e1, r1⟩ := rx.lst W
      obtain ⟨⟨h1, h2, h3⟩, hp⟩ := h
      refine .inr ⟨a, j, vs, rfl, ry.int W, e1, by omega, by omega, by rw [r1.len]; exact zle h3, fun p hp' => ?_⟩
      obtain ⟨F', g, C', rd⟩ := new_lst W hp' (r1.rep j.toNat)
      exact k _ _ F' _ g C' rd hp
    | _ => exact h.elim
  | _ => exact h.elim
theorem sm_pow {i j : Int} (h : PowOk i j) : 0 ≤ j ∧ (Builtin.Int.intBits i : Int) * j ≤ 2 ^ 27 := by
  obtain ⟨h0, a, ha, hb⟩ := h
  refine ⟨h0, ?_⟩
  have hi : Builtin.Int.intBits i ≤ a ∨ i = 0 := by
    unfold Builtin.Int.intBits
    by_cases e : i = 0
    · exact .inr e
    · left
      split
      · omega
      · have ha' : i.natAbs < 2 ^ a := ha
        have : i.natAbs.log2 < a := (Nat.log2_lt (by omega)).mpr ha'
        omega
  rcases hi with hi | rfl
  · have h1 : (Builtin.Int.intBits i : Int) ≤ (a : Int) := by omega
    have := Int.mul_le_mul_of_nonneg_right h1 h0
    have : (2 : Int) ^ 27 = 134217728 := by decide
    omega
  · have : (Builtin.Int.intBits 0 : Int) ≤ 1 := by decide
    have hj : j ≤ 100000000 ∨ a = 0 := by
      by_cases e : a = 0
      · exact .inr e
      · left
        have h1 : (1 : Int) ≤ (a : Int) := by omega
        have := Int.mul_le_mul_of_nonneg_right h1 h0
        omega
    rcases hj with hj | rfl
    · have := Int.mul_le_mul_of_nonneg_right this h0
      have : (2 : Int) ^ 27 = 134217728 := by decide
      omega
    · have e0 : Builtin.Int.intBits 0 = 0 := by decide
      rw [e0]
      have : (2 : Int) ^ 27 = 134217728 := by decide
      omega
theorem op_powW : OpR X (binaryOp .Pow) (rI (fun i j => PowOk i j) fun i j => .int (i ^ j.toNat)) := opI fun _ _ _ _ _ _ _ hc q => pow_int (sm_pow hc).1 (sm_pow hc).2 q
theorem rop_pow : ROp K (rI (fun i j => PowOk i j) fun i j => .int (i ^ j.toNat)) oPow := rop_int (f := fun i j => .int (i ^ j.toNat)) (fun _ _ _ _ => rD_int _) fun x y P h => by
  cases x <;> cases y <;> first | exact ⟨_, _, rfl, rfl, h.1, h.2⟩ | exact (False.elim h)
theorem run_neg : RUn K (rU fun i => .int (-i)) oNeg := fun B F pa t env σ H x v P Q W rx h k => by
  cases x with
  | int i => exact ⟨i, rx.int W, k _ _ F H (Gr.refl _ _) W (rD_int _) h⟩
  | _ => exact h.elim
theorem rop_isN : ROp K (fun x y H Q => y = .non ∧ Q (.bl (decide (x = .non))) H) oIsN := fun B F pa t env σ H x y v u P Q W rx ry h k => by
  cases y with
  | non =>
    refine ⟨ry.non W, ?_⟩
    have e : decide (v = V.non) = isNon x := by
      cases x with
      | non => rw [rx.non W]; rfl
      | int i => rw [rx.int W]; rfl
      | bl i => rw [rx.bl W]; rfl
      | str i => rw [rx.str W]; rfl
      | lst l => obtain ⟨a, vs, rfl, _⟩ := rx.lst W; rfl
      | tup l => obtain ⟨a, vs, rfl, _⟩ := rx.tup W; rfl
      | dic ks l => obtain ⟨a, vs, rfl, _⟩ := rx.dic W; rfl
      | ins C ns l => obtain ⟨a, dx, vs, rfl, _⟩ := rx.ins W; rfl
      | scr ns => obtain ⟨a, rfl, _⟩ := rx.scr W; rfl
      | ob x l =>
        rcases rx with r | ⟨i, h1, h2⟩
        · unfold RelD at r; obtain ⟨a, vs, rfl, _⟩ := r; rfl
        · obtain ⟨a, h, s1, _⟩ := W.own i _ h1
          rw [h2] at s1
          cases s1
          rfl
      | fl m =>
        rcases rx with r | ⟨i, h1, h2⟩
        · unfold RelD at r; obtain ⟨a, rfl, _⟩ := r; rfl
        · obtain ⟨a, h, s1, _⟩ := W.own i _ h1
          rw [h2] at s1
          cases s1
          rfl
      | pen =>
        rcases rx with r | ⟨i, h1, h2⟩
        · unfold RelD at r; obtain ⟨a, _, rfl⟩ := r; rfl
        · obtain ⟨a, h, s1, q, z, _⟩ := W.own i _ h1; exact z.elim
      | ty n =>
        rcases rx with r | ⟨i, h1, h2⟩
        · unfold RelD at r; rw [r]; rfl
        · obtain ⟨a, h, s1, q, z, _⟩ := W.own i _ h1; exact z.elim
      | adr n =>
        rcases rx with r | ⟨i, h1, h2⟩
        · unfold RelD at r; rw [r]; rfl
        · obtain ⟨a, h, s1, q, z, _⟩ := W.own i _ h1; exact z.elim
      | rp n =>
        rcases rx with r | ⟨i, h1, h2⟩
        · unfold RelD at r; rw [r]; rfl
        · obtain ⟨a, h, s1, q, z, _⟩ := W.own i _ h1; exact z.elim
    rw [e]
    exact k _ _ F H (Gr.refl _ _) W (rD_bl _) h
  | _ => exact h.elim
mutual
theorem eqv_toPy : ∀ (x y : D), plain x = true → plain y = true → PyData.eqv (toPy x) (toPy y) = deq x y
  | .lst l, .lst m, hx, hy => by
    simp only [toPy, PyData.eqv, deq]
    exact eqvs_toPy l m hx hy
  | .tup l, .tup m, hx, hy => by
    simp only [toPy, PyData.eqv, deq]
    exact eqvs_toPy l m hx hy
  | .non, y, hx, hy => by cases y <;> first | rfl | (simp [plain] at hy; done)
  | .bl b, y, hx, hy => by cases y <;> first | rfl | (simp [plain] at hy; done)
  | .int b, y, hx, hy => by cases y <;> first | rfl | (simp [plain] at hy; done)
  | .str b, y, hx, hy => by cases y <;> first | rfl | (simp [plain] at hy; done) | (simp [toPy, PyData.eqv, deq]; done)
  | .lst l, .non, _, _ => rfl
  | .lst l, .bl _, _, _ => rfl
  | .lst l, .int _, _, _ => rfl
  | .lst l, .str _, _, _ => rfl
  | .lst l, .tup _, _, _ => rfl
  | .lst l, .dic _ _, _, hy => by simp [plain] at hy
  | .lst l, .ins _ _ _, _, hy => by simp [plain] at hy
  | .lst l, .pen, _, hy => by simp [plain] at hy
  | .lst l, .ty _, _, hy => by simp [plain] at hy
  | .lst l, .adr _, _, hy => by simp [plain] at hy
  | .lst l, .rp _, _, hy => by simp [plain] at hy
  | .lst l, .fl _, _, hy => by simp [plain] at hy
  | .lst l, .ob _ _, _, hy => by simp [plain] at hy
  | .lst l, .scr _, _, hy => by simp [plain] at hy
  | .tup l, .non, _, _ => rfl
  | .tup l, .bl _, _, _ => rfl
  | .tup l, .int _, _, _ => rfl
  | .tup l, .str _, _, _ => rfl
  | .tup l, .lst _, _, _ => rfl
  | .tup l, .dic _ _, _, hy => by simp [plain] at hy
  | .tup l, .ins _ _ _, _, hy => by simp [plain] at hy
  | .tup l, .pen, _, hy => by simp [plain] at hy
  | .tup l, .ty _, _, hy => by simp [plain] at hy
  | .tup l, .adr _, _, hy => by simp [plain] at hy
  | .tup l, .rp _, _, hy => by simp [plain] at hy
  | .tup l, .fl _, _, hy => by simp [plain] at hy
  | .tup l, .ob _ _, _, hy => by simp [plain] at hy
  | .tup l, .scr _, _, hy => by simp [plain] at hy
  | .dic _ _, _, hx, _ => by simp [plain] at hx
  | .ins _ _ _, _, hx, _ => by simp [plain] at hx
  | .pen, _, hx, _ => by simp [plain] at hx
  | .ty _, _, hx, _ => by simp [plain] at hx
  | .adr _, _, hx, _ => by simp [plain] at hx
  | .rp _, _, hx, _ => by simp [plain] at hx
  | .fl _, _, hx, _ => by simp [plain] at hx
  | .ob _ _, _, hx, _ => by simp [plain] at hx
  | .scr _, _, hx, _ => by simp [plain] at hx
theorem eqvs_toPy : ∀ (x y : List D), plains x = true → plains y = true → PyData.eqvAll (toPys x) (toPys y) = deqs x y
  | [], [], _, _ => rfl
  | [], _ :: _, _, _ => rfl
  | _ :: _, [], _, _ => rfl
  | x :: l, y :: m, hx, hy => by
    simp only [plains, Bool.and_eq_true] at hx hy
    simp only [toPys, PyData.eqvAll, deqs]
    rw [eqv_toPy x y hx.1 hy.1, eqvs_toPy l m hx.2 hy.2]
end
mutual
theorem lay_toPy : ∀ x : D, plain x = true → (toPy x).canLay0 = true
  | .non, _ => rfl
  | .bl _, _ => rfl
  | .int _, _ => rfl
  | .str x, h => by
    have h : x.cps.all (· < 0x110000) = true := by simpa [plain] using h
    simpa [toPy, PyData.canLay0, PyData.strOk] using h
  | .lst l, h => by simp only [toPy, PyData.canLay0]; exact lays_toPy l (by simpa [plain] using h)
  | .tup l, h => by simp only [toPy, PyData.canLay0]; exact lays_toPy l (by simpa [plain] using h)
  | .dic _ _, h => by simp [plain] at h
  | .ins _ _ _, h => by simp [plain] at h
  | .pen, h => by simp [plain] at h
  | .ty _, h => by simp [plain] at h
  | .adr _, h => by simp [plain] at h
  | .rp _, h => by simp [plain] at h
  | .fl _, h => by simp [plain] at h
  | .ob _ _, h => by simp [plain] at h
  | .scr _, h => by simp [plain] at h
theorem lays_toPy : ∀ x : List D, plains x = true → PyData.canLayAll0 (toPys x) = true
  | [], _ => rfl
  | x :: l, h => by
    simp only [plains, Bool.and_eq_true] at h
    simp only [toPys, PyData.canLayAll0, Bool.and_eq_true]
    exact ⟨lay_toPy x h.1, lays_toPy l h.2⟩
end
mutual
theorem dep_toPy : ∀ x : D, plain x = true → (toPy x).depth = deep x
  | .non, _ => rfl
  | .bl _, _ => rfl
  | .int _, _ => rfl
  | .str x, h => rfl
  | .lst l, h => by simp only [toPy, PyData.depth, deep]; rw [deps_toPy l (by simpa [plain] using h)]
  | .tup l, h => by simp only [toPy, PyData.depth, deep]; rw [deps_toPy l (by simpa [plain] using h)]
  | .dic _ _, h => by simp [plain] at h
  | .ins _ _ _, h => by simp [plain] at h
  | .pen, h => by simp [plain] at h
  | .ty _, h => by simp [plain] at h
  | .adr _, h => by simp [plain] at h
  | .rp _, h => by simp [plain] at h
  | .fl _, h => by simp [plain] at h
  | .ob _ _, h => by simp [plain] at h
  | .scr _, h => by simp [plain] at h
theorem deps_toPy : ∀ x : List D, plains x = true → PyData.depthAll (toPys x) = deeps x
  | [], _ => rfl
  | x :: l, h => by
    simp only [plains, Bool.and_eq_true] at h
    simp only [toPys, PyData.depthAll, deeps]
    rw [dep_toPy x h.1, deps_toPy l h.2]
end
theorem shaped_toPy {x : D} (h : plain x = true) (d : deep x ≤ 60) : SeqAt.shaped (toPy x) = true := by
  unfold SeqAt.shaped
  rw [lay_toPy x h, dep_toPy x h, decide_eq_true (by omega)]
  rfl
mutual
theorem dp_of {F : Hp} {pa : Option Addr} {H : Hp} (g : ∀ a o, F a = some o → H a = some o) : ∀ (x : D) (v : V), RelD K F pa x v → plain x = true → Dp K H v (toPy x)
  | .non, v, r, _ => by unfold RelD at r; subst r; exact .non
  | .bl b, v, r, _ => by unfold RelD at r; subst r; exact .bl b
  | .int i, v, r, _ => by unfold RelD at r; subst r; exact .int i
  | .str x, v, r, _ => by unfold RelD at r; subst r; exact .str x
  | .lst l, v, r, h => by
    unfold RelD at r
    obtain ⟨a, vs, rfl, e, q⟩ := r
    exact .lst (SqL.of (g _ _ e)) (dps_of g l vs q (by simpa [plain] using h))
  | .tup l, v, r, h => by
    unfold RelD at r
    obtain ⟨a, vs, rfl, e, q⟩ := r
    exact .tup (SqT.of (g _ _ e)) (dps_of g l vs q (by simpa [plain] using h))
  | .dic _ _, _, _, h => by simp [plain] at h
  | .ins _ _ _, _, _, h => by simp [plain] at h
  | .pen, _, _, h => by simp [plain] at h
  | .ty _, _, _, h => by simp [plain] at h
  | .adr _, _, _, h => by simp [plain] at h
  | .rp _, _, _, h => by simp [plain] at h
  | .fl _, _, _, h => by simp [plain] at h
  | .ob _ _, _, _, h => by simp [plain] at h
  | .scr _, _, _, h => by simp [plain] at h
theorem dps_of {F : Hp} {pa : Option Addr} {H : Hp} (g : ∀ a o, F a = some o → H a = some o) : ∀ (x : List D) (vs : List V), RelL K F pa x vs → plains x = true → DpAll K H vs (toPys x)
  | [], vs, r, _ => by rw [r.inv0]; exact .nil
  | x :: l, vs, r, h => by
    obtain ⟨v, vr, rfl, r1, r2⟩ := r.inv
    simp only [plains, Bool.and_eq_true] at h
    exact .cons (dp_of g x v r1 h.1) (dps_of g l vr r2 h.2)
end
theorem dp_x {F : Hp} {pa : Option Addr} {t : Ts} {env : En} {σ : L2.St} {H : Hp} {x : D} {v : V} (W : Cf K B F pa t env σ H) (r : RelX K F pa env σ x v) (h : plain x = true) : Dp K H v (toPy x) := by
  rcases r with r | ⟨i, h1, h2⟩
  · exact dp_of W.sub x v r h
  · cases x with
    | lst l =>
      obtain ⟨a, vs, rfl, e, q⟩ := RelX.lst W (.inr ⟨i, h1, h2⟩)
      exact .lst (SqL.of e) (dps_of W.sub l vs q (by simpa [plain] using h))
    | dic _ _ => simp [plain] at h
    | ins _ _ _ => simp [plain] at h
    | fl _ => simp [plain] at h
    | _ => obtain ⟨a, hh, s1, q, z, _⟩ := W.own i _ h1; exact z.elim
theorem oNe_int {x y : D} {P : D → Prop} (h : oNe x y P) : (∃ i j, x = .int i ∧ y = .int j ∧ P (.bl (!decide (i = j)))) ∨ ((plain x = true ∧ plain y = true ∧ deep x ≤ 60 ∧ deep y ≤ 60) ∧ P (.bl (!deq x y))) := by
  unfold oNe at h
  split at h
  · exact .inl ⟨_, _, rfl, rfl, h⟩
  · exact .inr h
theorem rop_ne : ROp K (rNeD K) oNe := fun B F pa t env σ H x y v u P Q W rx ry h k => by
  rcases oNe_int h with ⟨i, j, rfl, rfl, p⟩ | ⟨⟨h1, h2, h3, h4⟩, p⟩
  · refine ⟨.int i, .int j, by rw [rx.int W]; exact .int i, by rw [ry.int W]; exact .int j, rfl, rfl, ?_⟩
    refine k _ (.bl (!decide (i = j))) F H (Gr.refl _ _) W ?_ p
    rw [show PyData.eqv (.int i) (.int j) = decide (i = j) by simp [PyData.eqv, Bool.beq_eq_decide_eq]]
    exact rD_bl _
  · refine ⟨toPy x, toPy y, dp_x W rx h1, dp_x W ry h2, shaped_toPy h1 h3, shaped_toPy h2 h4, ?_⟩
    rw [eqv_toPy x y h1 h2]
    exact k _ _ F H (Gr.refl _ _) W (rD_bl _) p
theorem atI_rel {F : Hp} {pa : Option Addr} {l : List D} {vs : List V} {i : Int} {d : D} (r : RelL K F pa l vs) (h : Q.atI l i = some d) : ∃ v, L2.atI vs i = some v ∧ RelD K F pa d v := by
  unfold Q.atI at h
  unfold L2.atI L2.ixN
  rw [r.len]
  split at h
  · rename_i h0
    split at h
    · rename_i h1
      obtain ⟨v, q, z⟩ := r.get h
      refine ⟨v, ?_, z⟩
      rw [if_pos h0, if_pos h1]
      exact q
    · cases h
  · rename_i h0
    split at h
    · rename_i h1
      obtain ⟨v, q, z⟩ := r.get h
      refine ⟨v, ?_, z⟩
      rw [if_neg h0, if_pos h1]
      exact q
    · cases h
theorem rop_ix : ROp K (rIx K) oIx := fun B F pa t env σ H x y v u P Q W rx ry h k => by
  cases x with
  | lst l =>
    cases y with
    | int i =>
      obtain ⟨d, hd, p⟩ := h
      obtain ⟨a, vs, rfl, e1, r1⟩ := rx.lst W
      obtain ⟨w, hw, rw'⟩ := atI_rel r1 hd
      exact .inl ⟨a, vs, i, w, rfl, ry.int W, SqL.of e1, hw, k _ _ F H (Gr.refl _ _) W rw' p⟩
    | _ => exact h.elim
  | tup l =>
    cases y with
    | int i =>
      obtain ⟨d, hd, p⟩ := h
      obtain ⟨a, vs, rfl, e1, _, r1⟩ := rx.tup W
      obtain ⟨w, hw, rw'⟩ := atI_rel r1 hd
      exact .inr (.inl ⟨a, vs, i, w, rfl, ry.int W, SqT.of e1, hw, k _ _ F H (Gr.refl _ _) W rw' p⟩)
    | _ => exact h.elim
  | _ => exact h.elim
theorem q_ix (ha : QV X B a da) (hb : QV X B b db) (hs : PlainIx b) : QE X B (.Subscript a b pos) (dOp oIx da db) := PE.imp (pe_ix ix_seq ha hb hs) (ev2 rop_ix)
end
end Q
/-! QH3 -/
namespace Q
open PySem L2 PyProof.Rows
section
variable {X : Cx} {B : Bs} {K : PySem.W.Frag} {a b c e : Expr} {es : List Expr} {pos : Pos} {da db dc : DE} {as : DA}
theorem q_anil : QA X B [] dNil := PA.imp pa_nil fun σ H Q ⟨F, pa, t, env, P, C, hd, k⟩ => k [] [] F pa t H (Gr.refl _ _) C RelL.nil hd
theorem q_acons {r : DA} (ha : QE X B e da) (hr : QA X B es r) (hs : starEach (e :: es) X.env = (false, eval e X.env) :: starEach es X.env := by rfl) : QA X B (e :: es) (dCons da r) := PA.imp (pa_cons ha hr hs) fun σ H Q ⟨F, pa, t, env, P, C, hd, k⟩ =>
  ⟨F, pa, t, env, _, C, hd, fun v d F1 pa1 t1 H1 g1 C1 r1 q1 => ⟨F1, pa1, t1, env, _, C1, q1, fun vs ds F2 pa2 t2 H2 g2 C2 r2 q2 => k _ _ F2 pa2 t2 H2 (g1.trans g2) C2 (.cons (RelD.mono g2 d v r1) r2) q2⟩⟩
theorem q_xnil : QX X B [] dNil := PA.imp pa_nil fun σ H Q ⟨F, pa, t, env, P, C, hd, k⟩ => k [] [] F pa t H (Gr.refl _ _) C .nil hd
theorem q_xcons {r : DA} (ha : QV X B e da) (hr : QX X B es r) (hs : starEach (e :: es) X.env = (false, eval e X.env) :: starEach es X.env := by rfl) : QX X B (e :: es) (dCons da r) := PA.imp (pa_cons ha hr hs) fun σ H Q ⟨F, pa, t, env, P, C, hd, k⟩ =>
  ⟨F, pa, t, env, _, C, hd, fun v d F1 pa1 t1 H1 g1 C1 r1 q1 => ⟨F1, pa1, t1, env, _, C1, q1, fun vs ds F2 pa2 t2 H2 g2 C2 r2 q2 => k _ _ F2 pa2 t2 H2 (g1.trans g2) C2 (.cons (r1.mono g2) r2) q2⟩⟩
theorem q_lst (h : QA X B es as) : QN X B (.List es pos) (dLst as) := PE.imp (pe_lst h) fun σ H Q ⟨F, pa, t, env, P, C, hd, k⟩ => ⟨F, pa, t, env, _, C, hd, fun vs ds F' pa' t' H' g C' r q => by
  obtain ⟨hl, q⟩ := few_of q
  refine ⟨by rw [r.len]; exact hl, fun p hp => ?_⟩
  exact k p _ (.lst ds) F' pa' t' _ g (C'.loose _ hp) (C'.nw hp) upd_same ⟨vs, rfl, r⟩ q⟩
theorem q_tup {x1} (h : QA X B es as) : QE X B (.Tuple es x1 pos) (dTup as) := PE.imp (pe_tup h) fun σ H Q ⟨F, pa, t, env, P, C, hd, k⟩ => ⟨F, pa, t, env, _, C, hd, fun vs ds F' pa' t' H' g C' r q => by
  obtain ⟨hl, q⟩ := few_of q
  refine ⟨by rw [r.len]; exact hl, fun p hp => ?_⟩
  obtain ⟨F2, g2, C2, rd⟩ := new_tup C' hp r
  exact k _ _ F2 pa' t' _ (g.trans g2) C2 rd q⟩
def RCall (K : PySem.W.Frag) (r : List V → Hp → VK → Prop) (o : DB) : Prop := ∀ (B : Bs) F pa t env σ H xs vs P (Q : VK), Cf K B F pa t env σ H → RelXs K F pa env σ xs vs → o xs P →
  (∀ w d F' H', Gr F pa F' pa → Cf K B F' pa t env σ H' → RelD K F' pa d w → P d → Q w H') → r vs H Q
def RCallN (K : PySem.W.Frag) (r : List V → Hp → VK → Prop) (o : DB) : Prop := ∀ (B : Bs) F pa t env σ H xs vs P (Q : VK), Cf K B F pa t env σ H → RelXs K F pa env σ xs vs → o xs P →
  (∀ p h d F' H', Gr F pa F' pa → Cf K B F' pa t env σ H' → Nw B F' pa t env σ p → H' p = some h → RelO1 K F' pa d h → P d → Q (.ref p) H') → r vs H Q
theorem ev_cb {r : List V → Hp → VK → Prop} {o : DB} (hr : RCall K r o) : ∀ σ H Q, teOf K B (dCB o as) σ H Q → tCB r (txOf K B as) σ H Q := fun σ H Q ⟨F, pa, t, env, P, C, hd, k⟩ =>
  ⟨F, pa, t, env, _, C, hd, fun vs ds F1 pa1 t1 H1 g1 C1 r1 q1 => hr B F1 pa1 t1 env σ H1 ds vs _ Q C1 r1 q1 fun w d F' H' g3 C3 r3 q3 => k w d F' pa1 t1 H' (g1.trans g3) C3 r3 q3⟩
theorem ev_cbN {r : List V → Hp → VK → Prop} {o : DB} (hr : RCallN K r o) : ∀ σ H Q, tnOf K B (dCB o as) σ H Q → tCB r (txOf K B as) σ H Q := fun σ H Q ⟨F, pa, t, env, P, C, hd, k⟩ =>
  ⟨F, pa, t, env, _, C, hd, fun vs ds F1 pa1 t1 H1 g1 C1 r1 q1 => hr B F1 pa1 t1 env σ H1 ds vs _ Q C1 r1 q1 fun p h d F' H' g3 C3 n3 e3 r3 q3 => k p h d F' pa1 t1 H' (g1.trans g3) C3 n3 e3 r3 q3⟩
section
variable {x : Str} {p : Pos} {id T : String} {r : List V → Hp → VK → Prop} {o : DB}
theorem q_callB (hc : CallR X (.builtin id) r) (hr : RCall X.K r o) (hg : Gl X x) (hm : X.mg x = none) (hv : bootBuiltins x = some (.builtin id)) (ha : QX X B (e :: es) as) (hn : x ≠ "__name__" := by decide) (hdb : (x == ("__debug__" : Str)) = false := by decide)
    (he : starEach (e :: es) X.env = (false, eval e X.env) :: starEach es X.env := by rfl) (hpl : (backTo pos (starEach es X.env)).any (·.1) = false := by rfl) : QE X B (.Call (.Name x p) (e :: es) [] pos) (dCB o as) := PE.imp (pe_callB hc hg hm hv ha hn hdb he hpl) (ev_cb hr)
theorem q_callTy (hc : CallR X (.type T) r) (hr : RCall X.K r o) (hg : Gl X x) (hm : X.mg x = none) (hv : bootBuiltins x = some (.type T)) (ha : QX X B (e :: es) as) (hn : x ≠ "__name__" := by decide) (hdb : (x == ("__debug__" : Str)) = false := by decide)
    (he : starEach (e :: es) X.env = (false, eval e X.env) :: starEach es X.env := by rfl) (hpl : (backTo pos (starEach es X.env)).any (·.1) = false := by rfl) : QE X B (.Call (.Name x p) (e :: es) [] pos) (dCB o as) := PE.imp (pe_callTy hc hg hm hv ha hn hdb he hpl) (ev_cb hr)
theorem q_callTyN (hc : CallR X (.type T) r) (hr : RCallN X.K r o) (hg : Gl X x) (hm : X.mg x = none) (hv : bootBuiltins x = some (.type T)) (ha : QX X B (e :: es) as) (hn : x ≠ "__name__" := by decide) (hdb : (x == ("__debug__" : Str)) = false := by decide)
    (he : starEach (e :: es) X.env = (false, eval e X.env) :: starEach es X.env := by rfl) (hpl : (backTo pos (starEach es X.env)).any (·.1) = false := by rfl) : QN X B (.Call (.Name x p) (e :: es) [] pos) (dCB o as) := PE.imp (pe_callTy hc hg hm hv ha hn hdb he hpl) (ev_cbN hr)
end
theorem RelXs.one {F : Hp} {pa : Option Addr} {env : En} {σ : L2.St} {d : D} {vs : List V} (r : RelXs K F pa env σ [d] vs) : ∃ v, vs = [v] ∧ RelX K F pa env σ d v := by
  cases r with
  | cons h q => cases q; exact ⟨_, rfl, h⟩
theorem RelXs.two {F : Hp} {pa : Option Addr} {env : En} {σ : L2.St} {d d' : D} {vs : List V} (r : RelXs K F pa env σ [d, d'] vs) : ∃ v v', vs = [v, v'] ∧ RelX K F pa env σ d v ∧ RelX K F pa env σ d' v' := by
  cases r with
  | cons h q => cases q with
    | cons h' q => cases q; exact ⟨_, _, rfl, h, h'⟩
def rLen3 (K : PySem.W.Frag) : List V → Hp → VK → Prop := fun xs H Q => (∃ p ys, xs = [.ref p] ∧ (SqL K H p ys ∨ SqT K H p ys) ∧ Q (.int ys.length) H) ∨ ∃ z, xs = [.str z] ∧ z.length ≤ sizeLine ∧ Q (.int z.length) H
theorem call_len3 : CallR X (.builtin "len") (rLen3 X.K) := call_len_seq.or call_len_str
theorem rc_len : RCall K (rLen3 K) bLen := fun B F pa t env σ H xs vs P Q W r h k => by
  unfold bLen at h
  split at h
  · obtain ⟨v, rfl, r1⟩ := r.one
    obtain ⟨a, us, rfl, e, q⟩ := r1.lst W
    exact .inl ⟨a, us, rfl, .inl (SqL.of e), k _ _ F H (Gr.refl _ _) W (by rw [q.len]; exact rD_int _) h⟩
  · obtain ⟨v, rfl, r1⟩ := r.one
    obtain ⟨a, us, rfl, e, _, q⟩ := r1.tup W
    exact .inl ⟨a, us, rfl, .inr (SqT.of e), k _ _ F H (Gr.refl _ _) W (by rw [q.len]; exact rD_int _) h⟩
  · obtain ⟨v, rfl, r1⟩ := r.one
    obtain ⟨a, rfl, q⟩ := r1.scr W
    exact .inl ⟨a, _, rfl, .inl q, k _ _ F H (Gr.refl _ _) W (by rw [List.length_map]; exact rD_int _) h⟩
  · obtain ⟨v, rfl, r1⟩ := r.one
    exact .inr ⟨_, by rw [r1.str W], zle h.1, k _ _ F H (Gr.refl _ _) W (rD_int _) h.2⟩
  · exact h.elim
def rAbs : List V → Hp → VK → Prop := fun xs H Q => ∃ i, xs = [.int i] ∧ Q (.int (if i < 0 then -i else i)) H
theorem rc_abs : RCall K rAbs bAbs := fun B F pa t env σ H xs vs P Q W r h k => by
  unfold bAbs at h
  split at h
  · obtain ⟨v, rfl, r1⟩ := r.one
    exact ⟨_, by rw [r1.int W], k _ _ F H (Gr.refl _ _) W (rD_int _) h⟩
  · exact h.elim
def rMin2 (K : PySem.W.Frag) : List V → Hp → VK → Prop := fun xs H Q => (∃ i j, xs = [.int i, .int j] ∧ Q (.int (if j < i then j else i)) H) ∨ rMin K xs H Q
theorem call_min3 (hc : X.calm = true) : CallR X (.builtin "min") (rMin2 X.K) := (call_min2 hc).or (cr_min hc)
theorem rc_min : RCall K (rMin2 K) bMin := fun B F pa t env σ H xs vs P Q W r h k => by
  unfold bMin at h
  split at h
  · obtain ⟨v, v', rfl, r1, r2⟩ := r.two
    exact .inl ⟨_, _, by rw [r1.int W, r2.int W], k _ _ F H (Gr.refl _ _) W (rD_int _) h⟩
  · obtain ⟨v, rfl, r1⟩ := r.one
    obtain ⟨ns, hn, h0, hp⟩ := h
    obtain ⟨a, us, rfl, e, q⟩ := r1.lst W
    rw [q.intsD hn] at e
    exact .inr ⟨a, ns, rfl, SqL.of e, h0, fun m h1 h2 => k _ _ F H (Gr.refl _ _) W (rD_int _) (hp m h1 h2)⟩
  · exact h.elim
theorem rc_all : RCall K (rAll K) bAll := fun B F pa t env σ H xs vs P Q W r h k => by
  unfold bAll at h
  split at h
  · obtain ⟨v, rfl, r1⟩ := r.one
    obtain ⟨ns, hn, hp⟩ := h
    obtain ⟨a, us, rfl, e, q⟩ := r1.lst W
    rw [q.bls hn] at e
    exact ⟨a, ns, rfl, SqL.of e, k _ _ F H (Gr.refl _ _) W (rD_bl _) hp⟩
  · exact h.elim
def rListOf (K : PySem.W.Frag) : List V → Hp → VK → Prop := fun xs H Q => ∃ p ys, xs = [.ref p] ∧ (SqL K H p ys ∨ SqT K H p ys) ∧ ∀ l, H l = none → Q (.ref l) (upd H l (.lst ys))
theorem rc_list : RCallN K (rListOf K) bList := fun B F pa t env σ H xs vs P Q W r h k => by
  unfold bList at h
  split at h
  · obtain ⟨v, rfl, r1⟩ := r.one
    obtain ⟨a, us, rfl, e, q⟩ := r1.lst W
    exact ⟨a, us, rfl, .inl (SqL.of e), fun p hp => k p _ (.lst _) F _ (Gr.refl _ _) (W.loose _ hp) (W.nw hp) upd_same ⟨us, rfl, q⟩ h⟩
  · obtain ⟨v, rfl, r1⟩ := r.one
    obtain ⟨a, us, rfl, e, _, q⟩ := r1.tup W
    exact ⟨a, us, rfl, .inr (SqT.of e), fun p hp => k p _ (.lst _) F _ (Gr.refl _ _) (W.loose _ hp) (W.nw hp) upd_same ⟨us, rfl, q⟩ h⟩
  · exact h.elim
def rTupOf (K : PySem.W.Frag) : List V → Hp → VK → Prop := fun xs H Q => ∃ p ys, xs = [.ref p] ∧ ((SqL K H p ys ∧ ∀ l, H l = none → Q (.ref l) (upd H l (.tup ys))) ∨ (SqT K H p ys ∧ Q (.ref p) H))
theorem rc_tuple : RCall K (rTupOf K) bTuple := fun B F pa t env σ H xs vs P Q W r h k => by
  unfold bTuple at h
  split at h
  · obtain ⟨v, rfl, r1⟩ := r.one
    obtain ⟨a, us, rfl, e, q⟩ := r1.lst W
    refine ⟨a, us, rfl, .inl ⟨SqL.of e, fun p hp => ?_⟩⟩
    obtain ⟨F', g, C', rd⟩ := new_tup W hp q
    exact k _ _ F' _ g C' rd h
  · obtain ⟨v, rfl, r1⟩ := r.one
    obtain ⟨a, us, rfl, e, f, q⟩ := r1.tup W
    refine ⟨a, us, rfl, .inr ⟨SqT.of e, k _ (.tup _) F H (Gr.refl _ _) W ?_ h⟩⟩
    unfold RelD
    exact ⟨a, us, rfl, f, q⟩
  · exact h.elim
theorem q_onone : QO X B none dNoPart := PO.imp po_none fun σ H Q ⟨F, pa, t, env, P, C, hd, k⟩ => k none F pa t H (Gr.refl _ _) C hd
theorem q_osome (h : QV X B e da) : QO X B (some e) (dPart da) := PO.imp (po_some h) fun σ H Q ⟨F, pa, t, env, P, C, hd, k⟩ => ⟨F, pa, t, env, _, C, hd, fun v d F' pa' t' H' g C' r q => by
  cases d with
  | int i =>
    have q : P (some i) t' := q
    exact ⟨i, r.int C', k _ F' pa' t' H' g C' q⟩
  | _ => exact q.elim⟩
theorem sIx_eq (n d : Nat) : ∀ o : Option Int, HT.sIx n d o = Q.sIx n d o
  | none => rfl
  | some i => by simp only [HT.sIx, Q.sIx]; split <;> first | rfl | (congr 1; omega)
theorem cut_rel {F : Hp} {pa : Option Addr} {l : List D} {vs : List V} (r : RelL K F pa l vs) (lo hi : Option Int) : RelL K F pa (cutD l lo hi) (cutV vs lo hi) := by
  unfold cutD cutV
  rw [r.len, sIx_eq, sIx_eq]
  exact (r.drop _).take _
def rSl2 (K : PySem.W.Frag) : V → Option Int → Option Int → Hp → VK → Prop := fun x l h H Q => rSlL K x l h H Q ∨ rSlT K x l h H Q
theorem sl2 : SlR X (rSl2 X.K) := sl_list.or sl_tup
theorem q_slice {lo hi : Option Expr} {dl dh : DO} {p2 : Pos} (ha : QV X B a da) (hl : QO X B lo dl) (hh : QO X B hi dh) : QE X B (.Subscript a (.Slice lo hi none p2) pos) (dSlice da dl dh) := PE.imp (pe_slice sl2 ha hl hh) fun σ H Q ⟨F, pa, t, env, P, C, hd, k⟩ =>
  ⟨F, pa, t, env, _, C, hd, fun v x F1 pa1 t1 H1 g1 C1 r1 q1 => ⟨F1, pa1, t1, env, _, C1, q1, fun l F2 pa2 t2 H2 g2 C2 q2 => ⟨F2, pa2, t2, env, _, C2, q2, fun h F3 pa3 t3 H3 g3 C3 q3 => by
    have r3 := (r1.mono g2).mono g3
    cases x with
    | lst xs =>
      obtain ⟨a, us, rfl, e, q⟩ := r3.lst C3
      refine .inl ⟨a, us, rfl, SqL.of e, fun p hp => ?_⟩
      obtain ⟨F', g, C', rd⟩ := new_lst C3 hp (cut_rel q l h)
      exact k _ _ F' _ _ _ (((g1.trans g2).trans g3).trans g) C' rd q3
    | tup xs =>
      obtain ⟨a, us, rfl, e, f, q⟩ := r3.tup C3
      obtain ⟨hz, q3⟩ := q3
      have rr := cut_rel q l h
      refine .inr ⟨a, us, rfl, SqT.of e, ?_, fun p hp => ?_⟩
      · rw [q.len, sIx_eq, sIx_eq]
        rintro ⟨z1, z2⟩
        unfold cutD at hz
        rw [z1, z2] at hz
        simp at hz
      · obtain ⟨F', g, C', rd⟩ := new_tup C3 hp rr
        exact k _ _ F' _ _ _ (((g1.trans g2).trans g3).trans g) C' rd q3
    | scr ns =>
      obtain ⟨a, rfl, q⟩ := r3.scr C3
      refine .inl ⟨a, _, rfl, q, fun p hp => ?_⟩
      obtain ⟨F', g, C', rd⟩ := new_lst C3 hp (cut_rel (RelL.of_ints ns) l h)
      exact k _ _ F' _ _ _ (((g1.trans g2).trans g3).trans g) C' rd q3
    | _ => exact q3.elim⟩⟩⟩
theorem q_tval (h : QE X B e da) (he : ∀ whole, isTrue e X.env whole = (do let v ← whole; standAt e.pos; holding [v] (truthy v)) := by intro _; rfl) : QT X B e (dB da) := PT.imp (pt_val h he) fun σ H Q ⟨F, pa, t, env, P, C, hd, k⟩ => ⟨F, pa, t, env, _, C, hd, fun v d F' pa' t' H' g C' r q => by
  cases d with
  | bl b => unfold RelD at r; exact ⟨b, r, k b F' pa' t' H' g C' q⟩
  | _ => exact q.elim⟩
variable {ta tb : DT} {rest : List Expr}
theorem q_and1 (ha : QT X B a ta) : QW X B (.BoolOp .And [a] pos) ta := pw_and1 ha
theorem q_or1 (ha : QT X B a ta) : QW X B (.BoolOp .Or [a] pos) ta := pw_or1 ha
theorem q_and (ha : QT X B a ta) (hb : QW X B (.BoolOp .And (b :: rest) pos) tb) : QW X B (.BoolOp .And (a :: b :: rest) pos) (dAnd ta tb) := PW.imp (pw_and ha hb) fun σ H Q ⟨F, pa, t, env, P, C, hd, k⟩ =>
  ⟨F, pa, t, env, _, C, hd, fun b F' pa' t' H' g C' q => by
    cases b with
    | true => rw [if_pos rfl]; exact ⟨F', pa', t', env, _, C', q, fun c F2 pa2 t2 H2 g2 C2 q2 => k c F2 pa2 t2 H2 (g.trans g2) C2 q2⟩
    | false => rw [if_neg Bool.false_ne_true]; exact k false F' pa' t' H' g C' q⟩
theorem q_or (ha : QT X B a ta) (hb : QW X B (.BoolOp .Or (b :: rest) pos) tb) : QW X B (.BoolOp .Or (a :: b :: rest) pos) (dOr ta tb) := PW.imp (pw_or ha hb) fun σ H Q ⟨F, pa, t, env, P, C, hd, k⟩ =>
  ⟨F, pa, t, env, _, C, hd, fun b F' pa' t' H' g C' q => by
    cases b with
    | false => rw [if_neg Bool.false_ne_true]; exact ⟨F', pa', t', env, _, C', q, fun c F2 pa2 t2 H2 g2 C2 q2 => k c F2 pa2 t2 H2 (g.trans g2) C2 q2⟩
    | true => rw [if_pos rfl]; exact k true F' pa' t' H' g C' q⟩
theorem q_not (ha : QT X B a ta) : QT X B (.UnaryOp .Not a pos) (dNot ta) := PT.imp (pt_not ha) fun σ H Q ⟨F, pa, t, env, P, C, hd, k⟩ =>
  ⟨F, pa, t, env, _, C, hd, fun b F' pa' t' H' g C' q => k (!b) F' pa' t' H' g C' q⟩
theorem q_ifE (hc : QT X B c ta) (ha : QE X B a da) (hb : QE X B b db) : QE X B (.IfExp c a b pos) (dIfE ta da db) := PE.imp (pe_ifExp hc ha hb) fun σ H Q ⟨F, pa, t, env, P, C, hd, k⟩ =>
  ⟨F, pa, t, env, _, C, hd, fun b F' pa' t' H' g C' q => by
    cases b with
    | true => rw [if_pos rfl]; exact ⟨F', pa', t', env, P, C', q, fun w d F2 pa2 t2 H2 g2 C2 r2 q2 => k w d F2 pa2 t2 H2 (g.trans g2) C2 r2 q2⟩
    | false => rw [if_neg Bool.false_ne_true]; exact ⟨F', pa', t', env, P, C', q, fun w d F2 pa2 t2 H2 g2 C2 r2 q2 => k w d F2 pa2 t2 H2 (g.trans g2) C2 r2 q2⟩⟩
theorem q_one {op} (h : QE X B a da) : QE X B (.BoolOp op [a] pos) da := pe_one h
theorem q_andV (ha : QE X B a da) (hb : QE X B (.BoolOp .And (b :: rest) pos) db) : QE X B (.BoolOp .And (a :: b :: rest) pos) (dAndV da db) := PE.imp (pe_and ha hb) fun σ H Q ⟨F, pa, t, env, P, C, hd, k⟩ =>
  ⟨F, pa, t, env, _, C, hd, fun v d F' pa' t' H' g C' r q => by
    cases d with
    | bl b =>
      unfold RelD at r
      refine ⟨b, r, ?_⟩
      cases b with
      | true => rw [if_pos rfl]; exact ⟨F', pa', t', env, P, C', q, fun w d F2 pa2 t2 H2 g2 C2 r2 q2 => k w d F2 pa2 t2 H2 (g.trans g2) C2 r2 q2⟩
      | false => rw [if_neg Bool.false_ne_true]; exact k _ _ F' pa' t' H' g C' (rD_bl _) q
    | _ => exact q.elim⟩
theorem q_notV (ha : QE X B a da) : QE X B (.UnaryOp .Not a pos) (dNotV da) := PE.imp (pe_not ha) fun σ H Q ⟨F, pa, t, env, P, C, hd, k⟩ =>
  ⟨F, pa, t, env, _, C, hd, fun v d F' pa' t' H' g C' r q => by
    cases d with
    | bl b =>
      unfold RelD at r
      exact ⟨b, r, k _ _ F' pa' t' H' g C' (rD_bl _) q⟩
    | _ => exact q.elim⟩
end
end Q
/-! QH4 -/
namespace Q
open PySem L2 PyProof.Rows
section
variable {X : Cx} {B : Bs} {K : PySem.W.Frag} {a b c e : Expr} {es : List Expr} {pos : Pos} {da db dc : DE} {as : DA}
theorem ev_chain {r r' : R2} {o o' : DOp} (hr : ROp K r o) (hr' : ROp K r' o') : ∀ σ H Q, teOf K B (dChain o o' da db dc) σ H Q → tChain r r' (tvOf K B da) (tvOf K B db) (tvOf K B dc) σ H Q := fun σ H Q ⟨F, pa, t, env, P, C, hd, k⟩ =>
  ⟨F, pa, t, env, _, C, hd, fun v x F1 pa1 t1 H1 g1 C1 r1 q1 => ⟨F1, pa1, t1, env, _, C1, q1, fun u y F2 pa2 t2 H2 g2 C2 r2 q2 =>
    hr B F2 pa2 t2 env σ H2 x y v u _ _ C2 (r1.mono g2) r2 q2 fun z d F3 H3 g3 C3 r3 q3 => by
      cases d with
      | bl k' =>
        unfold RelD at r3
        refine ⟨k', r3, ?_⟩
        cases k' with
        | true =>
          rw [if_pos rfl]
          exact ⟨F3, pa2, t2, env, _, C3, q3, fun w dw F4 pa4 t4 H4 g4 C4 r4 q4 => hr' B F4 pa4 t4 env σ H4 y dw u w _ Q C4 ((r2.mono g3).mono g4) r4 q4 fun w d F' H' g5 C5 r5 q5 =>
            k w d F' pa4 t4 H' ((((g1.trans g2).trans g3).trans g4).trans g5) C5 r5 q5⟩
        | false =>
          rw [if_neg Bool.false_ne_true]
          exact k _ _ F3 pa2 t2 H3 ((g1.trans g2).trans g3) C3 (rD_bl _) q3
      | _ => exact q3.elim⟩⟩
theorem q_chain {op op' : CmpOp} {r r' : R2} {o o' : DOp} (ho : OpR X (compareOp op) r) (hr : ROp X.K r o) (ho' : OpR X (compareOp op') r') (hr' : ROp X.K r' o') (ha : QV X B a da) (hb : QV X B b db) (hc : QV X B c dc)
    (hm : lastMarks [op, op'] [b, c] = false := by with_unfolding_all rfl) : QE X B (.Compare a [op, op'] [b, c] pos) (dChain o o' da db dc) := PE.imp (pe_chain ho ho' ha hb hc hm) (ev_chain hr hr')
theorem zip_lookup {F : Hp} {pa : Option Addr} {f : Str} : ∀ {ns : List Str} {l : List D} {vs : List V} {d : D}, RelL K F pa l vs → (ns.zip l).lookup f = some d → ∃ v, (ns.zip vs).lookup f = some v ∧ RelD K F pa d v
  | [], _, _, _, _, h => by simp at h
  | _ :: _, [], _, _, _, h => by simp at h
  | n :: ns, x :: l, vs, d, r, h => by
    obtain ⟨v, vr, rfl, r1, r2⟩ := r.inv
    simp only [List.zip_cons_cons, List.lookup_cons] at h ⊢
    cases q : f == n with
    | true =>
      rw [q] at h; cases h
      exact ⟨v, rfl, r1⟩
    | false =>
      rw [q] at h
      exact zip_lookup r2 h
theorem zip_none {f : Str} : ∀ {ns : List Str} {vs : List V}, ns.contains f = false → (ns.zip vs).lookup f = none
  | [], _, _ => by simp
  | _ :: _, [], _ => by simp
  | n :: ns, v :: vs, h => by
    simp only [List.contains_cons, Bool.or_eq_false_iff] at h
    simp only [List.zip_cons_cons, List.lookup_cons, h.1]
    exact zip_none h.2
theorem q_fld {f : Str} {Cl : Addr} (ha : QV X B e da) (cl : Cls X.K Cl) (na : NoAttr X.K Cl f) (hb : attributeBase e f X.env (eval e X.env) = eval e X.env := by rfl) : QE X B (.Attribute e f pos) (dFld Cl f da) := PE.imp (pe_fld ha hb) fun σ H Q ⟨F, pa, t, env, P, C, hd, k⟩ =>
  ⟨F, pa, t, env, _, C, hd, fun v x F1 pa1 t1 H1 g1 C1 r1 q1 => by
    cases x with
    | ins C' ns l =>
      obtain ⟨rfl, q1⟩ := q1
      obtain ⟨a, dx, us, rfl, e1, _, r⟩ := r1.ins C1
      cases z : (ns.zip l).lookup f with
      | none => rw [z] at q1; exact q1.elim
      | some d =>
        rw [z] at q1
        obtain ⟨w, h1, h2⟩ := zip_lookup r z
        exact ⟨a, C', dx, _, w, rfl, e1, cl, na, h1, k w d F1 pa1 t1 H1 g1 C1 h2 q1⟩
    | _ => exact q1.elim⟩
end
def lift (K : PySem.W.Frag) (sp : PSp) : Sp := fun vs H Q E => ∃ F pa t ds P, Cf K (B0 F pa t H) F pa t [] [] H ∧ RelL K F pa ds vs ∧ sp ds t P ∧
  ∀ v d F' pa' t' H', Cf K (B0 F pa t H) F' pa' t' [] [] H' → RelD K F' pa' d v → P d t' → Q v H'
def liftN (K : PySem.W.Frag) (sp : PSp) : Sp := fun vs H Q E => ∃ F pa t ds P, Cf K (B0 F pa t H) F pa t [] [] H ∧ RelL K F pa ds vs ∧ sp ds t P ∧
  ∀ p h d F' pa' t' H', Cf K (B0 F pa t H) F' pa' t' [] [] H' → F' p = none → H p = none → pa' ≠ some p → t'.obs p = none → H' p = some h → RelO1 K F' pa' d h → P d t' → Q (.ref p) H'
section
variable {X : Cx} {B : Bs} {K : PySem.W.Frag} {a b c e o : Expr} {es : List Expr} {pos : Pos} {da db dc : DE} {as : DA} {CX : CXT} {k : Nat} {f C : Addr} {fd : FuncData} {ps : List Str} {sp : PSp} {dvs : List V} {dds : List D} {ds : List Value} {E : XK} {x m : Str} {p apos : Pos}
theorem ev_call (hd : ∀ F pa, RelL K F pa dds dvs) : ∀ σ H Q, teOf K B (dCall sp dds as) σ H Q → tCall (lift K sp) dvs E (taOf K B as) σ H Q := fun σ H Q ⟨F, pa, t, env, P, W, h, k⟩ =>
  ⟨F, pa, t, env, _, W, h, fun vs xs F1 pa1 t1 H1 g1 W1 r1 q1 => ⟨F1, pa1, t1, xs ++ dds, P, W1.call, r1.append (hd _ _), q1, fun v d F' pa' t' H' W' r' q' => by
    obtain ⟨g, W2⟩ := W1.after W'
    exact k v d F' pa' t' H' (g1.trans g) W2 r' q'⟩⟩
theorem ev_callN (hd : ∀ F pa, RelL K F pa dds dvs) : ∀ σ H Q, tnOf K B (dCall sp dds as) σ H Q → tCall (liftN K sp) dvs E (taOf K B as) σ H Q := fun σ H Q ⟨F, pa, t, env, P, W, h, k⟩ =>
  ⟨F, pa, t, env, _, W, h, fun vs xs F1 pa1 t1 H1 g1 W1 r1 q1 => ⟨F1, pa1, t1, xs ++ dds, P, W1.call, r1.append (hd _ _), q1, fun p hh d F' pa' t' H' W' n1 n2 n3 n4 e' r' q' => by
    obtain ⟨g, W2⟩ := W1.after W'
    refine k p hh d F' pa' t' H' (g1.trans g) W2 ⟨n1, (W1.fresh n2).2.1, n3, fun j d' ej sj => ?_, n4⟩ e' r' q'
    obtain ⟨a, u, s1, e1, _⟩ := W1.own j d' ej
    rw [sj] at s1
    cases s1
    rw [n2] at e1; cases e1⟩⟩
theorem q_call (F : FnOk X.prog X.w X.K X.mg X.base CX k f fd ps (lift X.K sp)) (hr : Room k X.A) (hg : Gl X x) (hm : X.mg x = some (.ref f)) (hk : PySem.W.keepIn X.K (.ref f) = true) (hb : Binds X.K fd ps ds) (hd : Vals dvs ds) (hD : ∀ F pa, RelL X.K F pa dds dvs) (hx : Passes CX X E)
    (ha : QA X B (e :: es) as) (hdb : (x == ("__debug__" : Str)) = false := by decide) (he : starEach (e :: es) X.env = (false, eval e X.env) :: starEach es X.env := by rfl) (hpl : (backTo pos (starEach es X.env)).any (·.1) = false := by rfl) :
    QE X B (.Call (.Name x p) (e :: es) [] pos) (dCall sp dds as) := PE.imp (pe_call F hr hg hm hk hb hd hx ha hdb he hpl) (ev_call hD)
theorem q_callN (F : FnOk X.prog X.w X.K X.mg X.base CX k f fd ps (liftN X.K sp)) (hr : Room k X.A) (hg : Gl X x) (hm : X.mg x = some (.ref f)) (hk : PySem.W.keepIn X.K (.ref f) = true) (hb : Binds X.K fd ps ds) (hd : Vals dvs ds) (hD : ∀ F pa, RelL X.K F pa dds dvs) (hx : Passes CX X E)
    (ha : QA X B (e :: es) as) (hdb : (x == ("__debug__" : Str)) = false := by decide) (he : starEach (e :: es) X.env = (false, eval e X.env) :: starEach es X.env := by rfl) (hpl : (backTo pos (starEach es X.env)).any (·.1) = false := by rfl) :
    QN X B (.Call (.Name x p) (e :: es) [] pos) (dCall sp dds as) := PE.imp (pe_call F hr hg hm hk hb hd hx ha hdb he hpl) (ev_callN hD)
end
end Q
/-! QH5 -/
namespace Q
open PySem L2 PyProof.Rows
section
variable {X : Cx} {B : Bs} {K : PySem.W.Frag} {a b c e : Expr} {es : List Expr} {pos : Pos} {da db dc : DE} {as : DA} {g : DG} {gs : DGs} {st : Stmt} {rest sts sts2 : List Stmt} {s1 s2 : DS} {dt : DT}
variable {vs : List Nat}
theorem wipe_set {σ : L2.St} {i : Nat} {x : Option V} : ∀ {vs : List Nat}, i ∈ vs → wipe (σ.set i x) vs = wipe σ vs
  | [], h => by simp at h
  | j :: r, h => by
    show (wipe (σ.set i x) r).set j none = (wipe σ r).set j none
    by_cases hr : i ∈ r
    · rw [wipe_set hr]
    · have hj : i = j := by
        rcases List.mem_cons.mp h with z | z
        · exact z
        · exact absurd z hr
      subst hj
      apply List.ext_getElem?
      intro k
      by_cases hk : i = k
      · subst hk
        rw [List.getElem?_set_self', List.getElem?_set_self', wipe_out hr, wipe_out hr, List.getElem?_set_self']
        cases σ[i]? <;> rfl
      · rw [List.getElem?_set_ne hk, List.getElem?_set_ne hk]
        exact wipe_setk hk
  where
  wipe_setk {σ : L2.St} {i k : Nat} {x : Option V} (hk : i ≠ k) : ∀ {vs : List Nat}, (wipe (σ.set i x) vs)[k]? = (wipe σ vs)[k]?
    | [] => by show (σ.set i x)[k]? = σ[k]?; rw [List.getElem?_set_ne hk]
    | j :: r => by
      show ((wipe (σ.set i x) r).set j none)[k]? = ((wipe σ r).set j none)[k]?
      by_cases hj : j = k
      · subst hj
        rw [List.getElem?_set_self', List.getElem?_set_self', wipe_setk hk]
      · rw [List.getElem?_set_ne hj, List.getElem?_set_ne hj]
        exact wipe_setk hk
theorem q_gname {i : Nat} {x : Str} {pos : Pos} (h : PG X (.Name x pos) (L2.gName i)) (hi : i ∈ vs) : QG X B vs (.Name x pos) (Q.gName i) := PG.imp h fun v σ H Q ⟨F, pa, t, env, d, P, C, r, hd, k⟩ =>
  k F pa t _ _ H (Gr.refl _ _) (C.setV i r) (wipe_set hi) hd
theorem q_gnil : QGs X B vs [] gNil := PGs.imp pgs_nil fun v σ H Q ⟨F, pa, t, env, ds, P, C, r, hd, k⟩ => by
  cases ds with
  | nil => exact ⟨r.inv0, k F pa t env σ H (Gr.refl _ _) C rfl hd⟩
  | cons => exact hd.elim
theorem q_gcons (h1 : QG X B vs e g) (h2 : QGs X B vs es gs) (hs : (assignEach (e :: es) X.env).map (·.2) = assign e X.env :: (assignEach es X.env).map (·.2) := by rfl) : QGs X B vs (e :: es) (gCons g gs) := PGs.imp (pgs_cons h1 h2 hs) fun v σ H Q ⟨F, pa, t, env, ds, P, C, r, hd, k⟩ => by
  cases ds with
  | nil => exact hd.elim
  | cons d ds =>
    obtain ⟨v, vr, rfl, r1, r2⟩ := r.inv
    exact ⟨v, vr, rfl, F, pa, t, env, d, _, C, r1, hd, fun F' pa' t' env' σ' H' g' C' w1 q => ⟨F', pa', t', env', ds, P, C', RelL.mono g' ds vr r2, q, fun F2 pa2 t2 env2 σ2 H2 g2 C2 w2 q2 => k F2 pa2 t2 env2 σ2 H2 (g'.trans g2) C2 (w2.trans w1) q2⟩⟩
theorem q_gtup {k : Nat} {n : Nat} (hc : X.calm = true) (h : QGs X B vs es gs) (hn : (assignEach es X.env).length = n := by rfl) (hst : (assignEach es X.env).findIdx? (·.1) = none := by rfl) : QG X B vs (.Tuple es k pos) (Q.gTup n gs) := PG.imp (pg_tup hc h hn hst) fun v σ H Q ⟨F, pa, t, env, d, P, C, r, hd, k⟩ => by
  cases d with
  | tup l =>
    obtain ⟨hl, hd⟩ := hd
    have r' := r
    unfold RelD at r'
    obtain ⟨a, us, rfl, e, q⟩ := r'
    exact ⟨a, us, rfl, SqT.of (C.sub _ _ e), by rw [q.len]; exact hl, F, pa, t, env, l, P, C, q, hd, k⟩
  | _ => exact hd.elim
theorem q_nil : QSs X B [] dNext := PSs.imp pss_nil fun D σ H ⟨F, pa, t, env, DD, C, h, R⟩ => R.nx F pa t env σ H (Gr.refl _ _) C h
theorem q_cons (h1 : QS X B st s1) (h2 : QSs X B rest s2) : QSs X B (st :: rest) (dSeq s1 s2) := PSs.imp (pss_cons h1 h2) fun D σ H ⟨F, pa, t, env, DD, C, h, R⟩ =>
  ⟨F, pa, t, env, _, C, h, ⟨fun F pa t env σ H g C q => ⟨F, pa, t, env, DD, C, q, R.mono g⟩, R.rt, R.bk, R.ct⟩⟩
theorem q_frz {i : Nat} (hB : B.Top) (h2 : QSs X B rest s2) : QSs X B rest (dSeq (dFrz i) s2) := PSs.imp h2 fun D σ H ⟨F, pa, t, env, DD, C, h, R⟩ => by
  have h : (match env[i]? with | some (.own d) => s2 DD (env.set i (.val d)) t | _ => s2 DD env t) := h
  cases q : env[i]? with
  | none => rw [q] at h; exact ⟨F, pa, t, env, DD, C, h, R⟩
  | some z =>
    rw [q] at h
    cases z with
    | own d =>
      obtain ⟨F', g, C'⟩ := C.frzO hB q
      exact ⟨F', pa, t, _, DD, C', h, R.mono g⟩
    | val d => exact ⟨F, pa, t, env, DD, C, h, R⟩
    | no => exact ⟨F, pa, t, env, DD, C, h, R⟩
theorem q_never : QS X B st dNever := PS.imp ps_never fun D σ H ⟨F, pa, t, env, DD, C, h, R⟩ => h.elim
theorem ret0 {F : Hp} {pa : Option Addr} {t : Ts} {H : Hp} {d : D} {v : V} (hm : B.m = false) (r : RelD K F pa d v) : RetRel K B F pa t H d v := by
  unfold RetRel; rw [hm]; exact r
theorem q_ret (hm : B.m = false) (h : QE X B e da) : QS X B (.Return (some e) pos) (dRet da) := PS.imp (ps_ret h) fun D σ H ⟨F, pa, t, env, DD, C, h, R⟩ =>
  ⟨F, pa, t, env, _, C, h, fun v d F' pa' t' H' g C' r q => R.rt v d F' pa' t' env σ H' g C' (ret0 hm r) q⟩
theorem q_retNew (hm : B.m = true) (h : QN X B e da) : QS X B (.Return (some e) pos) (dRet da) := PS.imp (ps_ret h) fun D σ H ⟨F, pa, t, env, DD, C, h, R⟩ =>
  ⟨F, pa, t, env, _, C, h, fun p hh d F' pa' t' H' g C' n e r q => R.rt _ d F' pa' t' env σ H' g C' (by unfold RetRel; rw [hm]; exact .inr ⟨p, hh, rfl, n.f, n.b, n.a, n.o, e, r⟩) q⟩
theorem q_drop (he : QE X B e da) (hs : swapsWith e none pos.line X.env = pure false := by rfl) : QS X B (.Expr e pos) (dDrop da) := PS.imp (ps_expr he hs) fun D σ H ⟨F, pa, t, env, DD, C, h, R⟩ =>
  ⟨F, pa, t, env, _, C, h, fun v d F' pa' t' H' g C' r q => R.nx F' pa' t' env σ H' g C' q⟩
theorem ev_asg {D : Ends} {σ : L2.St} {H : Hp} (h : tsOf K B (dAsg da g) D σ H) : tAsg (teOf K B da) (tgOf K B vs g) D σ H := by
  obtain ⟨F, pa, t, env, DD, C, h, R⟩ := h
  exact ⟨F, pa, t, env, _, C, h, fun v d F' pa' t' H' g' C' r q => ⟨F', pa', t', env, d, _, C', r, q, fun F2 pa2 t2 env2 σ2 H2 g2 C2 _ q2 => R.nx F2 pa2 t2 env2 σ2 H2 (g'.trans g2) C2 q2⟩⟩
theorem q_asg {tg : Expr} (he : QE X B e da) (hg : QG X B vs tg g) (hs : swapsWithSole [tg] e pos.line X.env = pure false := by rfl) (hw : swappedStores [tg] e X.env = pure none := by rfl)
    (h1 : (assignEach [tg] X.env).map (·.2) = [assign tg X.env] := by rfl) : QS X B (.Assign [tg] e pos) (dAsg da g) := PS.imp (ps_asg he hg hs hw h1) fun D σ H h => ev_asg h
theorem q_set {i : Nat} {x : Str} {pos' : Pos} (hN : X.N.Nodup) (hi : X.N[i]? = some x) (hx : Loc X.env.scope x) (he : QE X B e da) (hs : swapsWith e (some (.Name x pos')) pos.line X.env = pure false := by rfl) (hf : X.fn x = true ∨ X.env.scope.names.lookup x = some .local := by first | exact .inl rfl | exact .inr rfl | assumption) :
    QS X B (.Assign [.Name x pos'] e pos) (dAsg da (Q.gName i)) := PS.imp (ps_set hN hi hx he hs hf) fun D σ H ⟨F, pa, t, env, DD, C, h, R⟩ =>
  ⟨F, pa, t, env, _, C, h, fun v d F' pa' t' H' g' C' r q => R.nx F' pa' t' _ _ H' g' (C'.setV i r) q⟩
theorem q_par {i j : Nat} {x y : Str} {px py pt : Pos} {kt k2 pt2} (hc : X.calm = true) (hN : X.N.Nodup) (hi : X.N[i]? = some x) (hj : X.N[j]? = some y) (hij : i ≠ j)
    (hx : X.env.scope.names.lookup x = some .local) (hy : X.env.scope.names.lookup y = some .local) (ha : QA X B [a, b] as)
    (hw : swappedStores [.Tuple [.Name x px, .Name y py] kt pt] (.Tuple [a, b] k2 pt2) X.env = pure (some [x, y]))
    (hs : swapsWithSole [.Tuple [.Name x px, .Name y py] kt pt] (.Tuple [a, b] k2 pt2) pos.line X.env = pure false := by rfl) :
    QS X B (.Assign [.Tuple [.Name x px, .Name y py] kt pt] (.Tuple [a, b] k2 pt2) pos) (dPar i j as) := PS.imp (ps_par hc hN hi hj hij hx hy ha hw hs) fun D σ H ⟨F, pa, t, env, DD, C, h, R⟩ =>
  ⟨F, pa, t, env, _, C, h, fun vs ds F' pa' t' H' g' C' r q => by
    match ds, q with
    | [d, e], q =>
      obtain ⟨v, vr, rfl, r1, r2⟩ := r.inv
      obtain ⟨w, wr, rfl, r3, r4⟩ := r2.inv
      obtain rfl := r4.inv0
      exact ⟨v, w, rfl, R.nx F' pa' t' _ _ H' g' ((C'.setV i r1).setV j r3) q⟩⟩
theorem q_if {l r : List Stmt} (hc : QT X B c dt) (ha : QSs X B l s1) (hb : QSs X B r s2) : QS X B (.If c l r pos) (dIf dt s1 s2) := PS.imp (ps_if hc ha hb) fun D σ H ⟨F, pa, t, env, DD, C, h, R⟩ =>
  ⟨F, pa, t, env, _, C, h, fun k F' pa' t' H' g C' q => by
    cases k with
    | true => rw [if_pos rfl]; exact ⟨F', pa', t', env, DD, C', q, R.mono g⟩
    | false => rw [if_neg Bool.false_ne_true]; exact ⟨F', pa', t', env, DD, C', q, R.mono g⟩⟩
theorem own_lst {F : Hp} {pa : Option Addr} {t : Ts} {env : En} {σ : L2.St} {H : Hp} {i : Nat} {l : List D} (C : Cf K B F pa t env σ H) (h : env[i]? = some (Sl.own (.lst l))) : ∃ a vs, σ[i]? = some (some (V.ref a)) ∧ H a = some (.lst vs) ∧ RelL K F pa l vs := by
  obtain ⟨a, u, h1, h2, h3, _⟩ := C.own i _ h
  obtain ⟨vs, rfl, q⟩ := h3
  exact ⟨a, vs, h1, h2, q⟩
theorem get_own {env : En} {i : Nat} {p : List D → Prop} (h : match env[i]? with | some (.own (.lst l)) => p l | _ => False) : ∃ l, env[i]? = some (Sl.own (.lst l)) ∧ p l := by
  split at h
  · rename_i l e; exact ⟨l, e, h⟩
  · exact h.elim
theorem q_app {i : Nat} (hp : PE X e (tBM X.K "list" rAppend (tVar i) (tCons (teOf X.K B da) tNil))) (hs : swapsWith e none pos.line X.env = pure false := by rfl) : QS X B (.Expr e pos) (dApp i da) :=
  PS.imp (ps_expr hp hs) fun De σ H ⟨F, pa, t, env, DD, C, h, R⟩ => by
    obtain ⟨l, hi, h⟩ := get_own h
    obtain ⟨a, vs, s1, e1, r1⟩ := own_lst C hi
    refine ⟨.ref a, s1, Or.inl ⟨rfl, vs, SqL.of e1⟩, F, pa, t, env, _, C, h, fun w y F' pa' t' H' g' C' r2 q2 => ?_⟩
    obtain ⟨hl, q2⟩ := q2
    obtain ⟨a', us, s2, e2, r3⟩ := own_lst C' hi
    rw [s1] at s2; cases s2
    refine ⟨a, us, w, rfl, rfl, e2, by rw [r3.len]; exact zlt hl, ?_⟩
    exact R.nx F' pa' t' _ σ _ g' (C'.wrO (d' := .lst (l ++ [y])) hi s1 ⟨_, rfl, r3.append (.cons r2 .nil)⟩) q2
def ItOk (K : PySem.W.Frag) (J : It) (items : List D) (F0 : Hp) (pa0 : Option Addr) : Prop := ∀ (B : Bs) F pa t env σ H (i : Nat), Gr F0 pa0 F pa → Cf K B F pa t env σ H →
  (items.length = i → J.stop i H) ∧ ∀ d, items[i]? = some d → J.go i H ∧ ∀ x H', J.yld i H x H' → Gf H H' ∧ ∃ F', (∀ a o, F' a = some o → (∃ o', F a = some o') ∨ H a = none) ∧ Gr F pa F' pa ∧ Cf K B F' pa t env σ H' ∧ RelD K F' pa d x
theorem ItOk.mono {J : It} {items : List D} {F0 F1 : Hp} {p0 p1 : Option Addr} (h : ItOk K J items F0 p0) (g : Gr F0 p0 F1 p1) : ItOk K J items F1 p1 := fun B F pa t env σ H i g' C => h B F pa t env σ H i (g.trans g') C
def tiOf (K : PySem.W.Frag) (B : Bs) (di : DI) : TI := fun σ H R => ∃ F pa t env P, Cf K B F pa t env σ H ∧ di env t P ∧
  ∀ J items F' pa' t' H', Gr F pa F' pa' → Cf K B F' pa' t' env σ H' → ItOk K J items F' pa' → P items t' → R J H'
abbrev QI (X : Cx) (B : Bs) (tg e : Expr) (di : DI) : Prop := PI X tg e (tiOf X.K B di)
theorem PI.imp {tg e : Expr} {w w' : TI} (h : PI X tg e w) (i : ∀ σ H R, w' σ H R → w σ H R) : PI X tg e w' := ⟨fun pins s σ H R I q => h.run pins s σ H R I (i σ H R q)⟩
theorem it_list {F0 : Hp} {pa0 : Option Addr} {a : Addr} {l : List D} {vs : List V} (e : SqL K F0 a vs) (r : RelL K F0 pa0 l vs) : ItOk K (Itl K a) l F0 pa0 := fun B F pa t env σ H i g C => by
  have eH : SqL K H a vs := sq_mono C.sub (sq_mono g.f e)
  refine ⟨fun hi => ⟨vs, eH, by rw [r.len]; exact Nat.le_of_eq hi⟩, fun d hd => ?_⟩
  obtain ⟨v, hv, rv⟩ := r.get hd
  refine ⟨⟨vs, v, eH, hv⟩, fun x H' y => ?_⟩
  obtain ⟨rfl, y⟩ := y
  have y := y vs eH
  rw [hv] at y; cases y
  exact ⟨fun _ _ z => z, F, fun a o e => .inl ⟨o, e⟩, Gr.refl _ _, C, RelD.mono g d v rv⟩
theorem it_tup {F0 : Hp} {pa0 : Option Addr} {a : Addr} {l : List D} {vs : List V} (e : F0 a = some (.tup vs)) (r : RelL K F0 pa0 l vs) : ItOk K (Itt K a) l F0 pa0 := fun B F pa t env σ H i g C => by
  have eH : SqT K H a vs := SqT.of (C.sub _ _ (g.f _ _ e))
  refine ⟨fun hi => ⟨vs, eH, by rw [r.len]; exact Nat.le_of_eq hi⟩, fun d hd => ?_⟩
  obtain ⟨v, hv, rv⟩ := r.get hd
  refine ⟨⟨vs, v, eH, hv⟩, fun x H' y => ?_⟩
  obtain ⟨rfl, y⟩ := y
  have y := y vs eH
  rw [hv] at y; cases y
  exact ⟨fun _ _ z => z, F, fun a o e => .inl ⟨o, e⟩, Gr.refl _ _, C, RelD.mono g d v rv⟩
theorem it_rng {F0 : Hp} {pa0 : Option Addr} (lo : Int) (n : Nat) : ItOk K (Itr lo n) (rng lo n) F0 pa0 := fun B F pa t env σ H i g C => by
  refine ⟨fun hi => by rw [rng_len] at hi; exact Nat.le_of_eq hi, fun d hd => ?_⟩
  obtain ⟨h1, rfl⟩ := rng_get hd
  refine ⟨h1, fun x H' y => ?_⟩
  obtain ⟨rfl, rfl⟩ := y
  exact ⟨fun _ _ z => z, F, fun a o e => .inl ⟨o, e⟩, Gr.refl _ _, C, rD_int _⟩
theorem q_irng1 {tg : Expr} {p pos : Pos} (hg : Gl X "range") (hm : X.mg "range" = none) (ha : QV X B a da) (hs : starEach [a] X.env = [(false, eval a X.env)] := by rfl) (hs' : starEach (a :: []) X.env = (false, eval a X.env) :: starEach [] X.env := by rfl) : QI X B tg (.Call (.Name "range" p) [a] [] pos) (iRng1 da) := PI.imp (pi_range1 hg hm (pa_cons ha pa_nil hs') hs) fun σ H R ⟨F, pa, t, env, P, C, h, k⟩ =>
  ⟨F, pa, t, env, _, C, h, fun v d F' pa' t' H' g C' r q => by
    cases d with
    | int n =>
      obtain ⟨⟨h1, h2⟩, q⟩ := q
      exact ⟨n, by rw [r.int C'], by omega, by omega, k _ _ F' pa' t' H' g C' (it_rng 0 n.toNat) q⟩
    | _ => exact q.elim⟩
theorem q_for {tg iter : Expr} {body : List Stmt} {di : DI} (hp : PassesOwn (model X.prog X.w) X.A X.env X.xe) (hc : X.calm = true) (hi : QI X B tg iter di) (hg : QG X B vs tg g) (hb : QSs X B body s1) (hs : ∀ x, foldedSetIterable iter X.env x = pure x := by intro _; rfl) : QS X B (.For tg iter body [] pos) (dFor di g s1) :=
  PS.imp (ps_for hp hc hi hg hb hs) fun De σ H ⟨F, pa, t, env, DD, C, h, R⟩ => ⟨F, pa, t, env, _, C, h, fun J items F1 pa1 t1 H1 g1 C1 iok q => by
    obtain ⟨Inv, h0, hstep, hd⟩ := q
    refine ⟨fun i m σ H => m = items.length - i ∧ i ≤ items.length ∧ ∃ F pa t env, Gr F1 pa1 F pa ∧ Cf X.K B F pa t env σ H ∧ Inv i env t, ⟨_, rfl, Nat.zero_le _, F1, pa1, t1, env, Gr.refl _ _, C1, h0⟩, ?_⟩
    rintro i m σ2 H2 ⟨rfl, hi, F2, pa2, t2, env2, g2, C2, q2⟩
    have io := iok B F2 pa2 t2 env2 σ2 H2 i g2 C2
    by_cases hlt : i < items.length
    · have hx : items[i]? = some items[i] := by simp [hlt]
      obtain ⟨go, yl⟩ := io.2 _ hx
      refine .inr ⟨go, fun σ' H' => ∃ m', m' < items.length - i ∧ (m' = items.length - (i + 1) ∧ i + 1 ≤ items.length ∧ ∃ F pa t env, Gr F1 pa1 F pa ∧ Cf X.K B F pa t env σ' H' ∧ Inv (i + 1) env t), fun σ' H' z => z, fun x H' y => ?_⟩
      obtain ⟨_, F3, _, g3, C3, r3⟩ := yl x H' y
      refine ⟨F3, pa2, t2, env2, items[i], _, C3, r3, hstep i _ env2 t2 hx q2, fun F4 pa4 t4 env4 σ4 H4 g4 C4 _ q4 => ?_⟩
      have g14 := (g2.trans g3).trans g4
      have nn : ∀ F pa t env σ' H', Gr F4 pa4 F pa → Cf X.K B F pa t env σ' H' → Inv (i + 1) env t → ∃ m', m' < items.length - i ∧ (m' = items.length - (i + 1) ∧ i + 1 ≤ items.length ∧ ∃ F pa t env, Gr F1 pa1 F pa ∧ Cf X.K B F pa t env σ' H' ∧ Inv (i + 1) env t) := fun F pa t env σ' H' g C' q => ⟨items.length - (i + 1), by omega, rfl, hlt, F, pa, t, env, g14.trans g, C', q⟩
      have R4 := R.mono (g1.trans g14)
      exact ⟨F4, pa4, t4, env4, _, C4, q4, ⟨nn, R4.rt, R4.nx, nn⟩⟩
    · have e : i = items.length := by omega
      subst e
      exact .inl ⟨io.1 rfl, R.nx F2 pa2 t2 env2 σ2 H2 (g1.trans g2) C2 (hd env2 t2 q2)⟩⟩
end
end Q
/-! QH6 -/
namespace Q
open PySem L2 PyProof.Rows
section
variable {X : Cx} {B : Bs} {K : PySem.W.Frag} {a b c e : Expr} {es : List Expr} {pos : Pos} {da db dc : DE} {as : DA} {g : DG} {gs : DGs} {dt : DT}
theorem wipeE_length (env : En) : ∀ vs : List Nat, (wipeE env vs).length = env.length
  | [] => rfl
  | i :: r => by simp [wipeE, wipeE_length env r]
theorem wipeE_some {env : En} {i : Nat} {x : Sl} (hx : x ≠ .no) : ∀ {vs : List Nat}, (wipeE env vs)[i]? = some x → env[i]? = some x ∧ i ∉ vs
  | [], h => ⟨h, by simp⟩
  | j :: r, h => by
    rcases get_set (show ((wipeE env r).set j .no)[i]? = some x from h) with ⟨_, z⟩ | ⟨ne, z⟩
    · exact absurd z hx
    · obtain ⟨h1, h2⟩ := wipeE_some hx z
      exact ⟨h1, by simp [h2, Ne.symm ne]⟩
theorem wipeE_out {env : En} {i : Nat} : ∀ {vs : List Nat}, i ∉ vs → (wipeE env vs)[i]? = env[i]?
  | [], _ => rfl
  | j :: r, h => by
    simp only [List.mem_cons, not_or] at h
    show ((wipeE env r).set j .no)[i]? = _
    rw [List.getElem?_set_ne (Ne.symm h.1)]
    exact wipeE_out h.2
def ownA (env : En) (σ : L2.St) : List Addr := (env.zip σ).filterMap fun p => match p with
  | (.own _, some (.ref a)) => some a
  | _ => none
theorem mem_ownA {env : En} {σ : L2.St} {a : Addr} : a ∈ ownA env σ ↔ ∃ (i : Nat) (d : D), env[i]? = some (Sl.own d) ∧ σ[i]? = some (some (V.ref a)) := by
  unfold ownA
  rw [List.mem_filterMap]
  constructor
  · rintro ⟨⟨s, v⟩, hm, h⟩
    obtain ⟨i, hi⟩ := List.mem_iff_getElem?.mp hm
    rw [List.getElem?_zip_eq_some] at hi
    cases s with
    | own d =>
      cases v with
      | none => cases h
      | some v =>
        cases v with
        | ref b => cases h; exact ⟨i, d, hi.1, hi.2⟩
        | _ => cases h
    | _ => cases h
  · rintro ⟨i, d, h1, h2⟩
    exact ⟨(.own d, some (.ref a)), List.mem_iff_getElem?.mpr ⟨i, List.getElem?_zip_eq_some.mpr ⟨h1, h2⟩⟩, rfl⟩
def Bk (F : Hp) (pa : Option Addr) (t : Ts) (env : En) (σ : L2.St) (H : Hp) : Bs := ⟨F, H, pa.toList ++ ownA env σ, pa, false, [], t.dom⟩
theorem Cf.block {F : Hp} {pa : Option Addr} {t : Ts} {env : En} {σ : L2.St} {H : Hp} (C : Cf K B F pa t env σ H) (vs : List Nat) : Cf K (Bk F pa t (wipeE env vs) (wipe σ vs) H) F pa t (wipeE env vs) (wipe σ vs) H := by
  have wo : ∀ {i : Nat}, i ∉ vs → (wipe σ vs)[i]? = σ[i]? := fun h => wipe_out h
  refine ⟨by rw [wipeE_length, wipe_length, C.len], C.sub, fun _ _ e => e, fun _ _ e _ _ => e, fun a o e => .inl ⟨o, e⟩, fun a ha => ?_, fun i d e => ?_, fun i d e => ?_, fun i j d e a q1 q2 s1 s2 => ?_, fun a e => ?_, rfl, TabF.nil, C.ntb, fun a d e => by
    obtain ⟨h1, h2, h3, _, h5⟩ := C.obs a d e
    exact ⟨h1, h2, h3, .inl ⟨d, e⟩, h5⟩, fun a e => e, fun i d a e s => by
    obtain ⟨h1, hi⟩ := wipeE_some (by simp) e
    rw [wo hi] at s
    exact C.osp i d a h1 s⟩
  · rcases List.mem_append.mp ha with h | h
    · obtain ⟨_, ⟨u, q, _⟩, _⟩ := C.pen a (mem_pa.mp h)
      exact ⟨u, q⟩
    · obtain ⟨i, d, h1, h2⟩ := mem_ownA.mp h
      obtain ⟨h1', hi⟩ := wipeE_some (by simp) h1
      rw [wo hi] at h2
      obtain ⟨a', u, s1, e1, _⟩ := C.own i d h1'
      rw [h2] at s1; cases s1
      exact ⟨u, e1⟩
  · obtain ⟨h1, hi⟩ := wipeE_some (by simp) e
    obtain ⟨v, s1, r⟩ := C.val i d h1
    exact ⟨v, by rw [wo hi]; exact s1, r⟩
  · obtain ⟨h1, hi⟩ := wipeE_some (by simp) e
    obtain ⟨a, u, s1, e1, r, f1, p1, _⟩ := C.own i d h1
    refine ⟨a, u, by rw [wo hi]; exact s1, e1, r, f1, p1, .inl (List.mem_append.mpr (.inr (mem_ownA.mpr ⟨i, d, e, by rw [wo hi]; exact s1⟩)))⟩
  · obtain ⟨h1, hi⟩ := wipeE_some (by simp) q1
    obtain ⟨h2, hj⟩ := wipeE_some (by simp) q2
    rw [wo hi] at s1
    rw [wo hj] at s2
    exact C.sep i j d e a h1 h2 s1 s2
  · obtain ⟨h1, h2, _⟩ := C.pen a e
    exact ⟨h1, h2, .inl (List.mem_append.mpr (.inl (mem_pa.mpr e)))⟩
theorem Cf.join {F F3 : Hp} {pa pa3 : Option Addr} {t t3 : Ts} {env e' : En} {σ σ2 : L2.St} {H H4 : Hp} {vs : List Nat} (C : Cf K B F pa t env σ H) (C' : Cf K (Bk F pa t (wipeE env vs) (wipe σ vs) H) F3 pa3 t3 e' σ2 H4)
    (he : wipeE e' vs = wipeE env vs) (hs : wipe σ2 vs = wipe σ vs) : Gr F pa F3 pa3 ∧ Cf K B F3 pa3 t3 env σ H4 := by
  have wo : ∀ {i : Nat}, i ∉ vs → (wipe σ vs)[i]? = σ[i]? := fun h => wipe_out h
  have wo2 : ∀ {i : Nat}, i ∉ vs → (wipe σ2 vs)[i]? = σ2[i]? := fun h => wipe_out h
  have g : Gr F pa F3 pa3 := ⟨C'.bas, C'.pnn⟩
  -- what the block may change
  have ex : ∀ a, a ∈ (Bk F pa t (wipeE env vs) (wipe σ vs) H).ex → pa = some a ∨ ∃ (i : Nat) (d : D), i ∉ vs ∧ env[i]? = some (Sl.own d) ∧ σ[i]? = some (some (V.ref a)) := fun a ha => by
    rcases List.mem_append.mp ha with h | h
    · exact .inl (mem_pa.mp h)
    · obtain ⟨i, d, h1, h2⟩ := mem_ownA.mp h
      obtain ⟨h1', hi⟩ := wipeE_some (by simp) h1
      exact .inr ⟨i, d, hi, h1', by rw [← wo hi]; exact h2⟩
  have exB : ∀ a, a ∈ (Bk F pa t (wipeE env vs) (wipe σ vs) H).ex → a ∈ B.ex ∨ B.H a = none := fun a ha => by
    rcases ex a ha with h | ⟨i, d, _, h1, h2⟩
    · exact (C.pen a h).2.2
    · obtain ⟨a', u, s1, _, _, _, _, x⟩ := C.own i d h1
      rw [h2] at s1; cases s1
      exact x
  have kp : ∀ a o, H a = some o → a ∉ (Bk F pa t (wipeE env vs) (wipe σ vs) H).ex → t.obs a = none → H4 a = some o := fun a o e n no => C'.frm a o e n (fun ⟨d, z⟩ => by rw [no] at z; cases z)
  have nf : ∀ a o, H a = some o → F a = none → F3 a = none := fun a o e n => by
    cases q : F3 a with
    | none => rfl
    | some u =>
      rcases C'.new a u q with ⟨u', z⟩ | z
      · have z : F a = some u' := z
        rw [n] at z; cases z
      · have z : H a = none := z
        rw [e] at z; cases z
  refine ⟨g, ⟨C.len, C'.sub, fun a o e => g.f _ _ (C.bas a o e), fun a o e hx ho => ?_, fun a o e => ?_, fun a ha => ?_, fun i d e => ?_, fun i d e => ?_, C.sep, fun a e => ?_, Eq.trans g.p C.pnn, C.tab.keep g.f (fun p hp ps z => nf _ _ z (C.tab p hp).2.1) (fun p hp ps z => kp _ _ z (fun y => by
    rcases ex _ y with y | ⟨i, d, _, h1, h2⟩
    · obtain ⟨_, ⟨u, q, ca, w, _⟩, _⟩ := C.pen p.1 y
      rw [z] at q
      subst w
      cases q
    · obtain ⟨a', u, s1, e1, r1, _⟩ := C.own i d h1
      rw [h2] at s1; cases s1
      rw [z] at e1
      exact r1.ntb ps (Option.some.inj e1).symm) (by
    cases q : t.obs p.1 with
    | none => rfl
    | some d =>
      obtain ⟨_, ⟨u, q2, r⟩, _⟩ := C.obs p.1 d q
      rw [z] at q2
      exact absurd (Option.some.inj q2).symm (r.ntb ps))), C'.ntb, fun a d q => ?_, fun a q => C'.obx a (C.obx a q), fun i d a e s => ?_⟩⟩
  · refine kp a o (C.frm a o e hx ho) (fun z => ?_) ?_
    · rcases exB a z with q | q
      · exact hx q
      · rw [q] at e; cases e
    · cases q : t.obs a with
      | none => rfl
      | some d =>
        rcases (C.obs a d q).2.2.2.1 with z | z
        · exact absurd z ho
        · rw [z] at e; cases e
  · rcases C'.new a o e with ⟨o', q⟩ | q
    · exact C.new a o' q
    · exact .inr (C.fresh q).2.1
  · by_cases hx : a ∈ (Bk F pa t (wipeE env vs) (wipe σ vs) H).ex
    · exact C'.exl a hx
    · obtain ⟨o, q⟩ := C.exl a ha
      cases z : t.obs a with
      | none => exact ⟨o, kp a o q hx z⟩
      | some d =>
        obtain ⟨d', q'⟩ := C'.obx a ⟨d, z⟩
        obtain ⟨_, ⟨u, y, _⟩, _⟩ := C'.obs a d' q'
        exact ⟨u, y⟩
  · obtain ⟨v, h1, h2⟩ := C.val i d e
    exact ⟨v, h1, RelD.mono g d v h2⟩
  · obtain ⟨a, h, h1, h2, h3, h4, h5, h6⟩ := C.own i d e
    by_cases hi : i ∈ vs
    · have nx : a ∉ (Bk F pa t (wipeE env vs) (wipe σ vs) H).ex := fun z => by
        rcases ex a z with q | ⟨j, d', hj, q1, q2⟩
        · exact h5 q
        · have := C.sep i j d d' a e q1 h1 q2
          exact hj (this ▸ hi)
      refine ⟨a, h, h1, kp a h h2 nx (C.osp i d a e h1), RelO1.mono g d h h3, nf a h h2 h4, fun z => ?_, h6⟩
      rcases (C'.pen a z).2.2 with q | q
      · exact nx q
      · have q : H a = none := q
        rw [h2] at q; cases q
    · have e1 : e'[i]? = some (Sl.own d) := by
        rw [← wipeE_out (env := e') hi, he, wipeE_out hi]; exact e
      obtain ⟨a', h', s1, q1, q2, q3, q4, _⟩ := C'.own i d e1
      rw [← wo2 hi, hs, wo hi, h1] at s1
      cases s1
      exact ⟨a, h', h1, q1, q2, q3, q4, h6⟩
  · obtain ⟨h1, h2, h3⟩ := C'.pen a e
    refine ⟨h1, h2, ?_⟩
    rcases h3 with q | q
    · exact exB a q
    · exact .inr (C.fresh q).2.1
  · obtain ⟨h1, h2, h3, h4, h5⟩ := C'.obs a d q
    refine ⟨h1, h2, h3, ?_, h5⟩
    rcases h4 with ⟨d0, z⟩ | z
    · exact (C.obs a d0 z).2.2.2.1
    · exact .inr (C.fresh z).2.1
  · cases q : t3.obs a with
    | none => rfl
    | some d' =>
      rcases (C'.obs a d' q).2.2.2.1 with ⟨d0, z⟩ | z
      · rw [C.osp i d a e s] at z; cases z
      · obtain ⟨a', h, h1, h2, _⟩ := C.own i d e
        rw [s] at h1; cases h1
        have z : H a = none := z
        rw [h2] at z; cases z
theorem noo_of {F : Hp} {pa : Option Addr} {t t' : Ts} {env : En} {σ : L2.St} {H H' : Hp} {D : Addr} {o : HO} {F3 : Hp} {pa3 : Option Addr} {env3 : En} {σ3 : L2.St} (h : t.obs D = none) (C : Cf K (Bk F pa t env σ H) F3 pa3 t' env3 σ3 H') (e : H D = some o) : t'.obs D = none := by
  cases q : t'.obs D with
  | none => rfl
  | some d' =>
    rcases (C.obs D d' q).2.2.2.1 with ⟨d0, z⟩ | z
    · rw [h] at z; cases z
    · have z : H D = none := z
      rw [e] at z; cases z
def teU (K : PySem.W.Frag) (de : DE) : TE := fun σ H Q => ∃ B, teOf K B de σ H Q
def ttU (K : PySem.W.Frag) (dt : DT) : TT := fun σ H Q => ∃ B, ttOf K B dt σ H Q
def tgU (K : PySem.W.Frag) (vs : List Nat) (g : DG) : TG := fun v σ H Q => ∃ B, tgOf K B vs g v σ H Q
theorem pe_U (h : ∀ B, QE X B e da) : PE X e (teU X.K da) := ⟨fun pins s σ H Q I ⟨B, q⟩ => (h B).run pins s σ H Q I q⟩
theorem pg_U {vs : List Nat} (h : ∀ B, QG X B vs e g) : PG X e (tgU X.K vs g) := ⟨fun pins s σ H v u Q I r ⟨B, q⟩ => (h B).run pins s σ H v u Q I r q⟩
theorem pts_U1 (h : ∀ B, QT X B e dt) : PTs X [e] (ttU X.K dt) := pts_one ⟨fun pins s σ H Q I ⟨B, q⟩ => (h B).run pins s σ H Q I q⟩
theorem pts_U0 : PTs X [] (ttU X.K dYes) := ⟨fun pins s σ H Q I ⟨B, q⟩ => pts_nil.run pins s σ H Q I (by
  obtain ⟨F, pa, t, env, P, C, h, k⟩ := q
  exact k true F pa t H (Gr.refl _ _) C h)⟩
theorem wipe_idem {σ : L2.St} : ∀ {vs : List Nat}, wipe (wipe σ vs) vs = wipe σ vs := fun {vs} => by
  apply List.ext_getElem?
  intro k
  by_cases hk : k ∈ vs
  · have : ∀ (τ : L2.St) (us : List Nat), k ∈ us → (wipe τ us)[k]? = τ[k]?.map fun _ => none := fun τ us => by
      induction us with
      | nil => intro h; simp at h
      | cons j r ih =>
        intro h
        show ((wipe τ r).set j none)[k]? = _
        by_cases hj : j = k
        · subst hj
          rw [List.getElem?_set_self']
          by_cases hr : j ∈ r
          · rw [ih hr]; cases τ[j]? <;> rfl
          · rw [wipe_out hr]; cases τ[j]? <;> rfl
        · rw [List.getElem?_set_ne hj]
          exact ih ((List.mem_cons.mp h).resolve_left (Ne.symm hj))
    rw [this _ _ hk, this _ _ hk]
    cases σ[k]? <;> rfl
  · rw [wipe_out hk]
theorem ev_lc {di : DI} {vs : List Nat} : ∀ σ H Q, tnOf K B (dLc vs di g dt da) σ H Q → tLc (tiOf K B di) (tgU K vs g) (ttU K dt) (teU K da) vs σ H Q := fun σ H Q ⟨F, pa, t, env, P, C, h, k⟩ => by
  refine ⟨F, pa, t, env, _, C, h, fun J items F1 pa1 t1 H1 g1 C1 iok q D hD => ?_⟩
  obtain ⟨Inv, h0, hstep, hd⟩ := q
  refine ⟨fun i m H => m = items.length - i ∧ i ≤ items.length ∧ ∃ F pa t acc us, Gr F1 pa1 F pa ∧ Cf K B F pa t env σ H ∧ Nw B F pa t env σ D ∧ H D = some (.lst us) ∧ RelL K F pa acc us ∧ Inv i acc t,
    ⟨_, rfl, Nat.zero_le _, F1, pa1, t1, [], [], Gr.refl _ _, C1.loose _ hD, C1.nw hD, upd_same, RelL.nil, h0⟩, ?_⟩
  rintro i m H2 ⟨rfl, hi, F2, pa2, t2, acc, us, g2, C2, n2, e2, r2, q2⟩
  have io := iok B F2 pa2 t2 env σ H2 i g2 C2
  by_cases hlt : i < items.length
  · have hx : items[i]? = some items[i] := by simp [hlt]
    obtain ⟨go, yl⟩ := io.2 _ hx
    refine .inr ⟨go, fun H' => ∃ m', m' < items.length - i ∧ (m' = items.length - (i + 1) ∧ i + 1 ≤ items.length ∧ ∃ F pa t acc us, Gr F1 pa1 F pa ∧ Cf K B F pa t env σ H' ∧ Nw B F pa t env σ D ∧ H' D = some (.lst us) ∧ RelL K F pa acc us ∧ Inv (i + 1) acc t), fun H' z => z, fun x H' y => ?_⟩
    obtain ⟨hk, F3, nw3, g3, C3, r3⟩ := yl x H' y
    have e3 : H' D = some (.lst us) := hk _ _ e2
    have dn : D ∉ (Bk F3 pa2 t2 (wipeE env vs) (wipe σ vs) H').ex := fun z => by
      rcases List.mem_append.mp z with z | z
      · exact n2.a (mem_pa.mp z)
      · obtain ⟨j, d, h1, h2⟩ := mem_ownA.mp z
        obtain ⟨h1', hj⟩ := wipeE_some (by simp) h1
        have wo : (wipe σ vs)[j]? = σ[j]? := wipe_out hj
        rw [wo] at h2
        exact n2.s j d h1' h2
    have fD : F3 D = none := by
      cases z : F3 D with
      | none => rfl
      | some o =>
        rcases nw3 D o z with ⟨o', q⟩ | q
        · rw [n2.f] at q; cases q
        · rw [e2] at q; cases q
    have n3 : Nw B F3 pa2 t2 env σ D := ⟨fD, n2.b, n2.a, n2.s, n2.o⟩
    have CB := C3.block vs
    refine ⟨_, F3, pa2, t2, wipeE env vs, items[i], _, CB, r3, hstep i _ acc t2 hx q2, fun F4 pa4 t4 e4 σ4 H4 g4 C4 w4 q4 => ?_⟩
    obtain ⟨we, q4⟩ := q4
    have hs4 : wipe σ4 vs = wipe σ vs := w4.trans wipe_idem
    refine ⟨hs4, _, F4, pa4, t4, e4, _, C4, q4, fun k F5 pa5 t5 H5 g5 C5 q5 => ?_⟩
    have fin : ∀ {F6 : Hp} {pa6 : Option Addr} {t6 : Ts} {H6 : Hp}, Gr F3 pa2 F6 pa6 → Cf K (Bk F3 pa2 t2 (wipeE env vs) (wipe σ vs) H') F6 pa6 t6 e4 σ4 H6 →
        Gr F1 pa1 F6 pa6 ∧ Cf K B F6 pa6 t6 env σ H6 ∧ Nw B F6 pa6 t6 env σ D ∧ H6 D = some (.lst us) ∧ RelL K F6 pa6 acc us := fun {F6 pa6 t6 H6} g6 C6 => by
      obtain ⟨g7, C7⟩ := C3.join C6 we hs4
      have eD : H6 D = some (.lst us) := C6.frm D _ e3 dn (fun ⟨d, z⟩ => by rw [n2.o] at z; cases z)
      refine ⟨(g2.trans g3).trans g7, C7, ⟨?_, n2.b, fun z => ?_, n2.s, noo_of n2.o C6 e3⟩, eD, RelL.mono (g3.trans g7) acc us r2⟩
      · cases z : F6 D with
        | none => rfl
        | some o =>
          rcases C6.new D o z with ⟨o', q⟩ | q
          · have q : F3 D = some o' := q
            rw [fD] at q; cases q
          · have q : H' D = none := q
            rw [e3] at q; cases q
      · rcases (C6.pen D z).2.2 with q | q
        · exact dn q
        · have q : H' D = none := q
          rw [e3] at q; cases q
    cases k with
    | true =>
      refine L2.iteT ?_
      refine ⟨_, F5, pa5, t5, e4, _, C5, q5, fun v d F6 pa6 t6 H6 g6 C6 r6 q6 => ?_⟩
      obtain ⟨hl, q6⟩ := q6
      obtain ⟨h1, h2, h3, h4, h5⟩ := fin ((g4.trans g5).trans g6) C6
      refine ⟨us, h4, by rw [h5.len]; exact zlt hl, _, by omega, rfl, hlt, F6, pa6, t6, acc ++ [d], us ++ [v], h1, h2.write h3, h3, upd_same, h5.append (.cons r6 .nil), q6⟩
    | false =>
      refine L2.iteF ?_
      obtain ⟨h1, h2, h3, h4, h5⟩ := fin (g4.trans g5) C5
      exact ⟨_, by omega, rfl, hlt, F5, pa5, t5, acc, us, h1, h2, h3, h4, h5, q5⟩
  · have e : i = items.length := by omega
    subst e
    exact .inl ⟨io.1 rfl, k D _ (.lst acc) F2 pa2 t2 H2 (g1.trans g2) C2 n2 e2 ⟨us, rfl, r2⟩ (hd acc t2 q2)⟩
theorem q_lc {elt tg iter : Expr} {ifs : List Expr} {scope : Scope} {own : List (Str × Nat)} {pos : Pos} {di : DI} (hc : X.calm = true) (hN : X.N.Nodup) (hi : QI X B tg iter di) (ok : BlkOk X.N X.env.scope scope own)
    (hg : ∀ (s : Shared) (H : Hp) (C : Addr) (cl : List (Str × Addr)) (fp : List Addr) (B : Bs), QG (X.blk s H scope (compEnvC scope cl C X.env) fp) B (own.map (·.2)) tg g) (ht : ∀ (s : Shared) (H : Hp) (C : Addr) (cl : List (Str × Addr)) (fp : List Addr), PTs (X.blk s H scope (compEnvC scope cl C X.env) fp) ifs (ttU X.K dt))
    (he : ∀ (s : Shared) (H : Hp) (C : Addr) (cl : List (Str × Addr)) (fp : List Addr) (B : Bs), QE (X.blk s H scope (compEnvC scope cl C X.env) fp) B elt da) (hs : ∀ x, foldedSetIterable iter X.env x = pure x := by intro _; rfl) :
    QN X B (.ListComp elt [⟨tg, iter, ifs, 0⟩] scope pos) (dLc (own.map (·.2)) di g dt da) :=
  PE.imp (pe_lc hc hN hi ok (fun s H C cl fp => pg_U fun B => hg s H C cl fp B) ht (fun s H C cl fp => pe_U fun B => he s H C cl fp B) hs) ev_lc
end
section
variable {P : Program} {w : World} {K : PySem.W.Frag} {mg : Str → Option Value} {base : Heap}
theorem cf_start {F : Hp} {pa : Option Addr} {t : Ts} {H : Hp} {N : List Str} {ds : List D} {vs : List V} (C : Cf K (B0 F pa t H) F pa t [] [] H) (r : RelL K F pa ds vs) : Cf K (B0 F pa t H) F pa t (start0 N ds) (start N vs) H := by
  have hl := r.len
  have val : ∀ (i : Nat) (d : D), (start0 N ds)[i]? = some (Sl.val d) → ds[i]? = some d := fun i d e => by
    unfold start0 at e
    by_cases hi : i < ds.length
    · rw [List.getElem?_append_left (by simpa using hi), List.getElem?_map] at e
      cases q : ds[i]? with
      | none => rw [q] at e; cases e
      | some x => rw [q] at e; cases e; rfl
    · rw [List.getElem?_append_right (by simpa using hi), List.getElem?_replicate] at e
      split at e <;> cases e
  have noown : ∀ (i : Nat) (d : D), (start0 N ds)[i]? ≠ some (Sl.own d) := fun i d e => by
    unfold start0 at e
    by_cases hi : i < ds.length
    · rw [List.getElem?_append_left (by simpa using hi), List.getElem?_map] at e
      cases q : ds[i]? with
      | none => rw [q] at e; cases e
      | some x => rw [q] at e; cases e
    · rw [List.getElem?_append_right (by simpa using hi), List.getElem?_replicate] at e
      split at e <;> cases e
  refine ⟨by simp [start0, L2.start, hl], C.sub, C.bas, C.frm, C.new, C.exl, fun i d e => ?_, fun i d e => absurd e (noown i d), fun i j d e a q => absurd q (noown i d), C.pen, C.pnn, C.tab, C.ntb, C.obs, C.obx, fun i d a q => absurd q (noown i d)⟩
  obtain ⟨v, h1, h2⟩ := r.get (val i d e)
  refine ⟨v, ?_, h2⟩
  unfold L2.start
  have hi : i < vs.length := (List.getElem?_eq_some_iff.mp h1).1
  rw [List.getElem?_append_left (by simpa using hi), List.getElem?_map, h1]
  rfl
theorem fn_ok {x qual : Str} {st : Stmt} {f : Addr} {fd : FuncData} {N ps : List Str} {k : Nat} {sp : PSp} {ds : DS} (Fu : Fun K x qual st f fd) (S : FnScope N ps (defScope st)) (len : ∀ as t Q, sp as t Q → as.length = ps.length)
    (hbody : ∀ (cdv : Value) (A : Around) (outer : List PySem.Env) (s : Shared) (H : Hp) (E : XK) (B : Bs), Room k (A.deeper (envOfC qual (defScope st) s.heap.objs.size f cdv)) → B.Top → B.m = false →
      QSs (cxOf CX0 P w K mg base N qual (defScope st) f cdv A outer s H E).nox B (defBody st) ds)
    (hds : ∀ as t Q, sp as t Q → ds (endsOf Q) (start0 N as) t) : FnOk P w K mg base CX0 (k + 1) f fd ps (lift K sp) := by
  refine Fu.ok S (fun vs H Q E h => ?_) (fun cdv A outer s H vs Q E hr h => ?_)
  · obtain ⟨F, pa, t, as, R, C, r, q, _⟩ := h
    rw [r.len]; exact len as t R q
  · obtain ⟨F, pa, t, as, R, C, r, q, fin⟩ := h
    refine ⟨_, hbody cdv A outer s H E (B0 F pa t H) hr (B0.top F pa t H) rfl, F, pa, t, start0 N as, endsOf R, cf_start C r, hds as t R q, ⟨?_, ?_, ?_, ?_⟩⟩
    · intro F' pa' t' env σ H' g C' q'
      exact fin .non .non F' pa' t' H' C'.nil rD_non q'
    · intro v d F' pa' t' env σ H' g C' r' q'
      exact fin v d F' pa' t' H' C'.nil r' q'
    · intro F' pa' t' env σ H' g C' q'
      exact q'.elim
    · intro F' pa' t' env σ H' g C' q'
      exact q'.elim
theorem fn_okN {x qual : Str} {st : Stmt} {f : Addr} {fd : FuncData} {N ps : List Str} {k : Nat} {sp : PSp} {ds : DS} (Fu : Fun K x qual st f fd) (S : FnScope N ps (defScope st)) (len : ∀ as t Q, sp as t Q → as.length = ps.length)
    (hbody : ∀ (cdv : Value) (A : Around) (outer : List PySem.Env) (s : Shared) (H : Hp) (E : XK) (B : Bs), Room k (A.deeper (envOfC qual (defScope st) s.heap.objs.size f cdv)) → B.Top → B.m = true →
      QSs (cxOf CX0 P w K mg base N qual (defScope st) f cdv A outer s H E).nox B (defBody st) ds)
    (hds : ∀ as t Q, sp as t Q → ds (endsN Q) (start0 N as) t) : FnOk P w K mg base CX0 (k + 1) f fd ps (liftN K sp) := by
  refine Fu.ok S (fun vs H Q E h => ?_) (fun cdv A outer s H vs Q E hr h => ?_)
  · obtain ⟨F, pa, t, as, R, C, r, q, _⟩ := h
    rw [r.len]; exact len as t R q
  · obtain ⟨F, pa, t, as, R, C, r, q, fin⟩ := h
    refine ⟨_, hbody cdv A outer s H E (B1 F pa t H) hr (B1.top F pa t H) rfl, F, pa, t, start0 N as, _, (cf_start C r).cong rfl rfl rfl rfl rfl, hds as t R q, ⟨?_, ?_, ?_, ?_⟩⟩
    · intro F' pa' t' env σ H' g C' q'
      exact q'.elim
    · intro v d F' pa' t' env σ H' g C' r' q'
      rcases r' with ⟨rfl, rfl⟩ | ⟨p, h, rfl, n1, n2, n3, n4, e, r'⟩
      · exact q'.elim
      have q2 : R d t' := by
        cases d with
        | non => exact q'.elim
        | _ => exact q'
      exact fin p h d F' pa' t' H' (C'.nil.cong rfl rfl rfl rfl rfl) n1 n2 n3 n4 e r' q2
    · intro F' pa' t' env σ H' g C' q'
      exact q'.elim
    · intro F' pa' t' env σ H' g C' q'
      exact q'.elim
end
end Q
/-! QH7 -/
namespace Q
open PySem L2 PyProof.Rows
section
variable {X : Cx} {B : Bs} {K : PySem.W.Frag} {a b c e o i' : Expr} {es : List Expr} {pos : Pos} {da db dk dz : DE} {as : DA}
theorem q_dnew : QN X B (.Dict [] [] pos) (dC (.dic [] [])) := PE.imp pe_dnewK fun σ H Q ⟨F, pa, t, env, P, C, h, k⟩ => fun p hp =>
  k p _ (.dic [] []) F pa t _ (Gr.refl _ _) (C.loose _ hp) (C.nw hp) upd_same ⟨[], rfl, rfl, RelL.nil⟩ h
end
end Q
/-! QH8 -/
namespace Q
open PySem L2 PyProof.Rows
section
variable {X : Cx} {B : Bs} {K : PySem.W.Frag} {a b c e o i' : Expr} {es : List Expr} {pos : Pos} {da db dk dz : DE} {as : DA}
def dispT (K : PySem.W.Frag) (l : List (Str × DE)) : List (TE × TE) := l.map fun p => (tC (.str p.1), teU K p.2)
theorem q_pnil : PPs X pos [] [] (dispT X.K []) := pps_nil
theorem q_pcons {k : Str} {j : Nat} {p : Pos} {ks : List (Option Expr)} {vs : List Expr} {l : List (Str × DE)} (hv : ∀ B, QE X B e da) (hr : PPs X pos ks vs (dispT X.K l)) : PPs X pos (some (.Constant (.str k) j p) :: ks) (e :: vs) (dispT X.K ((k, da) :: l)) :=
  pps_cons pe_str (pe_U hv) hr
theorem ev_disp {l : List (Str × DE)} : ∀ {σ : L2.St} {F : Hp} {pa : Option Addr} {t : Ts} {env : En} {H : Hp} {P : List D → Ts → Prop} {Q : List (V × V) → Hp → Prop} {D : Addr} {h : HO}, Cf K B F pa t env σ H → Nw B F pa t env σ D → H D = some h → dDispL l env t P →
    (∀ vs ds F' pa' t' H', Gr F pa F' pa' → Cf K B F' pa' t' env σ H' → Nw B F' pa' t' env σ D → H' D = some h → RelL K F' pa' ds vs → ds.length = l.length → P ds t' → Q ((l.map fun p => V.str p.1).zip vs) H') → tPairs (dispT K l) σ H Q := by
  induction l with
  | nil =>
    intro σ F pa t env H P Q D h C n e hd k
    exact k [] [] F pa t H (Gr.refl _ _) C n e RelL.nil rfl hd
  | cons p l ih =>
    intro σ F pa t env H P Q D h C n e hd k
    have CB := C.block []
    have dn : D ∉ (Bk F pa t (wipeE env []) (wipe σ []) H).ex := fun z => by
      rcases List.mem_append.mp z with z | z
      · exact n.a (mem_pa.mp z)
      · obtain ⟨j, d, h1, h2⟩ := mem_ownA.mp z
        exact n.s j d h1 h2
    refine ⟨_, F, pa, t, env, _, CB, hd, fun v d F1 pa1 t1 H1 g1 C1 r1 q1 => ?_⟩
    obtain ⟨g, C2⟩ := C.join (vs := []) C1 rfl rfl
    have e1 : H1 D = some h := C1.frm D _ e dn (fun ⟨d, z⟩ => by rw [n.o] at z; cases z)
    have n1 : Nw B F1 pa1 t1 env σ D := by
      refine ⟨?_, n.b, fun z => ?_, n.s, noo_of n.o C1 e⟩
      · cases z : F1 D with
        | none => rfl
        | some o =>
          rcases C1.new D o z with ⟨o', q⟩ | q
          · have q : F D = some o' := q
            rw [n.f] at q; cases q
          · have q : H D = none := q
            rw [e] at q; cases q
      · rcases (C1.pen D z).2.2 with q | q
        · exact dn q
        · have q : H D = none := q
          rw [e] at q; cases q
    exact ih C2 n1 e1 q1 fun vs ds F2 pa2 t2 H2 g2 C3 n3 e3 r3 l3 q3 => k (v :: vs) (d :: ds) F2 pa2 t2 H2 (g.trans g2) C3 n3 e3 (.cons (RelD.mono g2 d v r1) r3) (by simp [l3]) q3
theorem merge_nd : ∀ {more acc : List (L2.Key × V)}, ((acc ++ more).map (·.1)).Nodup → mergeK acc more = acc ++ more
  | [], acc, _ => by simp [mergeK]
  | p :: more, acc, h => by
    have : valV acc p.1 = none := by
      cases q : valV acc p.1 with
      | none => rfl
      | some v =>
        exfalso
        have hm : p.1 ∈ acc.map (·.1) := by
          unfold valV at q
          cases z : acc.find? (fun kv => decide (kv.1 = p.1)) with
          | none => rw [z] at q; cases q
          | some x =>
            have h1 := List.mem_of_find?_eq_some z
            have h2 := List.find?_some z
            exact List.mem_map.mpr ⟨x, h1, of_decide_eq_true h2⟩
        rw [List.map_append, List.nodup_append] at h
        exact h.2.2 _ hm _ (List.mem_cons_self ..) rfl
    show mergeK (putK acc p.1 p.2) more = _
    rw [putK_new p.2 this, merge_nd (by simpa using h)]
    simp
theorem q_disp {keys : List (Option Expr)} {values : List Expr} {l : List (Str × DE)} (h : PPs X pos keys values (dispT X.K l)) (nd : (l.map fun p => p.1).Nodup) (h15 : l.length ≤ 15) (hall : keys.all (·.isSome) = true := by rfl) (hl : keys.length = values.length := by rfl) (h0 : keys ≠ [] := by exact fun z => nomatch z)
    (h15' : keys.length ≤ 15 := by decide) : QN X B (.Dict keys values pos) (dDisp l) := PE.imp (pe_disp h hall hl h0 h15') fun σ H Q ⟨F, pa, t, env, P, C, hd, k⟩ => fun p hp => by
  refine ev_disp (C.loose _ hp) (C.nw hp) upd_same hd fun vs ds F' pa' t' H' g C' n e r ld q => ?_
  have hlen : vs.length = l.length := by rw [r.len, ld]
  have e1 : ∀ (l : List (Str × DE)) (vs : List V), (l.map fun p => V.str p.1).zip vs = ((l.map fun p => (Sum.inr p.1 : L2.Key)).zip vs).map fun kv => (kV kv.1, kv.2) := by
    intro l
    induction l with
    | nil => intro vs; rfl
    | cons x l ih =>
      intro vs
      cases vs with
      | nil => rfl
      | cons v vs => simp only [List.map_cons, List.zip_cons_cons, ih vs]; rfl
  have nd2 : (((l.map fun p => (Sum.inr p.1 : L2.Key)).zip vs).map (·.1)).Nodup := by
    rw [List.map_fst_zip (by simp [hlen])]
    have : (l.map fun p => (Sum.inr p.1 : L2.Key)) = (l.map fun p => p.1).map Sum.inr := by simp
    rw [this]
    exact List.Pairwise.map _ (fun a b h z => h (Sum.inr.inj z)) nd
  have e2 := merge_nd (more := (l.map fun p => (Sum.inr p.1 : L2.Key)).zip vs) (acc := []) (by simpa using nd2)
  refine ⟨e, (l.map fun p => (Sum.inr p.1 : L2.Key)).zip vs, e1 l vs, by rw [List.length_zip]; simp; omega, ?_⟩
  rw [e2]
  exact k p _ _ F' pa' t' _ g (C'.write n) n upd_same (show RelO1 X.K F' pa' (.dic (l.map fun p => .inr p.1) ds) _ from ⟨vs, rfl, by simp [hlen], r⟩) q
end
end Q
/-! QH9 -/
namespace Q
open PySem L2 PyProof.Rows
section
variable {X : Cx} {B : Bs} {K : PySem.W.Frag} {a b c e o i' : Expr} {es : List Expr} {pos : Pos} {da db dk dz : DE} {as : DA}
theorem Cf.wrPen {F : Hp} {pa : Option Addr} {t t' : Ts} {env : En} {σ : L2.St} {H : Hp} (C : Cf K B F pa t env σ H) {a : Addr} {h : HO} (e : pa = some a) (p : PenOk F t' h) (ho : t'.obs = t.obs := by rfl) : Cf K B F pa t' env σ (upd H a h) := by
  obtain ⟨f0, ⟨h0, e0, p0⟩, x0⟩ := C.pen a e
  have nb : ∀ {c : Addr} {u : HO}, F c = some u → c ≠ a := fun z => ne_of_none z f0
  refine ⟨C.len, fun c u q => by rw [upd_ne (nb q)]; exact C.sub c u q, C.bas, fun c u q hx ho => ?_, C.new, fun c hc => ?_, C.val, fun i d q => ?_, C.sep, fun c q => ?_, C.pnn, C.tab.hs (fun p _ ps z => by rw [upd_ne (fun y => by rw [y, e0] at z; obtain ⟨ca, w, _⟩ := p0; rw [w] at z; cases z)]; exact z), C.ntb, fun c d q => by
    rw [ho] at q
    obtain ⟨h1, ⟨u, h2, h3⟩, h4, h5⟩ := C.obs c d q
    refine ⟨h1, ⟨u, ?_, h3⟩, h4, h5⟩
    rw [upd_ne ?_]
    · exact h2
    · rintro rfl
      exact h4 e, fun c z => by rw [ho]; exact C.obx c z, fun i d c z s => by rw [ho]; exact C.osp i d c z s⟩
  · rw [upd_ne ?_]
    · exact C.frm c u q hx ho
    · rintro rfl
      rcases x0 with z | z
      · exact hx z
      · rw [z] at q; cases q
  · by_cases hc' : c = a
    · subst hc'; exact ⟨h, upd_same⟩
    · obtain ⟨u, q⟩ := C.exl c hc
      exact ⟨u, by rw [upd_ne hc']; exact q⟩
  · obtain ⟨c, u, h1, h2, h3, h4, h5, h6⟩ := C.own i d q
    refine ⟨c, u, h1, ?_, h3, h4, h5, h6⟩
    rw [upd_ne ?_]
    · exact h2
    · rintro rfl
      exact h5 e
  · rw [e] at q; cases q
    exact ⟨f0, ⟨h, upd_same, p⟩, x0⟩
theorem pen_at {F : Hp} {pa : Option Addr} {t : Ts} {env : En} {σ : L2.St} {H : Hp} {v : V} (C : Cf K B F pa t env σ H) (r : RelX K F pa env σ .pen v) : ∃ a ca, v = .ref a ∧ pa = some a ∧ H a = some (.dK (penRows t ca)) ∧ F ca = some (.lst (t.cells.map V.int)) := by
  rcases r with r | ⟨i, h1, h2⟩
  · unfold RelD at r
    obtain ⟨a, e, rfl⟩ := r
    obtain ⟨_, ⟨h, q, ca, rfl, z⟩, _⟩ := C.pen a e
    exact ⟨a, ca, rfl, e, q, z⟩
  · obtain ⟨a, h, s1, q, z, _⟩ := C.own i _ h1
    exact z.elim
theorem q_penC {j : Nat} {p1 : Pos} (hu : X.A.units + 1 < cLine) (ho : QV X B o da) (hs : NoSl (.Constant (.str "cells") j p1)) : QE X B (.Subscript o (.Constant (.str "cells") j p1) pos) (dPenC da) := PE.imp (pe_dget hu ho (pe_str (x := "cells")) hs) fun σ H Q ⟨F, pa, t, env, P, C, h, k⟩ =>
  ⟨F, pa, t, env, _, C, h, fun v d F1 pa1 t1 H1 g1 C1 r1 q1 => by
    cases d with
    | pen =>
      obtain ⟨a, ca, rfl, e, q, z⟩ := pen_at C1 r1
      refine ⟨a, .ref ca, rfl, ?_, k _ _ F1 pa1 t1 H1 g1 C1 (by unfold RelD; exact ⟨ca, _, rfl, z, RelL.of_ints _⟩) q1⟩
      have dg := DGet.k (k := Sum.inr "cells") q
      have : valV (penRows t1 ca) (Sum.inr "cells" : L2.Key) = some (.ref ca) := by
        unfold penRows; split <;> exact valV_pos rfl
      rw [this] at dg
      exact dg
    | _ => exact q1.elim⟩
theorem val2 {k1 k2 k3 : Str} {v1 v2 v3 : V} (h : ¬ k1 = k2) : valV [((Sum.inr k1 : L2.Key), v1), (.inr k2, v2), (.inr k3, v3)] (.inr k2) = some v2 := by
  rw [valV_neg (fun z => h (Sum.inr.inj z)), valV_pos rfl]
theorem val3 {k1 k2 k3 : Str} {v1 v2 v3 : V} (h : ¬ k1 = k3) (h' : ¬ k2 = k3) : valV [((Sum.inr k1 : L2.Key), v1), (.inr k2, v2), (.inr k3, v3)] (.inr k3) = some v3 := by
  rw [valV_neg (fun z => h (Sum.inr.inj z)), valV_neg (fun z => h' (Sum.inr.inj z)), valV_pos rfl]
theorem put2 {k1 k2 k3 : Str} {v1 v2 v3 y : V} (h : ¬ k1 = k2) (h' : ¬ k3 = k2) : putK [((Sum.inr k1 : L2.Key), v1), (.inr k2, v2), (.inr k3, v3)] (.inr k2) y = [(.inr k1, v1), (.inr k2, y), (.inr k3, v3)] := by
  have e1 : ¬ ((Sum.inr k1 : L2.Key) = Sum.inr k2) := fun z => h (Sum.inr.inj z)
  have e3 : ¬ ((Sum.inr k3 : L2.Key) = Sum.inr k2) := fun z => h' (Sum.inr.inj z)
  simp [putK, e1, e3, h, h']
theorem put3 {k1 k2 k3 : Str} {v1 v2 v3 y : V} (h : ¬ k1 = k3) (h' : ¬ k2 = k3) : putK [((Sum.inr k1 : L2.Key), v1), (.inr k2, v2), (.inr k3, v3)] (.inr k3) y = [(.inr k1, v1), (.inr k2, v2), (.inr k3, y)] := by
  simp [putK, h, h']
theorem q_penA {b : Bool} {kw : Str} {j : Nat} {p1 : Pos} (hu : X.A.units + 1 < cLine) (ho : QV X B o da) (hk : kw = (if b then "turn" else "at" : Str)) (hs : NoSl (.Constant (.str kw) j p1)) : QE X B (.Subscript o (.Constant (.str kw) j p1) pos) (dPenA b da) := PE.imp (pe_dget hu ho (pe_str (x := kw)) hs) fun σ H Q ⟨F, pa, t, env, P, C, h, k⟩ =>
  ⟨F, pa, t, env, _, C, h, fun v d F1 pa1 t1 H1 g1 C1 r1 q1 => by
    cases d with
    | pen =>
      obtain ⟨hb, q1⟩ := q1
      obtain ⟨a, ca, rfl, e, q, z⟩ := pen_at C1 r1
      refine ⟨a, .int t1.at', rfl, ?_, k _ _ F1 pa1 t1 H1 g1 C1 (rD_int _) q1⟩
      have dg := DGet.k (k := Sum.inr kw) q
      have : valV (penRows t1 ca) (Sum.inr kw : L2.Key) = some (.int t1.at') := by
        unfold penRows
        rw [hb, hk]
        cases b
        · exact val2 (by decide +kernel)
        · exact val2 (by decide +kernel)
      rw [this] at dg
      exact dg
    | _ => exact q1.elim⟩
theorem q_penL {b : Bool} {kw : Str} {j : Nat} {p1 : Pos} (hu : X.A.units + 1 < cLine) (ho : QV X B o da) (hk : kw = (if b then "rest" else "left" : Str)) (hs : NoSl (.Constant (.str kw) j p1)) : QE X B (.Subscript o (.Constant (.str kw) j p1) pos) (dPenL b da) := PE.imp (pe_dget hu ho (pe_str (x := kw)) hs) fun σ H Q ⟨F, pa, t, env, P, C, h, k⟩ =>
  ⟨F, pa, t, env, _, C, h, fun v d F1 pa1 t1 H1 g1 C1 r1 q1 => by
    cases d with
    | pen =>
      obtain ⟨hb, q1⟩ := q1
      obtain ⟨a, ca, rfl, e, q, z⟩ := pen_at C1 r1
      refine ⟨a, .int t1.left, rfl, ?_, k _ _ F1 pa1 t1 H1 g1 C1 (rD_int _) q1⟩
      have dg := DGet.k (k := Sum.inr kw) q
      have : valV (penRows t1 ca) (Sum.inr kw : L2.Key) = some (.int t1.left) := by
        unfold penRows
        rw [hb, hk]
        cases b
        · exact val3 (by decide +kernel) (by decide +kernel)
        · exact val3 (by decide +kernel) (by decide +kernel)
      rw [this] at dg
      exact dg
    | _ => exact q1.elim⟩
theorem pen_name {F : Hp} {pa : Option Addr} {t : Ts} {env : En} {σ : L2.St} {H : Hp} {i : Nat} {p : Prop} (C : Cf K B F pa t env σ H) (h : match env[i]? with | some (.val .pen) => p | _ => False) : p ∧ ∃ a ca, σ[i]? = some (some (V.ref a)) ∧ pa = some a ∧ H a = some (.dK (penRows t ca)) ∧ F ca = some (.lst (t.cells.map V.int)) := by
  split at h
  · rename_i e
    obtain ⟨v, h1, h2⟩ := C.val i _ e
    obtain ⟨a, ca, rfl, r⟩ := pen_at C (.inl h2)
    exact ⟨h, a, ca, h1, r⟩
  · exact h.elim
theorem q_putA {b : Bool} {kw : Str} {i : Nat} {x : Str} {j : Nat} {p p1 pos' : Pos} (hu : X.A.units + 1 < cLine) (hx : PE X (.Name x p) (tVar i)) (he : QE X B e da) (hk : kw = (if b then "turn" else "at" : Str)) (hs : swapsWith e (some (.Subscript (.Name x p) (.Constant (.str kw) j p1) pos')) pos.line X.env = pure false := by rfl) :
    QS X B (.Assign [.Subscript (.Name x p) (.Constant (.str kw) j p1) pos'] e pos) (dPutA b i da) :=
  PS.imp (ps_dput hu hx (pe_str (x := kw)) he hs) fun De σ H ⟨F, pa, t, env, DD, C, h, R⟩ => ⟨F, pa, t, env, _, C, h, fun w y F' pa' t' H' g' C' r2 q2 => by
    cases y with
    | int n =>
      unfold RelD at r2
      subst r2
      obtain ⟨⟨hb, q2⟩, a, ca, s1, e1, q, z⟩ := pen_name C' q2
      refine ⟨.ref a, s1, a, _, rfl, DPut.k (k := Sum.inr kw) q (by unfold penRows; rw [sizeLine_eq]; split <;> simp), ?_⟩
      refine R.nx F' pa' ⟨t'.cells, n, t'.left, t'.tape, t'.obs⟩ env σ _ g' (C'.wrPen (t' := ⟨t'.cells, n, t'.left, t'.tape, t'.obs⟩) e1 ⟨ca, ?_, z⟩) q2
      unfold penRows
      rw [hb, hk]
      cases b
      · exact congrArg HO.dK (put2 (k1 := "cells") (k2 := "at") (k3 := "left") (by decide +kernel) (by decide +kernel))
      · exact congrArg HO.dK (put2 (k1 := "cells") (k2 := "turn") (k3 := "rest") (by decide +kernel) (by decide +kernel))
    | _ => exact q2.elim⟩
theorem q_putL {b : Bool} {kw : Str} {i : Nat} {x : Str} {j : Nat} {p p1 pos' : Pos} (hu : X.A.units + 1 < cLine) (hx : PE X (.Name x p) (tVar i)) (he : QE X B e da) (hk : kw = (if b then "rest" else "left" : Str)) (hs : swapsWith e (some (.Subscript (.Name x p) (.Constant (.str kw) j p1) pos')) pos.line X.env = pure false := by rfl) :
    QS X B (.Assign [.Subscript (.Name x p) (.Constant (.str kw) j p1) pos'] e pos) (dPutL b i da) :=
  PS.imp (ps_dput hu hx (pe_str (x := kw)) he hs) fun De σ H ⟨F, pa, t, env, DD, C, h, R⟩ => ⟨F, pa, t, env, _, C, h, fun w y F' pa' t' H' g' C' r2 q2 => by
    cases y with
    | int n =>
      unfold RelD at r2
      subst r2
      obtain ⟨⟨hb, q2⟩, a, ca, s1, e1, q, z⟩ := pen_name C' q2
      refine ⟨.ref a, s1, a, _, rfl, DPut.k (k := Sum.inr kw) q (by unfold penRows; rw [sizeLine_eq]; split <;> simp), ?_⟩
      refine R.nx F' pa' ⟨t'.cells, t'.at', n, t'.tape, t'.obs⟩ env σ _ g' (C'.wrPen (t' := ⟨t'.cells, t'.at', n, t'.tape, t'.obs⟩) e1 ⟨ca, ?_, z⟩) q2
      unfold penRows
      rw [hb, hk]
      cases b
      · exact congrArg HO.dK (put3 (k1 := "cells") (k2 := "at") (k3 := "left") (by decide +kernel) (by decide +kernel))
      · exact congrArg HO.dK (put3 (k1 := "cells") (k2 := "turn") (k3 := "rest") (by decide +kernel) (by decide +kernel))
    | _ => exact q2.elim⟩
end
end Q
/-! QH10 -/
namespace Q
open PySem L2 PyProof.Rows
end Q
/-! QH11 -/
namespace Q
open PySem L2 PyProof.Rows
section
variable {X : Cx} {B : Bs} {K : PySem.W.Frag} {a b c e o : Expr} {es : List Expr} {pos : Pos} {da db dc : DE} {as : DA} {st : Stmt}
def iAny (K : PySem.W.Frag) (tl : TE) : TI := fun σ H R => tl σ H fun x H1 => ∃ a, x = .ref a ∧ (((∃ xs, SqL K H1 a xs) ∧ R (Itl K a) H1) ∨ ((∃ xs, SqT K H1 a xs) ∧ R (Itt K a) H1))
theorem pi_any {tg : Expr} {tl : TE} (hl : PE X e tl) : PI X tg e (iAny X.K tl) := ⟨fun pins s σ H R I h => by
  refine thn (hl.run pins s σ H _ I h) ?_
  rintro v s1 ⟨x, H1, I1, r1, a, rfl, h2⟩
  cases r1
  have fp : ∀ b ∈ [s1.heap.objs.size], FpOk X pins H1 b := by
    intro b hb
    rw [List.mem_singleton.mp hb]
    exact I1.fpOk (Nat.le_refl _) (I1.hok.fresh (Nat.le_refl _))
  have kp : ∀ (u : Obj) b o, s1.heap.get? b = some o → (s1.heap.push u).get? b = some o := fun u b o z => Heap.get?_push_of_some _ z
  rcases h2 with ⟨⟨xs, hq⟩, q⟩ | ⟨⟨xs, hq⟩, q⟩
  · have L := I1.list hq
    obtain ⟨its, rv, p, hz⟩ := L
    exact wpAny_pyIter_list p.isList ⟨_, _, _, _, H1, rfl, I1.kept (t' := s1.toks) (kp _), turn_list a _, ⟨_, Heap.get?_push_size _ rfl, rfl, rfl⟩, fp, q⟩
  · have L := I1.tuple hq
    obtain ⟨its, rv, p, hz⟩ := L
    exact wpAny_pyIter_tuple (s := s1) (items := its.toArray) p ⟨_, _, _, _, H1, rfl, I1.kept (t' := s1.toks) (kp _), turn_tuple a _, ⟨_, Heap.get?_push_size _ rfl, rfl, rfl⟩, fp, q⟩⟩
theorem q_iany {tg : Expr} (he : QE X B e da) : QI X B tg e (iSeq da) := PI.imp (pi_any he) fun σ H R ⟨F, pa, t, env, P, C, h, k⟩ => ⟨F, pa, t, env, _, C, h, fun v d F' pa' t' H' g C' r q => by
  cases d with
  | lst l =>
    have r' := r
    unfold RelD at r'
    obtain ⟨a, vs, rfl, e1, r1⟩ := r'
    exact ⟨a, rfl, .inl ⟨⟨vs, SqL.of (C'.sub _ _ e1)⟩, k _ l F' pa' t' H' g C' (it_list (SqL.of e1) r1) q⟩⟩
  | tup l =>
    have r' := r
    unfold RelD at r'
    obtain ⟨a, vs, rfl, e1, r1⟩ := r'
    exact ⟨a, rfl, .inr ⟨⟨vs, SqT.of (C'.sub _ _ e1)⟩, k _ l F' pa' t' H' g C' (it_tup e1 r1) q⟩⟩
  | scr ns =>
    have r' := r
    unfold RelD at r'
    obtain ⟨a, rfl, e1⟩ := r'
    exact ⟨a, rfl, .inl ⟨⟨_, sq_mono C'.sub e1⟩, k _ _ F' pa' t' H' g C' (it_list e1 (RelL.of_ints ns)) q⟩⟩
  | _ => exact q.elim⟩
theorem RelX.tyx {F : Hp} {pa : Option Addr} {t : Ts} {env : En} {σ : L2.St} {H : Hp} {d : D} {v : V} {n : Tn} (W : Cf K B F pa t env σ H) (r : RelX K F pa env σ d v) (h : tn d = some n) : TyX K H v (.type n.name) := by
  cases d with
  | non => cases h; rw [r.non W]; exact .base .non
  | bl b => cases h; rw [r.bl W]; exact .base (.bl b)
  | int i => cases h; rw [r.int W]; exact .base (.int i)
  | str s => cases h; rw [r.str W]; exact .base (.str s)
  | lst l => cases h; obtain ⟨a, us, rfl, e, _⟩ := r.lst W; exact .base (.lst e)
  | tup l => cases h; obtain ⟨a, us, rfl, e, _⟩ := r.tup W; exact .base (.tup e)
  | dic ks l => cases h; obtain ⟨a, us, rfl, e, _⟩ := r.dic W; exact .base (.dK e)
  | _ => cases h
theorem kit_isa (n c : Tn) : PySem.W.kitOne K (.type n.name) (.type c.name) = some (isa n c) := by
  refine kit_ty ?_
  cases n <;> cases c <;> decide +kernel
theorem kit_isas (n : Tn) : ∀ cs : List Tn, PySem.W.kitAny K (.type n.name) (cs.map fun c => .type c.name) = some (cs.any (isa n))
  | [] => rfl
  | c :: cs => kitAny_cons (b := isa n c) (kit_isa n c) (fun h => by rw [kit_isas n cs]; simp [h]) (fun h => by simp [h])
section
variable {p p2 tpos : Pos} {x : Str}
theorem q_isi {c : Tn} (he : QV X B e da) (hg : Gl X "isinstance") (hm : X.mg "isinstance" = none) (hg2 : Gl X x) (hm2 : X.mg x = none) (hv : bootBuiltins x = some (.type c.name)) (hn : x ≠ "__name__" := by decide) (hdb : (x == ("__debug__" : Str)) = false := by decide)
    (hs : starEach [e, .Name x p2] X.env = (false, eval e X.env) :: starEach [.Name x p2] X.env := by rfl) (hs2 : starEach [.Name x p2] X.env = (false, eval (.Name x p2) X.env) :: starEach [] X.env := by rfl) :
    QE X B (.Call (.Name "isinstance" p) [e, .Name x p2] [] pos) (dIsi [c] da) :=
  PE.imp (pe_callB call_isi hg hm (by rfl) (pa_cons he (pa_cons (pe_bltn (v := .ty c.name) hg2 hm2 hv rfl hn hdb) pa_nil hs2) hs) (by decide) (by decide) hs (by rfl)) fun σ H Q ⟨F, pa, t, env, P, C, h, k⟩ =>
    ⟨F, pa, t, env, _, C, h, fun v d F' pa' t' H' g C' r q => by
      split at q
      · rename_i n hn
        exact ⟨v, .ty c.name, _, _, _, rfl, .ty _, r.tyx C' hn, kit_isa n c, k _ _ F' pa' t' H' g C' (rD_bl _) (by simpa using q)⟩
      · exact q.elim⟩
theorem q_isi2 {c c2 : Tn} {x2 : Str} {p3 : Pos} {kk : Nat} (he : QV X B e da) (hg : Gl X "isinstance") (hm : X.mg "isinstance" = none) (hg2 : Gl X x) (hm2 : X.mg x = none) (hv : bootBuiltins x = some (.type c.name))
    (hg3 : Gl X x2) (hm3 : X.mg x2 = none) (hv3 : bootBuiltins x2 = some (.type c2.name)) (hn : x ≠ "__name__" := by decide) (hdb : (x == ("__debug__" : Str)) = false := by decide) (hn2 : x2 ≠ "__name__" := by decide) (hdb2 : (x2 == ("__debug__" : Str)) = false := by decide)
    (hs : starEach [e, .Tuple [.Name x p2, .Name x2 p3] kk tpos] X.env = (false, eval e X.env) :: starEach [.Tuple [.Name x p2, .Name x2 p3] kk tpos] X.env := by rfl)
    (hs1 : starEach [.Tuple [.Name x p2, .Name x2 p3] kk tpos] X.env = (false, eval (.Tuple [.Name x p2, .Name x2 p3] kk tpos) X.env) :: starEach [] X.env := by rfl)
    (hs2 : starEach [.Name x p2, .Name x2 p3] X.env = (false, eval (.Name x p2) X.env) :: starEach [.Name x2 p3] X.env := by rfl) (hs3 : starEach [.Name x2 p3] X.env = (false, eval (.Name x2 p3) X.env) :: starEach [] X.env := by rfl) :
    QE X B (.Call (.Name "isinstance" p) [e, .Tuple [.Name x p2, .Name x2 p3] kk tpos] [] pos) (dIsi [c, c2] da) :=
  PE.imp (pe_callB call_isiT hg hm (by rfl) (pa_cons he (pa_cons (pe_tup (pa_cons (pe_bltn (v := .ty c.name) hg2 hm2 hv rfl hn hdb) (pa_cons (pe_bltn (v := .ty c2.name) hg3 hm3 hv3 rfl hn2 hdb2) pa_nil hs3) hs2)) pa_nil hs1) hs) (by decide) (by decide) hs (by rfl)) fun σ H Q ⟨F, pa, t, env, P, C, h, k⟩ =>
    ⟨F, pa, t, env, _, C, h, fun v d F' pa' t' H' g C' r q => by
      split at q
      · rename_i n hn
        refine ⟨by show 2 ≤ sizeLine; unfold sizeLine; decide, fun tp ht => ?_⟩
        have C2 := C'.loose (.tup [V.ty c.name, V.ty c2.name]) ht
        exact ⟨v, tp, _, _, _, _, rfl, upd_same, .cons (.ty _) (.cons (.ty _) .nil), r.tyx C2 hn, kit_isas n [c, c2], k _ _ F' pa' t' _ g C2 (rD_bl _) q⟩
      · exact q.elim⟩
end
def BI (F : Hp) (pa : Option Addr) (t : Ts) (H : Hp) (x : Addr) : Bs := ⟨F, H, x :: pa.toList, pa, false, [], t.dom⟩
def liftI (K : PySem.W.Frag) (C : Addr) (sp : PSp) : Sp := fun vs H Q E => ∃ x dx us F pa t ds P, vs = .ref x :: us ∧ H x = some (.ins C dx []) ∧ F x = none ∧ pa ≠ some x ∧ t.obs x = none ∧ Cf K (B0 F pa t H) F pa t [] [] H ∧ RelL K F pa ds us ∧ sp ds t P ∧
  ∀ h d F' pa' t' H', Cf K (BI F pa t H x) F' pa' t' [] [] H' → F' x = none → pa' ≠ some x → t'.obs x = none → H' x = some h → RelO1 K F' pa' d h → P d t' → Q .non H'
section
variable {CX : CXT} {k : Nat} {f Cl' : Addr} {fd : FuncData} {ps : List Str} {sp : PSp} {dvs : List V} {dds : List D} {ds : List Value} {E : XK} {x m : Str} {p apos : Pos}
theorem ev_make (hd : ∀ F pa, RelL K F pa dds dvs) : ∀ σ H Q, tnOf K B (dCall sp dds as) σ H Q → tMake Cl' (liftI K Cl' sp) dvs E (taOf K B as) σ H Q := fun σ H Q ⟨F, pa, t, env, P, W, h, k⟩ =>
  ⟨F, pa, t, env, _, W, h, fun vs xs F1 pa1 t1 H1 g1 W1 r1 q1 x dx hx hdx hne => by
    have hx2 : upd H1 dx (.own x) x = none := by rw [upd_ne (Ne.symm hne)]; exact hx
    have W2 := (W1.loose (.own x) hdx).loose (.ins Cl' dx []) hx2
    obtain ⟨hF, hB, _⟩ := W1.fresh hx
    have nw := W1.nw hx
    have up : ∀ a o, H1 a = some o → upd (upd H1 dx (.own x)) x (.ins Cl' dx []) a = some o := fun a o e => by
      rw [upd_ne (ne_of_none e hx), upd_ne (ne_of_none e hdx)]; exact e
    refine ⟨x, dx, _, F1, pa1, t1, xs ++ dds, P, rfl, upd_same, hF, nw.a, nw.o, W2.call, r1.append (hd _ _), q1, fun hh d F' pa' t' H' W' n1 n2 n4 e' r' q' => ⟨rfl, ?_⟩⟩
    have W3 : Cf K (B0 F1 pa1 t1 H1) F' pa' t' [] [] H' := by
      refine ⟨rfl, W'.sub, W'.bas, fun a o e hp ho => ?_, fun a o e => ?_, fun a ha => ?_, W'.val, fun i d e => by simp at e, W'.sep, fun a e => ?_, W'.pnn, TabF.nil, W'.ntb, fun a d q => ?_, W'.obx, fun i d a e => by simp at e⟩
      · refine W'.frm a o (up a o e) (fun z => ?_) ho
        rcases List.mem_cons.mp z with z | z
        · exact absurd z (ne_of_none e hx)
        · exact hp z
      · rcases W'.new a o e with z | z
        · exact .inl z
        · refine .inr ?_
          cases q : H1 a with
          | none => exact q
          | some u => rw [show (BI F1 pa1 t1 (upd (upd H1 dx (.own x)) x (.ins Cl' dx [])) x).H a = upd (upd H1 dx (.own x)) x (.ins Cl' dx []) a from rfl, up a u q] at z; cases z
      · exact W'.exl a (List.mem_cons_of_mem _ ha)
      · obtain ⟨h1, h2, h3⟩ := W'.pen a e
        refine ⟨h1, h2, ?_⟩
        rcases h3 with z | z
        · rcases List.mem_cons.mp z with z | z
          · exact absurd (by rw [e, z]) n2
          · exact .inl z
        · refine .inr ?_
          cases q : H1 a with
          | none => exact q
          | some u => rw [show (BI F1 pa1 t1 (upd (upd H1 dx (.own x)) x (.ins Cl' dx [])) x).H a = upd (upd H1 dx (.own x)) x (.ins Cl' dx []) a from rfl, up a u q] at z; cases z
      · obtain ⟨h1, h2, h3, h4, h5⟩ := W'.obs a d q
        refine ⟨h1, h2, h3, ?_, h5⟩
        rcases h4 with z | z
        · exact .inl z
        · refine .inr ?_
          cases q : H1 a with
          | none => exact q
          | some u => rw [show (BI F1 pa1 t1 (upd (upd H1 dx (.own x)) x (.ins Cl' dx [])) x).H a = upd (upd H1 dx (.own x)) x (.ins Cl' dx []) a from rfl, up a u q] at z; cases z
    obtain ⟨g, W4⟩ := W1.after W3
    exact k x hh d F' pa' t' H' (g1.trans g) W4 ⟨n1, hB, n2, nw.s, n4⟩ e' r' q'⟩
theorem q_make (M : Mk X.K Cl' f) (F : FnOk X.prog X.w X.K X.mg X.base CX k f fd ps (liftI X.K Cl' sp)) (hr : Room (k + 1) X.A) (hg : Gl X x) (hm : X.mg x = some (.ref Cl')) (hb : Binds X.K fd ps ds) (hd : Vals dvs ds) (hD : ∀ F pa, RelL X.K F pa dds dvs) (hx : Passes CX X E)
    (ha : QA X B (e :: es) as) (hdb : (x == ("__debug__" : Str)) = false := by decide) (he : starEach (e :: es) X.env = (false, eval e X.env) :: starEach es X.env := by rfl) (hpl : (backTo pos (starEach es X.env)).any (·.1) = false := by rfl) :
    QN X B (.Call (.Name x p) (e :: es) [] pos) (dCall sp dds as) := PE.imp (pe_make M F hr hg hm hb hd hx ha hdb he hpl) (ev_make hD)
theorem putF_new {f : Str} {v : V} : ∀ {fs : List (Str × V)}, fs.lookup f = none → putF f v fs = fs ++ [(f, v)]
  | [], _ => rfl
  | (g, y) :: r, h => by
    have hne : ¬ g = f := by
      rintro rfl
      simp [List.lookup] at h
    have h2 : r.lookup f = none := by
      have : (f == g) = false := by simpa using fun z => hne z.symm
      simpa [List.lookup, this] using h
    show (if g = f then _ else _) = _
    rw [if_neg hne, putF_new h2]
    rfl
theorem zip_snoc {α β : Type} : ∀ {a : List α} {b : List β} {x : α} {y : β}, a.length = b.length → (a ++ [x]).zip (b ++ [y]) = a.zip b ++ [(x, y)]
  | [], [], _, _, _ => rfl
  | _ :: _, _ :: _, _, _, h => by
    simp only [List.cons_append, List.zip_cons_cons]
    rw [zip_snoc (by simpa using h)]
  | [], _ :: _, _, _, h => by simp at h
  | _ :: _, [], _, _, h => by simp at h
theorem relL_snoc {F : Hp} {pa : Option Addr} {d : D} {v : V} (h : RelD K F pa d v) : ∀ {l : List D} {vs : List V}, RelL K F pa l vs → RelL K F pa (l ++ [d]) (vs ++ [v])
  | [], vs, r => by
    have e : vs = [] := by unfold RelL at r; exact r
    subst e
    exact RelL.cons h (by unfold RelL; rfl)
  | x :: l, vs, r => by
    obtain ⟨v1, vr, rfl, r1, r2⟩ := r.inv
    exact RelL.cons r1 (relL_snoc h r2)
end
end
end Q
/-! QH12 -/
namespace Q
open PySem L2 PyProof.Rows
section
variable {K : PySem.W.Frag} {F F' : Hp} {pa : Option Addr}
mutual
theorem RelD.un : ∀ (d : D) (v : V), nopen d = true → RelD K F pa d v → RelD K F none d v
  | .non, v, _, h => by unfold RelD at h ⊢; exact h
  | .bl b, v, _, h => by unfold RelD at h ⊢; exact h
  | .int i, v, _, h => by unfold RelD at h ⊢; exact h
  | .str x, v, _, h => by unfold RelD at h ⊢; exact h
  | .ty n, v, _, h => by unfold RelD at h ⊢; exact h
  | .adr a, v, _, h => by unfold RelD at h ⊢; exact h
  | .rp a, v, _, h => by unfold RelD at h ⊢; exact h
  | .pen, v, n, h => by simp [nopen] at n
  | .scr ns, v, _, h => by unfold RelD at h ⊢; exact h
  | .fl m, v, _, h => by unfold RelD at h ⊢; exact h
  | .ob x l, v, n, h => by simp [nopen] at n
  | .lst l, v, n, h => by
    unfold RelD at h ⊢
    unfold nopen at n
    obtain ⟨a, vs, e, r, q⟩ := h
    exact ⟨a, vs, e, r, RelL.un l vs n q⟩
  | .tup l, v, n, h => by
    unfold RelD at h ⊢
    unfold nopen at n
    obtain ⟨a, vs, e, r, q⟩ := h
    exact ⟨a, vs, e, r, RelL.un l vs n q⟩
  | .dic ks l, v, n, h => by
    unfold RelD at h ⊢
    unfold nopen at n
    obtain ⟨a, vs, e, r, z, q⟩ := h
    exact ⟨a, vs, e, r, z, RelL.un l vs n q⟩
  | .ins C ns l, v, n, h => by
    unfold RelD at h ⊢
    unfold nopen at n
    obtain ⟨a, dx, vs, e, r, z, q⟩ := h
    exact ⟨a, dx, vs, e, r, z, RelL.un l vs n q⟩
theorem RelL.un : ∀ (l : List D) (vs : List V), nopens l = true → RelL K F pa l vs → RelL K F none l vs
  | [], vs, _, h => by unfold RelL at h ⊢; exact h
  | d :: ds, vs, n, h => by
    unfold RelL at h ⊢
    unfold nopens at n
    obtain ⟨v, vr, e, r, q⟩ := h
    have n2 := Bool.and_eq_true_iff.mp n
    exact ⟨v, vr, e, RelD.un d v n2.1 r, RelL.un ds vr n2.2 q⟩
end
mutual
theorem RelD.up : ∀ (d : D) (v : V), RelD K F none d v → RelD K F pa d v
  | .non, v, h => by unfold RelD at h ⊢; exact h
  | .bl b, v, h => by unfold RelD at h ⊢; exact h
  | .int i, v, h => by unfold RelD at h ⊢; exact h
  | .str x, v, h => by unfold RelD at h ⊢; exact h
  | .ty n, v, h => by unfold RelD at h ⊢; exact h
  | .adr a, v, h => by unfold RelD at h ⊢; exact h
  | .rp a, v, h => by unfold RelD at h ⊢; exact h
  | .pen, v, h => by
    unfold RelD at h
    obtain ⟨a, e, _⟩ := h
    cases e
  | .scr ns, v, h => by unfold RelD at h ⊢; exact h
  | .fl m, v, h => by unfold RelD at h ⊢; exact h
  | .ob x l, v, h => by
    unfold RelD at h ⊢
    obtain ⟨a, vs, e, r, q⟩ := h
    exact ⟨a, vs, e, r, RelL.up l vs q⟩
  | .lst l, v, h => by
    unfold RelD at h ⊢
    obtain ⟨a, vs, e, r, q⟩ := h
    exact ⟨a, vs, e, r, RelL.up l vs q⟩
  | .tup l, v, h => by
    unfold RelD at h ⊢
    obtain ⟨a, vs, e, r, q⟩ := h
    exact ⟨a, vs, e, r, RelL.up l vs q⟩
  | .dic ks l, v, h => by
    unfold RelD at h ⊢
    obtain ⟨a, vs, e, r, z, q⟩ := h
    exact ⟨a, vs, e, r, z, RelL.up l vs q⟩
  | .ins C ns l, v, h => by
    unfold RelD at h ⊢
    obtain ⟨a, dx, vs, e, r, z, q⟩ := h
    exact ⟨a, dx, vs, e, r, z, RelL.up l vs q⟩
theorem RelL.up : ∀ (l : List D) (vs : List V), RelL K F none l vs → RelL K F pa l vs
  | [], vs, h => by unfold RelL at h ⊢; exact h
  | d :: ds, vs, h => by
    unfold RelL at h ⊢
    obtain ⟨v, vr, e, r, q⟩ := h
    exact ⟨v, vr, e, RelD.up d v r, RelL.up ds vr q⟩
end
theorem RelO1.un : ∀ {d : D} {h : HO}, nopen d = true → RelO1 K F pa d h → RelO1 K F none d h := fun {d h} n r => by
  cases d with
  | lst l => obtain ⟨vs, e, q⟩ := r; exact ⟨vs, e, RelL.un l vs (by simpa [nopen] using n) q⟩
  | dic ks l => obtain ⟨vs, e, z, q⟩ := r; exact ⟨vs, e, z, RelL.un l vs (by simpa [nopen] using n) q⟩
  | ins C ns l => obtain ⟨dx, vs, e, z, q⟩ := r; exact ⟨dx, vs, e, z, RelL.un l vs (by simpa [nopen] using n) q⟩
  | fl m => exact r
  | _ => exact r.elim
theorem RelO1.up : ∀ {d : D} {h : HO}, RelO1 K F none d h → RelO1 K F pa d h := fun {d h} r => by
  cases d with
  | lst l => obtain ⟨vs, e, q⟩ := r; exact ⟨vs, e, RelL.up l vs q⟩
  | dic ks l => obtain ⟨vs, e, z, q⟩ := r; exact ⟨vs, e, z, RelL.up l vs q⟩
  | ins C ns l => obtain ⟨dx, vs, e, z, q⟩ := r; exact ⟨dx, vs, e, z, RelL.up l vs q⟩
  | fl m => exact r
  | _ => exact r.elim
end
def BX (O : Addr → Prop) (F : Hp) (H : Hp) (x : Addr) : Bs := ⟨F, H, [x], none, false, [], O⟩
structure Is (K : PySem.W.Frag) (O : Addr → Prop) (F0 H0 : Hp) (x Cl' : Addr) (ns : List Str) (l : List D) (F : Hp) (t : Ts) (env : En) (σ : L2.St) (H : Hp) : Prop where
  c : Cf K (BX O F0 H0 x) F none t env σ H
  nov : ∀ (i : Nat) (d : D), env[i]? ≠ some (Sl.own d)
  ins : ∃ dx vs, H x = some (.ins Cl' dx (ns.zip vs)) ∧ ns.length = vs.length ∧ RelL K F none l vs
  f : F x = none
  s : σ[0]? = some (some (V.ref x))
  o : t.obs x = none
section
variable {K : PySem.W.Frag} {O : Addr → Prop} {F0 H0 : Hp} {x Cl' : Addr} {ns : List Str} {l : List D} {F F' : Hp} {t t' : Ts} {env : En} {σ : L2.St} {H H' : Hp} {B : Bs} {pa : Option Addr}
theorem Cf.here (C : Cf K B F pa t env σ H) (n : ∀ (i : Nat) (d : D), env[i]? ≠ some (Sl.own d)) : Cf K (B0 F pa t H) F pa t env σ H := by
  have C2 := C.call
  exact ⟨C.len, C2.sub, C2.bas, C2.frm, C2.new, C2.exl, C.val, fun i d e => absurd e (n i d), fun i j d e a q => absurd q (n i d), C2.pen, C2.pnn, C2.tab, C2.ntb, C2.obs, C2.obx, fun i d a e => absurd e (n i d)⟩
theorem Is.step (S : Is K O F0 H0 x Cl' ns l F t env σ H) {pa' : Option Addr} (C : Cf K (B0 F none t H) F' pa' t' env σ H') : pa' = none ∧ Is K O F0 H0 x Cl' ns l F' t' env σ H' := by
  have hp : pa' = none := C.pnn
  subst hp
  obtain ⟨g, C2⟩ := S.c.after C.nil
  obtain ⟨dx, vs, h1, h2, h3⟩ := S.ins
  refine ⟨rfl, C2, S.nov, ⟨dx, vs, C.frm x _ h1 (by simp [B0]) (fun ⟨d, z⟩ => by rw [S.o] at z; cases z), h2, RelL.mono g l vs h3⟩, ?_, S.s, ?_⟩
  · cases q : F' x with
    | none => rfl
    | some o =>
      rcases C.new x o q with ⟨o', z⟩ | z
      · rw [show (B0 F none t H).F x = F x from rfl, S.f] at z; cases z
      · rw [show (B0 F none t H).H x = H x from rfl, h1] at z; cases z
  · cases q : t'.obs x with
    | none => rfl
    | some d' =>
      rcases (C.obs x d' q).2.2.2.1 with ⟨d0, z⟩ | z
      · rw [S.o] at z; cases z
      · rw [show (B0 F none t H).H x = H x from rfl, h1] at z; cases z
theorem Is.put (S : Is K O F0 H0 x Cl' ns l F t env σ H) {ns' : List Str} {l' : List D} {dx : Addr} {vs : List V} (h2 : ns'.length = vs.length) (h3 : RelL K F none l' vs) : Is K O F0 H0 x Cl' ns' l' F t env σ (upd H x (.ins Cl' dx (ns'.zip vs))) := by
  have C := S.c
  have nx : ∀ {a : Addr} {o : HO}, F a = some o → a ≠ x := fun e => ne_of_none e S.f
  refine ⟨⟨C.len, fun a o e => by rw [upd_ne (nx e)]; exact C.sub a o e, C.bas, fun a o e hp ho => ?_, C.new, fun a ha => ?_, C.val, fun i d e => absurd e (S.nov i d), fun i j d e a q => absurd q (S.nov i d), fun a e => (by cases e), C.pnn, TabF.nil, C.ntb, fun a d q => by
    obtain ⟨h1, ⟨u, h2, h3⟩, h4⟩ := C.obs a d q
    refine ⟨h1, ⟨u, ?_, h3⟩, h4⟩
    rw [upd_ne ?_]
    · exact h2
    · rintro rfl
      rw [S.o] at q; exact (nomatch q), C.obx, fun i d a e => absurd e (S.nov i d)⟩, S.nov, ⟨dx, vs, upd_same, h2, h3⟩, S.f, S.s, S.o⟩
  · have : a ≠ x := fun z => hp (by rw [z]; exact List.mem_singleton.mpr rfl)
    rw [upd_ne this]; exact C.frm a o e hp ho
  · have : a = x := List.mem_singleton.mp ha
    rw [this]; exact ⟨_, upd_same⟩
end
def tiS (K : PySem.W.Frag) (Cl' : Addr) (ds : IS) : TS := fun D σ H => ∃ O F0 H0 x ns l F t env k, Is K O F0 H0 x Cl' ns l F t env σ H ∧ ds k ns l env t ∧
  ∀ ns' l' F' t' env' σ' H', Is K O F0 H0 x Cl' ns' l' F' t' env' σ' H' → k ns' l' env' t' → D.nx σ' H'
section
variable {X : Cx} {Cl' : Addr} {st : Stmt} {sts : List Stmt} {a b : IS} {c o value : Expr} {dt : DT} {da : DE} {pos pos' : Pos}
theorem i_cons (h1 : PS X st (tiS X.K Cl' a)) (h2 : PSs X sts (tiS X.K Cl' b)) : PSs X (st :: sts) (tiS X.K Cl' (iThen a b)) :=
  PSs.imp (pss_cons h1 h2) fun D σ H ⟨O, F0, H0, x, ns, l, F, t, env, k, S, h, R⟩ => ⟨O, F0, H0, x, ns, l, F, t, env, _, S, h, fun ns' l' F' t' env' σ' H' S' h' => ⟨O, F0, H0, x, ns', l', F', t', env', k, S', h', R⟩⟩
theorem i_guard (hc : ∀ B, QT X B c dt) : PS X (.If c sts [] pos) (tiS X.K Cl' (iGuard dt)) :=
  PS.imp (ps_if (tc := ttU X.K dt) ⟨fun pins s σ H Q I ⟨B, q⟩ => (hc B).run pins s σ H Q I q⟩ pss_never pss_nil) fun D σ H ⟨O, F0, H0, x, ns, l, F, t, env, k, S, h, R⟩ =>
    ⟨B0 F none t H, F, none, t, env, _, S.c.here S.nov, h, fun kb F' pa' t' H' g C q => by
      obtain ⟨rfl, S'⟩ := S.step C
      cases kb with
      | true => exact False.elim q
      | false => exact R ns l F' t' env σ H' S' q⟩
theorem i_set {f : Str} (h0 : PE X o (tVar 0)) (hv : ∀ B, QE X B value da) (cl : Cls X.K Cl') (na : NoAttr X.K Cl' f) (hs : swapsWith value (some (.Attribute o f pos')) pos.line X.env = pure false := by rfl) :
    PS X (.Assign [.Attribute o f pos'] value pos) (tiS X.K Cl' (iSet f da)) :=
  PS.imp (ps_fld h0 (pe_U hv) hs) fun D σ H ⟨O, F0, H0, x, ns, l, F, t, env, k, S, h, R⟩ =>
    ⟨B0 F none t H, F, none, t, env, _, S.c.here S.nov, h, fun v d F' pa' t' H' g C r q => by
      obtain ⟨rfl, S'⟩ := S.step C
      obtain ⟨⟨hn, hl⟩, q⟩ := q
      obtain ⟨dx, vs, e1, l1, r1⟩ := S'.ins
      refine ⟨_, S'.s, x, Cl', dx, _, rfl, e1, cl, na, by rw [List.length_zip]; omega, ?_⟩
      rw [putF_new (zip_none hn), ← zip_snoc l1]
      exact R _ _ F' t' env σ _ (S'.put (by simp [l1]) (relL_snoc r r1)) q⟩
theorem sumsOf_snoc : ∀ (bs : List Int) (s b : Int), sumsOf s (bs ++ [b]) = sumsOf s bs ++ [(sumsOf s bs).getLastD s + b - 1]
  | [], s, b => rfl
  | c :: bs, s, b => by
    show (s + c - 1) :: sumsOf (s + c - 1) (bs ++ [b]) = _
    rw [sumsOf_snoc bs (s + c - 1) b]
    show _ = (s + c - 1) :: sumsOf (s + c - 1) bs ++ [((s + c - 1) :: sumsOf (s + c - 1) bs).getLastD s + b - 1]
    rw [List.getLastD_cons]
    rfl
theorem sumsOf_len : ∀ (bs : List Int) (s : Int), (sumsOf s bs).length = bs.length
  | [], _ => rfl
  | c :: bs, s => by
    show (sumsOf (s + c - 1) bs).length + 1 = bs.length + 1
    rw [sumsOf_len bs]
structure Ls (K : PySem.W.Frag) (F Hs : Hp) (x p Cl' dx : Addr) (ns : List Str) (vs : List V) (l : List D) (t : Ts) (env : En) (σ : L2.St) (H : Hp) (cur : List Int) : Prop where
  len : env.length = σ.length
  sub : ∀ a o, F a = some o → H a = some o
  frm : ∀ a o, Hs a = some o → a ≠ x → a ≠ p → H a = some o
  val : ∀ (i : Nat) (d : D), env[i]? = some (Sl.val d) → ∃ v : V, σ[i]? = some (some v) ∧ RelD K F none d v
  nov : ∀ (i : Nat) (d : D), env[i]? ≠ some (Sl.own d)
  s : σ[0]? = some (some (V.ref x))
  hx : H x = some (.ins Cl' dx ((ns ++ [("sums" : Str)]).zip (vs ++ [.ref p])))
  hp : H p = some (.lst (cur.map V.int))
  ls : ns.length = vs.length
  rl : RelL K F none l vs
  fx : F x = none
  fp : F p = none
  xp : x ≠ p
  nt : ∀ a ps, F a ≠ some (.tbl ps)
section
variable {K : PySem.W.Frag} {F Hs : Hp} {x p dx : Addr} {ns : List Str} {vs : List V} {l : List D} {t : Ts} {env : En} {σ : L2.St} {H : Hp} {cur : List Int}
theorem Ls.seen (S : Ls K F Hs x p Cl' dx ns vs l t env σ H cur) : ∃ F2, Gr F none F2 none ∧ Cf K (B0 F2 none t.bare H) F2 none t.bare (env.set 0 (.val (.ins Cl' (ns ++ [("sums" : Str)]) (l ++ [.lst (cur.map .int)])))) σ H := by
  let F2 : Hp := upd (upd F p (.lst (cur.map V.int))) x (.ins Cl' dx ((ns ++ [("sums" : Str)]).zip (vs ++ [.ref p])))
  have g1 : Gf F (upd F p (.lst (cur.map V.int))) := Gf.upd S.fp
  have fx2 : (upd F p (.lst (cur.map V.int))) x = none := by rw [upd_ne S.xp]; exact S.fx
  have g2 : Gf (upd F p (.lst (cur.map V.int))) F2 := Gf.upd fx2
  have g : Gr F none F2 none := ⟨fun a o e => g2 a o (g1 a o e), rfl⟩
  have ep : F2 p = some (.lst (cur.map V.int)) := g2 _ _ upd_same
  have ex : F2 x = some (.ins Cl' dx ((ns ++ [("sums" : Str)]).zip (vs ++ [.ref p]))) := upd_same
  refine ⟨F2, g, ⟨by simp [S.len], fun a o e => ?_, fun _ _ e => e, fun _ _ e _ _ => e, fun a o e => .inl ⟨o, e⟩, fun a ha => ?_, fun i d e => ?_, fun i d e => ?_, fun i j d e a q => ?_, fun a e => ?_, rfl, TabF.nil, fun a ps e => ?_, fun a d e => (nomatch e), fun a ⟨d, e⟩ => (nomatch e), fun i d a e _ => rfl⟩⟩
  rotate_right
  · by_cases h1 : a = x
    · subst h1; rw [ex] at e; cases e
    · by_cases h2 : a = p
      · subst h2; rw [ep] at e; cases e
      · have : F2 a = F a := by show upd (upd F p _) x _ a = _; rw [upd_ne h1, upd_ne h2]
        rw [this] at e; exact S.nt a ps e
  · by_cases h1 : a = x
    · subst h1; rw [ex] at e; cases e; exact S.hx
    · by_cases h2 : a = p
      · subst h2; rw [ep] at e; cases e; exact S.hp
      · have : F2 a = F a := by show upd (upd F p _) x _ a = _; rw [upd_ne h1, upd_ne h2]
        rw [this] at e; exact S.sub a o e
  · simp [B0] at ha
  · rcases get_set e with ⟨rfl, z⟩ | ⟨ne, z⟩
    · cases z
      refine ⟨.ref x, S.s, ?_⟩
      unfold RelD
      refine ⟨x, dx, _, rfl, ex, by simp [S.ls], relL_snoc ?_ (RelL.mono g l vs S.rl)⟩
      unfold RelD
      exact ⟨p, _, rfl, ep, RelL.of_ints cur⟩
    · obtain ⟨v, h1, h2⟩ := S.val i d z
      exact ⟨v, h1, RelD.mono g d v h2⟩
  · rcases get_set e with ⟨_, z⟩ | ⟨_, z⟩
    · cases z
    · exact absurd z (S.nov i d)
  · rcases get_set q with ⟨_, z⟩ | ⟨_, z⟩
    · cases z
    · exact absurd z (S.nov i d)
  · cases e
theorem Ls.kept (S : Ls K F Hs x p Cl' dx ns vs l t env σ H cur) {H' : Hp} (g : Gf H H') : Ls K F Hs x p Cl' dx ns vs l t env σ H' cur :=
  ⟨S.len, fun a o e => g _ _ (S.sub a o e), fun a o e h1 h2 => g _ _ (S.frm a o e h1 h2), S.val, S.nov, S.s, g _ _ S.hx, g _ _ S.hp, S.ls, S.rl, S.fx, S.fp, S.xp, S.nt⟩
theorem Ls.setj (S : Ls K F Hs x p Cl' dx ns vs l t env σ H cur) {j : Nat} (hj : j ≠ 0) (b : Int) : Ls K F Hs x p Cl' dx ns vs l t (env.set j (.val (.int b))) (σ.set j (some (.int b))) H cur := by
  refine ⟨by simp [S.len], S.sub, S.frm, fun i d e => ?_, fun i d e => ?_, by rw [List.getElem?_set_ne hj]; exact S.s, S.hx, S.hp, S.ls, S.rl, S.fx, S.fp, S.xp, S.nt⟩
  · rcases get_set e with ⟨rfl, z⟩ | ⟨ne, z⟩
    · cases z
      have hi : j < env.length := by simpa using (List.getElem?_eq_some_iff.mp e).1
      exact ⟨.int b, by rw [List.getElem?_set_self (by rw [← S.len]; exact hi)], by unfold RelD; rfl⟩
    · obtain ⟨v, h1, h2⟩ := S.val i d z
      exact ⟨v, by rw [List.getElem?_set_ne ne]; exact h1, h2⟩
  · rcases get_set e with ⟨_, z⟩ | ⟨_, z⟩
    · cases z
    · exact S.nov i d z
theorem Ls.app (S : Ls K F Hs x p Cl' dx ns vs l t env σ H cur) (z : Int) : Ls K F Hs x p Cl' dx ns vs l t env σ (upd H p (.lst ((cur ++ [z]).map V.int))) (cur ++ [z]) :=
  ⟨S.len, fun a o e => by rw [upd_ne (ne_of_none e S.fp)]; exact S.sub a o e, fun a o e h1 h2 => by rw [upd_ne h2]; exact S.frm a o e h1 h2, S.val, S.nov, S.s, by rw [upd_ne S.xp]; exact S.hx, upd_same, S.ls, S.rl, S.fx, S.fp, S.xp, S.nt⟩
end
theorem intsD_map : ∀ bs : List Int, Q.intsD (bs.map .int) = some bs
  | [] => rfl
  | c :: r => by simp [Q.intsD, intsD_map r]
theorem set_self {α : Type} (l : List α) (i : Nat) : l = [] ∨ ∃ s, l.set i s = l := by
  by_cases h : i < l.length
  · exact .inr ⟨l[i], by simp⟩
  · cases l with
    | nil => exact .inl rfl
    | cons a r => exact .inr ⟨a, List.set_eq_of_length_le (by omega)⟩
theorem zip_look {α : Type} {f : Str} : ∀ {a : List Str} {b : List α} {y : α}, a.length = b.length → a.contains f = false → ((a ++ [f]).zip (b ++ [y])).lookup f = some y
  | [], [], y, _, _ => by simp [List.lookup]
  | g :: a, _ :: b, y, h, n => by
    have n2 : (f == g) = false ∧ a.contains f = false := by
      simp only [List.contains_cons, Bool.or_eq_false_iff] at n
      exact n
    show List.lookup f ((g, _) :: (a ++ [f]).zip (b ++ [y])) = _
    rw [List.lookup_cons, n2.1]
    exact zip_look (by simpa using h) n2.2
  | [], _ :: _, _, h, _ => by simp at h
  | _ :: _, [], _, h, _ => by simp at h
section
variable {o iter ecall tg : Expr} {de : DE} {ib j : Nat} {p1 p2 p3 p4 p5 : Pos}
theorem i_sums (h0 : PE X o (tVar 0)) (hb : PE X iter (tVar ib)) (hg : PG X tg (L2.gName j)) (hap : PE X ecall (tBM X.K "list" rAppend (tFld X.K (tVar 0) "sums") (tCons (teU X.K de) tNil))) (hde : SumsE Cl' j de) (cl : Cls X.K Cl') (na : NoAttr X.K Cl' "sums")
    (hpo : PassesOwn (model X.prog X.w) X.A X.env X.xe) (hc : X.calm = true) (hj : j ≠ 0) (hs : swapsWith (.List [] p1) (some (.Attribute o "sums" p2)) p3.line X.env = pure false := by rfl)
    (hsE : swapsWith ecall none p4.line X.env = pure false := by rfl) (hsF : ∀ x, foldedSetIterable iter X.env x = pure x := by intro _; rfl) :
    PSs X [.Assign [.Attribute o "sums" p2] (.List [] p1) p3, .For tg iter [.Expr ecall p4] [] p5] (tiS X.K Cl' (iSums ib j)) :=
  PSs.imp (pss_cons (ps_fld h0 (pe_lst pa_nil) hs) (pss_one (ps_for hpo hc (pi_any hb) hg (pss_one (ps_expr hap hsE)) hsF))) fun D σ H ⟨O, F0, H0, x, ns, l, F, t, env, k, S, h, R⟩ => by
    -- the numbers
    have hv : ∃ bs : List Int, ∃ a : Addr, σ[ib]? = some (some (V.ref a)) ∧ (F a = some (.lst (bs.map V.int)) ∨ F a = some (.tup (bs.map V.int))) ∧ bs.length ≤ 1000 ∧ (ns.contains ("sums" : Str) = false ∧ ns.length < 900 ∧ j < env.length) ∧ ∀ s, k (ns ++ [("sums" : Str)]) (l ++ [.lst ((sumsOf 0 bs).map .int)]) (env.set j s) t := by
      have ri : ∀ (bs : List Int) (us : List V), RelL X.K F none (bs.map .int) us → us = bs.map V.int := fun bs us r => RelL.intsD r (intsD_map bs)
      unfold iSums at h
      split at h
      · rename_i m e
        obtain ⟨bs, rfl, h1, h2, h3⟩ := h
        obtain ⟨v, e1, r⟩ := S.c.val _ _ e
        unfold RelD at r
        obtain ⟨a, us, rfl, e2, r2⟩ := r
        rw [ri bs us r2] at e2
        exact ⟨bs, a, e1, .inl e2, h1, h2, h3⟩
      · rename_i m e
        obtain ⟨bs, rfl, h1, h2, h3⟩ := h
        obtain ⟨v, e1, r⟩ := S.c.val _ _ e
        unfold RelD at r
        obtain ⟨a, us, rfl, e2, r2⟩ := r
        rw [ri bs us r2] at e2
        exact ⟨bs, a, e1, .inr e2, h1, h2, h3⟩
      · exact h.elim
    obtain ⟨bs, ab, hib, hab, hbl, ⟨hns, hnl, hjl⟩, hk⟩ := hv
    obtain ⟨dx, vs, hx, hlen, rl⟩ := S.ins
    refine ⟨Nat.zero_le _, fun p hp0 => ⟨.ref x, S.s, x, Cl', dx, _, rfl, by rw [upd_ne (ne_of_none hx hp0)]; exact hx, cl, na, by rw [List.length_zip]; omega, ?_⟩⟩
    rw [putF_new (zip_none hns), ← zip_snoc hlen]
    have xp : x ≠ p := ne_of_none hx hp0
    have fp : F p = none := (S.c.fresh hp0).1
    have L0 : Ls X.K F (upd (upd H p (.lst [])) x (.ins Cl' dx ((ns ++ [("sums" : Str)]).zip (vs ++ [.ref p])))) x p Cl' dx ns vs l t env σ (upd (upd H p (.lst [])) x (.ins Cl' dx ((ns ++ [("sums" : Str)]).zip (vs ++ [.ref p])))) [] :=
      ⟨S.c.len, fun a u e => by rw [upd_ne (ne_of_none e S.f), upd_ne (ne_of_none e fp)]; exact S.c.sub a u e, fun a u e _ _ => e, S.c.val, S.nov, S.s, upd_same, by rw [upd_ne (Ne.symm xp)]; exact upd_same, hlen, rl, S.f, fp, xp, S.c.ntb⟩
    generalize hHs : upd (upd H p (.lst [])) x (.ins Cl' dx ((ns ++ [("sums" : Str)]).zip (vs ++ [.ref p]))) = Hs at L0 ⊢
    have hfin : ∀ σ' H' s, Ls X.K F Hs x p Cl' dx ns vs l t (env.set j s) σ' H' (sumsOf 0 bs) → D.nx σ' H' := fun σ' H' s L => by
      refine R _ _ (upd F p (.lst ((sumsOf 0 bs).map V.int))) t (env.set j s) σ' H' ⟨⟨L.len, fun a u e => ?_, fun a u e => ?_, fun a u e hx' ho => ?_, fun a u e => ?_, fun a ha => ?_, fun i d e => ?_, fun i d e => absurd e (L.nov i d), fun i _ d _ _ q => absurd q (L.nov i d), fun a e => (by cases e), rfl, TabF.nil, fun a ps e => by
        by_cases ha : a = p
        · subst ha; rw [upd_same] at e; simp at e
        · rw [upd_ne ha] at e; exact S.c.ntb a ps e, fun a d q => by
        obtain ⟨h1, ⟨u, h2, h3⟩, h4⟩ := S.c.obs a d q
        have hax : a ≠ x := fun z => by rw [z, S.o] at q; simp at q
        have hap' : a ≠ p := ne_of_none h2 hp0
        refine ⟨by rw [upd_ne hap']; exact h1, ⟨u, L.frm a u ?_ hax hap', RelO1.mono ⟨Gf.upd fp, rfl⟩ d u h3⟩, h4⟩
        rw [← hHs, upd_ne hax, upd_ne hap']; exact h2, S.c.obx, fun i d a e => absurd e (L.nov i d)⟩, L.nov, ⟨dx, _, L.hx, by simp [hlen], ?_⟩, by rw [upd_ne xp]; exact S.f, L.s, S.o⟩ (hk s)
      · by_cases ha : a = p
        · subst ha; rw [upd_same] at e; cases e; exact L.hp
        · rw [upd_ne ha] at e; exact L.sub a u e
      · exact Gf.upd fp _ _ (S.c.bas a u e)
      · have h1 := S.c.frm a u e hx' ho
        have hax : a ≠ x := fun z => hx' (by rw [z]; exact List.mem_singleton.mpr rfl)
        have hap' : a ≠ p := ne_of_none h1 hp0
        refine L.frm a u ?_ hax hap'
        rw [← hHs, upd_ne hax, upd_ne hap']; exact h1
      · by_cases ha : a = p
        · subst ha; exact .inr (S.c.fresh hp0).2.1
        · rw [upd_ne ha] at e; exact S.c.new a u e
      · rw [List.mem_singleton.mp ha]; exact ⟨_, L.hx⟩
      · obtain ⟨v, h1, h2⟩ := L.val i d e
        exact ⟨v, h1, RelD.mono ⟨Gf.upd fp, rfl⟩ d v h2⟩
      · refine relL_snoc ?_ (RelL.mono ⟨Gf.upd fp, rfl⟩ l vs rl)
        unfold RelD
        exact ⟨p, _, rfl, upd_same, RelL.of_ints _⟩
    have ne0 : env ≠ [] := fun z => by
      have := S.c.len
      rw [z] at this
      have h2 := S.s
      have : σ = [] := List.eq_nil_of_length_eq_zero (by simpa using this.symm)
      rw [this] at h2; cases h2
    -- the loop
    have hloop : ∀ J, ItOk X.K J (bs.map .int) F none → ∃ W : Nat → Nat → L2.St → Hp → Prop, (∃ m, W 0 m σ Hs) ∧ ∀ i m σ H, W i m σ H →
        (J.stop i H ∧ D.nx σ H) ∨ (J.go i H ∧ ∃ N : L2.St → Hp → Prop, (∀ σ' H', N σ' H' → ∃ m', m' < m ∧ W (i + 1) m' σ' H') ∧ ∀ x H', J.yld i H x H' → L2.gName j x σ H' fun σ2 H2 => tDrop (tBM X.K "list" rAppend (tFld X.K (tVar 0) "sums") (tCons (teU X.K de) tNil)) { D with nx := N, ct := N, bk := D.nx } σ2 H2) := by
      intro J iok
      refine ⟨fun i m σ' H' => m = bs.length - i ∧ i ≤ bs.length ∧ ∃ s, Ls X.K F Hs x p Cl' dx ns vs l t (env.set j s) σ' H' (sumsOf 0 (bs.take i)), ?_, ?_⟩
      · rcases set_self env j with z | ⟨s, hs'⟩
        · exact absurd z ne0
        · exact ⟨_, rfl, Nat.zero_le _, s, by rw [hs']; exact L0⟩
      · rintro i m σ2 H2 ⟨rfl, hi, s, L⟩
        obtain ⟨F2, g2, C2⟩ := L.seen
        have io := iok _ F2 none t.bare _ σ2 H2 i g2 C2
        by_cases hlt : i < bs.length
        · have hb2 : (bs.map Q.D.int)[i]? = some (.int bs[i]) := by simp [hlt]
          obtain ⟨go, yl⟩ := io.2 _ hb2
          refine .inr ⟨go, fun σ' H' => ∃ m', m' < bs.length - i ∧ (m' = bs.length - (i + 1) ∧ i + 1 ≤ bs.length ∧ ∃ s, Ls X.K F Hs x p Cl' dx ns vs l t (env.set j s) σ' H' (sumsOf 0 (bs.take (i + 1)))), fun σ' H' z => z, fun xv H3 y => ?_⟩
          obtain ⟨gh, F3, _, _, _, rv⟩ := yl xv H3 y
          have exv : xv = .int bs[i] := by unfold RelD at rv; exact rv
          subst exv
          have L2' := (L.kept gh).setj hj bs[i]
          rw [List.set_set] at L2'
          obtain ⟨F4, _, C4⟩ := L2'.seen
          refine ⟨.ref x, L2'.s, x, Cl', dx, _, .ref p, rfl, L2'.hx, cl, na, zip_look hlen hns, Or.inl ⟨rfl, _, SqL.of L2'.hp⟩, ?_⟩
          refine ⟨B0 F4 none t.bare H3, F4, none, t.bare, _, fun d t2 => d = .int (bs[i] - 1 + (sumsOf 0 (bs.take i)).getLastD 0) ∧ t2 = t.bare, C4, ?_, ?_⟩
          · refine hde _ t.bare _ (ns ++ [("sums" : Str)]) (l ++ [.lst ((sumsOf 0 (bs.take i)).map .int)]) (sumsOf 0 (bs.take i)) bs[i] ?_ ?_ ?_ ⟨rfl, rfl⟩
            · rw [List.getElem?_set_self (by simp; omega)]
            · exact zip_look (hlen.trans (RelL.len rl)) hns
            · rw [List.getElem?_set_ne (Ne.symm hj), List.getElem?_set_self hjl]
          · rintro v d F5 pa5 t5 H5 g5 C5 r5 ⟨rfl, rfl⟩
            have ev : v = .int (bs[i] - 1 + (sumsOf 0 (bs.take i)).getLastD 0) := by unfold RelD at r5; exact r5
            subst ev
            have gh5 : Gf H3 H5 := fun a u e => C5.frm a u e (by simp [B0]) (fun ⟨d, z⟩ => by cases z)
            have L3 := L2'.kept gh5
            refine ⟨p, _, _, rfl, rfl, L3.hp, ?_, ?_⟩
            · simp only [List.length_map, sumsOf_len, List.length_take]
              unfold sizeLine
              omega
            · have L4 := L3.app (bs[i] - 1 + (sumsOf 0 (bs.take i)).getLastD 0)
              rw [List.map_append] at L4
              rw [show (sumsOf 0 (bs.take i)) ++ [bs[i] - 1 + (sumsOf 0 (bs.take i)).getLastD 0] = sumsOf 0 (bs.take (i + 1)) from ?_] at L4
              · refine ⟨bs.length - (i + 1), by omega, rfl, hlt, .val (.int bs[i]), ?_⟩
                exact L4
              · rw [List.take_add_one, List.getElem?_eq_getElem hlt]
                show _ = sumsOf 0 (bs.take i ++ [bs[i]])
                rw [sumsOf_snoc]
                refine congrArg (fun z => _ ++ [z]) ?_
                omega
        · have e : i = bs.length := by omega
          subst e
          rw [List.take_length] at L
          exact .inl ⟨io.1 (by simp), hfin _ _ _ L⟩
    rcases hab with hab | hab
    · refine ⟨.ref ab, hib, ab, rfl, .inl ⟨⟨_, SqL.of (L0.sub _ _ hab)⟩, hloop _ (it_list (SqL.of hab) (RelL.of_ints bs))⟩⟩
    · refine ⟨.ref ab, hib, ab, rfl, .inr ⟨⟨_, SqT.of (L0.sub _ _ hab)⟩, hloop _ (it_tup hab (RelL.of_ints bs))⟩⟩
end
end
end Q
namespace Q
open PySem L2 PyProof.Rows
section
variable {P : Program} {w : World} {K : PySem.W.Frag} {mg : Str → Option Value} {base : Heap}
theorem start0_nov {N : List Str} {ds : List D} (j : Nat) (d : D) : (start0 N ds)[j]? ≠ some (Sl.own d) := fun e => by
  unfold start0 at e
  by_cases hi : j < ds.length
  · rw [List.getElem?_append_left (by simpa using hi), List.getElem?_map] at e
    cases q : ds[j]? with
    | none => rw [q] at e; cases e
    | some y => rw [q] at e; cases e
  · rw [List.getElem?_append_right (by simpa using hi), List.getElem?_replicate] at e
    split at e <;> cases e
theorem is_start {F : Hp} {pa : Option Addr} {t : Ts} {H : Hp} {N : List Str} {n : Str} {ds : List D} {us : List V} {x dx C' : Addr} (C : Cf K (B0 F pa t H) F pa t [] [] H) (hox : t.obs x = none) (np : nopens ds = true) (r : RelL K F pa ds us) (hx : H x = some (.ins C' dx [])) (h1 : F x = none) :
    Is K t.dom F H x C' [] [] F t (startI x N ds) (start (n :: N) (.ref x :: us)) H := by
  have r0 := RelL.un ds us np r
  have C0 : Cf K (B0 F none t H) F none t [] [] H := ⟨rfl, C.sub, C.bas, fun _ _ e _ _ => e, fun a o e => .inl ⟨o, e⟩, fun a ha => by simp [B0] at ha, fun i d e => by simp at e, fun i d e => by simp at e, C.sep, fun a e => (by cases e), rfl, TabF.nil, C.ntb, fun a d q => by
    obtain ⟨h1, ⟨u, h2, h3⟩, h4, h5, h6⟩ := C.obs a d q
    exact ⟨h1, ⟨u, h2, RelO1.un h6 h3⟩, (by simp), h5, h6⟩, fun a e => e, fun i d a e => by simp at e⟩
  have S := cf_start (N := N) C0 r0
  have e2 : start (n :: N) (.ref x :: us) = some (V.ref x) :: start N us := by
    unfold L2.start
    simp
  have nov : ∀ (i : Nat) (d : D), (startI x N ds)[i]? ≠ some (Sl.own d) := fun i d e => by
    cases i with
    | zero => cases e
    | succ i => exact start0_nov i d e
  rw [e2]
  refine ⟨⟨by simpa [startI] using S.len, S.sub, fun _ _ e => e, fun a o e hp _ => e, fun a o e => .inl ⟨o, e⟩, fun a ha => ?_, fun i d e => ?_, fun i d e => absurd e (nov i d), fun i j d e a q1 => absurd q1 (nov i d), fun a e => (by cases e), rfl, TabF.nil, C.ntb, C0.obs, C0.obx, fun i d a e => absurd e (nov i d)⟩, nov, ⟨dx, [], hx, rfl, RelL.nil⟩, h1, rfl, hox⟩
  · rw [List.mem_singleton.mp ha]; exact ⟨_, hx⟩
  · cases i with
    | zero => cases e; exact ⟨.ref x, rfl, by unfold RelD; rfl⟩
    | succ i => exact S.val i d e
theorem fn_okI {x qual : Str} {st : Stmt} {f C' : Addr} {fd : FuncData} {n : Str} {N ps : List Str} {k : Nat} {sp : PSp} {ds : IS} (Fu : Fun K x qual st f fd) (S : FnScope (n :: N) ps (defScope st)) (len : ∀ as t Q, sp as t Q → as.length + 1 = ps.length)
    (hnp : ∀ as t Q, sp as t Q → nopens as = true)
    (hbody : ∀ (cdv : Value) (A : Around) (outer : List PySem.Env) (s : Shared) (H : Hp) (E : XK), Room k (A.deeper (envOfC qual (defScope st) s.heap.objs.size f cdv)) →
      PSs (cxOf CX0 P w K mg base (n :: N) qual (defScope st) f cdv A outer s H E).nox (defBody st) (tiS K C' ds))
    (hds : ∀ as t Q x, sp as t Q → ds (fun ns l env t' => t' = t ∧ Q (.ins C' ns l) t) [] [] (startI x N as) t) : FnOk P w K mg base CX0 (k + 1) f fd ps (liftI K C' sp) := by
  refine Fu.ok S (fun vs H Q E h => ?_) (fun cdv A outer s H vs Q E hr h => ?_)
  · obtain ⟨x, dx, us, F, pa, t, as, R, rfl, hx, h1, h2, h3, C, r, q, _⟩ := h
    rw [List.length_cons, r.len]; exact len as t R q
  · obtain ⟨x, dx, us, F, pa, t, as, R, rfl, hx, h1, h2, hox, C, r, q, fin⟩ := h
    refine ⟨_, hbody cdv A outer s H E hr, t.dom, F, H, x, [], [], F, t, startI x N as, _, is_start C hox (hnp as t R q) r hx h1, hds as t R x q, fun ns' l' F' t' env' σ' H' S' h' => ?_⟩
    obtain ⟨rfl, h'⟩ := h'
    obtain ⟨dx', vs', e1, e2, e3⟩ := S'.ins
    have kp : ∀ a o, H a = some o → a ≠ x → ¬ t'.dom a → H' a = some o := fun a o e ne ho => S'.c.frm a o e (fun z => ne (List.mem_singleton.mp z)) ho
    refine fin _ (.ins C' ns' l') F' pa t' H' ⟨rfl, S'.c.sub, S'.c.bas, fun a o e hp ho => ?_, S'.c.new, fun a ha => ?_, fun i d e => by simp at e, fun i d e => by simp at e, fun i j d e a q => by simp at q, fun a e => ?_, rfl, TabF.nil, S'.c.ntb, fun a d q => by
      obtain ⟨h1, ⟨u, h2, h3⟩, _, h5, h6⟩ := S'.c.obs a d q
      exact ⟨h1, ⟨u, h2, RelO1.up h3⟩, (C.obs a d q).2.2.1, h5, h6⟩, S'.c.obx, fun i d a e => by simp at e⟩ S'.f h2 S'.o e1 ⟨dx', vs', rfl, e2, RelL.up l' vs' e3⟩ h'
    · exact kp a o e (fun z => hp (by rw [z]; exact List.mem_cons_self ..)) ho
    · rcases List.mem_cons.mp ha with z | z
      · rw [z]; exact ⟨_, e1⟩
      · obtain ⟨o, e⟩ := C.exl a z
        by_cases hax : a = x
        · rw [hax]; exact ⟨_, e1⟩
        · by_cases hd : t'.dom a
          · obtain ⟨d, q⟩ := hd
            obtain ⟨_, ⟨u, q2, _⟩, _⟩ := S'.c.obs a d q
            exact ⟨u, q2⟩
          · exact ⟨o, kp a o e hax hd⟩
    · obtain ⟨h3, ⟨h, h4, h5⟩, h6⟩ := C.pen a e
      have hax : a ≠ x := fun z => h2 (by rw [← z]; exact e)
      refine ⟨?_, ⟨h, kp a h h4 hax (fun ⟨d, q⟩ => (C.obs a d q).2.2.1 e), h5.mono S'.c.bas⟩, .inl (List.mem_cons_of_mem _ (mem_pa.mpr e))⟩
      cases q2 : F' a with
      | none => rfl
      | some o =>
        rcases S'.c.new a o q2 with ⟨o', z⟩ | z
        · rw [show (BX t'.dom F H x).F a = F a from rfl, h3] at z; cases z
        · rw [show (BX t'.dom F H x).H a = H a from rfl, h4] at z; cases z
end
end Q
/-! QH13 -/
namespace Q
open PySem L2 PyProof.Rows
end Q
/-! QH14 -/
namespace Q
open PySem L2 PyProof.Rows
section
variable {X : Cx} {B : Bs} {K : PySem.W.Frag}
theorem vals_pick {vs : List V} {us : List Value} (r : Vals vs us) : ∀ ix : List Nat, Vals (pick ix vs) (pick ix us)
  | [] => .nil
  | i :: ix => by
    unfold pick
    rw [List.filterMap_cons, List.filterMap_cons]
    have ih := vals_pick r ix
    unfold pick at ih
    have hl := r.length
    by_cases h : i < vs.length
    · obtain ⟨u, h1, h2⟩ : ∃ u, us[i]? = some u ∧ RelV vs[i] u := by
        clear ih hl
        induction r generalizing i with
        | nil => simp at h
        | cons a b ih => 
          cases i with
          | zero => exact ⟨_, rfl, a⟩
          | succ i => exact ih i (by simpa using h)
      rw [List.getElem?_eq_getElem h, h1]
      exact .cons h2 ih
    · rw [List.getElem?_eq_none (by omega), List.getElem?_eq_none (by omega)]
      exact ih
theorem relL_pick {F : Hp} {pa : Option Addr} {ds : List D} {vs : List V} (r : RelL K F pa ds vs) : ∀ ix : List Nat, RelL K F pa (pick ix ds) (pick ix vs)
  | [] => RelL.nil
  | i :: ix => by
    unfold pick
    rw [List.filterMap_cons, List.filterMap_cons]
    have ih := relL_pick r ix
    unfold pick at ih
    have hl := r.len
    cases h : ds[i]? with
    | some d =>
      obtain ⟨v, h1, h2⟩ := r.get h
      rw [h1]
      exact RelL.cons h2 ih
    | none =>
      rw [List.getElem?_eq_none (by have := List.getElem?_eq_none_iff.mp h; omega)]
      exact ih
abbrev QK (X : Cx) (B : Bs) (kws : List Keyword) (da : DA) : Prop := PK X kws (taOf X.K B da)
theorem q_knil : QK X B [] dNil := ⟨fun pos pins s σ H Q I ⟨F, pa, t, env, P, C, hd, k⟩ => pk_nil.run pos pins s σ H Q I (k [] [] F pa t H (Gr.refl _ _) C RelL.nil hd)⟩
theorem PK.imp {kws : List Keyword} {t t' : TA} (h : PK X kws t) (i : ∀ σ H Q, t' σ H Q → t σ H Q) : PK X kws t' := ⟨fun pos pins s σ H Q I q => h.run pos pins s σ H Q I (i σ H Q q)⟩
theorem q_kcons {nm : Option Str} {e : Expr} {kpos : Pos} {kws : List Keyword} {da : DE} {as : DA} (ha : QE X B e da) (hr : QK X B kws as) : QK X B (⟨nm, e, kpos⟩ :: kws) (dCons da as) :=
  PK.imp (pk_cons ha hr) fun σ H Q ⟨F, pa, t, env, P, C, hd, k⟩ => ⟨F, pa, t, env, _, C, hd, fun v x F1 pa1 t1 H1 g1 C1 r1 q1 => ⟨F1, pa1, t1, env, _, C1, q1, fun vs xs F2 pa2 t2 H2 g2 C2 r2 q2 => k (v :: vs) (x :: xs) F2 pa2 t2 H2 (g1.trans g2) C2 (RelL.cons (RelD.mono g2 _ _ r1) r2) q2⟩⟩
end
end Q
/-! QH15 -/
namespace Q
open PySem L2 PyProof.Rows
end Q
/-! QH16 -/
namespace Q
open PySem L2 PyProof.Rows
end Q
/-! QH17 -/
namespace Q
open PySem L2 PyProof.Rows
section
variable {X : Cx} {B : Bs} {K : PySem.W.Frag} {a b c e o : Expr} {es : List Expr} {pos : Pos} {da db dc : DE} {as : DA}
def RelM (K : PySem.W.Frag) (B : Bs) (F : Hp) (pa : Option Addr) (t : Ts) (env : En) (σ : L2.St) (H : Hp) : List Bool → List D → List V → Prop
  | [], [], [] => True
  | false :: bs, d :: ds, v :: vs => RelD K F pa d v ∧ RelM K B F pa t env σ H bs ds vs
  | true :: bs, d :: ds, v :: vs => (∃ p h, v = .ref p ∧ Nw B F pa t env σ p ∧ H p = some h ∧ RelO1 K F pa d h ∧ ∀ j : Nat, bs[j]? = some true → vs[j]? ≠ some (.ref p)) ∧ RelM K B F pa t env σ H bs ds vs
  | _, _, _ => False
def tamOf (K : PySem.W.Frag) (B : Bs) (bs : List Bool) (da : DA) : TA := fun σ H Q => ∃ F pa t env P, Cf K B F pa t env σ H ∧ da env t P ∧
  ∀ vs ds F' pa' t' H', Gr F pa F' pa' → Cf K B F' pa' t' env σ H' → RelM K B F' pa' t' env σ H' bs ds vs → P ds t' → Q vs H'
abbrev QM (X : Cx) (B : Bs) (bs : List Bool) (es : List Expr) (da : DA) : Prop := PA X es (tamOf X.K B bs da)
theorem q_mnil : QM X B [] [] dNil := PA.imp pa_nil fun σ H Q ⟨F, pa, t, env, P, C, hd, k⟩ => k [] [] F pa t H (Gr.refl _ _) C True.intro hd
theorem q_mconsV {bs : List Bool} {r : DA} (ha : QE X B e da) (hr : QM X B bs es r) (hs : starEach (e :: es) X.env = (false, eval e X.env) :: starEach es X.env := by rfl) : QM X B (false :: bs) (e :: es) (dCons da r) := PA.imp (pa_cons ha hr hs) fun σ H Q ⟨F, pa, t, env, P, C, hd, k⟩ =>
  ⟨F, pa, t, env, _, C, hd, fun v d F1 pa1 t1 H1 g1 C1 r1 q1 => ⟨F1, pa1, t1, env, _, C1, q1, fun vs ds F2 pa2 t2 H2 g2 C2 r2 q2 => k (v :: vs) (d :: ds) F2 pa2 t2 H2 (g1.trans g2) C2 ⟨RelD.mono g2 d v r1, r2⟩ q2⟩⟩
theorem RelM.up {F1 F2 : Hp} {pa1 pa2 : Option Addr} {t1 t2 : Ts} {env : En} {σ : L2.St} {H1 H2 : Hp} {p : Addr} {h : HO} (C1 : Cf K B F1 pa1 t1 env σ H1) (hp : H1 p = some h) : ∀ {bs : List Bool} {ds : List D} {vs : List V}, RelM K (Bk F1 pa1 t1 env σ H1) F2 pa2 t2 env σ H2 bs ds vs →
    RelM K B F2 pa2 t2 env σ H2 bs ds vs ∧ ∀ j : Nat, bs[j]? = some true → vs[j]? ≠ some (.ref p)
  | [], [], [], _ => ⟨True.intro, fun j hj => by simp at hj⟩
  | false :: bs, d :: ds, v :: vs, r => by
    obtain ⟨r1, r2⟩ := r
    obtain ⟨i1, i2⟩ := RelM.up C1 hp r2
    refine ⟨⟨r1, i1⟩, fun j hj => ?_⟩
    cases j with
    | zero => simp at hj
    | succ j => simpa using i2 j (by simpa using hj)
  | true :: bs, d :: ds, v :: vs, r => by
    obtain ⟨⟨q, h', rfl, n, e, r1, hd⟩, r2⟩ := r
    obtain ⟨i1, i2⟩ := RelM.up C1 hp r2
    have hq : H1 q = none := n.b
    refine ⟨⟨⟨q, h', rfl, ⟨n.f, (C1.fresh hq).2.1, n.a, n.s, n.o⟩, e, r1, hd⟩, i1⟩, fun j hj => ?_⟩
    cases j with
    | zero =>
      intro z
      simp at z
      rw [z, hp] at hq
      cases hq
    | succ j => simpa using i2 j (by simpa using hj)
  | [], [], _ :: _, r => r.elim
  | [], _ :: _, vs, r => by cases vs <;> exact r.elim
  | b :: _, [], vs, r => by cases b <;> cases vs <;> exact r.elim
  | b :: _, _ :: _, [], r => by cases b <;> exact r.elim
theorem q_mconsN {bs : List Bool} {r : DA} (ha : QN X B e da) (hr : ∀ B', QM X B' bs es r) (hs : starEach (e :: es) X.env = (false, eval e X.env) :: starEach es X.env := by rfl) : QM X B (true :: bs) (e :: es) (dCons da r) :=
  PA.imp (pa_cons (t := fun σ H Q => ∃ B', tamOf X.K B' bs r σ H Q) ha ⟨fun pos pins s σ H Q I ⟨B', q⟩ => (hr B').run pos pins s σ H Q I q⟩ hs) fun σ H Q ⟨F, pa, t, env, P, C, hd, k⟩ =>
  ⟨F, pa, t, env, _, C, hd, fun p h d F1 pa1 t1 H1 g1 C1 n1 e1 r1 q1 => ⟨_, F1, pa1, t1, env, _, C1.block [], q1, fun vs ds F2 pa2 t2 H2 g2 C2 r2 q2 => by
    obtain ⟨g3, C3⟩ := C1.join (vs := []) C2 rfl rfl
    have dn : p ∉ (Bk F1 pa1 t1 env σ H1).ex := fun z => by
      rcases List.mem_append.mp z with z | z
      · exact n1.a (mem_pa.mp z)
      · obtain ⟨j, d', h1, h2⟩ := mem_ownA.mp z
        exact n1.s j d' h1 h2
    have e2 : H2 p = some h := C2.frm p _ e1 dn (fun ⟨d, z⟩ => by rw [n1.o] at z; cases z)
    have n2 : Nw B F2 pa2 t2 env σ p := by
      refine ⟨?_, n1.b, fun z => ?_, n1.s, noo_of n1.o C2 e1⟩
      · cases z : F2 p with
        | none => rfl
        | some o =>
          rcases C2.new p o z with ⟨o', q⟩ | q
          · have q : F1 p = some o' := q
            rw [n1.f] at q; cases q
          · have q : H1 p = none := q
            rw [e1] at q; cases q
      · rcases (C2.pen p z).2.2 with q | q
        · exact dn q
        · have q : H1 p = none := q
          rw [e1] at q; cases q
    obtain ⟨i1, i2⟩ := RelM.up C1 e1 r2
    exact k (.ref p :: vs) (d :: ds) F2 pa2 t2 H2 (g1.trans g3) C3 ⟨⟨p, h, rfl, n2, e2, RelO1.mono g3 d h r1, i2⟩, i1⟩ q2⟩⟩
theorem Cf.setM1 {F : Hp} {pa : Option Addr} {t : Ts} {env : En} {σ : L2.St} {H : Hp} (C : Cf K B F pa t env σ H) {i : Nat} {b : Bool} {d : D} {v : V} {bs : List Bool} {ds : List D} {vs : List V} (r : RelM K B F pa t env σ H (b :: bs) (d :: ds) (v :: vs)) :
    Cf K B F pa t (env.set i (mSl b d)) (σ.set i (some v)) H ∧ RelM K B F pa t (env.set i (mSl b d)) (σ.set i (some v)) H bs ds vs := by
  have keep : ∀ (e' : En) (σ' : L2.St), (∀ p, (∀ j : Nat, b = true → v ≠ .ref p) → Nw B F pa t env σ p → Nw B F pa t e' σ' p) → (∀ p, (v = .ref p → b = true → False) → Nw B F pa t env σ p → Nw B F pa t e' σ' p) → True := fun _ _ _ _ => True.intro
  cases b with
  | false =>
    obtain ⟨r1, r2⟩ := r
    refine ⟨C.setV i r1, ?_⟩
    have nw : ∀ p, Nw B F pa t env σ p → Nw B F pa t (env.set i (.val d)) (σ.set i (some v)) p := fun p n => by
      refine ⟨n.f, n.b, n.a, fun j e hj hs => ?_, n.o⟩
      rcases get_set hj with ⟨_, z⟩ | ⟨ne, z⟩
      · cases z
      · rw [List.getElem?_set_ne ne] at hs
        exact n.s j e z hs
    have go : ∀ (bs : List Bool) (ds : List D) (vs : List V), RelM K B F pa t env σ H bs ds vs → RelM K B F pa t (env.set i (.val d)) (σ.set i (some v)) H bs ds vs := by
      intro bs
      induction bs with
      | nil => intro ds vs r; cases ds <;> cases vs <;> exact r
      | cons b bs ih =>
        intro ds vs r
        cases ds with
        | nil => cases b <;> cases r
        | cons d' ds =>
          cases vs with
          | nil => cases b <;> cases r
          | cons v' vs =>
            cases b with
            | false => exact ⟨r.1, ih _ _ r.2⟩
            | true =>
              obtain ⟨⟨p, h, e, n, q⟩, r2⟩ := r
              exact ⟨⟨p, h, e, nw p n, q⟩, ih _ _ r2⟩
    exact go bs ds vs r2
  | true =>
    obtain ⟨⟨p, h, rfl, n, e, r1, hd⟩, r2⟩ := r
    refine ⟨C.setN i n e r1, ?_⟩
    have nw : ∀ q, q ≠ p → Nw B F pa t env σ q → Nw B F pa t (env.set i (.own d)) (σ.set i (some (.ref p))) q := fun q hq n => by
      refine ⟨n.f, n.b, n.a, fun j e hj hs => ?_, n.o⟩
      rcases get_set hs with ⟨_, z⟩ | ⟨ne, z⟩
      · cases z
        exact hq rfl
      · rw [List.getElem?_set_ne ne] at hj
        exact n.s j e hj z
    have go : ∀ (bs : List Bool) (ds : List D) (vs : List V), (∀ j : Nat, bs[j]? = some true → vs[j]? ≠ some (.ref p)) → RelM K B F pa t env σ H bs ds vs → RelM K B F pa t (env.set i (.own d)) (σ.set i (some (.ref p))) H bs ds vs := by
      intro bs
      induction bs with
      | nil => intro ds vs _ r; cases ds <;> cases vs <;> exact r
      | cons b bs ih =>
        intro ds vs hd r
        have hd' : ∀ (v' : V) (vs' : List V), vs = v' :: vs' → ∀ j : Nat, bs[j]? = some true → vs'[j]? ≠ some (.ref p) := fun v' vs' ev j hj => by
          have := hd (j + 1) (by simpa using hj)
          rw [ev] at this
          simpa using this
        cases ds with
        | nil => cases b <;> cases r
        | cons d' ds =>
          cases vs with
          | nil => cases b <;> cases r
          | cons v' vs =>
            cases b with
            | false => exact ⟨r.1, ih _ _ (hd' v' vs rfl) r.2⟩
            | true =>
              obtain ⟨⟨q, h', e', n', z⟩, r2⟩ := r
              have hq : q ≠ p := fun y => by
                have := hd 0 rfl
                rw [e', y] at this
                exact this rfl
              exact ⟨⟨q, h', e', nw q hq n', z⟩, ih _ _ (hd' v' vs rfl) r2⟩
    exact go bs ds vs hd r2
theorem RelM.len {F : Hp} {pa : Option Addr} {t : Ts} {env : En} {σ : L2.St} {H : Hp} : ∀ {bs : List Bool} {ds : List D} {vs : List V}, RelM K B F pa t env σ H bs ds vs → ds.length = bs.length ∧ vs.length = bs.length
  | [], [], [], _ => ⟨rfl, rfl⟩
  | false :: bs, d :: ds, v :: vs, r => by
    obtain ⟨i1, i2⟩ := RelM.len r.2
    exact ⟨by simp [i1], by simp [i2]⟩
  | true :: bs, d :: ds, v :: vs, r => by
    obtain ⟨i1, i2⟩ := RelM.len r.2
    exact ⟨by simp [i1], by simp [i2]⟩
  | [], [], _ :: _, r => r.elim
  | [], _ :: _, vs, r => by cases vs <;> exact r.elim
  | b :: _, [], vs, r => by cases b <;> cases vs <;> exact r.elim
  | b :: _, _ :: _, [], r => by cases b <;> exact r.elim
theorem pair_of {F0 F : Hp} {pa0 pa : Option Addr} {t : Ts} {env : En} {σ : L2.St} {H : Hp} {T : Addr} {d1 d2 : D} {x y : V} (C : Cf K B F pa t env σ H) (hT : H T = none) (r1 : RelD K F pa d1 x) (r2 : RelD K F pa d2 y) :
    Gf H (upd H T (.tup [x, y])) ∧ ∃ F', (∀ a o, F' a = some o → (∃ o', F a = some o') ∨ H a = none) ∧ Gr F pa F' pa ∧ Cf K B F' pa t env σ (upd H T (.tup [x, y])) ∧ RelD K F' pa (.tup [d1, d2]) (.ref T) := by
  obtain ⟨g', C'⟩ := C.alloc (.tup [x, y]) hT
  refine ⟨fun b o z => by rw [upd_ne (ne_of_none z hT)]; exact z, _, fun b o z => ?_, g', C', ?_⟩
  · by_cases hb : b = T
    · rw [hb]; exact .inr hT
    · rw [upd_ne hb] at z
      exact .inl ⟨o, z⟩
  · unfold RelD
    exact ⟨T, _, rfl, upd_same, RelL.mono g' _ _ (RelL.cons r1 (RelL.cons r2 RelL.nil))⟩
end
end Q
/-! QH18 -/
namespace Q
open PySem L2 PyProof.Rows
section
variable {X : Cx} {B : Bs} {K : PySem.W.Frag} {a b c e o : Expr} {es : List Expr} {pos : Pos} {da db dc dk : DE} {as : DA}
def IteT (K : PySem.W.Frag) (a : Addr) : It :=
  ⟨fun i H => ∃ (xs : List V) (x : V), SqT K H a xs ∧ xs[i]? = some x,
   fun i H v H' => ∃ T x, v = .ref T ∧ H T = none ∧ H' = upd H T (.tup [.int ((i : Nat) : Int), x]) ∧ ∀ xs, SqT K H a xs → xs[i]? = some x,
   fun i H => ∃ xs : List V, SqT K H a xs ∧ xs.length = i⟩
def EnT (a e it : Addr) (i : Nat) (h : Heap) : Prop := (∃ v0, IsEnum h e it (i : Nat) v0) ∧ h.IsTupleIter it a i ∧ e ≠ it
theorem turn_enumT {P : Program} {w : World} {K : PySem.W.Frag} {elts : List Expr} {kk : Nat} {tpos : Pos} (a e it : Addr) : Turn P w K (.Tuple elts kk tpos) (IteT K a) [e, it] e (EnT a e it) := by
  have two : ∀ {b : Addr}, b ∈ [e, it] → b = e ∨ b = it := fun h => by simpa using h
  refine ⟨List.mem_cons_self .., fun i h st b hb => ?_, fun i h h' st k => ?_, ?_, ?_, fun A i s Q E st h => ?_⟩
  · obtain ⟨⟨v0, h1⟩, ⟨o, h2, _, h3⟩, _⟩ := st
    rcases two hb with rfl | rfl
    · exact ⟨_, h1, fun _ z => by cases z⟩
    · exact ⟨o, h2, fun _ z => by rw [h3] at z; cases z⟩
  · obtain ⟨⟨v0, h1⟩, h2, h3⟩ := st
    exact ⟨⟨v0, k e (List.mem_cons_self ..) _ h1⟩, h2.at fun o z => k it (List.mem_cons_of_mem _ (List.mem_cons_self ..)) o z, h3⟩
  · intro X hP hw hK hcalm i pins s σ H E I free st go
    subst hP hw hK
    obtain ⟨⟨v0, h1⟩, h2, h3⟩ := st
    obtain ⟨xs, x, hq, hx⟩ := go
    obtain ⟨its, rv, p, hz⟩ := I.tuple hq
    obtain ⟨u, hu, ru⟩ := rv.get hx
    have le : e < s.heap.objs.size := Heap.lt_size h1
    have nia : a ≠ it := by
      rintro rfl
      obtain ⟨o1, z1, c1, _⟩ := p
      obtain ⟨o2, z2, c2, _⟩ := h2
      rw [z1] at z2
      cases z2
      rw [c1] at c2
      simp at c2
    have nea : e ≠ a := by
      rintro rfl
      obtain ⟨o1, z1, c1, _⟩ := p
      rw [h1] at z1
      cases z1
      simp at c1
    have Dr := Draws.tuple (prog := X.prog) (w := X.w) (A := X.A.in1) (I.ok.hd hcalm) it a nia its.toArray
    refine wpAny_pyNext_enum_itemC (i := i) Dr h1 ⟨h2, p⟩ (by have := (List.getElem?_eq_some_iff.mp hu).1; simpa using this) h3 (by simp [h3, nea]) fun y h' tk hy ho hst hT hsz hk => ?_
    have hyu : y = u := by
      have : its.toArray[i]? = some u := by simpa using hu
      rw [this] at hy
      cases hy
      rfl
    subst hyu
    refine ⟨_, rfl, wpAny_letOwnedTupleGo_enum (s := { s with heap := h', toks := tk + 1 }) ho fun h'' he' sb => ?_⟩
    have hT2 := (sb.2 _ (Nat.ne_of_gt le)).trans hT
    have new : ObjOk X.prog X.w (upd H s.heap.objs.size (.tup [.int ((i : Nat) : Int), x])) h'' s.heap.objs.size (.tup [.int ((i : Nat) : Int), x]) := ⟨by show 2 ≤ sizeLine; decide, _, .cons ⟨tk, rfl⟩ (.cons ru .nil), _, hT2, rfl, _, rfl⟩
    have J : Inv X pins σ (upd H s.heap.objs.size (.tup [.int ((i : Nat) : Int), x])) { s with heap := h'', toks := tk + 1 } := by
      refine I.turnedNew (ch := [e, it]) (fun b ob hb q => ?_) free (Nat.le_refl _) new
      have n1 : b ≠ e := fun z => hb (by simp [z])
      have n2 : b ≠ it := fun z => hb (by simp [z])
      exact (sb.2 b n1).trans (hk b ob n1 n2 q)
    refine ⟨.ref s.heap.objs.size, _, J, rfl, ⟨_, x, rfl, I.hok.fresh (Nat.le_refl _), rfl, fun ys hy => ?_⟩, ⟨⟨y, ?_⟩, hst.1.at fun o q => (sb.2 it (Ne.symm h3)).trans q, h3⟩, fun b hb => ?_⟩
    · rw [I.tuple_inj hy hq]; exact hx
    · rw [show ((i + 1 : Nat) : Int) = (i : Int) + 1 by omega]
      exact he'
    · have lb : b < s.heap.objs.size := by
        rcases two hb with rfl | rfl
        · assumption
        · obtain ⟨_, z, _⟩ := h2
          exact Heap.lt_size z
      rw [upd_ne (Nat.ne_of_lt lb)]
      exact (free b hb).1
  · intro X hP hw hK hcalm i pins s σ H E I free st go
    subst hP hw hK
    obtain ⟨⟨v0, h1⟩, h2, h3⟩ := st
    obtain ⟨xs, hq, hx⟩ := go
    obtain ⟨its, rv, p, hz⟩ := I.tuple hq
    have nia : a ≠ it := by
      rintro rfl
      obtain ⟨o1, z1, c1, _⟩ := p
      obtain ⟨o2, z2, c2, _⟩ := h2
      rw [z1] at z2
      cases z2
      rw [c1] at c2
      simp at c2
    obtain ⟨f0, f1, f2, f3, f4, f5⟩ := free it (List.mem_cons_of_mem _ (List.mem_cons_self ..))
    have hl := rv.length
    have Dr := Draws.tuple (prog := X.prog) (w := X.w) (A := X.A.in1) (I.ok.hd hcalm) it a nia its.toArray
    refine wpAny_pyNext_enum_endD Dr h1 ⟨?_, p⟩ fun h' eb => ⟨rfl, I.turned (t' := s.toks) (fun b o hb q => eb b o hb q) f0 f1 f3 f4 f5⟩
    rw [show its.toArray.size = i by simp; omega]
    exact h2
  · obtain ⟨⟨v0, h1⟩, h2, h3⟩ := st
    exact wpAny_pyIter_enum h1 h
set_option maxHeartbeats 1000000 in
theorem meets_enumerate_newB0 {v : Value} {o : Obj} {H : Heap → Prop} (B : Begins v o H) :
    Meets (Builtin.«enumerate.__new__» ⟨[.type "enumerate", v], []⟩) (fun _ R s => H s.heap ∧
      R (.ok (.ret (.ref (s.heap.push o).objs.size))) { s with heap := (s.heap.push o).push { cls := .type "enumerate", data := .fields #[.none, .bool false, .ref s.heap.objs.size, rawInt 0, .none, .none] } }) :=
  .of_wp fun prog w A R s h => by
    obtain ⟨hp, g, d, tk, os⟩ := s; obtain ⟨h1, h⟩ := h
    have hsub := sub_enumerate
    have q1 : ∀ {A' : Around} {E : Value → Shared → Prop} {Q : Value → Shared → Prop}, Q (.ref hp.objs.size) ⟨hp.push o, g, d, tk, os⟩ → wpAny (model prog w) A' (pyIter v) Q E ⟨hp, g, d, tk, os⟩ :=
      fun q => B.iter prog w _ _ ⟨hp, g, d, tk, os⟩ _ h1 q
    wp_walk using q1
    refine wpAny_stack_any fun st => wpAny_pure ?_
    split
    · rename_i c _ _ _ _ _
      cases (c == Value.type "enumerate")
      · wp_walk using q1
        exact ⟨_, rfl, h⟩
      · wp_walk using q1
        exact ⟨_, rfl, h⟩
    · wp_walk using q1
      exact ⟨_, rfl, h⟩
theorem enumerate_begins {prog : Program} {w : World} {A : Around} {E : Value → Shared → Prop} {s : Shared} {v : Value} {o : Obj} {H : Heap → Prop} {Q : Value → Shared → Prop} (B : Begins v o H) (h1 : H s.heap)
    (h : ∀ h', IsEnum h' (s.heap.objs.size + 1) s.heap.objs.size 0 .none → h'.get? s.heap.objs.size = some o → h'.objs.size = s.heap.objs.size + 2 →
      (∀ b o, s.heap.get? b = some o → h'.get? b = some o) → Q (.ref (s.heap.objs.size + 1)) { s with heap := h' }) :
    wpAny (model prog w) A (call (.type "enumerate") [v]) Q E s := by
  refine callType_new F.called_enumerate (by decide) (F.typeCall_enumerate_1 _) (F.newCall_enumerate_1 _) (fun obj => F.args_object_init_2 obj _) F.entry_enumerate_new
    (meets_enumerate_newB0 B) ⟨h1, ?_⟩
  have hz : (s.heap.push o).objs.size = s.heap.objs.size + 1 := Heap.size_push ..
  show _ ∧ _
  rw [hz]
  have he : IsEnum ((s.heap.push o).push { cls := .type "enumerate", data := .fields #[.none, .bool false, .ref s.heap.objs.size, rawInt 0, .none, .none] }) (s.heap.objs.size + 1) s.heap.objs.size 0 .none := by
    have := Heap.get?_push_size (s.heap.push o) (o := { cls := .type "enumerate", data := .fields #[.none, .bool false, .ref s.heap.objs.size, rawInt 0, .none, .none] }) rfl
    rw [hz] at this; exact this
  refine ⟨⟨_, he, rfl⟩, h _ he (Heap.get?_push_of_some _ (Heap.get?_push_size _ B.free)) (by rw [Heap.size_push, hz]) fun b o x => Heap.get?_push_of_some _ (Heap.get?_push_of_some _ x)⟩
def iEnA (K : PySem.W.Frag) (ta : TA) : TI := fun σ H R => ta σ H fun vs H1 => ∃ a xs, vs = [.ref a] ∧ ((SqL K H1 a xs ∧ R (Ite K a) H1) ∨ (SqT K H1 a xs ∧ R (IteT K a) H1))
theorem pi_enumA {ta : TA} {p tpos : Pos} {elts : List Expr} {kk : Nat} (hg : Gl X "enumerate") (hm : X.mg "enumerate" = none) (ha : PA X [e] ta) (hs : starEach [e] X.env = [(false, eval e X.env)] := by rfl) :
    PI X (.Tuple elts kk tpos) (.Call (.Name "enumerate" p) [e] [] pos) (iEnA X.K ta) := by
  refine ⟨fun pins s σ H R I h => ?_⟩
  refine Call_ (ld_blt I hg hm boot_enumerate (PyProof.Rows.callWith_type1 (thn (ha.run pos pins s σ H _ I h) fun us s1 ⟨vs, H1, I1, r1, q1⟩ => ?_) hs rfl))
  obtain ⟨a, xs, ex, q1⟩ := q1
  subst ex
  cases r1 with
  | cons r rr =>
    cases rr
    cases r
    have fr : ∀ b, b ∈ [s1.heap.objs.size + 1, s1.heap.objs.size] → FpOk X pins H1 b := fun b hb => by
      have e' : b = s1.heap.objs.size + 1 ∨ b = s1.heap.objs.size := by simpa using hb
      have hle : s1.heap.objs.size ≤ b := by
        rcases e' with z | z
        · rw [z]; exact Nat.le_add_right _ _
        · rw [z]; exact Nat.le_refl _
      exact I1.fpOk hle (I1.hok.fresh hle)
    rcases q1 with ⟨hq, q⟩ | ⟨hq, q⟩
    · obtain ⟨its, rv, p', hz⟩ := I1.list hq
      refine call_enumerate_list p'.isList fun h' he hit hsz hk => wpAny_pyIter_enum he ?_
      have I2 : Inv X pins σ H1 { s1 with heap := h' } := I1.kept (t' := s1.toks) hk
      exact ⟨s1.heap.objs.size + 1, [s1.heap.objs.size + 1, s1.heap.objs.size], _, _, H1, rfl, I2, turn_enum a (s1.heap.objs.size + 1) s1.heap.objs.size, ⟨⟨.none, he⟩, hit, Nat.succ_ne_self _⟩, fr, q⟩
    · obtain ⟨its, rv, p', hz⟩ := I1.tuple hq
      refine enumerate_begins (begins_tuple a its.toArray) p' fun h' he hit hsz hk => wpAny_pyIter_enum he ?_
      have I2 : Inv X pins σ H1 { s1 with heap := h' } := I1.kept (t' := s1.toks) hk
      exact ⟨s1.heap.objs.size + 1, [s1.heap.objs.size + 1, s1.heap.objs.size], _, _, H1, rfl, I2, turn_enumT a (s1.heap.objs.size + 1) s1.heap.objs.size, ⟨⟨.none, he⟩, ⟨_, hit, rfl, rfl⟩, Nat.succ_ne_self _⟩, fr, q⟩
theorem it_enum0 {F0 : Hp} {pa0 : Option Addr} {a : Addr} {l : List D} {vs : List V} (e : SqL K F0 a vs) (r : RelL K F0 pa0 l vs) : ItOk K (Ite K a) (enumL 0 l) F0 pa0 := fun B F pa t env σ H i g C => by
  have eH : SqL K H a vs := sq_mono C.sub (sq_mono g.f e)
  have hl := r.len
  refine ⟨fun hi => ⟨vs, eH, by rw [enumL_len] at hi; omega⟩, fun d hd => ?_⟩
  rw [enumL_get] at hd
  cases q : l[i]? with
  | none => rw [q] at hd; cases hd
  | some d0 =>
    rw [q] at hd
    cases hd
    obtain ⟨v, hv, rv⟩ := r.get q
    refine ⟨⟨vs, v, eH, hv⟩, fun x H' y => ?_⟩
    obtain ⟨T, x0, rfl, hT, rfl, hx⟩ := y
    have := hx vs eH
    rw [hv] at this
    cases this
    rw [Int.zero_add]
    exact pair_of (F0 := F0) (pa0 := pa0) C hT (rD_int _) (RelD.mono g d0 v rv)
theorem it_enumT {F0 : Hp} {pa0 : Option Addr} {a : Addr} {l : List D} {vs : List V} (e : F0 a = some (.tup vs)) (r : RelL K F0 pa0 l vs) : ItOk K (IteT K a) (enumL 0 l) F0 pa0 := fun B F pa t env σ H i g C => by
  have eH : SqT K H a vs := SqT.of (C.sub _ _ (g.f _ _ e))
  have hl := r.len
  refine ⟨fun hi => ⟨vs, eH, by rw [enumL_len] at hi; omega⟩, fun d hd => ?_⟩
  rw [enumL_get] at hd
  cases q : l[i]? with
  | none => rw [q] at hd; cases hd
  | some d0 =>
    rw [q] at hd
    cases hd
    obtain ⟨v, hv, rv⟩ := r.get q
    refine ⟨⟨vs, v, eH, hv⟩, fun x H' y => ?_⟩
    obtain ⟨T, x0, rfl, hT, rfl, hx⟩ := y
    have := hx vs eH
    rw [hv] at this
    cases this
    rw [Int.zero_add]
    exact pair_of (F0 := F0) (pa0 := pa0) C hT (rD_int _) (RelD.mono g d0 v rv)
theorem q_ienum0 {elts : List Expr} {kk : Nat} {p tpos : Pos} (hg : Gl X "enumerate") (hm : X.mg "enumerate" = none) (he : QE X B e da) (hs : starEach [e] X.env = [(false, eval e X.env)] := by rfl)
    (hs' : starEach (e :: []) X.env = (false, eval e X.env) :: starEach [] X.env := by rfl) : QI X B (.Tuple elts kk tpos) (.Call (.Name "enumerate" p) [e] [] pos) (iEnum0 da) :=
  PI.imp (pi_enumA hg hm (pa_cons he pa_nil hs') hs) fun σ H R ⟨F, pa, t, env, P, C, h, k⟩ => ⟨F, pa, t, env, _, C, h, fun v d F' pa' t' H' g C' r q => by
    cases d with
    | lst l =>
      have r' := r
      unfold RelD at r'
      obtain ⟨a, vs, rfl, e1, r1⟩ := r'
      exact ⟨a, vs, rfl, .inl ⟨SqL.of (C'.sub _ _ e1), k _ _ F' pa' t' H' g C' (it_enum0 (SqL.of e1) r1) q⟩⟩
    | tup l =>
      have r' := r
      unfold RelD at r'
      obtain ⟨a, vs, rfl, e1, r1⟩ := r'
      exact ⟨a, vs, rfl, .inr ⟨SqT.of (C'.sub _ _ e1), k _ _ F' pa' t' H' g C' (it_enumT e1 r1) q⟩⟩
    | _ => exact q.elim⟩
end
end Q
/-! QH19 -/
namespace Q
open PySem L2 PyProof.Rows
section
variable {X : Cx} {B : Bs} {K : PySem.W.Frag} {a b c e o : Expr} {es : List Expr} {pos : Pos} {da db dc dk : DE} {as : DA}
def setS : List Nat → L2.St → List V → L2.St
  | i :: r, σ, u :: us => setS r (σ.set i (some u)) us
  | _, σ, _ => σ
def tNm (l : List Nat) : TGs := fun us σ H Q => us.length = l.length ∧ Q (setS l σ us) H
theorem q_nmnil : PGs X [] (tNm []) := PGs.imp pgs_nil fun us σ H Q ⟨hl, q⟩ => by
  cases us with
  | nil => exact ⟨rfl, q⟩
  | cons u us => simp at hl
theorem q_nmcons {i : Nat} {l : List Nat} (h1 : PG X e (L2.gName i)) (h2 : PGs X es (tNm l)) (hs : (assignEach (e :: es) X.env).map (·.2) = assign e X.env :: (assignEach es X.env).map (·.2) := by rfl) : PGs X (e :: es) (tNm (i :: l)) :=
  PGs.imp (pgs_cons h1 h2 hs) fun us σ H Q ⟨hl, q⟩ => by
    cases us with
    | nil => simp at hl
    | cons u us => exact ⟨u, us, rfl, by simpa using hl, q⟩
theorem RelM.heap {F : Hp} {pa : Option Addr} {t : Ts} {env : En} {σ : L2.St} {H H' : Hp} (hk : ∀ a o, H a = some o → H' a = some o) : ∀ {bs : List Bool} {ds : List D} {vs : List V}, RelM K B F pa t env σ H bs ds vs → RelM K B F pa t env σ H' bs ds vs
  | [], [], [], _ => True.intro
  | false :: bs, d :: ds, v :: vs, r => ⟨r.1, RelM.heap hk r.2⟩
  | true :: bs, d :: ds, v :: vs, r => by
    obtain ⟨⟨p, h, e, n, e1, r1, q⟩, r2⟩ := r
    exact ⟨⟨p, h, e, n, hk _ _ e1, r1, q⟩, RelM.heap hk r2⟩
  | [], [], _ :: _, r => r.elim
  | [], _ :: _, vs, r => by cases vs <;> exact r.elim
  | b :: _, [], vs, r => by cases b <;> cases vs <;> exact r.elim
  | b :: _, _ :: _, [], r => by cases b <;> exact r.elim
theorem Cf.setMs {F : Hp} {pa : Option Addr} {t : Ts} {H : Hp} : ∀ {l : List (Nat × Bool)} {ds : List D} {vs : List V} {env : En} {σ : L2.St}, Cf K B F pa t env σ H → RelM K B F pa t env σ H (l.map (·.2)) ds vs → Cf K B F pa t (setM l env ds) (setS (l.map (·.1)) σ vs) H
  | [], [], [], env, σ, C, _ => C
  | (i, b) :: l, d :: ds, v :: vs, env, σ, C, r => by
    obtain ⟨C1, r1⟩ := C.setM1 (i := i) r
    have q := Cf.setMs (l := l) (env := env.set i (mSl b d)) (σ := σ.set i (some v)) C1 r1
    exact q
  | [], [], _ :: _, _, _, _, r => r.elim
  | [], _ :: _, vs, _, _, _, r => by cases vs <;> exact r.elim
  | (_, b) :: _, [], vs, _, _, _, r => by cases b <;> cases vs <;> exact r.elim
  | (_, b) :: _, _ :: _, [], _, _, _, r => by cases b <;> exact r.elim
theorem q_asgM {l : List (Nat × Bool)} {tg : List Expr} {kt k2 : Nat} {pt pt2 : Pos} (hc : X.calm = true) (ha : QM X B (l.map (·.2)) es as) (hg : PGs X tg (tNm (l.map (·.1)))) (hn : (assignEach tg X.env).length = l.length := by rfl) (hst : (assignEach tg X.env).findIdx? (·.1) = none := by rfl) (hz : l.length ≤ 900 := by decide)
    (hs : swapsWithSole [.Tuple tg kt pt] (.Tuple es k2 pt2) pos.line X.env = pure false := by rfl) (hw : swappedStores [.Tuple tg kt pt] (.Tuple es k2 pt2) X.env = pure none := by rfl)
    (h1 : (assignEach [.Tuple tg kt pt] X.env).map (·.2) = [assign (.Tuple tg kt pt) X.env] := by rfl) : QS X B (.Assign [.Tuple tg kt pt] (.Tuple es k2 pt2) pos) (dParM l as) :=
  PS.imp (ps_asg (pe_tup ha) (pg_tup (n := l.length) hc hg hn hst) hs hw h1) fun D σ H ⟨F, pa, t, env, DD, C, h, R⟩ => ⟨F, pa, t, env, _, C, h, fun vs ds F1 pa1 t1 H1 g1 C1 r1 q1 => by
    obtain ⟨l1, l2⟩ := r1.len
    rw [List.length_map] at l1 l2
    have e : Nat.beq ds.length l.length = true := by rw [l1]; exact Nat.beq_refl _
    rw [e] at q1
    refine ⟨by rw [l2]; exact Nat.le_trans hz (by decide), fun T hT => ⟨T, vs, rfl, SqT.of upd_same, l2, by rw [List.length_map]; exact l2, ?_⟩⟩
    have C2 := C1.loose (.tup vs) hT
    have r2 := RelM.heap (H' := upd H1 T (.tup vs)) (fun a o z => by rw [upd_ne (ne_of_none z hT)]; exact z) r1
    exact R.nx F1 pa1 t1 _ _ _ g1 (C2.setMs r2) q1⟩
end
end Q
/-! QH20 -/
namespace Q
open PySem L2 PyProof.Rows
end Q
/-! QH21 -/
namespace Q
open PySem L2 PyProof.Rows
end Q
/-! QH22 -/
namespace Q
open PySem L2 PyProof.Rows
end Q
/-! QH23 -/
namespace L2
open PySem PySem.Spec PyProof.Rows
end L2
namespace Q
open PySem L2 PyProof.Rows
end Q
/-! QH24 -/
namespace Q
open PySem L2 PyProof.Rows
end Q
/-! QH25 -/
namespace L2
open PySem PySem.Spec PyProof.Rows
end L2
namespace Q
open PySem L2 PyProof.Rows
end Q
/-! QH26 -/
namespace Q
open PySem L2 PyProof.Rows PySem.Spec
structure RoomG (k : Nat) (A : Around) : Prop where
  room : Room k A
  idle : A.guards = some []
theorem RoomG.mono {j k : Nat} {A : Around} (r : RoomG k A) (h : j ≤ k) : RoomG j A := ⟨r.room.mono h, r.idle⟩
structure FnOkG (P : Program) (w : World) (K : PySem.W.Frag) (mg : Str → Option Value) (base : Heap) (CX : CXT) (k : Nat) (f : Addr) (fd : FuncData) (ps : List Str) (sp : Sp) : Prop where
  len : ∀ vs H Q E, sp vs H Q E → vs.length = ps.length
  goes : ∀ (A : Around), RoomG k A → ∀ (outer : List PySem.Env) (s : Shared) (H : Hp), Env0 P w K mg base A outer s H → ∀ (args : Args) (us : List Value) (vs : List V), Vals vs us → BindsTo s fd args (ps.zip us) →
    ∀ (R : VK) (E : XK), sp vs H R E → codeAny (model P w) A (.call (.ref f) args) (CR CX outer P w H s R E) s
section
variable {P : Program} {w : World} {K : PySem.W.Frag} {mg : Str → Option Value} {base : Heap} {CX : CXT} {k : Nat} {f : Addr} {fd : FuncData} {ps : List Str} {sp : Sp}
theorem FnOkG.of (F : FnOk P w K mg base CX k f fd ps sp) : FnOkG P w K mg base CX k f fd ps sp where
  len := F.len
  goes A r outer s H e args us vs rel b R E h := F.run A outer s H args us vs R E r.room e b rel h
end
section
variable {X : Cx} {CX : CXT} {k : Nat} {f : Addr} {fd : FuncData} {ps : List Str} {sp : Sp} {E : XK} {ds : List Value} {dvs : List V} {x : Str} {p pos : Pos} {e : Expr} {es : List Expr} {t : TA}
theorem FnOkG.call (F : FnOkG X.prog X.w X.K X.mg X.base CX k f fd ps sp) (r : RoomG k X.A) (b : Binds X.K fd ps ds) (d : Vals dvs ds) (px : Passes CX X E) {pins : List (Addr × Obj)} {σ : L2.St} {H : Hp} {s : Shared} {R : VK} {us : List Value} {vs : List V}
    (I : Inv X pins σ H s) (rv : Vals vs us) (h : sp (vs ++ dvs) H R E) : wpAny (model X.prog X.w) X.A (call (.ref f) us) (EP X pins σ R) X.xe s :=
  have rall : Vals (vs ++ dvs) (us ++ ds) := rv.append d
  have bs := b s us I.kIn (by have := F.len _ _ _ _ h; have e := rall.length; omega)
  wpAny_call (codeAny_mono (F.goes X.A r X.stack s H I.env0 ⟨us, []⟩ _ _ rall bs R E h) fun res s' q =>
    match res, q with
    | .ok (.ret _), q => I.after q
    | .ok .next, q => q.elim
    | .ok .brk, q => q.elim
    | .ok .cont, q => q.elim
    | .error ex, q => px pins σ H s ex s' I q)
theorem FnOkG.pe (F : FnOkG X.prog X.w X.K X.mg X.base CX k f fd ps sp) (r : RoomG k X.A) (gl : Gl X x) (gm : X.mg x = some (.ref f)) (kp : PySem.W.keepIn X.K (.ref f) = true) (b : Binds X.K fd ps ds) (d : Vals dvs ds) (px : Passes CX X E)
    (ha : PA X (e :: es) t) (nd : (x == ("__debug__" : Str)) = false) (st : starEach (e :: es) X.env = (false, eval e X.env) :: starEach es X.env) (pl : (backTo pos (starEach es X.env)).any (·.1) = false) :
    PE X (.Call (.Name x p) (e :: es) [] pos) (tCall sp dvs E t) where
  run pins s σ H R I h := wpAny_Call_Name_kw (ld_glob I gl gm (PySem.W.callWith_K (h₀ := X.base) I.ok.mod.kin kp
    (thn (ha.run pos pins s σ H _ I h) fun us s1 q => by
      obtain ⟨vs, H1, J, rv, q⟩ := q
      exact ⟨J.kIn, F.call r b d px J rv q⟩) st pl) nd)
end
section
variable {P : Program} {w : World} {K : PySem.W.Frag} {mg : Str → Option Value} {base : Heap}
theorem par_kind {N ps : List Str} {scope : Scope} (S : FnScope N ps scope) (us : List Value) (n : Nat) : ∀ y ∈ ps.zip us, scope.names.lookup y.1 = some .local ∨ (scope.names.lookup y.1 = some .cell ∧ ((cellsFrom n scope.names []).lookup y.1).isSome = true) := by
  intro y hy
  have hp := S.par y.1 (List.of_mem_zip (a := y.1) (b := y.2) hy).1
  exact hp.imp id fun c => ⟨c, PySem.W.cellsFrom_some _ _ _ (.inl c)⟩
theorem Fun.okG {x qual : Str} {st : Stmt} {f : Addr} {fd : FuncData} {N ps : List Str} {k : Nat} {sp : Sp} (Fu : Fun K x qual st f fd) (S : FnScope N ps (defScope st)) (len : ∀ vs H R E, sp vs H R E → vs.length = ps.length)
    (hbody : ∀ (cdv : Value) (A : Around) (outer : List PySem.Env) (s : Shared) (H : Hp) (vs : List V) (R : VK) (E : XK), RoomG k (A.deeper (envOfC qual (defScope st) s.heap.objs.size f cdv)) → sp vs H R E →
      ∃ t, PSs (cxOf CX0 P w K mg base N qual (defScope st) f cdv A outer s H E).nox (defBody st) t ∧ t { nx := fun _ H' => R .non H', rt := R } (start N vs) H) : FnOkG P w K mg base CX0 (k + 1) f fd ps sp where
  len := len
  goes A r outer s H e args us vs rel b R E h := by
    obtain ⟨oc, od, kV, doc, pm, an, cdv, ct, osl, rfl, lk, hcd⟩ := Fu.ex
    obtain ⟨t, ht, hq⟩ := hbody cdv A outer s H vs R E ⟨r.room.deeper _, r.idle⟩ h
    have there : ∀ c o, base.get? c = some o → s.heap.get? c = some o := fun c o g => (e.bs c o g).1
    have inK := e.mod.kin.keeps there
    have noL := e.mod.nolimit.keeps there
    refine codeAny_call_function r.room.depth (inK f _ lk) rfl S.co S.gen rfl (PySem.W.codeRec_of inK hcd) (b _ _ _ _ ?_)
    refine wpAny_newFunctionEnv_cells S.kind (par_kind S us _) ?_
    rintro env rfl s1 made
    refine ⟨noL.keeps made.toInCall.keep, codeAny_func ?_⟩
    have go := ht.nox.run [] s1 (start N vs) H _ (inv_start S (r.room.deeper (envOfC qual (defScope st) s.heap.objs.size f cdv)).hd e (len _ _ _ _ h) rel made) hq
    refine wpAny_mono go ?_ fun _ _ z => z
    rintro (_ | _ | _ | u) s' z
    · obtain ⟨σ', H', J, q⟩ := z
      exact ⟨.non, H', J.os, J.bare, J.base, J.hok, rfl, q⟩
    · obtain ⟨_, _, _, q⟩ := z
      exact q.elim
    · obtain ⟨_, _, _, q⟩ := z
      exact q.elim
    · obtain ⟨v, σ', H', J, rv, q⟩ := z
      exact ⟨v, H', J.os, J.bare, J.base, J.hok, rv, q⟩
def scrH (K : PySem.W.Frag) (a : Addr) (o : Obj) (ns : List Int) : Hp := fun b => if b = a ∧ K.lookup a = none then some (.frz o (.lst (ns.map V.int))) else none
theorem scrH_inv {K : PySem.W.Frag} {a b : Addr} {o : Obj} {ns : List Int} {u : HO} (h : scrH K a o ns b = some u) : b = a ∧ K.lookup a = none ∧ u = .frz o (.lst (ns.map V.int)) := by
  unfold scrH at h
  split at h
  · rename_i c; cases h; exact ⟨c.1, c.2, rfl⟩
  · cases h
theorem scrH_only (K : PySem.W.Frag) (a : Addr) (o : Obj) (ns : List Int) : Only (scrH K a o ns) := fun b => by
  cases q : scrH K a o ns b with
  | none => exact .inl rfl
  | some u => exact .inr ⟨o, _, congrArg some (scrH_inv q).2.2⟩
theorem scrH_none {K : PySem.W.Frag} {a b : Addr} {o : Obj} {ns : List Int} (h : b = a → K.lookup a ≠ none) : scrH K a o ns b = none := if_neg fun c => h c.1 c.2
abbrev scrO (vs : List Value) : Obj := { cls := .type "list", data := .seq vs.toArray }
end
section
variable {P : Program} {w : World} {K : PySem.W.Frag} {mg : Str → Option Value} {base : Heap}
theorem fn_okG {x qual : Str} {st : Stmt} {f : Addr} {fd : FuncData} {N ps : List Str} {k : Nat} {sp : PSp} {ds : DS} (Fu : Fun K x qual st f fd) (S : FnScope N ps (defScope st)) (len : ∀ as t Q, sp as t Q → as.length = ps.length)
    (hbody : ∀ (cdv : Value) (A : Around) (outer : List PySem.Env) (s : Shared) (H : Hp) (E : XK) (B : Bs), RoomG k (A.deeper (envOfC qual (defScope st) s.heap.objs.size f cdv)) → B.Top → B.m = false →
      QSs (cxOf CX0 P w K mg base N qual (defScope st) f cdv A outer s H E).nox B (defBody st) ds)
    (hds : ∀ as t Q, sp as t Q → ds (endsOf Q) (start0 N as) t) : FnOkG P w K mg base CX0 (k + 1) f fd ps (lift K sp) := by
  refine Fun.okG Fu S (fun vs H Q E h => ?_) (fun cdv A outer s H vs Q E hr h => ?_)
  · obtain ⟨F, pa, t, as, R, C, r, q, _⟩ := h
    rw [r.len]; exact len as t R q
  · obtain ⟨F, pa, t, as, R, C, r, q, fin⟩ := h
    refine ⟨_, hbody cdv A outer s H E (B0 F pa t H) hr (B0.top F pa t H) rfl, F, pa, t, start0 N as, endsOf R, cf_start C r, hds as t R q, ⟨?_, ?_, ?_, ?_⟩⟩
    · intro F' pa' t' env σ H' g C' q'
      exact fin .non .non F' pa' t' H' C'.nil rD_non q'
    · intro v d F' pa' t' env σ H' g C' r' q'
      exact fin v d F' pa' t' H' C'.nil r' q'
    · intro F' pa' t' env σ H' g C' q'
      exact q'.elim
    · intro F' pa' t' env σ H' g C' q'
      exact q'.elim
end
section
variable {X : Cx} {CX : CXT} {B : Bs} {k : Nat} {f : Addr} {fd : FuncData} {ps : List Str} {sp : PSp} {E : XK} {ds : List Value} {dvs : List V} {dds : List D} {x : Str} {p pos : Pos} {e : Expr} {es : List Expr} {as : DA}
theorem q_callG (F : FnOkG X.prog X.w X.K X.mg X.base CX k f fd ps (lift X.K sp)) (hr : RoomG k X.A) (hg : Gl X x) (hm : X.mg x = some (.ref f)) (hk : PySem.W.keepIn X.K (.ref f) = true) (hb : Binds X.K fd ps ds) (hd : Vals dvs ds) (hD : ∀ F pa, RelL X.K F pa dds dvs) (hx : Passes CX X E)
    (ha : QA X B (e :: es) as) (hdb : (x == ("__debug__" : Str)) = false := by decide) (he : starEach (e :: es) X.env = (false, eval e X.env) :: starEach es X.env := by rfl) (hpl : (backTo pos (starEach es X.env)).any (·.1) = false := by rfl) :
    QE X B (.Call (.Name x p) (e :: es) [] pos) (dCall sp dds as) := PE.imp (F.pe hr hg hm hk hb hd hx ha hdb he hpl) (ev_call hD)
def rReprD (K : PySem.W.Frag) : List V → Hp → VK → Prop := fun xs H Q => ∃ v d, xs = [v] ∧ Dp K H v d ∧ d.showable = true ∧ d.hasDict = false ∧ d.depth ≤ 60 ∧ d.shown.length ≤ sizeLine ∧ Q (.str d.shown) H
theorem call_reprD (hg : X.A.guards = some []) (hu : X.A.units + 64 < cLine) : CallR X (.builtin "repr") (rReprD X.K) := by
  intro pins s σ H xs us Q I r h
  obtain ⟨v, d, rfl, hv, hs, hd, dd, hz, q⟩ := h
  obtain ⟨u, rfl, ru⟩ := vals1 r
  obtain ⟨rs, reads⟩ := Dp.reads I d v u hv ru
  have fin : ∀ {a : Addr}, u = .ref a → wpAny (model X.prog X.w) X.A (PySem.call (.builtin "repr") [u]) (EP X pins σ Q) X.xe s := fun {a} e => by
    subst e
    exact repr_of_reads' reads hs (PyData.noDict_hsm hd) hg (by omega) (fun _ _ z => z) (fun h' u tk keep => ⟨.str d.shown, H, I.kept keep, ⟨u, rfl⟩, q⟩) hz
  cases hv with
  | non =>
    obtain rfl : u = Value.none := ru
    exact PySem.P.repr_of_none ⟨.str _, H, I.tok _, ⟨_, rfl⟩, q⟩
  | bl b =>
    obtain rfl : u = Value.bool b := ru
    cases b
    · exact PySem.P.repr_of_bool ⟨.str _, H, I.tok _, ⟨_, rfl⟩, q⟩
    · exact PySem.P.repr_of_bool ⟨.str _, H, I.tok _, ⟨_, rfl⟩, q⟩
  | int i =>
    obtain ⟨t, rfl⟩ := ru
    exact PySem.P.repr_of_int (by simpa [PyData.showable] using hs) ⟨.str _, H, I.tok _, ⟨_, rfl⟩, q⟩
  | str x =>
    obtain ⟨t, rfl⟩ := ru
    exact PySem.P.repr_of_str ⟨.str _, H, I.tok _, ⟨_, rfl⟩, q⟩ hz
  | lst h1 h2 => exact fin ru
  | tup h1 h2 => exact fin ru
mutual
theorem rs_show : ∀ d : D, plain d = true → rsOk d → (toPy d).showable = true
  | .non, _, _ => rfl
  | .bl _, _, _ => rfl
  | .int i, _, h => by
    have h : i.natAbs < 2 ^ 1900 := h
    show decide (i.natAbs.log2 < 1920) = true
    rw [decide_eq_true_eq]
    exact log2_small (Nat.lt_trans h (Nat.pow_lt_pow_right (by decide) (by decide)))
  | .str _, _, _ => rfl
  | .lst l, p, h => by simp only [toPy, PyData.showable]; exact rss_show l (by simpa [plain] using p) (by simpa [rsOk] using h)
  | .tup l, p, h => by simp only [toPy, PyData.showable]; exact rss_show l (by simpa [plain] using p) (by simpa [rsOk] using h)
  | .dic _ _, p, _ => by simp [plain] at p
  | .ins _ _ _, p, _ => by simp [plain] at p
  | .pen, p, _ => by simp [plain] at p
  | .ty _, p, _ => by simp [plain] at p
  | .adr _, p, _ => by simp [plain] at p
  | .scr _, p, _ => by simp [plain] at p
  | .rp _, p, _ => by simp [plain] at p
  | .fl _, p, _ => by simp [plain] at p
  | .ob _ _, p, _ => by simp [plain] at p
theorem rss_show : ∀ l : List D, plains l = true → rssOk l → PyData.showableAll (toPys l) = true
  | [], _, _ => rfl
  | d :: l, p, h => by
    simp only [plains, Bool.and_eq_true] at p
    simp only [rssOk] at h
    simp only [toPys, PyData.showableAll, Bool.and_eq_true]
    exact ⟨rs_show d p.1 h.1, rss_show l p.2 h.2⟩
end
theorem shown_lens : ∀ l : List D, (∀ d ∈ l, (toPy d).shown.length ≤ rsz d) → ((PyData.shownAll (toPys l)).map (·.length)).sum + 2 * (PyData.shownAll (toPys l)).length ≤ rszs l
  | [], _ => by simp [toPys, PyData.shownAll, rszs]
  | d :: l, h => by
    have h1 := h d List.mem_cons_self
    have h2 := shown_lens l fun e he => h e (List.mem_cons_of_mem _ he)
    simp only [toPys, PyData.shownAll, List.map_cons, List.sum_cons, List.length_cons, rszs]
    omega
mutual
theorem rs_len : ∀ d : D, plain d = true → rsOk d → (toPy d).shown.length ≤ rsz d
  | .non, _, _ => by simp only [toPy, PyData.shown, rsz]; decide
  | .bl b, _, _ => by cases b <;> simp only [toPy, PyData.shown, rsz] <;> decide
  | .int i, p, h => by
    have hs : decide (i.natAbs.log2 < 1920) = true := rs_show (.int i) p h
    exact int_text_len_1921 (of_decide_eq_true hs)
  | .str x, p, _ => by
    have hp : x.cps.all (· < 0x110000) = true := p
    have := StrLaws.reprText_len x fun c hc => by
      rw [Array.all_eq_true_iff_forall_mem] at hp
      have := hp c (Array.mem_toList_iff.mp hc)
      have h2 : c < 0x110000 := of_decide_eq_true this
      exact Nat.lt_trans h2 (by decide)
    show (reprText x).length ≤ 10 * x.length + 5
    omega
  | .lst l, p, h => by
    have := shown_lens l (rss_len l (by simpa [plain] using p) (by simpa [rsOk] using h))
    have h2 := listText_len_le (PyData.shownAll (toPys l))
    simp only [toPy, PyData.shown, rsz]
    omega
  | .tup l, p, h => by
    have := shown_lens l (rss_len l (by simpa [plain] using p) (by simpa [rsOk] using h))
    have h2 := tupleText_len_le (PyData.shownAll (toPys l))
    simp only [toPy, PyData.shown, rsz]
    omega
  | .dic _ _, p, _ => by simp [plain] at p
  | .ins _ _ _, p, _ => by simp [plain] at p
  | .pen, p, _ => by simp [plain] at p
  | .ty _, p, _ => by simp [plain] at p
  | .adr _, p, _ => by simp [plain] at p
  | .scr _, p, _ => by simp [plain] at p
  | .rp _, p, _ => by simp [plain] at p
  | .fl _, p, _ => by simp [plain] at p
  | .ob _ _, p, _ => by simp [plain] at p
theorem rss_len : ∀ l : List D, plains l = true → rssOk l → ∀ d ∈ l, (toPy d).shown.length ≤ rsz d
  | [], _, _ => fun d hd => by cases hd
  | e :: l, p, h => fun d hd => by
    simp only [plains, Bool.and_eq_true] at p
    simp only [rssOk] at h
    rcases List.mem_cons.mp hd with z | hd
    · rw [z]; exact rs_len e p.1 h.1
    · exact rss_len l p.2 h.2 d hd
end
theorem RelX.rp {K : PySem.W.Frag} {F : Hp} {pa : Option Addr} {t : Ts} {env : En} {σ : L2.St} {H : Hp} {i : D} {v : V} (W : Cf K B F pa t env σ H) (r : RelX K F pa env σ (.rp i) v) : v = .str (toPy i).shown := by
  rcases r with r | ⟨i, h1, h2⟩
  · unfold RelD at r; exact r
  · obtain ⟨a, h, s1, q, z, _⟩ := W.own _ _ h1; exact z.elim
end
end Q
/-! QH27 -/
namespace Q
open PySem L2 PyProof.Rows
end Q
/-! QD2 -/
namespace Q
open PySem
end Q
/-! QH28 -/
namespace Q
open PySem L2 PyProof.Rows
section
variable {X : Cx} {CX : CXT} {B : Bs} {K : PySem.W.Frag} {k : Nat} {f C : Addr} {fd : FuncData} {ps : List Str} {E : XK} {a b : Expr} {da db : DE} {pos : Pos}
theorem RelX.adr {F : Hp} {pa : Option Addr} {t : Ts} {env : En} {σ : L2.St} {H : Hp} {A : Addr} {v : V} (W : Cf K B F pa t env σ H) (r : RelX K F pa env σ (.adr A) v) : v = .ref A := by
  rcases r with r | ⟨i, z1, z2⟩
  · unfold RelD at r; exact r
  · obtain ⟨_, _, _, _, z, _⟩ := W.own _ _ z1; exact z.elim
end
end Q
/-! QD3 -/
namespace Q
open PySem
def oInT : DOp := fun x y P => match x, y with
  | .str x, .tup l => ∃ ss : List Str, l = ss.map .str ∧ P (.bl (ss.any fun z => z == x))
  | _, _ => False
end Q
/-! QH29 -/
namespace Q
open PySem L2 PyProof.Rows
section
variable {X : Cx} {B : Bs} {K : PySem.W.Frag}
theorem relL_strs {F : Hp} {pa : Option Addr} : ∀ {ss : List Str} {vs : List V}, RelL K F pa (ss.map .str) vs → vs = ss.map V.str
  | [], vs, r => r.inv0
  | s :: ss, vs, r => by
    obtain ⟨v, vr, rfl, r1, r2⟩ := RelL.inv (show RelL K F pa (D.str s :: ss.map .str) vs from r)
    unfold RelD at r1
    rw [r1, relL_strs r2]; rfl
theorem flat_strs : ∀ ss : List Str, (ss.map V.str).all flatV = true
  | [] => rfl
  | s :: ss => by simp [flatV, flat_strs ss]
theorem inV_strs (x : Str) : ∀ ss : List Str, inV (.str x) (ss.map V.str) = ss.any fun z => z == x
  | [] => rfl
  | s :: ss => by
    have := inV_strs x ss
    unfold inV at this ⊢
    rw [List.map_cons, List.any_cons, List.any_cons, this]
    rfl
theorem rop_inT : ROp K (rIn K false) oInT := fun B F pa t env σ H x y v u P Q W rx ry h k => by
  cases x with
  | str x =>
    cases y with
    | tup l =>
      obtain ⟨ss, rfl, h⟩ := h
      obtain ⟨a, vs, rfl, e1, _, r1⟩ := ry.tup W
      rw [relL_strs r1] at e1
      obtain rfl := rx.str W
      refine ⟨a, _, rfl, .inr (SqT.of e1), rfl, flat_strs ss, ?_⟩
      refine k _ (.bl (ss.any fun z => z == x)) F H (Gr.refl _ _) W ?_ h
      rw [if_neg Bool.false_ne_true, inV_strs]
      exact rD_bl _
    | _ => exact h.elim
  | _ => exact h.elim
end
end Q
/-! QH30 -/
namespace Q
open PySem L2 PyProof.Rows
end Q
/-! QH31 -/
namespace Q
open PySem L2 PyProof.Rows
end Q
/-! QD4 -/
namespace Q
open PySem
def dBest (mx : Bool) (sp : PSp) (dv : Option D) (a : DE) : DE := fun env t P => a env t fun x t1 => match x with
  | .lst l => ∃ kf : Nat → Int, (∀ i d P', l[i]? = some d → P' (.int (kf i)) t1 → sp [d] t1 P') ∧ (match dv with
      | none => l ≠ []
      | some d => l = [] → P d t1) ∧
    ∀ i d, l[i]? = some d → (∀ j, j < l.length → (match mx with
      | true => kf j ≤ kf i
      | false => kf i ≤ kf j)) → (∀ j, j < i → kf j ≠ kf i) → P d t1
  | _ => False
end Q
/-! QH32 -/
namespace Q
open PySem L2 PyProof.Rows
section
variable {K : PySem.W.Frag}
theorem kw_binds {fd : FuncData} {ps : List Str} {D : Addr} {n : Str} {u : Value} (h : PySem.W.nsIn K D n = some (some u)) (c : ∀ us : List Value, us.length + 1 = ps.length → KwChain D [(n, u)] (bindArgs fd ⟨us, []⟩) (ps.zip (us ++ [u]))) : Binds K fd ps [u] :=
  fun s us X hlen => BindsTo.of_looks fun M => KwChain.looks X (fun q hq => by
    rcases List.mem_cons.mp hq with rfl | hq
    · exact h
    · cases hq) (c us (by simpa using hlen))
def gP {α : Type} (ix : List Nat) (us ws : List α) : List α := us ++ pick ix ws
theorem kbp_of {fd : FuncData} {ps ks : List Str} {n : Nat} {ix : List Nat} (h : ∀ (s : Shared) (us ws : List Value), us.length = n → ws.length = ks.length → BindsTo s fd ⟨us, ks.zip ws⟩ (ps.zip (us ++ pick ix ws))) : KBn K fd ps n ks (gP ix) (gP ix) :=
  ⟨fun s us ws _ => h s us ws, fun r rz => r.append (vals_pick rz ix)⟩
end
end Q
/-! QH33 -/
namespace Q
open PySem L2 PyProof.Rows PpSet
end Q
/-! QH34 -/
namespace Q
open PySem L2 PyProof.Rows PpSet
end Q
/-! MLib -/
namespace Q
open PySem
theorem plains_ints : ∀ a : List Int, plains (a.map .int) = true
  | [] => rfl
  | x :: a => by simp [plains, plain, plains_ints a]
theorem deeps_ints : ∀ a : List Int, deeps (a.map .int) = 0
  | [] => rfl
  | x :: a => by simp [deeps, deep, deeps_ints a]
theorem deqs_ints : ∀ a b : List Int, deqs (a.map .int) (b.map .int) = decide (a = b)
  | [], [] => rfl
  | [], _ :: _ => by simp [deqs]
  | _ :: _, [] => by simp [deqs]
  | x :: a, y :: b => by simp [deqs, deq, deqs_ints a b]
theorem deq_ints (a b : List Int) : deq (.lst (a.map .int)) (.lst (b.map .int)) = decide (a = b) := by simp [deq, deqs_ints]
theorem eqok_ints (a b : List Int) : plain (.lst (a.map .int)) = true ∧ plain (.lst (b.map .int)) = true ∧ deep (.lst (a.map .int)) ≤ 60 ∧ deep (.lst (b.map .int)) ≤ 60 := by
  simp [plain, plains_ints, deep, deeps_ints]
theorem deqn_t {a b : List Int} (h : (!deq (.lst (a.map .int)) (.lst (b.map .int))) = true) : a ≠ b := by rw [deq_ints] at h; simpa using h
theorem deqn_f {a b : List Int} (h : (!deq (.lst (a.map .int)) (.lst (b.map .int))) = false) : a = b := by rw [deq_ints] at h; simpa using h
theorem atI_nat {xs : List D} {i : Int} {d : D} (h0 : 0 ≤ i) (h : xs[i.toNat]? = some d) : atI xs i = some d := by
  unfold atI
  have := (List.getElem?_eq_some_iff.mp h).1
  rw [if_pos h0, if_pos (by omega), h]
theorem atI_ints {xs : List Int} {i : Int} (h0 : 0 ≤ i) (h : i < xs.length) : atI (xs.map .int) i = some (.int (xs.getD i.toNat 0)) := by
  refine atI_nat h0 ?_
  have h' : i.toNat < xs.length := by omega
  rw [List.getElem?_map, List.getElem?_eq_getElem h']
  simp [List.getD_eq_getElem?_getD, List.getElem?_eq_getElem h']
theorem br_ne {c : Prop} [Decidable c] {p q : Prop} (h : c) (k : q) : Br (!decide c) p q := Br.mk (fun z => by simp [h] at z) fun _ => k
theorem Sm.lit {b : Nat} {i : Int} (h : i.natAbs < 2 ^ b) : Sm b i := h
theorem Sm.mono {a b : Nat} {i : Int} (h : Sm a i) (hab : a ≤ b) : Sm b i := Nat.lt_of_lt_of_le h (Nat.pow_le_pow_right (by decide) hab)
theorem Sm.of {b : Nat} {i j : Int} (h0 : 0 ≤ i) (h : i ≤ j) (hj : Sm b j) : Sm b i := by unfold Sm at *; omega
theorem Sm.sub {a : Nat} {i j : Int} (h : Sm a i) (k : Sm a j) : Sm (a + 1) (i - j) := by
  unfold Sm at *
  have := Nat.pow_succ 2 a
  omega
theorem sm64 {i : Int} (h0 : -1000000000000000000 ≤ i) (h1 : i ≤ 1000000000000000000) : Sm 64 i := by
  unfold Sm
  have : (2 : Nat) ^ 64 = 18446744073709551616 := by decide
  omega
theorem MulOk.l {i j : Int} (h0 : -1000000000000000000 ≤ i) (h1 : i ≤ 1000000000000000000) : MulOk i j := .inl (sm64 h0 h1)
theorem MulOk.r {i j : Int} (h0 : -1000000000000000000 ≤ j) (h1 : j ≤ 1000000000000000000) : MulOk i j := .inr (.inl (sm64 h0 h1))
theorem MulOk.w {i j : Int} {a b : Nat} (h1 : Sm a i) (h2 : Sm b j) (h3 : 0 < a) (h4 : 0 < b) (h5 : a + b ≤ 1000000) : MulOk i j := .inr (.inr ⟨a, b, h1, h2, h3, h4, h5⟩)
theorem DivOk.s {j : Int} (h0 : 0 < j) (h1 : j ≤ 1000000000000000000) : DivOk j := ⟨h0, (sm64 (by omega) h1).mono (by decide)⟩
theorem DivOk.w {j : Int} {b : Nat} (h0 : 0 < j) (h1 : Sm b j) (h2 : b ≤ 9000) : DivOk j := ⟨h0, h1.mono h2⟩
theorem PowOk.s {i j : Int} (h0 : 0 ≤ j) (h1 : j ≤ 1000000) (h2 : -1000000000000000000 ≤ i) (h3 : i ≤ 1000000000000000000) : PowOk i j := ⟨h0, 64, sm64 h2 h3, by omega⟩
structure Pk (n : Int) (t : Ts) : Prop where
  c : t.cells.length ≤ 63
  a0 : 0 ≤ t.at'
  a1 : t.at' ≤ n
  l : 0 ≤ t.left
  tp : t.tape = false
theorem Pk.mono {n m : Int} {t : Ts} (p : Pk n t) (h : n ≤ m) : Pk m t := ⟨p.c, p.a0, Int.le_trans p.a1 h, p.l, p.tp⟩
theorem Pk.zero {cs : List Int} (h : cs.length ≤ 63) : Pk 0 ⟨cs, 0, 0, false, noObs⟩ := ⟨h, Int.le_refl 0, Int.le_refl 0, Int.le_refl 0, rfl⟩
end Q
/-! MPen -/
namespace Q
open PySem
def sp__law_pen : PSp := fun ds t P => ∃ ns, ds = [.scr ns] ∧ ns.length ≤ 63 ∧ ∀ cs : List Int, cs.length ≤ 63 → P (.dic [.inr "cells", .inr "at", .inr "left"] [.lst (cs.map .int), .int 0, .int 0]) t
def sp__law_draw : PSp := fun ds t P => ∃ many n, ds = [.pen, .int many] ∧ 0 < many ∧ Sm 9000 many ∧ Pk n t ∧ n < 100000000 ∧ ∀ z t', 0 ≤ z → z < many → Pk (n + 1) t' → P (.int z) t'
def d__law_pen : DS := (dSeq (dAsg (dOp oPow (dOp oPow (dC (.int 10)) (dC (.int 60))) (dC (.int 60))) (gName 1)) (dSeq (dRet (dDisp (("cells", (dLc [2] (iSeq (dSlice (dVar 0) dNoPart (dPart (dC (.int 63))))) (gName 2) dYes (dIfE (dB (dOp oGe (dCB bAbs (dCons (dVar 2) dNil)) (dOp oPow (dC (.int 10)) (dC (.int 18))))) (dOp oMod (dCB bAbs (dCons (dVar 2) dNil)) (dVar 1)) (dVar 2)))) :: (("at", (dC (.int 0))) :: (("left", (dC (.int 0))) :: []))))) dNext))
def d__law_draw : DS := (dSeq (dIf (dB (dOp oGt (dPenL false (dVar 0)) (dC (.int 0)))) (dSeq (dAsg (dOp oMod (dPenL false (dVar 0)) (dVar 1)) (gName 6)) (dSeq (dPutL false 0 (dOp oDiv (dPenL false (dVar 0)) (dVar 1))) (dSeq (dRet (dVar 6)) dNext))) dNext) (dSeq (dAsg (dPenA false (dVar 0)) (gName 2)) (dSeq (dPutA false 0 (dOp oAdd (dVar 2) (dC (.int 1)))) (dSeq (dAsg (dOp oAdd (dOp oMul (dVar 2) (dVar 2)) (dC (.int 5))) (gName 3)) (dSeq (dIf (dB (dOp oNe (dPenC (dVar 0)) (dLst dNil))) (dSeq (dAsg (dOp oIx (dPenC (dVar 0)) (dOp oMod (dVar 2) (dCB bLen (dCons (dPenC (dVar 0)) dNil)))) (gName 3)) dNext) dNext) (dSeq (dIf (dAnd (dB (dOp oLt (dVar 2) (dCB bLen (dCons (dPenC (dVar 0)) dNil)))) (dB (dOp oGe (dVar 3) (dOp oPow (dC (.int 10)) (dC (.int 18)))))) (dSeq (dPutL false 0 (dOp oDiv (dVar 3) (dVar 1))) (dSeq (dRet (dOp oMod (dVar 3) (dVar 1))) dNext)) dNext) (dSeq (dAsg (dOp oMod (dOp oMul (dOp oAdd (dOp oAdd (dOp oMod (dVar 3) (dC (.int 4294967311))) (dOp oMul (dC (.int 65539)) (dVar 2))) (dC (.int 17))) (dC (.int 48271))) (dC (.int 4294967311))) (gName 4)) (dSeq (dFor (iRng1 (dC (.int 3))) (gName 5) (dSeq (dAsg (dOp oAdd (dOp oAdd (dOp oAdd (dOp oMul (dVar 4) (dVar 4)) (dOp oMul (dC (.int 69621)) (dVar 4))) (dVar 2)) (dVar 5)) (gName 4)) (dSeq (dAsg (dOp oMod (dVar 4) (dC (.int 4294967311))) (gName 4)) dNext))) (dSeq (dRet (dOp oMod (dOp oDiv (dVar 4) (dC (.int 32))) (dVar 1))) dNext)))))))))
theorem len__law_pen (as : List D) (t : Ts) (P : D → Ts → Prop) (h : sp__law_pen as t P) : as.length = 1 := by obtain ⟨_, rfl, _⟩ := h; rfl
theorem len__law_draw (as : List D) (t : Ts) (P : D → Ts → Prop) (h : sp__law_draw as t P) : as.length = 2 := by obtain ⟨_, _, rfl, _⟩ := h; rfl
theorem draw_tail {many n c : Int} {t : Ts} {P : D → Ts → Prop} (h0 : 0 < many) (hn : n < 100000000) (ha : 0 ≤ c) (hc : c ≤ n) (hp : Pk (n + 1) t) (k : ∀ z t', 0 ≤ z → z < many → Pk (n + 1) t' → P (.int z) t') (env : En) (e0 : env[0]? = some (.val .pen)) (e1 : env[1]? = some (.val (.int many))) (e2 : env[2]? = some (.val (.int c))) (v : Int) (e3 : env[3]? = some (.val (.int v))) (hl : env.length = 7) :
    (dSeq (dAsg (dOp oMod (dOp oMul (dOp oAdd (dOp oAdd (dOp oMod (dVar 3) (dC (.int 4294967311))) (dOp oMul (dC (.int 65539)) (dVar 2))) (dC (.int 17))) (dC (.int 48271))) (dC (.int 4294967311))) (gName 4)) (dSeq (dFor (iRng1 (dC (.int 3))) (gName 5) (dSeq (dAsg (dOp oAdd (dOp oAdd (dOp oAdd (dOp oMul (dVar 4) (dVar 4)) (dOp oMul (dC (.int 69621)) (dVar 4))) (dVar 2)) (dVar 5)) (gName 4)) (dSeq (dAsg (dOp oMod (dVar 4) (dC (.int 4294967311))) (gName 4)) dNext))) (dSeq (dRet (dOp oMod (dOp oDiv (dVar 4) (dC (.int 32))) (dVar 1))) dNext))) (endsOf P) env t := by
  match env, hl, e0, e1, e2, e3 with
  | [_, _, _, _, x4, x5, x6], _, e0, e1, e2, e3 =>
  cases e0; cases e1; cases e2; cases e3
  conv => whnf
  refine ⟨by decide, ?_⟩
  conv => whnf
  refine ⟨.l (by omega) (by omega), ?_⟩
  conv => whnf
  refine ⟨.r (by omega) (by omega), ?_⟩
  conv => whnf
  refine ⟨by decide, ?_⟩
  conv => whnf
  refine ⟨by decide, ?_⟩
  conv => whnf
  refine ⟨fun i e m => m = t ∧ ∃ z x5' : Int, 0 ≤ z ∧ z < 4294967311 ∧ ∃ s5, e = [.val .pen, .val (.int many), .val (.int c), .val (.int v), .val (.int z), s5, x6], ⟨rfl, _, 0, Int.emod_nonneg _ (by decide), Int.emod_lt_of_pos _ (by decide), _, rfl⟩, fun i x e m hx hI => ?_, fun e m hI => ?_⟩
  · obtain ⟨rfl, z, _, hz, hz', s5, rfl⟩ := hI
    obtain ⟨hi, rfl⟩ := rng_get hx
    conv => whnf
    refine ⟨.l (by omega) (by omega), ?_⟩
    conv => whnf
    refine ⟨.l (by omega) (by omega), ?_⟩
    conv => whnf
    refine ⟨by decide, ?_⟩
    conv => whnf
    exact ⟨rfl, _, 0, Int.emod_nonneg _ (by decide), Int.emod_lt_of_pos _ (by decide), _, rfl⟩
  · obtain ⟨rfl, z, _, hz, hz', s5, rfl⟩ := hI
    conv => whnf
    refine ⟨.s (by decide) (by decide), ?_⟩
    conv => whnf
    refine ⟨h0, ?_⟩
    conv => whnf
    exact k _ _ (Int.emod_nonneg _ (by omega)) (Int.emod_lt_of_pos _ h0) hp
theorem d__law_draw_ok (as : List D) (t : Ts) (P : D → Ts → Prop) (h : sp__law_draw as t P) : d__law_draw (endsOf P) (start0 ["_law_pen_here", "_law_many", "_law_at", "_law_cell", "_law_number", "_law_rounds", "_law_digit"] as) t := by
  obtain ⟨many, n, rfl, h0, hs, hp, hn, k⟩ := h
  have tp := hp.tp
  have a0 := hp.a0
  have a1 := hp.a1
  conv => whnf
  refine ⟨tp, ?_⟩
  conv => whnf
  refine Br.mk (fun hl => ?_) (fun hl => ?_)
  · have hl : 0 < t.left := of_decide_eq_true hl
    conv => whnf
    refine ⟨tp, ?_⟩
    conv => whnf
    refine ⟨h0, ?_⟩
    conv => whnf
    refine ⟨tp, ?_⟩
    conv => whnf
    refine ⟨⟨h0, hs⟩, ?_⟩
    conv => whnf
    refine ⟨tp, ?_⟩
    conv => whnf
    exact k _ _ (Int.emod_nonneg _ (by omega)) (Int.emod_lt_of_pos _ h0) ⟨hp.c, hp.a0, (by show t.at' ≤ n + 1; omega), Int.ediv_nonneg hp.l (by omega), tp⟩
  · conv => whnf
    refine ⟨tp, ?_⟩
    conv => whnf
    refine ⟨tp, ?_⟩
    conv => whnf
    refine ⟨.l (by omega) (by omega), ?_⟩
    conv => whnf
    have P1 : Pk (n + 1) ⟨t.cells, t.at' + 1, t.left, t.tape, t.obs⟩ := ⟨hp.c, (by show 0 ≤ t.at' + 1; omega), (by show t.at' + 1 ≤ n + 1; omega), hp.l, tp⟩
    refine ⟨eqok_ints t.cells [], ?_⟩
    conv => whnf
    refine Br.mk (fun hc => ?_) (fun hc => ?_)
    · have hc : t.cells ≠ [] := deqn_t (b := []) hc
      have hn0 : 0 < t.cells.length := by
        cases q : t.cells with
        | nil => exact absurd q hc
        | cons => simp
      conv => whnf
      refine ⟨by simpa using hn0, ?_⟩
      conv => whnf
      refine ⟨_, atI_ints (Int.emod_nonneg _ (by simp; omega)) (by simpa using Int.emod_lt_of_pos _ (by simpa using hn0)), ?_⟩
      generalize t.cells.getD _ 0 = v
      conv => whnf
      refine Br.mk (fun hx => ?_) (fun hx => ?_)
      · conv => whnf
        refine ⟨PowOk.s (by decide) (by decide) (by decide) (by decide), ?_⟩
        conv => whnf
        refine Br.mk (fun hy => ?_) (fun hy => ?_)
        · conv => whnf
          refine ⟨⟨h0, hs⟩, ?_⟩
          conv => whnf
          refine ⟨tp, ?_⟩
          conv => whnf
          refine ⟨h0, ?_⟩
          conv => whnf
          refine k _ _ (Int.emod_nonneg _ (by omega)) (Int.emod_lt_of_pos _ h0) ⟨hp.c, P1.a0, P1.a1, Int.ediv_nonneg ?_ (by omega), tp⟩
          have := of_decide_eq_true hy
          exact Int.le_trans (by decide) this
        · exact draw_tail h0 hn a0 a1 P1 k [.val .pen, .val (.int many), .val (.int t.at'), .val (.int v), .no, .no, .no] rfl rfl rfl _ rfl rfl
      · exact draw_tail h0 hn a0 a1 P1 k [.val .pen, .val (.int many), .val (.int t.at'), .val (.int v), .no, .no, .no] rfl rfl rfl _ rfl rfl
    · have hc : t.cells = [] := deqn_f (b := []) hc
      conv => whnf
      refine Br.mk (fun hx => ?_) (fun hx => ?_)
      · have hx := of_decide_eq_true hx
        rw [hc] at hx
        exact absurd hx (by show ¬ t.at' < 0; omega)
      · exact draw_tail h0 hn a0 a1 P1 k [.val .pen, .val (.int many), .val (.int t.at'), .val (.int (t.at' * t.at' + 5)), .no, .no, .no] rfl rfl rfl _ rfl rfl
theorem d__law_pen_ok (as : List D) (t : Ts) (P : D → Ts → Prop) (h : sp__law_pen as t P) : d__law_pen (endsN P) (start0 ["_law_script", "_law_most", "_law_cell"] as) t := by
  obtain ⟨ns, rfl, hl, k⟩ := h
  conv => whnf
  refine ⟨PowOk.s (by decide) (by decide) (by decide) (by decide), ?_⟩
  conv => whnf
  refine ⟨⟨by decide, 200, Sm.lit (by decide), by decide⟩, ?_⟩
  have hM0 : (0 : Int) < (10 ^ Int.toNat 60) ^ Int.toNat 60 := by decide
  revert hM0
  generalize ((10 : Int) ^ Int.toNat 60) ^ Int.toNat 60 = M
  intro hM0
  conv => whnf
  refine ⟨fun i acc m => m = t ∧ acc.length = i ∧ ∃ cs : List Int, acc = cs.map .int, ⟨rfl, rfl, [], rfl⟩, fun i x acc m hx hI => ?_, fun acc m hI => ?_⟩
  · obtain ⟨rfl, hi, cs, rfl⟩ := hI
    have hlt := (List.getElem?_eq_some_iff.mp hx).1
    have hlt : i < 63 := by
      simp [cutD, sIx] at hlt
      omega
    obtain ⟨c, rfl⟩ : ∃ c : Int, x = .int c := by
      have := List.mem_of_getElem? hx
      unfold cutD at this
      obtain ⟨c, _, h⟩ := List.mem_map.mp (List.mem_of_mem_drop (List.mem_of_mem_take this))
      exact ⟨c, h.symm⟩
    conv => whnf
    refine ⟨rfl, ?_⟩
    conv => whnf
    refine ⟨PowOk.s (by decide) (by decide) (by decide) (by decide), ?_⟩
    conv => whnf
    refine Br.mk (fun hx => ?_) (fun hx => ?_)
    · conv => whnf
      refine ⟨hM0, ?_⟩
      conv => whnf
      refine ⟨by rw [hi]; unfold zLen; omega, rfl, by simp at hi ⊢; omega, cs ++ [_], by simp; rfl⟩
    · refine ⟨by rw [hi]; unfold zLen; omega, rfl, by simp at hi ⊢; omega, cs ++ [_], by simp; rfl⟩
  · obtain ⟨rfl, hi, cs, rfl⟩ := hI
    refine k cs ?_
    simp at hi
    rw [hi]
    simp [cutD, sIx]
    omega
end Q
/-! MSig -/
namespace Q
open PySem
theorem ediv_toNat_lt {b x : Int} (h : 0 < x ∧ 2 ≤ b) : (x / b).toNat < x.toNat := by
  have h1 : x / b < x := Int.ediv_lt_of_lt_mul (by omega) (by
    have := Int.mul_le_mul_of_nonneg_left h.2 (Int.le_of_lt h.1)
    omega)
  have h2 : 0 ≤ x / b := Int.ediv_nonneg (by omega) (by omega)
  omega
def sigs (b x : Int) : List Int := if h : 0 < x ∧ 2 ≤ b then sigs b (x / b) ++ [x % b] else []
termination_by x.toNat
decreasing_by exact ediv_toNat_lt h
theorem sigs_pos {b x : Int} (h : 0 < x) (hb : 2 ≤ b) : sigs b x = sigs b (x / b) ++ [x % b] := by
  rw [sigs, dif_pos ⟨h, hb⟩]
theorem sigs_zero {b x : Int} (h : ¬ 0 < x) : sigs b x = [] := by
  rw [sigs, dif_neg (fun z => h z.1)]
def heap (b x : Int) : Int := if h : 0 < x ∧ 2 ≤ b then x / b + heap b (x / b) else 0
termination_by x.toNat
decreasing_by exact ediv_toNat_lt h
theorem sigs_ne {b x : Int} (h : 0 < x) (hb : 2 ≤ b) : sigs b x ≠ [] := by
  rw [sigs_pos h hb]
  simp
theorem sigs_mem {b : Int} (hb : 2 ≤ b) : ∀ (n : Nat) (x : Int), x.toNat ≤ n → ∀ d, d ∈ sigs b x → 0 ≤ d ∧ d < b
  | 0, x, h, d, hd => by
    rw [sigs_zero (by omega)] at hd
    cases hd
  | n + 1, x, h, d, hd => by
    by_cases hx : 0 < x
    · have := ediv_toNat_lt (b := b) ⟨hx, hb⟩
      rw [sigs_pos hx hb] at hd
      rcases List.mem_append.mp hd with h1 | h1
      · exact sigs_mem hb n (x / b) (by omega) d h1
      · have : d = x % b := by simpa using h1
        subst this
        exact ⟨Int.emod_nonneg _ (by omega), Int.emod_lt_of_pos _ (by omega)⟩
    · rw [sigs_zero hx] at hd
      cases hd
theorem sigs_head {b : Int} (hb : 2 ≤ b) : ∀ (n : Nat) (x : Int), 0 < x → x.toNat ≤ n → (sigs b x).getD 0 0 ≠ 0
  | 0, x, h0, h => by omega
  | n + 1, x, h0, h => by
    have := ediv_toNat_lt (b := b) ⟨h0, hb⟩
    rw [sigs_pos h0 hb]
    by_cases hq : 0 < x / b
    · have h1 := sigs_head hb n (x / b) hq (by omega)
      have h2 := sigs_ne hq hb
      cases q : sigs b (x / b) with
      | nil => exact absurd q h2
      | cons a l => rw [q] at h1; simpa using h1
    · rw [sigs_zero hq]
      have h3 := Int.mul_ediv_add_emod x b
      have h4 : 0 ≤ x / b := Int.ediv_nonneg (by omega) (by omega)
      have : x / b = 0 := by omega
      rw [this] at h3
      simp
      omega
end Q
/-! MHous -/
namespace Q
open PySem
def Su (bs : List Int) (j : Int) : Int := ((bs.take j.toNat).map (· - 1)).sum
structure Hou (b : Int) (bs : List Int) : Prop where
  b2 : 2 ≤ b
  b30 : b ≤ 30
  len : (bs.length : Int) = b - 1
  pos : ∀ x ∈ bs, 1 ≤ x
def Re (bs : List Int) : Int := Su bs bs.length
def Lp (b : Int) (bs : List Int) (n : Int) : Int := if h : 0 < n ∧ 2 ≤ b then (if n < b then n + Su bs n else Lp b bs (n / b) + n + Re bs) else 0
termination_by n.toNat
decreasing_by exact ediv_toNat_lt h
theorem Lp_le0 {b : Int} {bs : List Int} {n : Int} (h : n ≤ 0) : Lp b bs n = 0 := by
  rw [Lp, dif_neg (fun z => by omega)]
theorem Lp_lt {b : Int} {bs : List Int} {n : Int} (hb : 2 ≤ b) (h : 0 < n) (h2 : n < b) : Lp b bs n = n + Su bs n := by
  rw [Lp, dif_pos ⟨h, hb⟩, if_pos h2]
theorem Lp_ge {b : Int} {bs : List Int} {n : Int} (hb : 2 ≤ b) (h2 : b ≤ n) : Lp b bs n = Lp b bs (n / b) + n + Re bs := by
  rw [Lp, dif_pos ⟨by omega, hb⟩, if_neg (by omega)]
section
variable {b : Int} {bs : List Int}
theorem Su_zero : Su bs 0 = 0 := by simp [Su]
theorem Su_succ {j : Int} (h0 : 0 ≤ j) (h1 : j < bs.length) : Su bs (j + 1) = Su bs j + bs.getD j.toNat 0 - 1 := by
  unfold Su
  have e : (j + 1).toNat = j.toNat + 1 := by omega
  have hj : j.toNat < bs.length := by omega
  rw [e, List.take_add_one, List.getElem?_eq_getElem hj, List.map_append, List.sum_append, List.getD_eq_getElem?_getD, List.getElem?_eq_getElem hj]
  simp
  omega
theorem Hou.at (h : Hou b bs) {j : Int} (h0 : 0 ≤ j) (h1 : j < bs.length) : 1 ≤ bs.getD j.toNat 0 := by
  have hj : j.toNat < bs.length := by omega
  rw [List.getD_eq_getElem?_getD, List.getElem?_eq_getElem hj]
  exact h.pos _ (List.getElem_mem hj)
theorem Su_mono (h : Hou b bs) : ∀ (n : Nat) (i : Int), 0 ≤ i → i + n ≤ bs.length → Su bs i ≤ Su bs (i + n)
  | 0, i, _, _ => by simp
  | n + 1, i, h0, h1 => by
    have h2 := Su_mono h n i h0 (by omega)
    have h3 := Su_succ (bs := bs) (j := i + n) (by omega) (by omega)
    have h4 := h.at (j := i + n) (by omega) (by omega)
    have e : i + ((n + 1 : Nat) : Int) = i + n + 1 := by omega
    rw [e, h3]
    omega
theorem Su_le (h : Hou b bs) {i j : Int} (h0 : 0 ≤ i) (h1 : i ≤ j) (h2 : j ≤ bs.length) : Su bs i ≤ Su bs j := by
  have := Su_mono h (j - i).toNat i h0 (by omega)
  rwa [show i + ((j - i).toNat : Int) = j by omega] at this
theorem Lp_rec (h : Hou b bs) {n : Int} (hn : b - 1 ≤ n) : Lp b bs n = Lp b bs (n / b) + n + Re bs := by
  have hb := h.b2
  by_cases h1 : b ≤ n
  · exact Lp_ge hb h1
  · have e : n = b - 1 := by omega
    subst e
    rw [Lp_lt hb (by omega) (by omega), Int.ediv_eq_zero_of_lt (by omega) (by omega), Lp_le0 (Int.le_refl 0)]
    have : Su bs (b - 1) = Re bs := by rw [Re, h.len]
    omega
def Ti (b : Int) (bs : List Int) (n : Int) : Int := Lp b bs n - Lp b bs (n - 1)
theorem Ti_lt (h : Hou b bs) {n : Int} (h0 : 1 ≤ n) (h1 : n < b) : Ti b bs n = bs.getD (n - 1).toNat 0 := by
  have hb := h.b2
  have hl := h.len
  have e := Su_succ (bs := bs) (j := n - 1) (by omega) (by omega)
  rw [show n - 1 + 1 = n by omega] at e
  unfold Ti
  rw [Lp_lt hb (by omega) h1]
  by_cases h2 : n = 1
  · subst h2
    rw [Lp_le0 (by decide)]
    rw [show (1 : Int) - 1 = 0 by decide, Su_zero] at e
    simp at e ⊢
    omega
  · rw [Lp_lt hb (by omega) (by omega)]
    omega
theorem Ti_ge (h : Hou b bs) {n : Int} (h1 : b ≤ n) : Ti b bs n = 1 + (Lp b bs (n / b) - Lp b bs ((n - 1) / b)) := by
  unfold Ti
  rw [Lp_rec h (n := n) (by omega), Lp_rec h (n := n - 1) (by omega)]
  omega
theorem div_pred {b n : Int} (hb : 2 ≤ b) (h : ¬ n % b = 0) : (n - 1) / b = n / b := by
  have h1 := Int.mul_ediv_add_emod n b
  have h2 := Int.emod_nonneg n (show b ≠ 0 by omega)
  have h3 := Int.emod_lt_of_pos n (show 0 < b by omega)
  refine Int.ediv_emod_unique (show 0 < b by omega) (r := n % b - 1) |>.mpr ⟨by omega, by omega, by omega⟩ |>.1
theorem div_predm {b u : Int} (hb : 2 ≤ b) : (b * u - 1) / b = u - 1 := by
  refine Int.ediv_emod_unique (show 0 < b by omega) (r := b - 1) |>.mpr ⟨by rw [Int.mul_sub]; omega, by omega, by omega⟩ |>.1
theorem Ti_one (h : Hou b bs) {n : Int} (h1 : b ≤ n) (h2 : ¬ n % b = 0) : Ti b bs n = 1 := by
  rw [Ti_ge h h1, div_pred h.b2 h2]
  omega
theorem Ti_mul (h : Hou b bs) {u : Int} (h1 : 1 ≤ u) : Ti b bs (b * u) = Ti b bs u + 1 := by
  have hb := h.b2
  have : b ≤ b * u := by
    have := Int.mul_le_mul_of_nonneg_left h1 (show 0 ≤ b by omega)
    omega
  rw [Ti_ge h this, div_predm hb, Int.mul_ediv_cancel_left _ (by omega)]
  unfold Ti
  omega
theorem Ti_pos (h : Hou b bs) : ∀ (k : Nat) (n : Int), n.toNat ≤ k → 1 ≤ n → 1 ≤ Ti b bs n
  | 0, n, h0, h1 => by omega
  | k + 1, n, h0, h1 => by
    have hb := h.b2
    by_cases h2 : n < b
    · rw [Ti_lt h h1 h2]
      have := h.len
      exact h.at (by omega) (by omega)
    · by_cases h3 : n % b = 0
      · have h4 := Int.mul_ediv_add_emod n b
        have h5 : n = b * (n / b) := by omega
        have h6 : 1 ≤ n / b := by
          rcases Int.lt_or_le 0 (n / b) with h | h
          · omega
          · have := Int.ediv_nonneg (show 0 ≤ n by omega) (show 0 ≤ b by omega)
            rw [show n / b = 0 by omega] at h5
            omega
        have h7 := ediv_toNat_lt (b := b) (x := n) ⟨by omega, hb⟩
        rw [h5, Ti_mul h h6]
        have := Ti_pos h k (n / b) (by omega) h6
        omega
      · rw [Ti_one h (by omega) h3]
        omega
theorem Lp_step (h : Hou b bs) {n : Int} (h1 : 1 ≤ n) : Lp b bs (n - 1) + 1 ≤ Lp b bs n := by
  have := Ti_pos h _ n (Nat.le_refl _) h1
  unfold Ti at this
  omega
theorem Lp_mono' (h : Hou b bs) : ∀ (k : Nat) (n : Int), 0 ≤ n → Lp b bs n + k ≤ Lp b bs (n + k)
  | 0, n, _ => by simp
  | k + 1, n, h0 => by
    have h1 := Lp_mono' h k n h0
    have h2 := Lp_step h (n := n + k + 1) (by omega)
    rw [show n + k + 1 - 1 = n + k by omega] at h2
    rw [show n + ((k + 1 : Nat) : Int) = n + k + 1 by omega]
    omega
theorem Lp_ge_self (h : Hou b bs) {n : Int} (h0 : 0 ≤ n) : n ≤ Lp b bs n := by
  have := Lp_mono' h n.toNat 0 (Int.le_refl 0)
  rw [Lp_le0 (Int.le_refl 0), show 0 + (n.toNat : Int) = n by omega] at this
  omega
structure Sa (b : Int) (bs : List Int) (p m : Int) : Prop where
  m1 : 1 ≤ m
  lo : Lp b bs (m - 1) < p
  hi : p ≤ Lp b bs m
theorem Sa.ex' (h : Hou b bs) : ∀ (k : Nat) (p : Int), 1 ≤ p → p ≤ Lp b bs k → ∃ m, Sa b bs p m
  | 0, p, h1, h2 => by
    rw [show ((0 : Nat) : Int) = 0 from rfl, Lp_le0 (Int.le_refl 0)] at h2
    omega
  | k + 1, p, h1, h2 => by
    by_cases h3 : p ≤ Lp b bs k
    · exact Sa.ex' h k p h1 h3
    · exact ⟨(k : Int) + 1, by omega, by rw [show (k : Int) + 1 - 1 = k by omega]; omega, by simpa using h2⟩
theorem Sa.ex (h : Hou b bs) {p : Int} (h1 : 1 ≤ p) : ∃ m, Sa b bs p m := by
  refine Sa.ex' h p.toNat p h1 ?_
  have := Lp_ge_self h (n := p) (by omega)
  rwa [show (p.toNat : Int) = p by omega]
end
end Q
/-! MHou2 -/
namespace Q
open PySem
end Q
/-! MHouse -/
namespace Q
open PySem
def isInt : D → Bool
  | .int _ => true
  | _ => false
def isCount : D → Bool
  | .int i => decide (0 < i)
  | _ => false
def isBase : D → Bool
  | .int i => decide (2 ≤ i ∧ i ≤ 30)
  | _ => false
def isList : D → Bool
  | .lst _ => true
  | .tup _ => true
  | _ => false
def isBeg (b : Int) : D → Bool
  | .lst l => decide ((l.length : Int) = b - 1) && l.all isCount
  | .tup l => decide ((l.length : Int) = b - 1) && l.all isCount
  | _ => false
def tnOk (d : D) : Prop := ∃ n, tn d = some n
def sp_is_whole : PSp := fun ds t P => ∃ d, ds = [d] ∧ tnOk d ∧ P (.bl (isInt d)) t
def sp_is_count : PSp := fun ds t P => ∃ d, ds = [d] ∧ tnOk d ∧ P (.bl (isCount d)) t
def sp_is_base : PSp := fun ds t P => ∃ d, ds = [d] ∧ tnOk d ∧ P (.bl (isBase d)) t
def sp_is_listing : PSp := fun ds t P => ∃ d, ds = [d] ∧ tnOk d ∧ P (.bl (isList d)) t
def sp_is_beginning : PSp := fun ds t P => ∃ b d, ds = [.int b, d] ∧ tnOk d ∧ (∀ l, d = .lst l ∨ d = .tup l → l.length ≤ 1000000 ∧ ∀ x ∈ l, tnOk x) ∧ P (.bl (isBeg b d)) t
theorem len_is_whole (as : List D) (t : Ts) (P : D → Ts → Prop) (h : sp_is_whole as t P) : as.length = 1 := by obtain ⟨_, rfl, _⟩ := h; rfl
theorem len_is_count (as : List D) (t : Ts) (P : D → Ts → Prop) (h : sp_is_count as t P) : as.length = 1 := by obtain ⟨_, rfl, _⟩ := h; rfl
theorem len_is_base (as : List D) (t : Ts) (P : D → Ts → Prop) (h : sp_is_base as t P) : as.length = 1 := by obtain ⟨_, rfl, _⟩ := h; rfl
theorem len_is_listing (as : List D) (t : Ts) (P : D → Ts → Prop) (h : sp_is_listing as t P) : as.length = 1 := by obtain ⟨_, rfl, _⟩ := h; rfl
theorem len_is_beginning (as : List D) (t : Ts) (P : D → Ts → Prop) (h : sp_is_beginning as t P) : as.length = 2 := by obtain ⟨_, _, rfl, _⟩ := h; rfl
def d_is_whole : DS := (dSeq (dRet (dAndV (dIsi [.int] (dVar 0)) (dNotV (dIsi [.bl] (dVar 0))))) dNext)
def d_is_count : DS := (dSeq (dRet (dAndV (dCall sp_is_whole [] (dCons (dVar 0) dNil)) (dOp oGt (dVar 0) (dC (.int 0))))) dNext)
def d_is_base : DS := (dSeq (dRet (dAndV (dCall sp_is_whole [] (dCons (dVar 0) dNil)) (dChain oLe oLe (dC (.int 2)) (dVar 0) (dC (.int 30))))) dNext)
def d_is_listing : DS := (dSeq (dRet (dIsi [.lst, .tup] (dVar 0))) dNext)
def d_is_beginning : DS := (dSeq (dIf (dOr (dNot (dB (dCall sp_is_listing [] (dCons (dVar 1) dNil)))) (dB (dOp oNe (dCB bLen (dCons (dVar 1) dNil)) (dOp oSub (dVar 0) (dC (.int 1)))))) (dSeq (dRet (dC (.bl false))) dNext) dNext) (dSeq (dRet (dCB bAll (dCons (dLc [2] (iSeq (dVar 1)) (gName 2) dYes (dCall sp_is_count [] (dCons (dVar 2) dNil))) dNil))) dNext))
theorem d_is_whole_ok (as : List D) (t : Ts) (P : D → Ts → Prop) (h : sp_is_whole as t P) : d_is_whole (endsOf P) (start0 ["thing"] as) t := by
  obtain ⟨d, rfl, ⟨n, hn⟩, k⟩ := h
  cases d <;> first | exact k | cases hn
theorem d_is_count_ok (as : List D) (t : Ts) (P : D → Ts → Prop) (h : sp_is_count as t P) : d_is_count (endsOf P) (start0 ["thing"] as) t := by
  obtain ⟨d, rfl, hn, k⟩ := h
  conv => whnf
  refine ⟨d, rfl, hn, ?_⟩
  cases d <;> exact k
theorem d_is_base_ok (as : List D) (t : Ts) (P : D → Ts → Prop) (h : sp_is_base as t P) : d_is_base (endsOf P) (start0 ["thing"] as) t := by
  obtain ⟨d, rfl, hn, k⟩ := h
  conv => whnf
  refine ⟨d, rfl, hn, ?_⟩
  cases d with
  | int i =>
    conv => whnf
    refine Br.mk (fun h1 => ?_) (fun h1 => ?_)
    · have h1 : 2 ≤ i := of_decide_eq_true h1
      conv => whnf
      have e : isBase (.int i) = decide (i ≤ 30) := by
        show decide (2 ≤ i ∧ i ≤ 30) = _
        simp [h1]
      rw [e] at k
      exact k
    · have h1 : ¬ 2 ≤ i := of_decide_eq_false h1
      conv => whnf
      have e : isBase (.int i) = false := by
        show decide (2 ≤ i ∧ i ≤ 30) = _
        simp [h1]
      rw [e] at k
      exact k
  | _ => exact k
theorem d_is_listing_ok (as : List D) (t : Ts) (P : D → Ts → Prop) (h : sp_is_listing as t P) : d_is_listing (endsOf P) (start0 ["thing"] as) t := by
  obtain ⟨d, rfl, ⟨n, hn⟩, k⟩ := h
  cases d <;> first | exact k | cases hn
theorem bls_mapf (f : D → Bool) : ∀ l : List D, bls (l.map fun x => .bl (f x)) = some (l.map f)
  | [] => rfl
  | x :: l => by simp [bls, bls_mapf f l]
theorem all_id {α : Type} (f : α → Bool) (l : List α) : (l.map f).all id = l.all f := by
  induction l with
  | nil => rfl
  | cons a l ih => rw [List.map_cons, List.all_cons, List.all_cons, ih]; rfl
theorem take_map {α β : Type} (f : α → β) {l : List α} {i : Nat} {x : α} (h : l[i]? = some x) : (l.take i).map f ++ [f x] = (l.take (i + 1)).map f := by
  rw [List.take_add_one, h]
  simp
theorem d_is_beginning_ok (as : List D) (t : Ts) (P : D → Ts → Prop) (h : sp_is_beginning as t P) : d_is_beginning (endsOf P) (start0 ["base", "thing", "many"] as) t := by
  obtain ⟨b, d, rfl, hn, hl, k⟩ := h
  conv => whnf
  refine ⟨d, rfl, hn, ?_⟩
  cases d with
  | lst l =>
    conv => whnf
    refine Br.mk (fun h1 => ?_) (fun h1 => ?_)
    · conv => whnf
      have e : isBeg b (.lst l) = false := by
        show (decide ((l.length : Int) = b - 1) && _) = _
        simp at h1
        simp [h1]
      rw [e] at k
      exact k
    · have h1 : (l.length : Int) = b - 1 := by simpa using h1
      obtain ⟨hl1, hl2⟩ := hl l (.inl rfl)
      conv => whnf
      refine ⟨fun i acc m => t = m ∧ acc = (l.take i).map fun x => .bl (isCount x), ⟨rfl, rfl⟩, fun i x acc m hx hI => ?_, fun acc m hI => ?_⟩
      · obtain ⟨rfl, rfl⟩ := hI
        conv => whnf
        refine ⟨rfl, ?_⟩
        conv => whnf
        refine ⟨x, rfl, hl2 x (List.mem_of_getElem? hx), ?_⟩
        refine ⟨by rw [List.length_map, List.length_take]; unfold zLen; omega, rfl, take_map (fun x => D.bl (isCount x)) hx⟩
      · obtain ⟨rfl, rfl⟩ := hI
        rw [List.take_length]
        refine ⟨_, bls_mapf isCount l, ?_⟩
        rw [all_id]
        have e : isBeg b (.lst l) = l.all isCount := by
          show (decide ((l.length : Int) = b - 1) && _) = _
          simp [h1]
        rw [e] at k
        exact k
  | tup l =>
    conv => whnf
    refine Br.mk (fun h1 => ?_) (fun h1 => ?_)
    · conv => whnf
      have e : isBeg b (.tup l) = false := by
        show (decide ((l.length : Int) = b - 1) && _) = _
        simp at h1
        simp [h1]
      rw [e] at k
      exact k
    · have h1 : (l.length : Int) = b - 1 := by simpa using h1
      obtain ⟨hl1, hl2⟩ := hl l (.inr rfl)
      conv => whnf
      refine ⟨fun i acc m => t = m ∧ acc = (l.take i).map fun x => .bl (isCount x), ⟨rfl, rfl⟩, fun i x acc m hx hI => ?_, fun acc m hI => ?_⟩
      · obtain ⟨rfl, rfl⟩ := hI
        conv => whnf
        refine ⟨rfl, ?_⟩
        conv => whnf
        refine ⟨x, rfl, hl2 x (List.mem_of_getElem? hx), ?_⟩
        refine ⟨by rw [List.length_map, List.length_take]; unfold zLen; omega, rfl, take_map (fun x => D.bl (isCount x)) hx⟩
      · obtain ⟨rfl, rfl⟩ := hI
        rw [List.take_length]
        refine ⟨_, bls_mapf isCount l, ?_⟩
        rw [all_id]
        have e : isBeg b (.tup l) = l.all isCount := by
          show (decide ((l.length : Int) = b - 1) && _) = _
          simp [h1]
        rw [e] at k
        exact k
  | _ => exact k
end Q
/-! MHse2 -/
namespace Q
open PySem
def hD (W : Cl) (b : Int) (bs : List Int) : D := .ins W.House ["kept_base", "kept_beginning", "sums"] [.int b, .lst (bs.map .int), .lst ((sumsOf 0 bs).map .int)]
def sp_House___init__ (W : Cl) : PSp := fun ds t P => ∃ b bs, (ds = [.int b, .lst (bs.map .int)] ∨ ds = [.int b, .tup (bs.map .int)]) ∧ Hou b bs ∧ P (hD W b bs) t
section
variable (W : Cl) (as : List D) (t : Ts) (P : D → Ts → Prop)
theorem len_House___init__ (h : sp_House___init__ W as t P) : as.length + 1 = 3 := by
  obtain ⟨_, _, rfl | rfl, _⟩ := h <;> rfl
end
theorem nopens_ints : ∀ l : List Int, nopens (l.map .int) = true
  | [] => rfl
  | a :: l => by simp [nopens, nopen, nopens_ints l]
theorem np_House___init__ (W : Cl) (as : List D) (t : Ts) (P : D → Ts → Prop) (h : sp_House___init__ W as t P) : nopens as = true := by
  obtain ⟨_, _, rfl | rfl, _⟩ := h <;> simp [nopens, nopen, nopens_ints]
def d_House_sumsE (W : Cl) : DE := (dOp oAdd (dOp oSub (dVar 3) (dC (.int 1))) (dIfE (dB (dOp oNe (dFld W.House "sums" (dVar 0)) (dLst dNil))) (dOp oIx (dFld W.House "sums" (dVar 0)) (dUn oNeg (dC (.int 1)))) (dC (.int 0))))
def d_House___init__ (W : Cl) : IS := (iThen (iGuard (dNot (dB (dCall sp_is_base [] (dCons (dVar 1) dNil))))) (iThen (iGuard (dNot (dB (dCall sp_is_beginning [] (dCons (dVar 1) (dCons (dVar 2) dNil)))))) (iThen (iSet "kept_base" (dVar 1)) (iThen (iSet "kept_beginning" (dCB bList (dCons (dVar 2) dNil))) (iSums 2 3)))))
theorem sumsE_House (W : Cl) : SumsE W.House 3 (d_House_sumsE W) := by
  intro env t P ns l cur m h0 h1 h3 k
  match env, h0, h3 with
  | a0 :: a1 :: a2 :: a3 :: r, h0, h3 =>
  cases h0
  cases h3
  conv => whnf
  refine ⟨rfl, ?_⟩
  conv => whnf
  rw [h1]
  conv => whnf
  refine ⟨eqok_ints cur [], ?_⟩
  conv => whnf
  refine Br.mk (fun hc => ?_) (fun hc => ?_)
  · have hc : cur ≠ [] := deqn_t (b := []) hc
    conv => whnf
    refine ⟨rfl, ?_⟩
    conv => whnf
    rw [h1]
    conv => whnf
    have hl : 0 < cur.length := List.length_pos_iff.mpr hc
    refine ⟨.int (cur.getLastD 0), ?_, k⟩
    unfold atI
    rw [if_neg (by decide), if_pos (by rw [List.length_map]; omega), List.getElem?_map]
    rw [show ((-1 : Int) + ((cur.map D.int).length : Int)).toNat = cur.length - 1 by rw [List.length_map]; omega, List.getElem?_eq_getElem (by omega)]
    simp [List.getLastD_eq_getLast?, List.getLast?_eq_getElem?, List.getElem?_eq_getElem (show cur.length - 1 < cur.length by omega)]
  · have hc : cur = [] := deqn_f (b := []) hc
    subst hc
    exact k
theorem Hou.isBeg {b : Int} {bs : List Int} (h : Hou b bs) : bs.all (fun x => isCount (.int x)) = true := List.all_eq_true.mpr fun x hx => decide_eq_true (by have := h.pos x hx; omega)
theorem all_map_int (bs : List Int) : (bs.map D.int).all isCount = bs.all (fun x => isCount (.int x)) := by
  induction bs with
  | nil => rfl
  | cons a l ih => rw [List.map_cons, List.all_cons, List.all_cons, ih]
theorem beg_lst {b : Int} {bs : List Int} (h : Hou b bs) : isBeg b (.lst (bs.map .int)) = true := by
  show (decide (((bs.map D.int).length : Int) = b - 1) && (bs.map D.int).all isCount) = true
  rw [List.length_map, h.len, all_map_int, h.isBeg]
  simp
theorem beg_tup {b : Int} {bs : List Int} (h : Hou b bs) : isBeg b (.tup (bs.map .int)) = true := by
  show (decide (((bs.map D.int).length : Int) = b - 1) && (bs.map D.int).all isCount) = true
  rw [List.length_map, h.len, all_map_int, h.isBeg]
  simp
theorem tnOk_ints (bs : List Int) : ∀ x ∈ bs.map D.int, tnOk x := fun x hx => by
  obtain ⟨i, _, rfl⟩ := List.mem_map.mp hx
  exact ⟨_, rfl⟩
theorem d_House___init___ok (W : Cl) (as : List D) (t : Ts) (P : D → Ts → Prop) (x : Addr) (h : sp_House___init__ W as t P) : d_House___init__ W (fun ns l env t' => t' = t ∧ P (.ins W.House ns l) t) [] [] (startI x ["k", "beginning", "many"] as) t := by
  obtain ⟨b, bs, hd, hh, k⟩ := h
  have hl := hh.len
  have h2 := hh.b2
  have h30 := hh.b30
  rcases hd with rfl | rfl
  · conv => whnf
    refine ⟨_, rfl, ⟨_, rfl⟩, ?_⟩
    conv => whnf
    refine br_ne (⟨h2, h30⟩) ?_
    conv => whnf
    refine ⟨_, _, rfl, ⟨_, rfl⟩, fun l hl' => ?_, ?_⟩
    · rcases hl' with z | z
      · cases z
        exact ⟨by rw [List.length_map]; omega, tnOk_ints bs⟩
      · cases z
    rw [beg_lst hh]
    conv => whnf
    refine ⟨⟨rfl, by decide⟩, ?_⟩
    conv => whnf
    refine ⟨⟨rfl, by decide⟩, ?_⟩
    conv => whnf
    refine ⟨bs, rfl, by omega, ⟨rfl, by decide, (show 3 < 4 by decide)⟩, fun s => ⟨rfl, k⟩⟩
  · conv => whnf
    refine ⟨_, rfl, ⟨_, rfl⟩, ?_⟩
    conv => whnf
    refine br_ne (⟨h2, h30⟩) ?_
    conv => whnf
    refine ⟨_, _, rfl, ⟨_, rfl⟩, fun l hl' => ?_, ?_⟩
    · rcases hl' with z | z
      · cases z
      · cases z
        exact ⟨by rw [List.length_map]; omega, tnOk_ints bs⟩
    rw [beg_tup hh]
    conv => whnf
    refine ⟨⟨rfl, by decide⟩, ?_⟩
    conv => whnf
    refine ⟨⟨rfl, by decide⟩, ?_⟩
    conv => whnf
    refine ⟨bs, rfl, by omega, ⟨rfl, by decide, (show 3 < 4 by decide)⟩, fun s => ⟨rfl, k⟩⟩
end Q
/-! MHLaw -/
namespace Q
open PySem
end Q
/-! MRec -/
namespace Q
open PySem
def sdF (b : Int) (bs : List Int) (p : Int) : Nat → Int → Int
  | 0, m => m
  | k + 1, m => if p ≤ Lp b bs m then m else sdF b bs p k (m + 1)
def sd (b : Int) (bs : List Int) (p : Int) : Int := if 1 ≤ p then sdF b bs p p.toNat 1 else 1
end Q
/-! MGone -/
namespace Q
open PySem
def gl (b : Int) (bs : List Int) (n : Nat) : List Int := (List.range n).map fun (i : Nat) => sd b bs ((i : Int) + 1)
end Q
/-! MTot -/
namespace Q
open PySem
end Q
/-! MOft -/
namespace Q
open PySem
end Q
/-! MHA -/
namespace Q
open PySem
def sp__law_pick : PSp := fun ds t P => ∃ n, ∃ l : List D, ds = [.pen, .lst l] ∧ 0 < l.length ∧ l.length ≤ 10000 ∧ Pk n t ∧ n < 90000000 ∧ ∀ (i : Nat) d t', l[i]? = some d → Pk (n + 1) t' → P d t'
theorem len__law_pick (as : List D) (t : Ts) (P : D → Ts → Prop) (h : sp__law_pick as t P) : as.length = 2 := by first | (obtain ⟨_, rfl, _⟩ := h; rfl) | (obtain ⟨_, _, rfl, _⟩ := h; rfl) | (obtain ⟨_, _, _, rfl, _⟩ := h; rfl) | (obtain ⟨_, _, _, _, rfl, _⟩ := h; rfl) | (obtain ⟨_, _, _, _, _, rfl, _⟩ := h; rfl) | (obtain ⟨_, _, _, _, _, _, rfl, _⟩ := h; rfl) | (obtain ⟨_, _, _, _, _, _, _, rfl, _⟩ := h; rfl) | (obtain ⟨_, _, _, _, _, _, _, _, rfl, _⟩ := h; rfl) | (obtain ⟨_, _, _, _, _, _, _, _, _, rfl, _⟩ := h; rfl) | (obtain ⟨_, _, _, _, _, _, _, _, _, _, rfl, _⟩ := h; rfl) | (obtain ⟨_, _, _, _, _, _, _, _, _, _, _, rfl, _⟩ := h; rfl) | (obtain ⟨_, _, _, _, _, _, _, _, _, _, _, _, rfl, _⟩ := h; rfl) | (obtain ⟨_, _, _, _, _, _, _, _, _, _, _, _, _, rfl, _⟩ := h; rfl) | (obtain ⟨_, _, _, _, _, _, _, _, _, _, _, _, _, _, rfl, _⟩ := h; rfl) | (obtain ⟨_, rfl | rfl, _⟩ := h <;> rfl) | (obtain ⟨_, _, rfl | rfl, _⟩ := h <;> rfl) | (obtain ⟨_, _, _, rfl | rfl, _⟩ := h <;> rfl) | (obtain ⟨_, _, _, _, rfl | rfl, _⟩ := h <;> rfl) | (obtain ⟨_, _, _, _, _, rfl | rfl, _⟩ := h <;> rfl) | (obtain ⟨_, _, _, _, _, _, rfl | rfl, _⟩ := h <;> rfl) | (obtain ⟨_, _, _, _, _, _, _, rfl | rfl, _⟩ := h <;> rfl) | (obtain ⟨_, _, _, _, _, _, _, _, rfl | rfl, _⟩ := h <;> rfl) | (obtain ⟨_, _, _, _, _, _, _, _, _, rfl | rfl, _⟩ := h <;> rfl) | (obtain ⟨_, _, _, _, _, _, _, _, _, _, rfl | rfl, _⟩ := h <;> rfl) | (obtain ⟨_, _, _, _, _, _, _, _, _, _, _, rfl | rfl, _⟩ := h <;> rfl) | (obtain ⟨_, _, _, _, _, _, _, _, _, _, _, _, rfl | rfl, _⟩ := h <;> rfl) | (obtain ⟨_, _, _, _, _, _, _, _, _, _, _, _, _, rfl | rfl, _⟩ := h <;> rfl) | (obtain ⟨_, _, _, _, _, _, _, _, _, _, _, _, _, _, rfl | rfl, _⟩ := h <;> rfl)
def d__law_pick : DS := (dSeq (dRet (dOp oIx (dVar 1) (dCall sp__law_draw [] (dCons (dVar 0) (dCons (dCB bLen (dCons (dVar 1) dNil)) dNil))))) dNext)
theorem getD_mem {l : List Int} {i : Nat} (h : i < l.length) : l.getD i 0 ∈ l := by
  rw [List.getD_eq_getElem?_getD, List.getElem?_eq_getElem h]
  exact List.getElem_mem h
theorem d__law_pick_ok (as : List D) (t : Ts) (P : D → Ts → Prop) (h : sp__law_pick as t P) : d__law_pick (endsOf P) (start0 ["_law_pen_here", "_law_some"] as) t := by
  obtain ⟨n, l, rfl, h1, h2, pm, hn, k⟩ := h
  conv => whnf
  refine ⟨_, _, rfl, by first | omega | decide, (sm64 (by first | omega | decide) (by first | omega | decide)).mono (by decide), pm, by omega, fun u t1 u0 u1 pt1 => ?_⟩
  conv => whnf
  have h : u.toNat < l.length := by omega
  exact ⟨_, atI_nat u0 (List.getElem?_eq_getElem h), k _ _ _ (List.getElem?_eq_getElem h) pt1⟩
end Q
/-! MTool -/
namespace Q
open PySem
section
variable {xs : List D} {env : En} {t : Ts} {vs : List Nat} {g : DG} {c : DT} {a : DE} {P : List D → Ts → Prop}
theorem lc_fm (f : Nat → Option D) (hl : xs.length ≤ zLen) (h : ∀ (i : Nat) (x : D), xs[i]? = some x → ∀ (Qy : D → Ts → Prop) (Qn : Ts → Prop), (∀ y, f i = some y → Qy y t) → (f i = none → Qn t) →
    g x (wipeE env vs) t fun e' m' => wipeE e' vs = wipeE env vs ∧ c e' m' fun k m1 => Br k (a e' m1 Qy) (Qn m1)) (k : P ((List.range xs.length).filterMap f) t) :
    ∃ Inv : Nat → List D → Ts → Prop, Inv 0 [] t ∧ (∀ i x acc m, xs[i]? = some x → Inv i acc m → g x (wipeE env vs) m fun e' m' => wipeE e' vs = wipeE env vs ∧ c e' m' fun k m1 => Br k (a e' m1 fun y m2 => acc.length < zLen ∧ Inv (i + 1) (acc ++ [y]) m2) (Inv (i + 1) acc m1)) ∧ ∀ acc m, Inv xs.length acc m → P acc m := by
  refine ⟨fun i acc m => t = m ∧ acc = (List.range i).filterMap f, ⟨rfl, rfl⟩, fun i x acc m hx hI => ?_, fun acc m hI => ?_⟩
  · obtain ⟨rfl, rfl⟩ := hI
    have hi : i < xs.length := (List.getElem?_eq_some_iff.mp hx).1
    refine h i x hx _ _ (fun y hy => ⟨?_, rfl, ?_⟩) (fun hn => ⟨rfl, ?_⟩)
    · refine Nat.lt_of_le_of_lt (List.length_filterMap_le _ _) ?_
      rw [List.length_range]; omega
    · rw [List.range_succ, List.filterMap_append]
      simp [hy]
    · rw [List.range_succ, List.filterMap_append]
      simp [hn]
  · obtain ⟨rfl, rfl⟩ := hI
    exact k
end
theorem getD_some {α : Type} {l : List α} {i : Nat} {x d : α} (h : l[i]? = some x) : l.getD i d = x := by rw [List.getD_eq_getElem?_getD, h]; rfl
mutual
theorem deq_refl : ∀ d : D, plain d = true → deq d d = true
  | .non, _ => rfl
  | .bl b, _ => by simp [deq]
  | .int i, _ => by simp [deq]
  | .str x, _ => by simp [deq]
  | .lst l, h => by unfold deq; exact deqs_refl l (by unfold plain at h; exact h)
  | .tup l, h => by unfold deq; exact deqs_refl l (by unfold plain at h; exact h)
  | .dic _ _, h => by simp [plain] at h
  | .ins _ _ _, h => by simp [plain] at h
  | .pen, h => by simp [plain] at h
  | .ty _, h => by simp [plain] at h
  | .adr _, h => by simp [plain] at h
  | .scr _, h => by simp [plain] at h
theorem deqs_refl : ∀ l : List D, plains l = true → deqs l l = true
  | [], _ => rfl
  | d :: l, h => by
    unfold plains at h
    unfold deqs
    rw [Bool.and_eq_true] at h
    rw [deq_refl d h.1, deqs_refl l h.2]
    rfl
end
end Q
/-! MSum -/
namespace Q
open PySem
def HSm (y : Nat) (bs : List Int) : Prop := ∀ x ∈ bs, Sm y x
end Q
/-! MPenT -/
namespace Q
open PySem
structure Pt (n : Int) (t : Ts) : Prop where
  c : t.cells.length ≤ 63
  a0 : 0 ≤ t.at'
  a1 : t.at' ≤ n
  l : 0 ≤ t.left
  tp : t.tape = true
theorem Pt.mono {n m : Int} {t : Ts} (p : Pt n t) (h : n ≤ m) : Pt m t := ⟨p.c, p.a0, Int.le_trans p.a1 h, p.l, p.tp⟩
end Q
/-! MMark -/
namespace Q
open PySem
def pw (b n : Int) : Int := if h : 0 < n ∧ 2 ≤ b then (if n < b then 1 else b * pw b (n / b)) else 1
termination_by n.toNat
decreasing_by exact ediv_toNat_lt h
section
variable {b : Int}
def mF (b : Int) (ms : List Int) (s : Int) : Int := if s < b - 1 then ms.getD s.toNat 0 else b * ms.getD 0 0
def Mk (b : Int) (ms : List Int) (n : Int) : Int := (pw b n - n % pw b n) * ms.getD (n / pw b n - 1).toNat 0 + n % pw b n * mF b ms (n / pw b n)
end
end Q
/-! MMark2 -/
namespace Q
open PySem
end Q
/-! MMark3 -/
namespace Q
open PySem
theorem HSm.at {y : Nat} {ms : List Int} (h : HSm y ms) (i : Nat) : Sm y (ms.getD i 0) := by
  rw [List.getD_eq_getElem?_getD]
  cases q : ms[i]? with
  | none => show (0 : Int).natAbs < 2 ^ y; exact Nat.two_pow_pos y
  | some x => exact h x (List.mem_of_getElem? q)
end Q
/-! MMark4 -/
namespace Q
open PySem
end Q
/-! MPart -/
namespace Q
open PySem
structure Ap (b : Int) (bs : List Int) (c : Int) (cs : List Int) (n : Int) : Prop where
  n1 : 1 ≤ n
  ne : Ti b bs n ≠ Ti c cs n
  eq : ∀ m, 1 ≤ m → m < n → Ti b bs m = Ti c cs m
theorem Ap.symm {b c n : Int} {bs cs : List Int} (a : Ap b bs c cs n) : Ap c cs b bs n := ⟨a.n1, fun e => a.ne e.symm, fun m h1 h2 => (a.eq m h1 h2).symm⟩
end Q
/-! MRow -/
namespace Q
open PySem
end Q
/-! MLast3 -/
namespace Q
open PySem
end Q
/-! MSay -/
namespace Q
open PySem
def sAm : Str := "at most"
def sAl : Str := "at least"
structure Sy where
  w : Bool
  p : Int
  n : Int
def syD : Sy → D
  | ⟨true, p, n⟩ => .tup [.str "at most", .int p, .int n]
  | ⟨false, p, n⟩ => .tup [.str "at least", .int p, .int n]
structure Sy.Ok (s : Sy) : Prop where
  p1 : 1 ≤ s.p
  n1 : 1 ≤ s.n
def keepB (b : Int) (bs : List Int) (s : Sy) : Bool := if s.w then decide (s.p ≤ Lp b bs s.n) else decide (Lp b bs (s.n - 1) < s.p)
def Lis (d : D) (l : List D) : Prop := d = .lst l ∨ d = .tup l
end Q
/-! MSum2 -/
namespace Q
open PySem
def up (b : Int) (l : List Int) (x : Int) : Int := l.foldr (fun s a => a * b + s) x
end Q
/-! MSay2 -/
namespace Q
open PySem
end Q
/-! MPapA -/
namespace Q
open PySem
theorem cutG_fr {α : Type} {f : α → D} {l : List α} {a : Nat} (h : a ≤ l.length) : cutD (l.map f) (some (a : Int)) none = (l.drop a).map f := by
  unfold cutD
  have e1 : sIx (l.map f).length 0 (some (a : Int)) = a := by
    unfold sIx
    simp only [List.length_map]
    rw [if_neg (by omega)]
    omega
  rw [e1]
  show (((l.map f)).drop a).take ((l.map f).length - a) = _
  rw [List.take_of_length_le (by simp), ← List.map_drop]
theorem cutG_to {α : Type} {f : α → D} {l : List α} {a : Nat} (h : a ≤ l.length) : cutD (l.map f) none (some (a : Int)) = (l.take a).map f := by
  unfold cutD
  have e1 : sIx (l.map f).length (l.map f).length (some (a : Int)) = a := by
    unfold sIx
    simp only [List.length_map]
    rw [if_neg (by omega)]
    omega
  rw [e1]
  show (((l.map f)).drop 0).take (a - 0) = _
  rw [List.drop_zero, Nat.sub_zero, ← List.map_take]
end Q
/-! QD5 -/
namespace Q
open PySem
def dKP (n m : Nat) (ix : List Nat) (a b : DA) : DA := fun env t P => a env t fun xs t1 => b env t1 fun ys t2 => match Nat.beq xs.length n && Nat.beq ys.length m with
  | true => P (xs ++ pick ix ys) t2
  | false => False
def dKD (dds : List D) (a : DA) : DA := fun env t P => a env t fun xs t1 => P (xs ++ dds) t1
end Q
/-! QD6 -/
namespace Q
open PySem
end Q
/-! QD7 -/
namespace Q
open PySem
end Q
/-! QD8 -/
namespace Q
open PySem
end Q
/-! QD9 -/
namespace Q
open PySem
def bStr : DB := fun xs P => match xs with
  | [.int i] => i.natAbs.log2 < 1920 ∧ P (.str (toString i))
  | _ => False
end Q
/-! QD10 -/
namespace Q
open PySem
def dRaiseF (Px : D → Ts → Prop) (as : DA) : DS := fun _ env t => as env t fun xs t1 => match xs with
  | [x] => Px x t1
  | _ => False
end Q
/-! QD11 -/
namespace Q
open PySem
end Q
/-! QD12 -/
namespace Q
open PySem
end Q
namespace Q
open PySem
end Q
/-! QO0 -/
namespace Q
open PySem
/- a field is put -/
def cutT (z : Str) (lo hi : Option Int) : Str := ⟨((z.cps.toList.drop (sIx z.length 0 lo)).take (sIx z.length z.length hi - sIx z.length 0 lo)).toArray⟩
def dSliceS (a : DE) (lo hi : DO) : DE := fun env t P => a env t fun x t1 => lo env t1 fun l t2 => hi env t2 fun h t3 => match x with
  | .str z => z.length ≤ zLen ∧ P (.str (cutT z l h)) t3
  | _ => False
end Q
/-! MWord -/
namespace Q
open PySem
theorem Pk.bare {n : Int} {t : Ts} (p : Pk n t) : Pk n t.bare := ⟨p.c, p.a0, p.a1, p.l, p.tp⟩
def Lt (c : Nat) : Prop := 97 ≤ c ∧ c ≤ 122
instance (c : Nat) : Decidable (Lt c) := by unfold Lt; exact inferInstance
structure Wd (w : Str) : Prop where
  l1 : 0 < w.length
  l2 : w.length < 13
  s : ∀ c ∈ w.cps.toList, Lt c
def wdB (w : Str) : Bool := decide (0 < w.cps.size) && (decide (w.cps.size < 13) && w.cps.toList.all fun c => decide (Lt c))
end Q
/-! MTie -/
namespace Q
open PySem
structure Bnd where
  s : Int
  e : Int
  r : Int
  p : Option Int
def hd (b m : Int) : Int := (sigs b m).getD 0 0
def ex (b m : Int) : Int := (sigs b m).length - 1
def f0 : Bnd := ⟨0, 0, 0, none⟩
def f1 (b : Int) : Bnd := ⟨b - 1, -1, 0, none⟩
def floB (b : Int) (s : Sy) (i : Int) : Bnd := ⟨hd b s.n, ex b s.n, s.p - s.n - heap b s.n, some i⟩
def topB (b : Int) (s : Sy) (i : Int) : Bnd := ⟨hd b (s.n - 1), ex b (s.n - 1), s.p - s.n - heap b (s.n - 1), some i⟩
def floF (b : Int) (s : Sy) (i : Int) : Option Bnd := if s.w = true then some (floB b s i) else none
def topF (b : Int) (s : Sy) (i : Int) : Option Bnd := if s.w = false ∧ 1 < s.n then some (topB b s i) else none
def sy0 : Sy := ⟨true, 1, 1⟩
def flo (b : Int) (ss : List Sy) : List Bnd := f0 :: f1 b :: (List.range ss.length).filterMap fun i => floF b (ss.getD i sy0) i
def top (b : Int) (ss : List Sy) : List Bnd := f1 b :: (List.range ss.length).filterMap fun i => topF b (ss.getD i sy0) i
def prs (ls ts : List Bnd) : List (Bnd × Bnd) := ls.flatMap fun l => (ts.filter fun t => decide (l.s ≤ t.s)).map fun t => (l, t)
def fr (q : Bnd × Bnd) : Int × Int := (q.2.e - q.1.e, q.2.r - q.1.r)
def tis (b : Int) (ss : List Sy) : List (Int × Int) := (prs (flo b ss) (top b ss)).map fr
theorem range_getD {α β : Type} (l : List α) (d : α) (h : α → β) : (List.range l.length).map (fun i => h (l.getD i d)) = l.map h := by
  apply List.ext_getElem
  · simp
  · intro i h1 h2
    simp at h1
    simp [List.getD_eq_getElem?_getD, List.getElem?_eq_getElem h1]
theorem range_getDf {α β : Type} (l : List α) (d : α) (h : α → Option β) : (List.range l.length).filterMap (fun i => h (l.getD i d)) = l.filterMap h := by
  have : l = (List.range l.length).map fun i => l.getD i d := by
    have := range_getD l d id
    simpa using this.symm
  conv => rhs; rw [this, List.filterMap_map]
  rfl
def tieD (z : Int × Int × D) : D := .tup [.int z.1, .int z.2.1, z.2.2]
def sp_least_by : PSp := fun ds t P => ∃ z, ds = [tieD z] ∧ z.1 < 0 ∧ -1000000 ≤ z.1 ∧ P (.int (-(z.2.1 / -z.1))) t
def sp_greatest_by : PSp := fun ds t P => ∃ z, ds = [tieD z] ∧ 0 < z.1 ∧ z.1 ≤ 1000000 ∧ P (.int (z.2.1 / z.1)) t
def FOk (fs : List (Int × Int × D)) : Prop := ∀ z ∈ fs, -1000000 ≤ z.1 ∧ z.1 ≤ 1000000
theorem len_least_by (as : List D) (t : Ts) (P : D → Ts → Prop) (h : sp_least_by as t P) : as.length = 1 := by first | (obtain ⟨_, rfl, _⟩ := h; rfl) | (obtain ⟨_, _, rfl, _⟩ := h; rfl) | (obtain ⟨_, _, _, rfl, _⟩ := h; rfl) | (obtain ⟨_, _, _, _, rfl, _⟩ := h; rfl) | (obtain ⟨_, _, _, _, _, rfl, _⟩ := h; rfl) | (obtain ⟨_, _, _, _, _, _, rfl, _⟩ := h; rfl) | (obtain ⟨_, _, _, _, _, _, _, rfl, _⟩ := h; rfl) | (obtain ⟨_, _, _, _, _, _, _, _, rfl, _⟩ := h; rfl) | (obtain ⟨_, _, _, _, _, _, _, _, _, rfl, _⟩ := h; rfl) | (obtain ⟨_, _, _, _, _, _, _, _, _, _, rfl, _⟩ := h; rfl) | (obtain ⟨_, _, _, _, _, _, _, _, _, _, _, rfl, _⟩ := h; rfl) | (obtain ⟨_, _, _, _, _, _, _, _, _, _, _, _, rfl, _⟩ := h; rfl) | (obtain ⟨_, _, _, _, _, _, _, _, _, _, _, _, _, rfl, _⟩ := h; rfl) | (obtain ⟨_, _, _, _, _, _, _, _, _, _, _, _, _, _, rfl, _⟩ := h; rfl) | (obtain ⟨_, rfl | rfl, _⟩ := h <;> rfl) | (obtain ⟨_, _, rfl | rfl, _⟩ := h <;> rfl) | (obtain ⟨_, _, _, rfl | rfl, _⟩ := h <;> rfl) | (obtain ⟨_, _, _, _, rfl | rfl, _⟩ := h <;> rfl) | (obtain ⟨_, _, _, _, _, rfl | rfl, _⟩ := h <;> rfl) | (obtain ⟨_, _, _, _, _, _, rfl | rfl, _⟩ := h <;> rfl) | (obtain ⟨_, _, _, _, _, _, _, rfl | rfl, _⟩ := h <;> rfl) | (obtain ⟨_, _, _, _, _, _, _, _, rfl | rfl, _⟩ := h <;> rfl) | (obtain ⟨_, _, _, _, _, _, _, _, _, rfl | rfl, _⟩ := h <;> rfl) | (obtain ⟨_, _, _, _, _, _, _, _, _, _, rfl | rfl, _⟩ := h <;> rfl) | (obtain ⟨_, _, _, _, _, _, _, _, _, _, _, rfl | rfl, _⟩ := h <;> rfl) | (obtain ⟨_, _, _, _, _, _, _, _, _, _, _, _, rfl | rfl, _⟩ := h <;> rfl) | (obtain ⟨_, _, _, _, _, _, _, _, _, _, _, _, _, rfl | rfl, _⟩ := h <;> rfl) | (obtain ⟨_, _, _, _, _, _, _, _, _, _, _, _, _, _, rfl | rfl, _⟩ := h <;> rfl)
theorem len_greatest_by (as : List D) (t : Ts) (P : D → Ts → Prop) (h : sp_greatest_by as t P) : as.length = 1 := by first | (obtain ⟨_, rfl, _⟩ := h; rfl) | (obtain ⟨_, _, rfl, _⟩ := h; rfl) | (obtain ⟨_, _, _, rfl, _⟩ := h; rfl) | (obtain ⟨_, _, _, _, rfl, _⟩ := h; rfl) | (obtain ⟨_, _, _, _, _, rfl, _⟩ := h; rfl) | (obtain ⟨_, _, _, _, _, _, rfl, _⟩ := h; rfl) | (obtain ⟨_, _, _, _, _, _, _, rfl, _⟩ := h; rfl) | (obtain ⟨_, _, _, _, _, _, _, _, rfl, _⟩ := h; rfl) | (obtain ⟨_, _, _, _, _, _, _, _, _, rfl, _⟩ := h; rfl) | (obtain ⟨_, _, _, _, _, _, _, _, _, _, rfl, _⟩ := h; rfl) | (obtain ⟨_, _, _, _, _, _, _, _, _, _, _, rfl, _⟩ := h; rfl) | (obtain ⟨_, _, _, _, _, _, _, _, _, _, _, _, rfl, _⟩ := h; rfl) | (obtain ⟨_, _, _, _, _, _, _, _, _, _, _, _, _, rfl, _⟩ := h; rfl) | (obtain ⟨_, _, _, _, _, _, _, _, _, _, _, _, _, _, rfl, _⟩ := h; rfl) | (obtain ⟨_, rfl | rfl, _⟩ := h <;> rfl) | (obtain ⟨_, _, rfl | rfl, _⟩ := h <;> rfl) | (obtain ⟨_, _, _, rfl | rfl, _⟩ := h <;> rfl) | (obtain ⟨_, _, _, _, rfl | rfl, _⟩ := h <;> rfl) | (obtain ⟨_, _, _, _, _, rfl | rfl, _⟩ := h <;> rfl) | (obtain ⟨_, _, _, _, _, _, rfl | rfl, _⟩ := h <;> rfl) | (obtain ⟨_, _, _, _, _, _, _, rfl | rfl, _⟩ := h <;> rfl) | (obtain ⟨_, _, _, _, _, _, _, _, rfl | rfl, _⟩ := h <;> rfl) | (obtain ⟨_, _, _, _, _, _, _, _, _, rfl | rfl, _⟩ := h <;> rfl) | (obtain ⟨_, _, _, _, _, _, _, _, _, _, rfl | rfl, _⟩ := h <;> rfl) | (obtain ⟨_, _, _, _, _, _, _, _, _, _, _, rfl | rfl, _⟩ := h <;> rfl) | (obtain ⟨_, _, _, _, _, _, _, _, _, _, _, _, rfl | rfl, _⟩ := h <;> rfl) | (obtain ⟨_, _, _, _, _, _, _, _, _, _, _, _, _, rfl | rfl, _⟩ := h <;> rfl) | (obtain ⟨_, _, _, _, _, _, _, _, _, _, _, _, _, _, rfl | rfl, _⟩ := h <;> rfl)
def d_least_by : DS := (dSeq (dRet (dUn oNeg (dOp oDiv (dOp oIx (dVar 0) (dC (.int 1))) (dUn oNeg (dOp oIx (dVar 0) (dC (.int 0))))))) dNext)
def d_greatest_by : DS := (dSeq (dRet (dOp oDiv (dOp oIx (dVar 0) (dC (.int 1))) (dOp oIx (dVar 0) (dC (.int 0))))) dNext)
end Q
/-! MTie2 -/
namespace Q
open PySem
theorem d_least_by_ok (as : List D) (t : Ts) (P : D → Ts → Prop) (h : sp_least_by as t P) : d_least_by (endsOf P) (start0 ["tie"] as) t := by
  obtain ⟨⟨f, r, x⟩, rfl, h1, h2, k⟩ := h
  have h1 : f < 0 := h1
  have h2 : -1000000 ≤ f := h2
  conv => whnf
  refine ⟨_, rfl, ?_⟩
  conv => whnf
  refine ⟨_, rfl, ?_⟩
  refine ⟨.s (by omega) (by omega), ?_⟩
  conv => whnf
  exact k
theorem d_greatest_by_ok (as : List D) (t : Ts) (P : D → Ts → Prop) (h : sp_greatest_by as t P) : d_greatest_by (endsOf P) (start0 ["tie"] as) t := by
  obtain ⟨⟨f, r, x⟩, rfl, h1, h2, k⟩ := h
  have h1 : 0 < f := h1
  have h2 : f ≤ 1000000 := h2
  conv => whnf
  refine ⟨_, rfl, ?_⟩
  conv => whnf
  refine ⟨_, rfl, ?_⟩
  refine ⟨.s (by omega) (by omega), ?_⟩
  conv => whnf
  exact k
end Q
/-! MTie3 -/
namespace Q
open PySem
theorem map_getD' {α : Type} {l : List α} {f : α → D} {i : Nat} {d : D} (h : (l.map f)[i]? = some d) : ∃ z, l[i]? = some z ∧ d = f z := by
  rw [List.getElem?_map] at h
  cases q : l[i]? with
  | none => rw [q] at h; cases h
  | some z => rw [q] at h; cases h; exact ⟨z, rfl, rfl⟩
end Q
/-! MHs -/
namespace Q
open PySem
def mxl : List Int → Int
  | [] => 0
  | [x] => x
  | x :: y :: l => if x ≤ mxl (y :: l) then mxl (y :: l) else x
def lev (R : Int) (x : Bnd) : Int := x.r - x.e * R
def Fl (b R : Int) (ss : List Sy) (j : Int) : Int := mxl (((flo b ss).filter fun x => decide (x.s ≤ j)).map (lev R))
def Has (b R : Int) (ss : List Sy) : Prop := ∀ z ∈ tis b ss, z.1 * R ≤ z.2
structure Bds (b R : Int) (bs : List Int) (ss : List Sy) : Prop where
  f : ∀ x ∈ flo b ss, lev R x ≤ Su bs x.s
  t : ∀ x ∈ top b ss, Su bs x.s ≤ lev R x
theorem sy_mem' {ss : List Sy} {i : Nat} (hi : i < ss.length) : ss.getD i sy0 ∈ ss := by
  rw [List.getD_eq_getElem?_getD, List.getElem?_eq_getElem hi]
  exact List.getElem_mem _
section
variable {b R : Int} {bs : List Int} {ss : List Sy}
theorem flo_mem {x : Bnd} : x ∈ flo b ss ↔ x = f0 ∨ x = f1 b ∨ ∃ i, i < ss.length ∧ (ss.getD i sy0).w = true ∧ x = floB b (ss.getD i sy0) i := by
  simp only [flo, List.mem_cons, List.mem_filterMap, List.mem_range, floF]
  constructor
  · rintro (h | h | ⟨i, hi, h⟩)
    · exact .inl h
    · exact .inr (.inl h)
    · split at h
      · rename_i hw; cases h; exact .inr (.inr ⟨i, hi, hw, rfl⟩)
      · cases h
  · rintro (h | h | ⟨i, hi, hw, h⟩)
    · exact .inl h
    · exact .inr (.inl h)
    · exact .inr (.inr ⟨i, hi, by rw [if_pos hw, h]⟩)
theorem top_mem {x : Bnd} : x ∈ top b ss ↔ x = f1 b ∨ ∃ i, i < ss.length ∧ ((ss.getD i sy0).w = false ∧ 1 < (ss.getD i sy0).n) ∧ x = topB b (ss.getD i sy0) i := by
  simp only [top, List.mem_cons, List.mem_filterMap, List.mem_range, topF]
  constructor
  · rintro (h | ⟨i, hi, h⟩)
    · exact .inl h
    · split at h
      · rename_i hw; cases h; exact .inr ⟨i, hi, hw, rfl⟩
      · cases h
  · rintro (h | ⟨i, hi, hw, h⟩)
    · exact .inl h
    · exact .inr ⟨i, hi, by rw [if_pos hw, h]⟩
theorem hd_in (h2 : 2 ≤ b) {m : Int} (hm : 1 ≤ m) : 1 ≤ hd b m ∧ hd b m ≤ b - 1 := by
  have h1 := sigs_ne (b := b) (x := m) (by omega) h2
  have h3 := sigs_head h2 _ m (by omega) (Nat.le_refl _)
  have h4 : (sigs b m).getD 0 0 ∈ sigs b m := getD_mem (List.length_pos_iff.mpr h1)
  have h5 := sigs_mem h2 _ m (Nat.le_refl _) _ h4
  unfold hd
  omega
end
end Q
/-! MHs2 -/
namespace Q
open PySem
def difS : Int → List Int → List Int
  | _, [] => []
  | a, x :: l => (1 + x - a) :: difS x l
def Ris : Int → List Int → Prop
  | _, [] => True
  | a, x :: l => a ≤ x ∧ Ris x l
section
variable {b R : Int} {bs cs : List Int} {ss : List Sy}
def hF (b : Int) (F : Int → Int) : List Int := difS 0 ((List.range (b - 1).toNat).map fun (i : Nat) => F ((i : Int) + 1))
theorem flo_s (h2 : 2 ≤ b) (hs : ∀ s ∈ ss, s.Ok) {x : Bnd} (hx : x ∈ flo b ss) : x = f0 ∨ (1 ≤ x.s ∧ x.s ≤ b - 1) := by
  rcases flo_mem.mp hx with e | e | ⟨i, hi, hw, rfl⟩
  · exact .inl e
  · subst e; exact .inr ⟨by show 1 ≤ b - 1; omega, Int.le_refl _⟩
  · exact .inr (hd_in h2 (hs _ (sy_mem' hi)).n1)
theorem top_s (h2 : 2 ≤ b) {x : Bnd} (hx : x ∈ top b ss) : 1 ≤ x.s ∧ x.s ≤ b - 1 := by
  rcases top_mem.mp hx with e | ⟨i, hi, hw, rfl⟩
  · subst e; exact ⟨by show 1 ≤ b - 1; omega, Int.le_refl _⟩
  · exact hd_in h2 (by omega)
theorem has_iff : Has b R ss ↔ ∀ x ∈ flo b ss, ∀ y ∈ top b ss, x.s ≤ y.s → lev R x ≤ lev R y := by
  have key : ∀ x y : Bnd, (y.e - x.e) * R ≤ y.r - x.r ↔ lev R x ≤ lev R y := fun x y => by
    unfold lev
    rw [Int.sub_mul]
    omega
  constructor
  · intro h x hx y hy hs
    refine (key x y).mp (h (fr (x, y)) ?_)
    exact List.mem_map.mpr ⟨(x, y), List.mem_flatMap.mpr ⟨x, hx, List.mem_map.mpr ⟨y, List.mem_filter.mpr ⟨hy, decide_eq_true hs⟩, rfl⟩⟩, rfl⟩
  · intro h z hz
    obtain ⟨q, hq, rfl⟩ := List.mem_map.mp hz
    obtain ⟨x, hx, hq⟩ := List.mem_flatMap.mp hq
    obtain ⟨y, hy, rfl⟩ := List.mem_map.mp hq
    obtain ⟨hy, hs⟩ := List.mem_filter.mp hy
    exact (key x y).mpr (h x hx y hy (of_decide_eq_true hs))
theorem Bds.has (h : Hou b bs) (hs : ∀ s ∈ ss, s.Ok) (z : Bds b R bs ss) : Has b R ss := has_iff.mpr fun x hx y hy hle => by
  have h1 := z.f x hx
  have h3 := z.t y hy
  have h4 := top_s h.b2 hy
  have h5 : 0 ≤ x.s := by
    rcases flo_s h.b2 hs hx with e | e
    · subst e; exact Int.le_refl _
    · omega
  have := Su_le h h5 hle (by rw [h.len]; exact h4.2)
  omega
end
end Q
/-! MEvr -/
namespace Q
open PySem
def nx (R : Int) (l : List Int) : List (List Int) := (List.range (R + 1 - l.getLastD 0).toNat).map fun (i : Nat) => l ++ [l.getLastD 0 + i]
def rws (R : Int) : Nat → List (List Int)
  | 0 => [[]]
  | j + 1 => (rws R j).flatMap (nx R)
def evr (b R : Int) : List (List Int) := (rws R (b - 2).toNat).map fun l => difS 0 (l ++ [R])
end Q
/-! MTwo -/
namespace Q
open PySem
end Q
/-! MEvr2 -/
namespace Q
open PySem
end Q
/-! MLev -/
namespace Q
open PySem
theorem fm_filter {α : Type} {p : α → Bool} {g : α → D} : ∀ l : List α, l.filterMap (fun x => if p x = true then some (g x) else none) = (l.filter p).map g
  | [] => rfl
  | x :: l => by
    cases h : p x <;> simp [h, fm_filter l]
end Q
/-! MNine -/
namespace Q
open PySem
end Q
/-! MBar -/
namespace Q
open PySem
end Q
/-! MFits -/
namespace Q
open PySem
def fits (b R : Int) (ss : List Sy) : List (List Int) := (evr b R).filter fun bs => ss.all (keepB b bs)
end Q
/-! MBarL -/
namespace Q
open PySem
def sub (ss : List Sy) (ps : List Int) : List Sy := ps.map fun p => ss.getD p.toNat sy0
end Q
/-! MLr0 -/
namespace Q
open PySem
inductive Wh where
  | bl (b : Bool)
  | sy (s : Sy)
structure Ent where
  m : Int
  n : Str
  w : Wh
def whD : Wh → D
  | .bl b => .bl b
  | .sy s => syD s
def entD (e : Ent) : D := .tup [.int e.m, .str e.n, whD e.w]
def Wh.Ok : Wh → Prop
  | .bl _ => True
  | .sy s => s.Ok
structure EOk (e : Ent) : Prop where
  m0 : 0 ≤ e.m
  n : Wd e.n
  w : e.w.Ok
def kysE (es : List Ent) : List Ky := es.map fun e => .inl e.m
structure LoreAt (W : Cl) (O : Addr → Option D) (a b : Addr) (k : Int) (es : List Ent) : Prop where
  A : O a = some (.ins W.Lore ["kept_base", "kept"] [.int k, .adr b])
  B : O b = some (.dic (kysE es) (es.map entD))
theorem LoreAt.ne {W : Cl} {O : Addr → Option D} {a b : Addr} {k : Int} {es : List Ent} (h : LoreAt W O a b k es) : a ≠ b := fun z => by
  have := h.A
  rw [z, h.B] at this
  cases this
structure Fr (t t' : Ts) (S : List Addr) : Prop where
  b : t'.bare = t.bare
  o : ∀ c, c ∉ S → t'.obs c = t.obs c
theorem Fr.trans {t t1 t2 : Ts} {S : List Addr} (f : Fr t t1 S) (g : Fr t1 t2 S) : Fr t t2 S := ⟨g.b.trans f.b, fun c h => (g.o c h).trans (f.o c h)⟩
theorem Fr.put {t t' : Ts} {a : Addr} {d : D} {S : List Addr} (f : Fr t t' S) (h : a ∈ S) : Fr t (t'.put a d) S :=
  ⟨f.b, fun c hc => by rw [Ts.put_ne _ _ (fun z => hc (by rw [z]; exact h))]; exact f.o c hc⟩
theorem LoreAt.fr {W : Cl} {t t' : Ts} {a b : Addr} {k : Int} {es : List Ent} {S : List Addr} (h : LoreAt W t.obs a b k es) (f : Fr t t' S) (ha : a ∉ S) (hb : b ∉ S) : LoreAt W t'.obs a b k es := ⟨by rw [f.o a ha]; exact h.A, by rw [f.o b hb]; exact h.B⟩
def PutS (W : Cl) (a : Addr) (e : Ent) (t : Ts) (P : D → Ts → Prop) : Prop := ∃ b k es, LoreAt W t.obs a b k es ∧ EOk e ∧ es.length < 1000 ∧ (∀ f ∈ es, f.m ≠ e.m) ∧ ∀ t', Fr t t' [b] → LoreAt W t'.obs a b k (es ++ [e]) → P .non t'
theorem PutS.at {W : Cl} {a : Addr} {e : Ent} {t : Ts} {P : D → Ts → Prop} (h : PutS W a e t P) : ∃ b k, t.obs a = some (.ins W.Lore ["kept_base", "kept"] [.int k, .adr b]) := by
  obtain ⟨b, k, es, L, _⟩ := h
  exact ⟨b, k, L.A⟩
end Q
/-! MEntA -/
namespace Q
open PySem
instance decSy : DecidableEq Sy := fun ⟨w, p, n⟩ ⟨w', p', n'⟩ => decidable_of_iff (w = w' ∧ p = p' ∧ n = n') (by simp)
instance decWh : DecidableEq Wh := fun a b => match a, b with
  | .bl x, .bl y => decidable_of_iff (x = y) (by simp)
  | .sy x, .sy y => decidable_of_iff (x = y) (by simp)
  | .bl _, .sy _ => .isFalse (by simp)
  | .sy _, .bl _ => .isFalse (by simp)
instance decEnt : DecidableEq Ent := fun ⟨m, n, w⟩ ⟨m', n', w'⟩ => decidable_of_iff (m = m' ∧ n = n' ∧ w = w') (by simp)
theorem deq_sy (s r : Sy) : deq (syD s) (syD r) = decide (s = r) := by
  obtain ⟨w, p, n⟩ := s
  obtain ⟨w', p', n'⟩ := r
  rw [Bool.eq_iff_iff]
  have ne : ¬ Str.ofString "at least" = Str.ofString "at most" := by decide +kernel
  have ne2 : ¬ Str.ofString "at most" = Str.ofString "at least" := by decide +kernel
  cases w <;> cases w' <;> simp [syD, deq, deqs, ne, ne2]
theorem deq_wh (w v : Wh) : deq (whD w) (whD v) = decide (w = v) := by
  rw [Bool.eq_iff_iff]
  cases w with
  | bl a =>
    cases v with
    | bl b => simp [whD, deq]
    | sy s =>
      obtain ⟨w, p, n⟩ := s
      cases w <;> simp [whD, syD, deq]
  | sy s =>
    cases v with
    | bl b =>
      obtain ⟨w, p, n⟩ := s
      cases w <;> simp [whD, syD, deq]
    | sy r =>
      show (deq (syD s) (syD r) = true) ↔ _
      rw [deq_sy]
      simp
end Q
/-! QD13 -/
namespace Q
open PySem
end Q
/-! QD14 -/
namespace Q
open PySem
end Q
/-! QD15 -/
namespace Q
open PySem
end Q
/-! QD16 -/
namespace Q
open PySem
end Q
/-! QD17 -/
namespace Q
open PySem
end Q
/-! QD18 -/
namespace Q
open PySem
end Q
/-! QD19 -/
namespace Q
open PySem
end Q
/-! QD20 -/
namespace Q
open PySem
end Q
/-! QD21 -/
namespace Q
open PySem
end Q
/-! QD22 -/
namespace Q
open PySem
end Q
/-! QD23 -/
namespace Q
open PySem
end Q
/-! QD24 -/
namespace Q
open PySem
end Q
/-! QD25 -/
namespace Q
open PySem
inductive Xn where
  | BadHouse | BadMoment | BadSaying | BadTeller | NoAsk | Unread | NoEntry | NoName | SameMoment | BadMark | Beyond | NoBar | NoHouse | OtherK
def Xn.n : Xn → Nat
  | .BadHouse => 0 | .BadMoment => 1 | .BadSaying => 2 | .BadTeller => 3 | .NoAsk => 4 | .Unread => 5 | .NoEntry => 6 | .NoName => 7 | .SameMoment => 8 | .BadMark => 9 | .Beyond => 10 | .NoBar => 11 | .NoHouse => 12 | .OtherK => 13
def Xn.is (a b : Xn) : Bool := Nat.beq a.n b.n
theorem Xn.is_eq {a b : Xn} (h : Xn.is a b = true) : a = b := by
  cases a <;> cases b <;> first | rfl | exact absurd h (by decide)
abbrev PX := Xn → D → Ts → Prop
abbrev PSpE := List D → Ts → (D → Ts → Prop) → PX → Prop
abbrev DXE := En → Ts → (D → Ts → Prop) → PX → Prop
def zCall (sp : PSpE) (as : DA) : DXE := fun env t P Px => as env t fun xs t1 => sp xs t1 P Px
def dXE (dx : DXE) (Px : PX) : DE := fun env t P => dx env t P Px
def dRaiseE (c : Xn) (Px : PX) (as : DA) : DS := dRaiseF (Px c) as
abbrev DK := DEnds → En → D → Ts → Prop
def kDrop : DK := fun DD env _ t => DD.nx env t
abbrev DHs := Xn → D → DS
def hOn (c0 : Xn) (h : D → DS) (r : DHs) : DHs := fun c d => match Xn.is c c0 with
  | true => h d
  | false => r c d
def dTryE (dx : DXE) (ko : DK) (hs : DHs) : DS := fun DD env t => dx env t (fun d t2 => ko DD env d t2) fun c d t2 => hs c d DD env t2
end Q
/-! QD26 -/
namespace Q
open PySem
end Q
/-! QD27 -/
namespace Q
open PySem
end Q
/-! MLoreE -/
namespace Q
open PySem
def momB : D → Bool
  | .int i => decide (0 ≤ i)
  | _ => false
def telB : D → Bool
  | .str w => wdB w
  | _ => false
def isBd : D → Bool
  | .str w => decide (w = "at most") || decide (w = "at least")
  | _ => false
def sayL : List D → Bool
  | [a, b, c] => isBd a && (isCount b && isCount c)
  | _ => false
def sayB : D → Bool
  | .tup l => sayL l
  | _ => false
def whB : D → Bool
  | .bl _ => true
  | d => sayB d
theorem bd_am : isBd (.str "at most") = true := by decide +kernel
theorem bd_al : isBd (.str "at least") = true := by decide +kernel
theorem sayB_sy {s : Sy} (h : s.Ok) : sayB (syD s) = true := by
  obtain ⟨w, p, n⟩ := s
  obtain ⟨h1, h2⟩ := h
  have h1 : 1 ≤ p := h1
  have h2 : 1 ≤ n := h2
  have e1 : isCount (.int p) = true := decide_eq_true (by omega)
  have e2 : isCount (.int n) = true := decide_eq_true (by omega)
  cases w with
  | true =>
    show (isBd (.str "at most") && (isCount (.int p) && isCount (.int n))) = true
    rw [e1, e2, bd_am]
    rfl
  | false =>
    show (isBd (.str "at least") && (isCount (.int p) && isCount (.int n))) = true
    rw [e1, e2, bd_al]
    rfl
theorem whB_wh {w : Wh} (h : w.Ok) : whB (whD w) = true := by
  cases w with
  | bl b => rfl
  | sy s =>
    have := sayB_sy (s := s) h
    obtain ⟨w, p, n⟩ := s
    cases w <;> exact this
def itemsOk : D → Prop
  | .tup l => ∀ x ∈ l, tnOk x
  | _ => True
def sp_is_saying_a : PSp := fun ds t P => ∃ d, ds = [d] ∧ tnOk d ∧ itemsOk d ∧ P (.bl (sayB d)) t
structure AnyE (dM dT dW : D) : Prop where
  m : tnOk dM
  t : tnOk dT
  l : ∀ w, dT = .str w → w.length ≤ zLen
  w : tnOk dW
  i : itemsOk dW
def PutE (W : Cl) (a : Addr) (dM dT dW : D) (t : Ts) (P : D → Ts → Prop) (Px : PX) : Prop := ∃ b k es, LoreAt W t.obs a b k es ∧ es.length < 1000 ∧ AnyE dM dT dW ∧ (momB dM = false → Px .BadMoment dM t) ∧ (momB dM = true → telB dT = false → Px .BadTeller dT t) ∧
  (momB dM = true → telB dT = true → whB dW = false → Px .BadSaying (.int 0) t) ∧ ∀ m n w, dM = .int m → dT = .str n → dW = whD w → EOk ⟨m, n, w⟩ → ((∃ f ∈ es, f.m = m) → Px .SameMoment (.int m) t) ∧ ((∀ f ∈ es, f.m ≠ m) → ∀ t', Fr t t' [b] → LoreAt W t'.obs a b k (es ++ [⟨m, n, w⟩]) → P .non t')
theorem PutE.of {W : Cl} {a : Addr} {e : Ent} {t : Ts} {P : D → Ts → Prop} {Px : PX} (h : PutS W a e t P) : PutE W a (.int e.m) (.str e.n) (whD e.w) t P Px := by
  obtain ⟨b, k, es, L, eo, hl, hne, hk⟩ := h
  have lw : e.n.length ≤ 12 := by have := eo.n.l2; omega
  have m0 := eo.m0
  have hm : momB (.int e.m) = true := decide_eq_true m0
  have ht : telB (.str e.n) = true := by
    show wdB e.n = true
    unfold wdB
    have h1 := eo.n.l1
    have h2 := eo.n.l2
    simp only [Bool.and_eq_true, decide_eq_true_eq, List.all_eq_true]
    exact ⟨h1, h2, eo.n.s⟩
  have hw := whB_wh eo.w
  refine ⟨b, k, es, L, hl, ⟨⟨_, rfl⟩, ⟨_, rfl⟩, (fun w ew => by cases ew; unfold zLen; omega), ?_, ?_⟩, (fun z => by rw [hm] at z; cases z), (fun _ z => by rw [ht] at z; cases z), (fun _ _ z => by rw [hw] at z; cases z), fun m n w e1 e2 e3 eo' => ?_⟩
  · obtain ⟨m, n, w⟩ := e
    cases w with
    | bl b => exact ⟨_, rfl⟩
    | sy s => obtain ⟨w, p, q⟩ := s; cases w <;> exact ⟨_, rfl⟩
  · obtain ⟨m, n, w⟩ := e
    have it : ∀ x y z : D, tnOk x → tnOk y → tnOk z → ∀ d ∈ [x, y, z], tnOk d := fun x y z h1 h2 h3 d hd => by
      simp only [List.mem_cons, List.not_mem_nil, or_false] at hd
      rcases hd with rfl | rfl | rfl <;> assumption
    cases w with
    | bl b => trivial
    | sy s => obtain ⟨w, p, q⟩ := s; cases w <;> exact it _ _ _ ⟨_, rfl⟩ ⟨_, rfl⟩ ⟨_, rfl⟩
  · cases e1
    cases e2
    have ew : w = e.w := by
      have z := deq_wh e.w w
      rw [← e3, deq_wh, decide_eq_true rfl] at z
      exact (of_decide_eq_true z.symm).symm
    subst ew
    refine ⟨fun ⟨f, hf, hm⟩ => absurd hm (hne f hf), fun _ => hk⟩
theorem len_is_saying_a (as : List D) (t : Ts) (P : D → Ts → Prop) (h : sp_is_saying_a as t P) : as.length = 1 := by first | (obtain ⟨_, rfl, _⟩ := h; rfl) | (obtain ⟨_, _, rfl, _⟩ := h; rfl) | (obtain ⟨_, _, _, rfl, _⟩ := h; rfl) | (obtain ⟨_, _, _, _, rfl, _⟩ := h; rfl) | (obtain ⟨_, _, _, _, _, rfl, _⟩ := h; rfl) | (obtain ⟨_, _, _, _, _, _, rfl, _⟩ := h; rfl) | (obtain ⟨_, _, _, _, _, _, _, rfl, _⟩ := h; rfl) | (obtain ⟨_, _, _, _, _, _, _, _, rfl, _⟩ := h; rfl) | (obtain ⟨_, _, _, _, _, _, _, _, _, rfl, _⟩ := h; rfl) | (obtain ⟨_, _, _, _, _, _, _, _, _, _, rfl, _⟩ := h; rfl) | (obtain ⟨_, _, _, _, _, _, _, _, _, _, _, rfl, _⟩ := h; rfl) | (obtain ⟨_, _, _, _, _, _, _, _, _, _, _, _, rfl, _⟩ := h; rfl) | (obtain ⟨_, _, _, _, _, _, _, _, _, _, _, _, _, rfl, _⟩ := h; rfl) | (obtain ⟨_, _, _, _, _, _, _, _, _, _, _, _, _, _, rfl, _⟩ := h; rfl) | (obtain ⟨_, rfl | rfl, _⟩ := h <;> rfl) | (obtain ⟨_, _, rfl | rfl, _⟩ := h <;> rfl) | (obtain ⟨_, _, _, rfl | rfl, _⟩ := h <;> rfl) | (obtain ⟨_, _, _, _, rfl | rfl, _⟩ := h <;> rfl) | (obtain ⟨_, _, _, _, _, rfl | rfl, _⟩ := h <;> rfl) | (obtain ⟨_, _, _, _, _, _, rfl | rfl, _⟩ := h <;> rfl) | (obtain ⟨_, _, _, _, _, _, _, rfl | rfl, _⟩ := h <;> rfl) | (obtain ⟨_, _, _, _, _, _, _, _, rfl | rfl, _⟩ := h <;> rfl) | (obtain ⟨_, _, _, _, _, _, _, _, _, rfl | rfl, _⟩ := h <;> rfl) | (obtain ⟨_, _, _, _, _, _, _, _, _, _, rfl | rfl, _⟩ := h <;> rfl) | (obtain ⟨_, _, _, _, _, _, _, _, _, _, _, rfl | rfl, _⟩ := h <;> rfl) | (obtain ⟨_, _, _, _, _, _, _, _, _, _, _, _, rfl | rfl, _⟩ := h <;> rfl) | (obtain ⟨_, _, _, _, _, _, _, _, _, _, _, _, _, rfl | rfl, _⟩ := h <;> rfl) | (obtain ⟨_, _, _, _, _, _, _, _, _, _, _, _, _, _, rfl | rfl, _⟩ := h <;> rfl)
def d_is_saying_a : DS := (dSeq (dIf (dOr (dNot (dB (dIsi [.tup] (dVar 0)))) (dOr (dB (dOp oNe (dCB bLen (dCons (dVar 0) dNil)) (dC (.int 3)))) (dNot (dB (dIsi [.str] (dOp oIx (dVar 0) (dC (.int 0)))))))) (dSeq (dRet (dC (.bl false))) dNext) dNext) (dSeq (dRet (dAndV (dOp oInT (dOp oIx (dVar 0) (dC (.int 0))) (dTup (dCons (dC (.str "at most")) (dCons (dC (.str "at least")) dNil)))) (dAndV (dCall sp_is_count [] (dCons (dOp oIx (dVar 0) (dC (.int 1))) dNil)) (dCall sp_is_count [] (dCons (dOp oIx (dVar 0) (dC (.int 2))) dNil))))) dNext))
theorem bd_any (w : Str) : ([("at most" : Str), "at least"].any fun z => z == w) = isBd (.str w) := by
  show (("at most" == w) || (("at least" == w) || false)) = (decide (w = "at most") || decide (w = "at least"))
  rw [Bool.or_false, Bool.eq_iff_iff]
  simp only [Bool.or_eq_true, beq_iff_eq, decide_eq_true_eq]
  exact ⟨fun h => h.imp Eq.symm Eq.symm, fun h => h.imp Eq.symm Eq.symm⟩
theorem d_is_saying_a_ok (as : List D) (t : Ts) (P : D → Ts → Prop) (h : sp_is_saying_a as t P) : d_is_saying_a (endsOf P) (start0 ["thing"] as) t := by
  obtain ⟨d, rfl, ⟨n, hn⟩, hi, k⟩ := h
  cases d with
  | tup l =>
    match l, hi, k with
    | [a, b, c], hi, k =>
      have hb : tnOk b := hi b (by simp)
      have hc : tnOk c := hi c (by simp)
      obtain ⟨na, ha⟩ : tnOk a := hi a (by simp)
      have k : P (.bl (isBd a && (isCount b && isCount c))) t := k
      conv => whnf
      refine ⟨a, rfl, ?_⟩
      cases a with
      | str w =>
        conv => whnf
        refine ⟨_, rfl, ?_⟩
        conv => whnf
        refine ⟨[("at most" : Str), "at least"], rfl, ?_⟩
        rw [bd_any]
        cases hw : isBd (.str w) with
        | false =>
          rw [hw] at k
          conv => whnf
          exact k
        | true =>
          rw [hw] at k
          conv => whnf
          refine ⟨b, rfl, ?_⟩
          refine ⟨b, rfl, hb, ?_⟩
          cases hB : isCount b with
          | false =>
            rw [hB] at k
            conv => whnf
            exact k
          | true =>
            rw [hB] at k
            conv => whnf
            refine ⟨c, rfl, ?_⟩
            exact ⟨c, rfl, hc, k⟩
      | _ => first | (cases ha; done) | exact k
    | [], hi, k =>
      conv => whnf
      exact k
    | [_], hi, k =>
      conv => whnf
      exact k
    | [_, _], hi, k =>
      conv => whnf
      exact k
    | _ :: _ :: _ :: _ :: r, hi, k =>
      conv => whnf
      exact k
  | _ => first | (cases hn; done) | exact k
end Q
/-! MTieL -/
namespace Q
open PySem
def sp__law_handed : PSp := fun ds t P => ∃ l n, ds = [.pen, .lst l] ∧ Pk n t ∧ n < 90000000 ∧ ∀ d t', Lis d l → Pk (n + 1) t' → P d t'
theorem len__law_handed (as : List D) (t : Ts) (P : D → Ts → Prop) (h : sp__law_handed as t P) : as.length = 2 := by first | (obtain ⟨_, rfl, _⟩ := h; rfl) | (obtain ⟨_, _, rfl, _⟩ := h; rfl) | (obtain ⟨_, _, _, rfl, _⟩ := h; rfl) | (obtain ⟨_, _, _, _, rfl, _⟩ := h; rfl) | (obtain ⟨_, _, _, _, _, rfl, _⟩ := h; rfl) | (obtain ⟨_, _, _, _, _, _, rfl, _⟩ := h; rfl) | (obtain ⟨_, _, _, _, _, _, _, rfl, _⟩ := h; rfl) | (obtain ⟨_, _, _, _, _, _, _, _, rfl, _⟩ := h; rfl) | (obtain ⟨_, _, _, _, _, _, _, _, _, rfl, _⟩ := h; rfl) | (obtain ⟨_, _, _, _, _, _, _, _, _, _, rfl, _⟩ := h; rfl) | (obtain ⟨_, _, _, _, _, _, _, _, _, _, _, rfl, _⟩ := h; rfl) | (obtain ⟨_, _, _, _, _, _, _, _, _, _, _, _, rfl, _⟩ := h; rfl) | (obtain ⟨_, _, _, _, _, _, _, _, _, _, _, _, _, rfl, _⟩ := h; rfl) | (obtain ⟨_, _, _, _, _, _, _, _, _, _, _, _, _, _, rfl, _⟩ := h; rfl) | (obtain ⟨_, rfl | rfl, _⟩ := h <;> rfl) | (obtain ⟨_, _, rfl | rfl, _⟩ := h <;> rfl) | (obtain ⟨_, _, _, rfl | rfl, _⟩ := h <;> rfl) | (obtain ⟨_, _, _, _, rfl | rfl, _⟩ := h <;> rfl) | (obtain ⟨_, _, _, _, _, rfl | rfl, _⟩ := h <;> rfl) | (obtain ⟨_, _, _, _, _, _, rfl | rfl, _⟩ := h <;> rfl) | (obtain ⟨_, _, _, _, _, _, _, rfl | rfl, _⟩ := h <;> rfl) | (obtain ⟨_, _, _, _, _, _, _, _, rfl | rfl, _⟩ := h <;> rfl) | (obtain ⟨_, _, _, _, _, _, _, _, _, rfl | rfl, _⟩ := h <;> rfl) | (obtain ⟨_, _, _, _, _, _, _, _, _, _, rfl | rfl, _⟩ := h <;> rfl) | (obtain ⟨_, _, _, _, _, _, _, _, _, _, _, rfl | rfl, _⟩ := h <;> rfl) | (obtain ⟨_, _, _, _, _, _, _, _, _, _, _, _, rfl | rfl, _⟩ := h <;> rfl) | (obtain ⟨_, _, _, _, _, _, _, _, _, _, _, _, _, rfl | rfl, _⟩ := h <;> rfl) | (obtain ⟨_, _, _, _, _, _, _, _, _, _, _, _, _, _, rfl | rfl, _⟩ := h <;> rfl)
def d__law_handed : DS := (dSeq (dRet (dOp oIx (dLst (dCons (dCB bList (dCons (dVar 1) dNil)) (dCons (dCB bTuple (dCons (dVar 1) dNil)) dNil))) (dCall sp__law_draw [] (dCons (dVar 0) (dCons (dC (.int 2)) dNil))))) dNext)
theorem d__law_handed_ok (as : List D) (t : Ts) (P : D → Ts → Prop) (h : sp__law_handed as t P) : d__law_handed (endsOf P) (start0 ["_law_pen_here", "_law_some"] as) t := by
  obtain ⟨l, n, rfl, hp, hn, k⟩ := h
  conv => whnf
  refine ⟨_, _, rfl, by first | omega | decide, (sm64 (by first | omega | decide) (by first | omega | decide)).mono (by decide), hp, by omega, fun w t1 w0 w1 pt1 => ?_⟩
  conv => whnf
  rcases (by omega : w = 0 ∨ w = 1) with e | e <;> subst e
  · exact ⟨_, rfl, k _ _ (.inl rfl) pt1⟩
  · exact ⟨_, rfl, k _ _ (.inr rfl) pt1⟩
end Q
/-! MBarP -/
namespace Q
open PySem
end Q
/-! MBarD -/
namespace Q
open PySem
def lb (z : Int × Int × D) : Int := -(z.2.1 / -z.1)
def gb (z : Int × Int × D) : Int := z.2.1 / z.1
def FstM (gs : List (Int × Int × D)) (key : Int × Int × D → Int) (z : Int × Int × D) : Prop := ∃ i : Nat, gs[i]? = some z ∧ (∀ y ∈ gs, key y ≤ key z) ∧ ∀ j : Nat, j < i → ∀ y, gs[j]? = some y → key y ≠ key z
theorem FstM.mem {gs : List (Int × Int × D)} {key : Int × Int × D → Int} {z : Int × Int × D} (h : FstM gs key z) : z ∈ gs ∧ ∀ y ∈ gs, key y ≤ key z := by
  obtain ⟨i, h1, h2, _⟩ := h
  exact ⟨List.mem_of_getElem? h1, h2⟩
def negs (fs : List (Int × Int × D)) : List (Int × Int × D) := fs.filter fun z => decide (z.1 < 0)
def poss (fs : List (Int × Int × D)) : List (Int × Int × D) := fs.filter fun z => decide (z.1 > 0)
def sp_strongest_below : PSp := fun ds t P => ∃ fs, ds = [.lst (fs.map tieD)] ∧ FOk fs ∧ fs.length ≤ 60000 ∧ (∃ z ∈ fs, z.1 < 0) ∧ ∀ z, FstM (negs fs) lb z → P (tieD z) t
def sp_strongest_above : PSp := fun ds t P => ∃ fs, ds = [.lst (fs.map tieD)] ∧ FOk fs ∧ fs.length ≤ 60000 ∧ ((∀ z ∈ fs, ¬ 0 < z.1) → P .non t) ∧ ∀ z, FstM (poss fs) (fun z => -gb z) z → P (tieD z) t
theorem len_strongest_below (as : List D) (t : Ts) (P : D → Ts → Prop) (h : sp_strongest_below as t P) : as.length = 1 := by first | (obtain ⟨_, rfl, _⟩ := h; rfl) | (obtain ⟨_, _, rfl, _⟩ := h; rfl) | (obtain ⟨_, _, _, rfl, _⟩ := h; rfl) | (obtain ⟨_, _, _, _, rfl, _⟩ := h; rfl) | (obtain ⟨_, _, _, _, _, rfl, _⟩ := h; rfl) | (obtain ⟨_, _, _, _, _, _, rfl, _⟩ := h; rfl) | (obtain ⟨_, _, _, _, _, _, _, rfl, _⟩ := h; rfl) | (obtain ⟨_, _, _, _, _, _, _, _, rfl, _⟩ := h; rfl) | (obtain ⟨_, _, _, _, _, _, _, _, _, rfl, _⟩ := h; rfl) | (obtain ⟨_, _, _, _, _, _, _, _, _, _, rfl, _⟩ := h; rfl) | (obtain ⟨_, _, _, _, _, _, _, _, _, _, _, rfl, _⟩ := h; rfl) | (obtain ⟨_, _, _, _, _, _, _, _, _, _, _, _, rfl, _⟩ := h; rfl) | (obtain ⟨_, _, _, _, _, _, _, _, _, _, _, _, _, rfl, _⟩ := h; rfl) | (obtain ⟨_, _, _, _, _, _, _, _, _, _, _, _, _, _, rfl, _⟩ := h; rfl) | (obtain ⟨_, rfl | rfl, _⟩ := h <;> rfl) | (obtain ⟨_, _, rfl | rfl, _⟩ := h <;> rfl) | (obtain ⟨_, _, _, rfl | rfl, _⟩ := h <;> rfl) | (obtain ⟨_, _, _, _, rfl | rfl, _⟩ := h <;> rfl) | (obtain ⟨_, _, _, _, _, rfl | rfl, _⟩ := h <;> rfl) | (obtain ⟨_, _, _, _, _, _, rfl | rfl, _⟩ := h <;> rfl) | (obtain ⟨_, _, _, _, _, _, _, rfl | rfl, _⟩ := h <;> rfl) | (obtain ⟨_, _, _, _, _, _, _, _, rfl | rfl, _⟩ := h <;> rfl) | (obtain ⟨_, _, _, _, _, _, _, _, _, rfl | rfl, _⟩ := h <;> rfl) | (obtain ⟨_, _, _, _, _, _, _, _, _, _, rfl | rfl, _⟩ := h <;> rfl) | (obtain ⟨_, _, _, _, _, _, _, _, _, _, _, rfl | rfl, _⟩ := h <;> rfl) | (obtain ⟨_, _, _, _, _, _, _, _, _, _, _, _, rfl | rfl, _⟩ := h <;> rfl) | (obtain ⟨_, _, _, _, _, _, _, _, _, _, _, _, _, rfl | rfl, _⟩ := h <;> rfl) | (obtain ⟨_, _, _, _, _, _, _, _, _, _, _, _, _, _, rfl | rfl, _⟩ := h <;> rfl)
theorem len_strongest_above (as : List D) (t : Ts) (P : D → Ts → Prop) (h : sp_strongest_above as t P) : as.length = 1 := by first | (obtain ⟨_, rfl, _⟩ := h; rfl) | (obtain ⟨_, _, rfl, _⟩ := h; rfl) | (obtain ⟨_, _, _, rfl, _⟩ := h; rfl) | (obtain ⟨_, _, _, _, rfl, _⟩ := h; rfl) | (obtain ⟨_, _, _, _, _, rfl, _⟩ := h; rfl) | (obtain ⟨_, _, _, _, _, _, rfl, _⟩ := h; rfl) | (obtain ⟨_, _, _, _, _, _, _, rfl, _⟩ := h; rfl) | (obtain ⟨_, _, _, _, _, _, _, _, rfl, _⟩ := h; rfl) | (obtain ⟨_, _, _, _, _, _, _, _, _, rfl, _⟩ := h; rfl) | (obtain ⟨_, _, _, _, _, _, _, _, _, _, rfl, _⟩ := h; rfl) | (obtain ⟨_, _, _, _, _, _, _, _, _, _, _, rfl, _⟩ := h; rfl) | (obtain ⟨_, _, _, _, _, _, _, _, _, _, _, _, rfl, _⟩ := h; rfl) | (obtain ⟨_, _, _, _, _, _, _, _, _, _, _, _, _, rfl, _⟩ := h; rfl) | (obtain ⟨_, _, _, _, _, _, _, _, _, _, _, _, _, _, rfl, _⟩ := h; rfl) | (obtain ⟨_, rfl | rfl, _⟩ := h <;> rfl) | (obtain ⟨_, _, rfl | rfl, _⟩ := h <;> rfl) | (obtain ⟨_, _, _, rfl | rfl, _⟩ := h <;> rfl) | (obtain ⟨_, _, _, _, rfl | rfl, _⟩ := h <;> rfl) | (obtain ⟨_, _, _, _, _, rfl | rfl, _⟩ := h <;> rfl) | (obtain ⟨_, _, _, _, _, _, rfl | rfl, _⟩ := h <;> rfl) | (obtain ⟨_, _, _, _, _, _, _, rfl | rfl, _⟩ := h <;> rfl) | (obtain ⟨_, _, _, _, _, _, _, _, rfl | rfl, _⟩ := h <;> rfl) | (obtain ⟨_, _, _, _, _, _, _, _, _, rfl | rfl, _⟩ := h <;> rfl) | (obtain ⟨_, _, _, _, _, _, _, _, _, _, rfl | rfl, _⟩ := h <;> rfl) | (obtain ⟨_, _, _, _, _, _, _, _, _, _, _, rfl | rfl, _⟩ := h <;> rfl) | (obtain ⟨_, _, _, _, _, _, _, _, _, _, _, _, rfl | rfl, _⟩ := h <;> rfl) | (obtain ⟨_, _, _, _, _, _, _, _, _, _, _, _, _, rfl | rfl, _⟩ := h <;> rfl) | (obtain ⟨_, _, _, _, _, _, _, _, _, _, _, _, _, _, rfl | rfl, _⟩ := h <;> rfl)
def d_strongest_below : DS := (dSeq (dRet (dBest true sp_least_by none (dLc [1] (iSeq (dVar 0)) (gName 1) (dB (dOp oLt (dOp oIx (dVar 1) (dC (.int 0))) (dC (.int 0)))) (dVar 1)))) dNext)
def d_strongest_above : DS := (dSeq (dRet (dBest false sp_greatest_by (some .non) (dLc [1] (iSeq (dVar 0)) (gName 1) (dB (dOp oGt (dOp oIx (dVar 1) (dC (.int 0))) (dC (.int 0)))) (dVar 1)))) dNext)
theorem d_strongest_below_ok (as : List D) (t : Ts) (P : D → Ts → Prop) (h : sp_strongest_below as t P) : d_strongest_below (endsOf P) (start0 ["ties", "tie"] as) t := by
  obtain ⟨fs, rfl, hf, hl, ⟨z0, hz0, hz1⟩, k⟩ := h
  conv => whnf
  refine lc_fm (fun i => if decide ((fs.getD i (0, 0, .non)).1 < 0) = true then some (tieD (fs.getD i (0, 0, .non))) else none) (by rw [List.length_map]; unfold zLen; omega) (fun i x hx Qy Qn q1 q2 => ?_) ?_
  · obtain ⟨z, hz, rfl⟩ := map_getD' hx
    rw [getD_some hz] at q1 q2
    obtain ⟨f, r, y⟩ := z
    refine ⟨rfl, ?_⟩
    conv => whnf
    refine ⟨_, rfl, ?_⟩
    conv => whnf
    refine Br.mk (fun hq => ?_) (fun hq => ?_)
    · exact q1 _ (by rw [if_pos hq])
    · exact q2 (by rw [if_neg (by rw [hq]; decide)])
  · rw [List.length_map, range_getDf fs (0, 0, .non) (fun z => if decide (z.1 < 0) = true then some (tieD z) else none), fm_filter]
    have hm : ∀ z, z ∈ fs.filter (fun z => decide (z.1 < 0)) ↔ z ∈ fs ∧ z.1 < 0 := fun z => by rw [List.mem_filter, decide_eq_true_eq]
    unfold negs at k
    generalize hg : fs.filter (fun z => decide (z.1 < 0)) = gs at hm k
    refine ⟨fun i => lb (gs.getD i (0, 0, .non)), fun i d P' hd q => ?_, ?_, fun i d hd hb hff => ?_⟩
    · obtain ⟨z, hz, rfl⟩ := map_getD' hd
      have hz' := (hm z).mp (List.mem_of_getElem? hz)
      refine ⟨z, rfl, hz'.2, (hf z hz'.1).1, ?_⟩
      have q : P' (.int (lb (gs.getD i (0, 0, .non)))) t := q
      rw [getD_some hz] at q
      exact q
    · intro e
      have := (hm z0).mpr ⟨hz0, hz1⟩
      rw [List.map_eq_nil_iff.mp e] at this
      cases this
    · obtain ⟨z, hz, rfl⟩ := map_getD' hd
      have hz' := (hm z).mp (List.mem_of_getElem? hz)
      refine k z ⟨i, hz, fun y hy => ?_, fun j hj y hy => ?_⟩
      · obtain ⟨j, hj, e⟩ := List.getElem_of_mem hy
        have := hb j (by rw [List.length_map]; exact hj)
        have this : lb (gs.getD j (0, 0, .non)) ≤ lb (gs.getD i (0, 0, .non)) := this
        rw [getD_some hz, getD_some (l := gs) (i := j) (x := y) (by rw [List.getElem?_eq_getElem hj, e])] at this
        exact this
      · have this : lb (gs.getD j (0, 0, .non)) ≠ lb (gs.getD i (0, 0, .non)) := hff j hj
        rw [getD_some hz, getD_some hy] at this
        exact this
theorem d_strongest_above_ok (as : List D) (t : Ts) (P : D → Ts → Prop) (h : sp_strongest_above as t P) : d_strongest_above (endsOf P) (start0 ["ties", "tie"] as) t := by
  obtain ⟨fs, rfl, hf, hl, k0, k⟩ := h
  conv => whnf
  refine lc_fm (fun i => if decide ((fs.getD i (0, 0, .non)).1 > 0) = true then some (tieD (fs.getD i (0, 0, .non))) else none) (by rw [List.length_map]; unfold zLen; omega) (fun i x hx Qy Qn q1 q2 => ?_) ?_
  · obtain ⟨z, hz, rfl⟩ := map_getD' hx
    rw [getD_some hz] at q1 q2
    obtain ⟨f, r, y⟩ := z
    refine ⟨rfl, ?_⟩
    conv => whnf
    refine ⟨_, rfl, ?_⟩
    conv => whnf
    refine Br.mk (fun hq => ?_) (fun hq => ?_)
    · exact q1 _ (by rw [if_pos hq])
    · exact q2 (by rw [if_neg (by rw [hq]; decide)])
  · rw [List.length_map, range_getDf fs (0, 0, .non) (fun z => if decide (z.1 > 0) = true then some (tieD z) else none), fm_filter]
    have hm : ∀ z, z ∈ fs.filter (fun z => decide (z.1 > 0)) ↔ z ∈ fs ∧ z.1 > 0 := fun z => by rw [List.mem_filter, decide_eq_true_eq]
    unfold poss at k
    generalize hg : fs.filter (fun z => decide (z.1 > 0)) = gs at hm k
    refine ⟨fun i => gb (gs.getD i (0, 0, .non)), fun i d P' hd q => ?_, ?_, fun i d hd hb hff => ?_⟩
    · obtain ⟨z, hz, rfl⟩ := map_getD' hd
      have hz' := (hm z).mp (List.mem_of_getElem? hz)
      refine ⟨z, rfl, hz'.2, (hf z hz'.1).2, ?_⟩
      have q : P' (.int (gb (gs.getD i (0, 0, .non)))) t := q
      rw [getD_some hz] at q
      exact q
    · intro e
      refine k0 fun z hz h0 => ?_
      have := (hm z).mpr ⟨hz, h0⟩
      rw [List.map_eq_nil_iff.mp e] at this
      cases this
    · obtain ⟨z, hz, rfl⟩ := map_getD' hd
      have hz' := (hm z).mp (List.mem_of_getElem? hz)
      refine k z ⟨i, hz, fun y hy => ?_, fun j hj y hy => ?_⟩
      · obtain ⟨j, hj, e⟩ := List.getElem_of_mem hy
        have := hb j (by rw [List.length_map]; exact hj)
        have this : gb (gs.getD i (0, 0, .non)) ≤ gb (gs.getD j (0, 0, .non)) := this
        rw [getD_some hz, getD_some (l := gs) (i := j) (x := y) (by rw [List.getElem?_eq_getElem hj, e])] at this
        show -gb y ≤ -gb z
        omega
      · have this : gb (gs.getD j (0, 0, .non)) ≠ gb (gs.getD i (0, 0, .non)) := hff j hj
        rw [getD_some hz, getD_some hy] at this
        show -gb y ≠ -gb z
        omega
end Q
/-! QD28 -/
namespace Q
open PySem
end Q
/-! QD29 -/
namespace Q
open PySem
end Q
/-! QD30 -/
namespace Q
open PySem
end Q
/-! QD31 -/
namespace Q
open PySem
end Q
/-! QD32 -/
namespace Q
open PySem
end Q
/-! QD33 -/
namespace Q
open PySem
end Q
/-! QD34 -/
namespace Q
open PySem
end Q
/-! QD35 -/
namespace Q
open PySem
end Q
/-! QD36 -/
namespace Q
open PySem
end Q
/-! QD37 -/
namespace Q
open PySem
end Q
/-! QD38 -/
namespace Q
open PySem
end Q
/-! QD39 -/
namespace Q
open PySem
end Q
namespace Q
open PySem
end Q
/-! QD40 -/
namespace Q
open PySem
end Q
/-! QD41 -/
namespace Q
open PySem
end Q
/-! QD42 -/
namespace Q
open PySem
end Q
/-! QD43 -/
namespace Q
open PySem
end Q
/-! QD44 -/
namespace Q
open PySem
end Q
/-! QD45 -/
namespace Q
open PySem
end Q
/-! QD46 -/
namespace Q
open PySem
def dLam (i : Nat) (L : LamK) (Z : List (Str × Addr)) : DE := fun _ t P => P (.ob (.fn i L Z false) []) t
def zApp (ap : Nat → LamK → PSpE) (i : Nat) : DXE := fun env t P Px => match env[i]? with
  | some (.val (.ob (.fn n L _ true) l)) => nopens l = true ∧ ap n L l t P Px
  | _ => False
mutual
def closeD (cap : Nat → List D) : D → D
  | .ob (.fn i L Z false) _ => .ob (.fn i L Z true) (cap i)
  | .lst l => .lst (closeDs cap l)
  | .tup l => .tup (closeDs cap l)
  | d => d
def closeDs (cap : Nat → List D) : List D → List D
  | [] => []
  | d :: l => closeD cap d :: closeDs cap l
end
mutual
def okFn (is : List Nat) (Lt : Nat → LamK) (Zt : Nat → List (Str × Addr)) : D → Prop
  | .ob (.fn i L Z false) _ => is.contains i = true ∧ L = Lt i ∧ Z = Zt i
  | .lst l => okFns is Lt Zt l
  | .tup l => okFns is Lt Zt l
  | _ => True
def okFns (is : List Nat) (Lt : Nat → LamK) (Zt : Nat → List (Str × Addr)) : List D → Prop
  | [] => True
  | d :: l => okFn is Lt Zt d ∧ okFns is Lt Zt l
end
def allI : List Nat → (Nat → Prop) → Prop
  | [], _ => True
  | i :: l, p => p i ∧ allI l p
def slD (env : En) (j : Nat) : D := match env[j]? with
  | some (.val d) => d
  | _ => .non
def capt (tb : Nat → List Nat) (env : En) (i : Nat) : List D := (tb i).map (slD env)
def slOk (env : En) (j : Nat) : Prop := match env[j]? with
  | some (.val d) => nopen d = true
  | _ => False
def capOk (is : List Nat) (tb : Nat → List Nat) (env : En) : Prop := allI is fun i => allI (tb i) (slOk env)
def dCallC (sp : PSp) (is : List Nat) (tb : Nat → List Nat) (Lt : Nat → LamK) (Zt : Nat → List (Str × Addr)) (as : DA) : DE := fun env t P => as env t fun xs t1 => (okFns is Lt Zt xs ∧ capOk is tb env) ∧ sp (closeDs (capt tb env) xs) t1 fun d t2 => nopen d = true ∧ P d t2
def dSeqR (s1 s2 : DS) : DS := fun DD env t => s1 ⟨fun e t => s2 DD e t, fun _ _ _ => False, fun _ _ => False, fun _ _ => False⟩ env t
def xFl (fl : Option Str) (d : D) : List D := match fl with
  | none => []
  | some _ => [d]
def hKeep (i j : Nat) : List (Xn × Addr × Option Str) → DHs
  | [] => fun _ _ _ _ _ => False
  | (c0, C, fl) :: r => hOn c0 (fun d DD env t => DD.nx ((env.set i (.val (.ob (.exc c0.n C fl.toList) (xFl fl d)))).set j .no) t) (hKeep i j r)
def tlook {α : Type} : List (Nat × α) → Nat → Option α
  | [], _ => none
  | (m, x) :: r, n => match Nat.beq n m with
    | true => some x
    | false => tlook r n
def dIsX (tb : List (Nat × Addr × Bool)) (a : DE) : DE := fun env t P => a env t fun x t1 => match x with
  | .ob (.exc n C _) _ => (match tlook tb n with | some (C', b) => C = C' ∧ P (.bl b) t1 | none => False)
  | _ => False
def dFldX (tb : List (Nat × Addr)) (f : Str) (a : DE) : DE := fun env t P => a env t fun x t1 => match x with
  | .ob (.exc n C ns) l => (match tlook tb n with | some C' => C = C' ∧ (match (ns.zip l).lookup f with | some d => P d t1 | none => False) | none => False)
  | _ => False
end Q
/-! QD47 -/
namespace Q
open PySem
def dDicE (a b : DE) : DE := fun env t P => a env t fun x t1 => b env t1 fun y t2 => match x with
  | .int n => P (.dic [.inl n] [y]) t2
  | .str s => P (.dic [.inr s] [y]) t2
  | _ => False
def bReprI : DB := fun xs P => match xs with
  | [.int i] => Sm 1900 i ∧ P (.str (toString i))
  | _ => False
end Q
/-! M_k52a -/
namespace Q
open PySem
def fstBad : List D → Option Nat
  | [] => none
  | d :: l => match sayB d with
    | true => (fstBad l).map (· + 1)
    | false => some 0
def badOf : D → Option Nat
  | .lst l => fstBad l
  | .tup l => fstBad l
  | _ => some 0
def dlen : D → Nat
  | .lst l => l.length
  | .tup l => l.length
  | _ => 0
def itsOk : D → Prop
  | .lst l => l.length ≤ 1000 ∧ ∀ x ∈ l, tnOk x ∧ itemsOk x
  | .tup l => l.length ≤ 1000 ∧ ∀ x ∈ l, tnOk x ∧ itemsOk x
  | _ => True
structure ArgOk (d : D) : Prop where
  n : tnOk d
  i : itsOk d
theorem fstBad_at : ∀ {l : List D} {i : Nat} {x : D}, l[i]? = some x → sayB x = false → (∀ j, j < i → ∀ y, l[j]? = some y → sayB y = true) → fstBad l = some i
  | [], i, x, h, _, _ => by simp at h
  | d :: l, 0, x, h, hx, _ => by
    simp at h
    subst h
    unfold fstBad
    rw [hx]
  | d :: l, i + 1, x, h, hx, hj => by
    have h0 := hj 0 (by omega) d rfl
    unfold fstBad
    rw [h0]
    have := fstBad_at (l := l) (i := i) (by simpa using h) hx fun j hji y hy => hj (j + 1) (by omega) y (by simpa using hy)
    rw [this]
    rfl
theorem fstBad_all : ∀ {l : List D}, (∀ y ∈ l, sayB y = true) → fstBad l = none
  | [], _ => rfl
  | d :: l, h => by
    unfold fstBad
    rw [h d (by simp), fstBad_all fun y hy => h y (by simp [hy])]
    rfl
def badOne (s x : D) : Option Nat := match badOf s with
  | some n => some n
  | none => match sayB x with
    | true => none
    | false => some (dlen s)
def sp_need_base_2 : PSpE := fun ds t P Px => ∃ d, ds = [d] ∧ tnOk d ∧ (isBase d = true → P .non t) ∧ (isBase d = false → Px .BadHouse (.str "k") t)
def sp_need_sayings_3 : PSpE := fun ds t P Px => ∃ d, ds = [d] ∧ ArgOk d ∧ (badOf d = none → P .non t) ∧ ∀ n, badOf d = some n → Px .BadSaying (.int (n : Nat)) t
def sp_need_one_more_2 : PSpE := fun ds t P Px => ∃ s x, ds = [s, x] ∧ ArgOk s ∧ tnOk x ∧ itemsOk x ∧ ∃ n, badOne s x = some n ∧ Px .BadSaying (.int (n : Nat)) t
structure ChkE (k s : D) (t : Ts) (Px : PX) : Prop where
  ek : tnOk k
  es : ArgOk s
  eh : isBase k = false → Px .BadHouse (.str "k") t
  eb : isBase k = true → ∃ n, badOf s = some n ∧ Px .BadSaying (.int (n : Nat)) t
structure ChkF (k s x : D) (t : Ts) (Px : PX) : Prop where
  ek : tnOk k
  es : ArgOk s
  ex : tnOk x
  ei : itemsOk x
  eh : isBase k = false → Px .BadHouse (.str "k") t
  eb : isBase k = true → ∃ n, badOne s x = some n ∧ Px .BadSaying (.int (n : Nat)) t
def sp_chk (n : Nat) : PSpE := fun ds t P Px => ∃ k s r, ds = k :: s :: r ∧ r.length = n ∧ ChkE k s t Px
def sp_reaches_3 : PSpE := sp_chk 0
def sp_least_house_2 : PSpE := sp_chk 1
def sp_greatest_house_2 : PSpE := sp_chk 1
def sp_may_be_4 : PSpE := sp_chk 2
def sp_how_many_2 : PSpE := sp_chk 1
def sp_nth_house_2 : PSpE := sp_chk 2
def sp_bar_of_4 : PSpE := sp_chk 1
def sp_blame_3 : PSpE := sp_chk 0
def sp_need_house_3 : PSpE := sp_chk 0
def sp_core_3 : PSpE := sp_chk 0
def sp_mend_2 : PSpE := sp_chk 2
def sp_shows_mend_2 : PSpE := sp_chk 3
def sp_least_mend_2 : PSpE := sp_chk 1
def sp_shows_bar_2 : PSpE := sp_chk 2
def sp_why_least_2 : PSpE := sp_chk 0
def sp_why_greatest_2 : PSpE := sp_chk 0
def sp_shows_follows_3 : PSpE := fun ds t P Px => ∃ k s x p, ds = [k, s, x, p] ∧ ChkF k s x t Px
def sp_follows_3 : PSpE := fun ds t P Px => ∃ k s x, ds = [k, s, x] ∧ ChkF k s x t Px
def sp_which_2 : PSpE := fun ds t P Px => ∃ s m, ds = [s, m] ∧ ArgOk s ∧ ∃ n, badOf s = some n ∧ Px .BadSaying (.int (n : Nat)) t
def sp_keeps_2 : PSpE := fun ds t P Px => ∃ h x, ds = [h, x] ∧ tnOk x ∧ itemsOk x ∧ sayB x = false ∧ Px .BadSaying (.int 0) t
theorem len_chk {n m : Nat} {as : List D} {t : Ts} {P : D → Ts → Prop} {Px : PX} (h : sp_chk n as t P Px) (e : n + 2 = m) : as.length = m := by
  obtain ⟨k, s, r, rfl, hr, _⟩ := h
  simp [hr, e]
theorem len_reaches_3 (as : List D) (t : Ts) (P : D → Ts → Prop) (Px : PX) (h : sp_reaches_3 as t P Px) : as.length = 2 := len_chk h rfl
theorem len_least_house_2 (as : List D) (t : Ts) (P : D → Ts → Prop) (Px : PX) (h : sp_least_house_2 as t P Px) : as.length = 3 := len_chk h rfl
theorem len_greatest_house_2 (as : List D) (t : Ts) (P : D → Ts → Prop) (Px : PX) (h : sp_greatest_house_2 as t P Px) : as.length = 3 := len_chk h rfl
theorem len_may_be_4 (as : List D) (t : Ts) (P : D → Ts → Prop) (Px : PX) (h : sp_may_be_4 as t P Px) : as.length = 4 := len_chk h rfl
theorem len_how_many_2 (as : List D) (t : Ts) (P : D → Ts → Prop) (Px : PX) (h : sp_how_many_2 as t P Px) : as.length = 3 := len_chk h rfl
theorem len_nth_house_2 (as : List D) (t : Ts) (P : D → Ts → Prop) (Px : PX) (h : sp_nth_house_2 as t P Px) : as.length = 4 := len_chk h rfl
theorem len_bar_of_4 (as : List D) (t : Ts) (P : D → Ts → Prop) (Px : PX) (h : sp_bar_of_4 as t P Px) : as.length = 3 := len_chk h rfl
theorem len_blame_3 (as : List D) (t : Ts) (P : D → Ts → Prop) (Px : PX) (h : sp_blame_3 as t P Px) : as.length = 2 := len_chk h rfl
theorem len_need_house_3 (as : List D) (t : Ts) (P : D → Ts → Prop) (Px : PX) (h : sp_need_house_3 as t P Px) : as.length = 2 := len_chk h rfl
theorem len_core_3 (as : List D) (t : Ts) (P : D → Ts → Prop) (Px : PX) (h : sp_core_3 as t P Px) : as.length = 2 := len_chk h rfl
theorem len_mend_2 (as : List D) (t : Ts) (P : D → Ts → Prop) (Px : PX) (h : sp_mend_2 as t P Px) : as.length = 4 := len_chk h rfl
theorem len_shows_mend_2 (as : List D) (t : Ts) (P : D → Ts → Prop) (Px : PX) (h : sp_shows_mend_2 as t P Px) : as.length = 5 := len_chk h rfl
theorem len_least_mend_2 (as : List D) (t : Ts) (P : D → Ts → Prop) (Px : PX) (h : sp_least_mend_2 as t P Px) : as.length = 3 := len_chk h rfl
theorem len_shows_bar_2 (as : List D) (t : Ts) (P : D → Ts → Prop) (Px : PX) (h : sp_shows_bar_2 as t P Px) : as.length = 4 := len_chk h rfl
theorem len_why_least_2 (as : List D) (t : Ts) (P : D → Ts → Prop) (Px : PX) (h : sp_why_least_2 as t P Px) : as.length = 2 := len_chk h rfl
theorem len_why_greatest_2 (as : List D) (t : Ts) (P : D → Ts → Prop) (Px : PX) (h : sp_why_greatest_2 as t P Px) : as.length = 2 := len_chk h rfl
theorem len_need_base_2 (as : List D) (t : Ts) (P : D → Ts → Prop) (Px : PX) (h : sp_need_base_2 as t P Px) : as.length = 1 := by first | (obtain ⟨_, rfl, _⟩ := h; rfl) | (obtain ⟨_, _, rfl, _⟩ := h; rfl) | (obtain ⟨_, _, _, rfl, _⟩ := h; rfl) | (obtain ⟨_, _, _, _, rfl, _⟩ := h; rfl) | (obtain ⟨_, _, _, _, _, rfl, _⟩ := h; rfl) | (obtain ⟨_, _, _, _, _, _, rfl, _⟩ := h; rfl) | (obtain ⟨_, _, _, _, _, _, _, rfl, _⟩ := h; rfl) | (obtain ⟨_, _, _, _, _, _, _, _, rfl, _⟩ := h; rfl) | (obtain ⟨_, _, _, _, _, _, _, _, _, rfl, _⟩ := h; rfl) | (obtain ⟨_, _, _, _, _, _, _, _, _, _, rfl, _⟩ := h; rfl) | (obtain ⟨_, _, _, _, _, _, _, _, _, _, _, rfl, _⟩ := h; rfl) | (obtain ⟨_, _, _, _, _, _, _, _, _, _, _, _, rfl, _⟩ := h; rfl) | (obtain ⟨_, _, _, _, _, _, _, _, _, _, _, _, _, rfl, _⟩ := h; rfl) | (obtain ⟨_, _, _, _, _, _, _, _, _, _, _, _, _, _, rfl, _⟩ := h; rfl)
theorem len_need_sayings_3 (as : List D) (t : Ts) (P : D → Ts → Prop) (Px : PX) (h : sp_need_sayings_3 as t P Px) : as.length = 1 := by first | (obtain ⟨_, rfl, _⟩ := h; rfl) | (obtain ⟨_, _, rfl, _⟩ := h; rfl) | (obtain ⟨_, _, _, rfl, _⟩ := h; rfl) | (obtain ⟨_, _, _, _, rfl, _⟩ := h; rfl) | (obtain ⟨_, _, _, _, _, rfl, _⟩ := h; rfl) | (obtain ⟨_, _, _, _, _, _, rfl, _⟩ := h; rfl) | (obtain ⟨_, _, _, _, _, _, _, rfl, _⟩ := h; rfl) | (obtain ⟨_, _, _, _, _, _, _, _, rfl, _⟩ := h; rfl) | (obtain ⟨_, _, _, _, _, _, _, _, _, rfl, _⟩ := h; rfl) | (obtain ⟨_, _, _, _, _, _, _, _, _, _, rfl, _⟩ := h; rfl) | (obtain ⟨_, _, _, _, _, _, _, _, _, _, _, rfl, _⟩ := h; rfl) | (obtain ⟨_, _, _, _, _, _, _, _, _, _, _, _, rfl, _⟩ := h; rfl) | (obtain ⟨_, _, _, _, _, _, _, _, _, _, _, _, _, rfl, _⟩ := h; rfl) | (obtain ⟨_, _, _, _, _, _, _, _, _, _, _, _, _, _, rfl, _⟩ := h; rfl)
theorem len_need_one_more_2 (as : List D) (t : Ts) (P : D → Ts → Prop) (Px : PX) (h : sp_need_one_more_2 as t P Px) : as.length = 2 := by first | (obtain ⟨_, rfl, _⟩ := h; rfl) | (obtain ⟨_, _, rfl, _⟩ := h; rfl) | (obtain ⟨_, _, _, rfl, _⟩ := h; rfl) | (obtain ⟨_, _, _, _, rfl, _⟩ := h; rfl) | (obtain ⟨_, _, _, _, _, rfl, _⟩ := h; rfl) | (obtain ⟨_, _, _, _, _, _, rfl, _⟩ := h; rfl) | (obtain ⟨_, _, _, _, _, _, _, rfl, _⟩ := h; rfl) | (obtain ⟨_, _, _, _, _, _, _, _, rfl, _⟩ := h; rfl) | (obtain ⟨_, _, _, _, _, _, _, _, _, rfl, _⟩ := h; rfl) | (obtain ⟨_, _, _, _, _, _, _, _, _, _, rfl, _⟩ := h; rfl) | (obtain ⟨_, _, _, _, _, _, _, _, _, _, _, rfl, _⟩ := h; rfl) | (obtain ⟨_, _, _, _, _, _, _, _, _, _, _, _, rfl, _⟩ := h; rfl) | (obtain ⟨_, _, _, _, _, _, _, _, _, _, _, _, _, rfl, _⟩ := h; rfl) | (obtain ⟨_, _, _, _, _, _, _, _, _, _, _, _, _, _, rfl, _⟩ := h; rfl)
theorem len_shows_follows_3 (as : List D) (t : Ts) (P : D → Ts → Prop) (Px : PX) (h : sp_shows_follows_3 as t P Px) : as.length = 4 := by first | (obtain ⟨_, rfl, _⟩ := h; rfl) | (obtain ⟨_, _, rfl, _⟩ := h; rfl) | (obtain ⟨_, _, _, rfl, _⟩ := h; rfl) | (obtain ⟨_, _, _, _, rfl, _⟩ := h; rfl) | (obtain ⟨_, _, _, _, _, rfl, _⟩ := h; rfl) | (obtain ⟨_, _, _, _, _, _, rfl, _⟩ := h; rfl) | (obtain ⟨_, _, _, _, _, _, _, rfl, _⟩ := h; rfl) | (obtain ⟨_, _, _, _, _, _, _, _, rfl, _⟩ := h; rfl) | (obtain ⟨_, _, _, _, _, _, _, _, _, rfl, _⟩ := h; rfl) | (obtain ⟨_, _, _, _, _, _, _, _, _, _, rfl, _⟩ := h; rfl) | (obtain ⟨_, _, _, _, _, _, _, _, _, _, _, rfl, _⟩ := h; rfl) | (obtain ⟨_, _, _, _, _, _, _, _, _, _, _, _, rfl, _⟩ := h; rfl) | (obtain ⟨_, _, _, _, _, _, _, _, _, _, _, _, _, rfl, _⟩ := h; rfl) | (obtain ⟨_, _, _, _, _, _, _, _, _, _, _, _, _, _, rfl, _⟩ := h; rfl)
theorem len_follows_3 (as : List D) (t : Ts) (P : D → Ts → Prop) (Px : PX) (h : sp_follows_3 as t P Px) : as.length = 3 := by first | (obtain ⟨_, rfl, _⟩ := h; rfl) | (obtain ⟨_, _, rfl, _⟩ := h; rfl) | (obtain ⟨_, _, _, rfl, _⟩ := h; rfl) | (obtain ⟨_, _, _, _, rfl, _⟩ := h; rfl) | (obtain ⟨_, _, _, _, _, rfl, _⟩ := h; rfl) | (obtain ⟨_, _, _, _, _, _, rfl, _⟩ := h; rfl) | (obtain ⟨_, _, _, _, _, _, _, rfl, _⟩ := h; rfl) | (obtain ⟨_, _, _, _, _, _, _, _, rfl, _⟩ := h; rfl) | (obtain ⟨_, _, _, _, _, _, _, _, _, rfl, _⟩ := h; rfl) | (obtain ⟨_, _, _, _, _, _, _, _, _, _, rfl, _⟩ := h; rfl) | (obtain ⟨_, _, _, _, _, _, _, _, _, _, _, rfl, _⟩ := h; rfl) | (obtain ⟨_, _, _, _, _, _, _, _, _, _, _, _, rfl, _⟩ := h; rfl) | (obtain ⟨_, _, _, _, _, _, _, _, _, _, _, _, _, rfl, _⟩ := h; rfl) | (obtain ⟨_, _, _, _, _, _, _, _, _, _, _, _, _, _, rfl, _⟩ := h; rfl)
theorem len_which_2 (as : List D) (t : Ts) (P : D → Ts → Prop) (Px : PX) (h : sp_which_2 as t P Px) : as.length = 2 := by first | (obtain ⟨_, rfl, _⟩ := h; rfl) | (obtain ⟨_, _, rfl, _⟩ := h; rfl) | (obtain ⟨_, _, _, rfl, _⟩ := h; rfl) | (obtain ⟨_, _, _, _, rfl, _⟩ := h; rfl) | (obtain ⟨_, _, _, _, _, rfl, _⟩ := h; rfl) | (obtain ⟨_, _, _, _, _, _, rfl, _⟩ := h; rfl) | (obtain ⟨_, _, _, _, _, _, _, rfl, _⟩ := h; rfl) | (obtain ⟨_, _, _, _, _, _, _, _, rfl, _⟩ := h; rfl) | (obtain ⟨_, _, _, _, _, _, _, _, _, rfl, _⟩ := h; rfl) | (obtain ⟨_, _, _, _, _, _, _, _, _, _, rfl, _⟩ := h; rfl) | (obtain ⟨_, _, _, _, _, _, _, _, _, _, _, rfl, _⟩ := h; rfl) | (obtain ⟨_, _, _, _, _, _, _, _, _, _, _, _, rfl, _⟩ := h; rfl) | (obtain ⟨_, _, _, _, _, _, _, _, _, _, _, _, _, rfl, _⟩ := h; rfl) | (obtain ⟨_, _, _, _, _, _, _, _, _, _, _, _, _, _, rfl, _⟩ := h; rfl)
theorem len_keeps_2 (as : List D) (t : Ts) (P : D → Ts → Prop) (Px : PX) (h : sp_keeps_2 as t P Px) : as.length = 2 := by first | (obtain ⟨_, rfl, _⟩ := h; rfl) | (obtain ⟨_, _, rfl, _⟩ := h; rfl) | (obtain ⟨_, _, _, rfl, _⟩ := h; rfl) | (obtain ⟨_, _, _, _, rfl, _⟩ := h; rfl) | (obtain ⟨_, _, _, _, _, rfl, _⟩ := h; rfl) | (obtain ⟨_, _, _, _, _, _, rfl, _⟩ := h; rfl) | (obtain ⟨_, _, _, _, _, _, _, rfl, _⟩ := h; rfl) | (obtain ⟨_, _, _, _, _, _, _, _, rfl, _⟩ := h; rfl) | (obtain ⟨_, _, _, _, _, _, _, _, _, rfl, _⟩ := h; rfl) | (obtain ⟨_, _, _, _, _, _, _, _, _, _, rfl, _⟩ := h; rfl) | (obtain ⟨_, _, _, _, _, _, _, _, _, _, _, rfl, _⟩ := h; rfl) | (obtain ⟨_, _, _, _, _, _, _, _, _, _, _, _, rfl, _⟩ := h; rfl) | (obtain ⟨_, _, _, _, _, _, _, _, _, _, _, _, _, rfl, _⟩ := h; rfl) | (obtain ⟨_, _, _, _, _, _, _, _, _, _, _, _, _, _, rfl, _⟩ := h; rfl)
def d_need_base_2 (Px : PX) : DS := (dSeq (dIf (dNot (dB (dCall sp_is_base [] (dCons (dVar 0) dNil)))) (dSeq (dRaiseE .BadHouse Px (dCons (dC (.str "k")) dNil)) dNext) dNext) dNext)
def d_need_sayings_3 (Px : PX) : DS := (dSeq (dIf (dNot (dB (dCall sp_is_listing [] (dCons (dVar 0) dNil)))) (dSeq (dRaiseE .BadSaying Px (dCons (dC (.int 0)) dNil)) dNext) dNext) (dSeq (dFor (iEnum0 (dVar 0)) (gTup 2 (gCons (gName 1) (gCons (gName 2) gNil))) (dSeq (dIf (dNot (dB (dCall sp_is_saying_a [] (dCons (dVar 2) dNil)))) (dSeq (dRaiseE .BadSaying Px (dCons (dVar 1) dNil)) dNext) dNext) dNext)) dNext))
def d_need_one_more_2 (Px : PX) : DS := (dSeq (dDrop (dXE (zCall sp_need_sayings_3 (dCons (dVar 0) dNil)) Px)) (dSeq (dIf (dNot (dB (dCall sp_is_saying_a [] (dCons (dVar 1) dNil)))) (dSeq (dRaiseE .BadSaying Px (dCons (dCB bLen (dCons (dVar 0) dNil)) dNil)) dNext) dNext) dNext))
def d_reaches_3 (Px : PX) : DS := (dSeq (dDrop (dXE (zCall sp_need_base_2 (dCons (dVar 0) dNil)) Px)) (dSeq (dDrop (dXE (zCall sp_need_sayings_3 (dCons (dVar 1) dNil)) Px)) (dSeq dNever dNext)))
def d_least_house_2 (Px : PX) : DS := (dSeq (dDrop (dXE (zCall sp_need_base_2 (dCons (dVar 0) dNil)) Px)) (dSeq (dDrop (dXE (zCall sp_need_sayings_3 (dCons (dVar 1) dNil)) Px)) (dSeq dNever dNext)))
def d_greatest_house_2 (Px : PX) : DS := (dSeq (dDrop (dXE (zCall sp_need_base_2 (dCons (dVar 0) dNil)) Px)) (dSeq (dDrop (dXE (zCall sp_need_sayings_3 (dCons (dVar 1) dNil)) Px)) (dSeq dNever dNext)))
def d_may_be_4 (Px : PX) : DS := (dSeq (dDrop (dXE (zCall sp_need_base_2 (dCons (dVar 0) dNil)) Px)) (dSeq (dDrop (dXE (zCall sp_need_sayings_3 (dCons (dVar 1) dNil)) Px)) (dSeq dNever (dSeq dNever (dSeq dNever (dSeq dNever dNext))))))
def d_how_many_2 (Px : PX) : DS := (dSeq (dDrop (dXE (zCall sp_need_base_2 (dCons (dVar 0) dNil)) Px)) (dSeq (dDrop (dXE (zCall sp_need_sayings_3 (dCons (dVar 1) dNil)) Px)) (dSeq dNever (dSeq dNever (dSeq dNever dNext)))))
def d_nth_house_2 (Px : PX) : DS := (dSeq (dIf (dB (dOp oLe (dXE (zCall sp_how_many_2 (dCons (dVar 0) (dCons (dVar 1) (dCons (dVar 2) dNil)))) Px) (dVar 3))) (dSeq dNever dNext) dNext) (dSeq dNever (dSeq dNever (dSeq dNever (dSeq (dFrz 6) (dSeq dNever dNext))))))
def d_bar_of_4 (Px : PX) : DS := (dSeq (dDrop (dXE (zCall sp_need_base_2 (dCons (dVar 0) dNil)) Px)) (dSeq (dDrop (dXE (zCall sp_need_sayings_3 (dCons (dVar 1) dNil)) Px)) (dSeq dNever dNext)))
def d_blame_3 (Px : PX) : DS := (dSeq (dAsg (dXE (zCall sp_bar_of_4 (dKD [.non] (dCons (dVar 0) (dCons (dVar 1) dNil)))) Px) (gName 2)) (dSeq dNever (dSeq dNever (dSeq dNever dNext))))
def d_need_house_3 (Px : PX) : DS := (dSeq (dDrop (dXE (zCall sp_need_base_2 (dCons (dVar 0) dNil)) Px)) (dSeq (dDrop (dXE (zCall sp_need_sayings_3 (dCons (dVar 1) dNil)) Px)) (dSeq dNever (dSeq dNever (dSeq dNever dNext)))))
def d_core_3 (Px : PX) : DS := (dSeq (dDrop (dXE (zCall sp_need_house_3 (dCons (dVar 0) (dCons (dVar 1) dNil))) Px)) (dSeq dNever (dSeq dNever (dSeq dNever dNext))))
def d_mend_2 (Px : PX) : DS := (dSeq (dDrop (dXE (zCall sp_need_base_2 (dCons (dVar 0) dNil)) Px)) (dSeq (dDrop (dXE (zCall sp_need_sayings_3 (dCons (dVar 1) dNil)) Px)) (dSeq dNever dNext)))
def d_shows_mend_2 (Px : PX) : DS := (dSeq (dDrop (dXE (zCall sp_need_base_2 (dCons (dVar 0) dNil)) Px)) (dSeq (dDrop (dXE (zCall sp_need_sayings_3 (dCons (dVar 1) dNil)) Px)) (dSeq dNever dNext)))
def d_least_mend_2 (Px : PX) : DS := (dSeq (dDrop (dXE (zCall sp_need_base_2 (dCons (dVar 0) dNil)) Px)) (dSeq (dDrop (dXE (zCall sp_need_sayings_3 (dCons (dVar 1) dNil)) Px)) (dSeq dNever (dSeq dNever (dSeq dNever (dSeq dNever (dSeq dNever dNext)))))))
def d_shows_bar_2 (Px : PX) : DS := (dSeq (dDrop (dXE (zCall sp_need_base_2 (dCons (dVar 0) dNil)) Px)) (dSeq (dDrop (dXE (zCall sp_need_sayings_3 (dCons (dVar 1) dNil)) Px)) (dSeq dNever dNext)))
def d_why_least_2 (Px : PX) : DS := (dSeq (dAsg (dCall sp_strongest_below [] (dCons (dXE (zCall sp_need_house_3 (dCons (dVar 0) (dCons (dVar 1) dNil))) Px) dNil)) (gName 2)) (dSeq dNever dNext))
def d_why_greatest_2 (Px : PX) : DS := (dSeq (dAsg (dCall sp_strongest_above [] (dCons (dXE (zCall sp_need_house_3 (dCons (dVar 0) (dCons (dVar 1) dNil))) Px) dNil)) (gName 2)) (dSeq dNever dNext))
def d_shows_follows_3 (Px : PX) : DS := (dSeq (dDrop (dXE (zCall sp_need_base_2 (dCons (dVar 0) dNil)) Px)) (dSeq (dDrop (dXE (zCall sp_need_one_more_2 (dCons (dVar 1) (dCons (dVar 2) dNil))) Px)) (dSeq dNever (dSeq dNever (dSeq dNever (dSeq dNever (dSeq dNever (dSeq dNever (dSeq dNever dNext)))))))))
def d_follows_3 (Px : PX) : DS := (dSeq (dDrop (dXE (zCall sp_need_base_2 (dCons (dVar 0) dNil)) Px)) (dSeq (dDrop (dXE (zCall sp_need_one_more_2 (dCons (dVar 1) (dCons (dVar 2) dNil))) Px)) (dSeq dNever (dSeq dNever (dSeq dNever (dSeq dNever (dSeq dNever (dSeq dNever (dSeq dNever (dSeq dNever dNext))))))))))
def d_which_2 (Px : PX) : DS := (dSeq (dDrop (dXE (zCall sp_need_sayings_3 (dCons (dVar 0) dNil)) Px)) (dSeq dNever (dSeq dNever (dSeq (dFrz 2) (dSeq dNever dNext)))))
def d_keeps_2 (Px : PX) : DS := (dSeq (dDrop (dXE (zCall sp_need_sayings_3 (dCons (dLst (dCons (dVar 1) dNil)) dNil)) Px)) (dSeq dNever dNext))
theorem d_need_base_2_ok (as : List D) (t : Ts) (P : D → Ts → Prop) (Px : PX) (h : sp_need_base_2 as t P Px) : d_need_base_2 Px (endsOf P) (start0 ["k"] as) t := by
  obtain ⟨d, rfl, hn, k1, k2⟩ := h
  conv => whnf
  refine ⟨d, rfl, hn, ?_⟩
  cases hb : isBase d with
  | true =>
    conv => whnf
    exact k1 hb
  | false =>
    conv => whnf
    exact k2 hb
theorem d_need_sayings_3_ok (as : List D) (t : Ts) (P : D → Ts → Prop) (Px : PX) (h : sp_need_sayings_3 as t P Px) : d_need_sayings_3 Px (endsOf P) (start0 ["sayings", "place", "saying"] as) t := by
  obtain ⟨d, rfl, ⟨hn, hi⟩, k1, k2⟩ := h
  have loop : ∀ (d : D) (l : List D), (∀ x ∈ l, tnOk x ∧ itemsOk x) → (fstBad l = none → P .non t) → (∀ n, fstBad l = some n → Px .BadSaying (.int (n : Nat)) t) → (∃ Inv : Nat → En → Ts → Prop, Inv 0 [.val d, .no, .no] t ∧
      (∀ i x e m, (enumL 0 l)[i]? = some x → Inv i e m → gTup 2 (gCons (gName 1) (gCons (gName 2) gNil)) x e m fun e' m' => (dSeq (dIf (dNot (dB (dCall sp_is_saying_a [] (dCons (dVar 2) dNil)))) (dSeq (dRaiseE .BadSaying Px (dCons (dVar 1) dNil)) dNext) dNext) dNext) ⟨Inv (i + 1), (endsOf P).rt, dNext (endsOf P), Inv (i + 1)⟩ e' m') ∧ ∀ e m, Inv (enumL 0 l).length e m → dNext (endsOf P) e m) := by
    intro d l hl g1 g2
    refine ⟨fun i e m => t = m ∧ (∀ j, j < i → ∀ y, l[j]? = some y → sayB y = true) ∧ ∃ s1 s2, e = [.val d, s1, s2], ⟨rfl, fun j hj => by omega, _, _, rfl⟩, fun i x e m hx hI => ?_, fun e m hI => ?_⟩
    · obtain ⟨rfl, hj, s1, s2, rfl⟩ := hI
      rw [enumL_get] at hx
      cases q : l[i]? with
      | none => rw [q] at hx; cases hx
      | some y =>
        rw [q] at hx
        cases hx
        conv => whnf
        refine ⟨rfl, ?_⟩
        conv => whnf
        obtain ⟨y1, y2⟩ := hl y (List.mem_of_getElem? q)
        refine ⟨y, rfl, y1, y2, ?_⟩
        cases hs : sayB y with
        | true =>
          conv => whnf
          refine ⟨rfl, fun j hji z hz => ?_, _, _, rfl⟩
          rcases Nat.lt_or_ge j i with hlt | hge
          · exact hj j hlt z hz
          · have : j = i := by omega
            subst this
            rw [q] at hz
            cases hz
            exact hs
        | false =>
          conv => whnf
          have := g2 i (fstBad_at q hs hj)
          simpa using this
    · obtain ⟨rfl, hj, s1, s2, rfl⟩ := hI
      rw [enumL_len] at hj
      refine g1 (fstBad_all fun y hy => ?_)
      obtain ⟨j, hjl⟩ := List.mem_iff_getElem?.mp hy
      exact hj j (List.getElem?_eq_some_iff.mp hjl).1 y hjl
  cases d with
  | lst l =>
    conv => whnf
    refine ⟨_, rfl, ⟨.lst, rfl⟩, ?_⟩
    exact loop _ l hi.2 k1 k2
  | tup l =>
    conv => whnf
    refine ⟨_, rfl, ⟨.tup, rfl⟩, ?_⟩
    exact loop _ l hi.2 k1 k2
  | _ =>
    first
      | (obtain ⟨n, hn⟩ := hn; cases hn; done)
      | (conv => whnf
         refine ⟨_, rfl, hn, ?_⟩
         exact k2 0 rfl)
theorem d_need_one_more_2_ok (as : List D) (t : Ts) (P : D → Ts → Prop) (Px : PX) (h : sp_need_one_more_2 as t P Px) : d_need_one_more_2 Px (endsOf P) (start0 ["sayings", "saying"] as) t := by
  obtain ⟨s, x, rfl, hs, hx, hi, n, hb, k⟩ := h
  conv => whnf
  refine ⟨s, rfl, hs, fun e => ?_, fun m e => ?_⟩
  · unfold badOne at hb
    rw [e] at hb
    cases q : sayB x with
    | true => rw [q] at hb; cases hb
    | false =>
      rw [q] at hb
      cases hb
      conv => whnf
      refine ⟨x, rfl, hx, hi, ?_⟩
      rw [q]
      cases s with
      | lst l => exact k
      | tup l => exact k
      | _ => cases e
  · unfold badOne at hb
    rw [e] at hb
    cases hb
    exact k
theorem chk_run {k s : D} {t : Ts} {Px : PX} {R : DS} {DD : DEnds} {e : En} (h : ChkE k s t Px) : (dSeq (dDrop (dXE (zCall sp_need_base_2 (dCons (dVar 0) dNil)) Px)) (dSeq (dDrop (dXE (zCall sp_need_sayings_3 (dCons (dVar 1) dNil)) Px)) R)) DD (.val k :: .val s :: e) t := by
  conv => whnf
  refine ⟨k, rfl, h.ek, fun hb => ?_, h.eh⟩
  conv => whnf
  obtain ⟨n, e1, e2⟩ := h.eb hb
  refine ⟨s, rfl, h.es, fun z => ?_, fun m z => ?_⟩
  · rw [e1] at z; cases z
  · rw [e1] at z; cases z; exact e2
theorem chf_run {k s x : D} {t : Ts} {Px : PX} {R : DS} {DD : DEnds} {e : En} (h : ChkF k s x t Px) : (dSeq (dDrop (dXE (zCall sp_need_base_2 (dCons (dVar 0) dNil)) Px)) (dSeq (dDrop (dXE (zCall sp_need_one_more_2 (dCons (dVar 1) (dCons (dVar 2) dNil))) Px)) R)) DD (.val k :: .val s :: .val x :: e) t := by
  conv => whnf
  refine ⟨k, rfl, h.ek, fun hb => ?_, h.eh⟩
  conv => whnf
  obtain ⟨n, e1, e2⟩ := h.eb hb
  exact ⟨s, x, rfl, h.es, h.ex, h.ei, n, e1, e2⟩
theorem d_reaches_3_ok (as : List D) (t : Ts) (P : D → Ts → Prop) (Px : PX) (h : sp_reaches_3 as t P Px) : d_reaches_3 Px (endsOf P) (start0 ["k", "sayings"] as) t := by
  obtain ⟨k, s, r, rfl, hr, h⟩ := h
  exact chk_run h
theorem d_least_house_2_ok (as : List D) (t : Ts) (P : D → Ts → Prop) (Px : PX) (h : sp_least_house_2 as t P Px) : d_least_house_2 Px (endsOf P) (start0 ["k", "sayings", "reach"] as) t := by
  obtain ⟨k, s, r, rfl, hr, h⟩ := h
  exact chk_run h
theorem d_greatest_house_2_ok (as : List D) (t : Ts) (P : D → Ts → Prop) (Px : PX) (h : sp_greatest_house_2 as t P Px) : d_greatest_house_2 Px (endsOf P) (start0 ["k", "sayings", "reach"] as) t := by
  obtain ⟨k, s, r, rfl, hr, h⟩ := h
  exact chk_run h
theorem d_may_be_4_ok (as : List D) (t : Ts) (P : D → Ts → Prop) (Px : PX) (h : sp_may_be_4 as t P Px) : d_may_be_4 Px (endsOf P) (start0 ["k", "sayings", "place", "reach", "stretch", "least"] as) t := by
  obtain ⟨k, s, r, rfl, hr, h⟩ := h
  exact chk_run h
theorem d_how_many_2_ok (as : List D) (t : Ts) (P : D → Ts → Prop) (Px : PX) (h : sp_how_many_2 as t P Px) : d_how_many_2 Px (endsOf P) (start0 ["k", "sayings", "reach", "lows", "highs"] as) t := by
  obtain ⟨k, s, r, rfl, hr, h⟩ := h
  exact chk_run h
theorem d_bar_of_4_ok (as : List D) (t : Ts) (P : D → Ts → Prop) (Px : PX) (h : sp_bar_of_4 as t P Px) : d_bar_of_4 Px (endsOf P) (start0 ["k", "sayings", "reach"] as) t := by
  obtain ⟨k, s, r, rfl, hr, h⟩ := h
  exact chk_run h
theorem d_need_house_3_ok (as : List D) (t : Ts) (P : D → Ts → Prop) (Px : PX) (h : sp_need_house_3 as t P Px) : d_need_house_3 Px (endsOf P) (start0 ["k", "sayings", "ties"] as) t := by
  obtain ⟨k, s, r, rfl, hr, h⟩ := h
  exact chk_run h
theorem d_mend_2_ok (as : List D) (t : Ts) (P : D → Ts → Prop) (Px : PX) (h : sp_mend_2 as t P Px) : d_mend_2 Px (endsOf P) (start0 ["k", "sayings", "reach", "prices"] as) t := by
  obtain ⟨k, s, r, rfl, hr, h⟩ := h
  exact chk_run h
theorem d_shows_mend_2_ok (as : List D) (t : Ts) (P : D → Ts → Prop) (Px : PX) (h : sp_shows_mend_2 as t P Px) : d_shows_mend_2 Px (endsOf P) (start0 ["k", "sayings", "reach", "thing", "prices"] as) t := by
  obtain ⟨k, s, r, rfl, hr, h⟩ := h
  exact chk_run h
theorem d_least_mend_2_ok (as : List D) (t : Ts) (P : D → Ts → Prop) (Px : PX) (h : sp_least_mend_2 as t P Px) : d_least_mend_2 Px (endsOf P) (start0 ["k", "sayings", "prices", "worth", "some", "least", "reach", "price", "tie"] as) t := by
  obtain ⟨k, s, r, rfl, hr, h⟩ := h
  exact chk_run h
theorem d_shows_bar_2_ok (as : List D) (t : Ts) (P : D → Ts → Prop) (Px : PX) (h : sp_shows_bar_2 as t P Px) : d_shows_bar_2 Px (endsOf P) (start0 ["k", "sayings", "thing", "reach"] as) t := by
  obtain ⟨k, s, r, rfl, hr, h⟩ := h
  exact chk_run h
theorem d_nth_house_2_ok (as : List D) (t : Ts) (P : D → Ts → Prop) (Px : PX) (h : sp_nth_house_2 as t P Px) : d_nth_house_2 Px (endsOf P) (start0 ["k", "sayings", "reach", "place", "lows", "highs", "sums", "left", "here", "low"] as) t := by
  obtain ⟨k, s, r, rfl, hr, h⟩ := h
  match r, hr with
  | [a, b], _ =>
    conv => whnf
    exact ⟨k, s, [a], rfl, rfl, h⟩
theorem d_blame_3_ok (as : List D) (t : Ts) (P : D → Ts → Prop) (Px : PX) (h : sp_blame_3 as t P Px) : d_blame_3 Px (endsOf P) (start0 ["k", "sayings", "bar", "place", "others", "one"] as) t := by
  obtain ⟨k, s, r, rfl, hr, h⟩ := h
  conv => whnf
  exact ⟨k, s, [.non], rfl, rfl, h⟩
theorem d_core_3_ok (as : List D) (t : Ts) (P : D → Ts → Prop) (Px : PX) (h : sp_core_3 as t P Px) : d_core_3 Px (endsOf P) (start0 ["k", "sayings", "left", "place", "others", "one"] as) t := by
  obtain ⟨k, s, r, rfl, hr, h⟩ := h
  conv => whnf
  exact ⟨k, s, [], rfl, rfl, h⟩
theorem d_why_least_2_ok (as : List D) (t : Ts) (P : D → Ts → Prop) (Px : PX) (h : sp_why_least_2 as t P Px) : d_why_least_2 Px (endsOf P) (start0 ["k", "sayings", "tie"] as) t := by
  obtain ⟨k, s, r, rfl, hr, h⟩ := h
  conv => whnf
  exact ⟨k, s, [], rfl, rfl, h⟩
theorem d_why_greatest_2_ok (as : List D) (t : Ts) (P : D → Ts → Prop) (Px : PX) (h : sp_why_greatest_2 as t P Px) : d_why_greatest_2 Px (endsOf P) (start0 ["k", "sayings", "tie"] as) t := by
  obtain ⟨k, s, r, rfl, hr, h⟩ := h
  conv => whnf
  exact ⟨k, s, [], rfl, rfl, h⟩
theorem d_shows_follows_3_ok (as : List D) (t : Ts) (P : D → Ts → Prop) (Px : PX) (h : sp_shows_follows_3 as t P Px) : d_shows_follows_3 Px (endsOf P) (start0 ["k", "sayings", "saying", "paper", "other", "word", "thing"] as) t := by
  obtain ⟨k, s, x, p, rfl, h⟩ := h
  exact chf_run h
theorem d_follows_3_ok (as : List D) (t : Ts) (P : D → Ts → Prop) (Px : PX) (h : sp_follows_3 as t P Px) : d_follows_3 Px (endsOf P) (start0 ["k", "sayings", "saying", "other", "more", "bar", "reach"] as) t := by
  obtain ⟨k, s, x, rfl, h⟩ := h
  exact chf_run h
theorem d_which_2_ok (as : List D) (t : Ts) (P : D → Ts → Prop) (Px : PX) (h : sp_which_2 as t P Px) : d_which_2 Px (endsOf P) (start0 ["sayings", "most", "found", "k", "stretch"] as) t := by
  obtain ⟨s, m, rfl, hs, n, e1, e2⟩ := h
  conv => whnf
  refine ⟨s, rfl, hs, fun z => ?_, fun m z => ?_⟩
  · rw [e1] at z; cases z
  · rw [e1] at z; cases z; exact e2
theorem d_keeps_2_ok (as : List D) (t : Ts) (P : D → Ts → Prop) (Px : PX) (h : sp_keeps_2 as t P Px) : d_keeps_2 Px (endsOf P) (start0 ["house", "saying"] as) t := by
  obtain ⟨h, x, rfl, hx, hi, hb, k⟩ := h
  conv => whnf
  have e1 : badOf (.lst [x]) = some 0 := by
    show fstBad [x] = some 0
    unfold fstBad
    rw [hb]
  refine ⟨.lst [x], rfl, ⟨⟨_, rfl⟩, by show (1 : Nat) ≤ 1000; decide, fun y hy => ?_⟩, fun z => ?_, fun m z => ?_⟩
  · rw [List.mem_singleton.mp hy]
    exact ⟨hx, hi⟩
  · rw [e1] at z; cases z
  · rw [e1] at z; cases z; exact k
end Q
/-! M_k52b -/
namespace Q
open PySem
def tnB (d : D) : Bool := (tn d).isSome
theorem items_by {l : List D} (h : l.all tnB = true) : itemsOk (.tup l) := fun x hx => by
  have := List.all_eq_true.mp h x hx
  exact Option.isSome_iff_exists.mp this
theorem sayB_3 {a c : D} {z : Int} : sayB (.tup [a, .int z, c]) = (isBd a && (decide (0 < z) && isCount c)) := rfl
theorem sayB_3' {a c : D} {z : Int} : sayB (.tup [a, c, .int z]) = (isBd a && (isCount c && decide (0 < z))) := rfl
theorem sayB_2 {a b c : D} (h : isCount c = false := by rfl) : sayB (.tup [a, b, c]) = (isBd a && (isCount b && false)) := by
  show (isBd a && (isCount b && isCount c)) = _
  rw [h]
structure OddD (d : D) : Prop where
  b : sayB d = false
  n : tnOk d
  i : itemsOk d
  p : nopen d = true
def sp__law_odd_6 : PSp := fun ds t P => ∃ n, ds = [.pen] ∧ Pk n t ∧ n < 80000000 ∧ ∀ d t', OddD d → Pk (n + 4) t' → P d t'
theorem len__law_odd_6 (as : List D) (t : Ts) (P : D → Ts → Prop) (h : sp__law_odd_6 as t P) : as.length = 1 := by first | (obtain ⟨_, rfl, _⟩ := h; rfl) | (obtain ⟨_, _, rfl, _⟩ := h; rfl) | (obtain ⟨_, _, _, rfl, _⟩ := h; rfl) | (obtain ⟨_, _, _, _, rfl, _⟩ := h; rfl) | (obtain ⟨_, _, _, _, _, rfl, _⟩ := h; rfl) | (obtain ⟨_, _, _, _, _, _, rfl, _⟩ := h; rfl) | (obtain ⟨_, _, _, _, _, _, _, rfl, _⟩ := h; rfl) | (obtain ⟨_, _, _, _, _, _, _, _, rfl, _⟩ := h; rfl) | (obtain ⟨_, _, _, _, _, _, _, _, _, rfl, _⟩ := h; rfl) | (obtain ⟨_, _, _, _, _, _, _, _, _, _, rfl, _⟩ := h; rfl) | (obtain ⟨_, _, _, _, _, _, _, _, _, _, _, rfl, _⟩ := h; rfl) | (obtain ⟨_, _, _, _, _, _, _, _, _, _, _, _, rfl, _⟩ := h; rfl) | (obtain ⟨_, _, _, _, _, _, _, _, _, _, _, _, _, rfl, _⟩ := h; rfl) | (obtain ⟨_, _, _, _, _, _, _, _, _, _, _, _, _, _, rfl, _⟩ := h; rfl) | (obtain ⟨_, rfl | rfl, _⟩ := h <;> rfl) | (obtain ⟨_, _, rfl | rfl, _⟩ := h <;> rfl) | (obtain ⟨_, _, _, rfl | rfl, _⟩ := h <;> rfl) | (obtain ⟨_, _, _, _, rfl | rfl, _⟩ := h <;> rfl) | (obtain ⟨_, _, _, _, _, rfl | rfl, _⟩ := h <;> rfl) | (obtain ⟨_, _, _, _, _, _, rfl | rfl, _⟩ := h <;> rfl) | (obtain ⟨_, _, _, _, _, _, _, rfl | rfl, _⟩ := h <;> rfl) | (obtain ⟨_, _, _, _, _, _, _, _, rfl | rfl, _⟩ := h <;> rfl) | (obtain ⟨_, _, _, _, _, _, _, _, _, rfl | rfl, _⟩ := h <;> rfl) | (obtain ⟨_, _, _, _, _, _, _, _, _, _, rfl | rfl, _⟩ := h <;> rfl) | (obtain ⟨_, _, _, _, _, _, _, _, _, _, _, rfl | rfl, _⟩ := h <;> rfl) | (obtain ⟨_, _, _, _, _, _, _, _, _, _, _, _, rfl | rfl, _⟩ := h <;> rfl) | (obtain ⟨_, _, _, _, _, _, _, _, _, _, _, _, _, rfl | rfl, _⟩ := h <;> rfl) | (obtain ⟨_, _, _, _, _, _, _, _, _, _, _, _, _, _, rfl | rfl, _⟩ := h <;> rfl)
def d__law_odd_6 : DS := (dSeq (dAsg (dCall sp__law_pick [] (dCons (dVar 0) (dCons (dLst (dCons (dC (.str "at most")) (dCons (dC (.str "at least")) dNil))) dNil))) (gName 1)) (dSeq (dPar 3 4 (dCons (dOp oAdd (dC (.int 1)) (dCall sp__law_draw [] (dCons (dVar 0) (dCons (dC (.int 60)) dNil)))) (dCons (dOp oAdd (dC (.int 1)) (dCall sp__law_draw [] (dCons (dVar 0) (dCons (dC (.int 40)) dNil)))) dNil))) (dSeq (dAsg (dLst (dCons (dC .non) (dCons (dC (.bl true)) (dCons (dVar 3) (dCons (dVar 1) (dCons (dC (.str "")) (dCons (dTup dNil) (dCons (dLst dNil) (dCons (dC (.dic [] [])) (dCons (dTup (dCons (dVar 1) dNil)) (dCons (dTup (dCons (dVar 1) (dCons (dVar 3) dNil))) (dCons (dTup (dCons (dVar 1) (dCons (dVar 3) (dCons (dVar 4) (dCons (dC (.int 1)) dNil))))) dNil)))))))))))) (gName 2)) (dSeq (dAsg (dOp oAdd (dVar 2) (dLst (dCons (dLst (dCons (dVar 1) (dCons (dVar 3) (dCons (dVar 4) dNil)))) (dCons (dTup (dCons (dVar 1) (dCons (dC (.int 0)) (dCons (dVar 4) dNil)))) (dCons (dTup (dCons (dVar 1) (dCons (dVar 3) (dCons (dC (.int 0)) dNil)))) dNil))))) (gName 2)) (dSeq (dAsg (dOp oAdd (dVar 2) (dLst (dCons (dTup (dCons (dVar 1) (dCons (dUn oNeg (dVar 3)) (dCons (dVar 4) dNil)))) (dCons (dTup (dCons (dVar 1) (dCons (dVar 3) (dCons (dUn oNeg (dVar 4)) dNil)))) (dCons (dTup (dCons (dVar 1) (dCons (dC (.bl true)) (dCons (dVar 4) dNil)))) dNil))))) (gName 2)) (dSeq (dAsg (dOp oAdd (dVar 2) (dLst (dCons (dTup (dCons (dVar 1) (dCons (dVar 3) (dCons (dC (.bl true)) dNil)))) (dCons (dTup (dCons (dVar 1) (dCons (dVar 3) (dCons (dC .non) dNil)))) dNil)))) (gName 2)) (dSeq (dAsg (dOp oAdd (dVar 2) (dLst (dCons (dTup (dCons (dVar 1) (dCons (dCB bStr (dCons (dVar 3) dNil)) (dCons (dVar 4) dNil)))) (dCons (dTup (dCons (dVar 1) (dCons (dVar 3) (dCons (dCB bStr (dCons (dVar 4) dNil)) dNil)))) (dCons (dTup (dCons (dC .non) (dCons (dVar 3) (dCons (dVar 4) dNil)))) dNil))))) (gName 2)) (dSeq (dAsg (dOp oAdd (dVar 2) (dLst (dCons (dTup (dCons (dVar 3) (dCons (dVar 1) (dCons (dVar 4) dNil)))) (dCons (dTup (dCons (dSliceS (dVar 1) (dPart (dC (.int 3))) dNoPart) (dCons (dVar 3) (dCons (dVar 4) dNil)))) (dCons (dTup (dCons (dOp oAdd (dVar 1) (dC (.str " "))) (dCons (dVar 3) (dCons (dVar 4) dNil)))) dNil))))) (gName 2)) (dSeq (dAsg (dOp oAdd (dVar 2) (dLst (dCons (dTup (dCons (dC (.str "At most")) (dCons (dVar 3) (dCons (dVar 4) dNil)))) (dCons (dTup (dCons (dLst (dCons (dVar 1) dNil)) (dCons (dVar 3) (dCons (dVar 4) dNil)))) (dCons (dTup (dCons (dVar 1) (dCons (dTup (dCons (dVar 3) dNil)) (dCons (dVar 4) dNil)))) dNil))))) (gName 2)) (dSeq (dAsg (dOp oAdd (dVar 2) (dLst (dCons (dTup (dCons (dVar 1) (dCons (dVar 3) (dCons (dLst (dCons (dVar 4) dNil)) dNil)))) (dCons (dDicE (dVar 1) (dTup (dCons (dVar 3) (dCons (dVar 4) dNil)))) dNil)))) (gName 2)) (dSeq (dRet (dCall sp__law_pick [] (dCons (dVar 0) (dCons (dVar 2) dNil)))) dNext)))))))))))
theorem d__law_odd_6_ok (as : List D) (t : Ts) (P : D → Ts → Prop) (h : sp__law_odd_6 as t P) : d__law_odd_6 (endsOf P) (start0 ["_law_pen_here", "_law_word", "_law_some", "_law_spot", "_law_number"] as) t := by
  obtain ⟨n, rfl, hp, hn, k⟩ := h
  conv => whnf
  refine ⟨n, _, rfl, by decide, by decide, hp, by omega, fun i d t1 hi p1 => ?_⟩
  obtain ⟨w, rfl, hw⟩ : ∃ w : Str, d = .str w ∧ (w = "at most" ∨ w = "at least") := by
    have := List.mem_of_getElem? hi
    simp only [List.mem_cons, List.not_mem_nil, or_false] at this
    rcases this with rfl | rfl
    · exact ⟨_, rfl, .inl rfl⟩
    · exact ⟨_, rfl, .inr rfl⟩
  clear hi
  conv => whnf
  refine ⟨_, _, rfl, by first | omega | decide, (sm64 (by first | omega | decide) (by first | omega | decide)).mono (by decide), p1, by omega, fun u t2 u0 u1 pt2 => ?_⟩
  conv => whnf
  refine ⟨_, _, rfl, by first | omega | decide, (sm64 (by first | omega | decide) (by first | omega | decide)).mono (by decide), pt2, by omega, fun v t3 v0 v1 pt3 => ?_⟩
  conv => whnf
  have lw : w.length ≤ 8 := by rcases hw with rfl | rfl <;> decide
  have lg : ∀ z : Int, 0 ≤ z → z ≤ 60 → z.natAbs.log2 < 1920 := fun z h0 h1 => by
    have : z.natAbs < 2 ^ 1920 := Nat.lt_of_lt_of_le (by omega : z.natAbs < 2 ^ 6) (Nat.pow_le_pow_right (by decide) (by decide))
    by_cases e : z.natAbs = 0
    · rw [e]; decide
    · exact (Nat.log2_lt e).mpr this
  conv => whnf
  repeat (refine And.intro (by first | omega | rfl | exact MulOk.r (by decide) (by decide) | exact MulOk.l (by omega) (by omega) | exact MulOk.r (by omega) (by omega) | exact DivOk.s (by omega) (by omega) | exact PowOk.s (by decide) (by decide) (by decide) (by decide) | (unfold zLen; omega) | (simp only [List.length_append, List.length_map, List.length_cons, List.length_nil]; unfold zLen; omega)) ?_; conv => whnf)
  refine ⟨lg _ (by omega) (by omega), ?_⟩
  conv => whnf
  conv => whnf
  repeat (refine And.intro (by first | omega | rfl | exact MulOk.r (by decide) (by decide) | exact MulOk.l (by omega) (by omega) | exact MulOk.r (by omega) (by omega) | exact DivOk.s (by omega) (by omega) | exact PowOk.s (by decide) (by decide) (by decide) (by decide) | (unfold zLen; omega) | (simp only [List.length_append, List.length_map, List.length_cons, List.length_nil]; unfold zLen; omega)) ?_; conv => whnf)
  refine ⟨lg _ (by omega) (by omega), ?_⟩
  conv => whnf
  conv => whnf
  repeat (refine And.intro (by first | omega | rfl | exact MulOk.r (by decide) (by decide) | exact MulOk.l (by omega) (by omega) | exact MulOk.r (by omega) (by omega) | exact DivOk.s (by omega) (by omega) | exact PowOk.s (by decide) (by decide) (by decide) (by decide) | (unfold zLen; omega) | (simp only [List.length_append, List.length_map, List.length_cons, List.length_nil]; unfold zLen; omega)) ?_; conv => whnf)
  refine ⟨(by have e : ((" " : Str)).length = 1 := rfl; rw [e]; unfold zLen; omega), ?_⟩
  conv => whnf
  conv => whnf
  repeat (refine And.intro (by first | omega | rfl | exact MulOk.r (by decide) (by decide) | exact MulOk.l (by omega) (by omega) | exact MulOk.r (by omega) (by omega) | exact DivOk.s (by omega) (by omega) | exact PowOk.s (by decide) (by decide) (by decide) (by decide) | (unfold zLen; omega) | (simp only [List.length_append, List.length_map, List.length_cons, List.length_nil]; unfold zLen; omega)) ?_; conv => whnf)
  refine ⟨n + 1 + 1 + 1, _, rfl, by simp, by simp, pt3, by omega, fun i2 d t4 hi p4 => ?_⟩
  have hd := List.mem_of_getElem? hi
  clear hi
  refine k d t4 ?_ (by have e : n + 4 = n + 1 + 1 + 1 + 1 := by omega
                       rw [e]; exact p4)
  have eu : (1 + u).natAbs = 0 → False := by omega
  have ng : ∀ z : Int, 0 ≤ z → decide (0 < -(1 + z)) = false := fun z hz => decide_eq_false (by omega)
  clear k hp p1 pt2 pt3 p4
  simp only [List.mem_append, List.mem_cons, List.not_mem_nil, or_false] at hd
  rcases hw with rfl | rfl
  all_goals
    repeat' (rcases hd with hd | hd)
  all_goals first
    | exact ⟨rfl, ⟨_, rfl⟩, trivial, rfl⟩
    | exact ⟨rfl, ⟨_, rfl⟩, items_by rfl, rfl⟩
    | exact ⟨by rw [sayB_3, ng u u0]; rfl, ⟨_, rfl⟩, items_by rfl, rfl⟩
    | exact ⟨by rw [sayB_3', ng v v0, Bool.and_false, Bool.and_false], ⟨_, rfl⟩, items_by rfl, rfl⟩
    | exact ⟨by rw [sayB_2, Bool.and_false, Bool.and_false], ⟨_, rfl⟩, items_by rfl, rfl⟩
end Q
/-! M_k52c -/
namespace Q
open PySem
def d_lam0 (W : Cl) : DXE := (zCall sp_reaches_3 (dCons (dVar 1) (dCons (dVar 0) dNil)))
def d_lam1 (W : Cl) : DXE := (zCall sp_least_house_2 (dCons (dVar 1) (dCons (dVar 0) (dCons (dC (.int 2)) dNil))))
def d_lam2 (W : Cl) : DXE := (zCall sp_greatest_house_2 (dCons (dVar 1) (dCons (dVar 0) (dCons (dC (.int 2)) dNil))))
def d_lam3 (W : Cl) : DXE := (zCall sp_bar_of_4 (dKD [.non] (dCons (dVar 1) (dCons (dVar 0) dNil))))
def d_lam4 (W : Cl) : DXE := (zCall sp_bar_of_4 (dKP 2 1 [0] (dCons (dVar 1) (dCons (dVar 0) dNil)) (dCons (dC (.int 3)) dNil)))
def d_lam5 (W : Cl) : DXE := (zCall sp_shows_bar_2 (dKD [.non] (dCons (dVar 1) (dCons (dVar 0) (dCons (dLst (dCons (dC (.int 0)) dNil)) dNil)))))
def d_lam6 (W : Cl) : DXE := (zCall sp_shows_bar_2 (dKP 3 1 [0] (dCons (dVar 1) (dCons (dVar 0) (dCons (dC .non) dNil))) (dCons (dC (.int 0)) dNil)))
def d_lam7 (W : Cl) : DXE := (zCall sp_why_least_2 (dCons (dVar 1) (dCons (dVar 0) dNil)))
def d_lam8 (W : Cl) : DXE := (zCall sp_why_greatest_2 (dCons (dVar 1) (dCons (dVar 0) dNil)))
def d_lam9 (W : Cl) : DXE := (zCall sp_follows_3 (dCons (dVar 1) (dCons (dVar 0) (dCons (dVar 2) dNil))))
def d_lam10 (W : Cl) : DXE := (zCall sp_shows_follows_3 (dCons (dVar 1) (dCons (dVar 0) (dCons (dVar 2) (dCons (dC .non) dNil)))))
def d_lam11 (W : Cl) : DXE := (zCall sp_may_be_4 (dKD [.non] (dCons (dVar 1) (dCons (dVar 0) (dCons (dC (.int 5)) dNil)))))
def d_lam12 (W : Cl) : DXE := (zCall sp_may_be_4 (dKP 3 1 [0] (dCons (dVar 1) (dCons (dVar 0) (dCons (dC (.int 5)) dNil))) (dCons (dC (.int 1)) dNil)))
def d_lam13 (W : Cl) : DXE := (zCall sp_how_many_2 (dCons (dVar 1) (dCons (dVar 0) (dCons (dC (.int 4)) dNil))))
def d_lam14 (W : Cl) : DXE := (zCall sp_nth_house_2 (dCons (dVar 1) (dCons (dVar 0) (dCons (dC (.int 4)) (dCons (dC (.int 0)) dNil)))))
def d_lam15 (W : Cl) : DXE := (zCall sp_blame_3 (dCons (dVar 1) (dCons (dVar 0) dNil)))
def d_lam16 (W : Cl) : DXE := (zCall sp_core_3 (dCons (dVar 1) (dCons (dVar 0) dNil)))
def d_lam17 (W : Cl) : DXE := (zCall sp_mend_2 (dKD [.non] (dCons (dVar 1) (dCons (dVar 0) (dCons (dC (.int 2)) dNil)))))
def d_lam18 (W : Cl) : DXE := (zCall sp_shows_mend_2 (dKD [.non] (dCons (dVar 1) (dCons (dVar 0) (dCons (dC (.int 2)) (dCons (dTup (dCons (dLst dNil) (dCons (dLst dNil) dNil))) dNil))))))
def d_lam19 (W : Cl) : DXE := (zCall sp_least_mend_2 (dKD [.non] (dCons (dVar 1) (dCons (dVar 0) dNil))))
def d_lam20 (W : Cl) : DXE := (zCall sp_follows_3 (dCons (dVar 2) (dCons (dVar 1) (dCons (dVar 0) dNil))))
def d_lam21 (W : Cl) : DXE := (zCall sp_which_2 (dCons (dVar 0) (dCons (dVar 1) dNil)))
def d_lam22 (W : Cl) : DXE := (zCall sp_which_2 (dCons (dVar 0) (dCons (dVar 1) dNil)))
def d_lam23 (W : Cl) : DXE := (zCall sp_keeps_2 (dCons (dCall (sp_House___init__ W) [] (dCons (dC (.int 2)) (dCons (dLst (dCons (dC (.int 1)) dNil)) dNil))) (dCons (dVar 0) dNil)))
def d_lam24 (W : Cl) : DXE := (zCall sp_follows_3 (dCons (dVar 2) (dCons (dVar 0) (dCons (dVar 1) dNil))))
def d_lam25 (W : Cl) : DXE := (zCall sp_follows_3 (dCons (dVar 2) (dCons (dVar 1) (dCons (dVar 0) dNil))))
def d_lam26 (W : Cl) : DXE := (zCall sp_shows_follows_3 (dCons (dVar 2) (dCons (dVar 0) (dCons (dVar 1) (dCons (dC .non) dNil)))))
def d_lam27 (W : Cl) : DXE := (zCall sp_shows_follows_3 (dCons (dVar 0) (dCons (dVar 2) (dCons (dVar 1) (dCons (dC .non) dNil)))))
def d_lamc (W : Cl) : Nat → DXE := fun n => match n with | 0 => d_lam0 W | 1 => d_lam1 W | 2 => d_lam2 W | 3 => d_lam3 W | 4 => d_lam4 W | 5 => d_lam5 W | 6 => d_lam6 W | 7 => d_lam7 W | 8 => d_lam8 W | 9 => d_lam9 W | 10 => d_lam10 W | 11 => d_lam11 W | 12 => d_lam12 W | 13 => d_lam13 W | 14 => d_lam14 W | 15 => d_lam15 W | 16 => d_lam16 W | 17 => d_lam17 W | 18 => d_lam18 W | 19 => d_lam19 W | 20 => d_lam20 W | 21 => d_lam21 W | 22 => d_lam22 W | 23 => d_lam23 W | 24 => d_lam24 W | 25 => d_lam25 W | 26 => d_lam26 W | 27 => d_lam27 W | _ => fun _ _ _ _ => False
def d_tb : Nat → List Nat := fun n => match n with | 0 => [1, 0] | 1 => [1, 0] | 2 => [1, 0] | 3 => [1, 0] | 4 => [1, 0] | 5 => [1, 0] | 6 => [1, 0] | 7 => [1, 0] | 8 => [1, 0] | 9 => [1, 0, 2] | 10 => [1, 0, 2] | 11 => [1, 0] | 12 => [1, 0] | 13 => [1, 0] | 14 => [1, 0] | 15 => [1, 0] | 16 => [1, 0] | 17 => [1, 0] | 18 => [1, 0] | 19 => [1, 0] | 20 => [11, 6, 8] | 21 => [6, 8] | 22 => [4, 8] | 23 => [11] | 24 => [9, 11, 8] | 25 => [11, 4, 8] | 26 => [9, 11, 8] | 27 => [5, 11, 4] | _ => []
def d_ap (W : Cl) (LtK : Nat → LamK) (n : Nat) (L : LamK) : PSpE := fun as t P Px => L = LtK n ∧ d_lamc W n (as.map Sl.val) t P Px
def houD : D := .tup [.str "house", .str "k"]
def sayI (m : Int) : D := .tup [.str "saying", .str (toString m)]
def Rf (W : Cl) (i : Nat) (l : List D) (r : D) : Prop :=
  (r = houD ∧ ∀ t P Px, Px .BadHouse (.str "k") t → d_lamc W i (l.map Sl.val) t P Px) ∨
  ∃ m : Int, Sm 1900 m ∧ r = sayI m ∧ ∀ t P Px, Px .BadSaying (.int m) t → d_lamc W i (l.map Sl.val) t P Px
structure AskE (k s r : D) : Prop where
  ek : tnOk k
  es : ArgOk s
  eh : isBase k = false → r = houD
  eb : isBase k = true → ∃ n : Nat, badOf s = some n ∧ Sm 1900 (n : Int) ∧ r = sayI n
structure AskF (k s x r : D) : Prop where
  ek : tnOk k
  es : ArgOk s
  ex : tnOk x
  ei : itemsOk x
  eh : isBase k = false → r = houD
  eb : isBase k = true → ∃ n : Nat, badOne s x = some n ∧ Sm 1900 (n : Int) ∧ r = sayI n
theorem rf_e {W : Cl} {i : Nat} {l : List D} {k s r : D} (h : AskE k s r) (hl : ∀ t P Px, ChkE k s t Px → d_lamc W i (l.map Sl.val) t P Px) : Rf W i l r := by
  cases hb : isBase k with
  | false => exact .inl ⟨h.eh hb, fun t P Px q => hl t P Px ⟨h.ek, h.es, fun _ => q, fun e => (by rw [hb] at e; cases e)⟩⟩
  | true =>
    obtain ⟨n, e1, e2, e3⟩ := h.eb hb
    exact .inr ⟨n, e2, e3, fun t P Px q => hl t P Px ⟨h.ek, h.es, fun e => (by rw [hb] at e; cases e), fun _ => ⟨n, e1, q⟩⟩⟩
theorem rf_f {W : Cl} {i : Nat} {l : List D} {k s x r : D} (h : AskF k s x r) (hl : ∀ t P Px, ChkF k s x t Px → d_lamc W i (l.map Sl.val) t P Px) : Rf W i l r := by
  cases hb : isBase k with
  | false => exact .inl ⟨h.eh hb, fun t P Px q => hl t P Px ⟨h.ek, h.es, h.ex, h.ei, fun _ => q, fun e => (by rw [hb] at e; cases e)⟩⟩
  | true =>
    obtain ⟨n, e1, e2, e3⟩ := h.eb hb
    exact .inr ⟨n, e2, e3, fun t P Px q => hl t P Px ⟨h.ek, h.es, h.ex, h.ei, fun e => (by rw [hb] at e; cases e), fun _ => ⟨n, e1, q⟩⟩⟩
def fineD : D := .tup [.str "at most", .int 3, .int 2]
def enCS (k s : D) : En := [.val k, .val s, .val fineD]
theorem AskE.fine {k s r : D} (h : AskE k s r) : AskF k s fineD r := ⟨h.ek, h.es, ⟨_, rfl⟩, items_by rfl, h.eh, fun e => by
  obtain ⟨n, e1, e2⟩ := h.eb e
  refine ⟨n, ?_, e2⟩
  unfold badOne
  rw [e1]⟩
theorem rf_0 {W : Cl} {k s r : D} (h : AskE k s r) : Rf W 0 (capt d_tb (enCS k s) 0) r := rf_e h fun t P Px q => by
  conv => whnf
  exact ⟨k, s, _, rfl, rfl, q⟩
theorem rf_1 {W : Cl} {k s r : D} (h : AskE k s r) : Rf W 1 (capt d_tb (enCS k s) 1) r := rf_e h fun t P Px q => by
  conv => whnf
  exact ⟨k, s, _, rfl, rfl, q⟩
theorem rf_2 {W : Cl} {k s r : D} (h : AskE k s r) : Rf W 2 (capt d_tb (enCS k s) 2) r := rf_e h fun t P Px q => by
  conv => whnf
  exact ⟨k, s, _, rfl, rfl, q⟩
theorem rf_3 {W : Cl} {k s r : D} (h : AskE k s r) : Rf W 3 (capt d_tb (enCS k s) 3) r := rf_e h fun t P Px q => by
  conv => whnf
  exact ⟨k, s, _, rfl, rfl, q⟩
theorem rf_4 {W : Cl} {k s r : D} (h : AskE k s r) : Rf W 4 (capt d_tb (enCS k s) 4) r := rf_e h fun t P Px q => by
  conv => whnf
  exact ⟨k, s, _, rfl, rfl, q⟩
theorem rf_5 {W : Cl} {k s r : D} (h : AskE k s r) : Rf W 5 (capt d_tb (enCS k s) 5) r := rf_e h fun t P Px q => by
  conv => whnf
  exact ⟨k, s, _, rfl, rfl, q⟩
theorem rf_6 {W : Cl} {k s r : D} (h : AskE k s r) : Rf W 6 (capt d_tb (enCS k s) 6) r := rf_e h fun t P Px q => by
  conv => whnf
  exact ⟨k, s, _, rfl, rfl, q⟩
theorem rf_7 {W : Cl} {k s r : D} (h : AskE k s r) : Rf W 7 (capt d_tb (enCS k s) 7) r := rf_e h fun t P Px q => by
  conv => whnf
  exact ⟨k, s, _, rfl, rfl, q⟩
theorem rf_8 {W : Cl} {k s r : D} (h : AskE k s r) : Rf W 8 (capt d_tb (enCS k s) 8) r := rf_e h fun t P Px q => by
  conv => whnf
  exact ⟨k, s, _, rfl, rfl, q⟩
theorem rf_9 {W : Cl} {k s r : D} (h : AskE k s r) : Rf W 9 (capt d_tb (enCS k s) 9) r := rf_f h.fine fun t P Px q => by
  conv => whnf
  exact ⟨k, s, fineD, rfl, q⟩
theorem rf_10 {W : Cl} {k s r : D} (h : AskE k s r) : Rf W 10 (capt d_tb (enCS k s) 10) r := rf_f h.fine fun t P Px q => by
  conv => whnf
  exact ⟨k, s, fineD, _, rfl, q⟩
theorem rf_11 {W : Cl} {k s r : D} (h : AskE k s r) : Rf W 11 (capt d_tb (enCS k s) 11) r := rf_e h fun t P Px q => by
  conv => whnf
  exact ⟨k, s, _, rfl, rfl, q⟩
theorem rf_12 {W : Cl} {k s r : D} (h : AskE k s r) : Rf W 12 (capt d_tb (enCS k s) 12) r := rf_e h fun t P Px q => by
  conv => whnf
  exact ⟨k, s, _, rfl, rfl, q⟩
theorem rf_13 {W : Cl} {k s r : D} (h : AskE k s r) : Rf W 13 (capt d_tb (enCS k s) 13) r := rf_e h fun t P Px q => by
  conv => whnf
  exact ⟨k, s, _, rfl, rfl, q⟩
theorem rf_14 {W : Cl} {k s r : D} (h : AskE k s r) : Rf W 14 (capt d_tb (enCS k s) 14) r := rf_e h fun t P Px q => by
  conv => whnf
  exact ⟨k, s, _, rfl, rfl, q⟩
theorem rf_15 {W : Cl} {k s r : D} (h : AskE k s r) : Rf W 15 (capt d_tb (enCS k s) 15) r := rf_e h fun t P Px q => by
  conv => whnf
  exact ⟨k, s, _, rfl, rfl, q⟩
theorem rf_16 {W : Cl} {k s r : D} (h : AskE k s r) : Rf W 16 (capt d_tb (enCS k s) 16) r := rf_e h fun t P Px q => by
  conv => whnf
  exact ⟨k, s, _, rfl, rfl, q⟩
theorem rf_17 {W : Cl} {k s r : D} (h : AskE k s r) : Rf W 17 (capt d_tb (enCS k s) 17) r := rf_e h fun t P Px q => by
  conv => whnf
  exact ⟨k, s, _, rfl, rfl, q⟩
theorem rf_18 {W : Cl} {k s r : D} (h : AskE k s r) : Rf W 18 (capt d_tb (enCS k s) 18) r := rf_e h fun t P Px q => by
  conv => whnf
  exact ⟨k, s, _, rfl, rfl, q⟩
theorem rf_19 {W : Cl} {k s r : D} (h : AskE k s r) : Rf W 19 (capt d_tb (enCS k s) 19) r := rf_e h fun t P Px q => by
  conv => whnf
  exact ⟨k, s, _, rfl, rfl, q⟩
theorem rf_all {W : Cl} {k s r : D} (h : AskE k s r) : ∀ i, i < 20 → Rf W i (capt d_tb (enCS k s) i) r
  | 0, _ => rf_0 h
  | 1, _ => rf_1 h
  | 2, _ => rf_2 h
  | 3, _ => rf_3 h
  | 4, _ => rf_4 h
  | 5, _ => rf_5 h
  | 6, _ => rf_6 h
  | 7, _ => rf_7 h
  | 8, _ => rf_8 h
  | 9, _ => rf_9 h
  | 10, _ => rf_10 h
  | 11, _ => rf_11 h
  | 12, _ => rf_12 h
  | 13, _ => rf_13 h
  | 14, _ => rf_14 h
  | 15, _ => rf_15 h
  | 16, _ => rf_16 h
  | 17, _ => rf_17 h
  | 18, _ => rf_18 h
  | 19, _ => rf_19 h
  | _ + 20, h => by omega
theorem rf_20 {W : Cl} {k s x r : D} (h : AskF k s x r) : Rf W 20 [x, s, k] r := rf_f h fun t P Px q => by
  conv => whnf
  exact ⟨k, s, x, rfl, q⟩
theorem rf_24 {W : Cl} {k s x r : D} (h : AskF k s x r) : Rf W 24 [s, x, k] r := rf_f h fun t P Px q => by
  conv => whnf
  exact ⟨k, s, x, rfl, q⟩
theorem rf_25 {W : Cl} {k s x r : D} (h : AskF k s x r) : Rf W 25 [x, s, k] r := rf_f h fun t P Px q => by
  conv => whnf
  exact ⟨k, s, x, rfl, q⟩
theorem rf_26 {W : Cl} {k s x r : D} (h : AskF k s x r) : Rf W 26 [s, x, k] r := rf_f h fun t P Px q => by
  conv => whnf
  exact ⟨k, s, x, _, rfl, q⟩
theorem rf_27 {W : Cl} {k s x r : D} (h : AskF k s x r) : Rf W 27 [k, x, s] r := rf_f h fun t P Px q => by
  conv => whnf
  exact ⟨k, s, x, _, rfl, q⟩
theorem rf_w {W : Cl} {i : Nat} {k s : D} (hi : i = 21 ∨ i = 22) (hs : ArgOk s) {n : Nat} (e1 : badOf s = some n) (e2 : Sm 1900 (n : Int)) : Rf W i [s, k] (sayI n) := .inr ⟨n, e2, rfl, fun t P Px q => by
  rcases hi with rfl | rfl
  · conv => whnf
    exact ⟨s, k, rfl, hs, n, e1, q⟩
  · conv => whnf
    exact ⟨s, k, rfl, hs, n, e1, q⟩⟩
theorem rf_23 {W : Cl} {x : D} (h1 : tnOk x) (h2 : itemsOk x) (h3 : sayB x = false) : Rf W 23 [x] (sayI 0) := .inr ⟨0, Sm.lit (by decide), rfl, fun t P Px q => by
  conv => whnf
  refine ⟨2, [1], .inl rfl, ?_, ?_⟩
  · exact ⟨by decide, by decide, rfl, fun x hx => by rw [List.mem_singleton.mp hx]; decide⟩
  conv => whnf
  exact ⟨_, _, rfl, h1, h2, h3, q⟩⟩
end Q
/-! M_k52d -/
namespace Q
open PySem
def callsL (LtK : Nat → LamK) (Z : Nat → List (Str × Addr)) (k s : D) : List D := (List.range 20).map fun i => .ob (.fn i (LtK i) (Z i) true) (capt d_tb (enCS k s) i)
def sp__law_calls (LtK : Nat → LamK) : PSp := fun ds t P => ∃ k s, ds = [k, s] ∧ nopen k = true ∧ nopen s = true ∧ ∀ Z, P (.lst (callsL LtK Z k s)) t
def sp__law_refused_2 (W : Cl) (LtK : Nat → LamK) : PSp := fun ds t P => ∃ n Z l r, ds = [.ob (.fn n (LtK n) Z true) l] ∧ nopens l = true ∧ Rf W n l r ∧ P r t
theorem len__law_calls (LtK : Nat → LamK) (as : List D) (t : Ts) (P : D → Ts → Prop) (h : sp__law_calls LtK as t P) : as.length = 2 := by
  obtain ⟨k, s, rfl, _⟩ := h
  rfl
theorem len__law_refused_2 (W : Cl) (LtK : Nat → LamK) (Xa : Nat → Addr) (as : List D) (t : Ts) (P : D → Ts → Prop) (h : sp__law_refused_2 W LtK as t P) : as.length = 1 := by
  obtain ⟨n, Z, l, r, rfl, _⟩ := h
  rfl
def d__law_calls (LtK : Nat → LamK) (ZtK : Nat → List (Str × Addr)) : DS := (dSeqR (dAsg (dTup (dCons (dC (.str "at most")) (dCons (dC (.int 3)) (dCons (dC (.int 2)) dNil)))) (gName 2)) (dRet (dLst (dCons (dLam 0 (LtK 0) (ZtK 0)) (dCons (dLam 1 (LtK 1) (ZtK 1)) (dCons (dLam 2 (LtK 2) (ZtK 2)) (dCons (dLam 3 (LtK 3) (ZtK 3)) (dCons (dLam 4 (LtK 4) (ZtK 4)) (dCons (dLam 5 (LtK 5) (ZtK 5)) (dCons (dLam 6 (LtK 6) (ZtK 6)) (dCons (dLam 7 (LtK 7) (ZtK 7)) (dCons (dLam 8 (LtK 8) (ZtK 8)) (dCons (dLam 9 (LtK 9) (ZtK 9)) (dCons (dLam 10 (LtK 10) (ZtK 10)) (dCons (dLam 11 (LtK 11) (ZtK 11)) (dCons (dLam 12 (LtK 12) (ZtK 12)) (dCons (dLam 13 (LtK 13) (ZtK 13)) (dCons (dLam 14 (LtK 14) (ZtK 14)) (dCons (dLam 15 (LtK 15) (ZtK 15)) (dCons (dLam 16 (LtK 16) (ZtK 16)) (dCons (dLam 17 (LtK 17) (ZtK 17)) (dCons (dLam 18 (LtK 18) (ZtK 18)) (dCons (dLam 19 (LtK 19) (ZtK 19)) dNil)))))))))))))))))))))))
def d__law_refused_2 (W : Cl) (LtK : Nat → LamK) (Xa : Nat → Addr) : DS := (dSeq (dAsg (dC .non) (gName 1)) (dSeq (dTryE (zApp (d_ap W LtK) 0) kDrop (hKeep 1 2 [(.BadHouse, Xa 0, some "part"), (.BadSaying, Xa 2, some "place")])) (dSeq (dIf (dOr (dB (dOp oIsN (dVar 1) (dC .non))) (dNot (dB (dIsX [(0, Xa 0, true), (2, Xa 2, true)] (dVar 1))))) (dSeq (dRet (dC .non)) dNext) dNext) (dSeq (dIf (dB (dIsX [(0, Xa 0, true), (2, Xa 2, false)] (dVar 1))) (dSeq (dRet (dIfE (dB (dIsX [(0, Xa 0, false), (2, Xa 2, true)] (dVar 1))) (dTup (dCons (dC (.str "odd")) (dCons (dC (.str "")) dNil))) (dTup (dCons (dC (.str "house")) (dCons (dFldX [(0, Xa 0)] "part" (dVar 1)) dNil))))) dNext) dNext) (dSeq (dRet (dTup (dCons (dC (.str "saying")) (dCons (dCB bReprI (dCons (dFldX [(2, Xa 2)] "place" (dVar 1)) dNil)) dNil)))) dNext)))))
theorem d__law_calls_ok (LtK : Nat → LamK) (as : List D) (t : Ts) (Q : D → Ts → Prop) (h : sp__law_calls LtK as t Q) : ∀ Zt, d__law_calls LtK Zt ⟨fun _ _ => False, fun d env t => (okFn [0, 1, 2, 3, 4, 5, 6, 7, 8, 9, 10, 11, 12, 13, 14, 15, 16, 17, 18, 19] LtK Zt d ∧ capOk [0, 1, 2, 3, 4, 5, 6, 7, 8, 9, 10, 11, 12, 13, 14, 15, 16, 17, 18, 19] d_tb env) ∧ Q (closeD (capt d_tb env) d) t, fun _ _ => False, fun _ _ => False⟩ (start0 ["_law_k", "_law_some", "_law_fine"] as) t := by
  obtain ⟨k, s, rfl, hk, hs, h⟩ := h
  intro Zt
  conv => whnf
  refine ⟨⟨?_, ?_⟩, ?_⟩
  · repeat (first | exact trivial | refine ⟨⟨rfl, rfl, rfl⟩, ?_⟩)
  · repeat (first | exact trivial | refine ⟨⟨hs, hk, trivial⟩, ?_⟩ | refine ⟨⟨hs, hk, rfl, trivial⟩, ?_⟩)
  · exact h Zt
theorem d__law_refused_2_ok (W : Cl) (LtK : Nat → LamK) (Xa : Nat → Addr) (as : List D) (t : Ts) (P : D → Ts → Prop) (h : sp__law_refused_2 W LtK as t P) : d__law_refused_2 W LtK Xa (endsOf P) (start0 ["_law_call", "_law_wrong", "e"] as) t := by
  obtain ⟨n, Z, l, r, rfl, hl, hr, h⟩ := h
  conv => whnf
  refine ⟨hl, rfl, ?_⟩
  rcases hr with ⟨rfl, hr⟩ | ⟨m, hm, rfl, hr⟩
  · apply hr
    conv => whnf
    refine ⟨rfl, ?_⟩
    conv => whnf
    refine ⟨rfl, ?_⟩
    conv => whnf
    refine ⟨rfl, ?_⟩
    conv => whnf
    refine ⟨rfl, ?_⟩
    conv => whnf
    exact h
  · apply hr
    conv => whnf
    refine ⟨rfl, ?_⟩
    conv => whnf
    refine ⟨rfl, ?_⟩
    conv => whnf
    refine ⟨rfl, ?_⟩
    conv => whnf
    refine ⟨hm, ?_⟩
    conv => whnf
    exact h
end Q
/-! MTxt -/
namespace Q
open PySem
abbrev tl (x : Str) : List Nat := x.cps.toList
abbrev nt (i : Int) : Str := Str.ofString (toString i)
end Q
/-! M_k52e -/
namespace Q
open PySem
theorem ofS_plain (x : String) : plain (.str (Str.ofString x)) = true := by
  have e := PyProof.Rows.signs_ofString x
  show (Str.ofString x).cps.all (· < 0x110000) = true
  rw [Array.all_eq_true_iff_forall_mem]
  intro c hc
  have : c ∈ (Str.ofString x).cps.toList := by simpa using hc
  rw [e] at this
  obtain ⟨ch, _, rfl⟩ := List.mem_map.mp this
  have := ch.valid
  refine decide_eq_true ?_
  rcases this with h | ⟨_, h⟩
  · exact Nat.lt_trans h (by decide)
  · exact h
theorem plain_two {a b : Str} (h : plain (.str a) = true) (k : plain (.str b) = true) : plain (.tup [.str a, .str b]) = true := by
  show (plain (.str a) && (plain (.str b) && true)) = true
  rw [h, k]
  rfl
theorem houD_plain : plain houD = true := plain_two (ofS_plain _) (ofS_plain _)
theorem houD_deep : deep houD ≤ 60 := by decide
theorem sayI_plain {m : Int} : plain (sayI m) = true := plain_two (ofS_plain _) (ofS_plain _)
theorem sayI_deep {m : Int} : deep (sayI m) ≤ 60 := by
  show deep (.tup [.str "saying", .str (toString m)]) ≤ 60
  simp [deep, deeps]
def isRf (r : D) : Prop := r = houD ∨ ∃ m, r = sayI m
theorem isRf.ne {r : D} (h : isRf r) {P : D → Prop} (k : P (.bl false)) : oNe r r P := by
  have e := deq_refl r (by rcases h with rfl | ⟨m, rfl⟩ <;> first | exact houD_plain | exact sayI_plain)
  have p : (plain r = true ∧ plain r = true ∧ deep r ≤ 60 ∧ deep r ≤ 60) := by
    rcases h with rfl | ⟨m, rfl⟩
    · exact ⟨houD_plain, houD_plain, houD_deep, houD_deep⟩
    · exact ⟨sayI_plain, sayI_plain, sayI_deep, sayI_deep⟩
  rcases h with rfl | ⟨m, rfl⟩
  · exact ⟨p, by rw [e]; exact k⟩
  · exact ⟨p, by rw [e]; exact k⟩
theorem opNe_rf {r : D} (h : isRf r) {A : DE} {env : En} {t : Ts} {P : D → Ts → Prop} (hA : ∀ Q : D → Ts → Prop, Q r t → A env t Q) (k : P (.bl false) t) : A env t (fun y t2 => oNe r y fun z => P z t2) := hA _ (h.ne k)
theorem callsL_at {LtK : Nat → LamK} {Z : Nat → List (Str × Addr)} {k s x : D} {i : Nat} (h : (callsL LtK Z k s)[i]? = some x) : i < 20 ∧ x = .ob (.fn i (LtK i) (Z i) true) (capt d_tb (enCS k s) i) := by
  unfold callsL at h
  rw [List.getElem?_map] at h
  cases q : (List.range 20)[i]? with
  | none => rw [q] at h; cases h
  | some j =>
    rw [q] at h
    obtain ⟨hj, e⟩ := List.getElem?_eq_some_iff.mp q
    have hi : i < 20 := by simpa using hj
    have : i = j := by simpa using e
    subst this
    cases h
    exact ⟨hi, rfl⟩
structure Good (x : D) : Prop where
  n : tnOk x
  i : itemsOk x
  p : nopen x = true
theorem good_sy (s : Sy) : Good (syD s) := by
  obtain ⟨w, p, n⟩ := s
  cases w <;> exact ⟨⟨_, rfl⟩, items_by rfl, rfl⟩
theorem nopens_all : ∀ {l : List D}, (∀ x ∈ l, nopen x = true) → nopens l = true
  | [], _ => rfl
  | x :: l, h => by
    show (nopen x && nopens l) = true
    rw [h x (by simp), nopens_all fun y hy => h y (by simp [hy])]
    rfl
theorem nop1 {a : D} (h : nopen a = true) : nopens [a] = true := nopens_all fun x hx => by rw [List.mem_singleton.mp hx]; exact h
theorem nop2 {a b : D} (h : nopen a = true) (k : nopen b = true) : nopens [a, b] = true := by
  show (nopen a && nopens [b]) = true
  rw [h, nop1 k]
  rfl
theorem nop3 {a b c : D} (h : nopen a = true) (k : nopen b = true) (j : nopen c = true) : nopens [a, b, c] = true := by
  show (nopen a && nopens [b, c]) = true
  rw [h, nop2 k j]
  rfl
structure LisOk (l : List D) : Prop where
  len : l.length ≤ 1000
  good : ∀ x ∈ l, Good x
theorem LisOk.arg {l : List D} (h : LisOk l) {d : D} (hd : Lis d l) : ArgOk d := by
  rcases hd with rfl | rfl
  · exact ⟨⟨_, rfl⟩, h.len, fun x hx => ⟨(h.good x hx).n, (h.good x hx).i⟩⟩
  · exact ⟨⟨_, rfl⟩, h.len, fun x hx => ⟨(h.good x hx).n, (h.good x hx).i⟩⟩
theorem LisOk.nop {l : List D} (h : LisOk l) {d : D} (hd : Lis d l) : nopen d = true := by
  have := nopens_all fun x hx => (h.good x hx).p
  rcases hd with rfl | rfl <;> simp only [nopen] <;> exact this
theorem lis_bad {l : List D} {d : D} (hd : Lis d l) : badOf d = fstBad l := by rcases hd with rfl | rfl <;> rfl
theorem sys_ok {ss : List Sy} (h : ss.length ≤ 6) : LisOk (ss.map syD) := ⟨by rw [List.length_map]; omega, fun x hx => by
  obtain ⟨s, _, rfl⟩ := List.mem_map.mp hx
  exact good_sy s⟩
theorem sys_bad {ss : List Sy} (h : ∀ s ∈ ss, s.Ok) : fstBad (ss.map syD) = none := fstBad_all fun y hy => by
  obtain ⟨s, hs, rfl⟩ := List.mem_map.mp hy
  exact sayB_sy (h s hs)
def bentL (ss : List Sy) (a : Nat) (od : D) (E : List D) : List D := (ss.take a).map syD ++ [od] ++ (ss.drop (a + 1)).map syD ++ E
theorem bent_ok {ss : List Sy} (h : ss.length ≤ 6) {a : Nat} {od : D} {E : List D} (ho : OddD od) (hE : E.length ≤ 1) (hg : ∀ x ∈ E, Good x) : LisOk (bentL ss a od E) := by
  refine ⟨?_, fun x hx => ?_⟩
  · unfold bentL
    simp only [List.length_append, List.length_map, List.length_take, List.length_drop, List.length_cons, List.length_nil]
    omega
  · unfold bentL at hx
    rcases List.mem_append.mp hx with hx | hx
    · rcases List.mem_append.mp hx with hx | hx
      · rcases List.mem_append.mp hx with hx | hx
        · obtain ⟨s, _, rfl⟩ := List.mem_map.mp hx
          exact good_sy s
        · rw [List.mem_singleton.mp hx]
          exact ⟨ho.n, ho.i, ho.p⟩
      · obtain ⟨s, _, rfl⟩ := List.mem_map.mp hx
        exact good_sy s
    · exact hg x hx
theorem bent_bad {ss : List Sy} (hok : ∀ s ∈ ss, s.Ok) {a : Nat} (ha : a < ss.length) {od : D} {E : List D} (ho : OddD od) : fstBad (bentL ss a od E) = some a := by
  have hl : ((ss.take a).map syD).length = a := by rw [List.length_map, List.length_take]; omega
  refine fstBad_at (x := od) ?_ ho.b fun j hj y hy => ?_
  · unfold bentL
    rw [List.append_assoc, List.append_assoc, List.getElem?_append_right (by omega), hl]
    simp
  · unfold bentL at hy
    rw [List.append_assoc, List.append_assoc, List.getElem?_append_left (by omega), List.getElem?_map] at hy
    cases q : (ss.take a)[j]? with
    | none => rw [q] at hy; cases hy
    | some s =>
      rw [q] at hy
      cases hy
      exact sayB_sy (hok s (List.mem_of_mem_take (List.mem_of_getElem? q)))
theorem capt_nop {k s : D} (hk : nopen k = true) (hs : nopen s = true) : ∀ i, i < 20 → nopens (capt d_tb (enCS k s) i) = true
  | 0, _ => by show nopens [s, k] = true; simp [nopens, hk, hs]
  | 1, _ => by show nopens [s, k] = true; simp [nopens, hk, hs]
  | 2, _ => by show nopens [s, k] = true; simp [nopens, hk, hs]
  | 3, _ => by show nopens [s, k] = true; simp [nopens, hk, hs]
  | 4, _ => by show nopens [s, k] = true; simp [nopens, hk, hs]
  | 5, _ => by show nopens [s, k] = true; simp [nopens, hk, hs]
  | 6, _ => by show nopens [s, k] = true; simp [nopens, hk, hs]
  | 7, _ => by show nopens [s, k] = true; simp [nopens, hk, hs]
  | 8, _ => by show nopens [s, k] = true; simp [nopens, hk, hs]
  | 9, _ => by show nopens [s, k, fineD] = true; simp [nopens, hk, hs]; rfl
  | 10, _ => by show nopens [s, k, fineD] = true; simp [nopens, hk, hs]; rfl
  | 11, _ => by show nopens [s, k] = true; simp [nopens, hk, hs]
  | 12, _ => by show nopens [s, k] = true; simp [nopens, hk, hs]
  | 13, _ => by show nopens [s, k] = true; simp [nopens, hk, hs]
  | 14, _ => by show nopens [s, k] = true; simp [nopens, hk, hs]
  | 15, _ => by show nopens [s, k] = true; simp [nopens, hk, hs]
  | 16, _ => by show nopens [s, k] = true; simp [nopens, hk, hs]
  | 17, _ => by show nopens [s, k] = true; simp [nopens, hk, hs]
  | 18, _ => by show nopens [s, k] = true; simp [nopens, hk, hs]
  | 19, _ => by show nopens [s, k] = true; simp [nopens, hk, hs]
  | _ + 20, h => by omega
theorem calls_loop {W : Cl} {LtK : Nat → LamK} {Z : Nat → List (Str × Addr)} {k s r : D} (h : AskE k s r) (hk : nopen k = true) (hs : nopen s = true) (hr : isRf r) {A : DE} {DD : DEnds} {t : Ts} {a0 a1 a2 a3 a4 a5 a6 a7 a8 a9 a10 a11 a12 a13 : Sl}
    (hA : ∀ x (P : D → Ts → Prop), P r t → A [a0, a1, a2, a3, a4, a5, a6, x, a8, a9, a10, a11, a12, a13] t P) (hn : ∀ x, DD.nx [a0, a1, a2, a3, a4, a5, a6, x, a8, a9, a10, a11, a12, a13] t) :
    ∃ Inv : Nat → En → Ts → Prop, Inv 0 [a0, a1, a2, a3, a4, a5, a6, a7, a8, a9, a10, a11, a12, a13] t ∧
      (∀ i x e m, (callsL LtK Z k s)[i]? = some x → Inv i e m → gName 7 x e m fun e' m' => (dSeq (dIf (dB (dOp oNe (dCall (sp__law_refused_2 W LtK) [] (dCons (dVar 7) dNil)) A)) (dSeq (dRet (dC (.bl false))) dNext) dNext) dNext) ⟨Inv (i + 1), DD.rt, DD.nx, Inv (i + 1)⟩ e' m') ∧ ∀ e m, Inv (callsL LtK Z k s).length e m → DD.nx e m := by
  refine ⟨fun i e m => m = t ∧ ∃ x, e = [a0, a1, a2, a3, a4, a5, a6, x, a8, a9, a10, a11, a12, a13], ⟨rfl, _, rfl⟩, fun i x e m hx hI => ?_, fun e m hI => ?_⟩
  · obtain ⟨rfl, y, rfl⟩ := hI
    obtain ⟨hi, rfl⟩ := callsL_at hx
    conv => whnf
    refine ⟨i, Z i, _, r, rfl, capt_nop hk hs i hi, rf_all h i hi, ?_⟩
    apply hA
    apply hr.ne
    conv => whnf
    exact ⟨rfl, _, rfl⟩
  · obtain ⟨rfl, y, rfl⟩ := hI
    exact hn y
end Q
/-! M_k52 -/
namespace Q
open PySem
def d_law (W : Cl) (LtK : Nat → LamK) (ZtK : Nat → List (Str × Addr)) : DS := (dSeq (dFor (iRng1 (dOp oAdd (dC (.int 2)) (dCB bMin (dCons (dC (.int 6)) (dCons (dCB bLen (dCons (dVar 0) dNil)) dNil))))) (gName 2) (dSeq (dParM [(8, false), (9, true)] (dCons (dOp oAdd (dC (.int 2)) (dCall sp__law_draw [] (dCons (dVar 1) (dCons (dC (.int 29)) dNil)))) (dCons (dLst dNil) dNil))) (dSeq (dFor (iRng1 (dOp oAdd (dC (.int 1)) (dCall sp__law_draw [] (dCons (dVar 1) (dCons (dC (.int 6)) dNil))))) (gName 3) (dSeq (dPar 12 13 (dCons (dCall sp__law_pick [] (dCons (dVar 1) (dCons (dLst (dCons (dC (.str "at most")) (dCons (dC (.str "at least")) dNil))) dNil))) (dCons (dOp oAdd (dC (.int 1)) (dCall sp__law_draw [] (dCons (dVar 1) (dCons (dC (.int 60)) dNil)))) dNil))) (dSeq (dApp 9 (dTup (dCons (dVar 12) (dCons (dVar 13) (dCons (dOp oAdd (dC (.int 1)) (dCall sp__law_draw [] (dCons (dVar 1) (dCons (dC (.int 40)) dNil)))) dNil))))) dNext))) (dSeq (dFrz 9) (dSeq (dAsg (dTup (dCons (dCall sp__law_draw [] (dCons (dVar 1) (dCons (dCB bLen (dCons (dView 9) dNil)) dNil))) (dCons (dCall sp__law_odd_6 [] (dCons (dVar 1) dNil)) dNil))) (gTup 2 (gCons (gName 10) (gCons (gName 11) gNil)))) (dSeq (dAsg (dOp oAdd (dOp oAdd (dSlice (dView 9) dNoPart (dPart (dVar 10))) (dLst (dCons (dVar 11) dNil))) (dSlice (dView 9) (dPart (dOp oAdd (dVar 10) (dC (.int 1)))) dNoPart)) (gName 4)) (dSeq (dAsg (dOp oAdd (dVar 4) (dSlice (dLst (dCons (dCall sp__law_odd_6 [] (dCons (dVar 1) dNil)) dNil)) dNoPart (dPart (dCall sp__law_draw [] (dCons (dVar 1) (dCons (dC (.int 2)) dNil)))))) (gName 4)) (dSeq (dAsg (dCall sp__law_pick [] (dCons (dVar 1) (dCons (dLst (dCons (dC (.int 1)) (dCons (dC (.int 0)) (dCons (dC (.int 31)) (dCons (dC (.bl true)) (dCons (dC .non) (dCons (dC (.str "3")) (dCons (dTup (dCons (dC (.int 3)) dNil)) (dCons (dUn oNeg (dC (.int 2))) (dCons (dLst dNil) (dCons (dOp oPow (dC (.int 10)) (dC (.int 9))) dNil))))))))))) dNil))) (gName 5)) (dSeq (dAsg (dCall sp__law_pick [] (dCons (dVar 1) (dCons (dLst (dCons (dC .non) (dCons (dC (.int 7)) (dCons (dC (.bl true)) (dCons (dC (.str "")) (dCons (dC (.str "at most")) (dCons (dC (.dic [] [])) (dCons (dDicE (dC (.int 0)) (dTup (dCons (dC (.str "at most")) (dCons (dC (.int 1)) (dCons (dC (.int 1)) dNil))))) dNil)))))))) dNil))) (gName 6)) (dSeq (dFor (iSeq (dCall (sp__law_calls LtK) [] (dCons (dVar 8) (dCons (dVar 6) dNil)))) (gName 7) (dSeq (dIf (dB (dOp oNe (dCall (sp__law_refused_2 W LtK) [] (dCons (dVar 7) dNil)) (dTup (dCons (dC (.str "saying")) (dCons (dC (.str "0")) dNil))))) (dSeq (dRet (dC (.bl false))) dNext) dNext) dNext)) (dSeq (dIf (dB (dOp oNe (dCallC (sp__law_refused_2 W LtK) [20] d_tb LtK ZtK (dCons (dLam 20 (LtK 20) (ZtK 20)) dNil)) (dTup (dCons (dC (.str "saying")) (dCons (dC (.str "0")) dNil))))) (dSeq (dRet (dC (.bl false))) dNext) dNext) (dSeq (dIf (dB (dOp oNe (dCallC (sp__law_refused_2 W LtK) [21] d_tb LtK ZtK (dCons (dLam 21 (LtK 21) (ZtK 21)) dNil)) (dTup (dCons (dC (.str "saying")) (dCons (dC (.str "0")) dNil))))) (dSeq (dRet (dC (.bl false))) dNext) dNext) (dSeq (dFor (iSeq (dCall (sp__law_calls LtK) [] (dCons (dVar 8) (dCons (dCall sp__law_handed [] (dCons (dVar 1) (dCons (dVar 4) dNil))) dNil)))) (gName 7) (dSeq (dIf (dB (dOp oNe (dCall (sp__law_refused_2 W LtK) [] (dCons (dVar 7) dNil)) (dTup (dCons (dC (.str "saying")) (dCons (dCB bReprI (dCons (dVar 10) dNil)) dNil))))) (dSeq (dRet (dC (.bl false))) dNext) dNext) dNext)) (dSeq (dFor (iSeq (dCall (sp__law_calls LtK) [] (dCons (dVar 5) (dCons (dCall sp__law_handed [] (dCons (dVar 1) (dCons (dOp oIx (dLst (dCons (dVar 4) (dCons (dVar 9) dNil))) (dCall sp__law_draw [] (dCons (dVar 1) (dCons (dC (.int 2)) dNil)))) dNil))) dNil)))) (gName 7) (dSeq (dIf (dB (dOp oNe (dCall (sp__law_refused_2 W LtK) [] (dCons (dVar 7) dNil)) (dTup (dCons (dC (.str "house")) (dCons (dC (.str "k")) dNil))))) (dSeq (dRet (dC (.bl false))) dNext) dNext) dNext)) (dSeq (dIf (dB (dOp oNe (dCallC (sp__law_refused_2 W LtK) [22] d_tb LtK ZtK (dCons (dLam 22 (LtK 22) (ZtK 22)) dNil)) (dTup (dCons (dC (.str "saying")) (dCons (dCB bReprI (dCons (dVar 10) dNil)) dNil))))) (dSeq (dRet (dC (.bl false))) dNext) dNext) (dSeq (dIf (dB (dOp oNe (dCallC (sp__law_refused_2 W LtK) [23] d_tb LtK ZtK (dCons (dLam 23 (LtK 23) (ZtK 23)) dNil)) (dTup (dCons (dC (.str "saying")) (dCons (dC (.str "0")) dNil))))) (dSeq (dRet (dC (.bl false))) dNext) dNext) (dSeq (dIf (dB (dOp oNe (dCallC (sp__law_refused_2 W LtK) [24] d_tb LtK ZtK (dCons (dLam 24 (LtK 24) (ZtK 24)) dNil)) (dTup (dCons (dC (.str "saying")) (dCons (dCB bReprI (dCons (dCB bLen (dCons (dView 9) dNil)) dNil)) dNil))))) (dSeq (dRet (dC (.bl false))) dNext) dNext) (dSeq (dIf (dB (dOp oNe (dCallC (sp__law_refused_2 W LtK) [25] d_tb LtK ZtK (dCons (dLam 25 (LtK 25) (ZtK 25)) dNil)) (dTup (dCons (dC (.str "saying")) (dCons (dCB bReprI (dCons (dVar 10) dNil)) dNil))))) (dSeq (dRet (dC (.bl false))) dNext) dNext) (dSeq (dIf (dB (dOp oNe (dCallC (sp__law_refused_2 W LtK) [26] d_tb LtK ZtK (dCons (dLam 26 (LtK 26) (ZtK 26)) dNil)) (dTup (dCons (dC (.str "saying")) (dCons (dCB bReprI (dCons (dCB bLen (dCons (dView 9) dNil)) dNil)) dNil))))) (dSeq (dRet (dC (.bl false))) dNext) dNext) (dSeq (dIf (dB (dOp oNe (dCallC (sp__law_refused_2 W LtK) [27] d_tb LtK ZtK (dCons (dLam 27 (LtK 27) (ZtK 27)) dNil)) (dTup (dCons (dC (.str "house")) (dCons (dC (.str "k")) dNil))))) (dSeq (dRet (dC (.bl false))) dNext) dNext) dNext)))))))))))))))))))) (dSeq (dRet (dC (.bl true))) dNext))
abbrev Nlaw : List Str := ["_law_script", "_law_pen_here", "_law_turn", "_law_k", "_law_bent", "_law_other", "_law_none", "_law_call", "_law_base", "_law_some", "_law_at", "_law_odd_here", "_law_word", "_law_spot"]
theorem law_run (W : Cl) (LtK : Nat → LamK) (Z : Nat → List (Str × Addr)) (ns : List Int) (t : Ts) (hp : Pk 0 t) : d_law W LtK Z (endsOf fun d _ => d = .bl true) ((start0 Nlaw [.scr ns]).set 1 (.val .pen)) t := by
  conv => whnf
  repeat (refine And.intro (by first | omega | rfl | exact MulOk.r (by decide) (by decide) | exact MulOk.l (by omega) (by omega) | exact MulOk.r (by omega) (by omega) | exact DivOk.s (by omega) (by omega) | exact PowOk.s (by decide) (by decide) (by decide) (by decide) | (unfold zLen; omega) | (simp only [List.length_append, List.length_map, List.length_cons, List.length_nil]; unfold zLen; omega)) ?_; conv => whnf)
  refine ⟨fun i e m => Pk (1000 * i) m ∧ ∃ s2 s3 s4 s5 s6 s7 s8 s9 s10 s11 s12 s13, e = [.val (.scr ns), .val .pen, s2, s3, s4, s5, s6, s7, s8, s9, s10, s11, s12, s13], ⟨by simpa using hp, _, _, _, _, _, _, _, _, _, _, _, _, rfl⟩, fun i x e m hx hI => ?_, fun e m hI => ?_⟩
  · obtain ⟨pm, s2, s3, s4, s5, s6, s7, s8, s9, s10, s11, s12, s13, rfl⟩ := hI
    obtain ⟨hi, rfl⟩ := rng_get hx
    have hi : i < 8 := by omega
    clear hx
    conv => whnf
    refine ⟨_, _, rfl, by first | omega | decide, (sm64 (by first | omega | decide) (by first | omega | decide)).mono (by decide), pm, by omega, fun bk t1 bk0 bk1 pt1 => ?_⟩
    conv => whnf
    conv => whnf
    repeat (refine And.intro (by first | omega | rfl | exact MulOk.r (by decide) (by decide) | exact MulOk.l (by omega) (by omega) | exact MulOk.r (by omega) (by omega) | exact DivOk.s (by omega) (by omega) | exact PowOk.s (by decide) (by decide) (by decide) (by decide) | (unfold zLen; omega) | (simp only [List.length_append, List.length_map, List.length_cons, List.length_nil]; unfold zLen; omega)) ?_; conv => whnf)
    refine ⟨_, _, rfl, by first | omega | decide, (sm64 (by first | omega | decide) (by first | omega | decide)).mono (by decide), pt1, by omega, fun ln t2 ln0 ln1 pt2 => ?_⟩
    conv => whnf
    conv => whnf
    repeat (refine And.intro (by first | omega | rfl | exact MulOk.r (by decide) (by decide) | exact MulOk.l (by omega) (by omega) | exact MulOk.r (by omega) (by omega) | exact DivOk.s (by omega) (by omega) | exact PowOk.s (by decide) (by decide) (by decide) (by decide) | (unfold zLen; omega) | (simp only [List.length_append, List.length_map, List.length_cons, List.length_nil]; unfold zLen; omega)) ?_; conv => whnf)
    refine ⟨fun j e m => Pk (1000 * i + 10 + 5 * j) m ∧ ∃ (ss : List Sy) (s3 s12 s13 : Sl), ss.length = j ∧ (∀ s ∈ ss, s.Ok) ∧ e = [.val (.scr ns), .val .pen, .val (.int (0 + (i : Int))), s3, s4, s5, s6, s7, .val (.int (2 + bk)), .own (.lst (ss.map syD)), s10, s11, s12, s13], ⟨pt2.mono (by omega), [], _, _, _, rfl, by simp, rfl⟩, fun j x e m hx hI => ?_, fun e m hI => ?_⟩
    · obtain ⟨pm, ss, s3, s12, s13, hl, hok, rfl⟩ := hI
      obtain ⟨hj, rfl⟩ := rng_get hx
      have hj : j < 6 := by omega
      clear hx
      conv => whnf
      refine ⟨_, _, rfl, by simp, by simp, pm, by omega, fun i0 d0 t3 hi0 p3 => ?_⟩
      obtain ⟨w, rfl⟩ : ∃ w : Bool, d0 = .str (if w = true then sAm else sAl) := by
        have := List.mem_of_getElem? hi0
        simp only [List.mem_cons, List.not_mem_nil, or_false] at this
        rcases this with rfl | rfl
        · exact ⟨true, rfl⟩
        · exact ⟨false, rfl⟩
      clear hi0
      conv => whnf
      refine ⟨_, _, rfl, by first | omega | decide, (sm64 (by first | omega | decide) (by first | omega | decide)).mono (by decide), p3, by omega, fun sp t4 sp0 sp1 pt4 => ?_⟩
      conv => whnf
      conv => whnf
      repeat (refine And.intro (by first | omega | rfl | exact MulOk.r (by decide) (by decide) | exact MulOk.l (by omega) (by omega) | exact MulOk.r (by omega) (by omega) | exact DivOk.s (by omega) (by omega) | exact PowOk.s (by decide) (by decide) (by decide) (by decide) | (unfold zLen; omega) | (simp only [List.length_append, List.length_map, List.length_cons, List.length_nil]; unfold zLen; omega)) ?_; conv => whnf)
      refine ⟨_, _, rfl, by first | omega | decide, (sm64 (by first | omega | decide) (by first | omega | decide)).mono (by decide), pt4, by omega, fun nu t5 nu0 nu1 pt5 => ?_⟩
      conv => whnf
      conv => whnf
      repeat (refine And.intro (by first | omega | rfl | exact MulOk.r (by decide) (by decide) | exact MulOk.l (by omega) (by omega) | exact MulOk.r (by omega) (by omega) | exact DivOk.s (by omega) (by omega) | exact PowOk.s (by decide) (by decide) (by decide) (by decide) | (unfold zLen; omega) | (simp only [List.length_append, List.length_map, List.length_cons, List.length_nil]; unfold zLen; omega)) ?_; conv => whnf)
      have es : List.map syD (ss ++ [⟨w, 1 + sp, 1 + nu⟩]) = List.map syD ss ++ [D.tup [.str (if w = true then sAm else sAl), .int (1 + sp), .int (1 + nu)]] := by
        rw [List.map_append]
        cases w <;> rfl
      refine ⟨pt5.mono (by omega), ss ++ [⟨w, 1 + sp, 1 + nu⟩], .val (.int (0 + (j : Int))), .val (.str (if w = true then sAm else sAl)), .val (.int (1 + sp)), by simp [hl], fun s hs => ?_, ?_⟩
      · rcases List.mem_append.mp hs with h | h
        · exact hok s h
        · rw [List.mem_singleton.mp h]
          exact ⟨by show 1 ≤ 1 + sp; omega, by show 1 ≤ 1 + nu; omega⟩
      · rw [es]
        rfl
    · obtain ⟨pm, ss, s3, s12, s13, hl, hok, rfl⟩ := hI
      rw [rng_len] at pm hl
      have hl6 : ss.length ≤ 6 := by omega
      have hl1 : 1 ≤ ss.length := by omega
      conv => whnf
      rw [List.length_map]
      refine ⟨_, _, rfl, by first | omega | decide, (sm64 (by first | omega | decide) (by first | omega | decide)).mono (by decide), pm, by omega, fun z t3 z0 z1 pt3 => ?_⟩
      conv => whnf
      obtain ⟨a, rfl⟩ : ∃ a : Nat, z = a := ⟨z.toNat, by omega⟩
      refine ⟨_, rfl, pt3, by omega, fun od t4 ho p4 => ?_⟩
      conv => whnf
      refine ⟨rfl, ?_⟩
      conv => whnf
      conv => whnf
      repeat (refine And.intro (by first | omega | rfl | exact MulOk.r (by decide) (by decide) | exact MulOk.l (by omega) (by omega) | exact MulOk.r (by omega) (by omega) | exact DivOk.s (by omega) (by omega) | exact PowOk.s (by decide) (by decide) (by decide) (by decide) | (unfold zLen; omega) | (simp only [List.length_append, List.length_map, List.length_cons, List.length_nil]; unfold zLen; omega)) ?_; conv => whnf)
      have ha : a < ss.length := by omega
      rw [cutG_to (by omega : a ≤ ss.length)]
      refine ⟨(by simp only [List.length_map, List.length_take, List.length_cons, List.length_nil]; unfold zLen; omega), ?_⟩
      conv => whnf
      conv => whnf
      repeat (refine And.intro (by first | omega | rfl | exact MulOk.r (by decide) (by decide) | exact MulOk.l (by omega) (by omega) | exact MulOk.r (by omega) (by omega) | exact DivOk.s (by omega) (by omega) | exact PowOk.s (by decide) (by decide) (by decide) (by decide) | (unfold zLen; omega) | (simp only [List.length_append, List.length_map, List.length_cons, List.length_nil]; unfold zLen; omega)) ?_; conv => whnf)
      rw [show ((a : Int) + 1) = ((a + 1 : Nat) : Int) from rfl, cutG_fr (by omega : a + 1 ≤ ss.length)]
      refine ⟨(by simp only [List.length_map, List.length_take, List.length_drop, List.length_append, List.length_cons, List.length_nil]; unfold zLen; omega), ?_⟩
      conv => whnf
      refine ⟨_, rfl, p4, by omega, fun od2 t5 ho2 p5 => ?_⟩
      conv => whnf
      refine ⟨_, _, rfl, by first | omega | decide, (sm64 (by first | omega | decide) (by first | omega | decide)).mono (by decide), p5, by omega, fun v t6 v0 v1 pt6 => ?_⟩
      conv => whnf
      have hE : ∃ E : List D, cutD [od2] none (some v) = E ∧ E.length ≤ 1 ∧ ∀ x ∈ E, Good x := by
        rcases (by omega : v = 0 ∨ v = 1) with rfl | rfl
        · exact ⟨[], rfl, by simp, by simp⟩
        · exact ⟨[od2], rfl, by simp, fun x hx => by rw [List.mem_singleton.mp hx]; exact ⟨ho2.n, ho2.i, ho2.p⟩⟩
      obtain ⟨E, eE, hE1, hE2⟩ := hE
      rw [eE]
      refine ⟨(by simp only [List.length_map, List.length_take, List.length_drop, List.length_append, List.length_cons, List.length_nil]; unfold zLen; omega), ?_⟩
      conv => whnf
      have LB := bent_ok hl6 (a := a) ho hE1 hE2
      have eBB := bent_bad hok ha (E := E) ho
      have LS := sys_ok hl6
      have eSS := sys_bad hok
      change LisOk (List.map syD (List.take a ss) ++ [od] ++ List.map syD (List.drop (a + 1) ss) ++ E) at LB
      change fstBad (List.map syD (List.take a ss) ++ [od] ++ List.map syD (List.drop (a + 1) ss) ++ E) = some a at eBB
      generalize List.map syD (List.take a ss) ++ [od] ++ List.map syD (List.drop (a + 1) ss) ++ E = B at LB eBB ⊢
      have lSS : (ss.map syD).length = ss.length := List.length_map ..
      generalize eS : ss.map syD = S at LS eSS lSS ⊢
      refine ⟨PowOk.s (by decide) (by decide) (by decide) (by decide), ?_⟩
      conv => whnf
      conv => whnf
      repeat (refine And.intro (by first | omega | rfl | exact MulOk.r (by decide) (by decide) | exact MulOk.l (by omega) (by omega) | exact MulOk.r (by omega) (by omega) | exact DivOk.s (by omega) (by omega) | exact PowOk.s (by decide) (by decide) (by decide) (by decide) | (unfold zLen; omega) | (simp only [List.length_append, List.length_map, List.length_cons, List.length_nil]; unfold zLen; omega)) ?_; conv => whnf)
      refine ⟨_, _, rfl, by simp, by simp, pt6, by omega, fun i0 ot t7 hi0 p7 => ?_⟩
      obtain ⟨ko, kt, kn⟩ : isBase ot = false ∧ tnOk ot ∧ nopen ot = true := by
        have := List.mem_of_getElem? hi0
        simp only [List.mem_cons, List.not_mem_nil, or_false] at this
        rcases this with rfl | rfl | rfl | rfl | rfl | rfl | rfl | rfl | rfl | rfl
        all_goals first
          | exact ⟨rfl, ⟨_, rfl⟩, rfl⟩
          | exact ⟨by decide, ⟨_, rfl⟩, rfl⟩
      clear hi0
      conv => whnf
      repeat (refine And.intro (by first | omega | rfl | exact MulOk.r (by decide) (by decide) | exact MulOk.l (by omega) (by omega) | exact MulOk.r (by omega) (by omega) | exact DivOk.s (by omega) (by omega) | exact PowOk.s (by decide) (by decide) (by decide) (by decide) | (unfold zLen; omega) | (simp only [List.length_append, List.length_map, List.length_cons, List.length_nil]; unfold zLen; omega)) ?_; conv => whnf)
      refine ⟨_, _, rfl, by simp, by simp, p7, by omega, fun i0 no t8 hi0 p8 => ?_⟩
      obtain ⟨n1, n2, n3, n4⟩ : badOf no = some 0 ∧ tnOk no ∧ itsOk no ∧ nopen no = true := by
        have := List.mem_of_getElem? hi0
        simp only [List.mem_cons, List.not_mem_nil, or_false] at this
        rcases this with rfl | rfl | rfl | rfl | rfl | rfl | rfl
        all_goals exact ⟨rfl, ⟨_, rfl⟩, trivial, rfl⟩
      clear hi0
      have kb : isBase (.int (2 + bk)) = true := decide_eq_true ⟨by omega, by omega⟩
      have bn : nopen (.int (2 + bk)) = true := rfl
      have sz : Sm 1900 (0 : Int) := Sm.lit (by decide)
      have sa : Sm 1900 (a : Int) := (sm64 (by omega) (by omega)).mono (by decide)
      have sl : Sm 1900 (ss.length : Int) := (sm64 (by omega) (by omega)).mono (by decide)
      conv => whnf
      repeat (refine And.intro (by first | omega | rfl | exact MulOk.r (by decide) (by decide) | exact MulOk.l (by omega) (by omega) | exact MulOk.r (by omega) (by omega) | exact DivOk.s (by omega) (by omega) | exact PowOk.s (by decide) (by decide) (by decide) (by decide) | (unfold zLen; omega) | (simp only [List.length_append, List.length_map, List.length_cons, List.length_nil]; unfold zLen; omega)) ?_; conv => whnf)
      refine ⟨_, _, rfl, bn, n4, fun Z1 => ?_⟩
      conv => whnf
      have neB : isBase (.int (2 + bk)) = false → False := fun e => by rw [kb] at e; cases e
      have neO : isBase ot = true → False := fun e => by rw [ko] at e; cases e
      have F20 : AskF (.int (2 + bk)) no od (sayI 0) := ⟨⟨_, rfl⟩, ⟨n2, n3⟩, ho.n, ho.i, fun e => (neB e).elim, fun _ => ⟨0, by unfold badOne; rw [n1], sz, rfl⟩⟩
      have AB : ArgOk (.lst B) := LB.arg (.inl rfl)
      have AS : ArgOk (.lst S) := LS.arg (.inl rfl)
      have nB : nopen (.lst B) = true := LB.nop (.inl rfl)
      have nS : nopen (.lst S) = true := LS.nop (.inl rfl)
      have slS : Sm 1900 (S.length : Int) := by rw [lSS]; exact sl
      have F24 : AskF (.int (2 + bk)) (.lst S) od (sayI S.length) := ⟨⟨_, rfl⟩, AS, ho.n, ho.i, fun e => (neB e).elim, fun _ => ⟨S.length, by
        have e : badOf (.lst S) = none := eSS
        unfold badOne
        rw [e, ho.b]
        rfl, slS, rfl⟩⟩
      have F25 : AskF (.int (2 + bk)) (.lst B) od (sayI a) := ⟨⟨_, rfl⟩, AB, ho.n, ho.i, fun e => (neB e).elim, fun _ => ⟨a, by
        have e : badOf (.lst B) = some a := eBB
        unfold badOne
        rw [e], sa, rfl⟩⟩
      have F27 : AskF ot (.lst B) od houD := ⟨kt, AB, ho.n, ho.i, fun _ => rfl, fun e => (neO e).elim⟩
      refine calls_loop (W := W) (r := sayI 0) ⟨⟨_, rfl⟩, ⟨n2, n3⟩, fun e => (neB e).elim, fun _ => ⟨0, n1, sz, rfl⟩⟩ bn n4 (.inr ⟨0, rfl⟩) (fun x P q => q) (fun x => ?_)
      conv => whnf
      refine ⟨⟨⟨⟨rfl, rfl, rfl⟩, trivial⟩, ⟨⟨ho.p, n4, bn, trivial⟩, trivial⟩⟩, 20, Z 20, _, _, rfl, nop3 ho.p n4 bn, rf_20 F20, ⟨rfl, ?_⟩⟩
      refine opNe_rf (.inr ⟨0, rfl⟩) (fun Q q => q) ?_
      conv => whnf
      refine ⟨⟨⟨⟨rfl, rfl, rfl⟩, trivial⟩, ⟨⟨n4, bn, trivial⟩, trivial⟩⟩, 21, Z 21, _, _, rfl, nop2 n4 bn, rf_w (.inl rfl) ⟨n2, n3⟩ n1 sz, ⟨rfl, ?_⟩⟩
      refine opNe_rf (.inr ⟨0, rfl⟩) (fun Q q => q) ?_
      conv => whnf
      refine ⟨B, _, rfl, p8, by omega, fun d t9 hd p9 => ?_⟩
      conv => whnf
      refine ⟨_, _, rfl, bn, LB.nop hd, fun Z2 => ?_⟩
      conv => whnf
      refine calls_loop (W := W) (r := sayI a) ⟨⟨_, rfl⟩, LB.arg hd, fun e => (neB e).elim, fun _ => ⟨a, by rw [lis_bad hd, eBB], sa, rfl⟩⟩ bn (LB.nop hd) (.inr ⟨a, rfl⟩) (fun x P q => ?_) (fun x => ?_)
      · conv => whnf
        exact ⟨sa, q⟩
      conv => whnf
      refine ⟨_, _, rfl, by first | omega | decide, (sm64 (by first | omega | decide) (by first | omega | decide)).mono (by decide), p9, by omega, fun v2 tA v20 v21 ptA => ?_⟩
      conv => whnf
      obtain ⟨L, eL, LL⟩ : ∃ L, atI [D.lst B, D.lst S] v2 = some (.lst L) ∧ LisOk L := by
        rcases (by omega : v2 = 0 ∨ v2 = 1) with rfl | rfl
        · exact ⟨B, rfl, LB⟩
        · exact ⟨S, rfl, LS⟩
      refine ⟨_, eL, ?_⟩
      conv => whnf
      refine ⟨L, _, rfl, ptA, by omega, fun d2 tB hd2 pB => ?_⟩
      conv => whnf
      refine ⟨_, _, rfl, kn, LL.nop hd2, fun Z3 => ?_⟩
      conv => whnf
      refine calls_loop (W := W) (r := houD) ⟨kt, LL.arg hd2, fun _ => rfl, fun e => (neO e).elim⟩ kn (LL.nop hd2) (.inl rfl) (fun x P q => q) (fun x => ?_)
      conv => whnf
      refine ⟨⟨⟨⟨rfl, rfl, rfl⟩, trivial⟩, ⟨⟨nB, bn, trivial⟩, trivial⟩⟩, 22, Z 22, _, _, rfl, nop2 nB bn, rf_w (.inr rfl) AB eBB sa, ⟨rfl, ?_⟩⟩
      refine opNe_rf (.inr ⟨a, rfl⟩) (fun Q q => ⟨sa, q⟩) ?_
      conv => whnf
      refine ⟨⟨⟨⟨rfl, rfl, rfl⟩, trivial⟩, ⟨⟨ho.p, trivial⟩, trivial⟩⟩, 23, Z 23, _, _, rfl, nop1 ho.p, rf_23 ho.n ho.i ho.b, ⟨rfl, ?_⟩⟩
      refine opNe_rf (.inr ⟨0, rfl⟩) (fun Q q => q) ?_
      conv => whnf
      refine ⟨⟨⟨⟨rfl, rfl, rfl⟩, trivial⟩, ⟨⟨nS, ho.p, bn, trivial⟩, trivial⟩⟩, 24, Z 24, _, _, rfl, nop3 nS ho.p bn, rf_24 F24, ⟨rfl, ?_⟩⟩
      refine opNe_rf (.inr ⟨S.length, rfl⟩) (fun Q q => ⟨slS, q⟩) ?_
      conv => whnf
      refine ⟨⟨⟨⟨rfl, rfl, rfl⟩, trivial⟩, ⟨⟨ho.p, nB, bn, trivial⟩, trivial⟩⟩, 25, Z 25, _, _, rfl, nop3 ho.p nB bn, rf_25 F25, ⟨rfl, ?_⟩⟩
      refine opNe_rf (.inr ⟨a, rfl⟩) (fun Q q => ⟨sa, q⟩) ?_
      conv => whnf
      refine ⟨⟨⟨⟨rfl, rfl, rfl⟩, trivial⟩, ⟨⟨nS, ho.p, bn, trivial⟩, trivial⟩⟩, 26, Z 26, _, _, rfl, nop3 nS ho.p bn, rf_26 F24, ⟨rfl, ?_⟩⟩
      refine opNe_rf (.inr ⟨S.length, rfl⟩) (fun Q q => ⟨slS, q⟩) ?_
      conv => whnf
      refine ⟨⟨⟨⟨rfl, rfl, rfl⟩, trivial⟩, ⟨⟨kn, ho.p, nB, trivial⟩, trivial⟩⟩, 27, Z 27, _, _, rfl, nop3 kn ho.p nB, rf_27 F27, ⟨rfl, ?_⟩⟩
      refine opNe_rf (.inl rfl) (fun Q q => q) ?_
      conv => whnf
      exact ⟨pB.mono (by omega), _, _, _, _, _, _, _, _, _, _, _, _, rfl⟩
  · obtain ⟨pm, s2, s3, s4, s5, s6, s7, s8, s9, s10, s11, s12, s13, rfl⟩ := hI
    conv => whnf
theorem d_law_ok (W : Cl) (LtK : Nat → LamK) (ns : List Int) (hl : ns.length ≤ 63) : (dCall sp__law_pen [] (dCons (dVar 0) dNil)) (start0 Nlaw [.scr ns]) ⟨[], 0, 0, false, noObs⟩ (fun d _ => ∃ cs : List Int, d = .dic (if false = true then [.inr "cells", .inr "turn", .inr "rest"] else [.inr "cells", .inr "at", .inr "left"]) [.lst (cs.map .int), .int 0, .int 0] ∧ cs.length ≤ 63 ∧ (fun DD env t => ∀ Z, d_law W LtK Z DD env t) (endsOf fun d _ => d = .bl true) ((start0 Nlaw [.scr ns]).set 1 (.val .pen)) ⟨cs, 0, 0, false, noObs⟩) :=
  ⟨ns, rfl, hl, fun cs hc => ⟨cs, rfl, hc, fun Z => law_run W LtK Z ns _ (Pk.zero hc)⟩⟩
end Q
/-! QH37 -/
namespace Q
open PySem L2 PyProof.Rows
theorem best_gt (kf : Nat → Int) : ∀ k, argBest (fun i j => decide (kf i > kf j)) k ≤ k ∧ ∀ j, j ≤ k → kf j ≤ kf (argBest (fun i j => decide (kf i > kf j)) k)
  | 0 => ⟨Nat.le_refl _, fun j h => by
    obtain rfl : j = 0 := by omega
    exact Int.le_refl _⟩
  | k + 1 => by
    obtain ⟨h1, h2⟩ := best_gt kf k
    show (if decide (kf (k + 1) > kf (argBest _ k)) = true then k + 1 else argBest _ k) ≤ k + 1 ∧ ∀ j, j ≤ k + 1 → kf j ≤ kf (if decide (kf (k + 1) > kf (argBest _ k)) = true then k + 1 else argBest _ k)
    by_cases z : kf (k + 1) > kf (argBest (fun i j => decide (kf i > kf j)) k)
    · rw [if_pos (decide_eq_true z)]
      refine ⟨Nat.le_refl _, fun j hj => ?_⟩
      by_cases e : j = k + 1
      · rw [e]; exact Int.le_refl _
      · have := h2 j (by omega); omega
    · rw [if_neg (by simpa using z)]
      refine ⟨by omega, fun j hj => ?_⟩
      by_cases e : j = k + 1
      · rw [e]; omega
      · exact h2 j (by omega)
theorem best_lt (kf : Nat → Int) : ∀ k, argBest (fun i j => decide (kf i < kf j)) k ≤ k ∧ ∀ j, j ≤ k → kf (argBest (fun i j => decide (kf i < kf j)) k) ≤ kf j
  | 0 => ⟨Nat.le_refl _, fun j h => by
    obtain rfl : j = 0 := by omega
    exact Int.le_refl _⟩
  | k + 1 => by
    obtain ⟨h1, h2⟩ := best_lt kf k
    show (if decide (kf (k + 1) < kf (argBest _ k)) = true then k + 1 else argBest _ k) ≤ k + 1 ∧ ∀ j, j ≤ k + 1 → kf (if decide (kf (k + 1) < kf (argBest _ k)) = true then k + 1 else argBest _ k) ≤ kf j
    by_cases z : kf (k + 1) < kf (argBest (fun i j => decide (kf i < kf j)) k)
    · rw [if_pos (decide_eq_true z)]
      refine ⟨Nat.le_refl _, fun j hj => ?_⟩
      by_cases e : j = k + 1
      · rw [e]; exact Int.le_refl _
      · have := h2 j (by omega); omega
    · rw [if_neg (by simpa using z)]
      refine ⟨by omega, fun j hj => ?_⟩
      by_cases e : j = k + 1
      · rw [e]; omega
      · exact h2 j (by omega)
theorem first_gt (kf : Nat → Int) : ∀ k j, j < argBest (fun i j => decide (kf i > kf j)) k → kf j ≠ kf (argBest (fun i j => decide (kf i > kf j)) k)
  | 0, j, h => absurd h (Nat.not_lt_zero j)
  | k + 1, j, h => by
    revert h
    show j < (if decide (kf (k + 1) > kf (argBest _ k)) = true then k + 1 else argBest _ k) → kf j ≠ kf (if decide (kf (k + 1) > kf (argBest _ k)) = true then k + 1 else argBest _ k)
    by_cases z : kf (k + 1) > kf (argBest (fun i j => decide (kf i > kf j)) k)
    · rw [if_pos (decide_eq_true z)]
      intro h
      have := (best_gt kf k).2 j (by omega)
      omega
    · rw [if_neg (by simpa using z)]
      exact first_gt kf k j
theorem first_lt (kf : Nat → Int) : ∀ k j, j < argBest (fun i j => decide (kf i < kf j)) k → kf j ≠ kf (argBest (fun i j => decide (kf i < kf j)) k)
  | 0, j, h => absurd h (Nat.not_lt_zero j)
  | k + 1, j, h => by
    revert h
    show j < (if decide (kf (k + 1) < kf (argBest _ k)) = true then k + 1 else argBest _ k) → kf j ≠ kf (if decide (kf (k + 1) < kf (argBest _ k)) = true then k + 1 else argBest _ k)
    by_cases z : kf (k + 1) < kf (argBest (fun i j => decide (kf i < kf j)) k)
    · rw [if_pos (decide_eq_true z)]
      intro h
      have := (best_lt kf k).2 j (by omega)
      omega
    · rw [if_neg (by simpa using z)]
      exact first_lt kf k j
theorem walksV {prog : Program} {w : World} {A : Around} (hh : A.handled = none) (I l : Addr) (hne : l ≠ I) (vs : List V) :
    WalksS prog w A I [I, l] [I] (fun a b => b = a) vs.length (fun i v => ∃ x, vs[i]? = some x ∧ RelV x v) (fun i s => ∃ items : Array Value, Vals vs items.toList ∧ s.heap.IsListIter I l i ∧ s.heap.IsList l items) where
  sub := fun b hb => by simp at hb; simp [hb]
  grefl := fun _ => rfl
  gtrans := fun _ _ _ h1 h2 => h2.trans h1
  frame := fun i s h' tk ⟨items, r, st⟩ hl hk => ⟨items, r, ((Walks.list (prog := prog) (w := w) (A := A) hh I l hne items).toS).frame i s h' tk st hl hk⟩
  item := fun i s Q E hi ⟨items, r, st⟩ hQ => by
    have W := (Walks.list (prog := prog) (w := w) (A := A) hh I l hne items).toS
    have hz : items.size = vs.length := by rw [← Array.length_toList, ← r.length]
    refine W.item i s Q E (by omega) st fun v s' hP st' hm => hQ v s' ?_ ⟨items, r, st'⟩ hm
    have hv : items.toList[i]? = some v := by rw [Array.getElem?_toList]; exact hP
    obtain ⟨u, e, rx⟩ := Vals.get r (List.getElem?_eq_getElem hi)
    rw [hv] at e
    cases e
    exact ⟨_, List.getElem?_eq_getElem hi, rx⟩
  done := fun s Q E ⟨items, r, st⟩ hQ => by
    have W := (Walks.list (prog := prog) (w := w) (A := A) hh I l hne items).toS
    have hz : items.size = vs.length := by rw [← Array.length_toList, ← r.length]
    exact W.done s Q E (by rw [hz]; exact st) hQ
  self := fun i s Q E ⟨items, r, st⟩ hQ => ((Walks.list (prog := prog) (w := w) (A := A) hh I l hne items).toS).self i s Q E st hQ
section
variable {X : Cx}
theorem inv_turned2 {pins : List (Addr × Obj)} {σ : L2.St} {H : Hp} {s s' : Shared} {S I : Addr} (J : L2.Inv X pins σ H s) (fS : FpOk X pins H S) (fI : FpOk X pins H I) (hm : Moved [S, I] (fun a b => b = a) s s') : L2.Inv X pins σ H s' := by
  obtain ⟨h', g', d', t', o'⟩ := s'
  have eg : g' = s.gens := hm.gens
  have ed : d' = s.drawn := hm.drawn
  have eo : o' = s.os := hm.os
  subst eg; subst ed; subst eo
  refine J.call' (s' := ⟨h', s.gens, s.drawn, t', s.os⟩) (ch := [S, I]) rfl ⟨fun b o e n hb hx => hm.heap b o hx e, fun b o e n hb hx => ⟨o.slots, hm.heap b o hx e⟩, fun b o e n hx => n, fun b o e hx => ⟨o, hm.heap b o hx e⟩, fun _ _ e => e, fun _ _ _ e => e, fun b ps e => ⟨#[], by rw [e]; simp⟩⟩ (fun a o e => ?_) J.bare (fun b hb => ?_)
  · have nit : ∀ {b : Addr} {u : HO}, H b = some u → b ∉ [S, I] := fun {b u} q z => by
      rcases List.mem_cons.mp z with r | r
      · rw [r, fS.1] at q; cases q
      · rw [List.mem_singleton.mp r, fI.1] at q; cases q
    have k : ∀ b u, b ∉ [S, I] → s.heap.get? b = some u → h'.get? b = some u := fun b u n q => hm.heap b u n q
    exact (J.hok a o e).stay (fun b u z q => k b u (by
      rcases z with z | z
      · rw [z]; exact nit e
      · exact nit z) q) (fun _ q => q) fun _ _ q => q
  · rcases List.mem_cons.mp hb with rfl | hb
    · exact ⟨fS.2.2.2.1, fS.2.1, fS.2.2.2.2.1, fS.2.2.2.2.2⟩
    · obtain rfl := List.mem_singleton.mp hb
      exact ⟨fI.2.2.2.1, fI.2.1, fI.2.2.2.2.1, fI.2.2.2.2.2⟩
def opM (mx : Bool) : CmpOp := if mx then .Gt else .Lt
def btM (mx : Bool) (kf : Nat → Int) (i j : Nat) : Bool := if mx then decide (kf i > kf j) else decide (kf i < kf j)
theorem btM_best (mx : Bool) (kf : Nat → Int) (k : Nat) : argBest (btM mx kf) k ≤ k ∧ ∀ j, j ≤ k → (match mx with
    | true => kf j ≤ kf (argBest (btM mx kf) k)
    | false => kf (argBest (btM mx kf) k) ≤ kf j) := by
  cases mx with
  | true => exact best_gt kf k
  | false => exact best_lt kf k
theorem btM_first (mx : Bool) (kf : Nat → Int) (k : Nat) : ∀ j, j < argBest (btM mx kf) k → kf j ≠ kf (argBest (btM mx kf) k) := by
  cases mx with
  | true => exact first_gt kf k
  | false => exact first_lt kf k
def JKey (X : Cx) (pins : List (Addr × Obj)) (σ : L2.St) (S I : Addr) (Jv : Hp → Prop) (s : Shared) : Prop := ∃ H, L2.Inv X pins σ H s ∧ Jv H ∧ FpOk X pins H S ∧ FpOk X pins H I
theorem key_run {mx : Bool} {f : Addr} {fd : FuncData} {k : Nat} {sp : Sp} {ps : List Str} (F : FnOk X.prog X.w X.K X.mg X.base CX0 k f fd ps sp) (hr : Room (k + 1) X.A) (hb : Binds X.K fd ps []) {pins : List (Addr × Obj)} {σ : L2.St} {l S I : Addr} {vs : List V} {kf : Nat → Int} {Jv : Hp → Prop} (hc : X.calm = true)
    (jS : ∀ H, Jv H → SqL X.K H l vs) (jt : ∀ i x H, vs[i]? = some x → Jv H → sp [x] H (fun u H' => u = .int (kf i) ∧ Jv H') (fun _ _ _ => False)) :
    KeyRun X.prog X.w X.A.in1 (.ref f) (opM mx) S [I] (fun a b => b = a) vs.length (fun i v => ∃ x, vs[i]? = some x ∧ RelV x v) (fun i s => ∃ items : Array Value, Vals vs items.toList ∧ s.heap.IsListIter I l i ∧ s.heap.IsList l items)
      (JKey X pins σ S I Jv) (fun i v _ => ∃ tk, v = .int (kf i) tk) (btM mx kf) where
  keep := fun s s' ⟨H, J, jv, fS, fI⟩ hm => ⟨H, inv_turned2 J fS fI hm, jv, fS, fI⟩
  keepV := fun _ _ _ _ h _ => h
  turn := fun i v s o Q E hi ⟨x, hx, rx⟩ ⟨H, J, jv, fS, fI⟩ ⟨items, r, st1, st2⟩ hS h => by
    have hl : ([v] ++ ([] : List Value)).length = ps.length := by rw [← F.len _ _ _ _ (jt i x H hx jv)]; rfl
    refine wpAny_call (codeAny_mono (F.run X.A.in1 X.stack s H ⟨[v], []⟩ [v] [x] _ _ hr.in1 J.env0.in1 (hb s [v] J.kIn hl) (.cons rx .nil) (jt i x H hx jv)) fun r' s' hq => ?_)
    cases r' with
    | error e => exact hq.elim
    | ok fl =>
      cases fl with
      | ret u =>
        obtain ⟨u', H', os, bare, un, hok, ru, rfl, jv'⟩ := hq
        have J' := J.call' (s' := s') (ch := []) os un hok bare (fun b z => absurd z (by simp))
        obtain ⟨oI, eI, q1, q2⟩ := id st1
        have kS := un.keep S o hS fS.1 (fun z => (List.mem_cons.mp (J.stkSub S z)).elim fS.2.1 fS.2.2.1) (by simp)
        have kI := un.keep I oI eI fI.1 (fun z => (List.mem_cons.mp (J.stkSub I z)).elim fI.2.1 fI.2.2.1) (by simp)
        obtain ⟨its, rv, ⟨ol, n, hol, hcl, hdn, hdl⟩, hlen⟩ := J'.list (jS H' jv')
        exact h u s' ⟨H', J', jv', ⟨un.free S o hS fS.1 (by simp), fS.2⟩, ⟨un.free I oI eI fI.1 (by simp), fI.2⟩⟩ ⟨its.toArray, by simpa using rv, ⟨oI, kI, q1, q2⟩, ⟨ol, hol, hcl, n, hdl⟩⟩ kS ru fun _ _ z => z
      | next => exact hq.elim
      | brk => exact hq.elim
      | cont => exact hq.elim
  cmp := fun i j ki kj s Q E _ h1 h2 q => by
    cases mx with
    | true => exact CmpOf.ints_gt (P := fun i v => ∃ t, v = .int (kf i) t) kf (fun i v h => h) i j ki kj s Q E h1 h2 q
    | false => exact CmpOf.ints_lt (P := fun i v => ∃ t, v = .int (kf i) t) kf (fun i v h => h) i j ki kj s Q E h1 h2 q
def rBest (K : PySem.W.Frag) (mx : Bool) (f : Addr) (sp : Sp) : List V → List V → Hp → VK → Prop := fun xs zs H Q => ∃ (l : Addr) (vs : List V) (kf : Nat → Int) (Jv : Hp → Prop), xs = [.ref l] ∧ zs = [.ref f] ∧ vs ≠ [] ∧ Jv H ∧ (∀ H, Jv H → SqL K H l vs) ∧
  (∀ i x H, vs[i]? = some x → Jv H → sp [x] H (fun u H' => u = .int (kf i) ∧ Jv H') (fun _ _ _ => False)) ∧
  ∀ i x H, vs[i]? = some x → (∀ j, j < vs.length → (match mx with
    | true => kf j ≤ kf i
    | false => kf i ≤ kf j)) → (∀ j, j < i → kf j ≠ kf i) → Jv H → Q x H
def rBestD (K : PySem.W.Frag) (mx : Bool) (f : Addr) (sp : Sp) : List V → List V → Hp → VK → Prop := fun xs zs H Q => ∃ (l : Addr) (vs : List V) (d : V) (kf : Nat → Int) (Jv : Hp → Prop), xs = [.ref l] ∧ zs = [.ref f, d] ∧ Jv H ∧ (∀ H, Jv H → SqL K H l vs) ∧
  (∀ i x H, vs[i]? = some x → Jv H → sp [x] H (fun u H' => u = .int (kf i) ∧ Jv H') (fun _ _ _ => False)) ∧ (vs = [] → ∀ H, Jv H → Q d H) ∧
  ∀ i x H, vs[i]? = some x → (∀ j, j < vs.length → (match mx with
    | true => kf j ≤ kf i
    | false => kf i ≤ kf j)) → (∀ j, j < i → kf j ≠ kf i) → Jv H → Q x H
def idM (mx : Bool) : String := if mx then "max" else "min"
theorem key_start {mx : Bool} {f : Addr} {fd : FuncData} {k : Nat} {sp : Sp} {ps : List Str} (F : FnOk X.prog X.w X.K X.mg X.base CX0 k f fd ps sp) (hr : Room (k + 1) X.A) (hb : Binds X.K fd ps []) {pins : List (Addr × Obj)} {σ : L2.St} {H : Hp} {s : Shared} {l : Addr} {vs : List V} {kf : Nat → Int} {Jv : Hp → Prop} {E : Value → Shared → Prop} (hc : X.calm = true) (I : L2.Inv X pins σ H s)
    (j0 : Jv H) (jS : ∀ H, Jv H → SqL X.K H l vs) (jt : ∀ i x H, vs[i]? = some x → Jv H → sp [x] H (fun u H' => u = .int (kf i) ∧ Jv H') (fun _ _ _ => False)) :
    wpAny (model X.prog X.w) X.A.in1 (pyIter (.ref l)) (fun it s₂ => ∃ (I : Addr) (fp wr : List Addr) (G : Array GenState → Array GenState → Prop) (n : Nat) (P : Nat → Value → Prop) (St : Nat → Shared → Prop) (J : Shared → Prop) (V : Nat → Value → Shared → Prop) (bt : Nat → Nat → Bool),
      it = .ref I ∧ WalksS X.prog X.w X.A.in1 I fp wr G n P St ∧ St 0 s₂ ∧ (∀ b ∈ fp, b < s₂.heap.objs.size) ∧ n = vs.length ∧ KeyRun X.prog X.w X.A.in1 (.ref f) (opM mx) s₂.heap.objs.size wr G n P St J V bt ∧ J s₂ ∧
      (∀ v s', P (argBest bt (n - 1)) v → J s' → 0 < n → ∃ i x H', vs[i]? = some x ∧ (∀ j, j < vs.length → (match mx with
        | true => kf j ≤ kf i
        | false => kf i ≤ kf j)) ∧ (∀ j, j < i → kf j ≠ kf i) ∧ RelV x v ∧ L2.Inv X pins σ H' s' ∧ Jv H') ∧ (∀ s', J s' → ∃ H', L2.Inv X pins σ H' s' ∧ Jv H')) E s := by
  obtain ⟨its, rv, ⟨ol, n, hol, hcl, hdn, hdl⟩, hlen⟩ := I.list (jS H j0)
  have hls : s.heap.IsList l its.toArray := ⟨ol, hol, hcl, n, hdl⟩
  refine wpAny_pyIter_list hls ?_
  have hlt : l < s.heap.objs.size := Heap.lt_size hol
  have kp : ∀ b o, s.heap.get? b = some o → (s.heap.push { cls := .type "list_iterator", data := .fields #[.ref l, .int 0 0] }).get? b = some o := fun b o e => Heap.get?_push_of_some _ e
  have I1 : L2.Inv X pins σ H { s with heap := s.heap.push { cls := .type "list_iterator", data := .fields #[.ref l, .int 0 0] } } := I.kept (t' := s.toks) kp
  have hsz : (s.heap.push { cls := .type "list_iterator", data := .fields #[.ref l, .int 0 0] }).objs.size = s.heap.objs.size + 1 := Heap.size_push ..
  refine ⟨s.heap.objs.size, _, _, _, vs.length, _, _, _, _, _, rfl, walksV (A := X.A.in1) (show X.A.in1.handled = none from I.ok.hd hc) s.heap.objs.size l (Nat.ne_of_lt hlt) vs, ⟨its.toArray, by simpa using rv, ⟨_, Heap.get?_push_size _ rfl, rfl, rfl⟩, hls.at fun o e => kp l o e⟩, fun b hb => ?_, rfl, key_run (kf := kf) (Jv := Jv) F hr hb hc jS jt, ⟨H, I1, j0, I1.fpOk (Nat.le_refl _) (I1.hok.fresh (Nat.le_refl _)), ?_⟩, fun v s' hP ⟨H', J', jv, _, _⟩ hn => ?_, fun s' ⟨H', J', jv, _, _⟩ => ⟨H', J', jv⟩⟩
  · show b < (s.heap.push _).objs.size
    rw [hsz]
    rcases List.mem_cons.mp hb with rfl | hb
    · exact Nat.lt_succ_self _
    · rw [List.mem_singleton.mp hb]; exact Nat.lt_succ_of_lt hlt
  · have fI := I.fpOk (b := s.heap.objs.size) (H' := H) (Nat.le_refl _) (I.hok.fresh (Nat.le_refl _))
    exact fI
  · obtain ⟨x, hx, rx⟩ := hP
    have B := btM_best mx kf (vs.length - 1)
    refine ⟨_, x, H', hx, fun j hj => ?_, btM_first mx kf (vs.length - 1), rx, J', jv⟩
    have := B.2 j (by omega)
    cases mx with
    | true => exact this
    | false => exact this
theorem cr_best {mx : Bool} {f : Addr} {fd : FuncData} {k : Nat} {sp : Sp} {ps : List Str} (F : FnOk X.prog X.w X.K X.mg X.base CX0 k f fd ps sp) (hr : Room (k + 1) X.A) (hb : Binds X.K fd ps []) (hc : X.calm = true) : CallRK X (.builtin (idM mx)) [Str.ofString "key"] (rBest X.K mx f sp) := by
  intro pins s σ H xs zs us ws Q I rx rz h
  obtain ⟨l, vs, kf, Jv, rfl, rfl, hne, j0, jS, jt, fin⟩ := h
  rw [Vals.ref1 rx, Vals.ref1 rz]
  have hpos : 0 < vs.length := by
    cases vs with
    | nil => exact (hne rfl).elim
    | cons => simp
  have st := key_start (mx := mx) (E := X.xe) F hr hb hc I j0 jS jt
  cases mx with
  | true =>
    refine call_max_walkK (wpAny_mono st (fun it s2 hh => ?_) fun _ _ e => e)
    obtain ⟨I', fp, wr, G, n, P, St, J, V, bt, e1, e2, e3, e4, rfl, e6, e7, e8, e9⟩ := hh
    exact ⟨I', fp, wr, G, _, P, St, J, V, bt, e1, e2, e3, e4, hpos, e6, e7, fun v s' hP hJ => by
      obtain ⟨i, x, H', hx, hbst, hft, rxv, J', jv⟩ := e8 v s' hP hJ hpos
      exact ⟨x, H', J', rxv, fin i x H' hx hbst hft jv⟩⟩
  | false =>
    refine call_min_walkK (wpAny_mono st (fun it s2 hh => ?_) fun _ _ e => e)
    obtain ⟨I', fp, wr, G, n, P, St, J, V, bt, e1, e2, e3, e4, rfl, e6, e7, e8, e9⟩ := hh
    exact ⟨I', fp, wr, G, _, P, St, J, V, bt, e1, e2, e3, e4, hpos, e6, e7, fun v s' hP hJ => by
      obtain ⟨i, x, H', hx, hbst, hft, rxv, J', jv⟩ := e8 v s' hP hJ hpos
      exact ⟨x, H', J', rxv, fin i x H' hx hbst hft jv⟩⟩
theorem cr_bestD {mx : Bool} {f : Addr} {fd : FuncData} {k : Nat} {sp : Sp} {ps : List Str} (F : FnOk X.prog X.w X.K X.mg X.base CX0 k f fd ps sp) (hr : Room (k + 1) X.A) (hb : Binds X.K fd ps []) (hc : X.calm = true) : CallRK X (.builtin (idM mx)) [Str.ofString "key", Str.ofString "default"] (rBestD X.K mx f sp) := by
  intro pins s σ H xs zs us ws Q I rx rz h
  obtain ⟨l, vs, d, kf, Jv, rfl, rfl, j0, jS, jt, dn, fin⟩ := h
  obtain ⟨u1, u2, rfl, r1, r2⟩ := Vals.two rz
  cases (show u1 = Value.ref f from r1)
  rw [Vals.ref1 rx]
  have st := key_start (mx := mx) (E := X.xe) F hr hb hc I j0 jS jt
  have lastly : ∀ (H' : Hp) (s' : Shared), L2.Inv X pins σ H' s' → Jv H' → vs.length = 0 → EP X pins σ Q u2 s' := fun H' s' J' jv e => ⟨d, H', J', r2, dn (List.length_eq_zero_iff.mp e) H' jv⟩
  cases mx with
  | true =>
    refine call_max_walkKD (wpAny_mono st (fun it s2 hh => ?_) fun _ _ e => e)
    obtain ⟨I', fp, wr, G, n, P, St, J, V, bt, e1, e2, e3, e4, rfl, e6, e7, e8, e9⟩ := hh
    exact ⟨I', fp, wr, G, _, P, St, J, V, bt, e1, e2, e3, e4, e6, e7, fun e s' hJ => by
      obtain ⟨H', J', jv⟩ := e9 s' hJ
      exact lastly H' s' J' jv e, fun hpos v s' hP hJ => by
      obtain ⟨i, x, H', hx, hbst, hft, rxv, J', jv⟩ := e8 v s' hP hJ hpos
      exact ⟨x, H', J', rxv, fin i x H' hx hbst hft jv⟩⟩
  | false =>
    refine call_min_walkKD (wpAny_mono st (fun it s2 hh => ?_) fun _ _ e => e)
    obtain ⟨I', fp, wr, G, n, P, St, J, V, bt, e1, e2, e3, e4, rfl, e6, e7, e8, e9⟩ := hh
    exact ⟨I', fp, wr, G, _, P, St, J, V, bt, e1, e2, e3, e4, e6, e7, fun e s' hJ => by
      obtain ⟨H', J', jv⟩ := e9 s' hJ
      exact lastly H' s' J' jv e, fun hpos v s' hP hJ => by
      obtain ⟨i, x, H', hx, hbst, hft, rxv, J', jv⟩ := e8 v s' hP hJ hpos
      exact ⟨x, H', J', rxv, fin i x H' hx hbst hft jv⟩⟩
end
section
variable {K : PySem.W.Frag} {X : Cx} {B : Bs}
def tkF (f : Addr) : TA := tCons (tC (.ref f)) tNil
def tkFD (f : Addr) (d : V) : TA := tCons (tC (.ref f)) (tCons (tC d) tNil)
theorem best_rel {sp : PSp} {F : Hp} {pa : Option Addr} {t : Ts} {env : En} {σ : L2.St} {H : Hp} {l : List D} {a : Addr} {vs : List V} {kf : Nat → Int} (C : Cf K B F pa t env σ H) (hs : SqL K H a vs) (ha : ∀ F' pa' t' H', Gr F pa F' pa' → Cf K B F' pa' t' env σ H' → SqL K H' a vs ∧ RelL K F' pa' l vs)
    (hk : ∀ i d (P' : D → Ts → Prop), l[i]? = some d → P' (.int (kf i)) t → sp [d] t P') :
    ∀ i x H', vs[i]? = some x → (∃ F' pa', Gr F pa F' pa' ∧ Cf K B F' pa' t env σ H') → lift K sp [x] H' (fun u H'' => u = .int (kf i) ∧ ∃ F' pa', Gr F pa F' pa' ∧ Cf K B F' pa' t env σ H'') (fun _ _ _ => False) := fun i x H' hx ⟨F', pa', g, C'⟩ => by
  obtain ⟨d, hd, r⟩ := RelL.get' (ha F' pa' t H' g C').2 hx
  refine ⟨F', pa', t, [d], _, C'.call, RelL.cons r RelL.nil, hk i d (fun z t' => z = .int (kf i) ∧ t' = t) hd ⟨rfl, rfl⟩, fun v d' F2 pa2 t2 H2 W2 r2 q2 => ?_⟩
  obtain ⟨rfl, rfl⟩ := q2
  obtain ⟨g2, C2⟩ := C'.after W2
  unfold RelD at r2
  exact ⟨r2, F2, pa2, g.trans g2, C2⟩
theorem ev_best {mx : Bool} {f : Addr} {sp : PSp} {da : DE} : ∀ σ H Q, teOf K B (dBest mx sp none da) σ H Q → tCKw (rBest K mx f (lift K sp)) (tCons (teOf K B da) tNil) (tkF f) σ H Q := fun σ H Q ⟨F, pa, t, env, P, C, h, k⟩ =>
  ⟨F, pa, t, env, _, C, h, fun v d F1 pa1 t1 H1 g1 C1 r1 q1 => by
    cases d with
    | lst l =>
      obtain ⟨kf, hk, hne, fin⟩ := q1
      have r1' := r1
      unfold RelD at r1
      obtain ⟨a, vs, rfl, ea, rl⟩ := r1
      have ha : ∀ F' pa' t' H', Gr F1 pa1 F' pa' → Cf K B F' pa' t' env σ H' → SqL K H' a vs ∧ RelL K F' pa' l vs := fun F' pa' t' H' g C' => ⟨SqL.of (C'.sub _ _ (g.f _ _ ea)), RelL.mono g _ _ rl⟩
      refine ⟨a, vs, kf, fun H' => ∃ F' pa', Gr F1 pa1 F' pa' ∧ Cf K B F' pa' t1 env σ H', rfl, rfl, fun e => hne ?_, ⟨F1, pa1, Gr.refl _ _, C1⟩, fun H' ⟨F', pa', g, C'⟩ => (ha F' pa' t1 H' g C').1, best_rel C1 (ha F1 pa1 t1 H1 (Gr.refl _ _) C1).1 ha hk, fun i x H' hx hb hft ⟨F', pa', g, C'⟩ => ?_⟩
      · have := rl.len
        rw [e] at this
        exact List.length_eq_zero_iff.mp this.symm
      · obtain ⟨d, hd, r⟩ := RelL.get' (ha F' pa' t1 H' g C').2 hx
        refine k x d F' pa' t1 H' (g1.trans g) C' r (fin i d hd (fun j hj => ?_) hft)
        have := hb j (by rw [rl.len]; exact hj)
        cases mx with
        | true => exact this
        | false => exact this
    | _ => exact q1.elim⟩
theorem ev_bestD {mx : Bool} {f : Addr} {sp : PSp} {da : DE} {dv : D} {w : V} (hw : ∀ F pa, RelD K F pa dv w) : ∀ σ H Q, teOf K B (dBest mx sp (some dv) da) σ H Q → tCKw (rBestD K mx f (lift K sp)) (tCons (teOf K B da) tNil) (tkFD f w) σ H Q := fun σ H Q ⟨F, pa, t, env, P, C, h, k⟩ =>
  ⟨F, pa, t, env, _, C, h, fun v d F1 pa1 t1 H1 g1 C1 r1 q1 => by
    cases d with
    | lst l =>
      obtain ⟨kf, hk, hne, fin⟩ := q1
      have r1' := r1
      unfold RelD at r1
      obtain ⟨a, vs, rfl, ea, rl⟩ := r1
      have ha : ∀ F' pa' t' H', Gr F1 pa1 F' pa' → Cf K B F' pa' t' env σ H' → SqL K H' a vs ∧ RelL K F' pa' l vs := fun F' pa' t' H' g C' => ⟨SqL.of (C'.sub _ _ (g.f _ _ ea)), RelL.mono g _ _ rl⟩
      refine ⟨a, vs, w, kf, fun H' => ∃ F' pa', Gr F1 pa1 F' pa' ∧ Cf K B F' pa' t1 env σ H', rfl, rfl, ⟨F1, pa1, Gr.refl _ _, C1⟩, fun H' ⟨F', pa', g, C'⟩ => (ha F' pa' t1 H' g C').1, best_rel C1 (ha F1 pa1 t1 H1 (Gr.refl _ _) C1).1 ha hk, fun e H' ⟨F', pa', g, C'⟩ => ?_, fun i x H' hx hb hft ⟨F', pa', g, C'⟩ => ?_⟩
      · have := rl.len
        rw [e] at this
        exact k w dv F' pa' t1 H' (g1.trans g) C' (hw _ _) (hne (List.length_eq_zero_iff.mp this.symm))
      · obtain ⟨d, hd, r⟩ := RelL.get' (ha F' pa' t1 H' g C').2 hx
        refine k x d F' pa' t1 H' (g1.trans g) C' r (fin i d hd (fun j hj => ?_) hft)
        have := hb j (by rw [rl.len]; exact hj)
        cases mx with
        | true => exact this
        | false => exact this
    | _ => exact q1.elim⟩
theorem q_best {mx : Bool} {k : Nat} {f : Addr} {fd : FuncData} {ps : List Str} {sp : PSp} {x y : Str} {p p1 p2 p3 : Pos} {e : Expr} {da : DE} (hc : X.calm = true) (F : FnOk X.prog X.w X.K X.mg X.base CX0 k f fd ps (lift X.K sp)) (hr : Room (k + 1) X.A) (hb : L2.Binds X.K fd ps []) (hgx : Gl X x) (hmx : X.mg x = none) (hv : bootBuiltins x = some (.builtin (idM mx)))
    (hgy : Gl X y) (hmy : X.mg y = some (.ref f)) (ha : QE X B e da) (hn : x ≠ "__name__" := by decide) (hdb : (x == ("__debug__" : Str)) = false := by decide) (hdy : (y == ("__debug__" : Str)) = false := by decide)
    (he : backTo p2 (starEach (e :: []) X.env) = (false, eval e X.env) :: backTo p2 (starEach [] X.env) := by rfl) (hpl : (backTo p2 (starEach (e :: []) X.env)).any (·.1) = false := by rfl)
    (hall : (backToKw p2 (keywordEach [⟨some "key", .Name y p1, p3⟩] X.env)).all (·.1.isSome) = true := by rfl) (hnone : (backToKw p2 (keywordEach [⟨some "key", .Name y p1, p3⟩] X.env)).any (·.1.isNone) = false := by rfl) (hks : (backToKw p2 (keywordEach [⟨some "key", .Name y p1, p3⟩] X.env)).filterMap (·.1) = [Str.ofString "key"] := by rfl)
    (hs : starEach (e :: []) X.env = (false, eval e X.env) :: starEach [] X.env := by rfl) :
    QE X B (.Call (.Name x p) [e] [⟨some "key", .Name y p1, p3⟩] p2) (dBest mx sp none da) :=
  PE.imp (pe_callBK (cr_best F hr hb hc) hgx hmx hv (pa_cons ha pa_nil hs) (pk_cons (pe_glob (v := .ref f) hgy hmy rfl hdy) pk_nil) hn hdb he hpl hall hnone hks) ev_best
theorem q_bestD {mx : Bool} {k : Nat} {f : Addr} {fd : FuncData} {ps : List Str} {sp : PSp} {x y : Str} {p p1 p2 p3 p4 : Pos} {e dx : Expr} {da : DE} {dv : D} {w : V} (hc : X.calm = true) (F : FnOk X.prog X.w X.K X.mg X.base CX0 k f fd ps (lift X.K sp)) (hr : Room (k + 1) X.A) (hb : L2.Binds X.K fd ps []) (hgx : Gl X x) (hmx : X.mg x = none) (hv : bootBuiltins x = some (.builtin (idM mx)))
    (hgy : Gl X y) (hmy : X.mg y = some (.ref f)) (hd : PE X dx (tC w)) (hw : ∀ F pa, RelD X.K F pa dv w) (ha : QE X B e da) (hn : x ≠ "__name__" := by decide) (hdb : (x == ("__debug__" : Str)) = false := by decide) (hdy : (y == ("__debug__" : Str)) = false := by decide)
    (he : backTo p2 (starEach (e :: []) X.env) = (false, eval e X.env) :: backTo p2 (starEach [] X.env) := by rfl) (hpl : (backTo p2 (starEach (e :: []) X.env)).any (·.1) = false := by rfl)
    (hall : (backToKw p2 (keywordEach [⟨some "key", .Name y p1, p3⟩, ⟨some "default", dx, p4⟩] X.env)).all (·.1.isSome) = true := by rfl) (hnone : (backToKw p2 (keywordEach [⟨some "key", .Name y p1, p3⟩, ⟨some "default", dx, p4⟩] X.env)).any (·.1.isNone) = false := by rfl) (hks : (backToKw p2 (keywordEach [⟨some "key", .Name y p1, p3⟩, ⟨some "default", dx, p4⟩] X.env)).filterMap (·.1) = [Str.ofString "key", Str.ofString "default"] := by rfl)
    (hs : starEach (e :: []) X.env = (false, eval e X.env) :: starEach [] X.env := by rfl) :
    QE X B (.Call (.Name x p) [e] [⟨some "key", .Name y p1, p3⟩, ⟨some "default", dx, p4⟩] p2) (dBest mx sp (some dv) da) :=
  PE.imp (pe_callBK (cr_bestD F hr hb hc) hgx hmx hv (pa_cons ha pa_nil hs) (pk_cons (pe_glob (v := .ref f) hgy hmy rfl hdy) (pk_cons hd pk_nil)) hn hdb he hpl hall hnone hks) (ev_bestD hw)
end
end Q
/-! QX1 -/
namespace Q
open PySem L2 PySem.Spec PyProof.Rows
end Q
/-! QX2 -/
namespace Q
open PySem L2 PySem.Spec PyProof.Rows
theorem Cf.slots {K : PySem.W.Frag} {B : Bs} {F : Hp} {pa : Option Addr} {t : Ts} {env env' : En} {σ σ' : L2.St} {H : Hp} (C : Cf K B F pa t env σ H) (hl : env'.length = σ'.length) (h : ∀ (k : Nat) (s : Sl), env'[k]? = some s → s ≠ Sl.no → env[k]? = some s ∧ σ'[k]? = σ[k]?) : Cf K B F pa t env' σ' H :=
  ⟨hl, C.sub, C.bas, C.frm, C.new, C.exl, fun i d e => by
    obtain ⟨h1, h2⟩ := h i _ e (by simp)
    rw [h2]; exact C.val i d h1,
  fun i d e => by
    obtain ⟨h1, h2⟩ := h i _ e (by simp)
    rw [h2]; exact C.own i d h1,
  fun i j d e a q1 q2 s1 s2 => by
    obtain ⟨h1, h2⟩ := h i _ q1 (by simp)
    obtain ⟨h3, h4⟩ := h j _ q2 (by simp)
    rw [h2] at s1
    rw [h4] at s2
    exact C.sep i j d e a h1 h3 s1 s2, C.pen, C.pnn, C.tab, C.ntb, C.obs, C.obx, fun i d a e s => by
    obtain ⟨h1, h2⟩ := h i _ e (by simp)
    rw [h2] at s
    exact C.osp i d a h1 s⟩
theorem keepS {X : Cx} {pins : List (Addr × Obj)} {σ : L2.St} {H : Hp} {s : Shared} {a : Addr} {q : Addr × Obj} (I : Inv (X.suite a (q :: (X.pn ++ pins))) [] σ H s) (ok : X.Ok) : Inv (X.tr (q :: (X.pn ++ pins)) X.xe) [] σ H s :=
  ⟨ok.toTry _ _, I.os, I.bare, I.base, I.loc, I.cell, I.free, I.freeC, I.pin, I.hok, I.len⟩
theorem dropP {X : Cx} {pins pn' : List (Addr × Obj)} {q : Addr × Obj} {σ : L2.St} {H : Hp} {s : Shared} {xe : Value → Shared → Prop} (I : Inv (X.tr (q :: (X.pn ++ pins)) xe) pn' σ H s) (ok : X.Ok) : Inv X pins σ H s :=
  ⟨ok, I.os, I.bare, I.base, I.loc, I.cell, I.free, I.freeC, fun p hp => I.pin p (List.mem_append_left _ (List.mem_cons_of_mem _ hp)), I.hok, I.len⟩
end Q
/-! QX15 -/
namespace Q
open PySem L2 PySem.Spec PyProof.Rows
structure FxB (B newId initId : String) (tl : List Value) : Prop where
  base : PySem.ExcBaseFacts B newId initId tl
  pass : ∀ self : Value, refuseLoop self "__setattr__" tl = pure ()
  obj : tl.contains (.type "object") = true
  ne : tl.isEmpty = false
structure FxC (K : PySem.W.Frag) (C : Addr) (newId : String) (tl : List Value) : Prop where
  cls : ∃ nm q N bs sn sub ab col dd k0 k1 k2 k3 k5, K.lookup C = some (excClassObj nm q C N bs tl true sn sub ab col dd k0 k1 k2 k3 k5 newId)
  sa : PySem.W.findIn K (.ref C) "__setattr__" = some (some (.builtin "object.__setattr__"))
  exC : PySem.W.subIn K (.ref C) (.type "BaseException") = some true
  tyC : PySem.W.typeIn K (.ref C) = some (.type "type")
  kC : PySem.W.keepIn K (.ref C) = true
end Q
namespace PySem
namespace HandSPX
open PySem.W PySem.Calls PyProof.Rows Builtin Builtin.ObjectAttr
end HandSPX
end PySem
namespace Q
open PySem L2 PySem.Spec PyProof.Rows
def tFxI (K : PySem.W.Frag) (newId : String) (tl : List Value) (ta : TA) : TE := fun σ H Q => ta σ H fun vs H1 => ∃ (a C : Addr) (ws : List V), vs = .ref a :: ws ∧ ws.length ≤ 1000 ∧ FxC K C newId tl ∧ H1 a = some (exo a C none) ∧ Q .non H1
def tFst (K : PySem.W.Frag) (newId : String) (tl : List Value) (f : Str) (to te : TE) : TS := fun D σ H => te σ H fun y H1 => to σ H1 fun x H2 => ∃ a C : Addr, x = .ref a ∧ FxC K C newId tl ∧ PySem.W.findIn K (.ref C) f = some none ∧
  H2 a = some (exo a C none) ∧ ∀ dx, H2 dx = none → dx ≠ a → D.nx σ (upd (upd H2 dx (exd dx [(f, y)])) a (exo a C (some dx)))
def spFx (K : PySem.W.Frag) (newId : String) (tl : List Value) (f : Str) : Sp := fun vs H Q _ => ∃ (a C : Addr) (y : V), vs = [.ref a, y] ∧ FxC K C newId tl ∧ PySem.W.findIn K (.ref C) f = some none ∧ H a = some (exo a C none) ∧
  ∀ dx, H dx = none → dx ≠ a → Q .non (upd (upd H dx (exd dx [(f, y)])) a (exo a C (some dx)))
section
variable {P : Program} {w : World} {K : PySem.W.Frag} {mg : Str → Option Value} {base : Heap}
theorem fn_fx {x qual m f par : Str} {tl : List Value} {nI : String} {st : Stmt} {fa : Addr} {fd : FuncData} (Fu : Fun K x qual st fa fd) (S : FnScope ["self", par] ["self", par] (defScope st))
    (hb : ∀ (cdv : Value) (A : Around) (outer : List PySem.Env) (s : Shared) (H : Hp) (E : XK), PSs (cxOf CX0 P w K mg base ["self", par] qual (defScope st) fa cdv A outer s H E).nox (defBody st) (tSeq (tDrop (tFxI K nI tl (tCons (tVar 0) (tCons (tC (.str m)) tNil)))) (tFst K nI tl f (tVar 0) (tVar 1)))) : FnOk P w K mg base CX0 1 fa fd ["self", par] (spFx K nI tl f) := by
  refine Fu.ok S (fun vs H Q E h => ?_) (fun cdv A outer s H vs Q E hr h => ?_)
  · obtain ⟨a, C, y, rfl, _⟩ := h
    rfl
  · obtain ⟨a, C, y, rfl, T, hn, e, q⟩ := h
    refine ⟨_, hb cdv A outer s H E, .ref a, rfl, ⟨a, C, [.str m], rfl, (by show 1 ≤ 1000; omega), T, e, ?_⟩⟩
    exact ⟨y, rfl, .ref a, rfl, a, C, rfl, T, hn, e, fun dx n ne => q dx n ne⟩
end
theorem fx_heap {H : Hp} {a dx : Addr} {e1 e2 e3 o : HO} (ha : H a = none) (hne : dx ≠ a) : upd (del (upd (upd (upd H a e1) dx e2) a e3) a) dx o = upd H dx o := by
  funext b
  by_cases hb : b = dx
  · rw [hb, upd_same, upd_same]
  · rw [upd_ne hb, upd_ne hb]
    by_cases hc : b = a
    · rw [hc, del_same, ha]
    · rw [del_ne hc, upd_ne hc, upd_ne hb, upd_ne hc]
end Q
/-! QX16 -/
namespace Q
open PySem L2 PySem.Spec PyProof.Rows
section
variable {X : Cx} {B : Bs} {pos : Pos} {e : Expr} {C : Addr} {f : Str}
theorem q_raiseF {W : WX} {Px : D → Ts → Prop} {as : DA} (hc : X.calm = true) (tk : Takes X W) (hE : ∀ F pa t env σ H v d dd fs, Cf X.K B F pa t env σ H → RelD X.K F pa d v → F dd = some (.xd fs) → fs.lookup f = some v → Px d t → W (.ref C) (some dd) σ H)
    (mk : PMk X e fun σ H Q => taOf X.K B as σ H fun vs H1 => ∃ y, vs = [y] ∧ ∀ d, H1 d = none → Q (.ref C) (some d) (upd H1 d (.xd [(f, y)]))) : QS X B (.Raise (some e) none pos) (dRaiseF Px as) :=
  PS.imp (ps_raise hc tk mk) fun D σ H ⟨F, pa, t, env, DD, Cc, h, R⟩ => by
    refine ⟨F, pa, t, env, _, Cc, h, fun vs ds F' pa' t' H' g C' r q => ?_⟩
    cases ds with
    | nil => exact q.elim
    | cons x ds =>
      cases ds with
      | cons _ _ => exact q.elim
      | nil =>
        obtain ⟨v, vr, rfl, rv, rr⟩ := r.inv
        obtain rfl := rr.inv0
        refine ⟨v, rfl, fun d hd => ?_⟩
        refine hE _ pa' t' env σ _ v x d [(f, v)] (C'.alloc (.xd [(f, v)]) hd).2 (RelD.mono (C'.alloc (.xd [(f, v)]) hd).1 _ _ rv) upd_same ?_ q
        simp [List.lookup]
end
theorem kit_T {K : PySem.W.Frag} {C : Addr} {T : String} (km : PySem.W.kitMeta T = true) (h : PySem.W.subIn K (.ref C) (.type T) = some true) : PySem.W.kitOne K (.ref C) (.type T) = some true := by
  show (if (Value.ref C == Value.type T) = true then some true else (if PySem.W.kitMeta T = true then PySem.W.subIn K (.ref C) (.type T) else none)) = some true
  rw [if_pos km, h]
  split <;> rfl
end Q
/-! QX17 -/
namespace Q
open PySem L2 PySem.Spec PyProof.Rows LamX
def TabK (H : Hp) (ps : Array Value) (q : Str) : Prop := TriplesOk ps.toList ∧ ∀ (pos : Pos) (cv : Value), codeAmong pos ps.toList = some cv → ∃ c, cv = .ref c ∧ H c = some (CodeO c q)
end Q
/-! QL0 -/
namespace Q
open PySem L2 PySem.Spec PyProof.Rows LamX
theorem ObX.ne_tbl {a : Addr} {o : Obj} (ps : Array Value) : ObX a o ≠ .tbl ps := fun z => by unfold ObX at z; cases z
theorem ObX.at {P : Program} {w : World} {H : Hp} {h : Heap} {a : Addr} {o : Obj} (k : HOk P w H h) (e : H a = some (ObX a o)) : h.get? a = some o := by
  obtain ⟨q, _, _⟩ := k a _ e
  exact q
theorem ObX.ok {P : Program} {w : World} {H : Hp} {h : Heap} {a : Addr} {o : Obj} (e : h.get? a = some o) : ObjOk P w H h a (ObX a o) := ⟨e, ⟨o, e⟩, fun _ _ p st => st _ p⟩
def cut (S : List Addr) (H : Hp) : Hp := fun b => if b ∈ S then none else H b
def pst (S : List Addr) (H H' : Hp) : Hp := fun b => if b ∈ S then H b else H' b
theorem cut_in {S : List Addr} {H : Hp} {b : Addr} (h : b ∈ S) : cut S H b = none := if_pos h
theorem cut_ni {S : List Addr} {H : Hp} {b : Addr} (h : b ∉ S) : cut S H b = H b := if_neg h
theorem pst_in {S : List Addr} {H H' : Hp} {b : Addr} (h : b ∈ S) : pst S H H' b = H b := if_pos h
theorem pst_ni {S : List Addr} {H H' : Hp} {b : Addr} (h : b ∉ S) : pst S H H' b = H' b := if_neg h
theorem cut_some {S : List Addr} {H : Hp} {b : Addr} {o : HO} (h : cut S H b = some o) : b ∉ S ∧ H b = some o := by
  by_cases hb : b ∈ S
  · rw [cut_in hb] at h; cases h
  · rw [cut_ni hb] at h; exact ⟨hb, h⟩
def ObsAt (S : List Addr) (H : Hp) : Prop := ∀ b ∈ S, ∃ o, H b = some (ObX b o)
section
variable {P : Program} {w : World} {fs : List Addr} {S : List Addr} {H H' : Hp} {h h' B : Heap}
theorem ObsAt.sp {o : HO} (hS : ObsAt S H) {b : Addr} (e : H b = some o) (ne : ∀ φ, o ≠ .ext φ) : b ∉ S := fun hb => by
  obtain ⟨ob, z⟩ := hS b hb
  rw [e] at z
  exact ne _ (Option.some.inj z)
theorem un_uncut (ok : HOk P w H h) (hS : ObsAt S H) (u : Un fs [] (cut S H) H' h h') (hf : ∀ b ∈ S, b ∉ fs) (ok' : HOk P w H' h') :
    (∀ b ∈ S, H' b = none) ∧ Un fs [] H (pst S H H') h h' ∧ HOk P w (pst S H H') h' := by
  have hn : ∀ b ∈ S, H' b = none := fun b hb => by
    obtain ⟨o, e⟩ := hS b hb
    exact u.free b o (ObX.at ok e) (cut_in hb) (by simp)
  have kp : ∀ b ∈ S, ∀ o, h.get? b = some o → h'.get? b = some o := fun b hb o e => u.keep b o e (cut_in hb) (hf b hb) (by simp)
  refine ⟨hn, ⟨fun b o e n => ?_, fun b o e n => ?_, fun b o e n hx => ?_, u.there, fun b xs e => ?_, fun b o v e => ?_, fun b ps e => ?_⟩, fun a o e => ?_⟩
  · have hb : b ∉ S := fun z => by obtain ⟨o, q⟩ := hS b z; rw [n] at q; cases q
    exact u.keep b o e (by rw [cut_ni hb]; exact n)
  · have hb : b ∉ S := fun z => by obtain ⟨o, q⟩ := hS b z; rw [n] at q; cases q
    exact u.slot b o e (by rw [cut_ni hb]; exact n)
  · have hb : b ∉ S := fun z => by obtain ⟨o, q⟩ := hS b z; rw [n] at q; cases q
    rw [pst_ni hb]
    exact u.free b o e (by rw [cut_ni hb]; exact n) hx
  · have hb := hS.sp e (fun _ z => by cases z)
    rw [pst_ni hb]
    exact u.tups b xs (by rw [cut_ni hb]; exact e)
  · have hb := hS.sp e (fun _ z => by cases z)
    rw [pst_ni hb]
    exact u.frzs b o v (by rw [cut_ni hb]; exact e)
  · have hb := hS.sp e (fun _ z => by cases z)
    rw [pst_ni hb]
    exact u.tbls b ps (by rw [cut_ni hb]; exact e)
  · by_cases hb : a ∈ S
    · rw [pst_in hb] at e
      obtain ⟨ob, q⟩ := hS a hb
      rw [e] at q
      cases q
      exact ObX.ok (kp a hb ob (ObX.at ok e))
    · rw [pst_ni hb] at e
      exact (ok' a o e).stay (fun _ _ _ q => q) (fun b q => by rw [pst_ni (fun z => by rw [hn b z] at q; cases q)]; exact q) fun b xs q => by rw [pst_ni (fun z => by rw [hn b z] at q; cases q)]; exact q
theorem ub_uncut (ok : HOk P w H h) (hS : ObsAt S H) (u : UB fs (cut S H) H' h B h') (hf : ∀ b ∈ S, b ∉ fs) (ok' : HOk P w H' B) :
    (∀ b ∈ S, H' b = none ∧ ∃ o, B.get? b = some o) ∧ UB fs H (pst S H H') h B h' ∧ HOk P w (pst S H H') B := by
  have kp : ∀ b ∈ S, ∀ o, h.get? b = some o → B.get? b = some o := fun b hb o e => u.keep b o e (cut_in hb) (hf b hb)
  have hn : ∀ b ∈ S, H' b = none ∧ ∃ o, B.get? b = some o := fun b hb => by
    obtain ⟨o, e⟩ := hS b hb
    exact ⟨u.free b o (ObX.at ok e) (cut_in hb), o, kp b hb o (ObX.at ok e)⟩
  refine ⟨hn, ⟨fun b o e n => ?_, u.slot, fun b o e n => ?_, u.there, fun b xs e => ?_, fun b o v e => ?_, fun b ps e => ?_⟩, fun a o e => ?_⟩
  · have hb : b ∉ S := fun z => by obtain ⟨o, q⟩ := hS b z; rw [n] at q; cases q
    exact u.keep b o e (by rw [cut_ni hb]; exact n)
  · have hb : b ∉ S := fun z => by obtain ⟨o, q⟩ := hS b z; rw [n] at q; cases q
    rw [pst_ni hb]
    exact u.free b o e (by rw [cut_ni hb]; exact n)
  · have hb := hS.sp e (fun _ z => by cases z)
    rw [pst_ni hb]
    exact u.tups b xs (by rw [cut_ni hb]; exact e)
  · have hb := hS.sp e (fun _ z => by cases z)
    rw [pst_ni hb]
    exact u.frzs b o v (by rw [cut_ni hb]; exact e)
  · have hb := hS.sp e (fun _ z => by cases z)
    rw [pst_ni hb]
    exact u.tbls b ps (by rw [cut_ni hb]; exact e)
  · by_cases hb : a ∈ S
    · rw [pst_in hb] at e
      obtain ⟨ob, q⟩ := hS a hb
      rw [e] at q
      cases q
      exact ObX.ok (kp a hb ob (ObX.at ok e))
    · rw [pst_ni hb] at e
      exact (ok' a o e).stay (fun _ _ _ q => q) (fun b q => by rw [pst_ni (fun z => by rw [(hn b z).1] at q; cases q)]; exact q) fun b xs q => by rw [pst_ni (fun z => by rw [(hn b z).1] at q; cases q)]; exact q
theorem CR.uncut {outer : List Env} {s s' : Shared} {Q Q' : VK} {E E' : XK} {r : Result} (ok : HOk P w H s.heap) (hS : ObsAt S H) (hf : ∀ b ∈ S, b ∉ frs outer)
    (hQ : ∀ v H', (∀ b ∈ S, H' b = none) → Q' v H' → Q v (pst S H H')) (hE : ∀ cls d H', (∀ b ∈ S, H' b = none) → E' cls d H' → E cls d (pst S H H')) (c : CR (L2.CX P w) outer P w (cut S H) s Q' E' r s') : CR (L2.CX P w) outer P w H s Q E r s' := by
  cases r with
  | error e =>
    obtain ⟨a, B, H', cls, d, rfl, fl, hok, ub, na, os, ag, z⟩ := (show L2.CX P w outer (cut S H) s E' e s' from c)
    obtain ⟨hn, ub', ok2⟩ := ub_uncut ok hS ub hf hok
    have ha : a ∉ S := fun y => by
      obtain ⟨_, o, q⟩ := hn a y
      have := fl.2.1
      rw [q] at this; cases this
    exact ⟨a, B, _, cls, d, rfl, fl, ok2, ub', by rw [pst_ni ha]; exact na, os, ag, hE _ _ _ (fun b hb => (hn b hb).1) z⟩
  | ok fl =>
    cases fl with
    | ret u =>
      obtain ⟨v, H', os, ag, un, hok, rv, q⟩ := (show CE outer P w (cut S H) s Q' u s' from c)
      obtain ⟨hn, un', ok2⟩ := un_uncut ok hS un hf hok
      exact ⟨v, _, os, ag, un', ok2, rv, hQ _ _ hn q⟩
    | next => exact c
    | brk => exact c
    | cont => exact c
theorem un_unadd (hS : ObsAt S H') (hN : ∀ b ∈ S, H b = none) {H1 : Hp} (h1 : ∀ b, b ∉ S → H1 b = H b) (h2 : ∀ b ∈ S, H1 b = H' b) (ok1 : HOk P w H1 h) (u : Un fs [] H1 H' h h') (hf : ∀ b ∈ S, b ∉ fs) (ok' : HOk P w H' h') :
    Un fs [] H (cut S H') h h' ∧ HOk P w (cut S H') h' := by
  have kp : ∀ b ∈ S, ∀ o, h.get? b = some o → h'.get? b = some o := fun b hb o e => by
    obtain ⟨ob, q⟩ := hS b hb
    have e1 := ObX.at ok1 ((h2 b hb).trans q)
    rw [e] at e1
    cases e1
    exact ObX.at ok' q
  have sm : ∀ b o, H b = some o → b ∉ S := fun b o e z => by rw [hN b z] at e; cases e
  refine ⟨⟨fun b o e n hf' hx => ?_, fun b o e n hf' hx => ?_, fun b o e n hx => ?_, u.there, fun b xs e => ?_, fun b o v e => ?_, fun b ps e => ?_⟩, fun a o e => ?_⟩
  · by_cases hb : b ∈ S
    · exact kp b hb o e
    · exact u.keep b o e (by rw [h1 b hb]; exact n) hf' hx
  · exact u.slot b o e (by rw [h1 b (fun z => hf b z hf')]; exact n) hf' hx
  · by_cases hb : b ∈ S
    · exact cut_in hb
    · rw [cut_ni hb]; exact u.free b o e (by rw [h1 b hb]; exact n) hx
  · have hb := sm _ _ e
    rw [cut_ni hb]; exact u.tups b xs (by rw [h1 b hb]; exact e)
  · have hb := sm _ _ e
    rw [cut_ni hb]; exact u.frzs b o v (by rw [h1 b hb]; exact e)
  · have hb := sm _ _ e
    rw [cut_ni hb]; exact u.tbls b ps (by rw [h1 b hb]; exact e)
  · obtain ⟨hb, e⟩ := cut_some e
    exact (ok' a o e).stay (fun _ _ _ q => q) (fun b q => by rw [cut_ni (hS.sp q (fun _ z => by cases z))]; exact q) fun b xs q => by rw [cut_ni (hS.sp q (fun _ z => by cases z))]; exact q
end
end Q
/-! QX18 -/
namespace Q
open PySem L2 PySem.Spec PyProof.Rows LamX
end Q
/-! QX19 -/
namespace Q
open PySem L2 PySem.Spec PyProof.Rows LamX
structure TabOf (B : Bs) (P : Addr) (q : Str) : Prop where
  m : (P, q) ∈ B.T
  x : P ∈ B.ex
  u : ∀ p ∈ B.T, p.1 = P → p.2 = q
section
variable {P : Program} {w : World} {K : PySem.W.Frag} {mg : Str → Option Value} {base : Heap}
theorem okG_at {x qual : Str} {st : Stmt} {f cA : Addr} {N ps : List Str} {k : Nat} {sp : Sp} {kV doc pm ct oc : Value} {an od : Option Addr} {osl : Array (Option Value)} (lk : K.lookup f = some ⟨oc, od, .func (PySem.W.fnOf x qual (defArgs st) (defBody st) (defScope st) .none kV doc pm an (.ref cA) ct), osl⟩) (hcd : PySem.W.codeIn K (.ref cA) qual = true)
    (S : FnScope N ps (defScope st)) (len : ∀ vs H Q E, sp vs H Q E → vs.length = ps.length)
    (hbody : ∀ (A : Around) (outer : List PySem.Env) (s : Shared) (H : Hp) (vs : List V) (Q : VK) (E : XK), RoomG k (A.deeper (envOfC qual (defScope st) s.heap.objs.size f (.ref cA))) → sp vs H Q E →
      ∃ t, PSs (cxOf CX0 P w K mg base N qual (defScope st) f (.ref cA) A outer s H E).nox (defBody st) t ∧ t { nx := fun _ H' => Q .non H', rt := Q } (start N vs) H) :
    FnOkG P w K mg base CX0 (k + 1) f (PySem.W.fnOf x qual (defArgs st) (defBody st) (defScope st) .none kV doc pm an (.ref cA) ct) ps sp where
  len := len
  goes A r outer s H e args us vs rel b R E h := by
    obtain ⟨t, ht, hq⟩ := hbody A outer s H vs R E ⟨r.room.deeper _, r.idle⟩ h
    have there : ∀ c o, base.get? c = some o → s.heap.get? c = some o := fun c o g => (e.bs c o g).1
    have inK := e.mod.kin.keeps there
    have noL := e.mod.nolimit.keeps there
    refine codeAny_call_function r.room.depth (inK f _ lk) rfl S.co S.gen rfl (PySem.W.codeRec_of inK hcd) (b _ _ _ _ ?_)
    refine wpAny_newFunctionEnv_cells S.kind (par_kind S us _) ?_
    rintro env rfl s1 made
    refine ⟨noL.keeps made.toInCall.keep, codeAny_func ?_⟩
    have go := ht.nox.run [] s1 (start N vs) H _ (inv_start S (r.room.deeper (envOfC qual (defScope st) s.heap.objs.size f (.ref cA))).hd e (len _ _ _ _ h) rel made) hq
    refine wpAny_mono go ?_ fun _ _ z => z
    rintro (_ | _ | _ | u) s' z
    · obtain ⟨σ', H', J, q⟩ := z
      exact ⟨.non, H', J.os, J.bare, J.base, J.hok, rfl, q⟩
    · obtain ⟨_, _, _, q⟩ := z
      exact q.elim
    · obtain ⟨_, _, _, q⟩ := z
      exact q.elim
    · obtain ⟨v, σ', H', J, rv, q⟩ := z
      exact ⟨v, H', J.os, J.bare, J.base, J.hok, rv, q⟩
end
def TabAt (K : PySem.W.Frag) (fb : Addr) (h : Heap) : Prop := ∀ (c P : Addr) (o : Obj) (fd : FuncData) (e : Value) (dd : Option Addr) (vs : Array Value) (sl : Array (Option Value)), K.lookup fb = some o → o.data = .func fd → fd.code = .ref c → K.lookup c = some ⟨e, dd, .fields vs, sl⟩ → vs[11]? = some (.ref P) →
  h.get? P = some { cls := .none, data := .fields #[] }
theorem codeTab_ex {K : PySem.W.Frag} {c P : Addr} (e : PySem.W.codeHdIn K c P = true) : ∃ (cl : Value) (dd : Option Addr) (vs : Array Value) (sl : Array (Option Value)), K.lookup c = some ⟨cl, dd, .fields vs, sl⟩ ∧ vs[11]? = some (.ref P) := by
  unfold PySem.W.codeHdIn at e
  split at e
  · rename_i vs sl hk
    refine ⟨_, _, vs, sl, hk, ?_⟩
    simp only [Bool.and_eq_true] at e
    obtain ⟨⟨⟨⟨⟨e1, _⟩, _⟩, _⟩, _⟩, _⟩ := e
    split at e1
    · rename_i P' h
      rw [h, beq_iff_eq.mp e1]
    · cases e1
  · cases e
theorem TabAt.at {K : PySem.W.Frag} {fb c P : Addr} {h : Heap} {fd : FuncData} {oc : Value} {od : Option Addr} {osl : Array (Option Value)} (t : TabAt K fb h) (lk : K.lookup fb = some ⟨oc, od, .func fd, osl⟩) (hc : fd.code = .ref c) (e : PySem.W.codeHdIn K c P = true) : h.get? P = some { cls := .none, data := .fields #[] } := by
  obtain ⟨cl, dd, vs, sl, e1, e2⟩ := codeTab_ex e
  exact t c P _ fd cl dd vs sl lk rfl hc e1 e2
end Q
/-! QX20 -/
namespace Q
open PySem L2 PySem.Spec PyProof.Rows LamX
end Q
/-! QX21 -/
namespace Q
open PySem L2 PySem.Spec PyProof.Rows LamX
def B0T (F : Hp) (pa : Option Addr) (t : Ts) (H : Hp) (Pt : Addr) (q0 : Str) : Bs := ⟨F, H, Pt :: pa.toList, pa, false, [(Pt, q0)], t.dom⟩
section
variable {K : PySem.W.Frag} {B : Bs} {F : Hp} {pa : Option Addr} {t : Ts} {env : En} {σ : L2.St} {H : Hp} {Pt : Addr} {q0 : Str}
theorem TabOf.nt (T : TabOf B Pt q0) (C : Cf K B F pa t env σ H) : F Pt = none ∧ ∃ ps, H Pt = some (.tbl ps) ∧ TriplesOk ps.toList ∧ ∀ (pos : Pos) (cv : Value), codeAmong pos ps.toList = some cv → ∃ c, cv = .ref c ∧ F c = some (CodeO c q0) := (C.tab _ T.m).2
theorem pen_nt (C : Cf K B F pa t env σ H) {a : Addr} {ps : Array Value} (e : H a = some (.tbl ps)) : pa ≠ some a := fun y => by
  obtain ⟨_, ⟨u, q, ca, w, _⟩, _⟩ := C.pen a y
  rw [e] at q
  subst w
  cases q
theorem obs_nt (C : Cf K B F pa t env σ H) {a : Addr} {ps : Array Value} (e : H a = some (.tbl ps)) : t.obs a = none := by
  cases q : t.obs a with
  | none => rfl
  | some d =>
    obtain ⟨_, ⟨u, q2, r⟩, _⟩ := C.obs a d q
    rw [e] at q2
    exact absurd (Option.some.inj q2).symm (r.ntb ps)
theorem Cf.callT (C : Cf K B F pa t env σ H) (T : TabOf B Pt q0) : Cf K (B0T F pa t H Pt q0) F pa t [] [] H := by
  have C2 := C.call
  obtain ⟨f1, ps, e1, t1, o1⟩ := T.nt C
  refine ⟨rfl, C2.sub, C2.bas, fun a o e _ _ => e, C2.new, fun a ha => ?_, C2.val, fun i d e => by simp at e, C2.sep, fun a e => ?_, rfl, fun p hp => ?_, C2.ntb, C2.obs, C2.obx, fun i d a e => by simp at e⟩
  · rcases List.mem_cons.mp ha with z | z
    · rw [z]; exact ⟨_, e1⟩
    · exact C2.exl a z
  · obtain ⟨h1, h2, h3⟩ := C2.pen a e
    exact ⟨h1, h2, h3.imp (List.mem_cons_of_mem _) id⟩
  · have hp : p = (Pt, q0) := List.mem_singleton.mp hp
    subst hp
    exact ⟨by show H Pt ≠ none; rw [e1]; simp, f1, ps, e1, t1, o1⟩
theorem Cf.afterT {F' : Hp} {pa' : Option Addr} {t' : Ts} {H' : Hp} (C : Cf K B F pa t env σ H) (T : TabOf B Pt q0) (C' : Cf K (B0T F pa t H Pt q0) F' pa' t' [] [] H') : Gr F pa F' pa' ∧ Cf K B F' pa' t' env σ H' := by
  have g : Gr F pa F' pa' := ⟨C'.bas, C'.pnn⟩
  obtain ⟨f1, ps, e1, t1, o1⟩ := T.nt C
  obtain ⟨_, f2, ps2, e2, t2, o2⟩ := C'.tab (Pt, q0) (List.mem_singleton.mpr rfl)
  have kp : ∀ a o, H a = some o → a ≠ Pt → pa ≠ some a → t.obs a = none → H' a = some o := fun a o e n m no => C'.frm a o e (fun z => by
    rcases List.mem_cons.mp z with z | z
    · exact n z
    · exact m (mem_pa.mp z)) (fun ⟨d, z⟩ => by rw [no] at z; cases z)
  have nf : ∀ a o, H a = some o → F a = none → F' a = none := fun a o e n => by
    cases q : F' a with
    | none => rfl
    | some u =>
      rcases C'.new a u q with ⟨u', z⟩ | z
      · have z : F a = some u' := z
        rw [n] at z; cases z
      · have z : H a = none := z
        rw [e] at z; cases z
  have al : ∀ a o, H a = some o → ∃ o', H' a = some o' := fun a o e => by
    by_cases hp : pa = some a
    · obtain ⟨_, ⟨h, q, _⟩, _⟩ := C'.pen a ((show pa' = pa from g.p).trans hp)
      exact ⟨h, q⟩
    · by_cases hb : a = Pt
      · rw [hb]; exact ⟨_, e2⟩
      · cases z : t.obs a with
        | none => exact ⟨o, kp a o e hb hp z⟩
        | some d =>
          obtain ⟨d', q'⟩ := C'.obx a ⟨d, z⟩
          obtain ⟨_, ⟨u, y, _⟩, _⟩ := C'.obs a d' q'
          exact ⟨u, y⟩
  refine ⟨g, ⟨C.len, C'.sub, fun a o e => g.f _ _ (C.bas a o e), fun a o e hx hO => ?_, fun a o e => ?_, fun a ha => ?_, fun i d e => ?_, fun i d e => ?_, C.sep, fun a e => ?_, (show pa' = pa from g.p).trans C.pnn, fun p hp => ?_, C'.ntb, fun a d q => ?_, fun a q => C'.obx a (C.obx a q), fun i d a e s => ?_⟩⟩
  · refine kp a o (C.frm a o e hx hO) (fun z => hx (by rw [z]; exact T.x)) (fun z => ?_) ?_
    · rcases (C.pen a z).2.2 with q | q
      · exact hx q
      · rw [q] at e; cases e
    · cases q : t.obs a with
      | none => rfl
      | some d =>
        rcases (C.obs a d q).2.2.2.1 with z | z
        · exact absurd z hO
        · rw [z] at e; cases e
  · rcases C'.new a o e with ⟨o', q⟩ | q
    · exact C.new a o' q
    · exact .inr (C.fresh q).2.1
  · obtain ⟨o, q⟩ := C.exl a ha
    exact al a o q
  · obtain ⟨v, h1, h2⟩ := C.val i d e
    exact ⟨v, h1, RelD.mono g d v h2⟩
  · obtain ⟨a, h, h1, h2, h3, h4, h5, h6⟩ := C.own i d e
    have na : a ≠ Pt := fun z => by rw [z, e1] at h2; exact h3.ntb ps (Option.some.inj h2).symm
    refine ⟨a, h, h1, kp a h h2 na h5 (C.osp i d a e h1), RelO1.mono g d h h3, nf a h h2 h4, fun z => h5 ((show pa' = pa from g.p).symm.trans z), h6⟩
  · obtain ⟨h1, h2, h3⟩ := C'.pen a e
    exact ⟨h1, h2, (C.pen a ((show pa' = pa from g.p).symm.trans e)).2.2⟩
  · obtain ⟨b1, fp, qs, ep, tp, op⟩ := C.tab p hp
    by_cases hb : p.1 = Pt
    · rw [hb, T.u p hp hb]
      rw [hb] at b1
      exact ⟨b1, f2, ps2, e2, t2, o2⟩
    · refine ⟨b1, nf _ _ ep fp, qs, kp _ _ ep hb (pen_nt C ep) (obs_nt C ep), tp, fun pos cv hc => ?_⟩
      obtain ⟨c, z1, z2⟩ := op pos cv hc
      exact ⟨c, z1, g.f _ _ z2⟩
  · obtain ⟨h1, h2, h3, h4, h5⟩ := C'.obs a d q
    refine ⟨h1, h2, h3, ?_, h5⟩
    rcases h4 with ⟨d0, z⟩ | z
    · exact (C.obs a d0 z).2.2.2.1
    · exact .inr (C.fresh z).2.1
  · cases q : t'.obs a with
    | none => rfl
    | some d' =>
      rcases (C'.obs a d' q).2.2.2.1 with ⟨d0, z⟩ | z
      · rw [C.osp i d a e s] at z; cases z
      · obtain ⟨a', h, h1, h2, _⟩ := C.own i d e
        rw [s] at h1; cases h1
        have z : H a = none := z
        rw [h2] at z; cases z
end
def liftT (K : PySem.W.Frag) (Pt : Addr) (q0 : Str) (sp : PSp) : Sp := fun vs H Q E => ∃ F pa t ds P, Cf K (B0T F pa t H Pt q0) F pa t [] [] H ∧ RelL K F pa ds vs ∧ sp ds t P ∧
  ∀ v d F' pa' t' H', Cf K (B0T F pa t H Pt q0) F' pa' t' [] [] H' → RelD K F' pa' d v → P d t' → Q v H'
section
variable {X : Cx} {CX : CXT} {B : Bs} {k : Nat} {f Pt : Addr} {q0 : Str} {fd : FuncData} {ps : List Str} {sp : PSp} {E : XK} {x : Str} {p pos : Pos} {e : Expr} {es : List Expr} {as : DA}
theorem q_callT (T : TabOf B Pt q0) (F : FnOk X.prog X.w X.K X.mg X.base CX k f fd ps (liftT X.K Pt q0 sp)) (hr : Room k X.A) (hg : Gl X x) (hm : X.mg x = some (.ref f)) (hk : PySem.W.keepIn X.K (.ref f) = true) (hb : Binds X.K fd ps []) (hx : Passes CX X E)
    (ha : QA X B (e :: es) as) (hdb : (x == ("__debug__" : Str)) = false := by decide) (he : starEach (e :: es) X.env = (false, eval e X.env) :: starEach es X.env := by rfl) (hpl : (backTo pos (starEach es X.env)).any (·.1) = false := by rfl) :
    QE X B (.Call (.Name x p) (e :: es) [] pos) (dCall sp [] as) := PE.imp (pe_call F hr hg hm hk hb .nil hx ha hdb he hpl) fun σ H Q ⟨F0, pa, t, env, P, C, h, k⟩ =>
  ⟨F0, pa, t, env, _, C, h, fun vs ds F1 pa1 t1 H1 g1 C1 r1 q1 => ⟨F1, pa1, t1, ds, P, C1.callT T, by simpa using r1, by simpa using q1, fun v d F' pa' t' H' C' r' q' => by
    obtain ⟨g, W2⟩ := C1.afterT T C'
    exact k v d F' pa' t' H' (g1.trans g) W2 r' q'⟩⟩
end
section
variable {P : Program} {w : World} {K : PySem.W.Frag} {mg : Str → Option Value} {base : Heap}
theorem cf_startB {B : Bs} {F : Hp} {pa : Option Addr} {t : Ts} {H : Hp} {N : List Str} {ds : List D} {vs : List V} (C : Cf K B F pa t [] [] H) (r : RelL K F pa ds vs) : Cf K B F pa t (start0 N ds) (start N vs) H := by
  have hl := r.len
  have val : ∀ (i : Nat) (d : D), (start0 N ds)[i]? = some (Sl.val d) → ds[i]? = some d := fun i d e => by
    unfold start0 at e
    by_cases hi : i < ds.length
    · rw [List.getElem?_append_left (by simpa using hi), List.getElem?_map] at e
      cases q : ds[i]? with
      | none => rw [q] at e; cases e
      | some x => rw [q] at e; cases e; rfl
    · rw [List.getElem?_append_right (by simpa using hi), List.getElem?_replicate] at e
      split at e <;> cases e
  have noown : ∀ (i : Nat) (d : D), (start0 N ds)[i]? ≠ some (Sl.own d) := fun i d e => by
    unfold start0 at e
    by_cases hi : i < ds.length
    · rw [List.getElem?_append_left (by simpa using hi), List.getElem?_map] at e
      cases q : ds[i]? with
      | none => rw [q] at e; cases e
      | some x => rw [q] at e; cases e
    · rw [List.getElem?_append_right (by simpa using hi), List.getElem?_replicate] at e
      split at e <;> cases e
  refine ⟨by simp [start0, L2.start, hl], C.sub, C.bas, C.frm, C.new, C.exl, fun i d e => ?_, fun i d e => absurd e (noown i d), fun i j d e a q => absurd q (noown i d), C.pen, C.pnn, C.tab, C.ntb, C.obs, C.obx, fun i d a q => absurd q (noown i d)⟩
  obtain ⟨v, h1, h2⟩ := r.get (val i d e)
  refine ⟨v, ?_, h2⟩
  unfold L2.start
  have hi : i < vs.length := (List.getElem?_eq_some_iff.mp h1).1
  rw [List.getElem?_append_left (by simpa using hi), List.getElem?_map, h1]
  rfl
end
end Q
/-! QX22 -/
namespace Q
open PySem L2 PyProof.Rows
end Q
/-! QX23 -/
namespace Q
open PySem L2 PyProof.Rows
end Q
/-! QX25 -/
namespace Q
open PySem L2 PySem.Spec PyProof.Rows LamX
end Q
/-! QO1 -/
namespace L2
open PySem PySem.Spec PyProof.Rows
end L2
namespace Q
open PySem L2 PyProof.Rows
end Q
/-! QO2 -/
namespace Q
open PySem L2 PyProof.Rows
section
variable {K : PySem.W.Frag} {X : Cx} {B : Bs} {a b e o : Expr} {da db dk : DE} {pos apos p : Pos}
theorem q_sliceS {lo hi : Option Expr} {dl dh : DO} {p2 : Pos} (ha : QV X B a da) (hl : QO X B lo dl) (hh : QO X B hi dh) : QE X B (.Subscript a (.Slice lo hi none p2) pos) (dSliceS da dl dh) := PE.imp (pe_slice sl_str ha hl hh) fun σ H Q ⟨F, pa, t, env, P, C, hd, k⟩ =>
  ⟨F, pa, t, env, _, C, hd, fun v x F1 pa1 t1 H1 g1 C1 r1 q1 => ⟨F1, pa1, t1, env, _, C1, q1, fun l F2 pa2 t2 H2 g2 C2 q2 => ⟨F2, pa2, t2, env, _, C2, q2, fun h F3 pa3 t3 H3 g3 C3 q3 => by
    cases x with
    | str z =>
      obtain ⟨hz, q3⟩ := q3
      refine ⟨z, ((r1.mono g2).mono g3).str C3, zle hz, ?_⟩
      have e : cutS z l h = cutT z l h := by
        unfold cutS cutT
        rw [sIx_eq, sIx_eq]
      rw [e]
      exact k _ (.str (cutT z l h)) F3 pa3 t3 H3 ((g1.trans g2).trans g3) C3 (rD_str _) q3
    | _ => exact q3.elim⟩⟩⟩
end
end Q
/-! QO3 -/
namespace Q
open PySem L2 PyProof.Rows
end Q
/-! QX3 -/
namespace Q
open PySem L2 PyProof.Rows
end Q
/-! QX4 -/
namespace Q
open PySem
open Sem (wp)
open L2 PyProof.Rows
section
variable {X : Cx} {CX : CXT} {k n : Nat} {f : Addr} {fd : FuncData} {ps ks : List Str} {sp : Sp} {E : L2.St → XK} {x : Str} {p pos : Pos} {e : Expr} {es : List Expr} {kws : List Keyword} {t tk : TA} {g : List Value → List Value → List Value} {gV : List V → List V → List V}
def tCallNS (n m : Nat) (sp : Sp) (gV : List V → List V → List V) (E : L2.St → XK) (t tk : TA) : TE := fun σ H Q => t σ H fun vs H1 => tk σ H1 fun zs H2 => vs.length = n ∧ zs.length = m ∧ sp (gV vs zs) H2 Q (E σ)
theorem run_fnNS {pins : List (Addr × Obj)} {σ : L2.St} {H : Hp} {s : Shared} {Q : VK} {us ws : List Value} {vs zs : List V} (F : FnOk X.prog X.w X.K X.mg X.base CX k f fd ps sp) (hr : Room k X.A) (hb : KBn X.K fd ps n ks g gV) (hx : PassesAt CX X σ (E σ))
    (I : Inv X pins σ H s) (r : Vals vs us) (rz : Vals zs ws) (l1 : vs.length = n) (l2 : zs.length = ks.length) (h : sp (gV vs zs) H Q (E σ)) : wpAny (model X.prog X.w) X.A (call (.ref f) us (ks.zip ws)) (EP X pins σ Q) X.xe s := by
  have r2 := hb.rel r rz
  refine wpAny_call (codeAny_mono (F.run X.A X.stack s H ⟨us, ks.zip ws⟩ (g us ws) (gV vs zs) Q (E σ) hr I.env0 (hb.to s us ws I.kIn (r.length.symm.trans l1) (rz.length.symm.trans l2)) r2 h) fun r s' hq => ?_)
  cases r with
  | error e => exact hx pins H s e s' I hq
  | ok fl =>
    cases fl with
    | ret u => exact I.after hq
    | next => exact False.elim hq
    | brk => exact False.elim hq
    | cont => exact False.elim hq
theorem pe_callNS (F : FnOk X.prog X.w X.K X.mg X.base CX k f fd ps sp) (hr : Room k X.A) (hg : Gl X x) (hm : X.mg x = some (.ref f)) (hk : PySem.W.keepIn X.K (.ref f) = true) (hb : KBn X.K fd ps n ks g gV) (hx : ∀ σ, PassesAt CX X σ (E σ))
    (ha : PA X (e :: es) t) (hkw : PK X kws tk) (hall : (backToKw pos (keywordEach kws X.env)).all (·.1.isSome) = true := by rfl) (hks : (backToKw pos (keywordEach kws X.env)).filterMap (·.1) = ks := by rfl)
    (hdb : (x == ("__debug__" : Str)) = false := by decide) (he : starEach (e :: es) X.env = (false, eval e X.env) :: starEach es X.env := by rfl)
    (hpl : ((backTo pos (starEach (e :: es) X.env)).any (·.1) || (backToKw pos (keywordEach kws X.env)).any (·.1.isNone)) = false := by rfl) :
    PE X (.Call (.Name x p) (e :: es) kws pos) (tCallNS n ks.length sp gV E t tk) := by
  refine ⟨fun pins s σ H Q I h => ?_⟩
  refine wpAny_Call_Name_kw (ld_glob I hg hm ?_ hdb)
  refine PySem.W.callWith_KW (h₀ := X.base) I.ok.mod.kin hk hall (thn (ha.run pos pins s σ H _ I h) fun us s1 ⟨vs, H1, I1, r, q⟩ => ?_) hpl he
  refine thn (hkw.run pos pins s1 σ H1 _ I1 q) fun ws s2 ⟨zs, H2, I2, rz, l1, l2, q2⟩ => ⟨I2.kIn, ?_⟩
  rw [hks]
  exact run_fnNS F hr hb (hx σ) I2 r rz l1 l2 q2
end
section
variable {X : Cx} {K : PySem.W.Frag} {B : Bs} {CX : CXT} {k n : Nat} {f : Addr} {fd : FuncData} {ps ks : List Str} {sp : Sp} {E : L2.St → XK} {x : Str} {p pos : Pos} {e : Expr} {es : List Expr} {kws : List Keyword} {as bs : DA} {ix : List Nat}
theorem ev_callPS {m : Nat} : ∀ σ H Q, tCallS sp E (taOf K B (dKP n m ix as bs)) σ H Q → tCallNS n m sp (gP ix) E (taOf K B as) (taOf K B bs) σ H Q := fun σ H Q ⟨F, pa, t, env, P, W, h, k⟩ =>
  ⟨F, pa, t, env, _, W, h, fun vs xs F1 pa1 t1 H1 g1 W1 r1 q1 => ⟨F1, pa1, t1, env, _, W1, q1, fun zs ys F2 pa2 t2 H2 g2 W2 r2 q2 => by
    cases e1 : Nat.beq xs.length n with
    | false => rw [e1] at q2; exact q2.elim
    | true =>
      cases e2 : Nat.beq ys.length m with
      | false => rw [e1, e2] at q2; exact q2.elim
      | true =>
        rw [e1, e2] at q2
        have l1 := Nat.eq_of_beq_eq_true e1
        have l2 := Nat.eq_of_beq_eq_true e2
        exact ⟨r1.len.trans l1, r2.len.trans l2, k _ _ F2 pa2 t2 H2 (g1.trans g2) W2 ((RelL.mono g2 _ _ r1).append (relL_pick r2 ix)) q2⟩⟩⟩
theorem pe_callPS {m : Nat} (F : FnOk X.prog X.w X.K X.mg X.base CX k f fd ps sp) (hr : Room k X.A) (hg : Gl X x) (hm : X.mg x = some (.ref f)) (hk : PySem.W.keepIn X.K (.ref f) = true) (hb : KBn X.K fd ps n ks (gP ix) (gP ix)) (hx : ∀ σ, PassesAt CX X σ (E σ))
    (ha : QA X B (e :: es) as) (hkw : QK X B kws bs) (hlen : ks.length = m := by rfl) (hall : (backToKw pos (keywordEach kws X.env)).all (·.1.isSome) = true := by rfl) (hks : (backToKw pos (keywordEach kws X.env)).filterMap (·.1) = ks := by rfl)
    (hdb : (x == ("__debug__" : Str)) = false := by decide) (he : starEach (e :: es) X.env = (false, eval e X.env) :: starEach es X.env := by rfl)
    (hpl : ((backTo pos (starEach (e :: es) X.env)).any (·.1) || (backToKw pos (keywordEach kws X.env)).any (·.1.isNone)) = false := by rfl) :
    PE X (.Call (.Name x p) (e :: es) kws pos) (tCallS sp E (taOf X.K B (dKP n m ix as bs))) := by
  subst hlen
  exact PE.imp (pe_callNS F hr hg hm hk hb hx ha hkw hall hks hdb he hpl) ev_callPS
end
end Q
/-! QX5 -/
namespace Q
open PySem L2 PyProof.Rows
section
variable {X : Cx} {K : PySem.W.Frag} {B : Bs} {CX : CXT} {k : Nat} {f : Addr} {fd : FuncData} {ps : List Str} {sp : Sp} {E : L2.St → XK} {x : Str} {p pos : Pos} {e : Expr} {es : List Expr} {as bs : DA} {ds : List Value} {dvs : List V} {dds : List D}
theorem ev_callDS (hd : ∀ F pa, RelL K F pa dds dvs) : ∀ σ H Q, tCallS sp E (taOf K B (dKD dds as)) σ H Q → tCallSD sp dvs E (taOf K B as) σ H Q := fun σ H Q ⟨F, pa, t, env, P, W, h, k⟩ =>
  ⟨F, pa, t, env, _, W, h, fun vs xs F1 pa1 t1 H1 g1 W1 r1 q1 => k _ _ F1 pa1 t1 H1 g1 W1 (r1.append (hd _ _)) q1⟩
theorem pe_callDS (F : FnOk X.prog X.w X.K X.mg X.base CX k f fd ps sp) (hr : Room k X.A) (hg : Gl X x) (hm : X.mg x = some (.ref f)) (hk : PySem.W.keepIn X.K (.ref f) = true) (hb : Binds X.K fd ps ds) (hd : Vals dvs ds) (hd2 : ∀ F pa, RelL X.K F pa dds dvs) (hx : ∀ σ, PassesAt CX X σ (E σ))
    (ha : QA X B (e :: es) as) (hdb : (x == ("__debug__" : Str)) = false := by decide) (he : starEach (e :: es) X.env = (false, eval e X.env) :: starEach es X.env := by rfl) (hpl : (backTo pos (starEach es X.env)).any (·.1) = false := by rfl) :
    PE X (.Call (.Name x p) (e :: es) [] pos) (tCallS sp E (taOf X.K B (dKD dds as))) := PE.imp (pe_callSD F hr hg hm hk hb hd hx ha hdb he hpl) (ev_callDS hd2)
end
end Q
/-! QO4 -/
namespace Q
open PySem PySem.Spec PyProof.Rows L2
end Q
namespace Q
open PySem L2 PySem.Spec PyProof.Rows LamX
end Q
/-! QX6 -/
namespace Q
open PySem L2 PyProof.Rows
end Q
/-! QX7 -/
namespace Q
open PySem L2 PyProof.Rows
end Q
/-! QX8 -/
namespace PySem.W
open PySem PyProof.Rows
end PySem.W
namespace Q
open PySem L2 PyProof.Rows
end Q
/-! QO5 -/
namespace Q
open PySem L2 PyProof.Rows
end Q
/-! QO6 -/
namespace Q
open PySem PySem.Spec PyProof.Rows L2
section
variable {K : PySem.W.Frag} {B : Bs} {F : Hp} {pa : Option Addr} {t : Ts} {env : En} {σ : L2.St} {H H' : Hp}
theorem Cf.ext (C : Cf K B F pa t env σ H) (kp : Ext H H') : Cf K B F pa t env σ H' := by
  refine ⟨C.len, fun a u e => kp _ _ (C.sub a u e), C.bas, fun a u e hx ho => kp _ _ (C.frm a u e hx ho), C.new, fun a ha => ?_, C.val, fun i d e => ?_, C.sep, fun a e => ?_, C.pnn, C.tab.hs (fun q _ ps e => kp _ _ e), C.ntb, fun a d e => by
    obtain ⟨h1, ⟨u, h2, h3⟩, h4⟩ := C.obs a d e
    exact ⟨h1, ⟨u, kp _ _ h2, h3⟩, h4⟩, C.obx, C.osp⟩
  · obtain ⟨u, q⟩ := C.exl a ha
    exact ⟨u, kp _ _ q⟩
  · obtain ⟨a, u, h1, h2, h3⟩ := C.own i d e
    exact ⟨a, u, h1, kp _ _ h2, h3⟩
  · obtain ⟨h1, ⟨u, h2, h3⟩, h4⟩ := C.pen a e
    exact ⟨h1, ⟨u, kp _ _ h2, h3⟩, h4⟩
end
end Q
/-! QO7 -/
namespace Q
open PySem PySem.Spec PyProof.Rows L2
end Q
/-! QO8 -/
namespace Q
open PySem L2 PySem.Spec PyProof.Rows LamX
def tbs (ts : List (Addr × Str)) : List Addr := ts.map (·.1)
theorem two_tabs {P0 P1 : Addr} {q0 q1 : Str} (h : P0 ≠ P1) : ∀ p ∈ [(P0, q0), (P1, q1)], ∀ q ∈ [(P0, q0), (P1, q1)], q.1 = p.1 → q.2 = p.2 := fun p hp q hq e => by
  simp only [List.mem_cons, List.not_mem_nil, or_false] at hp hq
  rcases hp with rfl | rfl <;> rcases hq with rfl | rfl
  · rfl
  · exact absurd e.symm h
  · exact absurd e h
  · rfl
section
variable {P : Program} {w : World} {K : PySem.W.Frag} {mg : Str → Option Value} {base : Heap}
def spLawTs (K : PySem.W.Frag) (ts : List (Addr × Str)) : Sp := fun vs H Q _ => ∃ (a : Addr) (ns : List Int), vs = [.ref a] ∧ (∀ b, b ∉ tbs ts → H b = none ∨ ∃ o xs, H b = some (.frz o (.lst xs))) ∧ (∀ b ∈ tbs ts, H b = some (.tbl #[])) ∧ SqL K H a (ns.map V.int) ∧ ns.length ≤ 63 ∧ ∀ H', Q (.bl true) H'
theorem law_bodyTs {qual : Str} {st : Stmt} {f : Addr} {N : List Str} {i : Nat} {s0 : Stmt} {rest : List Stmt} {dp : DE} {ds : DS} (hst : defBody st = s0 :: rest) {cdv : Value} {A : Around} {outer : List PySem.Env} {s : Shared} {H : Hp} {vs : List V} {Q : VK} {E : XK}
    (hfirst : ∀ B : Bs, PS (cxOf CX0 P w K mg base N qual (defScope st) f cdv A outer s H E).nox s0 (tAsg (tnOf K B dp) (L2.gName i)))
    {ts : List (Addr × Str)} (hu : ∀ p ∈ ts, ∀ q ∈ ts, q.1 = p.1 → q.2 = p.2) (hbody : ∀ B : Bs, B.Top → B.m = false → (∀ p ∈ ts, TabOf B p.1 p.2) → QSs (cxOf CX0 P w K mg base N qual (defScope st) f cdv A outer s H E).nox B rest ds)
    (hi : i ≠ 0 ∧ i < N.length) (tape : Bool)
    (hds : ∀ ns : List Int, ns.length ≤ 63 → dp (start0 N [.scr ns]) ⟨[], 0, 0, false, noObs⟩ fun d _ => ∃ cs : List Int, d = .dic (if tape then [.inr "cells", .inr "turn", .inr "rest"] else [.inr "cells", .inr "at", .inr "left"]) [.lst (cs.map .int), .int 0, .int 0] ∧ cs.length ≤ 63 ∧
      ds (endsOf fun d _ => d = .bl true) ((start0 N [.scr ns]).set i (.val .pen)) ⟨cs, 0, 0, tape, noObs⟩) (h : spLawTs K ts vs H Q E) :
    ∃ t, PSs (cxOf CX0 P w K mg base N qual (defScope st) f cdv A outer s H E).nox (defBody st) t ∧ t { nx := fun _ H' => Q .non H', rt := Q } (start N vs) H := by
  obtain ⟨a, ns, rfl, hO, hP, hS, hl, fin⟩ := h
  let Hs : Hp := fun b => if b ∈ tbs ts then none else H b
  have hs1 : ∀ {b o}, Hs b = some o → b ∉ tbs ts ∧ H b = some o := fun {b o} e => by
    by_cases hb : b ∈ tbs ts
    · rw [show Hs b = none from if_pos hb] at e; cases e
    · rw [show Hs b = H b from if_neg hb] at e; exact ⟨hb, e⟩
  have hSs : SqL K Hs a (ns.map V.int) := by
    rcases hS with (z | ⟨o, z⟩) | z
    · have n : a ∉ tbs ts := fun e => by rw [hP a e] at z; cases z
      exact .inl (.inl ((if_neg n).trans z))
    · have n : a ∉ tbs ts := fun e => by rw [hP a e] at z; cases z
      exact .inl (.inr ⟨o, (if_neg n).trans z⟩)
    · exact .inr z
  let BHt : Hp := fun b => if b ∈ tbs ts then some (.tbl #[]) else none
  rw [hst]
  have hall : PSs (cxOf CX0 P w K mg base N qual (defScope st) f cdv A outer s H E).nox rest (fun De σ H' => ∃ p' : Addr, tsOf K ⟨fun _ => none, BHt, tbs ts, some p', false, ts, fun _ => False⟩ ds De σ H') := ⟨fun pins s' σ H' De I ⟨p', q⟩ => (hbody ⟨fun _ => none, BHt, tbs ts, some p', false, ts, fun _ => False⟩ (fun a ha => by
    obtain ⟨p, hp, e⟩ := List.mem_map.mp ha
    exact .inr ⟨p, hp, e⟩) rfl fun p hp => ⟨hp, List.mem_map_of_mem hp, fun q hq e => hu p hp q hq e⟩).run pins s' σ H' De I q⟩
  refine ⟨_, pss_cons (hfirst (B0 Hs none ⟨[], 0, 0, false, noObs⟩ H)) hall, ?_⟩
  have C0 : Cf K (B0 Hs none ⟨[], 0, 0, false, noObs⟩ H) Hs none ⟨[], 0, 0, false, noObs⟩ [] [] H := ⟨rfl, fun _ _ e => (hs1 e).2, fun _ _ e => e, fun _ _ e _ _ => e, fun a o e => .inl ⟨o, e⟩, fun a ha => by simp [B0] at ha, fun i d e => by simp at e, fun i d e => by simp at e, fun i j d e a q => by simp at q, fun a e => by simp at e, rfl, TabF.nil, fun a ps e => by
    obtain ⟨n, e⟩ := hs1 e
    rcases hO a n with z | ⟨o, xs, z⟩ <;> rw [z] at e <;> simp at e, fun a d e => (nomatch e), fun a e => e, fun i d a e => by simp at e⟩
  have rs : RelL K Hs none [.scr ns] [.ref a] := .cons (by unfold RelD; exact ⟨a, rfl, hSs⟩) .nil
  refine ⟨Hs, none, _, _, _, cf_start C0 rs, hds ns hl, fun p' h d F' pa' t' H' g C' n e r q => ?_⟩
  obtain ⟨cs, rfl, hcs, q⟩ := q
  obtain ⟨us, rfl, hlen, rl⟩ := r
  obtain ⟨v1, u1, rfl, r1, rl⟩ := rl.inv
  obtain ⟨v2, u2, rfl, r2, rl⟩ := rl.inv
  obtain ⟨v3, u3, rfl, r3, rl⟩ := rl.inv
  obtain rfl := rl.inv0
  unfold RelD at r1 r2 r3
  obtain ⟨ca, us, rfl, ec, rl4⟩ := r1
  subst r2 r3
  have eu : us = cs.map V.int := by
    have : ∀ {cs : List Int} {vs : List V}, RelL K F' pa' (cs.map .int) vs → vs = cs.map V.int := by
      intro cs
      induction cs with
      | nil => intro vs r; exact r.inv0
      | cons c cs ih =>
        intro vs r
        obtain ⟨v, vr, rfl, r1, r2⟩ := RelL.inv (show RelL K F' pa' (D.int c :: cs.map .int) vs from r)
        unfold RelD at r1
        rw [r1, ih r2]; rfl
    exact this rl4
  subst eu
  have C2 : Cf K ⟨fun _ => none, BHt, tbs ts, some p', false, ts, fun _ => False⟩ F' (some p') ⟨cs, 0, 0, tape, noObs⟩ ((start0 N [.scr ns]).set i (.val .pen)) ((start N [.ref a]).set i (some (.ref p'))) H' := by
    have noown : ∀ (j : Nat) (d : D), ((start0 N [.scr ns]).set i (.val .pen))[j]? ≠ some (Sl.own d) := fun j d e => by
      rcases get_set e with ⟨_, z⟩ | ⟨_, z⟩
      · cases z
      · have : ∀ (j : Nat) (d : D), (start0 N [.scr ns])[j]? ≠ some (Sl.own d) := fun j d e => by
          unfold start0 at e
          cases j with
          | zero => simp at e
          | succ j =>
            simp [List.getElem?_replicate] at e
        exact this j d z
    have hP' : ∀ b ∈ tbs ts, H' b = some (.tbl #[]) := fun b hb => C'.frm b _ (hP b hb) (by simp [B0]) (fun ⟨d, z⟩ => (nomatch z))
    have fP : ∀ b ∈ tbs ts, F' b = none := fun b hb => by
      cases qq : F' b with
      | none => rfl
      | some u =>
        rcases C'.new b u qq with ⟨o', y⟩ | y
        · have y : Hs b = some o' := y
          rw [show Hs b = none from if_pos hb] at y; cases y
        · have y : H b = none := y
          rw [hP b hb] at y; cases y
    have bh : ∀ {b : Addr}, b ∉ tbs ts → BHt b = none := fun n => if_neg n
    have pP : p' ∉ tbs ts := fun z => by rw [hP' p' z] at e; cases e
    have exP : ∀ b ∈ tbs ts, ∃ o, H' b = some o := fun b z => ⟨.tbl #[], hP' b z⟩
    refine ⟨by simp [C'.len], C'.sub, fun _ _ z => (by cases z), fun b o z n _ => absurd (bh n) (by have z : BHt b = some o := z; rw [z]; simp), fun b o z => .inr (bh fun w => by rw [fP b w] at z; cases z), exP, fun j d e => ?_, fun j d e => absurd e (noown j d), fun j j' d d' a q => absurd q (noown j d), fun a' e' => ?_, rfl, fun p hp => ?_, C'.ntb, fun a d z => (nomatch z), fun a z => z.elim, fun j d a q => absurd q (noown j d)⟩
    · rcases get_set e with ⟨rfl, z⟩ | ⟨ne, z⟩
      · cases z
        refine ⟨.ref p', ?_, by unfold RelD; exact ⟨p', rfl, rfl⟩⟩
        rw [List.getElem?_set_self]
        unfold L2.start
        simp; omega
      · obtain ⟨v, h1, h2⟩ := C'.val j d z
        refine ⟨v, by rw [List.getElem?_set_ne ne]; exact h1, ?_⟩
        have hj : j = 0 ∧ d = .scr ns := by
          unfold start0 at z
          cases j with
          | zero => simp at z; exact ⟨rfl, z.symm⟩
          | succ j => simp [List.getElem?_replicate] at z
        obtain ⟨rfl, rfl⟩ := hj
        unfold RelD at h2 ⊢
        exact h2
    · cases e'
      refine ⟨n.f, ⟨_, e, ca, ?_, ec⟩, .inr (bh pP)⟩
      unfold penRows
      cases tape <;> rfl
    · have hm : p.1 ∈ tbs ts := List.mem_map_of_mem hp
      refine ⟨?_, fP _ hm, #[], hP' _ hm, True.intro, fun pos cv hc => ?_⟩
      · show BHt p.1 ≠ none
        rw [show BHt p.1 = some (.tbl #[]) from if_pos hm]; simp
      · have z : codeAmong pos [] = some cv := hc
        simp [codeAmong] at z
  refine ⟨p', F', some p', _, _, _, C2, q, ⟨?_, ?_, ?_, ?_⟩⟩
  · intro F pa t env σ H g C q
    cases q
  · intro v d F pa t env σ H g C r q
    have q : d = .bl true := q
    subst q
    unfold RetRel RelD at r
    rw [r]; exact fin H
  · intro F pa t env σ H g C q
    exact q.elim
  · intro F pa t env σ H g C q
    exact q.elim
theorem law_callTs {mb : Str → Option Value} {k : Nat} {fa a : Addr} {cs : List (Addr × Addr)} {ts : List (Addr × Str)} {fd : FuncData} {x : Str} {s : Shared} {vs : List Value} {ns : List Int} (hct : tbs ts = cs.map (·.2)) (room : RoomG k callerA)
    (inK : K.In s.heap) (hG : s.heap.Ns mainGlobals mg) (hB : s.heap.Ns builtinsNs mb) (boot : ∀ y : Str, y ≠ "__name__" → mb y = bootBuiltins y) (noL : s.heap.NoLimit) (gens : s.gens = #[])
    (hbm : ∃ (bm : Addr) (ob : Obj), mg "__builtins__" = some (.ref bm) ∧ bm ≠ builtinsNs ∧ s.heap.get? bm = some ob ∧ ob.cls = .type "module" ∧ ob.dict = some builtinsNs ∧ ob.data = .plain)
    (hTs : ∀ c ∈ cs, s.heap.get? c.2 = some { cls := .none, data := .fields #[] }) (nTs : ∀ c ∈ cs, K.lookup c.2 = none) (hcs : ∀ c ∈ cs, PySem.W.codeHdIn K c.1 c.2 = true)
    (at_ : s.heap.get? a = some (scrO vs)) (iv : IntsAre vs ns) (small : ns.length ≤ sizeLine) (few : ns.length ≤ 63)
    (F : ∀ base : Heap, K.In base → base.Ns mainGlobals mg → (∀ c ∈ cs, LamX.TabB base mg c.1 c.2) → FnOkG P w K mg base CX0 k fa fd [x] (spLawTs K ts)) (bind : ∀ (s : Shared) (u : Value), BindsTo s fd ⟨[u], []⟩ [(x, u)]) :
    codeAny (model P w) callerA (.call (.ref fa) ⟨[.ref a], []⟩) (fun r s' => r = .ok (.ret (.bool true)) ∧ OldK s.heap s'.heap ∧ s'.os = s.os ∧ AllBare s'.gens) s := by
  have vals := vals_ints iv
  have vlen : vs.length = ns.length := by have := vals.length; simpa using this.symm
  have hT : ∀ b ∈ tbs ts, s.heap.get? b = some { cls := .none, data := .fields #[] } := fun b hb => by
    rw [hct] at hb
    obtain ⟨c, h1, rfl⟩ := List.mem_map.mp hb
    exact hTs c h1
  have nT : ∀ b ∈ tbs ts, K.lookup b = none := fun b hb => by
    rw [hct] at hb
    obtain ⟨c, h1, rfl⟩ := List.mem_map.mp hb
    exact nTs c h1
  have aP : a ∉ tbs ts := fun z => by rw [hT a z] at at_; cases at_
  let T : Hp := fun b => if b ∈ tbs ts then some (.tbl #[]) else scrH K a (scrO vs) ns b
  have tP : ∀ b ∈ tbs ts, T b = some (.tbl #[]) := fun b hb => if_pos hb
  have tN : ∀ {b : Addr}, b ∉ tbs ts → T b = scrH K a (scrO vs) ns b := fun n => if_neg n
  have clear : ∀ {b : Addr} {o : Obj}, s.heap.get? b = some o → (b = a → K.lookup a = none → False) → b ∉ tbs ts → T b = none := fun {b o} _ n m => by rw [tN m]; exact scrH_none fun e z => n e z
  have nsP : ∀ {b : Addr} {m : Str → Option Value}, s.heap.Ns b m → b ∉ tbs ts := fun {b m} ⟨o, es, ep, g, d, _⟩ z => by
    rw [hT b z] at g
    cases g
    cases d
  have keepNs : ∀ {b : Addr} {m : Str → Option Value}, s.heap.Ns b m → (hidT s.heap T).Ns b m := by
    intro b m hb
    have nb := nsP hb
    obtain ⟨o, es, ep, g, d, rest⟩ := hb
    refine ⟨o, es, ep, hidT_get g (clear g (fun e _ => ?_) nb), d, rest⟩
    subst e
    have := at_.symm.trans g
    cases this
    cases d
  have baseK : K.In (hidT s.heap T) := fun b o l => hidT_get (inK b o l) (by
    have nb : b ∉ tbs ts := fun z => by rw [nT b z] at l; cases l
    rw [tN nb]
    exact scrH_none fun e z => by subst e; rw [l] at z; cases z)
  have seq : SqL K T a (ns.map V.int) := by
    cases l : K.lookup a with
    | none => exact .inl (.inr ⟨scrO vs, by rw [tN aP]; exact if_pos ⟨rfl, l⟩⟩)
    | some o =>
      have := at_.symm.trans (inK a o l)
      cases this
      exact .inr ⟨_, vs.toArray, _, l, rfl, rfl, rfl, by simpa [vlen] using small, by simpa using vals⟩
  have objs : HOk P w T s.heap := fun b u h => by
    by_cases hb : b ∈ tbs ts
    · rw [tP b hb] at h
      cases h
      exact hT b hb
    · rw [tN hb] at h
      obtain ⟨rfl, _, rfl⟩ := scrH_inv h
      exact ⟨at_, by simpa using small, vs, _, vals, at_⟩
  obtain ⟨mc, nb, bb⟩ := noL
  have md : Mod K mg (hidT s.heap T) := { kin := baseK, glob := keepNs hG, blt := ⟨mb, keepNs hB, boot⟩, nolimit := ⟨mc, keepNs nb, bb⟩ }
  have env0 : Env0 P w K mg (hidT s.heap T) callerA [] s T :=
    { frames := rfl, mod := md, bs := fun _ _ g => of_hidT g, bsz := by rw [hidT_size]; exact Nat.le_refl _, funs := trivial, frf := fun b z => (by cases z), hok := objs, bare := .of_eq gens }
  have TB : ∀ c ∈ cs, LamX.TabB (hidT s.heap T) mg c.1 c.2 := fun c hc => by
    have hm : c.2 ∈ tbs ts := by rw [hct]; exact List.mem_map_of_mem hc
    refine ⟨PySem.W.codeHd_of_K baseK (hcs c hc), ?_, fun z => nsP hG (z ▸ hm)⟩
    obtain ⟨bm, ob, b1, b2, b3, b4, b5, b6⟩ := hbm
    have nG : bm ≠ mainGlobals := fun q => by
      obtain ⟨o, es, ep, e, hd, _⟩ := hG
      rw [q, e] at b3
      cases b3
      rw [hd] at b6
      cases b6
    have nP : bm ∉ tbs ts := fun q => by
      rw [hT bm q] at b3
      cases b3
      cases b6
    refine ⟨bm, ob, b1, b2, nG, fun z => nP (z ▸ hm), hidT_get b3 (clear b3 (fun e _ => ?_) nP), b4, b5, b6⟩
    rw [e, at_] at b3
    cases b3
    cases b6
  refine codeAny_mono ((F _ baseK (keepNs hG) TB).goes callerA room [] s T env0 ⟨[.ref a], []⟩ [.ref a] [.ref a] (.cons rfl .nil) (bind s (.ref a)) (fun v _ => v = .bl true) E0 ⟨a, ns, rfl, fun b hb => ?_, tP, seq, few, fun _ => rfl⟩) ?_
  · rw [tN hb]
    exact scrH_only K a (scrO vs) ns b
  rintro (ex | fl) s' h
  · exact h.elim
  · cases fl with
    | ret u =>
      obtain ⟨v, H', os, bare, un, ok', rv, q⟩ := h
      have q : v = .bl true := q
      subst q
      have rv : u = Value.bool true := rv
      subst rv
      have keep : ∀ b o, b ∉ tbs ts → s.heap.get? b = some o → s'.heap.get? b = some o := fun b o nb g => by
        cases q : T b with
        | none => exact un.keep b o g q (fun z => by cases z) (fun z => by cases z)
        | some u =>
          have q2 := q
          rw [tN nb] at q2
          obtain ⟨rfl, _, rfl⟩ := scrH_inv q2
          have g2 := (ok' b _ (un.frzs b _ _ q)).1
          have := at_.symm.trans g
          cases this
          exact g2
      refine ⟨rfl, ⟨fun b o g => ?_, fun b o g => ?_⟩, os, bare⟩
      · by_cases hb : b ∈ tbs ts
        · obtain ⟨more, hm⟩ := un.tbls b #[] (tP b hb)
          have hm2 : s'.heap.get? b = some { cls := .none, data := .fields (#[] ++ more) } := ok' b _ hm
          have hb' := hb
          rw [hct] at hb'
          obtain ⟨c, h1, h2⟩ := List.mem_map.mp hb'
          have hT' := hT b hb
          rw [hT'] at g
          cases g
          have tab := (PySem.W.codeHd_of_K inK (hcs c h1)).tab (by rw [h2]; exact hT')
          rw [h2] at tab
          exact .inr (.inl ⟨tab.isCodeTable, rfl, #[], more, rfl, hm2⟩)
        · exact .inl (keep b o hb g)
      · by_cases hb : b ∈ tbs ts
        · obtain ⟨more, hm⟩ := un.tbls b #[] (tP b hb)
          exact ⟨_, ok' b _ hm⟩
        · exact ⟨o, keep b o hb g⟩
    | next => exact h.elim
    | brk => exact h.elim
    | cont => exact h.elim
end
theorem walk_ofTs {l : PySem.W.OpenLaw} {k : Nat} {q : Program} {loose : List Str} {XP : (Str → Option Value) → Heap → Prop} {YP : World → Heap → Prop} {d : DefRec} {K : Params → PySem.W.Frag} {x : Str} {nms : List Str}
    (hn : l.most = some 63) (hdf : d.params.defaults = []) (room : RoomG k callerA) (hrec : ∀ nm ∈ nms, ((recsOf q).any fun e => e.name == nm) = true) (hY : ∀ (w : World) (h : Heap), YP w h → (K w.params).In h)
    (F : ∀ (w : World) (mg : Str → Option Value) (fa : Addr) (h : Heap), (K w.params).In h → h.Ns mainGlobals mg → mg d.name = some (.ref fa) → (∀ nm ∈ nms, ∀ fb, mg nm = some (.ref fb) → TabAt (K w.params) fb h) →
      ∃ (fd : FuncData) (cs : List (Addr × Addr)) (ts : List (Addr × Str)), tbs ts = cs.map (·.2) ∧ (∀ c ∈ cs, h.get? c.2 = some { cls := .none, data := .fields #[] }) ∧ (∀ c ∈ cs, (K w.params).lookup c.2 = none) ∧ (∀ c ∈ cs, PySem.W.codeHdIn (K w.params) c.1 c.2 = true) ∧ (∀ (s : Shared) (u : Value), BindsTo s fd ⟨[u], []⟩ [(x, u)]) ∧
        ∀ base : Heap, (K w.params).In base → base.Ns mainGlobals mg → (∀ c ∈ cs, LamX.TabB base mg c.1 c.2) → FnOkG l.prog w (K w.params) mg base CX0 k fa fd [x] (spLawTs (K w.params) ts)) :
    PySem.W.WalkO q loose XP YP l.row.toRowW d [] (fun f vs => PySem.call f vs) := by
  apply Att.attach_call hn hdf
  intro w s₀ s mg mb fa o pm cd doc a vs ns G Y _ _ _ at_fa at_a iv short gens
  have inK := hY w _ Y
  have tab : ∀ nm ∈ nms, ∀ fb, mg nm = some (.ref fb) → TabAt (K w.params) fb s.heap := fun nm hnm fb hfb c P o1 fd1 e dd vs1 sl k1 k2 k3 k4 k5 => by
    obtain ⟨dL, hm, hn1⟩ := List.any_eq_true.mp (hrec nm hnm)
    have hn2 : dL.name = nm := beq_iff_eq.mp hn1
    obtain ⟨a', o', fd', c', P', h1, h2, h3, h4, h5, h6⟩ := G.T.tab dL hm
    rw [hn2, hfb] at h1
    cases h1
    have g1 := inK _ _ k1
    rw [g1] at h2
    cases h2
    rw [k2] at h3
    cases h3
    rw [k3] at h4
    cases h4
    obtain ⟨⟨oc, vc, e1, _, e3, e4⟩, hP⟩ := h6
    have g2 := inK _ _ k4
    rw [g2] at e1
    cases e1
    cases e3
    rw [k5] at e4
    cases e4
    exact hP
  obtain ⟨fd, cs, ts, hct, hT, nT, hc, bind, ok⟩ := F w mg fa _ inK G.T.g at_fa tab
  exact law_callTs hct room inK G.T.g G.T.b G.T.builtins G.T.nolimit gens G.T.bmain hT nT hc at_a iv (Nat.le_trans short (by decide)) short ok bind
end Q
/-! QH35 -/
namespace Q
open PySem L2 PyProof.Rows PpSet
end Q
/-! QO9 -/
namespace Q
open PySem PySem.Spec PyProof.Rows L2 PpSet
def keyS (e : Int × Value) : Str := match e.2 with | .str k _ => k | _ => Str.empty
def GoodS (w : World) (e : Int × Value) : Prop := ∃ k tk, e.2 = Value.str k tk ∧ e.1 = hashStr w k
def SetS (w : World) (h : Heap) (a : Addr) (S : Str → Bool) (n : Nat) : Prop :=
  ∃ o es ep t, h.get? a = some o ∧ o.ExactSet ∧ o.data = .set es ep t ∧ (∀ e ∈ es.toList, GoodS w e) ∧ (es.toList.map keyS).Nodup ∧ (∀ k, S k = true ↔ k ∈ es.toList.map keyS) ∧
    es.size < scanBound ∧ t.fits es.size = true ∧ es.size = n ∧ L2.Ris t.place.toList ∧ (w.params.followText "set-order" = true ∨ t.led = true)
section
variable {P : Program} {w : World} {h h' : Heap} {a : Addr} {S : Str → Bool} {n : Nat}
theorem SetS.at (R : SetS w h a S n) (k : ∀ o, h.get? a = some o → h'.get? a = some o) : SetS w h' a S n := by
  obtain ⟨o, es, ep, t, ho, r⟩ := R
  exact ⟨o, es, ep, t, k o ho, r⟩
end
end Q
/-! QO10 -/
namespace Q
open PySem L2 PyProof.Rows
end Q
/-! QX9 -/
namespace Q
open PySem L2 PyProof.Rows
end Q
/-! QX10 -/
namespace Q
open PySem L2 PyProof.Rows
end Q
/-! QX11 -/
namespace Q
open PySem L2 PyProof.Rows
end Q
/-! QO11 -/
namespace Q
open PySem PySem.Spec PyProof.Rows L2 LamX
section
variable {P : Program} {w : World} {K : PySem.W.Frag} {mg : Str → Option Value} {base : Heap}
theorem fn_lawTsL {x qual : Str} {ts : List (Addr × Str)} {st : Stmt} {f cA : Addr} {N : List Str} {p : Str} {k i : Nat} {s0 : Stmt} {rest : List Stmt} {dp : DE} {ds : DS} {kV doc pm ct oc : Value} {an od : Option Addr} {osl : Array (Option Value)} (hu : ∀ p ∈ ts, ∀ q ∈ ts, q.1 = p.1 → q.2 = p.2) (lk : K.lookup f = some ⟨oc, od, .func (PySem.W.fnOf x qual (defArgs st) (defBody st) (defScope st) .none kV doc pm an (.ref cA) ct), osl⟩) (hcd : PySem.W.codeIn K (.ref cA) qual = true)
    (S : FnScope N [p] (defScope st)) (hst : defBody st = s0 :: rest)
    (hfirst : ∀ (A : Around) (outer : List PySem.Env) (s : Shared) (H : Hp) (E : XK) (B : Bs), RoomG k (A.deeper (envOfC qual (defScope st) s.heap.objs.size f (.ref cA))) →
      PS (cxOf CX0 P w K mg base N qual (defScope st) f (.ref cA) A outer s H E).nox s0 (tAsg (tnOf K B dp) (L2.gName i)))
    (hbody : ∀ (A : Around) (outer : List PySem.Env) (s : Shared) (H : Hp) (E : XK) (B : Bs), RoomG k (A.deeper (envOfC qual (defScope st) s.heap.objs.size f (.ref cA))) → B.Top → B.m = false → (∀ p ∈ ts, TabOf B p.1 p.2) →
      QSs (cxOf CX0 P w K mg base N qual (defScope st) f (.ref cA) A outer s H E).nox B rest ds)
    (hi : i ≠ 0 ∧ i < N.length) (tape : Bool)
    (hds : ∀ ns : List Int, ns.length ≤ 63 → dp (start0 N [.scr ns]) ⟨[], 0, 0, false, noObs⟩ fun d _ => ∃ cs : List Int, d = .dic (if tape then [.inr "cells", .inr "turn", .inr "rest"] else [.inr "cells", .inr "at", .inr "left"]) [.lst (cs.map .int), .int 0, .int 0] ∧ cs.length ≤ 63 ∧
      ds (endsOf fun d _ => d = .bl true) ((start0 N [.scr ns]).set i (.val .pen)) ⟨cs, 0, 0, tape, noObs⟩) : FnOkG P w K mg base CX0 (k + 1) f (PySem.W.fnOf x qual (defArgs st) (defBody st) (defScope st) .none kV doc pm an (.ref cA) ct) [p] (spLawTs K ts) := by
  refine okG_at lk hcd S (fun vs H Q E h => ?_) (fun A outer s H vs Q E hr h => ?_)
  · obtain ⟨a, ns, rfl, _⟩ := h
    rfl
  · exact law_bodyTs hst (fun B => hfirst A outer s H E B hr) hu (fun B => hbody A outer s H E B hr) hi tape hds h
end
end Q
/-! QO12 -/
namespace Q
open PySem PySem.Spec PyProof.Rows L2
end Q
/-! QX12 -/
namespace Q
open PySem L2 PyProof.Rows
end Q
/-! QX13 -/
namespace Q
open PySem L2 PyProof.Rows
end Q
/-! QX14 -/
namespace Q
open PySem L2 PyProof.Rows
section
variable {K : PySem.W.Frag}
theorem rc_str : RCall K (fun xs H Q => ∃ i, xs = [.int i] ∧ i.natAbs.log2 < 1920 ∧ Q (.str (toString i)) H) bStr := fun B F pa t env σ H xs vs P Q W r h k => by
  unfold bStr at h
  split at h
  · obtain ⟨hz, h⟩ := h
    obtain ⟨v, rfl, r1⟩ := r.one
    exact ⟨_, by rw [r1.int W], hz, k _ _ F H (Gr.refl _ _) W (rD_str _) h⟩
  · exact h.elim
variable {X : Cx} {B : Bs} {vs : List Nat} {i : Nat} {dk : DE} {tg : Expr}
end
end Q
/-! QO13 -/
namespace Q
open PySem PySem.Spec PyProof.Rows L2
end Q
/-! QO14 -/
namespace Q
open PySem PySem.Spec PyProof.Rows L2
def Tx (d : D) : List Nat := (toPy d).shown.cps.toList
def num (c : Nat) : Prop := c = 45 ∨ (48 ≤ c ∧ c ≤ 57)
def Ends (u : List Nat) : Prop := ∀ c ∈ u.head?, ¬ num c
end Q
/-! QO15 -/
namespace Q
open PySem PySem.Spec PyProof.Rows L2
end Q
/-! QO16 -/
namespace Q
open PySem PySem.Spec PyProof.Rows L2
end Q
/-! QO17 -/
namespace Q
open PySem PySem.Spec PyProof.Rows L2
end Q
/-! QO18 -/
namespace PySem.F
end PySem.F
namespace Q
open PySem L2 PySem.Spec PyProof.Rows
abbrev vaTail : List Value := [.type "ValueError", .type "Exception", .type "BaseException", .type "object"]
theorem fxb_Value : FxB "ValueError" "ValueError.__new__" "ValueError.__init__" vaTail := ⟨PySem.F.excBase_ValueError, PySem.F.store_ValueError.passes, by decide +kernel, rfl⟩
end Q
/-! QO19 -/
namespace Q
open PySem PySem.Spec PyProof.Rows L2
end Q
/-! QO20 -/
namespace PySem
end PySem
/-! QO21 -/
namespace Q
open PySem L2 PySem.Spec PyProof.Rows
structure FxG (newId initId : String) (tl : List Value) : Prop where
  pass : ∀ self : Value, refuseLoop self "__setattr__" tl = pure ()
  obj : tl.contains (.type "object") = true
  ne : tl.isEmpty = false
  callO : ∀ {prog : Program} {w : World} {A : Around} {R : Result → Shared → Prop} {h : Heap} {g : Array GenState} {d : Drawn} {t : Nat} {os : OsState} {nm q : Str} {C N : Addr} {bs : List Value} {hdct : Bool} {sn : List Str} {sub : List Value} {ab : Bool} {col : Option Bool} {dd : Option Addr} {k0 k1 k2 k3 k5 : Option Value} {rest : List Value} {fI : Addr},
    h.get? C = some (excClassObj nm q C N bs tl hdct sn sub ab col dd k0 k1 k2 k3 k5 newId) → W.Looks (model prog w) h (typeLookup (.ref C) "__init__") (some (.ref fI)) → (∀ self, W.Looks (model prog w) h (bindSpecial (.ref fI) self) (.ref fI, [self])) → rest.length ≤ sizeLine →
    codeAny (model prog w) (A.under (.builtin "type.__call__" ⟨.ref C :: rest, []⟩)) (.call (.ref fI) ⟨.ref (h.objs.size + 1) :: rest, []⟩) (W.InitBack (h.objs.size + 1) R) ⟨(h.push (W.kdv_tup rest)).push (HandSPX.excO C h.objs.size), g, d, t, os⟩ →
    codeAny (model prog w) A (.call (.ref C) ⟨rest, []⟩) R ⟨h, g, d, t, os⟩
  initB : ∀ {prog : Program} {w : World} {A : Around} {R : Result → Shared → Prop} {h : Heap} {g : Array GenState} {d : Drawn} {t : Nat} {os : OsState} {nm q : Str} {C N : Addr} {bs : List Value} {hdct : Bool} {sn : List Str} {sub : List Value} {ab : Bool} {col : Option Bool} {dd : Option Addr} {k0 k1 k2 k3 k5 : Option Value} {e t0 : Addr} {rest : List Value},
    h.get? C = some (excClassObj nm q C N bs tl hdct sn sub ab col dd k0 k1 k2 k3 k5 newId) → h.get? e = some (HandSPX.excO C t0) → rest.length ≤ sizeLine →
    (∀ h' t1, (∀ b o, b ≠ e → h.get? b = some o → h'.get? b = some o) → h'.get? e = some (HandSPX.excO C t1) → R (.ok (.ret .none)) ⟨h', g, d, t, os⟩) →
    codeAny (model prog w) A (.call (.builtin initId) ⟨.ref e :: rest, []⟩) R ⟨h, g, d, t, os⟩
theorem FxB.g {B newId initId : String} {tl : List Value} (F : FxB B newId initId tl) : FxG newId initId tl :=
  ⟨F.pass, F.obj, F.ne, fun a b c e f => PySem.HandSPX.call_own F.base (fun Y => rfl) a b c e f, fun a b c e => PySem.HandSPX.init_base F.base (fun Y => rfl) a b c e⟩
end Q
namespace PySem
namespace HandSPX
open PySem.W PySem.Calls PyProof.Rows Builtin Builtin.ObjectAttr
section
variable {prog : Program} {w : World} {A : Around} {E : Value → Shared → Prop} {R : Result → Shared → Prop} {hp : Heap} {g : Array GenState} {d : Drawn} {t : Nat} {os : OsState}
theorem exc_osaG {K : W.Frag} {name : Str} {tk : Tok} {v : Value} {x C : Addr} {fv : Array Value} {cd : ClassData} {tl : List Value} {newId initId : String} (T : Q.FxG newId initId tl)
    (X : K.In hp) (hx : hp.get? x = some { cls := .ref C, data := .fields fv }) (hcd : W.clsIn K C = some cd) (hm : cd.mro = .ref C :: tl) (hh : cd.hasDict = true) (ha : W.findIn K (.ref C) name = some none)
    (hq : ∀ h' tk' dx, (∀ b o, b ≠ x → hp.get? b = some o → h'.get? b = some o) → hp.objs.size ≤ dx → dx ≠ x → h'.get? x = some { cls := .ref C, dict := some dx, data := .fields fv } →
      h'.Ns1 dx (fun y => if y = name then some v else none) → R (.ok (.ret .none)) ⟨h', g, d, tk', os⟩) :
    codeAny (model prog w) A (.call (.builtin "object.__setattr__") ⟨[.ref x, .str name tk, v], []⟩) R ⟨hp, g, d, t, os⟩ := by
  have I : W.InstAt hp x { cls := .ref C, data := .fields fv } C none := ⟨hx, rfl, rfl, trivial⟩
  have SF := F.store_object
  have ne : cd.mro.isEmpty = false := by rw [hm]; rfl
  have hob : cd.mro.contains (.type "object") = true := by rw [hm, List.contains_cons, T.obj, Bool.or_true]
  have hxs : x ≠ hp.objs.size := Nat.ne_of_lt (Heap.lt_size hx)
  have sub : W.Looks (model prog w) hp (isInstance (.ref x) (.type "object")) true := I.type.andThen (W.looks_mroIn X (by unfold W.mroIn; rw [hcd, Option.bind_some, if_neg (by rw [ne]; decide), hob]))
  refine codeAny_call_builtin SF.slot.plain SF.entry (@W.check_slot (model prog w) _ _ ⟨hp, g, d, t, os⟩ "object.__setattr__" "object" "__setattr__" (.ref x) [.str name tk, v] [] _ SF.kind SF.split sub (SF.args (.ref x) (.str name tk) v) ?_)
  have hmr : W.Looks (model prog w) hp (mroOf (.ref C)) cd.mro := (W.looks_clsIn X hcd).andThen .now
  have L3 : W.Looks (model prog w) hp (storeTaker? none) none := .now
  have hcls : W.Looks (model prog w) hp (classData C) cd := W.looks_clsIn X hcd
  rw [W.osa_eq, refuse_eq]
  refine wpAny_bind (wpAny_bind (I.type.at (wpAny_bind (hmr.at ?_))))
  rw [hm, refuseLoop_ref, T.pass]
  refine wpAny_pure (wpAny_bind (I.type.at (wpAny_bind ((W.looks_findIn X ha).at (wpAny_bind (L3.at ?_))))))
  show wpAny _ _ (storeInOwnDict (.ref x) (.ref C) (.str name tk) name v false) _ _ _
  clear hm hob ne sub hmr
  obtain ⟨nm, bs, mro, ns, qn, hd, sn, sb, ab, col, del⟩ := cd
  dsimp only at hh
  subst hh
  unfold storeInOwnDict ownDictForStores
  repeat (first | with_reducible refine store_in_new ?_ ?_ | with_reducible refine wpAny_loadPart_at hx ?_ | with_reducible refine hcls.at ?_ | wp_step)
  · exact ⟨_, #[], _, (Heap.get?_update_ne _ _ _ _ hxs.symm).trans (Heap.get?_push_at rfl rfl), rfl, fun e he => absurd he (by simp), fun _ => rfl⟩
  · intro h' tk' hn' hs
    have hx₁ : (hp.push { cls := .type "dict", data := .dict #[] }).get? x = some { cls := .ref C, data := .fields fv } := Heap.get?_push_of_some _ hx
    refine hq h' tk' hp.objs.size (fun b o hb ho => ?_) (Nat.le_refl _) hxs.symm ?_ hn'
    · exact (hs.2 b (Nat.ne_of_lt (Heap.lt_size ho))).trans ((Heap.get?_update_ne _ _ _ _ hb).trans (Heap.get?_push_of_some _ ho))
    · exact (hs.2 x hxs).trans (Heap.get?_update_self _ hx₁ rfl)
end
end HandSPX
end PySem
namespace Q
open PySem L2 PySem.Spec PyProof.Rows
section
variable {X : Cx} {pins : List (Addr × Obj)} {σ : L2.St} {H : Hp} {s : Shared} {a C : Addr} {f : Str} {y : V} {u : Value} {A : Around} {E : Value → Shared → Prop} {newId initId : String} {tl : List Value}
theorem fst_newG {Q : Unit → Shared → Prop} (FB : FxG newId initId tl) (T : FxC X.K C newId tl) (I : Inv X pins σ H s) (e : H a = some (exo a C none)) (hno : PySem.W.findIn X.K (.ref C) f = some none) (ry : RelV y u)
    (h : ∀ dx s', H dx = none → dx ≠ a → Inv X pins σ (upd (upd H dx (exd dx [(f, y)])) a (exo a C (some dx))) s' → Q () s') : wpAny (model X.prog X.w) A (setAttr (.ref a) f u) Q E s := by
  obtain ⟨nm, q, N, bs, sn, sub, ab, col, dd, k0, k1, k2, k3, k5, hC⟩ := T.cls
  have hcl : PySem.W.clsIn X.K C = some { name := nm, bases := bs, mro := .ref C :: tl, ns := N, qualname := q, hasDict := true, slotNames := sn, subclasses := sub, abstract := ab, collection := col, hasDel := false } := by unfold PySem.W.clsIn; rw [hC] <;> rfl
  obtain ⟨t1, ho⟩ := exo_at I.hok e
  obtain ⟨hp, g, d, t, os⟩ := s
  refine PySem.W.set_plain I.kIn (ox := { cls := .ref C, dict := none, data := .fields #[.ref t1, .none, .none, .none, .bool false, .none] }) (od := none) ⟨ho, rfl, rfl, trivial⟩ T.sa ?_
  refine PySem.HandSPX.exc_osaG FB I.kIn ho hcl rfl rfl hno (fun h' tk' dx k dn dne hx hn => ?_)
  have hnd : H dx = none := I.hok.fresh dn
  have nd : ∀ {b : Addr} {o : Obj}, hp.get? b = some o → b ≠ dx := fun {b o} q => Nat.ne_of_lt (Nat.lt_of_lt_of_le (Heap.lt_size q) dn)
  have na : ∀ {b : Addr}, H b = none → b ≠ a := fun {b} n z => by
    rw [z, e] at n
    cases n
  have Un1 : Un X.fs [] H (upd (upd H dx (exd dx [(f, y)])) a (exo a C (some dx))) hp h' := {
    keep := fun b o q n _ _ => k b o (na n) q
    slot := fun b o q n _ _ => ⟨o.slots, k b o (na n) q⟩
    free := fun b o q n _ => by rw [upd_ne (na n), upd_ne (nd q)]; exact n
    there := fun b o q _ => by
      by_cases hb : b = a
      · exact ⟨_, by rw [hb]; exact hx⟩
      · exact ⟨o, k b o hb q⟩
    tups := fun b xs q => by rw [upd_ne (at_ne e q exo_tup), upd_ne (ne_of_none q hnd)]; exact q
    frzs := fun b o v q => by rw [upd_ne (at_ne e q exo_frz), upd_ne (ne_of_none q hnd)]; exact q
    tbls := fun b ps q => ⟨#[], by rw [upd_ne (at_ne e q exo_tbl), upd_ne (ne_of_none q hnd), q]; simp⟩ }
  refine h dx _ hnd dne (I.un (t' := tk') Un1 fun b o q => ?_)
  by_cases hb : b = a
  · subst hb
    rw [upd_same] at q
    cases q
    exact exo_ok hx
  · rw [upd_ne hb] at q
    by_cases hd : b = dx
    · subst hd
      rw [upd_same] at q
      cases q
      exact exd_ok hn (relO_put (fs := []) ry fun g => True.intro)
    · rw [upd_ne hd] at q
      exact (I.hok b o q).stay (fun c v hc z => k c v (by
          rcases hc with hc | hc
          · rw [hc]
            exact hb
          · exact at_ne e hc exo_own) z)
        (fun c hc => by rw [upd_ne (at_ne e hc exo_own), upd_ne (ne_of_none hc hnd)]; exact hc) (fun c xs hc => by rw [upd_ne (at_ne e hc exo_tup), upd_ne (ne_of_none hc hnd)]; exact hc)
theorem finit_okG {us : List Value} {Q : Value → Shared → Prop} (FB : FxG newId initId tl) (T : FxC X.K C newId tl) (I : Inv X pins σ H s) (e : H a = some (exo a C none)) (hl : us.length ≤ sizeLine) (h : ∀ s', Inv X pins σ H s' → Q .none s') :
    wpAny (model X.prog X.w) A (call (.builtin initId) (.ref a :: us)) Q E s := by
  obtain ⟨nm, q, N, bs, sn, sub, ab, col, dd, k0, k1, k2, k3, k5, hC⟩ := T.cls
  obtain ⟨t1, ho⟩ := exo_at I.hok e
  obtain ⟨hp, g, d, t, os⟩ := s
  refine wpAny_call (FB.initB (I.kIn _ _ hC) ho hl fun h' t2 k hx => ?_)
  have J := I.write (t' := t) (x := a) (e := a) (o := exo a C none) (by rw [e]; exact True.intro) (.inl rfl) k ⟨_, hx⟩ (exo_ok hx)
  have eu : upd H a (exo a C none) = H := by
    funext b
    by_cases hb : b = a
    · rw [hb, upd_same, e]
    · rw [upd_ne hb]
  rw [eu] at J
  exact h _ J
end
section
variable {X : Cx} {o e : Expr} {es : List Expr} {to te : TE} {ta : TA} {f : Str} {p p' p1 p2 pos : Pos}
theorem ps_fstG {newId initId : String} {tl : List Value} (FB : FxG newId initId tl) (ho : PE X o to) (he : PE X e te) (hs : swapsWith e (some (.Attribute o f p')) pos.line X.env = pure false := by rfl) : PS X (.Assign [.Attribute o f p'] e pos) (tFst X.K newId tl f to te) := by
  refine ⟨fun pins s σ H D I h => ?_⟩
  refine plainObj_wpAny_Assign_Attribute (thn (he.run pins s σ H _ I h) fun v s1 ⟨y, H1, I1, r1, q1⟩ => thn (ho.run pins s1 σ H1 _ I1 q1) fun u s2 ⟨x, H2, I2, r2, a, C, ex, T, hno, ea, q⟩ => ?_) hs
  subst ex
  obtain rfl : u = Value.ref a := r2
  exact fst_newG FB T I2 ea hno r1 fun dx s' n ne J => ⟨σ, _, J, q dx n ne⟩
end
section
variable {X : Cx} {e : Expr} {es : List Expr} {ta : TA} {p pos : Pos}
theorem pmk_fxG {x : Str} {C fI : Addr} {k : Nat} {fd : FuncData} {ps : List Str} {f : Str} {newId initId : String} {tl : List Value} (FB : FxG newId initId tl) (T : FxC X.K C newId tl) (iC : PySem.W.findIn X.K (.ref C) "__init__" = some (some (.ref fI))) (tI : PySem.W.typeIn X.K (.ref fI) = some (.type "function"))
    (hno : PySem.W.findIn X.K (.ref C) f = some none)
    (F1 : FnOk X.prog X.w X.K X.mg X.base CX0 k fI fd ps (spFx X.K newId tl f)) (hr : Room (k + 1) X.A) (hb : Binds X.K fd ps []) (hx : Passes CX0 X (fun _ _ _ => False)) (hg : Gl X x) (hm : X.mg x = some (.ref C)) (ha : PA X (e :: es) ta)
    (hdb : (x == ("__debug__" : Str)) = false := by decide) (he : starEach (e :: es) X.env = (false, eval e X.env) :: starEach es X.env := by rfl) (hpl : (backTo pos (starEach es X.env)).any (·.1) = false := by rfl) :
    PMk X (.Call (.Name x p) (e :: es) [] pos) (fun σ H Q => ta σ H fun vs H1 => ∃ y, vs = [y] ∧ ∀ d, H1 d = none → Q (.ref C) (some d) (upd H1 d (.xd [(f, y)]))) := by
  intro pins s σ H Q I h
  obtain ⟨nm, q, N, bs, sn, sub, ab, col, dd, k0, k1, k2, k3, k5, hC⟩ := T.cls
  refine wpAny_Call_Name_kw (ld_glob I hg hm ?_ hdb)
  refine PySem.W.callWith_K (h₀ := X.base) I.ok.mod.kin T.kC (thn (ha.run pos pins s σ H _ I h) fun us s1 ⟨vs, H1, I1, r1, y, ey, q1⟩ => ⟨I1.kIn, ?_⟩) he hpl
  subst ey
  show wpAny _ _ (call (.ref C) us) _ _ _
  obtain ⟨hp, g, dr, tk, os⟩ := s1
  have hsz : hp.objs.size ≤ hp.objs.size + 1 := Nat.le_succ _
  have hn : H1 (hp.objs.size + 1) = none := I1.hok.fresh hsz
  have kk : ∀ b o, hp.get? b = some o → ((hp.push (PySem.W.kdv_tup us)).push (PySem.HandSPX.excO C hp.objs.size)).get? b = some o := fun b o e => Heap.get?_push_of_some _ (Heap.get?_push_of_some _ e)
  have hget : ((hp.push (PySem.W.kdv_tup us)).push (PySem.HandSPX.excO C hp.objs.size)).get? (hp.objs.size + 1) = some (PySem.HandSPX.excO C hp.objs.size) := by heap_get
  have I2 : Inv X pins σ (upd H1 (hp.objs.size + 1) (exo (hp.objs.size + 1) C none)) ⟨(hp.push (PySem.W.kdv_tup us)).push (PySem.HandSPX.excO C hp.objs.size), g, dr, tk, os⟩ :=
    I1.laid (t' := tk) (a := hp.objs.size + 1) (o := exo (hp.objs.size + 1) C none) (h' := (hp.push (PySem.W.kdv_tup us)).push (PySem.HandSPX.excO C hp.objs.size)) kk hsz (exo_ok hget)
  have r2 : Vals (V.ref (hp.objs.size + 1) :: [y]) (Value.ref (hp.objs.size + 1) :: us) := .cons rfl r1
  have hq : spFx X.K newId tl f (V.ref (hp.objs.size + 1) :: [y]) (upd H1 (hp.objs.size + 1) (exo (hp.objs.size + 1) C none)) (fun v H2 => v = .non ∧ ∃ (d : Addr) (fs : List (Str × V)), H2 (hp.objs.size + 1) = some (exo (hp.objs.size + 1) C (some d)) ∧ H2 d = some (exd d fs) ∧ H1 d = none ∧ Q (.ref C) (some d) (upd (del H2 (hp.objs.size + 1)) d (.xd fs))) (fun _ _ _ => False) := by
    refine ⟨_, C, y, rfl, T, hno, upd_same, fun dx n ne => ⟨rfl, dx, [(f, y)], upd_same, by rw [upd_ne ne, upd_same], ?_, ?_⟩⟩
    · rw [upd_ne ne] at n
      exact n
    · rw [fx_heap hn ne]
      rw [upd_ne ne] at n
      exact q1 dx n
  have hl : (Value.ref (hp.objs.size + 1) :: us).length = ps.length := by
    have e := r2.length
    rw [F1.len _ _ _ _ hq] at e
    exact e.symm
  have hus : us.length ≤ sizeLine := by
    rw [← Paired.length r1, sizeLine_eq]
    show 1 ≤ _
    omega
  have bb := hb _ (Value.ref (hp.objs.size + 1) :: us) I2.kIn (by simpa using hl)
  rw [List.append_nil] at bb
  refine wpAny_call (FB.callO (I1.kIn _ _ hC) (PySem.W.looks_findIn I1.kIn iC) (fun self => PySem.W.bind_fn I1.kIn self tI) hus
    (codeAny_mono (F1.run _ X.stack _ _ ⟨Value.ref (hp.objs.size + 1) :: us, []⟩ (Value.ref (hp.objs.size + 1) :: us) _ _ (fun _ _ _ => False) (hr.make C us []) (I2.env0.make C us []) bb r2 hq) fun r s' hq' => ?_))
  cases r with
  | error er => exact hx pins σ _ _ er s' I2 hq'
  | ok fl =>
    cases fl with
    | ret u =>
      obtain ⟨v, H2, os2, bare2, un2, hok2, rv, ev, d, fs, ea, ed, hd1, q2⟩ := hq'
      subst ev
      obtain ⟨h2, g2, d2, t2, os'⟩ := s'
      exact ⟨rv, mk_end (raises_own T.exC T.tyC) I1 hsz kk un2 hok2 os2 bare2 ea ed hd1 q2⟩
    | next => exact False.elim hq'
    | brk => exact False.elim hq'
    | cont => exact False.elim hq'
end
end Q
/-! QO22 -/
namespace Q
open PySem L2 PySem.Spec PyProof.Rows
theorem boot_ValueErrorQ : bootBuiltins "ValueError" = some (.type "ValueError") := by decide +kernel
theorem typ_VA : typeOf (.type "ValueError") = pure (.type "type") := by kernel_rfl
section
variable {X : Cx} {o e : Expr} {es : List Expr} {to te : TE} {ta : TA} {f : Str} {p p' p1 p2 pos : Pos}
theorem pe_vainit {pl : Sem Bool} (hg : Gl X "ValueError") (hm : X.mg "ValueError" = none) (vV : PySem.W.findCls X.K (.type "ValueError") (.type "type") "__init__" = some (.val (.builtin "ValueError.__init__"))) (ha : PA X (e :: es) ta)
    (hc : eval (.Call (.Attribute (.Name "ValueError" p1) "__init__" p2) (e :: es) [] pos) X.env = (do
      let ov ← eval (.Name "ValueError" p1) X.env
      standAt p2.atName
      let (f, first) ← holding [ov] (getMethod ov "__init__" pl)
      callWith pos f first (backTo pos (starEach (e :: es) X.env)) (backToKw pos (keywordEach [] X.env))) := by rfl)
    (he : starEach (e :: es) X.env = (false, eval e X.env) :: starEach es X.env := by rfl) (hpl : (backTo pos (starEach es X.env)).any (·.1) = false := by rfl) :
    PE X (.Call (.Attribute (.Name "ValueError" p1) "__init__" p2) (e :: es) [] pos) (tFxI X.K "ValueError.__new__" vaTail ta) := by
  refine ⟨fun pins s σ H Q I h => ?_⟩
  refine PySem.W.methodCall_KW (ld_blt I hg hm boot_ValueErrorQ ?_ (by decide) (by decide)) hc
  obtain ⟨m, fr⟩ := I.fr
  refine PySem.W.method_type fr I.ok.mod.kin typ_VA (by decide +kernel) vV (by decide +kernel) ?_
  show wpAny _ _ (callWith pos (Value.builtin "ValueError.__init__") [] (backTo pos (starEach (e :: es) X.env)) []) _ _ _
  refine PyProof.Rows.callWith_method1 (thn (ha.run pos pins _ σ H _ (I.tok _) h) fun us s1 ⟨vs, H1, I1, r1, a, C, ws, ev, hl, T, ea, q⟩ => ?_) he hpl
  subst ev
  cases r1 with
  | @cons _ u0 _ ur ra rw' =>
    obtain rfl : u0 = Value.ref a := ra
    have hlen : ur.length ≤ sizeLine := by
      rw [← Paired.length rw', sizeLine_eq]
      omega
    exact finit_okG fxb_Value.g T I1 ea hlen fun s' J => ⟨.non, H1, J, rfl, q⟩
end
end Q
/-! QO23 -/
namespace Q
open PySem PySem.Spec PyProof.Rows L2
end Q
/-! QO24 -/
namespace Q
open PySem PySem.Spec PyProof.Rows L2
end Q
/-! QO25 -/
namespace Q
open PySem PySem.Spec PyProof.Rows L2
abbrev XCl := Xn → Option (Addr × Option Str)
def RzX (K : PySem.W.Frag) (F : Hp) (pa : Option Addr) (H : Hp) (fl : Option Str) (d : D) (dd : Option Addr) : Prop := match fl with
  | none => dd = none ∧ d = .non
  | some f => ∃ a fs v, dd = some a ∧ F a = some (.xd fs) ∧ fs.lookup f = some v ∧ RelD K F pa d v
def liftE (K : PySem.W.Frag) (cl : XCl) (sp : PSpE) : Sp := fun vs H Q E => ∃ F pa t ds P Px, Cf K (B0 F pa t H) F pa t [] [] H ∧ RelL K F pa ds vs ∧ sp ds t P Px ∧
  (∀ v d F' pa' t' H', Cf K (B0 F pa t H) F' pa' t' [] [] H' → RelD K F' pa' d v → P d t' → Q v H') ∧
  ∀ c C fl d dd F' pa' t' H', cl c = some (C, fl) → Cf K (B0 F pa t H) F' pa' t' [] [] H' → RzX K F' pa' H' fl d dd → Px c d t' → E (.ref C) dd H'
def teE (K : PySem.W.Frag) (B : Bs) (cl : XCl) (dx : DXE) (E : L2.St → XK) : TE := fun σ H Q => ∃ F pa t env P Px, Cf K B F pa t env σ H ∧ dx env t P Px ∧
  (∀ v d F' pa' t' H', Gr F pa F' pa' → Cf K B F' pa' t' env σ H' → RelD K F' pa' d v → P d t' → Q v H') ∧
  ∀ c C fl d dd F' pa' t' H', cl c = some (C, fl) → Gr F pa F' pa' → Cf K B F' pa' t' env σ H' → RzX K F' pa' H' fl d dd → Px c d t' → E σ (.ref C) dd H'
section
variable {X : Cx} {B : Bs} {cl : XCl} {sp : PSpE} {as bs : DA} {E : L2.St → XK} {e o : Expr} {es : List Expr} {dx : DXE} {da de : DE}
theorem z_call (h : PE X e (tCallS (liftE X.K cl sp) E (taOf X.K B as))) : PE X e (teE X.K B cl (zCall sp as) E) :=
  PE.imp h fun σ H Q ⟨F, pa, t, env, P, Px, Cc, h, k, kx⟩ => ⟨F, pa, t, env, _, Cc, h, fun vs ds F1 pa1 t1 H1 g1 C1 r1 q1 => ⟨F1, pa1, t1, ds, P, Px, C1.call, r1, q1, fun v d F' pa' t' H' C' r' q' => by
    obtain ⟨g, W2⟩ := C1.after C'
    exact k v d F' pa' t' H' (g1.trans g) W2 r' q', fun c C fl d dd F' pa' t' H' ec C' r' q' => by
    obtain ⟨g, W2⟩ := C1.after C'
    exact kx c C fl d dd F' pa' t' H' ec (g1.trans g) W2 r' q'⟩⟩
theorem q_XE {W : WX} {Px : PX} (hE : ∀ c C fl F pa t env σ H d dd, cl c = some (C, fl) → Cf X.K B F pa t env σ H → RzX X.K F pa H fl d dd → Px c d t → W (.ref C) dd σ H) (h : PE X e (teE X.K B cl dx (WE W))) : QE X B e (dXE dx Px) :=
  PE.imp h fun σ H Q ⟨F, pa, t, env, P, Cc, h, k⟩ => ⟨F, pa, t, env, P, Px, Cc, h, k, fun c C fl d dd F' pa' t' H' ec g C' r q' => hE _ _ _ _ _ _ _ _ _ _ _ ec C' r q'⟩
theorem q_raiseE {W : WX} {Px : PX} {c : Xn} {C : Addr} {f : Str} {pos : Pos} {as : DA} (hc : X.calm = true) (tk : Takes X W) (hE : ∀ c C fl F pa t env σ H d dd, cl c = some (C, fl) → Cf X.K B F pa t env σ H → RzX X.K F pa H fl d dd → Px c d t → W (.ref C) dd σ H) (ec : cl c = some (C, some f))
    (mk : PMk X e (fun σ H Q => taOf X.K B as σ H fun vs H1 => ∃ y, vs = [y] ∧ ∀ d, H1 d = none → Q (.ref C) (some d) (upd H1 d (.xd [(f, y)])))) : QS X B (.Raise (some e) none pos) (dRaiseE c Px as) :=
  q_raiseF (C := C) (f := f) (Px := Px c) hc tk (fun F pa t env σ H v d dd fs C' r e1 e2 q => hE c C (some f) F pa t env σ H d (some dd) ec C' ⟨dd, fs, v, rfl, e1, e2, r⟩ q) mk
end
section
variable {P : Program} {w : World} {K : PySem.W.Frag} {mg : Str → Option Value} {base : Heap}
theorem fn_okE {x qual : Str} {st : Stmt} {f : Addr} {cl : XCl} {fd : FuncData} {N ps : List Str} {k : Nat} {sp : PSpE} {ds : PX → DS} (Fu : Fun K x qual st f fd) (S : FnScope N ps (defScope st)) (len : ∀ as t Q Px, sp as t Q Px → as.length = ps.length)
    (hbody : ∀ (cdv : Value) (A : Around) (outer : List PySem.Env) (s : Shared) (H : Hp) (E : XK) (B : Bs) (Px : PX), Room k (A.deeper (envOfC qual (defScope st) s.heap.objs.size f cdv)) → B.Top → B.m = false →
      (∀ c C fl F pa t env σ H' d dd, cl c = some (C, fl) → Cf K B F pa t env σ H' → RzX K F pa H' fl d dd → Px c d t → E (.ref C) dd H') →
      QSs (cxOf (L2.CX P w) P w K mg base N qual (defScope st) f cdv A outer s H E) B (defBody st) (ds Px))
    (hds : ∀ as t Q Px, sp as t Q Px → ds Px (endsOf Q) (start0 N as) t) : FnOk P w K mg base (L2.CX P w) (k + 1) f fd ps (liftE K cl sp) := by
  refine Fu.okX S (fun vs H Q E h => ?_) (fun cdv A outer s H vs Q E hr h => ?_)
  · obtain ⟨F, pa, t, as, R, Px, Cc, r, q, _⟩ := h
    rw [r.len]; exact len as t R Px q
  · obtain ⟨F, pa, t, as, R, Px, Cc, r, q, fin, finx⟩ := h
    refine ⟨_, hbody cdv A outer s H E (B0 F pa t H) Px hr (B0.top F pa t H) rfl (fun c C fl F' pa' t' env σ H' d dd ec C' rv px => finx c C fl d dd F' pa' t' H' ec C'.nil rv px), F, pa, t, start0 N as, endsOf R, cf_start Cc r, hds as t R Px q, ⟨?_, ?_, ?_, ?_⟩⟩
    · intro F' pa' t' env σ H' g C' q'
      exact fin .non .non F' pa' t' H' C'.nil rD_non q'
    · intro v d F' pa' t' env σ H' g C' r' q'
      exact fin v d F' pa' t' H' C'.nil r' q'
    · intro F' pa' t' env σ H' g C' q'
      exact q'.elim
    · intro F' pa' t' env σ H' g C' q'
      exact q'.elim
end
end Q
/-! QL1 -/
namespace Q
open PySem PySem.Spec PyProof.Rows L2 LamX
section
variable {K : PySem.W.Frag} {F F' : Hp} {pa : Option Addr} {S : List Addr}
theorem sq_cut {a : Addr} {xs : List V} (hS : ObsAt S F) (h : SqL K F a xs) : SqL K (cut S F) a xs := by
  rcases h with (h | ⟨o, h⟩) | h
  · exact .inl (.inl (by rw [cut_ni (hS.sp h (fun _ z => by cases z))]; exact h))
  · exact .inl (.inr ⟨o, by rw [cut_ni (hS.sp h (fun _ z => by cases z))]; exact h⟩)
  · exact .inr h
mutual
theorem RelD.cut (hS : ObsAt S F) : ∀ (d : D) (v : V), nopen d = true → RelD K F pa d v → RelD K (cut S F) pa d v
  | .non, v, _, h => by unfold RelD at h ⊢; exact h
  | .bl b, v, _, h => by unfold RelD at h ⊢; exact h
  | .int i, v, _, h => by unfold RelD at h ⊢; exact h
  | .str x, v, _, h => by unfold RelD at h ⊢; exact h
  | .ty n, v, _, h => by unfold RelD at h ⊢; exact h
  | .adr a, v, _, h => by unfold RelD at h ⊢; exact h
  | .rp a, v, _, h => by unfold RelD at h ⊢; exact h
  | .pen, v, n, h => by simp [nopen] at n
  | .ob x l, v, n, h => by simp [nopen] at n
  | .scr ns, v, _, h => by
    unfold RelD at h ⊢
    obtain ⟨a, e, r⟩ := h
    exact ⟨a, e, sq_cut hS r⟩
  | .fl m, v, _, h => by
    unfold RelD at h ⊢
    obtain ⟨a, e, r⟩ := h
    exact ⟨a, e, by rw [cut_ni (hS.sp r (fun _ z => by cases z))]; exact r⟩
  | .lst l, v, n, h => by
    unfold RelD at h ⊢
    unfold nopen at n
    obtain ⟨a, vs, e, r, q⟩ := h
    exact ⟨a, vs, e, by rw [cut_ni (hS.sp r (fun _ z => by cases z))]; exact r, RelL.cut hS l vs n q⟩
  | .tup l, v, n, h => by
    unfold RelD at h ⊢
    unfold nopen at n
    obtain ⟨a, vs, e, r, q⟩ := h
    exact ⟨a, vs, e, by rw [cut_ni (hS.sp r (fun _ z => by cases z))]; exact r, RelL.cut hS l vs n q⟩
  | .dic ks l, v, n, h => by
    unfold RelD at h ⊢
    unfold nopen at n
    obtain ⟨a, vs, e, r, z, q⟩ := h
    exact ⟨a, vs, e, by rw [cut_ni (hS.sp r (fun _ z => by cases z))]; exact r, z, RelL.cut hS l vs n q⟩
  | .ins C ns l, v, n, h => by
    unfold RelD at h ⊢
    unfold nopen at n
    obtain ⟨a, dx, vs, e, r, z, q⟩ := h
    exact ⟨a, dx, vs, e, by rw [cut_ni (hS.sp r (fun _ z => by cases z))]; exact r, z, RelL.cut hS l vs n q⟩
theorem RelL.cut (hS : ObsAt S F) : ∀ (l : List D) (vs : List V), nopens l = true → RelL K F pa l vs → RelL K (cut S F) pa l vs
  | [], vs, _, h => by unfold RelL at h ⊢; exact h
  | d :: ds, vs, n, h => by
    unfold RelL at h ⊢
    unfold nopens at n
    obtain ⟨v, vr, e, r, q⟩ := h
    have n2 := Bool.and_eq_true_iff.mp n
    exact ⟨v, vr, e, RelD.cut hS d v n2.1 r, RelL.cut hS ds vr n2.2 q⟩
end
theorem RelO1.cut (hS : ObsAt S F) : ∀ {d : D} {h : HO}, nopen d = true → RelO1 K F pa d h → RelO1 K (Q.cut S F) pa d h := fun {d h} n r => by
  cases d with
  | lst l => obtain ⟨vs, e, q⟩ := r; exact ⟨vs, e, RelL.cut hS l vs (by simpa [nopen] using n) q⟩
  | dic ks l => obtain ⟨vs, e, z, q⟩ := r; exact ⟨vs, e, z, RelL.cut hS l vs (by simpa [nopen] using n) q⟩
  | ins C ns l => obtain ⟨dx, vs, e, z, q⟩ := r; exact ⟨dx, vs, e, z, RelL.cut hS l vs (by simpa [nopen] using n) q⟩
  | fl m => exact r
  | _ => exact r.elim
theorem PenOk.cut {t : Ts} {h : HO} (hS : ObsAt S F) (p : PenOk F t h) : PenOk (Q.cut S F) t h := by
  obtain ⟨ca, e, q⟩ := p
  exact ⟨ca, e, by rw [cut_ni (hS.sp q (fun _ z => by cases z))]; exact q⟩
end
section
variable {K : PySem.W.Frag} {B : Bs} {F : Hp} {pa : Option Addr} {t : Ts} {env : En} {σ : L2.St} {H : Hp} {S : List Addr}
theorem ObsAt.up (C : Cf K B F pa t env σ H) (hS : ObsAt S F) : ObsAt S H := fun b hb => by
  obtain ⟨o, e⟩ := hS b hb
  exact ⟨o, C.sub _ _ e⟩
theorem Cf.cutC (C : Cf K B F pa t env σ H) (hS : ObsAt S F) : Cf K (B0 (cut S F) pa t (cut S H)) (cut S F) pa t [] [] (cut S H) := by
  have nF : ∀ a, F a = none → a ∉ S := fun a e z => by obtain ⟨o, q⟩ := hS a z; rw [e] at q; cases q
  refine ⟨rfl, fun a o e => ?_, fun _ _ e => e, fun _ _ e _ _ => e, fun a o e => .inl ⟨o, e⟩, fun a ha => ?_, fun i d e => by simp at e, fun i d e => by simp at e, fun i j d e a q => by simp at q, fun a e => ?_, rfl, TabF.nil, fun a ps e => C.ntb a ps (cut_some e).2, fun a d e => ?_, fun a e => e, fun i d a e => by simp at e⟩
  · obtain ⟨hb, e⟩ := cut_some e
    rw [cut_ni hb]; exact C.sub _ _ e
  · obtain ⟨h1, ⟨h, q, _⟩, _⟩ := C.pen a (mem_pa.mp ha)
    exact ⟨h, by rw [cut_ni (nF a h1)]; exact q⟩
  · obtain ⟨h1, ⟨h, q, r⟩, _⟩ := C.pen a e
    exact ⟨by rw [cut_ni (nF a h1)]; exact h1, ⟨h, by rw [cut_ni (nF a h1)]; exact q, r.cut hS⟩, .inl (mem_pa.mpr e)⟩
  · obtain ⟨h1, ⟨h, q, r⟩, h3, _, h5⟩ := C.obs a d e
    exact ⟨by rw [cut_ni (nF a h1)]; exact h1, ⟨h, by rw [cut_ni (nF a h1)]; exact q, r.cut hS h5⟩, h3, .inl ⟨d, e⟩, h5⟩
theorem pst_gr {F F' : Hp} {H' : Hp} (hn : ∀ b ∈ S, H' b = none) (sub : ∀ a o, F' a = some o → H' a = some o) : Gf F' (pst S F F') := fun a o e => by
  have ha : a ∉ S := fun z => by have := sub a o e; rw [hn a z] at this; cases this
  rw [pst_ni ha]; exact e
theorem Cf.paste {F' : Hp} {pa' : Option Addr} {t' : Ts} {H' : Hp} (C : Cf K B F pa t env σ H) (hS : ObsAt S F) (C' : Cf K (B0 (cut S F) pa t (cut S H)) F' pa' t' [] [] H') (hn : ∀ b ∈ S, H' b = none) :
    Cf K (B0 F pa t H) (pst S F F') pa' t' [] [] (pst S H H') := by
  have g : Gr F' pa' (pst S F F') pa' := ⟨pst_gr hn C'.sub, rfl⟩
  have ni : ∀ a o, H' a = some o → a ∉ S := fun a o e z => by rw [hn a z] at e; cases e
  refine ⟨rfl, fun a o e => ?_, fun a o e => ?_, fun a o e hx hO => ?_, fun a o e => ?_, fun a ha => ?_, fun i d e => by simp at e, fun i d e => by simp at e, fun i j d e a q => by simp at q, fun a e => ?_, C'.pnn, TabF.nil, fun a ps e => ?_, fun a d e => ?_, fun a e => C'.obx a e, fun i d a e => by simp at e⟩
  · by_cases ha : a ∈ S
    · rw [pst_in ha] at e ⊢; exact C.sub _ _ e
    · rw [pst_ni ha] at e ⊢; exact C'.sub _ _ e
  · by_cases ha : a ∈ S
    · rw [pst_in ha]; exact e
    · rw [pst_ni ha]; exact C'.bas a o (by show cut S F a = some o; rw [cut_ni ha]; exact e)
  · by_cases ha : a ∈ S
    · rw [pst_in ha]; exact e
    · rw [pst_ni ha]; exact C'.frm a o (by show cut S H a = some o; rw [cut_ni ha]; exact e) hx hO
  · by_cases ha : a ∈ S
    · rw [pst_in ha] at e; exact .inl ⟨o, e⟩
    · rw [pst_ni ha] at e
      rcases C'.new a o e with ⟨o', z⟩ | z
      · exact .inl ⟨o', (cut_some (show cut S F a = some o' from z)).2⟩
      · have z : cut S H a = none := z
        rw [cut_ni ha] at z
        exact .inr z
  · obtain ⟨o, e⟩ := C'.exl a ha
    exact ⟨o, by rw [pst_ni (ni a o e)]; exact e⟩
  · obtain ⟨h1, ⟨h, q, r⟩, h3⟩ := C'.pen a e
    have ha := ni a h q
    refine ⟨by rw [pst_ni ha]; exact h1, ⟨h, by rw [pst_ni ha]; exact q, r.mono g.f⟩, h3.imp id fun z => ?_⟩
    have z : cut S H a = none := z
    rw [cut_ni ha] at z
    exact z
  · by_cases ha : a ∈ S
    · rw [pst_in ha] at e; exact C.ntb a ps e
    · rw [pst_ni ha] at e; exact C'.ntb a ps e
  · obtain ⟨h1, ⟨h, q, r⟩, h3, h4, h5⟩ := C'.obs a d e
    have ha := ni a h q
    refine ⟨by rw [pst_ni ha]; exact h1, ⟨h, by rw [pst_ni ha]; exact q, RelO1.mono g d h r⟩, h3, h4.imp id fun z => ?_, h5⟩
    have z : cut S H a = none := z
    rw [cut_ni ha] at z
    exact z
end
structure LamN (L : LamK) : Prop where
  kind : L.scope.kind = .function
  co : L.scope.isCoroutine = false
  gen : L.scope.isGenerator = false
  own : ∀ y ∈ L.scope.names, y.2 ≠ .local ∧ y.2 ≠ .cell
  nd : L.free.Nodup
  bind : ∀ (cl : List (Str × Addr)) (pm cv ctv : Value), bindArgs (PySem.W.kla_fn "<lambda>" L.qual L.params L.body L.scope cl pm cv ctv) ⟨[], []⟩ = pure []
theorem free_mem {L : LamK} {y : Str} : y ∈ L.free ↔ (y, NameKind.free) ∈ L.scope.names := by
  unfold LamK.free
  simp only [List.mem_reverse, List.mem_map, List.mem_filter]
  constructor
  · rintro ⟨⟨a, k⟩, ⟨h1, h2⟩, rfl⟩
    cases k <;> first | exact h1 | exact Bool.noConfusion (show false = true from h2)
  · intro h
    exact ⟨(y, .free), ⟨h, rfl⟩, rfl⟩
theorem cloFrom_names {cells : List (Str × Addr)} : ∀ (names : List (Str × NameKind)) (acc : List (Str × Addr)), (cloFrom cells names acc).map Prod.fst = ((names.filter fun y => y.2 == .free).map (·.1)).reverse ++ acc.map Prod.fst
  | [], acc => by simp [cloFrom]
  | (n, k) :: r, acc => by
    unfold cloFrom
    cases e : (k == NameKind.free) with
    | true =>
      rw [if_pos rfl, cloFrom_names r]
      simp [e]
    | false =>
      rw [if_neg (by simp), cloFrom_names r]
      simp [e]
theorem lookup_get {Z : List (Str × Addr)} : ∀ {k : Nat} {y : Str} {c : Addr}, (Z.map Prod.fst).Nodup → Z[k]? = some (y, c) → Z.lookup y = some c := by
  induction Z with
  | nil => intro k y c _ h; simp at h
  | cons z Z ih =>
    intro k y c nd h
    obtain ⟨n, b⟩ := z
    rw [List.map_cons, List.nodup_cons] at nd
    cases k with
    | zero =>
      simp at h
      obtain ⟨rfl, rfl⟩ := h
      simp [List.lookup]
    | succ k =>
      simp at h
      have hy : y ∈ Z.map Prod.fst := List.mem_map.mpr ⟨(y, c), List.mem_of_getElem? h, rfl⟩
      have ne : (y == n) = false := by
        cases q : (y == n) with
        | false => rfl
        | true => exact absurd (by rw [← eq_of_beq q]; exact hy) nd.1
      rw [List.lookup_cons, ne]
      exact ih nd.2 h
theorem get_lookup {Z : List (Str × Addr)} {y : Str} {c : Addr} (h : Z.lookup y = some c) : ∃ k : Nat, Z[k]? = some (y, c) := by
  have := PySem.mem_of_lookup h
  obtain ⟨k, hk⟩ := List.mem_iff_getElem?.mp this
  exact ⟨k, hk⟩
abbrev envC (L : LamK) (l f c' : Addr) (Z : List (Str × Addr)) : Env := PySem.W.envX L.qual L.scope l f (.ref c') Z
def lamCxC (P : Program) (w : World) (K : PySem.W.Frag) (mg : Str → Option Value) (base : Heap) (A : Around) (outer : List Env) (s : Shared) (H : Hp) (E : XK) (L : LamK) (f c' : Addr) (Z : List (Str × Addr)) : Cx where
  prog := P
  w := w
  K := K
  mg := mg
  base := base
  A := A.deeper (envC L s.heap.objs.size f c' Z)
  N := L.free
  s_0 := s
  H_0 := H
  env := envC L s.heap.objs.size f c' Z
  outer := outer
  stack := envC L s.heap.objs.size f c' Z :: outer
  ex := []
  fn := fun _ => false
  calm := true
  pn := []
  xe := fun e s' => wpAny (model P w) (A.deeper (envC L s.heap.objs.size f c' Z)) (leaving (envC L s.heap.objs.size f c' Z) e) (fun _ s'' => L2.CX P w outer H s E e s'') (fun e' s'' => L2.CX P w outer H s E e' s'') s'
section
variable {P : Program} {w : World} {K : PySem.W.Frag} {mg : Str → Option Value} {base : Heap}
theorem lamC_start {A : Around} {outer : List Env} {s : Shared} {H : Hp} {E : XK} {L : LamK} {f c' : Addr} {Z : List (Str × Addr)} {vs : List V} {h₁ : Heap} {tk : Nat} (e0 : Env0 P w K mg base A outer s H) (hd : A.handled = none) (LN : LamN L)
    (hZ : Z.map Prod.fst = L.free) (inj : ZInj Z) (hl : vs.length = Z.length) (hn : ∀ z ∈ Z, H z.2 = none)
    (hc : ∀ (k : Nat) (z : Str × Addr) (x : V), Z[k]? = some z → vs[k]? = some x → ∃ oc u, s.heap.get? z.2 = some oc ∧ oc.data = .cell (some u) ∧ RelV x u)
    (hns : h₁.Ns s.heap.objs.size fun y => ([] : List (Str × Value)).reverse.lookup y) (kp : ∀ b o, s.heap.get? b = some o → h₁.get? b = some o) :
    Inv (lamCxC P w K mg base A outer s H E L f c' Z) [] (L2.start L.free vs) H { s with heap := h₁, toks := tk } := by
  have noA : ∀ b : Addr, b ∉ (lamCxC P w K mg base A outer s H E L f c' Z).ex := fun b z => absurd (show b ∈ ([] : List Addr) from z) (by simp)
  have hlen : vs.length = L.free.length := by rw [hl, ← hZ, List.length_map]
  have cellAt : ∀ {x : Str} {c : Addr}, Z.lookup x = some c → ∃ oc u, s.heap.get? c = some oc ∧ oc.data = .cell (some u) := fun {x c} e => by
    obtain ⟨k, hk⟩ := get_lookup e
    have kl : k < vs.length := by rw [hl]; exact (List.getElem?_eq_some_iff.mp hk).1
    obtain ⟨oc, u, h1, h2, _⟩ := hc k (x, c) vs[k] hk (by simp [kl])
    exact ⟨oc, u, h1, h2⟩
  refine ⟨⟨e0.mod, LN.kind, rfl, rfl, Nat.le_refl _, fun y z c e1 e2 => inj y z c e1 e2, fun y hy => ?_, fun y c z _ => ?_, fun _ => hd, Around.frames_deeper e0.frames, .inr ⟨rfl, rfl⟩, fun b z => absurd z (noA b), e0.bs, e0.bsz, fun b _ _ => noA b,
      fun b z => absurd z (noA b), e0.funs, e0.frf⟩,
    rfl, e0.bare, Un.kept kp, ⟨_, hns, fun i y v e1 e2 e3 => ?_⟩, fun y c e => ?_, e0.hok.fresh (Nat.le_refl _), fun y c e => ?_, fun q hq => absurd (show q ∈ ([] : List (Addr × Obj)) ++ [] from hq) (by simp), e0.hok.kept kp, by simp [L2.start, hlen, lamCxC]⟩
  · have hy : L.scope.names.lookup y = some .cell ∨ L.scope.names.lookup y = some .free := hy
    rcases hy with hy | hy
    · exact absurd rfl (LN.own _ (PySem.mem_of_lookup hy)).2
    · have hf : y ∈ L.free := free_mem.mpr (PySem.mem_of_lookup hy)
      rw [← hZ] at hf
      obtain ⟨⟨n, c⟩, hm, rfl⟩ := List.mem_map.mp hf
      obtain ⟨k, hk⟩ := List.mem_iff_getElem?.mp hm
      exact ⟨c, lookup_get (Z := Z) (by rw [hZ]; exact LN.nd) hk⟩
  · have z : false = true := z
    cases z
  · have e3 : Vis L.scope y := e3
    rcases e3 with k | k | k
    · exact absurd rfl (LN.own _ (PySem.mem_of_lookup k)).1
    · exact absurd rfl (LN.own _ (PySem.mem_of_lookup k)).2
    · have e1 : L.free[i]? = some y := e1
      rw [← hZ, List.getElem?_map] at e1
      cases q : Z[i]? with
      | none => rw [q] at e1; cases e1
      | some z =>
        rw [q] at e1
        simp at e1
        obtain ⟨n, c⟩ := z
        have e1 : n = y := e1
        subst e1
        have iv : vs[i]? = some v := by
          have il : i < vs.length := by rw [hl]; exact (List.getElem?_eq_some_iff.mp q).1
          unfold L2.start at e2
          rw [List.getElem?_append_left (by simpa using il), List.getElem?_map] at e2
          cases q2 : vs[i]? with
          | none => rw [q2] at e2; cases e2
          | some x => rw [q2] at e2; simp at e2; rw [e2]
        obtain ⟨oc, u, h1, h2, h3⟩ := hc i _ v q iv
        exact ⟨u, h3, .inr ⟨.inr k, c, lookup_get (Z := Z) (by rw [hZ]; exact LN.nd) q, oc, kp _ _ h1, h2⟩⟩
  · obtain ⟨oc, u, h1, h2⟩ := cellAt e
    exact ⟨some u, oc, kp _ _ h1, h2⟩
  · obtain ⟨k, hk⟩ := get_lookup e
    exact hn _ (List.mem_of_getElem? hk)
theorem e0_cut {A : Around} {outer : List Env} {s : Shared} {H : Hp} {S : List Addr} (e0 : Env0 P w K mg base A outer s H) (hS : ObsAt S H) : Env0 P w K mg base A outer s (Q.cut S H) := by
  have nn : ∀ b, H b = none → Q.cut S H b = none := fun b e => by
    by_cases hb : b ∈ S
    · exact cut_in hb
    · rw [cut_ni hb]; exact e
  refine ⟨e0.frames, e0.mod, fun b o e => ⟨(e0.bs b o e).1, nn b (e0.bs b o e).2⟩, e0.bsz, e0.funs, fun b hb => nn b (e0.frf b hb), fun a o e => ?_, e0.bare⟩
  obtain ⟨ha, e⟩ := cut_some e
  exact (e0.hok a o e).stay (fun _ _ _ q => q) (fun b q => by rw [cut_ni (hS.sp q (fun _ z => by cases z))]; exact q) fun b xs q => by rw [cut_ni (hS.sp q (fun _ z => by cases z))]; exact q
structure LamOk (P : Program) (w : World) (K : PySem.W.Frag) (mg : Str → Option Value) (base : Heap) (k : Nat) (L : LamK) (cl : XCl) (sp : PSpE) : Prop where
  run : ∀ (i : Nat) (f : Addr) (Z : List (Str × Addr)) (A : Around) (outer : List Env) (s : Shared) (H F : Hp) (pa : Option Addr) (t : Ts) (ls : List D) (vs : List V) (Pq : D → Ts → Prop) (Px : PX) (Q : VK) (E : XK),
    Room k A → Env0 P w K mg base A outer s H → Cf K (B0 F pa t H) F pa t [] [] H → ObRel F f (.fn i L Z true) vs → RelL K F pa ls vs → nopens ls = true → sp ls t Pq Px →
    (∀ v d F' pa' t' H', Cf K (B0 F pa t H) F' pa' t' [] [] H' → RelD K F' pa' d v → Pq d t' → Q v H') →
    (∀ c C fl d dd F' pa' t' H', cl c = some (C, fl) → Cf K (B0 F pa t H) F' pa' t' [] [] H' → RzX K F' pa' H' fl d dd → Px c d t' → E (.ref C) dd H') →
    codeAny (model P w) A (.call (.ref f) ⟨[], []⟩) (CR (L2.CX P w) outer P w H s Q E) s
theorem LamOk.mono {k k' : Nat} {L : LamK} {cl : XCl} {sp : PSpE} (h : LamOk P w K mg base k L cl sp) (hk : k ≤ k') : LamOk P w K mg base k' L cl sp :=
  ⟨fun i f Z A outer s H F pa t ls vs Pq Px Q E hr => h.run i f Z A outer s H F pa t ls vs Pq Px Q E (hr.mono hk)⟩
theorem LamOk.imp {k : Nat} {L : LamK} {cl : XCl} {sp sp' : PSpE} (h : LamOk P w K mg base k L cl sp) (hi : ∀ ls t Pq Px, sp' ls t Pq Px → sp ls t Pq Px) : LamOk P w K mg base k L cl sp' :=
  ⟨fun i f Z A outer s H F pa t ls vs Pq Px Q E hr e0 C ob r np q => h.run i f Z A outer s H F pa t ls vs Pq Px Q E hr e0 C ob r np (hi _ _ _ _ q)⟩
theorem LamOk.none {k : Nat} {L : LamK} {cl : XCl} : LamOk P w K mg base k L cl fun _ _ _ _ => False := ⟨fun i f Z A outer s H F pa t ls vs Pq Px Q E hr e0 C ob r np q => q.elim⟩
theorem lam_okE {k : Nat} {L : LamK} {cl : XCl} {sp : PSpE} {dx : DXE} (LN : LamN L)
    (hbody : ∀ (A : Around) (outer : List Env) (s : Shared) (H : Hp) (E : XK) (f c' : Addr) (Z : List (Str × Addr)) (B : Bs), Room k (A.deeper (envC L s.heap.objs.size f c' Z)) → B.Top → B.m = false → PE (lamCxC P w K mg base A outer s H E L f c' Z) L.body (teE K B cl dx (WE fun cls d _ H => E cls d H)))
    (hds : ∀ ls t Pq Px, sp ls t Pq Px → ls.length = L.free.length → dx (start0 L.free ls) t Pq Px) : LamOk P w K mg base (k + 1) L cl sp := by
  refine ⟨fun i f Z A outer s H F pa t ls vs Pq Px Q E hr e0 C ob rl np q fin finx => ?_⟩
  obtain ⟨c', o, h1, ⟨pm, ctv, ho⟩, h3, inj, hZ, hcl, hcell⟩ := ob
  have hlen := hcl rfl
  obtain ⟨S, hSe⟩ : ∃ S : List Addr, S = Z.map Prod.snd := ⟨_, rfl⟩
  have hS : ObsAt S F := fun b hb => by
    rw [hSe] at hb
    obtain ⟨z, hz, rfl⟩ := List.mem_map.mp hb
    obtain ⟨k, hk⟩ := List.mem_iff_getElem?.mp hz
    have kl : k < vs.length := by rw [hlen]; exact (List.getElem?_eq_some_iff.mp hk).1
    obtain ⟨oc, u, e, _⟩ := hcell k z vs[k] hk (by simp [kl])
    exact ⟨oc, e⟩
  have hSH := hS.up C
  have hf := ObX.at e0.hok (C.sub _ _ h1)
  obtain ⟨⟨oc, vsc, tc, hoc, hdc, hvc⟩, _, _⟩ := e0.hok c' _ (C.sub _ _ h3)
  have ok := e0.hok
  have hfr : ∀ b ∈ S, b ∉ frs outer := fun b hb z => by
    obtain ⟨o, e⟩ := hSH b hb
    rw [e0.frf b z] at e; cases e
  refine codeAny_mono (R := CR (L2.CX P w) outer P w (cut S H) s (fun v H' => (∀ b ∈ S, H' b = none) → Q v (pst S H H')) fun cls d H' => (∀ b ∈ S, H' b = none) → E cls d (pst S H H')) ?_ fun r s' c => CR.uncut ok hSH hfr (fun v H' n z => z n) (fun cls d H' n z => z n) c
  have lim : s.heap.NoLimit := e0.mod.nolimit.keeps fun b o e => (e0.bs b o e).1
  rw [ho] at hf
  refine PySem.W.kla_callFunE hr.depth hf rfl LN.co LN.gen rfl ⟨c', oc, vsc, tc, rfl, hoc, hdc, hvc⟩ ?_
  rw [LN.bind]
  refine wpAny_pure (wpAny_newFunctionEnv (fun y hy => (LN.own y hy).2) (fun y hy => absurd hy (by simp)) (fun h₁ hns hsb => ⟨lim.fresh _ hsb, ?_⟩) LN.kind)
  have kp : ∀ b o, s.heap.get? b = some o → h₁.get? b = some o := fun b o e => hsb.extBut b o (Nat.ne_of_lt (Heap.lt_size e)) (Heap.get?_push_of_some _ e)
  have J := lamC_start (E := fun cls d H' => (∀ b ∈ S, H' b = none) → E cls d (pst S H H')) (f := f) (c' := c') (tk := s.toks + ([] : List (Str × Value)).length) (e0_cut e0 hSH) hr.hd LN hZ inj hlen (fun z hz => cut_in (by rw [hSe]; exact List.mem_map.mpr ⟨z, hz, rfl⟩))
    (fun k z x e1 e2 => by
      obtain ⟨oc, u, e, e3, e4⟩ := hcell k z x e1 e2
      exact ⟨oc, u, ObX.at ok (C.sub _ _ e), e3, e4⟩) hns kp
  have CC := cf_start (N := L.free) (C.cutC hS) (RelL.cut hS _ _ np rl)
  have hll : ls.length = L.free.length := by rw [← rl.len, hlen, ← hZ, List.length_map]
  have run := (hbody A outer s (cut S H) _ f c' Z (B0 (cut S F) pa t (cut S H)) (hr.deeper _) (B0.top _ _ _ _) rfl).run [] _ _ _ (fun v H' => (∀ b ∈ S, H' b = none) → Q v (pst S H H')) J
    ⟨cut S F, pa, t, start0 L.free ls, Pq, Px, CC, hds _ _ _ _ q hll, fun v d F' pa' t' H' g C' r' q' hn => ?_, fun c Cc fl d dd F' pa' t' H' ec g C' r' q' hn => ?_⟩
  · refine PySem.W.kla_codeExpr (wpAny_mono run (fun v s' hq => ?_) fun e s' hq => hq)
    obtain ⟨w', H', J', rv, q⟩ := hq
    exact ⟨w', H', J'.os, J'.bare, J'.base, J'.hok, rv, q⟩
  · have C2 := C.paste hS C'.nil hn
    exact fin v d _ pa' t' _ C2 (RelD.mono ⟨pst_gr hn C'.sub, rfl⟩ d v r') q'
  · have C2 := C.paste hS C'.nil hn
    refine finx c Cc fl d dd _ pa' t' _ ec C2 ?_ q'
    cases fl with
    | none => exact r'
    | some fl =>
      obtain ⟨a, fs, v, e1, e2, e3, e4⟩ := r'
      exact ⟨a, fs, v, e1, by rw [pst_ni (fun z => by have := C'.sub _ _ e2; rw [hn a z] at this; cases this)]; exact e2, e3, RelD.mono ⟨pst_gr hn C'.sub, rfl⟩ d v e4⟩
end
section
variable {X : Cx} {B : Bs} {cl : XCl} {E : L2.St → XK} {k i : Nat} {a : Str} {p1 p2 : Pos} {ap : Nat → LamK → PSpE}
theorem z_app (hL : ∀ n L, LamOk X.prog X.w X.K X.mg X.base k L cl (ap n L)) (hr : Room k X.A) (hv : PE X (.Name a p1) (tVar i)) (hx : ∀ σ, PassesAt (L2.CX X.prog X.w) X σ (E σ)) : PE X (.Call (.Name a p1) [] [] p2) (teE X.K B cl (zApp ap i) E) := by
  refine ⟨fun pins s σ H Q I ⟨F, pa, t, env, P, Px, C, h, fin, finx⟩ => ?_⟩
  have h : (match env[i]? with
    | some (.val (.ob (.fn n L _ true) l)) => nopens l = true ∧ ap n L l t P Px
    | _ => False) := h
  cases e : env[i]? with
  | none => rw [e] at h; exact h.elim
  | some z =>
    rw [e] at h
    cases z with
    | no => exact h.elim
    | own d => exact h.elim
    | val d =>
      cases d with
      | ob x l =>
        cases x with
        | exc x c ns => exact h.elim
        | fn n L Z b =>
          cases b with
          | false => exact h.elim
          | true =>
            obtain ⟨np, h⟩ := h
            obtain ⟨v, hs, rd⟩ := C.val i _ e
            unfold RelD at rd
            obtain ⟨f, vs, rfl, ob, rl⟩ := rd
            refine wpAny_Call_Name_kw (thn (hv.run pins s σ H (fun v H1 => v = .ref f ∧ H1 = H) I ⟨.ref f, hs, rfl, rfl⟩) fun u s1 ⟨v, H1, I1, r1, q1⟩ => ?_)
            obtain ⟨rfl, rfl⟩ := q1
            obtain rfl : u = Value.ref f := r1
            obtain ⟨c', o, h1, ⟨pm, ctv, ho⟩, _⟩ := id ob
            have of1 := ObX.at I1.hok (C.sub _ _ h1)
            rw [ho] at of1
            refine PySem.W.callWith_F0 ⟨_, _, _, _, of1⟩ ?_
            refine wpAny_call (codeAny_mono ((hL n L).run n f Z X.A X.stack s1 H1 F pa t l vs P Px Q (E σ) hr I1.env0 C.call ob rl np h (fun v d F' pa' t' H' C' r' q' => ?_) fun c Cc fl d dd F' pa' t' H' ec C' r' q' => ?_) fun r s' hq => ?_)
            · obtain ⟨g, W2⟩ := C.after C'
              exact fin v d F' pa' t' H' g W2 r' q'
            · obtain ⟨g, W2⟩ := C.after C'
              exact finx c Cc fl d dd F' pa' t' H' ec g W2 r' q'
            · cases r with
              | error e => exact hx σ pins H1 s1 e s' I1 hq
              | ok fl =>
                cases fl with
                | ret u => exact I1.after hq
                | next => exact False.elim hq
                | brk => exact False.elim hq
                | cont => exact False.elim hq
      | _ => exact h.elim
end
end Q
/-! QL2 -/
namespace Q
open PySem PySem.Spec PyProof.Rows L2 LamX
theorem inv_track {X : Cx} {pins : List (Addr × Obj)} {σ : L2.St} {H : Hp} {s : Shared} {a : Addr} {o : Obj} (I : Inv X pins σ H s) (e : s.heap.get? a = some o) (n : H a = none) (nw : X.s_0.heap.get? a = none) (nl : a ≠ X.env.locals) (nc : ∀ x c, X.env.cells.lookup x = some c → c ≠ a) (np : ∀ p ∈ X.pn ++ pins, p.1 ≠ a) :
    Inv X pins σ (upd H a (ObX a o)) s := by
  have sm : ∀ {b : Addr} {u : HO}, H b = some u → b ≠ a := fun e2 => ne_of_none e2 n
  refine ⟨I.ok, I.os, I.bare, ⟨I.base.keep, I.base.slot, fun b ob q hn hx => ?_, I.base.there, fun b xs q => ?_, fun b ob u q => ?_, fun b ps q => ?_⟩, I.loc, I.cell, ?_, fun x c h => ?_, fun p hp => ?_, fun b u q => ?_, I.len⟩
  · rw [upd_ne (fun z => by rw [z, nw] at q; cases q)]; exact I.base.free b ob q hn hx
  · have := I.base.tups b xs q
    rw [upd_ne (sm this)]; exact this
  · have := I.base.frzs b ob u q
    rw [upd_ne (sm this)]; exact this
  · obtain ⟨more, h⟩ := I.base.tbls b ps q
    exact ⟨more, by rw [upd_ne (sm h)]; exact h⟩
  · rw [upd_ne (Ne.symm nl)]; exact I.free
  · rw [upd_ne (nc x c h)]; exact I.freeC x c h
  · obtain ⟨h1, h2, h3⟩ := I.pin p hp
    exact ⟨h1, by rw [upd_ne (np p hp)]; exact h2, h3⟩
  · by_cases hb : b = a
    · subst hb; rw [upd_same] at q; cases q; exact ObX.ok e
    · rw [upd_ne hb] at q
      exact (I.hok b u q).stay (fun _ _ _ z => z) (fun c z => by rw [upd_ne (sm z)]; exact z) fun c xs z => by rw [upd_ne (sm z)]; exact z
theorem inv_track2 {X : Cx} {pins : List (Addr × Obj)} {σ : L2.St} {H : Hp} {s s0 : Shared} {a : Addr} {o : Obj} {σ0 : L2.St} {H0 : Hp} (I0 : Inv X pins σ0 H0 s0) (I : Inv X pins σ H s) (hsz : s0.heap.objs.size ≤ a) (e : s.heap.get? a = some o) (n : H a = none) : Inv X pins σ (upd H a (ObX a o)) s := by
  have old : ∀ {b : Addr} {ob : Obj}, s0.heap.get? b = some ob → b ≠ a := fun q => Nat.ne_of_lt (Nat.lt_of_lt_of_le (Heap.lt_size q) hsz)
  refine inv_track I e n ?_ ?_ (fun x c h => ?_) (fun p hp => ?_)
  · cases q : X.s_0.heap.get? a with
    | none => rfl
    | some ob => exact absurd (Nat.lt_of_lt_of_le (Heap.lt_size q) (Nat.le_trans I0.sz hsz)) (Nat.lt_irrefl _)
  · exact Nat.ne_of_gt (Nat.lt_of_lt_of_le I0.lt hsz)
  · obtain ⟨v, ob, q, _⟩ := I0.cell x c h
    exact old q
  · exact old (I0.pin p hp).1
def LamH2 (H : Hp) (P : Addr) (q : Str) (ps : Array Value) (H1 : Hp) (c' : Addr) : Prop := (H1 = H ∧ ∃ pos : Pos, codeAmong pos ps.toList = some (.ref c')) ∨ ∃ ps' : Array Value, H c' = none ∧ TriplesOk ps'.toList ∧
  (∀ (pos : Pos) (cv : Value), codeAmong pos ps'.toList = some cv → codeAmong pos ps.toList = some cv ∨ cv = .ref c') ∧ H1 = upd (upd H P (.tbl ps')) c' (CodeO c' q)
section
variable {X : Cx} {pins : List (Addr × Obj)} {σ : L2.St} {H : Hp} {s : Shared}
theorem lam_made2 {c P : Addr} {ps : Array Value} {params : Arguments} {body : Expr} {scope : Scope} {pos : Pos} {E : Value → Shared → Prop} {Q : Value → Shared → Prop} (I : Inv X pins σ H s) (TB : LamX.TabB X.base X.mg c P) (hcode : X.env.code = .ref c)
    (hP : H P = some (.tbl ps)) (hT : TabK H ps (X.env.qual ++ "<lambda>")) (hdef : defaultsOf params X.env = ([], [])) (hfree : ∀ y ∈ scope.names, y.2 = .free → ∃ c, X.env.cells.lookup y.1 = some c)
    (h : ∀ (f c' : Addr) (pm ctv : Value) (H1 : Hp) (s' : Shared), Inv X pins σ H1 s' → LamH2 H P (X.env.qual ++ "<lambda>") ps H1 c' →
      s'.heap.get? f = some (PySem.W.kla_obj "<lambda>" (X.env.qual ++ "<lambda>") params body scope (cloFrom X.env.cells scope.names []) pm c' ctv) → H1 f = none → s.heap.objs.size ≤ f → Q (.ref f) s') :
    wpAny (model X.prog X.w) X.A (eval (.Lambda params body scope pos) X.env) Q E s := by
  obtain ⟨ht, ha⟩ := hT
  refine PySem.W.kla_eval hdef ?_
  have bP : s.heap.BuiltinsAt X.mg P := TB.bm.keeps I.bk
  have hP' : s.heap.get? P = some { cls := .none, data := .fields ps } := I.hok P _ hP
  cases hc : codeAmong pos ps.toList with
  | some cv =>
    obtain ⟨c', rfl, hco⟩ := ha pos cv hc
    refine PySem.W.kla_makeFunctionHit (mg := X.mg) (c := c) (P := P) (ps := ps) (closure_ok hfree) I.ok.glob (I.mod.glob.keeps I.bk) hcode (TB.code.keeps I.bk) hP' ht hc bP fun ctv h' tk hx hsz => ?_
    exact h h'.objs.size c' ((X.mg "__name__").getD .none) ctv H _ (I.kept (t' := tk) fun b o e => Heap.get?_push_of_some _ (hx b o e)) (.inl ⟨rfl, pos, hc⟩) (Heap.get?_push_size _ rfl) (I.hok.fresh hsz) hsz
  | none =>
    refine PySem.W.kla_makeFunction (mg := X.mg) (c := c) (P := P) (ps := ps) (closure_ok hfree) I.ok.glob (I.mod.glob.keeps I.bk) hcode (TB.code.keeps I.bk) hP' ht hc TB.gP bP fun c' ctv h' tk hx hge hlt hrec htb => ?_
    obtain ⟨c2, oc, vs, t, e2, hoc, hd, hv⟩ := hrec
    cases e2
    have hsz : s.heap.objs.size ≤ h'.objs.size := Nat.le_trans hge (Nat.le_of_lt hlt)
    have nC : H c' = none := I.hok.fresh hge
    let o := PySem.W.kla_obj "<lambda>" (X.env.qual ++ "<lambda>") params body scope (cloFrom X.env.cells scope.names []) ((X.mg "__name__").getD .none) c' ctv
    have I1 := inv_table (t' := tk) (more := #[rawInt pos.line, rawInt pos.col, .ref c']) (h' := h'.push o) (q := X.env.qual ++ "<lambda>") I hP
      (fun b u hb e => Heap.get?_push_of_some _ (hx b u hb e)) (Heap.get?_push_of_some _ htb) hge ⟨oc, vs, t, Heap.get?_push_of_some _ hoc, hd, hv⟩
    have eL : (ps ++ #[rawInt pos.line, rawInt pos.col, .ref c']).toList = ps.toList ++ [rawInt pos.line, rawInt pos.col, .ref c'] := by simp
    refine h h'.objs.size c' ((X.mg "__name__").getD .none) ctv _ _ I1 (.inr ⟨_, nC, ?_, fun p' cv hcv => ?_, rfl⟩) (Heap.get?_push_size _ rfl) ?_ hsz
    · rw [eL]; exact PySem.TriplesOk_snoc _ _ _ _ ht
    · rw [eL] at hcv
      exact among_app _ ht hcv
    · have lP := Heap.lt_size hP'
      rw [upd_ne (Nat.ne_of_gt hlt), upd_ne (Nat.ne_of_gt (Nat.lt_of_lt_of_le lP hsz))]
      exact I.hok.fresh hsz
end
theorem Cf.lam2 {K : PySem.W.Frag} {B : Bs} {F : Hp} {pa : Option Addr} {t : Ts} {env : En} {σ : L2.St} {H H1 : Hp} {P c' : Addr} {q : Str} (C : Cf K B F pa t env σ H) (hm : (P, q) ∈ B.T) (hx : P ∈ B.ex) (hu : ∀ p ∈ B.T, p.1 = P → p.2 = q) {ps : Array Value} (eP : H P = some (.tbl ps)) (l : LamH2 H P q ps H1 c') :
    ∃ F1, Gr F pa F1 pa ∧ Cf K B F1 pa t env σ H1 ∧ F1 c' = some (CodeO c' q) := by
  rcases l with ⟨rfl, pos, hc⟩ | ⟨ps', hc, h1, h2, rfl⟩
  · obtain ⟨_, _, qs, e1, _, o1⟩ := C.tab _ hm
    rw [eP] at e1
    cases e1
    obtain ⟨c, ec, e2⟩ := o1 pos _ hc
    cases ec
    exact ⟨F, Gr.refl _ _, C, e2⟩
  · obtain ⟨bP, fP, _⟩ := C.tab _ hm
    have fc := C.fresh hc
    have nPc : P ≠ c' := fun z => by rw [z, hc] at eP; cases eP
    have nF : ∀ {a : Addr} {o : HO}, F a = some o → a ≠ c' ∧ a ≠ P := fun {a o} e => ⟨ne_of_none e fc.1, ne_of_none e fP⟩
    have g : Gr F pa (upd F c' (CodeO c' q)) pa := ⟨Gf.upd fc.1, rfl⟩
    have kp : ∀ {a : Addr} {o : HO}, H a = some o → a ≠ P → upd (upd H P (.tbl ps')) c' (CodeO c' q) a = some o := fun {a o} e n => by rw [upd_ne (ne_of_none e hc), upd_ne n]; exact e
    have atP : upd (upd H P (.tbl ps')) c' (CodeO c' q) P = some (.tbl ps') := by rw [upd_ne nPc, upd_same]
    refine ⟨_, g, ⟨C.len, fun a o e => ?_, fun a o e => g.f _ _ (C.bas a o e), fun a o e n hO => kp (C.frm a o e n hO) (fun z => n (by rw [z]; exact hx)), fun a o e => ?_, fun a ha => ?_, fun i d e => ?_, fun i d e => ?_, C.sep, fun a e => ?_, C.pnn, fun p hp => ?_, fun a qs e => ?_, fun a d e => ?_, C.obx, C.osp⟩, upd_same⟩
    · by_cases ha : a = c'
      · subst ha; rw [upd_same] at e ⊢; exact e
      · rw [upd_ne ha] at e; exact kp (C.sub a o e) (nF e).2
    · by_cases ha : a = c'
      · subst ha; exact .inr fc.2.1
      · rw [upd_ne ha] at e; exact C.new a o e
    · by_cases hb : a = P
      · subst hb; exact ⟨_, atP⟩
      · obtain ⟨o, e⟩ := C.exl a ha
        exact ⟨o, kp e hb⟩
    · obtain ⟨v, s1, r⟩ := C.val i d e
      exact ⟨v, s1, RelD.mono g d v r⟩
    · obtain ⟨a, h, s1, e1, r, f1, p1, x1⟩ := C.own i d e
      have na : a ≠ P := fun z => by rw [z, eP] at e1; exact r.ntb ps (Option.some.inj e1).symm
      exact ⟨a, h, s1, kp e1 na, RelO1.mono g d h r, by rw [upd_ne (ne_of_none e1 hc)]; exact f1, p1, x1⟩
    · obtain ⟨f1, ⟨h, e1, r⟩, x1⟩ := C.pen a e
      have na : a ≠ P := fun z => by rw [z, eP] at e1; obtain ⟨ca, w, _⟩ := r; rw [← Option.some.inj e1] at w; cases w
      exact ⟨by rw [upd_ne (ne_of_none e1 hc)]; exact f1, ⟨h, kp e1 na, r.mono g.f⟩, x1⟩
    · obtain ⟨b1, f1, qs, e1, t1, o1⟩ := C.tab p hp
      by_cases hb : p.1 = P
      · refine ⟨b1, by rw [upd_ne (fun z => nPc (hb.symm.trans z))]; exact f1, ps', by rw [hb]; exact atP, h1, fun pos cv hcv => ?_⟩
        rw [hu p hp hb]
        have e1' : H P = some (.tbl qs) := by rw [← hb]; exact e1
        rw [eP] at e1'
        cases e1'
        rcases h2 pos cv hcv with hk | rfl
        · obtain ⟨c, e2, q2⟩ := o1 pos _ hk
          rw [hu p hp hb] at q2
          exact ⟨c, e2, g.f _ _ q2⟩
        · exact ⟨c', rfl, upd_same⟩
      · exact ⟨b1, by rw [upd_ne (fun z => by rw [z, hc] at e1; cases e1)]; exact f1, qs, kp e1 hb, t1, fun pos cv hcv => by
          obtain ⟨c, e2, q2⟩ := o1 pos cv hcv
          exact ⟨c, e2, g.f _ _ q2⟩⟩
    · by_cases ha : a = c'
      · subst ha; rw [upd_same] at e; exact codeO_ne qs (Option.some.inj e)
      · rw [upd_ne ha] at e; exact C.ntb a qs e
    · obtain ⟨f1, ⟨h, e1, r⟩, x1⟩ := C.obs a d e
      have na : a ≠ P := fun z => by rw [z, eP] at e1; exact r.ntb ps (Option.some.inj e1).symm
      exact ⟨by rw [upd_ne (ne_of_none e1 hc)]; exact f1, ⟨h, kp e1 na, RelO1.mono g d h r⟩, x1⟩
section
variable {X : Cx} {B : Bs} {Pt c : Addr} {params : Arguments} {body : Expr} {scope : Scope} {pos : Pos} {i : Nat} {L : LamK} {Z : List (Str × Addr)}
theorem clo_inj (LS : LamS X.env.scope scope) (ok : X.Ok) : ZInj (cloFrom X.env.cells scope.names []) := fun y z c e1 e2 => by
  have hfree := LS.has ok
  have cm : ∀ {y c}, (cloFrom X.env.cells scope.names []).lookup y = some c → X.env.cells.lookup y = some c := fun {y c} e => by
    rcases cloFrom_mem (PySem.mem_of_lookup e) with hm | ⟨h1, h2⟩
    · cases hm
    · obtain ⟨c1, hc⟩ := hfree _ h1 rfl
      have hc : X.env.cells.lookup y = some c1 := hc
      have e2 : c = c1 := by
        rw [h2, hc] <;> rfl
      rw [e2]
      exact hc
  exact ok.inj y z c (cm e1) (cm e2)
theorem q_lam (T : TabOf B Pt (X.env.qual ++ "<lambda>")) (TB : LamX.TabB X.base X.mg c Pt) (hcode : X.env.code = .ref c) (LS : LamS X.env.scope scope) (hdef : defaultsOf params X.env = ([], [])) (hL : L = ⟨X.env.qual ++ "<lambda>", params, body, scope⟩)
    (hZ : Z = cloFrom X.env.cells scope.names []) : QE X B (.Lambda params body scope pos) (dLam i L Z) := by
  subst hL hZ
  refine ⟨fun pins s σ H Q I ⟨F, pa, t, env, P, C, h, fin⟩ => ?_⟩
  obtain ⟨_, _, ps, eP, ht, hcod⟩ := C.tab _ T.m
  refine lam_made2 I TB hcode eP ⟨ht, fun po cv hc => ?_⟩ hdef (LS.has I.ok) fun f c' pm ctv H1 s' I1 lh hf hfn hsz => ?_
  · obtain ⟨c0, e1, e2⟩ := hcod po cv hc
    exact ⟨c0, e1, C.sub _ _ e2⟩
  · obtain ⟨F1, g1, C1, hc'⟩ := C.lam2 T.m T.x T.u eP lh
    obtain ⟨g2, C2⟩ := C1.alloc (ObX f _) hfn (fun ps => ObX.ne_tbl ps)
    refine ⟨.ref f, _, inv_track2 I I1 hsz hf hfn, rfl, fin _ _ _ pa t _ (g1.trans g2) C2 ?_ h⟩
    unfold RelD
    refine ⟨f, [], rfl, ⟨c', _, upd_same, ⟨pm, ctv, rfl⟩, g2.f _ _ hc', clo_inj LS I.ok, ?_, (fun z => by cases z), fun k z x e1 e2 => by simp at e2⟩, RelL.nil⟩
    rw [cloFrom_names]
    simp [LamK.free]
end
section
variable {K : PySem.W.Frag} {F : Hp} {pa : Option Addr} {is : List Nat} {Lt : Nat → LamK} {Zt : Nat → List (Str × Addr)} {cap : Nat → List D}
def CapR (K : PySem.W.Frag) (F : Hp) (pa : Option Addr) (Z : List (Str × Addr)) (l : List D) : Prop := ∃ vs, RelL K F pa l vs ∧ vs.length = Z.length ∧ ∀ (k : Nat) (z : Str × Addr) (x : V), Z[k]? = some z → vs[k]? = some x → ∃ oc u, F z.2 = some (ObX z.2 oc) ∧ oc.data = .cell (some u) ∧ RelV x u
mutual
theorem close_rel (hcap : ∀ i ∈ is, CapR K F pa (Zt i) (cap i)) : ∀ (d : D) (v : V), okFn is Lt Zt d → RelD K F pa d v → RelD K F pa (closeD cap d) v
  | .ob (.fn i L Z false) l, v, ok, h => by
    have ok : is.contains i = true ∧ L = Lt i ∧ Z = Zt i := ok
    obtain ⟨hi, rfl, rfl⟩ := ok
    show RelD K F pa (.ob (.fn i (Lt i) (Zt i) true) (cap i)) v
    unfold RelD at h ⊢
    obtain ⟨a, vs0, rfl, ⟨c', o, h1, h2, h3, h4, h6, _, _⟩, _⟩ := h
    obtain ⟨vs, r, hl, hc⟩ := hcap i (by simpa using hi)
    exact ⟨a, vs, rfl, ⟨c', o, h1, h2, h3, h4, h6, fun _ => hl, hc⟩, r⟩
  | .lst l, v, ok, h => by
    have ok : okFns is Lt Zt l := ok
    show RelD K F pa (.lst (closeDs cap l)) v
    unfold RelD at h ⊢
    obtain ⟨a, vs, e, r, q⟩ := h
    exact ⟨a, vs, e, r, close_rels hcap l vs ok q⟩
  | .tup l, v, ok, h => by
    have ok : okFns is Lt Zt l := ok
    show RelD K F pa (.tup (closeDs cap l)) v
    unfold RelD at h ⊢
    obtain ⟨a, vs, e, r, q⟩ := h
    exact ⟨a, vs, e, r, close_rels hcap l vs ok q⟩
  | .ob (.fn i L Z true) l, v, _, h => h
  | .ob (.exc _ _ _) l, v, _, h => h
  | .non, v, _, h => h
  | .bl _, v, _, h => h
  | .int _, v, _, h => h
  | .str _, v, _, h => h
  | .dic _ _, v, _, h => h
  | .ins _ _ _, v, _, h => h
  | .pen, v, _, h => h
  | .ty _, v, _, h => h
  | .adr _, v, _, h => h
  | .scr _, v, _, h => h
  | .rp _, v, _, h => h
  | .fl _, v, _, h => h
theorem close_rels (hcap : ∀ i ∈ is, CapR K F pa (Zt i) (cap i)) : ∀ (l : List D) (vs : List V), okFns is Lt Zt l → RelL K F pa l vs → RelL K F pa (closeDs cap l) vs
  | [], vs, _, h => h
  | d :: l, vs, ok, h => by
    have ok : okFn is Lt Zt d ∧ okFns is Lt Zt l := ok
    show RelL K F pa (closeD cap d :: closeDs cap l) vs
    unfold RelL at h ⊢
    obtain ⟨v, vr, e, r, q⟩ := h
    exact ⟨v, vr, e, close_rel hcap d v ok.1 r, close_rels hcap l vr ok.2 q⟩
end
end
theorem allI_mem {p : Nat → Prop} : ∀ {l : List Nat}, allI l p → ∀ i ∈ l, p i
  | [], _, i, h => by cases h
  | j :: l, h, i, hi => by
    have h : p j ∧ allI l p := h
    rcases List.mem_cons.mp hi with rfl | z
    · exact h.1
    · exact allI_mem h.2 i z
structure CapF (X : Cx) (is : List Nat) (tb : Nat → List Nat) (Lt : Nat → LamK) (Zt : Nat → List (Str × Addr)) : Prop where
  fn : ∀ x, X.fn x = true
  z : ∀ i ∈ is, Zt i = cloFrom X.env.cells (Lt i).scope.names []
  len : ∀ i ∈ is, (tb i).length = (Lt i).free.length
  at' : ∀ i ∈ is, ∀ (k : Nat) (n : Str) (j : Nat), (Lt i).free[k]? = some n → (tb i)[k]? = some j → X.N[j]? = some n ∧ X.env.scope.names.lookup n = some .cell
section
variable {X : Cx} {pins : List (Addr × Obj)} {B : Bs} {F : Hp} {pa : Option Addr} {t : Ts} {env : En} {σ : L2.St} {H : Hp} {s : Shared} {is : List Nat} {tb : Nat → List Nat} {Lt : Nat → LamK} {Zt : Nat → List (Str × Addr)}
theorem Cf.adds {K : PySem.W.Frag} (C : Cf K B F pa t env σ H) (h : Heap) : ∀ S : List Addr, (∀ b ∈ S, H b = none ∧ ∃ o, h.get? b = some o) → ∃ (F1 H1 : Hp), Gr F pa F1 pa ∧ Cf K B F1 pa t env σ H1 ∧ (∀ b, b ∉ S → H1 b = H b ∧ F1 b = F b) ∧ ∀ b ∈ S, ∀ o, h.get? b = some o → F1 b = some (ObX b o)
  | [], _ => ⟨F, H, Gr.refl _ _, C, fun _ _ => ⟨rfl, rfl⟩, fun b hb => by cases hb⟩
  | b :: S, hS => by
    obtain ⟨F1, H1, g1, C1, n1, a1⟩ := Cf.adds C h S fun c hc => hS c (List.mem_cons_of_mem _ hc)
    by_cases hb : b ∈ S
    · exact ⟨F1, H1, g1, C1, fun c hc => n1 c (fun z => hc (List.mem_cons_of_mem _ z)), fun c hc o e => by
        rcases List.mem_cons.mp hc with rfl | z
        · exact a1 c hb o e
        · exact a1 c z o e⟩
    · obtain ⟨hn, o, ho⟩ := hS b List.mem_cons_self
      obtain ⟨g2, C2⟩ := C1.alloc (ObX b o) ((n1 b hb).1.trans hn) (fun ps => ObX.ne_tbl ps)
      refine ⟨_, _, g1.trans g2, C2, fun c hc => ?_, fun c hc o' e => ?_⟩
      · have n : c ≠ b := fun z => hc (by rw [z]; exact List.mem_cons_self)
        obtain ⟨q1, q2⟩ := n1 c (fun z => hc (List.mem_cons_of_mem _ z))
        exact ⟨by rw [upd_ne n]; exact q1, by rw [upd_ne n]; exact q2⟩
      · rcases List.mem_cons.mp hc with rfl | z
        · rw [ho] at e
          cases e
          exact upd_same
        · exact g2.f _ _ (a1 c z o' e)
theorem hok_adds {P : Program} {w : World} {H H1 : Hp} {h : Heap} {S : List Addr} (ok : HOk P w H h) (hn : ∀ b ∈ S, H b = none) (h1 : ∀ b, b ∉ S → H1 b = H b) (h2 : ∀ b ∈ S, ∃ o, h.get? b = some o ∧ H1 b = some (ObX b o)) : HOk P w H1 h := fun a o e => by
  have sm : ∀ {c u}, H c = some u → H1 c = some u := fun {c u} q => by rw [h1 c (fun z => by rw [hn c z] at q; cases q)]; exact q
  by_cases ha : a ∈ S
  · obtain ⟨ob, e1, e2⟩ := h2 a ha
    rw [e] at e2
    cases e2
    exact ObX.ok e1
  · rw [h1 a ha] at e
    exact (ok a o e).stay (fun _ _ _ q => q) (fun c q => sm q) fun c xs q => sm q
theorem cap_add (CF : CapF X is tb Lt Zt) (I : Inv X pins σ H s) (C : Cf X.K B F pa t env σ H) (hc : capOk is tb env) :
    ∃ (S : List Addr) (F1 H1 : Hp), Gr F pa F1 pa ∧ Cf X.K B F1 pa t env σ H1 ∧ (∀ b ∈ S, H b = none ∧ X.s_0.heap.objs.size ≤ b ∧ b ≠ X.env.locals ∧ ∃ o, s.heap.get? b = some o ∧ F1 b = some (ObX b o)) ∧ (∀ b, b ∉ S → H1 b = H b ∧ F1 b = F b) ∧ ∀ i ∈ is, CapR X.K F1 pa (Zt i) (capt tb env i) := by
  obtain ⟨S, hSe⟩ : ∃ S : List Addr, S = is.flatMap fun i => (Zt i).map Prod.snd := ⟨_, rfl⟩
  obtain ⟨m, hns, hl⟩ := I.loc
  have key : ∀ i ∈ is, ∀ (k : Nat) (z : Str × Addr), (Zt i)[k]? = some z → ∃ j d v u oc, (tb i)[k]? = some j ∧ env[j]? = some (.val d) ∧ nopen d = true ∧ RelD X.K F pa d v ∧ RelV v u ∧ s.heap.get? z.2 = some oc ∧ oc.data = .cell (some u) ∧ X.env.cells.lookup z.1 = some z.2 := fun i hi k z hk => by
    have hz : (Zt i).map Prod.fst = (Lt i).free := by
      rw [CF.z i hi, cloFrom_names]
      simp [LamK.free]
    have hf : (Lt i).free[k]? = some z.1 := by rw [← hz, List.getElem?_map, hk]; rfl
    have kl : k < (tb i).length := by rw [CF.len i hi]; exact (List.getElem?_eq_some_iff.mp hf).1
    obtain ⟨j, hj⟩ : ∃ j, (tb i)[k]? = some j := ⟨_, List.getElem?_eq_getElem kl⟩
    obtain ⟨hN, hlk⟩ := CF.at' i hi k z.1 j hf hj
    have hcj := allI_mem (allI_mem hc i hi) j (List.mem_of_getElem? hj)
    unfold slOk at hcj
    cases ev : env[j]? with
    | none => rw [ev] at hcj; exact hcj.elim
    | some sl =>
      rw [ev] at hcj
      cases sl with
      | no => exact hcj.elim
      | own d => exact hcj.elim
      | val d =>
        obtain ⟨v, hs, rd⟩ := C.val j d ev
        obtain ⟨u, ru, lk⟩ := hl j z.1 v hN hs (.inr (.inl hlk))
        have cl : X.env.cells.lookup z.1 = some z.2 := by
          have hm := List.mem_of_getElem? hk
          rw [CF.z i hi] at hm
          rcases cloFrom_mem (n := z.1) (c := z.2) hm with hm | ⟨h1, h2⟩
          · cases hm
          · obtain ⟨c1, hc1⟩ := I.ok.has z.1 (.inl hlk)
            rw [h2, hc1]
            rfl
        rcases lk with ⟨h1, _⟩ | ⟨_, c, hc1, oc, ho, hd⟩
        · have h1 : X.env.scope.names.lookup z.1 = some .local := h1
          rw [hlk] at h1; cases h1
        · rw [cl] at hc1
          cases hc1
          exact ⟨j, d, v, u, oc, hj, ev, hcj, rd, ru, ho, hd, cl⟩
  have hSp : ∀ b ∈ S, H b = none ∧ X.s_0.heap.objs.size ≤ b ∧ b ≠ X.env.locals ∧ ∃ o, s.heap.get? b = some o := fun b hb => by
    rw [hSe] at hb
    obtain ⟨i, hi, hb⟩ := List.mem_flatMap.mp hb
    obtain ⟨z, hz, rfl⟩ := List.mem_map.mp hb
    obtain ⟨k, hk⟩ := List.mem_iff_getElem?.mp hz
    obtain ⟨j, d, v, u, oc, _, _, _, _, _, ho, _, cl⟩ := key i hi k z hk
    exact ⟨I.freeC _ _ cl, I.ok.cab _ _ (CF.fn _) cl, I.cne _ _ cl, oc, ho⟩
  obtain ⟨F1, H1, g1, C1, n1, a1⟩ := C.adds s.heap S fun b hb => ⟨(hSp b hb).1, (hSp b hb).2.2.2⟩
  refine ⟨S, F1, H1, g1, C1, fun b hb => ?_, n1, fun i hi => ?_⟩
  · obtain ⟨h1, h2, h3, o, ho⟩ := hSp b hb
    exact ⟨h1, h2, h3, o, ho, a1 b hb o ho⟩
  · have hz : (Zt i).map Prod.fst = (Lt i).free := by
      rw [CF.z i hi, cloFrom_names]
      simp [LamK.free]
    have zl : (Zt i).length = (tb i).length := by rw [CF.len i hi, ← hz, List.length_map]
    -- the values, slot by slot
    obtain ⟨vs, hvl, hv⟩ : ∃ vs : List V, vs.length = (tb i).length ∧ ∀ (k j : Nat), (tb i)[k]? = some j → ∃ v, σ[j]? = some (some v) ∧ vs[k]? = some v := by
      have : ∀ l : List Nat, (∀ j ∈ l, ∃ v, σ[j]? = some (some v)) → ∃ vs : List V, vs.length = l.length ∧ ∀ (k j : Nat), l[k]? = some j → ∃ v, σ[j]? = some (some v) ∧ vs[k]? = some v := by
        intro l
        induction l with
        | nil => intro _; exact ⟨[], rfl, fun k j e => by simp at e⟩
        | cons j l ih =>
          intro hl
          obtain ⟨vs, e1, e2⟩ := ih fun j' hj' => hl j' (List.mem_cons_of_mem _ hj')
          obtain ⟨v, hv⟩ := hl j List.mem_cons_self
          refine ⟨v :: vs, by simp [e1], fun k j' e => ?_⟩
          cases k with
          | zero =>
            simp at e
            subst e
            exact ⟨v, hv, rfl⟩
          | succ k =>
            simp at e
            simpa using e2 k j' e
      refine this (tb i) fun j hj => ?_
      have hcj := allI_mem (allI_mem hc i hi) j hj
      unfold slOk at hcj
      cases ev : env[j]? with
      | none => rw [ev] at hcj; exact hcj.elim
      | some sl =>
        rw [ev] at hcj
        cases sl with
        | no => exact hcj.elim
        | own d => exact hcj.elim
        | val d =>
          obtain ⟨v, hs, _⟩ := C.val j d ev
          exact ⟨v, hs⟩
    refine ⟨vs, ?_, by rw [hvl, zl], fun k z x e1 e2 => ?_⟩
    · have relAll : ∀ (l : List Nat) (ws : List V), ws.length = l.length → (∀ (k j : Nat), l[k]? = some j → ∃ v, σ[j]? = some (some v) ∧ ws[k]? = some v) → (∀ j ∈ l, ∃ d, env[j]? = some (.val d)) → RelL X.K F1 pa (l.map (slD env)) ws := by
        intro l
        induction l with
        | nil =>
          intro ws e _ _
          have : ws = [] := List.eq_nil_of_length_eq_zero e
          subst this
          exact RelL.nil
        | cons j l ih =>
          intro ws e hv hd
          cases ws with
          | nil => simp at e
          | cons w ws =>
            obtain ⟨d, ed⟩ := hd j List.mem_cons_self
            obtain ⟨v, hs, ew⟩ := hv 0 j rfl
            simp at ew
            subst ew
            obtain ⟨v', hs', rd⟩ := C.val j d ed
            rw [hs] at hs'
            cases hs'
            have tl := ih ws (by simpa using e) (fun k j' e' => by simpa using hv (k + 1) j' (by simpa using e')) fun j' hj' => hd j' (List.mem_cons_of_mem _ hj')
            have ed2 : slD env j = d := by unfold slD; rw [ed]
            simp only [List.map_cons]
            rw [ed2]
            exact RelL.cons (RelD.mono g1 d _ rd) tl
      refine relAll (tb i) vs hvl hv fun j hj => ?_
      have hcj := allI_mem (allI_mem hc i hi) j hj
      unfold slOk at hcj
      cases ev : env[j]? with
      | none => rw [ev] at hcj; exact hcj.elim
      | some sl =>
        rw [ev] at hcj
        cases sl with
        | no => exact hcj.elim
        | own d => exact hcj.elim
        | val d => exact ⟨d, rfl⟩
    · obtain ⟨j, d, v, u, oc, hj, ev, _, rd, ru, ho, hd, cl⟩ := key i hi k z e1
      obtain ⟨v1, hs1, ex⟩ := hv k j hj
      rw [e2] at ex
      cases ex
      obtain ⟨u2, ru2, lk⟩ := hl j z.1 x (CF.at' i hi k z.1 j (by rw [← hz, List.getElem?_map, e1]; rfl) hj).1 hs1 (.inr (.inl (CF.at' i hi k z.1 j (by rw [← hz, List.getElem?_map, e1]; rfl) hj).2))
      have hlk := (CF.at' i hi k z.1 j (by rw [← hz, List.getElem?_map, e1]; rfl) hj).2
      rcases lk with ⟨h1, _⟩ | ⟨_, c, hc1, oc2, ho2, hd2⟩
      · have h1 : X.env.scope.names.lookup z.1 = some .local := h1
        rw [hlk] at h1; cases h1
      · rw [cl] at hc1
        cases hc1
        have hb : z.2 ∈ S := by rw [hSe]; exact List.mem_flatMap.mpr ⟨i, hi, List.mem_map.mpr ⟨z, List.mem_of_getElem? e1, rfl⟩⟩
        exact ⟨oc2, u2, a1 _ hb oc2 ho2, hd2, ru2⟩
end
end Q
/-! QL3 -/
namespace Q
open PySem PySem.Spec PyProof.Rows L2 LamX
section
variable {K : PySem.W.Frag} {B : Bs} {F1 F2 F' : Hp} {pa pa' : Option Addr} {t t' : Ts} {env : En} {σ : L2.St} {H1 H2 H' : Hp} {S : List Addr}
theorem Cf.drop (C1 : Cf K B F1 pa t env σ H1) (C2 : Cf K B F2 pa t env σ H2) (g2 : Gf F1 F2) (C' : Cf K (B0 F2 pa t H2) F' pa' t' [] [] H') (hS1 : ∀ b ∈ S, H1 b = none) (hS2 : ObsAt S F2) (hn : ∀ b, b ∉ S → H2 b = H1 b) :
    ObsAt S F' ∧ (∀ b ∈ S, H' b = H2 b) ∧ Gr F1 pa (cut S F') pa' ∧ Cf K B (cut S F') pa' t' env σ (cut S H') := by
  obtain ⟨g', W⟩ := C2.after C'
  have hS' : ObsAt S F' := fun b hb => by
    obtain ⟨o, e⟩ := hS2 b hb
    exact ⟨o, g'.f _ _ e⟩
  have hSH : ∀ b ∈ S, H' b = H2 b := fun b hb => by
    obtain ⟨o, e⟩ := hS2 b hb
    rw [C2.sub _ _ e, C'.sub _ _ (g'.f _ _ e)]
  have ni : ∀ a o, H1 a = some o → a ∉ S := fun a o e z => by rw [hS1 a z] at e; cases e
  have gg : Gr F1 pa (cut S F') pa' := ⟨fun a o e => by rw [cut_ni (ni a o (C1.sub a o e))]; exact g'.f a o (g2 a o e), g'.p⟩
  have kp : ∀ a o, H1 a = some o → pa ≠ some a → t.obs a = none → H' a = some o := fun a o e n no => C'.frm a o (by show H2 a = some o; rw [hn a (ni a o e)]; exact e) (fun z => n (mem_pa.mp z)) (fun ⟨d, z⟩ => by rw [no] at z; cases z)
  have nF : ∀ a, F' a = none → a ∉ S := fun a e z => by obtain ⟨o, q⟩ := hS' a z; rw [e] at q; cases q
  refine ⟨hS', hSH, gg, C1.len, fun a o e => ?_, fun a o e => gg.f _ _ (C1.bas a o e), fun a o e hx hO => ?_, fun a o e => W.new a o (cut_some e).2, fun a ha => ?_, fun i d e => ?_, fun i d e => ?_, C1.sep, fun a e => ?_, W.pnn, fun p hp => ?_, fun a ps e => W.ntb a ps (cut_some e).2, fun a d e => ?_, W.obx, W.osp⟩
  · obtain ⟨hb, e⟩ := cut_some e
    rw [cut_ni hb]; exact W.sub _ _ e
  · have e1 := C1.frm a o e hx hO
    rw [cut_ni (ni a o e1)]; exact W.frm a o e hx hO
  · obtain ⟨o, e⟩ := C1.exl a ha
    obtain ⟨o', e'⟩ := W.exl a ha
    exact ⟨o', by rw [cut_ni (ni a o e)]; exact e'⟩
  · obtain ⟨v, s1, r⟩ := C1.val i d e
    exact ⟨v, s1, RelD.mono gg d v r⟩
  · obtain ⟨a, h, s1, e1, r, f1, p1, x1⟩ := C1.own i d e
    obtain ⟨a2, h2, s2, _, _, f2, p2, _⟩ := W.own i d e
    rw [s1] at s2
    cases s2
    have ha := ni a h e1
    exact ⟨a, h, s1, by rw [cut_ni ha]; exact kp a h e1 p1 (C1.osp i d a e s1), RelO1.mono gg d h r, by rw [cut_ni ha]; exact f2, p2, x1⟩
  · obtain ⟨f1, ⟨h, e1, r⟩, x1⟩ := W.pen a e
    have ha := nF a f1
    exact ⟨by rw [cut_ni ha]; exact f1, ⟨h, by rw [cut_ni ha]; exact e1, r.cut hS'⟩, x1⟩
  · obtain ⟨b1, f1, qs, e1, t1, o1⟩ := C1.tab p hp
    obtain ⟨_, f2, _⟩ := W.tab p hp
    have hb := ni _ _ e1
    refine ⟨b1, by rw [cut_ni hb]; exact f2, qs, by rw [cut_ni hb]; exact kp _ _ e1 (pen_nt C1 e1) (obs_nt C1 e1), t1, fun pos cv hc => ?_⟩
    obtain ⟨c, e2, q2⟩ := o1 pos cv hc
    exact ⟨c, e2, gg.f _ _ q2⟩
  · obtain ⟨f1, ⟨h, e1, r⟩, x1, x2, x3⟩ := W.obs a d e
    have ha := nF a f1
    exact ⟨by rw [cut_ni ha]; exact f1, ⟨h, by rw [cut_ni ha]; exact e1, r.cut hS' x3⟩, x1, x2, x3⟩
end
section
variable {X : Cx} {B : Bs} {k : Nat} {f : Addr} {fd : FuncData} {ps : List Str} {sp : PSp} {x : Str} {p pos : Pos} {e : Expr} {es : List Expr} {as : DA} {is : List Nat} {tb : Nat → List Nat} {Lt : Nat → LamK} {Zt : Nat → List (Str × Addr)}
theorem q_callCr (Fl : ∀ vs H Q E, lift X.K sp vs H Q E → vs.length = ps.length) (Fn : ∀ (outer : List Env) (s : Shared) (H : Hp) (args : Args) (us : List Value) (vs : List V) (Q : VK) (E : XK), Env0 X.prog X.w X.K X.mg X.base X.A outer s H → BindsTo s fd args (ps.zip us) → Vals vs us → lift X.K sp vs H Q E → codeAny (model X.prog X.w) X.A (.call (.ref f) args) (CR CX0 outer X.prog X.w H s Q E) s)
    (hg : Gl X x) (hm : X.mg x = some (.ref f)) (hk : PySem.W.keepIn X.K (.ref f) = true) (hb : Binds X.K fd ps []) (CF : CapF X is tb Lt Zt)
    (ha : QA X B (e :: es) as) (hdb : (x == ("__debug__" : Str)) = false := by decide) (he : starEach (e :: es) X.env = (false, eval e X.env) :: starEach es X.env := by rfl) (hpl : (backTo pos (starEach es X.env)).any (·.1) = false := by rfl) :
    QE X B (.Call (.Name x p) (e :: es) [] pos) (dCallC sp is tb Lt Zt as) := by
  refine ⟨fun pins s σ H Q I ⟨F, pa, t, env, P, C, h, fin⟩ => ?_⟩
  refine wpAny_Call_Name_kw (ld_glob I hg hm ?_ hdb)
  refine PySem.W.callWith_K (h₀ := X.base) I.ok.mod.kin hk (thn (ha.run pos pins s σ H (fun vs H1 => ∃ ds F1 pa1 t1, Gr F pa F1 pa1 ∧ Cf X.K B F1 pa1 t1 env σ H1 ∧ RelL X.K F1 pa1 ds vs ∧ (okFns is Lt Zt ds ∧ capOk is tb env) ∧ sp (closeDs (capt tb env) ds) t1 fun d t2 => nopen d = true ∧ P d t2) I
    ⟨F, pa, t, env, _, C, h, fun vs ds F1 pa1 t1 H1 g1 C1 r1 q1 => ⟨ds, F1, pa1, t1, g1, C1, r1, q1.1, q1.2⟩⟩) fun us s1 ⟨vs, H1, I1, r, q⟩ => ⟨I1.kIn, ?_⟩) he hpl
  obtain ⟨ds, F1, pa1, t1, g1, C1, rl, ⟨hok, hcp⟩, q⟩ := q
  obtain ⟨S, F2, H2, g2, C2, hS, hn, hcap⟩ := cap_add CF I1 C1 hcp
  have rl2 := close_rels hcap ds vs hok (RelL.mono g2 _ _ rl)
  have hS1 : ∀ b ∈ S, H1 b = none := fun b hb => (hS b hb).1
  have hS2 : ObsAt S F2 := fun b hb => by
    obtain ⟨_, _, _, o, _, e⟩ := hS b hb
    exact ⟨o, e⟩
  have ok2 : HOk X.prog X.w H2 s1.heap := hok_adds I1.hok hS1 (fun b hb => (hn b hb).1) fun b hb => by
    obtain ⟨_, _, _, o, e1, e2⟩ := hS b hb
    exact ⟨o, e1, C2.sub _ _ e2⟩
  have e0 := I1.env0
  have hfr : ∀ b ∈ S, b ∉ frs X.stack := fun b hb z => by
    obtain ⟨_, h2, h3, _⟩ := hS b hb
    rcases List.mem_cons.mp (I1.stkSub _ z) with e | e
    · exact h3 e
    · obtain ⟨_, o, ho, _⟩ := I1.ok.funs.mem e
      exact absurd (Nat.lt_of_lt_of_le (Heap.lt_size ho) h2) (Nat.lt_irrefl _)
  have env2 : Env0 X.prog X.w X.K X.mg X.base X.A X.stack s1 H2 := by
    refine ⟨e0.frames, e0.mod, fun b o e => ⟨(e0.bs b o e).1, ?_⟩, e0.bsz, e0.funs, fun b hb => ?_, ok2, e0.bare⟩
    · rw [(hn b fun z => absurd (Nat.lt_of_lt_of_le (Heap.lt_size e) (Nat.le_trans I1.ok.bsz (hS b z).2.1)) (Nat.lt_irrefl _)).1]
      exact (e0.bs b o e).2
    · rw [(hn b fun z => hfr b z hb).1]
      exact e0.frf b hb
  have hsp : lift X.K sp vs H2 (fun v H' => (∀ b ∈ S, H' b = H2 b) ∧ Q v (cut S H')) E0 := by
    refine ⟨F2, pa1, t1, _, _, C2.call, rl2, q, fun v d F' pa' t' H' C' r' q' => ?_⟩
    obtain ⟨hS', hSH, gg, C3⟩ := C1.drop C2 g2.f C' hS1 hS2 (fun b hb => (hn b hb).1)
    exact ⟨hSH, fin v d _ pa' t' _ (g1.trans gg) C3 (RelD.cut hS' d v q'.1 r') q'.2⟩
  have hl : (us ++ []).length = ps.length := by
    rw [List.append_nil, ← r.length]
    exact Fl _ _ _ _ hsp
  refine wpAny_call (codeAny_mono (Fn X.stack s1 H2 ⟨us, []⟩ (us ++ []) vs _ E0 env2 (hb s1 us I1.kIn hl) (by rw [List.append_nil]; exact r) hsp) fun res s' hq => ?_)
  cases res with
  | error e => exact (show False from hq).elim
  | ok fl =>
    cases fl with
    | ret u =>
      obtain ⟨v, H', os, ag, un, hok', rv, hSH, q'⟩ := (show CE X.stack X.prog X.w H2 s1 _ u s' from hq)
      obtain ⟨un', ok3⟩ := un_unadd (H := H1) (fun b hb => by
        obtain ⟨o, e⟩ := hS2 b hb
        exact ⟨o, (hSH b hb).trans (C2.sub _ _ e)⟩) hS1 (fun b hb => (hn b hb).1) (fun b hb => (hSH b hb).symm) ok2 un hfr hok'
      exact I1.after (Q := Q) ⟨v, _, os, ag, un', ok3, rv, q'⟩
    | next => exact False.elim hq
    | brk => exact False.elim hq
    | cont => exact False.elim hq
end
structure QRs (X : Cx) (l : List Stmt) (t : L2.St → Hp → Prop) (R : L2.St → V → Hp → Prop) : Prop where
  run : ∀ (pins : List (Addr × Obj)) (s : Shared) (σ : L2.St) (H : Hp), Inv X pins σ H s → t σ H → wpAny (model X.prog X.w) X.A (execs l X.env) (fun f s' => ∃ u v σ' H', f = .ret u ∧ Inv X pins σ' H' s' ∧ RelV v u ∧ R σ' v H') X.xe s
def trOf (K : PySem.W.Frag) (B : Bs) (ds : DS) (R : L2.St → V → Hp → Prop) : L2.St → Hp → Prop := fun σ H => ∃ F pa t env DD, Cf K B F pa t env σ H ∧ ds DD env t ∧ (∀ v d F' pa' t' env' σ' H', Gr F pa F' pa' → Cf K B F' pa' t' env' σ' H' → RelD K F' pa' d v → DD.rt d env' t' → R σ' v H')
section
variable {X : Cx} {B : Bs} {st : Stmt} {rest : List Stmt} {s1 s2 : DS} {e : Expr} {de : DE} {pos : Pos} {R : L2.St → V → Hp → Prop}
theorem q_rcons (h1 : QS X B st s1) (h2 : QRs X rest (trOf X.K B s2 R) R) : QRs X (st :: rest) (trOf X.K B (dSeqR s1 s2) R) R := by
  refine ⟨fun pins s σ H I ⟨F, pa, t, env, DD, C, h, hR⟩ => ?_⟩
  refine wpAny_execs_cons (thn (h1.run pins s σ H { nx := trOf X.K B s2 R, rt := fun _ _ => False, bk := fun _ _ => False, ct := fun _ _ => False } I ⟨F, pa, t, env, _, C, h, ⟨?_, ?_, ?_, ?_⟩⟩) fun f s' hsp => ?_)
  · intro F' pa' t' env' σ' H' g C' q
    exact ⟨F', pa', t', env', DD, C', q, fun v d F2 pa2 t2 env2 σ2 H2 g2 => hR v d F2 pa2 t2 env2 σ2 H2 (g.trans g2)⟩
  · intro _ _ _ _ _ _ _ _ _ _ _ q; exact q
  · intro _ _ _ _ _ _ _ _ q; exact q
  · intro _ _ _ _ _ _ _ _ q; exact q
  · cases f with
    | next =>
      obtain ⟨σ2, H2, J2, q2⟩ := hsp
      exact h2.run pins s' σ2 H2 J2 q2
    | brk => obtain ⟨_, _, _, q⟩ := hsp; exact q.elim
    | cont => obtain ⟨_, _, _, q⟩ := hsp; exact q.elim
    | ret u => obtain ⟨_, _, _, _, _, q⟩ := hsp; exact q.elim
theorem q_rret (h : QE X B e de) : QRs X [.Return (some e) pos] (trOf X.K B (dRet de) R) R := by
  refine ⟨fun pins s σ H I ⟨F, pa, t, env, DD, C, h0, hR⟩ => ?_⟩
  refine wpAny_execs_cons (wpAny_Return_some (thn (h.run pins s σ H (fun v H' => R σ v H') I ⟨F, pa, t, env, _, C, h0, fun v d F' pa' t' H' g C' r q => hR v d F' pa' t' env σ H' g C' r q⟩) fun u s1 ⟨v, H1, I1, r1, q1⟩ => ?_))
  exact ⟨u, v, σ, H1, rfl, I1, r1, q1⟩
end
section
variable {P : Program} {w : World} {K : PySem.W.Frag} {mg : Str → Option Value} {base : Heap}
theorem run_ofC {k : Nat} {f : Addr} {name qual : Str} {params : Arguments} {body : List Stmt} {scope : Scope} {dV kV doc pm cdv ct oc : Value} {an od : Option Addr}
    {osl : Array (Option Value)} {N ps : List Str} (lk : K.lookup f = some ⟨oc, od, .func (PySem.W.fnOf name qual params body scope dV kV doc pm an cdv ct), osl⟩) (hcd : PySem.W.codeIn K cdv qual = true) (S : FnScope N ps scope)
    {A : Around} {outer : List Env} {s : Shared} {H : Hp} {args : Args} {us : List Value} {vs : List V} {Q : VK} {E : XK} (hr : Room (k + 1) A) (e0 : Env0 P w K mg base A outer s H) (hb : BindsTo s (PySem.W.fnOf name qual params body scope dV kV doc pm an cdv ct) args (ps.zip us)) (r : Vals vs us) (hl : vs.length = ps.length)
    (hbody : Room k (A.deeper (envOfC qual scope s.heap.objs.size f cdv)) → ∃ (t : L2.St → Hp → Prop) (R : L2.St → V → Hp → Prop), QRs (cxOf CX0 P w K mg base N qual scope f cdv A outer s H E).nox body t R ∧ t (L2.start N vs) H ∧
      ∀ u v σ' H' s', Inv (cxOf CX0 P w K mg base N qual scope f cdv A outer s H E).nox [] σ' H' s' → RelV v u → R σ' v H' → CE outer P w H s Q u s') :
    codeAny (model P w) A (.call (.ref f) args) (CR CX0 outer P w H s Q E) s := by
  have KX : K.In s.heap := e0.mod.kin.keeps fun b o e => (e0.bs b o e).1
  have lim : s.heap.NoLimit := e0.mod.nolimit.keeps fun b o e => (e0.bs b o e).1
  have hkind : ∀ y ∈ ps.zip us, scope.names.lookup y.1 = some .local ∨ (scope.names.lookup y.1 = some .cell ∧ ((cellsFrom (s.heap.objs.size + 1) scope.names []).lookup y.1).isSome = true) := fun ⟨n, v⟩ hy => by
    rcases S.par n (List.of_mem_zip hy).1 with q | q
    · exact .inl q
    · exact .inr ⟨q, PySem.W.cellsFrom_some _ _ _ (.inl q)⟩
  refine codeAny_call_function hr.depth (KX _ _ lk) rfl S.co S.gen rfl (PySem.W.codeRec_of KX hcd) (hb _ _ _ _ ?_)
  refine wpAny_newFunctionEnv_cells S.kind hkind fun env he s1 x => ?_
  subst he
  refine ⟨lim.keeps x.toInCall.keep, codeAny_func ?_⟩
  obtain ⟨t, R, ht, hq, fin⟩ := hbody (hr.deeper _)
  have I : Inv (cxOf CX0 P w K mg base N qual scope f cdv A outer s H E) [] (L2.start N vs) H s1 := inv_start S hr.hd e0 hl r x
  refine wpAny_mono (ht.run [] s1 (L2.start N vs) H (I.wish _) hq) (fun fl s' hs => ?_) fun e s' hs => (show False from hs).elim
  obtain ⟨u, v, σ', H', rfl, J, rv, q⟩ := hs
  exact fin u v σ' H' s' J rv q
theorem fn_okTC {x qual q0 : Str} {st : Stmt} {f cA Pt : Addr} {N ps : List Str} {k : Nat} {sp : PSp} {is : List Nat} {tb : Nat → List Nat} {Lt : Nat → LamK} {ds : (Nat → List (Str × Addr)) → DS} {kV doc pm ct oc : Value} {an od : Option Addr} {osl : Array (Option Value)} (lk : K.lookup f = some ⟨oc, od, .func (PySem.W.fnOf x qual (defArgs st) (defBody st) (defScope st) .none kV doc pm an (.ref cA) ct), osl⟩) (hcd : PySem.W.codeIn K (.ref cA) qual = true)
    (S : FnScope N ps (defScope st)) (len : ∀ as t Q, sp as t Q → as.length = ps.length)
    (hcf : ∀ i ∈ is, (tb i).length = (Lt i).free.length ∧ ∀ (k : Nat) (n : Str) (j : Nat), (Lt i).free[k]? = some n → (tb i)[k]? = some j → N[j]? = some n ∧ (defScope st).names.lookup n = some .cell)
    (hbody : ∀ (A : Around) (outer : List PySem.Env) (s : Shared) (H : Hp) (E : XK) (B : Bs) (R : L2.St → V → Hp → Prop), Room k (A.deeper (envOfC qual (defScope st) s.heap.objs.size f (.ref cA))) → B.Top → B.m = false → TabOf B Pt q0 →
      QRs (cxOf CX0 P w K mg base N qual (defScope st) f (.ref cA) A outer s H E).nox (defBody st) (trOf K B (ds fun i => cloFrom (envOfC qual (defScope st) s.heap.objs.size f (.ref cA)).cells (Lt i).scope.names []) R) R)
    (hds : ∀ as t Q, sp as t Q → ∀ Zt, ds Zt ⟨fun _ _ => False, fun d env t => (okFn is Lt Zt d ∧ capOk is tb env) ∧ Q (closeD (capt tb env) d) t, fun _ _ => False, fun _ _ => False⟩ (start0 N as) t) : FnOk P w K mg base CX0 (k + 1) f (PySem.W.fnOf x qual (defArgs st) (defBody st) (defScope st) .none kV doc pm an (.ref cA) ct) ps (liftT K Pt q0 sp) := by
  have hlen : ∀ vs H Q E, liftT K Pt q0 sp vs H Q E → vs.length = ps.length := fun vs H Q E h => by
    obtain ⟨F, pa, t, as, R, C, r, q, _⟩ := h
    rw [r.len]; exact len as t R q
  refine ⟨hlen, fun A outer s H args us vs Q E hr e0 hb r h => ?_⟩
  refine run_ofC lk hcd S hr e0 hb r (hlen vs H Q E h) fun hr' => ?_
  obtain ⟨F, pa, t, as, R, C, rl, q, fin⟩ := h
  have top : (B0T F pa t H Pt q0).Top := fun a ha => by
    rcases List.mem_cons.mp ha with z | z
    · exact .inr ⟨(Pt, q0), List.mem_singleton.mpr rfl, z.symm⟩
    · exact .inl (mem_pa.mp z)
  have tbo : TabOf (B0T F pa t H Pt q0) Pt q0 := ⟨List.mem_singleton.mpr rfl, List.mem_cons_self, fun p hp _ => by rw [List.mem_singleton.mp hp]⟩
  refine ⟨_, _, hbody A outer s H E (B0T F pa t H Pt q0) (fun σ' v H' => ∃ F' pa' t' env' d, Gr F pa F' pa' ∧ Cf K (B0T F pa t H Pt q0) F' pa' t' env' σ' H' ∧ RelD K F' pa' d v ∧ (okFn is Lt (fun i => cloFrom (envOfC qual (defScope st) s.heap.objs.size f (.ref cA)).cells (Lt i).scope.names []) d ∧ capOk is tb env') ∧ R (closeD (capt tb env') d) t') hr' top rfl tbo,
    ⟨F, pa, t, start0 N as, _, cf_startB C rl, hds as t R q _, fun v d F' pa' t' env' σ' H' g C' r' q' => ⟨F', pa', t', env', d, g, C', r', q'⟩⟩, fun u v σ' H' s' J rv q' => ?_⟩
  obtain ⟨F', pa', t', env', d, g, C', r', ⟨hok, hcp⟩, q'⟩ := q'
  obtain ⟨S', F1, H1, g1, C1, hS, hn, hcap⟩ := cap_add (X := (cxOf CX0 P w K mg base N qual (defScope st) f (.ref cA) A outer s H E).nox) (Lt := Lt) ⟨fun _ => rfl, fun _ _ => rfl, fun i hi => (hcf i hi).1, fun i hi => (hcf i hi).2⟩ J C' hcp
  have rd := close_rel hcap d v hok (RelD.mono g1 d v r')
  have hS1 : ∀ b ∈ S', H' b = none := fun b hb => (hS b hb).1
  have ok1 : HOk P w H1 s'.heap := hok_adds J.hok hS1 (fun b hb => (hn b hb).1) fun b hb => by
    obtain ⟨_, _, _, o, e1, e2⟩ := hS b hb
    exact ⟨o, e1, C1.sub _ _ e2⟩
  have un : Un (frs outer) [] H H' s.heap s'.heap := J.base
  have un1 : Un (frs outer) [] H H1 s.heap s'.heap := by
    have sm : ∀ {b o}, H' b = some o → H1 b = some o := fun {b o} e => by rw [(hn b fun z => by rw [hS1 b z] at e; cases e).1]; exact e
    refine ⟨un.keep, un.slot, fun b o e n hx => ?_, un.there, fun b xs e => sm (un.tups b xs e), fun b o v e => sm (un.frzs b o v e), fun b ps e => ?_⟩
    · rw [(hn b fun z => absurd (Nat.lt_of_lt_of_le (Heap.lt_size e) (hS b z).2.1) (Nat.lt_irrefl _)).1]
      exact un.free b o e n hx
    · obtain ⟨more, h⟩ := un.tbls b ps e
      exact ⟨more, sm h⟩
  exact ⟨v, H1, J.os, J.bare, un1, ok1, rv, fin v _ F1 pa' t' H1 C1.nil rd q'⟩
end
end Q
/-! QO26 -/
namespace Q
open PySem PySem.Spec PyProof.Rows L2
end Q
/-! QL4 -/
namespace Q
open PySem PySem.Spec PyProof.Rows L2 LamX
inductive NmL (X : Cx) : List Expr → List Value → Prop
  | nil : NmL X [] []
  | cons {x : Str} {c : Value} {p : Pos} {es : List Expr} {cs : List Value} : Names X x c → NmL X es cs → NmL X (.Name x p :: es) (c :: cs)
theorem nms_run {X : Cx} {a : Addr} {pn pins : List (Addr × Obj)} {σ : L2.St} {H : Hp} {s : Shared} {pos : Pos} {es : List Expr} {cs : List Value} {E : Value → Shared → Prop} (S3 : Inv (X.suite a pn) pins σ H s) (h : NmL X es cs) :
    ∀ {Q : List Value → Shared → Prop}, Q cs s → wpAny (model X.prog X.w) (X.A.mark (some (.ref a))) (spliced (backTo pos (starEach es X.env))) Q E s := by
  induction h with
  | nil => intro Q q; exact Calls.spliced_nil q
  | @cons x c p es cs hc r ih =>
    intro Q q
    show wpAny _ _ (spliced ((false, eval (.Name x p) X.env) :: backTo pos (starEach es X.env))) _ _ s
    have go := ih (Q := fun us s1 => Q (c :: us) s1) q
    refine Calls.spliced_cons ?_
    obtain ⟨hg, hdbg, hm | ⟨hm, hv, hnn⟩⟩ := hc
    · exact ld_glob (X := X.suite a pn) S3 hg hm go hdbg
    · exact ld_blt (X := X.suite a pn) S3 hg hm hv go hnn hdbg
theorem flyZ_push {base h h2 : Heap} {l : List Env} {e : Addr} {Z : Obj → Prop} (x : HandSPX.FlyingZ base l e Z h) (k : ∀ b o, h.get? b = some o → h2.get? b = some o) : HandSPX.FlyingZ base l e Z h2 := by
  obtain ⟨f1, f2, f3, oe, vs, T, oT, ts, he, hz, hd, h1, hnT, hTe, hT, hdT, h3⟩ := x
  exact ⟨fun b o q => k _ _ (f1 b o q), f2, f3.of_keeps fun b o hb hnf => ⟨o, k _ _ hb, rfl⟩, oe, vs, T, oT, ts, k _ _ he, hz, hd, h1, hnT, hTe, k _ _ hT, hdT, h3⟩
section
variable {X : Cx} {B : Bs} {cl : XCl} {dx : DXE} {cs : List (Xn × Addr × Option Str)} {i j k₀ : Nat} {n : Str} {call : Expr} {st : Stmt} {es : List Expr} {cvs : List Value} {np pos pos' rp : Pos}
theorem hKeep_find {i j : Nat} : ∀ {cs : List (Xn × Addr × Option Str)} {c : Xn} {d : D} {DD : DEnds} {env : En} {t : Ts}, hKeep i j cs c d DD env t → ∃ C fl, (c, C, fl) ∈ cs ∧ DD.nx ((env.set i (.val (.ob (.exc c.n C fl.toList) (xFl fl d)))).set j .no) t
  | [], c, d, DD, env, t, h => h.elim
  | (c0, C, fl) :: r, c, d, DD, env, t, h => by
    have h : hOn c0 (fun d DD env t => DD.nx ((env.set i (.val (.ob (.exc c0.n C fl.toList) (xFl fl d)))).set j .no) t) (hKeep i j r) c d DD env t := h
    unfold hOn at h
    cases e : Xn.is c c0 with
    | true =>
      rw [e] at h
      obtain rfl := Xn.is_eq e
      exact ⟨C, fl, List.mem_cons_self, h⟩
    | false =>
      rw [e] at h
      obtain ⟨C', fl', hm, q⟩ := hKeep_find h
      exact ⟨C', fl', List.mem_cons_of_mem _ hm, q⟩
theorem q_tryKeep (hex0 : X.ex = []) (hs : X.stack = X.env :: X.outer) (hf : X.env.frame = some X.env.locals) (hN : X.N.Nodup) (hi : i < X.N.length) (hj : X.N[j]? = some n) (hij : i ≠ j) (hln : X.env.kindOf n = some .local)
    (hnm : NmL X es cvs) (hz : cvs.length ≤ sizeLine)
    (hmt : ∀ (h : Heap) (tp e : Addr) (cls : Value), X.K.In h → PySem.W.Looks (model X.prog X.w) h (typeOf (.ref e)) cls → h.get? tp = some { cls := .type "tuple", data := .seq cvs.toArray } → PySem.W.exmAny X.K cls cvs = some true → PySem.W.Looks (model X.prog X.w) h (excMatches (.ref e) (.ref tp)) true)
    (hex : ∀ z ∈ cs, cl z.1 = some (z.2.1, z.2.2) ∧ PySem.W.exmAny X.K (.ref z.2.1) cvs = some true)
    (hcall : ∀ (W : WX) (pn : List (Addr × Obj)) (xe : Value → Shared → Prop), Takes (X.tr pn xe) W → PE (X.tr pn xe) call (teE X.K B cl dx (WE W)))
    (hset : ∀ (a : Addr) (oe : Obj) (pn : List (Addr × Obj)), PS (X.suite a ((a, oe) :: pn)) st (tAsg (tVar j) (L2.gName i)))
    (hsw : ∀ (pn : List (Addr × Obj)) (xe : Value → Shared → Prop), swapsWith call none rp.line (X.tr pn xe).env = pure false := by intro _ _; rfl) :
    QS X B (.Try [.Expr call rp] [.ExceptHandler (some (.Tuple es k₀ np)) (some n) [st] pos'] [] [] pos) (dTryE dx kDrop (hKeep i j cs)) := by
  refine ⟨fun pins s σ H D I ⟨F, pa, t, env, DD, C, h, R⟩ => ?_⟩
  have ok := I.ok
  have jl : j < X.N.length := (List.getElem?_eq_some_iff.mp hj).1
  have hfr : X.A.frames = some (X.env :: X.outer) := by rw [ok.frames, hs]
  have hloc : Loc X.env.scope n := .inl hln
  have h : dx env t (fun d t2 => DD.nx env t2) fun c d t2 => hKeep i j cs c d DD env t2 := h
  let W : WX := fun cls d σ' H' => σ' = σ ∧ ∃ F' pa' t' c Cc fl dd, cls = .ref Cc ∧ cl c = some (Cc, fl) ∧ Gr F pa F' pa' ∧ Cf X.K B F' pa' t' env σ H' ∧ RzX X.K F' pa' H' fl dd d ∧ hKeep i j cs c dd DD env t'
  refine wpAny_Try_except ?_
  have body : ∀ (pn : List (Addr × Obj)) (xe : Value → Shared → Prop), Takes (X.tr pn xe) W → PSs (X.tr pn xe) [.Expr call rp] (tDrop (teE X.K B cl dx (WE W))) := fun pn xe tk => pss_one (ps_expr (hcall W pn xe tk) (hsw pn xe))
  refine wpAny_mono ((body (X.pn ++ pins) (fun e s₁ => wpAny (model X.prog X.w) X.A (noteFrame e X.env) (fun _ s₂ => wpAny (model X.prog X.w) X.A (setFlight e none) (fun _ s₃ =>
    wpAny (model X.prog X.w) X.A (handleBy e X.env [.ExceptHandler (some (.Tuple es k₀ np)) (some n) [st] pos']) (SP X pins D) X.xe s₃) X.xe s₂) X.xe s₁) (fun u s' xx => ?_)).run [] s σ H { D with nx := fun σ' H' => D.nx σ' H' } (I.toTry _)
      ⟨F, pa, t, env, _, _, C, h, fun v d F' pa' t' H' g C' r q => R.nx F' pa' t' env σ H' g C' q, fun c Cc fl d dd F' pa' t' H' ec g C' r q => ⟨rfl, F', pa', t', c, Cc, fl, d, rfl, ec, g, C', r, q⟩⟩) (fun f s1 hsp => ?_) (fun e s1 he => he)
  · obtain ⟨a, B', sI, pins', σ', H', cls, d, rfl, J', nb, up, sky, na, os, ag, rfl, F', pa', t', c, Cc, fl, dd, rfl, ec, g, C', rz, hk⟩ := xx
    obtain ⟨C0, fl0, hmem, hnx⟩ := hKeep_find hk
    obtain ⟨ec0, hxm⟩ := hex _ hmem
    rw [ec] at ec0
    obtain ⟨q1, q2⟩ : Cc = C0 ∧ fl = fl0 := by
      have := Option.some.inj ec0
      exact ⟨congrArg Prod.fst this, congrArg Prod.snd this⟩
    subst q1 q2
    have J : Inv X pins σ' H' sI := J'.ofTry ok
    have sky' : Sky B' (X.env :: X.outer) a (Zc (.ref Cc) d) X.env.locals s'.heap := by rw [← hs]; exact sky
    show wpAny (model X.prog X.w) X.A (noteFrame (.ref a) X.env) _ _ _
    refine Sky.land Zc.steady hfr hf sky' fun h3 fl3 up3 => ?_
    have J3 : Inv X pins σ' H' { s' with heap := h3 } := J.landed nb fl3.1 (up.trans up3) os ag
    obtain ⟨oe3, vs3, he3, hz3, hd3⟩ := fl3.there
    have notFr : ∀ {h : Heap} {o : Obj} {vs : Array Value}, h.FunFrames B' (X.env :: X.outer) → h.get? a = some o → o.data = .fields vs → a ∉ frs (X.env :: X.outer) := fun {h o vs} ff e dd hm => by
      obtain ⟨_, o', e', hnf⟩ := ff.mem hm
      rw [e] at e'; cases e'
      exact hnf _ dd
    have nfr := notFr fl3.2.2.1 he3 hd3
    have nL : a ≠ X.env.locals := fun z => nfr (List.mem_filterMap.mpr ⟨X.env, List.mem_cons_self, by rw [hf, z]⟩)
    have nF : a ∉ X.fs := fun hm => by
      obtain ⟨e, he, q⟩ := List.mem_filterMap.mp hm
      exact nfr (List.mem_filterMap.mpr ⟨e, List.mem_cons_of_mem _ he, q⟩)
    have S3 := J3.suite he3 hd3 na nL nF
    refine wpAny_handleBy_cons (codeAny_handlers_test ?_) (by intro q; cases q)
    refine wpAny_Tuple_spliced (nms_run S3 hnm ⟨hz, ?_⟩)
    have kp3 : ∀ b o, h3.get? b = some o → (h3.push { cls := .type "tuple", data := .seq cvs.toArray }).get? b = some o := fun b o e => Heap.get?_push_of_some _ e
    obtain ⟨h4, eh4⟩ : ∃ h4, h4 = h3.push { cls := .type "tuple", data := .seq cvs.toArray } := ⟨_, rfl⟩
    rw [← eh4] at kp3
    have fl4 : HandSPX.FlyingZ B' (X.env :: X.outer) a (Zc (.ref Cc) d) h4 := flyZ_push fl3 kp3
    have up4 : h3.UpToSlots h4 := fun b o e _ => ⟨o.slots, kp3 b o e⟩
    have J4 : Inv X pins σ' H' { s' with heap := h4 } := J.landed nb fl4.1 ((up.trans up3).trans up4) os ag
    have tp4 : h4.get? h3.objs.size = some { cls := .type "tuple", data := .seq cvs.toArray } := by rw [eh4]; exact Heap.get?_push_size _ rfl
    have LT : PySem.W.Looks (model X.prog X.w) h4 (typeOf (.ref a)) (.ref Cc) := fun A Q E s k q => wpAny_typeOf_ref (k _ _ (kp3 _ _ he3)) (by rw [hz3.1]; exact q)
    have LM := hmt h4 h3.objs.size a (.ref Cc) J4.kIn LT tp4 hxm
    show wpAny (model X.prog X.w) (X.A.mark (some (.ref a))) (excMatches (.ref a) (.ref h3.objs.size)) _ _ { s' with heap := h3.push { cls := .type "tuple", data := .seq cvs.toArray } }
    rw [← eh4]
    refine LM.here ?_
    refine codeAny_handlers_suite_as ?_
    refine HandSPX.lands_againZ fl4 fun h5 fl5 up5 => ?_
    have J5 : Inv X pins σ' H' { s' with heap := h5 } := J.landed nb fl5.1 (((up.trans up3).trans up4).trans up5) os ag
    obtain ⟨oe5, vs5, he5, hz5, hd5⟩ := fl5.there
    have S5 := J5.suite he5 hd5 na nL nF
    have hl' : σ'.length = X.N.length := I.len
    refine store_ok (X := X.suite a ((a, oe5) :: (X.pn ++ pins))) (v := .ref a) S5 hN hj hloc rfl (fun s6 S6 => ?_) (.inr hln)
    have hrun := (pss_one (hset a oe5 (X.pn ++ pins))).run [] s6 _ H' { nx := fun σ2 H2 => σ2 = (σ'.set j (some (.ref a))).set i (some (.ref a)) ∧ H2 = H', rt := fun _ _ => False } S6 ⟨.ref a, by rw [List.getElem?_set_self (by rw [hl']; exact jl)], rfl, rfl⟩
    refine wpAny_mono hrun (fun f s7 hsp => ?_) (fun _ _ z => False.elim z)
    cases f with
    | next =>
      obtain ⟨σ7, H7, S7, eσ, eH⟩ := hsp
      subst eσ eH
      refine gone_ok (X := X.tr ((a, oe5) :: (X.pn ++ pins)) X.xe) (keepS S7 ok) hN hj hln fun s8 J8 => ?_
      have hpin := J8.pin (a, oe5) (List.mem_append_left _ List.mem_cons_self)
      have J9 : Inv X pins _ H7 s8 := dropP J8 ok
      have nB : B'.get? a = none := fl5.2.1
      have inB : ∀ {b : Addr} {o : Obj}, sI.heap.get? b = some o → b ∉ frs X.stack → b ≠ a := fun {b o} e hb z => by
        have := nb b o e hb
        rw [z, nB] at this; cases this
      have nst : a ∉ frs X.stack := by rw [hs]; exact nfr
      have nw : X.s_0.heap.get? a = none := by
        cases q : X.s_0.heap.get? a with
        | none => rfl
        | some o =>
          have hx : a ∉ X.ex := by rw [hex0]; simp
          obtain ⟨o', q'⟩ := J.base.there a o q hx
          exact absurd rfl (inB q' nst)
      have hC : Cf X.K B (upd F' a (ObX a oe5)) pa' t' env σ' (upd H7 a (ObX a oe5)) := (C'.alloc (ObX a oe5) hpin.2.1 (fun ps => ObX.ne_tbl ps)).2
      have hG : Gr F' pa' (upd F' a (ObX a oe5)) pa' := (C'.alloc (ObX a oe5) hpin.2.1 (fun ps => ObX.ne_tbl ps)).1
      have rd : RelD X.K (upd F' a (ObX a oe5)) pa' (.ob (.exc c.n Cc fl.toList) (xFl fl dd)) (.ref a) := by
        unfold RelD
        cases fl with
        | none =>
          obtain ⟨rfl, _⟩ := rz
          exact ⟨a, [], rfl, ⟨oe5, none, upd_same, hz5, ⟨vs5, hd5⟩, rfl, rfl⟩, RelL.nil⟩
        | some f =>
          obtain ⟨da, fs, v, rfl, e1, e2, e3⟩ := rz
          refine ⟨a, [v], rfl, ⟨oe5, some da, upd_same, hz5, ⟨vs5, hd5⟩, rfl, fs, hG.f _ _ e1, fun k n x h1 h2 => ?_⟩, RelL.cons (RelD.mono hG _ _ e3) RelL.nil⟩
          cases k with
          | zero =>
            simp at h1 h2
            subst h1 h2
            exact e2
          | succ k => simp at h1
      refine ⟨_, _, inv_track J9 hpin.1 hpin.2.1 nw nL (fun x c0 hcl z => ?_) (fun p hp z => ?_), R.nx _ pa' t' _ _ _ (g.trans hG) ((hC.setV i rd).slots ?_ fun k sl hk hne => ?_) hnx⟩
      · obtain ⟨v, oc, ho, hdc⟩ := J9.cell x c0 hcl
        rw [z, hpin.1] at ho
        cases ho
        rw [hd5] at hdc; cases hdc
      · have hpI := J.pin p hp
        refine inB hpI.1 (fun hst => ?_) z
        rcases List.mem_cons.mp (J.stkSub _ hst) with e | e
        · exact hpI.2.2.1 e
        · exact hpI.2.2.2.1 e
      · simp only [List.length_set]
        exact C'.len
      · have kj : k ≠ j := fun e => by
          subst e
          rw [List.getElem?_set_self (by rw [List.length_set, C'.len, hl']; exact jl)] at hk
          cases hk
          exact hne rfl
        rw [List.getElem?_set_ne (Ne.symm kj)] at hk
        refine ⟨hk, ?_⟩
        rw [List.getElem?_set_ne (Ne.symm kj)]
        by_cases ki : k = i
        · subst ki
          rw [List.getElem?_set_self (by rw [List.length_set, hl']; exact hi), List.getElem?_set_self (by rw [hl']; exact hi)]
        · rw [List.getElem?_set_ne (Ne.symm ki), List.getElem?_set_ne (Ne.symm kj), List.getElem?_set_ne (Ne.symm ki)]
    | brk => obtain ⟨_, _, _, q⟩ := hsp; exact q.elim
    | cont => obtain ⟨_, _, _, q⟩ := hsp; exact q.elim
    | ret u => obtain ⟨_, _, _, _, _, q⟩ := hsp; exact q.elim
  · cases f with
    | next =>
      obtain ⟨σ', H', J', q⟩ := hsp
      exact wpAny_execs_nil ⟨σ', H', J'.ofTry ok, q⟩
    | brk =>
      obtain ⟨σ', H', J', q⟩ := hsp
      exact ⟨σ', H', J'.ofTry ok, q⟩
    | cont =>
      obtain ⟨σ', H', J', q⟩ := hsp
      exact ⟨σ', H', J'.ofTry ok, q⟩
    | ret u =>
      obtain ⟨v, σ', H', J', r, q⟩ := hsp
      exact ⟨v, σ', H', J'.ofTry ok, r, q⟩
end
end Q
/-! QL5 -/
namespace Q
open PySem PySem.Spec PyProof.Rows L2 LamX
def rIsT (K : PySem.W.Frag) : List V → Hp → VK → Prop := fun xs H Q => ∃ (a : Addr) (c : V) (cv : Value) (b : Bool) (C : Addr) (oe : Obj) (od : Option Addr), xs = [.ref a, c] ∧ (∀ u, RelV c u → u = cv) ∧ H a = some (ObX a oe) ∧ Zc (.ref C) od oe ∧ (∃ vs, oe.data = .fields vs) ∧
  (∀ d, od = some d → ∃ fs, H d = some (.xd fs)) ∧ ExcC K C ∧ PySem.W.kitOne K (.ref C) cv = some b ∧ Q (.bl b) H
theorem call_isT {X : Cx} : CallR X (.builtin "isinstance") (rIsT X.K) := by
  intro pins s σ H xs us Q I r h
  obtain ⟨a, c, cv, b, C, oe, od, rfl, hcv, ha, hz, ⟨vs, hv⟩, hd, xc, e, q⟩ := h
  cases r with
  | cons rx rr =>
    cases rr with
    | cons rt rr =>
      cases rr
      cases rx
      have ec := hcv _ rt
      subst ec
      have hget := ObX.at I.hok ha
      cases od with
      | none =>
        have J : PySem.W.InstAt s.heap a oe C none := by
          obtain ⟨oc, od, oda, osl⟩ := oe
          obtain ⟨h1, h2⟩ := hz
          dsimp only at h1 h2 hv
          subst h1 h2 hv
          exact ⟨hget, rfl, rfl, trivial⟩
        exact PySem.W.kia_one (PySem.W.handS_kitx_exc xc.hg xc.hk xc.hs xc.hd xc.ha xc.hn xc.ht xc.hm) I.kIn J e (fun z => nomatch z) fun tk => ⟨.bl b, H, I.kept (t' := tk) fun _ _ z => z, rfl, q⟩
      | some dd =>
        obtain ⟨fs, hfs⟩ := hd dd rfl
        have hx : ObjOk X.prog X.w H s.heap dd (.xd fs) := I.hok dd _ hfs
        obtain ⟨mA, hns, hr⟩ := hx
        obtain ⟨od, ho, hl⟩ := lookIn_ns hns
        have J : PySem.W.InstAt s.heap a oe C (some od) := ⟨hget, hz.1, by unfold PySem.W.notCls; rw [hv] <;> rfl, by rw [hz.2]; exact ho⟩
        exact PySem.W.kia_one (PySem.W.kitx_exc (by obtain ⟨cd, hc, _⟩ := PySem.W.any_some xc.hd; rw [hc]; rfl) xc.hg xc.hk xc.hs xc.ha xc.hn xc.ht xc.hm) I.kIn J e (fun z => nomatch z) fun tk => ⟨.bl b, H, I.kept (t' := tk) fun _ _ z => z, rfl, q⟩
theorem tlook_mem {α : Type} : ∀ {l : List (Nat × α)} {n : Nat} {x : α}, tlook l n = some x → (n, x) ∈ l
  | [], n, x, h => by cases h
  | (m, y) :: r, n, x, h => by
    unfold tlook at h
    cases e : Nat.beq n m with
    | true =>
      rw [e] at h
      cases h
      rw [Nat.eq_of_beq_eq_true e]
      exact List.mem_cons_self
    | false =>
      rw [e] at h
      exact List.mem_cons_of_mem _ (tlook_mem h)
theorem zip_lookup_get {f : Str} {d : D} : ∀ {ns : List Str} {l : List D}, (ns.zip l).lookup f = some d → ∃ k : Nat, ns[k]? = some f ∧ l[k]? = some d
  | [], l, h => by simp at h
  | n :: ns, [], h => by simp at h
  | n :: ns, x :: l, h => by
    simp only [List.zip_cons_cons, List.lookup_cons] at h
    cases e : (f == n) with
    | true =>
      rw [e] at h
      cases h
      exact ⟨0, by rw [eq_of_beq e]; rfl, rfl⟩
    | false =>
      rw [e] at h
      obtain ⟨k, h1, h2⟩ := zip_lookup_get h
      exact ⟨k + 1, by simpa using h1, by simpa using h2⟩
section
variable {X : Cx} {B : Bs} {e e2 : Expr} {da : DE} {f : Str} {p1 p2 pos : Pos}
theorem q_isX {tb : List (Nat × Addr × Bool)} {c : V} {cv : Value} (hcv : ∀ u, RelV c u → u = cv) (htb : ∀ z ∈ tb, ExcC X.K z.2.1 ∧ PySem.W.kitOne X.K (.ref z.2.1) cv = some z.2.2) (he : QE X B e da) (hc : PE X e2 (tC c)) (gi : Gl X "isinstance") (mi : X.mg "isinstance" = none)
    (hst : starEach (e :: e2 :: []) X.env = (false, eval e X.env) :: starEach (e2 :: []) X.env := by rfl) (hst2 : starEach (e2 :: []) X.env = (false, eval e2 X.env) :: starEach [] X.env := by rfl) (hpl : (backTo p2 (starEach (e2 :: []) X.env)).any (·.1) = false := by rfl) :
    QE X B (.Call (.Name "isinstance" p1) [e, e2] [] p2) (dIsX tb da) :=
  PE.imp (pe_callB (p := p1) (pos := p2) (call_isT (X := X)) gi mi (by decide +kernel) (pa_cons he (pa_cons hc pa_nil hst2) hst) (he := hst) (hpl := hpl)) fun σ H Q ⟨F, pa, t, env, P, C, h, k⟩ => ⟨F, pa, t, env, _, C, h, fun v x F1 pa1 t1 H1 g1 C1 r1 q1 => by
    cases x with
    | ob x l =>
      cases x with
      | fn _ _ _ _ => exact q1.elim
      | exc n Cc ns =>
        have q1 : (match tlook tb n with | some (C', b) => Cc = C' ∧ P (.bl b) t1 | none => False) := q1
        cases ht : tlook tb n with
        | none => rw [ht] at q1; exact q1.elim
        | some z =>
          rw [ht] at q1
          obtain ⟨C', b⟩ := z
          obtain ⟨rfl, q1⟩ := q1
          unfold RelD at r1
          obtain ⟨a, vs, rfl, ⟨oe, od, h1, h2, h3, h4, h5⟩, _⟩ := r1
          obtain ⟨xc, kt⟩ := htb _ (tlook_mem ht)
          refine ⟨a, c, cv, b, Cc, oe, od, rfl, hcv, C1.sub _ _ h1, h2, h3, fun d ed => ?_, xc, kt, k _ _ F1 pa1 t1 H1 g1 C1 (rD_bl _) q1⟩
          subst ed
          obtain ⟨fs, q, _⟩ := h5
          exact ⟨fs, C1.sub _ _ q⟩
    | _ => exact q1.elim⟩
theorem pe_fldT {te : TE} (he : PE X e te) (hb : attributeBase e f X.env (eval e X.env) = eval e X.env := by rfl) :
    PE X (.Attribute e f pos) (fun σ H Q => te σ H fun x H1 => ∃ (a C : Addr) (oe : Obj) (dd : Addr) (fs : List (Str × V)) (v : V), x = .ref a ∧ H1 a = some (ObX a oe) ∧ Zc (.ref C) (some dd) oe ∧ (∃ vs, oe.data = .fields vs) ∧ XfC X.K C ∧ PySem.W.findIn X.K (.ref C) f = some none ∧ H1 dd = some (.xd fs) ∧ fs.lookup f = some v ∧ Q v H1) := by
  refine ⟨fun pins s σ H Q I h => ?_⟩
  refine attr_of hb (thn (he.run pins s σ H _ I h) fun u s1 hh => ?_)
  obtain ⟨x, H1, I1, rx, a, C, oe, dd, fs, v, ex, ea1, hz, ⟨vs, hd⟩, T, hno, ea, l, q⟩ := hh
  subst ex
  obtain rfl : u = Value.ref a := rx
  have ha := ObX.at I1.hok ea1
  have hx : ObjOk X.prog X.w H1 s1.heap dd (.xd fs) := I1.hok dd _ ea
  obtain ⟨mA, hns, hr⟩ := hx
  obtain ⟨od, ho, hl⟩ := lookIn_ns hns
  obtain ⟨u, hu, ru⟩ := RelO.some_of (v := v) (o := mA f) (by rw [← l]; exact hr f)
  have J : PySem.W.InstAt s1.heap a oe C (some od) := ⟨ha, hz.1, by unfold PySem.W.notCls; rw [hd] <;> rfl, by rw [hz.2]; exact ho⟩
  exact HandSPX.exc_get I1.kIn J T.ga T.gg T.exC (PySem.W.findObj_own T.hdC hno rfl (by rw [hl, hu])) (handed_of ru) ⟨v, H1, I1.tok _, ru, q⟩
theorem q_fldX {tb : List (Nat × Addr)} (htb : ∀ z ∈ tb, XfC X.K z.2 ∧ PySem.W.findIn X.K (.ref z.2) f = some none) (he : QE X B e da) (hb : attributeBase e f X.env (eval e X.env) = eval e X.env := by rfl) : QE X B (.Attribute e f pos) (dFldX tb f da) :=
  PE.imp (pe_fldT (pos := pos) he hb) fun σ H Q ⟨F, pa, t, env, P, C, h, k⟩ => ⟨F, pa, t, env, _, C, h, fun v x F1 pa1 t1 H1 g1 C1 r1 q1 => by
    cases x with
    | ob x l =>
      cases x with
      | fn _ _ _ _ => exact q1.elim
      | exc n Cc ns =>
        have q1 : (match tlook tb n with | some C' => Cc = C' ∧ (match (ns.zip l).lookup f with | some d => P d t1 | none => False) | none => False) := q1
        cases ht : tlook tb n with
        | none => rw [ht] at q1; exact q1.elim
        | some C' =>
          rw [ht] at q1
          obtain ⟨rfl, q1⟩ := q1
          cases hlk : (ns.zip l).lookup f with
          | none => rw [hlk] at q1; exact q1.elim
          | some d =>
            rw [hlk] at q1
            unfold RelD at r1
            obtain ⟨a, vs, rfl, ⟨oe, od, h1, h2, h3, h4, h5⟩, rl⟩ := r1
            obtain ⟨j, e1, e2⟩ := zip_lookup_get hlk
            obtain ⟨v, e3, rd⟩ := rl.get e2
            obtain ⟨T, hno⟩ := htb _ (tlook_mem ht)
            cases od with
            | none => have h5 : ns = [] := h5; rw [h5] at e1; simp at e1
            | some dd =>
              obtain ⟨fs, q, hfs⟩ := h5
              exact ⟨a, Cc, oe, dd, fs, v, rfl, C1.sub _ _ h1, h2, h3, T, hno, C1.sub _ _ q, hfs j f v e1 e3, k v d F1 pa1 t1 H1 g1 C1 rd q1⟩
    | _ => exact q1.elim⟩
end
theorem lam_at {P : Program} {w : World} {K : PySem.W.Frag} {mg : Str → Option Value} {base : Heap} {k : Nat} {L L' : LamK} {cl : XCl} {sp : PSpE} (h : LamOk P w K mg base k L' cl sp) : LamOk P w K mg base k L cl fun as t Q Px => L = L' ∧ sp as t Q Px := by
  by_cases e : L = L'
  · subst e
    exact h.imp fun _ _ _ _ z => z.2
  · exact LamOk.none.imp fun _ _ _ _ z => (e z.1).elim
end Q
/-! QH36 -/
namespace Q
open PySem L2 PyProof.Rows
section
variable {X : Cx} {B : Bs} {pos : Pos}
theorem Cf.past {K : PySem.W.Frag} {F F1 : Hp} {pa pa1 : Option Addr} {t t1 : Ts} {env : En} {σ : L2.St} {H H1 : Hp} {D : Addr} {h : HO} (C : Cf K B F pa t env σ H) (n : Nw B F pa t env σ D) (e : H D = some h) (C1 : Cf K (Bk F pa t (wipeE env []) (wipe σ []) H) F1 pa1 t1 (wipeE env []) (wipe σ []) H1) :
    Gr F pa F1 pa1 ∧ Cf K B F1 pa1 t1 env σ H1 ∧ Nw B F1 pa1 t1 env σ D ∧ H1 D = some h := by
  have dn : D ∉ (Bk F pa t (wipeE env []) (wipe σ []) H).ex := fun z => by
    rcases List.mem_append.mp z with z | z
    · exact n.a (mem_pa.mp z)
    · obtain ⟨j, d, h1, h2⟩ := mem_ownA.mp z
      exact n.s j d h1 h2
  obtain ⟨g, C2⟩ := C.join (vs := []) C1 rfl rfl
  refine ⟨g, C2, ⟨?_, n.b, fun z => ?_, n.s, noo_of n.o C1 e⟩, C1.frm D _ e dn (fun ⟨d, z⟩ => by rw [n.o] at z; cases z)⟩
  · cases z : F1 D with
    | none => rfl
    | some o =>
      rcases C1.new D o z with ⟨o', q⟩ | q
      · have q : F D = some o' := q
        rw [n.f] at q; cases q
      · have q : H D = none := q
        rw [e] at q; cases q
  · rcases (C1.pen D z).2.2 with q | q
    · exact dn q
    · have q : H D = none := q
      rw [e] at q; cases q
end
end Q
/-! QL6 -/
namespace Q
open PySem PySem.Spec PyProof.Rows L2 LamX
theorem q_allZ {X : Cx} {B : Bs} {sts : List Stmt} {Lt : Nat → LamK} {ds : (Nat → List (Str × Addr)) → DS} (h : QSs X B sts (ds fun i => cloFrom X.env.cells (Lt i).scope.names [])) : QSs X B sts (fun DD env t => ∀ Zt, ds Zt DD env t) :=
  PSs.imp h fun D σ H ⟨F, pa, t, env, DD, C, q, R⟩ => ⟨F, pa, t, env, DD, C, q _, R⟩
def capFB (N : List Str) (sc : Scope) (is : List Nat) (tb : Nat → List Nat) (Lt : Nat → LamK) : Bool :=
  is.all fun i => Nat.beq (tb i).length (Lt i).free.length && ((Lt i).free.zip (tb i)).all fun p => (match N[p.2]? with | some m => decide (m = p.1) | none => false) && (match sc.names.lookup p.1 with | some .cell => true | _ => false)
theorem capF_ok {N : List Str} {sc : Scope} {is : List Nat} {tb : Nat → List Nat} {Lt : Nat → LamK} (h : capFB N sc is tb Lt = true) :
    ∀ i ∈ is, (tb i).length = (Lt i).free.length ∧ ∀ (k : Nat) (n : Str) (j : Nat), (Lt i).free[k]? = some n → (tb i)[k]? = some j → N[j]? = some n ∧ sc.names.lookup n = some .cell := fun i hi => by
  have h1 := List.all_eq_true.mp h i hi
  rw [Bool.and_eq_true] at h1
  refine ⟨Nat.eq_of_beq_eq_true h1.1, fun k n j e1 e2 => ?_⟩
  have hm : (n, j) ∈ (Lt i).free.zip (tb i) := by
    refine List.mem_iff_getElem?.mpr ⟨k, ?_⟩
    rw [List.getElem?_zip_eq_some]
    exact ⟨e1, e2⟩
  have h2 := List.all_eq_true.mp h1.2 _ hm
  rw [Bool.and_eq_true] at h2
  obtain ⟨h3, h4⟩ := h2
  constructor
  · cases e : N[j]? with
    | none => simp [e] at h3
    | some m =>
      simp [e] at h3
      rw [h3]
  · cases e : sc.names.lookup n with
    | none => simp [e] at h4
    | some kd =>
      cases kd <;> simp [e] at h4
      rfl
theorem capF_mk {X : Cx} {is : List Nat} {tb : Nat → List Nat} {Lt : Nat → LamK} {N : List Str} {sc : Scope} (h : capFB N sc is tb Lt = true) (hN : X.N = N) (hs : X.env.scope = sc) (hfn : X.fn = fun _ => true) : CapF X is tb Lt (fun i => cloFrom X.env.cells (Lt i).scope.names []) :=
  ⟨fun x => by rw [hfn], fun _ _ => rfl, fun i hi => (capF_ok h i hi).1, fun i hi k n j e1 e2 => by
    rw [hN, hs]
    exact (capF_ok h i hi).2 k n j e1 e2⟩
section
variable {X : Cx} {B : Bs} {k : Nat} {f : Addr} {fd : FuncData} {ps : List Str} {sp : PSp} {x : Str} {p pos : Pos} {e : Expr} {es : List Expr} {as : DA} {is : List Nat} {tb : Nat → List Nat} {Lt : Nat → LamK} {Zt : Nat → List (Str × Addr)}
theorem fn_here {P : Program} {w : World} {K : PySem.W.Frag} {mg : Str → Option Value} {base : Heap} (Fn : FnOkG P w K mg base CX0 k f fd ps (lift K sp)) {A : Around} (hr0 : RoomG k A) :
    ∀ (outer : List Env) (s : Shared) (H : Hp) (args : Args) (us : List Value) (vs : List V) (Q : VK) (E : XK), Env0 P w K mg base A outer s H → BindsTo s fd args (ps.zip us) → Vals vs us → lift K sp vs H Q E → codeAny (model P w) A (.call (.ref f) args) (CR CX0 outer P w H s Q E) s :=
  fun outer s H args us vs Q E e0 hb r h => Fn.goes A hr0 outer s H e0 args us vs r hb Q E h
theorem q_callCG (Fn : FnOkG X.prog X.w X.K X.mg X.base CX0 k f fd ps (lift X.K sp)) (hr0 : RoomG k X.A) (hg : Gl X x) (hm : X.mg x = some (.ref f)) (hk : PySem.W.keepIn X.K (.ref f) = true) (hb : Binds X.K fd ps []) (CF : CapF X is tb Lt Zt)
    (ha : QA X B (e :: es) as) (hdb : (x == ("__debug__" : Str)) = false := by decide) (he : starEach (e :: es) X.env = (false, eval e X.env) :: starEach es X.env := by rfl) (hpl : (backTo pos (starEach es X.env)).any (·.1) = false := by rfl) :
    QE X B (.Call (.Name x p) (e :: es) [] pos) (dCallC sp is tb Lt Zt as) := q_callCr Fn.len (fun outer s H args us vs Q E => fn_here Fn hr0 outer s H args us vs Q E) hg hm hk hb CF ha hdb he hpl
end
section
variable {X : Cx} {B : Bs} {pos : Pos}
theorem q_dispE {k v : Expr} {dk dv : DE} (hk : ∀ B, QE X B k dk) (hv : ∀ B, QE X B v dv) : QN X B (.Dict [some k] [v] pos) (dDicE dk dv) :=
  PE.imp (pe_disp (pps_cons (pe_U hk) (pe_U hv) pps_nil) rfl rfl (fun z => by cases z) (Nat.le_of_ble_eq_true rfl)) fun σ H Q ⟨F, pa, t, env, P, C, h, kk⟩ => fun p hp => by
    have C0 := C.loose (.dK []) hp
    have n0 := C.nw hp
    refine ⟨_, F, pa, t, env, _, C0.block [], h, fun x z F1 pa1 t1 H1 g1 C1 r1 q1 => ⟨_, F1, pa1, t1, _, _, C1, q1, fun y z2 F2 pa2 t2 H2 g2 C2 r2 q2 => ?_⟩⟩
    obtain ⟨g, C3, n3, e3⟩ := C0.past n0 upd_same C2
    cases z with
    | int n =>
      have r1 : x = .int n := by unfold RelD at r1; exact r1
      subst r1
      refine ⟨e3, [(.inl n, y)], rfl, by simp, ?_⟩
      refine kk p _ (.dic [.inl n] [z2]) F2 pa2 t2 _ g (C3.write n3) n3 upd_same ?_ q2
      exact ⟨[y], rfl, rfl, RelL.cons r2 RelL.nil⟩
    | str s =>
      have r1 : x = .str s := by unfold RelD at r1; exact r1
      subst r1
      refine ⟨e3, [(.inr s, y)], rfl, by simp, ?_⟩
      refine kk p _ (.dic [.inr s] [z2]) F2 pa2 t2 _ g (C3.write n3) n3 upd_same ?_ q2
      exact ⟨[y], rfl, rfl, RelL.cons r2 RelL.nil⟩
    | _ => exact q2.elim
theorem rc_reprI {K : PySem.W.Frag} : RCall K (rReprD K) bReprI := fun B F pa t env σ H xs vs P Q W r h k => by
  unfold bReprI at h
  split at h
  · rename_i i
    obtain ⟨hz, h⟩ := h
    obtain ⟨v, rfl, r1⟩ := r.one
    have p1 : plain (.int i) = true := rfl
    have dp := dp_x W r1 p1
    have rz : rsOk (.int i) := hz
    have sz : rsz (.int i) ≤ sizeLine := by
      have e : rsz (.int i) = 1921 := rfl
      rw [e]
      decide
    refine ⟨v, toPy (.int i), rfl, dp, rs_show (.int i) p1 rz, PyData.hasDict_of_canLay _ (lay_toPy (.int i) p1), by rw [dep_toPy (.int i) p1]; exact Nat.zero_le _, Nat.le_trans (rs_len (.int i) p1 rz) sz, ?_⟩
    exact k (.str (toPy (.int i)).shown) (.str (toString i)) F H (Gr.refl _ _) W (rD_str _) h
  · exact h.elim
end
end Q
namespace Q
open PySem
def exprLams : Nat → Expr → List Expr
  | 0, _ => []
  | n + 1, e => match e with
    | .Lambda a b s p => [.Lambda a b s p]
    | .List es _ => es.flatMap (exprLams n)
    | .Tuple es _ _ => es.flatMap (exprLams n)
    | .Call f as ks _ => exprLams n f ++ as.flatMap (exprLams n) ++ ks.flatMap fun k => exprLams n k.value
    | .Compare l _ rs _ => exprLams n l ++ rs.flatMap (exprLams n)
    | .BoolOp _ vs _ => vs.flatMap (exprLams n)
    | .UnaryOp _ v _ => exprLams n v
    | .BinOp l _ r _ => exprLams n l ++ exprLams n r
    | .Subscript v i _ => exprLams n v ++ exprLams n i
    | .IfExp c a b _ => exprLams n a ++ exprLams n c ++ exprLams n b
    | _ => []
def stmtLams : Nat → Stmt → List Expr
  | 0, _ => []
  | n + 1, s => match s with
    | .Assign _ v _ => exprLams n v
    | .Expr v _ => exprLams n v
    | .Return (some v) _ => exprLams n v
    | .If c a b _ => exprLams n c ++ a.flatMap (stmtLams n) ++ b.flatMap (stmtLams n)
    | .For _ i b o _ => exprLams n i ++ b.flatMap (stmtLams n) ++ o.flatMap (stmtLams n)
    | .While c b o _ => exprLams n c ++ b.flatMap (stmtLams n) ++ o.flatMap (stmtLams n)
    | .FunctionDef (body := b) .. => b.flatMap (stmtLams n)
    | _ => []
def lamK (q : Str) : Option Expr → LamK
  | some (.Lambda a b s _) => ⟨q, a, b, s⟩
  | _ => ⟨q, { posonlyargs := [], args := [], vararg := none, kwonlyargs := [], kw_defaults := [], kwarg := none, defaults := [] }, .Constant .none 0 ⟨0, 0, 0, 0⟩, { kind := .function, names := [], isGenerator := false, isCoroutine := false, more := [] }⟩
end Q
namespace Q
open PySem
theorem kit_exm {K : PySem.W.Frag} {t c : Value} {b : Bool} (h : PySem.W.exmOne K t c = some b) (h2 : PySem.W.exmOne K c c = some true) : PySem.W.kitOne K t c = some b := by
  unfold PySem.W.kitOne
  cases e : (t == c) with
  | true =>
    have e := eq_of_beq e
    subst e
    rw [h] at h2
    rw [h2]
    rfl
  | false =>
    rw [if_neg (by simp)]
    unfold PySem.W.exmOne at h
    split at h
    · exact h
    · cases h
theorem exmAny2 {K : PySem.W.Frag} {t c1 c2 : Value} {b1 b2 : Bool} (h1 : PySem.W.exmOne K t c1 = some b1) (h2 : PySem.W.exmOne K t c2 = some b2) (h : (b1 || (b2 || false)) = true) : PySem.W.exmAny K t [c1, c2] = some true := by
  unfold PySem.W.exmAny PySem.W.exmAny PySem.W.exmAny
  rw [h1, h2, ← h]
end Q
namespace Q
theorem start0_all {N : List PySem.Str} {ls : List D} (h : ls.length = N.length) : start0 N ls = ls.map Sl.val := by
  unfold start0
  rw [h]
  simp
end Q
/-! T_k52 -/
namespace L_k52
open PySem L2 PyProof.Rows Q
def top (i : Nat) : Stmt := PySem.Challenge.pw_askback_k52_sayings_refused_first.main.body.getD i (.Pass ⟨0, 0, 0, 0⟩)
abbrev s__law_calls : Stmt := top 106
abbrev N__law_calls : List Str := ["_law_k", "_law_some", "_law_fine"]
abbrev s__law_draw : Stmt := top 103
abbrev N__law_draw : List Str := ["_law_pen_here", "_law_many", "_law_at", "_law_cell", "_law_number", "_law_lap", "_law_digit"]
abbrev s__law_handed : Stmt := top 105
abbrev N__law_handed : List Str := ["_law_pen_here", "_law_some"]
abbrev s__law_pick : Stmt := top 104
abbrev N__law_pick : List Str := ["_law_pen_here", "_law_some"]
abbrev s__law_odd_6 : Stmt := top 108
abbrev N__law_odd_6 : List Str := ["_law_pen_here", "_law_word", "_law_some", "_law_spot", "_law_number"]
abbrev s__law_pen : Stmt := top 102
abbrev N__law_pen : List Str := ["_law_script", "_law_most", "_law_cell"]
abbrev s_is_whole : Stmt := top 29
abbrev N_is_whole : List Str := ["thing"]
abbrev s_is_base : Stmt := top 31
abbrev N_is_base : List Str := ["thing"]
abbrev s_BadHouse___init__ : Stmt := inClass (top 21) 0
abbrev N_BadHouse___init__ : List Str := ["self", "part"]
abbrev s_need_base_2 : Stmt := top 39
abbrev N_need_base_2 : List Str := ["k"]
abbrev s_is_listing : Stmt := top 32
abbrev N_is_listing : List Str := ["thing"]
abbrev s_is_count : Stmt := top 30
abbrev N_is_count : List Str := ["thing"]
abbrev s_is_saying_a : Stmt := top 38
abbrev N_is_saying_a : List Str := ["thing"]
abbrev s_BadSaying___init__ : Stmt := inClass (top 22) 0
abbrev N_BadSaying___init__ : List Str := ["self", "place"]
abbrev s_need_sayings_3 : Stmt := top 40
abbrev N_need_sayings_3 : List Str := ["sayings", "place", "saying"]
abbrev s_reaches_3 : Stmt := top 46
abbrev N_reaches_3 : List Str := ["k", "sayings"]
abbrev s_least_house_2 : Stmt := top 49
abbrev N_least_house_2 : List Str := ["k", "sayings", "reach"]
abbrev s_need_one_more_2 : Stmt := top 41
abbrev N_need_one_more_2 : List Str := ["sayings", "saying"]
abbrev s_shows_follows_3 : Stmt := top 68
abbrev N_shows_follows_3 : List Str := ["k", "sayings", "saying", "paper", "other", "word", "thing"]
abbrev s_may_be_4 : Stmt := top 71
abbrev N_may_be_4 : List Str := ["k", "sayings", "place", "reach", "stretch", "least"]
abbrev s_how_many_2 : Stmt := top 79
abbrev N_how_many_2 : List Str := ["k", "sayings", "reach", "lows", "highs"]
abbrev s_nth_house_2 : Stmt := top 82
abbrev N_nth_house_2 : List Str := ["k", "sayings", "reach", "place", "lows", "highs", "sums", "left", "here", "low"]
abbrev s_bar_of_4 : Stmt := top 58
abbrev N_bar_of_4 : List Str := ["k", "sayings", "reach"]
abbrev s_blame_3 : Stmt := top 100
abbrev N_blame_3 : List Str := ["k", "sayings", "bar", "place", "others", "one"]
abbrev s_need_house_3 : Stmt := top 62
abbrev N_need_house_3 : List Str := ["k", "sayings", "ties"]
abbrev s_core_3 : Stmt := top 74
abbrev N_core_3 : List Str := ["k", "sayings", "left", "place", "others", "one"]
abbrev s_mend_2 : Stmt := top 91
abbrev N_mend_2 : List Str := ["k", "sayings", "reach", "prices"]
abbrev s_shows_mend_2 : Stmt := top 95
abbrev N_shows_mend_2 : List Str := ["k", "sayings", "reach", "thing", "prices"]
abbrev s_least_mend_2 : Stmt := top 97
abbrev N_least_mend_2 : List Str := ["k", "sayings", "prices", "worth", "some", "least", "reach", "price", "tie"]
abbrev s_greatest_house_2 : Stmt := top 50
abbrev N_greatest_house_2 : List Str := ["k", "sayings", "reach"]
abbrev s_follows_3 : Stmt := top 67
abbrev N_follows_3 : List Str := ["k", "sayings", "saying", "other", "more", "bar", "reach"]
abbrev s_which_2 : Stmt := top 99
abbrev N_which_2 : List Str := ["sayings", "most", "found", "k", "stretch"]
abbrev s_keeps_2 : Stmt := top 43
abbrev N_keeps_2 : List Str := ["house", "saying"]
abbrev s_is_beginning : Stmt := top 34
abbrev N_is_beginning : List Str := ["base", "thing", "many"]
abbrev s_House___init__ : Stmt := inClass (top 36) 0
abbrev N_House___init__ : List Str := ["self", "k", "beginning", "many"]
abbrev s_shows_bar_2 : Stmt := top 61
abbrev N_shows_bar_2 : List Str := ["k", "sayings", "thing", "reach"]
abbrev s_least_by : Stmt := top 13
abbrev N_least_by : List Str := ["tie"]
abbrev s_strongest_below : Stmt := top 54
abbrev N_strongest_below : List Str := ["ties", "tie"]
abbrev s_why_least_2 : Stmt := top 63
abbrev N_why_least_2 : List Str := ["k", "sayings", "tie"]
abbrev s_greatest_by : Stmt := top 14
abbrev N_greatest_by : List Str := ["tie"]
abbrev s_strongest_above : Stmt := top 55
abbrev N_strongest_above : List Str := ["ties", "tie"]
abbrev s_why_greatest_2 : Stmt := top 64
abbrev N_why_greatest_2 : List Str := ["k", "sayings", "tie"]
abbrev s__law_refused_2 : Stmt := top 107
abbrev N__law_refused_2 : List Str := ["_law_call", "_law_wrong", "e"]
abbrev s_law : Stmt := top 109
abbrev N_law : List Str := ["_law_script", "_law_pen_here", "_law_turn", "_law_k", "_law_bent", "_law_other", "_law_none", "_law_call", "_law_base", "_law_some", "_law_at", "_law_odd_here", "_law_word", "_law_spot"]
def LtK : Nat → LamK := fun n => match n with
  | 0 => lamK ((envOfC "_law_calls" (defScope s__law_calls) 0 0 (.ref 0)).qual ++ "<lambda>") (stmtLams 40 s__law_calls)[0]?
  | 1 => lamK ((envOfC "_law_calls" (defScope s__law_calls) 0 0 (.ref 0)).qual ++ "<lambda>") (stmtLams 40 s__law_calls)[1]?
  | 2 => lamK ((envOfC "_law_calls" (defScope s__law_calls) 0 0 (.ref 0)).qual ++ "<lambda>") (stmtLams 40 s__law_calls)[2]?
  | 3 => lamK ((envOfC "_law_calls" (defScope s__law_calls) 0 0 (.ref 0)).qual ++ "<lambda>") (stmtLams 40 s__law_calls)[3]?
  | 4 => lamK ((envOfC "_law_calls" (defScope s__law_calls) 0 0 (.ref 0)).qual ++ "<lambda>") (stmtLams 40 s__law_calls)[4]?
  | 5 => lamK ((envOfC "_law_calls" (defScope s__law_calls) 0 0 (.ref 0)).qual ++ "<lambda>") (stmtLams 40 s__law_calls)[5]?
  | 6 => lamK ((envOfC "_law_calls" (defScope s__law_calls) 0 0 (.ref 0)).qual ++ "<lambda>") (stmtLams 40 s__law_calls)[6]?
  | 7 => lamK ((envOfC "_law_calls" (defScope s__law_calls) 0 0 (.ref 0)).qual ++ "<lambda>") (stmtLams 40 s__law_calls)[7]?
  | 8 => lamK ((envOfC "_law_calls" (defScope s__law_calls) 0 0 (.ref 0)).qual ++ "<lambda>") (stmtLams 40 s__law_calls)[8]?
  | 9 => lamK ((envOfC "_law_calls" (defScope s__law_calls) 0 0 (.ref 0)).qual ++ "<lambda>") (stmtLams 40 s__law_calls)[9]?
  | 10 => lamK ((envOfC "_law_calls" (defScope s__law_calls) 0 0 (.ref 0)).qual ++ "<lambda>") (stmtLams 40 s__law_calls)[10]?
  | 11 => lamK ((envOfC "_law_calls" (defScope s__law_calls) 0 0 (.ref 0)).qual ++ "<lambda>") (stmtLams 40 s__law_calls)[11]?
  | 12 => lamK ((envOfC "_law_calls" (defScope s__law_calls) 0 0 (.ref 0)).qual ++ "<lambda>") (stmtLams 40 s__law_calls)[12]?
  | 13 => lamK ((envOfC "_law_calls" (defScope s__law_calls) 0 0 (.ref 0)).qual ++ "<lambda>") (stmtLams 40 s__law_calls)[13]?
  | 14 => lamK ((envOfC "_law_calls" (defScope s__law_calls) 0 0 (.ref 0)).qual ++ "<lambda>") (stmtLams 40 s__law_calls)[14]?
  | 15 => lamK ((envOfC "_law_calls" (defScope s__law_calls) 0 0 (.ref 0)).qual ++ "<lambda>") (stmtLams 40 s__law_calls)[15]?
  | 16 => lamK ((envOfC "_law_calls" (defScope s__law_calls) 0 0 (.ref 0)).qual ++ "<lambda>") (stmtLams 40 s__law_calls)[16]?
  | 17 => lamK ((envOfC "_law_calls" (defScope s__law_calls) 0 0 (.ref 0)).qual ++ "<lambda>") (stmtLams 40 s__law_calls)[17]?
  | 18 => lamK ((envOfC "_law_calls" (defScope s__law_calls) 0 0 (.ref 0)).qual ++ "<lambda>") (stmtLams 40 s__law_calls)[18]?
  | 19 => lamK ((envOfC "_law_calls" (defScope s__law_calls) 0 0 (.ref 0)).qual ++ "<lambda>") (stmtLams 40 s__law_calls)[19]?
  | 20 => lamK ((envOfC "law" (defScope s_law) 0 0 (.ref 0)).qual ++ "<lambda>") (stmtLams 40 s_law)[0]?
  | 21 => lamK ((envOfC "law" (defScope s_law) 0 0 (.ref 0)).qual ++ "<lambda>") (stmtLams 40 s_law)[1]?
  | 22 => lamK ((envOfC "law" (defScope s_law) 0 0 (.ref 0)).qual ++ "<lambda>") (stmtLams 40 s_law)[2]?
  | 23 => lamK ((envOfC "law" (defScope s_law) 0 0 (.ref 0)).qual ++ "<lambda>") (stmtLams 40 s_law)[3]?
  | 24 => lamK ((envOfC "law" (defScope s_law) 0 0 (.ref 0)).qual ++ "<lambda>") (stmtLams 40 s_law)[4]?
  | 25 => lamK ((envOfC "law" (defScope s_law) 0 0 (.ref 0)).qual ++ "<lambda>") (stmtLams 40 s_law)[5]?
  | 26 => lamK ((envOfC "law" (defScope s_law) 0 0 (.ref 0)).qual ++ "<lambda>") (stmtLams 40 s_law)[6]?
  | 27 => lamK ((envOfC "law" (defScope s_law) 0 0 (.ref 0)).qual ++ "<lambda>") (stmtLams 40 s_law)[7]?
  | _ => lamK "" none
def xad (a_BadHouse a_BadSaying : Addr) : Nat → Addr := fun n => match n with
  | 0 => a_BadHouse
  | 2 => a_BadSaying
  | _ => 0
def xcl (a_BadHouse a_BadSaying : Addr) : XCl := fun c => match c with
  | .BadHouse => some (a_BadHouse, some "part")
  | .BadSaying => some (a_BadSaying, some "place")
  | _ => none
structure Tx (K : PySem.W.Frag) (mg : Str → Option Value) (a__law_calls a__law_draw a__law_handed a__law_pick a__law_odd_6 a__law_pen a_is_whole a_is_base a_BadHouse___init__ a_need_base_2 a_is_listing a_is_count a_is_saying_a a_BadSaying___init__ a_need_sayings_3 a_reaches_3 a_least_house_2 a_need_one_more_2 a_shows_follows_3 a_may_be_4 a_how_many_2 a_nth_house_2 a_bar_of_4 a_blame_3 a_need_house_3 a_core_3 a_mend_2 a_shows_mend_2 a_least_mend_2 a_greatest_house_2 a_follows_3 a_which_2 a_keeps_2 a_is_beginning a_House___init__ a_shows_bar_2 a_least_by a_strongest_below a_why_least_2 a_greatest_by a_strongest_above a_why_greatest_2 a__law_refused_2 a_law a_House a_BadHouse a_BadSaying : Addr) (tk_LEAST_BASE tk_MOST_BASE : Tok) : Prop where
  b_ValueError : mg "ValueError" = none
  b_abs : mg "abs" = none
  b_all : mg "all" = none
  b_bool : mg "bool" = none
  b_enumerate : mg "enumerate" = none
  b_int : mg "int" = none
  b_isinstance : mg "isinstance" = none
  b_len : mg "len" = none
  b_list : mg "list" = none
  b_max : mg "max" = none
  b_min : mg "min" = none
  b_range : mg "range" = none
  b_repr : mg "repr" = none
  b_str : mg "str" = none
  b_tuple : mg "tuple" = none
  c_LEAST_BASE : mg "LEAST_BASE" = some (Value.int 2 tk_LEAST_BASE)
  c_MOST_BASE : mg "MOST_BASE" = some (Value.int 30 tk_MOST_BASE)
  g__law_calls : mg "_law_calls" = some (.ref a__law_calls)
  k__law_calls : PySem.W.keepIn K (.ref a__law_calls) = true
  g__law_draw : mg "_law_draw" = some (.ref a__law_draw)
  k__law_draw : PySem.W.keepIn K (.ref a__law_draw) = true
  g__law_handed : mg "_law_handed" = some (.ref a__law_handed)
  k__law_handed : PySem.W.keepIn K (.ref a__law_handed) = true
  g__law_pick : mg "_law_pick" = some (.ref a__law_pick)
  k__law_pick : PySem.W.keepIn K (.ref a__law_pick) = true
  g__law_odd_6 : mg "_law_odd" = some (.ref a__law_odd_6)
  k__law_odd_6 : PySem.W.keepIn K (.ref a__law_odd_6) = true
  g__law_pen : mg "_law_pen" = some (.ref a__law_pen)
  k__law_pen : PySem.W.keepIn K (.ref a__law_pen) = true
  g_is_whole : mg "is_whole" = some (.ref a_is_whole)
  k_is_whole : PySem.W.keepIn K (.ref a_is_whole) = true
  g_is_base : mg "is_base" = some (.ref a_is_base)
  k_is_base : PySem.W.keepIn K (.ref a_is_base) = true
  g_need_base_2 : mg "need_base" = some (.ref a_need_base_2)
  k_need_base_2 : PySem.W.keepIn K (.ref a_need_base_2) = true
  g_is_listing : mg "is_listing" = some (.ref a_is_listing)
  k_is_listing : PySem.W.keepIn K (.ref a_is_listing) = true
  g_is_count : mg "is_count" = some (.ref a_is_count)
  k_is_count : PySem.W.keepIn K (.ref a_is_count) = true
  g_is_saying_a : mg "is_saying" = some (.ref a_is_saying_a)
  k_is_saying_a : PySem.W.keepIn K (.ref a_is_saying_a) = true
  g_need_sayings_3 : mg "need_sayings" = some (.ref a_need_sayings_3)
  k_need_sayings_3 : PySem.W.keepIn K (.ref a_need_sayings_3) = true
  g_reaches_3 : mg "reaches" = some (.ref a_reaches_3)
  k_reaches_3 : PySem.W.keepIn K (.ref a_reaches_3) = true
  g_least_house_2 : mg "least_house" = some (.ref a_least_house_2)
  k_least_house_2 : PySem.W.keepIn K (.ref a_least_house_2) = true
  g_need_one_more_2 : mg "need_one_more" = some (.ref a_need_one_more_2)
  k_need_one_more_2 : PySem.W.keepIn K (.ref a_need_one_more_2) = true
  g_shows_follows_3 : mg "shows_follows" = some (.ref a_shows_follows_3)
  k_shows_follows_3 : PySem.W.keepIn K (.ref a_shows_follows_3) = true
  g_may_be_4 : mg "may_be" = some (.ref a_may_be_4)
  k_may_be_4 : PySem.W.keepIn K (.ref a_may_be_4) = true
  g_how_many_2 : mg "how_many" = some (.ref a_how_many_2)
  k_how_many_2 : PySem.W.keepIn K (.ref a_how_many_2) = true
  g_nth_house_2 : mg "nth_house" = some (.ref a_nth_house_2)
  k_nth_house_2 : PySem.W.keepIn K (.ref a_nth_house_2) = true
  g_bar_of_4 : mg "bar_of" = some (.ref a_bar_of_4)
  k_bar_of_4 : PySem.W.keepIn K (.ref a_bar_of_4) = true
  g_blame_3 : mg "blame" = some (.ref a_blame_3)
  k_blame_3 : PySem.W.keepIn K (.ref a_blame_3) = true
  g_need_house_3 : mg "need_house" = some (.ref a_need_house_3)
  k_need_house_3 : PySem.W.keepIn K (.ref a_need_house_3) = true
  g_core_3 : mg "core" = some (.ref a_core_3)
  k_core_3 : PySem.W.keepIn K (.ref a_core_3) = true
  g_mend_2 : mg "mend" = some (.ref a_mend_2)
  k_mend_2 : PySem.W.keepIn K (.ref a_mend_2) = true
  g_shows_mend_2 : mg "shows_mend" = some (.ref a_shows_mend_2)
  k_shows_mend_2 : PySem.W.keepIn K (.ref a_shows_mend_2) = true
  g_least_mend_2 : mg "least_mend" = some (.ref a_least_mend_2)
  k_least_mend_2 : PySem.W.keepIn K (.ref a_least_mend_2) = true
  g_greatest_house_2 : mg "greatest_house" = some (.ref a_greatest_house_2)
  k_greatest_house_2 : PySem.W.keepIn K (.ref a_greatest_house_2) = true
  g_follows_3 : mg "follows" = some (.ref a_follows_3)
  k_follows_3 : PySem.W.keepIn K (.ref a_follows_3) = true
  g_which_2 : mg "which" = some (.ref a_which_2)
  k_which_2 : PySem.W.keepIn K (.ref a_which_2) = true
  g_keeps_2 : mg "keeps" = some (.ref a_keeps_2)
  k_keeps_2 : PySem.W.keepIn K (.ref a_keeps_2) = true
  g_is_beginning : mg "is_beginning" = some (.ref a_is_beginning)
  k_is_beginning : PySem.W.keepIn K (.ref a_is_beginning) = true
  g_shows_bar_2 : mg "shows_bar" = some (.ref a_shows_bar_2)
  k_shows_bar_2 : PySem.W.keepIn K (.ref a_shows_bar_2) = true
  g_least_by : mg "least_by" = some (.ref a_least_by)
  k_least_by : PySem.W.keepIn K (.ref a_least_by) = true
  g_strongest_below : mg "strongest_below" = some (.ref a_strongest_below)
  k_strongest_below : PySem.W.keepIn K (.ref a_strongest_below) = true
  g_why_least_2 : mg "why_least" = some (.ref a_why_least_2)
  k_why_least_2 : PySem.W.keepIn K (.ref a_why_least_2) = true
  g_greatest_by : mg "greatest_by" = some (.ref a_greatest_by)
  k_greatest_by : PySem.W.keepIn K (.ref a_greatest_by) = true
  g_strongest_above : mg "strongest_above" = some (.ref a_strongest_above)
  k_strongest_above : PySem.W.keepIn K (.ref a_strongest_above) = true
  g_why_greatest_2 : mg "why_greatest" = some (.ref a_why_greatest_2)
  k_why_greatest_2 : PySem.W.keepIn K (.ref a_why_greatest_2) = true
  g__law_refused_2 : mg "_law_refused" = some (.ref a__law_refused_2)
  k__law_refused_2 : PySem.W.keepIn K (.ref a__law_refused_2) = true
  g_law : mg "law" = some (.ref a_law)
  k_law : PySem.W.keepIn K (.ref a_law) = true
  g_House : mg "House" = some (.ref a_House)
  cl_House : Cls K a_House
  n_House_kept_base : NoAttr K a_House "kept_base"
  n_House_kept_beginning : NoAttr K a_House "kept_beginning"
  n_House_sums : NoAttr K a_House "sums"
  mk_House : Mk K a_House a_House___init__
  g_BadHouse : mg "BadHouse" = some (.ref a_BadHouse)
  fx_BadHouse : FxC K a_BadHouse "ValueError.__new__" vaTail
  in_BadHouse : PySem.W.findIn K (.ref a_BadHouse) "__init__" = some (some (.ref a_BadHouse___init__))
  ty_BadHouse : PySem.W.typeIn K (.ref a_BadHouse___init__) = some (.type "function")
  no_BadHouse : PySem.W.findIn K (.ref a_BadHouse) "part" = some none
  te_BadHouse : PySem.W.exmOne K (.ref a_BadHouse) (.ref a_BadHouse) = some true
  kt_BadHouse : PySem.W.kitOne K (.ref a_BadHouse) (.type "ValueError") = some true
  ex_BadHouse : ExcC K a_BadHouse
  g_BadSaying : mg "BadSaying" = some (.ref a_BadSaying)
  fx_BadSaying : FxC K a_BadSaying "ValueError.__new__" vaTail
  in_BadSaying : PySem.W.findIn K (.ref a_BadSaying) "__init__" = some (some (.ref a_BadSaying___init__))
  ty_BadSaying : PySem.W.typeIn K (.ref a_BadSaying___init__) = some (.type "function")
  no_BadSaying : PySem.W.findIn K (.ref a_BadSaying) "place" = some none
  te_BadSaying : PySem.W.exmOne K (.ref a_BadSaying) (.ref a_BadSaying) = some true
  kt_BadSaying : PySem.W.kitOne K (.ref a_BadSaying) (.type "ValueError") = some true
  ex_BadSaying : ExcC K a_BadSaying
  tx_BadHouse : ∀ c C fl, (xcl a_BadHouse a_BadSaying) c = some (C, fl) → PySem.W.exmOne K (.ref C) (.ref a_BadHouse) = some (Xn.is c .BadHouse)
  tx_BadSaying : ∀ c C fl, (xcl a_BadHouse a_BadSaying) c = some (C, fl) → PySem.W.exmOne K (.ref C) (.ref a_BadSaying) = some (Xn.is c .BadSaying)
  ki_BadHouse_ValueError : PySem.W.kitOne K (.ref a_BadHouse) (.type "ValueError") = some true
  ki_BadSaying_ValueError : PySem.W.kitOne K (.ref a_BadSaying) (.type "ValueError") = some true
  vF_ValueError : PySem.W.findCls K (.type "ValueError") (.type "type") "__init__" = some (.val (.builtin "ValueError.__init__"))
section
variable {P : Program} {w : World} {K : PySem.W.Frag} {mg : Str → Option Value} {base : Heap} {a__law_calls a__law_draw a__law_handed a__law_pick a__law_odd_6 a__law_pen a_is_whole a_is_base a_BadHouse___init__ a_need_base_2 a_is_listing a_is_count a_is_saying_a a_BadSaying___init__ a_need_sayings_3 a_reaches_3 a_least_house_2 a_need_one_more_2 a_shows_follows_3 a_may_be_4 a_how_many_2 a_nth_house_2 a_bar_of_4 a_blame_3 a_need_house_3 a_core_3 a_mend_2 a_shows_mend_2 a_least_mend_2 a_greatest_house_2 a_follows_3 a_which_2 a_keeps_2 a_is_beginning a_House___init__ a_shows_bar_2 a_least_by a_strongest_below a_why_least_2 a_greatest_by a_strongest_above a_why_greatest_2 a__law_refused_2 a_law a_House a_BadHouse a_BadSaying : Addr} {tk_LEAST_BASE tk_MOST_BASE : Tok}
theorem sc__law_calls : FnScope N__law_calls ["_law_k", "_law_some"] (defScope s__law_calls) := ⟨rfl, rfl, rfl, by decide +kernel, rfl, by decide +kernel, by decide +kernel⟩
theorem ok__law_calls  {cA0 Pt0 : Addr} {kV doc pm ct oc : Value} {an od : Option Addr} {osl : Array (Option Value)} (lk : K.lookup a__law_calls = some ⟨oc, od, .func (PySem.W.fnOf "_law_calls" "_law_calls" (defArgs s__law_calls) (defBody s__law_calls) (defScope s__law_calls) .none kV doc pm an (.ref cA0) ct), osl⟩) (hcd : PySem.W.codeIn K (.ref cA0) "_law_calls" = true) (TB : LamX.TabB base mg cA0 Pt0) (T : Tx K mg a__law_calls a__law_draw a__law_handed a__law_pick a__law_odd_6 a__law_pen a_is_whole a_is_base a_BadHouse___init__ a_need_base_2 a_is_listing a_is_count a_is_saying_a a_BadSaying___init__ a_need_sayings_3 a_reaches_3 a_least_house_2 a_need_one_more_2 a_shows_follows_3 a_may_be_4 a_how_many_2 a_nth_house_2 a_bar_of_4 a_blame_3 a_need_house_3 a_core_3 a_mend_2 a_shows_mend_2 a_least_mend_2 a_greatest_house_2 a_follows_3 a_which_2 a_keeps_2 a_is_beginning a_House___init__ a_shows_bar_2 a_least_by a_strongest_below a_why_least_2 a_greatest_by a_strongest_above a_why_greatest_2 a__law_refused_2 a_law a_House a_BadHouse a_BadSaying tk_LEAST_BASE tk_MOST_BASE) : FnOk P w K mg base CX0 1 a__law_calls (PySem.W.fnOf "_law_calls" "_law_calls" (defArgs s__law_calls) (defBody s__law_calls) (defScope s__law_calls) .none kV doc pm an (.ref cA0) ct) ["_law_k", "_law_some"] (liftT K Pt0 ((envOfC "_law_calls" (defScope s__law_calls) 0 a__law_calls (.ref cA0)).qual ++ "<lambda>") (sp__law_calls LtK)) := by
  refine fn_okTC (q0 := ((envOfC "_law_calls" (defScope s__law_calls) 0 a__law_calls (.ref cA0)).qual ++ "<lambda>")) (is := [0, 1, 2, 3, 4, 5, 6, 7, 8, 9, 10, 11, 12, 13, 14, 15, 16, 17, 18, 19]) (tb := d_tb) (Lt := LtK) (ds := d__law_calls LtK) lk hcd sc__law_calls (len__law_calls LtK) (capF_ok (N := N__law_calls) (sc := defScope s__law_calls) (by decide +kernel)) (fun A outer s H E B R hr hB hm hT => ?_) (d__law_calls_ok LtK)
  exact (q_rcons (q_set (i := 2) sc__law_calls.nd rfl (Or.inr rfl) (q_tup (q_acons q_str (q_acons q_int (q_acons q_int q_anil))))) (q_rret (toE (q_lst (q_acons (q_lam (i := 0) (L := LtK 0) hT TB rfl (LamX.lamS_by (sc := defScope s__law_calls) (by decide +kernel)) rfl (by kernel_rfl) rfl) (q_acons (q_lam (i := 1) (L := LtK 1) hT TB rfl (LamX.lamS_by (sc := defScope s__law_calls) (by decide +kernel)) rfl (by kernel_rfl) rfl) (q_acons (q_lam (i := 2) (L := LtK 2) hT TB rfl (LamX.lamS_by (sc := defScope s__law_calls) (by decide +kernel)) rfl (by kernel_rfl) rfl) (q_acons (q_lam (i := 3) (L := LtK 3) hT TB rfl (LamX.lamS_by (sc := defScope s__law_calls) (by decide +kernel)) rfl (by kernel_rfl) rfl) (q_acons (q_lam (i := 4) (L := LtK 4) hT TB rfl (LamX.lamS_by (sc := defScope s__law_calls) (by decide +kernel)) rfl (by kernel_rfl) rfl) (q_acons (q_lam (i := 5) (L := LtK 5) hT TB rfl (LamX.lamS_by (sc := defScope s__law_calls) (by decide +kernel)) rfl (by kernel_rfl) rfl) (q_acons (q_lam (i := 6) (L := LtK 6) hT TB rfl (LamX.lamS_by (sc := defScope s__law_calls) (by decide +kernel)) rfl (by kernel_rfl) rfl) (q_acons (q_lam (i := 7) (L := LtK 7) hT TB rfl (LamX.lamS_by (sc := defScope s__law_calls) (by decide +kernel)) rfl (by kernel_rfl) rfl) (q_acons (q_lam (i := 8) (L := LtK 8) hT TB rfl (LamX.lamS_by (sc := defScope s__law_calls) (by decide +kernel)) rfl (by kernel_rfl) rfl) (q_acons (q_lam (i := 9) (L := LtK 9) hT TB rfl (LamX.lamS_by (sc := defScope s__law_calls) (by decide +kernel)) rfl (by kernel_rfl) rfl) (q_acons (q_lam (i := 10) (L := LtK 10) hT TB rfl (LamX.lamS_by (sc := defScope s__law_calls) (by decide +kernel)) rfl (by kernel_rfl) rfl) (q_acons (q_lam (i := 11) (L := LtK 11) hT TB rfl (LamX.lamS_by (sc := defScope s__law_calls) (by decide +kernel)) rfl (by kernel_rfl) rfl) (q_acons (q_lam (i := 12) (L := LtK 12) hT TB rfl (LamX.lamS_by (sc := defScope s__law_calls) (by decide +kernel)) rfl (by kernel_rfl) rfl) (q_acons (q_lam (i := 13) (L := LtK 13) hT TB rfl (LamX.lamS_by (sc := defScope s__law_calls) (by decide +kernel)) rfl (by kernel_rfl) rfl) (q_acons (q_lam (i := 14) (L := LtK 14) hT TB rfl (LamX.lamS_by (sc := defScope s__law_calls) (by decide +kernel)) rfl (by kernel_rfl) rfl) (q_acons (q_lam (i := 15) (L := LtK 15) hT TB rfl (LamX.lamS_by (sc := defScope s__law_calls) (by decide +kernel)) rfl (by kernel_rfl) rfl) (q_acons (q_lam (i := 16) (L := LtK 16) hT TB rfl (LamX.lamS_by (sc := defScope s__law_calls) (by decide +kernel)) rfl (by kernel_rfl) rfl) (q_acons (q_lam (i := 17) (L := LtK 17) hT TB rfl (LamX.lamS_by (sc := defScope s__law_calls) (by decide +kernel)) rfl (by kernel_rfl) rfl) (q_acons (q_lam (i := 18) (L := LtK 18) hT TB rfl (LamX.lamS_by (sc := defScope s__law_calls) (by decide +kernel)) rfl (by kernel_rfl) rfl) (q_acons (q_lam (i := 19) (L := LtK 19) hT TB rfl (LamX.lamS_by (sc := defScope s__law_calls) (by decide +kernel)) rfl (by kernel_rfl) rfl) q_anil))))))))))))))))))))))))
theorem sc__law_draw : FnScope N__law_draw ["_law_pen_here", "_law_many"] (defScope s__law_draw) := ⟨rfl, rfl, rfl, by decide +kernel, rfl, by decide +kernel, by decide +kernel⟩
theorem ok__law_draw {fd : FuncData} (F : Fun K "_law_draw" "_law_draw" s__law_draw a__law_draw fd) (T : Tx K mg a__law_calls a__law_draw a__law_handed a__law_pick a__law_odd_6 a__law_pen a_is_whole a_is_base a_BadHouse___init__ a_need_base_2 a_is_listing a_is_count a_is_saying_a a_BadSaying___init__ a_need_sayings_3 a_reaches_3 a_least_house_2 a_need_one_more_2 a_shows_follows_3 a_may_be_4 a_how_many_2 a_nth_house_2 a_bar_of_4 a_blame_3 a_need_house_3 a_core_3 a_mend_2 a_shows_mend_2 a_least_mend_2 a_greatest_house_2 a_follows_3 a_which_2 a_keeps_2 a_is_beginning a_House___init__ a_shows_bar_2 a_least_by a_strongest_below a_why_least_2 a_greatest_by a_strongest_above a_why_greatest_2 a__law_refused_2 a_law a_House a_BadHouse a_BadSaying tk_LEAST_BASE tk_MOST_BASE) : FnOk P w K mg base CX0 1 a__law_draw fd ["_law_pen_here", "_law_many"] (lift K (sp__law_draw)) := by
  refine fn_ok (ds := d__law_draw) F sc__law_draw (len__law_draw) (fun cdv A outer s H E B hr hB hm => ?_) (d__law_draw_ok)
  exact (q_cons (q_if (q_tcmp op_gt rop_gt (toV (q_penL (b := false) (hu_of hr) (toV (q_var (pv 0))) (by rfl) (fun _ _ => rfl))) (toV q_int) (nomark _)) (q_cons (q_set (i := 6) sc__law_draw.nd rfl (Or.inl rfl) (q_op op_mod rop_mod (toV (q_penL (b := false) (hu_of hr) (toV (q_var (pv 0))) (by rfl) (fun _ _ => rfl))) (toV (q_var (pv 1))))) (q_cons (q_putL (b := false) (i := 0) (hu_of hr) (pv 0) (q_op op_fdivW rop_div (toV (q_penL (b := false) (hu_of hr) (toV (q_var (pv 0))) (by rfl) (fun _ _ => rfl))) (toV (q_var (pv 1)))) (by rfl)) (q_cons (q_ret hm (q_var (pv 6))) q_nil))) q_nil) (q_cons (q_set (i := 2) sc__law_draw.nd rfl (Or.inl rfl) (q_penA (b := false) (hu_of hr) (toV (q_var (pv 0))) (by rfl) (fun _ _ => rfl))) (q_cons (q_putA (b := false) (i := 0) (hu_of hr) (pv 0) (q_op op_add4 rop_add (toV (q_var (pv 2))) (toV q_int)) (by rfl)) (q_cons (q_set (i := 3) sc__law_draw.nd rfl (Or.inl rfl) (q_op op_add4 rop_add (toV (q_op op_mul3 rop_mul (toV (q_var (pv 2))) (toV (q_var (pv 2))))) (toV q_int))) (q_cons (q_if (q_tcmp (op_neD hr.units) rop_ne (toV (q_penC (hu_of hr) (toV (q_var (pv 0))) (fun _ _ => rfl))) (toV (toE (q_lst q_anil))) (nomark _)) (q_cons (q_set (i := 3) sc__law_draw.nd rfl (Or.inl rfl) (q_ix (toV (q_penC (hu_of hr) (toV (q_var (pv 0))) (fun _ _ => rfl))) (toV (q_op op_mod rop_mod (toV (q_var (pv 2))) (toV (q_callB call_len3 rc_len (by rfl) T.b_len (by decide +kernel) (q_xcons (toV (q_penC (hu_of hr) (toV (q_var (pv 0))) (fun _ _ => rfl))) q_xnil))))) (fun _ _ => rfl))) q_nil) q_nil) (q_cons (q_if (L2.PW.pt (q_and (q_tcmp op_lt rop_lt (toV (q_var (pv 2))) (toV (q_callB call_len3 rc_len (by rfl) T.b_len (by decide +kernel) (q_xcons (toV (q_penC (hu_of hr) (toV (q_var (pv 0))) (fun _ _ => rfl))) q_xnil))) (nomark _)) (q_and1 (q_tcmp op_ge rop_ge (toV (q_var (pv 3))) (toV (q_op op_powW rop_pow (toV q_int) (toV q_int))) (nomark _))))) (q_cons (q_putL (b := false) (i := 0) (hu_of hr) (pv 0) (q_op op_fdivW rop_div (toV (q_var (pv 3))) (toV (q_var (pv 1)))) (by rfl)) (q_cons (q_ret hm (q_op op_mod rop_mod (toV (q_var (pv 3))) (toV (q_var (pv 1))))) q_nil)) q_nil) (q_cons (q_set (i := 4) sc__law_draw.nd rfl (Or.inl rfl) (q_op op_mod rop_mod (toV (q_op op_mul3 rop_mul (toV (q_op op_add4 rop_add (toV (q_op op_add4 rop_add (toV (q_op op_mod rop_mod (toV (q_var (pv 3))) (toV q_int))) (toV (q_op op_mul3 rop_mul (toV q_int) (toV (q_var (pv 2))))))) (toV q_int))) (toV q_int))) (toV q_int))) (q_cons (q_for PassesOwn.never rfl (q_irng1 (by rfl) T.b_range (toV q_int)) (q_gname (vs := [5]) (pg_name (i := 5) sc__law_draw.nd rfl (Or.inl rfl)) (by decide)) (q_cons (q_set (i := 4) sc__law_draw.nd rfl (Or.inl rfl) (q_op op_add4 rop_add (toV (q_op op_add4 rop_add (toV (q_op op_add4 rop_add (toV (q_op op_mul3 rop_mul (toV (q_var (pv 4))) (toV (q_var (pv 4))))) (toV (q_op op_mul3 rop_mul (toV q_int) (toV (q_var (pv 4))))))) (toV (q_var (pv 2))))) (toV (q_var (pv 5))))) (q_cons (q_set (i := 4) sc__law_draw.nd rfl (Or.inl rfl) (q_op op_mod rop_mod (toV (q_var (pv 4))) (toV q_int))) q_nil))) (q_cons (q_ret hm (q_op op_mod rop_mod (toV (q_op op_fdivW rop_div (toV (q_var (pv 4))) (toV q_int))) (toV (q_var (pv 1))))) q_nil)))))))))
theorem sc__law_handed : FnScope N__law_handed ["_law_pen_here", "_law_some"] (defScope s__law_handed) := ⟨rfl, rfl, rfl, by decide +kernel, rfl, by decide +kernel, by decide +kernel⟩
theorem ok__law_handed {fd fd__law_draw : FuncData} (F : Fun K "_law_handed" "_law_handed" s__law_handed a__law_handed fd) (T : Tx K mg a__law_calls a__law_draw a__law_handed a__law_pick a__law_odd_6 a__law_pen a_is_whole a_is_base a_BadHouse___init__ a_need_base_2 a_is_listing a_is_count a_is_saying_a a_BadSaying___init__ a_need_sayings_3 a_reaches_3 a_least_house_2 a_need_one_more_2 a_shows_follows_3 a_may_be_4 a_how_many_2 a_nth_house_2 a_bar_of_4 a_blame_3 a_need_house_3 a_core_3 a_mend_2 a_shows_mend_2 a_least_mend_2 a_greatest_house_2 a_follows_3 a_which_2 a_keeps_2 a_is_beginning a_House___init__ a_shows_bar_2 a_least_by a_strongest_below a_why_least_2 a_greatest_by a_strongest_above a_why_greatest_2 a__law_refused_2 a_law a_House a_BadHouse a_BadSaying tk_LEAST_BASE tk_MOST_BASE) (G__law_draw : FnOk P w K mg base CX0 1 a__law_draw fd__law_draw ["_law_pen_here", "_law_many"] (lift K (sp__law_draw))) (b__law_draw : Binds K fd__law_draw ["_law_pen_here", "_law_many"] []) : FnOk P w K mg base CX0 2 a__law_handed fd ["_law_pen_here", "_law_some"] (lift K (sp__law_handed)) := by
  refine fn_ok (ds := d__law_handed) F sc__law_handed (len__law_handed) (fun cdv A outer s H E B hr hB hm => ?_) (d__law_handed_ok)
  exact (q_cons (q_ret hm (q_ix (toV (toE (q_lst (q_acons (toE (q_callTyN call_list_of rc_list (by rfl) T.b_list (by decide +kernel) (q_xcons (toV (q_var (pv 1))) q_xnil))) (q_acons (q_callTy call_tuple_of rc_tuple (by rfl) T.b_tuple (by decide +kernel) (q_xcons (toV (q_var (pv 1))) q_xnil)) q_anil))))) (toV (q_call G__law_draw (hr.mono (by decide)) rfl T.g__law_draw T.k__law_draw b__law_draw .nil (fun _ _ => RelL.nil) pass0 (q_acons (q_var (pv 0)) (q_acons q_int q_anil)))) (fun _ _ => rfl))) q_nil)
theorem sc__law_pick : FnScope N__law_pick ["_law_pen_here", "_law_some"] (defScope s__law_pick) := ⟨rfl, rfl, rfl, by decide +kernel, rfl, by decide +kernel, by decide +kernel⟩
theorem ok__law_pick {fd fd__law_draw : FuncData} (F : Fun K "_law_pick" "_law_pick" s__law_pick a__law_pick fd) (T : Tx K mg a__law_calls a__law_draw a__law_handed a__law_pick a__law_odd_6 a__law_pen a_is_whole a_is_base a_BadHouse___init__ a_need_base_2 a_is_listing a_is_count a_is_saying_a a_BadSaying___init__ a_need_sayings_3 a_reaches_3 a_least_house_2 a_need_one_more_2 a_shows_follows_3 a_may_be_4 a_how_many_2 a_nth_house_2 a_bar_of_4 a_blame_3 a_need_house_3 a_core_3 a_mend_2 a_shows_mend_2 a_least_mend_2 a_greatest_house_2 a_follows_3 a_which_2 a_keeps_2 a_is_beginning a_House___init__ a_shows_bar_2 a_least_by a_strongest_below a_why_least_2 a_greatest_by a_strongest_above a_why_greatest_2 a__law_refused_2 a_law a_House a_BadHouse a_BadSaying tk_LEAST_BASE tk_MOST_BASE) (G__law_draw : FnOk P w K mg base CX0 1 a__law_draw fd__law_draw ["_law_pen_here", "_law_many"] (lift K (sp__law_draw))) (b__law_draw : Binds K fd__law_draw ["_law_pen_here", "_law_many"] []) : FnOk P w K mg base CX0 2 a__law_pick fd ["_law_pen_here", "_law_some"] (lift K (sp__law_pick)) := by
  refine fn_ok (ds := d__law_pick) F sc__law_pick (len__law_pick) (fun cdv A outer s H E B hr hB hm => ?_) (d__law_pick_ok)
  exact (q_cons (q_ret hm (q_ix (toV (q_var (pv 1))) (toV (q_call G__law_draw (hr.mono (by decide)) rfl T.g__law_draw T.k__law_draw b__law_draw .nil (fun _ _ => RelL.nil) pass0 (q_acons (q_var (pv 0)) (q_acons (q_callB call_len3 rc_len (by rfl) T.b_len (by decide +kernel) (q_xcons (toV (q_var (pv 1))) q_xnil)) q_anil)))) (fun _ _ => rfl))) q_nil)
theorem sc__law_odd_6 : FnScope N__law_odd_6 ["_law_pen_here"] (defScope s__law_odd_6) := ⟨rfl, rfl, rfl, by decide +kernel, rfl, by decide +kernel, by decide +kernel⟩
theorem ok__law_odd_6 {fd fd__law_draw fd__law_pick : FuncData} (F : Fun K "_law_odd" "_law_odd" s__law_odd_6 a__law_odd_6 fd) (T : Tx K mg a__law_calls a__law_draw a__law_handed a__law_pick a__law_odd_6 a__law_pen a_is_whole a_is_base a_BadHouse___init__ a_need_base_2 a_is_listing a_is_count a_is_saying_a a_BadSaying___init__ a_need_sayings_3 a_reaches_3 a_least_house_2 a_need_one_more_2 a_shows_follows_3 a_may_be_4 a_how_many_2 a_nth_house_2 a_bar_of_4 a_blame_3 a_need_house_3 a_core_3 a_mend_2 a_shows_mend_2 a_least_mend_2 a_greatest_house_2 a_follows_3 a_which_2 a_keeps_2 a_is_beginning a_House___init__ a_shows_bar_2 a_least_by a_strongest_below a_why_least_2 a_greatest_by a_strongest_above a_why_greatest_2 a__law_refused_2 a_law a_House a_BadHouse a_BadSaying tk_LEAST_BASE tk_MOST_BASE) (G__law_draw : FnOk P w K mg base CX0 1 a__law_draw fd__law_draw ["_law_pen_here", "_law_many"] (lift K (sp__law_draw))) (b__law_draw : Binds K fd__law_draw ["_law_pen_here", "_law_many"] []) (G__law_pick : FnOk P w K mg base CX0 2 a__law_pick fd__law_pick ["_law_pen_here", "_law_some"] (lift K (sp__law_pick))) (b__law_pick : Binds K fd__law_pick ["_law_pen_here", "_law_some"] []) : FnOk P w K mg base CX0 3 a__law_odd_6 fd ["_law_pen_here"] (lift K (sp__law_odd_6)) := by
  refine fn_ok (ds := d__law_odd_6) F sc__law_odd_6 (len__law_odd_6) (fun cdv A outer s H E B hr hB hm => ?_) (d__law_odd_6_ok)
  exact (q_cons (q_set (i := 1) sc__law_odd_6.nd rfl (Or.inl rfl) (q_call G__law_pick (hr.mono (by decide)) rfl T.g__law_pick T.k__law_pick b__law_pick .nil (fun _ _ => RelL.nil) pass0 (q_acons (q_var (pv 0)) (q_acons (toE (q_lst (q_acons q_str (q_acons q_str q_anil)))) q_anil)))) (q_cons (q_par (i := 3) (j := 4) rfl sc__law_odd_6.nd rfl rfl (by decide) rfl rfl (q_acons (q_op op_add4 rop_add (toV q_int) (toV (q_call G__law_draw (hr.mono (by decide)) rfl T.g__law_draw T.k__law_draw b__law_draw .nil (fun _ _ => RelL.nil) pass0 (q_acons (q_var (pv 0)) (q_acons q_int q_anil))))) (q_acons (q_op op_add4 rop_add (toV q_int) (toV (q_call G__law_draw (hr.mono (by decide)) rfl T.g__law_draw T.k__law_draw b__law_draw .nil (fun _ _ => RelL.nil) pass0 (q_acons (q_var (pv 0)) (q_acons q_int q_anil))))) q_anil)) (by rfl)) (q_cons (q_set (i := 2) sc__law_odd_6.nd rfl (Or.inl rfl) (toE (q_lst (q_acons q_non (q_acons q_bl (q_acons (q_var (pv 3)) (q_acons (q_var (pv 1)) (q_acons q_str (q_acons (q_tup q_anil) (q_acons (toE (q_lst q_anil)) (q_acons (toE q_dnew) (q_acons (q_tup (q_acons (q_var (pv 1)) q_anil)) (q_acons (q_tup (q_acons (q_var (pv 1)) (q_acons (q_var (pv 3)) q_anil))) (q_acons (q_tup (q_acons (q_var (pv 1)) (q_acons (q_var (pv 3)) (q_acons (q_var (pv 4)) (q_acons q_int q_anil))))) q_anil)))))))))))))) (q_cons (q_set (i := 2) sc__law_odd_6.nd rfl (Or.inl rfl) (q_op op_add4 rop_add (toV (q_var (pv 2))) (toV (toE (q_lst (q_acons (toE (q_lst (q_acons (q_var (pv 1)) (q_acons (q_var (pv 3)) (q_acons (q_var (pv 4)) q_anil))))) (q_acons (q_tup (q_acons (q_var (pv 1)) (q_acons q_int (q_acons (q_var (pv 4)) q_anil)))) (q_acons (q_tup (q_acons (q_var (pv 1)) (q_acons (q_var (pv 3)) (q_acons q_int q_anil)))) q_anil)))))))) (q_cons (q_set (i := 2) sc__law_odd_6.nd rfl (Or.inl rfl) (q_op op_add4 rop_add (toV (q_var (pv 2))) (toV (toE (q_lst (q_acons (q_tup (q_acons (q_var (pv 1)) (q_acons (q_un un_neg run_neg (toV (q_var (pv 3)))) (q_acons (q_var (pv 4)) q_anil)))) (q_acons (q_tup (q_acons (q_var (pv 1)) (q_acons (q_var (pv 3)) (q_acons (q_un un_neg run_neg (toV (q_var (pv 4)))) q_anil)))) (q_acons (q_tup (q_acons (q_var (pv 1)) (q_acons q_bl (q_acons (q_var (pv 4)) q_anil)))) q_anil)))))))) (q_cons (q_set (i := 2) sc__law_odd_6.nd rfl (Or.inl rfl) (q_op op_add4 rop_add (toV (q_var (pv 2))) (toV (toE (q_lst (q_acons (q_tup (q_acons (q_var (pv 1)) (q_acons (q_var (pv 3)) (q_acons q_bl q_anil)))) (q_acons (q_tup (q_acons (q_var (pv 1)) (q_acons (q_var (pv 3)) (q_acons q_non q_anil)))) q_anil))))))) (q_cons (q_set (i := 2) sc__law_odd_6.nd rfl (Or.inl rfl) (q_op op_add4 rop_add (toV (q_var (pv 2))) (toV (toE (q_lst (q_acons (q_tup (q_acons (q_var (pv 1)) (q_acons (q_callTy call_str_int rc_str (by rfl) T.b_str (by decide +kernel) (q_xcons (toV (q_var (pv 3))) q_xnil)) (q_acons (q_var (pv 4)) q_anil)))) (q_acons (q_tup (q_acons (q_var (pv 1)) (q_acons (q_var (pv 3)) (q_acons (q_callTy call_str_int rc_str (by rfl) T.b_str (by decide +kernel) (q_xcons (toV (q_var (pv 4))) q_xnil)) q_anil)))) (q_acons (q_tup (q_acons q_non (q_acons (q_var (pv 3)) (q_acons (q_var (pv 4)) q_anil)))) q_anil)))))))) (q_cons (q_set (i := 2) sc__law_odd_6.nd rfl (Or.inl rfl) (q_op op_add4 rop_add (toV (q_var (pv 2))) (toV (toE (q_lst (q_acons (q_tup (q_acons (q_var (pv 3)) (q_acons (q_var (pv 1)) (q_acons (q_var (pv 4)) q_anil)))) (q_acons (q_tup (q_acons (q_sliceS (toV (q_var (pv 1))) (q_osome (toV q_int)) q_onone) (q_acons (q_var (pv 3)) (q_acons (q_var (pv 4)) q_anil)))) (q_acons (q_tup (q_acons (q_op op_add4 rop_add (toV (q_var (pv 1))) (toV q_str)) (q_acons (q_var (pv 3)) (q_acons (q_var (pv 4)) q_anil)))) q_anil)))))))) (q_cons (q_set (i := 2) sc__law_odd_6.nd rfl (Or.inl rfl) (q_op op_add4 rop_add (toV (q_var (pv 2))) (toV (toE (q_lst (q_acons (q_tup (q_acons q_str (q_acons (q_var (pv 3)) (q_acons (q_var (pv 4)) q_anil)))) (q_acons (q_tup (q_acons (toE (q_lst (q_acons (q_var (pv 1)) q_anil))) (q_acons (q_var (pv 3)) (q_acons (q_var (pv 4)) q_anil)))) (q_acons (q_tup (q_acons (q_var (pv 1)) (q_acons (q_tup (q_acons (q_var (pv 3)) q_anil)) (q_acons (q_var (pv 4)) q_anil)))) q_anil)))))))) (q_cons (q_set (i := 2) sc__law_odd_6.nd rfl (Or.inl rfl) (q_op op_add4 rop_add (toV (q_var (pv 2))) (toV (toE (q_lst (q_acons (q_tup (q_acons (q_var (pv 1)) (q_acons (q_var (pv 3)) (q_acons (toE (q_lst (q_acons (q_var (pv 4)) q_anil))) q_anil)))) (q_acons (toE (q_dispE (fun B => (q_var (pv 1))) (fun B => (q_tup (q_acons (q_var (pv 3)) (q_acons (q_var (pv 4)) q_anil)))))) q_anil))))))) (q_cons (q_ret hm (q_call G__law_pick (hr.mono (by decide)) rfl T.g__law_pick T.k__law_pick b__law_pick .nil (fun _ _ => RelL.nil) pass0 (q_acons (q_var (pv 0)) (q_acons (q_var (pv 2)) q_anil)))) q_nil)))))))))))
theorem sc__law_pen : FnScope N__law_pen ["_law_script"] (defScope s__law_pen) := ⟨rfl, rfl, rfl, by decide +kernel, rfl, by decide +kernel, by decide +kernel⟩
theorem ok__law_pen {fd : FuncData} (F : Fun K "_law_pen" "_law_pen" s__law_pen a__law_pen fd) (T : Tx K mg a__law_calls a__law_draw a__law_handed a__law_pick a__law_odd_6 a__law_pen a_is_whole a_is_base a_BadHouse___init__ a_need_base_2 a_is_listing a_is_count a_is_saying_a a_BadSaying___init__ a_need_sayings_3 a_reaches_3 a_least_house_2 a_need_one_more_2 a_shows_follows_3 a_may_be_4 a_how_many_2 a_nth_house_2 a_bar_of_4 a_blame_3 a_need_house_3 a_core_3 a_mend_2 a_shows_mend_2 a_least_mend_2 a_greatest_house_2 a_follows_3 a_which_2 a_keeps_2 a_is_beginning a_House___init__ a_shows_bar_2 a_least_by a_strongest_below a_why_least_2 a_greatest_by a_strongest_above a_why_greatest_2 a__law_refused_2 a_law a_House a_BadHouse a_BadSaying tk_LEAST_BASE tk_MOST_BASE) : FnOk P w K mg base CX0 1 a__law_pen fd ["_law_script"] (liftN K (sp__law_pen)) := by
  refine fn_okN (ds := d__law_pen) F sc__law_pen (len__law_pen) (fun cdv A outer s H E B hr hB hm => ?_) (d__law_pen_ok)
  exact (q_cons (q_set (i := 1) sc__law_pen.nd rfl (Or.inr rfl) (q_op op_powW rop_pow (toV (q_op op_powW rop_pow (toV q_int) (toV q_int))) (toV q_int))) (q_cons (q_retNew hm (q_disp (q_pcons (fun B => (toE (q_lc (own := [("_law_cell", 2)]) rfl sc__law_pen.nd (q_iany (q_slice (toV (q_var (pv 0))) q_onone (q_osome (toV q_int)))) (blkOk_by (N := N__law_pen) (sc := defScope s__law_pen) (own := [("_law_cell", 2)]) (by decide +kernel)) (fun _ _ _ _ _ B => (q_gname (vs := [2]) (pg_name (i := 2) sc__law_pen.nd rfl (Or.inl rfl)) (by decide))) (fun _ _ _ _ _ => pts_U0) (fun _ _ _ _ _ B => (q_ifE (q_tcmp op_ge rop_ge (toV (q_callB call_abs rc_abs (by rfl) T.b_abs (by decide +kernel) (q_xcons (toV (q_var (pv 2))) q_xnil))) (toV (q_op op_powW rop_pow (toV q_int) (toV q_int))) (nomark _)) (q_op op_mod rop_mod (toV (q_callB call_abs rc_abs (by rfl) T.b_abs (by decide +kernel) (q_xcons (toV (q_var (pv 2))) q_xnil))) (toV (q_var (pv 1)))) (q_var (pv 2))))))) (q_pcons (fun B => q_int) (q_pcons (fun B => q_int) q_pnil))) (by decide +kernel) (by decide))) q_nil))
theorem sc_is_whole : FnScope N_is_whole ["thing"] (defScope s_is_whole) := ⟨rfl, rfl, rfl, by decide +kernel, rfl, by decide +kernel, by decide +kernel⟩
theorem ok_is_whole {fd : FuncData} (F : Fun K "is_whole" "is_whole" s_is_whole a_is_whole fd) (T : Tx K mg a__law_calls a__law_draw a__law_handed a__law_pick a__law_odd_6 a__law_pen a_is_whole a_is_base a_BadHouse___init__ a_need_base_2 a_is_listing a_is_count a_is_saying_a a_BadSaying___init__ a_need_sayings_3 a_reaches_3 a_least_house_2 a_need_one_more_2 a_shows_follows_3 a_may_be_4 a_how_many_2 a_nth_house_2 a_bar_of_4 a_blame_3 a_need_house_3 a_core_3 a_mend_2 a_shows_mend_2 a_least_mend_2 a_greatest_house_2 a_follows_3 a_which_2 a_keeps_2 a_is_beginning a_House___init__ a_shows_bar_2 a_least_by a_strongest_below a_why_least_2 a_greatest_by a_strongest_above a_why_greatest_2 a__law_refused_2 a_law a_House a_BadHouse a_BadSaying tk_LEAST_BASE tk_MOST_BASE) : FnOk P w K mg base CX0 1 a_is_whole fd ["thing"] (lift K (sp_is_whole)) := by
  refine fn_ok (ds := d_is_whole) F sc_is_whole (len_is_whole) (fun cdv A outer s H E B hr hB hm => ?_) (d_is_whole_ok)
  exact (q_cons (q_ret hm (q_andV (q_isi (c := .int) (toV (q_var (pv 0))) rfl T.b_isinstance rfl T.b_int (by rfl)) (q_one (q_notV (q_isi (c := .bl) (toV (q_var (pv 0))) rfl T.b_isinstance rfl T.b_bool (by rfl)))))) q_nil)
theorem sc_is_base : FnScope N_is_base ["thing"] (defScope s_is_base) := ⟨rfl, rfl, rfl, by decide +kernel, rfl, by decide +kernel, by decide +kernel⟩
theorem ok_is_base {fd fd_is_whole : FuncData} (F : Fun K "is_base" "is_base" s_is_base a_is_base fd) (T : Tx K mg a__law_calls a__law_draw a__law_handed a__law_pick a__law_odd_6 a__law_pen a_is_whole a_is_base a_BadHouse___init__ a_need_base_2 a_is_listing a_is_count a_is_saying_a a_BadSaying___init__ a_need_sayings_3 a_reaches_3 a_least_house_2 a_need_one_more_2 a_shows_follows_3 a_may_be_4 a_how_many_2 a_nth_house_2 a_bar_of_4 a_blame_3 a_need_house_3 a_core_3 a_mend_2 a_shows_mend_2 a_least_mend_2 a_greatest_house_2 a_follows_3 a_which_2 a_keeps_2 a_is_beginning a_House___init__ a_shows_bar_2 a_least_by a_strongest_below a_why_least_2 a_greatest_by a_strongest_above a_why_greatest_2 a__law_refused_2 a_law a_House a_BadHouse a_BadSaying tk_LEAST_BASE tk_MOST_BASE) (G_is_whole : FnOk P w K mg base CX0 1 a_is_whole fd_is_whole ["thing"] (lift K (sp_is_whole))) (b_is_whole : Binds K fd_is_whole ["thing"] []) : FnOk P w K mg base CX0 2 a_is_base fd ["thing"] (lift K (sp_is_base)) := by
  refine fn_ok (ds := d_is_base) F sc_is_base (len_is_base) (fun cdv A outer s H E B hr hB hm => ?_) (d_is_base_ok)
  exact (q_cons (q_ret hm (q_andV (q_call G_is_whole (hr.mono (by decide)) rfl T.g_is_whole T.k_is_whole b_is_whole .nil (fun _ _ => RelL.nil) pass0 (q_acons (q_var (pv 0)) q_anil)) (q_one (q_chain op_le rop_le op_le rop_le (toV (q_c (pe_glob (v := (.int 2)) rfl T.c_LEAST_BASE ⟨_, rfl⟩) (fun _ _ => rD_int _))) (toV (q_var (pv 0))) (toV (q_c (pe_glob (v := (.int 30)) rfl T.c_MOST_BASE ⟨_, rfl⟩) (fun _ _ => rD_int _))))))) q_nil)
theorem sc_BadHouse___init__ : FnScope N_BadHouse___init__ ["self", "part"] (defScope s_BadHouse___init__) := ⟨rfl, rfl, rfl, by decide +kernel, rfl, by decide +kernel, by decide +kernel⟩
theorem ok_BadHouse___init__ {fd : FuncData} (F : Fun K "__init__" "BadHouse.__init__" s_BadHouse___init__ a_BadHouse___init__ fd) (T : Tx K mg a__law_calls a__law_draw a__law_handed a__law_pick a__law_odd_6 a__law_pen a_is_whole a_is_base a_BadHouse___init__ a_need_base_2 a_is_listing a_is_count a_is_saying_a a_BadSaying___init__ a_need_sayings_3 a_reaches_3 a_least_house_2 a_need_one_more_2 a_shows_follows_3 a_may_be_4 a_how_many_2 a_nth_house_2 a_bar_of_4 a_blame_3 a_need_house_3 a_core_3 a_mend_2 a_shows_mend_2 a_least_mend_2 a_greatest_house_2 a_follows_3 a_which_2 a_keeps_2 a_is_beginning a_House___init__ a_shows_bar_2 a_least_by a_strongest_below a_why_least_2 a_greatest_by a_strongest_above a_why_greatest_2 a__law_refused_2 a_law a_House a_BadHouse a_BadSaying tk_LEAST_BASE tk_MOST_BASE) : FnOk P w K mg base CX0 1 a_BadHouse___init__ fd ["self", "part"] (spFx K "ValueError.__new__" vaTail "part") := by
  exact fn_fx F sc_BadHouse___init__ (fun cdv A outer s H E => pss_cons (ps_expr (pe_vainit (by rfl) T.b_ValueError T.vF_ValueError (pa_cons (pv 0) (pa_cons pe_str pa_nil)))) (pss_one (ps_fstG fxb_Value.g (pv 0) (pv 1))))
theorem sc_need_base_2 : FnScope N_need_base_2 ["k"] (defScope s_need_base_2) := ⟨rfl, rfl, rfl, by decide +kernel, rfl, by decide +kernel, by decide +kernel⟩
theorem ok_need_base_2 {fd fd_is_base fd_BadHouse___init__ : FuncData} (F : Fun K "need_base" "need_base" s_need_base_2 a_need_base_2 fd) (T : Tx K mg a__law_calls a__law_draw a__law_handed a__law_pick a__law_odd_6 a__law_pen a_is_whole a_is_base a_BadHouse___init__ a_need_base_2 a_is_listing a_is_count a_is_saying_a a_BadSaying___init__ a_need_sayings_3 a_reaches_3 a_least_house_2 a_need_one_more_2 a_shows_follows_3 a_may_be_4 a_how_many_2 a_nth_house_2 a_bar_of_4 a_blame_3 a_need_house_3 a_core_3 a_mend_2 a_shows_mend_2 a_least_mend_2 a_greatest_house_2 a_follows_3 a_which_2 a_keeps_2 a_is_beginning a_House___init__ a_shows_bar_2 a_least_by a_strongest_below a_why_least_2 a_greatest_by a_strongest_above a_why_greatest_2 a__law_refused_2 a_law a_House a_BadHouse a_BadSaying tk_LEAST_BASE tk_MOST_BASE) (G_is_base : FnOk P w K mg base CX0 2 a_is_base fd_is_base ["thing"] (lift K (sp_is_base))) (b_is_base : Binds K fd_is_base ["thing"] []) (G_BadHouse___init__ : FnOk P w K mg base CX0 1 a_BadHouse___init__ fd_BadHouse___init__ ["self", "part"] (spFx K "ValueError.__new__" vaTail "part")) (b_BadHouse___init__ : Binds K fd_BadHouse___init__ ["self", "part"] []) : FnOk P w K mg base (L2.CX P w) 3 a_need_base_2 fd ["k"] (liftE K (xcl a_BadHouse a_BadSaying) (sp_need_base_2)) := by
  refine fn_okE (cl := (xcl a_BadHouse a_BadSaying)) (ds := d_need_base_2) F sc_need_base_2 (len_need_base_2) (fun cdv A outer s H E B Px hr hB hm hE => ?_) (d_need_base_2_ok)
  exact (q_cons (q_if (q_not (q_tval (q_call G_is_base (hr.mono (by decide)) rfl T.g_is_base T.k_is_base b_is_base .nil (fun _ _ => RelL.nil) pass0 (q_acons (q_var (pv 0)) q_anil)))) (q_cons (q_raiseE (f := "part") rfl (takes_of rfl rfl rfl rfl) hE rfl (pmk_fxG fxb_Value.g T.fx_BadHouse T.in_BadHouse T.ty_BadHouse T.no_BadHouse G_BadHouse___init__ (hr.mono (by decide)) b_BadHouse___init__ pass0 rfl T.g_BadHouse (q_acons q_str q_anil))) q_nil) q_nil) q_nil)
theorem sc_is_listing : FnScope N_is_listing ["thing"] (defScope s_is_listing) := ⟨rfl, rfl, rfl, by decide +kernel, rfl, by decide +kernel, by decide +kernel⟩
theorem ok_is_listing {fd : FuncData} (F : Fun K "is_listing" "is_listing" s_is_listing a_is_listing fd) (T : Tx K mg a__law_calls a__law_draw a__law_handed a__law_pick a__law_odd_6 a__law_pen a_is_whole a_is_base a_BadHouse___init__ a_need_base_2 a_is_listing a_is_count a_is_saying_a a_BadSaying___init__ a_need_sayings_3 a_reaches_3 a_least_house_2 a_need_one_more_2 a_shows_follows_3 a_may_be_4 a_how_many_2 a_nth_house_2 a_bar_of_4 a_blame_3 a_need_house_3 a_core_3 a_mend_2 a_shows_mend_2 a_least_mend_2 a_greatest_house_2 a_follows_3 a_which_2 a_keeps_2 a_is_beginning a_House___init__ a_shows_bar_2 a_least_by a_strongest_below a_why_least_2 a_greatest_by a_strongest_above a_why_greatest_2 a__law_refused_2 a_law a_House a_BadHouse a_BadSaying tk_LEAST_BASE tk_MOST_BASE) : FnOk P w K mg base CX0 1 a_is_listing fd ["thing"] (lift K (sp_is_listing)) := by
  refine fn_ok (ds := d_is_listing) F sc_is_listing (len_is_listing) (fun cdv A outer s H E B hr hB hm => ?_) (d_is_listing_ok)
  exact (q_cons (q_ret hm (q_isi2 (c := .lst) (c2 := .tup) (toV (q_var (pv 0))) rfl T.b_isinstance rfl T.b_list (by rfl) rfl T.b_tuple (by rfl))) q_nil)
theorem sc_is_count : FnScope N_is_count ["thing"] (defScope s_is_count) := ⟨rfl, rfl, rfl, by decide +kernel, rfl, by decide +kernel, by decide +kernel⟩
theorem ok_is_count {fd fd_is_whole : FuncData} (F : Fun K "is_count" "is_count" s_is_count a_is_count fd) (T : Tx K mg a__law_calls a__law_draw a__law_handed a__law_pick a__law_odd_6 a__law_pen a_is_whole a_is_base a_BadHouse___init__ a_need_base_2 a_is_listing a_is_count a_is_saying_a a_BadSaying___init__ a_need_sayings_3 a_reaches_3 a_least_house_2 a_need_one_more_2 a_shows_follows_3 a_may_be_4 a_how_many_2 a_nth_house_2 a_bar_of_4 a_blame_3 a_need_house_3 a_core_3 a_mend_2 a_shows_mend_2 a_least_mend_2 a_greatest_house_2 a_follows_3 a_which_2 a_keeps_2 a_is_beginning a_House___init__ a_shows_bar_2 a_least_by a_strongest_below a_why_least_2 a_greatest_by a_strongest_above a_why_greatest_2 a__law_refused_2 a_law a_House a_BadHouse a_BadSaying tk_LEAST_BASE tk_MOST_BASE) (G_is_whole : FnOk P w K mg base CX0 1 a_is_whole fd_is_whole ["thing"] (lift K (sp_is_whole))) (b_is_whole : Binds K fd_is_whole ["thing"] []) : FnOk P w K mg base CX0 2 a_is_count fd ["thing"] (lift K (sp_is_count)) := by
  refine fn_ok (ds := d_is_count) F sc_is_count (len_is_count) (fun cdv A outer s H E B hr hB hm => ?_) (d_is_count_ok)
  exact (q_cons (q_ret hm (q_andV (q_call G_is_whole (hr.mono (by decide)) rfl T.g_is_whole T.k_is_whole b_is_whole .nil (fun _ _ => RelL.nil) pass0 (q_acons (q_var (pv 0)) q_anil)) (q_one (q_cmp op_gt rop_gt (toV (q_var (pv 0))) (toV q_int) (nomark _))))) q_nil)
theorem sc_is_saying_a : FnScope N_is_saying_a ["thing"] (defScope s_is_saying_a) := ⟨rfl, rfl, rfl, by decide +kernel, rfl, by decide +kernel, by decide +kernel⟩
theorem ok_is_saying_a {fd fd_is_count : FuncData} (F : Fun K "is_saying" "is_saying" s_is_saying_a a_is_saying_a fd) (T : Tx K mg a__law_calls a__law_draw a__law_handed a__law_pick a__law_odd_6 a__law_pen a_is_whole a_is_base a_BadHouse___init__ a_need_base_2 a_is_listing a_is_count a_is_saying_a a_BadSaying___init__ a_need_sayings_3 a_reaches_3 a_least_house_2 a_need_one_more_2 a_shows_follows_3 a_may_be_4 a_how_many_2 a_nth_house_2 a_bar_of_4 a_blame_3 a_need_house_3 a_core_3 a_mend_2 a_shows_mend_2 a_least_mend_2 a_greatest_house_2 a_follows_3 a_which_2 a_keeps_2 a_is_beginning a_House___init__ a_shows_bar_2 a_least_by a_strongest_below a_why_least_2 a_greatest_by a_strongest_above a_why_greatest_2 a__law_refused_2 a_law a_House a_BadHouse a_BadSaying tk_LEAST_BASE tk_MOST_BASE) (G_is_count : FnOk P w K mg base CX0 2 a_is_count fd_is_count ["thing"] (lift K (sp_is_count))) (b_is_count : Binds K fd_is_count ["thing"] []) : FnOk P w K mg base CX0 3 a_is_saying_a fd ["thing"] (lift K (sp_is_saying_a)) := by
  refine fn_ok (ds := d_is_saying_a) F sc_is_saying_a (len_is_saying_a) (fun cdv A outer s H E B hr hB hm => ?_) (d_is_saying_a_ok)
  exact (q_cons (q_if (L2.PW.pt (q_or (q_not (q_tval (q_isi (c := .tup) (toV (q_var (pv 0))) rfl T.b_isinstance rfl T.b_tuple (by rfl)))) (q_or (q_tcmp (op_neD hr.units) rop_ne (toV (q_callB call_len3 rc_len (by rfl) T.b_len (by decide +kernel) (q_xcons (toV (q_var (pv 0))) q_xnil))) (toV q_int) (nomark _)) (q_or1 (q_not (q_tval (q_isi (c := .str) (toV (q_ix (toV (q_var (pv 0))) (toV q_int) (fun _ _ => rfl))) rfl T.b_isinstance rfl T.b_str (by rfl)))))))) (q_cons (q_ret hm q_bl) q_nil) q_nil) (q_cons (q_ret hm (q_andV (q_cmp op_in_seq rop_inT (toV (q_ix (toV (q_var (pv 0))) (toV q_int) (fun _ _ => rfl))) (toV (q_tup (q_acons q_str (q_acons q_str q_anil)))) rfl) (q_andV (q_call G_is_count (hr.mono (by decide)) rfl T.g_is_count T.k_is_count b_is_count .nil (fun _ _ => RelL.nil) pass0 (q_acons (q_ix (toV (q_var (pv 0))) (toV q_int) (fun _ _ => rfl)) q_anil)) (q_one (q_call G_is_count (hr.mono (by decide)) rfl T.g_is_count T.k_is_count b_is_count .nil (fun _ _ => RelL.nil) pass0 (q_acons (q_ix (toV (q_var (pv 0))) (toV q_int) (fun _ _ => rfl)) q_anil)))))) q_nil))
theorem sc_BadSaying___init__ : FnScope N_BadSaying___init__ ["self", "place"] (defScope s_BadSaying___init__) := ⟨rfl, rfl, rfl, by decide +kernel, rfl, by decide +kernel, by decide +kernel⟩
theorem ok_BadSaying___init__ {fd : FuncData} (F : Fun K "__init__" "BadSaying.__init__" s_BadSaying___init__ a_BadSaying___init__ fd) (T : Tx K mg a__law_calls a__law_draw a__law_handed a__law_pick a__law_odd_6 a__law_pen a_is_whole a_is_base a_BadHouse___init__ a_need_base_2 a_is_listing a_is_count a_is_saying_a a_BadSaying___init__ a_need_sayings_3 a_reaches_3 a_least_house_2 a_need_one_more_2 a_shows_follows_3 a_may_be_4 a_how_many_2 a_nth_house_2 a_bar_of_4 a_blame_3 a_need_house_3 a_core_3 a_mend_2 a_shows_mend_2 a_least_mend_2 a_greatest_house_2 a_follows_3 a_which_2 a_keeps_2 a_is_beginning a_House___init__ a_shows_bar_2 a_least_by a_strongest_below a_why_least_2 a_greatest_by a_strongest_above a_why_greatest_2 a__law_refused_2 a_law a_House a_BadHouse a_BadSaying tk_LEAST_BASE tk_MOST_BASE) : FnOk P w K mg base CX0 1 a_BadSaying___init__ fd ["self", "place"] (spFx K "ValueError.__new__" vaTail "place") := by
  exact fn_fx F sc_BadSaying___init__ (fun cdv A outer s H E => pss_cons (ps_expr (pe_vainit (by rfl) T.b_ValueError T.vF_ValueError (pa_cons (pv 0) (pa_cons pe_str pa_nil)))) (pss_one (ps_fstG fxb_Value.g (pv 0) (pv 1))))
theorem sc_need_sayings_3 : FnScope N_need_sayings_3 ["sayings"] (defScope s_need_sayings_3) := ⟨rfl, rfl, rfl, by decide +kernel, rfl, by decide +kernel, by decide +kernel⟩
theorem ok_need_sayings_3 {fd fd_is_listing fd_is_saying_a fd_BadSaying___init__ : FuncData} (F : Fun K "need_sayings" "need_sayings" s_need_sayings_3 a_need_sayings_3 fd) (T : Tx K mg a__law_calls a__law_draw a__law_handed a__law_pick a__law_odd_6 a__law_pen a_is_whole a_is_base a_BadHouse___init__ a_need_base_2 a_is_listing a_is_count a_is_saying_a a_BadSaying___init__ a_need_sayings_3 a_reaches_3 a_least_house_2 a_need_one_more_2 a_shows_follows_3 a_may_be_4 a_how_many_2 a_nth_house_2 a_bar_of_4 a_blame_3 a_need_house_3 a_core_3 a_mend_2 a_shows_mend_2 a_least_mend_2 a_greatest_house_2 a_follows_3 a_which_2 a_keeps_2 a_is_beginning a_House___init__ a_shows_bar_2 a_least_by a_strongest_below a_why_least_2 a_greatest_by a_strongest_above a_why_greatest_2 a__law_refused_2 a_law a_House a_BadHouse a_BadSaying tk_LEAST_BASE tk_MOST_BASE) (G_is_listing : FnOk P w K mg base CX0 1 a_is_listing fd_is_listing ["thing"] (lift K (sp_is_listing))) (b_is_listing : Binds K fd_is_listing ["thing"] []) (G_is_saying_a : FnOk P w K mg base CX0 3 a_is_saying_a fd_is_saying_a ["thing"] (lift K (sp_is_saying_a))) (b_is_saying_a : Binds K fd_is_saying_a ["thing"] []) (G_BadSaying___init__ : FnOk P w K mg base CX0 1 a_BadSaying___init__ fd_BadSaying___init__ ["self", "place"] (spFx K "ValueError.__new__" vaTail "place")) (b_BadSaying___init__ : Binds K fd_BadSaying___init__ ["self", "place"] []) : FnOk P w K mg base (L2.CX P w) 4 a_need_sayings_3 fd ["sayings"] (liftE K (xcl a_BadHouse a_BadSaying) (sp_need_sayings_3)) := by
  refine fn_okE (cl := (xcl a_BadHouse a_BadSaying)) (ds := d_need_sayings_3) F sc_need_sayings_3 (len_need_sayings_3) (fun cdv A outer s H E B Px hr hB hm hE => ?_) (d_need_sayings_3_ok)
  exact (q_cons (q_if (q_not (q_tval (q_call G_is_listing (hr.mono (by decide)) rfl T.g_is_listing T.k_is_listing b_is_listing .nil (fun _ _ => RelL.nil) pass0 (q_acons (q_var (pv 0)) q_anil)))) (q_cons (q_raiseE (f := "place") rfl (takes_of rfl rfl rfl rfl) hE rfl (pmk_fxG fxb_Value.g T.fx_BadSaying T.in_BadSaying T.ty_BadSaying T.no_BadSaying G_BadSaying___init__ (hr.mono (by decide)) b_BadSaying___init__ pass0 rfl T.g_BadSaying (q_acons q_int q_anil))) q_nil) q_nil) (q_cons (q_for (passes_of rfl) rfl (q_ienum0 (by rfl) T.b_enumerate (q_var (pv 0))) (q_gtup (n := 2) rfl (q_gcons (q_gname (vs := [1, 2]) (pg_name (i := 1) sc_need_sayings_3.nd rfl (Or.inl rfl)) (by decide)) (q_gcons (q_gname (vs := [1, 2]) (pg_name (i := 2) sc_need_sayings_3.nd rfl (Or.inl rfl)) (by decide)) q_gnil))) (q_cons (q_if (q_not (q_tval (q_call G_is_saying_a (hr.mono (by decide)) rfl T.g_is_saying_a T.k_is_saying_a b_is_saying_a .nil (fun _ _ => RelL.nil) pass0 (q_acons (q_var (pv 2)) q_anil)))) (q_cons (q_raiseE (f := "place") rfl (takes_of rfl rfl rfl rfl) hE rfl (pmk_fxG fxb_Value.g T.fx_BadSaying T.in_BadSaying T.ty_BadSaying T.no_BadSaying G_BadSaying___init__ (hr.mono (by decide)) b_BadSaying___init__ pass0 rfl T.g_BadSaying (q_acons (q_var (pv 1)) q_anil))) q_nil) q_nil) q_nil)) q_nil))
theorem sc_reaches_3 : FnScope N_reaches_3 ["k", "sayings"] (defScope s_reaches_3) := ⟨rfl, rfl, rfl, by decide +kernel, rfl, by decide +kernel, by decide +kernel⟩
theorem ok_reaches_3 {fd fd_need_base_2 fd_need_sayings_3 : FuncData} (F : Fun K "reaches" "reaches" s_reaches_3 a_reaches_3 fd) (T : Tx K mg a__law_calls a__law_draw a__law_handed a__law_pick a__law_odd_6 a__law_pen a_is_whole a_is_base a_BadHouse___init__ a_need_base_2 a_is_listing a_is_count a_is_saying_a a_BadSaying___init__ a_need_sayings_3 a_reaches_3 a_least_house_2 a_need_one_more_2 a_shows_follows_3 a_may_be_4 a_how_many_2 a_nth_house_2 a_bar_of_4 a_blame_3 a_need_house_3 a_core_3 a_mend_2 a_shows_mend_2 a_least_mend_2 a_greatest_house_2 a_follows_3 a_which_2 a_keeps_2 a_is_beginning a_House___init__ a_shows_bar_2 a_least_by a_strongest_below a_why_least_2 a_greatest_by a_strongest_above a_why_greatest_2 a__law_refused_2 a_law a_House a_BadHouse a_BadSaying tk_LEAST_BASE tk_MOST_BASE) (G_need_base_2 : FnOk P w K mg base (L2.CX P w) 3 a_need_base_2 fd_need_base_2 ["k"] (liftE K (xcl a_BadHouse a_BadSaying) (sp_need_base_2))) (b_need_base_2 : Binds K fd_need_base_2 ["k"] []) (G_need_sayings_3 : FnOk P w K mg base (L2.CX P w) 4 a_need_sayings_3 fd_need_sayings_3 ["sayings"] (liftE K (xcl a_BadHouse a_BadSaying) (sp_need_sayings_3))) (b_need_sayings_3 : Binds K fd_need_sayings_3 ["sayings"] []) : FnOk P w K mg base (L2.CX P w) 5 a_reaches_3 fd ["k", "sayings"] (liftE K (xcl a_BadHouse a_BadSaying) (sp_reaches_3)) := by
  refine fn_okE (cl := (xcl a_BadHouse a_BadSaying)) (ds := d_reaches_3) F sc_reaches_3 (len_reaches_3) (fun cdv A outer s H E B Px hr hB hm hE => ?_) (d_reaches_3_ok)
  exact (q_cons (q_drop (q_XE (W := fun c d _ H => E c d H) hE (z_call (pe_callS G_need_base_2 (hr.mono (by decide)) rfl T.g_need_base_2 T.k_need_base_2 b_need_base_2 (fun σ => passAt (takes_of rfl rfl rfl rfl) σ) (q_acons (q_var (pv 0)) q_anil))))) (q_cons (q_drop (q_XE (W := fun c d _ H => E c d H) hE (z_call (pe_callS G_need_sayings_3 (hr.mono (by decide)) rfl T.g_need_sayings_3 T.k_need_sayings_3 b_need_sayings_3 (fun σ => passAt (takes_of rfl rfl rfl rfl) σ) (q_acons (q_var (pv 1)) q_anil))))) (q_cons q_never q_nil)))
theorem ok_lam0 {fd_reaches_3 : FuncData} (T : Tx K mg a__law_calls a__law_draw a__law_handed a__law_pick a__law_odd_6 a__law_pen a_is_whole a_is_base a_BadHouse___init__ a_need_base_2 a_is_listing a_is_count a_is_saying_a a_BadSaying___init__ a_need_sayings_3 a_reaches_3 a_least_house_2 a_need_one_more_2 a_shows_follows_3 a_may_be_4 a_how_many_2 a_nth_house_2 a_bar_of_4 a_blame_3 a_need_house_3 a_core_3 a_mend_2 a_shows_mend_2 a_least_mend_2 a_greatest_house_2 a_follows_3 a_which_2 a_keeps_2 a_is_beginning a_House___init__ a_shows_bar_2 a_least_by a_strongest_below a_why_least_2 a_greatest_by a_strongest_above a_why_greatest_2 a__law_refused_2 a_law a_House a_BadHouse a_BadSaying tk_LEAST_BASE tk_MOST_BASE) (G_reaches_3 : FnOk P w K mg base (L2.CX P w) 5 a_reaches_3 fd_reaches_3 ["k", "sayings"] (liftE K (xcl a_BadHouse a_BadSaying) (sp_reaches_3))) (b_reaches_3 : Binds K fd_reaches_3 ["k", "sayings"] []) : LamOk P w K mg base 6 (LtK 0) (xcl a_BadHouse a_BadSaying) (fun as t Pq Px => d_lam0 (Cl.mk a_House a_law a_law a_law a_law) (as.map Sl.val) t Pq Px) := by
  refine lam_okE (dx := d_lam0 (Cl.mk a_House a_law a_law a_law a_law)) ⟨by rfl, by rfl, by rfl, by decide +kernel, by decide +kernel, fun _ _ _ _ => by rfl⟩ (fun A outer s H E f c' Z B hr hB hm => ?_) (fun ls t Pq Px h hl => by rw [start0_all hl]; exact h)
  exact (z_call (pe_callS G_reaches_3 (hr.mono (by decide)) rfl T.g_reaches_3 T.k_reaches_3 b_reaches_3 (fun σ => passAt (takes_of rfl rfl rfl rfl) σ) (q_acons (q_var (pv 1)) (q_acons (q_var (pv 0)) q_anil))))
theorem sc_least_house_2 : FnScope N_least_house_2 ["k", "sayings", "reach"] (defScope s_least_house_2) := ⟨rfl, rfl, rfl, by decide +kernel, rfl, by decide +kernel, by decide +kernel⟩
theorem ok_least_house_2 {fd fd_need_base_2 fd_need_sayings_3 : FuncData} (F : Fun K "least_house" "least_house" s_least_house_2 a_least_house_2 fd) (T : Tx K mg a__law_calls a__law_draw a__law_handed a__law_pick a__law_odd_6 a__law_pen a_is_whole a_is_base a_BadHouse___init__ a_need_base_2 a_is_listing a_is_count a_is_saying_a a_BadSaying___init__ a_need_sayings_3 a_reaches_3 a_least_house_2 a_need_one_more_2 a_shows_follows_3 a_may_be_4 a_how_many_2 a_nth_house_2 a_bar_of_4 a_blame_3 a_need_house_3 a_core_3 a_mend_2 a_shows_mend_2 a_least_mend_2 a_greatest_house_2 a_follows_3 a_which_2 a_keeps_2 a_is_beginning a_House___init__ a_shows_bar_2 a_least_by a_strongest_below a_why_least_2 a_greatest_by a_strongest_above a_why_greatest_2 a__law_refused_2 a_law a_House a_BadHouse a_BadSaying tk_LEAST_BASE tk_MOST_BASE) (G_need_base_2 : FnOk P w K mg base (L2.CX P w) 3 a_need_base_2 fd_need_base_2 ["k"] (liftE K (xcl a_BadHouse a_BadSaying) (sp_need_base_2))) (b_need_base_2 : Binds K fd_need_base_2 ["k"] []) (G_need_sayings_3 : FnOk P w K mg base (L2.CX P w) 4 a_need_sayings_3 fd_need_sayings_3 ["sayings"] (liftE K (xcl a_BadHouse a_BadSaying) (sp_need_sayings_3))) (b_need_sayings_3 : Binds K fd_need_sayings_3 ["sayings"] []) : FnOk P w K mg base (L2.CX P w) 5 a_least_house_2 fd ["k", "sayings", "reach"] (liftE K (xcl a_BadHouse a_BadSaying) (sp_least_house_2)) := by
  refine fn_okE (cl := (xcl a_BadHouse a_BadSaying)) (ds := d_least_house_2) F sc_least_house_2 (len_least_house_2) (fun cdv A outer s H E B Px hr hB hm hE => ?_) (d_least_house_2_ok)
  exact (q_cons (q_drop (q_XE (W := fun c d _ H => E c d H) hE (z_call (pe_callS G_need_base_2 (hr.mono (by decide)) rfl T.g_need_base_2 T.k_need_base_2 b_need_base_2 (fun σ => passAt (takes_of rfl rfl rfl rfl) σ) (q_acons (q_var (pv 0)) q_anil))))) (q_cons (q_drop (q_XE (W := fun c d _ H => E c d H) hE (z_call (pe_callS G_need_sayings_3 (hr.mono (by decide)) rfl T.g_need_sayings_3 T.k_need_sayings_3 b_need_sayings_3 (fun σ => passAt (takes_of rfl rfl rfl rfl) σ) (q_acons (q_var (pv 1)) q_anil))))) (q_cons q_never q_nil)))
theorem ok_lam1 {fd_least_house_2 : FuncData} (T : Tx K mg a__law_calls a__law_draw a__law_handed a__law_pick a__law_odd_6 a__law_pen a_is_whole a_is_base a_BadHouse___init__ a_need_base_2 a_is_listing a_is_count a_is_saying_a a_BadSaying___init__ a_need_sayings_3 a_reaches_3 a_least_house_2 a_need_one_more_2 a_shows_follows_3 a_may_be_4 a_how_many_2 a_nth_house_2 a_bar_of_4 a_blame_3 a_need_house_3 a_core_3 a_mend_2 a_shows_mend_2 a_least_mend_2 a_greatest_house_2 a_follows_3 a_which_2 a_keeps_2 a_is_beginning a_House___init__ a_shows_bar_2 a_least_by a_strongest_below a_why_least_2 a_greatest_by a_strongest_above a_why_greatest_2 a__law_refused_2 a_law a_House a_BadHouse a_BadSaying tk_LEAST_BASE tk_MOST_BASE) (G_least_house_2 : FnOk P w K mg base (L2.CX P w) 5 a_least_house_2 fd_least_house_2 ["k", "sayings", "reach"] (liftE K (xcl a_BadHouse a_BadSaying) (sp_least_house_2))) (b_least_house_2 : Binds K fd_least_house_2 ["k", "sayings", "reach"] []) : LamOk P w K mg base 6 (LtK 1) (xcl a_BadHouse a_BadSaying) (fun as t Pq Px => d_lam1 (Cl.mk a_House a_law a_law a_law a_law) (as.map Sl.val) t Pq Px) := by
  refine lam_okE (dx := d_lam1 (Cl.mk a_House a_law a_law a_law a_law)) ⟨by rfl, by rfl, by rfl, by decide +kernel, by decide +kernel, fun _ _ _ _ => by rfl⟩ (fun A outer s H E f c' Z B hr hB hm => ?_) (fun ls t Pq Px h hl => by rw [start0_all hl]; exact h)
  exact (z_call (pe_callS G_least_house_2 (hr.mono (by decide)) rfl T.g_least_house_2 T.k_least_house_2 b_least_house_2 (fun σ => passAt (takes_of rfl rfl rfl rfl) σ) (q_acons (q_var (pv 1)) (q_acons (q_var (pv 0)) (q_acons q_int q_anil)))))
theorem sc_need_one_more_2 : FnScope N_need_one_more_2 ["sayings", "saying"] (defScope s_need_one_more_2) := ⟨rfl, rfl, rfl, by decide +kernel, rfl, by decide +kernel, by decide +kernel⟩
theorem ok_need_one_more_2 {fd fd_is_saying_a fd_need_sayings_3 fd_BadSaying___init__ : FuncData} (F : Fun K "need_one_more" "need_one_more" s_need_one_more_2 a_need_one_more_2 fd) (T : Tx K mg a__law_calls a__law_draw a__law_handed a__law_pick a__law_odd_6 a__law_pen a_is_whole a_is_base a_BadHouse___init__ a_need_base_2 a_is_listing a_is_count a_is_saying_a a_BadSaying___init__ a_need_sayings_3 a_reaches_3 a_least_house_2 a_need_one_more_2 a_shows_follows_3 a_may_be_4 a_how_many_2 a_nth_house_2 a_bar_of_4 a_blame_3 a_need_house_3 a_core_3 a_mend_2 a_shows_mend_2 a_least_mend_2 a_greatest_house_2 a_follows_3 a_which_2 a_keeps_2 a_is_beginning a_House___init__ a_shows_bar_2 a_least_by a_strongest_below a_why_least_2 a_greatest_by a_strongest_above a_why_greatest_2 a__law_refused_2 a_law a_House a_BadHouse a_BadSaying tk_LEAST_BASE tk_MOST_BASE) (G_is_saying_a : FnOk P w K mg base CX0 3 a_is_saying_a fd_is_saying_a ["thing"] (lift K (sp_is_saying_a))) (b_is_saying_a : Binds K fd_is_saying_a ["thing"] []) (G_need_sayings_3 : FnOk P w K mg base (L2.CX P w) 4 a_need_sayings_3 fd_need_sayings_3 ["sayings"] (liftE K (xcl a_BadHouse a_BadSaying) (sp_need_sayings_3))) (b_need_sayings_3 : Binds K fd_need_sayings_3 ["sayings"] []) (G_BadSaying___init__ : FnOk P w K mg base CX0 1 a_BadSaying___init__ fd_BadSaying___init__ ["self", "place"] (spFx K "ValueError.__new__" vaTail "place")) (b_BadSaying___init__ : Binds K fd_BadSaying___init__ ["self", "place"] []) : FnOk P w K mg base (L2.CX P w) 5 a_need_one_more_2 fd ["sayings", "saying"] (liftE K (xcl a_BadHouse a_BadSaying) (sp_need_one_more_2)) := by
  refine fn_okE (cl := (xcl a_BadHouse a_BadSaying)) (ds := d_need_one_more_2) F sc_need_one_more_2 (len_need_one_more_2) (fun cdv A outer s H E B Px hr hB hm hE => ?_) (d_need_one_more_2_ok)
  exact (q_cons (q_drop (q_XE (W := fun c d _ H => E c d H) hE (z_call (pe_callS G_need_sayings_3 (hr.mono (by decide)) rfl T.g_need_sayings_3 T.k_need_sayings_3 b_need_sayings_3 (fun σ => passAt (takes_of rfl rfl rfl rfl) σ) (q_acons (q_var (pv 0)) q_anil))))) (q_cons (q_if (q_not (q_tval (q_call G_is_saying_a (hr.mono (by decide)) rfl T.g_is_saying_a T.k_is_saying_a b_is_saying_a .nil (fun _ _ => RelL.nil) pass0 (q_acons (q_var (pv 1)) q_anil)))) (q_cons (q_raiseE (f := "place") rfl (takes_of rfl rfl rfl rfl) hE rfl (pmk_fxG fxb_Value.g T.fx_BadSaying T.in_BadSaying T.ty_BadSaying T.no_BadSaying G_BadSaying___init__ (hr.mono (by decide)) b_BadSaying___init__ pass0 rfl T.g_BadSaying (q_acons (q_callB call_len3 rc_len (by rfl) T.b_len (by decide +kernel) (q_xcons (toV (q_var (pv 0))) q_xnil)) q_anil))) q_nil) q_nil) q_nil))
theorem sc_shows_follows_3 : FnScope N_shows_follows_3 ["k", "sayings", "saying", "paper"] (defScope s_shows_follows_3) := ⟨rfl, rfl, rfl, by decide +kernel, rfl, by decide +kernel, by decide +kernel⟩
theorem ok_shows_follows_3 {fd fd_need_base_2 fd_need_one_more_2 : FuncData} (F : Fun K "shows_follows" "shows_follows" s_shows_follows_3 a_shows_follows_3 fd) (T : Tx K mg a__law_calls a__law_draw a__law_handed a__law_pick a__law_odd_6 a__law_pen a_is_whole a_is_base a_BadHouse___init__ a_need_base_2 a_is_listing a_is_count a_is_saying_a a_BadSaying___init__ a_need_sayings_3 a_reaches_3 a_least_house_2 a_need_one_more_2 a_shows_follows_3 a_may_be_4 a_how_many_2 a_nth_house_2 a_bar_of_4 a_blame_3 a_need_house_3 a_core_3 a_mend_2 a_shows_mend_2 a_least_mend_2 a_greatest_house_2 a_follows_3 a_which_2 a_keeps_2 a_is_beginning a_House___init__ a_shows_bar_2 a_least_by a_strongest_below a_why_least_2 a_greatest_by a_strongest_above a_why_greatest_2 a__law_refused_2 a_law a_House a_BadHouse a_BadSaying tk_LEAST_BASE tk_MOST_BASE) (G_need_base_2 : FnOk P w K mg base (L2.CX P w) 3 a_need_base_2 fd_need_base_2 ["k"] (liftE K (xcl a_BadHouse a_BadSaying) (sp_need_base_2))) (b_need_base_2 : Binds K fd_need_base_2 ["k"] []) (G_need_one_more_2 : FnOk P w K mg base (L2.CX P w) 5 a_need_one_more_2 fd_need_one_more_2 ["sayings", "saying"] (liftE K (xcl a_BadHouse a_BadSaying) (sp_need_one_more_2))) (b_need_one_more_2 : Binds K fd_need_one_more_2 ["sayings", "saying"] []) : FnOk P w K mg base (L2.CX P w) 6 a_shows_follows_3 fd ["k", "sayings", "saying", "paper"] (liftE K (xcl a_BadHouse a_BadSaying) (sp_shows_follows_3)) := by
  refine fn_okE (cl := (xcl a_BadHouse a_BadSaying)) (ds := d_shows_follows_3) F sc_shows_follows_3 (len_shows_follows_3) (fun cdv A outer s H E B Px hr hB hm hE => ?_) (d_shows_follows_3_ok)
  exact (q_cons (q_drop (q_XE (W := fun c d _ H => E c d H) hE (z_call (pe_callS G_need_base_2 (hr.mono (by decide)) rfl T.g_need_base_2 T.k_need_base_2 b_need_base_2 (fun σ => passAt (takes_of rfl rfl rfl rfl) σ) (q_acons (q_var (pv 0)) q_anil))))) (q_cons (q_drop (q_XE (W := fun c d _ H => E c d H) hE (z_call (pe_callS G_need_one_more_2 (hr.mono (by decide)) rfl T.g_need_one_more_2 T.k_need_one_more_2 b_need_one_more_2 (fun σ => passAt (takes_of rfl rfl rfl rfl) σ) (q_acons (q_var (pv 1)) (q_acons (q_var (pv 2)) q_anil)))))) (q_cons q_never (q_cons q_never (q_cons q_never (q_cons q_never (q_cons q_never (q_cons q_never (q_cons q_never q_nil)))))))))
theorem ok_lam10 {fd_shows_follows_3 : FuncData} (T : Tx K mg a__law_calls a__law_draw a__law_handed a__law_pick a__law_odd_6 a__law_pen a_is_whole a_is_base a_BadHouse___init__ a_need_base_2 a_is_listing a_is_count a_is_saying_a a_BadSaying___init__ a_need_sayings_3 a_reaches_3 a_least_house_2 a_need_one_more_2 a_shows_follows_3 a_may_be_4 a_how_many_2 a_nth_house_2 a_bar_of_4 a_blame_3 a_need_house_3 a_core_3 a_mend_2 a_shows_mend_2 a_least_mend_2 a_greatest_house_2 a_follows_3 a_which_2 a_keeps_2 a_is_beginning a_House___init__ a_shows_bar_2 a_least_by a_strongest_below a_why_least_2 a_greatest_by a_strongest_above a_why_greatest_2 a__law_refused_2 a_law a_House a_BadHouse a_BadSaying tk_LEAST_BASE tk_MOST_BASE) (G_shows_follows_3 : FnOk P w K mg base (L2.CX P w) 6 a_shows_follows_3 fd_shows_follows_3 ["k", "sayings", "saying", "paper"] (liftE K (xcl a_BadHouse a_BadSaying) (sp_shows_follows_3))) (b_shows_follows_3 : Binds K fd_shows_follows_3 ["k", "sayings", "saying", "paper"] []) : LamOk P w K mg base 7 (LtK 10) (xcl a_BadHouse a_BadSaying) (fun as t Pq Px => d_lam10 (Cl.mk a_House a_law a_law a_law a_law) (as.map Sl.val) t Pq Px) := by
  refine lam_okE (dx := d_lam10 (Cl.mk a_House a_law a_law a_law a_law)) ⟨by rfl, by rfl, by rfl, by decide +kernel, by decide +kernel, fun _ _ _ _ => by rfl⟩ (fun A outer s H E f c' Z B hr hB hm => ?_) (fun ls t Pq Px h hl => by rw [start0_all hl]; exact h)
  exact (z_call (pe_callS G_shows_follows_3 (hr.mono (by decide)) rfl T.g_shows_follows_3 T.k_shows_follows_3 b_shows_follows_3 (fun σ => passAt (takes_of rfl rfl rfl rfl) σ) (q_acons (q_var (pv 1)) (q_acons (q_var (pv 0)) (q_acons (q_var (pv 2)) (q_acons q_non q_anil))))))
theorem sc_may_be_4 : FnScope N_may_be_4 ["k", "sayings", "place", "reach"] (defScope s_may_be_4) := ⟨rfl, rfl, rfl, by decide +kernel, rfl, by decide +kernel, by decide +kernel⟩
theorem ok_may_be_4 {fd fd_need_base_2 fd_need_sayings_3 : FuncData} (F : Fun K "may_be" "may_be" s_may_be_4 a_may_be_4 fd) (T : Tx K mg a__law_calls a__law_draw a__law_handed a__law_pick a__law_odd_6 a__law_pen a_is_whole a_is_base a_BadHouse___init__ a_need_base_2 a_is_listing a_is_count a_is_saying_a a_BadSaying___init__ a_need_sayings_3 a_reaches_3 a_least_house_2 a_need_one_more_2 a_shows_follows_3 a_may_be_4 a_how_many_2 a_nth_house_2 a_bar_of_4 a_blame_3 a_need_house_3 a_core_3 a_mend_2 a_shows_mend_2 a_least_mend_2 a_greatest_house_2 a_follows_3 a_which_2 a_keeps_2 a_is_beginning a_House___init__ a_shows_bar_2 a_least_by a_strongest_below a_why_least_2 a_greatest_by a_strongest_above a_why_greatest_2 a__law_refused_2 a_law a_House a_BadHouse a_BadSaying tk_LEAST_BASE tk_MOST_BASE) (G_need_base_2 : FnOk P w K mg base (L2.CX P w) 3 a_need_base_2 fd_need_base_2 ["k"] (liftE K (xcl a_BadHouse a_BadSaying) (sp_need_base_2))) (b_need_base_2 : Binds K fd_need_base_2 ["k"] []) (G_need_sayings_3 : FnOk P w K mg base (L2.CX P w) 4 a_need_sayings_3 fd_need_sayings_3 ["sayings"] (liftE K (xcl a_BadHouse a_BadSaying) (sp_need_sayings_3))) (b_need_sayings_3 : Binds K fd_need_sayings_3 ["sayings"] []) : FnOk P w K mg base (L2.CX P w) 5 a_may_be_4 fd ["k", "sayings", "place", "reach"] (liftE K (xcl a_BadHouse a_BadSaying) (sp_may_be_4)) := by
  refine fn_okE (cl := (xcl a_BadHouse a_BadSaying)) (ds := d_may_be_4) F sc_may_be_4 (len_may_be_4) (fun cdv A outer s H E B Px hr hB hm hE => ?_) (d_may_be_4_ok)
  exact (q_cons (q_drop (q_XE (W := fun c d _ H => E c d H) hE (z_call (pe_callS G_need_base_2 (hr.mono (by decide)) rfl T.g_need_base_2 T.k_need_base_2 b_need_base_2 (fun σ => passAt (takes_of rfl rfl rfl rfl) σ) (q_acons (q_var (pv 0)) q_anil))))) (q_cons (q_drop (q_XE (W := fun c d _ H => E c d H) hE (z_call (pe_callS G_need_sayings_3 (hr.mono (by decide)) rfl T.g_need_sayings_3 T.k_need_sayings_3 b_need_sayings_3 (fun σ => passAt (takes_of rfl rfl rfl rfl) σ) (q_acons (q_var (pv 1)) q_anil))))) (q_cons q_never (q_cons q_never (q_cons q_never (q_cons q_never q_nil))))))
theorem ok_lam11 {fd_may_be_4 : FuncData} (T : Tx K mg a__law_calls a__law_draw a__law_handed a__law_pick a__law_odd_6 a__law_pen a_is_whole a_is_base a_BadHouse___init__ a_need_base_2 a_is_listing a_is_count a_is_saying_a a_BadSaying___init__ a_need_sayings_3 a_reaches_3 a_least_house_2 a_need_one_more_2 a_shows_follows_3 a_may_be_4 a_how_many_2 a_nth_house_2 a_bar_of_4 a_blame_3 a_need_house_3 a_core_3 a_mend_2 a_shows_mend_2 a_least_mend_2 a_greatest_house_2 a_follows_3 a_which_2 a_keeps_2 a_is_beginning a_House___init__ a_shows_bar_2 a_least_by a_strongest_below a_why_least_2 a_greatest_by a_strongest_above a_why_greatest_2 a__law_refused_2 a_law a_House a_BadHouse a_BadSaying tk_LEAST_BASE tk_MOST_BASE) (G_may_be_4 : FnOk P w K mg base (L2.CX P w) 5 a_may_be_4 fd_may_be_4 ["k", "sayings", "place", "reach"] (liftE K (xcl a_BadHouse a_BadSaying) (sp_may_be_4))) (b_may_be_4 : Binds K fd_may_be_4 ["k", "sayings", "place", "reach"] [Value.none]) : LamOk P w K mg base 6 (LtK 11) (xcl a_BadHouse a_BadSaying) (fun as t Pq Px => d_lam11 (Cl.mk a_House a_law a_law a_law a_law) (as.map Sl.val) t Pq Px) := by
  refine lam_okE (dx := d_lam11 (Cl.mk a_House a_law a_law a_law a_law)) ⟨by rfl, by rfl, by rfl, by decide +kernel, by decide +kernel, fun _ _ _ _ => by rfl⟩ (fun A outer s H E f c' Z B hr hB hm => ?_) (fun ls t Pq Px h hl => by rw [start0_all hl]; exact h)
  exact (z_call (pe_callDS G_may_be_4 (hr.mono (by decide)) rfl T.g_may_be_4 T.k_may_be_4 b_may_be_4 (dvs := [.non]) (.cons rfl .nil) (fun _ _ => RelL.cons (by unfold RelD; rfl) RelL.nil) (fun σ => passAt (takes_of rfl rfl rfl rfl) σ) (q_acons (q_var (pv 1)) (q_acons (q_var (pv 0)) (q_acons q_int q_anil)))))
theorem ok_lam12 {fd_may_be_4 : FuncData} (T : Tx K mg a__law_calls a__law_draw a__law_handed a__law_pick a__law_odd_6 a__law_pen a_is_whole a_is_base a_BadHouse___init__ a_need_base_2 a_is_listing a_is_count a_is_saying_a a_BadSaying___init__ a_need_sayings_3 a_reaches_3 a_least_house_2 a_need_one_more_2 a_shows_follows_3 a_may_be_4 a_how_many_2 a_nth_house_2 a_bar_of_4 a_blame_3 a_need_house_3 a_core_3 a_mend_2 a_shows_mend_2 a_least_mend_2 a_greatest_house_2 a_follows_3 a_which_2 a_keeps_2 a_is_beginning a_House___init__ a_shows_bar_2 a_least_by a_strongest_below a_why_least_2 a_greatest_by a_strongest_above a_why_greatest_2 a__law_refused_2 a_law a_House a_BadHouse a_BadSaying tk_LEAST_BASE tk_MOST_BASE) (G_may_be_4 : FnOk P w K mg base (L2.CX P w) 5 a_may_be_4 fd_may_be_4 ["k", "sayings", "place", "reach"] (liftE K (xcl a_BadHouse a_BadSaying) (sp_may_be_4))) (kp_may_be_4_0 : KBn K fd_may_be_4 ["k", "sayings", "place", "reach"] 3 ["reach"] (gP [0]) (gP [0])) : LamOk P w K mg base 6 (LtK 12) (xcl a_BadHouse a_BadSaying) (fun as t Pq Px => d_lam12 (Cl.mk a_House a_law a_law a_law a_law) (as.map Sl.val) t Pq Px) := by
  refine lam_okE (dx := d_lam12 (Cl.mk a_House a_law a_law a_law a_law)) ⟨by rfl, by rfl, by rfl, by decide +kernel, by decide +kernel, fun _ _ _ _ => by rfl⟩ (fun A outer s H E f c' Z B hr hB hm => ?_) (fun ls t Pq Px h hl => by rw [start0_all hl]; exact h)
  exact (z_call (pe_callPS G_may_be_4 (hr.mono (by decide)) rfl T.g_may_be_4 T.k_may_be_4 kp_may_be_4_0 (fun σ => passAt (takes_of rfl rfl rfl rfl) σ) (q_acons (q_var (pv 1)) (q_acons (q_var (pv 0)) (q_acons q_int q_anil))) (q_kcons q_int q_knil)))
theorem sc_how_many_2 : FnScope N_how_many_2 ["k", "sayings", "reach"] (defScope s_how_many_2) := ⟨rfl, rfl, rfl, by decide +kernel, rfl, by decide +kernel, by decide +kernel⟩
theorem ok_how_many_2 {fd fd_need_base_2 fd_need_sayings_3 : FuncData} (F : Fun K "how_many" "how_many" s_how_many_2 a_how_many_2 fd) (T : Tx K mg a__law_calls a__law_draw a__law_handed a__law_pick a__law_odd_6 a__law_pen a_is_whole a_is_base a_BadHouse___init__ a_need_base_2 a_is_listing a_is_count a_is_saying_a a_BadSaying___init__ a_need_sayings_3 a_reaches_3 a_least_house_2 a_need_one_more_2 a_shows_follows_3 a_may_be_4 a_how_many_2 a_nth_house_2 a_bar_of_4 a_blame_3 a_need_house_3 a_core_3 a_mend_2 a_shows_mend_2 a_least_mend_2 a_greatest_house_2 a_follows_3 a_which_2 a_keeps_2 a_is_beginning a_House___init__ a_shows_bar_2 a_least_by a_strongest_below a_why_least_2 a_greatest_by a_strongest_above a_why_greatest_2 a__law_refused_2 a_law a_House a_BadHouse a_BadSaying tk_LEAST_BASE tk_MOST_BASE) (G_need_base_2 : FnOk P w K mg base (L2.CX P w) 3 a_need_base_2 fd_need_base_2 ["k"] (liftE K (xcl a_BadHouse a_BadSaying) (sp_need_base_2))) (b_need_base_2 : Binds K fd_need_base_2 ["k"] []) (G_need_sayings_3 : FnOk P w K mg base (L2.CX P w) 4 a_need_sayings_3 fd_need_sayings_3 ["sayings"] (liftE K (xcl a_BadHouse a_BadSaying) (sp_need_sayings_3))) (b_need_sayings_3 : Binds K fd_need_sayings_3 ["sayings"] []) : FnOk P w K mg base (L2.CX P w) 5 a_how_many_2 fd ["k", "sayings", "reach"] (liftE K (xcl a_BadHouse a_BadSaying) (sp_how_many_2)) := by
  refine fn_okE (cl := (xcl a_BadHouse a_BadSaying)) (ds := d_how_many_2) F sc_how_many_2 (len_how_many_2) (fun cdv A outer s H E B Px hr hB hm hE => ?_) (d_how_many_2_ok)
  exact (q_cons (q_drop (q_XE (W := fun c d _ H => E c d H) hE (z_call (pe_callS G_need_base_2 (hr.mono (by decide)) rfl T.g_need_base_2 T.k_need_base_2 b_need_base_2 (fun σ => passAt (takes_of rfl rfl rfl rfl) σ) (q_acons (q_var (pv 0)) q_anil))))) (q_cons (q_drop (q_XE (W := fun c d _ H => E c d H) hE (z_call (pe_callS G_need_sayings_3 (hr.mono (by decide)) rfl T.g_need_sayings_3 T.k_need_sayings_3 b_need_sayings_3 (fun σ => passAt (takes_of rfl rfl rfl rfl) σ) (q_acons (q_var (pv 1)) q_anil))))) (q_cons q_never (q_cons q_never (q_cons q_never q_nil)))))
theorem ok_lam13 {fd_how_many_2 : FuncData} (T : Tx K mg a__law_calls a__law_draw a__law_handed a__law_pick a__law_odd_6 a__law_pen a_is_whole a_is_base a_BadHouse___init__ a_need_base_2 a_is_listing a_is_count a_is_saying_a a_BadSaying___init__ a_need_sayings_3 a_reaches_3 a_least_house_2 a_need_one_more_2 a_shows_follows_3 a_may_be_4 a_how_many_2 a_nth_house_2 a_bar_of_4 a_blame_3 a_need_house_3 a_core_3 a_mend_2 a_shows_mend_2 a_least_mend_2 a_greatest_house_2 a_follows_3 a_which_2 a_keeps_2 a_is_beginning a_House___init__ a_shows_bar_2 a_least_by a_strongest_below a_why_least_2 a_greatest_by a_strongest_above a_why_greatest_2 a__law_refused_2 a_law a_House a_BadHouse a_BadSaying tk_LEAST_BASE tk_MOST_BASE) (G_how_many_2 : FnOk P w K mg base (L2.CX P w) 5 a_how_many_2 fd_how_many_2 ["k", "sayings", "reach"] (liftE K (xcl a_BadHouse a_BadSaying) (sp_how_many_2))) (b_how_many_2 : Binds K fd_how_many_2 ["k", "sayings", "reach"] []) : LamOk P w K mg base 6 (LtK 13) (xcl a_BadHouse a_BadSaying) (fun as t Pq Px => d_lam13 (Cl.mk a_House a_law a_law a_law a_law) (as.map Sl.val) t Pq Px) := by
  refine lam_okE (dx := d_lam13 (Cl.mk a_House a_law a_law a_law a_law)) ⟨by rfl, by rfl, by rfl, by decide +kernel, by decide +kernel, fun _ _ _ _ => by rfl⟩ (fun A outer s H E f c' Z B hr hB hm => ?_) (fun ls t Pq Px h hl => by rw [start0_all hl]; exact h)
  exact (z_call (pe_callS G_how_many_2 (hr.mono (by decide)) rfl T.g_how_many_2 T.k_how_many_2 b_how_many_2 (fun σ => passAt (takes_of rfl rfl rfl rfl) σ) (q_acons (q_var (pv 1)) (q_acons (q_var (pv 0)) (q_acons q_int q_anil)))))
theorem sc_nth_house_2 : FnScope N_nth_house_2 ["k", "sayings", "reach", "place"] (defScope s_nth_house_2) := ⟨rfl, rfl, rfl, by decide +kernel, rfl, by decide +kernel, by decide +kernel⟩
theorem ok_nth_house_2 {fd fd_how_many_2 : FuncData} (F : Fun K "nth_house" "nth_house" s_nth_house_2 a_nth_house_2 fd) (T : Tx K mg a__law_calls a__law_draw a__law_handed a__law_pick a__law_odd_6 a__law_pen a_is_whole a_is_base a_BadHouse___init__ a_need_base_2 a_is_listing a_is_count a_is_saying_a a_BadSaying___init__ a_need_sayings_3 a_reaches_3 a_least_house_2 a_need_one_more_2 a_shows_follows_3 a_may_be_4 a_how_many_2 a_nth_house_2 a_bar_of_4 a_blame_3 a_need_house_3 a_core_3 a_mend_2 a_shows_mend_2 a_least_mend_2 a_greatest_house_2 a_follows_3 a_which_2 a_keeps_2 a_is_beginning a_House___init__ a_shows_bar_2 a_least_by a_strongest_below a_why_least_2 a_greatest_by a_strongest_above a_why_greatest_2 a__law_refused_2 a_law a_House a_BadHouse a_BadSaying tk_LEAST_BASE tk_MOST_BASE) (G_how_many_2 : FnOk P w K mg base (L2.CX P w) 5 a_how_many_2 fd_how_many_2 ["k", "sayings", "reach"] (liftE K (xcl a_BadHouse a_BadSaying) (sp_how_many_2))) (b_how_many_2 : Binds K fd_how_many_2 ["k", "sayings", "reach"] []) : FnOk P w K mg base (L2.CX P w) 6 a_nth_house_2 fd ["k", "sayings", "reach", "place"] (liftE K (xcl a_BadHouse a_BadSaying) (sp_nth_house_2)) := by
  refine fn_okE (cl := (xcl a_BadHouse a_BadSaying)) (ds := d_nth_house_2) F sc_nth_house_2 (len_nth_house_2) (fun cdv A outer s H E B Px hr hB hm hE => ?_) (d_nth_house_2_ok)
  exact (q_cons (q_if (q_tcmp op_le rop_le (toV (q_XE (W := fun c d _ H => E c d H) hE (z_call (pe_callS G_how_many_2 (hr.mono (by decide)) rfl T.g_how_many_2 T.k_how_many_2 b_how_many_2 (fun σ => passAt (takes_of rfl rfl rfl rfl) σ) (q_acons (q_var (pv 0)) (q_acons (q_var (pv 1)) (q_acons (q_var (pv 2)) q_anil))))))) (toV (q_var (pv 3))) (nomark _)) (q_cons q_never q_nil) q_nil) (q_cons q_never (q_cons q_never (q_cons q_never (q_frz (i := 6) hB (q_cons q_never q_nil))))))
theorem ok_lam14 {fd_nth_house_2 : FuncData} (T : Tx K mg a__law_calls a__law_draw a__law_handed a__law_pick a__law_odd_6 a__law_pen a_is_whole a_is_base a_BadHouse___init__ a_need_base_2 a_is_listing a_is_count a_is_saying_a a_BadSaying___init__ a_need_sayings_3 a_reaches_3 a_least_house_2 a_need_one_more_2 a_shows_follows_3 a_may_be_4 a_how_many_2 a_nth_house_2 a_bar_of_4 a_blame_3 a_need_house_3 a_core_3 a_mend_2 a_shows_mend_2 a_least_mend_2 a_greatest_house_2 a_follows_3 a_which_2 a_keeps_2 a_is_beginning a_House___init__ a_shows_bar_2 a_least_by a_strongest_below a_why_least_2 a_greatest_by a_strongest_above a_why_greatest_2 a__law_refused_2 a_law a_House a_BadHouse a_BadSaying tk_LEAST_BASE tk_MOST_BASE) (G_nth_house_2 : FnOk P w K mg base (L2.CX P w) 6 a_nth_house_2 fd_nth_house_2 ["k", "sayings", "reach", "place"] (liftE K (xcl a_BadHouse a_BadSaying) (sp_nth_house_2))) (b_nth_house_2 : Binds K fd_nth_house_2 ["k", "sayings", "reach", "place"] []) : LamOk P w K mg base 7 (LtK 14) (xcl a_BadHouse a_BadSaying) (fun as t Pq Px => d_lam14 (Cl.mk a_House a_law a_law a_law a_law) (as.map Sl.val) t Pq Px) := by
  refine lam_okE (dx := d_lam14 (Cl.mk a_House a_law a_law a_law a_law)) ⟨by rfl, by rfl, by rfl, by decide +kernel, by decide +kernel, fun _ _ _ _ => by rfl⟩ (fun A outer s H E f c' Z B hr hB hm => ?_) (fun ls t Pq Px h hl => by rw [start0_all hl]; exact h)
  exact (z_call (pe_callS G_nth_house_2 (hr.mono (by decide)) rfl T.g_nth_house_2 T.k_nth_house_2 b_nth_house_2 (fun σ => passAt (takes_of rfl rfl rfl rfl) σ) (q_acons (q_var (pv 1)) (q_acons (q_var (pv 0)) (q_acons q_int (q_acons q_int q_anil))))))
theorem sc_bar_of_4 : FnScope N_bar_of_4 ["k", "sayings", "reach"] (defScope s_bar_of_4) := ⟨rfl, rfl, rfl, by decide +kernel, rfl, by decide +kernel, by decide +kernel⟩
theorem ok_bar_of_4 {fd fd_need_base_2 fd_need_sayings_3 : FuncData} (F : Fun K "bar_of" "bar_of" s_bar_of_4 a_bar_of_4 fd) (T : Tx K mg a__law_calls a__law_draw a__law_handed a__law_pick a__law_odd_6 a__law_pen a_is_whole a_is_base a_BadHouse___init__ a_need_base_2 a_is_listing a_is_count a_is_saying_a a_BadSaying___init__ a_need_sayings_3 a_reaches_3 a_least_house_2 a_need_one_more_2 a_shows_follows_3 a_may_be_4 a_how_many_2 a_nth_house_2 a_bar_of_4 a_blame_3 a_need_house_3 a_core_3 a_mend_2 a_shows_mend_2 a_least_mend_2 a_greatest_house_2 a_follows_3 a_which_2 a_keeps_2 a_is_beginning a_House___init__ a_shows_bar_2 a_least_by a_strongest_below a_why_least_2 a_greatest_by a_strongest_above a_why_greatest_2 a__law_refused_2 a_law a_House a_BadHouse a_BadSaying tk_LEAST_BASE tk_MOST_BASE) (G_need_base_2 : FnOk P w K mg base (L2.CX P w) 3 a_need_base_2 fd_need_base_2 ["k"] (liftE K (xcl a_BadHouse a_BadSaying) (sp_need_base_2))) (b_need_base_2 : Binds K fd_need_base_2 ["k"] []) (G_need_sayings_3 : FnOk P w K mg base (L2.CX P w) 4 a_need_sayings_3 fd_need_sayings_3 ["sayings"] (liftE K (xcl a_BadHouse a_BadSaying) (sp_need_sayings_3))) (b_need_sayings_3 : Binds K fd_need_sayings_3 ["sayings"] []) : FnOk P w K mg base (L2.CX P w) 5 a_bar_of_4 fd ["k", "sayings", "reach"] (liftE K (xcl a_BadHouse a_BadSaying) (sp_bar_of_4)) := by
  refine fn_okE (cl := (xcl a_BadHouse a_BadSaying)) (ds := d_bar_of_4) F sc_bar_of_4 (len_bar_of_4) (fun cdv A outer s H E B Px hr hB hm hE => ?_) (d_bar_of_4_ok)
  exact (q_cons (q_drop (q_XE (W := fun c d _ H => E c d H) hE (z_call (pe_callS G_need_base_2 (hr.mono (by decide)) rfl T.g_need_base_2 T.k_need_base_2 b_need_base_2 (fun σ => passAt (takes_of rfl rfl rfl rfl) σ) (q_acons (q_var (pv 0)) q_anil))))) (q_cons (q_drop (q_XE (W := fun c d _ H => E c d H) hE (z_call (pe_callS G_need_sayings_3 (hr.mono (by decide)) rfl T.g_need_sayings_3 T.k_need_sayings_3 b_need_sayings_3 (fun σ => passAt (takes_of rfl rfl rfl rfl) σ) (q_acons (q_var (pv 1)) q_anil))))) (q_cons q_never q_nil)))
theorem sc_blame_3 : FnScope N_blame_3 ["k", "sayings"] (defScope s_blame_3) := ⟨rfl, rfl, rfl, by decide +kernel, rfl, by decide +kernel, by decide +kernel⟩
theorem ok_blame_3 {fd fd_bar_of_4 : FuncData} (F : Fun K "blame" "blame" s_blame_3 a_blame_3 fd) (T : Tx K mg a__law_calls a__law_draw a__law_handed a__law_pick a__law_odd_6 a__law_pen a_is_whole a_is_base a_BadHouse___init__ a_need_base_2 a_is_listing a_is_count a_is_saying_a a_BadSaying___init__ a_need_sayings_3 a_reaches_3 a_least_house_2 a_need_one_more_2 a_shows_follows_3 a_may_be_4 a_how_many_2 a_nth_house_2 a_bar_of_4 a_blame_3 a_need_house_3 a_core_3 a_mend_2 a_shows_mend_2 a_least_mend_2 a_greatest_house_2 a_follows_3 a_which_2 a_keeps_2 a_is_beginning a_House___init__ a_shows_bar_2 a_least_by a_strongest_below a_why_least_2 a_greatest_by a_strongest_above a_why_greatest_2 a__law_refused_2 a_law a_House a_BadHouse a_BadSaying tk_LEAST_BASE tk_MOST_BASE) (G_bar_of_4 : FnOk P w K mg base (L2.CX P w) 5 a_bar_of_4 fd_bar_of_4 ["k", "sayings", "reach"] (liftE K (xcl a_BadHouse a_BadSaying) (sp_bar_of_4))) (b_bar_of_4 : Binds K fd_bar_of_4 ["k", "sayings", "reach"] [Value.none]) : FnOk P w K mg base (L2.CX P w) 6 a_blame_3 fd ["k", "sayings"] (liftE K (xcl a_BadHouse a_BadSaying) (sp_blame_3)) := by
  refine fn_okE (cl := (xcl a_BadHouse a_BadSaying)) (ds := d_blame_3) F sc_blame_3 (len_blame_3) (fun cdv A outer s H E B Px hr hB hm hE => ?_) (d_blame_3_ok)
  exact (q_cons (q_set (i := 2) sc_blame_3.nd rfl (Or.inl rfl) (q_XE (W := fun c d _ H => E c d H) hE (z_call (pe_callDS G_bar_of_4 (hr.mono (by decide)) rfl T.g_bar_of_4 T.k_bar_of_4 b_bar_of_4 (dvs := [.non]) (.cons rfl .nil) (fun _ _ => RelL.cons (by unfold RelD; rfl) RelL.nil) (fun σ => passAt (takes_of rfl rfl rfl rfl) σ) (q_acons (q_var (pv 0)) (q_acons (q_var (pv 1)) q_anil)))))) (q_cons q_never (q_cons q_never (q_cons q_never q_nil))))
theorem ok_lam15 {fd_blame_3 : FuncData} (T : Tx K mg a__law_calls a__law_draw a__law_handed a__law_pick a__law_odd_6 a__law_pen a_is_whole a_is_base a_BadHouse___init__ a_need_base_2 a_is_listing a_is_count a_is_saying_a a_BadSaying___init__ a_need_sayings_3 a_reaches_3 a_least_house_2 a_need_one_more_2 a_shows_follows_3 a_may_be_4 a_how_many_2 a_nth_house_2 a_bar_of_4 a_blame_3 a_need_house_3 a_core_3 a_mend_2 a_shows_mend_2 a_least_mend_2 a_greatest_house_2 a_follows_3 a_which_2 a_keeps_2 a_is_beginning a_House___init__ a_shows_bar_2 a_least_by a_strongest_below a_why_least_2 a_greatest_by a_strongest_above a_why_greatest_2 a__law_refused_2 a_law a_House a_BadHouse a_BadSaying tk_LEAST_BASE tk_MOST_BASE) (G_blame_3 : FnOk P w K mg base (L2.CX P w) 6 a_blame_3 fd_blame_3 ["k", "sayings"] (liftE K (xcl a_BadHouse a_BadSaying) (sp_blame_3))) (b_blame_3 : Binds K fd_blame_3 ["k", "sayings"] []) : LamOk P w K mg base 7 (LtK 15) (xcl a_BadHouse a_BadSaying) (fun as t Pq Px => d_lam15 (Cl.mk a_House a_law a_law a_law a_law) (as.map Sl.val) t Pq Px) := by
  refine lam_okE (dx := d_lam15 (Cl.mk a_House a_law a_law a_law a_law)) ⟨by rfl, by rfl, by rfl, by decide +kernel, by decide +kernel, fun _ _ _ _ => by rfl⟩ (fun A outer s H E f c' Z B hr hB hm => ?_) (fun ls t Pq Px h hl => by rw [start0_all hl]; exact h)
  exact (z_call (pe_callS G_blame_3 (hr.mono (by decide)) rfl T.g_blame_3 T.k_blame_3 b_blame_3 (fun σ => passAt (takes_of rfl rfl rfl rfl) σ) (q_acons (q_var (pv 1)) (q_acons (q_var (pv 0)) q_anil))))
theorem sc_need_house_3 : FnScope N_need_house_3 ["k", "sayings"] (defScope s_need_house_3) := ⟨rfl, rfl, rfl, by decide +kernel, rfl, by decide +kernel, by decide +kernel⟩
theorem ok_need_house_3 {fd fd_need_base_2 fd_need_sayings_3 : FuncData} (F : Fun K "need_house" "need_house" s_need_house_3 a_need_house_3 fd) (T : Tx K mg a__law_calls a__law_draw a__law_handed a__law_pick a__law_odd_6 a__law_pen a_is_whole a_is_base a_BadHouse___init__ a_need_base_2 a_is_listing a_is_count a_is_saying_a a_BadSaying___init__ a_need_sayings_3 a_reaches_3 a_least_house_2 a_need_one_more_2 a_shows_follows_3 a_may_be_4 a_how_many_2 a_nth_house_2 a_bar_of_4 a_blame_3 a_need_house_3 a_core_3 a_mend_2 a_shows_mend_2 a_least_mend_2 a_greatest_house_2 a_follows_3 a_which_2 a_keeps_2 a_is_beginning a_House___init__ a_shows_bar_2 a_least_by a_strongest_below a_why_least_2 a_greatest_by a_strongest_above a_why_greatest_2 a__law_refused_2 a_law a_House a_BadHouse a_BadSaying tk_LEAST_BASE tk_MOST_BASE) (G_need_base_2 : FnOk P w K mg base (L2.CX P w) 3 a_need_base_2 fd_need_base_2 ["k"] (liftE K (xcl a_BadHouse a_BadSaying) (sp_need_base_2))) (b_need_base_2 : Binds K fd_need_base_2 ["k"] []) (G_need_sayings_3 : FnOk P w K mg base (L2.CX P w) 4 a_need_sayings_3 fd_need_sayings_3 ["sayings"] (liftE K (xcl a_BadHouse a_BadSaying) (sp_need_sayings_3))) (b_need_sayings_3 : Binds K fd_need_sayings_3 ["sayings"] []) : FnOk P w K mg base (L2.CX P w) 5 a_need_house_3 fd ["k", "sayings"] (liftE K (xcl a_BadHouse a_BadSaying) (sp_need_house_3)) := by
  refine fn_okE (cl := (xcl a_BadHouse a_BadSaying)) (ds := d_need_house_3) F sc_need_house_3 (len_need_house_3) (fun cdv A outer s H E B Px hr hB hm hE => ?_) (d_need_house_3_ok)
  exact (q_cons (q_drop (q_XE (W := fun c d _ H => E c d H) hE (z_call (pe_callS G_need_base_2 (hr.mono (by decide)) rfl T.g_need_base_2 T.k_need_base_2 b_need_base_2 (fun σ => passAt (takes_of rfl rfl rfl rfl) σ) (q_acons (q_var (pv 0)) q_anil))))) (q_cons (q_drop (q_XE (W := fun c d _ H => E c d H) hE (z_call (pe_callS G_need_sayings_3 (hr.mono (by decide)) rfl T.g_need_sayings_3 T.k_need_sayings_3 b_need_sayings_3 (fun σ => passAt (takes_of rfl rfl rfl rfl) σ) (q_acons (q_var (pv 1)) q_anil))))) (q_cons q_never (q_cons q_never (q_cons q_never q_nil)))))
theorem sc_core_3 : FnScope N_core_3 ["k", "sayings"] (defScope s_core_3) := ⟨rfl, rfl, rfl, by decide +kernel, rfl, by decide +kernel, by decide +kernel⟩
theorem ok_core_3 {fd fd_need_house_3 : FuncData} (F : Fun K "core" "core" s_core_3 a_core_3 fd) (T : Tx K mg a__law_calls a__law_draw a__law_handed a__law_pick a__law_odd_6 a__law_pen a_is_whole a_is_base a_BadHouse___init__ a_need_base_2 a_is_listing a_is_count a_is_saying_a a_BadSaying___init__ a_need_sayings_3 a_reaches_3 a_least_house_2 a_need_one_more_2 a_shows_follows_3 a_may_be_4 a_how_many_2 a_nth_house_2 a_bar_of_4 a_blame_3 a_need_house_3 a_core_3 a_mend_2 a_shows_mend_2 a_least_mend_2 a_greatest_house_2 a_follows_3 a_which_2 a_keeps_2 a_is_beginning a_House___init__ a_shows_bar_2 a_least_by a_strongest_below a_why_least_2 a_greatest_by a_strongest_above a_why_greatest_2 a__law_refused_2 a_law a_House a_BadHouse a_BadSaying tk_LEAST_BASE tk_MOST_BASE) (G_need_house_3 : FnOk P w K mg base (L2.CX P w) 5 a_need_house_3 fd_need_house_3 ["k", "sayings"] (liftE K (xcl a_BadHouse a_BadSaying) (sp_need_house_3))) (b_need_house_3 : Binds K fd_need_house_3 ["k", "sayings"] []) : FnOk P w K mg base (L2.CX P w) 6 a_core_3 fd ["k", "sayings"] (liftE K (xcl a_BadHouse a_BadSaying) (sp_core_3)) := by
  refine fn_okE (cl := (xcl a_BadHouse a_BadSaying)) (ds := d_core_3) F sc_core_3 (len_core_3) (fun cdv A outer s H E B Px hr hB hm hE => ?_) (d_core_3_ok)
  exact (q_cons (q_drop (q_XE (W := fun c d _ H => E c d H) hE (z_call (pe_callS G_need_house_3 (hr.mono (by decide)) rfl T.g_need_house_3 T.k_need_house_3 b_need_house_3 (fun σ => passAt (takes_of rfl rfl rfl rfl) σ) (q_acons (q_var (pv 0)) (q_acons (q_var (pv 1)) q_anil)))))) (q_cons q_never (q_cons q_never (q_cons q_never q_nil))))
theorem ok_lam16 {fd_core_3 : FuncData} (T : Tx K mg a__law_calls a__law_draw a__law_handed a__law_pick a__law_odd_6 a__law_pen a_is_whole a_is_base a_BadHouse___init__ a_need_base_2 a_is_listing a_is_count a_is_saying_a a_BadSaying___init__ a_need_sayings_3 a_reaches_3 a_least_house_2 a_need_one_more_2 a_shows_follows_3 a_may_be_4 a_how_many_2 a_nth_house_2 a_bar_of_4 a_blame_3 a_need_house_3 a_core_3 a_mend_2 a_shows_mend_2 a_least_mend_2 a_greatest_house_2 a_follows_3 a_which_2 a_keeps_2 a_is_beginning a_House___init__ a_shows_bar_2 a_least_by a_strongest_below a_why_least_2 a_greatest_by a_strongest_above a_why_greatest_2 a__law_refused_2 a_law a_House a_BadHouse a_BadSaying tk_LEAST_BASE tk_MOST_BASE) (G_core_3 : FnOk P w K mg base (L2.CX P w) 6 a_core_3 fd_core_3 ["k", "sayings"] (liftE K (xcl a_BadHouse a_BadSaying) (sp_core_3))) (b_core_3 : Binds K fd_core_3 ["k", "sayings"] []) : LamOk P w K mg base 7 (LtK 16) (xcl a_BadHouse a_BadSaying) (fun as t Pq Px => d_lam16 (Cl.mk a_House a_law a_law a_law a_law) (as.map Sl.val) t Pq Px) := by
  refine lam_okE (dx := d_lam16 (Cl.mk a_House a_law a_law a_law a_law)) ⟨by rfl, by rfl, by rfl, by decide +kernel, by decide +kernel, fun _ _ _ _ => by rfl⟩ (fun A outer s H E f c' Z B hr hB hm => ?_) (fun ls t Pq Px h hl => by rw [start0_all hl]; exact h)
  exact (z_call (pe_callS G_core_3 (hr.mono (by decide)) rfl T.g_core_3 T.k_core_3 b_core_3 (fun σ => passAt (takes_of rfl rfl rfl rfl) σ) (q_acons (q_var (pv 1)) (q_acons (q_var (pv 0)) q_anil))))
theorem sc_mend_2 : FnScope N_mend_2 ["k", "sayings", "reach", "prices"] (defScope s_mend_2) := ⟨rfl, rfl, rfl, by decide +kernel, rfl, by decide +kernel, by decide +kernel⟩
theorem ok_mend_2 {fd fd_need_base_2 fd_need_sayings_3 : FuncData} (F : Fun K "mend" "mend" s_mend_2 a_mend_2 fd) (T : Tx K mg a__law_calls a__law_draw a__law_handed a__law_pick a__law_odd_6 a__law_pen a_is_whole a_is_base a_BadHouse___init__ a_need_base_2 a_is_listing a_is_count a_is_saying_a a_BadSaying___init__ a_need_sayings_3 a_reaches_3 a_least_house_2 a_need_one_more_2 a_shows_follows_3 a_may_be_4 a_how_many_2 a_nth_house_2 a_bar_of_4 a_blame_3 a_need_house_3 a_core_3 a_mend_2 a_shows_mend_2 a_least_mend_2 a_greatest_house_2 a_follows_3 a_which_2 a_keeps_2 a_is_beginning a_House___init__ a_shows_bar_2 a_least_by a_strongest_below a_why_least_2 a_greatest_by a_strongest_above a_why_greatest_2 a__law_refused_2 a_law a_House a_BadHouse a_BadSaying tk_LEAST_BASE tk_MOST_BASE) (G_need_base_2 : FnOk P w K mg base (L2.CX P w) 3 a_need_base_2 fd_need_base_2 ["k"] (liftE K (xcl a_BadHouse a_BadSaying) (sp_need_base_2))) (b_need_base_2 : Binds K fd_need_base_2 ["k"] []) (G_need_sayings_3 : FnOk P w K mg base (L2.CX P w) 4 a_need_sayings_3 fd_need_sayings_3 ["sayings"] (liftE K (xcl a_BadHouse a_BadSaying) (sp_need_sayings_3))) (b_need_sayings_3 : Binds K fd_need_sayings_3 ["sayings"] []) : FnOk P w K mg base (L2.CX P w) 5 a_mend_2 fd ["k", "sayings", "reach", "prices"] (liftE K (xcl a_BadHouse a_BadSaying) (sp_mend_2)) := by
  refine fn_okE (cl := (xcl a_BadHouse a_BadSaying)) (ds := d_mend_2) F sc_mend_2 (len_mend_2) (fun cdv A outer s H E B Px hr hB hm hE => ?_) (d_mend_2_ok)
  exact (q_cons (q_drop (q_XE (W := fun c d _ H => E c d H) hE (z_call (pe_callS G_need_base_2 (hr.mono (by decide)) rfl T.g_need_base_2 T.k_need_base_2 b_need_base_2 (fun σ => passAt (takes_of rfl rfl rfl rfl) σ) (q_acons (q_var (pv 0)) q_anil))))) (q_cons (q_drop (q_XE (W := fun c d _ H => E c d H) hE (z_call (pe_callS G_need_sayings_3 (hr.mono (by decide)) rfl T.g_need_sayings_3 T.k_need_sayings_3 b_need_sayings_3 (fun σ => passAt (takes_of rfl rfl rfl rfl) σ) (q_acons (q_var (pv 1)) q_anil))))) (q_cons q_never q_nil)))
theorem ok_lam17 {fd_mend_2 : FuncData} (T : Tx K mg a__law_calls a__law_draw a__law_handed a__law_pick a__law_odd_6 a__law_pen a_is_whole a_is_base a_BadHouse___init__ a_need_base_2 a_is_listing a_is_count a_is_saying_a a_BadSaying___init__ a_need_sayings_3 a_reaches_3 a_least_house_2 a_need_one_more_2 a_shows_follows_3 a_may_be_4 a_how_many_2 a_nth_house_2 a_bar_of_4 a_blame_3 a_need_house_3 a_core_3 a_mend_2 a_shows_mend_2 a_least_mend_2 a_greatest_house_2 a_follows_3 a_which_2 a_keeps_2 a_is_beginning a_House___init__ a_shows_bar_2 a_least_by a_strongest_below a_why_least_2 a_greatest_by a_strongest_above a_why_greatest_2 a__law_refused_2 a_law a_House a_BadHouse a_BadSaying tk_LEAST_BASE tk_MOST_BASE) (G_mend_2 : FnOk P w K mg base (L2.CX P w) 5 a_mend_2 fd_mend_2 ["k", "sayings", "reach", "prices"] (liftE K (xcl a_BadHouse a_BadSaying) (sp_mend_2))) (b_mend_2 : Binds K fd_mend_2 ["k", "sayings", "reach", "prices"] [Value.none]) : LamOk P w K mg base 6 (LtK 17) (xcl a_BadHouse a_BadSaying) (fun as t Pq Px => d_lam17 (Cl.mk a_House a_law a_law a_law a_law) (as.map Sl.val) t Pq Px) := by
  refine lam_okE (dx := d_lam17 (Cl.mk a_House a_law a_law a_law a_law)) ⟨by rfl, by rfl, by rfl, by decide +kernel, by decide +kernel, fun _ _ _ _ => by rfl⟩ (fun A outer s H E f c' Z B hr hB hm => ?_) (fun ls t Pq Px h hl => by rw [start0_all hl]; exact h)
  exact (z_call (pe_callDS G_mend_2 (hr.mono (by decide)) rfl T.g_mend_2 T.k_mend_2 b_mend_2 (dvs := [.non]) (.cons rfl .nil) (fun _ _ => RelL.cons (by unfold RelD; rfl) RelL.nil) (fun σ => passAt (takes_of rfl rfl rfl rfl) σ) (q_acons (q_var (pv 1)) (q_acons (q_var (pv 0)) (q_acons q_int q_anil)))))
theorem sc_shows_mend_2 : FnScope N_shows_mend_2 ["k", "sayings", "reach", "thing", "prices"] (defScope s_shows_mend_2) := ⟨rfl, rfl, rfl, by decide +kernel, rfl, by decide +kernel, by decide +kernel⟩
theorem ok_shows_mend_2 {fd fd_need_base_2 fd_need_sayings_3 : FuncData} (F : Fun K "shows_mend" "shows_mend" s_shows_mend_2 a_shows_mend_2 fd) (T : Tx K mg a__law_calls a__law_draw a__law_handed a__law_pick a__law_odd_6 a__law_pen a_is_whole a_is_base a_BadHouse___init__ a_need_base_2 a_is_listing a_is_count a_is_saying_a a_BadSaying___init__ a_need_sayings_3 a_reaches_3 a_least_house_2 a_need_one_more_2 a_shows_follows_3 a_may_be_4 a_how_many_2 a_nth_house_2 a_bar_of_4 a_blame_3 a_need_house_3 a_core_3 a_mend_2 a_shows_mend_2 a_least_mend_2 a_greatest_house_2 a_follows_3 a_which_2 a_keeps_2 a_is_beginning a_House___init__ a_shows_bar_2 a_least_by a_strongest_below a_why_least_2 a_greatest_by a_strongest_above a_why_greatest_2 a__law_refused_2 a_law a_House a_BadHouse a_BadSaying tk_LEAST_BASE tk_MOST_BASE) (G_need_base_2 : FnOk P w K mg base (L2.CX P w) 3 a_need_base_2 fd_need_base_2 ["k"] (liftE K (xcl a_BadHouse a_BadSaying) (sp_need_base_2))) (b_need_base_2 : Binds K fd_need_base_2 ["k"] []) (G_need_sayings_3 : FnOk P w K mg base (L2.CX P w) 4 a_need_sayings_3 fd_need_sayings_3 ["sayings"] (liftE K (xcl a_BadHouse a_BadSaying) (sp_need_sayings_3))) (b_need_sayings_3 : Binds K fd_need_sayings_3 ["sayings"] []) : FnOk P w K mg base (L2.CX P w) 5 a_shows_mend_2 fd ["k", "sayings", "reach", "thing", "prices"] (liftE K (xcl a_BadHouse a_BadSaying) (sp_shows_mend_2)) := by
  refine fn_okE (cl := (xcl a_BadHouse a_BadSaying)) (ds := d_shows_mend_2) F sc_shows_mend_2 (len_shows_mend_2) (fun cdv A outer s H E B Px hr hB hm hE => ?_) (d_shows_mend_2_ok)
  exact (q_cons (q_drop (q_XE (W := fun c d _ H => E c d H) hE (z_call (pe_callS G_need_base_2 (hr.mono (by decide)) rfl T.g_need_base_2 T.k_need_base_2 b_need_base_2 (fun σ => passAt (takes_of rfl rfl rfl rfl) σ) (q_acons (q_var (pv 0)) q_anil))))) (q_cons (q_drop (q_XE (W := fun c d _ H => E c d H) hE (z_call (pe_callS G_need_sayings_3 (hr.mono (by decide)) rfl T.g_need_sayings_3 T.k_need_sayings_3 b_need_sayings_3 (fun σ => passAt (takes_of rfl rfl rfl rfl) σ) (q_acons (q_var (pv 1)) q_anil))))) (q_cons q_never q_nil)))
theorem ok_lam18 {fd_shows_mend_2 : FuncData} (T : Tx K mg a__law_calls a__law_draw a__law_handed a__law_pick a__law_odd_6 a__law_pen a_is_whole a_is_base a_BadHouse___init__ a_need_base_2 a_is_listing a_is_count a_is_saying_a a_BadSaying___init__ a_need_sayings_3 a_reaches_3 a_least_house_2 a_need_one_more_2 a_shows_follows_3 a_may_be_4 a_how_many_2 a_nth_house_2 a_bar_of_4 a_blame_3 a_need_house_3 a_core_3 a_mend_2 a_shows_mend_2 a_least_mend_2 a_greatest_house_2 a_follows_3 a_which_2 a_keeps_2 a_is_beginning a_House___init__ a_shows_bar_2 a_least_by a_strongest_below a_why_least_2 a_greatest_by a_strongest_above a_why_greatest_2 a__law_refused_2 a_law a_House a_BadHouse a_BadSaying tk_LEAST_BASE tk_MOST_BASE) (G_shows_mend_2 : FnOk P w K mg base (L2.CX P w) 5 a_shows_mend_2 fd_shows_mend_2 ["k", "sayings", "reach", "thing", "prices"] (liftE K (xcl a_BadHouse a_BadSaying) (sp_shows_mend_2))) (b_shows_mend_2 : Binds K fd_shows_mend_2 ["k", "sayings", "reach", "thing", "prices"] [Value.none]) : LamOk P w K mg base 6 (LtK 18) (xcl a_BadHouse a_BadSaying) (fun as t Pq Px => d_lam18 (Cl.mk a_House a_law a_law a_law a_law) (as.map Sl.val) t Pq Px) := by
  refine lam_okE (dx := d_lam18 (Cl.mk a_House a_law a_law a_law a_law)) ⟨by rfl, by rfl, by rfl, by decide +kernel, by decide +kernel, fun _ _ _ _ => by rfl⟩ (fun A outer s H E f c' Z B hr hB hm => ?_) (fun ls t Pq Px h hl => by rw [start0_all hl]; exact h)
  exact (z_call (pe_callDS G_shows_mend_2 (hr.mono (by decide)) rfl T.g_shows_mend_2 T.k_shows_mend_2 b_shows_mend_2 (dvs := [.non]) (.cons rfl .nil) (fun _ _ => RelL.cons (by unfold RelD; rfl) RelL.nil) (fun σ => passAt (takes_of rfl rfl rfl rfl) σ) (q_acons (q_var (pv 1)) (q_acons (q_var (pv 0)) (q_acons q_int (q_acons (q_tup (q_acons (toE (q_lst q_anil)) (q_acons (toE (q_lst q_anil)) q_anil))) q_anil))))))
theorem sc_least_mend_2 : FnScope N_least_mend_2 ["k", "sayings", "prices"] (defScope s_least_mend_2) := ⟨rfl, rfl, rfl, by decide +kernel, rfl, by decide +kernel, by decide +kernel⟩
theorem ok_least_mend_2 {fd fd_need_base_2 fd_need_sayings_3 : FuncData} (F : Fun K "least_mend" "least_mend" s_least_mend_2 a_least_mend_2 fd) (T : Tx K mg a__law_calls a__law_draw a__law_handed a__law_pick a__law_odd_6 a__law_pen a_is_whole a_is_base a_BadHouse___init__ a_need_base_2 a_is_listing a_is_count a_is_saying_a a_BadSaying___init__ a_need_sayings_3 a_reaches_3 a_least_house_2 a_need_one_more_2 a_shows_follows_3 a_may_be_4 a_how_many_2 a_nth_house_2 a_bar_of_4 a_blame_3 a_need_house_3 a_core_3 a_mend_2 a_shows_mend_2 a_least_mend_2 a_greatest_house_2 a_follows_3 a_which_2 a_keeps_2 a_is_beginning a_House___init__ a_shows_bar_2 a_least_by a_strongest_below a_why_least_2 a_greatest_by a_strongest_above a_why_greatest_2 a__law_refused_2 a_law a_House a_BadHouse a_BadSaying tk_LEAST_BASE tk_MOST_BASE) (G_need_base_2 : FnOk P w K mg base (L2.CX P w) 3 a_need_base_2 fd_need_base_2 ["k"] (liftE K (xcl a_BadHouse a_BadSaying) (sp_need_base_2))) (b_need_base_2 : Binds K fd_need_base_2 ["k"] []) (G_need_sayings_3 : FnOk P w K mg base (L2.CX P w) 4 a_need_sayings_3 fd_need_sayings_3 ["sayings"] (liftE K (xcl a_BadHouse a_BadSaying) (sp_need_sayings_3))) (b_need_sayings_3 : Binds K fd_need_sayings_3 ["sayings"] []) : FnOk P w K mg base (L2.CX P w) 5 a_least_mend_2 fd ["k", "sayings", "prices"] (liftE K (xcl a_BadHouse a_BadSaying) (sp_least_mend_2)) := by
  refine fn_okE (cl := (xcl a_BadHouse a_BadSaying)) (ds := d_least_mend_2) F sc_least_mend_2 (len_least_mend_2) (fun cdv A outer s H E B Px hr hB hm hE => ?_) (d_least_mend_2_ok)
  exact (q_cons (q_drop (q_XE (W := fun c d _ H => E c d H) hE (z_call (pe_callS G_need_base_2 (hr.mono (by decide)) rfl T.g_need_base_2 T.k_need_base_2 b_need_base_2 (fun σ => passAt (takes_of rfl rfl rfl rfl) σ) (q_acons (q_var (pv 0)) q_anil))))) (q_cons (q_drop (q_XE (W := fun c d _ H => E c d H) hE (z_call (pe_callS G_need_sayings_3 (hr.mono (by decide)) rfl T.g_need_sayings_3 T.k_need_sayings_3 b_need_sayings_3 (fun σ => passAt (takes_of rfl rfl rfl rfl) σ) (q_acons (q_var (pv 1)) q_anil))))) (q_cons q_never (q_cons q_never (q_cons q_never (q_cons q_never (q_cons q_never q_nil)))))))
theorem ok_lam19 {fd_least_mend_2 : FuncData} (T : Tx K mg a__law_calls a__law_draw a__law_handed a__law_pick a__law_odd_6 a__law_pen a_is_whole a_is_base a_BadHouse___init__ a_need_base_2 a_is_listing a_is_count a_is_saying_a a_BadSaying___init__ a_need_sayings_3 a_reaches_3 a_least_house_2 a_need_one_more_2 a_shows_follows_3 a_may_be_4 a_how_many_2 a_nth_house_2 a_bar_of_4 a_blame_3 a_need_house_3 a_core_3 a_mend_2 a_shows_mend_2 a_least_mend_2 a_greatest_house_2 a_follows_3 a_which_2 a_keeps_2 a_is_beginning a_House___init__ a_shows_bar_2 a_least_by a_strongest_below a_why_least_2 a_greatest_by a_strongest_above a_why_greatest_2 a__law_refused_2 a_law a_House a_BadHouse a_BadSaying tk_LEAST_BASE tk_MOST_BASE) (G_least_mend_2 : FnOk P w K mg base (L2.CX P w) 5 a_least_mend_2 fd_least_mend_2 ["k", "sayings", "prices"] (liftE K (xcl a_BadHouse a_BadSaying) (sp_least_mend_2))) (b_least_mend_2 : Binds K fd_least_mend_2 ["k", "sayings", "prices"] [Value.none]) : LamOk P w K mg base 6 (LtK 19) (xcl a_BadHouse a_BadSaying) (fun as t Pq Px => d_lam19 (Cl.mk a_House a_law a_law a_law a_law) (as.map Sl.val) t Pq Px) := by
  refine lam_okE (dx := d_lam19 (Cl.mk a_House a_law a_law a_law a_law)) ⟨by rfl, by rfl, by rfl, by decide +kernel, by decide +kernel, fun _ _ _ _ => by rfl⟩ (fun A outer s H E f c' Z B hr hB hm => ?_) (fun ls t Pq Px h hl => by rw [start0_all hl]; exact h)
  exact (z_call (pe_callDS G_least_mend_2 (hr.mono (by decide)) rfl T.g_least_mend_2 T.k_least_mend_2 b_least_mend_2 (dvs := [.non]) (.cons rfl .nil) (fun _ _ => RelL.cons (by unfold RelD; rfl) RelL.nil) (fun σ => passAt (takes_of rfl rfl rfl rfl) σ) (q_acons (q_var (pv 1)) (q_acons (q_var (pv 0)) q_anil))))
theorem sc_greatest_house_2 : FnScope N_greatest_house_2 ["k", "sayings", "reach"] (defScope s_greatest_house_2) := ⟨rfl, rfl, rfl, by decide +kernel, rfl, by decide +kernel, by decide +kernel⟩
theorem ok_greatest_house_2 {fd fd_need_base_2 fd_need_sayings_3 : FuncData} (F : Fun K "greatest_house" "greatest_house" s_greatest_house_2 a_greatest_house_2 fd) (T : Tx K mg a__law_calls a__law_draw a__law_handed a__law_pick a__law_odd_6 a__law_pen a_is_whole a_is_base a_BadHouse___init__ a_need_base_2 a_is_listing a_is_count a_is_saying_a a_BadSaying___init__ a_need_sayings_3 a_reaches_3 a_least_house_2 a_need_one_more_2 a_shows_follows_3 a_may_be_4 a_how_many_2 a_nth_house_2 a_bar_of_4 a_blame_3 a_need_house_3 a_core_3 a_mend_2 a_shows_mend_2 a_least_mend_2 a_greatest_house_2 a_follows_3 a_which_2 a_keeps_2 a_is_beginning a_House___init__ a_shows_bar_2 a_least_by a_strongest_below a_why_least_2 a_greatest_by a_strongest_above a_why_greatest_2 a__law_refused_2 a_law a_House a_BadHouse a_BadSaying tk_LEAST_BASE tk_MOST_BASE) (G_need_base_2 : FnOk P w K mg base (L2.CX P w) 3 a_need_base_2 fd_need_base_2 ["k"] (liftE K (xcl a_BadHouse a_BadSaying) (sp_need_base_2))) (b_need_base_2 : Binds K fd_need_base_2 ["k"] []) (G_need_sayings_3 : FnOk P w K mg base (L2.CX P w) 4 a_need_sayings_3 fd_need_sayings_3 ["sayings"] (liftE K (xcl a_BadHouse a_BadSaying) (sp_need_sayings_3))) (b_need_sayings_3 : Binds K fd_need_sayings_3 ["sayings"] []) : FnOk P w K mg base (L2.CX P w) 5 a_greatest_house_2 fd ["k", "sayings", "reach"] (liftE K (xcl a_BadHouse a_BadSaying) (sp_greatest_house_2)) := by
  refine fn_okE (cl := (xcl a_BadHouse a_BadSaying)) (ds := d_greatest_house_2) F sc_greatest_house_2 (len_greatest_house_2) (fun cdv A outer s H E B Px hr hB hm hE => ?_) (d_greatest_house_2_ok)
  exact (q_cons (q_drop (q_XE (W := fun c d _ H => E c d H) hE (z_call (pe_callS G_need_base_2 (hr.mono (by decide)) rfl T.g_need_base_2 T.k_need_base_2 b_need_base_2 (fun σ => passAt (takes_of rfl rfl rfl rfl) σ) (q_acons (q_var (pv 0)) q_anil))))) (q_cons (q_drop (q_XE (W := fun c d _ H => E c d H) hE (z_call (pe_callS G_need_sayings_3 (hr.mono (by decide)) rfl T.g_need_sayings_3 T.k_need_sayings_3 b_need_sayings_3 (fun σ => passAt (takes_of rfl rfl rfl rfl) σ) (q_acons (q_var (pv 1)) q_anil))))) (q_cons q_never q_nil)))
theorem ok_lam2 {fd_greatest_house_2 : FuncData} (T : Tx K mg a__law_calls a__law_draw a__law_handed a__law_pick a__law_odd_6 a__law_pen a_is_whole a_is_base a_BadHouse___init__ a_need_base_2 a_is_listing a_is_count a_is_saying_a a_BadSaying___init__ a_need_sayings_3 a_reaches_3 a_least_house_2 a_need_one_more_2 a_shows_follows_3 a_may_be_4 a_how_many_2 a_nth_house_2 a_bar_of_4 a_blame_3 a_need_house_3 a_core_3 a_mend_2 a_shows_mend_2 a_least_mend_2 a_greatest_house_2 a_follows_3 a_which_2 a_keeps_2 a_is_beginning a_House___init__ a_shows_bar_2 a_least_by a_strongest_below a_why_least_2 a_greatest_by a_strongest_above a_why_greatest_2 a__law_refused_2 a_law a_House a_BadHouse a_BadSaying tk_LEAST_BASE tk_MOST_BASE) (G_greatest_house_2 : FnOk P w K mg base (L2.CX P w) 5 a_greatest_house_2 fd_greatest_house_2 ["k", "sayings", "reach"] (liftE K (xcl a_BadHouse a_BadSaying) (sp_greatest_house_2))) (b_greatest_house_2 : Binds K fd_greatest_house_2 ["k", "sayings", "reach"] []) : LamOk P w K mg base 6 (LtK 2) (xcl a_BadHouse a_BadSaying) (fun as t Pq Px => d_lam2 (Cl.mk a_House a_law a_law a_law a_law) (as.map Sl.val) t Pq Px) := by
  refine lam_okE (dx := d_lam2 (Cl.mk a_House a_law a_law a_law a_law)) ⟨by rfl, by rfl, by rfl, by decide +kernel, by decide +kernel, fun _ _ _ _ => by rfl⟩ (fun A outer s H E f c' Z B hr hB hm => ?_) (fun ls t Pq Px h hl => by rw [start0_all hl]; exact h)
  exact (z_call (pe_callS G_greatest_house_2 (hr.mono (by decide)) rfl T.g_greatest_house_2 T.k_greatest_house_2 b_greatest_house_2 (fun σ => passAt (takes_of rfl rfl rfl rfl) σ) (q_acons (q_var (pv 1)) (q_acons (q_var (pv 0)) (q_acons q_int q_anil)))))
theorem sc_follows_3 : FnScope N_follows_3 ["k", "sayings", "saying"] (defScope s_follows_3) := ⟨rfl, rfl, rfl, by decide +kernel, rfl, by decide +kernel, by decide +kernel⟩
theorem ok_follows_3 {fd fd_need_base_2 fd_need_one_more_2 : FuncData} (F : Fun K "follows" "follows" s_follows_3 a_follows_3 fd) (T : Tx K mg a__law_calls a__law_draw a__law_handed a__law_pick a__law_odd_6 a__law_pen a_is_whole a_is_base a_BadHouse___init__ a_need_base_2 a_is_listing a_is_count a_is_saying_a a_BadSaying___init__ a_need_sayings_3 a_reaches_3 a_least_house_2 a_need_one_more_2 a_shows_follows_3 a_may_be_4 a_how_many_2 a_nth_house_2 a_bar_of_4 a_blame_3 a_need_house_3 a_core_3 a_mend_2 a_shows_mend_2 a_least_mend_2 a_greatest_house_2 a_follows_3 a_which_2 a_keeps_2 a_is_beginning a_House___init__ a_shows_bar_2 a_least_by a_strongest_below a_why_least_2 a_greatest_by a_strongest_above a_why_greatest_2 a__law_refused_2 a_law a_House a_BadHouse a_BadSaying tk_LEAST_BASE tk_MOST_BASE) (G_need_base_2 : FnOk P w K mg base (L2.CX P w) 3 a_need_base_2 fd_need_base_2 ["k"] (liftE K (xcl a_BadHouse a_BadSaying) (sp_need_base_2))) (b_need_base_2 : Binds K fd_need_base_2 ["k"] []) (G_need_one_more_2 : FnOk P w K mg base (L2.CX P w) 5 a_need_one_more_2 fd_need_one_more_2 ["sayings", "saying"] (liftE K (xcl a_BadHouse a_BadSaying) (sp_need_one_more_2))) (b_need_one_more_2 : Binds K fd_need_one_more_2 ["sayings", "saying"] []) : FnOk P w K mg base (L2.CX P w) 6 a_follows_3 fd ["k", "sayings", "saying"] (liftE K (xcl a_BadHouse a_BadSaying) (sp_follows_3)) := by
  refine fn_okE (cl := (xcl a_BadHouse a_BadSaying)) (ds := d_follows_3) F sc_follows_3 (len_follows_3) (fun cdv A outer s H E B Px hr hB hm hE => ?_) (d_follows_3_ok)
  exact (q_cons (q_drop (q_XE (W := fun c d _ H => E c d H) hE (z_call (pe_callS G_need_base_2 (hr.mono (by decide)) rfl T.g_need_base_2 T.k_need_base_2 b_need_base_2 (fun σ => passAt (takes_of rfl rfl rfl rfl) σ) (q_acons (q_var (pv 0)) q_anil))))) (q_cons (q_drop (q_XE (W := fun c d _ H => E c d H) hE (z_call (pe_callS G_need_one_more_2 (hr.mono (by decide)) rfl T.g_need_one_more_2 T.k_need_one_more_2 b_need_one_more_2 (fun σ => passAt (takes_of rfl rfl rfl rfl) σ) (q_acons (q_var (pv 1)) (q_acons (q_var (pv 2)) q_anil)))))) (q_cons q_never (q_cons q_never (q_cons q_never (q_cons q_never (q_cons q_never (q_cons q_never (q_cons q_never (q_cons q_never q_nil))))))))))
theorem ok_lam20 {fd_follows_3 : FuncData} (T : Tx K mg a__law_calls a__law_draw a__law_handed a__law_pick a__law_odd_6 a__law_pen a_is_whole a_is_base a_BadHouse___init__ a_need_base_2 a_is_listing a_is_count a_is_saying_a a_BadSaying___init__ a_need_sayings_3 a_reaches_3 a_least_house_2 a_need_one_more_2 a_shows_follows_3 a_may_be_4 a_how_many_2 a_nth_house_2 a_bar_of_4 a_blame_3 a_need_house_3 a_core_3 a_mend_2 a_shows_mend_2 a_least_mend_2 a_greatest_house_2 a_follows_3 a_which_2 a_keeps_2 a_is_beginning a_House___init__ a_shows_bar_2 a_least_by a_strongest_below a_why_least_2 a_greatest_by a_strongest_above a_why_greatest_2 a__law_refused_2 a_law a_House a_BadHouse a_BadSaying tk_LEAST_BASE tk_MOST_BASE) (G_follows_3 : FnOk P w K mg base (L2.CX P w) 6 a_follows_3 fd_follows_3 ["k", "sayings", "saying"] (liftE K (xcl a_BadHouse a_BadSaying) (sp_follows_3))) (b_follows_3 : Binds K fd_follows_3 ["k", "sayings", "saying"] []) : LamOk P w K mg base 7 (LtK 20) (xcl a_BadHouse a_BadSaying) (fun as t Pq Px => d_lam20 (Cl.mk a_House a_law a_law a_law a_law) (as.map Sl.val) t Pq Px) := by
  refine lam_okE (dx := d_lam20 (Cl.mk a_House a_law a_law a_law a_law)) ⟨by rfl, by rfl, by rfl, by decide +kernel, by decide +kernel, fun _ _ _ _ => by rfl⟩ (fun A outer s H E f c' Z B hr hB hm => ?_) (fun ls t Pq Px h hl => by rw [start0_all hl]; exact h)
  exact (z_call (pe_callS G_follows_3 (hr.mono (by decide)) rfl T.g_follows_3 T.k_follows_3 b_follows_3 (fun σ => passAt (takes_of rfl rfl rfl rfl) σ) (q_acons (q_var (pv 2)) (q_acons (q_var (pv 1)) (q_acons (q_var (pv 0)) q_anil)))))
theorem sc_which_2 : FnScope N_which_2 ["sayings", "most"] (defScope s_which_2) := ⟨rfl, rfl, rfl, by decide +kernel, rfl, by decide +kernel, by decide +kernel⟩
theorem ok_which_2 {fd fd_need_sayings_3 : FuncData} (F : Fun K "which" "which" s_which_2 a_which_2 fd) (T : Tx K mg a__law_calls a__law_draw a__law_handed a__law_pick a__law_odd_6 a__law_pen a_is_whole a_is_base a_BadHouse___init__ a_need_base_2 a_is_listing a_is_count a_is_saying_a a_BadSaying___init__ a_need_sayings_3 a_reaches_3 a_least_house_2 a_need_one_more_2 a_shows_follows_3 a_may_be_4 a_how_many_2 a_nth_house_2 a_bar_of_4 a_blame_3 a_need_house_3 a_core_3 a_mend_2 a_shows_mend_2 a_least_mend_2 a_greatest_house_2 a_follows_3 a_which_2 a_keeps_2 a_is_beginning a_House___init__ a_shows_bar_2 a_least_by a_strongest_below a_why_least_2 a_greatest_by a_strongest_above a_why_greatest_2 a__law_refused_2 a_law a_House a_BadHouse a_BadSaying tk_LEAST_BASE tk_MOST_BASE) (G_need_sayings_3 : FnOk P w K mg base (L2.CX P w) 4 a_need_sayings_3 fd_need_sayings_3 ["sayings"] (liftE K (xcl a_BadHouse a_BadSaying) (sp_need_sayings_3))) (b_need_sayings_3 : Binds K fd_need_sayings_3 ["sayings"] []) : FnOk P w K mg base (L2.CX P w) 5 a_which_2 fd ["sayings", "most"] (liftE K (xcl a_BadHouse a_BadSaying) (sp_which_2)) := by
  refine fn_okE (cl := (xcl a_BadHouse a_BadSaying)) (ds := d_which_2) F sc_which_2 (len_which_2) (fun cdv A outer s H E B Px hr hB hm hE => ?_) (d_which_2_ok)
  exact (q_cons (q_drop (q_XE (W := fun c d _ H => E c d H) hE (z_call (pe_callS G_need_sayings_3 (hr.mono (by decide)) rfl T.g_need_sayings_3 T.k_need_sayings_3 b_need_sayings_3 (fun σ => passAt (takes_of rfl rfl rfl rfl) σ) (q_acons (q_var (pv 0)) q_anil))))) (q_cons q_never (q_cons q_never (q_frz (i := 2) hB (q_cons q_never q_nil)))))
theorem ok_lam21 {fd_which_2 : FuncData} (T : Tx K mg a__law_calls a__law_draw a__law_handed a__law_pick a__law_odd_6 a__law_pen a_is_whole a_is_base a_BadHouse___init__ a_need_base_2 a_is_listing a_is_count a_is_saying_a a_BadSaying___init__ a_need_sayings_3 a_reaches_3 a_least_house_2 a_need_one_more_2 a_shows_follows_3 a_may_be_4 a_how_many_2 a_nth_house_2 a_bar_of_4 a_blame_3 a_need_house_3 a_core_3 a_mend_2 a_shows_mend_2 a_least_mend_2 a_greatest_house_2 a_follows_3 a_which_2 a_keeps_2 a_is_beginning a_House___init__ a_shows_bar_2 a_least_by a_strongest_below a_why_least_2 a_greatest_by a_strongest_above a_why_greatest_2 a__law_refused_2 a_law a_House a_BadHouse a_BadSaying tk_LEAST_BASE tk_MOST_BASE) (G_which_2 : FnOk P w K mg base (L2.CX P w) 5 a_which_2 fd_which_2 ["sayings", "most"] (liftE K (xcl a_BadHouse a_BadSaying) (sp_which_2))) (b_which_2 : Binds K fd_which_2 ["sayings", "most"] []) : LamOk P w K mg base 6 (LtK 21) (xcl a_BadHouse a_BadSaying) (fun as t Pq Px => d_lam21 (Cl.mk a_House a_law a_law a_law a_law) (as.map Sl.val) t Pq Px) := by
  refine lam_okE (dx := d_lam21 (Cl.mk a_House a_law a_law a_law a_law)) ⟨by rfl, by rfl, by rfl, by decide +kernel, by decide +kernel, fun _ _ _ _ => by rfl⟩ (fun A outer s H E f c' Z B hr hB hm => ?_) (fun ls t Pq Px h hl => by rw [start0_all hl]; exact h)
  exact (z_call (pe_callS G_which_2 (hr.mono (by decide)) rfl T.g_which_2 T.k_which_2 b_which_2 (fun σ => passAt (takes_of rfl rfl rfl rfl) σ) (q_acons (q_var (pv 0)) (q_acons (q_var (pv 1)) q_anil))))
theorem ok_lam22 {fd_which_2 : FuncData} (T : Tx K mg a__law_calls a__law_draw a__law_handed a__law_pick a__law_odd_6 a__law_pen a_is_whole a_is_base a_BadHouse___init__ a_need_base_2 a_is_listing a_is_count a_is_saying_a a_BadSaying___init__ a_need_sayings_3 a_reaches_3 a_least_house_2 a_need_one_more_2 a_shows_follows_3 a_may_be_4 a_how_many_2 a_nth_house_2 a_bar_of_4 a_blame_3 a_need_house_3 a_core_3 a_mend_2 a_shows_mend_2 a_least_mend_2 a_greatest_house_2 a_follows_3 a_which_2 a_keeps_2 a_is_beginning a_House___init__ a_shows_bar_2 a_least_by a_strongest_below a_why_least_2 a_greatest_by a_strongest_above a_why_greatest_2 a__law_refused_2 a_law a_House a_BadHouse a_BadSaying tk_LEAST_BASE tk_MOST_BASE) (G_which_2 : FnOk P w K mg base (L2.CX P w) 5 a_which_2 fd_which_2 ["sayings", "most"] (liftE K (xcl a_BadHouse a_BadSaying) (sp_which_2))) (b_which_2 : Binds K fd_which_2 ["sayings", "most"] []) : LamOk P w K mg base 6 (LtK 22) (xcl a_BadHouse a_BadSaying) (fun as t Pq Px => d_lam22 (Cl.mk a_House a_law a_law a_law a_law) (as.map Sl.val) t Pq Px) := by
  refine lam_okE (dx := d_lam22 (Cl.mk a_House a_law a_law a_law a_law)) ⟨by rfl, by rfl, by rfl, by decide +kernel, by decide +kernel, fun _ _ _ _ => by rfl⟩ (fun A outer s H E f c' Z B hr hB hm => ?_) (fun ls t Pq Px h hl => by rw [start0_all hl]; exact h)
  exact (z_call (pe_callS G_which_2 (hr.mono (by decide)) rfl T.g_which_2 T.k_which_2 b_which_2 (fun σ => passAt (takes_of rfl rfl rfl rfl) σ) (q_acons (q_var (pv 0)) (q_acons (q_var (pv 1)) q_anil))))
theorem sc_keeps_2 : FnScope N_keeps_2 ["house", "saying"] (defScope s_keeps_2) := ⟨rfl, rfl, rfl, by decide +kernel, rfl, by decide +kernel, by decide +kernel⟩
theorem ok_keeps_2 {fd fd_need_sayings_3 : FuncData} (F : Fun K "keeps" "keeps" s_keeps_2 a_keeps_2 fd) (T : Tx K mg a__law_calls a__law_draw a__law_handed a__law_pick a__law_odd_6 a__law_pen a_is_whole a_is_base a_BadHouse___init__ a_need_base_2 a_is_listing a_is_count a_is_saying_a a_BadSaying___init__ a_need_sayings_3 a_reaches_3 a_least_house_2 a_need_one_more_2 a_shows_follows_3 a_may_be_4 a_how_many_2 a_nth_house_2 a_bar_of_4 a_blame_3 a_need_house_3 a_core_3 a_mend_2 a_shows_mend_2 a_least_mend_2 a_greatest_house_2 a_follows_3 a_which_2 a_keeps_2 a_is_beginning a_House___init__ a_shows_bar_2 a_least_by a_strongest_below a_why_least_2 a_greatest_by a_strongest_above a_why_greatest_2 a__law_refused_2 a_law a_House a_BadHouse a_BadSaying tk_LEAST_BASE tk_MOST_BASE) (G_need_sayings_3 : FnOk P w K mg base (L2.CX P w) 4 a_need_sayings_3 fd_need_sayings_3 ["sayings"] (liftE K (xcl a_BadHouse a_BadSaying) (sp_need_sayings_3))) (b_need_sayings_3 : Binds K fd_need_sayings_3 ["sayings"] []) : FnOk P w K mg base (L2.CX P w) 5 a_keeps_2 fd ["house", "saying"] (liftE K (xcl a_BadHouse a_BadSaying) (sp_keeps_2)) := by
  refine fn_okE (cl := (xcl a_BadHouse a_BadSaying)) (ds := d_keeps_2) F sc_keeps_2 (len_keeps_2) (fun cdv A outer s H E B Px hr hB hm hE => ?_) (d_keeps_2_ok)
  exact (q_cons (q_drop (q_XE (W := fun c d _ H => E c d H) hE (z_call (pe_callS G_need_sayings_3 (hr.mono (by decide)) rfl T.g_need_sayings_3 T.k_need_sayings_3 b_need_sayings_3 (fun σ => passAt (takes_of rfl rfl rfl rfl) σ) (q_acons (toE (q_lst (q_acons (q_var (pv 1)) q_anil))) q_anil))))) (q_cons q_never q_nil))
theorem sc_is_beginning : FnScope N_is_beginning ["base", "thing"] (defScope s_is_beginning) := ⟨rfl, rfl, rfl, by decide +kernel, rfl, by decide +kernel, by decide +kernel⟩
theorem ok_is_beginning {fd fd_is_count fd_is_listing : FuncData} (F : Fun K "is_beginning" "is_beginning" s_is_beginning a_is_beginning fd) (T : Tx K mg a__law_calls a__law_draw a__law_handed a__law_pick a__law_odd_6 a__law_pen a_is_whole a_is_base a_BadHouse___init__ a_need_base_2 a_is_listing a_is_count a_is_saying_a a_BadSaying___init__ a_need_sayings_3 a_reaches_3 a_least_house_2 a_need_one_more_2 a_shows_follows_3 a_may_be_4 a_how_many_2 a_nth_house_2 a_bar_of_4 a_blame_3 a_need_house_3 a_core_3 a_mend_2 a_shows_mend_2 a_least_mend_2 a_greatest_house_2 a_follows_3 a_which_2 a_keeps_2 a_is_beginning a_House___init__ a_shows_bar_2 a_least_by a_strongest_below a_why_least_2 a_greatest_by a_strongest_above a_why_greatest_2 a__law_refused_2 a_law a_House a_BadHouse a_BadSaying tk_LEAST_BASE tk_MOST_BASE) (G_is_count : FnOk P w K mg base CX0 2 a_is_count fd_is_count ["thing"] (lift K (sp_is_count))) (b_is_count : Binds K fd_is_count ["thing"] []) (G_is_listing : FnOk P w K mg base CX0 1 a_is_listing fd_is_listing ["thing"] (lift K (sp_is_listing))) (b_is_listing : Binds K fd_is_listing ["thing"] []) : FnOk P w K mg base CX0 3 a_is_beginning fd ["base", "thing"] (lift K (sp_is_beginning)) := by
  refine fn_ok (ds := d_is_beginning) F sc_is_beginning (len_is_beginning) (fun cdv A outer s H E B hr hB hm => ?_) (d_is_beginning_ok)
  exact (q_cons (q_if (L2.PW.pt (q_or (q_not (q_tval (q_call G_is_listing (hr.mono (by decide)) rfl T.g_is_listing T.k_is_listing b_is_listing .nil (fun _ _ => RelL.nil) pass0 (q_acons (q_var (pv 1)) q_anil)))) (q_or1 (q_tcmp (op_neD hr.units) rop_ne (toV (q_callB call_len3 rc_len (by rfl) T.b_len (by decide +kernel) (q_xcons (toV (q_var (pv 1))) q_xnil))) (toV (q_op op_sub rop_sub (toV (q_var (pv 0))) (toV q_int))) (nomark _))))) (q_cons (q_ret hm q_bl) q_nil) q_nil) (q_cons (q_ret hm (q_callB (cr_all rfl) rc_all (by rfl) T.b_all (by decide +kernel) (q_xcons (toV (toE (q_lc (own := [("many", 2)]) rfl sc_is_beginning.nd (q_iany (q_var (pv 1))) (blkOk_by (N := N_is_beginning) (sc := defScope s_is_beginning) (own := [("many", 2)]) (by decide +kernel)) (fun _ _ _ _ _ B => (q_gname (vs := [2]) (pg_name (i := 2) sc_is_beginning.nd rfl (Or.inl rfl)) (by decide))) (fun _ _ _ _ _ => pts_U0) (fun _ _ _ _ _ B => (q_call G_is_count (hr.mono (by decide)) rfl T.g_is_count T.k_is_count b_is_count .nil (fun _ _ => RelL.nil) pass0 (q_acons (q_var (pv 2)) q_anil)))))) q_xnil))) q_nil))
theorem sc_House___init__ : FnScope N_House___init__ ["self", "k", "beginning"] (defScope s_House___init__) := ⟨rfl, rfl, rfl, by decide +kernel, rfl, by decide +kernel, by decide +kernel⟩
theorem ok_House___init__ {fd fd_is_base fd_is_beginning : FuncData} (F : Fun K "__init__" "House.__init__" s_House___init__ a_House___init__ fd) (T : Tx K mg a__law_calls a__law_draw a__law_handed a__law_pick a__law_odd_6 a__law_pen a_is_whole a_is_base a_BadHouse___init__ a_need_base_2 a_is_listing a_is_count a_is_saying_a a_BadSaying___init__ a_need_sayings_3 a_reaches_3 a_least_house_2 a_need_one_more_2 a_shows_follows_3 a_may_be_4 a_how_many_2 a_nth_house_2 a_bar_of_4 a_blame_3 a_need_house_3 a_core_3 a_mend_2 a_shows_mend_2 a_least_mend_2 a_greatest_house_2 a_follows_3 a_which_2 a_keeps_2 a_is_beginning a_House___init__ a_shows_bar_2 a_least_by a_strongest_below a_why_least_2 a_greatest_by a_strongest_above a_why_greatest_2 a__law_refused_2 a_law a_House a_BadHouse a_BadSaying tk_LEAST_BASE tk_MOST_BASE) (G_is_base : FnOk P w K mg base CX0 2 a_is_base fd_is_base ["thing"] (lift K (sp_is_base))) (b_is_base : Binds K fd_is_base ["thing"] []) (G_is_beginning : FnOk P w K mg base CX0 3 a_is_beginning fd_is_beginning ["base", "thing"] (lift K (sp_is_beginning))) (b_is_beginning : Binds K fd_is_beginning ["base", "thing"] []) : FnOk P w K mg base CX0 4 a_House___init__ fd ["self", "k", "beginning"] (liftI K a_House (sp_House___init__ (Cl.mk a_House a_law a_law a_law a_law))) := by
  refine fn_okI (ds := d_House___init__ (Cl.mk a_House a_law a_law a_law a_law)) F sc_House___init__ (len_House___init__ (Cl.mk a_House a_law a_law a_law a_law)) (np_House___init__ (Cl.mk a_House a_law a_law a_law a_law)) (fun cdv A outer s H E hr => ?_) (d_House___init___ok (Cl.mk a_House a_law a_law a_law a_law))
  exact (i_cons (i_guard fun B => (q_not (q_tval (q_call G_is_base (hr.mono (by decide)) rfl T.g_is_base T.k_is_base b_is_base .nil (fun _ _ => RelL.nil) pass0 (q_acons (q_var (pv 1)) q_anil))))) (i_cons (i_guard fun B => (q_not (q_tval (q_call G_is_beginning (hr.mono (by decide)) rfl T.g_is_beginning T.k_is_beginning b_is_beginning .nil (fun _ _ => RelL.nil) pass0 (q_acons (q_var (pv 1)) (q_acons (q_var (pv 2)) q_anil)))))) (i_cons (i_set (pv 0) (fun B => (q_var (pv 1))) T.cl_House T.n_House_kept_base) (i_cons (i_set (pv 0) (fun B => (toE (q_callTyN call_list_of rc_list (by rfl) T.b_list (by decide +kernel) (q_xcons (toV (q_var (pv 2))) q_xnil)))) T.cl_House T.n_House_kept_beginning) (i_sums (pv 0) (pv 2) (pg_name (i := 3) sc_House___init__.nd rfl (Or.inl rfl)) (pe_bm PySem.F.plainAttrs_list PySem.F.slot_list_append PySem.F.type_list_append mt_append (pe_fld (pv 0) rfl) (pa_cons (pe_U fun B => (q_op op_add4 rop_add (toV (q_op op_sub rop_sub (toV (q_var (pv 3))) (toV q_int))) (toV (q_ifE (q_tcmp (op_neD hr.units) rop_ne (toV (q_fld (toV (q_var (pv 0))) T.cl_House T.n_House_sums)) (toV (toE (q_lst q_anil))) (nomark _)) (q_ix (toV (q_fld (toV (q_var (pv 0))) T.cl_House T.n_House_sums)) (toV (q_un un_neg run_neg (toV q_int))) (fun _ _ => rfl)) q_int)))) pa_nil)) (sumsE_House (Cl.mk a_House a_law a_law a_law a_law)) T.cl_House T.n_House_sums PassesOwn.never rfl (by decide))))))
theorem ok_lam23 {fd_keeps_2 fd_House___init__ : FuncData} (T : Tx K mg a__law_calls a__law_draw a__law_handed a__law_pick a__law_odd_6 a__law_pen a_is_whole a_is_base a_BadHouse___init__ a_need_base_2 a_is_listing a_is_count a_is_saying_a a_BadSaying___init__ a_need_sayings_3 a_reaches_3 a_least_house_2 a_need_one_more_2 a_shows_follows_3 a_may_be_4 a_how_many_2 a_nth_house_2 a_bar_of_4 a_blame_3 a_need_house_3 a_core_3 a_mend_2 a_shows_mend_2 a_least_mend_2 a_greatest_house_2 a_follows_3 a_which_2 a_keeps_2 a_is_beginning a_House___init__ a_shows_bar_2 a_least_by a_strongest_below a_why_least_2 a_greatest_by a_strongest_above a_why_greatest_2 a__law_refused_2 a_law a_House a_BadHouse a_BadSaying tk_LEAST_BASE tk_MOST_BASE) (G_keeps_2 : FnOk P w K mg base (L2.CX P w) 5 a_keeps_2 fd_keeps_2 ["house", "saying"] (liftE K (xcl a_BadHouse a_BadSaying) (sp_keeps_2))) (b_keeps_2 : Binds K fd_keeps_2 ["house", "saying"] []) (G_House___init__ : FnOk P w K mg base CX0 4 a_House___init__ fd_House___init__ ["self", "k", "beginning"] (liftI K a_House (sp_House___init__ (Cl.mk a_House a_law a_law a_law a_law)))) (b_House___init__ : Binds K fd_House___init__ ["self", "k", "beginning"] []) : LamOk P w K mg base 6 (LtK 23) (xcl a_BadHouse a_BadSaying) (fun as t Pq Px => d_lam23 (Cl.mk a_House a_law a_law a_law a_law) (as.map Sl.val) t Pq Px) := by
  refine lam_okE (dx := d_lam23 (Cl.mk a_House a_law a_law a_law a_law)) ⟨by rfl, by rfl, by rfl, by decide +kernel, by decide +kernel, fun _ _ _ _ => by rfl⟩ (fun A outer s H E f c' Z B hr hB hm => ?_) (fun ls t Pq Px h hl => by rw [start0_all hl]; exact h)
  exact (z_call (pe_callS G_keeps_2 (hr.mono (by decide)) rfl T.g_keeps_2 T.k_keeps_2 b_keeps_2 (fun σ => passAt (takes_of rfl rfl rfl rfl) σ) (q_acons (toE (q_make T.mk_House G_House___init__ (hr.mono (by decide)) rfl T.g_House b_House___init__ .nil (fun _ _ => RelL.nil) pass0 (q_acons q_int (q_acons (toE (q_lst (q_acons q_int q_anil))) q_anil)))) (q_acons (q_var (pv 0)) q_anil))))
theorem ok_lam24 {fd_follows_3 : FuncData} (T : Tx K mg a__law_calls a__law_draw a__law_handed a__law_pick a__law_odd_6 a__law_pen a_is_whole a_is_base a_BadHouse___init__ a_need_base_2 a_is_listing a_is_count a_is_saying_a a_BadSaying___init__ a_need_sayings_3 a_reaches_3 a_least_house_2 a_need_one_more_2 a_shows_follows_3 a_may_be_4 a_how_many_2 a_nth_house_2 a_bar_of_4 a_blame_3 a_need_house_3 a_core_3 a_mend_2 a_shows_mend_2 a_least_mend_2 a_greatest_house_2 a_follows_3 a_which_2 a_keeps_2 a_is_beginning a_House___init__ a_shows_bar_2 a_least_by a_strongest_below a_why_least_2 a_greatest_by a_strongest_above a_why_greatest_2 a__law_refused_2 a_law a_House a_BadHouse a_BadSaying tk_LEAST_BASE tk_MOST_BASE) (G_follows_3 : FnOk P w K mg base (L2.CX P w) 6 a_follows_3 fd_follows_3 ["k", "sayings", "saying"] (liftE K (xcl a_BadHouse a_BadSaying) (sp_follows_3))) (b_follows_3 : Binds K fd_follows_3 ["k", "sayings", "saying"] []) : LamOk P w K mg base 7 (LtK 24) (xcl a_BadHouse a_BadSaying) (fun as t Pq Px => d_lam24 (Cl.mk a_House a_law a_law a_law a_law) (as.map Sl.val) t Pq Px) := by
  refine lam_okE (dx := d_lam24 (Cl.mk a_House a_law a_law a_law a_law)) ⟨by rfl, by rfl, by rfl, by decide +kernel, by decide +kernel, fun _ _ _ _ => by rfl⟩ (fun A outer s H E f c' Z B hr hB hm => ?_) (fun ls t Pq Px h hl => by rw [start0_all hl]; exact h)
  exact (z_call (pe_callS G_follows_3 (hr.mono (by decide)) rfl T.g_follows_3 T.k_follows_3 b_follows_3 (fun σ => passAt (takes_of rfl rfl rfl rfl) σ) (q_acons (q_var (pv 2)) (q_acons (q_var (pv 0)) (q_acons (q_var (pv 1)) q_anil)))))
theorem ok_lam25 {fd_follows_3 : FuncData} (T : Tx K mg a__law_calls a__law_draw a__law_handed a__law_pick a__law_odd_6 a__law_pen a_is_whole a_is_base a_BadHouse___init__ a_need_base_2 a_is_listing a_is_count a_is_saying_a a_BadSaying___init__ a_need_sayings_3 a_reaches_3 a_least_house_2 a_need_one_more_2 a_shows_follows_3 a_may_be_4 a_how_many_2 a_nth_house_2 a_bar_of_4 a_blame_3 a_need_house_3 a_core_3 a_mend_2 a_shows_mend_2 a_least_mend_2 a_greatest_house_2 a_follows_3 a_which_2 a_keeps_2 a_is_beginning a_House___init__ a_shows_bar_2 a_least_by a_strongest_below a_why_least_2 a_greatest_by a_strongest_above a_why_greatest_2 a__law_refused_2 a_law a_House a_BadHouse a_BadSaying tk_LEAST_BASE tk_MOST_BASE) (G_follows_3 : FnOk P w K mg base (L2.CX P w) 6 a_follows_3 fd_follows_3 ["k", "sayings", "saying"] (liftE K (xcl a_BadHouse a_BadSaying) (sp_follows_3))) (b_follows_3 : Binds K fd_follows_3 ["k", "sayings", "saying"] []) : LamOk P w K mg base 7 (LtK 25) (xcl a_BadHouse a_BadSaying) (fun as t Pq Px => d_lam25 (Cl.mk a_House a_law a_law a_law a_law) (as.map Sl.val) t Pq Px) := by
  refine lam_okE (dx := d_lam25 (Cl.mk a_House a_law a_law a_law a_law)) ⟨by rfl, by rfl, by rfl, by decide +kernel, by decide +kernel, fun _ _ _ _ => by rfl⟩ (fun A outer s H E f c' Z B hr hB hm => ?_) (fun ls t Pq Px h hl => by rw [start0_all hl]; exact h)
  exact (z_call (pe_callS G_follows_3 (hr.mono (by decide)) rfl T.g_follows_3 T.k_follows_3 b_follows_3 (fun σ => passAt (takes_of rfl rfl rfl rfl) σ) (q_acons (q_var (pv 2)) (q_acons (q_var (pv 1)) (q_acons (q_var (pv 0)) q_anil)))))
theorem ok_lam26 {fd_shows_follows_3 : FuncData} (T : Tx K mg a__law_calls a__law_draw a__law_handed a__law_pick a__law_odd_6 a__law_pen a_is_whole a_is_base a_BadHouse___init__ a_need_base_2 a_is_listing a_is_count a_is_saying_a a_BadSaying___init__ a_need_sayings_3 a_reaches_3 a_least_house_2 a_need_one_more_2 a_shows_follows_3 a_may_be_4 a_how_many_2 a_nth_house_2 a_bar_of_4 a_blame_3 a_need_house_3 a_core_3 a_mend_2 a_shows_mend_2 a_least_mend_2 a_greatest_house_2 a_follows_3 a_which_2 a_keeps_2 a_is_beginning a_House___init__ a_shows_bar_2 a_least_by a_strongest_below a_why_least_2 a_greatest_by a_strongest_above a_why_greatest_2 a__law_refused_2 a_law a_House a_BadHouse a_BadSaying tk_LEAST_BASE tk_MOST_BASE) (G_shows_follows_3 : FnOk P w K mg base (L2.CX P w) 6 a_shows_follows_3 fd_shows_follows_3 ["k", "sayings", "saying", "paper"] (liftE K (xcl a_BadHouse a_BadSaying) (sp_shows_follows_3))) (b_shows_follows_3 : Binds K fd_shows_follows_3 ["k", "sayings", "saying", "paper"] []) : LamOk P w K mg base 7 (LtK 26) (xcl a_BadHouse a_BadSaying) (fun as t Pq Px => d_lam26 (Cl.mk a_House a_law a_law a_law a_law) (as.map Sl.val) t Pq Px) := by
  refine lam_okE (dx := d_lam26 (Cl.mk a_House a_law a_law a_law a_law)) ⟨by rfl, by rfl, by rfl, by decide +kernel, by decide +kernel, fun _ _ _ _ => by rfl⟩ (fun A outer s H E f c' Z B hr hB hm => ?_) (fun ls t Pq Px h hl => by rw [start0_all hl]; exact h)
  exact (z_call (pe_callS G_shows_follows_3 (hr.mono (by decide)) rfl T.g_shows_follows_3 T.k_shows_follows_3 b_shows_follows_3 (fun σ => passAt (takes_of rfl rfl rfl rfl) σ) (q_acons (q_var (pv 2)) (q_acons (q_var (pv 0)) (q_acons (q_var (pv 1)) (q_acons q_non q_anil))))))
theorem ok_lam27 {fd_shows_follows_3 : FuncData} (T : Tx K mg a__law_calls a__law_draw a__law_handed a__law_pick a__law_odd_6 a__law_pen a_is_whole a_is_base a_BadHouse___init__ a_need_base_2 a_is_listing a_is_count a_is_saying_a a_BadSaying___init__ a_need_sayings_3 a_reaches_3 a_least_house_2 a_need_one_more_2 a_shows_follows_3 a_may_be_4 a_how_many_2 a_nth_house_2 a_bar_of_4 a_blame_3 a_need_house_3 a_core_3 a_mend_2 a_shows_mend_2 a_least_mend_2 a_greatest_house_2 a_follows_3 a_which_2 a_keeps_2 a_is_beginning a_House___init__ a_shows_bar_2 a_least_by a_strongest_below a_why_least_2 a_greatest_by a_strongest_above a_why_greatest_2 a__law_refused_2 a_law a_House a_BadHouse a_BadSaying tk_LEAST_BASE tk_MOST_BASE) (G_shows_follows_3 : FnOk P w K mg base (L2.CX P w) 6 a_shows_follows_3 fd_shows_follows_3 ["k", "sayings", "saying", "paper"] (liftE K (xcl a_BadHouse a_BadSaying) (sp_shows_follows_3))) (b_shows_follows_3 : Binds K fd_shows_follows_3 ["k", "sayings", "saying", "paper"] []) : LamOk P w K mg base 7 (LtK 27) (xcl a_BadHouse a_BadSaying) (fun as t Pq Px => d_lam27 (Cl.mk a_House a_law a_law a_law a_law) (as.map Sl.val) t Pq Px) := by
  refine lam_okE (dx := d_lam27 (Cl.mk a_House a_law a_law a_law a_law)) ⟨by rfl, by rfl, by rfl, by decide +kernel, by decide +kernel, fun _ _ _ _ => by rfl⟩ (fun A outer s H E f c' Z B hr hB hm => ?_) (fun ls t Pq Px h hl => by rw [start0_all hl]; exact h)
  exact (z_call (pe_callS G_shows_follows_3 (hr.mono (by decide)) rfl T.g_shows_follows_3 T.k_shows_follows_3 b_shows_follows_3 (fun σ => passAt (takes_of rfl rfl rfl rfl) σ) (q_acons (q_var (pv 0)) (q_acons (q_var (pv 2)) (q_acons (q_var (pv 1)) (q_acons q_non q_anil))))))
theorem ok_lam3 {fd_bar_of_4 : FuncData} (T : Tx K mg a__law_calls a__law_draw a__law_handed a__law_pick a__law_odd_6 a__law_pen a_is_whole a_is_base a_BadHouse___init__ a_need_base_2 a_is_listing a_is_count a_is_saying_a a_BadSaying___init__ a_need_sayings_3 a_reaches_3 a_least_house_2 a_need_one_more_2 a_shows_follows_3 a_may_be_4 a_how_many_2 a_nth_house_2 a_bar_of_4 a_blame_3 a_need_house_3 a_core_3 a_mend_2 a_shows_mend_2 a_least_mend_2 a_greatest_house_2 a_follows_3 a_which_2 a_keeps_2 a_is_beginning a_House___init__ a_shows_bar_2 a_least_by a_strongest_below a_why_least_2 a_greatest_by a_strongest_above a_why_greatest_2 a__law_refused_2 a_law a_House a_BadHouse a_BadSaying tk_LEAST_BASE tk_MOST_BASE) (G_bar_of_4 : FnOk P w K mg base (L2.CX P w) 5 a_bar_of_4 fd_bar_of_4 ["k", "sayings", "reach"] (liftE K (xcl a_BadHouse a_BadSaying) (sp_bar_of_4))) (b_bar_of_4 : Binds K fd_bar_of_4 ["k", "sayings", "reach"] [Value.none]) : LamOk P w K mg base 6 (LtK 3) (xcl a_BadHouse a_BadSaying) (fun as t Pq Px => d_lam3 (Cl.mk a_House a_law a_law a_law a_law) (as.map Sl.val) t Pq Px) := by
  refine lam_okE (dx := d_lam3 (Cl.mk a_House a_law a_law a_law a_law)) ⟨by rfl, by rfl, by rfl, by decide +kernel, by decide +kernel, fun _ _ _ _ => by rfl⟩ (fun A outer s H E f c' Z B hr hB hm => ?_) (fun ls t Pq Px h hl => by rw [start0_all hl]; exact h)
  exact (z_call (pe_callDS G_bar_of_4 (hr.mono (by decide)) rfl T.g_bar_of_4 T.k_bar_of_4 b_bar_of_4 (dvs := [.non]) (.cons rfl .nil) (fun _ _ => RelL.cons (by unfold RelD; rfl) RelL.nil) (fun σ => passAt (takes_of rfl rfl rfl rfl) σ) (q_acons (q_var (pv 1)) (q_acons (q_var (pv 0)) q_anil))))
theorem ok_lam4 {fd_bar_of_4 : FuncData} (T : Tx K mg a__law_calls a__law_draw a__law_handed a__law_pick a__law_odd_6 a__law_pen a_is_whole a_is_base a_BadHouse___init__ a_need_base_2 a_is_listing a_is_count a_is_saying_a a_BadSaying___init__ a_need_sayings_3 a_reaches_3 a_least_house_2 a_need_one_more_2 a_shows_follows_3 a_may_be_4 a_how_many_2 a_nth_house_2 a_bar_of_4 a_blame_3 a_need_house_3 a_core_3 a_mend_2 a_shows_mend_2 a_least_mend_2 a_greatest_house_2 a_follows_3 a_which_2 a_keeps_2 a_is_beginning a_House___init__ a_shows_bar_2 a_least_by a_strongest_below a_why_least_2 a_greatest_by a_strongest_above a_why_greatest_2 a__law_refused_2 a_law a_House a_BadHouse a_BadSaying tk_LEAST_BASE tk_MOST_BASE) (G_bar_of_4 : FnOk P w K mg base (L2.CX P w) 5 a_bar_of_4 fd_bar_of_4 ["k", "sayings", "reach"] (liftE K (xcl a_BadHouse a_BadSaying) (sp_bar_of_4))) (kp_bar_of_4_0 : KBn K fd_bar_of_4 ["k", "sayings", "reach"] 2 ["reach"] (gP [0]) (gP [0])) : LamOk P w K mg base 6 (LtK 4) (xcl a_BadHouse a_BadSaying) (fun as t Pq Px => d_lam4 (Cl.mk a_House a_law a_law a_law a_law) (as.map Sl.val) t Pq Px) := by
  refine lam_okE (dx := d_lam4 (Cl.mk a_House a_law a_law a_law a_law)) ⟨by rfl, by rfl, by rfl, by decide +kernel, by decide +kernel, fun _ _ _ _ => by rfl⟩ (fun A outer s H E f c' Z B hr hB hm => ?_) (fun ls t Pq Px h hl => by rw [start0_all hl]; exact h)
  exact (z_call (pe_callPS G_bar_of_4 (hr.mono (by decide)) rfl T.g_bar_of_4 T.k_bar_of_4 kp_bar_of_4_0 (fun σ => passAt (takes_of rfl rfl rfl rfl) σ) (q_acons (q_var (pv 1)) (q_acons (q_var (pv 0)) q_anil)) (q_kcons q_int q_knil)))
theorem sc_shows_bar_2 : FnScope N_shows_bar_2 ["k", "sayings", "thing", "reach"] (defScope s_shows_bar_2) := ⟨rfl, rfl, rfl, by decide +kernel, rfl, by decide +kernel, by decide +kernel⟩
theorem ok_shows_bar_2 {fd fd_need_base_2 fd_need_sayings_3 : FuncData} (F : Fun K "shows_bar" "shows_bar" s_shows_bar_2 a_shows_bar_2 fd) (T : Tx K mg a__law_calls a__law_draw a__law_handed a__law_pick a__law_odd_6 a__law_pen a_is_whole a_is_base a_BadHouse___init__ a_need_base_2 a_is_listing a_is_count a_is_saying_a a_BadSaying___init__ a_need_sayings_3 a_reaches_3 a_least_house_2 a_need_one_more_2 a_shows_follows_3 a_may_be_4 a_how_many_2 a_nth_house_2 a_bar_of_4 a_blame_3 a_need_house_3 a_core_3 a_mend_2 a_shows_mend_2 a_least_mend_2 a_greatest_house_2 a_follows_3 a_which_2 a_keeps_2 a_is_beginning a_House___init__ a_shows_bar_2 a_least_by a_strongest_below a_why_least_2 a_greatest_by a_strongest_above a_why_greatest_2 a__law_refused_2 a_law a_House a_BadHouse a_BadSaying tk_LEAST_BASE tk_MOST_BASE) (G_need_base_2 : FnOk P w K mg base (L2.CX P w) 3 a_need_base_2 fd_need_base_2 ["k"] (liftE K (xcl a_BadHouse a_BadSaying) (sp_need_base_2))) (b_need_base_2 : Binds K fd_need_base_2 ["k"] []) (G_need_sayings_3 : FnOk P w K mg base (L2.CX P w) 4 a_need_sayings_3 fd_need_sayings_3 ["sayings"] (liftE K (xcl a_BadHouse a_BadSaying) (sp_need_sayings_3))) (b_need_sayings_3 : Binds K fd_need_sayings_3 ["sayings"] []) : FnOk P w K mg base (L2.CX P w) 5 a_shows_bar_2 fd ["k", "sayings", "thing", "reach"] (liftE K (xcl a_BadHouse a_BadSaying) (sp_shows_bar_2)) := by
  refine fn_okE (cl := (xcl a_BadHouse a_BadSaying)) (ds := d_shows_bar_2) F sc_shows_bar_2 (len_shows_bar_2) (fun cdv A outer s H E B Px hr hB hm hE => ?_) (d_shows_bar_2_ok)
  exact (q_cons (q_drop (q_XE (W := fun c d _ H => E c d H) hE (z_call (pe_callS G_need_base_2 (hr.mono (by decide)) rfl T.g_need_base_2 T.k_need_base_2 b_need_base_2 (fun σ => passAt (takes_of rfl rfl rfl rfl) σ) (q_acons (q_var (pv 0)) q_anil))))) (q_cons (q_drop (q_XE (W := fun c d _ H => E c d H) hE (z_call (pe_callS G_need_sayings_3 (hr.mono (by decide)) rfl T.g_need_sayings_3 T.k_need_sayings_3 b_need_sayings_3 (fun σ => passAt (takes_of rfl rfl rfl rfl) σ) (q_acons (q_var (pv 1)) q_anil))))) (q_cons q_never q_nil)))
theorem ok_lam5 {fd_shows_bar_2 : FuncData} (T : Tx K mg a__law_calls a__law_draw a__law_handed a__law_pick a__law_odd_6 a__law_pen a_is_whole a_is_base a_BadHouse___init__ a_need_base_2 a_is_listing a_is_count a_is_saying_a a_BadSaying___init__ a_need_sayings_3 a_reaches_3 a_least_house_2 a_need_one_more_2 a_shows_follows_3 a_may_be_4 a_how_many_2 a_nth_house_2 a_bar_of_4 a_blame_3 a_need_house_3 a_core_3 a_mend_2 a_shows_mend_2 a_least_mend_2 a_greatest_house_2 a_follows_3 a_which_2 a_keeps_2 a_is_beginning a_House___init__ a_shows_bar_2 a_least_by a_strongest_below a_why_least_2 a_greatest_by a_strongest_above a_why_greatest_2 a__law_refused_2 a_law a_House a_BadHouse a_BadSaying tk_LEAST_BASE tk_MOST_BASE) (G_shows_bar_2 : FnOk P w K mg base (L2.CX P w) 5 a_shows_bar_2 fd_shows_bar_2 ["k", "sayings", "thing", "reach"] (liftE K (xcl a_BadHouse a_BadSaying) (sp_shows_bar_2))) (b_shows_bar_2 : Binds K fd_shows_bar_2 ["k", "sayings", "thing", "reach"] [Value.none]) : LamOk P w K mg base 6 (LtK 5) (xcl a_BadHouse a_BadSaying) (fun as t Pq Px => d_lam5 (Cl.mk a_House a_law a_law a_law a_law) (as.map Sl.val) t Pq Px) := by
  refine lam_okE (dx := d_lam5 (Cl.mk a_House a_law a_law a_law a_law)) ⟨by rfl, by rfl, by rfl, by decide +kernel, by decide +kernel, fun _ _ _ _ => by rfl⟩ (fun A outer s H E f c' Z B hr hB hm => ?_) (fun ls t Pq Px h hl => by rw [start0_all hl]; exact h)
  exact (z_call (pe_callDS G_shows_bar_2 (hr.mono (by decide)) rfl T.g_shows_bar_2 T.k_shows_bar_2 b_shows_bar_2 (dvs := [.non]) (.cons rfl .nil) (fun _ _ => RelL.cons (by unfold RelD; rfl) RelL.nil) (fun σ => passAt (takes_of rfl rfl rfl rfl) σ) (q_acons (q_var (pv 1)) (q_acons (q_var (pv 0)) (q_acons (toE (q_lst (q_acons q_int q_anil))) q_anil)))))
theorem ok_lam6 {fd_shows_bar_2 : FuncData} (T : Tx K mg a__law_calls a__law_draw a__law_handed a__law_pick a__law_odd_6 a__law_pen a_is_whole a_is_base a_BadHouse___init__ a_need_base_2 a_is_listing a_is_count a_is_saying_a a_BadSaying___init__ a_need_sayings_3 a_reaches_3 a_least_house_2 a_need_one_more_2 a_shows_follows_3 a_may_be_4 a_how_many_2 a_nth_house_2 a_bar_of_4 a_blame_3 a_need_house_3 a_core_3 a_mend_2 a_shows_mend_2 a_least_mend_2 a_greatest_house_2 a_follows_3 a_which_2 a_keeps_2 a_is_beginning a_House___init__ a_shows_bar_2 a_least_by a_strongest_below a_why_least_2 a_greatest_by a_strongest_above a_why_greatest_2 a__law_refused_2 a_law a_House a_BadHouse a_BadSaying tk_LEAST_BASE tk_MOST_BASE) (G_shows_bar_2 : FnOk P w K mg base (L2.CX P w) 5 a_shows_bar_2 fd_shows_bar_2 ["k", "sayings", "thing", "reach"] (liftE K (xcl a_BadHouse a_BadSaying) (sp_shows_bar_2))) (kp_shows_bar_2_0 : KBn K fd_shows_bar_2 ["k", "sayings", "thing", "reach"] 3 ["reach"] (gP [0]) (gP [0])) : LamOk P w K mg base 6 (LtK 6) (xcl a_BadHouse a_BadSaying) (fun as t Pq Px => d_lam6 (Cl.mk a_House a_law a_law a_law a_law) (as.map Sl.val) t Pq Px) := by
  refine lam_okE (dx := d_lam6 (Cl.mk a_House a_law a_law a_law a_law)) ⟨by rfl, by rfl, by rfl, by decide +kernel, by decide +kernel, fun _ _ _ _ => by rfl⟩ (fun A outer s H E f c' Z B hr hB hm => ?_) (fun ls t Pq Px h hl => by rw [start0_all hl]; exact h)
  exact (z_call (pe_callPS G_shows_bar_2 (hr.mono (by decide)) rfl T.g_shows_bar_2 T.k_shows_bar_2 kp_shows_bar_2_0 (fun σ => passAt (takes_of rfl rfl rfl rfl) σ) (q_acons (q_var (pv 1)) (q_acons (q_var (pv 0)) (q_acons q_non q_anil))) (q_kcons q_int q_knil)))
theorem sc_least_by : FnScope N_least_by ["tie"] (defScope s_least_by) := ⟨rfl, rfl, rfl, by decide +kernel, rfl, by decide +kernel, by decide +kernel⟩
theorem ok_least_by {fd : FuncData} (F : Fun K "least_by" "least_by" s_least_by a_least_by fd) (T : Tx K mg a__law_calls a__law_draw a__law_handed a__law_pick a__law_odd_6 a__law_pen a_is_whole a_is_base a_BadHouse___init__ a_need_base_2 a_is_listing a_is_count a_is_saying_a a_BadSaying___init__ a_need_sayings_3 a_reaches_3 a_least_house_2 a_need_one_more_2 a_shows_follows_3 a_may_be_4 a_how_many_2 a_nth_house_2 a_bar_of_4 a_blame_3 a_need_house_3 a_core_3 a_mend_2 a_shows_mend_2 a_least_mend_2 a_greatest_house_2 a_follows_3 a_which_2 a_keeps_2 a_is_beginning a_House___init__ a_shows_bar_2 a_least_by a_strongest_below a_why_least_2 a_greatest_by a_strongest_above a_why_greatest_2 a__law_refused_2 a_law a_House a_BadHouse a_BadSaying tk_LEAST_BASE tk_MOST_BASE) : FnOk P w K mg base CX0 1 a_least_by fd ["tie"] (lift K (sp_least_by)) := by
  refine fn_ok (ds := d_least_by) F sc_least_by (len_least_by) (fun cdv A outer s H E B hr hB hm => ?_) (d_least_by_ok)
  exact (q_cons (q_ret hm (q_un un_neg run_neg (toV (q_op op_fdivW rop_div (toV (q_ix (toV (q_var (pv 0))) (toV q_int) (fun _ _ => rfl))) (toV (q_un un_neg run_neg (toV (q_ix (toV (q_var (pv 0))) (toV q_int) (fun _ _ => rfl))))))))) q_nil)
theorem sc_strongest_below : FnScope N_strongest_below ["ties"] (defScope s_strongest_below) := ⟨rfl, rfl, rfl, by decide +kernel, rfl, by decide +kernel, by decide +kernel⟩
theorem ok_strongest_below {fd fd_least_by : FuncData} (F : Fun K "strongest_below" "strongest_below" s_strongest_below a_strongest_below fd) (T : Tx K mg a__law_calls a__law_draw a__law_handed a__law_pick a__law_odd_6 a__law_pen a_is_whole a_is_base a_BadHouse___init__ a_need_base_2 a_is_listing a_is_count a_is_saying_a a_BadSaying___init__ a_need_sayings_3 a_reaches_3 a_least_house_2 a_need_one_more_2 a_shows_follows_3 a_may_be_4 a_how_many_2 a_nth_house_2 a_bar_of_4 a_blame_3 a_need_house_3 a_core_3 a_mend_2 a_shows_mend_2 a_least_mend_2 a_greatest_house_2 a_follows_3 a_which_2 a_keeps_2 a_is_beginning a_House___init__ a_shows_bar_2 a_least_by a_strongest_below a_why_least_2 a_greatest_by a_strongest_above a_why_greatest_2 a__law_refused_2 a_law a_House a_BadHouse a_BadSaying tk_LEAST_BASE tk_MOST_BASE) (G_least_by : FnOk P w K mg base CX0 1 a_least_by fd_least_by ["tie"] (lift K (sp_least_by))) (b_least_by : Binds K fd_least_by ["tie"] []) : FnOk P w K mg base CX0 3 a_strongest_below fd ["ties"] (lift K (sp_strongest_below)) := by
  refine fn_ok (ds := d_strongest_below) F sc_strongest_below (len_strongest_below) (fun cdv A outer s H E B hr hB hm => ?_) (d_strongest_below_ok)
  exact (q_cons (q_ret hm (q_best (mx := true) rfl G_least_by (hr.mono (by decide)) b_least_by (by rfl) T.b_max (by decide +kernel) rfl T.g_least_by (toE (q_lc (own := [("tie", 1)]) rfl sc_strongest_below.nd (q_iany (q_var (pv 0))) (blkOk_by (N := N_strongest_below) (sc := defScope s_strongest_below) (own := [("tie", 1)]) (by decide +kernel)) (fun _ _ _ _ _ B => (q_gname (vs := [1]) (pg_name (i := 1) sc_strongest_below.nd rfl (Or.inl rfl)) (by decide))) (fun _ _ _ _ _ => pts_U1 fun B => (q_tcmp op_lt rop_lt (toV (q_ix (toV (q_var (pv 1))) (toV q_int) (fun _ _ => rfl))) (toV q_int) (nomark _))) (fun _ _ _ _ _ B => (q_var (pv 1))))))) q_nil)
theorem sc_why_least_2 : FnScope N_why_least_2 ["k", "sayings"] (defScope s_why_least_2) := ⟨rfl, rfl, rfl, by decide +kernel, rfl, by decide +kernel, by decide +kernel⟩
theorem ok_why_least_2 {fd fd_strongest_below fd_need_house_3 : FuncData} (F : Fun K "why_least" "why_least" s_why_least_2 a_why_least_2 fd) (T : Tx K mg a__law_calls a__law_draw a__law_handed a__law_pick a__law_odd_6 a__law_pen a_is_whole a_is_base a_BadHouse___init__ a_need_base_2 a_is_listing a_is_count a_is_saying_a a_BadSaying___init__ a_need_sayings_3 a_reaches_3 a_least_house_2 a_need_one_more_2 a_shows_follows_3 a_may_be_4 a_how_many_2 a_nth_house_2 a_bar_of_4 a_blame_3 a_need_house_3 a_core_3 a_mend_2 a_shows_mend_2 a_least_mend_2 a_greatest_house_2 a_follows_3 a_which_2 a_keeps_2 a_is_beginning a_House___init__ a_shows_bar_2 a_least_by a_strongest_below a_why_least_2 a_greatest_by a_strongest_above a_why_greatest_2 a__law_refused_2 a_law a_House a_BadHouse a_BadSaying tk_LEAST_BASE tk_MOST_BASE) (G_strongest_below : FnOk P w K mg base CX0 3 a_strongest_below fd_strongest_below ["ties"] (lift K (sp_strongest_below))) (b_strongest_below : Binds K fd_strongest_below ["ties"] []) (G_need_house_3 : FnOk P w K mg base (L2.CX P w) 5 a_need_house_3 fd_need_house_3 ["k", "sayings"] (liftE K (xcl a_BadHouse a_BadSaying) (sp_need_house_3))) (b_need_house_3 : Binds K fd_need_house_3 ["k", "sayings"] []) : FnOk P w K mg base (L2.CX P w) 6 a_why_least_2 fd ["k", "sayings"] (liftE K (xcl a_BadHouse a_BadSaying) (sp_why_least_2)) := by
  refine fn_okE (cl := (xcl a_BadHouse a_BadSaying)) (ds := d_why_least_2) F sc_why_least_2 (len_why_least_2) (fun cdv A outer s H E B Px hr hB hm hE => ?_) (d_why_least_2_ok)
  exact (q_cons (q_set (i := 2) sc_why_least_2.nd rfl (Or.inl rfl) (q_call G_strongest_below (hr.mono (by decide)) rfl T.g_strongest_below T.k_strongest_below b_strongest_below .nil (fun _ _ => RelL.nil) pass0 (q_acons (q_XE (W := fun c d _ H => E c d H) hE (z_call (pe_callS G_need_house_3 (hr.mono (by decide)) rfl T.g_need_house_3 T.k_need_house_3 b_need_house_3 (fun σ => passAt (takes_of rfl rfl rfl rfl) σ) (q_acons (q_var (pv 0)) (q_acons (q_var (pv 1)) q_anil))))) q_anil))) (q_cons q_never q_nil))
theorem ok_lam7 {fd_why_least_2 : FuncData} (T : Tx K mg a__law_calls a__law_draw a__law_handed a__law_pick a__law_odd_6 a__law_pen a_is_whole a_is_base a_BadHouse___init__ a_need_base_2 a_is_listing a_is_count a_is_saying_a a_BadSaying___init__ a_need_sayings_3 a_reaches_3 a_least_house_2 a_need_one_more_2 a_shows_follows_3 a_may_be_4 a_how_many_2 a_nth_house_2 a_bar_of_4 a_blame_3 a_need_house_3 a_core_3 a_mend_2 a_shows_mend_2 a_least_mend_2 a_greatest_house_2 a_follows_3 a_which_2 a_keeps_2 a_is_beginning a_House___init__ a_shows_bar_2 a_least_by a_strongest_below a_why_least_2 a_greatest_by a_strongest_above a_why_greatest_2 a__law_refused_2 a_law a_House a_BadHouse a_BadSaying tk_LEAST_BASE tk_MOST_BASE) (G_why_least_2 : FnOk P w K mg base (L2.CX P w) 6 a_why_least_2 fd_why_least_2 ["k", "sayings"] (liftE K (xcl a_BadHouse a_BadSaying) (sp_why_least_2))) (b_why_least_2 : Binds K fd_why_least_2 ["k", "sayings"] []) : LamOk P w K mg base 7 (LtK 7) (xcl a_BadHouse a_BadSaying) (fun as t Pq Px => d_lam7 (Cl.mk a_House a_law a_law a_law a_law) (as.map Sl.val) t Pq Px) := by
  refine lam_okE (dx := d_lam7 (Cl.mk a_House a_law a_law a_law a_law)) ⟨by rfl, by rfl, by rfl, by decide +kernel, by decide +kernel, fun _ _ _ _ => by rfl⟩ (fun A outer s H E f c' Z B hr hB hm => ?_) (fun ls t Pq Px h hl => by rw [start0_all hl]; exact h)
  exact (z_call (pe_callS G_why_least_2 (hr.mono (by decide)) rfl T.g_why_least_2 T.k_why_least_2 b_why_least_2 (fun σ => passAt (takes_of rfl rfl rfl rfl) σ) (q_acons (q_var (pv 1)) (q_acons (q_var (pv 0)) q_anil))))
theorem sc_greatest_by : FnScope N_greatest_by ["tie"] (defScope s_greatest_by) := ⟨rfl, rfl, rfl, by decide +kernel, rfl, by decide +kernel, by decide +kernel⟩
theorem ok_greatest_by {fd : FuncData} (F : Fun K "greatest_by" "greatest_by" s_greatest_by a_greatest_by fd) (T : Tx K mg a__law_calls a__law_draw a__law_handed a__law_pick a__law_odd_6 a__law_pen a_is_whole a_is_base a_BadHouse___init__ a_need_base_2 a_is_listing a_is_count a_is_saying_a a_BadSaying___init__ a_need_sayings_3 a_reaches_3 a_least_house_2 a_need_one_more_2 a_shows_follows_3 a_may_be_4 a_how_many_2 a_nth_house_2 a_bar_of_4 a_blame_3 a_need_house_3 a_core_3 a_mend_2 a_shows_mend_2 a_least_mend_2 a_greatest_house_2 a_follows_3 a_which_2 a_keeps_2 a_is_beginning a_House___init__ a_shows_bar_2 a_least_by a_strongest_below a_why_least_2 a_greatest_by a_strongest_above a_why_greatest_2 a__law_refused_2 a_law a_House a_BadHouse a_BadSaying tk_LEAST_BASE tk_MOST_BASE) : FnOk P w K mg base CX0 1 a_greatest_by fd ["tie"] (lift K (sp_greatest_by)) := by
  refine fn_ok (ds := d_greatest_by) F sc_greatest_by (len_greatest_by) (fun cdv A outer s H E B hr hB hm => ?_) (d_greatest_by_ok)
  exact (q_cons (q_ret hm (q_op op_fdivW rop_div (toV (q_ix (toV (q_var (pv 0))) (toV q_int) (fun _ _ => rfl))) (toV (q_ix (toV (q_var (pv 0))) (toV q_int) (fun _ _ => rfl))))) q_nil)
theorem sc_strongest_above : FnScope N_strongest_above ["ties"] (defScope s_strongest_above) := ⟨rfl, rfl, rfl, by decide +kernel, rfl, by decide +kernel, by decide +kernel⟩
theorem ok_strongest_above {fd fd_greatest_by : FuncData} (F : Fun K "strongest_above" "strongest_above" s_strongest_above a_strongest_above fd) (T : Tx K mg a__law_calls a__law_draw a__law_handed a__law_pick a__law_odd_6 a__law_pen a_is_whole a_is_base a_BadHouse___init__ a_need_base_2 a_is_listing a_is_count a_is_saying_a a_BadSaying___init__ a_need_sayings_3 a_reaches_3 a_least_house_2 a_need_one_more_2 a_shows_follows_3 a_may_be_4 a_how_many_2 a_nth_house_2 a_bar_of_4 a_blame_3 a_need_house_3 a_core_3 a_mend_2 a_shows_mend_2 a_least_mend_2 a_greatest_house_2 a_follows_3 a_which_2 a_keeps_2 a_is_beginning a_House___init__ a_shows_bar_2 a_least_by a_strongest_below a_why_least_2 a_greatest_by a_strongest_above a_why_greatest_2 a__law_refused_2 a_law a_House a_BadHouse a_BadSaying tk_LEAST_BASE tk_MOST_BASE) (G_greatest_by : FnOk P w K mg base CX0 1 a_greatest_by fd_greatest_by ["tie"] (lift K (sp_greatest_by))) (b_greatest_by : Binds K fd_greatest_by ["tie"] []) : FnOk P w K mg base CX0 3 a_strongest_above fd ["ties"] (lift K (sp_strongest_above)) := by
  refine fn_ok (ds := d_strongest_above) F sc_strongest_above (len_strongest_above) (fun cdv A outer s H E B hr hB hm => ?_) (d_strongest_above_ok)
  exact (q_cons (q_ret hm (q_bestD (mx := false) (dv := .non) rfl G_greatest_by (hr.mono (by decide)) b_greatest_by (by rfl) T.b_min (by decide +kernel) rfl T.g_greatest_by pe_non (fun _ _ => by unfold RelD; rfl) (toE (q_lc (own := [("tie", 1)]) rfl sc_strongest_above.nd (q_iany (q_var (pv 0))) (blkOk_by (N := N_strongest_above) (sc := defScope s_strongest_above) (own := [("tie", 1)]) (by decide +kernel)) (fun _ _ _ _ _ B => (q_gname (vs := [1]) (pg_name (i := 1) sc_strongest_above.nd rfl (Or.inl rfl)) (by decide))) (fun _ _ _ _ _ => pts_U1 fun B => (q_tcmp op_gt rop_gt (toV (q_ix (toV (q_var (pv 1))) (toV q_int) (fun _ _ => rfl))) (toV q_int) (nomark _))) (fun _ _ _ _ _ B => (q_var (pv 1))))))) q_nil)
theorem sc_why_greatest_2 : FnScope N_why_greatest_2 ["k", "sayings"] (defScope s_why_greatest_2) := ⟨rfl, rfl, rfl, by decide +kernel, rfl, by decide +kernel, by decide +kernel⟩
theorem ok_why_greatest_2 {fd fd_strongest_above fd_need_house_3 : FuncData} (F : Fun K "why_greatest" "why_greatest" s_why_greatest_2 a_why_greatest_2 fd) (T : Tx K mg a__law_calls a__law_draw a__law_handed a__law_pick a__law_odd_6 a__law_pen a_is_whole a_is_base a_BadHouse___init__ a_need_base_2 a_is_listing a_is_count a_is_saying_a a_BadSaying___init__ a_need_sayings_3 a_reaches_3 a_least_house_2 a_need_one_more_2 a_shows_follows_3 a_may_be_4 a_how_many_2 a_nth_house_2 a_bar_of_4 a_blame_3 a_need_house_3 a_core_3 a_mend_2 a_shows_mend_2 a_least_mend_2 a_greatest_house_2 a_follows_3 a_which_2 a_keeps_2 a_is_beginning a_House___init__ a_shows_bar_2 a_least_by a_strongest_below a_why_least_2 a_greatest_by a_strongest_above a_why_greatest_2 a__law_refused_2 a_law a_House a_BadHouse a_BadSaying tk_LEAST_BASE tk_MOST_BASE) (G_strongest_above : FnOk P w K mg base CX0 3 a_strongest_above fd_strongest_above ["ties"] (lift K (sp_strongest_above))) (b_strongest_above : Binds K fd_strongest_above ["ties"] []) (G_need_house_3 : FnOk P w K mg base (L2.CX P w) 5 a_need_house_3 fd_need_house_3 ["k", "sayings"] (liftE K (xcl a_BadHouse a_BadSaying) (sp_need_house_3))) (b_need_house_3 : Binds K fd_need_house_3 ["k", "sayings"] []) : FnOk P w K mg base (L2.CX P w) 6 a_why_greatest_2 fd ["k", "sayings"] (liftE K (xcl a_BadHouse a_BadSaying) (sp_why_greatest_2)) := by
  refine fn_okE (cl := (xcl a_BadHouse a_BadSaying)) (ds := d_why_greatest_2) F sc_why_greatest_2 (len_why_greatest_2) (fun cdv A outer s H E B Px hr hB hm hE => ?_) (d_why_greatest_2_ok)
  exact (q_cons (q_set (i := 2) sc_why_greatest_2.nd rfl (Or.inl rfl) (q_call G_strongest_above (hr.mono (by decide)) rfl T.g_strongest_above T.k_strongest_above b_strongest_above .nil (fun _ _ => RelL.nil) pass0 (q_acons (q_XE (W := fun c d _ H => E c d H) hE (z_call (pe_callS G_need_house_3 (hr.mono (by decide)) rfl T.g_need_house_3 T.k_need_house_3 b_need_house_3 (fun σ => passAt (takes_of rfl rfl rfl rfl) σ) (q_acons (q_var (pv 0)) (q_acons (q_var (pv 1)) q_anil))))) q_anil))) (q_cons q_never q_nil))
theorem ok_lam8 {fd_why_greatest_2 : FuncData} (T : Tx K mg a__law_calls a__law_draw a__law_handed a__law_pick a__law_odd_6 a__law_pen a_is_whole a_is_base a_BadHouse___init__ a_need_base_2 a_is_listing a_is_count a_is_saying_a a_BadSaying___init__ a_need_sayings_3 a_reaches_3 a_least_house_2 a_need_one_more_2 a_shows_follows_3 a_may_be_4 a_how_many_2 a_nth_house_2 a_bar_of_4 a_blame_3 a_need_house_3 a_core_3 a_mend_2 a_shows_mend_2 a_least_mend_2 a_greatest_house_2 a_follows_3 a_which_2 a_keeps_2 a_is_beginning a_House___init__ a_shows_bar_2 a_least_by a_strongest_below a_why_least_2 a_greatest_by a_strongest_above a_why_greatest_2 a__law_refused_2 a_law a_House a_BadHouse a_BadSaying tk_LEAST_BASE tk_MOST_BASE) (G_why_greatest_2 : FnOk P w K mg base (L2.CX P w) 6 a_why_greatest_2 fd_why_greatest_2 ["k", "sayings"] (liftE K (xcl a_BadHouse a_BadSaying) (sp_why_greatest_2))) (b_why_greatest_2 : Binds K fd_why_greatest_2 ["k", "sayings"] []) : LamOk P w K mg base 7 (LtK 8) (xcl a_BadHouse a_BadSaying) (fun as t Pq Px => d_lam8 (Cl.mk a_House a_law a_law a_law a_law) (as.map Sl.val) t Pq Px) := by
  refine lam_okE (dx := d_lam8 (Cl.mk a_House a_law a_law a_law a_law)) ⟨by rfl, by rfl, by rfl, by decide +kernel, by decide +kernel, fun _ _ _ _ => by rfl⟩ (fun A outer s H E f c' Z B hr hB hm => ?_) (fun ls t Pq Px h hl => by rw [start0_all hl]; exact h)
  exact (z_call (pe_callS G_why_greatest_2 (hr.mono (by decide)) rfl T.g_why_greatest_2 T.k_why_greatest_2 b_why_greatest_2 (fun σ => passAt (takes_of rfl rfl rfl rfl) σ) (q_acons (q_var (pv 1)) (q_acons (q_var (pv 0)) q_anil))))
theorem ok_lam9 {fd_follows_3 : FuncData} (T : Tx K mg a__law_calls a__law_draw a__law_handed a__law_pick a__law_odd_6 a__law_pen a_is_whole a_is_base a_BadHouse___init__ a_need_base_2 a_is_listing a_is_count a_is_saying_a a_BadSaying___init__ a_need_sayings_3 a_reaches_3 a_least_house_2 a_need_one_more_2 a_shows_follows_3 a_may_be_4 a_how_many_2 a_nth_house_2 a_bar_of_4 a_blame_3 a_need_house_3 a_core_3 a_mend_2 a_shows_mend_2 a_least_mend_2 a_greatest_house_2 a_follows_3 a_which_2 a_keeps_2 a_is_beginning a_House___init__ a_shows_bar_2 a_least_by a_strongest_below a_why_least_2 a_greatest_by a_strongest_above a_why_greatest_2 a__law_refused_2 a_law a_House a_BadHouse a_BadSaying tk_LEAST_BASE tk_MOST_BASE) (G_follows_3 : FnOk P w K mg base (L2.CX P w) 6 a_follows_3 fd_follows_3 ["k", "sayings", "saying"] (liftE K (xcl a_BadHouse a_BadSaying) (sp_follows_3))) (b_follows_3 : Binds K fd_follows_3 ["k", "sayings", "saying"] []) : LamOk P w K mg base 7 (LtK 9) (xcl a_BadHouse a_BadSaying) (fun as t Pq Px => d_lam9 (Cl.mk a_House a_law a_law a_law a_law) (as.map Sl.val) t Pq Px) := by
  refine lam_okE (dx := d_lam9 (Cl.mk a_House a_law a_law a_law a_law)) ⟨by rfl, by rfl, by rfl, by decide +kernel, by decide +kernel, fun _ _ _ _ => by rfl⟩ (fun A outer s H E f c' Z B hr hB hm => ?_) (fun ls t Pq Px h hl => by rw [start0_all hl]; exact h)
  exact (z_call (pe_callS G_follows_3 (hr.mono (by decide)) rfl T.g_follows_3 T.k_follows_3 b_follows_3 (fun σ => passAt (takes_of rfl rfl rfl rfl) σ) (q_acons (q_var (pv 1)) (q_acons (q_var (pv 0)) (q_acons (q_var (pv 2)) q_anil)))))
theorem sc__law_refused_2 : FnScope N__law_refused_2 ["_law_call"] (defScope s__law_refused_2) := ⟨rfl, rfl, rfl, by decide +kernel, rfl, by decide +kernel, by decide +kernel⟩
theorem ok__law_refused_2 {fd : FuncData} (F : Fun K "_law_refused" "_law_refused" s__law_refused_2 a__law_refused_2 fd) (T : Tx K mg a__law_calls a__law_draw a__law_handed a__law_pick a__law_odd_6 a__law_pen a_is_whole a_is_base a_BadHouse___init__ a_need_base_2 a_is_listing a_is_count a_is_saying_a a_BadSaying___init__ a_need_sayings_3 a_reaches_3 a_least_house_2 a_need_one_more_2 a_shows_follows_3 a_may_be_4 a_how_many_2 a_nth_house_2 a_bar_of_4 a_blame_3 a_need_house_3 a_core_3 a_mend_2 a_shows_mend_2 a_least_mend_2 a_greatest_house_2 a_follows_3 a_which_2 a_keeps_2 a_is_beginning a_House___init__ a_shows_bar_2 a_least_by a_strongest_below a_why_least_2 a_greatest_by a_strongest_above a_why_greatest_2 a__law_refused_2 a_law a_House a_BadHouse a_BadSaying tk_LEAST_BASE tk_MOST_BASE) (HL : ∀ n L, LamOk P w K mg base 7 L (xcl a_BadHouse a_BadSaying) (d_ap (Cl.mk a_House a_law a_law a_law a_law) LtK n L)) : FnOkG P w K mg base CX0 8 a__law_refused_2 fd ["_law_call"] (lift K (sp__law_refused_2 (Cl.mk a_House a_law a_law a_law a_law) LtK)) := by
  refine fn_okG (ds := d__law_refused_2 (Cl.mk a_House a_law a_law a_law a_law) LtK (xad a_BadHouse a_BadSaying)) F sc__law_refused_2 (len__law_refused_2 (Cl.mk a_House a_law a_law a_law a_law) LtK (xad a_BadHouse a_BadSaying)) (fun cdv A outer s H E B hr0 hB hm => ?_) (d__law_refused_2_ok (Cl.mk a_House a_law a_law a_law a_law) LtK (xad a_BadHouse a_BadSaying))
  have hr := hr0.room
  exact (q_cons (q_set (i := 1) sc__law_refused_2.nd rfl (Or.inl rfl) q_non) (q_cons (q_tryKeep (i := 1) (j := 2) (cs := [(.BadHouse, a_BadHouse, some "part"), (.BadSaying, a_BadSaying, some "place")]) rfl rfl rfl sc__law_refused_2.nd (show 1 < N__law_refused_2.length by decide) rfl (by decide) rfl (.cons ⟨rfl, by decide, .inl T.g_BadHouse⟩ (.cons ⟨rfl, by decide, .inl T.g_BadSaying⟩ .nil)) (by show 2 ≤ sizeLine; decide) (fun h tp e cls X LT hp hx => PySem.W.exm_tup2 X LT hp hx) (by intro z hz; simp only [List.mem_cons, List.not_mem_nil, or_false] at hz; rcases hz with rfl | rfl; exact ⟨rfl, exmAny2 (T.tx_BadHouse .BadHouse _ _ rfl) (T.tx_BadSaying .BadHouse _ _ rfl) rfl⟩; exact ⟨rfl, exmAny2 (T.tx_BadHouse .BadSaying _ _ rfl) (T.tx_BadSaying .BadSaying _ _ rfl) rfl⟩) (fun W pn xe tk => z_app HL (hr.mono (by decide)) (pv 0) (fun σ => passAt tk σ)) (fun a oe pn => ps_set (i := 1) sc__law_refused_2.nd rfl (Or.inl rfl) (pv 2))) (q_cons (q_if (L2.PW.pt (q_or (q_tcmp op_isN rop_isN (toV (q_var (pv 1))) (toV q_non) (nomark _)) (q_or1 (q_not (q_tval (q_isX (tb := [(0, a_BadHouse, true), (2, a_BadSaying, true)]) (c := .ty "ValueError") (cv := .type "ValueError") (fun u hu => hu) (by intro z hz; simp only [List.mem_cons, List.not_mem_nil, or_false] at hz; rcases hz with rfl | rfl; exact ⟨T.ex_BadHouse, T.ki_BadHouse_ValueError⟩; exact ⟨T.ex_BadSaying, T.ki_BadSaying_ValueError⟩) (q_var (pv 1)) (pe_bltn (v := .ty "ValueError") (by rfl) T.b_ValueError (by decide +kernel) rfl) rfl T.b_isinstance)))))) (q_cons (q_ret hm q_non) q_nil) q_nil) (q_cons (q_if (q_tval (q_isX (tb := [(0, a_BadHouse, true), (2, a_BadSaying, false)]) (c := .ref a_BadHouse) (cv := .ref a_BadHouse) (fun u hu => hu) (by intro z hz; simp only [List.mem_cons, List.not_mem_nil, or_false] at hz; rcases hz with rfl | rfl; exact ⟨T.ex_BadHouse, (kit_exm (T.tx_BadHouse .BadHouse _ _ rfl) T.te_BadHouse)⟩; exact ⟨T.ex_BadSaying, (kit_exm (T.tx_BadHouse .BadSaying _ _ rfl) T.te_BadHouse)⟩) (q_var (pv 1)) (pe_glob (v := .ref a_BadHouse) rfl T.g_BadHouse rfl) rfl T.b_isinstance)) (q_cons (q_ret hm (q_ifE (q_tval (q_isX (tb := [(0, a_BadHouse, false), (2, a_BadSaying, true)]) (c := .ref a_BadSaying) (cv := .ref a_BadSaying) (fun u hu => hu) (by intro z hz; simp only [List.mem_cons, List.not_mem_nil, or_false] at hz; rcases hz with rfl | rfl; exact ⟨T.ex_BadHouse, (kit_exm (T.tx_BadSaying .BadHouse _ _ rfl) T.te_BadSaying)⟩; exact ⟨T.ex_BadSaying, (kit_exm (T.tx_BadSaying .BadSaying _ _ rfl) T.te_BadSaying)⟩) (q_var (pv 1)) (pe_glob (v := .ref a_BadSaying) rfl T.g_BadSaying rfl) rfl T.b_isinstance)) (q_tup (q_acons q_str (q_acons q_str q_anil))) (q_tup (q_acons q_str (q_acons (q_fldX (tb := [(0, a_BadHouse)]) (by intro z hz; simp only [List.mem_cons, List.not_mem_nil, or_false] at hz; rcases hz with rfl; exact ⟨⟨T.ex_BadHouse.hg, T.ex_BadHouse.hk, T.ex_BadHouse.hs, T.ex_BadHouse.hd⟩, T.no_BadHouse⟩) (q_var (pv 1))) q_anil))))) q_nil) q_nil) (q_cons (q_ret hm (q_tup (q_acons q_str (q_acons (q_callB (call_reprD hr0.idle hr.units) rc_reprI (by rfl) T.b_repr (by decide +kernel) (q_xcons (toV (q_fldX (tb := [(2, a_BadSaying)]) (by intro z hz; simp only [List.mem_cons, List.not_mem_nil, or_false] at hz; rcases hz with rfl; exact ⟨⟨T.ex_BadSaying.hg, T.ex_BadSaying.hk, T.ex_BadSaying.hs, T.ex_BadSaying.hd⟩, T.no_BadSaying⟩) (q_var (pv 1)))) q_xnil)) q_anil)))) q_nil)))))
theorem sc_law : FnScope N_law ["_law_script"] (defScope s_law) := ⟨rfl, rfl, rfl, by decide +kernel, rfl, by decide +kernel, by decide +kernel⟩
theorem ok_law {fd__law_calls fd__law_draw fd__law_handed fd__law_odd_6 fd__law_pen fd__law_pick fd__law_refused_2 : FuncData} {cA0 Pt0 cA1 Pt1 : Addr} {kV doc pm ct oc : Value} {an od : Option Addr} {osl : Array (Option Value)} (lk : K.lookup a_law = some ⟨oc, od, .func (PySem.W.fnOf "law" "law" (defArgs s_law) (defBody s_law) (defScope s_law) .none kV doc pm an (.ref cA1) ct), osl⟩) (hcd : PySem.W.codeIn K (.ref cA1) "law" = true) (hu : ∀ p ∈ ([(Pt0, ((envOfC "_law_calls" (defScope s__law_calls) 0 a__law_calls (.ref cA0)).qual ++ "<lambda>")), (Pt1, ((envOfC "law" (defScope s_law) 0 a_law (.ref cA1)).qual ++ "<lambda>"))] : List (Addr × Str)), ∀ q ∈ ([(Pt0, ((envOfC "_law_calls" (defScope s__law_calls) 0 a__law_calls (.ref cA0)).qual ++ "<lambda>")), (Pt1, ((envOfC "law" (defScope s_law) 0 a_law (.ref cA1)).qual ++ "<lambda>"))] : List (Addr × Str)), q.1 = p.1 → q.2 = p.2) (TB : LamX.TabB base mg cA1 Pt1) (T : Tx K mg a__law_calls a__law_draw a__law_handed a__law_pick a__law_odd_6 a__law_pen a_is_whole a_is_base a_BadHouse___init__ a_need_base_2 a_is_listing a_is_count a_is_saying_a a_BadSaying___init__ a_need_sayings_3 a_reaches_3 a_least_house_2 a_need_one_more_2 a_shows_follows_3 a_may_be_4 a_how_many_2 a_nth_house_2 a_bar_of_4 a_blame_3 a_need_house_3 a_core_3 a_mend_2 a_shows_mend_2 a_least_mend_2 a_greatest_house_2 a_follows_3 a_which_2 a_keeps_2 a_is_beginning a_House___init__ a_shows_bar_2 a_least_by a_strongest_below a_why_least_2 a_greatest_by a_strongest_above a_why_greatest_2 a__law_refused_2 a_law a_House a_BadHouse a_BadSaying tk_LEAST_BASE tk_MOST_BASE) (G__law_calls : FnOk P w K mg base CX0 1 a__law_calls fd__law_calls ["_law_k", "_law_some"] (liftT K Pt0 ((envOfC "_law_calls" (defScope s__law_calls) 0 a__law_calls (.ref cA0)).qual ++ "<lambda>") (sp__law_calls LtK))) (b__law_calls : Binds K fd__law_calls ["_law_k", "_law_some"] []) (G__law_draw : FnOk P w K mg base CX0 1 a__law_draw fd__law_draw ["_law_pen_here", "_law_many"] (lift K (sp__law_draw))) (b__law_draw : Binds K fd__law_draw ["_law_pen_here", "_law_many"] []) (G__law_handed : FnOk P w K mg base CX0 2 a__law_handed fd__law_handed ["_law_pen_here", "_law_some"] (lift K (sp__law_handed))) (b__law_handed : Binds K fd__law_handed ["_law_pen_here", "_law_some"] []) (G__law_odd_6 : FnOk P w K mg base CX0 3 a__law_odd_6 fd__law_odd_6 ["_law_pen_here"] (lift K (sp__law_odd_6))) (b__law_odd_6 : Binds K fd__law_odd_6 ["_law_pen_here"] []) (G__law_pen : FnOk P w K mg base CX0 1 a__law_pen fd__law_pen ["_law_script"] (liftN K (sp__law_pen))) (b__law_pen : Binds K fd__law_pen ["_law_script"] []) (G__law_pick : FnOk P w K mg base CX0 2 a__law_pick fd__law_pick ["_law_pen_here", "_law_some"] (lift K (sp__law_pick))) (b__law_pick : Binds K fd__law_pick ["_law_pen_here", "_law_some"] []) (G__law_refused_2 : FnOkG P w K mg base CX0 8 a__law_refused_2 fd__law_refused_2 ["_law_call"] (lift K (sp__law_refused_2 (Cl.mk a_House a_law a_law a_law a_law) LtK))) (b__law_refused_2 : Binds K fd__law_refused_2 ["_law_call"] []) : FnOkG P w K mg base CX0 9 a_law (PySem.W.fnOf "law" "law" (defArgs s_law) (defBody s_law) (defScope s_law) .none kV doc pm an (.ref cA1) ct) ["_law_script"] (spLawTs K [(Pt0, ((envOfC "_law_calls" (defScope s__law_calls) 0 a__law_calls (.ref cA0)).qual ++ "<lambda>")), (Pt1, ((envOfC "law" (defScope s_law) 0 a_law (.ref cA1)).qual ++ "<lambda>"))]) := by
  refine fn_lawTsL (ts := [(Pt0, ((envOfC "_law_calls" (defScope s__law_calls) 0 a__law_calls (.ref cA0)).qual ++ "<lambda>")), (Pt1, ((envOfC "law" (defScope s_law) 0 a_law (.ref cA1)).qual ++ "<lambda>"))]) (i := 1) (dp := dCall sp__law_pen [] (dCons (dVar 0) dNil)) (ds := (fun DD env t => ∀ Z, d_law (Cl.mk a_House a_law a_law a_law a_law) LtK Z DD env t)) hu lk hcd sc_law rfl (fun A outer s H E B hr0 => ?_) (fun A outer s H E B hr0 hB hm hTs => ?_) ⟨by decide, by decide⟩ false (d_law_ok (Cl.mk a_House a_law a_law a_law a_law) LtK)
  · have hr := hr0.room
    exact ps_set (i := 1) sc_law.nd rfl (Or.inl rfl) (q_callN G__law_pen (hr.mono (by decide)) rfl T.g__law_pen T.k__law_pen b__law_pen .nil (fun _ _ => RelL.nil) pass0 (q_acons (q_var (pv 0)) q_anil))
  · have hr := hr0.room
    have hT0 := hTs (Pt0, ((envOfC "_law_calls" (defScope s__law_calls) 0 a__law_calls (.ref cA0)).qual ++ "<lambda>")) (by simp)
    have hT1 := hTs (Pt1, ((envOfC "law" (defScope s_law) 0 a_law (.ref cA1)).qual ++ "<lambda>")) (by simp)
    exact (q_allZ (Lt := LtK) (ds := d_law (Cl.mk a_House a_law a_law a_law a_law) LtK) (q_cons (q_for PassesOwn.never rfl (q_irng1 (by rfl) T.b_range (toV (q_op op_add4 rop_add (toV q_int) (toV (q_callB (call_min3 rfl) rc_min (by rfl) T.b_min (by decide +kernel) (q_xcons (toV q_int) (q_xcons (toV (q_callB call_len3 rc_len (by rfl) T.b_len (by decide +kernel) (q_xcons (toV (q_var (pv 0))) q_xnil))) q_xnil))))))) (q_gname (vs := [2]) (pg_name (i := 2) sc_law.nd rfl (Or.inl rfl)) (by decide)) (q_cons (q_asgM (l := [(8, false), (9, true)]) rfl (q_mconsV (q_op op_add4 rop_add (toV q_int) (toV (q_call G__law_draw (hr.mono (by decide)) rfl T.g__law_draw T.k__law_draw b__law_draw .nil (fun _ _ => RelL.nil) pass0 (q_acons (q_var (pv 1)) (q_acons q_int q_anil))))) (q_mconsN (q_lst q_anil) fun B => q_mnil)) (q_nmcons (pg_name (i := 8) sc_law.nd rfl (Or.inr rfl)) (q_nmcons (pg_name (i := 9) sc_law.nd rfl (Or.inr rfl)) q_nmnil))) (q_cons (q_for PassesOwn.never rfl (q_irng1 (by rfl) T.b_range (toV (q_op op_add4 rop_add (toV q_int) (toV (q_call G__law_draw (hr.mono (by decide)) rfl T.g__law_draw T.k__law_draw b__law_draw .nil (fun _ _ => RelL.nil) pass0 (q_acons (q_var (pv 1)) (q_acons q_int q_anil))))))) (q_gname (vs := [3]) (pg_name (i := 3) sc_law.nd rfl (Or.inl rfl)) (by decide)) (q_cons (q_par (i := 12) (j := 13) rfl sc_law.nd rfl rfl (by decide) rfl rfl (q_acons (q_call G__law_pick (hr.mono (by decide)) rfl T.g__law_pick T.k__law_pick b__law_pick .nil (fun _ _ => RelL.nil) pass0 (q_acons (q_var (pv 1)) (q_acons (toE (q_lst (q_acons q_str (q_acons q_str q_anil)))) q_anil))) (q_acons (q_op op_add4 rop_add (toV q_int) (toV (q_call G__law_draw (hr.mono (by decide)) rfl T.g__law_draw T.k__law_draw b__law_draw .nil (fun _ _ => RelL.nil) pass0 (q_acons (q_var (pv 1)) (q_acons q_int q_anil))))) q_anil)) (by rfl)) (q_cons (q_app (i := 9) (pe_bm PySem.F.plainAttrs_list PySem.F.slot_list_append PySem.F.type_list_append mt_append (pv 9) (pa_cons (q_tup (q_acons (q_var (pv 12)) (q_acons (q_var (pv 13)) (q_acons (q_op op_add4 rop_add (toV q_int) (toV (q_call G__law_draw (hr.mono (by decide)) rfl T.g__law_draw T.k__law_draw b__law_draw .nil (fun _ _ => RelL.nil) pass0 (q_acons (q_var (pv 1)) (q_acons q_int q_anil))))) q_anil)))) pa_nil))) q_nil))) (q_frz (i := 9) hB (q_cons (q_asg (q_tup (q_acons (q_call G__law_draw (hr.mono (by decide)) rfl T.g__law_draw T.k__law_draw b__law_draw .nil (fun _ _ => RelL.nil) pass0 (q_acons (q_var (pv 1)) (q_acons (q_callB call_len3 rc_len (by rfl) T.b_len (by decide +kernel) (q_xcons (q_view (pv 9)) q_xnil)) q_anil))) (q_acons (q_call G__law_odd_6 (hr.mono (by decide)) rfl T.g__law_odd_6 T.k__law_odd_6 b__law_odd_6 .nil (fun _ _ => RelL.nil) pass0 (q_acons (q_var (pv 1)) q_anil)) q_anil))) (q_gtup (n := 2) rfl (q_gcons (q_gname (vs := [10, 11]) (pg_name (i := 10) sc_law.nd rfl (Or.inl rfl)) (by decide)) (q_gcons (q_gname (vs := [10, 11]) (pg_name (i := 11) sc_law.nd rfl (Or.inr rfl)) (by decide)) q_gnil)))) (q_cons (q_set (i := 4) sc_law.nd rfl (Or.inr rfl) (q_op op_add4 rop_add (toV (q_op op_add4 rop_add (toV (q_slice (q_view (pv 9)) q_onone (q_osome (toV (q_var (pv 10)))))) (toV (toE (q_lst (q_acons (q_var (pv 11)) q_anil)))))) (toV (q_slice (q_view (pv 9)) (q_osome (toV (q_op op_add4 rop_add (toV (q_var (pv 10))) (toV q_int)))) q_onone)))) (q_cons (q_set (i := 4) sc_law.nd rfl (Or.inr rfl) (q_op op_add4 rop_add (toV (q_var (pv 4))) (toV (q_slice (toV (toE (q_lst (q_acons (q_call G__law_odd_6 (hr.mono (by decide)) rfl T.g__law_odd_6 T.k__law_odd_6 b__law_odd_6 .nil (fun _ _ => RelL.nil) pass0 (q_acons (q_var (pv 1)) q_anil)) q_anil)))) q_onone (q_osome (toV (q_call G__law_draw (hr.mono (by decide)) rfl T.g__law_draw T.k__law_draw b__law_draw .nil (fun _ _ => RelL.nil) pass0 (q_acons (q_var (pv 1)) (q_acons q_int q_anil))))))))) (q_cons (q_set (i := 5) sc_law.nd rfl (Or.inr rfl) (q_call G__law_pick (hr.mono (by decide)) rfl T.g__law_pick T.k__law_pick b__law_pick .nil (fun _ _ => RelL.nil) pass0 (q_acons (q_var (pv 1)) (q_acons (toE (q_lst (q_acons q_int (q_acons q_int (q_acons q_int (q_acons q_bl (q_acons q_non (q_acons q_str (q_acons (q_tup (q_acons q_int q_anil)) (q_acons (q_un un_neg run_neg (toV q_int)) (q_acons (toE (q_lst q_anil)) (q_acons (q_op op_powW rop_pow (toV q_int) (toV q_int)) q_anil)))))))))))) q_anil)))) (q_cons (q_set (i := 6) sc_law.nd rfl (Or.inr rfl) (q_call G__law_pick (hr.mono (by decide)) rfl T.g__law_pick T.k__law_pick b__law_pick .nil (fun _ _ => RelL.nil) pass0 (q_acons (q_var (pv 1)) (q_acons (toE (q_lst (q_acons q_non (q_acons q_int (q_acons q_bl (q_acons q_str (q_acons q_str (q_acons (toE q_dnew) (q_acons (toE (q_dispE (fun B => q_int) (fun B => (q_tup (q_acons q_str (q_acons q_int (q_acons q_int q_anil))))))) q_anil))))))))) q_anil)))) (q_cons (q_for PassesOwn.never rfl (q_iany (q_callT hT0 G__law_calls (hr.mono (by decide)) rfl T.g__law_calls T.k__law_calls b__law_calls pass0 (q_acons (q_var (pv 8)) (q_acons (q_var (pv 6)) q_anil)))) (q_gname (vs := [7]) (pg_name (i := 7) sc_law.nd rfl (Or.inl rfl)) (by decide)) (q_cons (q_if (q_tcmp (op_neD hr.units) rop_ne (toV (q_callG G__law_refused_2 (hr0.mono (by decide)) rfl T.g__law_refused_2 T.k__law_refused_2 b__law_refused_2 .nil (fun _ _ => RelL.nil) pass0 (q_acons (q_var (pv 7)) q_anil))) (toV (q_tup (q_acons q_str (q_acons q_str q_anil)))) (nomark _)) (q_cons (q_ret hm q_bl) q_nil) q_nil) q_nil)) (q_cons (q_if (q_tcmp (op_neD hr.units) rop_ne (toV (q_callCG G__law_refused_2 (hr0.mono (by decide)) rfl T.g__law_refused_2 T.k__law_refused_2 b__law_refused_2 (capF_mk (N := N_law) (sc := defScope s_law) (by decide +kernel) rfl rfl rfl) (q_acons (q_lam (i := 20) (L := LtK 20) hT1 TB rfl (LamX.lamS_by (sc := defScope s_law) (by decide +kernel)) rfl (by kernel_rfl) rfl) q_anil))) (toV (q_tup (q_acons q_str (q_acons q_str q_anil)))) (nomark _)) (q_cons (q_ret hm q_bl) q_nil) q_nil) (q_cons (q_if (q_tcmp (op_neD hr.units) rop_ne (toV (q_callCG G__law_refused_2 (hr0.mono (by decide)) rfl T.g__law_refused_2 T.k__law_refused_2 b__law_refused_2 (capF_mk (N := N_law) (sc := defScope s_law) (by decide +kernel) rfl rfl rfl) (q_acons (q_lam (i := 21) (L := LtK 21) hT1 TB rfl (LamX.lamS_by (sc := defScope s_law) (by decide +kernel)) rfl (by kernel_rfl) rfl) q_anil))) (toV (q_tup (q_acons q_str (q_acons q_str q_anil)))) (nomark _)) (q_cons (q_ret hm q_bl) q_nil) q_nil) (q_cons (q_for PassesOwn.never rfl (q_iany (q_callT hT0 G__law_calls (hr.mono (by decide)) rfl T.g__law_calls T.k__law_calls b__law_calls pass0 (q_acons (q_var (pv 8)) (q_acons (q_call G__law_handed (hr.mono (by decide)) rfl T.g__law_handed T.k__law_handed b__law_handed .nil (fun _ _ => RelL.nil) pass0 (q_acons (q_var (pv 1)) (q_acons (q_var (pv 4)) q_anil))) q_anil)))) (q_gname (vs := [7]) (pg_name (i := 7) sc_law.nd rfl (Or.inl rfl)) (by decide)) (q_cons (q_if (q_tcmp (op_neD hr.units) rop_ne (toV (q_callG G__law_refused_2 (hr0.mono (by decide)) rfl T.g__law_refused_2 T.k__law_refused_2 b__law_refused_2 .nil (fun _ _ => RelL.nil) pass0 (q_acons (q_var (pv 7)) q_anil))) (toV (q_tup (q_acons q_str (q_acons (q_callB (call_reprD hr0.idle hr.units) rc_reprI (by rfl) T.b_repr (by decide +kernel) (q_xcons (toV (q_var (pv 10))) q_xnil)) q_anil)))) (nomark _)) (q_cons (q_ret hm q_bl) q_nil) q_nil) q_nil)) (q_cons (q_for PassesOwn.never rfl (q_iany (q_callT hT0 G__law_calls (hr.mono (by decide)) rfl T.g__law_calls T.k__law_calls b__law_calls pass0 (q_acons (q_var (pv 5)) (q_acons (q_call G__law_handed (hr.mono (by decide)) rfl T.g__law_handed T.k__law_handed b__law_handed .nil (fun _ _ => RelL.nil) pass0 (q_acons (q_var (pv 1)) (q_acons (q_ix (toV (toE (q_lst (q_acons (q_var (pv 4)) (q_acons (q_var (pv 9)) q_anil))))) (toV (q_call G__law_draw (hr.mono (by decide)) rfl T.g__law_draw T.k__law_draw b__law_draw .nil (fun _ _ => RelL.nil) pass0 (q_acons (q_var (pv 1)) (q_acons q_int q_anil)))) (fun _ _ => rfl)) q_anil))) q_anil)))) (q_gname (vs := [7]) (pg_name (i := 7) sc_law.nd rfl (Or.inl rfl)) (by decide)) (q_cons (q_if (q_tcmp (op_neD hr.units) rop_ne (toV (q_callG G__law_refused_2 (hr0.mono (by decide)) rfl T.g__law_refused_2 T.k__law_refused_2 b__law_refused_2 .nil (fun _ _ => RelL.nil) pass0 (q_acons (q_var (pv 7)) q_anil))) (toV (q_tup (q_acons q_str (q_acons q_str q_anil)))) (nomark _)) (q_cons (q_ret hm q_bl) q_nil) q_nil) q_nil)) (q_cons (q_if (q_tcmp (op_neD hr.units) rop_ne (toV (q_callCG G__law_refused_2 (hr0.mono (by decide)) rfl T.g__law_refused_2 T.k__law_refused_2 b__law_refused_2 (capF_mk (N := N_law) (sc := defScope s_law) (by decide +kernel) rfl rfl rfl) (q_acons (q_lam (i := 22) (L := LtK 22) hT1 TB rfl (LamX.lamS_by (sc := defScope s_law) (by decide +kernel)) rfl (by kernel_rfl) rfl) q_anil))) (toV (q_tup (q_acons q_str (q_acons (q_callB (call_reprD hr0.idle hr.units) rc_reprI (by rfl) T.b_repr (by decide +kernel) (q_xcons (toV (q_var (pv 10))) q_xnil)) q_anil)))) (nomark _)) (q_cons (q_ret hm q_bl) q_nil) q_nil) (q_cons (q_if (q_tcmp (op_neD hr.units) rop_ne (toV (q_callCG G__law_refused_2 (hr0.mono (by decide)) rfl T.g__law_refused_2 T.k__law_refused_2 b__law_refused_2 (capF_mk (N := N_law) (sc := defScope s_law) (by decide +kernel) rfl rfl rfl) (q_acons (q_lam (i := 23) (L := LtK 23) hT1 TB rfl (LamX.lamS_by (sc := defScope s_law) (by decide +kernel)) rfl (by kernel_rfl) rfl) q_anil))) (toV (q_tup (q_acons q_str (q_acons q_str q_anil)))) (nomark _)) (q_cons (q_ret hm q_bl) q_nil) q_nil) (q_cons (q_if (q_tcmp (op_neD hr.units) rop_ne (toV (q_callCG G__law_refused_2 (hr0.mono (by decide)) rfl T.g__law_refused_2 T.k__law_refused_2 b__law_refused_2 (capF_mk (N := N_law) (sc := defScope s_law) (by decide +kernel) rfl rfl rfl) (q_acons (q_lam (i := 24) (L := LtK 24) hT1 TB rfl (LamX.lamS_by (sc := defScope s_law) (by decide +kernel)) rfl (by kernel_rfl) rfl) q_anil))) (toV (q_tup (q_acons q_str (q_acons (q_callB (call_reprD hr0.idle hr.units) rc_reprI (by rfl) T.b_repr (by decide +kernel) (q_xcons (toV (q_callB call_len3 rc_len (by rfl) T.b_len (by decide +kernel) (q_xcons (q_view (pv 9)) q_xnil))) q_xnil)) q_anil)))) (nomark _)) (q_cons (q_ret hm q_bl) q_nil) q_nil) (q_cons (q_if (q_tcmp (op_neD hr.units) rop_ne (toV (q_callCG G__law_refused_2 (hr0.mono (by decide)) rfl T.g__law_refused_2 T.k__law_refused_2 b__law_refused_2 (capF_mk (N := N_law) (sc := defScope s_law) (by decide +kernel) rfl rfl rfl) (q_acons (q_lam (i := 25) (L := LtK 25) hT1 TB rfl (LamX.lamS_by (sc := defScope s_law) (by decide +kernel)) rfl (by kernel_rfl) rfl) q_anil))) (toV (q_tup (q_acons q_str (q_acons (q_callB (call_reprD hr0.idle hr.units) rc_reprI (by rfl) T.b_repr (by decide +kernel) (q_xcons (toV (q_var (pv 10))) q_xnil)) q_anil)))) (nomark _)) (q_cons (q_ret hm q_bl) q_nil) q_nil) (q_cons (q_if (q_tcmp (op_neD hr.units) rop_ne (toV (q_callCG G__law_refused_2 (hr0.mono (by decide)) rfl T.g__law_refused_2 T.k__law_refused_2 b__law_refused_2 (capF_mk (N := N_law) (sc := defScope s_law) (by decide +kernel) rfl rfl rfl) (q_acons (q_lam (i := 26) (L := LtK 26) hT1 TB rfl (LamX.lamS_by (sc := defScope s_law) (by decide +kernel)) rfl (by kernel_rfl) rfl) q_anil))) (toV (q_tup (q_acons q_str (q_acons (q_callB (call_reprD hr0.idle hr.units) rc_reprI (by rfl) T.b_repr (by decide +kernel) (q_xcons (toV (q_callB call_len3 rc_len (by rfl) T.b_len (by decide +kernel) (q_xcons (q_view (pv 9)) q_xnil))) q_xnil)) q_anil)))) (nomark _)) (q_cons (q_ret hm q_bl) q_nil) q_nil) (q_cons (q_if (q_tcmp (op_neD hr.units) rop_ne (toV (q_callCG G__law_refused_2 (hr0.mono (by decide)) rfl T.g__law_refused_2 T.k__law_refused_2 b__law_refused_2 (capF_mk (N := N_law) (sc := defScope s_law) (by decide +kernel) rfl rfl rfl) (q_acons (q_lam (i := 27) (L := LtK 27) hT1 TB rfl (LamX.lamS_by (sc := defScope s_law) (by decide +kernel)) rfl (by kernel_rfl) rfl) q_anil))) (toV (q_tup (q_acons q_str (q_acons q_str q_anil)))) (nomark _)) (q_cons (q_ret hm q_bl) q_nil) q_nil) q_nil)))))))))))))))))))) (q_cons (q_ret hm q_bl) q_nil)))
end
theorem all_mk {l : PySem.W.OpenLaw} {w : World} {K : PySem.W.Frag} {h : Heap} {mg : Str → Option Value} {fa a__law_calls a__law_draw a__law_handed a__law_pick a__law_odd_6 a__law_pen a_is_whole a_is_base a_BadHouse___init__ a_need_base_2 a_is_listing a_is_count a_is_saying_a a_BadSaying___init__ a_need_sayings_3 a_reaches_3 a_least_house_2 a_need_one_more_2 a_shows_follows_3 a_may_be_4 a_how_many_2 a_nth_house_2 a_bar_of_4 a_blame_3 a_need_house_3 a_core_3 a_mend_2 a_shows_mend_2 a_least_mend_2 a_greatest_house_2 a_follows_3 a_which_2 a_keeps_2 a_is_beginning a_House___init__ a_shows_bar_2 a_least_by a_strongest_below a_why_least_2 a_greatest_by a_strongest_above a_why_greatest_2 a__law_refused_2 a_law a_House a_BadHouse a_BadSaying : Addr} {tk_LEAST_BASE tk_MOST_BASE : Tok} (X : K.In h) (G : h.Ns mainGlobals mg) (hfa : mg "law" = some (.ref fa)) (tab : ∀ nm ∈ (["_law_calls", "law"] : List Str), ∀ fb, mg nm = some (.ref fb) → TabAt K fb h)
    {od1 an1 od2 an2 od3 an3 od4 an4 od5 an5 od6 an6 od7 an7 od8 an8 od9 an9 od10 an10 od11 an11 od12 an12 od13 an13 od14 an14 od15 an15 od16 an16 od17 an17 od18 an18 od19 an19 od20 an20 od21 an21 od22 an22 od23 an23 od24 an24 od25 an25 od26 an26 od27 an27 od28 an28 od29 an29 od30 an30 od31 an31 od32 an32 od33 an33 od34 an34 od35 an35 od36 an36 od37 an37 od38 an38 od39 an39 od40 an40 od41 an41 od42 an42 od43 an43 od44 an44 : Option Addr} {sl1 sl2 sl3 sl4 sl5 sl6 sl7 sl8 sl9 sl10 sl11 sl12 sl13 sl14 sl15 sl16 sl17 sl18 sl19 sl20 sl21 sl22 sl23 sl24 sl25 sl26 sl27 sl28 sl29 sl30 sl31 sl32 sl33 sl34 sl35 sl36 sl37 sl38 sl39 sl40 sl41 sl42 sl43 sl44 : Array (Option Value)} {oc1 kV1 dc1 pm1 ct1 oc2 kV2 dc2 pm2 cd2 ct2 oc3 kV3 dc3 pm3 cd3 ct3 oc4 kV4 dc4 pm4 cd4 ct4 oc5 kV5 dc5 pm5 cd5 ct5 oc6 kV6 dc6 pm6 cd6 ct6 oc7 kV7 dc7 pm7 cd7 ct7 oc8 kV8 dc8 pm8 cd8 ct8 oc9 kV9 dc9 pm9 cd9 ct9 oc10 kV10 dc10 pm10 cd10 ct10 oc11 kV11 dc11 pm11 cd11 ct11 oc12 kV12 dc12 pm12 cd12 ct12 oc13 kV13 dc13 pm13 cd13 ct13 oc14 kV14 dc14 pm14 cd14 ct14 oc15 kV15 dc15 pm15 cd15 ct15 oc16 kV16 dc16 pm16 cd16 ct16 oc17 kV17 dc17 pm17 cd17 ct17 oc18 kV18 dc18 pm18 cd18 ct18 oc19 kV19 dc19 pm19 cd19 ct19 oc20 dc20 pm20 cd20 ct20 oc21 kV21 dc21 pm21 cd21 ct21 oc22 kV22 dc22 pm22 cd22 ct22 oc23 dc23 pm23 cd23 ct23 oc24 kV24 dc24 pm24 cd24 ct24 oc25 kV25 dc25 pm25 cd25 ct25 oc26 kV26 dc26 pm26 cd26 ct26 oc27 dc27 pm27 cd27 ct27 oc28 dc28 pm28 cd28 ct28 oc29 dc29 pm29 cd29 ct29 oc30 kV30 dc30 pm30 cd30 ct30 oc31 kV31 dc31 pm31 cd31 ct31 oc32 kV32 dc32 pm32 cd32 ct32 oc33 kV33 dc33 pm33 cd33 ct33 oc34 kV34 dc34 pm34 cd34 ct34 oc35 kV35 dc35 pm35 cd35 ct35 oc36 dc36 pm36 cd36 ct36 oc37 kV37 dc37 pm37 cd37 ct37 oc38 kV38 dc38 pm38 cd38 ct38 oc39 kV39 dc39 pm39 cd39 ct39 oc40 kV40 dc40 pm40 cd40 ct40 oc41 kV41 dc41 pm41 cd41 ct41 oc42 kV42 dc42 pm42 cd42 ct42 oc43 kV43 dc43 pm43 cd43 ct43 oc44 kV44 dc44 pm44 ct44 : Value}
    (ac_House : PySem.W.nsIn K mainGlobals "House" = some (some (.ref a_House))) (pg_House : PySem.W.plainGet K a_House Str.empty = true) (hd_House : PySem.W.hasDictIn K a_House = true) (po_House : PySem.W.plainOver K a_House = true)
    (sa_House : PySem.W.findIn K (.ref a_House) "__setattr__" = some (some (.builtin "object.__setattr__")))
    {nm_BadHouse : _} {qn_BadHouse : _} {nn_BadHouse : _} {bs_BadHouse : _} {sn_BadHouse : _} {sb_BadHouse : _} {ab_BadHouse : _} {co_BadHouse : _} {dd_BadHouse : _} {x0_BadHouse : _} {x1_BadHouse : _} {x2_BadHouse : _} {x3_BadHouse : _} {x5_BadHouse : _} 
    (ac_BadHouse : PySem.W.nsIn K mainGlobals "BadHouse" = some (some (.ref a_BadHouse))) (rl_BadHouse : K.lookup a_BadHouse = some (excClassObj nm_BadHouse qn_BadHouse a_BadHouse nn_BadHouse bs_BadHouse vaTail true sn_BadHouse sb_BadHouse ab_BadHouse co_BadHouse dd_BadHouse x0_BadHouse x1_BadHouse x2_BadHouse x3_BadHouse x5_BadHouse "ValueError.__new__"))
    (xs_BadHouse : PySem.W.subIn K (.ref a_BadHouse) (.type "BaseException") = some true) (xt_BadHouse : PySem.W.typeIn K (.ref a_BadHouse) = some (.type "type")) (xk_BadHouse : PySem.W.keepIn K (.ref a_BadHouse) = true) (xe_BadHouse : PySem.W.subIn K (.ref a_BadHouse) (.ref a_BadHouse) = some true) (xq_BadHouse : PySem.W.subIn K (.ref a_BadHouse) (.type "ValueError") = some true) (xg_BadHouse : PySem.W.findIn K (.ref a_BadHouse) "__getattribute__" = some (some (.builtin "BaseException.__getattribute__"))) (xa_BadHouse : PySem.W.findIn K (.ref a_BadHouse) "__getattr__" = some none) (xh_BadHouse : PySem.W.hasDictIn K a_BadHouse = true) (xc_BadHouse : PySem.W.findIn K (.ref a_BadHouse) "__class__" = some (some (.builtin "object.__class__"))) (xn_BadHouse : PySem.W.specialIn K (.builtin "object.__class__") "__get__" = some (some (.builtin "getset_descriptor.__get__"))) (xo_BadHouse : PySem.W.takesIn K (.builtin "object.__class__") = some true) (xm_BadHouse : PySem.W.mroIn K a_BadHouse (.type "object") = some true) (xz_BadHouse : PySem.W.findIn K (.ref a_BadHouse) "__setattr__" = some (some (.builtin "object.__setattr__"))) (xno_BadHouse : PySem.W.findIn K (.ref a_BadHouse) "part" = some none)
    {nm_BadSaying : _} {qn_BadSaying : _} {nn_BadSaying : _} {bs_BadSaying : _} {sn_BadSaying : _} {sb_BadSaying : _} {ab_BadSaying : _} {co_BadSaying : _} {dd_BadSaying : _} {x0_BadSaying : _} {x1_BadSaying : _} {x2_BadSaying : _} {x3_BadSaying : _} {x5_BadSaying : _} 
    (ac_BadSaying : PySem.W.nsIn K mainGlobals "BadSaying" = some (some (.ref a_BadSaying))) (rl_BadSaying : K.lookup a_BadSaying = some (excClassObj nm_BadSaying qn_BadSaying a_BadSaying nn_BadSaying bs_BadSaying vaTail true sn_BadSaying sb_BadSaying ab_BadSaying co_BadSaying dd_BadSaying x0_BadSaying x1_BadSaying x2_BadSaying x3_BadSaying x5_BadSaying "ValueError.__new__"))
    (xs_BadSaying : PySem.W.subIn K (.ref a_BadSaying) (.type "BaseException") = some true) (xt_BadSaying : PySem.W.typeIn K (.ref a_BadSaying) = some (.type "type")) (xk_BadSaying : PySem.W.keepIn K (.ref a_BadSaying) = true) (xe_BadSaying : PySem.W.subIn K (.ref a_BadSaying) (.ref a_BadSaying) = some true) (xq_BadSaying : PySem.W.subIn K (.ref a_BadSaying) (.type "ValueError") = some true) (xg_BadSaying : PySem.W.findIn K (.ref a_BadSaying) "__getattribute__" = some (some (.builtin "BaseException.__getattribute__"))) (xa_BadSaying : PySem.W.findIn K (.ref a_BadSaying) "__getattr__" = some none) (xh_BadSaying : PySem.W.hasDictIn K a_BadSaying = true) (xc_BadSaying : PySem.W.findIn K (.ref a_BadSaying) "__class__" = some (some (.builtin "object.__class__"))) (xn_BadSaying : PySem.W.specialIn K (.builtin "object.__class__") "__get__" = some (some (.builtin "getset_descriptor.__get__"))) (xo_BadSaying : PySem.W.takesIn K (.builtin "object.__class__") = some true) (xm_BadSaying : PySem.W.mroIn K a_BadSaying (.type "object") = some true) (xz_BadSaying : PySem.W.findIn K (.ref a_BadSaying) "__setattr__" = some (some (.builtin "object.__setattr__"))) (xno_BadSaying : PySem.W.findIn K (.ref a_BadSaying) "place" = some none)
    (xp_BadSaying_BadHouse : PySem.W.subIn K (.ref a_BadSaying) (.ref a_BadHouse) = some false)
    (xp_BadHouse_BadSaying : PySem.W.subIn K (.ref a_BadHouse) (.ref a_BadSaying) = some false)
    (xj_BadHouse_ValueError : PySem.W.subIn K (.ref a_BadHouse) (.type "ValueError") = some true)
    (xj_BadSaying_ValueError : PySem.W.subIn K (.ref a_BadSaying) (.type "ValueError") = some true)
    (xv_ValueError : PySem.W.findCls K (.type "ValueError") (.type "type") "__init__" = some (.val (.builtin "ValueError.__init__")))
    {cA0 Pt0 cA1 Pt1 : Addr}
    {aD20 aD23 aD27 aD28 aD29 aD36 : Addr}
    (a1 : PySem.W.nsIn K mainGlobals "_law_calls" = some (some (.ref a__law_calls)))
    (l1 : K.lookup a__law_calls = some ⟨oc1, od1, .func (PySem.W.fnOf "_law_calls" "_law_calls" (defArgs s__law_calls) (defBody s__law_calls) (defScope s__law_calls) .none kV1 dc1 pm1 an1 (.ref cA0) ct1), sl1⟩) (c1 : PySem.W.codeIn K (.ref cA0) "_law_calls" = true) (k1 : PySem.W.keepIn K (.ref a__law_calls) = true)
    (a2 : PySem.W.nsIn K mainGlobals "_law_draw" = some (some (.ref a__law_draw)))
    (l2 : K.lookup a__law_draw = some ⟨oc2, od2, .func (PySem.W.fnOf "_law_draw" "_law_draw" (defArgs s__law_draw) (defBody s__law_draw) (defScope s__law_draw) .none kV2 dc2 pm2 an2 cd2 ct2), sl2⟩) (c2 : PySem.W.codeIn K cd2 "_law_draw" = true) (k2 : PySem.W.keepIn K (.ref a__law_draw) = true)
    (a3 : PySem.W.nsIn K mainGlobals "_law_handed" = some (some (.ref a__law_handed)))
    (l3 : K.lookup a__law_handed = some ⟨oc3, od3, .func (PySem.W.fnOf "_law_handed" "_law_handed" (defArgs s__law_handed) (defBody s__law_handed) (defScope s__law_handed) .none kV3 dc3 pm3 an3 cd3 ct3), sl3⟩) (c3 : PySem.W.codeIn K cd3 "_law_handed" = true) (k3 : PySem.W.keepIn K (.ref a__law_handed) = true)
    (a4 : PySem.W.nsIn K mainGlobals "_law_pick" = some (some (.ref a__law_pick)))
    (l4 : K.lookup a__law_pick = some ⟨oc4, od4, .func (PySem.W.fnOf "_law_pick" "_law_pick" (defArgs s__law_pick) (defBody s__law_pick) (defScope s__law_pick) .none kV4 dc4 pm4 an4 cd4 ct4), sl4⟩) (c4 : PySem.W.codeIn K cd4 "_law_pick" = true) (k4 : PySem.W.keepIn K (.ref a__law_pick) = true)
    (a5 : PySem.W.nsIn K mainGlobals "_law_odd" = some (some (.ref a__law_odd_6)))
    (l5 : K.lookup a__law_odd_6 = some ⟨oc5, od5, .func (PySem.W.fnOf "_law_odd" "_law_odd" (defArgs s__law_odd_6) (defBody s__law_odd_6) (defScope s__law_odd_6) .none kV5 dc5 pm5 an5 cd5 ct5), sl5⟩) (c5 : PySem.W.codeIn K cd5 "_law_odd" = true) (k5 : PySem.W.keepIn K (.ref a__law_odd_6) = true)
    (a6 : PySem.W.nsIn K mainGlobals "_law_pen" = some (some (.ref a__law_pen)))
    (l6 : K.lookup a__law_pen = some ⟨oc6, od6, .func (PySem.W.fnOf "_law_pen" "_law_pen" (defArgs s__law_pen) (defBody s__law_pen) (defScope s__law_pen) .none kV6 dc6 pm6 an6 cd6 ct6), sl6⟩) (c6 : PySem.W.codeIn K cd6 "_law_pen" = true) (k6 : PySem.W.keepIn K (.ref a__law_pen) = true)
    (a7 : PySem.W.nsIn K mainGlobals "is_whole" = some (some (.ref a_is_whole)))
    (l7 : K.lookup a_is_whole = some ⟨oc7, od7, .func (PySem.W.fnOf "is_whole" "is_whole" (defArgs s_is_whole) (defBody s_is_whole) (defScope s_is_whole) .none kV7 dc7 pm7 an7 cd7 ct7), sl7⟩) (c7 : PySem.W.codeIn K cd7 "is_whole" = true) (k7 : PySem.W.keepIn K (.ref a_is_whole) = true)
    (a8 : PySem.W.nsIn K mainGlobals "is_base" = some (some (.ref a_is_base)))
    (l8 : K.lookup a_is_base = some ⟨oc8, od8, .func (PySem.W.fnOf "is_base" "is_base" (defArgs s_is_base) (defBody s_is_base) (defScope s_is_base) .none kV8 dc8 pm8 an8 cd8 ct8), sl8⟩) (c8 : PySem.W.codeIn K cd8 "is_base" = true) (k8 : PySem.W.keepIn K (.ref a_is_base) = true)
    (a9 : PySem.W.findIn K (.ref a_BadHouse) "__init__" = some (some (.ref a_BadHouse___init__))) (i9 : PySem.W.isFn K (.ref a_BadHouse___init__) = true)
    (l9 : K.lookup a_BadHouse___init__ = some ⟨oc9, od9, .func (PySem.W.fnOf "__init__" "BadHouse.__init__" (defArgs s_BadHouse___init__) (defBody s_BadHouse___init__) (defScope s_BadHouse___init__) .none kV9 dc9 pm9 an9 cd9 ct9), sl9⟩) (c9 : PySem.W.codeIn K cd9 "BadHouse.__init__" = true) (k9 : PySem.W.keepIn K (.ref a_BadHouse___init__) = true)
    (a10 : PySem.W.nsIn K mainGlobals "need_base" = some (some (.ref a_need_base_2)))
    (l10 : K.lookup a_need_base_2 = some ⟨oc10, od10, .func (PySem.W.fnOf "need_base" "need_base" (defArgs s_need_base_2) (defBody s_need_base_2) (defScope s_need_base_2) .none kV10 dc10 pm10 an10 cd10 ct10), sl10⟩) (c10 : PySem.W.codeIn K cd10 "need_base" = true) (k10 : PySem.W.keepIn K (.ref a_need_base_2) = true)
    (a11 : PySem.W.nsIn K mainGlobals "is_listing" = some (some (.ref a_is_listing)))
    (l11 : K.lookup a_is_listing = some ⟨oc11, od11, .func (PySem.W.fnOf "is_listing" "is_listing" (defArgs s_is_listing) (defBody s_is_listing) (defScope s_is_listing) .none kV11 dc11 pm11 an11 cd11 ct11), sl11⟩) (c11 : PySem.W.codeIn K cd11 "is_listing" = true) (k11 : PySem.W.keepIn K (.ref a_is_listing) = true)
    (a12 : PySem.W.nsIn K mainGlobals "is_count" = some (some (.ref a_is_count)))
    (l12 : K.lookup a_is_count = some ⟨oc12, od12, .func (PySem.W.fnOf "is_count" "is_count" (defArgs s_is_count) (defBody s_is_count) (defScope s_is_count) .none kV12 dc12 pm12 an12 cd12 ct12), sl12⟩) (c12 : PySem.W.codeIn K cd12 "is_count" = true) (k12 : PySem.W.keepIn K (.ref a_is_count) = true)
    (a13 : PySem.W.nsIn K mainGlobals "is_saying" = some (some (.ref a_is_saying_a)))
    (l13 : K.lookup a_is_saying_a = some ⟨oc13, od13, .func (PySem.W.fnOf "is_saying" "is_saying" (defArgs s_is_saying_a) (defBody s_is_saying_a) (defScope s_is_saying_a) .none kV13 dc13 pm13 an13 cd13 ct13), sl13⟩) (c13 : PySem.W.codeIn K cd13 "is_saying" = true) (k13 : PySem.W.keepIn K (.ref a_is_saying_a) = true)
    (a14 : PySem.W.findIn K (.ref a_BadSaying) "__init__" = some (some (.ref a_BadSaying___init__))) (i14 : PySem.W.isFn K (.ref a_BadSaying___init__) = true)
    (l14 : K.lookup a_BadSaying___init__ = some ⟨oc14, od14, .func (PySem.W.fnOf "__init__" "BadSaying.__init__" (defArgs s_BadSaying___init__) (defBody s_BadSaying___init__) (defScope s_BadSaying___init__) .none kV14 dc14 pm14 an14 cd14 ct14), sl14⟩) (c14 : PySem.W.codeIn K cd14 "BadSaying.__init__" = true) (k14 : PySem.W.keepIn K (.ref a_BadSaying___init__) = true)
    (a15 : PySem.W.nsIn K mainGlobals "need_sayings" = some (some (.ref a_need_sayings_3)))
    (l15 : K.lookup a_need_sayings_3 = some ⟨oc15, od15, .func (PySem.W.fnOf "need_sayings" "need_sayings" (defArgs s_need_sayings_3) (defBody s_need_sayings_3) (defScope s_need_sayings_3) .none kV15 dc15 pm15 an15 cd15 ct15), sl15⟩) (c15 : PySem.W.codeIn K cd15 "need_sayings" = true) (k15 : PySem.W.keepIn K (.ref a_need_sayings_3) = true)
    (a16 : PySem.W.nsIn K mainGlobals "reaches" = some (some (.ref a_reaches_3)))
    (l16 : K.lookup a_reaches_3 = some ⟨oc16, od16, .func (PySem.W.fnOf "reaches" "reaches" (defArgs s_reaches_3) (defBody s_reaches_3) (defScope s_reaches_3) .none kV16 dc16 pm16 an16 cd16 ct16), sl16⟩) (c16 : PySem.W.codeIn K cd16 "reaches" = true) (k16 : PySem.W.keepIn K (.ref a_reaches_3) = true)
    (a17 : PySem.W.nsIn K mainGlobals "least_house" = some (some (.ref a_least_house_2)))
    (l17 : K.lookup a_least_house_2 = some ⟨oc17, od17, .func (PySem.W.fnOf "least_house" "least_house" (defArgs s_least_house_2) (defBody s_least_house_2) (defScope s_least_house_2) .none kV17 dc17 pm17 an17 cd17 ct17), sl17⟩) (c17 : PySem.W.codeIn K cd17 "least_house" = true) (k17 : PySem.W.keepIn K (.ref a_least_house_2) = true)
    (a18 : PySem.W.nsIn K mainGlobals "need_one_more" = some (some (.ref a_need_one_more_2)))
    (l18 : K.lookup a_need_one_more_2 = some ⟨oc18, od18, .func (PySem.W.fnOf "need_one_more" "need_one_more" (defArgs s_need_one_more_2) (defBody s_need_one_more_2) (defScope s_need_one_more_2) .none kV18 dc18 pm18 an18 cd18 ct18), sl18⟩) (c18 : PySem.W.codeIn K cd18 "need_one_more" = true) (k18 : PySem.W.keepIn K (.ref a_need_one_more_2) = true)
    (a19 : PySem.W.nsIn K mainGlobals "shows_follows" = some (some (.ref a_shows_follows_3)))
    (l19 : K.lookup a_shows_follows_3 = some ⟨oc19, od19, .func (PySem.W.fnOf "shows_follows" "shows_follows" (defArgs s_shows_follows_3) (defBody s_shows_follows_3) (defScope s_shows_follows_3) .none kV19 dc19 pm19 an19 cd19 ct19), sl19⟩) (c19 : PySem.W.codeIn K cd19 "shows_follows" = true) (k19 : PySem.W.keepIn K (.ref a_shows_follows_3) = true)
    (a20 : PySem.W.nsIn K mainGlobals "may_be" = some (some (.ref a_may_be_4)))
    (l20 : K.lookup a_may_be_4 = some ⟨oc20, od20, .func (PySem.W.fnOf "may_be" "may_be" (defArgs s_may_be_4) (defBody s_may_be_4) (defScope s_may_be_4) .none (.ref aD20) dc20 pm20 an20 cd20 ct20), sl20⟩) (c20 : PySem.W.codeIn K cd20 "may_be" = true) (k20 : PySem.W.keepIn K (.ref a_may_be_4) = true)
    (a21 : PySem.W.nsIn K mainGlobals "how_many" = some (some (.ref a_how_many_2)))
    (l21 : K.lookup a_how_many_2 = some ⟨oc21, od21, .func (PySem.W.fnOf "how_many" "how_many" (defArgs s_how_many_2) (defBody s_how_many_2) (defScope s_how_many_2) .none kV21 dc21 pm21 an21 cd21 ct21), sl21⟩) (c21 : PySem.W.codeIn K cd21 "how_many" = true) (k21 : PySem.W.keepIn K (.ref a_how_many_2) = true)
    (a22 : PySem.W.nsIn K mainGlobals "nth_house" = some (some (.ref a_nth_house_2)))
    (l22 : K.lookup a_nth_house_2 = some ⟨oc22, od22, .func (PySem.W.fnOf "nth_house" "nth_house" (defArgs s_nth_house_2) (defBody s_nth_house_2) (defScope s_nth_house_2) .none kV22 dc22 pm22 an22 cd22 ct22), sl22⟩) (c22 : PySem.W.codeIn K cd22 "nth_house" = true) (k22 : PySem.W.keepIn K (.ref a_nth_house_2) = true)
    (a23 : PySem.W.nsIn K mainGlobals "bar_of" = some (some (.ref a_bar_of_4)))
    (l23 : K.lookup a_bar_of_4 = some ⟨oc23, od23, .func (PySem.W.fnOf "bar_of" "bar_of" (defArgs s_bar_of_4) (defBody s_bar_of_4) (defScope s_bar_of_4) .none (.ref aD23) dc23 pm23 an23 cd23 ct23), sl23⟩) (c23 : PySem.W.codeIn K cd23 "bar_of" = true) (k23 : PySem.W.keepIn K (.ref a_bar_of_4) = true)
    (a24 : PySem.W.nsIn K mainGlobals "blame" = some (some (.ref a_blame_3)))
    (l24 : K.lookup a_blame_3 = some ⟨oc24, od24, .func (PySem.W.fnOf "blame" "blame" (defArgs s_blame_3) (defBody s_blame_3) (defScope s_blame_3) .none kV24 dc24 pm24 an24 cd24 ct24), sl24⟩) (c24 : PySem.W.codeIn K cd24 "blame" = true) (k24 : PySem.W.keepIn K (.ref a_blame_3) = true)
    (a25 : PySem.W.nsIn K mainGlobals "need_house" = some (some (.ref a_need_house_3)))
    (l25 : K.lookup a_need_house_3 = some ⟨oc25, od25, .func (PySem.W.fnOf "need_house" "need_house" (defArgs s_need_house_3) (defBody s_need_house_3) (defScope s_need_house_3) .none kV25 dc25 pm25 an25 cd25 ct25), sl25⟩) (c25 : PySem.W.codeIn K cd25 "need_house" = true) (k25 : PySem.W.keepIn K (.ref a_need_house_3) = true)
    (a26 : PySem.W.nsIn K mainGlobals "core" = some (some (.ref a_core_3)))
    (l26 : K.lookup a_core_3 = some ⟨oc26, od26, .func (PySem.W.fnOf "core" "core" (defArgs s_core_3) (defBody s_core_3) (defScope s_core_3) .none kV26 dc26 pm26 an26 cd26 ct26), sl26⟩) (c26 : PySem.W.codeIn K cd26 "core" = true) (k26 : PySem.W.keepIn K (.ref a_core_3) = true)
    (a27 : PySem.W.nsIn K mainGlobals "mend" = some (some (.ref a_mend_2)))
    (l27 : K.lookup a_mend_2 = some ⟨oc27, od27, .func (PySem.W.fnOf "mend" "mend" (defArgs s_mend_2) (defBody s_mend_2) (defScope s_mend_2) .none (.ref aD27) dc27 pm27 an27 cd27 ct27), sl27⟩) (c27 : PySem.W.codeIn K cd27 "mend" = true) (k27 : PySem.W.keepIn K (.ref a_mend_2) = true)
    (a28 : PySem.W.nsIn K mainGlobals "shows_mend" = some (some (.ref a_shows_mend_2)))
    (l28 : K.lookup a_shows_mend_2 = some ⟨oc28, od28, .func (PySem.W.fnOf "shows_mend" "shows_mend" (defArgs s_shows_mend_2) (defBody s_shows_mend_2) (defScope s_shows_mend_2) .none (.ref aD28) dc28 pm28 an28 cd28 ct28), sl28⟩) (c28 : PySem.W.codeIn K cd28 "shows_mend" = true) (k28 : PySem.W.keepIn K (.ref a_shows_mend_2) = true)
    (a29 : PySem.W.nsIn K mainGlobals "least_mend" = some (some (.ref a_least_mend_2)))
    (l29 : K.lookup a_least_mend_2 = some ⟨oc29, od29, .func (PySem.W.fnOf "least_mend" "least_mend" (defArgs s_least_mend_2) (defBody s_least_mend_2) (defScope s_least_mend_2) .none (.ref aD29) dc29 pm29 an29 cd29 ct29), sl29⟩) (c29 : PySem.W.codeIn K cd29 "least_mend" = true) (k29 : PySem.W.keepIn K (.ref a_least_mend_2) = true)
    (a30 : PySem.W.nsIn K mainGlobals "greatest_house" = some (some (.ref a_greatest_house_2)))
    (l30 : K.lookup a_greatest_house_2 = some ⟨oc30, od30, .func (PySem.W.fnOf "greatest_house" "greatest_house" (defArgs s_greatest_house_2) (defBody s_greatest_house_2) (defScope s_greatest_house_2) .none kV30 dc30 pm30 an30 cd30 ct30), sl30⟩) (c30 : PySem.W.codeIn K cd30 "greatest_house" = true) (k30 : PySem.W.keepIn K (.ref a_greatest_house_2) = true)
    (a31 : PySem.W.nsIn K mainGlobals "follows" = some (some (.ref a_follows_3)))
    (l31 : K.lookup a_follows_3 = some ⟨oc31, od31, .func (PySem.W.fnOf "follows" "follows" (defArgs s_follows_3) (defBody s_follows_3) (defScope s_follows_3) .none kV31 dc31 pm31 an31 cd31 ct31), sl31⟩) (c31 : PySem.W.codeIn K cd31 "follows" = true) (k31 : PySem.W.keepIn K (.ref a_follows_3) = true)
    (a32 : PySem.W.nsIn K mainGlobals "which" = some (some (.ref a_which_2)))
    (l32 : K.lookup a_which_2 = some ⟨oc32, od32, .func (PySem.W.fnOf "which" "which" (defArgs s_which_2) (defBody s_which_2) (defScope s_which_2) .none kV32 dc32 pm32 an32 cd32 ct32), sl32⟩) (c32 : PySem.W.codeIn K cd32 "which" = true) (k32 : PySem.W.keepIn K (.ref a_which_2) = true)
    (a33 : PySem.W.nsIn K mainGlobals "keeps" = some (some (.ref a_keeps_2)))
    (l33 : K.lookup a_keeps_2 = some ⟨oc33, od33, .func (PySem.W.fnOf "keeps" "keeps" (defArgs s_keeps_2) (defBody s_keeps_2) (defScope s_keeps_2) .none kV33 dc33 pm33 an33 cd33 ct33), sl33⟩) (c33 : PySem.W.codeIn K cd33 "keeps" = true) (k33 : PySem.W.keepIn K (.ref a_keeps_2) = true)
    (a34 : PySem.W.nsIn K mainGlobals "is_beginning" = some (some (.ref a_is_beginning)))
    (l34 : K.lookup a_is_beginning = some ⟨oc34, od34, .func (PySem.W.fnOf "is_beginning" "is_beginning" (defArgs s_is_beginning) (defBody s_is_beginning) (defScope s_is_beginning) .none kV34 dc34 pm34 an34 cd34 ct34), sl34⟩) (c34 : PySem.W.codeIn K cd34 "is_beginning" = true) (k34 : PySem.W.keepIn K (.ref a_is_beginning) = true)
    (a35 : PySem.W.findIn K (.ref a_House) "__init__" = some (some (.ref a_House___init__))) (i35 : PySem.W.isFn K (.ref a_House___init__) = true)
    (l35 : K.lookup a_House___init__ = some ⟨oc35, od35, .func (PySem.W.fnOf "__init__" "House.__init__" (defArgs s_House___init__) (defBody s_House___init__) (defScope s_House___init__) .none kV35 dc35 pm35 an35 cd35 ct35), sl35⟩) (c35 : PySem.W.codeIn K cd35 "House.__init__" = true) (k35 : PySem.W.keepIn K (.ref a_House___init__) = true)
    (a36 : PySem.W.nsIn K mainGlobals "shows_bar" = some (some (.ref a_shows_bar_2)))
    (l36 : K.lookup a_shows_bar_2 = some ⟨oc36, od36, .func (PySem.W.fnOf "shows_bar" "shows_bar" (defArgs s_shows_bar_2) (defBody s_shows_bar_2) (defScope s_shows_bar_2) .none (.ref aD36) dc36 pm36 an36 cd36 ct36), sl36⟩) (c36 : PySem.W.codeIn K cd36 "shows_bar" = true) (k36 : PySem.W.keepIn K (.ref a_shows_bar_2) = true)
    (a37 : PySem.W.nsIn K mainGlobals "least_by" = some (some (.ref a_least_by)))
    (l37 : K.lookup a_least_by = some ⟨oc37, od37, .func (PySem.W.fnOf "least_by" "least_by" (defArgs s_least_by) (defBody s_least_by) (defScope s_least_by) .none kV37 dc37 pm37 an37 cd37 ct37), sl37⟩) (c37 : PySem.W.codeIn K cd37 "least_by" = true) (k37 : PySem.W.keepIn K (.ref a_least_by) = true)
    (a38 : PySem.W.nsIn K mainGlobals "strongest_below" = some (some (.ref a_strongest_below)))
    (l38 : K.lookup a_strongest_below = some ⟨oc38, od38, .func (PySem.W.fnOf "strongest_below" "strongest_below" (defArgs s_strongest_below) (defBody s_strongest_below) (defScope s_strongest_below) .none kV38 dc38 pm38 an38 cd38 ct38), sl38⟩) (c38 : PySem.W.codeIn K cd38 "strongest_below" = true) (k38 : PySem.W.keepIn K (.ref a_strongest_below) = true)
    (a39 : PySem.W.nsIn K mainGlobals "why_least" = some (some (.ref a_why_least_2)))
    (l39 : K.lookup a_why_least_2 = some ⟨oc39, od39, .func (PySem.W.fnOf "why_least" "why_least" (defArgs s_why_least_2) (defBody s_why_least_2) (defScope s_why_least_2) .none kV39 dc39 pm39 an39 cd39 ct39), sl39⟩) (c39 : PySem.W.codeIn K cd39 "why_least" = true) (k39 : PySem.W.keepIn K (.ref a_why_least_2) = true)
    (a40 : PySem.W.nsIn K mainGlobals "greatest_by" = some (some (.ref a_greatest_by)))
    (l40 : K.lookup a_greatest_by = some ⟨oc40, od40, .func (PySem.W.fnOf "greatest_by" "greatest_by" (defArgs s_greatest_by) (defBody s_greatest_by) (defScope s_greatest_by) .none kV40 dc40 pm40 an40 cd40 ct40), sl40⟩) (c40 : PySem.W.codeIn K cd40 "greatest_by" = true) (k40 : PySem.W.keepIn K (.ref a_greatest_by) = true)
    (a41 : PySem.W.nsIn K mainGlobals "strongest_above" = some (some (.ref a_strongest_above)))
    (l41 : K.lookup a_strongest_above = some ⟨oc41, od41, .func (PySem.W.fnOf "strongest_above" "strongest_above" (defArgs s_strongest_above) (defBody s_strongest_above) (defScope s_strongest_above) .none kV41 dc41 pm41 an41 cd41 ct41), sl41⟩) (c41 : PySem.W.codeIn K cd41 "strongest_above" = true) (k41 : PySem.W.keepIn K (.ref a_strongest_above) = true)
    (a42 : PySem.W.nsIn K mainGlobals "why_greatest" = some (some (.ref a_why_greatest_2)))
    (l42 : K.lookup a_why_greatest_2 = some ⟨oc42, od42, .func (PySem.W.fnOf "why_greatest" "why_greatest" (defArgs s_why_greatest_2) (defBody s_why_greatest_2) (defScope s_why_greatest_2) .none kV42 dc42 pm42 an42 cd42 ct42), sl42⟩) (c42 : PySem.W.codeIn K cd42 "why_greatest" = true) (k42 : PySem.W.keepIn K (.ref a_why_greatest_2) = true)
    (a43 : PySem.W.nsIn K mainGlobals "_law_refused" = some (some (.ref a__law_refused_2)))
    (l43 : K.lookup a__law_refused_2 = some ⟨oc43, od43, .func (PySem.W.fnOf "_law_refused" "_law_refused" (defArgs s__law_refused_2) (defBody s__law_refused_2) (defScope s__law_refused_2) .none kV43 dc43 pm43 an43 cd43 ct43), sl43⟩) (c43 : PySem.W.codeIn K cd43 "_law_refused" = true) (k43 : PySem.W.keepIn K (.ref a__law_refused_2) = true)
    (a44 : PySem.W.nsIn K mainGlobals "law" = some (some (.ref a_law)))
    (l44 : K.lookup a_law = some ⟨oc44, od44, .func (PySem.W.fnOf "law" "law" (defArgs s_law) (defBody s_law) (defScope s_law) .none kV44 dc44 pm44 an44 (.ref cA1) ct44), sl44⟩) (c44 : PySem.W.codeIn K (.ref cA1) "law" = true) (k44 : PySem.W.keepIn K (.ref a_law) = true)
    {ddA0 : Option Addr} {vsA0 : Array Value} {slA0 : Array (Option Value)} (tv0 : K.lookup cA0 = some ⟨.type "code", ddA0, .fields vsA0, slA0⟩) (tp0 : vsA0[11]? = some (.ref Pt0)) (th0 : PySem.W.codeHdIn K cA0 Pt0 = true) (tn0 : K.lookup Pt0 = none)
    {ddA1 : Option Addr} {vsA1 : Array Value} {slA1 : Array (Option Value)} (tv1 : K.lookup cA1 = some ⟨.type "code", ddA1, .fields vsA1, slA1⟩) (tp1 : vsA1[11]? = some (.ref Pt1)) (th1 : PySem.W.codeHdIn K cA1 Pt1 = true) (tn1 : K.lookup Pt1 = none)
    (hne : Pt0 ≠ Pt1)
    (xf_BadHouse : PySem.W.typeIn K (.ref a_BadHouse___init__) = some (.type "function"))
    (xf_BadSaying : PySem.W.typeIn K (.ref a_BadSaying___init__) = some (.type "function"))
    (n_House_kept_base : PySem.W.findIn K (.ref a_House) "kept_base" = some none)
    (n_House_kept_beginning : PySem.W.findIn K (.ref a_House) "kept_beginning" = some none)
    (n_House_sums : PySem.W.findIn K (.ref a_House) "sums" = some none)
    (mk_House : PySem.W.makesIn K a_House = true) (kc_House : PySem.W.keepIn K (.ref a_House) = true)
    (q_LEAST_BASE : PySem.W.nsIn K mainGlobals "LEAST_BASE" = some (some (Value.int 2 tk_LEAST_BASE)))
    (q_MOST_BASE : PySem.W.nsIn K mainGlobals "MOST_BASE" = some (some (Value.int 30 tk_MOST_BASE)))
    (kd20 : PySem.W.nsIn K aD20 "reach" = some (some Value.none))
    (kd23 : PySem.W.nsIn K aD23 "reach" = some (some Value.none))
    (kd27 : PySem.W.nsIn K aD27 "prices" = some (some Value.none))
    (kd28 : PySem.W.nsIn K aD28 "prices" = some (some Value.none))
    (kd29 : PySem.W.nsIn K aD29 "prices" = some (some Value.none))
    (kd36 : PySem.W.nsIn K aD36 "reach" = some (some Value.none))
    (z_ValueError : PySem.W.nsIn K mainGlobals "ValueError" = some none)
    (z_abs : PySem.W.nsIn K mainGlobals "abs" = some none)
    (z_all : PySem.W.nsIn K mainGlobals "all" = some none)
    (z_bool : PySem.W.nsIn K mainGlobals "bool" = some none)
    (z_enumerate : PySem.W.nsIn K mainGlobals "enumerate" = some none)
    (z_int : PySem.W.nsIn K mainGlobals "int" = some none)
    (z_isinstance : PySem.W.nsIn K mainGlobals "isinstance" = some none)
    (z_len : PySem.W.nsIn K mainGlobals "len" = some none)
    (z_list : PySem.W.nsIn K mainGlobals "list" = some none)
    (z_max : PySem.W.nsIn K mainGlobals "max" = some none)
    (z_min : PySem.W.nsIn K mainGlobals "min" = some none)
    (z_range : PySem.W.nsIn K mainGlobals "range" = some none)
    (z_repr : PySem.W.nsIn K mainGlobals "repr" = some none)
    (z_str : PySem.W.nsIn K mainGlobals "str" = some none)
    (z_tuple : PySem.W.nsIn K mainGlobals "tuple" = some none)
    : ∃ (fd : FuncData) (cs : List (Addr × Addr)) (ts : List (Addr × Str)), tbs ts = cs.map (·.2) ∧ (∀ c ∈ cs, h.get? c.2 = some { cls := .none, data := .fields #[] }) ∧ (∀ c ∈ cs, K.lookup c.2 = none) ∧ (∀ c ∈ cs, PySem.W.codeHdIn K c.1 c.2 = true) ∧ (∀ (s : Shared) (v : Value), BindsTo s fd ⟨[v], []⟩ [("_law_script", v)]) ∧ ∀ base : Heap, K.In base → base.Ns mainGlobals mg → (∀ c ∈ cs, LamX.TabB base mg c.1 c.2) → FnOkG l.prog w K mg base CX0 9 fa fd ["_law_script"] (spLawTs K ts) := by
  have e := hfa.symm.trans (PySem.W.mg_of X G a44)
  cases e
  have tx_BadHouse : ∀ c C fl, (xcl a_BadHouse a_BadSaying) c = some (C, fl) → PySem.W.exmOne K (.ref C) (.ref a_BadHouse) = some (Xn.is c .BadHouse) := by
    intro c C fl h
    cases c with
    | BadHouse =>
      cases (show some (a_BadHouse, (some "part" : Option Str)) = some (C, fl) from h)
      exact PySem.W.exm_ref xs_BadHouse xh_BadHouse xt_BadHouse xe_BadHouse
    | BadSaying =>
      cases (show some (a_BadSaying, (some "place" : Option Str)) = some (C, fl) from h)
      exact PySem.W.exm_ref xs_BadHouse xh_BadHouse xt_BadHouse xp_BadSaying_BadHouse
    | _ => exact absurd (show (none : Option (Addr × Option Str)) = some (C, fl) from h) (by simp)
  have tx_BadSaying : ∀ c C fl, (xcl a_BadHouse a_BadSaying) c = some (C, fl) → PySem.W.exmOne K (.ref C) (.ref a_BadSaying) = some (Xn.is c .BadSaying) := by
    intro c C fl h
    cases c with
    | BadHouse =>
      cases (show some (a_BadHouse, (some "part" : Option Str)) = some (C, fl) from h)
      exact PySem.W.exm_ref xs_BadSaying xh_BadSaying xt_BadSaying xp_BadHouse_BadSaying
    | BadSaying =>
      cases (show some (a_BadSaying, (some "place" : Option Str)) = some (C, fl) from h)
      exact PySem.W.exm_ref xs_BadSaying xh_BadSaying xt_BadSaying xe_BadSaying
    | _ => exact absurd (show (none : Option (Addr × Option Str)) = some (C, fl) from h) (by simp)
  have T : Tx K mg a__law_calls a__law_draw a__law_handed a__law_pick a__law_odd_6 a__law_pen a_is_whole a_is_base a_BadHouse___init__ a_need_base_2 a_is_listing a_is_count a_is_saying_a a_BadSaying___init__ a_need_sayings_3 a_reaches_3 a_least_house_2 a_need_one_more_2 a_shows_follows_3 a_may_be_4 a_how_many_2 a_nth_house_2 a_bar_of_4 a_blame_3 a_need_house_3 a_core_3 a_mend_2 a_shows_mend_2 a_least_mend_2 a_greatest_house_2 a_follows_3 a_which_2 a_keeps_2 a_is_beginning a_House___init__ a_shows_bar_2 a_least_by a_strongest_below a_why_least_2 a_greatest_by a_strongest_above a_why_greatest_2 a__law_refused_2 fa a_House a_BadHouse a_BadSaying tk_LEAST_BASE tk_MOST_BASE := ⟨PySem.W.mg_none_of X G z_ValueError, PySem.W.mg_none_of X G z_abs, PySem.W.mg_none_of X G z_all, PySem.W.mg_none_of X G z_bool, PySem.W.mg_none_of X G z_enumerate, PySem.W.mg_none_of X G z_int, PySem.W.mg_none_of X G z_isinstance, PySem.W.mg_none_of X G z_len, PySem.W.mg_none_of X G z_list, PySem.W.mg_none_of X G z_max, PySem.W.mg_none_of X G z_min, PySem.W.mg_none_of X G z_range, PySem.W.mg_none_of X G z_repr, PySem.W.mg_none_of X G z_str, PySem.W.mg_none_of X G z_tuple, PySem.W.mg_of X G q_LEAST_BASE, PySem.W.mg_of X G q_MOST_BASE, PySem.W.mg_of X G a1, k1, PySem.W.mg_of X G a2, k2, PySem.W.mg_of X G a3, k3, PySem.W.mg_of X G a4, k4, PySem.W.mg_of X G a5, k5, PySem.W.mg_of X G a6, k6, PySem.W.mg_of X G a7, k7, PySem.W.mg_of X G a8, k8, PySem.W.mg_of X G a10, k10, PySem.W.mg_of X G a11, k11, PySem.W.mg_of X G a12, k12, PySem.W.mg_of X G a13, k13, PySem.W.mg_of X G a15, k15, PySem.W.mg_of X G a16, k16, PySem.W.mg_of X G a17, k17, PySem.W.mg_of X G a18, k18, PySem.W.mg_of X G a19, k19, PySem.W.mg_of X G a20, k20, PySem.W.mg_of X G a21, k21, PySem.W.mg_of X G a22, k22, PySem.W.mg_of X G a23, k23, PySem.W.mg_of X G a24, k24, PySem.W.mg_of X G a25, k25, PySem.W.mg_of X G a26, k26, PySem.W.mg_of X G a27, k27, PySem.W.mg_of X G a28, k28, PySem.W.mg_of X G a29, k29, PySem.W.mg_of X G a30, k30, PySem.W.mg_of X G a31, k31, PySem.W.mg_of X G a32, k32, PySem.W.mg_of X G a33, k33, PySem.W.mg_of X G a34, k34, PySem.W.mg_of X G a36, k36, PySem.W.mg_of X G a37, k37, PySem.W.mg_of X G a38, k38, PySem.W.mg_of X G a39, k39, PySem.W.mg_of X G a40, k40, PySem.W.mg_of X G a41, k41, PySem.W.mg_of X G a42, k42, PySem.W.mg_of X G a43, k43, PySem.W.mg_of X G a44, k44, PySem.W.mg_of X G ac_House, ⟨pg_House, hd_House, po_House, sa_House⟩, n_House_kept_base, n_House_kept_beginning, n_House_sums, ⟨mk_House, a35, i35, kc_House⟩, PySem.W.mg_of X G ac_BadHouse, ⟨⟨_, _, _, _, _, _, _, _, _, _, _, _, _, _, rl_BadHouse⟩, xz_BadHouse, xs_BadHouse, xt_BadHouse, xk_BadHouse⟩, a9, xf_BadHouse, xno_BadHouse, PySem.W.exm_ref xs_BadHouse xh_BadHouse xt_BadHouse xe_BadHouse, kit_T (by decide +kernel) xq_BadHouse, ⟨xg_BadHouse, xa_BadHouse, xs_BadHouse, xh_BadHouse, xc_BadHouse, xn_BadHouse, xo_BadHouse, xm_BadHouse⟩, PySem.W.mg_of X G ac_BadSaying, ⟨⟨_, _, _, _, _, _, _, _, _, _, _, _, _, _, rl_BadSaying⟩, xz_BadSaying, xs_BadSaying, xt_BadSaying, xk_BadSaying⟩, a14, xf_BadSaying, xno_BadSaying, PySem.W.exm_ref xs_BadSaying xh_BadSaying xt_BadSaying xe_BadSaying, kit_T (by decide +kernel) xq_BadSaying, ⟨xg_BadSaying, xa_BadSaying, xs_BadSaying, xh_BadSaying, xc_BadSaying, xn_BadSaying, xo_BadSaying, xm_BadSaying⟩, tx_BadHouse, tx_BadSaying, kit_T (by decide +kernel) xj_BadHouse_ValueError, kit_T (by decide +kernel) xj_BadSaying_ValueError, xv_ValueError⟩
  have F1 := fun_mk (st := s__law_calls) l1 c1 k1
  have b1 := F1.binds (ps := ["_law_k", "_law_some"]) fun _ _ _ _ _ _ us hl => match us, hl with | [_, _], _ => rfl
  have F2 := fun_mk (st := s__law_draw) l2 c2 k2
  have b2 := F2.binds (ps := ["_law_pen_here", "_law_many"]) fun _ _ _ _ _ _ us hl => match us, hl with | [_, _], _ => rfl
  have F3 := fun_mk (st := s__law_handed) l3 c3 k3
  have b3 := F3.binds (ps := ["_law_pen_here", "_law_some"]) fun _ _ _ _ _ _ us hl => match us, hl with | [_, _], _ => rfl
  have F4 := fun_mk (st := s__law_pick) l4 c4 k4
  have b4 := F4.binds (ps := ["_law_pen_here", "_law_some"]) fun _ _ _ _ _ _ us hl => match us, hl with | [_, _], _ => rfl
  have F5 := fun_mk (st := s__law_odd_6) l5 c5 k5
  have b5 := F5.binds (ps := ["_law_pen_here"]) fun _ _ _ _ _ _ us hl => match us, hl with | [_], _ => rfl
  have F6 := fun_mk (st := s__law_pen) l6 c6 k6
  have b6 := F6.binds (ps := ["_law_script"]) fun _ _ _ _ _ _ us hl => match us, hl with | [_], _ => rfl
  have F7 := fun_mk (st := s_is_whole) l7 c7 k7
  have b7 := F7.binds (ps := ["thing"]) fun _ _ _ _ _ _ us hl => match us, hl with | [_], _ => rfl
  have F8 := fun_mk (st := s_is_base) l8 c8 k8
  have b8 := F8.binds (ps := ["thing"]) fun _ _ _ _ _ _ us hl => match us, hl with | [_], _ => rfl
  have F9 := fun_mk (st := s_BadHouse___init__) l9 c9 k9
  have b9 := F9.binds (ps := ["self", "part"]) fun _ _ _ _ _ _ us hl => match us, hl with | [_, _], _ => rfl
  have F10 := fun_mk (st := s_need_base_2) l10 c10 k10
  have b10 := F10.binds (ps := ["k"]) fun _ _ _ _ _ _ us hl => match us, hl with | [_], _ => rfl
  have F11 := fun_mk (st := s_is_listing) l11 c11 k11
  have b11 := F11.binds (ps := ["thing"]) fun _ _ _ _ _ _ us hl => match us, hl with | [_], _ => rfl
  have F12 := fun_mk (st := s_is_count) l12 c12 k12
  have b12 := F12.binds (ps := ["thing"]) fun _ _ _ _ _ _ us hl => match us, hl with | [_], _ => rfl
  have F13 := fun_mk (st := s_is_saying_a) l13 c13 k13
  have b13 := F13.binds (ps := ["thing"]) fun _ _ _ _ _ _ us hl => match us, hl with | [_], _ => rfl
  have F14 := fun_mk (st := s_BadSaying___init__) l14 c14 k14
  have b14 := F14.binds (ps := ["self", "place"]) fun _ _ _ _ _ _ us hl => match us, hl with | [_, _], _ => rfl
  have F15 := fun_mk (st := s_need_sayings_3) l15 c15 k15
  have b15 := F15.binds (ps := ["sayings"]) fun _ _ _ _ _ _ us hl => match us, hl with | [_], _ => rfl
  have F16 := fun_mk (st := s_reaches_3) l16 c16 k16
  have b16 := F16.binds (ps := ["k", "sayings"]) fun _ _ _ _ _ _ us hl => match us, hl with | [_, _], _ => rfl
  have F17 := fun_mk (st := s_least_house_2) l17 c17 k17
  have b17 := F17.binds (ps := ["k", "sayings", "reach"]) fun _ _ _ _ _ _ us hl => match us, hl with | [_, _, _], _ => rfl
  have F18 := fun_mk (st := s_need_one_more_2) l18 c18 k18
  have b18 := F18.binds (ps := ["sayings", "saying"]) fun _ _ _ _ _ _ us hl => match us, hl with | [_, _], _ => rfl
  have F19 := fun_mk (st := s_shows_follows_3) l19 c19 k19
  have b19 := F19.binds (ps := ["k", "sayings", "saying", "paper"]) fun _ _ _ _ _ _ us hl => match us, hl with | [_, _, _, _], _ => rfl
  have F20 := fun_mk (st := s_may_be_4) l20 c20 k20
  have b20 : Binds K _ ["k", "sayings", "place", "reach"] [Value.none] := kw_binds (fd := PySem.W.fnOf "may_be" "may_be" (defArgs s_may_be_4) (defBody s_may_be_4) (defScope s_may_be_4) .none (.ref aD20) dc20 pm20 an20 cd20 ct20) kd20 fun us hl => match us, hl with | [_, _, _], _ => ⟨_, _, _, _, _, _, rfl, rfl, rfl⟩
  have F21 := fun_mk (st := s_how_many_2) l21 c21 k21
  have b21 := F21.binds (ps := ["k", "sayings", "reach"]) fun _ _ _ _ _ _ us hl => match us, hl with | [_, _, _], _ => rfl
  have F22 := fun_mk (st := s_nth_house_2) l22 c22 k22
  have b22 := F22.binds (ps := ["k", "sayings", "reach", "place"]) fun _ _ _ _ _ _ us hl => match us, hl with | [_, _, _, _], _ => rfl
  have F23 := fun_mk (st := s_bar_of_4) l23 c23 k23
  have b23 : Binds K _ ["k", "sayings", "reach"] [Value.none] := kw_binds (fd := PySem.W.fnOf "bar_of" "bar_of" (defArgs s_bar_of_4) (defBody s_bar_of_4) (defScope s_bar_of_4) .none (.ref aD23) dc23 pm23 an23 cd23 ct23) kd23 fun us hl => match us, hl with | [_, _], _ => ⟨_, _, _, _, _, _, rfl, rfl, rfl⟩
  have F24 := fun_mk (st := s_blame_3) l24 c24 k24
  have b24 := F24.binds (ps := ["k", "sayings"]) fun _ _ _ _ _ _ us hl => match us, hl with | [_, _], _ => rfl
  have F25 := fun_mk (st := s_need_house_3) l25 c25 k25
  have b25 := F25.binds (ps := ["k", "sayings"]) fun _ _ _ _ _ _ us hl => match us, hl with | [_, _], _ => rfl
  have F26 := fun_mk (st := s_core_3) l26 c26 k26
  have b26 := F26.binds (ps := ["k", "sayings"]) fun _ _ _ _ _ _ us hl => match us, hl with | [_, _], _ => rfl
  have F27 := fun_mk (st := s_mend_2) l27 c27 k27
  have b27 : Binds K _ ["k", "sayings", "reach", "prices"] [Value.none] := kw_binds (fd := PySem.W.fnOf "mend" "mend" (defArgs s_mend_2) (defBody s_mend_2) (defScope s_mend_2) .none (.ref aD27) dc27 pm27 an27 cd27 ct27) kd27 fun us hl => match us, hl with | [_, _, _], _ => ⟨_, _, _, _, _, _, rfl, rfl, rfl⟩
  have F28 := fun_mk (st := s_shows_mend_2) l28 c28 k28
  have b28 : Binds K _ ["k", "sayings", "reach", "thing", "prices"] [Value.none] := kw_binds (fd := PySem.W.fnOf "shows_mend" "shows_mend" (defArgs s_shows_mend_2) (defBody s_shows_mend_2) (defScope s_shows_mend_2) .none (.ref aD28) dc28 pm28 an28 cd28 ct28) kd28 fun us hl => match us, hl with | [_, _, _, _], _ => ⟨_, _, _, _, _, _, rfl, rfl, rfl⟩
  have F29 := fun_mk (st := s_least_mend_2) l29 c29 k29
  have b29 : Binds K _ ["k", "sayings", "prices"] [Value.none] := kw_binds (fd := PySem.W.fnOf "least_mend" "least_mend" (defArgs s_least_mend_2) (defBody s_least_mend_2) (defScope s_least_mend_2) .none (.ref aD29) dc29 pm29 an29 cd29 ct29) kd29 fun us hl => match us, hl with | [_, _], _ => ⟨_, _, _, _, _, _, rfl, rfl, rfl⟩
  have F30 := fun_mk (st := s_greatest_house_2) l30 c30 k30
  have b30 := F30.binds (ps := ["k", "sayings", "reach"]) fun _ _ _ _ _ _ us hl => match us, hl with | [_, _, _], _ => rfl
  have F31 := fun_mk (st := s_follows_3) l31 c31 k31
  have b31 := F31.binds (ps := ["k", "sayings", "saying"]) fun _ _ _ _ _ _ us hl => match us, hl with | [_, _, _], _ => rfl
  have F32 := fun_mk (st := s_which_2) l32 c32 k32
  have b32 := F32.binds (ps := ["sayings", "most"]) fun _ _ _ _ _ _ us hl => match us, hl with | [_, _], _ => rfl
  have F33 := fun_mk (st := s_keeps_2) l33 c33 k33
  have b33 := F33.binds (ps := ["house", "saying"]) fun _ _ _ _ _ _ us hl => match us, hl with | [_, _], _ => rfl
  have F34 := fun_mk (st := s_is_beginning) l34 c34 k34
  have b34 := F34.binds (ps := ["base", "thing"]) fun _ _ _ _ _ _ us hl => match us, hl with | [_, _], _ => rfl
  have F35 := fun_mk (st := s_House___init__) l35 c35 k35
  have b35 := F35.binds (ps := ["self", "k", "beginning"]) fun _ _ _ _ _ _ us hl => match us, hl with | [_, _, _], _ => rfl
  have F36 := fun_mk (st := s_shows_bar_2) l36 c36 k36
  have b36 : Binds K _ ["k", "sayings", "thing", "reach"] [Value.none] := kw_binds (fd := PySem.W.fnOf "shows_bar" "shows_bar" (defArgs s_shows_bar_2) (defBody s_shows_bar_2) (defScope s_shows_bar_2) .none (.ref aD36) dc36 pm36 an36 cd36 ct36) kd36 fun us hl => match us, hl with | [_, _, _], _ => ⟨_, _, _, _, _, _, rfl, rfl, rfl⟩
  have F37 := fun_mk (st := s_least_by) l37 c37 k37
  have b37 := F37.binds (ps := ["tie"]) fun _ _ _ _ _ _ us hl => match us, hl with | [_], _ => rfl
  have F38 := fun_mk (st := s_strongest_below) l38 c38 k38
  have b38 := F38.binds (ps := ["ties"]) fun _ _ _ _ _ _ us hl => match us, hl with | [_], _ => rfl
  have F39 := fun_mk (st := s_why_least_2) l39 c39 k39
  have b39 := F39.binds (ps := ["k", "sayings"]) fun _ _ _ _ _ _ us hl => match us, hl with | [_, _], _ => rfl
  have F40 := fun_mk (st := s_greatest_by) l40 c40 k40
  have b40 := F40.binds (ps := ["tie"]) fun _ _ _ _ _ _ us hl => match us, hl with | [_], _ => rfl
  have F41 := fun_mk (st := s_strongest_above) l41 c41 k41
  have b41 := F41.binds (ps := ["ties"]) fun _ _ _ _ _ _ us hl => match us, hl with | [_], _ => rfl
  have F42 := fun_mk (st := s_why_greatest_2) l42 c42 k42
  have b42 := F42.binds (ps := ["k", "sayings"]) fun _ _ _ _ _ _ us hl => match us, hl with | [_, _], _ => rfl
  have F43 := fun_mk (st := s__law_refused_2) l43 c43 k43
  have b43 := F43.binds (ps := ["_law_call"]) fun _ _ _ _ _ _ us hl => match us, hl with | [_], _ => rfl
  have F44 := fun_mk (st := s_law) l44 c44 k44
  refine ⟨PySem.W.fnOf "law" "law" (defArgs s_law) (defBody s_law) (defScope s_law) .none kV44 dc44 pm44 an44 (.ref cA1) ct44, [(cA0, Pt0), (cA1, Pt1)], [(Pt0, ((envOfC "_law_calls" (defScope s__law_calls) 0 a__law_calls (.ref cA0)).qual ++ "<lambda>")), (Pt1, ((envOfC "law" (defScope s_law) 0 fa (.ref cA1)).qual ++ "<lambda>"))], rfl, ?_, ?_, ?_, fun s v => .of_eq rfl, fun base _ _ TBs => ?_⟩
  · intro c hc
    simp only [List.mem_cons, List.not_mem_nil, or_false] at hc
    rcases hc with rfl | rfl
    · exact (tab "_law_calls" (by simp) _ (PySem.W.mg_of X G a1)).at l1 rfl th0
    · exact (tab "law" (by simp) _ (PySem.W.mg_of X G a44)).at l44 rfl th1
  · intro c hc
    simp only [List.mem_cons, List.not_mem_nil, or_false] at hc
    rcases hc with rfl | rfl
    · exact tn0
    · exact tn1
  · intro c hc
    simp only [List.mem_cons, List.not_mem_nil, or_false] at hc
    rcases hc with rfl | rfl
    · exact th0
    · exact th1
  have TB0 := TBs (cA0, Pt0) (by simp)
  have TB1 := TBs (cA1, Pt1) (by simp)
  have G1 := ok__law_calls (P := l.prog) (w := w) (base := base) l1 c1 TB0 T
  have G2 := ok__law_draw (P := l.prog) (w := w) (base := base) F2 T
  have G3 := ok__law_handed (P := l.prog) (w := w) (base := base) F3 T G2 b2
  have G4 := ok__law_pick (P := l.prog) (w := w) (base := base) F4 T G2 b2
  have G5 := ok__law_odd_6 (P := l.prog) (w := w) (base := base) F5 T G2 b2 G4 b4
  have G6 := ok__law_pen (P := l.prog) (w := w) (base := base) F6 T
  have G7 := ok_is_whole (P := l.prog) (w := w) (base := base) F7 T
  have G8 := ok_is_base (P := l.prog) (w := w) (base := base) F8 T G7 b7
  have G9 := ok_BadHouse___init__ (P := l.prog) (w := w) (base := base) F9 T
  have G10 := ok_need_base_2 (P := l.prog) (w := w) (base := base) F10 T G8 b8 G9 b9
  have G11 := ok_is_listing (P := l.prog) (w := w) (base := base) F11 T
  have G12 := ok_is_count (P := l.prog) (w := w) (base := base) F12 T G7 b7
  have G13 := ok_is_saying_a (P := l.prog) (w := w) (base := base) F13 T G12 b12
  have G14 := ok_BadSaying___init__ (P := l.prog) (w := w) (base := base) F14 T
  have G15 := ok_need_sayings_3 (P := l.prog) (w := w) (base := base) F15 T G11 b11 G13 b13 G14 b14
  have G16 := ok_reaches_3 (P := l.prog) (w := w) (base := base) F16 T G10 b10 G15 b15
  have GL0 := ok_lam0 (P := l.prog) (w := w) (base := base) T G16 b16
  have G17 := ok_least_house_2 (P := l.prog) (w := w) (base := base) F17 T G10 b10 G15 b15
  have GL1 := ok_lam1 (P := l.prog) (w := w) (base := base) T G17 b17
  have G18 := ok_need_one_more_2 (P := l.prog) (w := w) (base := base) F18 T G13 b13 G15 b15 G14 b14
  have G19 := ok_shows_follows_3 (P := l.prog) (w := w) (base := base) F19 T G10 b10 G18 b18
  have GL10 := ok_lam10 (P := l.prog) (w := w) (base := base) T G19 b19
  have G20 := ok_may_be_4 (P := l.prog) (w := w) (base := base) F20 T G10 b10 G15 b15
  have GL11 := ok_lam11 (P := l.prog) (w := w) (base := base) T G20 b20
  have GL12 := ok_lam12 (P := l.prog) (w := w) (base := base) T G20 (kbp_of fun _ us ws hu hl => match us, hu, ws, hl with | [_, _, _], _, [_], _ => .of_eq rfl)
  have G21 := ok_how_many_2 (P := l.prog) (w := w) (base := base) F21 T G10 b10 G15 b15
  have GL13 := ok_lam13 (P := l.prog) (w := w) (base := base) T G21 b21
  have G22 := ok_nth_house_2 (P := l.prog) (w := w) (base := base) F22 T G21 b21
  have GL14 := ok_lam14 (P := l.prog) (w := w) (base := base) T G22 b22
  have G23 := ok_bar_of_4 (P := l.prog) (w := w) (base := base) F23 T G10 b10 G15 b15
  have G24 := ok_blame_3 (P := l.prog) (w := w) (base := base) F24 T G23 b23
  have GL15 := ok_lam15 (P := l.prog) (w := w) (base := base) T G24 b24
  have G25 := ok_need_house_3 (P := l.prog) (w := w) (base := base) F25 T G10 b10 G15 b15
  have G26 := ok_core_3 (P := l.prog) (w := w) (base := base) F26 T G25 b25
  have GL16 := ok_lam16 (P := l.prog) (w := w) (base := base) T G26 b26
  have G27 := ok_mend_2 (P := l.prog) (w := w) (base := base) F27 T G10 b10 G15 b15
  have GL17 := ok_lam17 (P := l.prog) (w := w) (base := base) T G27 b27
  have G28 := ok_shows_mend_2 (P := l.prog) (w := w) (base := base) F28 T G10 b10 G15 b15
  have GL18 := ok_lam18 (P := l.prog) (w := w) (base := base) T G28 b28
  have G29 := ok_least_mend_2 (P := l.prog) (w := w) (base := base) F29 T G10 b10 G15 b15
  have GL19 := ok_lam19 (P := l.prog) (w := w) (base := base) T G29 b29
  have G30 := ok_greatest_house_2 (P := l.prog) (w := w) (base := base) F30 T G10 b10 G15 b15
  have GL2 := ok_lam2 (P := l.prog) (w := w) (base := base) T G30 b30
  have G31 := ok_follows_3 (P := l.prog) (w := w) (base := base) F31 T G10 b10 G18 b18
  have GL20 := ok_lam20 (P := l.prog) (w := w) (base := base) T G31 b31
  have G32 := ok_which_2 (P := l.prog) (w := w) (base := base) F32 T G15 b15
  have GL21 := ok_lam21 (P := l.prog) (w := w) (base := base) T G32 b32
  have GL22 := ok_lam22 (P := l.prog) (w := w) (base := base) T G32 b32
  have G33 := ok_keeps_2 (P := l.prog) (w := w) (base := base) F33 T G15 b15
  have G34 := ok_is_beginning (P := l.prog) (w := w) (base := base) F34 T G12 b12 G11 b11
  have G35 := ok_House___init__ (P := l.prog) (w := w) (base := base) F35 T G8 b8 G34 b34
  have GL23 := ok_lam23 (P := l.prog) (w := w) (base := base) T G33 b33 G35 b35
  have GL24 := ok_lam24 (P := l.prog) (w := w) (base := base) T G31 b31
  have GL25 := ok_lam25 (P := l.prog) (w := w) (base := base) T G31 b31
  have GL26 := ok_lam26 (P := l.prog) (w := w) (base := base) T G19 b19
  have GL27 := ok_lam27 (P := l.prog) (w := w) (base := base) T G19 b19
  have GL3 := ok_lam3 (P := l.prog) (w := w) (base := base) T G23 b23
  have GL4 := ok_lam4 (P := l.prog) (w := w) (base := base) T G23 (kbp_of fun _ us ws hu hl => match us, hu, ws, hl with | [_, _], _, [_], _ => .of_eq rfl)
  have G36 := ok_shows_bar_2 (P := l.prog) (w := w) (base := base) F36 T G10 b10 G15 b15
  have GL5 := ok_lam5 (P := l.prog) (w := w) (base := base) T G36 b36
  have GL6 := ok_lam6 (P := l.prog) (w := w) (base := base) T G36 (kbp_of fun _ us ws hu hl => match us, hu, ws, hl with | [_, _, _], _, [_], _ => .of_eq rfl)
  have G37 := ok_least_by (P := l.prog) (w := w) (base := base) F37 T
  have G38 := ok_strongest_below (P := l.prog) (w := w) (base := base) F38 T G37 b37
  have G39 := ok_why_least_2 (P := l.prog) (w := w) (base := base) F39 T G38 b38 G25 b25
  have GL7 := ok_lam7 (P := l.prog) (w := w) (base := base) T G39 b39
  have G40 := ok_greatest_by (P := l.prog) (w := w) (base := base) F40 T
  have G41 := ok_strongest_above (P := l.prog) (w := w) (base := base) F41 T G40 b40
  have G42 := ok_why_greatest_2 (P := l.prog) (w := w) (base := base) F42 T G41 b41 G25 b25
  have GL8 := ok_lam8 (P := l.prog) (w := w) (base := base) T G42 b42
  have GL9 := ok_lam9 (P := l.prog) (w := w) (base := base) T G31 b31
  have G43 := ok__law_refused_2 (P := l.prog) (w := w) (base := base) F43 T (fun n L => match n with | 0 => lam_at (GL0.mono (by decide)) | 1 => lam_at (GL1.mono (by decide)) | 2 => lam_at (GL2.mono (by decide)) | 3 => lam_at (GL3.mono (by decide)) | 4 => lam_at (GL4.mono (by decide)) | 5 => lam_at (GL5.mono (by decide)) | 6 => lam_at (GL6.mono (by decide)) | 7 => lam_at (GL7.mono (by decide)) | 8 => lam_at (GL8.mono (by decide)) | 9 => lam_at (GL9.mono (by decide)) | 10 => lam_at (GL10.mono (by decide)) | 11 => lam_at (GL11.mono (by decide)) | 12 => lam_at (GL12.mono (by decide)) | 13 => lam_at (GL13.mono (by decide)) | 14 => lam_at (GL14.mono (by decide)) | 15 => lam_at (GL15.mono (by decide)) | 16 => lam_at (GL16.mono (by decide)) | 17 => lam_at (GL17.mono (by decide)) | 18 => lam_at (GL18.mono (by decide)) | 19 => lam_at (GL19.mono (by decide)) | 20 => lam_at (GL20.mono (by decide)) | 21 => lam_at (GL21.mono (by decide)) | 22 => lam_at (GL22.mono (by decide)) | 23 => lam_at (GL23.mono (by decide)) | 24 => lam_at (GL24.mono (by decide)) | 25 => lam_at (GL25.mono (by decide)) | 26 => lam_at (GL26.mono (by decide)) | 27 => lam_at (GL27.mono (by decide)) | n + 28 => LamOk.none.imp fun _ _ _ _ z => z.2.elim)
  have G44 := ok_law (P := l.prog) (w := w) (base := base) l44 c44 (two_tabs hne) TB1 T G1 b1 G2 b2 G3 b3 G5 b5 G6 b6 G4 b4 G43 b43
  exact G44
theorem walk {l : PySem.W.OpenLaw} {q : Program} {loose : List Str} {XP : (Str → Option Value) → Heap → Prop} {YP : World → Heap → Prop} {d : DefRec} {K : Params → PySem.W.Frag} (hn : l.most = some 63) (hdf : d.params.defaults = [])
    (hY : ∀ (w : World) (h : Heap), YP w h → (K w.params).In h)
    (hrec : ∀ nm ∈ (["_law_calls", "law"] : List Str), ((recsOf q).any fun e => e.name == nm) = true)
    (F : ∀ (w : World) (mg : Str → Option Value) (fa : Addr) (h : Heap), (K w.params).In h → h.Ns mainGlobals mg → mg d.name = some (.ref fa) → (∀ nm ∈ (["_law_calls", "law"] : List Str), ∀ fb, mg nm = some (.ref fb) → TabAt (K w.params) fb h) →
      ∃ (fd : FuncData) (cs : List (Addr × Addr)) (ts : List (Addr × Str)), tbs ts = cs.map (·.2) ∧ (∀ c ∈ cs, h.get? c.2 = some { cls := .none, data := .fields #[] }) ∧ (∀ c ∈ cs, (K w.params).lookup c.2 = none) ∧ (∀ c ∈ cs, PySem.W.codeHdIn (K w.params) c.1 c.2 = true) ∧ (∀ (s : Shared) (u : Value), BindsTo s fd ⟨[u], []⟩ [("_law_script", u)]) ∧ ∀ base : Heap, (K w.params).In base → base.Ns mainGlobals mg → (∀ c ∈ cs, LamX.TabB base mg c.1 c.2) → FnOkG l.prog w (K w.params) mg base CX0 9 fa fd ["_law_script"] (spLawTs (K w.params) ts)) :
    PySem.W.WalkO q loose XP YP l.row.toRowW d [] (fun f vs => PySem.call f vs) :=
  walk_ofTs (k := 9) (x := "_law_script") (nms := ["_law_calls", "law"]) hn hdf ⟨⟨rfl, by decide, by decide⟩, rfl⟩ hrec hY F
end L_k52
open PySem PySem.W PyProof.Rows
set_option maxRecDepth 100000 in
set_option maxHeartbeats 0 in
theorem PySem.Challenge.cw_askback_k52_sayings_refused_first_holds : PySem.Challenge.rw_askback_k52_sayings_refused_first.Holds := by
  w_on; o_law; k_head; (case hw => w_witness2)
  k_fill
  refine L_k52.walk (l := PySem.Challenge.rw_askback_k52_sayings_refused_first) rfl rfl (fun w h Y => PySem.W.km_in_of Y) (by decide +kernel) ?F
  case F =>
    intro w mg fa h KX G hmg tab
    refine' L_k52.all_mk KX G hmg tab ?ac_House ?pg_House ?hd_House ?po_House ?sa_House ?ac_BadHouse ?rl_BadHouse ?xs_BadHouse ?xt_BadHouse ?xk_BadHouse ?xe_BadHouse ?xq_BadHouse ?xg_BadHouse ?xa_BadHouse ?xh_BadHouse ?xc_BadHouse ?xn_BadHouse ?xo_BadHouse ?xm_BadHouse ?xz_BadHouse ?xno_BadHouse ?ac_BadSaying ?rl_BadSaying ?xs_BadSaying ?xt_BadSaying ?xk_BadSaying ?xe_BadSaying ?xq_BadSaying ?xg_BadSaying ?xa_BadSaying ?xh_BadSaying ?xc_BadSaying ?xn_BadSaying ?xo_BadSaying ?xm_BadSaying ?xz_BadSaying ?xno_BadSaying ?xp_BadSaying_BadHouse ?xp_BadHouse_BadSaying ?xj_BadHouse_ValueError ?xj_BadSaying_ValueError ?xv_ValueError ?a1 ?l1 ?c1 ?k1 ?a2 ?l2 ?c2 ?k2 ?a3 ?l3 ?c3 ?k3 ?a4 ?l4 ?c4 ?k4 ?a5 ?l5 ?c5 ?k5 ?a6 ?l6 ?c6 ?k6 ?a7 ?l7 ?c7 ?k7 ?a8 ?l8 ?c8 ?k8 ?a9 ?i9 ?l9 ?c9 ?k9 ?a10 ?l10 ?c10 ?k10 ?a11 ?l11 ?c11 ?k11 ?a12 ?l12 ?c12 ?k12 ?a13 ?l13 ?c13 ?k13 ?a14 ?i14 ?l14 ?c14 ?k14 ?a15 ?l15 ?c15 ?k15 ?a16 ?l16 ?c16 ?k16 ?a17 ?l17 ?c17 ?k17 ?a18 ?l18 ?c18 ?k18 ?a19 ?l19 ?c19 ?k19 ?a20 ?l20 ?c20 ?k20 ?a21 ?l21 ?c21 ?k21 ?a22 ?l22 ?c22 ?k22 ?a23 ?l23 ?c23 ?k23 ?a24 ?l24 ?c24 ?k24 ?a25 ?l25 ?c25 ?k25 ?a26 ?l26 ?c26 ?k26 ?a27 ?l27 ?c27 ?k27 ?a28 ?l28 ?c28 ?k28 ?a29 ?l29 ?c29 ?k29 ?a30 ?l30 ?c30 ?k30 ?a31 ?l31 ?c31 ?k31 ?a32 ?l32 ?c32 ?k32 ?a33 ?l33 ?c33 ?k33 ?a34 ?l34 ?c34 ?k34 ?a35 ?i35 ?l35 ?c35 ?k35 ?a36 ?l36 ?c36 ?k36 ?a37 ?l37 ?c37 ?k37 ?a38 ?l38 ?c38 ?k38 ?a39 ?l39 ?c39 ?k39 ?a40 ?l40 ?c40 ?k40 ?a41 ?l41 ?c41 ?k41 ?a42 ?l42 ?c42 ?k42 ?a43 ?l43 ?c43 ?k43 ?a44 ?l44 ?c44 ?k44 ?tv0 ?tp0 ?th0 ?tn0 ?tv1 ?tp1 ?th1 ?tn1 ?hne ?xf_BadHouse ?xf_BadSaying ?n_House_kept_base ?n_House_kept_beginning ?n_House_sums ?mk_House ?kc_House ?q_LEAST_BASE ?q_MOST_BASE ?kd20 ?kd23 ?kd27 ?kd28 ?kd29 ?kd36 ?z_ValueError ?z_abs ?z_all ?z_bool ?z_enumerate ?z_int ?z_isinstance ?z_len ?z_list ?z_max ?z_min ?z_range ?z_repr ?z_str ?z_tuple
    (case ac_House => k_is)
    (case pg_House => k_is)
    (case hd_House => k_is)
    (case po_House => k_is)
    (case sa_House => k_is)
    (case ac_BadHouse => k_is)
    (case rl_BadHouse => k_is)
    (case xs_BadHouse => k_is)
    (case xt_BadHouse => k_is)
    (case xk_BadHouse => k_is)
    (case xe_BadHouse => k_is)
    (case xq_BadHouse => k_is)
    (case xg_BadHouse => k_is)
    (case xa_BadHouse => k_is)
    (case xh_BadHouse => k_is)
    (case xc_BadHouse => k_is)
    (case xn_BadHouse => k_is)
    (case xo_BadHouse => k_is)
    (case xm_BadHouse => k_is)
    (case xz_BadHouse => k_is)
    (case xno_BadHouse => k_is)
    (case ac_BadSaying => k_is)
    (case rl_BadSaying => k_is)
    (case xs_BadSaying => k_is)
    (case xt_BadSaying => k_is)
    (case xk_BadSaying => k_is)
    (case xe_BadSaying => k_is)
    (case xq_BadSaying => k_is)
    (case xg_BadSaying => k_is)
    (case xa_BadSaying => k_is)
    (case xh_BadSaying => k_is)
    (case xc_BadSaying => k_is)
    (case xn_BadSaying => k_is)
    (case xo_BadSaying => k_is)
    (case xm_BadSaying => k_is)
    (case xz_BadSaying => k_is)
    (case xno_BadSaying => k_is)
    (case xp_BadSaying_BadHouse => k_is)
    (case xp_BadHouse_BadSaying => k_is)
    (case xj_BadHouse_ValueError => k_is)
    (case xj_BadSaying_ValueError => k_is)
    (case xv_ValueError => k_is)
    (case a1 => k_is)
    (case l1 => k_is)
    (case c1 => k_is)
    (case k1 => k_is)
    (case a2 => k_is)
    (case l2 => k_is)
    (case c2 => k_is)
    (case k2 => k_is)
    (case a3 => k_is)
    (case l3 => k_is)
    (case c3 => k_is)
    (case k3 => k_is)
    (case a4 => k_is)
    (case l4 => k_is)
    (case c4 => k_is)
    (case k4 => k_is)
    (case a5 => k_is)
    (case l5 => k_is)
    (case c5 => k_is)
    (case k5 => k_is)
    (case a6 => k_is)
    (case l6 => k_is)
    (case c6 => k_is)
    (case k6 => k_is)
    (case a7 => k_is)
    (case l7 => k_is)
    (case c7 => k_is)
    (case k7 => k_is)
    (case a8 => k_is)
    (case l8 => k_is)
    (case c8 => k_is)
    (case k8 => k_is)
    (case a9 => k_is)
    (case i9 => k_is)
    (case l9 => k_is)
    (case c9 => k_is)
    (case k9 => k_is)
    (case a10 => k_is)
    (case l10 => k_is)
    (case c10 => k_is)
    (case k10 => k_is)
    (case a11 => k_is)
    (case l11 => k_is)
    (case c11 => k_is)
    (case k11 => k_is)
    (case a12 => k_is)
    (case l12 => k_is)
    (case c12 => k_is)
    (case k12 => k_is)
    (case a13 => k_is)
    (case l13 => k_is)
    (case c13 => k_is)
    (case k13 => k_is)
    (case a14 => k_is)
    (case i14 => k_is)
    (case l14 => k_is)
    (case c14 => k_is)
    (case k14 => k_is)
    (case a15 => k_is)
    (case l15 => k_is)
    (case c15 => k_is)
    (case k15 => k_is)
    (case a16 => k_is)
    (case l16 => k_is)
    (case c16 => k_is)
    (case k16 => k_is)
    (case a17 => k_is)
    (case l17 => k_is)
    (case c17 => k_is)
    (case k17 => k_is)
    (case a18 => k_is)
    (case l18 => k_is)
    (case c18 => k_is)
    (case k18 => k_is)
    (case a19 => k_is)
    (case l19 => k_is)
    (case c19 => k_is)
    (case k19 => k_is)
    (case a20 => k_is)
    (case l20 => k_is)
    (case c20 => k_is)
    (case k20 => k_is)
    (case a21 => k_is)
    (case l21 => k_is)
    (case c21 => k_is)
    (case k21 => k_is)
    (case a22 => k_is)
    (case l22 => k_is)
    (case c22 => k_is)
    (case k22 => k_is)
    (case a23 => k_is)
    (case l23 => k_is)
    (case c23 => k_is)
    (case k23 => k_is)
    (case a24 => k_is)
    (case l24 => k_is)
    (case c24 => k_is)
    (case k24 => k_is)
    (case a25 => k_is)
    (case l25 => k_is)
    (case c25 => k_is)
    (case k25 => k_is)
    (case a26 => k_is)
    (case l26 => k_is)
    (case c26 => k_is)
    (case k26 => k_is)
    (case a27 => k_is)
    (case l27 => k_is)
    (case c27 => k_is)
    (case k27 => k_is)
    (case a28 => k_is)
    (case l28 => k_is)
    (case c28 => k_is)
    (case k28 => k_is)
    (case a29 => k_is)
    (case l29 => k_is)
    (case c29 => k_is)
    (case k29 => k_is)
    (case a30 => k_is)
    (case l30 => k_is)
    (case c30 => k_is)
    (case k30 => k_is)
    (case a31 => k_is)
    (case l31 => k_is)
    (case c31 => k_is)
    (case k31 => k_is)
    (case a32 => k_is)
    (case l32 => k_is)
    (case c32 => k_is)
    (case k32 => k_is)
    (case a33 => k_is)
    (case l33 => k_is)
    (case c33 => k_is)
    (case k33 => k_is)
    (case a34 => k_is)
    (case l34 => k_is)
    (case c34 => k_is)
    (case k34 => k_is)
    (case a35 => k_is)
    (case i35 => k_is)
    (case l35 => k_is)
    (case c35 => k_is)
    (case k35 => k_is)
    (case a36 => k_is)
    (case l36 => k_is)
    (case c36 => k_is)
    (case k36 => k_is)
    (case a37 => k_is)
    (case l37 => k_is)
    (case c37 => k_is)
    (case k37 => k_is)
    (case a38 => k_is)
    (case l38 => k_is)
    (case c38 => k_is)
    (case k38 => k_is)
    (case a39 => k_is)
    (case l39 => k_is)
    (case c39 => k_is)
    (case k39 => k_is)
    (case a40 => k_is)
    (case l40 => k_is)
    (case c40 => k_is)
    (case k40 => k_is)
    (case a41 => k_is)
    (case l41 => k_is)
    (case c41 => k_is)
    (case k41 => k_is)
    (case a42 => k_is)
    (case l42 => k_is)
    (case c42 => k_is)
    (case k42 => k_is)
    (case a43 => k_is)
    (case l43 => k_is)
    (case c43 => k_is)
    (case k43 => k_is)
    (case a44 => k_is)
    (case l44 => k_is)
    (case c44 => k_is)
    (case k44 => k_is)
    (case tv0 => first | k_is | rfl)
    (case tp0 => rfl)
    (case th0 => first | rfl | decide +kernel)
    (case tn0 => first | rfl | k_is | decide +kernel)
    (case tv1 => first | k_is | rfl)
    (case tp1 => rfl)
    (case th1 => first | rfl | decide +kernel)
    (case tn1 => first | rfl | k_is | decide +kernel)
    (case hne => decide)
    (case xf_BadHouse => k_is)
    (case xf_BadSaying => k_is)
    (case n_House_kept_base => k_is)
    (case n_House_kept_beginning => k_is)
    (case n_House_sums => k_is)
    (case mk_House => k_is)
    (case kc_House => k_is)
    (case q_LEAST_BASE => k_is)
    (case q_MOST_BASE => k_is)
    (case kd20 => k_is)
    (case kd23 => k_is)
    (case kd27 => k_is)
    (case kd28 => k_is)
    (case kd29 => k_is)
    (case kd36 => k_is)
    (case z_ValueError => k_is)
    (case z_abs => k_is)
    (case z_all => k_is)
    (case z_bool => k_is)
    (case z_enumerate => k_is)
    (case z_int => k_is)
    (case z_isinstance => k_is)
    (case z_len => k_is)
    (case z_list => k_is)
    (case z_max => k_is)
    (case z_min => k_is)
    (case z_range => k_is)
    (case z_repr => k_is)
    (case z_str => k_is)
    (case z_tuple => k_is)
