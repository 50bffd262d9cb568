import PyProof.Rows.All
import Wide.All
import OpenK.AllK
import Wide.FinOn
import HandS.ForMost
import HandS.Wide
import HandS.Flow
import HandS.Style
import HandS.IsInst
import HandS.Lambda
import HandS.SetFor
import KE.GoesEnumKw
import HandS.MakeKwOnly
import HandS.Zip
import HandS.Rev
import HandS.SortInts
import HandS.More
import KE.GoesMore
import HandS.Conv
import PyProof.LongRange
import HandS.EndBits
import PyProof.ReprRoads
import PyProof.ReprLen
import HandS.NoneIn
import HandS.Codes
import HandS.SlotsOwn
import HandS.Defaults
import HandS.SetBool
import HandS.Strs
import KE.IntText
import PyProof.StrBlockL
import PyProof.StrBlock2
import HandS.ExcInit
import HandS.ExcOwn
import HandS.ExcIs
import HandS.WordsExc
import PyProof.ExcBaseAll.RuntimeError
import KE.KExcInit
import HandS.ExcField
import PyProof.ExcBaseAll.IndexError
import KE.KExcIs
import HandS.EndOwn
import HandS.NestedK
import KE.DatumOrd
import HandS.DictComp
import HandS.Steps
import HandS.RevRange
import PyProof.ListRange
import HandS.CallSlots
import HandS.TryOnly
import PyProof.EvalArms
import PyProof.InstNe
import OpenK.KMake
import HandS.OwnEq
import PyProof.NeKinds
import OpenK.KOps
import HandS.Set
import HandS.Deep
import HandS.SortKw
import KE.SortKeyHeap
import PyProof.Rows.IntBool
import PyProof.Rows.FloatCmp
import PyProof.Rows.ReprOcc
import PyProof.Rows.RegStrFacts
import HandS.FStr
import HandS.Text
import HandS.HeadHook3
import PyProof.ExcBaseAll.LookupError
import PyProof.ExcBaseAll.ValueError
import HandS.TryMany
import KE.KUnpackStar
import HandS.SuiteRaise
import HandS.ExcInitHot
import PySem.Challenge.RW_askback_k02_houses_made
set_option Elab.async false
set_option linter.all false
set_option autoImplicit false
set_option maxRecDepth 100000
set_option maxHeartbeats 8000000
/-! QD -/
namespace Q
open PySem
inductive D where
  | non | bl (b : Bool) | int (i : Int) | str (x : Str)
  | lst (l : List D) | tup (l : List D) | dic (ks : List (Sum Int Str)) (l : List D)
  | ins (C : Addr) (ns : List Str) (l : List D)
  | pen | ty (n : String) | adr (a : Addr) | scr (ns : List Int)
  | rp (d : D)   -- the text that repr tells of a datum
abbrev Ky := Sum Int Str
inductive Sl where
  | no | val (d : D) | own (d : D)
abbrev En := List Sl
structure Ts where
  cells : List Int
  at' : Int
  left : Int
  tape : Bool
  /-- objects that may change, by their addresses -/
  obs : Addr → Option D
def Ts.dom (t : Ts) (a : Addr) : Prop := ∃ d, t.obs a = some d
def noObs : Addr → Option D := fun _ => none
def Ts.bare (t : Ts) : Ts := ⟨t.cells, t.at', t.left, t.tape, noObs⟩
def Ts.wear (t : Ts) (o : Addr → Option D) : Ts := ⟨t.cells, t.at', t.left, t.tape, o⟩
def Ts.put (t : Ts) (a : Addr) (d : D) : Ts := ⟨t.cells, t.at', t.left, t.tape, fun b => if b = a then some d else t.obs b⟩
theorem Ts.put_same (t : Ts) (a : Addr) (d : D) : (t.put a d).obs a = some d := if_pos rfl
theorem Ts.put_ne (t : Ts) {a b : Addr} (d : D) (h : b ≠ a) : (t.put a d).obs b = t.obs b := if_neg h
abbrev DE := En → Ts → (D → Ts → Prop) → Prop
abbrev DT := En → Ts → (Bool → Ts → Prop) → Prop
abbrev DA := En → Ts → (List D → Ts → Prop) → Prop
abbrev DO := En → Ts → (Option Int → Ts → Prop) → Prop
structure DEnds where
  nx : En → Ts → Prop
  rt : D → En → Ts → Prop
  bk : En → Ts → Prop
  ct : En → Ts → Prop
abbrev DS := DEnds → En → Ts → Prop
abbrev DG := D → En → Ts → (En → Ts → Prop) → Prop
abbrev DGs := List D → En → Ts → (En → Ts → Prop) → Prop
abbrev DOp := D → D → (D → Prop) → Prop
abbrev DU := D → (D → Prop) → Prop
abbrev DB := List D → (D → Prop) → Prop
abbrev PSp := List D → Ts → (D → Ts → Prop) → Prop
def Br (b : Bool) (p q : Prop) : Prop := match b with
  | true => p
  | false => q
theorem Br.mk {b : Bool} {p q : Prop} (h1 : b = true → p) (h2 : b = false → q) : Br b p q := by
  cases b with
  | true => exact h1 rfl
  | false => exact h2 rfl
/- as data, alike (True is 1) -/
def b2i (b : Bool) : Int := if b then 1 else 0
mutual
def deq : D → D → Bool
  | .non, .non => true
  | .bl a, .bl b => a == b
  | .bl a, .int i => b2i a == i
  | .int i, .bl a => i == b2i a
  | .int i, .int j => decide (i = j)
  | .str x, .str y => decide (x = y)
  | .lst a, .lst b => deqs a b
  | .tup a, .tup b => deqs a b
  | _, _ => false
def deqs : List D → List D → Bool
  | [], [] => true
  | x :: a, y :: b => deq x y && deqs a b
  | _, _ => false
end
/- what == is told of here -/
mutual
def plain : D → Bool
  | .non => true | .bl _ => true | .int _ => true | .str x => x.cps.all (· < 0x110000)
  | .lst l => plains l | .tup l => plains l
  | _ => false
def plains : List D → Bool
  | [] => true
  | x :: a => plain x && plains a
end
mutual
def deep : D → Nat
  | .lst l => deeps l + 1 | .tup l => deeps l + 1
  | _ => 0
def deeps : List D → Nat
  | [] => 0
  | x :: a => max (deep x) (deeps a)
end
def Sm (b : Nat) (i : Int) : Prop := i.natAbs < 2 ^ b
def MulOk (i j : Int) : Prop := Sm 64 i ∨ Sm 64 j ∨ (∃ a b, Sm a i ∧ Sm b j ∧ 0 < a ∧ 0 < b ∧ a + b ≤ 1000000)
def DivOk (j : Int) : Prop := 0 < j ∧ Sm 9000 j
def PowOk (i j : Int) : Prop := 0 ≤ j ∧ ∃ a : Nat, Sm a i ∧ (a : Int) * j ≤ 100000000
def zLen : Nat := 16000000
def dVar (i : Nat) : DE := fun env t P => match env[i]? with
  | some (.val d) => P d t
  | _ => False
def dView (i : Nat) : DE := fun env t P => match env[i]? with
  | some (.val d) => P d t
  | some (.own d) => P d t
  | _ => False
def dC (d : D) : DE := fun _ t P => P d t
def dOp (o : DOp) (a b : DE) : DE := fun env t P => a env t fun x t1 => b env t1 fun y t2 => o x y fun z => P z t2
def dUn (o : DU) (a : DE) : DE := fun env t P => a env t fun x t1 => o x fun z => P z t1
def dNil : DA := fun _ t P => P [] t
def dCons (a : DE) (r : DA) : DA := fun env t P => a env t fun x t1 => r env t1 fun xs t2 => P (x :: xs) t2
def dCB (b : DB) (a : DA) : DE := fun env t P => a env t fun xs t1 => b xs fun z => P z t1
def Few (l : List D) (p : Prop) : Prop := match Nat.ble l.length 1000 with
  | true => p
  | false => False
def dTup (a : DA) : DE := fun env t P => a env t fun xs t1 => Few xs (P (.tup xs) t1)
def dLst (a : DA) : DE := fun env t P => a env t fun xs t1 => Few xs (P (.lst xs) t1)
def dCall (sp : PSp) (dvs : List D) (a : DA) : DE := fun env t P => a env t fun xs t1 => sp (xs ++ dvs) t1 P
def dFld (C : Addr) (f : Str) (a : DE) : DE := fun env t P => a env t fun x t1 => match x with
  | .ins C' ns l => C' = C ∧ (match (ns.zip l).lookup f with | some d => P d t1 | none => False)
  | _ => False
def dMeth (C : Addr) (m : Str) (sp : PSp) (dvs : List D) (a : DE) (r : DA) : DE := fun env t P => a env t fun x t1 => match x with
  | .ins C' ns l => C' = C ∧ ns.contains m = false ∧ r env t1 fun xs t2 => sp (.ins C' ns l :: (xs ++ dvs)) t2 P
  | _ => False
def dIfE (c : DT) (a b : DE) : DE := fun env t P => c env t fun k t1 => Br k (a env t1 P) (b env t1 P)
def dChain (o o' : DOp) (a b c : DE) : DE := fun env t P => a env t fun x t1 => b env t1 fun y t2 => o x y fun z => match z with
  | .bl k => Br k (c env t2 fun w t3 => o' y w fun z' => P z' t3) (P (.bl false) t2)
  | _ => False
def dAndV (a b : DE) : DE := fun env t P => a env t fun x t1 => match x with
  | .bl k => Br k (b env t1 P) (P (.bl false) t1)
  | _ => False
def dNotV (a : DE) : DE := fun env t P => a env t fun x t1 => match x with
  | .bl k => P (.bl (!k)) t1
  | _ => False
def dNoPart : DO := fun _ t P => P none t
def dPart (a : DE) : DO := fun env t P => a env t fun x t1 => match x with
  | .int i => P (some i) t1
  | _ => False
def sIx (n d : Nat) : Option Int → Nat
  | none => d
  | some i => if i < 0 then ((n : Int) + i).toNat else min i.toNat n
def cutD (xs : List D) (lo hi : Option Int) : List D := (xs.drop (sIx xs.length 0 lo)).take (sIx xs.length xs.length hi - sIx xs.length 0 lo)
def dSlice (a : DE) (lo hi : DO) : DE := fun env t P => a env t fun x t1 => lo env t1 fun l t2 => hi env t2 fun h t3 => match x with
  | .lst xs => P (.lst (cutD xs l h)) t3
  | .tup xs => (cutD xs l h).length < xs.length ∧ P (.tup (cutD xs l h)) t3
  | .scr ns => P (.lst (cutD (ns.map .int) l h)) t3
  | _ => False
def dB (a : DE) : DT := fun env t P => a env t fun x t1 => match x with
  | .bl b => P b t1
  | _ => False
def dAnd (a b : DT) : DT := fun env t P => a env t fun k t1 => Br k (b env t1 P) (P false t1)
def dOr (a b : DT) : DT := fun env t P => a env t fun k t1 => Br k (P true t1) (b env t1 P)
def dNot (a : DT) : DT := fun env t P => a env t fun k t1 => P (!k) t1
def oAdd : DOp := fun x y P => match x, y with
  | .int i, .int j => P (.int (i + j))
  | .lst a, .lst b => a.length + b.length ≤ zLen ∧ P (.lst (a ++ b))
  | .tup a, .tup b => (a.length + b.length ≤ zLen ∧ a ≠ [] ∧ b ≠ []) ∧ P (.tup (a ++ b))
  | .str a, .str b => a.length + b.length ≤ zLen ∧ P (.str (a ++ b))
  | _, _ => False
def oSub : DOp := fun x y P => match x, y with
  | .int i, .int j => P (.int (i - j))
  | _, _ => False
def rep (n : Nat) (a : List D) : List D := (List.replicate n a).flatten
def oMul : DOp := fun x y P => match x, y with
  | .int i, .int j => MulOk i j ∧ P (.int (i * j))
  | .lst a, .int j => (j < 1000000000 ∧ -1000000000 < j ∧ a.length * j.toNat ≤ zLen) ∧ P (.lst (rep j.toNat a))
  | _, _ => False
def oDiv : DOp := fun x y P => match x, y with
  | .int i, .int j => DivOk j ∧ P (.int (i / j))
  | _, _ => False
def oMod : DOp := fun x y P => match x, y with
  | .int i, .int j => 0 < j ∧ P (.int (i % j))
  | _, _ => False
def oPow : DOp := fun x y P => match x, y with
  | .int i, .int j => PowOk i j ∧ P (.int (i ^ j.toNat))
  | _, _ => False
def oNeg : DU := fun x P => match x with
  | .int i => P (.int (-i))
  | _ => False
def oLt : DOp := fun x y P => match x, y with
  | .int i, .int j => P (.bl (decide (i < j)))
  | _, _ => False
def oLe : DOp := fun x y P => match x, y with
  | .int i, .int j => P (.bl (decide (i ≤ j)))
  | _, _ => False
def oGt : DOp := fun x y P => match x, y with
  | .int i, .int j => P (.bl (decide (j < i)))
  | _, _ => False
def oGe : DOp := fun x y P => match x, y with
  | .int i, .int j => P (.bl (decide (j ≤ i)))
  | _, _ => False
def oEq : DOp := fun x y P => match x, y with
  | .int i, .int j => P (.bl (decide (i = j)))
  | x, y => (plain x = true ∧ plain y = true ∧ deep x ≤ 60 ∧ deep y ≤ 60) ∧ P (.bl (deq x y))
def oNe : DOp := fun x y P => match x, y with
  | .int i, .int j => P (.bl (!decide (i = j)))
  | x, y => (plain x = true ∧ plain y = true ∧ deep x ≤ 60 ∧ deep y ≤ 60) ∧ P (.bl (!deq x y))
def atI (xs : List D) (i : Int) : Option D := if 0 ≤ i then (if i < xs.length then xs[i.toNat]? else none) else if -(xs.length : Int) ≤ i then xs[(i + xs.length).toNat]? else none
def oIx : DOp := fun x y P => match x, y with
  | .lst xs, .int i => ∃ d, atI xs i = some d ∧ P d
  | .tup xs, .int i => ∃ d, atI xs i = some d ∧ P d
  | _, _ => False
def bLen : DB := fun xs P => match xs with
  | [.lst l] => P (.int l.length)
  | [.tup l] => P (.int l.length)
  | [.scr l] => P (.int l.length)
  | [.str z] => z.length ≤ zLen ∧ P (.int z.length)
  | _ => False
def bAbs : DB := fun xs P => match xs with
  | [.int i] => P (.int (if i < 0 then -i else i))
  | _ => False
def intsD : List D → Option (List Int)
  | [] => some []
  | .int i :: r => (intsD r).map (i :: ·)
  | _ => none
def bMin : DB := fun xs P => match xs with
  | [.int i, .int j] => P (.int (if j < i then j else i))
  | [.lst l] => ∃ ns, intsD l = some ns ∧ 0 < ns.length ∧ ∀ m, m ∈ ns → (∀ y, y ∈ ns → m ≤ y) → P (.int m)
  | _ => False
def bSum : DB := fun xs P => match xs with
  | [.lst l] => ∃ ns, intsD l = some ns ∧ P (.int ns.sum)
  | _ => False
def bls : List D → Option (List Bool)
  | [] => some []
  | .bl i :: r => (bls r).map (i :: ·)
  | _ => none
def bAll : DB := fun xs P => match xs with
  | [.lst l] => ∃ bs, bls l = some bs ∧ P (.bl (bs.all id))
  | _ => False
def bList : DB := fun xs P => match xs with
  | [.lst l] => P (.lst l)
  | [.tup l] => P (.lst l)
  | _ => False
def bTuple : DB := fun xs P => match xs with
  | [.lst l] => P (.tup l)
  | [.tup l] => P (.tup l)
  | _ => False
def dNext : DS := fun DD env t => DD.nx env t
def dSeq (a b : DS) : DS := fun DD env t => a ⟨b DD, DD.rt, DD.bk, DD.ct⟩ env t
def gName (i : Nat) : DG := fun d env t P => P (env.set i (.val d)) t
def dAsg (a : DE) (g : DG) : DS := fun DD env t => a env t fun x t1 => g x env t1 DD.nx
def dAsgN (i : Nat) (a : DE) : DS := fun DD env t => a env t fun x t1 => DD.nx (env.set i (.own x)) t1
def dFrz (i : Nat) : DS := fun DD env t => match env[i]? with
  | some (.own d) => DD.nx (env.set i (.val d)) t
  | _ => DD.nx env t
def dIf (c : DT) (a b : DS) : DS := fun DD env t => c env t fun k t1 => Br k (a DD env t1) (b DD env t1)
def dRet (a : DE) : DS := fun DD env t => a env t fun x t1 => DD.rt x env t1
def dApp (i : Nat) (a : DE) : DS := fun DD env t => match env[i]? with
  | some (.own (.lst l)) => a env t fun y t1 => l.length < zLen ∧ DD.nx (env.set i (.own (.lst (l ++ [y])))) t1
  | _ => False
def ixN (n : Nat) (i : Int) : Option Nat := if 0 ≤ i then (if i < n then some i.toNat else none) else if -(n : Int) ≤ i then some (i + n).toNat else none
def dSet (i : Nat) (k : DE) (a : DE) : DS := fun DD env t => a env t fun y t1 => match env[i]? with
  | some (.own (.lst l)) => k env t1 fun z t2 => (match z with
    | .int m => ∃ j, ixN l.length m = some j ∧ DD.nx (env.set i (.own (.lst (l.set j y)))) t2
    | _ => False)
  | _ => False
def dDispL : List (Str × DE) → DA
  | [] => fun _ t P => P [] t
  | (_, a) :: r => fun env t P => a env t fun x t1 => dDispL r env t1 fun xs t2 => P (x :: xs) t2
def dDisp (l : List (Str × DE)) : DE := fun env t P => dDispL l env t fun xs t1 => P (.dic (l.map fun p => .inr p.1) xs) t1
def dPenC (a : DE) : DE := fun env t P => a env t fun x t1 => match x with
  | .pen => P (.lst (t1.cells.map .int)) t1
  | _ => False
def dPenA (b : Bool) (a : DE) : DE := fun env t P => a env t fun x t1 => match x with
  | .pen => t1.tape = b ∧ P (.int t1.at') t1
  | _ => False
def dPenL (b : Bool) (a : DE) : DE := fun env t P => a env t fun x t1 => match x with
  | .pen => t1.tape = b ∧ P (.int t1.left) t1
  | _ => False
def dPutA (b : Bool) (i : Nat) (a : DE) : DS := fun DD env t => a env t fun y t1 => match y with
  | .int n => (match env[i]? with
    | some (.val .pen) => t1.tape = b ∧ DD.nx env ⟨t1.cells, n, t1.left, t1.tape, t1.obs⟩
    | _ => False)
  | _ => False
def dPutL (b : Bool) (i : Nat) (a : DE) : DS := fun DD env t => a env t fun y t1 => match y with
  | .int n => (match env[i]? with
    | some (.val .pen) => t1.tape = b ∧ DD.nx env ⟨t1.cells, t1.at', n, t1.tape, t1.obs⟩
    | _ => False)
  | _ => False
abbrev DI := En → Ts → (List D → Ts → Prop) → Prop
def rng (lo : Int) (n : Nat) : List D := (List.range n).map fun (i : Nat) => D.int (lo + i)
def iRng1 (a : DE) : DI := fun env t P => a env t fun x t1 => match x with
  | .int n => (-1000000000000 < n ∧ n < 1000000000000) ∧ P (rng 0 n.toNat) t1
  | _ => False
def dFor (di : DI) (g : DG) (b : DS) : DS := fun DD env t => di env t fun xs t1 => ∃ Inv : Nat → En → Ts → Prop, Inv 0 env t1 ∧
  (∀ i x e m, xs[i]? = some x → Inv i e m → g x e m fun e' m' => b ⟨Inv (i + 1), DD.rt, DD.nx, Inv (i + 1)⟩ e' m') ∧ ∀ e m, Inv xs.length e m → DD.nx e m
def wipeE (env : En) : List Nat → En
  | [] => env
  | i :: r => (wipeE env r).set i .no
def dLc (vs : List Nat) (di : DI) (g : DG) (c : DT) (a : DE) : DE := fun env t P => di env t fun xs t1 => ∃ Inv : Nat → List D → Ts → Prop, Inv 0 [] t1 ∧
  (∀ i x acc m, xs[i]? = some x → Inv i acc m → g x (wipeE env vs) m fun e' m' => wipeE e' vs = wipeE env vs ∧ c e' m' fun k m1 => Br k (a e' m1 fun y m2 => acc.length < zLen ∧ Inv (i + 1) (acc ++ [y]) m2) (Inv (i + 1) acc m1)) ∧
  ∀ acc m, Inv xs.length acc m → P (.lst acc) m
def dYes : DT := fun _ t P => P true t
def start0 (N : List Str) (ds : List D) : En := ds.map Sl.val ++ List.replicate (N.length - ds.length) Sl.no
def endsOf (P : D → Ts → Prop) : DEnds := ⟨fun _ t => P .non t, fun d _ t => P d t, fun _ _ => False, fun _ _ => False⟩
def endsN (P : D → Ts → Prop) : DEnds := ⟨fun _ _ => False, fun d _ t => match d with | .non => False | d => P d t, fun _ _ => False, fun _ _ => False⟩
theorem rng_len (lo : Int) (n : Nat) : (rng lo n).length = n := by simp [rng]
theorem rng_get {lo : Int} {n i : Nat} {d : D} (h : (rng lo n)[i]? = some d) : i < n ∧ d = .int (lo + i) := by
  unfold rng at h
  rw [List.getElem?_map] at h
  cases q : (List.range n)[i]? with
  | none => rw [q] at h; cases h
  | some j =>
    rw [q] at h
    obtain ⟨h1, h2⟩ := List.getElem?_eq_some_iff.mp q
    simp at h1 h2
    cases h
    exact ⟨h1, by rw [← h2]⟩
structure Cl where
  House : Addr
  Lore : Addr
  Desk : Addr
  Beside : Addr
  Solver : Addr
inductive Tn where
  | non | bl | int | str | lst | tup | dic
def tn : D → Option Tn
  | .non => some .non
  | .bl _ => some .bl
  | .int _ => some .int
  | .str _ => some .str
  | .lst _ => some .lst
  | .tup _ => some .tup
  | .dic _ _ => some .dic
  | _ => none
def isa : Tn → Tn → Bool
  | .non, .non => true
  | .bl, .bl => true
  | .bl, .int => true
  | .int, .int => true
  | .str, .str => true
  | .lst, .lst => true
  | .tup, .tup => true
  | .dic, .dic => true
  | _, _ => false
def Tn.name : Tn → String
  | .non => "NoneType"
  | .bl => "bool"
  | .int => "int"
  | .str => "str"
  | .lst => "list"
  | .tup => "tuple"
  | .dic => "dict"
def dIsi (cs : List Tn) (a : DE) : DE := fun env t P => a env t fun x t1 => match tn x with
  | some n => P (.bl (cs.any (isa n))) t1
  | none => False
abbrev IK := List Str → List D → En → Ts → Prop
abbrev IS := IK → List Str → List D → En → Ts → Prop
def iThen (a b : IS) : IS := fun k => a (b k)
def iSet (f : Str) (a : DE) : IS := fun k ns l env t => a env t fun y t1 => (ns.contains f = false ∧ ns.length < 900) ∧ k (ns ++ [f]) (l ++ [y]) env t1
def startI (x : Addr) (N : List Str) (ds : List D) : En := .val (.adr x) :: start0 N ds
mutual
def nopen : D → Bool
  | .pen => false
  | .lst l => nopens l
  | .tup l => nopens l
  | .dic _ l => nopens l
  | .ins _ _ l => nopens l
  | _ => true
def nopens : List D → Bool
  | [] => true
  | d :: l => nopen d && nopens l
end
def sumsOf : Int → List Int → List Int
  | _, [] => []
  | s, b :: r => (s + b - 1) :: sumsOf (s + b - 1) r
def SumsE (C : Addr) (j : Nat) (de : DE) : Prop := ∀ (env : En) (t : Ts) (P : D → Ts → Prop) (ns : List Str) (l : List D) (cur : List Int) (m : Int), env[0]? = some (.val (.ins C ns l)) → (ns.zip l).lookup ("sums" : Str) = some (.lst (cur.map .int)) → env[j]? = some (.val (.int m)) →
  P (.int (m - 1 + cur.getLastD 0)) t → de env t P
def iSeq (a : DE) : DI := fun env t P => a env t fun x t1 => match x with
  | .lst l => P l t1
  | .tup l => P l t1
  | .scr ns => P (ns.map .int) t1
  | _ => False
def pick {α : Type} (ix : List Nat) (l : List α) : List α := ix.filterMap fun i => l[i]?
def mSl (b : Bool) (d : D) : Sl := match b with
  | true => .own d
  | false => .val d
def setM : List (Nat × Bool) → En → List D → En
  | (i, b) :: r, env, d :: ds => setM r (env.set i (mSl b d)) ds
  | _, env, _ => env
def dParM (l : List (Nat × Bool)) (a : DA) : DS := fun DD env t => a env t fun xs t1 => match Nat.beq xs.length l.length with
  | true => DD.nx (setM l env xs) t1
  | false => False
end Q
/-! QH1 -/
namespace Q
open PySem L2 PyProof.Rows
mutual
def toPy : D → PyData
  | .bl b => .bool b | .int i => .int i | .str x => .str x
  | .lst l => .list (toPys l) | .tup l => .tuple (toPys l)
  | _ => .none
def toPys : List D → List PyData
  | [] => []
  | d :: l => toPy d :: toPys l
end
mutual
def RelD (K : PySem.W.Frag) (F : Hp) (pa : Option Addr) : D → V → Prop
  | .non, v => v = .non
  | .bl b, v => v = .bl b
  | .int i, v => v = .int i
  | .str x, v => v = .str x
  | .ty n, v => v = .ty n
  | .adr a, v => v = .ref a
  | .rp d, v => v = .str (toPy d).shown
  | .pen, v => ∃ a, pa = some a ∧ v = .ref a
  | .scr ns, v => ∃ a, v = .ref a ∧ SqL K F a (ns.map V.int)
  | .lst l, v => ∃ a vs, v = .ref a ∧ F a = some (.lst vs) ∧ RelL K F pa l vs
  | .tup l, v => ∃ a vs, v = .ref a ∧ F a = some (.tup vs) ∧ RelL K F pa l vs
  | .dic ks l, v => ∃ a vs, v = .ref a ∧ F a = some (.dK (ks.zip vs)) ∧ ks.length = vs.length ∧ RelL K F pa l vs
  | .ins C ns l, v => ∃ a dx vs, v = .ref a ∧ F a = some (.ins C dx (ns.zip vs)) ∧ ns.length = vs.length ∧ RelL K F pa l vs
def RelL (K : PySem.W.Frag) (F : Hp) (pa : Option Addr) : List D → List V → Prop
  | [], vs => vs = []
  | d :: ds, vs => ∃ v vr, vs = v :: vr ∧ RelD K F pa d v ∧ RelL K F pa ds vr
end
def RelO1 (K : PySem.W.Frag) (F : Hp) (pa : Option Addr) : D → HO → Prop
  | .lst l, h => ∃ vs, h = .lst vs ∧ RelL K F pa l vs
  | .dic ks l, h => ∃ vs, h = .dK (ks.zip vs) ∧ ks.length = vs.length ∧ RelL K F pa l vs
  | .ins C ns l, h => ∃ dx vs, h = .ins C dx (ns.zip vs) ∧ ns.length = vs.length ∧ RelL K F pa l vs
  | _, _ => False
def Gf (F F' : Hp) : Prop := ∀ a o, F a = some o → F' a = some o
def Gp (pa pa' : Option Addr) : Prop := pa' = pa
structure Gr (F : Hp) (pa : Option Addr) (F' : Hp) (pa' : Option Addr) : Prop where
  f : Gf F F'
  p : Gp pa pa'
theorem Gr.refl (F : Hp) (pa : Option Addr) : Gr F pa F pa := ⟨fun _ _ h => h, rfl⟩
theorem Gr.trans {F F1 F2 : Hp} {p p1 p2 : Option Addr} (a : Gr F p F1 p1) (b : Gr F1 p1 F2 p2) : Gr F p F2 p2 := ⟨fun x o h => b.f x o (a.f x o h), Eq.trans b.p a.p⟩
section
variable {K : PySem.W.Frag} {F F' : Hp} {pa pa' : Option Addr}
theorem sq_mono {a : Addr} {xs : List V} (g : Gf F F') (h : SqL K F a xs) : SqL K F' a xs := by
  rcases h with (h | ⟨o, h⟩) | h
  · exact .inl (.inl (g _ _ h))
  · exact .inl (.inr ⟨o, g _ _ h⟩)
  · exact .inr h
mutual
theorem RelD.mono (g : Gr F pa F' pa') : ∀ (d : D) (v : V), RelD K F pa d v → RelD K F' pa' d v
  | .non, v, h => by unfold RelD at h ⊢; exact h
  | .bl b, v, h => by unfold RelD at h ⊢; exact h
  | .int i, v, h => by unfold RelD at h ⊢; exact h
  | .str x, v, h => by unfold RelD at h ⊢; exact h
  | .ty n, v, h => by unfold RelD at h ⊢; exact h
  | .adr a, v, h => by unfold RelD at h ⊢; exact h
  | .rp d, v, h => by unfold RelD at h ⊢; exact h
  | .pen, v, h => by
    unfold RelD at h ⊢
    obtain ⟨a, e, r⟩ := h
    exact ⟨a, (show pa' = pa from g.p).trans e, r⟩
  | .scr ns, v, h => by
    unfold RelD at h ⊢
    obtain ⟨a, e, r⟩ := h
    exact ⟨a, e, sq_mono g.f r⟩
  | .lst l, v, h => by
    unfold RelD at h ⊢
    obtain ⟨a, vs, e, r, q⟩ := h
    exact ⟨a, vs, e, g.f _ _ r, RelL.mono g l vs q⟩
  | .tup l, v, h => by
    unfold RelD at h ⊢
    obtain ⟨a, vs, e, r, q⟩ := h
    exact ⟨a, vs, e, g.f _ _ r, RelL.mono g l vs q⟩
  | .dic ks l, v, h => by
    unfold RelD at h ⊢
    obtain ⟨a, vs, e, r, z, q⟩ := h
    exact ⟨a, vs, e, g.f _ _ r, z, RelL.mono g l vs q⟩
  | .ins C ns l, v, h => by
    unfold RelD at h ⊢
    obtain ⟨a, dx, vs, e, r, z, q⟩ := h
    exact ⟨a, dx, vs, e, g.f _ _ r, z, RelL.mono g l vs q⟩
theorem RelL.mono (g : Gr F pa F' pa') : ∀ (l : List D) (vs : List V), RelL K F pa l vs → RelL K F' pa' l vs
  | [], vs, h => by unfold RelL at h ⊢; exact h
  | d :: ds, vs, h => by
    unfold RelL at h ⊢
    obtain ⟨v, vr, e, r, q⟩ := h
    exact ⟨v, vr, e, RelD.mono g d v r, RelL.mono g ds vr q⟩
end
theorem RelO1.mono (g : Gr F pa F' pa') : ∀ (d : D) (h : HO), RelO1 K F pa d h → RelO1 K F' pa' d h
  | .lst l, h, r => by
    obtain ⟨vs, e, q⟩ := r
    exact ⟨vs, e, RelL.mono g l vs q⟩
  | .dic ks l, h, r => by
    obtain ⟨vs, e, z, q⟩ := r
    exact ⟨vs, e, z, RelL.mono g l vs q⟩
  | .ins C ns l, h, r => by
    obtain ⟨dx, vs, e, z, q⟩ := r
    exact ⟨dx, vs, e, z, RelL.mono g l vs q⟩
  | .non, _, r => r.elim
  | .bl _, _, r => r.elim
  | .int _, _, r => r.elim
  | .str _, _, r => r.elim
  | .tup _, _, r => r.elim
  | .pen, _, r => r.elim
  | .ty _, _, r => r.elim
  | .adr _, _, r => r.elim
  | .scr _, _, r => r.elim
  | .rp _, _, r => r.elim
end
section
variable {K : PySem.W.Frag} {F : Hp} {pa : Option Addr}
theorem RelL.nil : RelL K F pa [] [] := by unfold RelL; rfl
theorem RelL.cons {d : D} {v : V} {ds : List D} {vs : List V} (h : RelD K F pa d v) (r : RelL K F pa ds vs) : RelL K F pa (d :: ds) (v :: vs) := by
  unfold RelL; exact ⟨v, vs, rfl, h, r⟩
theorem RelL.inv {d : D} {ds : List D} {vs : List V} (h : RelL K F pa (d :: ds) vs) : ∃ v vr, vs = v :: vr ∧ RelD K F pa d v ∧ RelL K F pa ds vr := by unfold RelL at h; exact h
theorem RelL.inv0 {vs : List V} (h : RelL K F pa [] vs) : vs = [] := by unfold RelL at h; exact h
theorem RelL.len : ∀ {ds : List D} {vs : List V}, RelL K F pa ds vs → vs.length = ds.length
  | [], vs, h => by rw [h.inv0]; rfl
  | d :: ds, vs, h => by
    obtain ⟨v, vr, rfl, _, q⟩ := h.inv
    simp [RelL.len q]
theorem RelL.get : ∀ {ds : List D} {vs : List V} {i : Nat} {d : D}, RelL K F pa ds vs → ds[i]? = some d → ∃ v, vs[i]? = some v ∧ RelD K F pa d v
  | [], _, _, _, _, e => by simp at e
  | x :: ds, vs, 0, d, h, e => by
    obtain ⟨v, vr, rfl, r, _⟩ := h.inv
    simp at e; subst e
    exact ⟨v, rfl, r⟩
  | x :: ds, vs, i + 1, d, h, e => by
    obtain ⟨v, vr, rfl, _, q⟩ := h.inv
    simp at e
    obtain ⟨u, h1, h2⟩ := RelL.get q e
    exact ⟨u, by simpa using h1, h2⟩
theorem RelL.append : ∀ {a b : List D} {u v : List V}, RelL K F pa a u → RelL K F pa b v → RelL K F pa (a ++ b) (u ++ v)
  | [], b, u, v, h, r => by rw [h.inv0]; exact r
  | d :: a, b, u, v, h, r => by
    obtain ⟨x, ur, rfl, h1, q⟩ := h.inv
    exact RelL.cons h1 (RelL.append q r)
theorem RelL.take : ∀ {a : List D} {u : List V} (n : Nat), RelL K F pa a u → RelL K F pa (a.take n) (u.take n)
  | _, _, 0, h => by simpa using RelL.nil
  | [], _, n + 1, h => by rw [h.inv0]; simpa using RelL.nil
  | d :: a, u, n + 1, h => by
    obtain ⟨x, ur, rfl, h1, q⟩ := h.inv
    simpa using RelL.cons h1 (RelL.take n q)
theorem RelL.drop : ∀ {a : List D} {u : List V} (n : Nat), RelL K F pa a u → RelL K F pa (a.drop n) (u.drop n)
  | _, _, 0, h => by simpa using h
  | [], _, n + 1, h => by rw [h.inv0]; simpa using RelL.nil
  | d :: a, u, n + 1, h => by
    obtain ⟨x, ur, rfl, h1, q⟩ := h.inv
    simpa using RelL.drop n q
theorem RelL.set : ∀ {a : List D} {u : List V} (j : Nat) {d : D} {v : V}, RelL K F pa a u → RelD K F pa d v → RelL K F pa (a.set j d) (u.set j v)
  | [], u, j, d, v, h, r => by rw [h.inv0]; simpa using RelL.nil
  | x :: a, u, 0, d, v, h, r => by
    obtain ⟨y, ur, rfl, h1, q⟩ := h.inv
    simpa using RelL.cons r q
  | x :: a, u, j + 1, d, v, h, r => by
    obtain ⟨y, ur, rfl, h1, q⟩ := h.inv
    simpa using RelL.cons h1 (RelL.set j q r)
theorem RelL.rep {a : List D} {u : List V} (h : RelL K F pa a u) : ∀ n : Nat, RelL K F pa (rep n a) (List.replicate n u).flatten
  | 0 => by simpa [Q.rep] using RelL.nil
  | n + 1 => by
    have := RelL.append h (RelL.rep h n)
    simpa [Q.rep, List.replicate_succ] using this
theorem RelL.intsD : ∀ {l : List D} {vs : List V} {ns : List Int}, RelL K F pa l vs → Q.intsD l = some ns → vs = ns.map V.int
  | [], vs, ns, h, e => by
    rw [h.inv0]
    simp [Q.intsD] at e; subst e; rfl
  | d :: l, vs, ns, h, e => by
    obtain ⟨x, ur, rfl, h1, q⟩ := h.inv
    cases d with
    | int i =>
      unfold RelD at h1
      subst h1
      unfold Q.intsD at e
      cases e2 : Q.intsD l with
      | none => rw [e2] at e; simp at e
      | some ms =>
        rw [e2] at e
        simp at e; subst e
        rw [RelL.intsD q e2]; rfl
    | _ => simp [Q.intsD] at e
theorem RelL.bls : ∀ {l : List D} {vs : List V} {ns : List Bool}, RelL K F pa l vs → Q.bls l = some ns → vs = ns.map V.bl
  | [], vs, ns, h, e => by
    rw [h.inv0]
    simp [Q.bls] at e; subst e; rfl
  | d :: l, vs, ns, h, e => by
    obtain ⟨x, ur, rfl, h1, q⟩ := h.inv
    cases d with
    | bl i =>
      unfold RelD at h1
      subst h1
      unfold Q.bls at e
      cases e2 : Q.bls l with
      | none => rw [e2] at e; simp at e
      | some ms =>
        rw [e2] at e
        simp at e; subst e
        rw [RelL.bls q e2]; rfl
    | _ => simp [Q.bls] at e
theorem RelL.of_ints : ∀ (ns : List Int), RelL K F pa (ns.map D.int) (ns.map V.int)
  | [] => RelL.nil
  | n :: ns => RelL.cons (by unfold RelD; rfl) (RelL.of_ints ns)
end
structure Bs where
  F : Hp
  H : Hp
  ex : List Addr
  pn : Option Addr
  /-- what is told back: a datum, or a new object -/
  m : Bool
  /-- tables of code objects that may grow, with the code objects' name -/
  T : List (Addr × Str)
  /-- objects that may change -/
  O : Addr → Prop
def Bs.Top (B : Bs) : Prop := ∀ a ∈ B.ex, B.pn = some a ∨ ∃ p ∈ B.T, p.1 = a
def TabF (T : List (Addr × Str)) (BH F H : Hp) : Prop := ∀ p ∈ T, BH p.1 ≠ none ∧ F p.1 = none ∧ ∃ ps : Array Value, H p.1 = some (.tbl ps) ∧ TriplesOk ps.toList ∧ ∀ (pos : Pos) (cv : Value), codeAmong pos ps.toList = some cv → ∃ c, cv = .ref c ∧ F c = some (LamX.CodeO c p.2)
theorem TabF.nil {BH F H : Hp} : TabF [] BH F H := fun p hp => by cases hp
theorem TabF.keep {T : List (Addr × Str)} {BH F H F' H' : Hp} (t : TabF T BH F H) (g : ∀ a o, F a = some o → F' a = some o) (hF : ∀ p ∈ T, ∀ ps, H p.1 = some (.tbl ps) → F' p.1 = none) (hH : ∀ p ∈ T, ∀ ps, H p.1 = some (.tbl ps) → H' p.1 = some (.tbl ps)) : TabF T BH F' H' := fun p hp => by
  obtain ⟨h1, h2, ps, h3, h4, h5⟩ := t p hp
  refine ⟨h1, hF p hp ps h3, ps, hH p hp ps h3, h4, fun pos cv hc => ?_⟩
  obtain ⟨c, e, q⟩ := h5 pos cv hc
  exact ⟨c, e, g _ _ q⟩
theorem TabF.hs {T : List (Addr × Str)} {BH F H H' : Hp} (t : TabF T BH F H) (hH : ∀ p ∈ T, ∀ ps, H p.1 = some (.tbl ps) → H' p.1 = some (.tbl ps)) : TabF T BH F H' := t.keep (fun _ _ h => h) (fun p hp _ _ => (t p hp).2.1) hH
theorem RelO1.ntb {K : PySem.W.Frag} {F : Hp} {pa : Option Addr} : ∀ {d : D} {h : HO}, RelO1 K F pa d h → ∀ ps, h ≠ .tbl ps := fun {d h} r ps e => by
  subst e
  cases d with
  | lst l => obtain ⟨_, z, _⟩ := r; cases z
  | dic ks l => obtain ⟨_, z, _⟩ := r; cases z
  | ins C ns l => obtain ⟨_, _, z, _⟩ := r; cases z
  | _ => exact r.elim
def penRows (t : Ts) (ca : Addr) : List (L2.Key × V) := match t.tape with
  | false => [(.inr "cells", .ref ca), (.inr "at", .int t.at'), (.inr "left", .int t.left)]
  | true => [(.inr "cells", .ref ca), (.inr "turn", .int t.at'), (.inr "rest", .int t.left)]
def PenOk (F : Hp) (t : Ts) (h : HO) : Prop := ∃ ca : Addr, h = .dK (penRows t ca) ∧ F ca = some (.lst (t.cells.map V.int))
theorem PenOk.mono {F F' : Hp} {t : Ts} {h : HO} (g : Gf F F') (p : PenOk F t h) : PenOk F' t h := by
  obtain ⟨ca, e, q⟩ := p
  exact ⟨ca, e, g _ _ q⟩
structure Cf (K : PySem.W.Frag) (B : Bs) (F : Hp) (pa : Option Addr) (t : Ts) (env : En) (σ : L2.St) (H : Hp) : Prop where
  len : env.length = σ.length
  sub : ∀ a o, F a = some o → H a = some o
  bas : ∀ a o, B.F a = some o → F a = some o
  frm : ∀ a o, B.H a = some o → a ∉ B.ex → ¬ B.O a → H a = some o
  new : ∀ a o, F a = some o → (∃ o', B.F a = some o') ∨ B.H a = none
  exl : ∀ a ∈ B.ex, ∃ o, H a = some o
  val : ∀ (i : Nat) (d : D), env[i]? = some (Sl.val d) → ∃ v : V, σ[i]? = some (some v) ∧ RelD K F pa d v
  own : ∀ (i : Nat) (d : D), env[i]? = some (Sl.own d) → ∃ (a : Addr) (h : HO), σ[i]? = some (some (V.ref a)) ∧ H a = some h ∧ RelO1 K F pa d h ∧ F a = none ∧ pa ≠ some a ∧ (a ∈ B.ex ∨ B.H a = none)
  sep : ∀ (i j : Nat) (d e : D) (a : Addr), env[i]? = some (Sl.own d) → env[j]? = some (Sl.own e) → σ[i]? = some (some (V.ref a)) → σ[j]? = some (some (V.ref a)) → i = j
  pen : ∀ a, pa = some a → F a = none ∧ (∃ h, H a = some h ∧ PenOk F t h) ∧ (a ∈ B.ex ∨ B.H a = none)
  pnn : Gp B.pn pa
  tab : TabF B.T B.H F H
  ntb : ∀ a ps, F a ≠ some (.tbl ps)
  obs : ∀ a d, t.obs a = some d → F a = none ∧ (∃ h, H a = some h ∧ RelO1 K F pa d h) ∧ pa ≠ some a ∧ (B.O a ∨ B.H a = none) ∧ nopen d = true
  obx : ∀ a, B.O a → ∃ d, t.obs a = some d
  osp : ∀ (i : Nat) (d : D) (a : Addr), env[i]? = some (Sl.own d) → σ[i]? = some (some (V.ref a)) → t.obs a = none
section
variable {K : PySem.W.Frag} {B : Bs} {F : Hp} {pa : Option Addr} {t : Ts} {env : En} {σ : L2.St} {H : Hp}
theorem Cf.fresh (C : Cf K B F pa t env σ H) {p : Addr} (h : H p = none) : F p = none ∧ B.H p = none ∧ p ∉ B.ex := by
  refine ⟨?_, ?_, ?_⟩
  · cases e : F p with
    | none => rfl
    | some o => rw [C.sub p o e] at h; cases h
  · cases e : B.H p with
    | none => rfl
    | some o =>
      by_cases hp : p ∈ B.ex
      · obtain ⟨o', q⟩ := C.exl p hp
        rw [q] at h; cases h
      · rw [C.frm p o e hp fun z => by
          obtain ⟨d, q⟩ := C.obx p z
          obtain ⟨_, ⟨u, q2, _⟩, _⟩ := C.obs p d q
          rw [h] at q2; cases q2] at h
        cases h
  · intro hp
    obtain ⟨o', q⟩ := C.exl p hp
    rw [q] at h; cases h
theorem Gf.upd {F : Hp} {p : Addr} {o : HO} (h : F p = none) : Gf F (upd F p o) := fun a u e => by
  rw [upd_ne (ne_of_none e h)]; exact e
theorem Cf.alloc (C : Cf K B F pa t env σ H) {p : Addr} (o : HO) (h : H p = none) (hno : ∀ ps, o ≠ .tbl ps := by intro ps z; cases z) : Gr F pa (upd F p o) pa ∧ Cf K B (upd F p o) pa t env σ (upd H p o) := by
  obtain ⟨hF, hB, hex⟩ := C.fresh h
  have g : Gr F pa (upd F p o) pa := ⟨Gf.upd hF, rfl⟩
  have ne : ∀ {a : Addr} {u : HO}, H a = some u → a ≠ p := fun e => ne_of_none e h
  refine ⟨g, ⟨C.len, fun a u e => ?_, fun a u e => g.f _ _ (C.bas a u e), fun a u e hx ho => ?_, fun a u e => ?_, fun a ha => ?_, fun i d e => ?_, fun i d e => ?_, C.sep, fun a e => ?_, C.pnn, C.tab.keep g.f (fun q hq ps e => by rw [upd_ne (ne e)]; exact (C.tab q hq).2.1) (fun q hq ps e => by rw [upd_ne (ne e)]; exact e), fun a ps e => by
    by_cases ha : a = p
    · subst ha; rw [upd_same] at e; exact hno ps (Option.some.inj e)
    · rw [upd_ne ha] at e; exact C.ntb a ps e, fun a d e => by
    obtain ⟨h1, ⟨u, h2, h3⟩, h4⟩ := C.obs a d e
    exact ⟨by rw [upd_ne (ne h2)]; exact h1, ⟨u, by rw [upd_ne (ne h2)]; exact h2, RelO1.mono g d u h3⟩, h4⟩, C.obx, C.osp⟩⟩
  · by_cases ha : a = p
    · subst ha; rw [upd_same] at e ⊢; exact e
    · rw [upd_ne ha] at e ⊢; exact C.sub a u e
  · have := C.frm a u e hx ho
    rw [upd_ne (ne this)]; exact this
  · by_cases ha : a = p
    · subst ha; exact .inr hB
    · rw [upd_ne ha] at e; exact C.new a u e
  · obtain ⟨u, q⟩ := C.exl a ha
    exact ⟨u, by rw [upd_ne (ne q)]; exact q⟩
  · obtain ⟨v, h1, h2⟩ := C.val i d e
    exact ⟨v, h1, RelD.mono g d v h2⟩
  · obtain ⟨a, u, h1, h2, h3, h4, h5, h6⟩ := C.own i d e
    exact ⟨a, u, h1, by rw [upd_ne (ne h2)]; exact h2, RelO1.mono g d u h3, by rw [upd_ne (ne h2)]; exact h4, h5, h6⟩
  · obtain ⟨h1, ⟨u, h2, h3⟩, h4⟩ := C.pen a e
    exact ⟨by rw [upd_ne (ne h2)]; exact h1, ⟨u, by rw [upd_ne (ne h2)]; exact h2, h3.mono g.f⟩, h4⟩
theorem Cf.loose (C : Cf K B F pa t env σ H) {p : Addr} (o : HO) (h : H p = none) : Cf K B F pa t env σ (upd H p o) := by
  have ne : ∀ {a : Addr} {u : HO}, H a = some u → a ≠ p := fun e => ne_of_none e h
  have kp : ∀ a u, H a = some u → upd H p o a = some u := fun a u e => by rw [upd_ne (ne e)]; exact e
  refine ⟨C.len, fun a u e => kp _ _ (C.sub a u e), C.bas, fun a u e hx ho => kp _ _ (C.frm a u e hx ho), C.new, fun a ha => ?_, C.val, fun i d e => ?_, C.sep, fun a e => ?_, C.pnn, C.tab.hs (fun q _ ps e => kp _ _ e), C.ntb, fun a d e => by
    obtain ⟨h1, ⟨u, h2, h3⟩, h4⟩ := C.obs a d e
    exact ⟨h1, ⟨u, kp _ _ h2, h3⟩, h4⟩, C.obx, C.osp⟩
  · obtain ⟨u, q⟩ := C.exl a ha
    exact ⟨u, kp _ _ q⟩
  · obtain ⟨a, u, h1, h2, h3⟩ := C.own i d e
    exact ⟨a, u, h1, kp _ _ h2, h3⟩
  · obtain ⟨h1, ⟨u, h2, h3⟩, h4⟩ := C.pen a e
    exact ⟨h1, ⟨u, kp _ _ h2, h3⟩, h4⟩
structure Nw (B : Bs) (F : Hp) (pa : Option Addr) (t : Ts) (env : En) (σ : L2.St) (p : Addr) : Prop where
  f : F p = none
  b : B.H p = none
  a : pa ≠ some p
  s : ∀ (j : Nat) (e : D), env[j]? = some (Sl.own e) → σ[j]? ≠ some (some (V.ref p))
  o : t.obs p = none
theorem Cf.noob (C : Cf K B F pa t env σ H) {p : Addr} (h : H p = none) : t.obs p = none := by
  cases q : t.obs p with
  | none => rfl
  | some d =>
    obtain ⟨_, ⟨u, q2, _⟩, _⟩ := C.obs p d q
    rw [h] at q2; cases q2
theorem Cf.nw (C : Cf K B F pa t env σ H) {p : Addr} (h : H p = none) : Nw B F pa t env σ p := by
  obtain ⟨hF, hB, _⟩ := C.fresh h
  refine ⟨hF, hB, fun e => ?_, fun j e hj hs => ?_, C.noob h⟩
  · obtain ⟨_, ⟨u, q, _⟩, _⟩ := C.pen p e
    rw [h] at q; cases q
  · obtain ⟨a, u, h1, h2, _⟩ := C.own j e hj
    rw [hs] at h1
    cases h1
    rw [h] at h2; cases h2
theorem Cf.frz (C : Cf K B F pa t env σ H) {p : Addr} {h : HO} (n : Nw B F pa t env σ p) (e : H p = some h) (hno : ∀ ps, h ≠ .tbl ps) : Gr F pa (upd F p h) pa ∧ Cf K B (upd F p h) pa t env σ H := by
  have g : Gr F pa (upd F p h) pa := ⟨Gf.upd n.f, rfl⟩
  refine ⟨g, ⟨C.len, fun a u q => ?_, fun a u q => g.f _ _ (C.bas a u q), C.frm, fun a u q => ?_, C.exl, fun i d q => ?_, fun i d q => ?_, C.sep, fun a q => ?_, C.pnn, C.tab.keep g.f (fun q hq ps z => by rw [upd_ne (fun y => (C.tab q hq).1 (by rw [y]; exact n.b))]; exact (C.tab q hq).2.1) (fun _ _ _ z => z), fun a ps z => by
    by_cases ha : a = p
    · subst ha; rw [upd_same] at z; exact hno ps (Option.some.inj z)
    · rw [upd_ne ha] at z; exact C.ntb a ps z, fun a d q => by
    obtain ⟨h1, ⟨u, h2, h3⟩, h4⟩ := C.obs a d q
    refine ⟨?_, ⟨u, h2, RelO1.mono g d u h3⟩, h4⟩
    rw [upd_ne ?_]
    · exact h1
    · rintro rfl
      rw [n.o] at q; exact (nomatch q), C.obx, C.osp⟩⟩
  · by_cases ha : a = p
    · subst ha; rw [upd_same] at q; cases q; exact e
    · rw [upd_ne ha] at q; exact C.sub a u q
  · by_cases ha : a = p
    · subst ha; exact .inr n.b
    · rw [upd_ne ha] at q; exact C.new a u q
  · obtain ⟨v, h1, h2⟩ := C.val i d q
    exact ⟨v, h1, RelD.mono g d v h2⟩
  · obtain ⟨a, u, h1, h2, h3, h4, h5, h6⟩ := C.own i d q
    refine ⟨a, u, h1, h2, RelO1.mono g d u h3, ?_, h5, h6⟩
    rw [upd_ne ?_]
    · exact h4
    · rintro rfl
      exact n.s i d q h1
  · obtain ⟨h1, ⟨u, h2, h3⟩, h4⟩ := C.pen a q
    refine ⟨?_, ⟨u, h2, h3.mono g.f⟩, h4⟩
    rw [upd_ne ?_]
    · exact h1
    · rintro rfl
      exact n.a q
theorem Cf.write (C : Cf K B F pa t env σ H) {p : Addr} {h : HO} (n : Nw B F pa t env σ p) : Cf K B F pa t env σ (upd H p h) := by
  refine ⟨C.len, fun a u q => ?_, C.bas, fun a u q hx ho => ?_, C.new, fun a ha => ?_, C.val, fun i d q => ?_, C.sep, fun a q => ?_, C.pnn, C.tab.hs (fun q hq ps z => by rw [upd_ne (fun y => (C.tab q hq).1 (by rw [y]; exact n.b))]; exact z), C.ntb, fun a d q => by
    obtain ⟨h1, ⟨u, h2, h3⟩, h4⟩ := C.obs a d q
    refine ⟨h1, ⟨u, ?_, h3⟩, h4⟩
    rw [upd_ne ?_]
    · exact h2
    · rintro rfl
      rw [n.o] at q; exact (nomatch q), C.obx, C.osp⟩
  · rw [upd_ne (ne_of_none q n.f)]; exact C.sub a u q
  · rw [upd_ne (ne_of_none q n.b)]; exact C.frm a u q hx ho
  · obtain ⟨u, q⟩ := C.exl a ha
    by_cases hb : a = p
    · subst hb; exact ⟨h, upd_same⟩
    · exact ⟨u, by rw [upd_ne hb]; exact q⟩
  · obtain ⟨a, u, h1, h2, r⟩ := C.own i d q
    refine ⟨a, u, h1, ?_, r⟩
    rw [upd_ne ?_]
    · exact h2
    · rintro rfl
      exact n.s i d q h1
  · obtain ⟨h1, ⟨u, h2, h3⟩, h4⟩ := C.pen a q
    refine ⟨h1, ⟨u, ?_, h3⟩, h4⟩
    rw [upd_ne ?_]
    · exact h2
    · rintro rfl
      exact n.a q
theorem RelO1.rel {d : D} {h : HO} {p : Addr} (r : RelO1 K F pa d h) (e : F p = some h) : RelD K F pa d (.ref p) := by
  cases d with
  | lst l =>
    obtain ⟨vs, rfl, q⟩ := r
    unfold RelD; exact ⟨p, vs, rfl, e, q⟩
  | dic ks l =>
    obtain ⟨vs, rfl, z, q⟩ := r
    unfold RelD; exact ⟨p, vs, rfl, e, z, q⟩
  | ins C ns l =>
    obtain ⟨dx, vs, rfl, z, q⟩ := r
    unfold RelD; exact ⟨p, dx, vs, rfl, e, z, q⟩
  | _ => exact r.elim
theorem get_set {α : Type} {l : List α} {i j : Nat} {x y : α} (h : (l.set i x)[j]? = some y) : (i = j ∧ y = x) ∨ (i ≠ j ∧ l[j]? = some y) := by
  by_cases e : i = j
  · subst e
    left
    rw [List.getElem?_set_self'] at h
    cases q : l[i]? with
    | none => rw [q] at h; simp at h
    | some z => rw [q] at h; simp at h; exact ⟨rfl, h.symm⟩
  · right
    rw [List.getElem?_set_ne e] at h
    exact ⟨e, h⟩
theorem Cf.setV (C : Cf K B F pa t env σ H) (i : Nat) {d : D} {v : V} (r : RelD K F pa d v) : Cf K B F pa t (env.set i (.val d)) (σ.set i (some v)) H := by
  refine ⟨by simp [C.len], C.sub, C.bas, C.frm, C.new, C.exl, fun j e q => ?_, fun j e q => ?_, fun j k e f a q1 q2 s1 s2 => ?_, C.pen, C.pnn, C.tab, C.ntb, C.obs, C.obx, fun j e a q s => by
    rcases get_set q with ⟨_, z⟩ | ⟨ne, z⟩
    · cases z
    · rw [List.getElem?_set_ne ne] at s
      exact C.osp j e a z s⟩
  · rcases get_set q with ⟨rfl, z⟩ | ⟨ne, z⟩
    · cases z
      have hi : i < env.length := by
        have := (List.getElem?_eq_some_iff.mp q).1
        simpa using this
      exact ⟨v, by rw [List.getElem?_set_self (by rw [← C.len]; exact hi)], r⟩
    · obtain ⟨w, h1, h2⟩ := C.val j e z
      exact ⟨w, by rw [List.getElem?_set_ne ne]; exact h1, h2⟩
  · rcases get_set q with ⟨rfl, z⟩ | ⟨ne, z⟩
    · cases z
    · obtain ⟨a, u, h1, h2⟩ := C.own j e z
      exact ⟨a, u, by rw [List.getElem?_set_ne ne]; exact h1, h2⟩
  · rcases get_set q1 with ⟨_, z⟩ | ⟨n1, z1⟩
    · cases z
    · rcases get_set q2 with ⟨_, z⟩ | ⟨n2, z2⟩
      · cases z
      · rw [List.getElem?_set_ne n1] at s1
        rw [List.getElem?_set_ne n2] at s2
        exact C.sep j k e f a z1 z2 s1 s2
theorem Cf.setN (C : Cf K B F pa t env σ H) (i : Nat) {d : D} {p : Addr} {h : HO} (n : Nw B F pa t env σ p) (e : H p = some h) (r : RelO1 K F pa d h) : Cf K B F pa t (env.set i (.own d)) (σ.set i (some (.ref p))) H := by
  refine ⟨by simp [C.len], C.sub, C.bas, C.frm, C.new, C.exl, fun j e q => ?_, fun j e' q => ?_, fun j k e' f a q1 q2 s1 s2 => ?_, C.pen, C.pnn, C.tab, C.ntb, C.obs, C.obx, fun j e a q s => by
    rcases get_set q with ⟨rfl, z⟩ | ⟨ne, z⟩
    · rcases get_set s with ⟨_, zz⟩ | ⟨nn, _⟩
      · cases zz; exact n.o
      · exact absurd rfl nn
    · rw [List.getElem?_set_ne ne] at s
      exact C.osp j e a z s⟩
  · rcases get_set q with ⟨rfl, z⟩ | ⟨ne, z⟩
    · cases z
    · obtain ⟨w, h1, h2⟩ := C.val j e z
      exact ⟨w, by rw [List.getElem?_set_ne ne]; exact h1, h2⟩
  · rcases get_set q with ⟨rfl, z⟩ | ⟨ne, z⟩
    · cases z
      have hi : i < env.length := by
        have := (List.getElem?_eq_some_iff.mp q).1
        simpa using this
      exact ⟨p, h, by rw [List.getElem?_set_self (by rw [← C.len]; exact hi)], e, r, n.f, n.a, .inr n.b⟩
    · obtain ⟨a, u, h1, h2⟩ := C.own j e' z
      exact ⟨a, u, by rw [List.getElem?_set_ne ne]; exact h1, h2⟩
  · rcases get_set q1 with ⟨rfl, z⟩ | ⟨n1, z1⟩
    · rcases get_set q2 with ⟨rfl, z'⟩ | ⟨n2, z2⟩
      · rfl
      · rw [List.getElem?_set_ne n2] at s2
        rcases get_set s1 with ⟨_, zz⟩ | ⟨nn, _⟩
        · cases zz
          exact absurd s2 (n.s k f z2)
        · exact absurd rfl nn
    · rw [List.getElem?_set_ne n1] at s1
      rcases get_set q2 with ⟨rfl, z'⟩ | ⟨n2, z2⟩
      · rcases get_set s2 with ⟨_, zz⟩ | ⟨nn, _⟩
        · cases zz
          exact absurd s1 (n.s j e' z1)
        · exact absurd rfl nn
      · rw [List.getElem?_set_ne n2] at s2
        exact C.sep j k e' f a z1 z2 s1 s2
theorem Cf.wrO (C : Cf K B F pa t env σ H) {i : Nat} {d d' : D} {a : Addr} {h : HO} (hi : env[i]? = some (Sl.own d)) (hs : σ[i]? = some (some (V.ref a))) (r : RelO1 K F pa d' h) : Cf K B F pa t (env.set i (.own d')) σ (upd H a h) := by
  obtain ⟨a', h0, s0, e0, r0, f0, p0, x0⟩ := C.own i d hi
  rw [hs] at s0; cases s0
  have nb : ∀ {c : Addr} {u : HO}, F c = some u → c ≠ a := fun e => ne_of_none e f0
  refine ⟨by simp [C.len], fun c u q => by rw [upd_ne (nb q)]; exact C.sub c u q, C.bas, fun c u q hx ho => ?_, C.new, fun c hc => ?_, fun j e q => ?_, fun j e q => ?_, fun j k e f c q1 q2 s1 s2 => ?_, fun c q => ?_, C.pnn, C.tab.hs (fun p _ ps z => by rw [upd_ne (fun y => by rw [y, e0] at z; exact r0.ntb ps (Option.some.inj z))]; exact z), C.ntb, fun c d q => by
    obtain ⟨h1, ⟨u, h2, h3⟩, h4⟩ := C.obs c d q
    refine ⟨h1, ⟨u, ?_, h3⟩, h4⟩
    rw [upd_ne ?_]
    · exact h2
    · rintro rfl
      rw [C.osp i _ c hi hs] at q; exact (nomatch q), C.obx, fun j e c q s => by
    rcases get_set q with ⟨rfl, _⟩ | ⟨_, z⟩
    · exact C.osp i d c hi s
    · exact C.osp j e c z s⟩
  · rw [upd_ne ?_]
    · exact C.frm c u q hx ho
    · rintro rfl
      rcases x0 with z | z
      · exact hx z
      · rw [z] at q; cases q
  · by_cases hc' : c = a
    · subst hc'; exact ⟨h, upd_same⟩
    · obtain ⟨u, q⟩ := C.exl c hc
      exact ⟨u, by rw [upd_ne hc']; exact q⟩
  · rcases get_set q with ⟨rfl, z⟩ | ⟨ne, z⟩
    · cases z
    · exact C.val j e z
  · rcases get_set q with ⟨rfl, z⟩ | ⟨ne, z⟩
    · cases z
      exact ⟨a, h, hs, upd_same, r, f0, p0, x0⟩
    · obtain ⟨c, u, h1, h2, h3⟩ := C.own j e z
      refine ⟨c, u, h1, ?_, h3⟩
      rw [upd_ne ?_]
      · exact h2
      · rintro rfl
        exact ne (C.sep i j d e c hi z hs h1)
  · have z1 : ∃ e', env[j]? = some (Sl.own e') := by
      rcases get_set q1 with ⟨rfl, _⟩ | ⟨_, z⟩
      · exact ⟨d, hi⟩
      · exact ⟨e, z⟩
    have z2 : ∃ e', env[k]? = some (Sl.own e') := by
      rcases get_set q2 with ⟨rfl, _⟩ | ⟨_, z⟩
      · exact ⟨d, hi⟩
      · exact ⟨f, z⟩
    obtain ⟨e1, z1⟩ := z1
    obtain ⟨e2, z2⟩ := z2
    exact C.sep j k e1 e2 c z1 z2 s1 s2
  · obtain ⟨h1, ⟨u, h2, h3⟩, h4⟩ := C.pen c q
    refine ⟨h1, ⟨u, ?_, h3⟩, h4⟩
    rw [upd_ne ?_]
    · exact h2
    · rintro rfl
      exact p0 q
theorem Cf.frzO (C : Cf K B F pa t env σ H) (hB : B.Top) {i : Nat} {d : D} (hi : env[i]? = some (Sl.own d)) : ∃ F', Gr F pa F' pa ∧ Cf K B F' pa t (env.set i (.val d)) σ H := by
  obtain ⟨a, h, hs, e, r, f0, p0, x0⟩ := C.own i d hi
  have hb : B.H a = none := by
    rcases x0 with z | z
    · rcases hB a z with y | ⟨p, hp, y⟩
      · exact absurd ((show pa = B.pn from C.pnn).trans y) p0
      · obtain ⟨_, _, ps, q, _⟩ := C.tab p hp
        rw [y, e] at q
        exact absurd (Option.some.inj q) (r.ntb ps)
    · exact z
  have hl : i < env.length := (List.getElem?_eq_some_iff.mp hi).1
  have C1 : Cf K B F pa t (env.set i .no) σ H := by
    refine ⟨by simp [C.len], C.sub, C.bas, C.frm, C.new, C.exl, fun j e q => ?_, fun j e q => ?_, fun j k e f c q1 q2 => ?_, C.pen, C.pnn, C.tab, C.ntb, C.obs, C.obx, fun j e c q s => by
      rcases get_set q with ⟨_, z⟩ | ⟨_, z⟩
      · cases z
      · exact C.osp j e c z s⟩
    · rcases get_set q with ⟨rfl, z⟩ | ⟨ne, z⟩
      · cases z
      · exact C.val j e z
    · rcases get_set q with ⟨rfl, z⟩ | ⟨ne, z⟩
      · cases z
      · exact C.own j e z
    · rcases get_set q1 with ⟨_, z⟩ | ⟨n1, z1⟩
      · cases z
      · rcases get_set q2 with ⟨_, z⟩ | ⟨n2, z2⟩
        · cases z
        · exact C.sep j k e f c z1 z2
  have n : Nw B F pa t (env.set i .no) σ a := by
    refine ⟨f0, hb, p0, fun j e' q s1 => ?_, C.osp i d a hi hs⟩
    rcases get_set q with ⟨_, z⟩ | ⟨ne, z⟩
    · cases z
    · exact ne (C.sep i j d e' a hi z hs s1)
  obtain ⟨g, C2⟩ := C1.frz n e r.ntb
  have C3 := C2.setV i (RelO1.rel (p := a) (RelO1.mono g d h r) upd_same)
  rw [List.set_set] at C3
  have hσ : σ.set i (some (V.ref a)) = σ := by
    apply List.ext_getElem?
    intro j
    by_cases hj : i = j
    · subst hj
      rw [List.getElem?_set_self (by rw [← C.len]; exact hl), hs]
    · rw [List.getElem?_set_ne hj]
  rw [hσ] at C3
  exact ⟨_, g, C3⟩
theorem Cf.nil (C : Cf K B F pa t env σ H) : Cf K B F pa t [] [] H :=
  ⟨rfl, C.sub, C.bas, C.frm, C.new, C.exl, fun i d e => by simp at e, fun i d e => by simp at e, fun i j d e a q => by simp at q, C.pen, C.pnn, C.tab, C.ntb, C.obs, C.obx, fun i d a e => by simp at e⟩
def B0 (F : Hp) (pa : Option Addr) (t : Ts) (H : Hp) : Bs := ⟨F, H, pa.toList, pa, false, [], t.dom⟩
def B1 (F : Hp) (pa : Option Addr) (t : Ts) (H : Hp) : Bs := ⟨F, H, pa.toList, pa, true, [], t.dom⟩
theorem B0.top (F : Hp) (pa : Option Addr) (t : Ts) (H : Hp) : (B0 F pa t H).Top := fun a h => .inl (by
  show pa = some a
  have h : a ∈ pa.toList := h
  cases pa with
  | none => simp at h
  | some b => simp at h; rw [h])
theorem B1.top (F : Hp) (pa : Option Addr) (t : Ts) (H : Hp) : (B1 F pa t H).Top := B0.top F pa t H
theorem Cf.cong {B' : Bs} (C : Cf K B F pa t env σ H) (h1 : B'.F = B.F) (h2 : B'.H = B.H) (h3 : B'.ex = B.ex) (h4 : B'.pn = B.pn) (h5 : B'.T = B.T) (h6 : B'.O = B.O := by rfl) : Cf K B' F pa t env σ H := by
  obtain ⟨F1, H1, e1, p1, m1, T1, O1⟩ := B
  obtain ⟨F2, H2, e2, p2, m2, T2, O2⟩ := B'
  cases h1; cases h2; cases h3; cases h4; cases h5; cases h6
  exact ⟨C.len, C.sub, C.bas, C.frm, C.new, C.exl, C.val, C.own, C.sep, C.pen, C.pnn, C.tab, C.ntb, C.obs, C.obx, C.osp⟩
theorem mem_pa {pa : Option Addr} {a : Addr} : a ∈ pa.toList ↔ pa = some a := by
  cases pa with
  | none => simp
  | some b => simp [eq_comm]
theorem Cf.call (C : Cf K B F pa t env σ H) : Cf K (B0 F pa t H) F pa t [] [] H := by
  refine ⟨rfl, C.sub, fun _ _ e => e, fun _ _ e _ _ => e, fun a o e => .inl ⟨o, e⟩, fun a ha => ?_, fun i d e => by simp at e, fun i d e => by simp at e, fun i j d e a q => by simp at q, fun a e => ?_, rfl, TabF.nil, C.ntb, fun a d e => by
    obtain ⟨h1, h2, h3, _, h5⟩ := C.obs a d e
    exact ⟨h1, h2, h3, .inl ⟨d, e⟩, h5⟩, fun a e => e, fun i d a e => by simp at e⟩
  · have q : pa = some a := mem_pa.mp ha
    obtain ⟨_, ⟨h, q, _⟩, _⟩ := C.pen a q
    exact ⟨h, q⟩
  · obtain ⟨h1, h2, _⟩ := C.pen a e
    exact ⟨h1, h2, .inl (mem_pa.mpr e)⟩
theorem Cf.after {F' : Hp} {pa' : Option Addr} {t' : Ts} {H' : Hp} (C : Cf K B F pa t env σ H) (C' : Cf K (B0 F pa t H) F' pa' t' [] [] H') : Gr F pa F' pa' ∧ Cf K B F' pa' t' env σ H' := by
  have g : Gr F pa F' pa' := ⟨C'.bas, C'.pnn⟩
  have kp : ∀ a o, H a = some o → pa ≠ some a → t.obs a = none → H' a = some o := fun a o e n no => C'.frm a o e (fun z => n (mem_pa.mp z)) (fun ⟨d, z⟩ => by rw [no] at z; cases z)
  have al : ∀ a o, H a = some o → ∃ o', H' a = some o' := fun a o e => by
    by_cases hp : pa = some a
    · obtain ⟨_, ⟨h, q, _⟩, _⟩ := C'.pen a ((show pa' = pa from g.p).trans hp)
      exact ⟨h, q⟩
    · cases q : t.obs a with
      | none => exact ⟨o, kp a o e hp q⟩
      | some d =>
        obtain ⟨d', q'⟩ := C'.obx a ⟨d, q⟩
        obtain ⟨_, ⟨u, z, _⟩, _⟩ := C'.obs a d' q'
        exact ⟨u, z⟩
  have nf : ∀ a o, H a = some o → F a = none → F' a = none := fun a o e n => by
    cases q : F' a with
    | none => rfl
    | some u =>
      rcases C'.new a u q with ⟨u', z⟩ | z
      · have z : F a = some u' := z
        rw [n] at z; cases z
      · have z : H a = none := z
        rw [e] at z; cases z
  refine ⟨g, ⟨C.len, C'.sub, fun a o e => g.f _ _ (C.bas a o e), fun a o e hx ho => ?_, fun a o e => ?_, fun a ha => ?_, fun i d e => ?_, fun i d e => ?_, C.sep, fun a e => ?_, (show pa' = pa from g.p).trans C.pnn, C.tab.keep g.f (fun p hp ps z => nf _ _ z (C.tab p hp).2.1) (fun p hp ps z => kp _ _ z (fun y => by
    obtain ⟨_, ⟨u, q, ca, w, _⟩, _⟩ := C.pen p.1 y
    rw [z] at q
    subst w
    cases q) (by
    cases q : t.obs p.1 with
    | none => rfl
    | some d =>
      obtain ⟨_, ⟨u, q2, r⟩, _⟩ := C.obs p.1 d q
      rw [z] at q2
      exact absurd (Option.some.inj q2).symm (r.ntb ps))), C'.ntb, fun a d q => ?_, fun a q => C'.obx a (C.obx a q), fun i d a e s => ?_⟩⟩
  · refine kp a o (C.frm a o e hx ho) (fun z => ?_) ?_
    · rcases (C.pen a z).2.2 with q | q
      · exact hx q
      · rw [q] at e; cases e
    · cases q : t.obs a with
      | none => rfl
      | some d =>
        rcases (C.obs a d q).2.2.2.1 with z | z
        · exact absurd z ho
        · rw [z] at e; cases e
  · rcases C'.new a o e with ⟨o', q⟩ | q
    · exact C.new a o' q
    · exact .inr (C.fresh q).2.1
  · obtain ⟨o, q⟩ := C.exl a ha
    exact al a o q
  · obtain ⟨v, h1, h2⟩ := C.val i d e
    exact ⟨v, h1, RelD.mono g d v h2⟩
  · obtain ⟨a, h, h1, h2, h3, h4, h5, h6⟩ := C.own i d e
    refine ⟨a, h, h1, kp a h h2 h5 (C.osp i d a e h1), RelO1.mono g d h h3, ?_, fun z => ?_, h6⟩
    · cases q : F' a with
      | none => rfl
      | some o =>
        rcases C'.new a o q with ⟨o', z⟩ | z
        · have z : F a = some o' := z
          rw [h4] at z; cases z
        · have z : H a = none := z
          rw [h2] at z; cases z
    · rcases (C'.pen a z).2.2 with q | q
      · exact h5 (mem_pa.mp q)
      · have q : H a = none := q
        rw [h2] at q; cases q
  · obtain ⟨h1, h2, h3⟩ := C'.pen a e
    refine ⟨h1, h2, ?_⟩
    rcases h3 with q | q
    · exact (C.pen a (mem_pa.mp q)).2.2
    · exact .inr (C.fresh q).2.1
  · obtain ⟨h1, h2, h3, h4, h5⟩ := C'.obs a d q
    refine ⟨h1, h2, h3, ?_, h5⟩
    rcases h4 with ⟨d0, z⟩ | z
    · exact (C.obs a d0 z).2.2.2.1
    · exact .inr (C.fresh z).2.1
  · cases q : t'.obs a with
    | none => rfl
    | some d' =>
      rcases (C'.obs a d' q).2.2.2.1 with ⟨d0, z⟩ | z
      · rw [C.osp i d a e s] at z; cases z
      · obtain ⟨a', h, h1, h2, _⟩ := C.own i d e
        rw [s] at h1; cases h1
        have z : H a = none := z
        rw [h2] at z; cases z
theorem Cf.bare (C : Cf K B F pa t env σ H) : Cf K (B0 F pa t.bare H) F pa t.bare [] [] H := by
  refine ⟨rfl, C.sub, fun _ _ e => e, fun _ _ e _ _ => e, fun a o e => .inl ⟨o, e⟩, fun a ha => ?_, fun i d e => by simp at e, fun i d e => by simp at e, fun i j d e a q => by simp at q, fun a e => ?_, rfl, TabF.nil, C.ntb, fun a d e => (nomatch e), fun a e => e, fun i d a e => by simp at e⟩
  · have q : pa = some a := mem_pa.mp ha
    obtain ⟨_, ⟨h, q, _⟩, _⟩ := C.pen a q
    exact ⟨h, q⟩
  · obtain ⟨h1, h2, _⟩ := C.pen a e
    exact ⟨h1, h2, .inl (mem_pa.mpr e)⟩
theorem Cf.wear {F' : Hp} {pa' : Option Addr} {t' : Ts} {H' : Hp} (C : Cf K B F pa t env σ H) (C' : Cf K (B0 F pa t.bare H) F' pa' t' [] [] H') : Gr F pa F' pa' ∧ Cf K B F' pa' (t'.wear t.obs) env σ H' := by
  have g : Gr F pa F' pa' := ⟨C'.bas, C'.pnn⟩
  have kp : ∀ a o, H a = some o → pa ≠ some a → H' a = some o := fun a o e n => C'.frm a o e (fun z => n (mem_pa.mp z)) (fun ⟨d, z⟩ => by cases z)
  have nf : ∀ a o, H a = some o → F a = none → F' a = none := fun a o e n => by
    cases q : F' a with
    | none => rfl
    | some u =>
      rcases C'.new a u q with ⟨u', z⟩ | z
      · have z : F a = some u' := z
        rw [n] at z; cases z
      · have z : H a = none := z
        rw [e] at z; cases z
  have C1 : Cf K (B0 F pa t H) F' pa' (t'.wear t.obs) [] [] H' := ⟨rfl, C'.sub, C'.bas, fun a o e n _ => kp a o e (fun z => n (mem_pa.mpr z)), C'.new, C'.exl, C'.val, C'.own, C'.sep, C'.pen, C'.pnn, TabF.nil, C'.ntb, fun a d q => by
    obtain ⟨h1, ⟨u, h2, h3⟩, h4, _, h5⟩ := C.obs a d q
    exact ⟨nf a u h2 h1, ⟨u, kp a u h2 h4, RelO1.mono g d u h3⟩, fun z => h4 ((show pa' = pa from g.p).symm.trans z), .inl ⟨d, q⟩, h5⟩, fun a q => q, fun i d a e => by simp at e⟩
  exact C.after C1
end
end Q
/-! QH2 -/
namespace Q
open PySem L2 PyProof.Rows
section
variable (K : PySem.W.Frag) (B : Bs)
def teOf (de : DE) : TE := fun σ H Q => ∃ F pa t env P, Cf K B F pa t env σ H ∧ de env t P ∧
  ∀ v d F' pa' t' H', Gr F pa F' pa' → Cf K B F' pa' t' env σ H' → RelD K F' pa' d v → P d t' → Q v H'
def RelX (F : Hp) (pa : Option Addr) (env : En) (σ : L2.St) (d : D) (v : V) : Prop := RelD K F pa d v ∨ ∃ i : Nat, env[i]? = some (Sl.own d) ∧ σ[i]? = some (some v)
def tvOf (de : DE) : TE := fun σ H Q => ∃ F pa t env P, Cf K B F pa t env σ H ∧ de env t P ∧
  ∀ v d F' pa' t' H', Gr F pa F' pa' → Cf K B F' pa' t' env σ H' → RelX K F' pa' env σ d v → P d t' → Q v H'
def tnOf (de : DE) : TE := fun σ H Q => ∃ F pa t env P, Cf K B F pa t env σ H ∧ de env t P ∧
  ∀ p h d F' pa' t' H', Gr F pa F' pa' → Cf K B F' pa' t' env σ H' → Nw B F' pa' t' env σ p → H' p = some h → RelO1 K F' pa' d h → P d t' → Q (.ref p) H'
def ttOf (dt : DT) : TT := fun σ H Q => ∃ F pa t env P, Cf K B F pa t env σ H ∧ dt env t P ∧
  ∀ k F' pa' t' H', Gr F pa F' pa' → Cf K B F' pa' t' env σ H' → P k t' → Q k H'
def taOf (da : DA) : TA := fun σ H Q => ∃ F pa t env P, Cf K B F pa t env σ H ∧ da env t P ∧
  ∀ vs ds F' pa' t' H', Gr F pa F' pa' → Cf K B F' pa' t' env σ H' → RelL K F' pa' ds vs → P ds t' → Q vs H'
inductive RelXs (F : Hp) (pa : Option Addr) (env : En) (σ : L2.St) : List D → List V → Prop
  | nil : RelXs F pa env σ [] []
  | cons {d : D} {v : V} {ds : List D} {vs : List V} : RelX K F pa env σ d v → RelXs F pa env σ ds vs → RelXs F pa env σ (d :: ds) (v :: vs)
def txOf (da : DA) : TA := fun σ H Q => ∃ F pa t env P, Cf K B F pa t env σ H ∧ da env t P ∧
  ∀ vs ds F' pa' t' H', Gr F pa F' pa' → Cf K B F' pa' t' env σ H' → RelXs K F' pa' env σ ds vs → P ds t' → Q vs H'
def toOf (d : DO) : TO := fun σ H Q => ∃ F pa t env P, Cf K B F pa t env σ H ∧ d env t P ∧
  ∀ k F' pa' t' H', Gr F pa F' pa' → Cf K B F' pa' t' env σ H' → P k t' → Q k H'
def tgOf (vs : List Nat) (g : DG) : TG := fun v σ H Q => ∃ F pa t env d P, Cf K B F pa t env σ H ∧ RelD K F pa d v ∧ g d env t P ∧
  ∀ F' pa' t' env' σ' H', Gr F pa F' pa' → Cf K B F' pa' t' env' σ' H' → wipe σ' vs = wipe σ vs → P env' t' → Q σ' H'
def RetRel (F : Hp) (pa : Option Addr) (t : Ts) (H : Hp) (d : D) (v : V) : Prop := match B.m with
  | false => RelD K F pa d v
  | true => (d = .non ∧ v = .non) ∨ ∃ p h, v = .ref p ∧ F p = none ∧ B.H p = none ∧ pa ≠ some p ∧ t.obs p = none ∧ H p = some h ∧ RelO1 K F pa d h
structure Rz (F0 : Hp) (pa0 : Option Addr) (DD : DEnds) (D : Ends) : Prop where
  nx : ∀ F pa t env σ H, Gr F0 pa0 F pa → Cf K B F pa t env σ H → DD.nx env t → D.nx σ H
  rt : ∀ v d F pa t env σ H, Gr F0 pa0 F pa → Cf K B F pa t env σ H → RetRel K B F pa t H d v → DD.rt d env t → D.rt v H
  bk : ∀ F pa t env σ H, Gr F0 pa0 F pa → Cf K B F pa t env σ H → DD.bk env t → D.bk σ H
  ct : ∀ F pa t env σ H, Gr F0 pa0 F pa → Cf K B F pa t env σ H → DD.ct env t → D.ct σ H
def tsOf (ds : DS) : TS := fun D σ H => ∃ F pa t env DD, Cf K B F pa t env σ H ∧ ds DD env t ∧ Rz K B F pa DD D
end
theorem Rz.mono {K : PySem.W.Frag} {B : Bs} {F0 F1 : Hp} {p0 p1 : Option Addr} {DD : DEnds} {D : Ends} (R : Rz K B F0 p0 DD D) (g : Gr F0 p0 F1 p1) : Rz K B F1 p1 DD D :=
  ⟨fun F pa t env σ H g' => R.nx F pa t env σ H (g.trans g'), fun v d F pa t env σ H g' => R.rt v d F pa t env σ H (g.trans g'), fun F pa t env σ H g' => R.bk F pa t env σ H (g.trans g'), fun F pa t env σ H g' => R.ct F pa t env σ H (g.trans g')⟩
abbrev QE (X : Cx) (B : Bs) (e : Expr) (de : DE) : Prop := PE X e (teOf X.K B de)
abbrev QV (X : Cx) (B : Bs) (e : Expr) (de : DE) : Prop := PE X e (tvOf X.K B de)
abbrev QN (X : Cx) (B : Bs) (e : Expr) (de : DE) : Prop := PE X e (tnOf X.K B de)
abbrev QT (X : Cx) (B : Bs) (e : Expr) (dt : DT) : Prop := PT X e (ttOf X.K B dt)
abbrev QW (X : Cx) (B : Bs) (e : Expr) (dt : DT) : Prop := PW X e (ttOf X.K B dt)
abbrev QA (X : Cx) (B : Bs) (es : List Expr) (da : DA) : Prop := PA X es (taOf X.K B da)
abbrev QX (X : Cx) (B : Bs) (es : List Expr) (da : DA) : Prop := PA X es (txOf X.K B da)
abbrev QO (X : Cx) (B : Bs) (e : Option Expr) (d : DO) : Prop := PO X e (toOf X.K B d)
abbrev QG (X : Cx) (B : Bs) (vs : List Nat) (e : Expr) (g : DG) : Prop := PG X e (tgOf X.K B vs g)
abbrev QS (X : Cx) (B : Bs) (st : Stmt) (ds : DS) : Prop := PS X st (tsOf X.K B ds)
abbrev QSs (X : Cx) (B : Bs) (st : List Stmt) (ds : DS) : Prop := PSs X st (tsOf X.K B ds)
theorem PE.imp {X : Cx} {e : Expr} {t t' : TE} (h : PE X e t) (i : ∀ σ H Q, t' σ H Q → t σ H Q) : PE X e t' := ⟨fun pins s σ H Q I q => h.run pins s σ H Q I (i σ H Q q)⟩
theorem PT.imp {X : Cx} {e : Expr} {t t' : TT} (h : PT X e t) (i : ∀ σ H Q, t' σ H Q → t σ H Q) : PT X e t' := ⟨fun pins s σ H Q I q => h.run pins s σ H Q I (i σ H Q q)⟩
theorem PW.imp {X : Cx} {e : Expr} {t t' : TT} (h : PW X e t) (i : ∀ σ H Q, t' σ H Q → t σ H Q) : PW X e t' := ⟨fun w pins s σ H Q I q => h.run w pins s σ H Q I (i σ H Q q)⟩
theorem PA.imp {X : Cx} {e : List Expr} {t t' : TA} (h : PA X e t) (i : ∀ σ H Q, t' σ H Q → t σ H Q) : PA X e t' := ⟨fun p pins s σ H Q I q => h.run p pins s σ H Q I (i σ H Q q)⟩
theorem PO.imp {X : Cx} {e : Option Expr} {t t' : TO} (h : PO X e t) (i : ∀ σ H Q, t' σ H Q → t σ H Q) : PO X e t' := ⟨fun pins s σ H Q I q => h.run pins s σ H Q I (i σ H Q q)⟩
theorem PG.imp {X : Cx} {e : Expr} {t t' : TG} (h : PG X e t) (i : ∀ v σ H Q, t' v σ H Q → t v σ H Q) : PG X e t' := ⟨fun pins s σ H v u Q I r q => h.run pins s σ H v u Q I r (i v σ H Q q)⟩
theorem PGs.imp {X : Cx} {e : List Expr} {t t' : TGs} (h : PGs X e t) (i : ∀ v σ H Q, t' v σ H Q → t v σ H Q) : PGs X e t' := ⟨fun pins s σ H v u Q I r q => h.run pins s σ H v u Q I r (i v σ H Q q)⟩
theorem PS.imp {X : Cx} {e : Stmt} {t t' : TS} (h : PS X e t) (i : ∀ D σ H, t' D σ H → t D σ H) : PS X e t' := ⟨fun pins s σ H D I q => h.run pins s σ H D I (i D σ H q)⟩
theorem PSs.imp {X : Cx} {e : List Stmt} {t t' : TS} (h : PSs X e t) (i : ∀ D σ H, t' D σ H → t D σ H) : PSs X e t' := ⟨fun pins s σ H D I q => h.run pins s σ H D I (i D σ H q)⟩
section
variable {X : Cx} {B : Bs} {K : PySem.W.Frag} {a b c e : Expr} {es : List Expr} {pos : Pos} {da db dc : DE} {as : DA}
theorem RelX.mono {F F' : Hp} {pa pa' : Option Addr} {env : En} {σ : L2.St} {d : D} {v : V} (g : Gr F pa F' pa') (r : RelX K F pa env σ d v) : RelX K F' pa' env σ d v := by
  rcases r with r | r
  · exact .inl (RelD.mono g d v r)
  · exact .inr r
theorem RelXs.mono {F F' : Hp} {pa pa' : Option Addr} {env : En} {σ : L2.St} {d : List D} {v : List V} (g : Gr F pa F' pa') (r : RelXs K F pa env σ d v) : RelXs K F' pa' env σ d v := by
  induction r with
  | nil => exact .nil
  | cons h _ ih => exact .cons (h.mono g) ih
theorem RelXs.of {F : Hp} {pa : Option Addr} {env : En} {σ : L2.St} : ∀ {d : List D} {v : List V}, RelL K F pa d v → RelXs K F pa env σ d v
  | [], v, h => by rw [h.inv0]; exact .nil
  | x :: d, v, h => by
    obtain ⟨y, w, rfl, r, q⟩ := h.inv
    exact .cons (.inl r) (RelXs.of q)
theorem RelX.lst {F : Hp} {pa : Option Addr} {t : Ts} {env : En} {σ : L2.St} {H : Hp} {l : List D} {v : V} (C : Cf K B F pa t env σ H) (r : RelX K F pa env σ (.lst l) v) : ∃ a vs, v = .ref a ∧ H a = some (.lst vs) ∧ RelL K F pa l vs := by
  rcases r with r | ⟨i, h1, h2⟩
  · unfold RelD at r
    obtain ⟨a, vs, e, q, z⟩ := r
    exact ⟨a, vs, e, C.sub _ _ q, z⟩
  · obtain ⟨a, h, s1, q, z, _⟩ := C.own i _ h1
    rw [h2] at s1; cases s1
    obtain ⟨vs, rfl, z⟩ := z
    exact ⟨a, vs, rfl, q, z⟩
theorem RelX.tup {F : Hp} {pa : Option Addr} {t : Ts} {env : En} {σ : L2.St} {H : Hp} {l : List D} {v : V} (C : Cf K B F pa t env σ H) (r : RelX K F pa env σ (.tup l) v) : ∃ a vs, v = .ref a ∧ H a = some (.tup vs) ∧ F a = some (.tup vs) ∧ RelL K F pa l vs := by
  rcases r with r | ⟨i, h1, h2⟩
  · unfold RelD at r
    obtain ⟨a, vs, e, q, z⟩ := r
    exact ⟨a, vs, e, C.sub _ _ q, q, z⟩
  · obtain ⟨a, h, s1, q, z, _⟩ := C.own i _ h1
    exact z.elim
theorem RelX.dic {F : Hp} {pa : Option Addr} {t : Ts} {env : En} {σ : L2.St} {H : Hp} {ks : List Ky} {l : List D} {v : V} (C : Cf K B F pa t env σ H) (r : RelX K F pa env σ (.dic ks l) v) : ∃ a vs, v = .ref a ∧ H a = some (.dK (ks.zip vs)) ∧ ks.length = vs.length ∧ RelL K F pa l vs := by
  rcases r with r | ⟨i, h1, h2⟩
  · unfold RelD at r
    obtain ⟨a, vs, e, q, z⟩ := r
    exact ⟨a, vs, e, C.sub _ _ q, z⟩
  · obtain ⟨a, h, s1, q, z, _⟩ := C.own i _ h1
    rw [h2] at s1; cases s1
    obtain ⟨vs, rfl, z⟩ := z
    exact ⟨a, vs, rfl, q, z⟩
theorem RelX.ins {F : Hp} {pa : Option Addr} {t : Ts} {env : En} {σ : L2.St} {H : Hp} {C : Addr} {ns : List Str} {l : List D} {v : V} (W : Cf K B F pa t env σ H) (r : RelX K F pa env σ (.ins C ns l) v) : ∃ a dx vs, v = .ref a ∧ H a = some (.ins C dx (ns.zip vs)) ∧ ns.length = vs.length ∧ RelL K F pa l vs := by
  rcases r with r | ⟨i, h1, h2⟩
  · unfold RelD at r
    obtain ⟨a, dx, vs, e, q, z⟩ := r
    exact ⟨a, dx, vs, e, W.sub _ _ q, z⟩
  · obtain ⟨a, h, s1, q, z, _⟩ := W.own i _ h1
    rw [h2] at s1; cases s1
    obtain ⟨dx, vs, rfl, z⟩ := z
    exact ⟨a, dx, vs, rfl, q, z⟩
theorem RelX.scr {F : Hp} {pa : Option Addr} {t : Ts} {env : En} {σ : L2.St} {H : Hp} {ns : List Int} {v : V} (W : Cf K B F pa t env σ H) (r : RelX K F pa env σ (.scr ns) v) : ∃ a, v = .ref a ∧ SqL K H a (ns.map V.int) := by
  rcases r with r | ⟨i, h1, h2⟩
  · unfold RelD at r
    obtain ⟨a, e, q⟩ := r
    exact ⟨a, e, sq_mono W.sub q⟩
  · obtain ⟨a, h, s1, q, z, _⟩ := W.own i _ h1
    exact z.elim
theorem RelX.int {F : Hp} {pa : Option Addr} {t : Ts} {env : En} {σ : L2.St} {H : Hp} {i : Int} {v : V} (W : Cf K B F pa t env σ H) (r : RelX K F pa env σ (.int i) v) : v = .int i := by
  rcases r with r | ⟨i, h1, h2⟩
  · unfold RelD at r; exact r
  · obtain ⟨a, h, s1, q, z, _⟩ := W.own i _ h1
    exact z.elim
theorem RelX.bl {F : Hp} {pa : Option Addr} {t : Ts} {env : En} {σ : L2.St} {H : Hp} {i : Bool} {v : V} (W : Cf K B F pa t env σ H) (r : RelX K F pa env σ (.bl i) v) : v = .bl i := by
  rcases r with r | ⟨i, h1, h2⟩
  · unfold RelD at r; exact r
  · obtain ⟨a, h, s1, q, z, _⟩ := W.own i _ h1
    exact z.elim
theorem RelX.str {F : Hp} {pa : Option Addr} {t : Ts} {env : En} {σ : L2.St} {H : Hp} {i : Str} {v : V} (W : Cf K B F pa t env σ H) (r : RelX K F pa env σ (.str i) v) : v = .str i := by
  rcases r with r | ⟨i, h1, h2⟩
  · unfold RelD at r; exact r
  · obtain ⟨a, h, s1, q, z, _⟩ := W.own i _ h1
    exact z.elim
theorem RelX.non {F : Hp} {pa : Option Addr} {t : Ts} {env : En} {σ : L2.St} {H : Hp} {v : V} (W : Cf K B F pa t env σ H) (r : RelX K F pa env σ .non v) : v = .non := by
  rcases r with r | ⟨i, h1, h2⟩
  · unfold RelD at r; exact r
  · obtain ⟨a, h, s1, q, z, _⟩ := W.own i _ h1
    exact z.elim
theorem toV (h : QE X B e da) : QV X B e da := PE.imp h fun σ H Q ⟨F, pa, t, env, P, C, hd, k⟩ => ⟨F, pa, t, env, P, C, hd, fun v d F' pa' t' H' g C' r q => k v d F' pa' t' H' g C' (.inl r) q⟩
theorem toE (h : QN X B e da) : QE X B e da := PE.imp h fun σ H Q ⟨F, pa, t, env, P, C, hd, k⟩ => ⟨F, pa, t, env, P, C, hd, fun p h d F' pa' t' H' g C' n e r q => by
  obtain ⟨g', C2⟩ := C'.frz n e r.ntb
  exact k (.ref p) d _ pa' t' H' (g.trans g') C2 (RelO1.rel (RelO1.mono g' d h r) upd_same) q⟩
theorem q_var {i : Nat} {x : Str} {pos : Pos} (h : PE X (.Name x pos) (tVar i)) : QE X B (.Name x pos) (dVar i) := PE.imp h fun σ H Q ⟨F, pa, t, env, P, C, hd, k⟩ => by
  have hd : (match env[i]? with | some (.val d) => P d t | _ => False) := hd
  cases q : env[i]? with
  | none => rw [q] at hd; exact hd.elim
  | some s =>
    rw [q] at hd
    cases s with
    | val d =>
      obtain ⟨v, h1, h2⟩ := C.val i d q
      exact ⟨v, h1, k v d F pa t H (Gr.refl _ _) C h2 hd⟩
    | no => exact hd.elim
    | own d => exact hd.elim
theorem q_view {i : Nat} {x : Str} {pos : Pos} (h : PE X (.Name x pos) (tVar i)) : QV X B (.Name x pos) (dView i) := PE.imp h fun σ H Q ⟨F, pa, t, env, P, C, hd, k⟩ => by
  have hd : (match env[i]? with | some (.val d) => P d t | some (.own d) => P d t | _ => False) := hd
  cases q : env[i]? with
  | none => rw [q] at hd; exact hd.elim
  | some s =>
    rw [q] at hd
    cases s with
    | val d =>
      obtain ⟨v, h1, h2⟩ := C.val i d q
      exact ⟨v, h1, k v d F pa t H (Gr.refl _ _) C (.inl h2) hd⟩
    | no => exact hd.elim
    | own d =>
      obtain ⟨a, h, h1, h2, h3, _⟩ := C.own i d q
      exact ⟨.ref a, h1, k _ d F pa t H (Gr.refl _ _) C (.inr ⟨i, q, h1⟩) hd⟩
theorem q_c {v : V} {d : D} (h : PE X e (tC v)) (r : ∀ F pa, RelD X.K F pa d v) : QE X B e (dC d) := PE.imp h fun σ H Q ⟨F, pa, t, env, P, C, hd, k⟩ => k v d F pa t H (Gr.refl _ _) C (r F pa) hd
theorem q_int {i : Int} {j pos} : QE X B (.Constant (.int i) j pos) (dC (.int i)) := q_c pe_int fun _ _ => by unfold RelD; rfl
theorem q_bl {i : Bool} {j pos} : QE X B (.Constant (.bool i) j pos) (dC (.bl i)) := q_c pe_bl fun _ _ => by unfold RelD; rfl
theorem q_non {j pos} : QE X B (.Constant .none j pos) (dC .non) := q_c pe_non fun _ _ => by unfold RelD; rfl
theorem q_str {i : Str} {j pos} : QE X B (.Constant (.str i) j pos) (dC (.str i)) := q_c pe_str fun _ _ => by unfold RelD; rfl
def ROp (K : PySem.W.Frag) (r : R2) (o : DOp) : Prop := ∀ (B : Bs) F pa t env σ H x y v u P (Q : VK), Cf K B F pa t env σ H → RelX K F pa env σ x v → RelX K F pa env σ y u → o x y P →
  (∀ w d F' H', Gr F pa F' pa → Cf K B F' pa t env σ H' → RelD K F' pa d w → P d → Q w H') → r v u H Q
def RUn (K : PySem.W.Frag) (r : V → Hp → VK → Prop) (o : DU) : Prop := ∀ (B : Bs) F pa t env σ H x v P (Q : VK), Cf K B F pa t env σ H → RelX K F pa env σ x v → o x P →
  (∀ w d F' H', Gr F pa F' pa → Cf K B F' pa t env σ H' → RelD K F' pa d w → P d → Q w H') → r v H Q
theorem ev2 {r : R2} {o : DOp} (hr : ROp K r o) : ∀ σ H Q, teOf K B (dOp o da db) σ H Q → tOp r (tvOf K B da) (tvOf K B db) σ H Q := fun σ H Q ⟨F, pa, t, env, P, C, hd, k⟩ =>
  ⟨F, pa, t, env, _, C, hd, fun v x F1 pa1 t1 H1 g1 C1 r1 q1 => ⟨F1, pa1, t1, env, _, C1, q1, fun u y F2 pa2 t2 H2 g2 C2 r2 q2 =>
    hr B F2 pa2 t2 env σ H2 x y v u _ Q C2 (r1.mono g2) r2 q2 fun w d F' H' g3 C3 r3 q3 => k w d F' pa2 t2 H' ((g1.trans g2).trans g3) C3 r3 q3⟩⟩
theorem q_op {op : Operator} {r : R2} {o : DOp} (ho : OpR X (binaryOp op) r) (hr : ROp X.K r o) (ha : QV X B a da) (hb : QV X B b db) : QE X B (.BinOp a op b pos) (dOp o da db) := PE.imp (pe_op ho ha hb) (ev2 hr)
theorem q_un {op : UnaryOp} {r : V → Hp → VK → Prop} {o : DU} (ho : UnR X (unaryOp op) r) (hr : RUn X.K r o) (ha : QV X B a da) : QE X B (.UnaryOp op a pos) (dUn o da) := PE.imp (pe_un ho ha) fun σ H Q ⟨F, pa, t, env, P, C, hd, k⟩ =>
  ⟨F, pa, t, env, _, C, hd, fun v x F1 pa1 t1 H1 g1 C1 r1 q1 => hr B F1 pa1 t1 env σ H1 x v _ Q C1 r1 q1 fun w d F' H' g3 C3 r3 q3 => k w d F' pa1 t1 H' (g1.trans g3) C3 r3 q3⟩
theorem q_cmp {op : CmpOp} {r : R2} {o : DOp} (ho : OpR X (compareOp op) r) (hr : ROp X.K r o) (ha : QV X B a da) (hb : QV X B b db) (hm : behindInMarks op b = false) : QE X B (.Compare a [op] [b] pos) (dOp o da db) := PE.imp (pe_cmpR ho ha hb hm) (ev2 hr)
theorem q_tcmp {op : CmpOp} {r : R2} {o : DOp} (ho : OpR X (compareOp op) r) (hr : ROp X.K r o) (ha : QV X B a da) (hb : QV X B b db) (hm : behindInMarks op b = false) : QT X B (.Compare a [op] [b] pos) (dB (dOp o da db)) := PT.imp (pt_cmpR ho ha hb hm) fun σ H Q ⟨F, pa, t, env, P, C, hd, k⟩ => by
  refine ev2 hr σ H _ ⟨F, pa, t, env, _, C, hd, fun v d F' pa' t' H' g C' rd q => ?_⟩
  cases d with
  | bl b => unfold RelD at rd; exact ⟨b, rd, k b F' pa' t' H' g C' q⟩
  | _ => exact q.elim
theorem rD_int {F : Hp} {pa : Option Addr} (i : Int) : RelD K F pa (.int i) (.int i) := by unfold RelD; rfl
theorem rD_bl {F : Hp} {pa : Option Addr} (i : Bool) : RelD K F pa (.bl i) (.bl i) := by unfold RelD; rfl
theorem rD_str {F : Hp} {pa : Option Addr} (i : Str) : RelD K F pa (.str i) (.str i) := by unfold RelD; rfl
theorem rD_non {F : Hp} {pa : Option Addr} : RelD K F pa .non .non := by unfold RelD; rfl
theorem rop_int {C : Int → Int → Prop} {g : Int → Int → V} {f : Int → Int → D} {o : DOp} (hg : ∀ F pa i j, RelD K F pa (f i j) (g i j)) (ho : ∀ x y P, o x y P → ∃ i j, x = .int i ∧ y = .int j ∧ C i j ∧ P (f i j)) : ROp K (rI C g) o := fun B F pa t env σ H x y v u P Q W rx ry h k => by
  obtain ⟨i, j, rfl, rfl, hc, p⟩ := ho x y P h
  exact ⟨i, j, rx.int W, ry.int W, hc, k _ _ F H (Gr.refl _ _) W (hg F pa i j) p⟩
theorem rop_int0 {g : Int → Int → V} {f : Int → Int → D} {o : DOp} (hg : ∀ F pa i j, RelD K F pa (f i j) (g i j)) (ho : ∀ x y P, o x y P → ∃ i j, x = .int i ∧ y = .int j ∧ P (f i j)) : ROp K (rI0 g) o := fun B F pa t env σ H x y v u P Q W rx ry h k => by
  obtain ⟨i, j, rfl, rfl, p⟩ := ho x y P h
  exact ⟨i, j, rx.int W, ry.int W, k _ _ F H (Gr.refl _ _) W (hg F pa i j) p⟩
theorem rop_sub : ROp K (rI0 fun i j => .int (i - j)) oSub := rop_int0 (f := fun i j => .int (i - j)) (fun _ _ _ _ => rD_int _) fun x y P h => by
  cases x <;> cases y <;> first | exact ⟨_, _, rfl, rfl, h⟩ | exact (False.elim h)
theorem rop_lt : ROp K (rI0 fun i j => .bl (decide (i < j))) oLt := rop_int0 (f := fun i j => .bl (decide (i < j))) (fun _ _ _ _ => rD_bl _) fun x y P h => by
  cases x <;> cases y <;> first | exact ⟨_, _, rfl, rfl, h⟩ | exact (False.elim h)
theorem rop_le : ROp K (rI0 fun i j => .bl (decide (i ≤ j))) oLe := rop_int0 (f := fun i j => .bl (decide (i ≤ j))) (fun _ _ _ _ => rD_bl _) fun x y P h => by
  cases x <;> cases y <;> first | exact ⟨_, _, rfl, rfl, h⟩ | exact (False.elim h)
theorem rop_gt : ROp K (rI0 fun i j => .bl (decide (j < i))) oGt := rop_int0 (f := fun i j => .bl (decide (j < i))) (fun _ _ _ _ => rD_bl _) fun x y P h => by
  cases x <;> cases y <;> first | exact ⟨_, _, rfl, rfl, h⟩ | exact (False.elim h)
theorem rop_ge : ROp K (rI0 fun i j => .bl (decide (j ≤ i))) oGe := rop_int0 (f := fun i j => .bl (decide (j ≤ i))) (fun _ _ _ _ => rD_bl _) fun x y P h => by
  cases x <;> cases y <;> first | exact ⟨_, _, rfl, rfl, h⟩ | exact (False.elim h)
theorem rop_mod : ROp K (rI (fun _ j => 0 < j) fun i j => .int (i % j)) oMod := rop_int (f := fun i j => .int (i % j)) (fun _ _ _ _ => rD_int _) fun x y P h => by
  cases x <;> cases y <;> first | exact ⟨_, _, rfl, rfl, h.1, h.2⟩ | exact (False.elim h)
theorem rop_div : ROp K (rI CDivW fun i j => .int (i / j)) oDiv := rop_int (f := fun i j => .int (i / j)) (fun _ _ _ _ => rD_int _) fun x y P h => by
  cases x <;> cases y <;> first | exact ⟨_, _, rfl, rfl, wide_div h.1.1 h.1.2 (by decide) (by decide), h.2⟩ | exact (False.elim h)
theorem zle {n : Nat} (h : n ≤ zLen) : n ≤ sizeLine := by rw [sizeLine_eq]; unfold zLen at h; omega
theorem zlt {n : Nat} (h : n < zLen) : n < sizeLine := by rw [sizeLine_eq]; unfold zLen at h; omega
theorem few_of {l : List D} {p : Prop} (h : Few l p) : l.length ≤ sizeLine ∧ p := by
  unfold Few at h
  split at h
  · rename_i e
    exact ⟨by rw [sizeLine_eq]; have := Nat.le_of_ble_eq_true e; omega, h⟩
  · exact h.elim
theorem new_lst {F : Hp} {pa : Option Addr} {t : Ts} {env : En} {σ : L2.St} {H : Hp} {p : Addr} {l : List D} {vs : List V} (C : Cf K B F pa t env σ H) (h : H p = none) (r : RelL K F pa l vs) :
    ∃ F', Gr F pa F' pa ∧ Cf K B F' pa t env σ (upd H p (.lst vs)) ∧ RelD K F' pa (.lst l) (.ref p) := by
  obtain ⟨g, C'⟩ := C.alloc (.lst vs) h
  exact ⟨_, g, C', RelO1.rel (d := .lst l) ⟨vs, rfl, RelL.mono g l vs r⟩ upd_same⟩
theorem new_tup {F : Hp} {pa : Option Addr} {t : Ts} {env : En} {σ : L2.St} {H : Hp} {p : Addr} {l : List D} {vs : List V} (C : Cf K B F pa t env σ H) (h : H p = none) (r : RelL K F pa l vs) :
    ∃ F', Gr F pa F' pa ∧ Cf K B F' pa t env σ (upd H p (.tup vs)) ∧ RelD K F' pa (.tup l) (.ref p) := by
  obtain ⟨g, C'⟩ := C.alloc (.tup vs) h
  refine ⟨_, g, C', ?_⟩
  unfold RelD
  exact ⟨p, vs, rfl, upd_same, RelL.mono g l vs r⟩
def rAdd4 (K : PySem.W.Frag) : R2 := fun x y H Q => (rI0 (fun i j => .int (i + j)) x y H Q ∨ rCat x y H Q) ∨ (rCatT K x y H Q ∨ ∃ i j, x = .str i ∧ y = .str j ∧ i.length + j.length ≤ sizeLine ∧ Q (.str (i ++ j)) H)
theorem op_add4 : OpR X (binaryOp .Add) (rAdd4 X.K) := (op_add.or op_cat).or (op_catT.or op_add_str)
theorem rop_add : ROp K (rAdd4 K) oAdd := fun B F pa t env σ H x y v u P Q W rx ry h k => by
  cases x with
  | int i =>
    cases y with
    | int j => exact .inl (.inl ⟨i, j, rx.int W, ry.int W, k _ _ F H (Gr.refl _ _) W (rD_int _) h⟩)
    | _ => exact h.elim
  | str i =>
    cases y with
    | str j => exact .inr (.inr ⟨i, j, rx.str W, ry.str W, zle h.1, k _ _ F H (Gr.refl _ _) W (rD_str _) h.2⟩)
    | _ => exact h.elim
  | lst l =>
    cases y with
    | lst m =>
      obtain ⟨a, vs, rfl, e1, r1⟩ := rx.lst W
      obtain ⟨b, ws, rfl, e2, r2⟩ := ry.lst W
      refine .inl (.inr ⟨a, b, vs, ws, rfl, rfl, e1, e2, by rw [r1.len, r2.len]; exact zle h.1, fun p hp => ?_⟩)
      obtain ⟨F', g, C', rd⟩ := new_lst W hp (r1.append r2)
      exact k _ _ F' _ g C' rd h.2
    | _ => exact h.elim
  | tup l =>
    cases y with
    | tup m =>
      obtain ⟨a, vs, rfl, e1, _, r1⟩ := rx.tup W
      obtain ⟨b, ws, rfl, e2, _, r2⟩ := ry.tup W
      obtain ⟨⟨hz, hl, hm⟩, hp⟩ := h
      refine .inr (.inl ⟨a, b, vs, ws, rfl, rfl, SqT.of e1, SqT.of e2, ?_, by rw [r1.len, r2.len]; exact zle hz, ?_, fun _ p hp' => ?_⟩)
      · intro e; have := r1.len; rw [e] at this; exact hl (List.length_eq_zero_iff.mp this.symm)
      · intro e; have := r2.len; rw [e] at this; exact absurd (List.length_eq_zero_iff.mp this.symm) hm
      · obtain ⟨F', g, C', rd⟩ := new_tup W hp' (r1.append r2)
        exact k _ _ F' _ g C' rd hp
    | _ => exact h.elim
  | _ => exact h.elim
theorem sm_mul {i j : Int} (h : MulOk i j) : CMul i j ∨ CMulW i j := by
  rcases h with h | h | ⟨a, b, h1, h2, h3, h4, h5⟩
  · have h : i.natAbs < 2 ^ 64 := h
    exact .inl (.inl ⟨by omega, by omega⟩)
  · have h : j.natAbs < 2 ^ 64 := h
    exact .inl (.inr ⟨by omega, by omega⟩)
  · exact .inr (wide_mul h1 h2 h3 h4 h5)
def rMul3 : R2 := fun x y H Q => (rI CMul (fun i j => .int (i * j)) x y H Q ∨ rI CMulW (fun i j => .int (i * j)) x y H Q) ∨ rRep x y H Q
theorem op_mul3 : OpR X (binaryOp .Mult) rMul3 := (op_mul.or op_mulW).or op_rep
theorem rop_mul : ROp K rMul3 oMul := fun B F pa t env σ H x y v u P Q W rx ry h k => by
  cases x with
  | int i =>
    cases y with
    | int j =>
      rcases sm_mul h.1 with c | c
      · exact .inl (.inl ⟨i, j, rx.int W, ry.int W, c, k _ _ F H (Gr.refl _ _) W (rD_int _) h.2⟩)
      · exact .inl (.inr ⟨i, j, rx.int W, ry.int W, c, k _ _ F H (Gr.refl _ _) W (rD_int _) h.2⟩)
    | _ => exact h.elim
  | lst l =>
    cases y with
    | int j =>
      obtain ⟨a, vs, rfl, e1, r1⟩ := rx.lst W
      obtain ⟨⟨h1, h2, h3⟩, hp⟩ := h
      refine .inr ⟨a, j, vs, rfl, ry.int W, e1, by omega, by omega, by rw [r1.len]; exact zle h3, fun p hp' => ?_⟩
      obtain ⟨F', g, C', rd⟩ := new_lst W hp' (r1.rep j.toNat)
      exact k _ _ F' _ g C' rd hp
    | _ => exact h.elim
  | _ => exact h.elim
theorem sm_pow {i j : Int} (h : PowOk i j) : 0 ≤ j ∧ (Builtin.Int.intBits i : Int) * j ≤ 2 ^ 27 := by
  obtain ⟨h0, a, ha, hb⟩ := h
  refine ⟨h0, ?_⟩
  have hi : Builtin.Int.intBits i ≤ a ∨ i = 0 := by
    unfold Builtin.Int.intBits
    by_cases e : i = 0
    · exact .inr e
    · left
      split
      · omega
      · have ha' : i.natAbs < 2 ^ a := ha
        have : i.natAbs.log2 < a := (Nat.log2_lt (by omega)).mpr ha'
        omega
  rcases hi with hi | rfl
  · have h1 : (Builtin.Int.intBits i : Int) ≤ (a : Int) := by omega
    have := Int.mul_le_mul_of_nonneg_right h1 h0
    have : (2 : Int) ^ 27 = 134217728 := by decide
    omega
  · have : (Builtin.Int.intBits 0 : Int) ≤ 1 := by decide
    have hj : j ≤ 100000000 ∨ a = 0 := by
      by_cases e : a = 0
      · exact .inr e
      · left
        have h1 : (1 : Int) ≤ (a : Int) := by omega
        have := Int.mul_le_mul_of_nonneg_right h1 h0
        omega
    rcases hj with hj | rfl
    · have := Int.mul_le_mul_of_nonneg_right this h0
      have : (2 : Int) ^ 27 = 134217728 := by decide
      omega
    · have e0 : Builtin.Int.intBits 0 = 0 := by decide
      rw [e0]
      have : (2 : Int) ^ 27 = 134217728 := by decide
      omega
theorem op_powW : OpR X (binaryOp .Pow) (rI (fun i j => PowOk i j) fun i j => .int (i ^ j.toNat)) := opI fun _ _ _ _ _ _ _ hc q => pow_int (sm_pow hc).1 (sm_pow hc).2 q
theorem rop_pow : ROp K (rI (fun i j => PowOk i j) fun i j => .int (i ^ j.toNat)) oPow := rop_int (f := fun i j => .int (i ^ j.toNat)) (fun _ _ _ _ => rD_int _) fun x y P h => by
  cases x <;> cases y <;> first | exact ⟨_, _, rfl, rfl, h.1, h.2⟩ | exact (False.elim h)
theorem run_neg : RUn K (rU fun i => .int (-i)) oNeg := fun B F pa t env σ H x v P Q W rx h k => by
  cases x with
  | int i => exact ⟨i, rx.int W, k _ _ F H (Gr.refl _ _) W (rD_int _) h⟩
  | _ => exact h.elim
mutual
theorem eqv_toPy : ∀ (x y : D), plain x = true → plain y = true → PyData.eqv (toPy x) (toPy y) = deq x y
  | .lst l, .lst m, hx, hy => by
    simp only [toPy, PyData.eqv, deq]
    exact eqvs_toPy l m hx hy
  | .tup l, .tup m, hx, hy => by
    simp only [toPy, PyData.eqv, deq]
    exact eqvs_toPy l m hx hy
  | .non, y, hx, hy => by cases y <;> first | rfl | (simp [plain] at hy; done)
  | .bl b, y, hx, hy => by cases y <;> first | rfl | (simp [plain] at hy; done)
  | .int b, y, hx, hy => by cases y <;> first | rfl | (simp [plain] at hy; done)
  | .str b, y, hx, hy => by cases y <;> first | rfl | (simp [plain] at hy; done) | (simp [toPy, PyData.eqv, deq]; done)
  | .lst l, .non, _, _ => rfl
  | .lst l, .bl _, _, _ => rfl
  | .lst l, .int _, _, _ => rfl
  | .lst l, .str _, _, _ => rfl
  | .lst l, .tup _, _, _ => rfl
  | .lst l, .dic _ _, _, hy => by simp [plain] at hy
  | .lst l, .ins _ _ _, _, hy => by simp [plain] at hy
  | .lst l, .pen, _, hy => by simp [plain] at hy
  | .lst l, .ty _, _, hy => by simp [plain] at hy
  | .lst l, .adr _, _, hy => by simp [plain] at hy
  | .lst l, .rp _, _, hy => by simp [plain] at hy
  | .lst l, .scr _, _, hy => by simp [plain] at hy
  | .tup l, .non, _, _ => rfl
  | .tup l, .bl _, _, _ => rfl
  | .tup l, .int _, _, _ => rfl
  | .tup l, .str _, _, _ => rfl
  | .tup l, .lst _, _, _ => rfl
  | .tup l, .dic _ _, _, hy => by simp [plain] at hy
  | .tup l, .ins _ _ _, _, hy => by simp [plain] at hy
  | .tup l, .pen, _, hy => by simp [plain] at hy
  | .tup l, .ty _, _, hy => by simp [plain] at hy
  | .tup l, .adr _, _, hy => by simp [plain] at hy
  | .tup l, .rp _, _, hy => by simp [plain] at hy
  | .tup l, .scr _, _, hy => by simp [plain] at hy
  | .dic _ _, _, hx, _ => by simp [plain] at hx
  | .ins _ _ _, _, hx, _ => by simp [plain] at hx
  | .pen, _, hx, _ => by simp [plain] at hx
  | .ty _, _, hx, _ => by simp [plain] at hx
  | .adr _, _, hx, _ => by simp [plain] at hx
  | .rp _, _, hx, _ => by simp [plain] at hx
  | .scr _, _, hx, _ => by simp [plain] at hx
theorem eqvs_toPy : ∀ (x y : List D), plains x = true → plains y = true → PyData.eqvAll (toPys x) (toPys y) = deqs x y
  | [], [], _, _ => rfl
  | [], _ :: _, _, _ => rfl
  | _ :: _, [], _, _ => rfl
  | x :: l, y :: m, hx, hy => by
    simp only [plains, Bool.and_eq_true] at hx hy
    simp only [toPys, PyData.eqvAll, deqs]
    rw [eqv_toPy x y hx.1 hy.1, eqvs_toPy l m hx.2 hy.2]
end
mutual
theorem lay_toPy : ∀ x : D, plain x = true → (toPy x).canLay0 = true
  | .non, _ => rfl
  | .bl _, _ => rfl
  | .int _, _ => rfl
  | .str x, h => by
    have h : x.cps.all (· < 0x110000) = true := by simpa [plain] using h
    simpa [toPy, PyData.canLay0, PyData.strOk] using h
  | .lst l, h => by simp only [toPy, PyData.canLay0]; exact lays_toPy l (by simpa [plain] using h)
  | .tup l, h => by simp only [toPy, PyData.canLay0]; exact lays_toPy l (by simpa [plain] using h)
  | .dic _ _, h => by simp [plain] at h
  | .ins _ _ _, h => by simp [plain] at h
  | .pen, h => by simp [plain] at h
  | .ty _, h => by simp [plain] at h
  | .adr _, h => by simp [plain] at h
  | .rp _, h => by simp [plain] at h
  | .scr _, h => by simp [plain] at h
theorem lays_toPy : ∀ x : List D, plains x = true → PyData.canLayAll0 (toPys x) = true
  | [], _ => rfl
  | x :: l, h => by
    simp only [plains, Bool.and_eq_true] at h
    simp only [toPys, PyData.canLayAll0, Bool.and_eq_true]
    exact ⟨lay_toPy x h.1, lays_toPy l h.2⟩
end
mutual
theorem dep_toPy : ∀ x : D, plain x = true → (toPy x).depth = deep x
  | .non, _ => rfl
  | .bl _, _ => rfl
  | .int _, _ => rfl
  | .str x, h => rfl
  | .lst l, h => by simp only [toPy, PyData.depth, deep]; rw [deps_toPy l (by simpa [plain] using h)]
  | .tup l, h => by simp only [toPy, PyData.depth, deep]; rw [deps_toPy l (by simpa [plain] using h)]
  | .dic _ _, h => by simp [plain] at h
  | .ins _ _ _, h => by simp [plain] at h
  | .pen, h => by simp [plain] at h
  | .ty _, h => by simp [plain] at h
  | .adr _, h => by simp [plain] at h
  | .rp _, h => by simp [plain] at h
  | .scr _, h => by simp [plain] at h
theorem deps_toPy : ∀ x : List D, plains x = true → PyData.depthAll (toPys x) = deeps x
  | [], _ => rfl
  | x :: l, h => by
    simp only [plains, Bool.and_eq_true] at h
    simp only [toPys, PyData.depthAll, deeps]
    rw [dep_toPy x h.1, deps_toPy l h.2]
end
theorem shaped_toPy {x : D} (h : plain x = true) (d : deep x ≤ 60) : SeqAt.shaped (toPy x) = true := by
  unfold SeqAt.shaped
  rw [lay_toPy x h, dep_toPy x h, decide_eq_true (by omega)]
  rfl
mutual
theorem dp_of {F : Hp} {pa : Option Addr} {H : Hp} (g : ∀ a o, F a = some o → H a = some o) : ∀ (x : D) (v : V), RelD K F pa x v → plain x = true → Dp K H v (toPy x)
  | .non, v, r, _ => by unfold RelD at r; subst r; exact .non
  | .bl b, v, r, _ => by unfold RelD at r; subst r; exact .bl b
  | .int i, v, r, _ => by unfold RelD at r; subst r; exact .int i
  | .str x, v, r, _ => by unfold RelD at r; subst r; exact .str x
  | .lst l, v, r, h => by
    unfold RelD at r
    obtain ⟨a, vs, rfl, e, q⟩ := r
    exact .lst (SqL.of (g _ _ e)) (dps_of g l vs q (by simpa [plain] using h))
  | .tup l, v, r, h => by
    unfold RelD at r
    obtain ⟨a, vs, rfl, e, q⟩ := r
    exact .tup (SqT.of (g _ _ e)) (dps_of g l vs q (by simpa [plain] using h))
  | .dic _ _, _, _, h => by simp [plain] at h
  | .ins _ _ _, _, _, h => by simp [plain] at h
  | .pen, _, _, h => by simp [plain] at h
  | .ty _, _, _, h => by simp [plain] at h
  | .adr _, _, _, h => by simp [plain] at h
  | .rp _, _, _, h => by simp [plain] at h
  | .scr _, _, _, h => by simp [plain] at h
theorem dps_of {F : Hp} {pa : Option Addr} {H : Hp} (g : ∀ a o, F a = some o → H a = some o) : ∀ (x : List D) (vs : List V), RelL K F pa x vs → plains x = true → DpAll K H vs (toPys x)
  | [], vs, r, _ => by rw [r.inv0]; exact .nil
  | x :: l, vs, r, h => by
    obtain ⟨v, vr, rfl, r1, r2⟩ := r.inv
    simp only [plains, Bool.and_eq_true] at h
    exact .cons (dp_of g x v r1 h.1) (dps_of g l vr r2 h.2)
end
theorem dp_x {F : Hp} {pa : Option Addr} {t : Ts} {env : En} {σ : L2.St} {H : Hp} {x : D} {v : V} (W : Cf K B F pa t env σ H) (r : RelX K F pa env σ x v) (h : plain x = true) : Dp K H v (toPy x) := by
  rcases r with r | ⟨i, h1, h2⟩
  · exact dp_of W.sub x v r h
  · cases x with
    | lst l =>
      obtain ⟨a, vs, rfl, e, q⟩ := RelX.lst W (.inr ⟨i, h1, h2⟩)
      exact .lst (SqL.of e) (dps_of W.sub l vs q (by simpa [plain] using h))
    | dic _ _ => simp [plain] at h
    | ins _ _ _ => simp [plain] at h
    | _ => obtain ⟨a, hh, s1, q, z, _⟩ := W.own i _ h1; exact z.elim
theorem oEq_int {x y : D} {P : D → Prop} (h : oEq x y P) : (∃ i j, x = .int i ∧ y = .int j ∧ P (.bl (decide (i = j)))) ∨ ((plain x = true ∧ plain y = true ∧ deep x ≤ 60 ∧ deep y ≤ 60) ∧ P (.bl (deq x y))) := by
  unfold oEq at h
  split at h
  · exact .inl ⟨_, _, rfl, rfl, h⟩
  · exact .inr h
theorem oNe_int {x y : D} {P : D → Prop} (h : oNe x y P) : (∃ i j, x = .int i ∧ y = .int j ∧ P (.bl (!decide (i = j)))) ∨ ((plain x = true ∧ plain y = true ∧ deep x ≤ 60 ∧ deep y ≤ 60) ∧ P (.bl (!deq x y))) := by
  unfold oNe at h
  split at h
  · exact .inl ⟨_, _, rfl, rfl, h⟩
  · exact .inr h
theorem rop_eq : ROp K (rEqD K) oEq := fun B F pa t env σ H x y v u P Q W rx ry h k => by
  rcases oEq_int h with ⟨i, j, rfl, rfl, p⟩ | ⟨⟨h1, h2, h3, h4⟩, p⟩
  · refine ⟨.int i, .int j, by rw [rx.int W]; exact .int i, by rw [ry.int W]; exact .int j, rfl, rfl, ?_⟩
    refine k _ (.bl (decide (i = j))) F H (Gr.refl _ _) W ?_ p
    rw [show PyData.eqv (.int i) (.int j) = decide (i = j) by simp [PyData.eqv, Bool.beq_eq_decide_eq]]
    exact rD_bl _
  · refine ⟨toPy x, toPy y, dp_x W rx h1, dp_x W ry h2, shaped_toPy h1 h3, shaped_toPy h2 h4, ?_⟩
    rw [eqv_toPy x y h1 h2]
    exact k _ _ F H (Gr.refl _ _) W (rD_bl _) p
theorem rop_ne : ROp K (rNeD K) oNe := fun B F pa t env σ H x y v u P Q W rx ry h k => by
  rcases oNe_int h with ⟨i, j, rfl, rfl, p⟩ | ⟨⟨h1, h2, h3, h4⟩, p⟩
  · refine ⟨.int i, .int j, by rw [rx.int W]; exact .int i, by rw [ry.int W]; exact .int j, rfl, rfl, ?_⟩
    refine k _ (.bl (!decide (i = j))) F H (Gr.refl _ _) W ?_ p
    rw [show PyData.eqv (.int i) (.int j) = decide (i = j) by simp [PyData.eqv, Bool.beq_eq_decide_eq]]
    exact rD_bl _
  · refine ⟨toPy x, toPy y, dp_x W rx h1, dp_x W ry h2, shaped_toPy h1 h3, shaped_toPy h2 h4, ?_⟩
    rw [eqv_toPy x y h1 h2]
    exact k _ _ F H (Gr.refl _ _) W (rD_bl _) p
theorem atI_rel {F : Hp} {pa : Option Addr} {l : List D} {vs : List V} {i : Int} {d : D} (r : RelL K F pa l vs) (h : Q.atI l i = some d) : ∃ v, L2.atI vs i = some v ∧ RelD K F pa d v := by
  unfold Q.atI at h
  unfold L2.atI L2.ixN
  rw [r.len]
  split at h
  · rename_i h0
    split at h
    · rename_i h1
      obtain ⟨v, q, z⟩ := r.get h
      refine ⟨v, ?_, z⟩
      rw [if_pos h0, if_pos h1]
      exact q
    · cases h
  · rename_i h0
    split at h
    · rename_i h1
      obtain ⟨v, q, z⟩ := r.get h
      refine ⟨v, ?_, z⟩
      rw [if_neg h0, if_pos h1]
      exact q
    · cases h
theorem rop_ix : ROp K (rIx K) oIx := fun B F pa t env σ H x y v u P Q W rx ry h k => by
  cases x with
  | lst l =>
    cases y with
    | int i =>
      obtain ⟨d, hd, p⟩ := h
      obtain ⟨a, vs, rfl, e1, r1⟩ := rx.lst W
      obtain ⟨w, hw, rw'⟩ := atI_rel r1 hd
      exact .inl ⟨a, vs, i, w, rfl, ry.int W, SqL.of e1, hw, k _ _ F H (Gr.refl _ _) W rw' p⟩
    | _ => exact h.elim
  | tup l =>
    cases y with
    | int i =>
      obtain ⟨d, hd, p⟩ := h
      obtain ⟨a, vs, rfl, e1, _, r1⟩ := rx.tup W
      obtain ⟨w, hw, rw'⟩ := atI_rel r1 hd
      exact .inr (.inl ⟨a, vs, i, w, rfl, ry.int W, SqT.of e1, hw, k _ _ F H (Gr.refl _ _) W rw' p⟩)
    | _ => exact h.elim
  | _ => exact h.elim
theorem q_ix (ha : QV X B a da) (hb : QV X B b db) (hs : PlainIx b) : QE X B (.Subscript a b pos) (dOp oIx da db) := PE.imp (pe_ix ix_seq ha hb hs) (ev2 rop_ix)
end
end Q
/-! QH3 -/
namespace Q
open PySem L2 PyProof.Rows
section
variable {X : Cx} {B : Bs} {K : PySem.W.Frag} {a b c e : Expr} {es : List Expr} {pos : Pos} {da db dc : DE} {as : DA}
theorem q_anil : QA X B [] dNil := PA.imp pa_nil fun σ H Q ⟨F, pa, t, env, P, C, hd, k⟩ => k [] [] F pa t H (Gr.refl _ _) C RelL.nil hd
theorem q_acons {r : DA} (ha : QE X B e da) (hr : QA X B es r) (hs : starEach (e :: es) X.env = (false, eval e X.env) :: starEach es X.env := by rfl) : QA X B (e :: es) (dCons da r) := PA.imp (pa_cons ha hr hs) fun σ H Q ⟨F, pa, t, env, P, C, hd, k⟩ =>
  ⟨F, pa, t, env, _, C, hd, fun v d F1 pa1 t1 H1 g1 C1 r1 q1 => ⟨F1, pa1, t1, env, _, C1, q1, fun vs ds F2 pa2 t2 H2 g2 C2 r2 q2 => k _ _ F2 pa2 t2 H2 (g1.trans g2) C2 (.cons (RelD.mono g2 d v r1) r2) q2⟩⟩
theorem q_xnil : QX X B [] dNil := PA.imp pa_nil fun σ H Q ⟨F, pa, t, env, P, C, hd, k⟩ => k [] [] F pa t H (Gr.refl _ _) C .nil hd
theorem q_xcons {r : DA} (ha : QV X B e da) (hr : QX X B es r) (hs : starEach (e :: es) X.env = (false, eval e X.env) :: starEach es X.env := by rfl) : QX X B (e :: es) (dCons da r) := PA.imp (pa_cons ha hr hs) fun σ H Q ⟨F, pa, t, env, P, C, hd, k⟩ =>
  ⟨F, pa, t, env, _, C, hd, fun v d F1 pa1 t1 H1 g1 C1 r1 q1 => ⟨F1, pa1, t1, env, _, C1, q1, fun vs ds F2 pa2 t2 H2 g2 C2 r2 q2 => k _ _ F2 pa2 t2 H2 (g1.trans g2) C2 (.cons (r1.mono g2) r2) q2⟩⟩
theorem q_lst (h : QA X B es as) : QN X B (.List es pos) (dLst as) := PE.imp (pe_lst h) fun σ H Q ⟨F, pa, t, env, P, C, hd, k⟩ => ⟨F, pa, t, env, _, C, hd, fun vs ds F' pa' t' H' g C' r q => by
  obtain ⟨hl, q⟩ := few_of q
  refine ⟨by rw [r.len]; exact hl, fun p hp => ?_⟩
  exact k p _ (.lst ds) F' pa' t' _ g (C'.loose _ hp) (C'.nw hp) upd_same ⟨vs, rfl, r⟩ q⟩
theorem q_tup {x1} (h : QA X B es as) : QE X B (.Tuple es x1 pos) (dTup as) := PE.imp (pe_tup h) fun σ H Q ⟨F, pa, t, env, P, C, hd, k⟩ => ⟨F, pa, t, env, _, C, hd, fun vs ds F' pa' t' H' g C' r q => by
  obtain ⟨hl, q⟩ := few_of q
  refine ⟨by rw [r.len]; exact hl, fun p hp => ?_⟩
  obtain ⟨F2, g2, C2, rd⟩ := new_tup C' hp r
  exact k _ _ F2 pa' t' _ (g.trans g2) C2 rd q⟩
def RCall (K : PySem.W.Frag) (r : List V → Hp → VK → Prop) (o : DB) : Prop := ∀ (B : Bs) F pa t env σ H xs vs P (Q : VK), Cf K B F pa t env σ H → RelXs K F pa env σ xs vs → o xs P →
  (∀ w d F' H', Gr F pa F' pa → Cf K B F' pa t env σ H' → RelD K F' pa d w → P d → Q w H') → r vs H Q
def RCallN (K : PySem.W.Frag) (r : List V → Hp → VK → Prop) (o : DB) : Prop := ∀ (B : Bs) F pa t env σ H xs vs P (Q : VK), Cf K B F pa t env σ H → RelXs K F pa env σ xs vs → o xs P →
  (∀ p h d F' H', Gr F pa F' pa → Cf K B F' pa t env σ H' → Nw B F' pa t env σ p → H' p = some h → RelO1 K F' pa d h → P d → Q (.ref p) H') → r vs H Q
theorem ev_cb {r : List V → Hp → VK → Prop} {o : DB} (hr : RCall K r o) : ∀ σ H Q, teOf K B (dCB o as) σ H Q → tCB r (txOf K B as) σ H Q := fun σ H Q ⟨F, pa, t, env, P, C, hd, k⟩ =>
  ⟨F, pa, t, env, _, C, hd, fun vs ds F1 pa1 t1 H1 g1 C1 r1 q1 => hr B F1 pa1 t1 env σ H1 ds vs _ Q C1 r1 q1 fun w d F' H' g3 C3 r3 q3 => k w d F' pa1 t1 H' (g1.trans g3) C3 r3 q3⟩
theorem ev_cbN {r : List V → Hp → VK → Prop} {o : DB} (hr : RCallN K r o) : ∀ σ H Q, tnOf K B (dCB o as) σ H Q → tCB r (txOf K B as) σ H Q := fun σ H Q ⟨F, pa, t, env, P, C, hd, k⟩ =>
  ⟨F, pa, t, env, _, C, hd, fun vs ds F1 pa1 t1 H1 g1 C1 r1 q1 => hr B F1 pa1 t1 env σ H1 ds vs _ Q C1 r1 q1 fun p h d F' H' g3 C3 n3 e3 r3 q3 => k p h d F' pa1 t1 H' (g1.trans g3) C3 n3 e3 r3 q3⟩
section
variable {x : Str} {p : Pos} {id T : String} {r : List V → Hp → VK → Prop} {o : DB}
theorem q_callB (hc : CallR X (.builtin id) r) (hr : RCall X.K r o) (hg : Gl X x) (hm : X.mg x = none) (hv : bootBuiltins x = some (.builtin id)) (ha : QX X B (e :: es) as) (hn : x ≠ "__name__" := by decide) (hdb : (x == ("__debug__" : Str)) = false := by decide)
    (he : starEach (e :: es) X.env = (false, eval e X.env) :: starEach es X.env := by rfl) (hpl : (backTo pos (starEach es X.env)).any (·.1) = false := by rfl) : QE X B (.Call (.Name x p) (e :: es) [] pos) (dCB o as) := PE.imp (pe_callB hc hg hm hv ha hn hdb he hpl) (ev_cb hr)
theorem q_callTy (hc : CallR X (.type T) r) (hr : RCall X.K r o) (hg : Gl X x) (hm : X.mg x = none) (hv : bootBuiltins x = some (.type T)) (ha : QX X B (e :: es) as) (hn : x ≠ "__name__" := by decide) (hdb : (x == ("__debug__" : Str)) = false := by decide)
    (he : starEach (e :: es) X.env = (false, eval e X.env) :: starEach es X.env := by rfl) (hpl : (backTo pos (starEach es X.env)).any (·.1) = false := by rfl) : QE X B (.Call (.Name x p) (e :: es) [] pos) (dCB o as) := PE.imp (pe_callTy hc hg hm hv ha hn hdb he hpl) (ev_cb hr)
theorem q_callTyN (hc : CallR X (.type T) r) (hr : RCallN X.K r o) (hg : Gl X x) (hm : X.mg x = none) (hv : bootBuiltins x = some (.type T)) (ha : QX X B (e :: es) as) (hn : x ≠ "__name__" := by decide) (hdb : (x == ("__debug__" : Str)) = false := by decide)
    (he : starEach (e :: es) X.env = (false, eval e X.env) :: starEach es X.env := by rfl) (hpl : (backTo pos (starEach es X.env)).any (·.1) = false := by rfl) : QN X B (.Call (.Name x p) (e :: es) [] pos) (dCB o as) := PE.imp (pe_callTy hc hg hm hv ha hn hdb he hpl) (ev_cbN hr)
end
theorem RelXs.one {F : Hp} {pa : Option Addr} {env : En} {σ : L2.St} {d : D} {vs : List V} (r : RelXs K F pa env σ [d] vs) : ∃ v, vs = [v] ∧ RelX K F pa env σ d v := by
  cases r with
  | cons h q => cases q; exact ⟨_, rfl, h⟩
theorem RelXs.two {F : Hp} {pa : Option Addr} {env : En} {σ : L2.St} {d d' : D} {vs : List V} (r : RelXs K F pa env σ [d, d'] vs) : ∃ v v', vs = [v, v'] ∧ RelX K F pa env σ d v ∧ RelX K F pa env σ d' v' := by
  cases r with
  | cons h q => cases q with
    | cons h' q => cases q; exact ⟨_, _, rfl, h, h'⟩
def rLen3 (K : PySem.W.Frag) : List V → Hp → VK → Prop := fun xs H Q => (∃ p ys, xs = [.ref p] ∧ (SqL K H p ys ∨ SqT K H p ys) ∧ Q (.int ys.length) H) ∨ ∃ z, xs = [.str z] ∧ z.length ≤ sizeLine ∧ Q (.int z.length) H
theorem call_len3 : CallR X (.builtin "len") (rLen3 X.K) := call_len_seq.or call_len_str
theorem rc_len : RCall K (rLen3 K) bLen := fun B F pa t env σ H xs vs P Q W r h k => by
  unfold bLen at h
  split at h
  · obtain ⟨v, rfl, r1⟩ := r.one
    obtain ⟨a, us, rfl, e, q⟩ := r1.lst W
    exact .inl ⟨a, us, rfl, .inl (SqL.of e), k _ _ F H (Gr.refl _ _) W (by rw [q.len]; exact rD_int _) h⟩
  · obtain ⟨v, rfl, r1⟩ := r.one
    obtain ⟨a, us, rfl, e, _, q⟩ := r1.tup W
    exact .inl ⟨a, us, rfl, .inr (SqT.of e), k _ _ F H (Gr.refl _ _) W (by rw [q.len]; exact rD_int _) h⟩
  · obtain ⟨v, rfl, r1⟩ := r.one
    obtain ⟨a, rfl, q⟩ := r1.scr W
    exact .inl ⟨a, _, rfl, .inl q, k _ _ F H (Gr.refl _ _) W (by rw [List.length_map]; exact rD_int _) h⟩
  · obtain ⟨v, rfl, r1⟩ := r.one
    exact .inr ⟨_, by rw [r1.str W], zle h.1, k _ _ F H (Gr.refl _ _) W (rD_int _) h.2⟩
  · exact h.elim
def rAbs : List V → Hp → VK → Prop := fun xs H Q => ∃ i, xs = [.int i] ∧ Q (.int (if i < 0 then -i else i)) H
theorem rc_abs : RCall K rAbs bAbs := fun B F pa t env σ H xs vs P Q W r h k => by
  unfold bAbs at h
  split at h
  · obtain ⟨v, rfl, r1⟩ := r.one
    exact ⟨_, by rw [r1.int W], k _ _ F H (Gr.refl _ _) W (rD_int _) h⟩
  · exact h.elim
def rMin2 (K : PySem.W.Frag) : List V → Hp → VK → Prop := fun xs H Q => (∃ i j, xs = [.int i, .int j] ∧ Q (.int (if j < i then j else i)) H) ∨ rMin K xs H Q
theorem call_min3 (hc : X.calm = true) : CallR X (.builtin "min") (rMin2 X.K) := (call_min2 hc).or (cr_min hc)
theorem rc_min : RCall K (rMin2 K) bMin := fun B F pa t env σ H xs vs P Q W r h k => by
  unfold bMin at h
  split at h
  · obtain ⟨v, v', rfl, r1, r2⟩ := r.two
    exact .inl ⟨_, _, by rw [r1.int W, r2.int W], k _ _ F H (Gr.refl _ _) W (rD_int _) h⟩
  · obtain ⟨v, rfl, r1⟩ := r.one
    obtain ⟨ns, hn, h0, hp⟩ := h
    obtain ⟨a, us, rfl, e, q⟩ := r1.lst W
    rw [q.intsD hn] at e
    exact .inr ⟨a, ns, rfl, SqL.of e, h0, fun m h1 h2 => k _ _ F H (Gr.refl _ _) W (rD_int _) (hp m h1 h2)⟩
  · exact h.elim
theorem rc_sum : RCall K (rSum K) bSum := fun B F pa t env σ H xs vs P Q W r h k => by
  unfold bSum at h
  split at h
  · obtain ⟨v, rfl, r1⟩ := r.one
    obtain ⟨ns, hn, hp⟩ := h
    obtain ⟨a, us, rfl, e, q⟩ := r1.lst W
    rw [q.intsD hn] at e
    exact ⟨a, ns, rfl, SqL.of e, k _ _ F H (Gr.refl _ _) W (rD_int _) hp⟩
  · exact h.elim
theorem rc_all : RCall K (rAll K) bAll := fun B F pa t env σ H xs vs P Q W r h k => by
  unfold bAll at h
  split at h
  · obtain ⟨v, rfl, r1⟩ := r.one
    obtain ⟨ns, hn, hp⟩ := h
    obtain ⟨a, us, rfl, e, q⟩ := r1.lst W
    rw [q.bls hn] at e
    exact ⟨a, ns, rfl, SqL.of e, k _ _ F H (Gr.refl _ _) W (rD_bl _) hp⟩
  · exact h.elim
def rListOf (K : PySem.W.Frag) : List V → Hp → VK → Prop := fun xs H Q => ∃ p ys, xs = [.ref p] ∧ (SqL K H p ys ∨ SqT K H p ys) ∧ ∀ l, H l = none → Q (.ref l) (upd H l (.lst ys))
theorem rc_list : RCallN K (rListOf K) bList := fun B F pa t env σ H xs vs P Q W r h k => by
  unfold bList at h
  split at h
  · obtain ⟨v, rfl, r1⟩ := r.one
    obtain ⟨a, us, rfl, e, q⟩ := r1.lst W
    exact ⟨a, us, rfl, .inl (SqL.of e), fun p hp => k p _ (.lst _) F _ (Gr.refl _ _) (W.loose _ hp) (W.nw hp) upd_same ⟨us, rfl, q⟩ h⟩
  · obtain ⟨v, rfl, r1⟩ := r.one
    obtain ⟨a, us, rfl, e, _, q⟩ := r1.tup W
    exact ⟨a, us, rfl, .inr (SqT.of e), fun p hp => k p _ (.lst _) F _ (Gr.refl _ _) (W.loose _ hp) (W.nw hp) upd_same ⟨us, rfl, q⟩ h⟩
  · exact h.elim
def rTupOf (K : PySem.W.Frag) : List V → Hp → VK → Prop := fun xs H Q => ∃ p ys, xs = [.ref p] ∧ ((SqL K H p ys ∧ ∀ l, H l = none → Q (.ref l) (upd H l (.tup ys))) ∨ (SqT K H p ys ∧ Q (.ref p) H))
theorem rc_tuple : RCall K (rTupOf K) bTuple := fun B F pa t env σ H xs vs P Q W r h k => by
  unfold bTuple at h
  split at h
  · obtain ⟨v, rfl, r1⟩ := r.one
    obtain ⟨a, us, rfl, e, q⟩ := r1.lst W
    refine ⟨a, us, rfl, .inl ⟨SqL.of e, fun p hp => ?_⟩⟩
    obtain ⟨F', g, C', rd⟩ := new_tup W hp q
    exact k _ _ F' _ g C' rd h
  · obtain ⟨v, rfl, r1⟩ := r.one
    obtain ⟨a, us, rfl, e, f, q⟩ := r1.tup W
    refine ⟨a, us, rfl, .inr ⟨SqT.of e, k _ (.tup _) F H (Gr.refl _ _) W ?_ h⟩⟩
    unfold RelD
    exact ⟨a, us, rfl, f, q⟩
  · exact h.elim
theorem q_onone : QO X B none dNoPart := PO.imp po_none fun σ H Q ⟨F, pa, t, env, P, C, hd, k⟩ => k none F pa t H (Gr.refl _ _) C hd
theorem q_osome (h : QV X B e da) : QO X B (some e) (dPart da) := PO.imp (po_some h) fun σ H Q ⟨F, pa, t, env, P, C, hd, k⟩ => ⟨F, pa, t, env, _, C, hd, fun v d F' pa' t' H' g C' r q => by
  cases d with
  | int i =>
    have q : P (some i) t' := q
    exact ⟨i, r.int C', k _ F' pa' t' H' g C' q⟩
  | _ => exact q.elim⟩
theorem sIx_eq (n d : Nat) : ∀ o : Option Int, HT.sIx n d o = Q.sIx n d o
  | none => rfl
  | some i => by simp only [HT.sIx, Q.sIx]; split <;> first | rfl | (congr 1; omega)
theorem cut_rel {F : Hp} {pa : Option Addr} {l : List D} {vs : List V} (r : RelL K F pa l vs) (lo hi : Option Int) : RelL K F pa (cutD l lo hi) (cutV vs lo hi) := by
  unfold cutD cutV
  rw [r.len, sIx_eq, sIx_eq]
  exact (r.drop _).take _
def rSl2 (K : PySem.W.Frag) : V → Option Int → Option Int → Hp → VK → Prop := fun x l h H Q => rSlL K x l h H Q ∨ rSlT K x l h H Q
theorem sl2 : SlR X (rSl2 X.K) := sl_list.or sl_tup
theorem q_slice {lo hi : Option Expr} {dl dh : DO} {p2 : Pos} (ha : QV X B a da) (hl : QO X B lo dl) (hh : QO X B hi dh) : QE X B (.Subscript a (.Slice lo hi none p2) pos) (dSlice da dl dh) := PE.imp (pe_slice sl2 ha hl hh) fun σ H Q ⟨F, pa, t, env, P, C, hd, k⟩ =>
  ⟨F, pa, t, env, _, C, hd, fun v x F1 pa1 t1 H1 g1 C1 r1 q1 => ⟨F1, pa1, t1, env, _, C1, q1, fun l F2 pa2 t2 H2 g2 C2 q2 => ⟨F2, pa2, t2, env, _, C2, q2, fun h F3 pa3 t3 H3 g3 C3 q3 => by
    have r3 := (r1.mono g2).mono g3
    cases x with
    | lst xs =>
      obtain ⟨a, us, rfl, e, q⟩ := r3.lst C3
      refine .inl ⟨a, us, rfl, SqL.of e, fun p hp => ?_⟩
      obtain ⟨F', g, C', rd⟩ := new_lst C3 hp (cut_rel q l h)
      exact k _ _ F' _ _ _ (((g1.trans g2).trans g3).trans g) C' rd q3
    | tup xs =>
      obtain ⟨a, us, rfl, e, f, q⟩ := r3.tup C3
      obtain ⟨hz, q3⟩ := q3
      have rr := cut_rel q l h
      refine .inr ⟨a, us, rfl, SqT.of e, ?_, fun p hp => ?_⟩
      · rw [q.len, sIx_eq, sIx_eq]
        rintro ⟨z1, z2⟩
        unfold cutD at hz
        rw [z1, z2] at hz
        simp at hz
      · obtain ⟨F', g, C', rd⟩ := new_tup C3 hp rr
        exact k _ _ F' _ _ _ (((g1.trans g2).trans g3).trans g) C' rd q3
    | scr ns =>
      obtain ⟨a, rfl, q⟩ := r3.scr C3
      refine .inl ⟨a, _, rfl, q, fun p hp => ?_⟩
      obtain ⟨F', g, C', rd⟩ := new_lst C3 hp (cut_rel (RelL.of_ints ns) l h)
      exact k _ _ F' _ _ _ (((g1.trans g2).trans g3).trans g) C' rd q3
    | _ => exact q3.elim⟩⟩⟩
theorem q_tval (h : QE X B e da) (he : ∀ whole, isTrue e X.env whole = (do let v ← whole; standAt e.pos; holding [v] (truthy v)) := by intro _; rfl) : QT X B e (dB da) := PT.imp (pt_val h he) fun σ H Q ⟨F, pa, t, env, P, C, hd, k⟩ => ⟨F, pa, t, env, _, C, hd, fun v d F' pa' t' H' g C' r q => by
  cases d with
  | bl b => unfold RelD at r; exact ⟨b, r, k b F' pa' t' H' g C' q⟩
  | _ => exact q.elim⟩
variable {ta tb : DT} {rest : List Expr}
theorem q_and1 (ha : QT X B a ta) : QW X B (.BoolOp .And [a] pos) ta := pw_and1 ha
theorem q_or1 (ha : QT X B a ta) : QW X B (.BoolOp .Or [a] pos) ta := pw_or1 ha
theorem q_and (ha : QT X B a ta) (hb : QW X B (.BoolOp .And (b :: rest) pos) tb) : QW X B (.BoolOp .And (a :: b :: rest) pos) (dAnd ta tb) := PW.imp (pw_and ha hb) fun σ H Q ⟨F, pa, t, env, P, C, hd, k⟩ =>
  ⟨F, pa, t, env, _, C, hd, fun b F' pa' t' H' g C' q => by
    cases b with
    | true => rw [if_pos rfl]; exact ⟨F', pa', t', env, _, C', q, fun c F2 pa2 t2 H2 g2 C2 q2 => k c F2 pa2 t2 H2 (g.trans g2) C2 q2⟩
    | false => rw [if_neg Bool.false_ne_true]; exact k false F' pa' t' H' g C' q⟩
theorem q_or (ha : QT X B a ta) (hb : QW X B (.BoolOp .Or (b :: rest) pos) tb) : QW X B (.BoolOp .Or (a :: b :: rest) pos) (dOr ta tb) := PW.imp (pw_or ha hb) fun σ H Q ⟨F, pa, t, env, P, C, hd, k⟩ =>
  ⟨F, pa, t, env, _, C, hd, fun b F' pa' t' H' g C' q => by
    cases b with
    | false => rw [if_neg Bool.false_ne_true]; exact ⟨F', pa', t', env, _, C', q, fun c F2 pa2 t2 H2 g2 C2 q2 => k c F2 pa2 t2 H2 (g.trans g2) C2 q2⟩
    | true => rw [if_pos rfl]; exact k true F' pa' t' H' g C' q⟩
theorem q_not (ha : QT X B a ta) : QT X B (.UnaryOp .Not a pos) (dNot ta) := PT.imp (pt_not ha) fun σ H Q ⟨F, pa, t, env, P, C, hd, k⟩ =>
  ⟨F, pa, t, env, _, C, hd, fun b F' pa' t' H' g C' q => k (!b) F' pa' t' H' g C' q⟩
theorem q_ifE (hc : QT X B c ta) (ha : QE X B a da) (hb : QE X B b db) : QE X B (.IfExp c a b pos) (dIfE ta da db) := PE.imp (pe_ifExp hc ha hb) fun σ H Q ⟨F, pa, t, env, P, C, hd, k⟩ =>
  ⟨F, pa, t, env, _, C, hd, fun b F' pa' t' H' g C' q => by
    cases b with
    | true => rw [if_pos rfl]; exact ⟨F', pa', t', env, P, C', q, fun w d F2 pa2 t2 H2 g2 C2 r2 q2 => k w d F2 pa2 t2 H2 (g.trans g2) C2 r2 q2⟩
    | false => rw [if_neg Bool.false_ne_true]; exact ⟨F', pa', t', env, P, C', q, fun w d F2 pa2 t2 H2 g2 C2 r2 q2 => k w d F2 pa2 t2 H2 (g.trans g2) C2 r2 q2⟩⟩
theorem q_one {op} (h : QE X B a da) : QE X B (.BoolOp op [a] pos) da := pe_one h
theorem q_andV (ha : QE X B a da) (hb : QE X B (.BoolOp .And (b :: rest) pos) db) : QE X B (.BoolOp .And (a :: b :: rest) pos) (dAndV da db) := PE.imp (pe_and ha hb) fun σ H Q ⟨F, pa, t, env, P, C, hd, k⟩ =>
  ⟨F, pa, t, env, _, C, hd, fun v d F' pa' t' H' g C' r q => by
    cases d with
    | bl b =>
      unfold RelD at r
      refine ⟨b, r, ?_⟩
      cases b with
      | true => rw [if_pos rfl]; exact ⟨F', pa', t', env, P, C', q, fun w d F2 pa2 t2 H2 g2 C2 r2 q2 => k w d F2 pa2 t2 H2 (g.trans g2) C2 r2 q2⟩
      | false => rw [if_neg Bool.false_ne_true]; exact k _ _ F' pa' t' H' g C' (rD_bl _) q
    | _ => exact q.elim⟩
theorem q_notV (ha : QE X B a da) : QE X B (.UnaryOp .Not a pos) (dNotV da) := PE.imp (pe_not ha) fun σ H Q ⟨F, pa, t, env, P, C, hd, k⟩ =>
  ⟨F, pa, t, env, _, C, hd, fun v d F' pa' t' H' g C' r q => by
    cases d with
    | bl b =>
      unfold RelD at r
      exact ⟨b, r, k _ _ F' pa' t' H' g C' (rD_bl _) q⟩
    | _ => exact q.elim⟩
end
end Q
/-! QH4 -/
namespace Q
open PySem L2 PyProof.Rows
section
variable {X : Cx} {B : Bs} {K : PySem.W.Frag} {a b c e : Expr} {es : List Expr} {pos : Pos} {da db dc : DE} {as : DA}
theorem ev_chain {r r' : R2} {o o' : DOp} (hr : ROp K r o) (hr' : ROp K r' o') : ∀ σ H Q, teOf K B (dChain o o' da db dc) σ H Q → tChain r r' (tvOf K B da) (tvOf K B db) (tvOf K B dc) σ H Q := fun σ H Q ⟨F, pa, t, env, P, C, hd, k⟩ =>
  ⟨F, pa, t, env, _, C, hd, fun v x F1 pa1 t1 H1 g1 C1 r1 q1 => ⟨F1, pa1, t1, env, _, C1, q1, fun u y F2 pa2 t2 H2 g2 C2 r2 q2 =>
    hr B F2 pa2 t2 env σ H2 x y v u _ _ C2 (r1.mono g2) r2 q2 fun z d F3 H3 g3 C3 r3 q3 => by
      cases d with
      | bl k' =>
        unfold RelD at r3
        refine ⟨k', r3, ?_⟩
        cases k' with
        | true =>
          rw [if_pos rfl]
          exact ⟨F3, pa2, t2, env, _, C3, q3, fun w dw F4 pa4 t4 H4 g4 C4 r4 q4 => hr' B F4 pa4 t4 env σ H4 y dw u w _ Q C4 ((r2.mono g3).mono g4) r4 q4 fun w d F' H' g5 C5 r5 q5 =>
            k w d F' pa4 t4 H' ((((g1.trans g2).trans g3).trans g4).trans g5) C5 r5 q5⟩
        | false =>
          rw [if_neg Bool.false_ne_true]
          exact k _ _ F3 pa2 t2 H3 ((g1.trans g2).trans g3) C3 (rD_bl _) q3
      | _ => exact q3.elim⟩⟩
theorem q_chain {op op' : CmpOp} {r r' : R2} {o o' : DOp} (ho : OpR X (compareOp op) r) (hr : ROp X.K r o) (ho' : OpR X (compareOp op') r') (hr' : ROp X.K r' o') (ha : QV X B a da) (hb : QV X B b db) (hc : QV X B c dc)
    (hm : lastMarks [op, op'] [b, c] = false := by with_unfolding_all rfl) : QE X B (.Compare a [op, op'] [b, c] pos) (dChain o o' da db dc) := PE.imp (pe_chain ho ho' ha hb hc hm) (ev_chain hr hr')
theorem zip_lookup {F : Hp} {pa : Option Addr} {f : Str} : ∀ {ns : List Str} {l : List D} {vs : List V} {d : D}, RelL K F pa l vs → (ns.zip l).lookup f = some d → ∃ v, (ns.zip vs).lookup f = some v ∧ RelD K F pa d v
  | [], _, _, _, _, h => by simp at h
  | _ :: _, [], _, _, _, h => by simp at h
  | n :: ns, x :: l, vs, d, r, h => by
    obtain ⟨v, vr, rfl, r1, r2⟩ := r.inv
    simp only [List.zip_cons_cons, List.lookup_cons] at h ⊢
    cases q : f == n with
    | true =>
      rw [q] at h; cases h
      exact ⟨v, rfl, r1⟩
    | false =>
      rw [q] at h
      exact zip_lookup r2 h
theorem zip_none {f : Str} : ∀ {ns : List Str} {vs : List V}, ns.contains f = false → (ns.zip vs).lookup f = none
  | [], _, _ => by simp
  | _ :: _, [], _ => by simp
  | n :: ns, v :: vs, h => by
    simp only [List.contains_cons, Bool.or_eq_false_iff] at h
    simp only [List.zip_cons_cons, List.lookup_cons, h.1]
    exact zip_none h.2
theorem q_fld {f : Str} {Cl : Addr} (ha : QV X B e da) (cl : Cls X.K Cl) (na : NoAttr X.K Cl f) (hb : attributeBase e f X.env (eval e X.env) = eval e X.env := by rfl) : QE X B (.Attribute e f pos) (dFld Cl f da) := PE.imp (pe_fld ha hb) fun σ H Q ⟨F, pa, t, env, P, C, hd, k⟩ =>
  ⟨F, pa, t, env, _, C, hd, fun v x F1 pa1 t1 H1 g1 C1 r1 q1 => by
    cases x with
    | ins C' ns l =>
      obtain ⟨rfl, q1⟩ := q1
      obtain ⟨a, dx, us, rfl, e1, _, r⟩ := r1.ins C1
      cases z : (ns.zip l).lookup f with
      | none => rw [z] at q1; exact q1.elim
      | some d =>
        rw [z] at q1
        obtain ⟨w, h1, h2⟩ := zip_lookup r z
        exact ⟨a, C', dx, _, w, rfl, e1, cl, na, h1, k w d F1 pa1 t1 H1 g1 C1 h2 q1⟩
    | _ => exact q1.elim⟩
end
def lift (K : PySem.W.Frag) (sp : PSp) : Sp := fun vs H Q E => ∃ F pa t ds P, Cf K (B0 F pa t H) F pa t [] [] H ∧ RelL K F pa ds vs ∧ sp ds t P ∧
  ∀ v d F' pa' t' H', Cf K (B0 F pa t H) F' pa' t' [] [] H' → RelD K F' pa' d v → P d t' → Q v H'
def liftN (K : PySem.W.Frag) (sp : PSp) : Sp := fun vs H Q E => ∃ F pa t ds P, Cf K (B0 F pa t H) F pa t [] [] H ∧ RelL K F pa ds vs ∧ sp ds t P ∧
  ∀ p h d F' pa' t' H', Cf K (B0 F pa t H) F' pa' t' [] [] H' → F' p = none → H p = none → pa' ≠ some p → t'.obs p = none → H' p = some h → RelO1 K F' pa' d h → P d t' → Q (.ref p) H'
section
variable {X : Cx} {B : Bs} {K : PySem.W.Frag} {a b c e o : Expr} {es : List Expr} {pos : Pos} {da db dc : DE} {as : DA} {CX : CXT} {k : Nat} {f C : Addr} {fd : FuncData} {ps : List Str} {sp : PSp} {dvs : List V} {dds : List D} {ds : List Value} {E : XK} {x m : Str} {p apos : Pos}
theorem ev_call (hd : ∀ F pa, RelL K F pa dds dvs) : ∀ σ H Q, teOf K B (dCall sp dds as) σ H Q → tCall (lift K sp) dvs E (taOf K B as) σ H Q := fun σ H Q ⟨F, pa, t, env, P, W, h, k⟩ =>
  ⟨F, pa, t, env, _, W, h, fun vs xs F1 pa1 t1 H1 g1 W1 r1 q1 => ⟨F1, pa1, t1, xs ++ dds, P, W1.call, r1.append (hd _ _), q1, fun v d F' pa' t' H' W' r' q' => by
    obtain ⟨g, W2⟩ := W1.after W'
    exact k v d F' pa' t' H' (g1.trans g) W2 r' q'⟩⟩
theorem ev_callN (hd : ∀ F pa, RelL K F pa dds dvs) : ∀ σ H Q, tnOf K B (dCall sp dds as) σ H Q → tCall (liftN K sp) dvs E (taOf K B as) σ H Q := fun σ H Q ⟨F, pa, t, env, P, W, h, k⟩ =>
  ⟨F, pa, t, env, _, W, h, fun vs xs F1 pa1 t1 H1 g1 W1 r1 q1 => ⟨F1, pa1, t1, xs ++ dds, P, W1.call, r1.append (hd _ _), q1, fun p hh d F' pa' t' H' W' n1 n2 n3 n4 e' r' q' => by
    obtain ⟨g, W2⟩ := W1.after W'
    refine k p hh d F' pa' t' H' (g1.trans g) W2 ⟨n1, (W1.fresh n2).2.1, n3, fun j d' ej sj => ?_, n4⟩ e' r' q'
    obtain ⟨a, u, s1, e1, _⟩ := W1.own j d' ej
    rw [sj] at s1
    cases s1
    rw [n2] at e1; cases e1⟩⟩
theorem q_call (F : FnOk X.prog X.w X.K X.mg X.base CX k f fd ps (lift X.K sp)) (hr : Room k X.A) (hg : Gl X x) (hm : X.mg x = some (.ref f)) (hk : PySem.W.keepIn X.K (.ref f) = true) (hb : Binds X.K fd ps ds) (hd : Vals dvs ds) (hD : ∀ F pa, RelL X.K F pa dds dvs) (hx : Passes CX X E)
    (ha : QA X B (e :: es) as) (hdb : (x == ("__debug__" : Str)) = false := by decide) (he : starEach (e :: es) X.env = (false, eval e X.env) :: starEach es X.env := by rfl) (hpl : (backTo pos (starEach es X.env)).any (·.1) = false := by rfl) :
    QE X B (.Call (.Name x p) (e :: es) [] pos) (dCall sp dds as) := PE.imp (pe_call F hr hg hm hk hb hd hx ha hdb he hpl) (ev_call hD)
theorem q_callN (F : FnOk X.prog X.w X.K X.mg X.base CX k f fd ps (liftN X.K sp)) (hr : Room k X.A) (hg : Gl X x) (hm : X.mg x = some (.ref f)) (hk : PySem.W.keepIn X.K (.ref f) = true) (hb : Binds X.K fd ps ds) (hd : Vals dvs ds) (hD : ∀ F pa, RelL X.K F pa dds dvs) (hx : Passes CX X E)
    (ha : QA X B (e :: es) as) (hdb : (x == ("__debug__" : Str)) = false := by decide) (he : starEach (e :: es) X.env = (false, eval e X.env) :: starEach es X.env := by rfl) (hpl : (backTo pos (starEach es X.env)).any (·.1) = false := by rfl) :
    QN X B (.Call (.Name x p) (e :: es) [] pos) (dCall sp dds as) := PE.imp (pe_call F hr hg hm hk hb hd hx ha hdb he hpl) (ev_callN hD)
theorem ev_meth (hd : ∀ F pa, RelL K F pa dds dvs) : ∀ σ H Q, teOf K B (dMeth C m sp dds da as) σ H Q → tMeth C m (lift K sp) dvs E (teOf K B da) (taOf K B as) σ H Q := fun σ H Q ⟨F, pa, t, env, P, W, h, k⟩ =>
  ⟨F, pa, t, env, _, W, h, fun v x F1 pa1 t1 H1 g1 W1 r1 q1 => by
    cases x with
    | ins C' ns l =>
      obtain ⟨rfl, hn, q1⟩ := q1
      have r1' := r1
      unfold RelD at r1'
      obtain ⟨a, dx, us, rfl, e1, _, _⟩ := r1'
      refine ⟨a, dx, _, rfl, W1.sub _ _ e1, zip_none hn, F1, pa1, t1, env, _, W1, q1, fun vs xs F2 pa2 t2 H2 g2 W2 r2 q2 => ⟨F2, pa2, t2, .ins C' ns l :: (xs ++ dds), P, W2.call, RelL.cons (RelD.mono g2 _ _ r1) (r2.append (hd _ _)), q2, fun v d F' pa' t' H' W' r' q' => ?_⟩⟩
      obtain ⟨g, W3⟩ := W2.after W'
      exact k v d F' pa' t' H' ((g1.trans g2).trans g) W3 r' q'
    | _ => exact q1.elim⟩
theorem q_meth0 {pl : Sem Bool} (he : QE X B o da) (c : Cls X.K C) (hm : Meth X.K C m f) (F : FnOk X.prog X.w X.K X.mg X.base CX k f fd ps (lift X.K sp)) (hr : Room k X.A) (hb : Binds X.K fd ps ds) (hd : Vals dvs ds) (hD : ∀ F pa, RelL X.K F pa dds dvs) (hx : Passes CX X E)
    (ht : eval (.Call (.Attribute o m apos) [] [] pos) X.env = (do
      let ov ← eval o X.env
      standAt apos.atName
      let (f, first) ← holding [ov] (getMethod ov m pl)
      callWith pos f first (backTo pos (starEach [] X.env)) (backToKw pos (keywordEach [] X.env))) := by rfl) :
    QE X B (.Call (.Attribute o m apos) [] [] pos) (dMeth C m sp dds da dNil) := PE.imp (pe_meth0 he c hm F hr hb hd hx ht) fun σ H Q h => by
  obtain ⟨F, pa, t, env, P, W, h1, h2⟩ := ev_meth (E := E) hD σ H Q h
  exact ⟨F, pa, t, env, _, W, h1, fun v d F' pa' t' H' g W' r q => by
    obtain ⟨a, dx, fs, e1, e2, e3, z⟩ := h2 v d F' pa' t' H' g W' r q
    refine ⟨a, dx, fs, e1, e2, e3, ?_⟩
    obtain ⟨F2, pa2, t2, env2, P2, W2, q2, k2⟩ := z
    exact k2 [] [] F2 pa2 t2 H' (Gr.refl _ _) W2 RelL.nil q2⟩
end
end Q
/-! QH5 -/
namespace Q
open PySem L2 PyProof.Rows
section
variable {X : Cx} {B : Bs} {K : PySem.W.Frag} {a b c e : Expr} {es : List Expr} {pos : Pos} {da db dc : DE} {as : DA} {g : DG} {gs : DGs} {st : Stmt} {rest sts sts2 : List Stmt} {s1 s2 : DS} {dt : DT}
variable {vs : List Nat}
theorem wipe_set {σ : L2.St} {i : Nat} {x : Option V} : ∀ {vs : List Nat}, i ∈ vs → wipe (σ.set i x) vs = wipe σ vs
  | [], h => by simp at h
  | j :: r, h => by
    show (wipe (σ.set i x) r).set j none = (wipe σ r).set j none
    by_cases hr : i ∈ r
    · rw [wipe_set hr]
    · have hj : i = j := by
        rcases List.mem_cons.mp h with z | z
        · exact z
        · exact absurd z hr
      subst hj
      apply List.ext_getElem?
      intro k
      by_cases hk : i = k
      · subst hk
        rw [List.getElem?_set_self', List.getElem?_set_self', wipe_out hr, wipe_out hr, List.getElem?_set_self']
        cases σ[i]? <;> rfl
      · rw [List.getElem?_set_ne hk, List.getElem?_set_ne hk]
        exact wipe_setk hk
  where
  wipe_setk {σ : L2.St} {i k : Nat} {x : Option V} (hk : i ≠ k) : ∀ {vs : List Nat}, (wipe (σ.set i x) vs)[k]? = (wipe σ vs)[k]?
    | [] => by show (σ.set i x)[k]? = σ[k]?; rw [List.getElem?_set_ne hk]
    | j :: r => by
      show ((wipe (σ.set i x) r).set j none)[k]? = ((wipe σ r).set j none)[k]?
      by_cases hj : j = k
      · subst hj
        rw [List.getElem?_set_self', List.getElem?_set_self', wipe_setk hk]
      · rw [List.getElem?_set_ne hj, List.getElem?_set_ne hj]
        exact wipe_setk hk
theorem q_gname {i : Nat} {x : Str} {pos : Pos} (h : PG X (.Name x pos) (L2.gName i)) (hi : i ∈ vs) : QG X B vs (.Name x pos) (Q.gName i) := PG.imp h fun v σ H Q ⟨F, pa, t, env, d, P, C, r, hd, k⟩ =>
  k F pa t _ _ H (Gr.refl _ _) (C.setV i r) (wipe_set hi) hd
theorem q_nil : QSs X B [] dNext := PSs.imp pss_nil fun D σ H ⟨F, pa, t, env, DD, C, h, R⟩ => R.nx F pa t env σ H (Gr.refl _ _) C h
theorem q_cons (h1 : QS X B st s1) (h2 : QSs X B rest s2) : QSs X B (st :: rest) (dSeq s1 s2) := PSs.imp (pss_cons h1 h2) fun D σ H ⟨F, pa, t, env, DD, C, h, R⟩ =>
  ⟨F, pa, t, env, _, C, h, ⟨fun F pa t env σ H g C q => ⟨F, pa, t, env, DD, C, q, R.mono g⟩, R.rt, R.bk, R.ct⟩⟩
theorem q_frz {i : Nat} (hB : B.Top) (h2 : QSs X B rest s2) : QSs X B rest (dSeq (dFrz i) s2) := PSs.imp h2 fun D σ H ⟨F, pa, t, env, DD, C, h, R⟩ => by
  have h : (match env[i]? with | some (.own d) => s2 DD (env.set i (.val d)) t | _ => s2 DD env t) := h
  cases q : env[i]? with
  | none => rw [q] at h; exact ⟨F, pa, t, env, DD, C, h, R⟩
  | some z =>
    rw [q] at h
    cases z with
    | own d =>
      obtain ⟨F', g, C'⟩ := C.frzO hB q
      exact ⟨F', pa, t, _, DD, C', h, R.mono g⟩
    | val d => exact ⟨F, pa, t, env, DD, C, h, R⟩
    | no => exact ⟨F, pa, t, env, DD, C, h, R⟩
theorem ret0 {F : Hp} {pa : Option Addr} {t : Ts} {H : Hp} {d : D} {v : V} (hm : B.m = false) (r : RelD K F pa d v) : RetRel K B F pa t H d v := by
  unfold RetRel; rw [hm]; exact r
theorem q_ret (hm : B.m = false) (h : QE X B e da) : QS X B (.Return (some e) pos) (dRet da) := PS.imp (ps_ret h) fun D σ H ⟨F, pa, t, env, DD, C, h, R⟩ =>
  ⟨F, pa, t, env, _, C, h, fun v d F' pa' t' H' g C' r q => R.rt v d F' pa' t' env σ H' g C' (ret0 hm r) q⟩
theorem q_retNew (hm : B.m = true) (h : QN X B e da) : QS X B (.Return (some e) pos) (dRet da) := PS.imp (ps_ret h) fun D σ H ⟨F, pa, t, env, DD, C, h, R⟩ =>
  ⟨F, pa, t, env, _, C, h, fun p hh d F' pa' t' H' g C' n e r q => R.rt _ d F' pa' t' env σ H' g C' (by unfold RetRel; rw [hm]; exact .inr ⟨p, hh, rfl, n.f, n.b, n.a, n.o, e, r⟩) q⟩
theorem q_set {i : Nat} {x : Str} {pos' : Pos} (hN : X.N.Nodup) (hi : X.N[i]? = some x) (hx : Loc X.env.scope x) (he : QE X B e da) (hs : swapsWith e (some (.Name x pos')) pos.line X.env = pure false := by rfl) (hf : X.fn x = true ∨ X.env.scope.names.lookup x = some .local := by first | exact .inl rfl | exact .inr rfl | assumption) :
    QS X B (.Assign [.Name x pos'] e pos) (dAsg da (Q.gName i)) := PS.imp (ps_set hN hi hx he hs hf) fun D σ H ⟨F, pa, t, env, DD, C, h, R⟩ =>
  ⟨F, pa, t, env, _, C, h, fun v d F' pa' t' H' g' C' r q => R.nx F' pa' t' _ _ H' g' (C'.setV i r) q⟩
theorem q_setN {i : Nat} {x : Str} {pos' : Pos} (hN : X.N.Nodup) (hi : X.N[i]? = some x) (hx : Loc X.env.scope x) (he : QN X B e da) (hs : swapsWith e (some (.Name x pos')) pos.line X.env = pure false := by rfl) (hf : X.fn x = true ∨ X.env.scope.names.lookup x = some .local := by first | exact .inl rfl | exact .inr rfl | assumption) :
    QS X B (.Assign [.Name x pos'] e pos) (dAsgN i da) := PS.imp (ps_set hN hi hx he hs hf) fun D σ H ⟨F, pa, t, env, DD, C, h, R⟩ =>
  ⟨F, pa, t, env, _, C, h, fun p hh d F' pa' t' H' g' C' n e r q => R.nx F' pa' t' _ _ H' g' (C'.setN i n e r) q⟩
theorem q_if {l r : List Stmt} (hc : QT X B c dt) (ha : QSs X B l s1) (hb : QSs X B r s2) : QS X B (.If c l r pos) (dIf dt s1 s2) := PS.imp (ps_if hc ha hb) fun D σ H ⟨F, pa, t, env, DD, C, h, R⟩ =>
  ⟨F, pa, t, env, _, C, h, fun k F' pa' t' H' g C' q => by
    cases k with
    | true => rw [if_pos rfl]; exact ⟨F', pa', t', env, DD, C', q, R.mono g⟩
    | false => rw [if_neg Bool.false_ne_true]; exact ⟨F', pa', t', env, DD, C', q, R.mono g⟩⟩
theorem own_lst {F : Hp} {pa : Option Addr} {t : Ts} {env : En} {σ : L2.St} {H : Hp} {i : Nat} {l : List D} (C : Cf K B F pa t env σ H) (h : env[i]? = some (Sl.own (.lst l))) : ∃ a vs, σ[i]? = some (some (V.ref a)) ∧ H a = some (.lst vs) ∧ RelL K F pa l vs := by
  obtain ⟨a, u, h1, h2, h3, _⟩ := C.own i _ h
  obtain ⟨vs, rfl, q⟩ := h3
  exact ⟨a, vs, h1, h2, q⟩
theorem get_own {env : En} {i : Nat} {p : List D → Prop} (h : match env[i]? with | some (.own (.lst l)) => p l | _ => False) : ∃ l, env[i]? = some (Sl.own (.lst l)) ∧ p l := by
  split at h
  · rename_i l e; exact ⟨l, e, h⟩
  · exact h.elim
theorem q_app {i : Nat} (hp : PE X e (tBM X.K "list" rAppend (tVar i) (tCons (teOf X.K B da) tNil))) (hs : swapsWith e none pos.line X.env = pure false := by rfl) : QS X B (.Expr e pos) (dApp i da) :=
  PS.imp (ps_expr hp hs) fun De σ H ⟨F, pa, t, env, DD, C, h, R⟩ => by
    obtain ⟨l, hi, h⟩ := get_own h
    obtain ⟨a, vs, s1, e1, r1⟩ := own_lst C hi
    refine ⟨.ref a, s1, Or.inl ⟨rfl, vs, SqL.of e1⟩, F, pa, t, env, _, C, h, fun w y F' pa' t' H' g' C' r2 q2 => ?_⟩
    obtain ⟨hl, q2⟩ := q2
    obtain ⟨a', us, s2, e2, r3⟩ := own_lst C' hi
    rw [s1] at s2; cases s2
    refine ⟨a, us, w, rfl, rfl, e2, by rw [r3.len]; exact zlt hl, ?_⟩
    exact R.nx F' pa' t' _ σ _ g' (C'.wrO (d' := .lst (l ++ [y])) hi s1 ⟨_, rfl, r3.append (.cons r2 .nil)⟩) q2
theorem ixN_eq (n : Nat) (i : Int) : L2.ixN n i = Q.ixN n i := rfl
theorem q_seti {i : Nat} {dk : DE} {tg : Expr} (hp : PS X (.Assign [tg] e pos) (tAsg (teOf X.K B da) (gSub (tVar i) (tvOf X.K B dk) rSetL))) : QS X B (.Assign [tg] e pos) (dSet i dk da) :=
  PS.imp hp fun De σ H ⟨F, pa, t, env, DD, C, h, R⟩ => ⟨F, pa, t, env, _, C, h, fun w y F' pa' t' H' g' C' r2 q2 => by
    obtain ⟨l, hi, q2⟩ := get_own q2
    obtain ⟨a, vs, s1, e1, r1⟩ := own_lst C' hi
    refine ⟨.ref a, s1, F', pa', t', env, _, C', q2, fun u z F2 pa2 t2 H2 g2 C2 r3 q3 => ?_⟩
    cases z with
    | int m =>
      obtain ⟨j, hj, q3⟩ := q3
      obtain ⟨a', us, s2, e2, r4⟩ := own_lst C2 hi
      rw [s1] at s2; cases s2
      refine ⟨a, us, m, j, rfl, r3.int C2, e2, by rw [ixN_eq, r4.len]; exact hj, ?_⟩
      exact R.nx F2 pa2 t2 _ σ _ (g'.trans g2) (C2.wrO (d' := .lst (l.set j y)) hi s1 ⟨_, rfl, r4.set j (RelD.mono g2 y w r2)⟩) q3
    | _ => exact q3.elim⟩
def ItOk (K : PySem.W.Frag) (J : It) (items : List D) (F0 : Hp) (pa0 : Option Addr) : Prop := ∀ (B : Bs) F pa t env σ H (i : Nat), Gr F0 pa0 F pa → Cf K B F pa t env σ H →
  (items.length = i → J.stop i H) ∧ ∀ d, items[i]? = some d → J.go i H ∧ ∀ x H', J.yld i H x H' → Gf H H' ∧ ∃ F', (∀ a o, F' a = some o → (∃ o', F a = some o') ∨ H a = none) ∧ Gr F pa F' pa ∧ Cf K B F' pa t env σ H' ∧ RelD K F' pa d x
theorem ItOk.mono {J : It} {items : List D} {F0 F1 : Hp} {p0 p1 : Option Addr} (h : ItOk K J items F0 p0) (g : Gr F0 p0 F1 p1) : ItOk K J items F1 p1 := fun B F pa t env σ H i g' C => h B F pa t env σ H i (g.trans g') C
def tiOf (K : PySem.W.Frag) (B : Bs) (di : DI) : TI := fun σ H R => ∃ F pa t env P, Cf K B F pa t env σ H ∧ di env t P ∧
  ∀ J items F' pa' t' H', Gr F pa F' pa' → Cf K B F' pa' t' env σ H' → ItOk K J items F' pa' → P items t' → R J H'
abbrev QI (X : Cx) (B : Bs) (tg e : Expr) (di : DI) : Prop := PI X tg e (tiOf X.K B di)
theorem PI.imp {tg e : Expr} {w w' : TI} (h : PI X tg e w) (i : ∀ σ H R, w' σ H R → w σ H R) : PI X tg e w' := ⟨fun pins s σ H R I q => h.run pins s σ H R I (i σ H R q)⟩
theorem it_list {F0 : Hp} {pa0 : Option Addr} {a : Addr} {l : List D} {vs : List V} (e : SqL K F0 a vs) (r : RelL K F0 pa0 l vs) : ItOk K (Itl K a) l F0 pa0 := fun B F pa t env σ H i g C => by
  have eH : SqL K H a vs := sq_mono C.sub (sq_mono g.f e)
  refine ⟨fun hi => ⟨vs, eH, by rw [r.len]; exact Nat.le_of_eq hi⟩, fun d hd => ?_⟩
  obtain ⟨v, hv, rv⟩ := r.get hd
  refine ⟨⟨vs, v, eH, hv⟩, fun x H' y => ?_⟩
  obtain ⟨rfl, y⟩ := y
  have y := y vs eH
  rw [hv] at y; cases y
  exact ⟨fun _ _ z => z, F, fun a o e => .inl ⟨o, e⟩, Gr.refl _ _, C, RelD.mono g d v rv⟩
theorem it_tup {F0 : Hp} {pa0 : Option Addr} {a : Addr} {l : List D} {vs : List V} (e : F0 a = some (.tup vs)) (r : RelL K F0 pa0 l vs) : ItOk K (Itt K a) l F0 pa0 := fun B F pa t env σ H i g C => by
  have eH : SqT K H a vs := SqT.of (C.sub _ _ (g.f _ _ e))
  refine ⟨fun hi => ⟨vs, eH, by rw [r.len]; exact Nat.le_of_eq hi⟩, fun d hd => ?_⟩
  obtain ⟨v, hv, rv⟩ := r.get hd
  refine ⟨⟨vs, v, eH, hv⟩, fun x H' y => ?_⟩
  obtain ⟨rfl, y⟩ := y
  have y := y vs eH
  rw [hv] at y; cases y
  exact ⟨fun _ _ z => z, F, fun a o e => .inl ⟨o, e⟩, Gr.refl _ _, C, RelD.mono g d v rv⟩
theorem it_rng {F0 : Hp} {pa0 : Option Addr} (lo : Int) (n : Nat) : ItOk K (Itr lo n) (rng lo n) F0 pa0 := fun B F pa t env σ H i g C => by
  refine ⟨fun hi => by rw [rng_len] at hi; exact Nat.le_of_eq hi, fun d hd => ?_⟩
  obtain ⟨h1, rfl⟩ := rng_get hd
  refine ⟨h1, fun x H' y => ?_⟩
  obtain ⟨rfl, rfl⟩ := y
  exact ⟨fun _ _ z => z, F, fun a o e => .inl ⟨o, e⟩, Gr.refl _ _, C, rD_int _⟩
theorem q_irng1 {tg : Expr} {p pos : Pos} (hg : Gl X "range") (hm : X.mg "range" = none) (ha : QV X B a da) (hs : starEach [a] X.env = [(false, eval a X.env)] := by rfl) (hs' : starEach (a :: []) X.env = (false, eval a X.env) :: starEach [] X.env := by rfl) : QI X B tg (.Call (.Name "range" p) [a] [] pos) (iRng1 da) := PI.imp (pi_range1 hg hm (pa_cons ha pa_nil hs') hs) fun σ H R ⟨F, pa, t, env, P, C, h, k⟩ =>
  ⟨F, pa, t, env, _, C, h, fun v d F' pa' t' H' g C' r q => by
    cases d with
    | int n =>
      obtain ⟨⟨h1, h2⟩, q⟩ := q
      exact ⟨n, by rw [r.int C'], by omega, by omega, k _ _ F' pa' t' H' g C' (it_rng 0 n.toNat) q⟩
    | _ => exact q.elim⟩
theorem q_for {tg iter : Expr} {body : List Stmt} {di : DI} (hp : PassesOwn (model X.prog X.w) X.A X.env X.xe) (hc : X.calm = true) (hi : QI X B tg iter di) (hg : QG X B vs tg g) (hb : QSs X B body s1) (hs : ∀ x, foldedSetIterable iter X.env x = pure x := by intro _; rfl) : QS X B (.For tg iter body [] pos) (dFor di g s1) :=
  PS.imp (ps_for hp hc hi hg hb hs) fun De σ H ⟨F, pa, t, env, DD, C, h, R⟩ => ⟨F, pa, t, env, _, C, h, fun J items F1 pa1 t1 H1 g1 C1 iok q => by
    obtain ⟨Inv, h0, hstep, hd⟩ := q
    refine ⟨fun i m σ H => m = items.length - i ∧ i ≤ items.length ∧ ∃ F pa t env, Gr F1 pa1 F pa ∧ Cf X.K B F pa t env σ H ∧ Inv i env t, ⟨_, rfl, Nat.zero_le _, F1, pa1, t1, env, Gr.refl _ _, C1, h0⟩, ?_⟩
    rintro i m σ2 H2 ⟨rfl, hi, F2, pa2, t2, env2, g2, C2, q2⟩
    have io := iok B F2 pa2 t2 env2 σ2 H2 i g2 C2
    by_cases hlt : i < items.length
    · have hx : items[i]? = some items[i] := by simp [hlt]
      obtain ⟨go, yl⟩ := io.2 _ hx
      refine .inr ⟨go, fun σ' H' => ∃ m', m' < items.length - i ∧ (m' = items.length - (i + 1) ∧ i + 1 ≤ items.length ∧ ∃ F pa t env, Gr F1 pa1 F pa ∧ Cf X.K B F pa t env σ' H' ∧ Inv (i + 1) env t), fun σ' H' z => z, fun x H' y => ?_⟩
      obtain ⟨_, F3, _, g3, C3, r3⟩ := yl x H' y
      refine ⟨F3, pa2, t2, env2, items[i], _, C3, r3, hstep i _ env2 t2 hx q2, fun F4 pa4 t4 env4 σ4 H4 g4 C4 _ q4 => ?_⟩
      have g14 := (g2.trans g3).trans g4
      have nn : ∀ F pa t env σ' H', Gr F4 pa4 F pa → Cf X.K B F pa t env σ' H' → Inv (i + 1) env t → ∃ m', m' < items.length - i ∧ (m' = items.length - (i + 1) ∧ i + 1 ≤ items.length ∧ ∃ F pa t env, Gr F1 pa1 F pa ∧ Cf X.K B F pa t env σ' H' ∧ Inv (i + 1) env t) := fun F pa t env σ' H' g C' q => ⟨items.length - (i + 1), by omega, rfl, hlt, F, pa, t, env, g14.trans g, C', q⟩
      have R4 := R.mono (g1.trans g14)
      exact ⟨F4, pa4, t4, env4, _, C4, q4, ⟨nn, R4.rt, R4.nx, nn⟩⟩
    · have e : i = items.length := by omega
      subst e
      exact .inl ⟨io.1 rfl, R.nx F2 pa2 t2 env2 σ2 H2 (g1.trans g2) C2 (hd env2 t2 q2)⟩⟩
end
end Q
/-! QH6 -/
namespace Q
open PySem L2 PyProof.Rows
section
variable {X : Cx} {B : Bs} {K : PySem.W.Frag} {a b c e : Expr} {es : List Expr} {pos : Pos} {da db dc : DE} {as : DA} {g : DG} {gs : DGs} {dt : DT}
theorem wipeE_length (env : En) : ∀ vs : List Nat, (wipeE env vs).length = env.length
  | [] => rfl
  | i :: r => by simp [wipeE, wipeE_length env r]
theorem wipeE_some {env : En} {i : Nat} {x : Sl} (hx : x ≠ .no) : ∀ {vs : List Nat}, (wipeE env vs)[i]? = some x → env[i]? = some x ∧ i ∉ vs
  | [], h => ⟨h, by simp⟩
  | j :: r, h => by
    rcases get_set (show ((wipeE env r).set j .no)[i]? = some x from h) with ⟨_, z⟩ | ⟨ne, z⟩
    · exact absurd z hx
    · obtain ⟨h1, h2⟩ := wipeE_some hx z
      exact ⟨h1, by simp [h2, Ne.symm ne]⟩
theorem wipeE_out {env : En} {i : Nat} : ∀ {vs : List Nat}, i ∉ vs → (wipeE env vs)[i]? = env[i]?
  | [], _ => rfl
  | j :: r, h => by
    simp only [List.mem_cons, not_or] at h
    show ((wipeE env r).set j .no)[i]? = _
    rw [List.getElem?_set_ne (Ne.symm h.1)]
    exact wipeE_out h.2
def ownA (env : En) (σ : L2.St) : List Addr := (env.zip σ).filterMap fun p => match p with
  | (.own _, some (.ref a)) => some a
  | _ => none
theorem mem_ownA {env : En} {σ : L2.St} {a : Addr} : a ∈ ownA env σ ↔ ∃ (i : Nat) (d : D), env[i]? = some (Sl.own d) ∧ σ[i]? = some (some (V.ref a)) := by
  unfold ownA
  rw [List.mem_filterMap]
  constructor
  · rintro ⟨⟨s, v⟩, hm, h⟩
    obtain ⟨i, hi⟩ := List.mem_iff_getElem?.mp hm
    rw [List.getElem?_zip_eq_some] at hi
    cases s with
    | own d =>
      cases v with
      | none => cases h
      | some v =>
        cases v with
        | ref b => cases h; exact ⟨i, d, hi.1, hi.2⟩
        | _ => cases h
    | _ => cases h
  · rintro ⟨i, d, h1, h2⟩
    exact ⟨(.own d, some (.ref a)), List.mem_iff_getElem?.mpr ⟨i, List.getElem?_zip_eq_some.mpr ⟨h1, h2⟩⟩, rfl⟩
def Bk (F : Hp) (pa : Option Addr) (t : Ts) (env : En) (σ : L2.St) (H : Hp) : Bs := ⟨F, H, pa.toList ++ ownA env σ, pa, false, [], t.dom⟩
theorem Cf.block {F : Hp} {pa : Option Addr} {t : Ts} {env : En} {σ : L2.St} {H : Hp} (C : Cf K B F pa t env σ H) (vs : List Nat) : Cf K (Bk F pa t (wipeE env vs) (wipe σ vs) H) F pa t (wipeE env vs) (wipe σ vs) H := by
  have wo : ∀ {i : Nat}, i ∉ vs → (wipe σ vs)[i]? = σ[i]? := fun h => wipe_out h
  refine ⟨by rw [wipeE_length, wipe_length, C.len], C.sub, fun _ _ e => e, fun _ _ e _ _ => e, fun a o e => .inl ⟨o, e⟩, fun a ha => ?_, fun i d e => ?_, fun i d e => ?_, fun i j d e a q1 q2 s1 s2 => ?_, fun a e => ?_, rfl, TabF.nil, C.ntb, fun a d e => by
    obtain ⟨h1, h2, h3, _, h5⟩ := C.obs a d e
    exact ⟨h1, h2, h3, .inl ⟨d, e⟩, h5⟩, fun a e => e, fun i d a e s => by
    obtain ⟨h1, hi⟩ := wipeE_some (by simp) e
    rw [wo hi] at s
    exact C.osp i d a h1 s⟩
  · rcases List.mem_append.mp ha with h | h
    · obtain ⟨_, ⟨u, q, _⟩, _⟩ := C.pen a (mem_pa.mp h)
      exact ⟨u, q⟩
    · obtain ⟨i, d, h1, h2⟩ := mem_ownA.mp h
      obtain ⟨h1', hi⟩ := wipeE_some (by simp) h1
      rw [wo hi] at h2
      obtain ⟨a', u, s1, e1, _⟩ := C.own i d h1'
      rw [h2] at s1; cases s1
      exact ⟨u, e1⟩
  · obtain ⟨h1, hi⟩ := wipeE_some (by simp) e
    obtain ⟨v, s1, r⟩ := C.val i d h1
    exact ⟨v, by rw [wo hi]; exact s1, r⟩
  · obtain ⟨h1, hi⟩ := wipeE_some (by simp) e
    obtain ⟨a, u, s1, e1, r, f1, p1, _⟩ := C.own i d h1
    refine ⟨a, u, by rw [wo hi]; exact s1, e1, r, f1, p1, .inl (List.mem_append.mpr (.inr (mem_ownA.mpr ⟨i, d, e, by rw [wo hi]; exact s1⟩)))⟩
  · obtain ⟨h1, hi⟩ := wipeE_some (by simp) q1
    obtain ⟨h2, hj⟩ := wipeE_some (by simp) q2
    rw [wo hi] at s1
    rw [wo hj] at s2
    exact C.sep i j d e a h1 h2 s1 s2
  · obtain ⟨h1, h2, _⟩ := C.pen a e
    exact ⟨h1, h2, .inl (List.mem_append.mpr (.inl (mem_pa.mpr e)))⟩
theorem Cf.join {F F3 : Hp} {pa pa3 : Option Addr} {t t3 : Ts} {env e' : En} {σ σ2 : L2.St} {H H4 : Hp} {vs : List Nat} (C : Cf K B F pa t env σ H) (C' : Cf K (Bk F pa t (wipeE env vs) (wipe σ vs) H) F3 pa3 t3 e' σ2 H4)
    (he : wipeE e' vs = wipeE env vs) (hs : wipe σ2 vs = wipe σ vs) : Gr F pa F3 pa3 ∧ Cf K B F3 pa3 t3 env σ H4 := by
  have wo : ∀ {i : Nat}, i ∉ vs → (wipe σ vs)[i]? = σ[i]? := fun h => wipe_out h
  have wo2 : ∀ {i : Nat}, i ∉ vs → (wipe σ2 vs)[i]? = σ2[i]? := fun h => wipe_out h
  have g : Gr F pa F3 pa3 := ⟨C'.bas, C'.pnn⟩
  -- what the block may change
  have ex : ∀ a, a ∈ (Bk F pa t (wipeE env vs) (wipe σ vs) H).ex → pa = some a ∨ ∃ (i : Nat) (d : D), i ∉ vs ∧ env[i]? = some (Sl.own d) ∧ σ[i]? = some (some (V.ref a)) := fun a ha => by
    rcases List.mem_append.mp ha with h | h
    · exact .inl (mem_pa.mp h)
    · obtain ⟨i, d, h1, h2⟩ := mem_ownA.mp h
      obtain ⟨h1', hi⟩ := wipeE_some (by simp) h1
      exact .inr ⟨i, d, hi, h1', by rw [← wo hi]; exact h2⟩
  have exB : ∀ a, a ∈ (Bk F pa t (wipeE env vs) (wipe σ vs) H).ex → a ∈ B.ex ∨ B.H a = none := fun a ha => by
    rcases ex a ha with h | ⟨i, d, _, h1, h2⟩
    · exact (C.pen a h).2.2
    · obtain ⟨a', u, s1, _, _, _, _, x⟩ := C.own i d h1
      rw [h2] at s1; cases s1
      exact x
  have kp : ∀ a o, H a = some o → a ∉ (Bk F pa t (wipeE env vs) (wipe σ vs) H).ex → t.obs a = none → H4 a = some o := fun a o e n no => C'.frm a o e n (fun ⟨d, z⟩ => by rw [no] at z; cases z)
  have nf : ∀ a o, H a = some o → F a = none → F3 a = none := fun a o e n => by
    cases q : F3 a with
    | none => rfl
    | some u =>
      rcases C'.new a u q with ⟨u', z⟩ | z
      · have z : F a = some u' := z
        rw [n] at z; cases z
      · have z : H a = none := z
        rw [e] at z; cases z
  refine ⟨g, ⟨C.len, C'.sub, fun a o e => g.f _ _ (C.bas a o e), fun a o e hx ho => ?_, fun a o e => ?_, fun a ha => ?_, fun i d e => ?_, fun i d e => ?_, C.sep, fun a e => ?_, Eq.trans g.p C.pnn, C.tab.keep g.f (fun p hp ps z => nf _ _ z (C.tab p hp).2.1) (fun p hp ps z => kp _ _ z (fun y => by
    rcases ex _ y with y | ⟨i, d, _, h1, h2⟩
    · obtain ⟨_, ⟨u, q, ca, w, _⟩, _⟩ := C.pen p.1 y
      rw [z] at q
      subst w
      cases q
    · obtain ⟨a', u, s1, e1, r1, _⟩ := C.own i d h1
      rw [h2] at s1; cases s1
      rw [z] at e1
      exact r1.ntb ps (Option.some.inj e1).symm) (by
    cases q : t.obs p.1 with
    | none => rfl
    | some d =>
      obtain ⟨_, ⟨u, q2, r⟩, _⟩ := C.obs p.1 d q
      rw [z] at q2
      exact absurd (Option.some.inj q2).symm (r.ntb ps))), C'.ntb, fun a d q => ?_, fun a q => C'.obx a (C.obx a q), fun i d a e s => ?_⟩⟩
  · refine kp a o (C.frm a o e hx ho) (fun z => ?_) ?_
    · rcases exB a z with q | q
      · exact hx q
      · rw [q] at e; cases e
    · cases q : t.obs a with
      | none => rfl
      | some d =>
        rcases (C.obs a d q).2.2.2.1 with z | z
        · exact absurd z ho
        · rw [z] at e; cases e
  · rcases C'.new a o e with ⟨o', q⟩ | q
    · exact C.new a o' q
    · exact .inr (C.fresh q).2.1
  · by_cases hx : a ∈ (Bk F pa t (wipeE env vs) (wipe σ vs) H).ex
    · exact C'.exl a hx
    · obtain ⟨o, q⟩ := C.exl a ha
      cases z : t.obs a with
      | none => exact ⟨o, kp a o q hx z⟩
      | some d =>
        obtain ⟨d', q'⟩ := C'.obx a ⟨d, z⟩
        obtain ⟨_, ⟨u, y, _⟩, _⟩ := C'.obs a d' q'
        exact ⟨u, y⟩
  · obtain ⟨v, h1, h2⟩ := C.val i d e
    exact ⟨v, h1, RelD.mono g d v h2⟩
  · obtain ⟨a, h, h1, h2, h3, h4, h5, h6⟩ := C.own i d e
    by_cases hi : i ∈ vs
    · have nx : a ∉ (Bk F pa t (wipeE env vs) (wipe σ vs) H).ex := fun z => by
        rcases ex a z with q | ⟨j, d', hj, q1, q2⟩
        · exact h5 q
        · have := C.sep i j d d' a e q1 h1 q2
          exact hj (this ▸ hi)
      refine ⟨a, h, h1, kp a h h2 nx (C.osp i d a e h1), RelO1.mono g d h h3, nf a h h2 h4, fun z => ?_, h6⟩
      rcases (C'.pen a z).2.2 with q | q
      · exact nx q
      · have q : H a = none := q
        rw [h2] at q; cases q
    · have e1 : e'[i]? = some (Sl.own d) := by
        rw [← wipeE_out (env := e') hi, he, wipeE_out hi]; exact e
      obtain ⟨a', h', s1, q1, q2, q3, q4, _⟩ := C'.own i d e1
      rw [← wo2 hi, hs, wo hi, h1] at s1
      cases s1
      exact ⟨a, h', h1, q1, q2, q3, q4, h6⟩
  · obtain ⟨h1, h2, h3⟩ := C'.pen a e
    refine ⟨h1, h2, ?_⟩
    rcases h3 with q | q
    · exact exB a q
    · exact .inr (C.fresh q).2.1
  · obtain ⟨h1, h2, h3, h4, h5⟩ := C'.obs a d q
    refine ⟨h1, h2, h3, ?_, h5⟩
    rcases h4 with ⟨d0, z⟩ | z
    · exact (C.obs a d0 z).2.2.2.1
    · exact .inr (C.fresh z).2.1
  · cases q : t3.obs a with
    | none => rfl
    | some d' =>
      rcases (C'.obs a d' q).2.2.2.1 with ⟨d0, z⟩ | z
      · rw [C.osp i d a e s] at z; cases z
      · obtain ⟨a', h, h1, h2, _⟩ := C.own i d e
        rw [s] at h1; cases h1
        have z : H a = none := z
        rw [h2] at z; cases z
theorem noo_of {F : Hp} {pa : Option Addr} {t t' : Ts} {env : En} {σ : L2.St} {H H' : Hp} {D : Addr} {o : HO} {F3 : Hp} {pa3 : Option Addr} {env3 : En} {σ3 : L2.St} (h : t.obs D = none) (C : Cf K (Bk F pa t env σ H) F3 pa3 t' env3 σ3 H') (e : H D = some o) : t'.obs D = none := by
  cases q : t'.obs D with
  | none => rfl
  | some d' =>
    rcases (C.obs D d' q).2.2.2.1 with ⟨d0, z⟩ | z
    · rw [h] at z; cases z
    · have z : H D = none := z
      rw [e] at z; cases z
def teU (K : PySem.W.Frag) (de : DE) : TE := fun σ H Q => ∃ B, teOf K B de σ H Q
def ttU (K : PySem.W.Frag) (dt : DT) : TT := fun σ H Q => ∃ B, ttOf K B dt σ H Q
def tgU (K : PySem.W.Frag) (vs : List Nat) (g : DG) : TG := fun v σ H Q => ∃ B, tgOf K B vs g v σ H Q
theorem pe_U (h : ∀ B, QE X B e da) : PE X e (teU X.K da) := ⟨fun pins s σ H Q I ⟨B, q⟩ => (h B).run pins s σ H Q I q⟩
theorem pg_U {vs : List Nat} (h : ∀ B, QG X B vs e g) : PG X e (tgU X.K vs g) := ⟨fun pins s σ H v u Q I r ⟨B, q⟩ => (h B).run pins s σ H v u Q I r q⟩
theorem pts_U0 : PTs X [] (ttU X.K dYes) := ⟨fun pins s σ H Q I ⟨B, q⟩ => pts_nil.run pins s σ H Q I (by
  obtain ⟨F, pa, t, env, P, C, h, k⟩ := q
  exact k true F pa t H (Gr.refl _ _) C h)⟩
theorem wipe_idem {σ : L2.St} : ∀ {vs : List Nat}, wipe (wipe σ vs) vs = wipe σ vs := fun {vs} => by
  apply List.ext_getElem?
  intro k
  by_cases hk : k ∈ vs
  · have : ∀ (τ : L2.St) (us : List Nat), k ∈ us → (wipe τ us)[k]? = τ[k]?.map fun _ => none := fun τ us => by
      induction us with
      | nil => intro h; simp at h
      | cons j r ih =>
        intro h
        show ((wipe τ r).set j none)[k]? = _
        by_cases hj : j = k
        · subst hj
          rw [List.getElem?_set_self']
          by_cases hr : j ∈ r
          · rw [ih hr]; cases τ[j]? <;> rfl
          · rw [wipe_out hr]; cases τ[j]? <;> rfl
        · rw [List.getElem?_set_ne hj]
          exact ih ((List.mem_cons.mp h).resolve_left (Ne.symm hj))
    rw [this _ _ hk, this _ _ hk]
    cases σ[k]? <;> rfl
  · rw [wipe_out hk]
theorem ev_lc {di : DI} {vs : List Nat} : ∀ σ H Q, tnOf K B (dLc vs di g dt da) σ H Q → tLc (tiOf K B di) (tgU K vs g) (ttU K dt) (teU K da) vs σ H Q := fun σ H Q ⟨F, pa, t, env, P, C, h, k⟩ => by
  refine ⟨F, pa, t, env, _, C, h, fun J items F1 pa1 t1 H1 g1 C1 iok q D hD => ?_⟩
  obtain ⟨Inv, h0, hstep, hd⟩ := q
  refine ⟨fun i m H => m = items.length - i ∧ i ≤ items.length ∧ ∃ F pa t acc us, Gr F1 pa1 F pa ∧ Cf K B F pa t env σ H ∧ Nw B F pa t env σ D ∧ H D = some (.lst us) ∧ RelL K F pa acc us ∧ Inv i acc t,
    ⟨_, rfl, Nat.zero_le _, F1, pa1, t1, [], [], Gr.refl _ _, C1.loose _ hD, C1.nw hD, upd_same, RelL.nil, h0⟩, ?_⟩
  rintro i m H2 ⟨rfl, hi, F2, pa2, t2, acc, us, g2, C2, n2, e2, r2, q2⟩
  have io := iok B F2 pa2 t2 env σ H2 i g2 C2
  by_cases hlt : i < items.length
  · have hx : items[i]? = some items[i] := by simp [hlt]
    obtain ⟨go, yl⟩ := io.2 _ hx
    refine .inr ⟨go, fun H' => ∃ m', m' < items.length - i ∧ (m' = items.length - (i + 1) ∧ i + 1 ≤ items.length ∧ ∃ F pa t acc us, Gr F1 pa1 F pa ∧ Cf K B F pa t env σ H' ∧ Nw B F pa t env σ D ∧ H' D = some (.lst us) ∧ RelL K F pa acc us ∧ Inv (i + 1) acc t), fun H' z => z, fun x H' y => ?_⟩
    obtain ⟨hk, F3, nw3, g3, C3, r3⟩ := yl x H' y
    have e3 : H' D = some (.lst us) := hk _ _ e2
    have dn : D ∉ (Bk F3 pa2 t2 (wipeE env vs) (wipe σ vs) H').ex := fun z => by
      rcases List.mem_append.mp z with z | z
      · exact n2.a (mem_pa.mp z)
      · obtain ⟨j, d, h1, h2⟩ := mem_ownA.mp z
        obtain ⟨h1', hj⟩ := wipeE_some (by simp) h1
        have wo : (wipe σ vs)[j]? = σ[j]? := wipe_out hj
        rw [wo] at h2
        exact n2.s j d h1' h2
    have fD : F3 D = none := by
      cases z : F3 D with
      | none => rfl
      | some o =>
        rcases nw3 D o z with ⟨o', q⟩ | q
        · rw [n2.f] at q; cases q
        · rw [e2] at q; cases q
    have n3 : Nw B F3 pa2 t2 env σ D := ⟨fD, n2.b, n2.a, n2.s, n2.o⟩
    have CB := C3.block vs
    refine ⟨_, F3, pa2, t2, wipeE env vs, items[i], _, CB, r3, hstep i _ acc t2 hx q2, fun F4 pa4 t4 e4 σ4 H4 g4 C4 w4 q4 => ?_⟩
    obtain ⟨we, q4⟩ := q4
    have hs4 : wipe σ4 vs = wipe σ vs := w4.trans wipe_idem
    refine ⟨hs4, _, F4, pa4, t4, e4, _, C4, q4, fun k F5 pa5 t5 H5 g5 C5 q5 => ?_⟩
    have fin : ∀ {F6 : Hp} {pa6 : Option Addr} {t6 : Ts} {H6 : Hp}, Gr F3 pa2 F6 pa6 → Cf K (Bk F3 pa2 t2 (wipeE env vs) (wipe σ vs) H') F6 pa6 t6 e4 σ4 H6 →
        Gr F1 pa1 F6 pa6 ∧ Cf K B F6 pa6 t6 env σ H6 ∧ Nw B F6 pa6 t6 env σ D ∧ H6 D = some (.lst us) ∧ RelL K F6 pa6 acc us := fun {F6 pa6 t6 H6} g6 C6 => by
      obtain ⟨g7, C7⟩ := C3.join C6 we hs4
      have eD : H6 D = some (.lst us) := C6.frm D _ e3 dn (fun ⟨d, z⟩ => by rw [n2.o] at z; cases z)
      refine ⟨(g2.trans g3).trans g7, C7, ⟨?_, n2.b, fun z => ?_, n2.s, noo_of n2.o C6 e3⟩, eD, RelL.mono (g3.trans g7) acc us r2⟩
      · cases z : F6 D with
        | none => rfl
        | some o =>
          rcases C6.new D o z with ⟨o', q⟩ | q
          · have q : F3 D = some o' := q
            rw [fD] at q; cases q
          · have q : H' D = none := q
            rw [e3] at q; cases q
      · rcases (C6.pen D z).2.2 with q | q
        · exact dn q
        · have q : H' D = none := q
          rw [e3] at q; cases q
    cases k with
    | true =>
      refine L2.iteT ?_
      refine ⟨_, F5, pa5, t5, e4, _, C5, q5, fun v d F6 pa6 t6 H6 g6 C6 r6 q6 => ?_⟩
      obtain ⟨hl, q6⟩ := q6
      obtain ⟨h1, h2, h3, h4, h5⟩ := fin ((g4.trans g5).trans g6) C6
      refine ⟨us, h4, by rw [h5.len]; exact zlt hl, _, by omega, rfl, hlt, F6, pa6, t6, acc ++ [d], us ++ [v], h1, h2.write h3, h3, upd_same, h5.append (.cons r6 .nil), q6⟩
    | false =>
      refine L2.iteF ?_
      obtain ⟨h1, h2, h3, h4, h5⟩ := fin (g4.trans g5) C5
      exact ⟨_, by omega, rfl, hlt, F5, pa5, t5, acc, us, h1, h2, h3, h4, h5, q5⟩
  · have e : i = items.length := by omega
    subst e
    exact .inl ⟨io.1 rfl, k D _ (.lst acc) F2 pa2 t2 H2 (g1.trans g2) C2 n2 e2 ⟨us, rfl, r2⟩ (hd acc t2 q2)⟩
theorem q_lc {elt tg iter : Expr} {ifs : List Expr} {scope : Scope} {own : List (Str × Nat)} {pos : Pos} {di : DI} (hc : X.calm = true) (hN : X.N.Nodup) (hi : QI X B tg iter di) (ok : BlkOk X.N X.env.scope scope own)
    (hg : ∀ (s : Shared) (H : Hp) (C : Addr) (cl : List (Str × Addr)) (fp : List Addr) (B : Bs), QG (X.blk s H scope (compEnvC scope cl C X.env) fp) B (own.map (·.2)) tg g) (ht : ∀ (s : Shared) (H : Hp) (C : Addr) (cl : List (Str × Addr)) (fp : List Addr), PTs (X.blk s H scope (compEnvC scope cl C X.env) fp) ifs (ttU X.K dt))
    (he : ∀ (s : Shared) (H : Hp) (C : Addr) (cl : List (Str × Addr)) (fp : List Addr) (B : Bs), QE (X.blk s H scope (compEnvC scope cl C X.env) fp) B elt da) (hs : ∀ x, foldedSetIterable iter X.env x = pure x := by intro _; rfl) :
    QN X B (.ListComp elt [⟨tg, iter, ifs, 0⟩] scope pos) (dLc (own.map (·.2)) di g dt da) :=
  PE.imp (pe_lc hc hN hi ok (fun s H C cl fp => pg_U fun B => hg s H C cl fp B) ht (fun s H C cl fp => pe_U fun B => he s H C cl fp B) hs) ev_lc
end
section
variable {P : Program} {w : World} {K : PySem.W.Frag} {mg : Str → Option Value} {base : Heap}
theorem cf_start {F : Hp} {pa : Option Addr} {t : Ts} {H : Hp} {N : List Str} {ds : List D} {vs : List V} (C : Cf K (B0 F pa t H) F pa t [] [] H) (r : RelL K F pa ds vs) : Cf K (B0 F pa t H) F pa t (start0 N ds) (start N vs) H := by
  have hl := r.len
  have val : ∀ (i : Nat) (d : D), (start0 N ds)[i]? = some (Sl.val d) → ds[i]? = some d := fun i d e => by
    unfold start0 at e
    by_cases hi : i < ds.length
    · rw [List.getElem?_append_left (by simpa using hi), List.getElem?_map] at e
      cases q : ds[i]? with
      | none => rw [q] at e; cases e
      | some x => rw [q] at e; cases e; rfl
    · rw [List.getElem?_append_right (by simpa using hi), List.getElem?_replicate] at e
      split at e <;> cases e
  have noown : ∀ (i : Nat) (d : D), (start0 N ds)[i]? ≠ some (Sl.own d) := fun i d e => by
    unfold start0 at e
    by_cases hi : i < ds.length
    · rw [List.getElem?_append_left (by simpa using hi), List.getElem?_map] at e
      cases q : ds[i]? with
      | none => rw [q] at e; cases e
      | some x => rw [q] at e; cases e
    · rw [List.getElem?_append_right (by simpa using hi), List.getElem?_replicate] at e
      split at e <;> cases e
  refine ⟨by simp [start0, L2.start, hl], C.sub, C.bas, C.frm, C.new, C.exl, fun i d e => ?_, fun i d e => absurd e (noown i d), fun i j d e a q => absurd q (noown i d), C.pen, C.pnn, C.tab, C.ntb, C.obs, C.obx, fun i d a q => absurd q (noown i d)⟩
  obtain ⟨v, h1, h2⟩ := r.get (val i d e)
  refine ⟨v, ?_, h2⟩
  unfold L2.start
  have hi : i < vs.length := (List.getElem?_eq_some_iff.mp h1).1
  rw [List.getElem?_append_left (by simpa using hi), List.getElem?_map, h1]
  rfl
theorem fn_ok {x qual : Str} {st : Stmt} {f : Addr} {fd : FuncData} {N ps : List Str} {k : Nat} {sp : PSp} {ds : DS} (Fu : Fun K x qual st f fd) (S : FnScope N ps (defScope st)) (len : ∀ as t Q, sp as t Q → as.length = ps.length)
    (hbody : ∀ (cdv : Value) (A : Around) (outer : List PySem.Env) (s : Shared) (H : Hp) (E : XK) (B : Bs), Room k (A.deeper (envOfC qual (defScope st) s.heap.objs.size f cdv)) → B.Top → B.m = false →
      QSs (cxOf CX0 P w K mg base N qual (defScope st) f cdv A outer s H E).nox B (defBody st) ds)
    (hds : ∀ as t Q, sp as t Q → ds (endsOf Q) (start0 N as) t) : FnOk P w K mg base CX0 (k + 1) f fd ps (lift K sp) := by
  refine Fu.ok S (fun vs H Q E h => ?_) (fun cdv A outer s H vs Q E hr h => ?_)
  · obtain ⟨F, pa, t, as, R, C, r, q, _⟩ := h
    rw [r.len]; exact len as t R q
  · obtain ⟨F, pa, t, as, R, C, r, q, fin⟩ := h
    refine ⟨_, hbody cdv A outer s H E (B0 F pa t H) hr (B0.top F pa t H) rfl, F, pa, t, start0 N as, endsOf R, cf_start C r, hds as t R q, ⟨?_, ?_, ?_, ?_⟩⟩
    · intro F' pa' t' env σ H' g C' q'
      exact fin .non .non F' pa' t' H' C'.nil rD_non q'
    · intro v d F' pa' t' env σ H' g C' r' q'
      exact fin v d F' pa' t' H' C'.nil r' q'
    · intro F' pa' t' env σ H' g C' q'
      exact q'.elim
    · intro F' pa' t' env σ H' g C' q'
      exact q'.elim
theorem fn_okN {x qual : Str} {st : Stmt} {f : Addr} {fd : FuncData} {N ps : List Str} {k : Nat} {sp : PSp} {ds : DS} (Fu : Fun K x qual st f fd) (S : FnScope N ps (defScope st)) (len : ∀ as t Q, sp as t Q → as.length = ps.length)
    (hbody : ∀ (cdv : Value) (A : Around) (outer : List PySem.Env) (s : Shared) (H : Hp) (E : XK) (B : Bs), Room k (A.deeper (envOfC qual (defScope st) s.heap.objs.size f cdv)) → B.Top → B.m = true →
      QSs (cxOf CX0 P w K mg base N qual (defScope st) f cdv A outer s H E).nox B (defBody st) ds)
    (hds : ∀ as t Q, sp as t Q → ds (endsN Q) (start0 N as) t) : FnOk P w K mg base CX0 (k + 1) f fd ps (liftN K sp) := by
  refine Fu.ok S (fun vs H Q E h => ?_) (fun cdv A outer s H vs Q E hr h => ?_)
  · obtain ⟨F, pa, t, as, R, C, r, q, _⟩ := h
    rw [r.len]; exact len as t R q
  · obtain ⟨F, pa, t, as, R, C, r, q, fin⟩ := h
    refine ⟨_, hbody cdv A outer s H E (B1 F pa t H) hr (B1.top F pa t H) rfl, F, pa, t, start0 N as, _, (cf_start C r).cong rfl rfl rfl rfl rfl, hds as t R q, ⟨?_, ?_, ?_, ?_⟩⟩
    · intro F' pa' t' env σ H' g C' q'
      exact q'.elim
    · intro v d F' pa' t' env σ H' g C' r' q'
      rcases r' with ⟨rfl, rfl⟩ | ⟨p, h, rfl, n1, n2, n3, n4, e, r'⟩
      · exact q'.elim
      have q2 : R d t' := by
        cases d with
        | non => exact q'.elim
        | _ => exact q'
      exact fin p h d F' pa' t' H' (C'.nil.cong rfl rfl rfl rfl rfl) n1 n2 n3 n4 e r' q2
    · intro F' pa' t' env σ H' g C' q'
      exact q'.elim
    · intro F' pa' t' env σ H' g C' q'
      exact q'.elim
end
end Q
/-! QH7 -/
namespace Q
open PySem L2 PyProof.Rows
end Q
/-! QH8 -/
namespace Q
open PySem L2 PyProof.Rows
section
variable {X : Cx} {B : Bs} {K : PySem.W.Frag} {a b c e o i' : Expr} {es : List Expr} {pos : Pos} {da db dk dz : DE} {as : DA}
def dispT (K : PySem.W.Frag) (l : List (Str × DE)) : List (TE × TE) := l.map fun p => (tC (.str p.1), teU K p.2)
theorem q_pnil : PPs X pos [] [] (dispT X.K []) := pps_nil
theorem q_pcons {k : Str} {j : Nat} {p : Pos} {ks : List (Option Expr)} {vs : List Expr} {l : List (Str × DE)} (hv : ∀ B, QE X B e da) (hr : PPs X pos ks vs (dispT X.K l)) : PPs X pos (some (.Constant (.str k) j p) :: ks) (e :: vs) (dispT X.K ((k, da) :: l)) :=
  pps_cons pe_str (pe_U hv) hr
theorem ev_disp {l : List (Str × DE)} : ∀ {σ : L2.St} {F : Hp} {pa : Option Addr} {t : Ts} {env : En} {H : Hp} {P : List D → Ts → Prop} {Q : List (V × V) → Hp → Prop} {D : Addr} {h : HO}, Cf K B F pa t env σ H → Nw B F pa t env σ D → H D = some h → dDispL l env t P →
    (∀ vs ds F' pa' t' H', Gr F pa F' pa' → Cf K B F' pa' t' env σ H' → Nw B F' pa' t' env σ D → H' D = some h → RelL K F' pa' ds vs → ds.length = l.length → P ds t' → Q ((l.map fun p => V.str p.1).zip vs) H') → tPairs (dispT K l) σ H Q := by
  induction l with
  | nil =>
    intro σ F pa t env H P Q D h C n e hd k
    exact k [] [] F pa t H (Gr.refl _ _) C n e RelL.nil rfl hd
  | cons p l ih =>
    intro σ F pa t env H P Q D h C n e hd k
    have CB := C.block []
    have dn : D ∉ (Bk F pa t (wipeE env []) (wipe σ []) H).ex := fun z => by
      rcases List.mem_append.mp z with z | z
      · exact n.a (mem_pa.mp z)
      · obtain ⟨j, d, h1, h2⟩ := mem_ownA.mp z
        exact n.s j d h1 h2
    refine ⟨_, F, pa, t, env, _, CB, hd, fun v d F1 pa1 t1 H1 g1 C1 r1 q1 => ?_⟩
    obtain ⟨g, C2⟩ := C.join (vs := []) C1 rfl rfl
    have e1 : H1 D = some h := C1.frm D _ e dn (fun ⟨d, z⟩ => by rw [n.o] at z; cases z)
    have n1 : Nw B F1 pa1 t1 env σ D := by
      refine ⟨?_, n.b, fun z => ?_, n.s, noo_of n.o C1 e⟩
      · cases z : F1 D with
        | none => rfl
        | some o =>
          rcases C1.new D o z with ⟨o', q⟩ | q
          · have q : F D = some o' := q
            rw [n.f] at q; cases q
          · have q : H D = none := q
            rw [e] at q; cases q
      · rcases (C1.pen D z).2.2 with q | q
        · exact dn q
        · have q : H D = none := q
          rw [e] at q; cases q
    exact ih C2 n1 e1 q1 fun vs ds F2 pa2 t2 H2 g2 C3 n3 e3 r3 l3 q3 => k (v :: vs) (d :: ds) F2 pa2 t2 H2 (g.trans g2) C3 n3 e3 (.cons (RelD.mono g2 d v r1) r3) (by simp [l3]) q3
theorem merge_nd : ∀ {more acc : List (L2.Key × V)}, ((acc ++ more).map (·.1)).Nodup → mergeK acc more = acc ++ more
  | [], acc, _ => by simp [mergeK]
  | p :: more, acc, h => by
    have : valV acc p.1 = none := by
      cases q : valV acc p.1 with
      | none => rfl
      | some v =>
        exfalso
        have hm : p.1 ∈ acc.map (·.1) := by
          unfold valV at q
          cases z : acc.find? (fun kv => decide (kv.1 = p.1)) with
          | none => rw [z] at q; cases q
          | some x =>
            have h1 := List.mem_of_find?_eq_some z
            have h2 := List.find?_some z
            exact List.mem_map.mpr ⟨x, h1, of_decide_eq_true h2⟩
        rw [List.map_append, List.nodup_append] at h
        exact h.2.2 _ hm _ (List.mem_cons_self ..) rfl
    show mergeK (putK acc p.1 p.2) more = _
    rw [putK_new p.2 this, merge_nd (by simpa using h)]
    simp
theorem q_disp {keys : List (Option Expr)} {values : List Expr} {l : List (Str × DE)} (h : PPs X pos keys values (dispT X.K l)) (nd : (l.map fun p => p.1).Nodup) (h15 : l.length ≤ 15) (hall : keys.all (·.isSome) = true := by rfl) (hl : keys.length = values.length := by rfl) (h0 : keys ≠ [] := by exact fun z => nomatch z)
    (h15' : keys.length ≤ 15 := by decide) : QN X B (.Dict keys values pos) (dDisp l) := PE.imp (pe_disp h hall hl h0 h15') fun σ H Q ⟨F, pa, t, env, P, C, hd, k⟩ => fun p hp => by
  refine ev_disp (C.loose _ hp) (C.nw hp) upd_same hd fun vs ds F' pa' t' H' g C' n e r ld q => ?_
  have hlen : vs.length = l.length := by rw [r.len, ld]
  have e1 : ∀ (l : List (Str × DE)) (vs : List V), (l.map fun p => V.str p.1).zip vs = ((l.map fun p => (Sum.inr p.1 : L2.Key)).zip vs).map fun kv => (kV kv.1, kv.2) := by
    intro l
    induction l with
    | nil => intro vs; rfl
    | cons x l ih =>
      intro vs
      cases vs with
      | nil => rfl
      | cons v vs => simp only [List.map_cons, List.zip_cons_cons, ih vs]; rfl
  have nd2 : (((l.map fun p => (Sum.inr p.1 : L2.Key)).zip vs).map (·.1)).Nodup := by
    rw [List.map_fst_zip (by simp [hlen])]
    have : (l.map fun p => (Sum.inr p.1 : L2.Key)) = (l.map fun p => p.1).map Sum.inr := by simp
    rw [this]
    exact List.Pairwise.map _ (fun a b h z => h (Sum.inr.inj z)) nd
  have e2 := merge_nd (more := (l.map fun p => (Sum.inr p.1 : L2.Key)).zip vs) (acc := []) (by simpa using nd2)
  refine ⟨e, (l.map fun p => (Sum.inr p.1 : L2.Key)).zip vs, e1 l vs, by rw [List.length_zip]; simp; omega, ?_⟩
  rw [e2]
  exact k p _ _ F' pa' t' _ g (C'.write n) n upd_same (show RelO1 X.K F' pa' (.dic (l.map fun p => .inr p.1) ds) _ from ⟨vs, rfl, by simp [hlen], r⟩) q
end
end Q
/-! QH9 -/
namespace Q
open PySem L2 PyProof.Rows
section
variable {X : Cx} {B : Bs} {K : PySem.W.Frag} {a b c e o i' : Expr} {es : List Expr} {pos : Pos} {da db dk dz : DE} {as : DA}
theorem Cf.wrPen {F : Hp} {pa : Option Addr} {t t' : Ts} {env : En} {σ : L2.St} {H : Hp} (C : Cf K B F pa t env σ H) {a : Addr} {h : HO} (e : pa = some a) (p : PenOk F t' h) (ho : t'.obs = t.obs := by rfl) : Cf K B F pa t' env σ (upd H a h) := by
  obtain ⟨f0, ⟨h0, e0, p0⟩, x0⟩ := C.pen a e
  have nb : ∀ {c : Addr} {u : HO}, F c = some u → c ≠ a := fun z => ne_of_none z f0
  refine ⟨C.len, fun c u q => by rw [upd_ne (nb q)]; exact C.sub c u q, C.bas, fun c u q hx ho => ?_, C.new, fun c hc => ?_, C.val, fun i d q => ?_, C.sep, fun c q => ?_, C.pnn, C.tab.hs (fun p _ ps z => by rw [upd_ne (fun y => by rw [y, e0] at z; obtain ⟨ca, w, _⟩ := p0; rw [w] at z; cases z)]; exact z), C.ntb, fun c d q => by
    rw [ho] at q
    obtain ⟨h1, ⟨u, h2, h3⟩, h4, h5⟩ := C.obs c d q
    refine ⟨h1, ⟨u, ?_, h3⟩, h4, h5⟩
    rw [upd_ne ?_]
    · exact h2
    · rintro rfl
      exact h4 e, fun c z => by rw [ho]; exact C.obx c z, fun i d c z s => by rw [ho]; exact C.osp i d c z s⟩
  · rw [upd_ne ?_]
    · exact C.frm c u q hx ho
    · rintro rfl
      rcases x0 with z | z
      · exact hx z
      · rw [z] at q; cases q
  · by_cases hc' : c = a
    · subst hc'; exact ⟨h, upd_same⟩
    · obtain ⟨u, q⟩ := C.exl c hc
      exact ⟨u, by rw [upd_ne hc']; exact q⟩
  · obtain ⟨c, u, h1, h2, h3, h4, h5, h6⟩ := C.own i d q
    refine ⟨c, u, h1, ?_, h3, h4, h5, h6⟩
    rw [upd_ne ?_]
    · exact h2
    · rintro rfl
      exact h5 e
  · rw [e] at q; cases q
    exact ⟨f0, ⟨h, upd_same, p⟩, x0⟩
theorem pen_at {F : Hp} {pa : Option Addr} {t : Ts} {env : En} {σ : L2.St} {H : Hp} {v : V} (C : Cf K B F pa t env σ H) (r : RelX K F pa env σ .pen v) : ∃ a ca, v = .ref a ∧ pa = some a ∧ H a = some (.dK (penRows t ca)) ∧ F ca = some (.lst (t.cells.map V.int)) := by
  rcases r with r | ⟨i, h1, h2⟩
  · unfold RelD at r
    obtain ⟨a, e, rfl⟩ := r
    obtain ⟨_, ⟨h, q, ca, rfl, z⟩, _⟩ := C.pen a e
    exact ⟨a, ca, rfl, e, q, z⟩
  · obtain ⟨a, h, s1, q, z, _⟩ := C.own i _ h1
    exact z.elim
theorem q_penC {j : Nat} {p1 : Pos} (hu : X.A.units + 1 < cLine) (ho : QV X B o da) (hs : NoSl (.Constant (.str "cells") j p1)) : QE X B (.Subscript o (.Constant (.str "cells") j p1) pos) (dPenC da) := PE.imp (pe_dget hu ho (pe_str (x := "cells")) hs) fun σ H Q ⟨F, pa, t, env, P, C, h, k⟩ =>
  ⟨F, pa, t, env, _, C, h, fun v d F1 pa1 t1 H1 g1 C1 r1 q1 => by
    cases d with
    | pen =>
      obtain ⟨a, ca, rfl, e, q, z⟩ := pen_at C1 r1
      refine ⟨a, .ref ca, rfl, ?_, k _ _ F1 pa1 t1 H1 g1 C1 (by unfold RelD; exact ⟨ca, _, rfl, z, RelL.of_ints _⟩) q1⟩
      have dg := DGet.k (k := Sum.inr "cells") q
      have : valV (penRows t1 ca) (Sum.inr "cells" : L2.Key) = some (.ref ca) := by
        unfold penRows; split <;> exact valV_pos rfl
      rw [this] at dg
      exact dg
    | _ => exact q1.elim⟩
theorem val2 {k1 k2 k3 : Str} {v1 v2 v3 : V} (h : ¬ k1 = k2) : valV [((Sum.inr k1 : L2.Key), v1), (.inr k2, v2), (.inr k3, v3)] (.inr k2) = some v2 := by
  rw [valV_neg (fun z => h (Sum.inr.inj z)), valV_pos rfl]
theorem val3 {k1 k2 k3 : Str} {v1 v2 v3 : V} (h : ¬ k1 = k3) (h' : ¬ k2 = k3) : valV [((Sum.inr k1 : L2.Key), v1), (.inr k2, v2), (.inr k3, v3)] (.inr k3) = some v3 := by
  rw [valV_neg (fun z => h (Sum.inr.inj z)), valV_neg (fun z => h' (Sum.inr.inj z)), valV_pos rfl]
theorem put2 {k1 k2 k3 : Str} {v1 v2 v3 y : V} (h : ¬ k1 = k2) (h' : ¬ k3 = k2) : putK [((Sum.inr k1 : L2.Key), v1), (.inr k2, v2), (.inr k3, v3)] (.inr k2) y = [(.inr k1, v1), (.inr k2, y), (.inr k3, v3)] := by
  have e1 : ¬ ((Sum.inr k1 : L2.Key) = Sum.inr k2) := fun z => h (Sum.inr.inj z)
  have e3 : ¬ ((Sum.inr k3 : L2.Key) = Sum.inr k2) := fun z => h' (Sum.inr.inj z)
  simp [putK, e1, e3, h, h']
theorem put3 {k1 k2 k3 : Str} {v1 v2 v3 y : V} (h : ¬ k1 = k3) (h' : ¬ k2 = k3) : putK [((Sum.inr k1 : L2.Key), v1), (.inr k2, v2), (.inr k3, v3)] (.inr k3) y = [(.inr k1, v1), (.inr k2, v2), (.inr k3, y)] := by
  simp [putK, h, h']
theorem q_penA {b : Bool} {kw : Str} {j : Nat} {p1 : Pos} (hu : X.A.units + 1 < cLine) (ho : QV X B o da) (hk : kw = (if b then "turn" else "at" : Str)) (hs : NoSl (.Constant (.str kw) j p1)) : QE X B (.Subscript o (.Constant (.str kw) j p1) pos) (dPenA b da) := PE.imp (pe_dget hu ho (pe_str (x := kw)) hs) fun σ H Q ⟨F, pa, t, env, P, C, h, k⟩ =>
  ⟨F, pa, t, env, _, C, h, fun v d F1 pa1 t1 H1 g1 C1 r1 q1 => by
    cases d with
    | pen =>
      obtain ⟨hb, q1⟩ := q1
      obtain ⟨a, ca, rfl, e, q, z⟩ := pen_at C1 r1
      refine ⟨a, .int t1.at', rfl, ?_, k _ _ F1 pa1 t1 H1 g1 C1 (rD_int _) q1⟩
      have dg := DGet.k (k := Sum.inr kw) q
      have : valV (penRows t1 ca) (Sum.inr kw : L2.Key) = some (.int t1.at') := by
        unfold penRows
        rw [hb, hk]
        cases b
        · exact val2 (by decide +kernel)
        · exact val2 (by decide +kernel)
      rw [this] at dg
      exact dg
    | _ => exact q1.elim⟩
theorem q_penL {b : Bool} {kw : Str} {j : Nat} {p1 : Pos} (hu : X.A.units + 1 < cLine) (ho : QV X B o da) (hk : kw = (if b then "rest" else "left" : Str)) (hs : NoSl (.Constant (.str kw) j p1)) : QE X B (.Subscript o (.Constant (.str kw) j p1) pos) (dPenL b da) := PE.imp (pe_dget hu ho (pe_str (x := kw)) hs) fun σ H Q ⟨F, pa, t, env, P, C, h, k⟩ =>
  ⟨F, pa, t, env, _, C, h, fun v d F1 pa1 t1 H1 g1 C1 r1 q1 => by
    cases d with
    | pen =>
      obtain ⟨hb, q1⟩ := q1
      obtain ⟨a, ca, rfl, e, q, z⟩ := pen_at C1 r1
      refine ⟨a, .int t1.left, rfl, ?_, k _ _ F1 pa1 t1 H1 g1 C1 (rD_int _) q1⟩
      have dg := DGet.k (k := Sum.inr kw) q
      have : valV (penRows t1 ca) (Sum.inr kw : L2.Key) = some (.int t1.left) := by
        unfold penRows
        rw [hb, hk]
        cases b
        · exact val3 (by decide +kernel) (by decide +kernel)
        · exact val3 (by decide +kernel) (by decide +kernel)
      rw [this] at dg
      exact dg
    | _ => exact q1.elim⟩
theorem pen_name {F : Hp} {pa : Option Addr} {t : Ts} {env : En} {σ : L2.St} {H : Hp} {i : Nat} {p : Prop} (C : Cf K B F pa t env σ H) (h : match env[i]? with | some (.val .pen) => p | _ => False) : p ∧ ∃ a ca, σ[i]? = some (some (V.ref a)) ∧ pa = some a ∧ H a = some (.dK (penRows t ca)) ∧ F ca = some (.lst (t.cells.map V.int)) := by
  split at h
  · rename_i e
    obtain ⟨v, h1, h2⟩ := C.val i _ e
    obtain ⟨a, ca, rfl, r⟩ := pen_at C (.inl h2)
    exact ⟨h, a, ca, h1, r⟩
  · exact h.elim
theorem q_putA {b : Bool} {kw : Str} {i : Nat} {x : Str} {j : Nat} {p p1 pos' : Pos} (hu : X.A.units + 1 < cLine) (hx : PE X (.Name x p) (tVar i)) (he : QE X B e da) (hk : kw = (if b then "turn" else "at" : Str)) (hs : swapsWith e (some (.Subscript (.Name x p) (.Constant (.str kw) j p1) pos')) pos.line X.env = pure false := by rfl) :
    QS X B (.Assign [.Subscript (.Name x p) (.Constant (.str kw) j p1) pos'] e pos) (dPutA b i da) :=
  PS.imp (ps_dput hu hx (pe_str (x := kw)) he hs) fun De σ H ⟨F, pa, t, env, DD, C, h, R⟩ => ⟨F, pa, t, env, _, C, h, fun w y F' pa' t' H' g' C' r2 q2 => by
    cases y with
    | int n =>
      unfold RelD at r2
      subst r2
      obtain ⟨⟨hb, q2⟩, a, ca, s1, e1, q, z⟩ := pen_name C' q2
      refine ⟨.ref a, s1, a, _, rfl, DPut.k (k := Sum.inr kw) q (by unfold penRows; rw [sizeLine_eq]; split <;> simp), ?_⟩
      refine R.nx F' pa' ⟨t'.cells, n, t'.left, t'.tape, t'.obs⟩ env σ _ g' (C'.wrPen (t' := ⟨t'.cells, n, t'.left, t'.tape, t'.obs⟩) e1 ⟨ca, ?_, z⟩) q2
      unfold penRows
      rw [hb, hk]
      cases b
      · exact congrArg HO.dK (put2 (k1 := "cells") (k2 := "at") (k3 := "left") (by decide +kernel) (by decide +kernel))
      · exact congrArg HO.dK (put2 (k1 := "cells") (k2 := "turn") (k3 := "rest") (by decide +kernel) (by decide +kernel))
    | _ => exact q2.elim⟩
theorem q_putL {b : Bool} {kw : Str} {i : Nat} {x : Str} {j : Nat} {p p1 pos' : Pos} (hu : X.A.units + 1 < cLine) (hx : PE X (.Name x p) (tVar i)) (he : QE X B e da) (hk : kw = (if b then "rest" else "left" : Str)) (hs : swapsWith e (some (.Subscript (.Name x p) (.Constant (.str kw) j p1) pos')) pos.line X.env = pure false := by rfl) :
    QS X B (.Assign [.Subscript (.Name x p) (.Constant (.str kw) j p1) pos'] e pos) (dPutL b i da) :=
  PS.imp (ps_dput hu hx (pe_str (x := kw)) he hs) fun De σ H ⟨F, pa, t, env, DD, C, h, R⟩ => ⟨F, pa, t, env, _, C, h, fun w y F' pa' t' H' g' C' r2 q2 => by
    cases y with
    | int n =>
      unfold RelD at r2
      subst r2
      obtain ⟨⟨hb, q2⟩, a, ca, s1, e1, q, z⟩ := pen_name C' q2
      refine ⟨.ref a, s1, a, _, rfl, DPut.k (k := Sum.inr kw) q (by unfold penRows; rw [sizeLine_eq]; split <;> simp), ?_⟩
      refine R.nx F' pa' ⟨t'.cells, t'.at', n, t'.tape, t'.obs⟩ env σ _ g' (C'.wrPen (t' := ⟨t'.cells, t'.at', n, t'.tape, t'.obs⟩) e1 ⟨ca, ?_, z⟩) q2
      unfold penRows
      rw [hb, hk]
      cases b
      · exact congrArg HO.dK (put3 (k1 := "cells") (k2 := "at") (k3 := "left") (by decide +kernel) (by decide +kernel))
      · exact congrArg HO.dK (put3 (k1 := "cells") (k2 := "turn") (k3 := "rest") (by decide +kernel) (by decide +kernel))
    | _ => exact q2.elim⟩
end
section
variable {P : Program} {w : World} {K : PySem.W.Frag} {mg : Str → Option Value} {base : Heap}
def spLaw (K : PySem.W.Frag) : Sp := fun vs H Q _ => ∃ (a : Addr) (ns : List Int), vs = [.ref a] ∧ Only H ∧ SqL K H a (ns.map V.int) ∧ ns.length ≤ 63 ∧ ∀ H', Q (.bl true) H'
theorem law_body {qual : Str} {st : Stmt} {f : Addr} {N : List Str} {i : Nat} {s0 : Stmt} {rest : List Stmt} {dp : DE} {ds : DS} (hst : defBody st = s0 :: rest) {cdv : Value} {A : Around} {outer : List PySem.Env} {s : Shared} {H : Hp} {vs : List V} {Q : VK} {E : XK}
    (hfirst : ∀ B : Bs, PS (cxOf CX0 P w K mg base N qual (defScope st) f cdv A outer s H E).nox s0 (tAsg (tnOf K B dp) (L2.gName i)))
    (hbody : ∀ B : Bs, B.Top → B.m = false → QSs (cxOf CX0 P w K mg base N qual (defScope st) f cdv A outer s H E).nox B rest ds)
    (hi : i ≠ 0 ∧ i < N.length) (tape : Bool)
    (hds : ∀ ns : List Int, ns.length ≤ 63 → dp (start0 N [.scr ns]) ⟨[], 0, 0, false, noObs⟩ fun d _ => ∃ cs : List Int, d = .dic (if tape then [.inr "cells", .inr "turn", .inr "rest"] else [.inr "cells", .inr "at", .inr "left"]) [.lst (cs.map .int), .int 0, .int 0] ∧ cs.length ≤ 63 ∧
      ds (endsOf fun d _ => d = .bl true) ((start0 N [.scr ns]).set i (.val .pen)) ⟨cs, 0, 0, tape, noObs⟩) (h : spLaw K vs H Q E) :
    ∃ t, PSs (cxOf CX0 P w K mg base N qual (defScope st) f cdv A outer s H E).nox (defBody st) t ∧ t { nx := fun _ H' => Q .non H', rt := Q } (start N vs) H := by
  obtain ⟨a, ns, rfl, hO, hS, hl, fin⟩ := h
  rw [hst]
  have hall : PSs (cxOf CX0 P w K mg base N qual (defScope st) f cdv A outer s H E).nox rest (fun De σ H' => ∃ p' : Addr, tsOf K ⟨fun _ => none, fun _ => none, [], some p', false, [], fun _ => False⟩ ds De σ H') := ⟨fun pins s' σ H' De I ⟨p', q⟩ => (hbody ⟨fun _ => none, fun _ => none, [], some p', false, [], fun _ => False⟩ (fun a ha => by simp at ha) rfl).run pins s' σ H' De I q⟩
  refine ⟨_, pss_cons (hfirst (B0 H none ⟨[], 0, 0, false, noObs⟩ H)) hall, ?_⟩
  have C0 : Cf K (B0 H none ⟨[], 0, 0, false, noObs⟩ H) H none ⟨[], 0, 0, false, noObs⟩ [] [] H := ⟨rfl, fun _ _ e => e, fun _ _ e => e, fun _ _ e _ _ => e, fun a o e => .inl ⟨o, e⟩, fun a ha => by simp [B0] at ha, fun i d e => by simp at e, fun i d e => by simp at e, fun i j d e a q => by simp at q, fun a e => by simp at e, rfl, TabF.nil, fun a ps e => by
    rcases hO a with z | ⟨o, xs, z⟩ <;> rw [z] at e <;> simp at e, fun a d e => (nomatch e), fun a e => e, fun i d a e => by simp at e⟩
  have rs : RelL K H none [.scr ns] [.ref a] := .cons (by unfold RelD; exact ⟨a, rfl, hS⟩) .nil
  refine ⟨H, none, _, _, _, cf_start C0 rs, hds ns hl, fun p' h d F' pa' t' H' g C' n e r q => ?_⟩
  obtain ⟨cs, rfl, hcs, q⟩ := q
  obtain ⟨us, rfl, hlen, rl⟩ := r
  obtain ⟨v1, u1, rfl, r1, rl⟩ := rl.inv
  obtain ⟨v2, u2, rfl, r2, rl⟩ := rl.inv
  obtain ⟨v3, u3, rfl, r3, rl⟩ := rl.inv
  obtain rfl := rl.inv0
  unfold RelD at r1 r2 r3
  obtain ⟨ca, us, rfl, ec, rl4⟩ := r1
  subst r2 r3
  have eu : us = cs.map V.int := by
    have : ∀ {cs : List Int} {vs : List V}, RelL K F' pa' (cs.map .int) vs → vs = cs.map V.int := by
      intro cs
      induction cs with
      | nil => intro vs r; exact r.inv0
      | cons c cs ih =>
        intro vs r
        obtain ⟨v, vr, rfl, r1, r2⟩ := RelL.inv (show RelL K F' pa' (D.int c :: cs.map .int) vs from r)
        unfold RelD at r1
        rw [r1, ih r2]; rfl
    exact this rl4
  subst eu
  have C2 : Cf K ⟨fun _ => none, fun _ => none, [], some p', false, [], fun _ => False⟩ F' (some p') ⟨cs, 0, 0, tape, noObs⟩ ((start0 N [.scr ns]).set i (.val .pen)) ((start N [.ref a]).set i (some (.ref p'))) H' := by
    have noown : ∀ (j : Nat) (d : D), ((start0 N [.scr ns]).set i (.val .pen))[j]? ≠ some (Sl.own d) := fun j d e => by
      rcases get_set e with ⟨_, z⟩ | ⟨_, z⟩
      · cases z
      · have : ∀ (j : Nat) (d : D), (start0 N [.scr ns])[j]? ≠ some (Sl.own d) := fun j d e => by
          unfold start0 at e
          cases j with
          | zero => simp at e
          | succ j =>
            simp [List.getElem?_replicate] at e
        exact this j d z
    refine ⟨by simp [C'.len], C'.sub, fun _ _ z => (by cases z), fun _ _ z => (by cases z), fun _ _ _ => .inr rfl, fun _ z => (by simp at z), fun j d e => ?_, fun j d e => absurd e (noown j d), fun j j' d d' a q => absurd q (noown j d), fun a' e' => ?_, rfl, TabF.nil, C'.ntb, fun a d z => (nomatch z), fun a z => z.elim, fun j d a q => absurd q (noown j d)⟩
    · rcases get_set e with ⟨rfl, z⟩ | ⟨ne, z⟩
      · cases z
        refine ⟨.ref p', ?_, by unfold RelD; exact ⟨p', rfl, rfl⟩⟩
        rw [List.getElem?_set_self]
        unfold L2.start
        simp; omega
      · obtain ⟨v, h1, h2⟩ := C'.val j d z
        refine ⟨v, by rw [List.getElem?_set_ne ne]; exact h1, ?_⟩
        -- the only datum there is the script
        have hj : j = 0 ∧ d = .scr ns := by
          unfold start0 at z
          cases j with
          | zero => simp at z; exact ⟨rfl, z.symm⟩
          | succ j => simp [List.getElem?_replicate] at z
        obtain ⟨rfl, rfl⟩ := hj
        unfold RelD at h2 ⊢
        exact h2
    · cases e'
      refine ⟨n.f, ⟨_, e, ca, ?_, ec⟩, .inr rfl⟩
      unfold penRows
      cases tape <;> rfl
  refine ⟨p', F', some p', _, _, _, C2, q, ⟨?_, ?_, ?_, ?_⟩⟩
  · intro F pa t env σ H g C q
    cases q
  · intro v d F pa t env σ H g C r q
    have q : d = .bl true := q
    subst q
    unfold RetRel RelD at r
    rw [r]; exact fin H
  · intro F pa t env σ H g C q
    exact q.elim
  · intro F pa t env σ H g C q
    exact q.elim
theorem fn_law {x qual : Str} {st : Stmt} {f : Addr} {fd : FuncData} {N : List Str} {p : Str} {k i : Nat} {s0 : Stmt} {rest : List Stmt} {dp : DE} {ds : DS} (Fu : Fun K x qual st f fd) (S : FnScope N [p] (defScope st)) (hst : defBody st = s0 :: rest)
    (hfirst : ∀ (cdv : Value) (A : Around) (outer : List PySem.Env) (s : Shared) (H : Hp) (E : XK) (B : Bs), Room k (A.deeper (envOfC qual (defScope st) s.heap.objs.size f cdv)) →
      PS (cxOf CX0 P w K mg base N qual (defScope st) f cdv A outer s H E).nox s0 (tAsg (tnOf K B dp) (L2.gName i)))
    (hbody : ∀ (cdv : Value) (A : Around) (outer : List PySem.Env) (s : Shared) (H : Hp) (E : XK) (B : Bs), Room k (A.deeper (envOfC qual (defScope st) s.heap.objs.size f cdv)) → B.Top → B.m = false →
      QSs (cxOf CX0 P w K mg base N qual (defScope st) f cdv A outer s H E).nox B rest ds)
    (hi : i ≠ 0 ∧ i < N.length) (tape : Bool)
    (hds : ∀ ns : List Int, ns.length ≤ 63 → dp (start0 N [.scr ns]) ⟨[], 0, 0, false, noObs⟩ fun d _ => ∃ cs : List Int, d = .dic (if tape then [.inr "cells", .inr "turn", .inr "rest"] else [.inr "cells", .inr "at", .inr "left"]) [.lst (cs.map .int), .int 0, .int 0] ∧ cs.length ≤ 63 ∧
      ds (endsOf fun d _ => d = .bl true) ((start0 N [.scr ns]).set i (.val .pen)) ⟨cs, 0, 0, tape, noObs⟩) : FnOk P w K mg base CX0 (k + 1) f fd [p] (spLaw K) := by
  refine Fu.ok S (fun vs H Q E h => ?_) (fun cdv A outer s H vs Q E hr h => ?_)
  · obtain ⟨a, ns, rfl, _⟩ := h
    rfl
  · exact law_body hst (fun B => hfirst cdv A outer s H E B hr) (fun B => hbody cdv A outer s H E B hr) hi tape hds h
end
end Q
/-! QH10 -/
namespace Q
open PySem L2 PyProof.Rows
end Q
/-! QH11 -/
namespace Q
open PySem L2 PyProof.Rows
section
variable {X : Cx} {B : Bs} {K : PySem.W.Frag} {a b c e o : Expr} {es : List Expr} {pos : Pos} {da db dc : DE} {as : DA} {st : Stmt}
def iAny (K : PySem.W.Frag) (tl : TE) : TI := fun σ H R => tl σ H fun x H1 => ∃ a, x = .ref a ∧ (((∃ xs, SqL K H1 a xs) ∧ R (Itl K a) H1) ∨ ((∃ xs, SqT K H1 a xs) ∧ R (Itt K a) H1))
theorem pi_any {tg : Expr} {tl : TE} (hl : PE X e tl) : PI X tg e (iAny X.K tl) := ⟨fun pins s σ H R I h => by
  refine thn (hl.run pins s σ H _ I h) ?_
  rintro v s1 ⟨x, H1, I1, r1, a, rfl, h2⟩
  cases r1
  have fp : ∀ b ∈ [s1.heap.objs.size], FpOk X pins H1 b := by
    intro b hb
    rw [List.mem_singleton.mp hb]
    exact I1.fpOk (Nat.le_refl _) (I1.hok.fresh (Nat.le_refl _))
  have kp : ∀ (u : Obj) b o, s1.heap.get? b = some o → (s1.heap.push u).get? b = some o := fun u b o z => Heap.get?_push_of_some _ z
  rcases h2 with ⟨⟨xs, hq⟩, q⟩ | ⟨⟨xs, hq⟩, q⟩
  · have L := I1.list hq
    obtain ⟨its, rv, p, hz⟩ := L
    exact wpAny_pyIter_list p.isList ⟨_, _, _, _, H1, rfl, I1.kept (t' := s1.toks) (kp _), turn_list a _, ⟨_, Heap.get?_push_size _ rfl, rfl, rfl⟩, fp, q⟩
  · have L := I1.tuple hq
    obtain ⟨its, rv, p, hz⟩ := L
    exact wpAny_pyIter_tuple (s := s1) (items := its.toArray) p ⟨_, _, _, _, H1, rfl, I1.kept (t' := s1.toks) (kp _), turn_tuple a _, ⟨_, Heap.get?_push_size _ rfl, rfl, rfl⟩, fp, q⟩⟩
theorem q_iany {tg : Expr} (he : QE X B e da) : QI X B tg e (iSeq da) := PI.imp (pi_any he) fun σ H R ⟨F, pa, t, env, P, C, h, k⟩ => ⟨F, pa, t, env, _, C, h, fun v d F' pa' t' H' g C' r q => by
  cases d with
  | lst l =>
    have r' := r
    unfold RelD at r'
    obtain ⟨a, vs, rfl, e1, r1⟩ := r'
    exact ⟨a, rfl, .inl ⟨⟨vs, SqL.of (C'.sub _ _ e1)⟩, k _ l F' pa' t' H' g C' (it_list (SqL.of e1) r1) q⟩⟩
  | tup l =>
    have r' := r
    unfold RelD at r'
    obtain ⟨a, vs, rfl, e1, r1⟩ := r'
    exact ⟨a, rfl, .inr ⟨⟨vs, SqT.of (C'.sub _ _ e1)⟩, k _ l F' pa' t' H' g C' (it_tup e1 r1) q⟩⟩
  | scr ns =>
    have r' := r
    unfold RelD at r'
    obtain ⟨a, rfl, e1⟩ := r'
    exact ⟨a, rfl, .inl ⟨⟨_, sq_mono C'.sub e1⟩, k _ _ F' pa' t' H' g C' (it_list e1 (RelL.of_ints ns)) q⟩⟩
  | _ => exact q.elim⟩
theorem RelX.tyx {F : Hp} {pa : Option Addr} {t : Ts} {env : En} {σ : L2.St} {H : Hp} {d : D} {v : V} {n : Tn} (W : Cf K B F pa t env σ H) (r : RelX K F pa env σ d v) (h : tn d = some n) : TyX K H v (.type n.name) := by
  cases d with
  | non => cases h; rw [r.non W]; exact .base .non
  | bl b => cases h; rw [r.bl W]; exact .base (.bl b)
  | int i => cases h; rw [r.int W]; exact .base (.int i)
  | str s => cases h; rw [r.str W]; exact .base (.str s)
  | lst l => cases h; obtain ⟨a, us, rfl, e, _⟩ := r.lst W; exact .base (.lst e)
  | tup l => cases h; obtain ⟨a, us, rfl, e, _⟩ := r.tup W; exact .base (.tup e)
  | dic ks l => cases h; obtain ⟨a, us, rfl, e, _⟩ := r.dic W; exact .base (.dK e)
  | _ => cases h
theorem kit_isa (n c : Tn) : PySem.W.kitOne K (.type n.name) (.type c.name) = some (isa n c) := by
  refine kit_ty ?_
  cases n <;> cases c <;> decide +kernel
theorem kit_isas (n : Tn) : ∀ cs : List Tn, PySem.W.kitAny K (.type n.name) (cs.map fun c => .type c.name) = some (cs.any (isa n))
  | [] => rfl
  | c :: cs => kitAny_cons (b := isa n c) (kit_isa n c) (fun h => by rw [kit_isas n cs]; simp [h]) (fun h => by simp [h])
section
variable {p p2 tpos : Pos} {x : Str}
theorem q_isi {c : Tn} (he : QV X B e da) (hg : Gl X "isinstance") (hm : X.mg "isinstance" = none) (hg2 : Gl X x) (hm2 : X.mg x = none) (hv : bootBuiltins x = some (.type c.name)) (hn : x ≠ "__name__" := by decide) (hdb : (x == ("__debug__" : Str)) = false := by decide)
    (hs : starEach [e, .Name x p2] X.env = (false, eval e X.env) :: starEach [.Name x p2] X.env := by rfl) (hs2 : starEach [.Name x p2] X.env = (false, eval (.Name x p2) X.env) :: starEach [] X.env := by rfl) :
    QE X B (.Call (.Name "isinstance" p) [e, .Name x p2] [] pos) (dIsi [c] da) :=
  PE.imp (pe_callB call_isi hg hm (by rfl) (pa_cons he (pa_cons (pe_bltn (v := .ty c.name) hg2 hm2 hv rfl hn hdb) pa_nil hs2) hs) (by decide) (by decide) hs (by rfl)) fun σ H Q ⟨F, pa, t, env, P, C, h, k⟩ =>
    ⟨F, pa, t, env, _, C, h, fun v d F' pa' t' H' g C' r q => by
      split at q
      · rename_i n hn
        exact ⟨v, .ty c.name, _, _, _, rfl, .ty _, r.tyx C' hn, kit_isa n c, k _ _ F' pa' t' H' g C' (rD_bl _) (by simpa using q)⟩
      · exact q.elim⟩
theorem q_isi2 {c c2 : Tn} {x2 : Str} {p3 : Pos} {kk : Nat} (he : QV X B e da) (hg : Gl X "isinstance") (hm : X.mg "isinstance" = none) (hg2 : Gl X x) (hm2 : X.mg x = none) (hv : bootBuiltins x = some (.type c.name))
    (hg3 : Gl X x2) (hm3 : X.mg x2 = none) (hv3 : bootBuiltins x2 = some (.type c2.name)) (hn : x ≠ "__name__" := by decide) (hdb : (x == ("__debug__" : Str)) = false := by decide) (hn2 : x2 ≠ "__name__" := by decide) (hdb2 : (x2 == ("__debug__" : Str)) = false := by decide)
    (hs : starEach [e, .Tuple [.Name x p2, .Name x2 p3] kk tpos] X.env = (false, eval e X.env) :: starEach [.Tuple [.Name x p2, .Name x2 p3] kk tpos] X.env := by rfl)
    (hs1 : starEach [.Tuple [.Name x p2, .Name x2 p3] kk tpos] X.env = (false, eval (.Tuple [.Name x p2, .Name x2 p3] kk tpos) X.env) :: starEach [] X.env := by rfl)
    (hs2 : starEach [.Name x p2, .Name x2 p3] X.env = (false, eval (.Name x p2) X.env) :: starEach [.Name x2 p3] X.env := by rfl) (hs3 : starEach [.Name x2 p3] X.env = (false, eval (.Name x2 p3) X.env) :: starEach [] X.env := by rfl) :
    QE X B (.Call (.Name "isinstance" p) [e, .Tuple [.Name x p2, .Name x2 p3] kk tpos] [] pos) (dIsi [c, c2] da) :=
  PE.imp (pe_callB call_isiT hg hm (by rfl) (pa_cons he (pa_cons (pe_tup (pa_cons (pe_bltn (v := .ty c.name) hg2 hm2 hv rfl hn hdb) (pa_cons (pe_bltn (v := .ty c2.name) hg3 hm3 hv3 rfl hn2 hdb2) pa_nil hs3) hs2)) pa_nil hs1) hs) (by decide) (by decide) hs (by rfl)) fun σ H Q ⟨F, pa, t, env, P, C, h, k⟩ =>
    ⟨F, pa, t, env, _, C, h, fun v d F' pa' t' H' g C' r q => by
      split at q
      · rename_i n hn
        refine ⟨by show 2 ≤ sizeLine; unfold sizeLine; decide, fun tp ht => ?_⟩
        have C2 := C'.loose (.tup [V.ty c.name, V.ty c2.name]) ht
        exact ⟨v, tp, _, _, _, _, rfl, upd_same, .cons (.ty _) (.cons (.ty _) .nil), r.tyx C2 hn, kit_isas n [c, c2], k _ _ F' pa' t' _ g C2 (rD_bl _) q⟩
      · exact q.elim⟩
end
def BI (F : Hp) (pa : Option Addr) (t : Ts) (H : Hp) (x : Addr) : Bs := ⟨F, H, x :: pa.toList, pa, false, [], t.dom⟩
def liftI (K : PySem.W.Frag) (C : Addr) (sp : PSp) : Sp := fun vs H Q E => ∃ x dx us F pa t ds P, vs = .ref x :: us ∧ H x = some (.ins C dx []) ∧ F x = none ∧ pa ≠ some x ∧ t.obs x = none ∧ Cf K (B0 F pa t H) F pa t [] [] H ∧ RelL K F pa ds us ∧ sp ds t P ∧
  ∀ h d F' pa' t' H', Cf K (BI F pa t H x) F' pa' t' [] [] H' → F' x = none → pa' ≠ some x → t'.obs x = none → H' x = some h → RelO1 K F' pa' d h → P d t' → Q .non H'
section
variable {CX : CXT} {k : Nat} {f Cl' : Addr} {fd : FuncData} {ps : List Str} {sp : PSp} {dvs : List V} {dds : List D} {ds : List Value} {E : XK} {x m : Str} {p apos : Pos}
theorem ev_make (hd : ∀ F pa, RelL K F pa dds dvs) : ∀ σ H Q, tnOf K B (dCall sp dds as) σ H Q → tMake Cl' (liftI K Cl' sp) dvs E (taOf K B as) σ H Q := fun σ H Q ⟨F, pa, t, env, P, W, h, k⟩ =>
  ⟨F, pa, t, env, _, W, h, fun vs xs F1 pa1 t1 H1 g1 W1 r1 q1 x dx hx hdx hne => by
    have hx2 : upd H1 dx (.own x) x = none := by rw [upd_ne (Ne.symm hne)]; exact hx
    have W2 := (W1.loose (.own x) hdx).loose (.ins Cl' dx []) hx2
    obtain ⟨hF, hB, _⟩ := W1.fresh hx
    have nw := W1.nw hx
    have up : ∀ a o, H1 a = some o → upd (upd H1 dx (.own x)) x (.ins Cl' dx []) a = some o := fun a o e => by
      rw [upd_ne (ne_of_none e hx), upd_ne (ne_of_none e hdx)]; exact e
    refine ⟨x, dx, _, F1, pa1, t1, xs ++ dds, P, rfl, upd_same, hF, nw.a, nw.o, W2.call, r1.append (hd _ _), q1, fun hh d F' pa' t' H' W' n1 n2 n4 e' r' q' => ⟨rfl, ?_⟩⟩
    have W3 : Cf K (B0 F1 pa1 t1 H1) F' pa' t' [] [] H' := by
      refine ⟨rfl, W'.sub, W'.bas, fun a o e hp ho => ?_, fun a o e => ?_, fun a ha => ?_, W'.val, fun i d e => by simp at e, W'.sep, fun a e => ?_, W'.pnn, TabF.nil, W'.ntb, fun a d q => ?_, W'.obx, fun i d a e => by simp at e⟩
      · refine W'.frm a o (up a o e) (fun z => ?_) ho
        rcases List.mem_cons.mp z with z | z
        · exact absurd z (ne_of_none e hx)
        · exact hp z
      · rcases W'.new a o e with z | z
        · exact .inl z
        · refine .inr ?_
          cases q : H1 a with
          | none => exact q
          | some u => rw [show (BI F1 pa1 t1 (upd (upd H1 dx (.own x)) x (.ins Cl' dx [])) x).H a = upd (upd H1 dx (.own x)) x (.ins Cl' dx []) a from rfl, up a u q] at z; cases z
      · exact W'.exl a (List.mem_cons_of_mem _ ha)
      · obtain ⟨h1, h2, h3⟩ := W'.pen a e
        refine ⟨h1, h2, ?_⟩
        rcases h3 with z | z
        · rcases List.mem_cons.mp z with z | z
          · exact absurd (by rw [e, z]) n2
          · exact .inl z
        · refine .inr ?_
          cases q : H1 a with
          | none => exact q
          | some u => rw [show (BI F1 pa1 t1 (upd (upd H1 dx (.own x)) x (.ins Cl' dx [])) x).H a = upd (upd H1 dx (.own x)) x (.ins Cl' dx []) a from rfl, up a u q] at z; cases z
      · obtain ⟨h1, h2, h3, h4, h5⟩ := W'.obs a d q
        refine ⟨h1, h2, h3, ?_, h5⟩
        rcases h4 with z | z
        · exact .inl z
        · refine .inr ?_
          cases q : H1 a with
          | none => exact q
          | some u => rw [show (BI F1 pa1 t1 (upd (upd H1 dx (.own x)) x (.ins Cl' dx [])) x).H a = upd (upd H1 dx (.own x)) x (.ins Cl' dx []) a from rfl, up a u q] at z; cases z
    obtain ⟨g, W4⟩ := W1.after W3
    exact k x hh d F' pa' t' H' (g1.trans g) W4 ⟨n1, hB, n2, nw.s, n4⟩ e' r' q'⟩
theorem q_make (M : Mk X.K Cl' f) (F : FnOk X.prog X.w X.K X.mg X.base CX k f fd ps (liftI X.K Cl' sp)) (hr : Room (k + 1) X.A) (hg : Gl X x) (hm : X.mg x = some (.ref Cl')) (hb : Binds X.K fd ps ds) (hd : Vals dvs ds) (hD : ∀ F pa, RelL X.K F pa dds dvs) (hx : Passes CX X E)
    (ha : QA X B (e :: es) as) (hdb : (x == ("__debug__" : Str)) = false := by decide) (he : starEach (e :: es) X.env = (false, eval e X.env) :: starEach es X.env := by rfl) (hpl : (backTo pos (starEach es X.env)).any (·.1) = false := by rfl) :
    QN X B (.Call (.Name x p) (e :: es) [] pos) (dCall sp dds as) := PE.imp (pe_make M F hr hg hm hb hd hx ha hdb he hpl) (ev_make hD)
theorem putF_new {f : Str} {v : V} : ∀ {fs : List (Str × V)}, fs.lookup f = none → putF f v fs = fs ++ [(f, v)]
  | [], _ => rfl
  | (g, y) :: r, h => by
    have hne : ¬ g = f := by
      rintro rfl
      simp [List.lookup] at h
    have h2 : r.lookup f = none := by
      have : (f == g) = false := by simpa using fun z => hne z.symm
      simpa [List.lookup, this] using h
    show (if g = f then _ else _) = _
    rw [if_neg hne, putF_new h2]
    rfl
theorem zip_snoc {α β : Type} : ∀ {a : List α} {b : List β} {x : α} {y : β}, a.length = b.length → (a ++ [x]).zip (b ++ [y]) = a.zip b ++ [(x, y)]
  | [], [], _, _, _ => rfl
  | _ :: _, _ :: _, _, _, h => by
    simp only [List.cons_append, List.zip_cons_cons]
    rw [zip_snoc (by simpa using h)]
  | [], _ :: _, _, _, h => by simp at h
  | _ :: _, [], _, _, h => by simp at h
theorem relL_snoc {F : Hp} {pa : Option Addr} {d : D} {v : V} (h : RelD K F pa d v) : ∀ {l : List D} {vs : List V}, RelL K F pa l vs → RelL K F pa (l ++ [d]) (vs ++ [v])
  | [], vs, r => by
    have e : vs = [] := by unfold RelL at r; exact r
    subst e
    exact RelL.cons h (by unfold RelL; rfl)
  | x :: l, vs, r => by
    obtain ⟨v1, vr, rfl, r1, r2⟩ := r.inv
    exact RelL.cons r1 (relL_snoc h r2)
end
end
end Q
/-! QH12 -/
namespace Q
open PySem L2 PyProof.Rows
section
variable {K : PySem.W.Frag} {F F' : Hp} {pa : Option Addr}
mutual
theorem RelD.un : ∀ (d : D) (v : V), nopen d = true → RelD K F pa d v → RelD K F none d v
  | .non, v, _, h => by unfold RelD at h ⊢; exact h
  | .bl b, v, _, h => by unfold RelD at h ⊢; exact h
  | .int i, v, _, h => by unfold RelD at h ⊢; exact h
  | .str x, v, _, h => by unfold RelD at h ⊢; exact h
  | .ty n, v, _, h => by unfold RelD at h ⊢; exact h
  | .adr a, v, _, h => by unfold RelD at h ⊢; exact h
  | .rp a, v, _, h => by unfold RelD at h ⊢; exact h
  | .pen, v, n, h => by simp [nopen] at n
  | .scr ns, v, _, h => by unfold RelD at h ⊢; exact h
  | .lst l, v, n, h => by
    unfold RelD at h ⊢
    unfold nopen at n
    obtain ⟨a, vs, e, r, q⟩ := h
    exact ⟨a, vs, e, r, RelL.un l vs n q⟩
  | .tup l, v, n, h => by
    unfold RelD at h ⊢
    unfold nopen at n
    obtain ⟨a, vs, e, r, q⟩ := h
    exact ⟨a, vs, e, r, RelL.un l vs n q⟩
  | .dic ks l, v, n, h => by
    unfold RelD at h ⊢
    unfold nopen at n
    obtain ⟨a, vs, e, r, z, q⟩ := h
    exact ⟨a, vs, e, r, z, RelL.un l vs n q⟩
  | .ins C ns l, v, n, h => by
    unfold RelD at h ⊢
    unfold nopen at n
    obtain ⟨a, dx, vs, e, r, z, q⟩ := h
    exact ⟨a, dx, vs, e, r, z, RelL.un l vs n q⟩
theorem RelL.un : ∀ (l : List D) (vs : List V), nopens l = true → RelL K F pa l vs → RelL K F none l vs
  | [], vs, _, h => by unfold RelL at h ⊢; exact h
  | d :: ds, vs, n, h => by
    unfold RelL at h ⊢
    unfold nopens at n
    obtain ⟨v, vr, e, r, q⟩ := h
    have n2 := Bool.and_eq_true_iff.mp n
    exact ⟨v, vr, e, RelD.un d v n2.1 r, RelL.un ds vr n2.2 q⟩
end
mutual
theorem RelD.up : ∀ (d : D) (v : V), RelD K F none d v → RelD K F pa d v
  | .non, v, h => by unfold RelD at h ⊢; exact h
  | .bl b, v, h => by unfold RelD at h ⊢; exact h
  | .int i, v, h => by unfold RelD at h ⊢; exact h
  | .str x, v, h => by unfold RelD at h ⊢; exact h
  | .ty n, v, h => by unfold RelD at h ⊢; exact h
  | .adr a, v, h => by unfold RelD at h ⊢; exact h
  | .rp a, v, h => by unfold RelD at h ⊢; exact h
  | .pen, v, h => by
    unfold RelD at h
    obtain ⟨a, e, _⟩ := h
    cases e
  | .scr ns, v, h => by unfold RelD at h ⊢; exact h
  | .lst l, v, h => by
    unfold RelD at h ⊢
    obtain ⟨a, vs, e, r, q⟩ := h
    exact ⟨a, vs, e, r, RelL.up l vs q⟩
  | .tup l, v, h => by
    unfold RelD at h ⊢
    obtain ⟨a, vs, e, r, q⟩ := h
    exact ⟨a, vs, e, r, RelL.up l vs q⟩
  | .dic ks l, v, h => by
    unfold RelD at h ⊢
    obtain ⟨a, vs, e, r, z, q⟩ := h
    exact ⟨a, vs, e, r, z, RelL.up l vs q⟩
  | .ins C ns l, v, h => by
    unfold RelD at h ⊢
    obtain ⟨a, dx, vs, e, r, z, q⟩ := h
    exact ⟨a, dx, vs, e, r, z, RelL.up l vs q⟩
theorem RelL.up : ∀ (l : List D) (vs : List V), RelL K F none l vs → RelL K F pa l vs
  | [], vs, h => by unfold RelL at h ⊢; exact h
  | d :: ds, vs, h => by
    unfold RelL at h ⊢
    obtain ⟨v, vr, e, r, q⟩ := h
    exact ⟨v, vr, e, RelD.up d v r, RelL.up ds vr q⟩
end
theorem RelO1.un : ∀ {d : D} {h : HO}, nopen d = true → RelO1 K F pa d h → RelO1 K F none d h := fun {d h} n r => by
  cases d with
  | lst l => obtain ⟨vs, e, q⟩ := r; exact ⟨vs, e, RelL.un l vs (by simpa [nopen] using n) q⟩
  | dic ks l => obtain ⟨vs, e, z, q⟩ := r; exact ⟨vs, e, z, RelL.un l vs (by simpa [nopen] using n) q⟩
  | ins C ns l => obtain ⟨dx, vs, e, z, q⟩ := r; exact ⟨dx, vs, e, z, RelL.un l vs (by simpa [nopen] using n) q⟩
  | _ => exact r.elim
theorem RelO1.up : ∀ {d : D} {h : HO}, RelO1 K F none d h → RelO1 K F pa d h := fun {d h} r => by
  cases d with
  | lst l => obtain ⟨vs, e, q⟩ := r; exact ⟨vs, e, RelL.up l vs q⟩
  | dic ks l => obtain ⟨vs, e, z, q⟩ := r; exact ⟨vs, e, z, RelL.up l vs q⟩
  | ins C ns l => obtain ⟨dx, vs, e, z, q⟩ := r; exact ⟨dx, vs, e, z, RelL.up l vs q⟩
  | _ => exact r.elim
end
def BX (O : Addr → Prop) (F : Hp) (H : Hp) (x : Addr) : Bs := ⟨F, H, [x], none, false, [], O⟩
structure Is (K : PySem.W.Frag) (O : Addr → Prop) (F0 H0 : Hp) (x Cl' : Addr) (ns : List Str) (l : List D) (F : Hp) (t : Ts) (env : En) (σ : L2.St) (H : Hp) : Prop where
  c : Cf K (BX O F0 H0 x) F none t env σ H
  nov : ∀ (i : Nat) (d : D), env[i]? ≠ some (Sl.own d)
  ins : ∃ dx vs, H x = some (.ins Cl' dx (ns.zip vs)) ∧ ns.length = vs.length ∧ RelL K F none l vs
  f : F x = none
  s : σ[0]? = some (some (V.ref x))
  o : t.obs x = none
section
variable {K : PySem.W.Frag} {O : Addr → Prop} {F0 H0 : Hp} {x Cl' : Addr} {ns : List Str} {l : List D} {F F' : Hp} {t t' : Ts} {env : En} {σ : L2.St} {H H' : Hp} {B : Bs} {pa : Option Addr}
theorem Cf.here (C : Cf K B F pa t env σ H) (n : ∀ (i : Nat) (d : D), env[i]? ≠ some (Sl.own d)) : Cf K (B0 F pa t H) F pa t env σ H := by
  have C2 := C.call
  exact ⟨C.len, C2.sub, C2.bas, C2.frm, C2.new, C2.exl, C.val, fun i d e => absurd e (n i d), fun i j d e a q => absurd q (n i d), C2.pen, C2.pnn, C2.tab, C2.ntb, C2.obs, C2.obx, fun i d a e => absurd e (n i d)⟩
theorem Is.step (S : Is K O F0 H0 x Cl' ns l F t env σ H) {pa' : Option Addr} (C : Cf K (B0 F none t H) F' pa' t' env σ H') : pa' = none ∧ Is K O F0 H0 x Cl' ns l F' t' env σ H' := by
  have hp : pa' = none := C.pnn
  subst hp
  obtain ⟨g, C2⟩ := S.c.after C.nil
  obtain ⟨dx, vs, h1, h2, h3⟩ := S.ins
  refine ⟨rfl, C2, S.nov, ⟨dx, vs, C.frm x _ h1 (by simp [B0]) (fun ⟨d, z⟩ => by rw [S.o] at z; cases z), h2, RelL.mono g l vs h3⟩, ?_, S.s, ?_⟩
  · cases q : F' x with
    | none => rfl
    | some o =>
      rcases C.new x o q with ⟨o', z⟩ | z
      · rw [show (B0 F none t H).F x = F x from rfl, S.f] at z; cases z
      · rw [show (B0 F none t H).H x = H x from rfl, h1] at z; cases z
  · cases q : t'.obs x with
    | none => rfl
    | some d' =>
      rcases (C.obs x d' q).2.2.2.1 with ⟨d0, z⟩ | z
      · rw [S.o] at z; cases z
      · rw [show (B0 F none t H).H x = H x from rfl, h1] at z; cases z
theorem Is.put (S : Is K O F0 H0 x Cl' ns l F t env σ H) {ns' : List Str} {l' : List D} {dx : Addr} {vs : List V} (h2 : ns'.length = vs.length) (h3 : RelL K F none l' vs) : Is K O F0 H0 x Cl' ns' l' F t env σ (upd H x (.ins Cl' dx (ns'.zip vs))) := by
  have C := S.c
  have nx : ∀ {a : Addr} {o : HO}, F a = some o → a ≠ x := fun e => ne_of_none e S.f
  refine ⟨⟨C.len, fun a o e => by rw [upd_ne (nx e)]; exact C.sub a o e, C.bas, fun a o e hp ho => ?_, C.new, fun a ha => ?_, C.val, fun i d e => absurd e (S.nov i d), fun i j d e a q => absurd q (S.nov i d), fun a e => (by cases e), C.pnn, TabF.nil, C.ntb, fun a d q => by
    obtain ⟨h1, ⟨u, h2, h3⟩, h4⟩ := C.obs a d q
    refine ⟨h1, ⟨u, ?_, h3⟩, h4⟩
    rw [upd_ne ?_]
    · exact h2
    · rintro rfl
      rw [S.o] at q; exact (nomatch q), C.obx, fun i d a e => absurd e (S.nov i d)⟩, S.nov, ⟨dx, vs, upd_same, h2, h3⟩, S.f, S.s, S.o⟩
  · have : a ≠ x := fun z => hp (by rw [z]; exact List.mem_singleton.mpr rfl)
    rw [upd_ne this]; exact C.frm a o e hp ho
  · have : a = x := List.mem_singleton.mp ha
    rw [this]; exact ⟨_, upd_same⟩
end
def tiS (K : PySem.W.Frag) (Cl' : Addr) (ds : IS) : TS := fun D σ H => ∃ O F0 H0 x ns l F t env k, Is K O F0 H0 x Cl' ns l F t env σ H ∧ ds k ns l env t ∧
  ∀ ns' l' F' t' env' σ' H', Is K O F0 H0 x Cl' ns' l' F' t' env' σ' H' → k ns' l' env' t' → D.nx σ' H'
section
variable {X : Cx} {Cl' : Addr} {st : Stmt} {sts : List Stmt} {a b : IS} {c o value : Expr} {dt : DT} {da : DE} {pos pos' : Pos}
theorem i_cons (h1 : PS X st (tiS X.K Cl' a)) (h2 : PSs X sts (tiS X.K Cl' b)) : PSs X (st :: sts) (tiS X.K Cl' (iThen a b)) :=
  PSs.imp (pss_cons h1 h2) fun D σ H ⟨O, F0, H0, x, ns, l, F, t, env, k, S, h, R⟩ => ⟨O, F0, H0, x, ns, l, F, t, env, _, S, h, fun ns' l' F' t' env' σ' H' S' h' => ⟨O, F0, H0, x, ns', l', F', t', env', k, S', h', R⟩⟩
theorem i_set {f : Str} (h0 : PE X o (tVar 0)) (hv : ∀ B, QE X B value da) (cl : Cls X.K Cl') (na : NoAttr X.K Cl' f) (hs : swapsWith value (some (.Attribute o f pos')) pos.line X.env = pure false := by rfl) :
    PS X (.Assign [.Attribute o f pos'] value pos) (tiS X.K Cl' (iSet f da)) :=
  PS.imp (ps_fld h0 (pe_U hv) hs) fun D σ H ⟨O, F0, H0, x, ns, l, F, t, env, k, S, h, R⟩ =>
    ⟨B0 F none t H, F, none, t, env, _, S.c.here S.nov, h, fun v d F' pa' t' H' g C r q => by
      obtain ⟨rfl, S'⟩ := S.step C
      obtain ⟨⟨hn, hl⟩, q⟩ := q
      obtain ⟨dx, vs, e1, l1, r1⟩ := S'.ins
      refine ⟨_, S'.s, x, Cl', dx, _, rfl, e1, cl, na, by rw [List.length_zip]; omega, ?_⟩
      rw [putF_new (zip_none hn), ← zip_snoc l1]
      exact R _ _ F' t' env σ _ (S'.put (by simp [l1]) (relL_snoc r r1)) q⟩
theorem sumsOf_snoc : ∀ (bs : List Int) (s b : Int), sumsOf s (bs ++ [b]) = sumsOf s bs ++ [(sumsOf s bs).getLastD s + b - 1]
  | [], s, b => rfl
  | c :: bs, s, b => by
    show (s + c - 1) :: sumsOf (s + c - 1) (bs ++ [b]) = _
    rw [sumsOf_snoc bs (s + c - 1) b]
    show _ = (s + c - 1) :: sumsOf (s + c - 1) bs ++ [((s + c - 1) :: sumsOf (s + c - 1) bs).getLastD s + b - 1]
    rw [List.getLastD_cons]
    rfl
theorem sumsOf_len : ∀ (bs : List Int) (s : Int), (sumsOf s bs).length = bs.length
  | [], _ => rfl
  | c :: bs, s => by
    show (sumsOf (s + c - 1) bs).length + 1 = bs.length + 1
    rw [sumsOf_len bs]
structure Ls (K : PySem.W.Frag) (F Hs : Hp) (x p Cl' dx : Addr) (ns : List Str) (vs : List V) (l : List D) (t : Ts) (env : En) (σ : L2.St) (H : Hp) (cur : List Int) : Prop where
  len : env.length = σ.length
  sub : ∀ a o, F a = some o → H a = some o
  frm : ∀ a o, Hs a = some o → a ≠ x → a ≠ p → H a = some o
  val : ∀ (i : Nat) (d : D), env[i]? = some (Sl.val d) → ∃ v : V, σ[i]? = some (some v) ∧ RelD K F none d v
  nov : ∀ (i : Nat) (d : D), env[i]? ≠ some (Sl.own d)
  s : σ[0]? = some (some (V.ref x))
  hx : H x = some (.ins Cl' dx ((ns ++ [("sums" : Str)]).zip (vs ++ [.ref p])))
  hp : H p = some (.lst (cur.map V.int))
  ls : ns.length = vs.length
  rl : RelL K F none l vs
  fx : F x = none
  fp : F p = none
  xp : x ≠ p
  nt : ∀ a ps, F a ≠ some (.tbl ps)
section
variable {K : PySem.W.Frag} {F Hs : Hp} {x p dx : Addr} {ns : List Str} {vs : List V} {l : List D} {t : Ts} {env : En} {σ : L2.St} {H : Hp} {cur : List Int}
theorem Ls.seen (S : Ls K F Hs x p Cl' dx ns vs l t env σ H cur) : ∃ F2, Gr F none F2 none ∧ Cf K (B0 F2 none t.bare H) F2 none t.bare (env.set 0 (.val (.ins Cl' (ns ++ [("sums" : Str)]) (l ++ [.lst (cur.map .int)])))) σ H := by
  let F2 : Hp := upd (upd F p (.lst (cur.map V.int))) x (.ins Cl' dx ((ns ++ [("sums" : Str)]).zip (vs ++ [.ref p])))
  have g1 : Gf F (upd F p (.lst (cur.map V.int))) := Gf.upd S.fp
  have fx2 : (upd F p (.lst (cur.map V.int))) x = none := by rw [upd_ne S.xp]; exact S.fx
  have g2 : Gf (upd F p (.lst (cur.map V.int))) F2 := Gf.upd fx2
  have g : Gr F none F2 none := ⟨fun a o e => g2 a o (g1 a o e), rfl⟩
  have ep : F2 p = some (.lst (cur.map V.int)) := g2 _ _ upd_same
  have ex : F2 x = some (.ins Cl' dx ((ns ++ [("sums" : Str)]).zip (vs ++ [.ref p]))) := upd_same
  refine ⟨F2, g, ⟨by simp [S.len], fun a o e => ?_, fun _ _ e => e, fun _ _ e _ _ => e, fun a o e => .inl ⟨o, e⟩, fun a ha => ?_, fun i d e => ?_, fun i d e => ?_, fun i j d e a q => ?_, fun a e => ?_, rfl, TabF.nil, fun a ps e => ?_, fun a d e => (nomatch e), fun a ⟨d, e⟩ => (nomatch e), fun i d a e _ => rfl⟩⟩
  rotate_right
  · by_cases h1 : a = x
    · subst h1; rw [ex] at e; cases e
    · by_cases h2 : a = p
      · subst h2; rw [ep] at e; cases e
      · have : F2 a = F a := by show upd (upd F p _) x _ a = _; rw [upd_ne h1, upd_ne h2]
        rw [this] at e; exact S.nt a ps e
  · by_cases h1 : a = x
    · subst h1; rw [ex] at e; cases e; exact S.hx
    · by_cases h2 : a = p
      · subst h2; rw [ep] at e; cases e; exact S.hp
      · have : F2 a = F a := by show upd (upd F p _) x _ a = _; rw [upd_ne h1, upd_ne h2]
        rw [this] at e; exact S.sub a o e
  · simp [B0] at ha
  · rcases get_set e with ⟨rfl, z⟩ | ⟨ne, z⟩
    · cases z
      refine ⟨.ref x, S.s, ?_⟩
      unfold RelD
      refine ⟨x, dx, _, rfl, ex, by simp [S.ls], relL_snoc ?_ (RelL.mono g l vs S.rl)⟩
      unfold RelD
      exact ⟨p, _, rfl, ep, RelL.of_ints cur⟩
    · obtain ⟨v, h1, h2⟩ := S.val i d z
      exact ⟨v, h1, RelD.mono g d v h2⟩
  · rcases get_set e with ⟨_, z⟩ | ⟨_, z⟩
    · cases z
    · exact absurd z (S.nov i d)
  · rcases get_set q with ⟨_, z⟩ | ⟨_, z⟩
    · cases z
    · exact absurd z (S.nov i d)
  · cases e
theorem Ls.kept (S : Ls K F Hs x p Cl' dx ns vs l t env σ H cur) {H' : Hp} (g : Gf H H') : Ls K F Hs x p Cl' dx ns vs l t env σ H' cur :=
  ⟨S.len, fun a o e => g _ _ (S.sub a o e), fun a o e h1 h2 => g _ _ (S.frm a o e h1 h2), S.val, S.nov, S.s, g _ _ S.hx, g _ _ S.hp, S.ls, S.rl, S.fx, S.fp, S.xp, S.nt⟩
theorem Ls.setj (S : Ls K F Hs x p Cl' dx ns vs l t env σ H cur) {j : Nat} (hj : j ≠ 0) (b : Int) : Ls K F Hs x p Cl' dx ns vs l t (env.set j (.val (.int b))) (σ.set j (some (.int b))) H cur := by
  refine ⟨by simp [S.len], S.sub, S.frm, fun i d e => ?_, fun i d e => ?_, by rw [List.getElem?_set_ne hj]; exact S.s, S.hx, S.hp, S.ls, S.rl, S.fx, S.fp, S.xp, S.nt⟩
  · rcases get_set e with ⟨rfl, z⟩ | ⟨ne, z⟩
    · cases z
      have hi : j < env.length := by simpa using (List.getElem?_eq_some_iff.mp e).1
      exact ⟨.int b, by rw [List.getElem?_set_self (by rw [← S.len]; exact hi)], by unfold RelD; rfl⟩
    · obtain ⟨v, h1, h2⟩ := S.val i d z
      exact ⟨v, by rw [List.getElem?_set_ne ne]; exact h1, h2⟩
  · rcases get_set e with ⟨_, z⟩ | ⟨_, z⟩
    · cases z
    · exact S.nov i d z
theorem Ls.app (S : Ls K F Hs x p Cl' dx ns vs l t env σ H cur) (z : Int) : Ls K F Hs x p Cl' dx ns vs l t env σ (upd H p (.lst ((cur ++ [z]).map V.int))) (cur ++ [z]) :=
  ⟨S.len, fun a o e => by rw [upd_ne (ne_of_none e S.fp)]; exact S.sub a o e, fun a o e h1 h2 => by rw [upd_ne h2]; exact S.frm a o e h1 h2, S.val, S.nov, S.s, by rw [upd_ne S.xp]; exact S.hx, upd_same, S.ls, S.rl, S.fx, S.fp, S.xp, S.nt⟩
end
theorem intsD_map : ∀ bs : List Int, Q.intsD (bs.map .int) = some bs
  | [] => rfl
  | c :: r => by simp [Q.intsD, intsD_map r]
theorem set_self {α : Type} (l : List α) (i : Nat) : l = [] ∨ ∃ s, l.set i s = l := by
  by_cases h : i < l.length
  · exact .inr ⟨l[i], by simp⟩
  · cases l with
    | nil => exact .inl rfl
    | cons a r => exact .inr ⟨a, List.set_eq_of_length_le (by omega)⟩
theorem zip_look {α : Type} {f : Str} : ∀ {a : List Str} {b : List α} {y : α}, a.length = b.length → a.contains f = false → ((a ++ [f]).zip (b ++ [y])).lookup f = some y
  | [], [], y, _, _ => by simp [List.lookup]
  | g :: a, _ :: b, y, h, n => by
    have n2 : (f == g) = false ∧ a.contains f = false := by
      simp only [List.contains_cons, Bool.or_eq_false_iff] at n
      exact n
    show List.lookup f ((g, _) :: (a ++ [f]).zip (b ++ [y])) = _
    rw [List.lookup_cons, n2.1]
    exact zip_look (by simpa using h) n2.2
  | [], _ :: _, _, h, _ => by simp at h
  | _ :: _, [], _, h, _ => by simp at h
end
end Q
namespace Q
open PySem L2 PyProof.Rows
section
variable {P : Program} {w : World} {K : PySem.W.Frag} {mg : Str → Option Value} {base : Heap}
theorem start0_nov {N : List Str} {ds : List D} (j : Nat) (d : D) : (start0 N ds)[j]? ≠ some (Sl.own d) := fun e => by
  unfold start0 at e
  by_cases hi : j < ds.length
  · rw [List.getElem?_append_left (by simpa using hi), List.getElem?_map] at e
    cases q : ds[j]? with
    | none => rw [q] at e; cases e
    | some y => rw [q] at e; cases e
  · rw [List.getElem?_append_right (by simpa using hi), List.getElem?_replicate] at e
    split at e <;> cases e
theorem is_start {F : Hp} {pa : Option Addr} {t : Ts} {H : Hp} {N : List Str} {n : Str} {ds : List D} {us : List V} {x dx C' : Addr} (C : Cf K (B0 F pa t H) F pa t [] [] H) (hox : t.obs x = none) (np : nopens ds = true) (r : RelL K F pa ds us) (hx : H x = some (.ins C' dx [])) (h1 : F x = none) :
    Is K t.dom F H x C' [] [] F t (startI x N ds) (start (n :: N) (.ref x :: us)) H := by
  have r0 := RelL.un ds us np r
  have C0 : Cf K (B0 F none t H) F none t [] [] H := ⟨rfl, C.sub, C.bas, fun _ _ e _ _ => e, fun a o e => .inl ⟨o, e⟩, fun a ha => by simp [B0] at ha, fun i d e => by simp at e, fun i d e => by simp at e, C.sep, fun a e => (by cases e), rfl, TabF.nil, C.ntb, fun a d q => by
    obtain ⟨h1, ⟨u, h2, h3⟩, h4, h5, h6⟩ := C.obs a d q
    exact ⟨h1, ⟨u, h2, RelO1.un h6 h3⟩, (by simp), h5, h6⟩, fun a e => e, fun i d a e => by simp at e⟩
  have S := cf_start (N := N) C0 r0
  have e2 : start (n :: N) (.ref x :: us) = some (V.ref x) :: start N us := by
    unfold L2.start
    simp
  have nov : ∀ (i : Nat) (d : D), (startI x N ds)[i]? ≠ some (Sl.own d) := fun i d e => by
    cases i with
    | zero => cases e
    | succ i => exact start0_nov i d e
  rw [e2]
  refine ⟨⟨by simpa [startI] using S.len, S.sub, fun _ _ e => e, fun a o e hp _ => e, fun a o e => .inl ⟨o, e⟩, fun a ha => ?_, fun i d e => ?_, fun i d e => absurd e (nov i d), fun i j d e a q1 => absurd q1 (nov i d), fun a e => (by cases e), rfl, TabF.nil, C.ntb, C0.obs, C0.obx, fun i d a e => absurd e (nov i d)⟩, nov, ⟨dx, [], hx, rfl, RelL.nil⟩, h1, rfl, hox⟩
  · rw [List.mem_singleton.mp ha]; exact ⟨_, hx⟩
  · cases i with
    | zero => cases e; exact ⟨.ref x, rfl, by unfold RelD; rfl⟩
    | succ i => exact S.val i d e
end
end Q
/-! QH13 -/
namespace Q
open PySem L2 PyProof.Rows
end Q
/-! QH14 -/
namespace Q
open PySem L2 PyProof.Rows
section
variable {X : Cx} {B : Bs} {K : PySem.W.Frag}
theorem PK.imp {kws : List Keyword} {t t' : TA} (h : PK X kws t) (i : ∀ σ H Q, t' σ H Q → t σ H Q) : PK X kws t' := ⟨fun pos pins s σ H Q I q => h.run pos pins s σ H Q I (i σ H Q q)⟩
end
end Q
/-! QH15 -/
namespace Q
open PySem L2 PyProof.Rows
end Q
/-! QH16 -/
namespace Q
open PySem L2 PyProof.Rows
end Q
/-! QH17 -/
namespace Q
open PySem L2 PyProof.Rows
section
variable {X : Cx} {B : Bs} {K : PySem.W.Frag} {a b c e o : Expr} {es : List Expr} {pos : Pos} {da db dc : DE} {as : DA}
def RelM (K : PySem.W.Frag) (B : Bs) (F : Hp) (pa : Option Addr) (t : Ts) (env : En) (σ : L2.St) (H : Hp) : List Bool → List D → List V → Prop
  | [], [], [] => True
  | false :: bs, d :: ds, v :: vs => RelD K F pa d v ∧ RelM K B F pa t env σ H bs ds vs
  | true :: bs, d :: ds, v :: vs => (∃ p h, v = .ref p ∧ Nw B F pa t env σ p ∧ H p = some h ∧ RelO1 K F pa d h ∧ ∀ j : Nat, bs[j]? = some true → vs[j]? ≠ some (.ref p)) ∧ RelM K B F pa t env σ H bs ds vs
  | _, _, _ => False
def tamOf (K : PySem.W.Frag) (B : Bs) (bs : List Bool) (da : DA) : TA := fun σ H Q => ∃ F pa t env P, Cf K B F pa t env σ H ∧ da env t P ∧
  ∀ vs ds F' pa' t' H', Gr F pa F' pa' → Cf K B F' pa' t' env σ H' → RelM K B F' pa' t' env σ H' bs ds vs → P ds t' → Q vs H'
abbrev QM (X : Cx) (B : Bs) (bs : List Bool) (es : List Expr) (da : DA) : Prop := PA X es (tamOf X.K B bs da)
theorem q_mnil : QM X B [] [] dNil := PA.imp pa_nil fun σ H Q ⟨F, pa, t, env, P, C, hd, k⟩ => k [] [] F pa t H (Gr.refl _ _) C True.intro hd
theorem q_mconsV {bs : List Bool} {r : DA} (ha : QE X B e da) (hr : QM X B bs es r) (hs : starEach (e :: es) X.env = (false, eval e X.env) :: starEach es X.env := by rfl) : QM X B (false :: bs) (e :: es) (dCons da r) := PA.imp (pa_cons ha hr hs) fun σ H Q ⟨F, pa, t, env, P, C, hd, k⟩ =>
  ⟨F, pa, t, env, _, C, hd, fun v d F1 pa1 t1 H1 g1 C1 r1 q1 => ⟨F1, pa1, t1, env, _, C1, q1, fun vs ds F2 pa2 t2 H2 g2 C2 r2 q2 => k (v :: vs) (d :: ds) F2 pa2 t2 H2 (g1.trans g2) C2 ⟨RelD.mono g2 d v r1, r2⟩ q2⟩⟩
theorem RelM.up {F1 F2 : Hp} {pa1 pa2 : Option Addr} {t1 t2 : Ts} {env : En} {σ : L2.St} {H1 H2 : Hp} {p : Addr} {h : HO} (C1 : Cf K B F1 pa1 t1 env σ H1) (hp : H1 p = some h) : ∀ {bs : List Bool} {ds : List D} {vs : List V}, RelM K (Bk F1 pa1 t1 env σ H1) F2 pa2 t2 env σ H2 bs ds vs →
    RelM K B F2 pa2 t2 env σ H2 bs ds vs ∧ ∀ j : Nat, bs[j]? = some true → vs[j]? ≠ some (.ref p)
  | [], [], [], _ => ⟨True.intro, fun j hj => by simp at hj⟩
  | false :: bs, d :: ds, v :: vs, r => by
    obtain ⟨r1, r2⟩ := r
    obtain ⟨i1, i2⟩ := RelM.up C1 hp r2
    refine ⟨⟨r1, i1⟩, fun j hj => ?_⟩
    cases j with
    | zero => simp at hj
    | succ j => simpa using i2 j (by simpa using hj)
  | true :: bs, d :: ds, v :: vs, r => by
    obtain ⟨⟨q, h', rfl, n, e, r1, hd⟩, r2⟩ := r
    obtain ⟨i1, i2⟩ := RelM.up C1 hp r2
    have hq : H1 q = none := n.b
    refine ⟨⟨⟨q, h', rfl, ⟨n.f, (C1.fresh hq).2.1, n.a, n.s, n.o⟩, e, r1, hd⟩, i1⟩, fun j hj => ?_⟩
    cases j with
    | zero =>
      intro z
      simp at z
      rw [z, hp] at hq
      cases hq
    | succ j => simpa using i2 j (by simpa using hj)
  | [], [], _ :: _, r => r.elim
  | [], _ :: _, vs, r => by cases vs <;> exact r.elim
  | b :: _, [], vs, r => by cases b <;> cases vs <;> exact r.elim
  | b :: _, _ :: _, [], r => by cases b <;> exact r.elim
theorem q_mconsN {bs : List Bool} {r : DA} (ha : QN X B e da) (hr : ∀ B', QM X B' bs es r) (hs : starEach (e :: es) X.env = (false, eval e X.env) :: starEach es X.env := by rfl) : QM X B (true :: bs) (e :: es) (dCons da r) :=
  PA.imp (pa_cons (t := fun σ H Q => ∃ B', tamOf X.K B' bs r σ H Q) ha ⟨fun pos pins s σ H Q I ⟨B', q⟩ => (hr B').run pos pins s σ H Q I q⟩ hs) fun σ H Q ⟨F, pa, t, env, P, C, hd, k⟩ =>
  ⟨F, pa, t, env, _, C, hd, fun p h d F1 pa1 t1 H1 g1 C1 n1 e1 r1 q1 => ⟨_, F1, pa1, t1, env, _, C1.block [], q1, fun vs ds F2 pa2 t2 H2 g2 C2 r2 q2 => by
    obtain ⟨g3, C3⟩ := C1.join (vs := []) C2 rfl rfl
    have dn : p ∉ (Bk F1 pa1 t1 env σ H1).ex := fun z => by
      rcases List.mem_append.mp z with z | z
      · exact n1.a (mem_pa.mp z)
      · obtain ⟨j, d', h1, h2⟩ := mem_ownA.mp z
        exact n1.s j d' h1 h2
    have e2 : H2 p = some h := C2.frm p _ e1 dn (fun ⟨d, z⟩ => by rw [n1.o] at z; cases z)
    have n2 : Nw B F2 pa2 t2 env σ p := by
      refine ⟨?_, n1.b, fun z => ?_, n1.s, noo_of n1.o C2 e1⟩
      · cases z : F2 p with
        | none => rfl
        | some o =>
          rcases C2.new p o z with ⟨o', q⟩ | q
          · have q : F1 p = some o' := q
            rw [n1.f] at q; cases q
          · have q : H1 p = none := q
            rw [e1] at q; cases q
      · rcases (C2.pen p z).2.2 with q | q
        · exact dn q
        · have q : H1 p = none := q
          rw [e1] at q; cases q
    obtain ⟨i1, i2⟩ := RelM.up C1 e1 r2
    exact k (.ref p :: vs) (d :: ds) F2 pa2 t2 H2 (g1.trans g3) C3 ⟨⟨p, h, rfl, n2, e2, RelO1.mono g3 d h r1, i2⟩, i1⟩ q2⟩⟩
theorem Cf.setM1 {F : Hp} {pa : Option Addr} {t : Ts} {env : En} {σ : L2.St} {H : Hp} (C : Cf K B F pa t env σ H) {i : Nat} {b : Bool} {d : D} {v : V} {bs : List Bool} {ds : List D} {vs : List V} (r : RelM K B F pa t env σ H (b :: bs) (d :: ds) (v :: vs)) :
    Cf K B F pa t (env.set i (mSl b d)) (σ.set i (some v)) H ∧ RelM K B F pa t (env.set i (mSl b d)) (σ.set i (some v)) H bs ds vs := by
  have keep : ∀ (e' : En) (σ' : L2.St), (∀ p, (∀ j : Nat, b = true → v ≠ .ref p) → Nw B F pa t env σ p → Nw B F pa t e' σ' p) → (∀ p, (v = .ref p → b = true → False) → Nw B F pa t env σ p → Nw B F pa t e' σ' p) → True := fun _ _ _ _ => True.intro
  cases b with
  | false =>
    obtain ⟨r1, r2⟩ := r
    refine ⟨C.setV i r1, ?_⟩
    have nw : ∀ p, Nw B F pa t env σ p → Nw B F pa t (env.set i (.val d)) (σ.set i (some v)) p := fun p n => by
      refine ⟨n.f, n.b, n.a, fun j e hj hs => ?_, n.o⟩
      rcases get_set hj with ⟨_, z⟩ | ⟨ne, z⟩
      · cases z
      · rw [List.getElem?_set_ne ne] at hs
        exact n.s j e z hs
    have go : ∀ (bs : List Bool) (ds : List D) (vs : List V), RelM K B F pa t env σ H bs ds vs → RelM K B F pa t (env.set i (.val d)) (σ.set i (some v)) H bs ds vs := by
      intro bs
      induction bs with
      | nil => intro ds vs r; cases ds <;> cases vs <;> exact r
      | cons b bs ih =>
        intro ds vs r
        cases ds with
        | nil => cases b <;> cases r
        | cons d' ds =>
          cases vs with
          | nil => cases b <;> cases r
          | cons v' vs =>
            cases b with
            | false => exact ⟨r.1, ih _ _ r.2⟩
            | true =>
              obtain ⟨⟨p, h, e, n, q⟩, r2⟩ := r
              exact ⟨⟨p, h, e, nw p n, q⟩, ih _ _ r2⟩
    exact go bs ds vs r2
  | true =>
    obtain ⟨⟨p, h, rfl, n, e, r1, hd⟩, r2⟩ := r
    refine ⟨C.setN i n e r1, ?_⟩
    have nw : ∀ q, q ≠ p → Nw B F pa t env σ q → Nw B F pa t (env.set i (.own d)) (σ.set i (some (.ref p))) q := fun q hq n => by
      refine ⟨n.f, n.b, n.a, fun j e hj hs => ?_, n.o⟩
      rcases get_set hs with ⟨_, z⟩ | ⟨ne, z⟩
      · cases z
        exact hq rfl
      · rw [List.getElem?_set_ne ne] at hj
        exact n.s j e hj z
    have go : ∀ (bs : List Bool) (ds : List D) (vs : List V), (∀ j : Nat, bs[j]? = some true → vs[j]? ≠ some (.ref p)) → RelM K B F pa t env σ H bs ds vs → RelM K B F pa t (env.set i (.own d)) (σ.set i (some (.ref p))) H bs ds vs := by
      intro bs
      induction bs with
      | nil => intro ds vs _ r; cases ds <;> cases vs <;> exact r
      | cons b bs ih =>
        intro ds vs hd r
        have hd' : ∀ (v' : V) (vs' : List V), vs = v' :: vs' → ∀ j : Nat, bs[j]? = some true → vs'[j]? ≠ some (.ref p) := fun v' vs' ev j hj => by
          have := hd (j + 1) (by simpa using hj)
          rw [ev] at this
          simpa using this
        cases ds with
        | nil => cases b <;> cases r
        | cons d' ds =>
          cases vs with
          | nil => cases b <;> cases r
          | cons v' vs =>
            cases b with
            | false => exact ⟨r.1, ih _ _ (hd' v' vs rfl) r.2⟩
            | true =>
              obtain ⟨⟨q, h', e', n', z⟩, r2⟩ := r
              have hq : q ≠ p := fun y => by
                have := hd 0 rfl
                rw [e', y] at this
                exact this rfl
              exact ⟨⟨q, h', e', nw q hq n', z⟩, ih _ _ (hd' v' vs rfl) r2⟩
    exact go bs ds vs hd r2
theorem RelM.len {F : Hp} {pa : Option Addr} {t : Ts} {env : En} {σ : L2.St} {H : Hp} : ∀ {bs : List Bool} {ds : List D} {vs : List V}, RelM K B F pa t env σ H bs ds vs → ds.length = bs.length ∧ vs.length = bs.length
  | [], [], [], _ => ⟨rfl, rfl⟩
  | false :: bs, d :: ds, v :: vs, r => by
    obtain ⟨i1, i2⟩ := RelM.len r.2
    exact ⟨by simp [i1], by simp [i2]⟩
  | true :: bs, d :: ds, v :: vs, r => by
    obtain ⟨i1, i2⟩ := RelM.len r.2
    exact ⟨by simp [i1], by simp [i2]⟩
  | [], [], _ :: _, r => r.elim
  | [], _ :: _, vs, r => by cases vs <;> exact r.elim
  | b :: _, [], vs, r => by cases b <;> cases vs <;> exact r.elim
  | b :: _, _ :: _, [], r => by cases b <;> exact r.elim
theorem q_par2M {i j : Nat} {x y : Str} {px py pt : Pos} {kt k2 pt2} {b1 b2 : Bool} (hc : X.calm = true) (hN : X.N.Nodup) (hi : X.N[i]? = some x) (hj : X.N[j]? = some y) (hij : i ≠ j)
    (hx : X.env.scope.names.lookup x = some .local) (hy : X.env.scope.names.lookup y = some .local) (ha : QM X B [b1, b2] [a, b] as)
    (hw : swappedStores [.Tuple [.Name x px, .Name y py] kt pt] (.Tuple [a, b] k2 pt2) X.env = pure (some [x, y]))
    (hs : swapsWithSole [.Tuple [.Name x px, .Name y py] kt pt] (.Tuple [a, b] k2 pt2) pos.line X.env = pure false := by rfl) :
    QS X B (.Assign [.Tuple [.Name x px, .Name y py] kt pt] (.Tuple [a, b] k2 pt2) pos) (dParM [(i, b1), (j, b2)] as) := PS.imp (ps_par hc hN hi hj hij hx hy ha hw hs) fun D σ H ⟨F, pa, t, env, DD, C, h, R⟩ =>
  ⟨F, pa, t, env, _, C, h, fun vs ds F' pa' t' H' g' C' r q => by
    obtain ⟨l1, l2⟩ := r.len
    match ds, vs, l1, l2, q, r with
    | [d, e], [v, w], _, _, q, r =>
      obtain ⟨C1, r1⟩ := C'.setM1 (i := i) r
      obtain ⟨C2, _⟩ := C1.setM1 (i := j) r1
      exact ⟨v, w, rfl, R.nx F' pa' t' _ _ H' g' C2 q⟩⟩
end
end Q
/-! QH18 -/
namespace Q
open PySem L2 PyProof.Rows
end Q
/-! QH19 -/
namespace Q
open PySem L2 PyProof.Rows
section
variable {X : Cx} {B : Bs} {K : PySem.W.Frag} {a b c e o : Expr} {es : List Expr} {pos : Pos} {da db dc dk : DE} {as : DA}
theorem RelM.heap {F : Hp} {pa : Option Addr} {t : Ts} {env : En} {σ : L2.St} {H H' : Hp} (hk : ∀ a o, H a = some o → H' a = some o) : ∀ {bs : List Bool} {ds : List D} {vs : List V}, RelM K B F pa t env σ H bs ds vs → RelM K B F pa t env σ H' bs ds vs
  | [], [], [], _ => True.intro
  | false :: bs, d :: ds, v :: vs, r => ⟨r.1, RelM.heap hk r.2⟩
  | true :: bs, d :: ds, v :: vs, r => by
    obtain ⟨⟨p, h, e, n, e1, r1, q⟩, r2⟩ := r
    exact ⟨⟨p, h, e, n, hk _ _ e1, r1, q⟩, RelM.heap hk r2⟩
  | [], [], _ :: _, r => r.elim
  | [], _ :: _, vs, r => by cases vs <;> exact r.elim
  | b :: _, [], vs, r => by cases b <;> cases vs <;> exact r.elim
  | b :: _, _ :: _, [], r => by cases b <;> exact r.elim
end
end Q
/-! QH20 -/
namespace Q
open PySem L2 PyProof.Rows
end Q
/-! QH21 -/
namespace Q
open PySem L2 PyProof.Rows
end Q
/-! QH22 -/
namespace Q
open PySem L2 PyProof.Rows
end Q
/-! QH23 -/
namespace L2
open PySem PySem.Spec PyProof.Rows
end L2
namespace Q
open PySem L2 PyProof.Rows
end Q
/-! QH24 -/
namespace Q
open PySem L2 PyProof.Rows
end Q
/-! QH25 -/
namespace L2
open PySem PySem.Spec PyProof.Rows
end L2
namespace Q
open PySem L2 PyProof.Rows
end Q
/-! QH26 -/
namespace Q
open PySem L2 PyProof.Rows PySem.Spec
structure RoomG (k : Nat) (A : Around) : Prop where
  room : Room k A
  idle : A.guards = some []
theorem RoomG.mono {j k : Nat} {A : Around} (r : RoomG k A) (h : j ≤ k) : RoomG j A := ⟨r.room.mono h, r.idle⟩
structure FnOkG (P : Program) (w : World) (K : PySem.W.Frag) (mg : Str → Option Value) (base : Heap) (CX : CXT) (k : Nat) (f : Addr) (fd : FuncData) (ps : List Str) (sp : Sp) : Prop where
  len : ∀ vs H Q E, sp vs H Q E → vs.length = ps.length
  goes : ∀ (A : Around), RoomG k A → ∀ (outer : List PySem.Env) (s : Shared) (H : Hp), Env0 P w K mg base A outer s H → ∀ (args : Args) (us : List Value) (vs : List V), Vals vs us → BindsTo s fd args (ps.zip us) →
    ∀ (R : VK) (E : XK), sp vs H R E → codeAny (model P w) A (.call (.ref f) args) (CR CX outer P w H s R E) s
section
variable {P : Program} {w : World} {K : PySem.W.Frag} {mg : Str → Option Value} {base : Heap} {CX : CXT} {k : Nat} {f : Addr} {fd : FuncData} {ps : List Str} {sp : Sp}
theorem FnOkG.of (F : FnOk P w K mg base CX k f fd ps sp) : FnOkG P w K mg base CX k f fd ps sp where
  len := F.len
  goes A r outer s H e args us vs rel b R E h := F.run A outer s H args us vs R E r.room e b rel h
end
section
variable {X : Cx} {CX : CXT} {k : Nat} {f : Addr} {fd : FuncData} {ps : List Str} {sp : Sp} {E : XK} {ds : List Value} {dvs : List V} {x : Str} {p pos : Pos} {e : Expr} {es : List Expr} {t : TA}
theorem FnOkG.call (F : FnOkG X.prog X.w X.K X.mg X.base CX k f fd ps sp) (r : RoomG k X.A) (b : Binds X.K fd ps ds) (d : Vals dvs ds) (px : Passes CX X E) {pins : List (Addr × Obj)} {σ : L2.St} {H : Hp} {s : Shared} {R : VK} {us : List Value} {vs : List V}
    (I : Inv X pins σ H s) (rv : Vals vs us) (h : sp (vs ++ dvs) H R E) : wpAny (model X.prog X.w) X.A (call (.ref f) us) (EP X pins σ R) X.xe s :=
  have rall : Vals (vs ++ dvs) (us ++ ds) := rv.append d
  have bs := b s us I.kIn (by have := F.len _ _ _ _ h; have e := rall.length; omega)
  wpAny_call (codeAny_mono (F.goes X.A r X.stack s H I.env0 ⟨us, []⟩ _ _ rall bs R E h) fun res s' q =>
    match res, q with
    | .ok (.ret _), q => I.after q
    | .ok .next, q => q.elim
    | .ok .brk, q => q.elim
    | .ok .cont, q => q.elim
    | .error ex, q => px pins σ H s ex s' I q)
end
section
variable {X : Cx} {CX : CXT} {B : Bs} {k : Nat} {f : Addr} {fd : FuncData} {ps : List Str} {sp : PSp} {E : XK} {ds : List Value} {dvs : List V} {dds : List D} {x : Str} {p pos : Pos} {e : Expr} {es : List Expr} {as : DA}
theorem RelX.rp {K : PySem.W.Frag} {F : Hp} {pa : Option Addr} {t : Ts} {env : En} {σ : L2.St} {H : Hp} {i : D} {v : V} (W : Cf K B F pa t env σ H) (r : RelX K F pa env σ (.rp i) v) : v = .str (toPy i).shown := by
  rcases r with r | ⟨i, h1, h2⟩
  · unfold RelD at r; exact r
  · obtain ⟨a, h, s1, q, z, _⟩ := W.own _ _ h1; exact z.elim
end
end Q
/-! QH27 -/
namespace Q
open PySem L2 PyProof.Rows
end Q
/-! QD2 -/
namespace Q
open PySem
end Q
/-! QH28 -/
namespace Q
open PySem L2 PyProof.Rows
section
variable {X : Cx} {CX : CXT} {B : Bs} {K : PySem.W.Frag} {k : Nat} {f C : Addr} {fd : FuncData} {ps : List Str} {E : XK} {a b : Expr} {da db : DE} {pos : Pos}
theorem RelX.adr {F : Hp} {pa : Option Addr} {t : Ts} {env : En} {σ : L2.St} {H : Hp} {A : Addr} {v : V} (W : Cf K B F pa t env σ H) (r : RelX K F pa env σ (.adr A) v) : v = .ref A := by
  rcases r with r | ⟨i, z1, z2⟩
  · unfold RelD at r; exact r
  · obtain ⟨_, _, _, _, z, _⟩ := W.own _ _ z1; exact z.elim
theorem q_adr {x : Str} {p : Pos} (hg : Gl X x) (hm : X.mg x = some (.ref C)) (hdb : (x == ("__debug__" : Str)) = false := by decide) : QE X B (.Name x p) (dC (.adr C)) := q_c (pe_glob (v := .ref C) hg hm rfl hdb) fun _ _ => by unfold RelD; rfl
end
end Q
/-! QD3 -/
namespace Q
open PySem
end Q
/-! QH29 -/
namespace Q
open PySem L2 PyProof.Rows
end Q
/-! QH30 -/
namespace Q
open PySem L2 PyProof.Rows
end Q
/-! QH31 -/
namespace Q
open PySem L2 PyProof.Rows
end Q
/-! QD4 -/
namespace Q
open PySem
end Q
/-! QH32 -/
namespace Q
open PySem L2 PyProof.Rows
end Q
/-! QH33 -/
namespace Q
open PySem L2 PyProof.Rows PpSet
end Q
/-! QH34 -/
namespace Q
open PySem L2 PyProof.Rows PpSet
end Q
/-! MLib -/
namespace Q
open PySem
theorem plains_ints : ∀ a : List Int, plains (a.map .int) = true
  | [] => rfl
  | x :: a => by simp [plains, plain, plains_ints a]
theorem deeps_ints : ∀ a : List Int, deeps (a.map .int) = 0
  | [] => rfl
  | x :: a => by simp [deeps, deep, deeps_ints a]
theorem deqs_ints : ∀ a b : List Int, deqs (a.map .int) (b.map .int) = decide (a = b)
  | [], [] => rfl
  | [], _ :: _ => by simp [deqs]
  | _ :: _, [] => by simp [deqs]
  | x :: a, y :: b => by simp [deqs, deq, deqs_ints a b]
theorem deq_ints (a b : List Int) : deq (.lst (a.map .int)) (.lst (b.map .int)) = decide (a = b) := by simp [deq, deqs_ints]
theorem eqok_ints (a b : List Int) : plain (.lst (a.map .int)) = true ∧ plain (.lst (b.map .int)) = true ∧ deep (.lst (a.map .int)) ≤ 60 ∧ deep (.lst (b.map .int)) ≤ 60 := by
  simp [plain, plains_ints, deep, deeps_ints]
theorem deqn_t {a b : List Int} (h : (!deq (.lst (a.map .int)) (.lst (b.map .int))) = true) : a ≠ b := by rw [deq_ints] at h; simpa using h
theorem deqn_f {a b : List Int} (h : (!deq (.lst (a.map .int)) (.lst (b.map .int))) = false) : a = b := by rw [deq_ints] at h; simpa using h
theorem ints_map : ∀ a : List Int, intsD (a.map .int) = some a
  | [] => rfl
  | x :: a => by simp [intsD, ints_map a]
theorem atI_nat {xs : List D} {i : Int} {d : D} (h0 : 0 ≤ i) (h : xs[i.toNat]? = some d) : atI xs i = some d := by
  unfold atI
  have := (List.getElem?_eq_some_iff.mp h).1
  rw [if_pos h0, if_pos (by omega), h]
theorem atI_ints {xs : List Int} {i : Int} (h0 : 0 ≤ i) (h : i < xs.length) : atI (xs.map .int) i = some (.int (xs.getD i.toNat 0)) := by
  refine atI_nat h0 ?_
  have h' : i.toNat < xs.length := by omega
  rw [List.getElem?_map, List.getElem?_eq_getElem h']
  simp [List.getD_eq_getElem?_getD, List.getElem?_eq_getElem h']
theorem Sm.lit {b : Nat} {i : Int} (h : i.natAbs < 2 ^ b) : Sm b i := h
theorem Sm.mono {a b : Nat} {i : Int} (h : Sm a i) (hab : a ≤ b) : Sm b i := Nat.lt_of_lt_of_le h (Nat.pow_le_pow_right (by decide) hab)
theorem Sm.of {b : Nat} {i j : Int} (h0 : 0 ≤ i) (h : i ≤ j) (hj : Sm b j) : Sm b i := by unfold Sm at *; omega
theorem Sm.sub {a : Nat} {i j : Int} (h : Sm a i) (k : Sm a j) : Sm (a + 1) (i - j) := by
  unfold Sm at *
  have := Nat.pow_succ 2 a
  omega
theorem sm64 {i : Int} (h0 : -1000000000000000000 ≤ i) (h1 : i ≤ 1000000000000000000) : Sm 64 i := by
  unfold Sm
  have : (2 : Nat) ^ 64 = 18446744073709551616 := by decide
  omega
theorem MulOk.l {i j : Int} (h0 : -1000000000000000000 ≤ i) (h1 : i ≤ 1000000000000000000) : MulOk i j := .inl (sm64 h0 h1)
theorem MulOk.r {i j : Int} (h0 : -1000000000000000000 ≤ j) (h1 : j ≤ 1000000000000000000) : MulOk i j := .inr (.inl (sm64 h0 h1))
theorem MulOk.w {i j : Int} {a b : Nat} (h1 : Sm a i) (h2 : Sm b j) (h3 : 0 < a) (h4 : 0 < b) (h5 : a + b ≤ 1000000) : MulOk i j := .inr (.inr ⟨a, b, h1, h2, h3, h4, h5⟩)
theorem DivOk.s {j : Int} (h0 : 0 < j) (h1 : j ≤ 1000000000000000000) : DivOk j := ⟨h0, (sm64 (by omega) h1).mono (by decide)⟩
theorem DivOk.w {j : Int} {b : Nat} (h0 : 0 < j) (h1 : Sm b j) (h2 : b ≤ 9000) : DivOk j := ⟨h0, h1.mono h2⟩
theorem PowOk.s {i j : Int} (h0 : 0 ≤ j) (h1 : j ≤ 1000000) (h2 : -1000000000000000000 ≤ i) (h3 : i ≤ 1000000000000000000) : PowOk i j := ⟨h0, 64, sm64 h2 h3, by omega⟩
structure Pk (n : Int) (t : Ts) : Prop where
  c : t.cells.length ≤ 63
  a0 : 0 ≤ t.at'
  a1 : t.at' ≤ n
  l : 0 ≤ t.left
  tp : t.tape = false
theorem Pk.mono {n m : Int} {t : Ts} (p : Pk n t) (h : n ≤ m) : Pk m t := ⟨p.c, p.a0, Int.le_trans p.a1 h, p.l, p.tp⟩
theorem Pk.zero {cs : List Int} (h : cs.length ≤ 63) : Pk 0 ⟨cs, 0, 0, false, noObs⟩ := ⟨h, Int.le_refl 0, Int.le_refl 0, Int.le_refl 0, rfl⟩
end Q
/-! MPen -/
namespace Q
open PySem
def sp__law_pen : PSp := fun ds t P => ∃ ns, ds = [.scr ns] ∧ ns.length ≤ 63 ∧ ∀ cs : List Int, cs.length ≤ 63 → P (.dic [.inr "cells", .inr "at", .inr "left"] [.lst (cs.map .int), .int 0, .int 0]) t
def sp__law_draw : PSp := fun ds t P => ∃ many n, ds = [.pen, .int many] ∧ 0 < many ∧ Sm 9000 many ∧ Pk n t ∧ n < 100000000 ∧ ∀ z t', 0 ≤ z → z < many → Pk (n + 1) t' → P (.int z) t'
def d__law_pen : DS := (dSeq (dAsg (dOp oPow (dOp oPow (dC (.int 10)) (dC (.int 60))) (dC (.int 60))) (gName 1)) (dSeq (dRet (dDisp (("cells", (dLc [2] (iSeq (dSlice (dVar 0) dNoPart (dPart (dC (.int 63))))) (gName 2) dYes (dIfE (dB (dOp oGe (dCB bAbs (dCons (dVar 2) dNil)) (dOp oPow (dC (.int 10)) (dC (.int 18))))) (dOp oMod (dCB bAbs (dCons (dVar 2) dNil)) (dVar 1)) (dVar 2)))) :: (("at", (dC (.int 0))) :: (("left", (dC (.int 0))) :: []))))) dNext))
def d__law_draw : DS := (dSeq (dIf (dB (dOp oGt (dPenL false (dVar 0)) (dC (.int 0)))) (dSeq (dAsg (dOp oMod (dPenL false (dVar 0)) (dVar 1)) (gName 6)) (dSeq (dPutL false 0 (dOp oDiv (dPenL false (dVar 0)) (dVar 1))) (dSeq (dRet (dVar 6)) dNext))) dNext) (dSeq (dAsg (dPenA false (dVar 0)) (gName 2)) (dSeq (dPutA false 0 (dOp oAdd (dVar 2) (dC (.int 1)))) (dSeq (dAsg (dOp oAdd (dOp oMul (dVar 2) (dVar 2)) (dC (.int 5))) (gName 3)) (dSeq (dIf (dB (dOp oNe (dPenC (dVar 0)) (dLst dNil))) (dSeq (dAsg (dOp oIx (dPenC (dVar 0)) (dOp oMod (dVar 2) (dCB bLen (dCons (dPenC (dVar 0)) dNil)))) (gName 3)) dNext) dNext) (dSeq (dIf (dAnd (dB (dOp oLt (dVar 2) (dCB bLen (dCons (dPenC (dVar 0)) dNil)))) (dB (dOp oGe (dVar 3) (dOp oPow (dC (.int 10)) (dC (.int 18)))))) (dSeq (dPutL false 0 (dOp oDiv (dVar 3) (dVar 1))) (dSeq (dRet (dOp oMod (dVar 3) (dVar 1))) dNext)) dNext) (dSeq (dAsg (dOp oMod (dOp oMul (dOp oAdd (dOp oAdd (dOp oMod (dVar 3) (dC (.int 4294967311))) (dOp oMul (dC (.int 65539)) (dVar 2))) (dC (.int 17))) (dC (.int 48271))) (dC (.int 4294967311))) (gName 4)) (dSeq (dFor (iRng1 (dC (.int 3))) (gName 5) (dSeq (dAsg (dOp oAdd (dOp oAdd (dOp oAdd (dOp oMul (dVar 4) (dVar 4)) (dOp oMul (dC (.int 69621)) (dVar 4))) (dVar 2)) (dVar 5)) (gName 4)) (dSeq (dAsg (dOp oMod (dVar 4) (dC (.int 4294967311))) (gName 4)) dNext))) (dSeq (dRet (dOp oMod (dOp oDiv (dVar 4) (dC (.int 32))) (dVar 1))) dNext)))))))))
theorem len__law_pen (as : List D) (t : Ts) (P : D → Ts → Prop) (h : sp__law_pen as t P) : as.length = 1 := by obtain ⟨_, rfl, _⟩ := h; rfl
theorem len__law_draw (as : List D) (t : Ts) (P : D → Ts → Prop) (h : sp__law_draw as t P) : as.length = 2 := by obtain ⟨_, _, rfl, _⟩ := h; rfl
theorem draw_tail {many n c : Int} {t : Ts} {P : D → Ts → Prop} (h0 : 0 < many) (hn : n < 100000000) (ha : 0 ≤ c) (hc : c ≤ n) (hp : Pk (n + 1) t) (k : ∀ z t', 0 ≤ z → z < many → Pk (n + 1) t' → P (.int z) t') (env : En) (e0 : env[0]? = some (.val .pen)) (e1 : env[1]? = some (.val (.int many))) (e2 : env[2]? = some (.val (.int c))) (v : Int) (e3 : env[3]? = some (.val (.int v))) (hl : env.length = 7) :
    (dSeq (dAsg (dOp oMod (dOp oMul (dOp oAdd (dOp oAdd (dOp oMod (dVar 3) (dC (.int 4294967311))) (dOp oMul (dC (.int 65539)) (dVar 2))) (dC (.int 17))) (dC (.int 48271))) (dC (.int 4294967311))) (gName 4)) (dSeq (dFor (iRng1 (dC (.int 3))) (gName 5) (dSeq (dAsg (dOp oAdd (dOp oAdd (dOp oAdd (dOp oMul (dVar 4) (dVar 4)) (dOp oMul (dC (.int 69621)) (dVar 4))) (dVar 2)) (dVar 5)) (gName 4)) (dSeq (dAsg (dOp oMod (dVar 4) (dC (.int 4294967311))) (gName 4)) dNext))) (dSeq (dRet (dOp oMod (dOp oDiv (dVar 4) (dC (.int 32))) (dVar 1))) dNext))) (endsOf P) env t := by
  match env, hl, e0, e1, e2, e3 with
  | [_, _, _, _, x4, x5, x6], _, e0, e1, e2, e3 =>
  cases e0; cases e1; cases e2; cases e3
  conv => whnf
  refine ⟨by decide, ?_⟩
  conv => whnf
  refine ⟨.l (by omega) (by omega), ?_⟩
  conv => whnf
  refine ⟨.r (by omega) (by omega), ?_⟩
  conv => whnf
  refine ⟨by decide, ?_⟩
  conv => whnf
  refine ⟨by decide, ?_⟩
  conv => whnf
  refine ⟨fun i e m => m = t ∧ ∃ z x5' : Int, 0 ≤ z ∧ z < 4294967311 ∧ ∃ s5, e = [.val .pen, .val (.int many), .val (.int c), .val (.int v), .val (.int z), s5, x6], ⟨rfl, _, 0, Int.emod_nonneg _ (by decide), Int.emod_lt_of_pos _ (by decide), _, rfl⟩, fun i x e m hx hI => ?_, fun e m hI => ?_⟩
  · obtain ⟨rfl, z, _, hz, hz', s5, rfl⟩ := hI
    obtain ⟨hi, rfl⟩ := rng_get hx
    conv => whnf
    refine ⟨.l (by omega) (by omega), ?_⟩
    conv => whnf
    refine ⟨.l (by omega) (by omega), ?_⟩
    conv => whnf
    refine ⟨by decide, ?_⟩
    conv => whnf
    exact ⟨rfl, _, 0, Int.emod_nonneg _ (by decide), Int.emod_lt_of_pos _ (by decide), _, rfl⟩
  · obtain ⟨rfl, z, _, hz, hz', s5, rfl⟩ := hI
    conv => whnf
    refine ⟨.s (by decide) (by decide), ?_⟩
    conv => whnf
    refine ⟨h0, ?_⟩
    conv => whnf
    exact k _ _ (Int.emod_nonneg _ (by omega)) (Int.emod_lt_of_pos _ h0) hp
theorem d__law_draw_ok (as : List D) (t : Ts) (P : D → Ts → Prop) (h : sp__law_draw as t P) : d__law_draw (endsOf P) (start0 ["_law_pen_here", "_law_many", "_law_at", "_law_cell", "_law_number", "_law_rounds", "_law_digit"] as) t := by
  obtain ⟨many, n, rfl, h0, hs, hp, hn, k⟩ := h
  have tp := hp.tp
  have a0 := hp.a0
  have a1 := hp.a1
  conv => whnf
  refine ⟨tp, ?_⟩
  conv => whnf
  refine Br.mk (fun hl => ?_) (fun hl => ?_)
  · have hl : 0 < t.left := of_decide_eq_true hl
    conv => whnf
    refine ⟨tp, ?_⟩
    conv => whnf
    refine ⟨h0, ?_⟩
    conv => whnf
    refine ⟨tp, ?_⟩
    conv => whnf
    refine ⟨⟨h0, hs⟩, ?_⟩
    conv => whnf
    refine ⟨tp, ?_⟩
    conv => whnf
    exact k _ _ (Int.emod_nonneg _ (by omega)) (Int.emod_lt_of_pos _ h0) ⟨hp.c, hp.a0, (by show t.at' ≤ n + 1; omega), Int.ediv_nonneg hp.l (by omega), tp⟩
  · conv => whnf
    refine ⟨tp, ?_⟩
    conv => whnf
    refine ⟨tp, ?_⟩
    conv => whnf
    refine ⟨.l (by omega) (by omega), ?_⟩
    conv => whnf
    have P1 : Pk (n + 1) ⟨t.cells, t.at' + 1, t.left, t.tape, t.obs⟩ := ⟨hp.c, (by show 0 ≤ t.at' + 1; omega), (by show t.at' + 1 ≤ n + 1; omega), hp.l, tp⟩
    refine ⟨eqok_ints t.cells [], ?_⟩
    conv => whnf
    refine Br.mk (fun hc => ?_) (fun hc => ?_)
    · have hc : t.cells ≠ [] := deqn_t (b := []) hc
      have hn0 : 0 < t.cells.length := by
        cases q : t.cells with
        | nil => exact absurd q hc
        | cons => simp
      conv => whnf
      refine ⟨by simpa using hn0, ?_⟩
      conv => whnf
      refine ⟨_, atI_ints (Int.emod_nonneg _ (by simp; omega)) (by simpa using Int.emod_lt_of_pos _ (by simpa using hn0)), ?_⟩
      generalize t.cells.getD _ 0 = v
      conv => whnf
      refine Br.mk (fun hx => ?_) (fun hx => ?_)
      · conv => whnf
        refine ⟨PowOk.s (by decide) (by decide) (by decide) (by decide), ?_⟩
        conv => whnf
        refine Br.mk (fun hy => ?_) (fun hy => ?_)
        · conv => whnf
          refine ⟨⟨h0, hs⟩, ?_⟩
          conv => whnf
          refine ⟨tp, ?_⟩
          conv => whnf
          refine ⟨h0, ?_⟩
          conv => whnf
          refine k _ _ (Int.emod_nonneg _ (by omega)) (Int.emod_lt_of_pos _ h0) ⟨hp.c, P1.a0, P1.a1, Int.ediv_nonneg ?_ (by omega), tp⟩
          have := of_decide_eq_true hy
          exact Int.le_trans (by decide) this
        · exact draw_tail h0 hn a0 a1 P1 k [.val .pen, .val (.int many), .val (.int t.at'), .val (.int v), .no, .no, .no] rfl rfl rfl _ rfl rfl
      · exact draw_tail h0 hn a0 a1 P1 k [.val .pen, .val (.int many), .val (.int t.at'), .val (.int v), .no, .no, .no] rfl rfl rfl _ rfl rfl
    · have hc : t.cells = [] := deqn_f (b := []) hc
      conv => whnf
      refine Br.mk (fun hx => ?_) (fun hx => ?_)
      · have hx := of_decide_eq_true hx
        rw [hc] at hx
        exact absurd hx (by show ¬ t.at' < 0; omega)
      · exact draw_tail h0 hn a0 a1 P1 k [.val .pen, .val (.int many), .val (.int t.at'), .val (.int (t.at' * t.at' + 5)), .no, .no, .no] rfl rfl rfl _ rfl rfl
theorem d__law_pen_ok (as : List D) (t : Ts) (P : D → Ts → Prop) (h : sp__law_pen as t P) : d__law_pen (endsN P) (start0 ["_law_script", "_law_most", "_law_cell"] as) t := by
  obtain ⟨ns, rfl, hl, k⟩ := h
  conv => whnf
  refine ⟨PowOk.s (by decide) (by decide) (by decide) (by decide), ?_⟩
  conv => whnf
  refine ⟨⟨by decide, 200, Sm.lit (by decide), by decide⟩, ?_⟩
  have hM0 : (0 : Int) < (10 ^ Int.toNat 60) ^ Int.toNat 60 := by decide
  revert hM0
  generalize ((10 : Int) ^ Int.toNat 60) ^ Int.toNat 60 = M
  intro hM0
  conv => whnf
  refine ⟨fun i acc m => m = t ∧ acc.length = i ∧ ∃ cs : List Int, acc = cs.map .int, ⟨rfl, rfl, [], rfl⟩, fun i x acc m hx hI => ?_, fun acc m hI => ?_⟩
  · obtain ⟨rfl, hi, cs, rfl⟩ := hI
    have hlt := (List.getElem?_eq_some_iff.mp hx).1
    have hlt : i < 63 := by
      simp [cutD, sIx] at hlt
      omega
    obtain ⟨c, rfl⟩ : ∃ c : Int, x = .int c := by
      have := List.mem_of_getElem? hx
      unfold cutD at this
      obtain ⟨c, _, h⟩ := List.mem_map.mp (List.mem_of_mem_drop (List.mem_of_mem_take this))
      exact ⟨c, h.symm⟩
    conv => whnf
    refine ⟨rfl, ?_⟩
    conv => whnf
    refine ⟨PowOk.s (by decide) (by decide) (by decide) (by decide), ?_⟩
    conv => whnf
    refine Br.mk (fun hx => ?_) (fun hx => ?_)
    · conv => whnf
      refine ⟨hM0, ?_⟩
      conv => whnf
      refine ⟨by rw [hi]; unfold zLen; omega, rfl, by simp at hi ⊢; omega, cs ++ [_], by simp; rfl⟩
    · refine ⟨by rw [hi]; unfold zLen; omega, rfl, by simp at hi ⊢; omega, cs ++ [_], by simp; rfl⟩
  · obtain ⟨rfl, hi, cs, rfl⟩ := hI
    refine k cs ?_
    simp at hi
    rw [hi]
    simp [cutD, sIx]
    omega
end Q
/-! MSig -/
namespace Q
open PySem
theorem ediv_toNat_lt {b x : Int} (h : 0 < x ∧ 2 ≤ b) : (x / b).toNat < x.toNat := by
  have h1 : x / b < x := Int.ediv_lt_of_lt_mul (by omega) (by
    have := Int.mul_le_mul_of_nonneg_left h.2 (Int.le_of_lt h.1)
    omega)
  have h2 : 0 ≤ x / b := Int.ediv_nonneg (by omega) (by omega)
  omega
def heap (b x : Int) : Int := if h : 0 < x ∧ 2 ≤ b then x / b + heap b (x / b) else 0
termination_by x.toNat
decreasing_by exact ediv_toNat_lt h
end Q
/-! MHous -/
namespace Q
open PySem
def Su (bs : List Int) (j : Int) : Int := ((bs.take j.toNat).map (· - 1)).sum
structure Hou (b : Int) (bs : List Int) : Prop where
  b2 : 2 ≤ b
  b30 : b ≤ 30
  len : (bs.length : Int) = b - 1
  pos : ∀ x ∈ bs, 1 ≤ x
def Re (bs : List Int) : Int := Su bs bs.length
def Lp (b : Int) (bs : List Int) (n : Int) : Int := if h : 0 < n ∧ 2 ≤ b then (if n < b then n + Su bs n else Lp b bs (n / b) + n + Re bs) else 0
termination_by n.toNat
decreasing_by exact ediv_toNat_lt h
theorem Lp_le0 {b : Int} {bs : List Int} {n : Int} (h : n ≤ 0) : Lp b bs n = 0 := by
  rw [Lp, dif_neg (fun z => by omega)]
theorem Lp_lt {b : Int} {bs : List Int} {n : Int} (hb : 2 ≤ b) (h : 0 < n) (h2 : n < b) : Lp b bs n = n + Su bs n := by
  rw [Lp, dif_pos ⟨h, hb⟩, if_pos h2]
theorem Lp_ge {b : Int} {bs : List Int} {n : Int} (hb : 2 ≤ b) (h2 : b ≤ n) : Lp b bs n = Lp b bs (n / b) + n + Re bs := by
  rw [Lp, dif_pos ⟨by omega, hb⟩, if_neg (by omega)]
section
variable {b : Int} {bs : List Int}
theorem Hou.l0 (h : Hou b bs) : 0 < bs.length := by have := h.len; have := h.b2; omega
theorem Su_zero : Su bs 0 = 0 := by simp [Su]
theorem Su_succ {j : Int} (h0 : 0 ≤ j) (h1 : j < bs.length) : Su bs (j + 1) = Su bs j + bs.getD j.toNat 0 - 1 := by
  unfold Su
  have e : (j + 1).toNat = j.toNat + 1 := by omega
  have hj : j.toNat < bs.length := by omega
  rw [e, List.take_add_one, List.getElem?_eq_getElem hj, List.map_append, List.sum_append, List.getD_eq_getElem?_getD, List.getElem?_eq_getElem hj]
  simp
  omega
theorem Hou.at (h : Hou b bs) {j : Int} (h0 : 0 ≤ j) (h1 : j < bs.length) : 1 ≤ bs.getD j.toNat 0 := by
  have hj : j.toNat < bs.length := by omega
  rw [List.getD_eq_getElem?_getD, List.getElem?_eq_getElem hj]
  exact h.pos _ (List.getElem_mem hj)
theorem Lp_rec (h : Hou b bs) {n : Int} (hn : b - 1 ≤ n) : Lp b bs n = Lp b bs (n / b) + n + Re bs := by
  have hb := h.b2
  by_cases h1 : b ≤ n
  · exact Lp_ge hb h1
  · have e : n = b - 1 := by omega
    subst e
    rw [Lp_lt hb (by omega) (by omega), Int.ediv_eq_zero_of_lt (by omega) (by omega), Lp_le0 (Int.le_refl 0)]
    have : Su bs (b - 1) = Re bs := by rw [Re, h.len]
    omega
def Ti (b : Int) (bs : List Int) (n : Int) : Int := Lp b bs n - Lp b bs (n - 1)
theorem Ti_lt (h : Hou b bs) {n : Int} (h0 : 1 ≤ n) (h1 : n < b) : Ti b bs n = bs.getD (n - 1).toNat 0 := by
  have hb := h.b2
  have hl := h.len
  have e := Su_succ (bs := bs) (j := n - 1) (by omega) (by omega)
  rw [show n - 1 + 1 = n by omega] at e
  unfold Ti
  rw [Lp_lt hb (by omega) h1]
  by_cases h2 : n = 1
  · subst h2
    rw [Lp_le0 (by decide)]
    rw [show (1 : Int) - 1 = 0 by decide, Su_zero] at e
    simp at e ⊢
    omega
  · rw [Lp_lt hb (by omega) (by omega)]
    omega
theorem Ti_ge (h : Hou b bs) {n : Int} (h1 : b ≤ n) : Ti b bs n = 1 + (Lp b bs (n / b) - Lp b bs ((n - 1) / b)) := by
  unfold Ti
  rw [Lp_rec h (n := n) (by omega), Lp_rec h (n := n - 1) (by omega)]
  omega
theorem div_pred {b n : Int} (hb : 2 ≤ b) (h : ¬ n % b = 0) : (n - 1) / b = n / b := by
  have h1 := Int.mul_ediv_add_emod n b
  have h2 := Int.emod_nonneg n (show b ≠ 0 by omega)
  have h3 := Int.emod_lt_of_pos n (show 0 < b by omega)
  refine Int.ediv_emod_unique (show 0 < b by omega) (r := n % b - 1) |>.mpr ⟨by omega, by omega, by omega⟩ |>.1
theorem div_predm {b u : Int} (hb : 2 ≤ b) : (b * u - 1) / b = u - 1 := by
  refine Int.ediv_emod_unique (show 0 < b by omega) (r := b - 1) |>.mpr ⟨by rw [Int.mul_sub]; omega, by omega, by omega⟩ |>.1
theorem Ti_one (h : Hou b bs) {n : Int} (h1 : b ≤ n) (h2 : ¬ n % b = 0) : Ti b bs n = 1 := by
  rw [Ti_ge h h1, div_pred h.b2 h2]
  omega
theorem Ti_mul (h : Hou b bs) {u : Int} (h1 : 1 ≤ u) : Ti b bs (b * u) = Ti b bs u + 1 := by
  have hb := h.b2
  have : b ≤ b * u := by
    have := Int.mul_le_mul_of_nonneg_left h1 (show 0 ≤ b by omega)
    omega
  rw [Ti_ge h this, div_predm hb, Int.mul_ediv_cancel_left _ (by omega)]
  unfold Ti
  omega
theorem Ti_pos (h : Hou b bs) : ∀ (k : Nat) (n : Int), n.toNat ≤ k → 1 ≤ n → 1 ≤ Ti b bs n
  | 0, n, h0, h1 => by omega
  | k + 1, n, h0, h1 => by
    have hb := h.b2
    by_cases h2 : n < b
    · rw [Ti_lt h h1 h2]
      have := h.len
      exact h.at (by omega) (by omega)
    · by_cases h3 : n % b = 0
      · have h4 := Int.mul_ediv_add_emod n b
        have h5 : n = b * (n / b) := by omega
        have h6 : 1 ≤ n / b := by
          rcases Int.lt_or_le 0 (n / b) with h | h
          · omega
          · have := Int.ediv_nonneg (show 0 ≤ n by omega) (show 0 ≤ b by omega)
            rw [show n / b = 0 by omega] at h5
            omega
        have h7 := ediv_toNat_lt (b := b) (x := n) ⟨by omega, hb⟩
        rw [h5, Ti_mul h h6]
        have := Ti_pos h k (n / b) (by omega) h6
        omega
      · rw [Ti_one h (by omega) h3]
        omega
theorem Lp_step (h : Hou b bs) {n : Int} (h1 : 1 ≤ n) : Lp b bs (n - 1) + 1 ≤ Lp b bs n := by
  have := Ti_pos h _ n (Nat.le_refl _) h1
  unfold Ti at this
  omega
theorem Lp_mono' (h : Hou b bs) : ∀ (k : Nat) (n : Int), 0 ≤ n → Lp b bs n + k ≤ Lp b bs (n + k)
  | 0, n, _ => by simp
  | k + 1, n, h0 => by
    have h1 := Lp_mono' h k n h0
    have h2 := Lp_step h (n := n + k + 1) (by omega)
    rw [show n + k + 1 - 1 = n + k by omega] at h2
    rw [show n + ((k + 1 : Nat) : Int) = n + k + 1 by omega]
    omega
theorem Lp_ge_self (h : Hou b bs) {n : Int} (h0 : 0 ≤ n) : n ≤ Lp b bs n := by
  have := Lp_mono' h n.toNat 0 (Int.le_refl 0)
  rw [Lp_le0 (Int.le_refl 0), show 0 + (n.toNat : Int) = n by omega] at this
  omega
structure Sa (b : Int) (bs : List Int) (p m : Int) : Prop where
  m1 : 1 ≤ m
  lo : Lp b bs (m - 1) < p
  hi : p ≤ Lp b bs m
theorem Sa.ex' (h : Hou b bs) : ∀ (k : Nat) (p : Int), 1 ≤ p → p ≤ Lp b bs k → ∃ m, Sa b bs p m
  | 0, p, h1, h2 => by
    rw [show ((0 : Nat) : Int) = 0 from rfl, Lp_le0 (Int.le_refl 0)] at h2
    omega
  | k + 1, p, h1, h2 => by
    by_cases h3 : p ≤ Lp b bs k
    · exact Sa.ex' h k p h1 h3
    · exact ⟨(k : Int) + 1, by omega, by rw [show (k : Int) + 1 - 1 = k by omega]; omega, by simpa using h2⟩
theorem Sa.ex (h : Hou b bs) {p : Int} (h1 : 1 ≤ p) : ∃ m, Sa b bs p m := by
  refine Sa.ex' h p.toNat p h1 ?_
  have := Lp_ge_self h (n := p) (by omega)
  rwa [show (p.toNat : Int) = p by omega]
end
end Q
/-! MHou2 -/
namespace Q
open PySem
section
variable {b : Int} {bs : List Int}
theorem sumsOf_get : ∀ (bs : List Int) (s : Int) (i : Nat), i < bs.length → (sumsOf s bs)[i]? = some (s + Su bs (i + 1))
  | [], s, i, h => by simp at h
  | c :: r, s, 0, h => by
    show some (s + c - 1) = _
    simp [Su]
    omega
  | c :: r, s, i + 1, h => by
    show (sumsOf (s + c - 1) r)[i]? = _
    rw [sumsOf_get r (s + c - 1) i (by simpa using h)]
    have : Su (c :: r) (((i + 1 : Nat) : Int) + 1) = (c - 1) + Su r ((i : Int) + 1) := by
      unfold Su
      rw [show ((((i + 1 : Nat) : Int) + 1).toNat) = ((i : Int) + 1).toNat + 1 by omega, List.take_succ_cons]
      simp
    rw [this]
    congr 1
    omega
theorem sumsOf_len' : ∀ (bs : List Int) (s : Int), (sumsOf s bs).length = bs.length
  | [], _ => rfl
  | c :: r, s => by
    show (sumsOf (s + c - 1) r).length + 1 = r.length + 1
    rw [sumsOf_len' r]
theorem sums_last (h : Hou b bs) : atI ((sumsOf 0 bs).map .int) (-1) = some (.int (Re bs)) := by
  have hl := h.l0
  unfold atI
  rw [if_neg (by decide), if_pos (by rw [List.length_map, sumsOf_len']; omega), List.getElem?_map]
  rw [show ((-1 : Int) + (((sumsOf 0 bs).map D.int).length : Int)).toNat = bs.length - 1 by rw [List.length_map, sumsOf_len']; omega, sumsOf_get bs 0 _ (by omega)]
  rw [show (((bs.length - 1 : Nat) : Int) + 1) = bs.length by omega]
  simp [Re]
end
end Q
/-! MHouse -/
namespace Q
open PySem
def isInt : D → Bool
  | .int _ => true
  | _ => false
def isCount : D → Bool
  | .int i => decide (0 < i)
  | _ => false
def isBase : D → Bool
  | .int i => decide (2 ≤ i ∧ i ≤ 30)
  | _ => false
def isList : D → Bool
  | .lst _ => true
  | .tup _ => true
  | _ => false
def isBeg (b : Int) : D → Bool
  | .lst l => decide ((l.length : Int) = b - 1) && l.all isCount
  | .tup l => decide ((l.length : Int) = b - 1) && l.all isCount
  | _ => false
def tnOk (d : D) : Prop := ∃ n, tn d = some n
def sp_is_whole : PSp := fun ds t P => ∃ d, ds = [d] ∧ tnOk d ∧ P (.bl (isInt d)) t
def sp_is_count : PSp := fun ds t P => ∃ d, ds = [d] ∧ tnOk d ∧ P (.bl (isCount d)) t
def sp_is_base : PSp := fun ds t P => ∃ d, ds = [d] ∧ tnOk d ∧ P (.bl (isBase d)) t
def sp_is_listing : PSp := fun ds t P => ∃ d, ds = [d] ∧ tnOk d ∧ P (.bl (isList d)) t
def sp_is_beginning : PSp := fun ds t P => ∃ b d, ds = [.int b, d] ∧ tnOk d ∧ (∀ l, d = .lst l ∨ d = .tup l → l.length ≤ 1000000 ∧ ∀ x ∈ l, tnOk x) ∧ P (.bl (isBeg b d)) t
theorem len_is_whole (as : List D) (t : Ts) (P : D → Ts → Prop) (h : sp_is_whole as t P) : as.length = 1 := by obtain ⟨_, rfl, _⟩ := h; rfl
theorem len_is_count (as : List D) (t : Ts) (P : D → Ts → Prop) (h : sp_is_count as t P) : as.length = 1 := by obtain ⟨_, rfl, _⟩ := h; rfl
theorem len_is_base (as : List D) (t : Ts) (P : D → Ts → Prop) (h : sp_is_base as t P) : as.length = 1 := by obtain ⟨_, rfl, _⟩ := h; rfl
theorem len_is_listing (as : List D) (t : Ts) (P : D → Ts → Prop) (h : sp_is_listing as t P) : as.length = 1 := by obtain ⟨_, rfl, _⟩ := h; rfl
theorem len_is_beginning (as : List D) (t : Ts) (P : D → Ts → Prop) (h : sp_is_beginning as t P) : as.length = 2 := by obtain ⟨_, _, rfl, _⟩ := h; rfl
def d_is_whole : DS := (dSeq (dRet (dAndV (dIsi [.int] (dVar 0)) (dNotV (dIsi [.bl] (dVar 0))))) dNext)
def d_is_count : DS := (dSeq (dRet (dAndV (dCall sp_is_whole [] (dCons (dVar 0) dNil)) (dOp oGt (dVar 0) (dC (.int 0))))) dNext)
def d_is_base : DS := (dSeq (dRet (dAndV (dCall sp_is_whole [] (dCons (dVar 0) dNil)) (dChain oLe oLe (dC (.int 2)) (dVar 0) (dC (.int 30))))) dNext)
def d_is_listing : DS := (dSeq (dRet (dIsi [.lst, .tup] (dVar 0))) dNext)
def d_is_beginning : DS := (dSeq (dIf (dOr (dNot (dB (dCall sp_is_listing [] (dCons (dVar 1) dNil)))) (dB (dOp oNe (dCB bLen (dCons (dVar 1) dNil)) (dOp oSub (dVar 0) (dC (.int 1)))))) (dSeq (dRet (dC (.bl false))) dNext) dNext) (dSeq (dRet (dCB bAll (dCons (dLc [2] (iSeq (dVar 1)) (gName 2) dYes (dCall sp_is_count [] (dCons (dVar 2) dNil))) dNil))) dNext))
theorem d_is_whole_ok (as : List D) (t : Ts) (P : D → Ts → Prop) (h : sp_is_whole as t P) : d_is_whole (endsOf P) (start0 ["thing"] as) t := by
  obtain ⟨d, rfl, ⟨n, hn⟩, k⟩ := h
  cases d <;> first | exact k | cases hn
theorem d_is_count_ok (as : List D) (t : Ts) (P : D → Ts → Prop) (h : sp_is_count as t P) : d_is_count (endsOf P) (start0 ["thing"] as) t := by
  obtain ⟨d, rfl, hn, k⟩ := h
  conv => whnf
  refine ⟨d, rfl, hn, ?_⟩
  cases d <;> exact k
theorem d_is_base_ok (as : List D) (t : Ts) (P : D → Ts → Prop) (h : sp_is_base as t P) : d_is_base (endsOf P) (start0 ["thing"] as) t := by
  obtain ⟨d, rfl, hn, k⟩ := h
  conv => whnf
  refine ⟨d, rfl, hn, ?_⟩
  cases d with
  | int i =>
    conv => whnf
    refine Br.mk (fun h1 => ?_) (fun h1 => ?_)
    · have h1 : 2 ≤ i := of_decide_eq_true h1
      conv => whnf
      have e : isBase (.int i) = decide (i ≤ 30) := by
        show decide (2 ≤ i ∧ i ≤ 30) = _
        simp [h1]
      rw [e] at k
      exact k
    · have h1 : ¬ 2 ≤ i := of_decide_eq_false h1
      conv => whnf
      have e : isBase (.int i) = false := by
        show decide (2 ≤ i ∧ i ≤ 30) = _
        simp [h1]
      rw [e] at k
      exact k
  | _ => exact k
theorem d_is_listing_ok (as : List D) (t : Ts) (P : D → Ts → Prop) (h : sp_is_listing as t P) : d_is_listing (endsOf P) (start0 ["thing"] as) t := by
  obtain ⟨d, rfl, ⟨n, hn⟩, k⟩ := h
  cases d <;> first | exact k | cases hn
theorem bls_mapf (f : D → Bool) : ∀ l : List D, bls (l.map fun x => .bl (f x)) = some (l.map f)
  | [] => rfl
  | x :: l => by simp [bls, bls_mapf f l]
theorem all_id {α : Type} (f : α → Bool) (l : List α) : (l.map f).all id = l.all f := by
  induction l with
  | nil => rfl
  | cons a l ih => rw [List.map_cons, List.all_cons, List.all_cons, ih]; rfl
theorem take_map {α β : Type} (f : α → β) {l : List α} {i : Nat} {x : α} (h : l[i]? = some x) : (l.take i).map f ++ [f x] = (l.take (i + 1)).map f := by
  rw [List.take_add_one, h]
  simp
theorem d_is_beginning_ok (as : List D) (t : Ts) (P : D → Ts → Prop) (h : sp_is_beginning as t P) : d_is_beginning (endsOf P) (start0 ["base", "thing", "many"] as) t := by
  obtain ⟨b, d, rfl, hn, hl, k⟩ := h
  conv => whnf
  refine ⟨d, rfl, hn, ?_⟩
  cases d with
  | lst l =>
    conv => whnf
    refine Br.mk (fun h1 => ?_) (fun h1 => ?_)
    · conv => whnf
      have e : isBeg b (.lst l) = false := by
        show (decide ((l.length : Int) = b - 1) && _) = _
        simp at h1
        simp [h1]
      rw [e] at k
      exact k
    · have h1 : (l.length : Int) = b - 1 := by simpa using h1
      obtain ⟨hl1, hl2⟩ := hl l (.inl rfl)
      conv => whnf
      refine ⟨fun i acc m => t = m ∧ acc = (l.take i).map fun x => .bl (isCount x), ⟨rfl, rfl⟩, fun i x acc m hx hI => ?_, fun acc m hI => ?_⟩
      · obtain ⟨rfl, rfl⟩ := hI
        conv => whnf
        refine ⟨rfl, ?_⟩
        conv => whnf
        refine ⟨x, rfl, hl2 x (List.mem_of_getElem? hx), ?_⟩
        refine ⟨by rw [List.length_map, List.length_take]; unfold zLen; omega, rfl, take_map (fun x => D.bl (isCount x)) hx⟩
      · obtain ⟨rfl, rfl⟩ := hI
        rw [List.take_length]
        refine ⟨_, bls_mapf isCount l, ?_⟩
        rw [all_id]
        have e : isBeg b (.lst l) = l.all isCount := by
          show (decide ((l.length : Int) = b - 1) && _) = _
          simp [h1]
        rw [e] at k
        exact k
  | tup l =>
    conv => whnf
    refine Br.mk (fun h1 => ?_) (fun h1 => ?_)
    · conv => whnf
      have e : isBeg b (.tup l) = false := by
        show (decide ((l.length : Int) = b - 1) && _) = _
        simp at h1
        simp [h1]
      rw [e] at k
      exact k
    · have h1 : (l.length : Int) = b - 1 := by simpa using h1
      obtain ⟨hl1, hl2⟩ := hl l (.inr rfl)
      conv => whnf
      refine ⟨fun i acc m => t = m ∧ acc = (l.take i).map fun x => .bl (isCount x), ⟨rfl, rfl⟩, fun i x acc m hx hI => ?_, fun acc m hI => ?_⟩
      · obtain ⟨rfl, rfl⟩ := hI
        conv => whnf
        refine ⟨rfl, ?_⟩
        conv => whnf
        refine ⟨x, rfl, hl2 x (List.mem_of_getElem? hx), ?_⟩
        refine ⟨by rw [List.length_map, List.length_take]; unfold zLen; omega, rfl, take_map (fun x => D.bl (isCount x)) hx⟩
      · obtain ⟨rfl, rfl⟩ := hI
        rw [List.take_length]
        refine ⟨_, bls_mapf isCount l, ?_⟩
        rw [all_id]
        have e : isBeg b (.tup l) = l.all isCount := by
          show (decide ((l.length : Int) = b - 1) && _) = _
          simp [h1]
        rw [e] at k
        exact k
  | _ => exact k
end Q
/-! MHse2 -/
namespace Q
open PySem
def hD (W : Cl) (b : Int) (bs : List Int) : D := .ins W.House ["kept_base", "kept_beginning", "sums"] [.int b, .lst (bs.map .int), .lst ((sumsOf 0 bs).map .int)]
def sp_House_base (W : Cl) : PSp := fun ds t P => ∃ b bs, ds = [hD W b bs] ∧ P (.int b) t
def sp_House_beginning (W : Cl) : PSp := fun ds t P => ∃ b bs, ds = [hD W b bs] ∧ P (.lst (bs.map .int)) t
def sp_House_reach (W : Cl) : PSp := fun ds t P => ∃ b bs, ds = [hD W b bs] ∧ Hou b bs ∧ P (.int (Re bs)) t
def sp_House_folk (W : Cl) : PSp := fun ds t P => ∃ b bs, ds = [hD W b bs] ∧ P (.int bs.sum) t
section
variable (W : Cl) (as : List D) (t : Ts) (P : D → Ts → Prop)
theorem len_House_base (h : sp_House_base W as t P) : as.length = 1 := by obtain ⟨_, _, rfl, _⟩ := h; rfl
theorem len_House_beginning (h : sp_House_beginning W as t P) : as.length = 1 := by obtain ⟨_, _, rfl, _⟩ := h; rfl
theorem len_House_reach (h : sp_House_reach W as t P) : as.length = 1 := by obtain ⟨_, _, rfl, _⟩ := h; rfl
theorem len_House_folk (h : sp_House_folk W as t P) : as.length = 1 := by obtain ⟨_, _, rfl, _⟩ := h; rfl
end
theorem nopens_ints : ∀ l : List Int, nopens (l.map .int) = true
  | [] => rfl
  | a :: l => by simp [nopens, nopen, nopens_ints l]
def d_House_sumsE (W : Cl) : DE := (dOp oAdd (dOp oSub (dVar 3) (dC (.int 1))) (dIfE (dB (dOp oNe (dFld W.House "sums" (dVar 0)) (dLst dNil))) (dOp oIx (dFld W.House "sums" (dVar 0)) (dUn oNeg (dC (.int 1)))) (dC (.int 0))))
def d_House_reach (W : Cl) : DS := (dSeq (dRet (dOp oIx (dFld W.House "sums" (dVar 0)) (dUn oNeg (dC (.int 1))))) dNext)
def d_House_folk (W : Cl) : DS := (dSeq (dRet (dCB bSum (dCons (dFld W.House "kept_beginning" (dVar 0)) dNil))) dNext)
theorem sumsE_House (W : Cl) : SumsE W.House 3 (d_House_sumsE W) := by
  intro env t P ns l cur m h0 h1 h3 k
  match env, h0, h3 with
  | a0 :: a1 :: a2 :: a3 :: r, h0, h3 =>
  cases h0
  cases h3
  conv => whnf
  refine ⟨rfl, ?_⟩
  conv => whnf
  rw [h1]
  conv => whnf
  refine ⟨eqok_ints cur [], ?_⟩
  conv => whnf
  refine Br.mk (fun hc => ?_) (fun hc => ?_)
  · have hc : cur ≠ [] := deqn_t (b := []) hc
    conv => whnf
    refine ⟨rfl, ?_⟩
    conv => whnf
    rw [h1]
    conv => whnf
    have hl : 0 < cur.length := List.length_pos_iff.mpr hc
    refine ⟨.int (cur.getLastD 0), ?_, k⟩
    unfold atI
    rw [if_neg (by decide), if_pos (by rw [List.length_map]; omega), List.getElem?_map]
    rw [show ((-1 : Int) + ((cur.map D.int).length : Int)).toNat = cur.length - 1 by rw [List.length_map]; omega, List.getElem?_eq_getElem (by omega)]
    simp [List.getLastD_eq_getLast?, List.getLast?_eq_getElem?, List.getElem?_eq_getElem (show cur.length - 1 < cur.length by omega)]
  · have hc : cur = [] := deqn_f (b := []) hc
    subst hc
    exact k
theorem Hou.isBeg {b : Int} {bs : List Int} (h : Hou b bs) : bs.all (fun x => isCount (.int x)) = true := List.all_eq_true.mpr fun x hx => decide_eq_true (by have := h.pos x hx; omega)
theorem all_map_int (bs : List Int) : (bs.map D.int).all isCount = bs.all (fun x => isCount (.int x)) := by
  induction bs with
  | nil => rfl
  | cons a l ih => rw [List.map_cons, List.all_cons, List.all_cons, ih]
theorem beg_lst {b : Int} {bs : List Int} (h : Hou b bs) : isBeg b (.lst (bs.map .int)) = true := by
  show (decide (((bs.map D.int).length : Int) = b - 1) && (bs.map D.int).all isCount) = true
  rw [List.length_map, h.len, all_map_int, h.isBeg]
  simp
theorem beg_tup {b : Int} {bs : List Int} (h : Hou b bs) : isBeg b (.tup (bs.map .int)) = true := by
  show (decide (((bs.map D.int).length : Int) = b - 1) && (bs.map D.int).all isCount) = true
  rw [List.length_map, h.len, all_map_int, h.isBeg]
  simp
theorem tnOk_ints (bs : List Int) : ∀ x ∈ bs.map D.int, tnOk x := fun x hx => by
  obtain ⟨i, _, rfl⟩ := List.mem_map.mp hx
  exact ⟨_, rfl⟩
section
variable (W : Cl) (as : List D) (t : Ts) (P : D → Ts → Prop)
theorem d_House_reach_ok (h : sp_House_reach W as t P) : d_House_reach W (endsOf P) (start0 ["self"] as) t := by
  obtain ⟨b, bs, rfl, hh, k⟩ := h
  conv => whnf
  refine ⟨rfl, ?_⟩
  conv => whnf
  exact ⟨_, sums_last hh, k⟩
theorem d_House_folk_ok (h : sp_House_folk W as t P) : d_House_folk W (endsOf P) (start0 ["self"] as) t := by
  obtain ⟨b, bs, rfl, k⟩ := h
  conv => whnf
  refine ⟨rfl, ?_⟩
  conv => whnf
  exact ⟨_, ints_map bs, k⟩
end
end Q
/-! MHLaw -/
namespace Q
open PySem
def sp__law_beginning : PSp := fun ds t P => ∃ b most n, ds = [.pen, .int b, .int most] ∧ 2 ≤ b ∧ b ≤ 30 ∧ 1 ≤ most ∧ Sm 8000 most ∧ Pk n t ∧ n < 90000000 ∧
  ∀ bs t', Hou b bs → (∀ x ∈ bs, x ≤ most + 3) → Pk (n + 100) t' → P (.lst (bs.map .int)) t'
theorem len__law_beginning (as : List D) (t : Ts) (P : D → Ts → Prop) (h : sp__law_beginning as t P) : as.length = 3 := by obtain ⟨_, _, _, rfl, _⟩ := h; rfl
def d__law_beginning : DS := (dSeq (dRet (dLc [3] (iRng1 (dOp oSub (dVar 1) (dC (.int 1)))) (gName 3) dYes (dOp oAdd (dC (.int 1)) (dOp oIx (dLst (dCons (dC (.int 0)) (dCons (dCall sp__law_draw [] (dCons (dVar 0) (dCons (dC (.int 3)) dNil))) (dCons (dCall sp__law_draw [] (dCons (dVar 0) (dCons (dVar 2) dNil))) dNil)))) (dCall sp__law_draw [] (dCons (dVar 0) (dCons (dC (.int 3)) dNil))))))) dNext)
theorem pick3 {a c : Int} {i : Int} (hi : 0 ≤ i) (hi' : i < 3) (ha : 0 ≤ a) (hc : 0 ≤ c) {M : Int} (hM : 0 ≤ M) (ha' : a ≤ M) (hc' : c ≤ M) : ∃ x : Int, atI [.int 0, .int a, .int c] i = some (.int x) ∧ 0 ≤ x ∧ x ≤ M := by
  match i, hi, hi' with
  | 0, _, _ => exact ⟨0, rfl, by omega, by omega⟩
  | 1, _, _ => exact ⟨a, rfl, ha, ha'⟩
  | 2, _, _ => exact ⟨c, rfl, hc, hc'⟩
theorem d__law_beginning_ok (as : List D) (t : Ts) (P : D → Ts → Prop) (h : sp__law_beginning as t P) : d__law_beginning (endsOf P) (start0 ["_law_pen_here", "_law_base", "_law_most", "_law_k"] as) t := by
  obtain ⟨b, most, n, rfl, h2, h30, hm, hs, hp, hn, k⟩ := h
  conv => whnf
  refine ⟨by omega, ?_⟩
  conv => whnf
  refine ⟨fun i acc m => ∃ bs : List Int, acc = bs.map .int ∧ bs.length = i ∧ (∀ x ∈ bs, 1 ≤ x ∧ x ≤ most + 3) ∧ Pk (n + 3 * i) m, ⟨[], rfl, rfl, by simp, by simpa using hp⟩, fun i x acc m hx hI => ?_, fun acc m hI => ?_⟩
  · obtain ⟨bs, rfl, hl, hb, pm⟩ := hI
    obtain ⟨hi, rfl⟩ := rng_get hx
    conv => whnf
    refine ⟨rfl, ?_⟩
    conv => whnf
    refine ⟨_, _, rfl, by first | omega | decide, (sm64 (by first | omega | decide) (by first | omega | decide)).mono (by decide), pm, by omega, fun u t1 u0 u1 pt1 => ?_⟩
    conv => whnf
    refine ⟨_, _, rfl, by omega, hs.mono (by decide), pt1, by omega, fun w t2 w0 w1 pt2 => ?_⟩
    conv => whnf
    refine ⟨_, _, rfl, by first | omega | decide, (sm64 (by first | omega | decide) (by first | omega | decide)).mono (by decide), pt2, by omega, fun v t3 v0 v1 pt3 => ?_⟩
    conv => whnf
    obtain ⟨y, e, y0, y1⟩ := pick3 v0 v1 u0 w0 (M := most + 2) (by omega) (by omega) (by omega)
    refine ⟨_, e, ?_⟩
    refine ⟨by rw [List.length_map]; unfold zLen; omega, bs ++ [1 + y], by simp, by simp [hl], fun z hz => ?_, pt3.mono (by omega)⟩
    rcases List.mem_append.mp hz with h | h
    · exact hb z h
    · have : z = 1 + y := by simpa using h
      omega
  · obtain ⟨bs, rfl, hl, hb, pm⟩ := hI
    rw [rng_len] at hl pm
    exact k bs m ⟨h2, h30, by omega, fun x hx => (hb x hx).1⟩ (fun x hx => (hb x hx).2) (pm.mono (by omega))
end Q
/-! MRec -/
namespace Q
open PySem
end Q
/-! MGone -/
namespace Q
open PySem
end Q
/-! MTot -/
namespace Q
open PySem
end Q
/-! MOft -/
namespace Q
open PySem
end Q
/-! MHA -/
namespace Q
open PySem
theorem sum_less (l : List Int) : (l.map (· - 1)).sum = l.sum - l.length := by
  induction l with
  | nil => simp
  | cons a l ih => simp [ih]; omega
theorem Su_sum {bs : List Int} {j : Nat} (h : j ≤ bs.length) : (bs.take j).sum = Su bs j + j := by
  unfold Su
  rw [sum_less, List.length_take, show ((j : Int)).toNat = j by omega]
  omega
theorem Re_sum (bs : List Int) : bs.sum - bs.length = Re bs := by
  have := Su_sum (bs := bs) (Nat.le_refl _)
  rw [List.take_length] at this
  unfold Re
  omega
end Q
/-! MTool -/
namespace Q
open PySem
end Q
/-! MSum -/
namespace Q
open PySem
def d_House_base (W : Cl) : DS := (dSeq (dRet (dFld W.House "kept_base" (dVar 0))) dNext)
def d_House_beginning (W : Cl) : DS := (dSeq (dRet (dCB bList (dCons (dFld W.House "kept_beginning" (dVar 0)) dNil))) dNext)
theorem d_House_base_ok (W : Cl) (as : List D) (t : Ts) (P : D → Ts → Prop) (h : sp_House_base W as t P) : d_House_base W (endsOf P) (start0 ["self"] as) t := by
  obtain ⟨b, bs, rfl, k⟩ := h
  conv => whnf
  repeat (refine And.intro (by first | omega | rfl | exact MulOk.r (by decide) (by decide) | exact MulOk.l (by omega) (by omega) | exact MulOk.r (by omega) (by omega) | exact DivOk.s (by omega) (by omega) | exact PowOk.s (by decide) (by decide) (by decide) (by decide) | (unfold zLen; omega) | (simp only [List.length_append, List.length_map, List.length_cons, List.length_nil]; unfold zLen; omega)) ?_; conv => whnf)
  exact k
theorem d_House_beginning_ok (W : Cl) (as : List D) (t : Ts) (P : D → Ts → Prop) (h : sp_House_beginning W as t P) : d_House_beginning W (endsOf P) (start0 ["self"] as) t := by
  obtain ⟨b, bs, rfl, k⟩ := h
  conv => whnf
  repeat (refine And.intro (by first | omega | rfl | exact MulOk.r (by decide) (by decide) | exact MulOk.l (by omega) (by omega) | exact MulOk.r (by omega) (by omega) | exact DivOk.s (by omega) (by omega) | exact PowOk.s (by decide) (by decide) (by decide) (by decide) | (unfold zLen; omega) | (simp only [List.length_append, List.length_map, List.length_cons, List.length_nil]; unfold zLen; omega)) ?_; conv => whnf)
  exact k
end Q
/-! QD5 -/
namespace Q
open PySem
def dNeH (C : Addr) (sp : PSp) (a b : DE) : DE := fun env t P => a env t fun x t1 => b env t1 fun y t2 => match x, y with
  | .ins C1 ns l, .ins C2 ms k => C1 = C ∧ C2 = C ∧ sp [.ins C1 ns l, .ins C2 ms k] t2 (fun z t3 => match z with
    | .bl c => P (.bl (!c)) t3
    | _ => False)
  | _, _ => False
end Q
/-! QD6 -/
namespace Q
open PySem
def bIsCW (C : Addr) : DB := fun xs P => match xs with
  | [x, .adr A] => A = C ∧ (match x with
    | .ins C1 _ _ => C1 = C ∧ P (.bl true)
    | x => match tn x with
      | some _ => P (.bl false)
      | none => False)
  | _ => False
end Q
/-! QD7 -/
namespace Q
open PySem
end Q
/-! QD8 -/
namespace Q
open PySem
end Q
/-! QD9 -/
namespace Q
open PySem
end Q
/-! QD10 -/
namespace Q
open PySem
end Q
/-! QD11 -/
namespace Q
open PySem
end Q
/-! QD12 -/
namespace Q
open PySem
end Q
namespace Q
open PySem
end Q
/-! QO0 -/
namespace Q
open PySem
def dCallO (sp : PSp) (dvs : List D) (a : DA) : DE := fun env t P => a env t fun xs t1 => sp (xs ++ dvs) t1.bare fun d t2 => P d (t2.wear t1.obs)
def dMethB (C : Addr) (m : Str) (sp : PSp) (dvs : List D) (a : DE) (r : DA) : DE := fun env t P => a env t fun x t1 => match x with
  | .ins C' ns l => C' = C ∧ ns.contains m = false ∧ r env t1 fun xs t2 => sp (.ins C' ns l :: (xs ++ dvs)) t2.bare fun d t3 => P d (t3.wear t2.obs)
  | _ => False
def dReg (a : DE) : DE := fun env t P => a env t fun d t1 => nopen d = true ∧ ∀ p, t1.obs p = none → P (.adr p) (t1.put p d)
/- a field is put -/
end Q
/-! QD13 -/
namespace Q
open PySem
end Q
/-! QD14 -/
namespace Q
open PySem
end Q
/-! QD15 -/
namespace Q
open PySem
end Q
/-! QD16 -/
namespace Q
open PySem
end Q
/-! QD17 -/
namespace Q
open PySem
end Q
/-! QD18 -/
namespace Q
open PySem
end Q
/-! QD19 -/
namespace Q
open PySem
end Q
/-! QD20 -/
namespace Q
open PySem
end Q
/-! QD21 -/
namespace Q
open PySem
end Q
/-! QD22 -/
namespace Q
open PySem
end Q
/-! QD23 -/
namespace Q
open PySem
end Q
/-! QD24 -/
namespace Q
open PySem
end Q
/-! QD25 -/
namespace Q
open PySem
inductive Xn where
  | BadHouse | BadMoment | BadSaying | BadTeller | NoAsk | Unread | NoEntry | NoName | SameMoment | BadMark | Beyond | NoBar | NoHouse | OtherK
def Xn.n : Xn → Nat
  | .BadHouse => 0 | .BadMoment => 1 | .BadSaying => 2 | .BadTeller => 3 | .NoAsk => 4 | .Unread => 5 | .NoEntry => 6 | .NoName => 7 | .SameMoment => 8 | .BadMark => 9 | .Beyond => 10 | .NoBar => 11 | .NoHouse => 12 | .OtherK => 13
def Xn.is (a b : Xn) : Bool := Nat.beq a.n b.n
theorem Xn.is_eq {a b : Xn} (h : Xn.is a b = true) : a = b := by
  cases a <;> cases b <;> first | rfl | exact absurd h (by decide)
abbrev PX := Xn → D → Ts → Prop
abbrev PSpE := List D → Ts → (D → Ts → Prop) → PX → Prop
abbrev DXE := En → Ts → (D → Ts → Prop) → PX → Prop
def zCall (sp : PSpE) (as : DA) : DXE := fun env t P Px => as env t fun xs t1 => sp xs t1 P Px
def spNoE (sp : PSpE) : PSp := fun ds t P => sp ds t P fun _ _ _ => False
abbrev DK := DEnds → En → D → Ts → Prop
def kDrop : DK := fun DD env _ t => DD.nx env t
abbrev DHs := Xn → D → DS
def hNone (Px : PX) : DHs := fun c d _ _ t => Px c d t
def hOn (c0 : Xn) (h : D → DS) (r : DHs) : DHs := fun c d => match Xn.is c c0 with
  | true => h d
  | false => r c d
def sxD (o : Option Str) (d : D) : D := match o with
  | none => d
  | some m => .tup [.str m, d]
def hSet (i j : Nat) (o : Option Str) : D → DS := fun d DD env t => DD.nx ((env.set i (.val (sxD o d))).set j .no) t
def dTryE (dx : DXE) (ko : DK) (hs : DHs) : DS := fun DD env t => dx env t (fun d t2 => ko DD env d t2) fun c d t2 => hs c d DD env t2
end Q
/-! QD26 -/
namespace Q
open PySem
end Q
/-! QD27 -/
namespace Q
open PySem
end Q
/-! QD28 -/
namespace Q
open PySem
end Q
/-! QD29 -/
namespace Q
open PySem
end Q
/-! QD30 -/
namespace Q
open PySem
end Q
/-! QD31 -/
namespace Q
open PySem
end Q
/-! QD32 -/
namespace Q
open PySem
end Q
/-! QD33 -/
namespace Q
open PySem
def iGuardX (dt : DT) (c0 : Xn) (m : Str) (Px : PX) : IS := fun k ns l env t => dt env t fun b t1 => Br b (Px c0 (.str m) t1) (k ns l env t1)
end Q
/-! QD34 -/
namespace Q
open PySem
end Q
/-! QD35 -/
namespace Q
open PySem
end Q
/-! QD36 -/
namespace Q
open PySem
end Q
/-! QD37 -/
namespace Q
open PySem
end Q
/-! QD38 -/
namespace Q
open PySem
end Q
/-! QD39 -/
namespace Q
open PySem
def Ts.del (t : Ts) (a : Addr) : Ts := ⟨t.cells, t.at', t.left, t.tape, fun b => if b = a then none else t.obs b⟩
theorem Ts.del_same (t : Ts) (a : Addr) : (t.del a).obs a = none := if_pos rfl
theorem Ts.del_ne (t : Ts) {a b : Addr} (h : b ≠ a) : (t.del a).obs b = t.obs b := if_neg h
theorem Ts.del_put {t : Ts} {a : Addr} {d : D} (h : t.obs a = some d) : (t.del a).put a d = t := by
  cases t with
  | mk c i l tp o =>
    show Ts.mk c i l tp _ = Ts.mk c i l tp o
    congr 1
    funext b
    show (if b = a then some d else if b = a then none else o b) = o b
    by_cases hb : b = a
    · rw [if_pos hb, hb]; exact h.symm
    · rw [if_neg hb, if_neg hb]
def dOwnE (i : Nat) (de : DE) : DE := fun env t P => match env[i]? with
  | some (.val (.adr A)) => ∃ d, t.obs A = some d ∧ de (env.set i (.own d)) (t.del A) fun x t' => P x (t'.put A d)
  | _ => de env t P
def keepE (js : List Nat) : Nat → En → En
  | _, [] => []
  | k, s :: e => (match js.contains k with
    | true => (match s with
      | .val d => .val d
      | _ => .no)
    | false => .no) :: keepE js (k + 1) e
def scalD : D → Bool
  | .bl _ => true
  | .int _ => true
  | .str _ => true
  | .non => true
  | _ => false
def dLendN (i : Nat) (js : List Nat) (de : DE) : DE := fun env t P => match env[i]? with
  | some (.own (.lst l)) => (nopens l = true ∧ ∀ j ∈ js, ∀ d, env[j]? = some (.val d) → nopen d = true) ∧ de ((keepE js 0 env).set i (.val (.lst l))) t.bare fun x _ => scalD x = true ∧ P x t
  | _ => de env t P
def dAppO (o a : DE) : DS := fun DD env t => o env t fun x t1 => match x with
  | .adr A => ∃ l0, t1.obs A = some (.lst l0) ∧ a env t1 fun y t2 => ∃ l, t2.obs A = some (.lst l) ∧ (l.length < zLen ∧ nopen y = true) ∧ DD.nx env (t2.put A (.lst (l ++ [y])))
  | _ => False
def iSumsO (i j : Nat) : IS := fun k ns l env t => match env[i]? with
  | some (.val (.lst m)) => ∃ bs : List Int, m = bs.map .int ∧ bs.length ≤ 1000 ∧ (ns.contains ("sums" : Str) = false ∧ ns.length < 900 ∧ j < env.length) ∧ ∀ s, k (ns ++ [("sums" : Str)]) (l ++ [.lst ((sumsOf 0 bs).map .int)]) (env.set j s) t
  | some (.val (.tup m)) => ∃ bs : List Int, m = bs.map .int ∧ bs.length ≤ 1000 ∧ (ns.contains ("sums" : Str) = false ∧ ns.length < 900 ∧ j < env.length) ∧ ∀ s, k (ns ++ [("sums" : Str)]) (l ++ [.lst ((sumsOf 0 bs).map .int)]) (env.set j s) t
  | some (.val (.adr A)) => ∃ m, t.obs A = some (.lst m) ∧ ∃ bs : List Int, m = bs.map .int ∧ bs.length ≤ 1000 ∧ (ns.contains ("sums" : Str) = false ∧ ns.length < 900 ∧ j < env.length) ∧ ∀ s, k (ns ++ [("sums" : Str)]) (l ++ [.lst ((sumsOf 0 bs).map .int)]) (env.set j s) t
  | _ => False
def bDictP : DB := fun xs P => match xs with
  | [.lst l] => ∃ ps : List (Int × Int), l = ps.map (fun p => .tup [.int p.1, .int p.2]) ∧ ∀ (ks : List Ky) (vs : List Int), ks.length = vs.length → P (.dic ks (vs.map .int))
  | _ => False
end Q
namespace Q
open PySem
def dEqHL (C : Addr) (sp : PSp) (a b : DE) : DE := fun env t P => a env t fun x t1 => b env t1 fun y t2 => match x, y with
  | .ins C1 ns l, .ins C2 ms k => C1 = C ∧ C2 = C ∧ sp [.ins C1 ns l, .ins C2 ms k] t2 P
  | .ins C1 ns l, .lst m => C1 = C ∧ sp [.ins C1 ns l, .lst m] t2 P
  | _, _ => False
end Q
/-! M_k02a -/
namespace Q
open PySem
def HArg (bs : List Int) (y : D) (t : Ts) : Prop := y = .lst (bs.map .int) ∨ y = .tup (bs.map .int) ∨ ∃ A, y = .adr A ∧ t.obs A = some (.lst (bs.map .int))
def sp_House_initE (W : Cl) : PSpE := fun ds t P Px => ∃ x y, ds = [x, y] ∧ tnOk x ∧ nopens [x, y] = true ∧
  ((isBase x = false ∧ Px .BadHouse (.str "k") t) ∨ ∃ b, x = .int b ∧ 2 ≤ b ∧ b ≤ 30 ∧
    ((tnOk y ∧ (∀ l, y = .lst l ∨ y = .tup l → l.length ≤ 1000000 ∧ ∀ x ∈ l, tnOk x) ∧ isBeg b y = false ∧ Px .BadHouse (.str "beginning") t) ∨ ∃ bs, Hou b bs ∧ HArg bs y t ∧ P (hD W b bs) t))
theorem len_House_initE (W : Cl) (as : List D) (t : Ts) (P : D → Ts → Prop) (Px : PX) (h : sp_House_initE W as t P Px) : as.length + 1 = 3 := by
  obtain ⟨_, _, rfl, _⟩ := h
  rfl
theorem np_House_initE (W : Cl) (as : List D) (t : Ts) (P : D → Ts → Prop) (Px : PX) (h : sp_House_initE W as t P Px) : nopens as = true := by
  obtain ⟨_, _, rfl, _, h, _⟩ := h
  exact h
def d_House_initE (W : Cl) (Px : PX) : IS := (iThen (iGuardX (dNot (dB (dCallO sp_is_base [] (dCons (dVar 1) dNil)))) .BadHouse "k" Px) (iThen (iGuardX (dNot (dB (dOwnE 2 (dLendN 2 [1] (dCallO sp_is_beginning [] (dCons (dVar 1) (dCons (dVar 2) dNil))))))) .BadHouse "beginning" Px) (iThen (iSet "kept_base" (dVar 1)) (iThen (iSet "kept_beginning" (dOwnE 2 (dCB bList (dCons (dView 2) dNil)))) (iSumsO 2 3)))))
theorem d_House_initE_ok (W : Cl) (as : List D) (t : Ts) (P : D → Ts → Prop) (Px : PX) (x : Addr) (h : sp_House_initE W as t P Px) : d_House_initE W (fun c d t' => t' = t ∧ Px c d t) (fun ns l env t' => t' = t ∧ P (.ins W.House ns l) t) [] [] (startI x ["k", "beginning", "many"] as) t := by
  obtain ⟨u, y, rfl, hu, hn, ⟨hb, kx⟩ | ⟨b, rfl, b2, b30, h⟩⟩ := h
  · conv => whnf
    refine ⟨_, rfl, hu, ?_⟩
    rw [hb]
    conv => whnf
    exact ⟨rfl, kx⟩
  conv => whnf
  refine ⟨_, rfl, ⟨_, rfl⟩, ?_⟩
  rw [show isBase (.int b) = true from decide_eq_true ⟨b2, b30⟩]
  conv => whnf
  rcases h with ⟨hy, hl, hq, kx⟩ | ⟨bs, hh, ha, k⟩
  · cases y <;> first
      | (obtain ⟨n, e⟩ := hy
         cases e
         done)
      | (conv => whnf
         refine ⟨b, _, rfl, hy, hl, ?_⟩
         rw [hq]
         conv => whnf
         exact ⟨rfl, kx⟩)
  · have hlen := hh.len
    have ll : bs.length ≤ 1000 := by omega
    have t1 : ∀ l, D.lst (bs.map .int) = .lst l ∨ D.lst (bs.map .int) = .tup l → l.length ≤ 1000000 ∧ ∀ x ∈ l, tnOk x := fun l hl' => by
      rcases hl' with z | z
      · cases z
        exact ⟨by rw [List.length_map]; omega, tnOk_ints bs⟩
      · cases z
    have t2 : ∀ l, D.tup (bs.map .int) = .lst l ∨ D.tup (bs.map .int) = .tup l → l.length ≤ 1000000 ∧ ∀ x ∈ l, tnOk x := fun l hl' => by
      rcases hl' with z | z
      · cases z
      · cases z
        exact ⟨by rw [List.length_map]; omega, tnOk_ints bs⟩
    rcases ha with rfl | rfl | ⟨A, rfl, q⟩
    · conv => whnf
      refine ⟨b, _, rfl, ⟨_, rfl⟩, t1, ?_⟩
      rw [beg_lst hh]
      conv => whnf
      refine ⟨⟨rfl, by decide⟩, ?_⟩
      conv => whnf
      refine ⟨⟨rfl, by decide⟩, ?_⟩
      conv => whnf
      exact ⟨bs, rfl, ll, ⟨rfl, by decide, (show 3 < 4 by decide)⟩, fun s => ⟨rfl, k⟩⟩
    · conv => whnf
      refine ⟨b, _, rfl, ⟨_, rfl⟩, t2, ?_⟩
      rw [beg_tup hh]
      conv => whnf
      refine ⟨⟨rfl, by decide⟩, ?_⟩
      conv => whnf
      refine ⟨⟨rfl, by decide⟩, ?_⟩
      conv => whnf
      exact ⟨bs, rfl, ll, ⟨rfl, by decide, (show 3 < 4 by decide)⟩, fun s => ⟨rfl, k⟩⟩
    · conv => whnf
      refine ⟨_, q, ?_⟩
      conv => whnf
      refine ⟨⟨nopens_ints bs, fun j hj d e => ?_⟩, ?_⟩
      · obtain rfl : j = 1 := by simpa using hj
        cases e
        rfl
      conv => whnf
      refine ⟨b, _, rfl, ⟨_, rfl⟩, t1, rfl, ?_⟩
      rw [beg_lst hh]
      dsimp only
      rw [Ts.del_put (t := t.bare.wear t.obs) q]
      conv => whnf
      refine ⟨⟨rfl, by decide⟩, ?_⟩
      conv => whnf
      refine ⟨_, q, ?_⟩
      conv => whnf
      rw [Ts.del_put (t := t.bare.wear t.obs) q]
      refine ⟨⟨rfl, by decide⟩, ?_⟩
      conv => whnf
      exact ⟨_, q, bs, rfl, ll, ⟨rfl, by decide, (show 3 < 4 by decide)⟩, fun s => ⟨rfl, k⟩⟩
def sp_House___eq__ (W : Cl) : PSp := fun ds t P => ∃ b bs y, ds = [hD W b bs, y] ∧ ((∃ c cs, y = hD W c cs ∧ P (.bl (decide (b = c ∧ bs = cs))) t) ∨ (∃ m, y = .lst m ∧ P (.bl false) t))
theorem len_House___eq__ (W : Cl) (as : List D) (t : Ts) (P : D → Ts → Prop) (h : sp_House___eq__ W as t P) : as.length = 2 := by first | (obtain ⟨_, rfl, _⟩ := h; rfl) | (obtain ⟨_, _, rfl, _⟩ := h; rfl) | (obtain ⟨_, _, _, rfl, _⟩ := h; rfl) | (obtain ⟨_, _, _, _, rfl, _⟩ := h; rfl) | (obtain ⟨_, _, _, _, _, rfl, _⟩ := h; rfl) | (obtain ⟨_, _, _, _, _, _, rfl, _⟩ := h; rfl) | (obtain ⟨_, _, _, _, _, _, _, rfl, _⟩ := h; rfl) | (obtain ⟨_, _, _, _, _, _, _, _, rfl, _⟩ := h; rfl) | (obtain ⟨_, _, _, _, _, _, _, _, _, rfl, _⟩ := h; rfl) | (obtain ⟨_, _, _, _, _, _, _, _, _, _, rfl, _⟩ := h; rfl) | (obtain ⟨_, _, _, _, _, _, _, _, _, _, _, rfl, _⟩ := h; rfl) | (obtain ⟨_, _, _, _, _, _, _, _, _, _, _, _, rfl, _⟩ := h; rfl) | (obtain ⟨_, _, _, _, _, _, _, _, _, _, _, _, _, rfl, _⟩ := h; rfl) | (obtain ⟨_, _, _, _, _, _, _, _, _, _, _, _, _, _, rfl, _⟩ := h; rfl) | (obtain ⟨_, rfl | rfl, _⟩ := h <;> rfl) | (obtain ⟨_, _, rfl | rfl, _⟩ := h <;> rfl) | (obtain ⟨_, _, _, rfl | rfl, _⟩ := h <;> rfl) | (obtain ⟨_, _, _, _, rfl | rfl, _⟩ := h <;> rfl) | (obtain ⟨_, _, _, _, _, rfl | rfl, _⟩ := h <;> rfl) | (obtain ⟨_, _, _, _, _, _, rfl | rfl, _⟩ := h <;> rfl) | (obtain ⟨_, _, _, _, _, _, _, rfl | rfl, _⟩ := h <;> rfl) | (obtain ⟨_, _, _, _, _, _, _, _, rfl | rfl, _⟩ := h <;> rfl) | (obtain ⟨_, _, _, _, _, _, _, _, _, rfl | rfl, _⟩ := h <;> rfl) | (obtain ⟨_, _, _, _, _, _, _, _, _, _, rfl | rfl, _⟩ := h <;> rfl) | (obtain ⟨_, _, _, _, _, _, _, _, _, _, _, rfl | rfl, _⟩ := h <;> rfl) | (obtain ⟨_, _, _, _, _, _, _, _, _, _, _, _, rfl | rfl, _⟩ := h <;> rfl) | (obtain ⟨_, _, _, _, _, _, _, _, _, _, _, _, _, rfl | rfl, _⟩ := h <;> rfl) | (obtain ⟨_, _, _, _, _, _, _, _, _, _, _, _, _, _, rfl | rfl, _⟩ := h <;> rfl)
def d_House___eq__ (W : Cl) : DS := (dSeq (dRet (dAndV (dCB (bIsCW W.House) (dCons (dVar 1) (dCons (dC (.adr W.House)) dNil))) (dAndV (dOp oEq (dMeth W.House "base" (sp_House_base W) [] (dVar 0) dNil) (dMeth W.House "base" (sp_House_base W) [] (dVar 1) dNil)) (dOp oEq (dMeth W.House "beginning" (sp_House_beginning W) [] (dVar 0) dNil) (dMeth W.House "beginning" (sp_House_beginning W) [] (dVar 1) dNil))))) dNext)
theorem d_House___eq___ok (W : Cl) (as : List D) (t : Ts) (P : D → Ts → Prop) (h : sp_House___eq__ W as t P) : d_House___eq__ W (endsOf P) (start0 ["self", "other"] as) t := by
  obtain ⟨b, bs, y, rfl, ⟨c, cs, rfl, k⟩ | ⟨m, rfl, k⟩⟩ := h
  rotate_left
  · conv => whnf
    refine ⟨rfl, ?_⟩
    conv => whnf
    exact k
  conv => whnf
  refine ⟨rfl, ?_⟩
  conv => whnf
  refine ⟨rfl, ?_⟩
  conv => whnf
  conv => whnf
  refine ⟨rfl, ?_⟩
  conv => whnf
  refine ⟨rfl, ?_⟩
  conv => whnf
  refine ⟨b, bs, rfl, ?_⟩
  conv => whnf
  refine ⟨rfl, ?_⟩
  conv => whnf
  refine ⟨rfl, ?_⟩
  conv => whnf
  refine ⟨c, cs, rfl, ?_⟩
  conv => whnf
  refine Br.mk (fun hbc => ?_) (fun hbc => ?_)
  · have hbc := of_decide_eq_true hbc
    conv => whnf
    refine ⟨rfl, ?_⟩
    conv => whnf
    refine ⟨rfl, ?_⟩
    conv => whnf
    refine ⟨b, bs, rfl, ?_⟩
    conv => whnf
    refine ⟨rfl, ?_⟩
    conv => whnf
    refine ⟨rfl, ?_⟩
    conv => whnf
    refine ⟨c, cs, rfl, ?_⟩
    refine ⟨eqok_ints bs cs, ?_⟩
    rw [deq_ints]
    have e : decide (b = c ∧ bs = cs) = decide (bs = cs) := by simp [hbc]
    rw [e] at k
    exact k
  · have hbc := of_decide_eq_false hbc
    have e : decide (b = c ∧ bs = cs) = false := by simp [hbc]
    rw [e] at k
    exact k
def BadB (b : Int) (y : D) : Prop := tnOk y ∧ (∀ l, y = .lst l ∨ y = .tup l → l.length ≤ 1000000 ∧ ∀ x ∈ l, tnOk x) ∧ isBeg b y = false ∧ nopen y = true
def sp__law_bent_2 : PSp := fun ds t P => ∃ b bs n, ds = [.pen, .lst (bs.map .int)] ∧ Hou b bs ∧ Pk n t ∧ n < 90000000 ∧ ∀ y t', BadB b y → Pk (n + 3) t' → P y t'
theorem odd7 {u : Int} (h0 : 0 ≤ u) (h1 : u < 7) : ∃ x, atI [D.int 0, D.int (-1), D.bl true, D.non, D.str "1", D.lst [D.int 1], D.tup [D.int 1]] u = some x ∧ tnOk x ∧ isCount x = false ∧ nopen x = true := by
  match u, h0, h1 with
  | 0, _, _ => exact ⟨_, rfl, ⟨_, rfl⟩, rfl, rfl⟩
  | 1, _, _ => exact ⟨_, rfl, ⟨_, rfl⟩, rfl, rfl⟩
  | 2, _, _ => exact ⟨_, rfl, ⟨_, rfl⟩, rfl, rfl⟩
  | 3, _, _ => exact ⟨_, rfl, ⟨_, rfl⟩, rfl, rfl⟩
  | 4, _, _ => exact ⟨_, rfl, ⟨_, rfl⟩, rfl, rfl⟩
  | 5, _, _ => exact ⟨_, rfl, ⟨_, rfl⟩, rfl, rfl⟩
  | 6, _, _ => exact ⟨_, rfl, ⟨_, rfl⟩, rfl, rfl⟩
theorem cut_sub (xs : List D) (lo hi : Option Int) : (cutD xs lo hi).length ≤ xs.length ∧ ∀ y ∈ cutD xs lo hi, y ∈ xs := by
  unfold cutD
  refine ⟨?_, fun y hy => List.mem_of_mem_drop (List.mem_of_mem_take hy)⟩
  rw [List.length_take, List.length_drop]
  omega
theorem cut_one (bs : List Int) : (cutD (bs.map D.int) (some 1) none).length = bs.length - 1 := by
  unfold cutD
  have e1 : sIx (bs.map D.int).length 0 (some 1) = min 1 (bs.map D.int).length := by
    show (if (1 : Int) < 0 then (((bs.map D.int).length : Int) + 1).toNat else min (1 : Int).toNat (bs.map D.int).length) = _
    rw [if_neg (by decide)]
    rfl
  rw [e1, List.length_take, List.length_drop, List.length_map]
  show min (sIx bs.length bs.length none - min 1 bs.length) (bs.length - min 1 bs.length) = _
  show min (bs.length - min 1 bs.length) (bs.length - min 1 bs.length) = _
  omega
theorem nopens_all : ∀ {l : List D}, (∀ d ∈ l, nopen d = true) → nopens l = true
  | [], _ => rfl
  | d :: l, h => by
    simp only [nopens, Bool.and_eq_true]
    exact ⟨h d (List.mem_cons_self ..), nopens_all fun x hx => h x (List.mem_cons_of_mem _ hx)⟩
theorem len__law_bent_2 (as : List D) (t : Ts) (P : D → Ts → Prop) (h : sp__law_bent_2 as t P) : as.length = 2 := by first | (obtain ⟨_, rfl, _⟩ := h; rfl) | (obtain ⟨_, _, rfl, _⟩ := h; rfl) | (obtain ⟨_, _, _, rfl, _⟩ := h; rfl) | (obtain ⟨_, _, _, _, rfl, _⟩ := h; rfl) | (obtain ⟨_, _, _, _, _, rfl, _⟩ := h; rfl) | (obtain ⟨_, _, _, _, _, _, rfl, _⟩ := h; rfl) | (obtain ⟨_, _, _, _, _, _, _, rfl, _⟩ := h; rfl) | (obtain ⟨_, _, _, _, _, _, _, _, rfl, _⟩ := h; rfl) | (obtain ⟨_, _, _, _, _, _, _, _, _, rfl, _⟩ := h; rfl) | (obtain ⟨_, _, _, _, _, _, _, _, _, _, rfl, _⟩ := h; rfl) | (obtain ⟨_, _, _, _, _, _, _, _, _, _, _, rfl, _⟩ := h; rfl) | (obtain ⟨_, _, _, _, _, _, _, _, _, _, _, _, rfl, _⟩ := h; rfl) | (obtain ⟨_, _, _, _, _, _, _, _, _, _, _, _, _, rfl, _⟩ := h; rfl) | (obtain ⟨_, _, _, _, _, _, _, _, _, _, _, _, _, _, rfl, _⟩ := h; rfl) | (obtain ⟨_, rfl | rfl, _⟩ := h <;> rfl) | (obtain ⟨_, _, rfl | rfl, _⟩ := h <;> rfl) | (obtain ⟨_, _, _, rfl | rfl, _⟩ := h <;> rfl) | (obtain ⟨_, _, _, _, rfl | rfl, _⟩ := h <;> rfl) | (obtain ⟨_, _, _, _, _, rfl | rfl, _⟩ := h <;> rfl) | (obtain ⟨_, _, _, _, _, _, rfl | rfl, _⟩ := h <;> rfl) | (obtain ⟨_, _, _, _, _, _, _, rfl | rfl, _⟩ := h <;> rfl) | (obtain ⟨_, _, _, _, _, _, _, _, rfl | rfl, _⟩ := h <;> rfl) | (obtain ⟨_, _, _, _, _, _, _, _, _, rfl | rfl, _⟩ := h <;> rfl) | (obtain ⟨_, _, _, _, _, _, _, _, _, _, rfl | rfl, _⟩ := h <;> rfl) | (obtain ⟨_, _, _, _, _, _, _, _, _, _, _, rfl | rfl, _⟩ := h <;> rfl) | (obtain ⟨_, _, _, _, _, _, _, _, _, _, _, _, rfl | rfl, _⟩ := h <;> rfl) | (obtain ⟨_, _, _, _, _, _, _, _, _, _, _, _, _, rfl | rfl, _⟩ := h <;> rfl) | (obtain ⟨_, _, _, _, _, _, _, _, _, _, _, _, _, _, rfl | rfl, _⟩ := h <;> rfl)
def d__law_bent_2 : DS := (dSeq (dAsg (dCall sp__law_draw [] (dCons (dVar 0) (dCons (dCB bLen (dCons (dVar 1) dNil)) dNil))) (gName 2)) (dSeq (dAsg (dOp oIx (dLst (dCons (dC (.int 0)) (dCons (dUn oNeg (dC (.int 1))) (dCons (dC (.bl true)) (dCons (dC .non) (dCons (dC (.str "1")) (dCons (dLst (dCons (dC (.int 1)) dNil)) (dCons (dTup (dCons (dC (.int 1)) dNil)) dNil)))))))) (dCall sp__law_draw [] (dCons (dVar 0) (dCons (dC (.int 7)) dNil)))) (gName 3)) (dSeq (dAsgN 4 (dLst (dCons (dOp oAdd (dOp oAdd (dSlice (dVar 1) dNoPart (dPart (dVar 2))) (dLst (dCons (dVar 3) dNil))) (dSlice (dVar 1) (dPart (dOp oAdd (dVar 2) (dC (.int 1)))) dNoPart)) (dCons (dOp oAdd (dVar 1) (dLst (dCons (dC (.int 1)) dNil))) (dCons (dSlice (dVar 1) (dPart (dC (.int 1))) dNoPart) (dCons (dC .non) (dCons (dC (.int 7)) (dCons (dC (.str "1")) (dCons (dOp oAdd (dCB bTuple (dCons (dVar 1) dNil)) (dTup (dCons (dC (.int 2)) dNil))) dNil))))))))) (dSeq (dApp 4 (dCB bDictP (dCons (dLc [5] (iRng1 (dCB bLen (dCons (dVar 1) dNil))) (gName 5) dYes (dTup (dCons (dOp oAdd (dVar 5) (dC (.int 1))) (dCons (dC (.int 1)) dNil)))) dNil))) (dSeq (dFrz 4) (dSeq (dRet (dOp oIx (dView 4) (dCall sp__law_draw [] (dCons (dVar 0) (dCons (dC (.int 8)) dNil))))) dNext))))))
theorem d__law_bent_2_ok (as : List D) (t : Ts) (P : D → Ts → Prop) (h : sp__law_bent_2 as t P) : d__law_bent_2 (endsOf P) (start0 ["_law_pen_here", "_law_begun", "_law_at", "_law_odd", "_law_some", "_law_k"] as) t := by
  obtain ⟨b, bs, n, rfl, hh, pm, hn, k⟩ := h
  have hlen := hh.len
  have b2 := hh.b2
  have b30 := hh.b30
  conv => whnf
  rw [show ((bs.map D.int).length : Int) = (bs.length : Int) by rw [List.length_map]]
  refine ⟨_, _, rfl, by first | omega | decide, (sm64 (by first | omega | decide) (by first | omega | decide)).mono (by decide), pm, by omega, fun z t1 z0 z1 pt1 => ?_⟩
  conv => whnf
  refine ⟨_, _, rfl, by first | omega | decide, (sm64 (by first | omega | decide) (by first | omega | decide)).mono (by decide), pt1, by omega, fun u t2 u0 u1 pt2 => ?_⟩
  conv => whnf
  obtain ⟨x, ex, x1, x2, x3⟩ := odd7 u0 u1
  refine ⟨x, ex, ?_⟩
  conv => whnf
  obtain ⟨c1, c2⟩ := cut_sub (bs.map D.int) none (some z)
  obtain ⟨d1, d2⟩ := cut_sub (bs.map D.int) (some (z + 1)) none
  have e1 := cut_one bs
  obtain ⟨f1, f2⟩ := cut_sub (bs.map D.int) (some 1) none
  rw [List.length_map] at c1 d1 f1
  generalize cutD (bs.map D.int) none (some z) = A at c1 c2 ⊢
  refine ⟨by show A.length + 1 ≤ zLen; unfold zLen; omega, ?_⟩
  conv => whnf
  generalize cutD (bs.map D.int) (some (z + 1)) none = A2 at d1 d2 ⊢
  refine ⟨by rw [List.length_append]; show A.length + 1 + A2.length ≤ zLen; unfold zLen; omega, ?_⟩
  conv => whnf
  refine ⟨by rw [List.length_map]; show bs.length + 1 ≤ zLen; unfold zLen; omega, ?_⟩
  conv => whnf
  generalize cutD (bs.map D.int) (some 1) none = A3 at e1 f1 f2 ⊢
  have hb0 : bs.map D.int ≠ [] := fun z => by
    have : (bs.map D.int).length = 0 := by rw [z]; rfl
    rw [List.length_map] at this
    omega
  refine ⟨⟨by rw [List.length_map]; show bs.length + 1 ≤ zLen; unfold zLen; omega, hb0, by intro z; cases z⟩, ?_⟩
  conv => whnf
  refine ⟨by rw [List.length_map]; omega, ?_⟩
  conv => whnf
  refine ⟨fun i acc m => acc = (List.range i).map (fun j : Nat => D.tup [.int ((j : Int) + 1), .int 1]) ∧ m = t2, ⟨rfl, rfl⟩, fun i x acc m hx hI => ?_, fun acc m hI => ?_⟩
  · obtain ⟨rfl, rfl⟩ := hI
    obtain ⟨hi, rfl⟩ := rng_get hx
    conv => whnf
    refine ⟨rfl, ?_⟩
    conv => whnf
    refine ⟨by rw [List.length_map, List.length_range]; unfold zLen; rw [List.length_map] at hi; omega, ?_, rfl⟩
    rw [List.range_succ, List.map_append, Int.zero_add]
    rfl
  · obtain ⟨rfl, rfl⟩ := hI
    conv => whnf
    refine ⟨(List.range _).map fun j : Nat => ((j : Int) + 1, (1 : Int)), by rw [List.map_map]; rfl, fun ks vs hkv => ?_⟩
    conv => whnf
    refine ⟨by unfold zLen; show 7 < _; omega, ?_⟩
    conv => whnf
    refine ⟨_, _, rfl, by first | omega | decide, (sm64 (by first | omega | decide) (by first | omega | decide)).mono (by decide), pt2, by omega, fun w t3 w0 w1 pt3 => ?_⟩
    conv => whnf
    have pt3 := pt3.mono (show n + 1 + 1 + 1 ≤ n + 3 by omega)
    have ti := tnOk_ints bs
    have ta : ∀ y ∈ bs.map D.int, tnOk y := ti
    have no : ∀ y ∈ bs.map D.int, nopen y = true := fun y hy => by
      obtain ⟨j, _, rfl⟩ := List.mem_map.mp hy
      rfl
    have bad : ∀ y, BadB b y → P y t3 := fun y hy => k y t3 hy pt3
    have all3 : ∀ y ∈ A ++ [x] ++ A2, tnOk y ∧ nopen y = true := fun y hy => by
      rcases List.mem_append.mp hy with hy | hy
      · rcases List.mem_append.mp hy with hy | hy
        · exact ⟨ta y (c2 y hy), no y (c2 y hy)⟩
        · rw [List.mem_singleton.mp hy]; exact ⟨x1, x3⟩
      · exact ⟨ta y (d2 y hy), no y (d2 y hy)⟩
    have ls1 : ∀ (L : List D), L.length ≤ 1000000 → (∀ y ∈ L, tnOk y ∧ nopen y = true) → isBeg b (.lst L) = false → BadB b (.lst L) := fun L h1 h2 h3 =>
      ⟨⟨_, rfl⟩, (fun l hl => by
        rcases hl with z | z
        · cases z
          exact ⟨h1, fun y hy => (h2 y hy).1⟩
        · cases z), h3, by
        show nopens L = true
        exact nopens_all fun y hy => (h2 y hy).2⟩
    have hw : w = 0 ∨ w = 1 ∨ w = 2 ∨ w = 3 ∨ w = 4 ∨ w = 5 ∨ w = 6 ∨ w = 7 := by omega
    rcases hw with rfl | rfl | rfl | rfl | rfl | rfl | rfl | rfl
    · refine ⟨_, rfl, bad _ (ls1 _ ?_ all3 ?_)⟩
      · simp only [List.length_append, List.length_cons, List.length_nil]; omega
      · show (decide _ && (A ++ [x] ++ A2).all isCount) = false
        rw [List.all_append, List.all_append]
        show (_ && (A.all isCount && (isCount x && true) && A2.all isCount)) = false
        rw [x2]
        simp
    · refine ⟨_, rfl, bad _ (ls1 _ ?_ (fun y hy => ?_) ?_)⟩
      · rw [List.length_append, List.length_map]; show bs.length + 1 ≤ 1000000; omega
      · rcases List.mem_append.mp hy with hy | hy
        · exact ⟨ta y hy, no y hy⟩
        · rw [List.mem_singleton.mp hy]; exact ⟨⟨_, rfl⟩, rfl⟩
      · show (decide _ && _) = false
        rw [decide_eq_false (by rw [List.length_append, List.length_map]; show ¬ (((bs.length + 1 : Nat) : Int) = b - 1); omega)]
        rfl
    · refine ⟨_, rfl, bad _ (ls1 _ (by omega) (fun y hy => ⟨ta y (f2 y hy), no y (f2 y hy)⟩) ?_)⟩
      show (decide _ && _) = false
      rw [decide_eq_false (by omega)]
      rfl
    · exact ⟨_, rfl, bad _ ⟨⟨_, rfl⟩, fun l hl => (by rcases hl with z | z <;> cases z), rfl, rfl⟩⟩
    · exact ⟨_, rfl, bad _ ⟨⟨_, rfl⟩, fun l hl => (by rcases hl with z | z <;> cases z), rfl, rfl⟩⟩
    · exact ⟨_, rfl, bad _ ⟨⟨_, rfl⟩, fun l hl => (by rcases hl with z | z <;> cases z), rfl, rfl⟩⟩
    · have m2 : ∀ y ∈ bs.map D.int ++ [D.int 2], tnOk y ∧ nopen y = true := fun y hy => by
        rcases List.mem_append.mp hy with hy | hy
        · exact ⟨ta y hy, no y hy⟩
        · rw [List.mem_singleton.mp hy]; exact ⟨⟨_, rfl⟩, rfl⟩
      refine ⟨_, rfl, bad _ ⟨⟨_, rfl⟩, fun l hl => ?_, ?_, by show nopens _ = true; exact nopens_all fun y hy => (m2 y hy).2⟩⟩
      · rcases hl with z | z
        · cases z
        · cases z
          exact ⟨by rw [List.length_append, List.length_map]; show bs.length + 1 ≤ 1000000; omega, fun y hy => (m2 y hy).1⟩
      · show (decide _ && _) = false
        rw [decide_eq_false (by rw [List.length_append, List.length_map]; show ¬ (((bs.length + 1 : Nat) : Int) = b - 1); omega)]
        rfl
    · refine ⟨_, rfl, bad _ ⟨⟨_, rfl⟩, fun l hl => (by rcases hl with z | z <;> cases z), rfl, ?_⟩⟩
      show nopens (vs.map D.int) = true
      exact nopens_ints vs
def sp__law_refused (W : Cl) : PSp := fun ds t P => ∃ x y, ds = [x, y] ∧ tnOk x ∧ nopens [x, y] = true ∧ ((isBase x = false ∧ P (.str "k") t) ∨ ∃ b, x = .int b ∧ 2 ≤ b ∧ b ≤ 30 ∧ BadB b y ∧ P (.str "beginning") t)
theorem len__law_refused (W : Cl) (as : List D) (t : Ts) (P : D → Ts → Prop) (h : sp__law_refused W as t P) : as.length = 2 := by first | (obtain ⟨_, rfl, _⟩ := h; rfl) | (obtain ⟨_, _, rfl, _⟩ := h; rfl) | (obtain ⟨_, _, _, rfl, _⟩ := h; rfl) | (obtain ⟨_, _, _, _, rfl, _⟩ := h; rfl) | (obtain ⟨_, _, _, _, _, rfl, _⟩ := h; rfl) | (obtain ⟨_, _, _, _, _, _, rfl, _⟩ := h; rfl) | (obtain ⟨_, _, _, _, _, _, _, rfl, _⟩ := h; rfl) | (obtain ⟨_, _, _, _, _, _, _, _, rfl, _⟩ := h; rfl) | (obtain ⟨_, _, _, _, _, _, _, _, _, rfl, _⟩ := h; rfl) | (obtain ⟨_, _, _, _, _, _, _, _, _, _, rfl, _⟩ := h; rfl) | (obtain ⟨_, _, _, _, _, _, _, _, _, _, _, rfl, _⟩ := h; rfl) | (obtain ⟨_, _, _, _, _, _, _, _, _, _, _, _, rfl, _⟩ := h; rfl) | (obtain ⟨_, _, _, _, _, _, _, _, _, _, _, _, _, rfl, _⟩ := h; rfl) | (obtain ⟨_, _, _, _, _, _, _, _, _, _, _, _, _, _, rfl, _⟩ := h; rfl) | (obtain ⟨_, rfl | rfl, _⟩ := h <;> rfl) | (obtain ⟨_, _, rfl | rfl, _⟩ := h <;> rfl) | (obtain ⟨_, _, _, rfl | rfl, _⟩ := h <;> rfl) | (obtain ⟨_, _, _, _, rfl | rfl, _⟩ := h <;> rfl) | (obtain ⟨_, _, _, _, _, rfl | rfl, _⟩ := h <;> rfl) | (obtain ⟨_, _, _, _, _, _, rfl | rfl, _⟩ := h <;> rfl) | (obtain ⟨_, _, _, _, _, _, _, rfl | rfl, _⟩ := h <;> rfl) | (obtain ⟨_, _, _, _, _, _, _, _, rfl | rfl, _⟩ := h <;> rfl) | (obtain ⟨_, _, _, _, _, _, _, _, _, rfl | rfl, _⟩ := h <;> rfl) | (obtain ⟨_, _, _, _, _, _, _, _, _, _, rfl | rfl, _⟩ := h <;> rfl) | (obtain ⟨_, _, _, _, _, _, _, _, _, _, _, rfl | rfl, _⟩ := h <;> rfl) | (obtain ⟨_, _, _, _, _, _, _, _, _, _, _, _, rfl | rfl, _⟩ := h <;> rfl) | (obtain ⟨_, _, _, _, _, _, _, _, _, _, _, _, _, rfl | rfl, _⟩ := h <;> rfl) | (obtain ⟨_, _, _, _, _, _, _, _, _, _, _, _, _, _, rfl | rfl, _⟩ := h <;> rfl)
def d__law_refused (W : Cl) : DS := (dSeq (dAsg (dC .non) (gName 2)) (dSeq (dTryE (zCall (sp_House_initE W) (dCons (dVar 0) (dCons (dVar 1) dNil))) kDrop (hOn .BadHouse (hSet 2 3 none) (hNone fun _ _ _ => False))) (dSeq (dRet (dVar 2)) dNext)))
theorem d__law_refused_ok (W : Cl) (as : List D) (t : Ts) (P : D → Ts → Prop) (h : sp__law_refused W as t P) : d__law_refused W (endsOf P) (start0 ["_law_base", "_law_begun", "_law_wrong", "e"] as) t := by
  obtain ⟨x, y, rfl, hx, hn, h⟩ := h
  conv => whnf
  refine ⟨x, y, rfl, hx, hn, ?_⟩
  rcases h with ⟨hb, k⟩ | ⟨b, rfl, h1, h2, ⟨q1, q2, q3, q4⟩, k⟩
  · refine .inl ⟨hb, ?_⟩
    conv => whnf
    exact k
  · refine .inr ⟨b, rfl, h1, h2, .inl ⟨q1, q2, q3, ?_⟩⟩
    conv => whnf
    exact k
end Q
/-! M_k02 -/
namespace Q
open PySem
theorem pkb {n : Int} {t : Ts} (p : Pk n t) : Pk n t.bare := ⟨p.c, p.a0, p.a1, p.l, p.tp⟩
theorem pkw {n : Int} {t : Ts} (p : Pk n t) (o : Addr → Option D) : Pk n (t.wear o) := ⟨p.c, p.a0, p.a1, p.l, p.tp⟩
theorem pkp {n : Int} {t : Ts} (p : Pk n t) (a : Addr) (d : D) : Pk n (t.put a d) := ⟨p.c, p.a0, p.a1, p.l, p.tp⟩
theorem pkd {n : Int} {t : Ts} (p : Pk n t) (a : Addr) : Pk n (t.del a) := ⟨p.c, p.a0, p.a1, p.l, p.tp⟩
theorem odd8 {u : Int} (h0 : 0 ≤ u) (h1 : u < 8) : ∃ x, atI [D.int 0, D.int 1, D.int 31, D.bl true, D.non, D.str "3", D.int (-2), D.tup [D.int 3]] u = some x ∧ tnOk x ∧ isBase x = false ∧ nopen x = true := by
  match u, h0, h1 with
  | 0, _, _ => exact ⟨_, rfl, ⟨_, rfl⟩, by decide, rfl⟩
  | 1, _, _ => exact ⟨_, rfl, ⟨_, rfl⟩, by decide, rfl⟩
  | 2, _, _ => exact ⟨_, rfl, ⟨_, rfl⟩, by decide, rfl⟩
  | 3, _, _ => exact ⟨_, rfl, ⟨_, rfl⟩, rfl, rfl⟩
  | 4, _, _ => exact ⟨_, rfl, ⟨_, rfl⟩, rfl, rfl⟩
  | 5, _, _ => exact ⟨_, rfl, ⟨_, rfl⟩, rfl, rfl⟩
  | 6, _, _ => exact ⟨_, rfl, ⟨_, rfl⟩, by decide, rfl⟩
  | 7, _, _ => exact ⟨_, rfl, ⟨_, rfl⟩, rfl, rfl⟩
def d_law (W : Cl) : DS := (dSeq (dFor (iRng1 (dOp oAdd (dC (.int 4)) (dCB bMin (dCons (dC (.int 11)) (dCons (dCB bLen (dCons (dVar 0) dNil)) dNil))))) (gName 2) (dSeq (dAsg (dOp oAdd (dC (.int 2)) (dCallO sp__law_draw [] (dCons (dVar 1) (dCons (dC (.int 29)) dNil)))) (gName 3)) (dSeq (dAsg (dCallO sp__law_beginning [] (dCons (dVar 1) (dCons (dVar 3) (dCons (dOp oPow (dC (.int 10)) (dC (.int 15))) dNil)))) (gName 4)) (dSeq (dAsg (dOp oIx (dLst (dCons (dReg (dCB bList (dCons (dVar 4) dNil))) (dCons (dCB bTuple (dCons (dVar 4) dNil)) dNil))) (dCallO sp__law_draw [] (dCons (dVar 1) (dCons (dC (.int 2)) dNil)))) (gName 5)) (dSeq (dAsg (dCall (spNoE (sp_House_initE W)) [] (dCons (dVar 3) (dCons (dVar 5) dNil))) (gName 6)) (dSeq (dIf (dB (dOwnE 5 (dIsi [.lst] (dView 5)))) (dSeq (dAppO (dVar 5) (dC (.int 1))) dNext) dNext) (dSeq (dFor (iRng1 (dC (.int 2))) (gName 7) (dSeq (dAsgN 10 (dMeth W.House "beginning" (sp_House_beginning W) [] (dVar 6) dNil)) (dSeq (dIf (dOr (dB (dOp oNe (dView 10) (dVar 4))) (dOr (dB (dOp oNe (dMethB W.House "base" (sp_House_base W) [] (dVar 6) dNil) (dVar 3))) (dB (dOp oNe (dMethB W.House "reach" (sp_House_reach W) [] (dVar 6) dNil) (dOp oSub (dCB bSum (dCons (dVar 4) dNil)) (dCB bLen (dCons (dVar 4) dNil))))))) (dSeq (dRet (dC (.bl false))) dNext) dNext) (dSeq (dIf (dB (dOp oNe (dMethB W.House "folk" (sp_House_folk W) [] (dVar 6) dNil) (dCB bSum (dCons (dVar 4) dNil)))) (dSeq (dRet (dC (.bl false))) dNext) dNext) (dSeq (dApp 10 (dC (.int 1))) (dSeq (dFrz 10) dNext)))))) (dSeq (dParM [(11, false), (12, true)] (dCons (dCall (spNoE (sp_House_initE W)) [] (dCons (dVar 3) (dCons (dCB bTuple (dCons (dVar 4) dNil)) dNil))) (dCons (dCB bList (dCons (dVar 4) dNil)) dNil))) (dSeq (dAsg (dCallO sp__law_draw [] (dCons (dVar 1) (dCons (dCB bLen (dCons (dVar 4) dNil)) dNil))) (gName 8)) (dSeq (dSet 12 (dVar 8) (dOp oAdd (dOp oIx (dView 12) (dVar 8)) (dC (.int 1)))) (dSeq (dFrz 12) (dSeq (dIf (dOr (dNot (dB (dEqHL W.House (sp_House___eq__ W) (dVar 6) (dVar 11)))) (dOr (dB (dNeH W.House (sp_House___eq__ W) (dVar 6) (dVar 11))) (dOr (dB (dEqHL W.House (sp_House___eq__ W) (dVar 6) (dCall (spNoE (sp_House_initE W)) [] (dCons (dVar 3) (dCons (dVar 12) dNil))))) (dB (dEqHL W.House (sp_House___eq__ W) (dVar 6) (dVar 4)))))) (dSeq (dRet (dC (.bl false))) dNext) dNext) (dSeq (dAsg (dOp oIx (dLst (dCons (dC (.int 0)) (dCons (dC (.int 1)) (dCons (dC (.int 31)) (dCons (dC (.bl true)) (dCons (dC .non) (dCons (dC (.str "3")) (dCons (dUn oNeg (dC (.int 2))) (dCons (dTup (dCons (dC (.int 3)) dNil)) dNil))))))))) (dCallO sp__law_draw [] (dCons (dVar 1) (dCons (dC (.int 8)) dNil)))) (gName 9)) (dSeq (dIf (dOr (dB (dOp oNe (dCallO (sp__law_refused W) [] (dCons (dVar 9) (dCons (dVar 4) dNil))) (dC (.str "k")))) (dB (dOp oNe (dCallO (sp__law_refused W) [] (dCons (dVar 9) (dCons (dC .non) dNil))) (dC (.str "k"))))) (dSeq (dRet (dC (.bl false))) dNext) dNext) (dSeq (dIf (dB (dOp oNe (dCallO (sp__law_refused W) [] (dCons (dVar 3) (dCons (dCallO sp__law_bent_2 [] (dCons (dVar 1) (dCons (dVar 4) dNil))) dNil))) (dC (.str "beginning")))) (dSeq (dRet (dC (.bl false))) dNext) dNext) dNext))))))))))))))) (dSeq (dRet (dC (.bl true))) dNext))
theorem k02_rest (W : Cl) (ns : List Int) (b : Int) (bs : List Int) (q : Int) (m : Ts) (DD : DEnds) (s2 s5 s7 s8 s9 s10 s11 s12 : Sl) (h10 : ∀ d, s10 ≠ .own d) (h11 : ∀ d, s11 ≠ .own d) (h12 : ∀ d, s12 ≠ .own d) (hh : Hou b bs) (hb : ∀ x ∈ bs, x ≤ 10 ^ 15 + 3) (pm : Pk q m) (hq : q < 80000000)
    (k : ∀ m' (s2 s3 s4 s5 s6 s7 s8 s9 s10 s11 s12 : Sl), Pk (q + 100) m' → (∀ d, s10 ≠ .own d) → (∀ d, s11 ≠ .own d) → (∀ d, s12 ≠ .own d) → DD.nx [.val (.scr ns), .val .pen, s2, s3, s4, s5, s6, s7, s8, s9, s10, s11, s12] m') :
    ((dSeq (dFor (iRng1 (dC (.int 2))) (gName 7) (dSeq (dAsgN 10 (dMeth W.House "beginning" (sp_House_beginning W) [] (dVar 6) dNil)) (dSeq (dIf (dOr (dB (dOp oNe (dView 10) (dVar 4))) (dOr (dB (dOp oNe (dMethB W.House "base" (sp_House_base W) [] (dVar 6) dNil) (dVar 3))) (dB (dOp oNe (dMethB W.House "reach" (sp_House_reach W) [] (dVar 6) dNil) (dOp oSub (dCB bSum (dCons (dVar 4) dNil)) (dCB bLen (dCons (dVar 4) dNil))))))) (dSeq (dRet (dC (.bl false))) dNext) dNext) (dSeq (dIf (dB (dOp oNe (dMethB W.House "folk" (sp_House_folk W) [] (dVar 6) dNil) (dCB bSum (dCons (dVar 4) dNil)))) (dSeq (dRet (dC (.bl false))) dNext) dNext) (dSeq (dApp 10 (dC (.int 1))) (dSeq (dFrz 10) dNext)))))) (dSeq (dParM [(11, false), (12, true)] (dCons (dCall (spNoE (sp_House_initE W)) [] (dCons (dVar 3) (dCons (dCB bTuple (dCons (dVar 4) dNil)) dNil))) (dCons (dCB bList (dCons (dVar 4) dNil)) dNil))) (dSeq (dAsg (dCallO sp__law_draw [] (dCons (dVar 1) (dCons (dCB bLen (dCons (dVar 4) dNil)) dNil))) (gName 8)) (dSeq (dSet 12 (dVar 8) (dOp oAdd (dOp oIx (dView 12) (dVar 8)) (dC (.int 1)))) (dSeq (dFrz 12) (dSeq (dIf (dOr (dNot (dB (dEqHL W.House (sp_House___eq__ W) (dVar 6) (dVar 11)))) (dOr (dB (dNeH W.House (sp_House___eq__ W) (dVar 6) (dVar 11))) (dOr (dB (dEqHL W.House (sp_House___eq__ W) (dVar 6) (dCall (spNoE (sp_House_initE W)) [] (dCons (dVar 3) (dCons (dVar 12) dNil))))) (dB (dEqHL W.House (sp_House___eq__ W) (dVar 6) (dVar 4)))))) (dSeq (dRet (dC (.bl false))) dNext) dNext) (dSeq (dAsg (dOp oIx (dLst (dCons (dC (.int 0)) (dCons (dC (.int 1)) (dCons (dC (.int 31)) (dCons (dC (.bl true)) (dCons (dC .non) (dCons (dC (.str "3")) (dCons (dUn oNeg (dC (.int 2))) (dCons (dTup (dCons (dC (.int 3)) dNil)) dNil))))))))) (dCallO sp__law_draw [] (dCons (dVar 1) (dCons (dC (.int 8)) dNil)))) (gName 9)) (dSeq (dIf (dOr (dB (dOp oNe (dCallO (sp__law_refused W) [] (dCons (dVar 9) (dCons (dVar 4) dNil))) (dC (.str "k")))) (dB (dOp oNe (dCallO (sp__law_refused W) [] (dCons (dVar 9) (dCons (dC .non) dNil))) (dC (.str "k"))))) (dSeq (dRet (dC (.bl false))) dNext) dNext) (dSeq (dIf (dB (dOp oNe (dCallO (sp__law_refused W) [] (dCons (dVar 3) (dCons (dCallO sp__law_bent_2 [] (dCons (dVar 1) (dCons (dVar 4) dNil))) dNil))) (dC (.str "beginning")))) (dSeq (dRet (dC (.bl false))) dNext) dNext) dNext)))))))))) DD [.val (.scr ns), .val .pen, s2, .val (.int b), .val (.lst (bs.map .int)), s5, .val (hD W b bs), s7, s8, s9, s10, s11, s12] m := by
  have hl := hh.len
  have b2 := hh.b2
  have b30 := hh.b30
  conv => whnf
  refine ⟨by omega, ?_⟩
  conv => whnf
  refine ⟨fun i e m' => m' = m ∧ ∃ s7 s10 : Sl, (∀ d, s10 ≠ .own d) ∧ e = [.val (.scr ns), .val .pen, s2, .val (.int b), .val (.lst (bs.map .int)), s5, .val (hD W b bs), s7, s8, s9, s10, s11, s12], ⟨rfl, _, _, h10, rfl⟩, fun i x e m' hx hI => ?_, fun e m' hI => ?_⟩
  · obtain ⟨rfl, s7, s10, h10, rfl⟩ := hI
    obtain ⟨hi, rfl⟩ := rng_get hx
    conv => whnf
    refine ⟨rfl, ?_⟩
    conv => whnf
    refine ⟨rfl, ?_⟩
    conv => whnf
    refine ⟨b, bs, rfl, ?_⟩
    conv => whnf
    refine ⟨eqok_ints bs bs, ?_⟩
    rw [deq_ints, decide_eq_true (rfl : bs = bs)]
    conv => whnf
    refine ⟨rfl, ?_⟩
    conv => whnf
    refine ⟨rfl, ?_⟩
    conv => whnf
    refine ⟨b, bs, rfl, ?_⟩
    conv => whnf
    rw [decide_eq_true (rfl : b = b)]
    conv => whnf
    refine ⟨rfl, ?_⟩
    conv => whnf
    refine ⟨rfl, ?_⟩
    conv => whnf
    refine ⟨b, bs, rfl, hh, ?_⟩
    conv => whnf
    refine ⟨_, ints_map bs, ?_⟩
    conv => whnf
    rw [List.length_map, decide_eq_true (Re_sum bs).symm]
    conv => whnf
    refine ⟨rfl, ?_⟩
    conv => whnf
    refine ⟨rfl, ?_⟩
    conv => whnf
    refine ⟨b, bs, rfl, ?_⟩
    conv => whnf
    refine ⟨_, ints_map bs, ?_⟩
    conv => whnf
    rw [decide_eq_true (rfl : bs.sum = bs.sum)]
    conv => whnf
    refine ⟨by rw [List.length_map]; unfold zLen; omega, ?_⟩
    conv => whnf
    conv => whnf
    exact ⟨rfl, .val _, .val _, (fun d z => by cases z), rfl⟩
  · obtain ⟨rfl, s7, s10, h10, rfl⟩ := hI
    conv => whnf
    refine ⟨_, _, rfl, ⟨_, rfl⟩, by simp [nopens, nopen, nopens_ints], .inr ⟨b, rfl, hh.b2, hh.b30, .inr ⟨bs, hh, .inr (.inl rfl), ?_⟩⟩⟩
    conv => whnf
    rw [List.length_map]
    have pmb := pkb pm
    refine ⟨_, _, rfl, by first | omega | decide, (sm64 (by first | omega | decide) (by first | omega | decide)).mono (by decide), pmb, by omega, fun z t1 z0 z1 pt1 => ?_⟩
    conv => whnf
    obtain ⟨v, ev, hv⟩ : ∃ v : Int, atI (bs.map D.int) z = some (.int v) ∧ bs[z.toNat]? = some v := by
      have hz : z.toNat < bs.length := by omega
      refine ⟨bs[z.toNat], ?_, by simp [hz]⟩
      unfold atI
      rw [if_pos z0, if_pos (by rw [List.length_map]; exact z1), List.getElem?_map, List.getElem?_eq_getElem hz]
      rfl
    refine ⟨_, ev, ?_⟩
    conv => whnf
    have hz : z.toNat < bs.length := by omega
    refine ⟨z.toNat, by unfold ixN; rw [List.length_map, if_pos z0, if_pos z1], ?_⟩
    conv => whnf
    have ec : (bs.map D.int).set z.toNat (.int (v + 1)) = (bs.set z.toNat (v + 1)).map D.int := by rw [List.map_set]
    rw [ec]
    have hcs : Hou b (bs.set z.toNat (v + 1)) := ⟨b2, b30, by rw [List.length_set]; exact hl, fun y hy => by
      rcases List.mem_or_eq_of_mem_set hy with h | h
      · exact hh.pos y h
      · have := hh.pos v (List.mem_of_getElem? hv)
        omega⟩
    have hne : bs ≠ bs.set z.toNat (v + 1) := fun e => by
      have : (bs.set z.toNat (v + 1))[z.toNat]? = some (v + 1) := by rw [List.getElem?_set_self hz]
      rw [← e, hv] at this
      have := Option.some.inj this
      omega
    generalize bs.set z.toNat (v + 1) = cs at hcs hne ⊢
    refine ⟨rfl, rfl, b, bs, _, rfl, .inl ⟨b, bs, rfl, ?_⟩⟩
    rw [decide_eq_true (⟨rfl, rfl⟩ : b = b ∧ bs = bs)]
    conv => whnf
    refine ⟨rfl, rfl, b, bs, _, rfl, .inl ⟨b, bs, rfl, ?_⟩⟩
    rw [decide_eq_true (⟨rfl, rfl⟩ : b = b ∧ bs = bs)]
    conv => whnf
    refine ⟨_, _, rfl, ⟨_, rfl⟩, by simp [nopens, nopen, nopens_ints], .inr ⟨b, rfl, hh.b2, hh.b30, .inr ⟨cs, hcs, .inl rfl, ?_⟩⟩⟩
    conv => whnf
    refine ⟨rfl, rfl, b, bs, _, rfl, .inl ⟨b, cs, rfl, ?_⟩⟩
    rw [decide_eq_false (fun h : b = b ∧ bs = cs => hne h.2)]
    conv => whnf
    refine ⟨rfl, b, bs, _, rfl, .inr ⟨_, rfl, ?_⟩⟩
    conv => whnf
    have p1 := pkb (pkw pt1 m'.obs)
    refine ⟨_, _, rfl, by first | omega | decide, (sm64 (by first | omega | decide) (by first | omega | decide)).mono (by decide), p1, by omega, fun u t2 u0 u1 pt2 => ?_⟩
    conv => whnf
    obtain ⟨o, eo, o1, o2, o3⟩ := odd8 u0 u1
    refine ⟨o, eo, ?_⟩
    conv => whnf
    refine ⟨_, _, rfl, o1, by simp [nopens, o3, nopen, nopens_ints], .inl ⟨o2, ?_⟩⟩
    conv => whnf
    refine ⟨⟨by decide +kernel, by decide +kernel, by decide, by decide⟩, ?_⟩
    conv => whnf
    refine ⟨_, _, rfl, o1, by simp [nopens, o3, nopen], .inl ⟨o2, ?_⟩⟩
    conv => whnf
    refine ⟨⟨by decide +kernel, by decide +kernel, by decide, by decide⟩, ?_⟩
    conv => whnf
    refine ⟨b, bs, _, rfl, hh, pkb (pkw pt2 _), by omega, fun y t3 hy pt3 => ?_⟩
    conv => whnf
    refine ⟨_, _, rfl, ⟨_, rfl⟩, by simp [nopens, nopen, hy.2.2.2], .inr ⟨b, rfl, b2, b30, hy, ?_⟩⟩
    conv => whnf
    refine ⟨⟨by decide +kernel, by decide +kernel, by decide, by decide⟩, ?_⟩
    conv => whnf
    exact k _ _ _ _ _ _ _ _ _ _ _ _ ((pkw pt3 _).mono (by omega)) h10 (fun d z => by cases z) (fun d z => by cases z)
abbrev Nlaw : List Str := ["_law_script", "_law_pen_here", "_law_turn", "_law_base", "_law_begun", "_law_handed", "_law_house", "_law_rounds", "_law_at", "_law_other", "_law_told", "_law_twin", "_law_more"]
theorem law_run (W : Cl) (ns : List Int) (t : Ts) (hp : Pk 0 t) : d_law W (endsOf fun d _ => d = .bl true) ((start0 Nlaw [.scr ns]).set 1 (.val .pen)) t := by
  conv => whnf
  have hm : (if (ns.length : Int) < 11 then (ns.length : Int) else 11) ≤ 11 ∧ 0 ≤ (if (ns.length : Int) < 11 then (ns.length : Int) else 11) := by split <;> omega
  generalize (if (ns.length : Int) < 11 then (ns.length : Int) else 11) = mm at hm ⊢
  refine ⟨by omega, ?_⟩
  conv => whnf
  refine ⟨fun i e m => Pk (1000 * i) m ∧ ∃ s2 s3 s4 s5 s6 s7 s8 s9 s10 s11 s12 : Sl, (∀ d, s10 ≠ .own d) ∧ (∀ d, s11 ≠ .own d) ∧ (∀ d, s12 ≠ .own d) ∧ e = [.val (.scr ns), .val .pen, s2, s3, s4, s5, s6, s7, s8, s9, s10, s11, s12], ⟨by simpa using hp, _, _, _, _, _, _, _, _, _, _, _, by simp, by simp, by simp, rfl⟩, fun i x e m hx hI => ?_, fun e m hI => ?_⟩
  · obtain ⟨pm, s2, s3, s4, s5, s6, s7, s8, s9, s10, s11, s12, h10, h11, h12, rfl⟩ := hI
    obtain ⟨hi, rfl⟩ := rng_get hx
    have pmb := pkb pm
    conv => whnf
    refine ⟨_, _, rfl, by first | omega | decide, (sm64 (by first | omega | decide) (by first | omega | decide)).mono (by decide), pmb, by omega, fun x1 t1 x10 x11 pt1 => ?_⟩
    conv => whnf
    refine ⟨PowOk.s (by decide) (by decide) (by decide) (by decide), ?_⟩
    conv => whnf
    refine ⟨2 + x1, _, _, rfl, by omega, by omega, by decide, (sm64 (by decide) (by decide)).mono (by decide), pkb (pkw pt1 _), by omega, fun bs t2 hh hb pt2 => ?_⟩
    have hl := hh.len
    have pt2 := pkw pt2 (t1.wear m.obs).obs
    conv => whnf
    refine ⟨nopens_ints bs, fun A hA => ?_⟩
    conv => whnf
    have p2 := pkb (pkp pt2 A (.lst (bs.map .int)))
    refine ⟨_, _, rfl, by first | omega | decide, (sm64 (by first | omega | decide) (by first | omega | decide)).mono (by decide), p2, by omega, fun y t3 y0 y1 pt3 => ?_⟩
    conv => whnf
    have hy : y = 0 ∨ y = 1 := by omega
    have K1 : ∀ (s5 : Sl) (m1 : Ts), Pk (1000 * (i : Int) + 103) m1 → True := fun _ _ _ => trivial
    rcases hy with rfl | rfl
    · refine ⟨_, rfl, ?_⟩
      conv => whnf
      refine ⟨_, _, rfl, ⟨_, rfl⟩, rfl, .inr ⟨2 + x1, rfl, by omega, by omega, .inr ⟨bs, hh, .inr (.inr ⟨A, rfl, Ts.put_same ..⟩), ?_⟩⟩⟩
      conv => whnf
      refine ⟨.lst (bs.map .int), Ts.put_same .., ?_⟩
      conv => whnf
      refine ⟨bs.map .int, Ts.put_same .., ?_⟩
      conv => whnf
      refine ⟨bs.map .int, Ts.put_same .., ⟨by rw [List.length_map]; unfold zLen; omega, rfl⟩, ?_⟩
      refine k02_rest W ns (2 + x1) bs (1000 * i + 104) _ _ _ _ _ _ _ _ _ _ h10 h11 h12 hh (fun y hy => hb y hy) (pkp (pkp (pkd (pkw (pt3.mono (by omega)) _) _) _ _) _ _) (by omega) ?_
      intro m' s2 s3 s4 s5 s6 s7 s8 s9 s10 s11 s12 p z10 z11 z12
      exact ⟨p.mono (by omega), s2, s3, s4, s5, s6, s7, s8, s9, s10, s11, s12, z10, z11, z12, rfl⟩
    · refine ⟨_, rfl, ?_⟩
      conv => whnf
      refine ⟨_, _, rfl, ⟨_, rfl⟩, by simp [nopens, nopen, nopens_ints], .inr ⟨2 + x1, rfl, by omega, by omega, .inr ⟨bs, hh, .inr (.inl rfl), ?_⟩⟩⟩
      refine k02_rest W ns (2 + x1) bs (1000 * i + 104) _ _ _ _ _ _ _ _ _ _ h10 h11 h12 hh (fun y hy => hb y hy) (pkw (pt3.mono (by omega)) _) (by omega) ?_
      intro m' s2 s3 s4 s5 s6 s7 s8 s9 s10 s11 s12 p z10 z11 z12
      exact ⟨p.mono (by omega), s2, s3, s4, s5, s6, s7, s8, s9, s10, s11, s12, z10, z11, z12, rfl⟩
  · obtain ⟨pm, s2, s3, s4, s5, s6, s7, s8, s9, s10, s11, s12, h10, h11, h12, rfl⟩ := hI
    conv => whnf
theorem d_law_ok (W : Cl) (ns : List Int) (hl : ns.length ≤ 63) : (dCall sp__law_pen [] (dCons (dVar 0) dNil)) (start0 Nlaw [.scr ns]) ⟨[], 0, 0, false, noObs⟩ (fun d _ => ∃ cs : List Int, d = .dic (if false = true then [.inr "cells", .inr "turn", .inr "rest"] else [.inr "cells", .inr "at", .inr "left"]) [.lst (cs.map .int), .int 0, .int 0] ∧ cs.length ≤ 63 ∧ d_law W (endsOf fun d _ => d = .bl true) ((start0 Nlaw [.scr ns]).set 1 (.val .pen)) ⟨cs, 0, 0, false, noObs⟩) :=
  ⟨ns, rfl, hl, fun cs hc => ⟨cs, rfl, hc, law_run W ns _ (Pk.zero hc)⟩⟩
end Q
/-! QX1 -/
namespace Q
open PySem L2 PySem.Spec PyProof.Rows
end Q
/-! QX2 -/
namespace Q
open PySem L2 PySem.Spec PyProof.Rows
theorem Cf.slots {K : PySem.W.Frag} {B : Bs} {F : Hp} {pa : Option Addr} {t : Ts} {env env' : En} {σ σ' : L2.St} {H : Hp} (C : Cf K B F pa t env σ H) (hl : env'.length = σ'.length) (h : ∀ (k : Nat) (s : Sl), env'[k]? = some s → s ≠ Sl.no → env[k]? = some s ∧ σ'[k]? = σ[k]?) : Cf K B F pa t env' σ' H :=
  ⟨hl, C.sub, C.bas, C.frm, C.new, C.exl, fun i d e => by
    obtain ⟨h1, h2⟩ := h i _ e (by simp)
    rw [h2]; exact C.val i d h1,
  fun i d e => by
    obtain ⟨h1, h2⟩ := h i _ e (by simp)
    rw [h2]; exact C.own i d h1,
  fun i j d e a q1 q2 s1 s2 => by
    obtain ⟨h1, h2⟩ := h i _ q1 (by simp)
    obtain ⟨h3, h4⟩ := h j _ q2 (by simp)
    rw [h2] at s1
    rw [h4] at s2
    exact C.sep i j d e a h1 h3 s1 s2, C.pen, C.pnn, C.tab, C.ntb, C.obs, C.obx, fun i d a e s => by
    obtain ⟨h1, h2⟩ := h i _ e (by simp)
    rw [h2] at s
    exact C.osp i d a h1 s⟩
end Q
/-! QX15 -/
namespace Q
open PySem L2 PySem.Spec PyProof.Rows
structure FxB (B newId initId : String) (tl : List Value) : Prop where
  base : PySem.ExcBaseFacts B newId initId tl
  pass : ∀ self : Value, refuseLoop self "__setattr__" tl = pure ()
  obj : tl.contains (.type "object") = true
  ne : tl.isEmpty = false
structure FxC (K : PySem.W.Frag) (C : Addr) (newId : String) (tl : List Value) : Prop where
  cls : ∃ nm q N bs sn sub ab col dd k0 k1 k2 k3 k5, K.lookup C = some (excClassObj nm q C N bs tl true sn sub ab col dd k0 k1 k2 k3 k5 newId)
  sa : PySem.W.findIn K (.ref C) "__setattr__" = some (some (.builtin "object.__setattr__"))
  exC : PySem.W.subIn K (.ref C) (.type "BaseException") = some true
  tyC : PySem.W.typeIn K (.ref C) = some (.type "type")
  kC : PySem.W.keepIn K (.ref C) = true
end Q
namespace PySem
namespace HandSPX
open PySem.W PySem.Calls PyProof.Rows Builtin Builtin.ObjectAttr
end HandSPX
end PySem
namespace Q
open PySem L2 PySem.Spec PyProof.Rows
def tFxI (K : PySem.W.Frag) (newId : String) (tl : List Value) (ta : TA) : TE := fun σ H Q => ta σ H fun vs H1 => ∃ (a C : Addr) (ws : List V), vs = .ref a :: ws ∧ ws.length ≤ 1000 ∧ FxC K C newId tl ∧ H1 a = some (exo a C none) ∧ Q .non H1
def tFst (K : PySem.W.Frag) (newId : String) (tl : List Value) (f : Str) (to te : TE) : TS := fun D σ H => te σ H fun y H1 => to σ H1 fun x H2 => ∃ a C : Addr, x = .ref a ∧ FxC K C newId tl ∧ PySem.W.findIn K (.ref C) f = some none ∧
  H2 a = some (exo a C none) ∧ ∀ dx, H2 dx = none → dx ≠ a → D.nx σ (upd (upd H2 dx (exd dx [(f, y)])) a (exo a C (some dx)))
def spFx (K : PySem.W.Frag) (newId : String) (tl : List Value) (f : Str) : Sp := fun vs H Q _ => ∃ (a C : Addr) (y : V), vs = [.ref a, y] ∧ FxC K C newId tl ∧ PySem.W.findIn K (.ref C) f = some none ∧ H a = some (exo a C none) ∧
  ∀ dx, H dx = none → dx ≠ a → Q .non (upd (upd H dx (exd dx [(f, y)])) a (exo a C (some dx)))
section
variable {P : Program} {w : World} {K : PySem.W.Frag} {mg : Str → Option Value} {base : Heap}
theorem fn_fx {x qual m f par : Str} {tl : List Value} {nI : String} {st : Stmt} {fa : Addr} {fd : FuncData} (Fu : Fun K x qual st fa fd) (S : FnScope ["self", par] ["self", par] (defScope st))
    (hb : ∀ (cdv : Value) (A : Around) (outer : List PySem.Env) (s : Shared) (H : Hp) (E : XK), PSs (cxOf CX0 P w K mg base ["self", par] qual (defScope st) fa cdv A outer s H E).nox (defBody st) (tSeq (tDrop (tFxI K nI tl (tCons (tVar 0) (tCons (tC (.str m)) tNil)))) (tFst K nI tl f (tVar 0) (tVar 1)))) : FnOk P w K mg base CX0 1 fa fd ["self", par] (spFx K nI tl f) := by
  refine Fu.ok S (fun vs H Q E h => ?_) (fun cdv A outer s H vs Q E hr h => ?_)
  · obtain ⟨a, C, y, rfl, _⟩ := h
    rfl
  · obtain ⟨a, C, y, rfl, T, hn, e, q⟩ := h
    refine ⟨_, hb cdv A outer s H E, .ref a, rfl, ⟨a, C, [.str m], rfl, (by show 1 ≤ 1000; omega), T, e, ?_⟩⟩
    exact ⟨y, rfl, .ref a, rfl, a, C, rfl, T, hn, e, fun dx n ne => q dx n ne⟩
end
theorem fx_heap {H : Hp} {a dx : Addr} {e1 e2 e3 o : HO} (ha : H a = none) (hne : dx ≠ a) : upd (del (upd (upd (upd H a e1) dx e2) a e3) a) dx o = upd H dx o := by
  funext b
  by_cases hb : b = dx
  · rw [hb, upd_same, upd_same]
  · rw [upd_ne hb, upd_ne hb]
    by_cases hc : b = a
    · rw [hc, del_same, ha]
    · rw [del_ne hc, upd_ne hc, upd_ne hb, upd_ne hc]
end Q
/-! QX16 -/
namespace Q
open PySem L2 PySem.Spec PyProof.Rows
theorem pe_xfT {X : Cx} {a C : Addr} {oe : Obj} {cls : Value} {d : Option Addr} {e : Expr} {te : TE} {pos : Pos} {n : Str} (T : XfC X.K C) (hno : PySem.W.findIn X.K (.ref C) n = some none)
    (hz : Zc cls d oe) (hf : ∃ vs, oe.data = .fields vs) (hm : (a, oe) ∈ X.pn) (he : PE X e te) (hb : attributeBase e n X.env (eval e X.env) = eval e X.env := by rfl) :
    PE X (.Attribute e n pos) (tXf a cls d C n te) := by
  refine ⟨fun pins s σ H Q I h => ?_⟩
  refine attr_of hb (thn (he.run pins s σ H _ I h) fun u s1 hh => ?_)
  obtain ⟨x, H1, I1, rx, ex, ec, dd, fs, v, ed, ea, l, q⟩ := hh
  subst ex
  obtain rfl : u = Value.ref a := rx
  subst ec
  subst ed
  obtain ⟨ha, _⟩ := I1.pin (a, oe) (List.mem_append_left _ hm)
  obtain ⟨vs, hd⟩ := hf
  have hx : ObjOk X.prog X.w H1 s1.heap dd (.xd fs) := I1.hok dd _ ea
  obtain ⟨mA, hns, hr⟩ := hx
  obtain ⟨od, ho, hl⟩ := lookIn_ns hns
  obtain ⟨u, hu, ru⟩ := RelO.some_of (v := v) (o := mA n) (by rw [← l]; exact hr n)
  have J : PySem.W.InstAt s1.heap a oe C (some od) := ⟨ha, hz.1, by unfold PySem.W.notCls; rw [hd] <;> rfl, by rw [hz.2]; exact ho⟩
  exact HandSPX.exc_get I1.kIn J T.ga T.gg T.exC (PySem.W.findObj_own T.hdC hno rfl (by rw [hl, hu])) (handed_of ru) ⟨v, H1, I1.tok _, ru, q⟩
def rIsF (K : PySem.W.Frag) (D a dd : Addr) : List V → Hp → VK → Prop := fun xs H Q => ∃ (c : V) (cv : Value) (b : Bool) (fs : List (Str × V)), xs = [.ref a, c] ∧ (∀ u, RelV c u → u = cv) ∧ PySem.W.kitOne K (.ref D) cv = some b ∧ H dd = some (.xd fs) ∧ Q (.bl b) H
theorem call_isF {X : Cx} {a D dd : Addr} {oe : Obj} (C : ExcC X.K D) (hz : Zc (.ref D) (some dd) oe) (hf : ∃ vs, oe.data = .fields vs) (hm : (a, oe) ∈ X.pn) : CallR X (.builtin "isinstance") (rIsF X.K D a dd) := by
  intro pins s σ H xs us Q I r h
  obtain ⟨c, cv, b, fs, rfl, hcv, e, ea, q⟩ := h
  cases r with
  | cons rx rr =>
    cases rr with
    | cons rt rr =>
      cases rr
      cases rx
      have ec := hcv _ rt
      subst ec
      obtain ⟨hget, _⟩ := I.pin (a, oe) (List.mem_append.mpr (.inl hm))
      obtain ⟨vs, hv⟩ := hf
      have hx : ObjOk X.prog X.w H s.heap dd (.xd fs) := I.hok dd _ ea
      obtain ⟨mA, hns, hr⟩ := hx
      obtain ⟨od, ho, hl⟩ := lookIn_ns hns
      have J : PySem.W.InstAt s.heap a oe D (some od) := ⟨hget, hz.1, by unfold PySem.W.notCls; rw [hv] <;> rfl, by rw [hz.2]; exact ho⟩
      exact PySem.W.kia_one (PySem.W.kitx_exc (by obtain ⟨cd, hc, _⟩ := PySem.W.any_some C.hd; rw [hc]; rfl) C.hg C.hk C.hs C.ha C.hn C.ht C.hm) I.kIn J e (fun z => nomatch z) fun tk => ⟨.bl b, H, I.kept (t' := tk) fun _ _ z => z, rfl, q⟩
theorem kit_T {K : PySem.W.Frag} {C : Addr} {T : String} (km : PySem.W.kitMeta T = true) (h : PySem.W.subIn K (.ref C) (.type T) = some true) : PySem.W.kitOne K (.ref C) (.type T) = some true := by
  show (if (Value.ref C == Value.type T) = true then some true else (if PySem.W.kitMeta T = true then PySem.W.subIn K (.ref C) (.type T) else none)) = some true
  rw [if_pos km, h]
  split <;> rfl
theorem pe_nvr {X : Cx} {e : Expr} : PE X e (fun _ _ _ => False) := ⟨fun _ _ _ _ _ _ h => h.elim⟩
end Q
/-! QX17 -/
namespace Q
open PySem L2 PySem.Spec PyProof.Rows LamX
end Q
/-! QX18 -/
namespace Q
open PySem L2 PySem.Spec PyProof.Rows LamX
end Q
/-! QX19 -/
namespace Q
open PySem L2 PySem.Spec PyProof.Rows LamX
structure TabOf (B : Bs) (P : Addr) (q : Str) : Prop where
  m : (P, q) ∈ B.T
  x : P ∈ B.ex
  u : ∀ p ∈ B.T, p.1 = P → p.2 = q
def TabAt (K : PySem.W.Frag) (fb : Addr) (h : Heap) : Prop := ∀ (c P : Addr) (o : Obj) (fd : FuncData) (e : Value) (dd : Option Addr) (vs : Array Value) (sl : Array (Option Value)), K.lookup fb = some o → o.data = .func fd → fd.code = .ref c → K.lookup c = some ⟨e, dd, .fields vs, sl⟩ → vs[11]? = some (.ref P) →
  h.get? P = some { cls := .none, data := .fields #[] }
theorem codeTab_ex {K : PySem.W.Frag} {c P : Addr} (e : PySem.W.codeHdIn K c P = true) : ∃ (cl : Value) (dd : Option Addr) (vs : Array Value) (sl : Array (Option Value)), K.lookup c = some ⟨cl, dd, .fields vs, sl⟩ ∧ vs[11]? = some (.ref P) := by
  unfold PySem.W.codeHdIn at e
  split at e
  · rename_i vs sl hk
    refine ⟨_, _, vs, sl, hk, ?_⟩
    simp only [Bool.and_eq_true] at e
    obtain ⟨⟨⟨⟨⟨e1, _⟩, _⟩, _⟩, _⟩, _⟩ := e
    split at e1
    · rename_i P' h
      rw [h, beq_iff_eq.mp e1]
    · cases e1
  · cases e
theorem TabAt.at {K : PySem.W.Frag} {fb c P : Addr} {h : Heap} {fd : FuncData} {oc : Value} {od : Option Addr} {osl : Array (Option Value)} (t : TabAt K fb h) (lk : K.lookup fb = some ⟨oc, od, .func fd, osl⟩) (hc : fd.code = .ref c) (e : PySem.W.codeHdIn K c P = true) : h.get? P = some { cls := .none, data := .fields #[] } := by
  obtain ⟨cl, dd, vs, sl, e1, e2⟩ := codeTab_ex e
  exact t c P _ fd cl dd vs sl lk rfl hc e1 e2
end Q
/-! QX20 -/
namespace Q
open PySem L2 PySem.Spec PyProof.Rows LamX
end Q
/-! QX21 -/
namespace Q
open PySem L2 PySem.Spec PyProof.Rows LamX
section
variable {K : PySem.W.Frag} {B : Bs} {F : Hp} {pa : Option Addr} {t : Ts} {env : En} {σ : L2.St} {H : Hp} {Pt : Addr} {q0 : Str}
theorem TabOf.nt (T : TabOf B Pt q0) (C : Cf K B F pa t env σ H) : F Pt = none ∧ ∃ ps, H Pt = some (.tbl ps) ∧ TriplesOk ps.toList ∧ ∀ (pos : Pos) (cv : Value), codeAmong pos ps.toList = some cv → ∃ c, cv = .ref c ∧ F c = some (CodeO c q0) := (C.tab _ T.m).2
end
end Q
/-! QX22 -/
namespace Q
open PySem L2 PyProof.Rows
end Q
/-! QX23 -/
namespace Q
open PySem L2 PyProof.Rows
end Q
/-! QX25 -/
namespace Q
open PySem L2 PySem.Spec PyProof.Rows LamX
end Q
/-! QO1 -/
namespace L2
open PySem PySem.Spec PyProof.Rows
end L2
namespace Q
open PySem L2 PyProof.Rows
section
variable {K : PySem.W.Frag} {B : Bs} {F : Hp} {pa : Option Addr} {t : Ts} {env : En} {σ : L2.St} {H : Hp}
theorem Cf.reg (C : Cf K B F pa t env σ H) {p : Addr} {h : HO} {d : D} (n : Nw B F pa t env σ p) (e : H p = some h) (r : RelO1 K F pa d h) (np : nopen d = true) : Cf K B F pa (t.put p d) env σ H :=
  ⟨C.len, C.sub, C.bas, C.frm, C.new, C.exl, C.val, C.own, C.sep, C.pen, C.pnn, C.tab, C.ntb, fun a d' q => by
    by_cases ha : a = p
    · subst ha
      rw [Ts.put_same] at q
      cases q
      exact ⟨n.f, ⟨h, e, r⟩, n.a, .inr n.b, np⟩
    · rw [Ts.put_ne _ _ ha] at q
      exact C.obs a d' q, fun a z => by
    by_cases ha : a = p
    · exact ⟨d, by rw [ha]; exact Ts.put_same ..⟩
    · obtain ⟨d', q⟩ := C.obx a z
      exact ⟨d', by rw [Ts.put_ne _ _ ha]; exact q⟩, fun i d' a q s => by
    by_cases ha : a = p
    · subst ha
      exact absurd s (n.s i d' q)
    · rw [Ts.put_ne _ _ ha]; exact C.osp i d' a q s⟩
theorem Cf.wrOb (C : Cf K B F pa t env σ H) {a : Addr} {d0 d : D} {h : HO} (q0 : t.obs a = some d0) (r : RelO1 K F pa d h) (np : nopen d = true) : Cf K B F pa (t.put a d) env σ (upd H a h) := by
  obtain ⟨f0, ⟨h0, e0, r0⟩, p0, x0, _⟩ := C.obs a d0 q0
  have nb : ∀ {c : Addr} {u : HO}, F c = some u → c ≠ a := fun z => ne_of_none z f0
  refine ⟨C.len, fun c u q => by rw [upd_ne (nb q)]; exact C.sub c u q, C.bas, fun c u q hx hO => ?_, C.new, fun c hc => ?_, C.val, fun i d' q => ?_, C.sep, fun c q => ?_, C.pnn, C.tab.hs (fun p _ ps z => by rw [upd_ne (fun y => by rw [y, e0] at z; exact r0.ntb ps (Option.some.inj z))]; exact z), C.ntb, fun c d' q => ?_, fun c z => ?_, fun i d' c q s => ?_⟩
  · rw [upd_ne ?_]
    · exact C.frm c u q hx hO
    · rintro rfl
      rcases x0 with z | z
      · exact hO z
      · rw [z] at q; cases q
  · by_cases hc' : c = a
    · subst hc'; exact ⟨h, upd_same⟩
    · obtain ⟨u, q⟩ := C.exl c hc
      exact ⟨u, by rw [upd_ne hc']; exact q⟩
  · obtain ⟨c, u, h1, h2, h3, h4, h5, h6⟩ := C.own i d' q
    refine ⟨c, u, h1, ?_, h3, h4, h5, h6⟩
    rw [upd_ne ?_]
    · exact h2
    · rintro rfl
      rw [C.osp i d' c q h1] at q0; cases q0
  · obtain ⟨h1, ⟨u, h2, h3⟩, h4⟩ := C.pen c q
    exact ⟨h1, ⟨u, by rw [upd_ne (fun z => p0 (by rw [← z]; exact q))]; exact h2, h3⟩, h4⟩
  · by_cases hc : c = a
    · subst hc
      rw [Ts.put_same] at q
      cases q
      exact ⟨f0, ⟨h, upd_same, r⟩, p0, x0, np⟩
    · rw [Ts.put_ne _ _ hc] at q
      obtain ⟨h1, ⟨u, h2, h3⟩, h4⟩ := C.obs c d' q
      exact ⟨h1, ⟨u, by rw [upd_ne hc]; exact h2, h3⟩, h4⟩
  · by_cases hc : c = a
    · exact ⟨d, by rw [hc]; exact Ts.put_same ..⟩
    · obtain ⟨d', q⟩ := C.obx c z
      exact ⟨d', by rw [Ts.put_ne _ _ hc]; exact q⟩
  · by_cases hc : c = a
    · subst hc
      rw [C.osp i d' c q s] at q0; cases q0
    · rw [Ts.put_ne _ _ hc]; exact C.osp i d' c q s
theorem rel_adr {A : Addr} {v : V} (r : RelD K F pa (.adr A) v) : v = .ref A := by unfold RelD at r; exact r
theorem rD_adr (A : Addr) : RelD K F pa (.adr A) (.ref A) := by unfold RelD; rfl
theorem nopens_mem : ∀ {l : List D}, (∀ d ∈ l, nopen d = true) → nopens l = true
  | [], _ => rfl
  | d :: l, h => by
    simp only [nopens, Bool.and_eq_true]
    exact ⟨h d (List.mem_cons_self ..), nopens_mem fun x hx => h x (List.mem_cons_of_mem _ hx)⟩
theorem nopens_at : ∀ {l : List D}, nopens l = true → ∀ d ∈ l, nopen d = true
  | [], _, d, h => by simp at h
  | x :: l, h, d, hd => by
    simp only [nopens, Bool.and_eq_true] at h
    rcases List.mem_cons.mp hd with rfl | hd
    · exact h.1
    · exact nopens_at h.2 d hd
end
section
variable {K : PySem.W.Frag} {X : Cx} {B : Bs} {e o i' value : Expr} {es : List Expr} {da dk dz : DE} {as bs : DA} {pos pos' apos tpos p : Pos} {f m x : Str} {Cl : Addr}
variable {CX : CXT} {k : Nat} {fa : Addr} {fd : FuncData} {ps ks : List Str} {sp : PSp} {dvs : List V} {dds : List D} {ds : List Value} {E : XK} {kws : List Keyword} {ix : List Nat}
theorem ev_callO (hd : ∀ F pa, RelL K F pa dds dvs) : ∀ σ H Q, teOf K B (dCallO sp dds as) σ H Q → tCall (lift K sp) dvs E (taOf K B as) σ H Q := fun σ H Q ⟨F, pa, t, env, P, W, h, k⟩ =>
  ⟨F, pa, t, env, _, W, h, fun vs xs F1 pa1 t1 H1 g1 W1 r1 q1 => ⟨F1, pa1, t1.bare, xs ++ dds, _, W1.bare, r1.append (hd _ _), q1, fun v d F' pa' t' H' W' r' q' => by
    obtain ⟨g, W2⟩ := W1.wear W'
    exact k v d F' pa' _ H' (g1.trans g) W2 r' q'⟩⟩
theorem q_callO (F : FnOk X.prog X.w X.K X.mg X.base CX k fa fd ps (lift X.K sp)) (hr : Room k X.A) (hg : Gl X x) (hm : X.mg x = some (.ref fa)) (hk : PySem.W.keepIn X.K (.ref fa) = true) (hb : Binds X.K fd ps ds) (hd : Vals dvs ds) (hD : ∀ F pa, RelL X.K F pa dds dvs) (hx : Passes CX X E)
    (ha : QA X B (e :: es) as) (hdb : (x == ("__debug__" : Str)) = false := by decide) (he : starEach (e :: es) X.env = (false, eval e X.env) :: starEach es X.env := by rfl) (hpl : (backTo pos (starEach es X.env)).any (·.1) = false := by rfl) :
    QE X B (.Call (.Name x p) (e :: es) [] pos) (dCallO sp dds as) := PE.imp (pe_call F hr hg hm hk hb hd hx ha hdb he hpl) (ev_callO hD)
theorem ev_methB (hd : ∀ F pa, RelL K F pa dds dvs) : ∀ σ H Q, teOf K B (dMethB Cl m sp dds da as) σ H Q → tMeth Cl m (lift K sp) dvs E (teOf K B da) (taOf K B as) σ H Q := fun σ H Q ⟨F, pa, t, env, P, W, h, k⟩ =>
  ⟨F, pa, t, env, _, W, h, fun v x F1 pa1 t1 H1 g1 W1 r1 q1 => by
    cases x with
    | ins C' ns l =>
      obtain ⟨rfl, hn, q1⟩ := q1
      have r1' := r1
      unfold RelD at r1'
      obtain ⟨a, dx, us, rfl, e1, _, _⟩ := r1'
      refine ⟨a, dx, _, rfl, W1.sub _ _ e1, zip_none hn, F1, pa1, t1, env, _, W1, q1, fun vs xs F2 pa2 t2 H2 g2 W2 r2 q2 => ⟨F2, pa2, t2.bare, .ins C' ns l :: (xs ++ dds), _, W2.bare, RelL.cons (RelD.mono g2 _ _ r1) (r2.append (hd _ _)), q2, fun v d F' pa' t' H' W' r' q' => ?_⟩⟩
      obtain ⟨g, W3⟩ := W2.wear W'
      exact k v d F' pa' _ H' ((g1.trans g2).trans g) W3 r' q'
    | _ => exact q1.elim⟩
theorem q_methB0 {pl : Sem Bool} (he : QE X B o da) (c : Cls X.K Cl) (hm : Meth X.K Cl m fa) (F : FnOk X.prog X.w X.K X.mg X.base CX k fa fd ps (lift X.K sp)) (hr : Room k X.A) (hb : Binds X.K fd ps ds) (hd : Vals dvs ds) (hD : ∀ F pa, RelL X.K F pa dds dvs) (hx : Passes CX X E)
    (ht : eval (.Call (.Attribute o m apos) [] [] pos) X.env = (do
      let ov ← eval o X.env
      standAt apos.atName
      let (f, first) ← holding [ov] (getMethod ov m pl)
      callWith pos f first (backTo pos (starEach [] X.env)) (backToKw pos (keywordEach [] X.env))) := by rfl) :
    QE X B (.Call (.Attribute o m apos) [] [] pos) (dMethB Cl m sp dds da dNil) := PE.imp (pe_meth0 he c hm F hr hb hd hx ht) fun σ H Q h => by
  obtain ⟨F, pa, t, env, P, W, h1, h2⟩ := ev_methB (E := E) hD σ H Q h
  exact ⟨F, pa, t, env, _, W, h1, fun v d F' pa' t' H' g W' r q => by
    obtain ⟨a, dx, fs, e1, e2, e3, z⟩ := h2 v d F' pa' t' H' g W' r q
    refine ⟨a, dx, fs, e1, e2, e3, ?_⟩
    obtain ⟨F2, pa2, t2, env2, P2, W2, q2, k2⟩ := z
    exact k2 [] [] F2 pa2 t2 H' (Gr.refl _ _) W2 RelL.nil q2⟩
theorem q_reg (h : QN X B e da) : QE X B e (dReg da) := PE.imp h fun σ H Q ⟨F, pa, t, env, P, C, hd, k⟩ =>
  ⟨F, pa, t, env, _, C, hd, fun p h d F' pa' t' H' g C' n e r q => k (.ref p) (.adr p) F' pa' _ H' g (C'.reg n e r q.1) (rD_adr p) (q.2 p n.o)⟩
end
end Q
/-! QO2 -/
namespace Q
open PySem L2 PyProof.Rows
end Q
/-! QO3 -/
namespace Q
open PySem L2 PyProof.Rows
end Q
/-! QX3 -/
namespace Q
open PySem L2 PyProof.Rows
end Q
/-! QX4 -/
namespace Q
open PySem
open Sem (wp)
open L2 PyProof.Rows
end Q
/-! QX5 -/
namespace Q
open PySem L2 PyProof.Rows
end Q
/-! QO4 -/
namespace Q
open PySem PySem.Spec PyProof.Rows L2
end Q
namespace Q
open PySem L2 PySem.Spec PyProof.Rows LamX
end Q
/-! QX6 -/
namespace Q
open PySem L2 PyProof.Rows
end Q
/-! QX7 -/
namespace Q
open PySem L2 PyProof.Rows
end Q
/-! QX8 -/
namespace PySem.W
open PySem PyProof.Rows
section
variable {prog : Program} {w : World} {A : Around} {E : Value → Shared → Prop} {s : Shared} {K : Frag} {x C L f : Addr} {h₀ : Heap} {m : Str → Option Value} {ox : Obj} {od : Option Obj} {name : Str} {b tb : Value}
theorem ifBound_B {M : Model} {id : String} {args : List Value} {Q : Option Value → Shared → Prop} (X : K.In s.heap) (I : InstAt s.heap x ox C od) (hs : findIn K (.ref C) name = some (some (.builtin id))) (S : Slot "object" name id)
    (h : wpAny M A (call (.builtin id) (.ref x :: args)) (fun v => Q (some v)) E s) : wpAny M A (callSpecialIfBound? (.ref x) name args) Q E s := by
  simp only [callSpecialIfBound?, bindSpecialIfBound?]
  refine wpAny_holding (wpAny_bind (wpAny_bind (wpAny_bind (I.type.here ((looks_findIn X hs).here ?_)))))
  refine wpAny_bind (wpAny_askSetting (wpAny_ite ?_))
  have fin : wpAny M A (call (.builtin id) ([.ref x] ++ args) >>= fun v => pure (some v)) Q E s := wpAny_bind (wpAny_mono h (fun v s' h' => wpAny_pure h') fun _ _ h' => h')
  simp only [S.bind]
  split
  · exact wpAny_bind (wpAny_pure (wpAny_pure fin))
  · exact wpAny_tryCatch (wpAny_bind (wpAny_pure (wpAny_pure fin)))
theorem objNe_K {Q : Fin → Shared → Prop} (X : K.In s.heap) (I : InstAt s.heap x ox C od) (he : findIn K (.ref C) "__eq__" = some (some (.ref f))) (hf : isFn K (.ref f) = true) (hu : A.units < cLine)
    (hcall : wpAny (model prog w) A (call (.ref f) [.ref x, b]) (fun v s' => ∃ c, v = .bool c ∧ Q (.done (.ret (.bool (!c)))) s') E s) :
    wpAny (model prog w) A (Builtin.«object.__ne__» ⟨[.ref x, b], []⟩) Q E s := by
  unfold Builtin.«object.__ne__»
  repeat (first
    | with_reducible refine wpAny_cRoomFor hu ?_
    | (refine wpAny_bind (m := callSpecialIfBound? (.ref x) (Str.ofString "__eq__") [b])
        (ifBound_K X I he hf (wpAny_mono hcall (fun r s' hr => by
          obtain ⟨b, rfl, hq⟩ := hr
          repeat (first | exact hq | exact wpAny_pure hq | exact wpAny_truthy_bool hq | (refine wpAny_bind (m := truthy (.bool _)) (wpAny_truthy_bool ?_)) | wp_step)) fun _ _ e => e)))
    | wp_step)
theorem cmp_ne_K {Q : Value → Shared → Prop} (hu : A.units + 1 < cLine) (F : Fr h₀ L s.heap m) (X₀ : K.In h₀) (I : InstAt s.heap x ox C od) (hb : Looks (model prog w) s.heap (typeOf b) tb) (hn : notFirst K C tb = true)
    (hs : findIn K (.ref C) "__ne__" = some (some (.builtin "object.__ne__"))) (ho : mroIn K C (.type "object") = some true) (he : findIn K (.ref C) "__eq__" = some (some (.ref f))) (hf : isFn K (.ref f) = true)
    (h : wpAny (model prog w) A.in1 (call (.ref f) [.ref x, b]) (fun v s' => ∃ c, v = .bool c ∧ Q (.bool (!c)) s') E s) : wpAny (model prog w) A (richCompare .NotEq (.ref x) b) Q E s := by
  have X := X₀.keeps F.keep
  have one : wpAny (model prog w) A (tryCompare (.ref x) (cmpInfo .NotEq).2.1 b) (fun r s' => ∃ v, r = some v ∧ Q v s') E s := by
    unfold tryCompare
    refine wpAny_bind (ifBound_B X I hs PySem.F.cmp_object.ne (wpAny_call (codeAny_call_builtin PySem.F.cmp_object.ne.plain PySem.F.cmpEntry_ne
      (check_slot PySem.F.cmpKind_ne PySem.F.cmpSplit_ne ?_ (PySem.F.cmpArgs_ne _ _) (objNe_K (A := A.in1) X I he hf hu (wpAny_mono h (fun v s' hv => ?_) fun _ _ e => e))))))
    · exact I.type.andThen (looks_subIn (t := .ref C) X ho)
    · obtain ⟨c, rfl, hq⟩ := hv
      first | exact ⟨c, rfl, wpAny_pure ⟨_, rfl, hq⟩⟩ | exact ⟨c, rfl, wpAny_pure (wpAny_pure ⟨_, rfl, hq⟩)⟩ | exact ⟨c, rfl, _, rfl, hq⟩
  unfold richCompare
  simp only [oneThing_ref]
  refine wpAny_holding (wpAny_bind (wpAny_cRoomFor (Nat.lt_of_succ_lt hu) ?_))
  refine wpAny_bind (I.type.here (wpAny_bind (hb.here ?_)))
  split
  · rename_i q
    have e : subIn K tb (.ref C) = some false := by
      rcases Bool.or_eq_true_iff.mp hn with e | e
      · rw [beq_iff_eq.mp e] at q; simp at q
      · exact beq_iff_eq.mp e
    refine wpAny_bind ((looks_subIn X e).here ?_)
    simp only [Bool.false_eq_true, if_false]
    refine wpAny_bind (wpAny_mono one (fun r s' z => ?_) fun _ _ e => e)
    obtain ⟨v, rfl, hq⟩ := z
    exact wpAny_pure hq
  · refine wpAny_bind (wpAny_pure ?_)
    simp only [Bool.false_eq_true, if_false]
    refine wpAny_bind (wpAny_mono one (fun r s' z => ?_) fun _ _ e => e)
    obtain ⟨v, rfl, hq⟩ := z
    exact wpAny_pure hq
end
end PySem.W
namespace Q
open PySem L2 PyProof.Rows
structure NeM (K : PySem.W.Frag) (C : Addr) : Prop where
  ne : PySem.W.findIn K (.ref C) "__ne__" = some (some (.builtin "object.__ne__"))
  ob : PySem.W.mroIn K C (.type "object") = some true
section
variable {X : Cx} {CX : CXT} {B : Bs} {K : PySem.W.Frag} {k : Nat} {f C : Addr} {fd : FuncData} {ps : List Str} {E : XK} {a b : Expr} {da db : DE} {pos : Pos}
def rNeI (C : Addr) (sp : Sp) (E : XK) : R2 := fun x y H Q => ∃ a b dx dy fs gs, x = V.ref a ∧ y = V.ref b ∧ H a = some (HO.ins C dx fs) ∧ H b = some (HO.ins C dy gs) ∧ sp [x, y] H (fun v H' => ∃ c, v = V.bl c ∧ Q (.bl (!c)) H') E
theorem op_neI {sp : Sp} (F : FnOk X.prog X.w X.K X.mg X.base CX k f fd ps sp) (hr : Room (k + 1) X.A) (m : Meth X.K C "__eq__" f) (nm : NeM X.K C) (hb : Binds X.K fd ps []) (hx : Passes CX X E) : OpR X (compareOp .NotEq) (rNeI C sp E) := by
  intro pins s σ H x y v u Q I rx ry h
  obtain ⟨p, q, dx, dy, fs, gs, rfl, rfl, h1, h2, h⟩ := h
  obtain rfl : v = Value.ref p := rx
  obtain rfl : u = Value.ref q := ry
  obtain ⟨_, J1, _⟩ := ins_get I.hok h1
  obtain ⟨_, J2, _⟩ := ins_get I.hok h2
  obtain ⟨_, J1, _⟩ := J1.look
  obtain ⟨_, J2, _⟩ := J2.look
  obtain ⟨n, fr⟩ := I.fr
  have vs : Vals [V.ref p, V.ref q] [Value.ref p, Value.ref q] := .cons rfl (.cons rfl .nil)
  have hl : ([Value.ref p, Value.ref q] ++ ([] : List Value)).length = ps.length := (show [V.ref p, V.ref q].length = ps.length from F.len _ _ _ _ h)
  have go : wpAny (model X.prog X.w) X.A.in1 (call (.ref f) [.ref p, .ref q]) (EP X pins σ fun v H' => ∃ c, v = V.bl c ∧ Q (.bl (!c)) H') X.xe s := by
    refine wpAny_call (codeAny_mono (F.run X.A.in1 X.stack s H ⟨[.ref p, .ref q], []⟩ ([Value.ref p, Value.ref q] ++ []) [V.ref p, V.ref q] _ E hr.in1 I.env0.in1 (hb s _ I.kIn hl) vs h) fun r s' hq => ?_)
    cases r with
    | error e => exact hx pins σ H s e s' I hq
    | ok fl =>
      cases fl with
      | ret u => exact I.after hq
      | next => exact False.elim hq
      | brk => exact False.elim hq
      | cont => exact False.elim hq
  show wpAny _ _ (richCompare .NotEq (Value.ref p) (Value.ref q)) _ _ s
  refine PySem.W.cmp_ne_K (tb := .ref C) hr.in1.units0 fr I.ok.mod.kin J1 J2.type (by unfold PySem.W.notFirst; simp) nm.ne nm.ob m.at_ m.fn (wpAny_mono go (fun r s' z => ?_) fun _ _ z => z)
  obtain ⟨z', H', I', rz, c, rfl, qz⟩ := z
  cases rz
  exact ⟨c, rfl, .bl (!c), H', I', rfl, qz⟩
theorem ev_neH {sp : PSp} : ∀ σ H Q, teOf X.K B (dNeH C sp da db) σ H Q → tOp (rNeI C (lift X.K sp) E) (teOf X.K B da) (teOf X.K B db) σ H Q := fun σ H Q ⟨F, pa, t, env, P, W, hd, k⟩ =>
    ⟨F, pa, t, env, _, W, hd, fun v x F1 pa1 t1 H1 g1 W1 r1 q1 => ⟨F1, pa1, t1, env, _, W1, q1, fun u y F2 pa2 t2 H2 g2 W2 r2 q2 => by
      cases x with
      | ins C1 ns l =>
        cases y with
        | ins C2 ms l2 =>
          obtain ⟨rfl, e2, q2⟩ := q2
          subst e2
          have r1' := RelD.mono g2 _ _ r1
          have r1c := r1'
          have r2c := r2
          unfold RelD at r1c r2c
          obtain ⟨p, dx, us, rfl, e1, n1, l1⟩ := r1c
          obtain ⟨p', dy, us', rfl, e1', n1', l1'⟩ := r2c
          refine ⟨p, p', dx, dy, _, _, rfl, rfl, W2.sub _ _ e1, W2.sub _ _ e1', F2, pa2, t2, [.ins _ ns l, .ins _ ms l2], _, W2.call, RelL.cons r1' (RelL.cons r2 RelL.nil), q2, fun v d F' pa' t' H' W' r' q' => ?_⟩
          obtain ⟨g, W3⟩ := W2.after W'
          cases d with
          | bl c =>
            unfold RelD at r'
            exact ⟨c, r', k _ (.bl (!c)) F' pa' t' H' ((g1.trans g2).trans g) W3 (rD_bl _) q'⟩
          | _ => exact q'.elim
        | _ => exact q2.elim
      | _ => exact q2.elim⟩⟩
theorem q_tneH {sp : PSp} (F : FnOk X.prog X.w X.K X.mg X.base CX k f fd ps (lift X.K sp)) (hr : Room (k + 1) X.A) (m : Meth X.K C "__eq__" f) (nm : NeM X.K C) (hb : Binds X.K fd ps []) (hx : Passes CX X E) (ha : QE X B a da) (hb' : QE X B b db) (hm : behindInMarks .NotEq b = false) : QT X B (.Compare a [.NotEq] [b] pos) (dB (dNeH C sp da db)) :=
  PT.imp (pt_cmpR (op_neI (E := E) F hr m nm hb hx) ha hb' hm) fun σ H Q ⟨F, pa, t, env, P, W, hd, k⟩ => by
    refine ev_neH (E := E) σ H _ ⟨F, pa, t, env, _, W, hd, fun v d F' pa' t' H' g W' rd q => ?_⟩
    cases d with
    | bl b => unfold RelD at rd; exact ⟨b, rd, k b F' pa' t' H' g W' q⟩
    | _ => exact q.elim
end
end Q
/-! QO5 -/
namespace Q
open PySem L2 PyProof.Rows
end Q
/-! QO6 -/
namespace Q
open PySem PySem.Spec PyProof.Rows L2
end Q
/-! QO7 -/
namespace Q
open PySem PySem.Spec PyProof.Rows L2
end Q
/-! QO8 -/
namespace Q
open PySem L2 PySem.Spec PyProof.Rows LamX
end Q
/-! QH35 -/
namespace Q
open PySem L2 PyProof.Rows PpSet
end Q
/-! QO9 -/
namespace Q
open PySem PySem.Spec PyProof.Rows L2 PpSet
def keyS (e : Int × Value) : Str := match e.2 with | .str k _ => k | _ => Str.empty
def GoodS (w : World) (e : Int × Value) : Prop := ∃ k tk, e.2 = Value.str k tk ∧ e.1 = hashStr w k
def SetS (w : World) (h : Heap) (a : Addr) (S : Str → Bool) (n : Nat) : Prop :=
  ∃ o es ep t, h.get? a = some o ∧ o.ExactSet ∧ o.data = .set es ep t ∧ (∀ e ∈ es.toList, GoodS w e) ∧ (es.toList.map keyS).Nodup ∧ (∀ k, S k = true ↔ k ∈ es.toList.map keyS) ∧
    es.size < scanBound ∧ t.fits es.size = true ∧ es.size = n ∧ L2.Ris t.place.toList ∧ (w.params.followText "set-order" = true ∨ t.led = true)
section
variable {P : Program} {w : World} {h h' : Heap} {a : Addr} {S : Str → Bool} {n : Nat}
theorem SetS.at (R : SetS w h a S n) (k : ∀ o, h.get? a = some o → h'.get? a = some o) : SetS w h' a S n := by
  obtain ⟨o, es, ep, t, ho, r⟩ := R
  exact ⟨o, es, ep, t, k o ho, r⟩
end
end Q
/-! QO10 -/
namespace Q
open PySem L2 PyProof.Rows
end Q
/-! QX9 -/
namespace Q
open PySem L2 PyProof.Rows
end Q
/-! QX10 -/
namespace Q
open PySem L2 PyProof.Rows
end Q
/-! QX11 -/
namespace Q
open PySem L2 PyProof.Rows
structure IsW (K : PySem.W.Frag) (C : Addr) : Prop where
  i : C8.InsC K C
  ty : PySem.W.typeIn K (.ref C) = some (.type "type")
  s : PySem.W.mroIn K C (.type "str") = some false
  l : PySem.W.mroIn K C (.type "list") = some false
  t : PySem.W.mroIn K C (.type "tuple") = some false
section
variable {X : Cx} {B : Bs} {K : PySem.W.Frag} {e : Expr} {pos : Pos} {da : DE} {C : Addr}
theorem kit_Tins {n : Tn} (w : IsW K C) : PySem.W.kitOne K (.type n.name) (.ref C) = some false := by
  obtain ⟨cd, hc, _⟩ := PySem.W.any_some w.i.cl.hd
  show (if ((.type n.name : Value) == .ref C) = true then some true else (if ((PySem.W.clsIn K C).isSome && PySem.W.typeIn K (.ref C) == some (.type "type")) = true then PySem.W.subIn K (.type n.name) (.ref C) else none)) = some false
  rw [if_neg (by intro z; cases beq_iff_eq.mp z), if_pos (by rw [hc, w.ty]; rfl)]
  show (PySem.fastBuiltinMro n.name).map (·.contains (Value.ref C)) = some false
  cases n <;> rfl
theorem rc_isCW (w : IsW K C) : RCall K (rIsi K) (bIsCW C) := fun B F pa t env σ H xs vs P Q W r h k => by
  unfold bIsCW at h
  split at h
  · rename_i x A
    obtain ⟨rfl, h⟩ := h
    cases r with
    | cons r1 r2 =>
      cases r2 with
      | cons r2 r3 =>
        cases r3
        obtain rfl := RelX.adr W r2
        split at h
        · obtain ⟨rfl, h⟩ := h
          obtain ⟨a, dx, us, rfl, e, _⟩ := RelX.ins W r1
          exact ⟨_, _, _, _, true, rfl, .own _, .base (TyOf.ins e w.i.cl w.i.ha w.i.hn w.i.htk w.i.hm), w.i.me, k _ _ F H (Gr.refl _ _) W (rD_bl _) h⟩
        · split at h
          · rename_i n hn
            exact ⟨_, _, _, _, false, rfl, .own _, r1.tyx W hn, kit_Tins w, k _ _ F H (Gr.refl _ _) W (rD_bl _) h⟩
          · exact h.elim
  · exact h.elim
end
end Q
/-! QO11 -/
namespace Q
open PySem PySem.Spec PyProof.Rows L2 LamX
end Q
/-! QO12 -/
namespace Q
open PySem PySem.Spec PyProof.Rows L2
end Q
/-! QX12 -/
namespace Q
open PySem L2 PyProof.Rows
end Q
/-! QX13 -/
namespace Q
open PySem L2 PyProof.Rows
end Q
/-! QX14 -/
namespace Q
open PySem L2 PyProof.Rows
end Q
/-! QO13 -/
namespace Q
open PySem PySem.Spec PyProof.Rows L2
end Q
/-! QO14 -/
namespace Q
open PySem PySem.Spec PyProof.Rows L2
def Tx (d : D) : List Nat := (toPy d).shown.cps.toList
def num (c : Nat) : Prop := c = 45 ∨ (48 ≤ c ∧ c ≤ 57)
def Ends (u : List Nat) : Prop := ∀ c ∈ u.head?, ¬ num c
end Q
/-! QO15 -/
namespace Q
open PySem PySem.Spec PyProof.Rows L2
end Q
/-! QO16 -/
namespace Q
open PySem PySem.Spec PyProof.Rows L2
end Q
/-! QO17 -/
namespace Q
open PySem PySem.Spec PyProof.Rows L2
end Q
/-! QO18 -/
namespace PySem.F
end PySem.F
namespace Q
open PySem L2 PySem.Spec PyProof.Rows
abbrev vaTail : List Value := [.type "ValueError", .type "Exception", .type "BaseException", .type "object"]
theorem fxb_Value : FxB "ValueError" "ValueError.__new__" "ValueError.__init__" vaTail := ⟨PySem.F.excBase_ValueError, PySem.F.store_ValueError.passes, by decide +kernel, rfl⟩
end Q
/-! QO19 -/
namespace Q
open PySem PySem.Spec PyProof.Rows L2
end Q
/-! QO20 -/
namespace PySem
end PySem
/-! QO21 -/
namespace Q
open PySem L2 PySem.Spec PyProof.Rows
structure FxG (newId initId : String) (tl : List Value) : Prop where
  pass : ∀ self : Value, refuseLoop self "__setattr__" tl = pure ()
  obj : tl.contains (.type "object") = true
  ne : tl.isEmpty = false
  callO : ∀ {prog : Program} {w : World} {A : Around} {R : Result → Shared → Prop} {h : Heap} {g : Array GenState} {d : Drawn} {t : Nat} {os : OsState} {nm q : Str} {C N : Addr} {bs : List Value} {hdct : Bool} {sn : List Str} {sub : List Value} {ab : Bool} {col : Option Bool} {dd : Option Addr} {k0 k1 k2 k3 k5 : Option Value} {rest : List Value} {fI : Addr},
    h.get? C = some (excClassObj nm q C N bs tl hdct sn sub ab col dd k0 k1 k2 k3 k5 newId) → W.Looks (model prog w) h (typeLookup (.ref C) "__init__") (some (.ref fI)) → (∀ self, W.Looks (model prog w) h (bindSpecial (.ref fI) self) (.ref fI, [self])) → rest.length ≤ sizeLine →
    codeAny (model prog w) (A.under (.builtin "type.__call__" ⟨.ref C :: rest, []⟩)) (.call (.ref fI) ⟨.ref (h.objs.size + 1) :: rest, []⟩) (W.InitBack (h.objs.size + 1) R) ⟨(h.push (W.kdv_tup rest)).push (HandSPX.excO C h.objs.size), g, d, t, os⟩ →
    codeAny (model prog w) A (.call (.ref C) ⟨rest, []⟩) R ⟨h, g, d, t, os⟩
  initB : ∀ {prog : Program} {w : World} {A : Around} {R : Result → Shared → Prop} {h : Heap} {g : Array GenState} {d : Drawn} {t : Nat} {os : OsState} {nm q : Str} {C N : Addr} {bs : List Value} {hdct : Bool} {sn : List Str} {sub : List Value} {ab : Bool} {col : Option Bool} {dd : Option Addr} {k0 k1 k2 k3 k5 : Option Value} {e t0 : Addr} {rest : List Value},
    h.get? C = some (excClassObj nm q C N bs tl hdct sn sub ab col dd k0 k1 k2 k3 k5 newId) → h.get? e = some (HandSPX.excO C t0) → rest.length ≤ sizeLine →
    (∀ h' t1, (∀ b o, b ≠ e → h.get? b = some o → h'.get? b = some o) → h'.get? e = some (HandSPX.excO C t1) → R (.ok (.ret .none)) ⟨h', g, d, t, os⟩) →
    codeAny (model prog w) A (.call (.builtin initId) ⟨.ref e :: rest, []⟩) R ⟨h, g, d, t, os⟩
theorem FxB.g {B newId initId : String} {tl : List Value} (F : FxB B newId initId tl) : FxG newId initId tl :=
  ⟨F.pass, F.obj, F.ne, fun a b c e f => PySem.HandSPX.call_own F.base (fun Y => rfl) a b c e f, fun a b c e => PySem.HandSPX.init_base F.base (fun Y => rfl) a b c e⟩
end Q
namespace PySem
namespace HandSPX
open PySem.W PySem.Calls PyProof.Rows Builtin Builtin.ObjectAttr
section
variable {prog : Program} {w : World} {A : Around} {E : Value → Shared → Prop} {R : Result → Shared → Prop} {hp : Heap} {g : Array GenState} {d : Drawn} {t : Nat} {os : OsState}
theorem exc_osaG {K : W.Frag} {name : Str} {tk : Tok} {v : Value} {x C : Addr} {fv : Array Value} {cd : ClassData} {tl : List Value} {newId initId : String} (T : Q.FxG newId initId tl)
    (X : K.In hp) (hx : hp.get? x = some { cls := .ref C, data := .fields fv }) (hcd : W.clsIn K C = some cd) (hm : cd.mro = .ref C :: tl) (hh : cd.hasDict = true) (ha : W.findIn K (.ref C) name = some none)
    (hq : ∀ h' tk' dx, (∀ b o, b ≠ x → hp.get? b = some o → h'.get? b = some o) → hp.objs.size ≤ dx → dx ≠ x → h'.get? x = some { cls := .ref C, dict := some dx, data := .fields fv } →
      h'.Ns1 dx (fun y => if y = name then some v else none) → R (.ok (.ret .none)) ⟨h', g, d, tk', os⟩) :
    codeAny (model prog w) A (.call (.builtin "object.__setattr__") ⟨[.ref x, .str name tk, v], []⟩) R ⟨hp, g, d, t, os⟩ := by
  have I : W.InstAt hp x { cls := .ref C, data := .fields fv } C none := ⟨hx, rfl, rfl, trivial⟩
  have SF := F.store_object
  have ne : cd.mro.isEmpty = false := by rw [hm]; rfl
  have hob : cd.mro.contains (.type "object") = true := by rw [hm, List.contains_cons, T.obj, Bool.or_true]
  have hxs : x ≠ hp.objs.size := Nat.ne_of_lt (Heap.lt_size hx)
  have sub : W.Looks (model prog w) hp (isInstance (.ref x) (.type "object")) true := I.type.andThen (W.looks_mroIn X (by unfold W.mroIn; rw [hcd, Option.bind_some, if_neg (by rw [ne]; decide), hob]))
  refine codeAny_call_builtin SF.slot.plain SF.entry (@W.check_slot (model prog w) _ _ ⟨hp, g, d, t, os⟩ "object.__setattr__" "object" "__setattr__" (.ref x) [.str name tk, v] [] _ SF.kind SF.split sub (SF.args (.ref x) (.str name tk) v) ?_)
  have hmr : W.Looks (model prog w) hp (mroOf (.ref C)) cd.mro := (W.looks_clsIn X hcd).andThen .now
  have L3 : W.Looks (model prog w) hp (storeTaker? none) none := .now
  have hcls : W.Looks (model prog w) hp (classData C) cd := W.looks_clsIn X hcd
  rw [W.osa_eq, refuse_eq]
  refine wpAny_bind (wpAny_bind (I.type.at (wpAny_bind (hmr.at ?_))))
  rw [hm, refuseLoop_ref, T.pass]
  refine wpAny_pure (wpAny_bind (I.type.at (wpAny_bind ((W.looks_findIn X ha).at (wpAny_bind (L3.at ?_))))))
  show wpAny _ _ (storeInOwnDict (.ref x) (.ref C) (.str name tk) name v false) _ _ _
  clear hm hob ne sub hmr
  obtain ⟨nm, bs, mro, ns, qn, hd, sn, sb, ab, col, del⟩ := cd
  dsimp only at hh
  subst hh
  unfold storeInOwnDict ownDictForStores
  repeat (first | with_reducible refine store_in_new ?_ ?_ | with_reducible refine wpAny_loadPart_at hx ?_ | with_reducible refine hcls.at ?_ | wp_step)
  · exact ⟨_, #[], _, (Heap.get?_update_ne _ _ _ _ hxs.symm).trans (Heap.get?_push_at rfl rfl), rfl, fun e he => absurd he (by simp), fun _ => rfl⟩
  · intro h' tk' hn' hs
    have hx₁ : (hp.push { cls := .type "dict", data := .dict #[] }).get? x = some { cls := .ref C, data := .fields fv } := Heap.get?_push_of_some _ hx
    refine hq h' tk' hp.objs.size (fun b o hb ho => ?_) (Nat.le_refl _) hxs.symm ?_ hn'
    · exact (hs.2 b (Nat.ne_of_lt (Heap.lt_size ho))).trans ((Heap.get?_update_ne _ _ _ _ hb).trans (Heap.get?_push_of_some _ ho))
    · exact (hs.2 x hxs).trans (Heap.get?_update_self _ hx₁ rfl)
end
end HandSPX
end PySem
namespace Q
open PySem L2 PySem.Spec PyProof.Rows
section
variable {X : Cx} {pins : List (Addr × Obj)} {σ : L2.St} {H : Hp} {s : Shared} {a C : Addr} {f : Str} {y : V} {u : Value} {A : Around} {E : Value → Shared → Prop} {newId initId : String} {tl : List Value}
theorem fst_newG {Q : Unit → Shared → Prop} (FB : FxG newId initId tl) (T : FxC X.K C newId tl) (I : Inv X pins σ H s) (e : H a = some (exo a C none)) (hno : PySem.W.findIn X.K (.ref C) f = some none) (ry : RelV y u)
    (h : ∀ dx s', H dx = none → dx ≠ a → Inv X pins σ (upd (upd H dx (exd dx [(f, y)])) a (exo a C (some dx))) s' → Q () s') : wpAny (model X.prog X.w) A (setAttr (.ref a) f u) Q E s := by
  obtain ⟨nm, q, N, bs, sn, sub, ab, col, dd, k0, k1, k2, k3, k5, hC⟩ := T.cls
  have hcl : PySem.W.clsIn X.K C = some { name := nm, bases := bs, mro := .ref C :: tl, ns := N, qualname := q, hasDict := true, slotNames := sn, subclasses := sub, abstract := ab, collection := col, hasDel := false } := by unfold PySem.W.clsIn; rw [hC] <;> rfl
  obtain ⟨t1, ho⟩ := exo_at I.hok e
  obtain ⟨hp, g, d, t, os⟩ := s
  refine PySem.W.set_plain I.kIn (ox := { cls := .ref C, dict := none, data := .fields #[.ref t1, .none, .none, .none, .bool false, .none] }) (od := none) ⟨ho, rfl, rfl, trivial⟩ T.sa ?_
  refine PySem.HandSPX.exc_osaG FB I.kIn ho hcl rfl rfl hno (fun h' tk' dx k dn dne hx hn => ?_)
  have hnd : H dx = none := I.hok.fresh dn
  have nd : ∀ {b : Addr} {o : Obj}, hp.get? b = some o → b ≠ dx := fun {b o} q => Nat.ne_of_lt (Nat.lt_of_lt_of_le (Heap.lt_size q) dn)
  have na : ∀ {b : Addr}, H b = none → b ≠ a := fun {b} n z => by
    rw [z, e] at n
    cases n
  have Un1 : Un X.fs [] H (upd (upd H dx (exd dx [(f, y)])) a (exo a C (some dx))) hp h' := {
    keep := fun b o q n _ _ => k b o (na n) q
    slot := fun b o q n _ _ => ⟨o.slots, k b o (na n) q⟩
    free := fun b o q n _ => by rw [upd_ne (na n), upd_ne (nd q)]; exact n
    there := fun b o q _ => by
      by_cases hb : b = a
      · exact ⟨_, by rw [hb]; exact hx⟩
      · exact ⟨o, k b o hb q⟩
    tups := fun b xs q => by rw [upd_ne (at_ne e q exo_tup), upd_ne (ne_of_none q hnd)]; exact q
    frzs := fun b o v q => by rw [upd_ne (at_ne e q exo_frz), upd_ne (ne_of_none q hnd)]; exact q
    tbls := fun b ps q => ⟨#[], by rw [upd_ne (at_ne e q exo_tbl), upd_ne (ne_of_none q hnd), q]; simp⟩ }
  refine h dx _ hnd dne (I.un (t' := tk') Un1 fun b o q => ?_)
  by_cases hb : b = a
  · subst hb
    rw [upd_same] at q
    cases q
    exact exo_ok hx
  · rw [upd_ne hb] at q
    by_cases hd : b = dx
    · subst hd
      rw [upd_same] at q
      cases q
      exact exd_ok hn (relO_put (fs := []) ry fun g => True.intro)
    · rw [upd_ne hd] at q
      exact (I.hok b o q).stay (fun c v hc z => k c v (by
          rcases hc with hc | hc
          · rw [hc]
            exact hb
          · exact at_ne e hc exo_own) z)
        (fun c hc => by rw [upd_ne (at_ne e hc exo_own), upd_ne (ne_of_none hc hnd)]; exact hc) (fun c xs hc => by rw [upd_ne (at_ne e hc exo_tup), upd_ne (ne_of_none hc hnd)]; exact hc)
theorem finit_okG {us : List Value} {Q : Value → Shared → Prop} (FB : FxG newId initId tl) (T : FxC X.K C newId tl) (I : Inv X pins σ H s) (e : H a = some (exo a C none)) (hl : us.length ≤ sizeLine) (h : ∀ s', Inv X pins σ H s' → Q .none s') :
    wpAny (model X.prog X.w) A (call (.builtin initId) (.ref a :: us)) Q E s := by
  obtain ⟨nm, q, N, bs, sn, sub, ab, col, dd, k0, k1, k2, k3, k5, hC⟩ := T.cls
  obtain ⟨t1, ho⟩ := exo_at I.hok e
  obtain ⟨hp, g, d, t, os⟩ := s
  refine wpAny_call (FB.initB (I.kIn _ _ hC) ho hl fun h' t2 k hx => ?_)
  have J := I.write (t' := t) (x := a) (e := a) (o := exo a C none) (by rw [e]; exact True.intro) (.inl rfl) k ⟨_, hx⟩ (exo_ok hx)
  have eu : upd H a (exo a C none) = H := by
    funext b
    by_cases hb : b = a
    · rw [hb, upd_same, e]
    · rw [upd_ne hb]
  rw [eu] at J
  exact h _ J
end
section
variable {X : Cx} {o e : Expr} {es : List Expr} {to te : TE} {ta : TA} {f : Str} {p p' p1 p2 pos : Pos}
theorem ps_fstG {newId initId : String} {tl : List Value} (FB : FxG newId initId tl) (ho : PE X o to) (he : PE X e te) (hs : swapsWith e (some (.Attribute o f p')) pos.line X.env = pure false := by rfl) : PS X (.Assign [.Attribute o f p'] e pos) (tFst X.K newId tl f to te) := by
  refine ⟨fun pins s σ H D I h => ?_⟩
  refine plainObj_wpAny_Assign_Attribute (thn (he.run pins s σ H _ I h) fun v s1 ⟨y, H1, I1, r1, q1⟩ => thn (ho.run pins s1 σ H1 _ I1 q1) fun u s2 ⟨x, H2, I2, r2, a, C, ex, T, hno, ea, q⟩ => ?_) hs
  subst ex
  obtain rfl : u = Value.ref a := r2
  exact fst_newG FB T I2 ea hno r1 fun dx s' n ne J => ⟨σ, _, J, q dx n ne⟩
end
end Q
/-! QO22 -/
namespace Q
open PySem L2 PySem.Spec PyProof.Rows
theorem boot_ValueErrorQ : bootBuiltins "ValueError" = some (.type "ValueError") := by decide +kernel
theorem typ_VA : typeOf (.type "ValueError") = pure (.type "type") := by kernel_rfl
section
variable {X : Cx} {o e : Expr} {es : List Expr} {to te : TE} {ta : TA} {f : Str} {p p' p1 p2 pos : Pos}
theorem pe_vainit {pl : Sem Bool} (hg : Gl X "ValueError") (hm : X.mg "ValueError" = none) (vV : PySem.W.findCls X.K (.type "ValueError") (.type "type") "__init__" = some (.val (.builtin "ValueError.__init__"))) (ha : PA X (e :: es) ta)
    (hc : eval (.Call (.Attribute (.Name "ValueError" p1) "__init__" p2) (e :: es) [] pos) X.env = (do
      let ov ← eval (.Name "ValueError" p1) X.env
      standAt p2.atName
      let (f, first) ← holding [ov] (getMethod ov "__init__" pl)
      callWith pos f first (backTo pos (starEach (e :: es) X.env)) (backToKw pos (keywordEach [] X.env))) := by rfl)
    (he : starEach (e :: es) X.env = (false, eval e X.env) :: starEach es X.env := by rfl) (hpl : (backTo pos (starEach es X.env)).any (·.1) = false := by rfl) :
    PE X (.Call (.Attribute (.Name "ValueError" p1) "__init__" p2) (e :: es) [] pos) (tFxI X.K "ValueError.__new__" vaTail ta) := by
  refine ⟨fun pins s σ H Q I h => ?_⟩
  refine PySem.W.methodCall_KW (ld_blt I hg hm boot_ValueErrorQ ?_ (by decide) (by decide)) hc
  obtain ⟨m, fr⟩ := I.fr
  refine PySem.W.method_type fr I.ok.mod.kin typ_VA (by decide +kernel) vV (by decide +kernel) ?_
  show wpAny _ _ (callWith pos (Value.builtin "ValueError.__init__") [] (backTo pos (starEach (e :: es) X.env)) []) _ _ _
  refine PyProof.Rows.callWith_method1 (thn (ha.run pos pins _ σ H _ (I.tok _) h) fun us s1 ⟨vs, H1, I1, r1, a, C, ws, ev, hl, T, ea, q⟩ => ?_) he hpl
  subst ev
  cases r1 with
  | @cons _ u0 _ ur ra rw' =>
    obtain rfl : u0 = Value.ref a := ra
    have hlen : ur.length ≤ sizeLine := by
      rw [← Paired.length rw', sizeLine_eq]
      omega
    exact finit_okG fxb_Value.g T I1 ea hlen fun s' J => ⟨.non, H1, J, rfl, q⟩
end
end Q
/-! QO23 -/
namespace Q
open PySem PySem.Spec PyProof.Rows L2
end Q
/-! QO24 -/
namespace Q
open PySem PySem.Spec PyProof.Rows L2
abbrev HdL := List (Value × Option Nat × (Addr → Value → Option Addr → TS))
def wManyA (K : PySem.W.Frag) (Wout : WX) (D : L2.Ends) : HdL → WX
  | [] => Wout
  | (c, none, ts) :: r => fun cls d σ H => ∃ b, PySem.W.exmOne K cls c = some b ∧ (b = true → ∀ a, H a = none → ts a cls d D σ H) ∧ (b = false → wManyA K Wout D r cls d σ H)
  | (c, some i, ts) :: r => fun cls d σ H => ∃ b, PySem.W.exmOne K cls c = some b ∧ (b = true → ∀ a, H a = none → ts a cls d { nx := fun σ' H' => D.nx (σ'.set i none) H', rt := D.rt, bk := fun σ' H' => D.bk (σ'.set i none) H', ct := fun σ' H' => D.ct (σ'.set i none) H' } (σ.set i (some (.ref a))) H) ∧ (b = false → wManyA K Wout D r cls d σ H)
inductive HdsA (X : Cx) : List ExceptHandler → HdL → Prop
  | nil : HdsA X [] []
  | no {x : Str} {c : Value} {ts : Addr → Value → Option Addr → TS} {b₀ : Stmt} {suite : List Stmt} {np pos' : Pos} {hds : List ExceptHandler} {l : HdL} (hc : Names X x c)
      (hsu : ∀ (a : Addr) (oe : Obj) (cls : Value) (d : Option Addr) (pn : List (Addr × Obj)), Zc cls d oe → (∃ vs, oe.data = .fields vs) → PSs (X.suite a ((a, oe) :: pn)) (b₀ :: suite) (ts a cls d)) (r : HdsA X hds l) :
      HdsA X (.ExceptHandler (some (.Name x np)) none (b₀ :: suite) pos' :: hds) ((c, none, ts) :: l)
  | as {x n : Str} {i : Nat} {c : Value} {ts : Addr → Value → Option Addr → TS} {b₀ : Stmt} {suite : List Stmt} {np pos' : Pos} {hds : List ExceptHandler} {l : HdL} (hi : X.N[i]? = some n) (hln : X.env.kindOf n = some .local) (hc : Names X x c)
      (hsu : ∀ (a : Addr) (oe : Obj) (cls : Value) (d : Option Addr) (pn : List (Addr × Obj)), Zc cls d oe → (∃ vs, oe.data = .fields vs) → PSs (X.suite a ((a, oe) :: pn)) (b₀ :: suite) (ts a cls d)) (r : HdsA X hds l) :
      HdsA X (.ExceptHandler (some (.Name x np)) (some n) (b₀ :: suite) pos' :: hds) ((c, some i, ts) :: l)
section
variable {X : Cx} {body : List Stmt} {h₀ : ExceptHandler} {hds : List ExceptHandler} {l : HdL} {pos : Pos} {tb : WX → TS} {Wout : WX}
theorem ps_try_manyA (hs : X.stack = X.env :: X.outer) (hf : X.env.frame = some X.env.locals) (hN : X.N.Nodup) (tk : Takes X Wout)
    (hb : ∀ (W : WX) (pn : List (Addr × Obj)) (xe : Value → Shared → Prop), Takes (X.tr pn xe) W → PassesOwn (model X.prog X.w) X.A X.env xe → PSs (X.tr pn xe) body (tb W))
    (hh : HdsA X (h₀ :: hds) l) : PS X (.Try body (h₀ :: hds) [] [] pos) (fun D σ H => tb (wManyA X.K Wout D l) D σ H) := by
  refine ⟨fun pins s σ H D I h => ?_⟩
  have ok := I.ok
  have hfr : X.A.frames = some (X.env :: X.outer) := by rw [ok.frames, hs]
  refine wpAny_Try_except ?_
  refine wpAny_mono ((hb (wManyA X.K Wout D l) (X.pn ++ pins) (fun e s₁ => wpAny (model X.prog X.w) X.A (noteFrame e X.env) (fun _ s₂ => wpAny (model X.prog X.w) X.A (setFlight e none) (fun _ s₃ =>
    wpAny (model X.prog X.w) X.A (handleBy e X.env (h₀ :: hds)) (SP X pins D) X.xe s₃) X.xe s₂) X.xe s₁) (fun u s' xx => ?_) PassesOwn.looking).run [] s σ H D (I.toTry _) h) (fun f s1 hsp => ?_) (fun e s1 he => he)
  · obtain ⟨a, B, sI, pins', σ', H', cls, d, rfl, J', nb, up, sky, na, os, ag, w⟩ := xx
    have J : Inv X pins σ' H' sI := J'.ofTry ok
    have sky' : Sky B (X.env :: X.outer) a (Zc cls d) X.env.locals s'.heap := by rw [← hs]; exact sky
    show wpAny (model X.prog X.w) X.A (noteFrame (.ref a) X.env) _ _ _
    refine Sky.land Zc.steady hfr hf sky' fun h3 fl3 up3 => ?_
    have J3 : Inv X pins σ' H' { s' with heap := h3 } := J.landed nb fl3.1 (up.trans up3) os ag
    obtain ⟨oe3, vs3, he3, hz3, hd3⟩ := fl3.there
    have notFr : ∀ {h : Heap} {o : Obj} {vs : Array Value}, h.FunFrames B (X.env :: X.outer) → h.get? a = some o → o.data = .fields vs → a ∉ frs (X.env :: X.outer) := fun {h o vs} ff e dd hm => by
      obtain ⟨_, o', e', hnf⟩ := ff.mem hm
      rw [e] at e'; cases e'
      exact hnf _ dd
    have nfr := notFr fl3.2.2.1 he3 hd3
    have nL : a ≠ X.env.locals := fun z => nfr (List.mem_filterMap.mpr ⟨X.env, List.mem_cons_self, by rw [hf, z]⟩)
    have nF : a ∉ X.fs := fun hm => by
      obtain ⟨e, he, q⟩ := List.mem_filterMap.mp hm
      exact nfr (List.mem_filterMap.mpr ⟨e, List.mem_cons_of_mem _ he, q⟩)
    have S3 := J3.suite he3 hd3 na nL nF
    have LT : PySem.W.Looks (model X.prog X.w) h3 (typeOf (.ref a)) cls := fun A Q E s k q => wpAny_typeOf_ref (k _ _ he3) (by rw [hz3.1]; exact q)
    have test : ∀ {x : Str} {c : Value} {np : Pos} {Q : Value → Shared → Prop} {E : Value → Shared → Prop}, Names X x c → Q c { s' with heap := h3 } → wpAny (model X.prog X.w) (X.A.mark (some (.ref a))) (eval (.Name x np) X.env) Q E { s' with heap := h3 } := fun {x c np Q E} hc q => by
      obtain ⟨hg, hdbg, hm | ⟨hm, hv, hnn⟩⟩ := hc
      · exact ld_glob (X := X.suite a ((a, oe3) :: (X.pn ++ pins))) S3 hg hm q hdbg
      · exact ld_blt (X := X.suite a ((a, oe3) :: (X.pn ++ pins))) S3 hg hm hv q hnn hdbg
    have go : ∀ {hds' : List ExceptHandler} {l' : HdL}, HdsA X hds' l' → wManyA X.K Wout D l' cls d σ' H' →
        wpAny (model X.prog X.w) X.A (handleBy (.ref a) X.env hds') (SP X pins D) X.xe { s' with heap := h3 } := by
      intro hds' l' hk
      induction hk with
      | nil =>
        intro w
        refine wpAny_handleBy_nil ?_
        obtain ⟨k1, k2, k3, oe, vs, T, oT, ts', he, hz, hd, h1, hr⟩ := id fl3
        unfold PySem.passOn
        refine wpAny_bind (wpAny_field he hd h1 ?_)
        rw [if_neg (show ¬ ((Value.ref T == Value.none) = true) from by simp)]
        have fin : wpAny (model X.prog X.w) X.A (setFlight (.ref a) X.env.frame) (fun _ s4 => wpAny (model X.prog X.w) X.A (throw (.ref a) : Sem Flow) (SP X pins D) X.xe s4) X.xe { s' with heap := h3 } := by
          rw [hf]
          refine HandSPX.setFlight_upZ fl3 fun h4 hh4 up4 => wpAny_throw (tk _ _ ?_)
          exact ⟨a, B, sI, pins, σ', H', cls, d, rfl, J, nb, (up.trans up3).trans up4, .inr (.inr (by rw [hs]; exact hh4)), na, os, ag, w⟩
        first
          | exact wpAny_bind (wpAny_pure (wpAny_bind fin))
          | exact wpAny_bind fin
      | @no x c ts b₀ suite np pos' hds2 l2 hc hsu r ih =>
        intro w
        obtain ⟨b, hb1, hyes, hno⟩ := w
        refine wpAny_handleBy_cons (codeAny_handlers_test ?_) (by intro q; cases q)
        have LM := PySem.W.exm_one (M := model X.prog X.w) (J3.kIn) LT hb1
        refine test hc (LM.here ?_)
        cases b with
        | true =>
          refine codeAny_handlers_suite ?_
          refine HandSPX.lands_againZ fl3 fun h4 fl4 up4 => ?_
          have J4 : Inv X pins σ' H' { s' with heap := h4 } := J.landed nb fl4.1 ((up.trans up3).trans up4) os ag
          obtain ⟨oe4, vs4, he4, hz4, hd4⟩ := fl4.there
          have S4 := J4.suite he4 hd4 na nL nF
          refine wpAny_mono ((hsu a oe4 cls d (X.pn ++ pins) hz4 ⟨_, hd4⟩).run [] _ _ H' _ S4 (hyes rfl a na)) (fun f s6 hsp => ?_) (fun _ _ z => False.elim z)
          cases f with
          | next =>
            obtain ⟨σ6, H6, S6, q6⟩ := hsp
            exact ⟨_, _, S6.unsuite ok, q6⟩
          | brk =>
            obtain ⟨σ6, H6, S6, q6⟩ := hsp
            exact ⟨_, _, S6.unsuite ok, q6⟩
          | cont =>
            obtain ⟨σ6, H6, S6, q6⟩ := hsp
            exact ⟨_, _, S6.unsuite ok, q6⟩
          | ret u =>
            obtain ⟨v6, σ6, H6, S6, r6, q6⟩ := hsp
            exact ⟨_, _, _, S6.unsuite ok, r6, q6⟩
        | false =>
          show wpAny _ X.A (handleBy (.ref a) X.env hds2) _ _ _
          exact ih (hno rfl)
      | @as x n i c ts b₀ suite np pos' hds2 l2 hi hln hc hsu r ih =>
        intro w
        obtain ⟨b, hb1, hyes, hno⟩ := w
        have hloc : Loc X.env.scope n := .inl hln
        refine wpAny_handleBy_cons (codeAny_handlers_test ?_) (by intro q; cases q)
        have LM := PySem.W.exm_one (M := model X.prog X.w) (J3.kIn) LT hb1
        refine test hc (LM.here ?_)
        cases b with
        | true =>
          refine codeAny_handlers_suite_as ?_
          refine HandSPX.lands_againZ fl3 fun h4 fl4 up4 => ?_
          have J4 : Inv X pins σ' H' { s' with heap := h4 } := J.landed nb fl4.1 ((up.trans up3).trans up4) os ag
          obtain ⟨oe4, vs4, he4, hz4, hd4⟩ := fl4.there
          have S4 := J4.suite he4 hd4 na nL nF
          refine store_ok (X := X.suite a ((a, oe4) :: (X.pn ++ pins))) (v := .ref a) S4 hN hi hloc rfl (fun s5 S5 => ?_) (.inr hln)
          refine wpAny_mono ((hsu a oe4 cls d (X.pn ++ pins) hz4 ⟨_, hd4⟩).run [] s5 _ H' _ S5 (hyes rfl a na)) (fun f s6 hsp => ?_) (fun _ _ z => False.elim z)
          have end_ : ∀ {σ6 : L2.St} {H6 : Hp} {Q : Shared → Prop}, Inv (X.suite a ((a, oe4) :: (X.pn ++ pins))) [] σ6 H6 s6 → (∀ s7, Inv X pins (σ6.set i none) H6 s7 → Q s7) →
              wpAny (model X.prog X.w) X.A (do bindName X.env n .none; unbindBehindTheSuite X.env n pos') (fun _ s7 => Q s7) X.xe s6 := fun {σ6 H6 Q} S6 hq => gone_ok (S6.unsuite ok) hN hi hln hq
          cases f with
          | next =>
            obtain ⟨σ6, H6, S6, q6⟩ := hsp
            exact end_ S6 fun s7 J7 => ⟨_, _, J7, q6⟩
          | brk =>
            obtain ⟨σ6, H6, S6, q6⟩ := hsp
            exact end_ S6 fun s7 J7 => ⟨_, _, J7, q6⟩
          | cont =>
            obtain ⟨σ6, H6, S6, q6⟩ := hsp
            exact end_ S6 fun s7 J7 => ⟨_, _, J7, q6⟩
          | ret u =>
            obtain ⟨v6, σ6, H6, S6, r6, q6⟩ := hsp
            exact end_ S6 fun s7 J7 => ⟨_, _, _, J7, r6, q6⟩
        | false =>
          show wpAny _ X.A (handleBy (.ref a) X.env hds2) _ _ _
          exact ih (hno rfl)
    exact go hh w
  · cases f with
    | next =>
      obtain ⟨σ', H', J', q⟩ := hsp
      exact wpAny_execs_nil ⟨σ', H', J'.ofTry ok, q⟩
    | brk =>
      obtain ⟨σ', H', J', q⟩ := hsp
      exact ⟨σ', H', J'.ofTry ok, q⟩
    | cont =>
      obtain ⟨σ', H', J', q⟩ := hsp
      exact ⟨σ', H', J'.ofTry ok, q⟩
    | ret u =>
      obtain ⟨v, σ', H', J', r, q⟩ := hsp
      exact ⟨v, σ', H', J'.ofTry ok, r, q⟩
end
end Q
/-! QO25 -/
namespace Q
open PySem PySem.Spec PyProof.Rows L2
abbrev XCl := Xn → Option (Addr × Option Str)
def RzX (K : PySem.W.Frag) (F : Hp) (pa : Option Addr) (H : Hp) (fl : Option Str) (d : D) (dd : Option Addr) : Prop := match fl with
  | none => dd = none ∧ d = .non
  | some f => ∃ a fs v, dd = some a ∧ H a = some (.xd fs) ∧ fs.lookup f = some v ∧ RelD K F pa d v
def teE (K : PySem.W.Frag) (B : Bs) (cl : XCl) (dx : DXE) (E : L2.St → XK) : TE := fun σ H Q => ∃ F pa t env P Px, Cf K B F pa t env σ H ∧ dx env t P Px ∧
  (∀ v d F' pa' t' H', Gr F pa F' pa' → Cf K B F' pa' t' env σ H' → RelD K F' pa' d v → P d t' → Q v H') ∧
  ∀ c C fl d dd F' pa' t' H', cl c = some (C, fl) → Gr F pa F' pa' → Cf K B F' pa' t' env σ H' → RzX K F' pa' H' fl d dd → Px c d t' → E σ (.ref C) dd H'
end Q
/-! QO26 -/
namespace Q
open PySem PySem.Spec PyProof.Rows L2
def tSx (j : Nat) (a dd : Addr) (f : Str) (o : Option Str) : TE := fun σ H Q => σ[j]? = some (some (.ref a)) ∧ ∃ fs v, H dd = some (.xd fs) ∧ fs.lookup f = some v ∧ match o with
  | none => Q v H
  | some m => ∀ p, H p = none → Q (.ref p) (upd H p (.tup [.str m, v]))
section
variable {X : Cx} {n f : Str} {j : Nat} {a dd C : Addr} {oe : Obj} {e1 e2 : Expr} {o : Option Str} {p p1 p2 p3 p4 p5 p6 p7 p8 p9 pos : Pos} {x1 kk : Nat}
theorem sx_fld (xf : XfC X.K C) (hno : PySem.W.findIn X.K (.ref C) f = some none) (hz : Zc (.ref C) (some dd) oe) (hf : ∃ vs, oe.data = .fields vs) (hm : (a, oe) ∈ X.pn) (vx : PE X (.Name n p) (tVar j))
    (hb : attributeBase (.Name n p) f X.env (eval (.Name n p) X.env) = eval (.Name n p) X.env := by rfl) : PE X (.Attribute (.Name n p) f pos) (tSx j a dd f none) :=
  PE.imp (pe_xfT (pos := pos) xf hno hz hf hm vx hb) fun σ H Q ⟨h1, fs, v, h2, h3, h4⟩ => ⟨.ref a, h1, rfl, rfl, dd, fs, v, rfl, h2, h3, h4⟩
theorem sx_if {nT : Str} {T : String} (hk : PySem.W.kitOne X.K (.ref C) (.type T) = some true) (xc : ExcC X.K C) (hz : Zc (.ref C) (some dd) oe) (hf : ∃ vs, oe.data = .fields vs) (hm : (a, oe) ∈ X.pn)
    (vx : PE X (.Name n p2) (tVar j)) (gi : Gl X "isinstance") (mi : X.mg "isinstance" = none) (bT : PE X (.Name nT p3) (tC (.ty T))) (h : PE X e1 (tSx j a dd f o)) :
    PE X (.IfExp (.Call (.Name "isinstance" p1) [.Name n p2, .Name nT p3] [] p4) e1 e2 pos) (tSx j a dd f o) := by
  have hc := pt_val (pe_callB (p := p1) (pos := p4) (call_isF xc hz hf hm) gi mi (by decide +kernel) (pa_cons vx (pa_cons bT pa_nil)))
  refine PE.imp (pe_ifExp hc h pe_nvr) fun σ H Q ⟨h1, fs, v, h2, h3, h4⟩ => ?_
  exact ⟨.ref a, h1, .ty T, .type T, true, fs, rfl, fun u hu => hu, hk, h2, true, rfl, h1, fs, v, h2, h3, h4⟩
end
def HdQ (X : Cx) (B : Bs) (cl : XCl) (hds : List ExceptHandler) (hs : DHs) (Wout : WX) : Prop := ∃ l, HdsA X hds l ∧ ∀ (De : L2.Ends) (DD : DEnds) F0 pa0, Rz X.K B F0 pa0 DD De → ∀ c C fl F pa t env σ H d dd, cl c = some (C, fl) → Gr F0 pa0 F pa → Cf X.K B F pa t env σ H → σ.length = X.N.length → RzX X.K F pa H fl d dd → hs c d DD env t → wManyA X.K Wout De l (.ref C) dd σ H
section
variable {X : Cx} {B : Bs} {cl : XCl} {x n : Str} {C0 : Addr} {c0 : Xn} {i j : Nat} {f : Str} {o : Option Str} {st : Stmt} {sts : List Stmt} {np pos' : Pos} {hds : List ExceptHandler} {hs : DHs} {Wout : WX}
theorem hq_nil {Px : PX} (hE : ∀ c C fl F pa t env σ H d dd, cl c = some (C, fl) → Cf X.K B F pa t env σ H → RzX X.K F pa H fl d dd → Px c d t → Wout (.ref C) dd σ H) : HdQ X B cl [] (hNone Px) Wout :=
  ⟨[], .nil, fun De DD F0 pa0 R c C fl F pa t env σ H d dd ec g C' hl r q => hE c C fl F pa t env σ H d dd ec C' r q⟩
theorem hq_none : HdQ X B cl [] (hNone fun _ _ _ => False) (fun _ _ _ _ => False) := hq_nil fun _ _ _ _ _ _ _ _ _ _ _ _ _ _ q => q
theorem hq_set (hc : Names X x (.ref C0)) (ec : cl c0 = some (C0, some f)) (te : ∀ c C fl, cl c = some (C, fl) → PySem.W.exmOne X.K (.ref C) (.ref C0) = some (Xn.is c c0)) (hj : X.N[j]? = some n) (hln : X.env.kindOf n = some .local) (hij : i ≠ j) (hi : i < X.N.length)
    (hset : ∀ (a dd : Addr) (oe : Obj) (pn : List (Addr × Obj)), Zc (.ref C0) (some dd) oe → (∃ vs, oe.data = .fields vs) → PS (X.suite a ((a, oe) :: pn)) st (tAsg (tSx j a dd f o) (L2.gName i)))
    (r : HdQ X B cl hds hs Wout) : HdQ X B cl (.ExceptHandler (some (.Name x np)) (some n) [st] pos' :: hds) (hOn c0 (hSet i j o) hs) Wout := by
  obtain ⟨l, hA, hw⟩ := r
  refine ⟨(.ref C0, some j, fun a cls d D σ H => ∃ dd, cls = .ref C0 ∧ d = some dd ∧ tAsg (tSx j a dd f o) (L2.gName i) D σ H) :: l, .as hj hln hc (fun a oe cls d pn hz hfl => pss_one ⟨fun pins s σ H D I ⟨dd, e1, e2, h⟩ => by subst e1 e2; exact (hset a dd oe pn hz hfl).run pins s σ H D I h⟩) hA, ?_⟩
  intro De DD F0 pa0 R c C fl F pa t env σ H d dd ec1 g C' hl rz q
  have jl : j < X.N.length := (List.getElem?_eq_some_iff.mp hj).1
  have jl2 : j < σ.length := by omega
  refine ⟨_, te c C fl ec1, fun hb a ha => ?_, fun hb => ?_⟩
  · obtain rfl := Xn.is_eq hb
    rw [ec] at ec1
    cases ec1
    have q : hSet i j o d DD env t := by
      have e : hOn c (hSet i j o) hs c d DD env t = hSet i j o d DD env t := by unfold hOn; rw [hb]
      rw [← e]; exact q
    obtain ⟨b, fs, v, rfl, e1, e2, rv⟩ := rz
    have fin : ∀ F' pa' σ' H' v', Gr F0 pa0 F' pa' → Cf X.K B F' pa' t env σ H' → RelD X.K F' pa' (sxD o d) v' → σ' = (σ.set j (some (.ref a))).set i (some v') → De.nx (σ'.set j none) H' := by
      intro F' pa' σ' H' v' g' C2 r2 es
      subst es
      refine R.nx F' pa' t _ _ H' g' ((C2.setV i r2).slots (by simp only [List.length_set]; exact C2.len) fun k sl hk hne => ?_) q
      have kj : k ≠ j := fun e => by
        subst e
        rw [List.getElem?_set_self (by rw [List.length_set]; have := C2.len; omega)] at hk
        cases hk
        exact hne rfl
      rw [List.getElem?_set_ne (Ne.symm kj)] at hk
      refine ⟨hk, ?_⟩
      rw [List.getElem?_set_ne (Ne.symm kj)]
      by_cases ki : k = i
      · subst ki
        rw [List.getElem?_set_self (by rw [List.length_set]; omega), List.getElem?_set_self (by omega)]
      · rw [List.getElem?_set_ne (Ne.symm ki), List.getElem?_set_ne (Ne.symm kj), List.getElem?_set_ne (Ne.symm ki)]
    refine ⟨b, rfl, rfl, by rw [List.getElem?_set_self jl2], fs, v, e1, e2, ?_⟩
    cases o with
    | none => exact fin F pa _ H v g C' rv rfl
    | some m =>
      intro p hp
      obtain ⟨F2, g2, C2, r2⟩ := new_tup C' hp (l := [.str m, d]) (vs := [.str m, v]) (RelL.cons (rD_str _) (RelL.cons rv RelL.nil))
      exact fin F2 pa _ _ _ (g.trans g2) C2 r2 rfl
  · refine hw De DD F0 pa0 R c C fl F pa t env σ H d dd ec1 g C' hl rz ?_
    have e : hOn c0 (hSet i j o) hs c d DD env t = hs c d DD env t := by unfold hOn; rw [hb]
    rw [← e]; exact q
end
section
variable {X : Cx} {B : Bs} {cl : XCl} {dx : DXE} {hs : DHs} {Wout : WX} {h₀ : ExceptHandler} {hds : List ExceptHandler} {call : Expr} {pos rp np : Pos} {x : Str} {i : Nat}
theorem q_tryDrop (hst : X.stack = X.env :: X.outer) (hf : X.env.frame = some X.env.locals) (hN : X.N.Nodup) (tk : Takes X Wout) (hh : HdQ X B cl (h₀ :: hds) hs Wout)
    (hsw : ∀ (pn : List (Addr × Obj)) (xe : Value → Shared → Prop), swapsWith call none rp.line (X.tr pn xe).env = pure false)
    (hcall : ∀ (W : WX) (pn : List (Addr × Obj)) (xe : Value → Shared → Prop), Takes (X.tr pn xe) W → PE (X.tr pn xe) call (teE X.K B cl dx (WE W))) :
    QS X B (.Try [.Expr call rp] (h₀ :: hds) [] [] pos) (dTryE dx kDrop hs) := by
  obtain ⟨l, hA, hw⟩ := hh
  have hp := ps_try_manyA (pos := pos) (tb := fun W => tDrop (teE X.K B cl dx (WE W))) hst hf hN tk (fun W pn xe tk _ => pss_one (ps_expr (hcall W pn xe tk) (hsw pn xe))) hA
  refine ⟨fun pins s σ H D I h0 => hp.run pins s σ H D I ?_⟩
  obtain ⟨F, pa, t, env, DD, Cc, h, R⟩ := h0
  exact ⟨F, pa, t, env, _, _, Cc, h, fun v d F' pa' t' H' g C' r q => R.nx F' pa' t' env σ H' g C' q, fun c C fl d dd F' pa' t' H' ec g C' r q => hw D DD F pa R c C fl F' pa' t' env σ H' d dd ec g C' I.len r q⟩
end
end Q
/-! QO27 -/
namespace Q
open PySem PySem.Spec PyProof.Rows L2
section
variable {X : Cx} {CX : CXT} {k : Nat} {f C : Addr} {fd : FuncData} {ps : List Str} {sp : Sp} {E : L2.St → XK} {x : Str} {p pos : Pos} {e : Expr} {es : List Expr} {t : TA}
theorem run_makeS {pins : List (Addr × Obj)} {σ : L2.St} {H : Hp} {s : Shared} {Q : VK} {us : List Value} {vs : List V} (M : L2.Mk X.K C f) (F : FnOk X.prog X.w X.K X.mg X.base CX k f fd ps sp) (hr : Room (k + 1) X.A) (hb : Binds X.K fd ps [])
    (hx : PassesAt CX X σ (E σ)) (I : Inv X pins σ H s) (r : Vals vs us)
    (h : ∀ x dx, H x = none → H dx = none → dx ≠ x → sp (.ref x :: vs) (upd (upd H dx (.own x)) x (.ins C dx [])) (fun v H2 => v = .non ∧ Q (.ref x) H2) (E σ)) :
    wpAny (model X.prog X.w) X.A (call (.ref C) us) (EP X pins σ Q) X.xe s := by
  have hq := h (s.heap.objs.size + 1) s.heap.objs.size (I.hok.fresh (Nat.le_succ _)) (I.hok.fresh (Nat.le_refl _)) (Nat.ne_of_lt (Nat.lt_succ_self _))
  have I2 := Inv.made (C := C) I
  have r2 : Vals (V.ref (s.heap.objs.size + 1) :: vs) (Value.ref (s.heap.objs.size + 1) :: us) := .cons rfl r
  have hl : (Value.ref (s.heap.objs.size + 1) :: us ++ []).length = ps.length := by
    have e := r2.length
    rw [F.len _ _ _ _ hq] at e
    rw [List.append_nil]
    exact e.symm
  have b := hb _ (Value.ref (s.heap.objs.size + 1) :: us) I2.kIn hl
  rw [List.append_nil] at b
  refine wpAny_call (make_map (f := f) I.kIn M.makes M.init (beq_iff_eq.mp M.fn) (codeAny_mono (F.run _ X.stack _ _ ⟨Value.ref (s.heap.objs.size + 1) :: us, []⟩ (Value.ref (s.heap.objs.size + 1) :: us) _ _ (E σ) (hr.make C us [])
    (I2.env0.make C us []) b r2 hq) fun r s' hq' => ?_))
  cases r with
  | error e => exact hx pins _ _ e s' I2 hq'
  | ok fl =>
    cases fl with
    | ret u =>
      obtain ⟨v, H', I3, rv, ev, q3⟩ := I2.after hq'
      subst ev
      exact ⟨rv, ⟨V.ref (s.heap.objs.size + 1), H', I3, rfl, q3⟩⟩
    | next => exact False.elim hq'
    | brk => exact False.elim hq'
    | cont => exact False.elim hq'
def tMakeS (C : Addr) (sp : Sp) (E : L2.St → XK) (t : TA) : TE := fun σ H Q => t σ H fun vs H1 => ∀ x dx, H1 x = none → H1 dx = none → dx ≠ x → sp (.ref x :: vs) (upd (upd H1 dx (.own x)) x (.ins C dx [])) (fun v H2 => v = .non ∧ Q (.ref x) H2) (E σ)
theorem pe_makeS (M : L2.Mk X.K C f) (F : FnOk X.prog X.w X.K X.mg X.base CX k f fd ps sp) (hr : Room (k + 1) X.A) (hg : Gl X x) (hm : X.mg x = some (.ref C)) (hb : Binds X.K fd ps []) (hx : ∀ σ, PassesAt CX X σ (E σ))
    (ha : PA X (e :: es) t) (hdb : (x == ("__debug__" : Str)) = false := by decide) (he : starEach (e :: es) X.env = (false, eval e X.env) :: starEach es X.env := by rfl) (hpl : (backTo pos (starEach es X.env)).any (·.1) = false := by rfl) :
    PE X (.Call (.Name x p) (e :: es) [] pos) (tMakeS C sp E t) := by
  refine ⟨fun pins s σ H Q I h => ?_⟩
  refine wpAny_Call_Name_kw (ld_glob I hg hm ?_ hdb)
  refine PySem.W.callWith_K (h₀ := X.base) I.ok.mod.kin M.kp (thn (ha.run pos pins s σ H _ I h) fun us s1 ⟨vs, H1, I1, r, q⟩ => ⟨I1.kIn, ?_⟩) he hpl
  exact run_makeS M F hr hb (hx σ) I1 r q
end
end Q
/-! QO28 -/
namespace Q
open PySem L2 PySem.Spec PyProof.Rows LamX
end Q
/-! QO29 -/
namespace Q
open PySem L2 PySem.Spec PyProof.Rows LamX
end Q
/-! QO30 -/
namespace Q
open PySem L2 PySem.Spec PyProof.Rows
end Q
/-! QO31 -/
namespace Q
open PySem L2 PySem.Spec PyProof.Rows PySem.W
end Q
/-! QO32 -/
namespace Q
open PySem PySem.Spec PyProof.Rows L2
inductive Kvs (K : PySem.W.Frag) (d : Addr) : List (Str × D) → Prop
  | nil : Kvs K d []
  | bl {k : Str} {b : Bool} {r : List (Str × D)} : PySem.W.nsIn K d k = some (some (.bool b)) → Kvs K d r → Kvs K d ((k, .bl b) :: r)
  | int {k : Str} {i : Int} {t : Tok} {r : List (Str × D)} : PySem.W.nsIn K d k = some (some (.int i t)) → Kvs K d r → Kvs K d ((k, .int i) :: r)
theorem Kvs.at {K : PySem.W.Frag} {d : Addr} {s : Str} {v : D} : ∀ {l : List (Str × D)}, Kvs K d l → l.lookup s = some v → ∃ u v0, PySem.W.nsIn K d s = some (some u) ∧ RelV v0 u ∧ ∀ F pa, RelD K F pa v v0
  | [], _, h => by cases h
  | _, .bl (k := k) (b := b) (r := r) e h, hl => by
    rw [List.lookup_cons] at hl
    cases hk : (s == k) with
    | true =>
      rw [hk] at hl
      cases hl
      have : s = k := by simpa using hk
      subst this
      exact ⟨_, .bl b, e, rfl, fun F pa => rD_bl _⟩
    | false =>
      rw [hk] at hl
      exact h.at hl
  | _, .int (k := k) (i := i) (t := t) (r := r) e h, hl => by
    rw [List.lookup_cons] at hl
    cases hk : (s == k) with
    | true =>
      rw [hk] at hl
      cases hl
      have : s = k := by simpa using hk
      subst this
      exact ⟨_, .int i, e, ⟨t, rfl⟩, fun F pa => rD_int _⟩
    | false =>
      rw [hk] at hl
      exact h.at hl
end Q
/-! QO33 -/
namespace Q
open PySem L2 PySem.Spec PyProof.Rows L2H
section
variable {X : Cx} {e : Expr} {es : List Expr} {ta : TA} {p pos : Pos}
theorem mk_fxN {pins : List (Addr × Obj)} {σ : L2.St} {H1 H2 : Hp} {hp h2 : Heap} {g g2 : Array GenState} {dr d2 : Drawn} {tk t2 : Nat} {os os2 : OsState} {us : List Value} {C d : Addr} {fs : List (Str × V)} {Q : XK} (I1 : Inv X pins σ H1 ⟨hp, g, dr, tk, os⟩) (hex : Raises X (.ref C))
    (un2 : Un (frs X.stack) [] (upd H1 (hp.objs.size + 1) (exo (hp.objs.size + 1) C none)) H2 ((hp.push (PySem.W.kdv_tup us)).push (PySem.HandSPX.excO C hp.objs.size)) h2) (hok2 : HOk X.prog X.w H2 h2) (os2' : os2 = os) (bare2 : AllBare g2)
    (ea : H2 (hp.objs.size + 1) = some (exo (hp.objs.size + 1) C (some d))) (ed : H2 d = some (exd d fs)) (hd1 : H1 d = none) (q2 : Q (.ref C) (some d) (upd (del H2 (hp.objs.size + 1)) d (.xd fs))) :
    L2N.MkP X pins σ Q (.ref (hp.objs.size + 1)) ⟨h2, g2, d2, t2, os2⟩ ∧ Six (.ref (hp.objs.size + 1)) ⟨h2, g2, d2, t2, os2⟩ := by
  have hsz : hp.objs.size ≤ hp.objs.size + 1 := Nat.le_succ _
  have kk : ∀ b o, hp.get? b = some o → ((hp.push (PySem.W.kdv_tup us)).push (PySem.HandSPX.excO C hp.objs.size)).get? b = some o := fun b o e => Heap.get?_push_of_some _ (Heap.get?_push_of_some _ e)
  obtain ⟨t0, G, J, kG, ge, hoe, na⟩ := mk_end0 (d2 := d2) (t2 := t2) I1 hsz kk un2 hok2 os2' bare2 ea ed hd1
  refine ⟨⟨hp.objs.size + 1, _, _, ⟨G, g2, d2, t2, os2⟩, _, .ref C, some d, rfl, J, kG, ge, hoe, ⟨rfl, rfl, fun vs hv => ?_⟩, rfl, rfl, na, rfl, bare2, hex, q2⟩, fun a oe vs ea2 hg2 hd2 => ?_⟩
  · cases hv
    rfl
  · cases ea2
    have hg3 : h2.get? (hp.objs.size + 1) = some oe := hg2
    rw [hoe] at hg3
    cases hg3
    cases hd2
    show (4 : Nat) < 6
    decide
theorem pmkN_fxG {x : Str} {C fI : Addr} {k : Nat} {fd : FuncData} {ps : List Str} {f : Str} {newId initId : String} {tl : List Value} (FB : FxG newId initId tl) (T : FxC X.K C newId tl) (iC : PySem.W.findIn X.K (.ref C) "__init__" = some (some (.ref fI))) (tI : PySem.W.typeIn X.K (.ref fI) = some (.type "function"))
    (hno : PySem.W.findIn X.K (.ref C) f = some none)
    (F1 : FnOk X.prog X.w X.K X.mg X.base CX0 k fI fd ps (spFx X.K newId tl f)) (hr : Room (k + 1) X.A) (hb : Binds X.K fd ps []) (hx : Passes CX0 X (fun _ _ _ => False)) (hg : Gl X x) (hm : X.mg x = some (.ref C)) (ha : PA X (e :: es) ta)
    (hdb : (x == ("__debug__" : Str)) = false := by decide) (he : starEach (e :: es) X.env = (false, eval e X.env) :: starEach es X.env := by rfl) (hpl : (backTo pos (starEach es X.env)).any (·.1) = false := by rfl) :
    L2N.PMk X (.Call (.Name x p) (e :: es) [] pos) (fun σ H Q => ta σ H fun vs H1 => ∃ y, vs = [y] ∧ ∀ d, H1 d = none → Q (.ref C) (some d) (upd H1 d (.xd [(f, y)]))) := by
  intro pins s σ H Q I h
  obtain ⟨nm, q, N, bs, sn, sub, ab, col, dd, k0, k1, k2, k3, k5, hC⟩ := T.cls
  refine wpAny_Call_Name_kw (ld_glob I hg hm ?_ hdb)
  refine PySem.W.callWith_K (h₀ := X.base) I.ok.mod.kin T.kC (thn (ha.run pos pins s σ H _ I h) fun us s1 ⟨vs, H1, I1, r1, y, ey, q1⟩ => ⟨I1.kIn, ?_⟩) he hpl
  subst ey
  show wpAny _ _ (call (.ref C) us) _ _ _
  obtain ⟨hp, g, dr, tk, os⟩ := s1
  have hsz : hp.objs.size ≤ hp.objs.size + 1 := Nat.le_succ _
  have hn : H1 (hp.objs.size + 1) = none := I1.hok.fresh hsz
  have kk : ∀ b o, hp.get? b = some o → ((hp.push (PySem.W.kdv_tup us)).push (PySem.HandSPX.excO C hp.objs.size)).get? b = some o := fun b o e => Heap.get?_push_of_some _ (Heap.get?_push_of_some _ e)
  have hget : ((hp.push (PySem.W.kdv_tup us)).push (PySem.HandSPX.excO C hp.objs.size)).get? (hp.objs.size + 1) = some (PySem.HandSPX.excO C hp.objs.size) := by heap_get
  have I2 : Inv X pins σ (upd H1 (hp.objs.size + 1) (exo (hp.objs.size + 1) C none)) ⟨(hp.push (PySem.W.kdv_tup us)).push (PySem.HandSPX.excO C hp.objs.size), g, dr, tk, os⟩ :=
    I1.laid (t' := tk) (a := hp.objs.size + 1) (o := exo (hp.objs.size + 1) C none) (h' := (hp.push (PySem.W.kdv_tup us)).push (PySem.HandSPX.excO C hp.objs.size)) kk hsz (exo_ok hget)
  have r2 : Vals (V.ref (hp.objs.size + 1) :: [y]) (Value.ref (hp.objs.size + 1) :: us) := .cons rfl r1
  have hq : spFx X.K newId tl f (V.ref (hp.objs.size + 1) :: [y]) (upd H1 (hp.objs.size + 1) (exo (hp.objs.size + 1) C none)) (fun v H2 => v = .non ∧ ∃ (d : Addr) (fs : List (Str × V)), H2 (hp.objs.size + 1) = some (exo (hp.objs.size + 1) C (some d)) ∧ H2 d = some (exd d fs) ∧ H1 d = none ∧ Q (.ref C) (some d) (upd (del H2 (hp.objs.size + 1)) d (.xd fs))) (fun _ _ _ => False) := by
    refine ⟨_, C, y, rfl, T, hno, upd_same, fun dx n ne => ⟨rfl, dx, [(f, y)], upd_same, by rw [upd_ne ne, upd_same], ?_, ?_⟩⟩
    · rw [upd_ne ne] at n
      exact n
    · rw [fx_heap hn ne]
      rw [upd_ne ne] at n
      exact q1 dx n
  have hl : (Value.ref (hp.objs.size + 1) :: us).length = ps.length := by
    have e := r2.length
    rw [F1.len _ _ _ _ hq] at e
    exact e.symm
  have hus : us.length ≤ sizeLine := by
    rw [← Paired.length r1, sizeLine_eq]
    show 1 ≤ _
    omega
  have bb := hb _ (Value.ref (hp.objs.size + 1) :: us) I2.kIn (by simpa using hl)
  rw [List.append_nil] at bb
  refine wpAny_call (FB.callO (I1.kIn _ _ hC) (PySem.W.looks_findIn I1.kIn iC) (fun self => PySem.W.bind_fn I1.kIn self tI) hus
    (codeAny_mono (F1.run _ X.stack _ _ ⟨Value.ref (hp.objs.size + 1) :: us, []⟩ (Value.ref (hp.objs.size + 1) :: us) _ _ (fun _ _ _ => False) (hr.make C us []) (I2.env0.make C us []) bb r2 hq) fun r s' hq' => ?_))
  cases r with
  | error er => exact hx pins σ _ _ er s' I2 hq'
  | ok fl =>
    cases fl with
    | ret u =>
      obtain ⟨v, H2, os2, bare2, un2, hok2, rv, ev, d, fs, ea, ed, hd1, q2⟩ := hq'
      subst ev
      obtain ⟨h2, g2, d2, t2, os'⟩ := s'
      exact ⟨rv, (mk_fxN I1 (raises_own T.exC T.tyC) un2 hok2 os2 bare2 ea ed hd1 q2).1⟩
    | next => exact False.elim hq'
    | brk => exact False.elim hq'
    | cont => exact False.elim hq'
end
end Q
/-! QO34 -/
namespace Q
open PySem L2 PySem.Spec PyProof.Rows L2H
section
variable {P : Program} {w : World} {K : PySem.W.Frag} {mg : Str → Option Value} {base : Heap}
theorem Fun_okN {x qual : Str} {st : Stmt} {f : Addr} {fd : FuncData} {N ps : List Str} {k : Nat} {sp : Sp} (F : Fun K x qual st f fd) (S : FnScope N ps (defScope st)) (len : ∀ vs H Q E, sp vs H Q E → vs.length = ps.length)
    (hbody : ∀ (cdv : Value) (A : Around) (outer : List PySem.Env) (s : Shared) (H : Hp) (vs : List V) (Q : VK) (E : XK), Room k (A.deeper (envOfC qual (defScope st) s.heap.objs.size f cdv)) → sp vs H Q E →
      ∃ t, PSs (cxOf (L2N.CX P w) P w K mg base N qual (defScope st) f cdv A outer s H E) (defBody st) t ∧ t { nx := fun _ H' => Q .non H', rt := Q } (start N vs) H) : FnOk P w K mg base (L2N.CX P w) (k + 1) f fd ps sp := by
  obtain ⟨oc, od, kV, doc, pm, an, cdv, ct, osl, rfl, lk, hcd⟩ := F.ex
  exact fn_of lk hcd S len fun A outer s H vs Q E hr hsp => hbody cdv A outer s H vs Q E hr hsp
theorem fn_N2 {f : Addr} {fd : FuncData} {ps : List Str} {k : Nat} {sp : Sp} (F : FnOk P w K mg base (L2N.CX P w) k f fd ps sp) : FnOk P w K mg base (L2.CX P w) k f fd ps sp := by
  refine ⟨F.len, fun A outer s H args us vs Q E hr e0 hb r h => codeAny_mono (F.run A outer s H args us vs Q E hr e0 hb r h) fun res s' hq => ?_⟩
  cases res with
  | ok fl =>
    cases fl with
    | ret u => exact hq
    | next => exact False.elim hq
    | brk => exact False.elim hq
    | cont => exact False.elim hq
  | error e =>
    obtain ⟨a, B, H', cls, d, rfl, fl, hok, ub, na, os, ag, hE⟩ := (show L2N.CX P w outer H s E e s' from hq)
    exact ⟨a, B, H', cls, d, rfl, flyingZ_imp (fun o z => z.zc) fl, hok, ub, na, os, ag, hE⟩
end
def liftIE (K : PySem.W.Frag) (cl : XCl) (C : Addr) (sp : PSpE) : Sp := fun vs H Q E => ∃ x dx us F pa t ds P Px, vs = .ref x :: us ∧ H x = some (.ins C dx []) ∧ F x = none ∧ pa ≠ some x ∧ t.obs x = none ∧ Cf K (B0 F pa t H) F pa t [] [] H ∧ RelL K F pa ds us ∧ sp ds t P Px ∧
  (∀ h d F' pa' t' H', Cf K (BI F pa t H x) F' pa' t' [] [] H' → F' x = none → pa' ≠ some x → t'.obs x = none → H' x = some h → RelO1 K F' pa' d h → P d t' → Q .non H') ∧
  ∀ c Ca fl d dd F' pa' t' H', cl c = some (Ca, fl) → Cf K (BI F pa t H x) F' pa' t' [] [] H' → pa' ≠ some x → RzX K F' pa' H' fl d dd → Px c d t' → E (.ref Ca) dd H'
section
variable {K : PySem.W.Frag}
theorem bi_out {F1 F' H1 H2 H' : Hp} {pa1 pa' : Option Addr} {t0 t' : Ts} {x : Addr} (hx : H1 x = none) (up : ∀ a o, H1 a = some o → H2 a = some o) (W' : Cf K (BI F1 pa1 t0 H2 x) F' pa' t' [] [] H') (n2 : pa' ≠ some x) : Cf K (B0 F1 pa1 t0 H1) F' pa' t' [] [] H' := by
  refine ⟨rfl, W'.sub, W'.bas, fun a o e hp ho => ?_, fun a o e => ?_, fun a ha => ?_, W'.val, fun i d e => by simp at e, W'.sep, fun a e => ?_, W'.pnn, TabF.nil, W'.ntb, fun a d q => ?_, W'.obx, fun i d a e => by simp at e⟩
  · refine W'.frm a o (up a o e) (fun z => ?_) ho
    rcases List.mem_cons.mp z with z | z
    · exact absurd z (ne_of_none e hx)
    · exact hp z
  · rcases W'.new a o e with z | z
    · exact .inl z
    · refine .inr ?_
      cases q : H1 a with
      | none => exact q
      | some u => rw [show (BI F1 pa1 t0 H2 x).H a = H2 a from rfl, up a u q] at z; cases z
  · exact W'.exl a (List.mem_cons_of_mem _ ha)
  · obtain ⟨h1, h2, h3⟩ := W'.pen a e
    refine ⟨h1, h2, ?_⟩
    rcases h3 with z | z
    · rcases List.mem_cons.mp z with z | z
      · exact absurd (by rw [e, z]) n2
      · exact .inl z
    · refine .inr ?_
      cases q : H1 a with
      | none => exact q
      | some u => rw [show (BI F1 pa1 t0 H2 x).H a = H2 a from rfl, up a u q] at z; cases z
  · obtain ⟨h1, h2, h3, h4, h5⟩ := W'.obs a d q
    refine ⟨h1, h2, h3, ?_, h5⟩
    rcases h4 with z | z
    · exact .inl z
    · refine .inr ?_
      cases q : H1 a with
      | none => exact q
      | some u => rw [show (BI F1 pa1 t0 H2 x).H a = H2 a from rfl, up a u q] at z; cases z
end
section
variable {X : Cx} {B : Bs} {cl : XCl} {sp : PSpE} {as : DA} {E : L2.St → XK} {e : Expr} {es : List Expr} {CX : CXT} {k : Nat} {fa Cl : Addr} {fd : FuncData} {ps : List Str} {x : Str} {p pos : Pos}
theorem z_makeI (M : L2.Mk X.K Cl fa) (F : FnOk X.prog X.w X.K X.mg X.base CX k fa fd ps (liftIE X.K cl Cl sp)) (hr : Room (k + 1) X.A) (hg : Gl X x) (hm : X.mg x = some (.ref Cl)) (hb : Binds X.K fd ps []) (hx : ∀ σ, PassesAt CX X σ (E σ))
    (ha : QA X B (e :: es) as) (hdb : (x == ("__debug__" : Str)) = false := by decide) (he : starEach (e :: es) X.env = (false, eval e X.env) :: starEach es X.env := by rfl) (hpl : (backTo pos (starEach es X.env)).any (·.1) = false := by rfl) :
    PE X (.Call (.Name x p) (e :: es) [] pos) (teE X.K B cl (zCall sp as) E) := PE.imp (pe_makeS M F hr hg hm hb hx ha hdb he hpl) fun σ H Q ⟨F, pa, t, env, P, Px, W, h, k, kx⟩ =>
  ⟨F, pa, t, env, _, W, h, fun vs xs F1 pa1 t1 H1 g1 W1 r1 q1 y dx hy hdx hne => by
    have hy2 : upd H1 dx (.own y) y = none := by rw [upd_ne (Ne.symm hne)]; exact hy
    have W2 := (W1.loose (.own y) hdx).loose (.ins Cl dx []) hy2
    obtain ⟨hF, hB, _⟩ := W1.fresh hy
    have nw := W1.nw hy
    have up : ∀ a o, H1 a = some o → upd (upd H1 dx (.own y)) y (.ins Cl dx []) a = some o := fun a o e => by
      rw [upd_ne (ne_of_none e hy), upd_ne (ne_of_none e hdx)]; exact e
    refine ⟨y, dx, _, F1, pa1, t1, xs, P, Px, rfl, upd_same, hF, nw.a, nw.o, W2.call, r1, q1, fun hh d F' pa' t' H' W' n1 n2 n4 e' r' q' => ⟨rfl, ?_⟩, fun c Ca fl d dd F' pa' t' H' ec W' n2 rz q' => ?_⟩
    · obtain ⟨g, W4⟩ := W1.after (bi_out hy up W' n2)
      have n : Nw B F' pa' t' env σ y := ⟨n1, hB, n2, nw.s, n4⟩
      obtain ⟨g', C2⟩ := W4.frz n e' r'.ntb
      exact k (.ref y) d _ pa' t' H' ((g1.trans g).trans g') C2 (RelO1.rel (RelO1.mono g' d hh r') upd_same) q'
    · obtain ⟨g, W4⟩ := W1.after (bi_out hy up W' n2)
      exact kx c Ca fl d dd F' pa' t' H' ec (g1.trans g) W4 rz q'⟩
end
def tiB (K : PySem.W.Frag) (Cl' : Addr) (O : Addr → Prop) (F0 H0 : Hp) (x : Addr) (ds : IS) : TS := fun D σ H => ∃ ns l F t env k, Is K O F0 H0 x Cl' ns l F t env σ H ∧ ds k ns l env t ∧
  ∀ ns' l' F' t' env' σ' H', Is K O F0 H0 x Cl' ns' l' F' t' env' σ' H' → k ns' l' env' t' → D.nx σ' H'
section
variable {X : Cx} {Cl' : Addr} {O : Addr → Prop} {F0 H0 : Hp} {xa : Addr} {st : Stmt} {sts : List Stmt} {a b : IS} {c : Expr} {dt : DT} {pos : Pos}
theorem i_B (h : PSs X sts (tiS X.K Cl' a)) : PSs X sts (tiB X.K Cl' O F0 H0 xa a) := PSs.imp h fun D σ H ⟨ns, l, F, t, env, k, S, h, R⟩ => ⟨O, F0, H0, xa, ns, l, F, t, env, k, S, h, R⟩
theorem i_consB (h1 : PS X st (tiB X.K Cl' O F0 H0 xa a)) (h2 : PSs X sts (tiB X.K Cl' O F0 H0 xa b)) : PSs X (st :: sts) (tiB X.K Cl' O F0 H0 xa (iThen a b)) :=
  PSs.imp (pss_cons h1 h2) fun D σ H ⟨ns, l, F, t, env, k, S, h, R⟩ => ⟨ns, l, F, t, env, _, S, h, fun ns' l' F' t' env' σ' H' S' h' => ⟨ns', l', F', t', env', k, S', h', R⟩⟩
theorem i_guardX {W : WX} {Px : PX} {c0 : Xn} {Ca : Addr} {f m : Str} {e : Expr} {rp : Pos} (hcm : X.calm = true) (tk : L2N.Takes X W)
    (hE : ∀ ns l F t env σ H dd, Is X.K O F0 H0 xa Cl' ns l F t env σ H → H dd = none → Px c0 (.str m) t → W (.ref Ca) (some dd) σ (upd H dd (.xd [(f, .str m)])))
    (mk : L2N.PMk X e (fun σ H Q => (tCons (tC (.str m)) tNil) σ H fun vs H1 => ∃ y, vs = [y] ∧ ∀ d, H1 d = none → Q (.ref Ca) (some d) (upd H1 d (.xd [(f, y)]))))
    (hc : ∀ B, QT X B c dt) : PS X (.If c [.Raise (some e) none rp] [] pos) (tiB X.K Cl' O F0 H0 xa (iGuardX dt c0 m Px)) :=
  PS.imp (ps_if (tc := ttU X.K dt) ⟨fun pins s σ H Q I ⟨B, q⟩ => (hc B).run pins s σ H Q I q⟩ (pss_one (L2N.ps_raise hcm tk mk)) pss_nil) fun D σ H ⟨ns, l, F, t, env, k, S, h, R⟩ =>
    ⟨B0 F none t H, F, none, t, env, _, S.c.here S.nov, h, fun kb F' pa' t' H' g C q => by
      obtain ⟨rfl, S'⟩ := S.step C
      cases kb with
      | true => exact ⟨.str m, rfl, fun d hd => hE ns l F' t' env σ H' d S' hd q⟩
      | false => exact R ns l F' t' env σ H' S' q⟩
end
section
variable {P : Program} {w : World} {K : PySem.W.Frag} {mg : Str → Option Value} {base : Heap}
theorem is_end {F : Hp} {pa : Option Addr} {t : Ts} {H : Hp} {x C' : Addr} {ns' : List Str} {l' : List D} {F' H' : Hp} {env' : En} {σ' : L2.St} (C : Cf K (B0 F pa t H) F pa t [] [] H) (h2 : pa ≠ some x) (S' : Is K t.dom F H x C' ns' l' F' t env' σ' H') : Cf K (BI F pa t H x) F' pa t [] [] H' := by
  obtain ⟨dx', vs', e1, e2, e3⟩ := S'.ins
  have kp : ∀ a o, H a = some o → a ≠ x → ¬ t.dom a → H' a = some o := fun a o e ne ho => S'.c.frm a o e (fun z => ne (List.mem_singleton.mp z)) ho
  refine ⟨rfl, S'.c.sub, S'.c.bas, fun a o e hp ho => ?_, S'.c.new, fun a ha => ?_, fun i d e => by simp at e, fun i d e => by simp at e, fun i j d e a q => by simp at q, fun a e => ?_, rfl, TabF.nil, S'.c.ntb, fun a d q => by
      obtain ⟨h1, ⟨u, h2, h3⟩, _, h5, h6⟩ := S'.c.obs a d q
      exact ⟨h1, ⟨u, h2, RelO1.up h3⟩, (C.obs a d q).2.2.1, h5, h6⟩, S'.c.obx, fun i d a e => by simp at e⟩
  · exact kp a o e (fun z => hp (by rw [z]; exact List.mem_cons_self ..)) ho
  · rcases List.mem_cons.mp ha with z | z
    · rw [z]; exact ⟨_, e1⟩
    · obtain ⟨o, e⟩ := C.exl a z
      by_cases hax : a = x
      · rw [hax]; exact ⟨_, e1⟩
      · by_cases hd : t.dom a
        · obtain ⟨d, q⟩ := hd
          obtain ⟨_, ⟨u, q2, _⟩, _⟩ := S'.c.obs a d q
          exact ⟨u, q2⟩
        · exact ⟨o, kp a o e hax hd⟩
  · obtain ⟨h3, ⟨h, h4, h5⟩, h6⟩ := C.pen a e
    have hax : a ≠ x := fun z => h2 (by rw [← z]; exact e)
    refine ⟨?_, ⟨h, kp a h h4 hax (fun ⟨d, q⟩ => (C.obs a d q).2.2.1 e), h5.mono S'.c.bas⟩, .inl (List.mem_cons_of_mem _ (mem_pa.mpr e))⟩
    cases q2 : F' a with
    | none => rfl
    | some o =>
      rcases S'.c.new a o q2 with ⟨o', z⟩ | z
      · rw [show (BX t.dom F H x).F a = F a from rfl, h3] at z; cases z
      · rw [show (BX t.dom F H x).H a = H a from rfl, h4] at z; cases z
theorem fn_okIE {x qual : Str} {st : Stmt} {f C' : Addr} {cl : XCl} {fd : FuncData} {n : Str} {N ps : List Str} {k : Nat} {sp : PSpE} {ds : PX → IS} (Fu : Fun K x qual st f fd) (S : FnScope (n :: N) ps (defScope st)) (len : ∀ as t Q Px, sp as t Q Px → as.length + 1 = ps.length)
    (hnp : ∀ as t Q Px, sp as t Q Px → nopens as = true)
    (hbody : ∀ (cdv : Value) (A : Around) (outer : List PySem.Env) (s : Shared) (H : Hp) (E : XK) (O : Addr → Prop) (F0 H0 : Hp) (xa : Addr) (Px : PX), Room k (A.deeper (envOfC qual (defScope st) s.heap.objs.size f cdv)) →
      (∀ c0 m Ca fl ns l F t env σ H dd, cl c0 = some (Ca, some fl) → Is K O F0 H0 xa C' ns l F t env σ H → H dd = none → Px c0 (.str m) t → E (.ref Ca) (some dd) (upd H dd (.xd [(fl, .str m)]))) →
      PSs (cxOf (L2N.CX P w) P w K mg base (n :: N) qual (defScope st) f cdv A outer s H E) (defBody st) (tiB K C' O F0 H0 xa (ds Px)))
    (hds : ∀ as t Q Px x, sp as t Q Px → ds (fun c d t' => t' = t ∧ Px c d t) (fun ns l env t' => t' = t ∧ Q (.ins C' ns l) t) [] [] (startI x N as) t) : FnOk P w K mg base (L2N.CX P w) (k + 1) f fd ps (liftIE K cl C' sp) := by
  refine Fun_okN Fu S (fun vs H Q E h => ?_) (fun cdv A outer s H vs Q E hr h => ?_)
  · obtain ⟨x, dx, us, F, pa, t, as, R, Px, rfl, hx, h1, h2, h3, C, r, q, _⟩ := h
    rw [List.length_cons, r.len]; exact len as t R Px q
  · obtain ⟨x, dx, us, F, pa, t, as, R, Px, rfl, hx, h1, h2, hox, C, r, q, fin, finx⟩ := h
    refine ⟨_, hbody cdv A outer s H E t.dom F H x (fun c d t' => t' = t ∧ Px c d t) hr (fun c0 m Ca fl ns l F' t' env σ H' dd ec S' hd px => ?_), [], [], F, t, startI x N as, _, is_start C hox (hnp as t R Px q) r hx h1, hds as t R Px x q, fun ns' l' F' t' env' σ' H' S' h' => ?_⟩
    · obtain ⟨rfl, px⟩ := px
      exact finx c0 Ca (some fl) (.str m) (some dd) F' pa _ _ ec ((is_end C h2 S').loose _ hd) h2 ⟨dd, [(fl, .str m)], .str m, rfl, upd_same, by simp [List.lookup], rD_str m⟩ px
    · obtain ⟨rfl, h'⟩ := h'
      obtain ⟨dx', vs', e1, e2, e3⟩ := S'.ins
      exact fin _ (.ins C' ns' l') F' pa t' H' (is_end C h2 S') S'.f h2 S'.o e1 ⟨dx', vs', rfl, e2, RelL.up l' vs' e3⟩ h'
end
end Q
/-! QO35 -/
namespace Q
open PySem L2 PySem.Spec PyProof.Rows LamX
section
variable {P : Program} {w : World} {K : PySem.W.Frag} {mg : Str → Option Value} {base : Heap}
theorem fn_plainIE {f C : Addr} {cl : XCl} {fd : FuncData} {ps : List Str} {k : Nat} {sp : PSpE} (F : FnOk P w K mg base (L2N.CX P w) k f fd ps (liftIE K cl C sp)) : FnOk P w K mg base CX0 k f fd ps (liftI K C (spNoE sp)) := by
  refine ⟨fun vs H Q E h => ?_, fun A outer s H args us vs Q E hr e0 hb r h => ?_⟩
  · obtain ⟨x, dx, vr, F1, pa, t, ds, P1, ev, e1, e2, e3, e4, Cc, rl, q, fin⟩ := h
    exact F.len vs H Q (fun _ _ _ => False) ⟨x, dx, vr, F1, pa, t, ds, P1, _, ev, e1, e2, e3, e4, Cc, rl, q, fin, fun _ _ _ _ _ _ _ _ _ _ _ _ _ z => z⟩
  · obtain ⟨x, dx, vr, F1, pa, t, ds, P1, ev, e1, e2, e3, e4, Cc, rl, q, fin⟩ := h
    refine codeAny_mono (F.run A outer s H args us vs Q (fun _ _ _ => False) hr e0 hb r ⟨x, dx, vr, F1, pa, t, ds, P1, _, ev, e1, e2, e3, e4, Cc, rl, q, fin, fun _ _ _ _ _ _ _ _ _ _ _ _ _ z => z⟩) fun res s' hq => ?_
    cases res with
    | ok fl =>
      cases fl with
      | ret u => exact hq
      | next => exact False.elim hq
      | brk => exact False.elim hq
      | cont => exact False.elim hq
    | error e =>
      obtain ⟨_, _, _, _, _, _, _, _, _, _, _, _, z⟩ := (show L2N.CX P w outer H s (fun _ _ _ => False) e s' from hq)
      first | done | exact z.elim
end
end Q
/-! QO36 -/
namespace Q
open PySem L2 PySem.Spec PyProof.Rows
end Q
/-! QO37 -/
namespace Q
open PySem PySem.Spec PyProof.Rows L2
end Q
/-! QO38 -/
namespace Q
open PySem L2 PySem.Spec PyProof.Rows
end Q
/-! QO39 -/
namespace Q
open PySem L2 PySem.Spec PyProof.Rows
end Q
/-! QO40 -/
namespace Q
open PySem L2 PySem.Spec PyProof.Rows L2H
end Q
/-! QO41 -/
namespace Q
open PySem PySem.Spec PyProof.Rows L2
end Q
/-! QO42 -/
namespace Q
open PySem PySem.Spec PyProof.Rows L2
end Q
/-! QO43 -/
namespace Q
open PySem L2 PySem.Spec PyProof.Rows
end Q
/-! QO44 -/
namespace Q
open PySem L2 PySem.Spec PyProof.Rows
def Bs.take (B : Bs) (A : Addr) : Bs := ⟨B.F, B.H, A :: B.ex, B.pn, B.m, B.T, fun a => B.O a ∧ a ≠ A⟩
section
variable {K : PySem.W.Frag} {B : Bs} {F F' : Hp} {pa pa' : Option Addr} {t t' : Ts} {env : En} {σ : L2.St} {H H' : Hp}
theorem Cf.slotA (C : Cf K B F pa t env σ H) {i : Nat} {A : Addr} (hi : env[i]? = some (Sl.val (.adr A))) : σ[i]? = some (some (V.ref A)) := by
  obtain ⟨v, h1, h2⟩ := C.val i _ hi
  unfold RelD at h2
  rw [h1, h2]
theorem Cf.take (C : Cf K B F pa t env σ H) {i : Nat} {A : Addr} {d : D} (hi : env[i]? = some (Sl.val (.adr A))) (q : t.obs A = some d) : Cf K (B.take A) F pa (t.del A) (env.set i (.own d)) σ H := by
  obtain ⟨f0, ⟨h0, e0, r0⟩, p0, x0, np⟩ := C.obs A d q
  have sA := C.slotA hi
  refine ⟨by simp [C.len], C.sub, C.bas, fun a o e hx hO => C.frm a o e (fun z => hx (List.mem_cons_of_mem _ z)) fun z => hO ⟨z, fun y => hx (by rw [y]; exact List.mem_cons_self ..)⟩, C.new, fun a ha => ?_, fun j e hj => ?_, fun j e hj => ?_, fun j m e e' a hj hm s1 s2 => ?_, fun a e => ?_, C.pnn, C.tab, C.ntb, fun a e z => ?_, fun a z => ?_, fun j e a hj s1 => ?_⟩
  · rcases List.mem_cons.mp ha with rfl | ha
    · exact ⟨_, e0⟩
    · exact C.exl a ha
  · rcases get_set hj with ⟨_, z⟩ | ⟨ne, z⟩
    · cases z
    · exact C.val j e z
  · rcases get_set hj with ⟨rfl, z⟩ | ⟨ne, z⟩
    · cases z
      exact ⟨A, h0, sA, e0, r0, f0, p0, .inl (List.mem_cons_self ..)⟩
    · obtain ⟨a, h, h1, h2, h3, h4, h5, h6⟩ := C.own j e z
      exact ⟨a, h, h1, h2, h3, h4, h5, h6.imp (List.mem_cons_of_mem _) id⟩
  · rcases get_set hj with ⟨rfl, z⟩ | ⟨ne, z⟩
    · rcases get_set hm with ⟨rfl, z2⟩ | ⟨ne2, z2⟩
      · rfl
      · rw [sA] at s1; cases s1
        rw [C.osp m e' A z2 s2] at q; cases q
    · rcases get_set hm with ⟨rfl, z2⟩ | ⟨ne2, z2⟩
      · rw [sA] at s2; cases s2
        rw [C.osp j e A z s1] at q; cases q
      · exact C.sep j m e e' a z z2 s1 s2
  · obtain ⟨h1, h2, h3⟩ := C.pen a e
    exact ⟨h1, h2, h3.imp (List.mem_cons_of_mem _) id⟩
  · by_cases ha : a = A
    · rw [ha, Ts.del_same] at z; cases z
    · rw [Ts.del_ne _ ha] at z
      obtain ⟨h1, h2, h3, h4, h5⟩ := C.obs a e z
      exact ⟨h1, h2, h3, h4.imp (fun y => ⟨y, ha⟩) id, h5⟩
  · obtain ⟨z1, z2⟩ := z
    rw [Ts.del_ne _ z2]
    exact C.obx a z1
  · by_cases ha : a = A
    · rw [ha]; exact Ts.del_same ..
    · rw [Ts.del_ne _ ha]
      rcases get_set hj with ⟨rfl, z⟩ | ⟨ne, z⟩
      · rw [sA] at s1; cases s1; exact absurd rfl ha
      · exact C.osp j e a z s1
theorem Cf.give (C : Cf K B F pa t env σ H) {i : Nat} {A : Addr} {d : D} (hi : env[i]? = some (Sl.val (.adr A))) (q : t.obs A = some d) (C' : Cf K (B.take A) F' pa' t' (env.set i (.own d)) σ H') : Cf K B F' pa' (t'.put A d) env σ H' := by
  obtain ⟨f0, ⟨h0, e0, r0⟩, p0, x0, np⟩ := C.obs A d q
  have sA := C.slotA hi
  have il : i < env.length := (List.getElem?_eq_some_iff.mp hi).1
  have oi : (env.set i (Sl.own d))[i]? = some (Sl.own d) := by rw [List.getElem?_set_self il]
  have up : ∀ {j : Nat} {s : Sl}, env[j]? = some s → j ≠ i → (env.set i (Sl.own d))[j]? = some s := fun h ne => by rw [List.getElem?_set_ne (Ne.symm ne)]; exact h
  obtain ⟨a1, h1, s1, e1, r1, f1, p1, x1⟩ := C'.own i d oi
  rw [sA] at s1; cases s1
  have nA : ∀ {j : Nat} {e : D} {a : Addr}, env[j]? = some (Sl.own e) → σ[j]? = some (some (V.ref a)) → j ≠ i ∧ a ≠ A := fun {j e a} hj hs => by
    have ne : j ≠ i := fun z => by rw [z, hi] at hj; cases hj
    refine ⟨ne, fun z => ne ?_⟩
    rw [z] at hs
    exact C'.sep j i e d A (up hj ne) oi hs sA
  refine ⟨by simpa using C'.len, C'.sub, C'.bas, fun a o e hx hO => ?_, C'.new, fun a ha => C'.exl a (List.mem_cons_of_mem _ ha), fun j e hj => ?_, fun j e hj => ?_, fun j m e e' a hj hm s1 s2 => C'.sep j m e e' a (up hj (nA hj s1).1) (up hm (nA hm s2).1) s1 s2, fun a e => ?_, C'.pnn, C'.tab, C'.ntb, fun a e z => ?_, fun a z => ?_, fun j e a hj s1 => ?_⟩
  · refine C'.frm a o e (fun z => ?_) (fun z => hO z.1)
    rcases List.mem_cons.mp z with rfl | z
    · rcases x0 with y | y
      · exact hO y
      · rw [y] at e; cases e
    · exact hx z
  · by_cases ne : j = i
    · subst ne
      rw [hi] at hj
      cases hj
      exact ⟨_, sA, by unfold RelD; rfl⟩
    · exact C'.val j e (up hj ne)
  · have ne : j ≠ i := fun z => by rw [z, hi] at hj; cases hj
    obtain ⟨a, h, h1, h2, h3, h4, h5, h6⟩ := C'.own j e (up hj ne)
    refine ⟨a, h, h1, h2, h3, h4, h5, ?_⟩
    rcases h6 with z | z
    · rcases List.mem_cons.mp z with z | z
      · exact absurd z (nA hj h1).2
      · exact .inl z
    · exact .inr z
  · obtain ⟨h1, h2, h3⟩ := C'.pen a e
    refine ⟨h1, h2, ?_⟩
    rcases h3 with z | z
    · rcases List.mem_cons.mp z with z | z
      · rw [z] at e; exact absurd e p1
      · exact .inl z
    · exact .inr z
  · by_cases ha : a = A
    · subst ha
      rw [Ts.put_same] at z
      cases z
      exact ⟨f1, ⟨h1, e1, r1⟩, p1, x0, np⟩
    · rw [Ts.put_ne _ _ ha] at z
      obtain ⟨y1, y2, y3, y4, y5⟩ := C'.obs a e z
      exact ⟨y1, y2, y3, y4.imp (fun y => y.1) id, y5⟩
  · by_cases ha : a = A
    · exact ⟨d, by rw [ha]; exact Ts.put_same ..⟩
    · rw [Ts.put_ne _ _ ha]
      exact C'.obx a ⟨z, ha⟩
  · obtain ⟨ne, na⟩ := nA hj s1
    rw [Ts.put_ne _ _ na]
    exact C'.osp j e a (up hj ne) s1
end
section
variable {X : Cx} {B : Bs} {e : Expr} {de : DE} {dt : DT} {i : Nat}
theorem q_ownE (h : ∀ B', QE X B' e de) : QE X B e (dOwnE i de) :=
  PE.imp (t := fun σ H Q => ∃ B', teOf X.K B' de σ H Q) ⟨fun pins s σ H Q I ⟨B', q⟩ => (h B').run pins s σ H Q I q⟩ fun σ H Q ⟨F, pa, t, env, P, C, hd, k⟩ => by
    unfold dOwnE at hd
    split at hd
    · rename_i A hi
      obtain ⟨d, q, hd⟩ := hd
      exact ⟨B.take A, F, pa, _, _, _, C.take hi q, hd, fun v x F' pa' t' H' g C' r p => k v x F' pa' _ H' g (C.give hi q C') r p⟩
    · exact ⟨B, F, pa, t, env, P, C, hd, k⟩
theorem q_ownN (h : ∀ B', QN X B' e de) : QN X B e (dOwnE i de) :=
  PE.imp (t := fun σ H Q => ∃ B', tnOf X.K B' de σ H Q) ⟨fun pins s σ H Q I ⟨B', q⟩ => (h B').run pins s σ H Q I q⟩ fun σ H Q ⟨F, pa, t, env, P, C, hd, k⟩ => by
    unfold dOwnE at hd
    split at hd
    · rename_i A hi
      obtain ⟨d, q, hd⟩ := hd
      refine ⟨B.take A, F, pa, _, _, _, C.take hi q, hd, fun p hh x F' pa' t' H' g C' n e1 r1 q1 => k p hh x F' pa' _ H' g (C.give hi q C') ?_ e1 r1 q1⟩
      have il : i < env.length := (List.getElem?_eq_some_iff.mp hi).1
      have np : p ≠ A := fun z => n.s i d (by rw [List.getElem?_set_self il]) (by rw [z]; exact C.slotA hi)
      refine ⟨n.f, n.b, n.a, fun j x hj => ?_, by rw [Ts.put_ne _ _ np]; exact n.o⟩
      have ne : j ≠ i := fun z => by rw [z, hi] at hj; cases hj
      exact n.s j x (by rw [List.getElem?_set_ne (Ne.symm ne)]; exact hj)
    · exact ⟨B, F, pa, t, env, P, C, hd, k⟩
theorem keepE_len {js : List Nat} : ∀ {env : En} {k : Nat}, (keepE js k env).length = env.length
  | [], _ => rfl
  | s :: e, k => by simp [keepE, keepE_len (env := e) (k := k + 1)]
theorem keepE_at {js : List Nat} : ∀ {env : En} {k j : Nat} {s : Sl}, (keepE js k env)[j]? = some s → (∃ d, s = .val d ∧ env[j]? = some (.val d) ∧ k + j ∈ js) ∨ s = .no
  | [], k, j, s, h => by simp [keepE] at h
  | u :: e, k, 0, s, h => by
    simp only [keepE, List.getElem?_cons_zero, Option.some.injEq] at h
    split at h
    · rename_i hc
      split at h
      · exact .inl ⟨_, h.symm, rfl, by simpa using hc⟩
      · exact .inr h.symm
    · exact .inr h.symm
  | u :: e, k, j + 1, s, h => by
    simp only [keepE, List.getElem?_cons_succ] at h
    rcases keepE_at h with ⟨d, h1, h2, h3⟩ | h
    · exact .inl ⟨d, h1, by simpa using h2, by rw [show k + (j + 1) = k + 1 + j by omega]; exact h3⟩
    · exact .inr h
theorem rel_scal {K : PySem.W.Frag} {F F' : Hp} {pa pa' : Option Addr} {x : D} {v : V} (s : scalD x = true) (r : RelD K F pa x v) : RelD K F' pa' x v := by
  cases x with
  | bl _ => unfold RelD at r ⊢; exact r
  | int _ => unfold RelD at r ⊢; exact r
  | str _ => unfold RelD at r ⊢; exact r
  | non => unfold RelD at r ⊢; exact r
  | _ => cases s
theorem q_lendN {js : List Nat} (h : ∀ B', QE X B' e de) : QE X B e (dLendN i js de) :=
  PE.imp (t := fun σ H Q => ∃ B', teOf X.K B' de σ H Q) ⟨fun pins s σ H Q I ⟨B', q⟩ => (h B').run pins s σ H Q I q⟩ fun σ H Q ⟨F, pa, t, env, P, C, hd, k⟩ => by
    unfold dLendN at hd
    split at hd
    · rename_i l hi
      obtain ⟨⟨hn, hj⟩, hd⟩ := hd
      obtain ⟨a, h0, hs, e0, r0, f0, p0, x0⟩ := C.own i _ hi
      obtain ⟨vs, rfl, rl⟩ : ∃ vs, h0 = .lst vs ∧ RelL X.K F pa l vs := r0
      have g1 : Gr F none (upd F a (.lst vs)) none := ⟨Gf.upd f0, rfl⟩
      have C1 : Cf X.K (B0 (upd F a (.lst vs)) none t.bare H) (upd F a (.lst vs)) none t.bare ((keepE js 0 env).set i (.val (.lst l))) σ H := by
        refine ⟨by simp [C.len, keepE_len], fun b o q => ?_, fun _ _ q => q, fun b o q _ _ => q, fun b o q => .inl ⟨o, q⟩, fun b hb => (by cases hb), fun j d q => ?_, fun j d q => ?_, fun j m d d' b q _ _ _ => ?_, fun b q => (by cases q), rfl, TabF.nil, fun b ps q => by
          by_cases hb : b = a
          · subst hb; rw [upd_same] at q; simp at q
          · rw [upd_ne hb] at q; exact C.ntb b ps q, fun b d q => (nomatch q), fun b ⟨d, q⟩ => (nomatch q), fun j d b q s => rfl⟩
        · by_cases hb : b = a
          · subst hb; rw [upd_same] at q; cases q; exact e0
          · rw [upd_ne hb] at q; exact C.sub b o q
        · rcases get_set q with ⟨rfl, z⟩ | ⟨ne, z⟩
          · cases z
            exact ⟨.ref a, hs, RelO1.rel (d := .lst l) ⟨vs, rfl, RelL.mono g1 _ _ (RelL.un _ _ hn rl)⟩ upd_same⟩
          · rcases keepE_at z with ⟨d', z1, z2, z3⟩ | z
            · cases z1
              obtain ⟨v, h1, h2⟩ := C.val j d z2
              exact ⟨v, h1, RelD.mono g1 d v (RelD.un _ _ (hj j (by simpa using z3) d z2) h2)⟩
            · cases z
        · rcases get_set q with ⟨_, z⟩ | ⟨ne, z⟩
          · cases z
          · rcases keepE_at z with ⟨d', z1, _⟩ | z
            · cases z1
            · cases z
        · rcases get_set q with ⟨_, z⟩ | ⟨ne, z⟩
          · cases z
          · rcases keepE_at z with ⟨d', z1, _⟩ | z
            · cases z1
            · cases z
      refine ⟨_, _, none, t.bare, _, _, C1, hd, fun v r F' pa' t' H' g' C' rr pr => ?_⟩
      obtain ⟨sc, pr⟩ := pr
      have kp : ∀ b o, H b = some o → H' b = some o := fun b o q => C'.frm b o q (fun z => (by cases z)) (fun ⟨d, z⟩ => by cases z)
      -- what is frozen then, without the lent list
      have pick : ∀ {b : Addr} {o : HO}, (if b = a then none else F' b) = some o → b ≠ a ∧ F' b = some o := fun {b o} q => by
        by_cases nb : b = a
        · rw [if_pos nb] at q; cases q
        · rw [if_neg nb] at q; exact ⟨nb, q⟩
      have nw : ∀ b o, F' b = some o → b ≠ a → (∃ o', F b = some o') ∨ H b = none := fun b o q nb => by
        rcases C'.new b o q with ⟨o', y⟩ | y
        · have y : upd F a (.lst vs) b = some o' := y
          rw [upd_ne nb] at y
          exact .inl ⟨o', y⟩
        · exact .inr y
      have out : ∀ b o, H b = some o → F b = none → (if b = a then none else F' b : Option HO) = none := fun b o q f => by
        cases qq : (if b = a then none else F' b : Option HO) with
        | none => rfl
        | some u =>
          obtain ⟨nb, q2⟩ := pick qq
          rcases nw b u q2 nb with ⟨o', y⟩ | y
          · rw [f] at y; cases y
          · rw [q] at y; cases y
      have g2 : Gr F pa (fun b => if b = a then none else F' b) pa := by
        refine ⟨fun b o q => ?_, rfl⟩
        have nb : b ≠ a := fun z => by rw [z, f0] at q; cases q
        show (if b = a then none else F' b) = some o
        rw [if_neg nb]
        exact C'.bas b o (by show upd F a (.lst vs) b = some o; rw [upd_ne nb]; exact q)
      refine k v r _ pa t H' g2 ⟨C.len, fun b o q => C'.sub b o (pick q).2, fun b o q => g2.f _ _ (C.bas b o q), fun b o q hx hO => kp b o (C.frm b o q hx hO), fun b o q => ?_, fun b hb => ?_, fun j d q => ?_, fun j d q => ?_, C.sep, fun b q => ?_, C.pnn, C.tab.keep g2.f (fun p hp ps z => out _ _ z (C.tab p hp).2.1) (fun p _ ps z => kp _ _ z), fun b ps q => C'.ntb b ps (pick q).2, fun b d q => ?_, C.obx, C.osp⟩ (rel_scal sc rr) pr
      · obtain ⟨nb, q⟩ := pick q
        rcases nw b o q nb with ⟨o', y⟩ | y
        · exact C.new b o' y
        · exact .inr (C.fresh y).2.1
      · obtain ⟨o, q⟩ := C.exl b hb
        exact ⟨o, kp b o q⟩
      · obtain ⟨w, h1, h2⟩ := C.val j d q
        exact ⟨w, h1, RelD.mono g2 d w h2⟩
      · obtain ⟨b, h, h1, h2, h3, h4, h5, h6⟩ := C.own j d q
        exact ⟨b, h, h1, kp _ _ h2, RelO1.mono g2 d h h3, out _ _ h2 h4, h5, h6⟩
      · obtain ⟨h1, ⟨u, h2, h3⟩, h5⟩ := C.pen b q
        exact ⟨out _ _ h2 h1, ⟨u, kp _ _ h2, h3.mono g2.f⟩, h5⟩
      · obtain ⟨h1, ⟨u, h2, h3⟩, h4, h5⟩ := C.obs b d q
        exact ⟨out _ _ h2 h1, ⟨u, kp _ _ h2, RelO1.mono g2 d u h3⟩, h4, h5⟩
    · exact ⟨B, F, pa, t, env, P, C, hd, k⟩
theorem q_appO {db da : DE} {pos : Pos} (hp : PE X e (tBM X.K "list" rAppend (teOf X.K B db) (tCons (teOf X.K B da) tNil))) (hs : swapsWith e none pos.line X.env = pure false := by rfl) : QS X B (.Expr e pos) (dAppO db da) :=
  PS.imp (ps_expr hp hs) fun De σ H ⟨F, pa, t, env, DD, C, h, R⟩ => ⟨F, pa, t, env, _, C, h, fun v x F1 pa1 t1 H1 g1 C1 r1 h => by
    cases x with
    | adr A =>
      obtain ⟨l0, q0, h⟩ := h
      obtain rfl := rel_adr r1
      obtain ⟨_, ⟨u0, e0, us0, rfl, _⟩, _⟩ := C1.obs A _ q0
      refine ⟨Or.inl ⟨rfl, us0, SqL.of e0⟩, F1, pa1, t1, env, _, C1, h, fun w y F' pa' t' H' g' C' r2 q2 => ?_⟩
      obtain ⟨l, q1, ⟨hl, hy⟩, q2⟩ := q2
      obtain ⟨_, ⟨u1, e1, us, rfl, r3⟩, _, _, np⟩ := C'.obs A _ q1
      refine ⟨A, us, w, rfl, rfl, e1, by rw [r3.len]; exact zlt hl, ?_⟩
      refine R.nx F' pa' _ env σ _ (g1.trans g') (C'.wrOb (d := .lst (l ++ [y])) q1 ⟨_, rfl, r3.append (.cons r2 .nil)⟩ ?_) q2
      simp only [nopen] at np ⊢
      refine nopens_mem fun d hd => ?_
      rcases List.mem_append.mp hd with hd | hd
      · exact nopens_at np d hd
      · rw [List.mem_singleton.mp hd]; exact hy
    | _ => exact h.elim⟩
end
end Q
/-! QO45 -/
namespace Q
open PySem L2 PySem.Spec PyProof.Rows
section
variable {K : PySem.W.Frag} {F Hs : Hp} {x p dx A Cl' : Addr} {ns : List Str} {vs ws : List V} {l : List D} {t : Ts} {env : En} {σ : L2.St} {H : Hp} {cur : List Int}
theorem Ls.up (S : Ls K F Hs x p Cl' dx ns vs l t env σ H cur) (hA : Hs A = some (.lst ws)) (h1 : A ≠ x) (h2 : A ≠ p) (h3 : F A = none) : Ls K (upd F A (.lst ws)) Hs x p Cl' dx ns vs l t env σ H cur := by
  have g : Gr F none (upd F A (.lst ws)) none := ⟨Gf.upd h3, rfl⟩
  refine ⟨S.len, fun a o e => ?_, S.frm, fun i d e => ?_, S.nov, S.s, S.hx, S.hp, S.ls, RelL.mono g l vs S.rl, ?_, ?_, S.xp, fun a ps e => ?_⟩
  · by_cases ha : a = A
    · subst ha; rw [upd_same] at e; cases e; exact S.frm _ _ hA h1 h2
    · rw [upd_ne ha] at e; exact S.sub a o e
  · obtain ⟨v, e1, e2⟩ := S.val i d e
    exact ⟨v, e1, RelD.mono g d v e2⟩
  · rw [upd_ne (Ne.symm h1)]; exact S.fx
  · rw [upd_ne (Ne.symm h2)]; exact S.fp
  · by_cases ha : a = A
    · subst ha; rw [upd_same] at e; cases e
    · rw [upd_ne ha] at e; exact S.nt a ps e
end
section
variable {X : Cx} {Cl' : Addr}
section
variable {o iter ecall tg : Expr} {de : DE} {ib j : Nat} {p1 p2 p3 p4 p5 : Pos}
theorem i_sumsO (h0 : PE X o (tVar 0)) (hb : PE X iter (tVar ib)) (hg : PG X tg (L2.gName j)) (hap : PE X ecall (tBM X.K "list" rAppend (tFld X.K (tVar 0) "sums") (tCons (teU X.K de) tNil))) (hde : SumsE Cl' j de) (cl : Cls X.K Cl') (na : NoAttr X.K Cl' "sums")
    (hpo : PassesOwn (model X.prog X.w) X.A X.env X.xe) (hc : X.calm = true) (hj : j ≠ 0) (hs : swapsWith (.List [] p1) (some (.Attribute o "sums" p2)) p3.line X.env = pure false := by rfl)
    (hsE : swapsWith ecall none p4.line X.env = pure false := by rfl) (hsF : ∀ x, foldedSetIterable iter X.env x = pure x := by intro _; rfl) :
    PSs X [.Assign [.Attribute o "sums" p2] (.List [] p1) p3, .For tg iter [.Expr ecall p4] [] p5] (tiS X.K Cl' (iSumsO ib j)) :=
  PSs.imp (pss_cons (ps_fld h0 (pe_lst pa_nil) hs) (pss_one (ps_for hpo hc (pi_any hb) hg (pss_one (ps_expr hap hsE)) hsF))) fun D σ H ⟨O, F0, H0, x, ns, l, F, t, env, k, S, h, R⟩ => by
    -- the numbers
    have hv : ∃ bs : List Int, ∃ a : Addr, ∃ Fp : Hp, (Fp = F ∨ (Fp = upd F a (.lst (bs.map V.int)) ∧ F a = none ∧ H a = some (.lst (bs.map V.int)) ∧ a ≠ x)) ∧ σ[ib]? = some (some (V.ref a)) ∧ (Fp a = some (.lst (bs.map V.int)) ∨ Fp a = some (.tup (bs.map V.int))) ∧ bs.length ≤ 1000 ∧ (ns.contains ("sums" : Str) = false ∧ ns.length < 900 ∧ j < env.length) ∧ ∀ s, k (ns ++ [("sums" : Str)]) (l ++ [.lst ((sumsOf 0 bs).map .int)]) (env.set j s) t := by
      have ri : ∀ (bs : List Int) (us : List V), RelL X.K F none (bs.map .int) us → us = bs.map V.int := fun bs us r => RelL.intsD r (intsD_map bs)
      unfold iSumsO at h
      split at h
      · rename_i m e
        obtain ⟨bs, rfl, h1, h2, h3⟩ := h
        obtain ⟨v, e1, r⟩ := S.c.val _ _ e
        unfold RelD at r
        obtain ⟨a, us, rfl, e2, r2⟩ := r
        rw [ri bs us r2] at e2
        exact ⟨bs, a, F, .inl rfl, e1, .inl e2, h1, h2, h3⟩
      · rename_i m e
        obtain ⟨bs, rfl, h1, h2, h3⟩ := h
        obtain ⟨v, e1, r⟩ := S.c.val _ _ e
        unfold RelD at r
        obtain ⟨a, us, rfl, e2, r2⟩ := r
        rw [ri bs us r2] at e2
        exact ⟨bs, a, F, .inl rfl, e1, .inr e2, h1, h2, h3⟩
      · rename_i A e
        obtain ⟨m, q, bs, rfl, h1, h2, h3⟩ := h
        obtain ⟨f0, ⟨u, e0, us, rfl, r2⟩, _⟩ := S.c.obs A _ q
        rw [ri bs us r2] at e0
        exact ⟨bs, A, _, .inr ⟨rfl, f0, e0, fun z => by rw [z, S.o] at q; cases q⟩, S.c.slotA e, .inl upd_same, h1, h2, h3⟩
      · exact h.elim
    obtain ⟨bs, ab, Fp, hFp, hib, hab, hbl, ⟨hns, hnl, hjl⟩, hk⟩ := hv
    obtain ⟨dx, vs, hx, hlen, rl⟩ := S.ins
    refine ⟨Nat.zero_le _, fun p hp0 => ⟨.ref x, S.s, x, Cl', dx, _, rfl, by rw [upd_ne (ne_of_none hx hp0)]; exact hx, cl, na, by rw [List.length_zip]; omega, ?_⟩⟩
    rw [putF_new (zip_none hns), ← zip_snoc hlen]
    have xp : x ≠ p := ne_of_none hx hp0
    have fp : F p = none := (S.c.fresh hp0).1
    have L0 : Ls X.K F (upd (upd H p (.lst [])) x (.ins Cl' dx ((ns ++ [("sums" : Str)]).zip (vs ++ [.ref p])))) x p Cl' dx ns vs l t env σ (upd (upd H p (.lst [])) x (.ins Cl' dx ((ns ++ [("sums" : Str)]).zip (vs ++ [.ref p])))) [] :=
      ⟨S.c.len, fun a u e => by rw [upd_ne (ne_of_none e S.f), upd_ne (ne_of_none e fp)]; exact S.c.sub a u e, fun a u e _ _ => e, S.c.val, S.nov, S.s, upd_same, by rw [upd_ne (Ne.symm xp)]; exact upd_same, hlen, rl, S.f, fp, xp, S.c.ntb⟩
    have up : ∀ {env' : En} {σ' : L2.St} {H' : Hp} {cur : List Int}, Ls X.K F (upd (upd H p (.lst [])) x (.ins Cl' dx ((ns ++ [("sums" : Str)]).zip (vs ++ [.ref p])))) x p Cl' dx ns vs l t env' σ' H' cur → Ls X.K Fp (upd (upd H p (.lst [])) x (.ins Cl' dx ((ns ++ [("sums" : Str)]).zip (vs ++ [.ref p])))) x p Cl' dx ns vs l t env' σ' H' cur := fun L => by
      rcases hFp with rfl | ⟨rfl, z1, z2, z3⟩
      · exact L
      · refine L.up (by rw [upd_ne z3, upd_ne (ne_of_none z2 hp0)]; exact z2) z3 (ne_of_none z2 hp0) z1
    generalize hHs : upd (upd H p (.lst [])) x (.ins Cl' dx ((ns ++ [("sums" : Str)]).zip (vs ++ [.ref p]))) = Hs at L0 up ⊢
    have hfin : ∀ σ' H' s, Ls X.K F Hs x p Cl' dx ns vs l t (env.set j s) σ' H' (sumsOf 0 bs) → D.nx σ' H' := fun σ' H' s L => by
      refine R _ _ (upd F p (.lst ((sumsOf 0 bs).map V.int))) t (env.set j s) σ' H' ⟨⟨L.len, fun a u e => ?_, fun a u e => ?_, fun a u e hx' ho => ?_, fun a u e => ?_, fun a ha => ?_, fun i d e => ?_, fun i d e => absurd e (L.nov i d), fun i _ d _ _ q => absurd q (L.nov i d), fun a e => (by cases e), rfl, TabF.nil, fun a ps e => by
        by_cases ha : a = p
        · subst ha; rw [upd_same] at e; simp at e
        · rw [upd_ne ha] at e; exact S.c.ntb a ps e, fun a d q => by
        obtain ⟨h1, ⟨u, h2, h3⟩, h4⟩ := S.c.obs a d q
        have hax : a ≠ x := fun z => by rw [z, S.o] at q; simp at q
        have hap' : a ≠ p := ne_of_none h2 hp0
        refine ⟨by rw [upd_ne hap']; exact h1, ⟨u, L.frm a u ?_ hax hap', RelO1.mono ⟨Gf.upd fp, rfl⟩ d u h3⟩, h4⟩
        rw [← hHs, upd_ne hax, upd_ne hap']; exact h2, S.c.obx, fun i d a e => absurd e (L.nov i d)⟩, L.nov, ⟨dx, _, L.hx, by simp [hlen], ?_⟩, by rw [upd_ne xp]; exact S.f, L.s, S.o⟩ (hk s)
      · by_cases ha : a = p
        · subst ha; rw [upd_same] at e; cases e; exact L.hp
        · rw [upd_ne ha] at e; exact L.sub a u e
      · exact Gf.upd fp _ _ (S.c.bas a u e)
      · have h1 := S.c.frm a u e hx' ho
        have hax : a ≠ x := fun z => hx' (by rw [z]; exact List.mem_singleton.mpr rfl)
        have hap' : a ≠ p := ne_of_none h1 hp0
        refine L.frm a u ?_ hax hap'
        rw [← hHs, upd_ne hax, upd_ne hap']; exact h1
      · by_cases ha : a = p
        · subst ha; exact .inr (S.c.fresh hp0).2.1
        · rw [upd_ne ha] at e; exact S.c.new a u e
      · rw [List.mem_singleton.mp ha]; exact ⟨_, L.hx⟩
      · obtain ⟨v, h1, h2⟩ := L.val i d e
        exact ⟨v, h1, RelD.mono ⟨Gf.upd fp, rfl⟩ d v h2⟩
      · refine relL_snoc ?_ (RelL.mono ⟨Gf.upd fp, rfl⟩ l vs rl)
        unfold RelD
        exact ⟨p, _, rfl, upd_same, RelL.of_ints _⟩
    have ne0 : env ≠ [] := fun z => by
      have := S.c.len
      rw [z] at this
      have h2 := S.s
      have : σ = [] := List.eq_nil_of_length_eq_zero (by simpa using this.symm)
      rw [this] at h2; cases h2
    -- the loop
    have hloop : ∀ J, ItOk X.K J (bs.map .int) Fp none → ∃ W : Nat → Nat → L2.St → Hp → Prop, (∃ m, W 0 m σ Hs) ∧ ∀ i m σ H, W i m σ H →
        (J.stop i H ∧ D.nx σ H) ∨ (J.go i H ∧ ∃ N : L2.St → Hp → Prop, (∀ σ' H', N σ' H' → ∃ m', m' < m ∧ W (i + 1) m' σ' H') ∧ ∀ x H', J.yld i H x H' → L2.gName j x σ H' fun σ2 H2 => tDrop (tBM X.K "list" rAppend (tFld X.K (tVar 0) "sums") (tCons (teU X.K de) tNil)) { D with nx := N, ct := N, bk := D.nx } σ2 H2) := by
      intro J iok
      refine ⟨fun i m σ' H' => m = bs.length - i ∧ i ≤ bs.length ∧ ∃ s, Ls X.K F Hs x p Cl' dx ns vs l t (env.set j s) σ' H' (sumsOf 0 (bs.take i)), ?_, ?_⟩
      · rcases set_self env j with z | ⟨s, hs'⟩
        · exact absurd z ne0
        · exact ⟨_, rfl, Nat.zero_le _, s, by rw [hs']; exact L0⟩
      · rintro i m σ2 H2 ⟨rfl, hi, s, L⟩
        obtain ⟨F2, g2, C2⟩ := (up L).seen
        have io := iok _ F2 none t.bare _ σ2 H2 i g2 C2
        by_cases hlt : i < bs.length
        · have hb2 : (bs.map Q.D.int)[i]? = some (.int bs[i]) := by simp [hlt]
          obtain ⟨go, yl⟩ := io.2 _ hb2
          refine .inr ⟨go, fun σ' H' => ∃ m', m' < bs.length - i ∧ (m' = bs.length - (i + 1) ∧ i + 1 ≤ bs.length ∧ ∃ s, Ls X.K F Hs x p Cl' dx ns vs l t (env.set j s) σ' H' (sumsOf 0 (bs.take (i + 1)))), fun σ' H' z => z, fun xv H3 y => ?_⟩
          obtain ⟨gh, F3, _, _, _, rv⟩ := yl xv H3 y
          have exv : xv = .int bs[i] := by unfold RelD at rv; exact rv
          subst exv
          have L2' := (L.kept gh).setj hj bs[i]
          rw [List.set_set] at L2'
          obtain ⟨F4, _, C4⟩ := L2'.seen
          refine ⟨.ref x, L2'.s, x, Cl', dx, _, .ref p, rfl, L2'.hx, cl, na, zip_look hlen hns, Or.inl ⟨rfl, _, SqL.of L2'.hp⟩, ?_⟩
          refine ⟨B0 F4 none t.bare H3, F4, none, t.bare, _, fun d t2 => d = .int (bs[i] - 1 + (sumsOf 0 (bs.take i)).getLastD 0) ∧ t2 = t.bare, C4, ?_, ?_⟩
          · refine hde _ t.bare _ (ns ++ [("sums" : Str)]) (l ++ [.lst ((sumsOf 0 (bs.take i)).map .int)]) (sumsOf 0 (bs.take i)) bs[i] ?_ ?_ ?_ ⟨rfl, rfl⟩
            · rw [List.getElem?_set_self (by simp; omega)]
            · exact zip_look (hlen.trans (RelL.len rl)) hns
            · rw [List.getElem?_set_ne (Ne.symm hj), List.getElem?_set_self hjl]
          · rintro v d F5 pa5 t5 H5 g5 C5 r5 ⟨rfl, rfl⟩
            have ev : v = .int (bs[i] - 1 + (sumsOf 0 (bs.take i)).getLastD 0) := by unfold RelD at r5; exact r5
            subst ev
            have gh5 : Gf H3 H5 := fun a u e => C5.frm a u e (by simp [B0]) (fun ⟨d, z⟩ => by cases z)
            have L3 := L2'.kept gh5
            refine ⟨p, _, _, rfl, rfl, L3.hp, ?_, ?_⟩
            · simp only [List.length_map, sumsOf_len, List.length_take]
              unfold sizeLine
              omega
            · have L4 := L3.app (bs[i] - 1 + (sumsOf 0 (bs.take i)).getLastD 0)
              rw [List.map_append] at L4
              rw [show (sumsOf 0 (bs.take i)) ++ [bs[i] - 1 + (sumsOf 0 (bs.take i)).getLastD 0] = sumsOf 0 (bs.take (i + 1)) from ?_] at L4
              · refine ⟨bs.length - (i + 1), by omega, rfl, hlt, .val (.int bs[i]), ?_⟩
                exact L4
              · rw [List.take_add_one, List.getElem?_eq_getElem hlt]
                show _ = sumsOf 0 (bs.take i ++ [bs[i]])
                rw [sumsOf_snoc]
                refine congrArg (fun z => _ ++ [z]) ?_
                omega
        · have e : i = bs.length := by omega
          subst e
          rw [List.take_length] at L
          exact .inl ⟨io.1 (by simp), hfin _ _ _ L⟩
    rcases hab with hab | hab
    · refine ⟨.ref ab, hib, ab, rfl, .inl ⟨⟨_, SqL.of ((up L0).sub _ _ hab)⟩, hloop _ (it_list (SqL.of hab) (RelL.of_ints bs))⟩⟩
    · refine ⟨.ref ab, hib, ab, rfl, .inr ⟨⟨_, SqT.of ((up L0).sub _ _ hab)⟩, hloop _ (it_tup hab (RelL.of_ints bs))⟩⟩
end
end
end Q
/-! QO46 -/
namespace Q
open PySem L2 PySem.Spec PyProof.Rows
section
variable {K : PySem.W.Frag}
theorem putK_ints {kvs : List (L2.Key × V)} {k : L2.Key} {i : Int} (h : ∀ x ∈ kvs, ∃ j : Int, x.2 = V.int j) : ∀ x ∈ putK kvs k (V.int i), ∃ j : Int, x.2 = V.int j := fun x hx => by
  unfold putK at hx
  split at hx
  · obtain ⟨y, hy, rfl⟩ := List.mem_map.mp hx
    split
    · exact ⟨i, rfl⟩
    · exact h y hy
  · rcases List.mem_append.mp hx with hx | hx
    · exact h x hx
    · rw [List.mem_singleton.mp hx]; exact ⟨i, rfl⟩
theorem mergeK_ints : ∀ (ps : List (Int × Int)) {acc : List (L2.Key × V)}, (∀ x ∈ acc, ∃ j : Int, x.2 = V.int j) → ∀ x ∈ L2.mergeK acc (ps.map fun p => (Sum.inl p.1, V.int p.2)), ∃ j : Int, x.2 = V.int j
  | [], acc, h => h
  | p :: ps, acc, h => mergeK_ints ps (acc := putK acc (Sum.inl p.1) (V.int p.2)) (putK_ints h)
theorem zip_ints : ∀ {m : List (L2.Key × V)}, (∀ x ∈ m, ∃ j : Int, x.2 = V.int j) → ∃ (ks : List Ky) (vs : List Int), ks.length = vs.length ∧ m = ks.zip (vs.map V.int)
  | [], _ => ⟨[], [], rfl, rfl⟩
  | (k, v) :: m, h => by
    obtain ⟨j, e⟩ := h (k, v) (List.mem_cons_self ..)
    obtain ⟨ks, vs, h1, h2⟩ := zip_ints (m := m) fun x hx => h x (List.mem_cons_of_mem _ hx)
    have e : v = V.int j := e
    refine ⟨k :: ks, j :: vs, by simp [h1], ?_⟩
    rw [h2, e]
    rfl
theorem pairs_rel {F H : Hp} {pa : Option Addr} (sub : ∀ a o, F a = some o → H a = some o) : ∀ {ps : List (Int × Int)} {us : List V}, RelL K F pa (ps.map fun p => D.tup [.int p.1, .int p.2]) us → ∃ as : List Addr, us = as.map V.ref ∧ Paired (fun (p : Addr) (kv : L2.Key × V) => SqT K H p [kV kv.1, kv.2]) as (ps.map fun p => (Sum.inl p.1, V.int p.2))
  | [], us, r => by
    unfold RelL at r
    exact ⟨[], r, .nil⟩
  | p :: ps, us, r => by
    obtain ⟨v, ur, rfl, r1, r2⟩ := RelL.inv (show RelL K F pa (D.tup [.int p.1, .int p.2] :: ps.map fun p => D.tup [.int p.1, .int p.2]) us from r)
    obtain ⟨as, rfl, q⟩ := pairs_rel sub r2
    unfold RelD at r1
    obtain ⟨a, vs, rfl, e, r3⟩ := r1
    obtain ⟨x, r4, rfl, r5, r6⟩ := RelL.inv r3
    obtain ⟨y, r7, rfl, r8, r9⟩ := RelL.inv r6
    unfold RelL at r9
    unfold RelD at r5 r8
    subst r5 r8 r9
    exact ⟨a :: as, rfl, .cons (SqT.of (sub _ _ e)) q⟩
theorem rcn_dictP : RCallN K (fun xs H Q => ∃ (a : Addr) (ps : List Addr) (kvs : List (L2.Key × V)), xs = [.ref a] ∧ SqL K H a (ps.map V.ref) ∧ Paired (fun p kv => SqT K H p [kV kv.1, kv.2]) ps kvs ∧ ∀ p, H p = none → Q (.ref p) (upd H p (.dK (L2.mergeK [] kvs)))) bDictP := fun B F pa t env σ H xs vs P Q W r h k => by
  unfold bDictP at h
  split at h
  · obtain ⟨v, rfl, r1⟩ := r.one
    obtain ⟨ps, rfl, hp⟩ := h
    obtain ⟨a, us, rfl, e, q⟩ := r1.lst W
    obtain ⟨as, rfl, q2⟩ := pairs_rel (H := H) W.sub q
    obtain ⟨ks, ws, h1, h2⟩ := zip_ints (mergeK_ints ps (acc := []) (fun x hx => by cases hx))
    refine ⟨a, as, _, rfl, SqL.of e, q2, fun p h3 => ?_⟩
    rw [h2]
    exact k p _ (.dic ks (ws.map .int)) F _ (Gr.refl _ _) (W.loose _ h3) (W.nw h3) upd_same ⟨_, rfl, by simp [h1], RelL.of_ints ws⟩ (hp ks ws h1)
  · exact h.elim
end
section
variable {X : Cx} {B : Bs} {e : Expr} {as : DA} {p pos : Pos} {x : Str}
theorem q_dictP (hc : X.calm = true) (hg : Gl X x) (hm : X.mg x = none) (hv : bootBuiltins x = some (.type "dict")) (ha : QX X B [e] as) (hn : x ≠ "__name__" := by decide) (hdb : (x == ("__debug__" : Str)) = false := by decide)
    (he : starEach [e] X.env = (false, eval e X.env) :: starEach [] X.env := by rfl) (hpl : (backTo pos (starEach [] X.env)).any (·.1) = false := by rfl) : QN X B (.Call (.Name x p) [e] [] pos) (dCB bDictP as) :=
  q_callTyN (call_dictP hc) rcn_dictP hg hm hv ha hn hdb he hpl
end
end Q
/-! QO47 -/
namespace Q
open PySem L2 PyProof.Rows
section
variable {X : Cx} {CX : CXT} {B : Bs} {K : PySem.W.Frag} {k : Nat} {f C : Addr} {fd : FuncData} {ps : List Str} {E : XK} {a b : Expr} {da db : DE} {pos : Pos}
def rEqHL (C : Addr) (sp : Sp) (E : XK) : R2 := fun x y H Q => ∃ a b dx fs, x = V.ref a ∧ y = V.ref b ∧ H a = some (HO.ins C dx fs) ∧ ((∃ dy gs, H b = some (HO.ins C dy gs)) ∨ ∃ vs, H b = some (HO.lst vs)) ∧ sp [x, y] H Q E
theorem op_eqHL {sp : Sp} (cl : Cls X.K C) (F : FnOk X.prog X.w X.K X.mg X.base CX k f fd ps sp) (hr : Room k X.A) (m : Meth X.K C "__eq__" f) (hb : Binds X.K fd ps []) (hx : Passes CX X E) : OpR X (compareOp .Eq) (rEqHL C sp E) := by
  intro pins s σ H x y v u Q I rx ry h
  obtain ⟨p, q, dx, fs, rfl, rfl, h1, h2, h⟩ := h
  obtain rfl : v = Value.ref p := rx
  obtain rfl : u = Value.ref q := ry
  obtain ⟨_, J1, _⟩ := ins_get I.hok h1
  obtain ⟨_, J1, _⟩ := J1.look
  obtain ⟨n, fr⟩ := I.fr
  have vs : Vals [V.ref p, V.ref q] [Value.ref p, Value.ref q] := .cons rfl (.cons rfl .nil)
  have go := run_fn (ds := []) (dvs := []) F hr hb .nil hx I vs h
  show wpAny _ _ (richCompare .Eq (Value.ref p) (Value.ref q)) _ _ s
  rcases h2 with ⟨dy, gs, h2⟩ | ⟨ws, h2⟩
  · obtain ⟨_, J2, _⟩ := ins_get I.hok h2
    obtain ⟨_, J2, _⟩ := J2.look
    refine PySem.W.cmp_K (op := .Eq) (tb := .ref C) hr.units0 fr I.ok.mod.kin J1 J2.type (by unfold PySem.W.notFirst; simp) m.at_ m.fn (wpAny_mono go (fun r s' z => ?_) fun _ _ z => z)
    obtain ⟨z', H', I', rz, qz⟩ := z
    exact SlX.cmpback rz ⟨z', H', I', rz, qz⟩
  · obtain ⟨_, its, nn, _, ho⟩ := I.hok q _ h2
    refine PySem.W.cmp_K (op := .Eq) (tb := .type "list") hr.units0 fr I.ok.mod.kin J1 (fun A Q E s k q => wpAny_typeOf (T := "list") ⟨_, k _ _ ho, rfl⟩ q) (by
      unfold PySem.W.notFirst
      have : PySem.W.subIn X.K (.type "list") (.ref C) = some false := by
        show (PySem.fastBuiltinMro "list").map (·.contains (Value.ref C)) = some false
        rfl
      rw [this]
      rfl) m.at_ m.fn (wpAny_mono go (fun r s' z => ?_) fun _ _ z => z)
    obtain ⟨z', H', I', rz, qz⟩ := z
    exact SlX.cmpback rz ⟨z', H', I', rz, qz⟩
theorem ev_eqHL {sp : PSp} : ∀ σ H Q, teOf X.K B (dEqHL C sp da db) σ H Q → tOp (rEqHL C (lift X.K sp) E) (teOf X.K B da) (teOf X.K B db) σ H Q := fun σ H Q ⟨F, pa, t, env, P, W, hd, k⟩ =>
    ⟨F, pa, t, env, _, W, hd, fun v x F1 pa1 t1 H1 g1 W1 r1 q1 => ⟨F1, pa1, t1, env, _, W1, q1, fun u y F2 pa2 t2 H2 g2 W2 r2 q2 => by
      cases x with
      | ins C1 ns l =>
        have r1' := RelD.mono g2 _ _ r1
        have r1c := r1'
        have r2c := r2
        unfold RelD at r1c
        obtain ⟨p, dx, us, rfl, e1, n1, l1⟩ := r1c
        cases y with
        | ins C2 ms l2 =>
          obtain ⟨rfl, e2, q2⟩ := q2
          subst e2
          unfold RelD at r2c
          obtain ⟨p', dy, us', rfl, e1', n1', l1'⟩ := r2c
          refine ⟨p, p', dx, _, rfl, rfl, W2.sub _ _ e1, .inl ⟨_, _, W2.sub _ _ e1'⟩, F2, pa2, t2, [.ins _ ns l, .ins _ ms l2], P, W2.call, RelL.cons r1' (RelL.cons r2 RelL.nil), q2, fun v d F' pa' t' H' W' r' q' => ?_⟩
          obtain ⟨g, W3⟩ := W2.after W'
          exact k v d F' pa' t' H' ((g1.trans g2).trans g) W3 r' q'
        | lst m =>
          obtain ⟨rfl, q2⟩ := q2
          unfold RelD at r2c
          obtain ⟨p', us', rfl, e1', l1'⟩ := r2c
          refine ⟨p, p', dx, _, rfl, rfl, W2.sub _ _ e1, .inr ⟨_, W2.sub _ _ e1'⟩, F2, pa2, t2, [.ins _ ns l, .lst m], P, W2.call, RelL.cons r1' (RelL.cons r2 RelL.nil), q2, fun v d F' pa' t' H' W' r' q' => ?_⟩
          obtain ⟨g, W3⟩ := W2.after W'
          exact k v d F' pa' t' H' ((g1.trans g2).trans g) W3 r' q'
        | _ => exact q2.elim
      | _ => exact q2.elim⟩⟩
theorem q_teqHL {sp : PSp} (cl : Cls X.K C) (F : FnOk X.prog X.w X.K X.mg X.base CX k f fd ps (lift X.K sp)) (hr : Room k X.A) (m : Meth X.K C "__eq__" f) (hb : Binds X.K fd ps []) (hx : Passes CX X E) (ha : QE X B a da) (hb' : QE X B b db) (hm : behindInMarks .Eq b = false) : QT X B (.Compare a [.Eq] [b] pos) (dB (dEqHL C sp da db)) :=
  PT.imp (pt_cmpR (op_eqHL (E := E) cl F hr m hb hx) ha hb' hm) fun σ H Q ⟨F, pa, t, env, P, W, hd, k⟩ => by
    refine ev_eqHL (E := E) σ H _ ⟨F, pa, t, env, _, W, hd, fun v d F' pa' t' H' g W' rd q => ?_⟩
    cases d with
    | bl b => unfold RelD at rd; exact ⟨b, rd, k b F' pa' t' H' g W' q⟩
    | _ => exact q.elim
end
end Q
/-! QO48 -/
namespace Q
open PySem L2 PySem.Spec PyProof.Rows
section
variable {K : PySem.W.Frag} {X : Cx} {B : Bs} {e o : Expr} {es : List Expr} {da : DE} {as : DA} {pos apos : Pos} {m : Str} {Cl : Addr}
variable {CX : CXT} {k : Nat} {fa : Addr} {fd : FuncData} {ps : List Str} {sp : PSp} {dvs : List V} {dds : List D} {ds : List Value} {E : XK}
theorem ev_methN1 (hd : ∀ F pa, RelL K F pa dds dvs) : ∀ σ H Q, tnOf K B (dMeth Cl m sp dds da as) σ H Q → tMeth Cl m (liftN K sp) dvs E (teOf K B da) (taOf K B as) σ H Q := fun σ H Q ⟨F, pa, t, env, P, W, h, k⟩ =>
  ⟨F, pa, t, env, _, W, h, fun v x F1 pa1 t1 H1 g1 W1 r1 q1 => by
    cases x with
    | ins C' ns l =>
      obtain ⟨rfl, hn, q1⟩ := q1
      have r1' := r1
      unfold RelD at r1'
      obtain ⟨a, dx, us, rfl, e1, _, _⟩ := r1'
      refine ⟨a, dx, _, rfl, W1.sub _ _ e1, zip_none hn, F1, pa1, t1, env, _, W1, q1, fun vs xs F2 pa2 t2 H2 g2 W2 r2 q2 => ⟨F2, pa2, t2, .ins C' ns l :: (xs ++ dds), P, W2.call, RelL.cons (RelD.mono g2 _ _ r1) (r2.append (hd _ _)), q2, fun p hh d F' pa' t' H' W' n1 n2 n3 n4 e' r' q' => ?_⟩⟩
      obtain ⟨g, W3⟩ := W2.after W'
      refine k p hh d F' pa' t' H' ((g1.trans g2).trans g) W3 ⟨n1, (W2.fresh n2).2.1, n3, fun j d' ej sj => ?_, n4⟩ e' r' q'
      obtain ⟨a, u, s1, e2, _⟩ := W2.own j d' ej
      rw [sj] at s1
      cases s1
      rw [n2] at e2; cases e2
    | _ => exact q1.elim⟩
theorem q_methN1 {pl : Sem Bool} (he : QE X B o da) (c : Cls X.K Cl) (hm : Meth X.K Cl m fa) (F : FnOk X.prog X.w X.K X.mg X.base CX k fa fd ps (liftN X.K sp)) (hr : Room k X.A) (hb : Binds X.K fd ps ds) (hd : Vals dvs ds) (hD : ∀ F pa, RelL X.K F pa dds dvs) (hx : Passes CX X E)
    (ht : eval (.Call (.Attribute o m apos) [] [] pos) X.env = (do
      let ov ← eval o X.env
      standAt apos.atName
      let (f, first) ← holding [ov] (getMethod ov m pl)
      callWith pos f first (backTo pos (starEach [] X.env)) (backToKw pos (keywordEach [] X.env))) := by rfl) :
    QN X B (.Call (.Attribute o m apos) [] [] pos) (dMeth Cl m sp dds da dNil) := PE.imp (pe_meth0 he c hm F hr hb hd hx ht) fun σ H Q h => by
  obtain ⟨F, pa, t, env, P, W, h1, h2⟩ := ev_methN1 (E := E) hD σ H Q h
  exact ⟨F, pa, t, env, _, W, h1, fun v d F' pa' t' H' g W' r q => by
    obtain ⟨a, dx, fs, e1, e2, e3, z⟩ := h2 v d F' pa' t' H' g W' r q
    refine ⟨a, dx, fs, e1, e2, e3, ?_⟩
    obtain ⟨F2, pa2, t2, env2, P2, W2, q2, k2⟩ := z
    exact k2 [] [] F2 pa2 t2 H' (Gr.refl _ _) W2 RelL.nil q2⟩
end
end Q
/-! T_k02 -/
namespace L_k02
open PySem L2 PyProof.Rows Q
def top (i : Nat) : Stmt := PySem.Challenge.pw_askback_k02_houses_made.main.body.getD i (.Pass ⟨0, 0, 0, 0⟩)
abbrev s__law_draw : Stmt := top 15
abbrev N__law_draw : List Str := ["_law_pen_here", "_law_many", "_law_at", "_law_cell", "_law_number", "_law_rounds", "_law_digit"]
abbrev s__law_beginning : Stmt := top 16
abbrev N__law_beginning : List Str := ["_law_pen_here", "_law_base", "_law_most", "_law_k"]
abbrev s__law_bent_2 : Stmt := top 18
abbrev N__law_bent_2 : List Str := ["_law_pen_here", "_law_begun", "_law_at", "_law_odd", "_law_some", "_law_k"]
abbrev s__law_pen : Stmt := top 14
abbrev N__law_pen : List Str := ["_law_script", "_law_most", "_law_cell"]
abbrev s_is_whole : Stmt := top 6
abbrev N_is_whole : List Str := ["thing"]
abbrev s_is_base : Stmt := top 8
abbrev N_is_base : List Str := ["thing"]
abbrev s_is_count : Stmt := top 7
abbrev N_is_count : List Str := ["thing"]
abbrev s_is_listing : Stmt := top 9
abbrev N_is_listing : List Str := ["thing"]
abbrev s_is_beginning : Stmt := top 11
abbrev N_is_beginning : List Str := ["base", "thing", "many"]
abbrev s_BadHouse___init__ : Stmt := inClass (top 2) 0
abbrev N_BadHouse___init__ : List Str := ["self", "part"]
abbrev s_House___init__ : Stmt := inClass (top 12) 0
abbrev N_House___init__ : List Str := ["self", "k", "beginning", "many"]
abbrev s__law_refused : Stmt := top 17
abbrev N__law_refused : List Str := ["_law_base", "_law_begun", "_law_wrong", "e"]
abbrev s_House_base : Stmt := inClass (top 12) 2
abbrev N_House_base : List Str := ["self"]
abbrev s_House_beginning : Stmt := inClass (top 12) 3
abbrev N_House_beginning : List Str := ["self"]
abbrev s_House___eq__ : Stmt := inClass (top 12) 1
abbrev N_House___eq__ : List Str := ["self", "other"]
abbrev s_House_folk : Stmt := inClass (top 12) 5
abbrev N_House_folk : List Str := ["self"]
abbrev s_House_reach : Stmt := inClass (top 12) 4
abbrev N_House_reach : List Str := ["self"]
abbrev s_law : Stmt := top 19
abbrev N_law : List Str := ["_law_script", "_law_pen_here", "_law_turn", "_law_base", "_law_begun", "_law_handed", "_law_house", "_law_rounds", "_law_at", "_law_other", "_law_told", "_law_twin", "_law_more"]
def xcl (a_BadHouse : Addr) : XCl := fun c => match c with
  | .BadHouse => some (a_BadHouse, some "part")
  | _ => none
structure Tx (K : PySem.W.Frag) (mg : Str → Option Value) (a__law_draw a__law_beginning a__law_bent_2 a__law_pen a_is_whole a_is_base a_is_count a_is_listing a_is_beginning a_BadHouse___init__ a_House___init__ a__law_refused a_House_base a_House_beginning a_House___eq__ a_House_folk a_House_reach a_law a_House a_BadHouse : Addr) (tk_LEAST_BASE tk_MOST_BASE : Tok) : Prop where
  b_ValueError : mg "ValueError" = none
  b_abs : mg "abs" = none
  b_all : mg "all" = none
  b_bool : mg "bool" = none
  b_dict : mg "dict" = none
  b_int : mg "int" = none
  b_isinstance : mg "isinstance" = none
  b_len : mg "len" = none
  b_list : mg "list" = none
  b_min : mg "min" = none
  b_range : mg "range" = none
  b_sum : mg "sum" = none
  b_tuple : mg "tuple" = none
  c_LEAST_BASE : mg "LEAST_BASE" = some (Value.int 2 tk_LEAST_BASE)
  c_MOST_BASE : mg "MOST_BASE" = some (Value.int 30 tk_MOST_BASE)
  g__law_draw : mg "_law_draw" = some (.ref a__law_draw)
  k__law_draw : PySem.W.keepIn K (.ref a__law_draw) = true
  g__law_beginning : mg "_law_beginning" = some (.ref a__law_beginning)
  k__law_beginning : PySem.W.keepIn K (.ref a__law_beginning) = true
  g__law_bent_2 : mg "_law_bent" = some (.ref a__law_bent_2)
  k__law_bent_2 : PySem.W.keepIn K (.ref a__law_bent_2) = true
  g__law_pen : mg "_law_pen" = some (.ref a__law_pen)
  k__law_pen : PySem.W.keepIn K (.ref a__law_pen) = true
  g_is_whole : mg "is_whole" = some (.ref a_is_whole)
  k_is_whole : PySem.W.keepIn K (.ref a_is_whole) = true
  g_is_base : mg "is_base" = some (.ref a_is_base)
  k_is_base : PySem.W.keepIn K (.ref a_is_base) = true
  g_is_count : mg "is_count" = some (.ref a_is_count)
  k_is_count : PySem.W.keepIn K (.ref a_is_count) = true
  g_is_listing : mg "is_listing" = some (.ref a_is_listing)
  k_is_listing : PySem.W.keepIn K (.ref a_is_listing) = true
  g_is_beginning : mg "is_beginning" = some (.ref a_is_beginning)
  k_is_beginning : PySem.W.keepIn K (.ref a_is_beginning) = true
  g__law_refused : mg "_law_refused" = some (.ref a__law_refused)
  k__law_refused : PySem.W.keepIn K (.ref a__law_refused) = true
  g_law : mg "law" = some (.ref a_law)
  k_law : PySem.W.keepIn K (.ref a_law) = true
  g_House : mg "House" = some (.ref a_House)
  cl_House : Cls K a_House
  n_House_kept_base : NoAttr K a_House "kept_base"
  n_House_kept_beginning : NoAttr K a_House "kept_beginning"
  n_House_sums : NoAttr K a_House "sums"
  m_House_base : Meth K a_House "base" a_House_base
  m_House_beginning : Meth K a_House "beginning" a_House_beginning
  m_House___eq__ : Meth K a_House "__eq__" a_House___eq__
  m_House_folk : Meth K a_House "folk" a_House_folk
  m_House_reach : Meth K a_House "reach" a_House_reach
  mk_House : Mk K a_House a_House___init__
  g_BadHouse : mg "BadHouse" = some (.ref a_BadHouse)
  fx_BadHouse : FxC K a_BadHouse "ValueError.__new__" vaTail
  in_BadHouse : PySem.W.findIn K (.ref a_BadHouse) "__init__" = some (some (.ref a_BadHouse___init__))
  ty_BadHouse : PySem.W.typeIn K (.ref a_BadHouse___init__) = some (.type "function")
  no_BadHouse : PySem.W.findIn K (.ref a_BadHouse) "part" = some none
  te_BadHouse : PySem.W.exmOne K (.ref a_BadHouse) (.ref a_BadHouse) = some true
  kt_BadHouse : PySem.W.kitOne K (.ref a_BadHouse) (.type "ValueError") = some true
  ex_BadHouse : ExcC K a_BadHouse
  tx_BadHouse : ∀ c C fl, (xcl a_BadHouse) c = some (C, fl) → PySem.W.exmOne K (.ref C) (.ref a_BadHouse) = some (Xn.is c .BadHouse)
  ki_BadHouse_ValueError : PySem.W.kitOne K (.ref a_BadHouse) (.type "ValueError") = some true
  vF_ValueError : PySem.W.findCls K (.type "ValueError") (.type "type") "__init__" = some (.val (.builtin "ValueError.__init__"))
  i_House : C8.InsC K a_House
  w_House : IsW K a_House
  nq_House : NeM K a_House
section
variable {P : Program} {w : World} {K : PySem.W.Frag} {mg : Str → Option Value} {base : Heap} {a__law_draw a__law_beginning a__law_bent_2 a__law_pen a_is_whole a_is_base a_is_count a_is_listing a_is_beginning a_BadHouse___init__ a_House___init__ a__law_refused a_House_base a_House_beginning a_House___eq__ a_House_folk a_House_reach a_law a_House a_BadHouse : Addr} {tk_LEAST_BASE tk_MOST_BASE : Tok}
theorem sc__law_draw : FnScope N__law_draw ["_law_pen_here", "_law_many"] (defScope s__law_draw) := ⟨rfl, rfl, rfl, by decide +kernel, rfl, by decide +kernel, by decide +kernel⟩
theorem ok__law_draw {fd : FuncData} (F : Fun K "_law_draw" "_law_draw" s__law_draw a__law_draw fd) (T : Tx K mg a__law_draw a__law_beginning a__law_bent_2 a__law_pen a_is_whole a_is_base a_is_count a_is_listing a_is_beginning a_BadHouse___init__ a_House___init__ a__law_refused a_House_base a_House_beginning a_House___eq__ a_House_folk a_House_reach a_law a_House a_BadHouse tk_LEAST_BASE tk_MOST_BASE) : FnOk P w K mg base CX0 1 a__law_draw fd ["_law_pen_here", "_law_many"] (lift K (sp__law_draw)) := by
  refine fn_ok (ds := d__law_draw) F sc__law_draw (len__law_draw) (fun cdv A outer s H E B hr hB hm => ?_) (d__law_draw_ok)
  exact (q_cons (q_if (q_tcmp op_gt rop_gt (toV (q_penL (b := false) (hu_of hr) (toV (q_var (pv 0))) (by rfl) (fun _ _ => rfl))) (toV q_int) (nomark _)) (q_cons (q_set (i := 6) sc__law_draw.nd rfl (Or.inl rfl) (q_op op_mod rop_mod (toV (q_penL (b := false) (hu_of hr) (toV (q_var (pv 0))) (by rfl) (fun _ _ => rfl))) (toV (q_var (pv 1))))) (q_cons (q_putL (b := false) (i := 0) (hu_of hr) (pv 0) (q_op op_fdivW rop_div (toV (q_penL (b := false) (hu_of hr) (toV (q_var (pv 0))) (by rfl) (fun _ _ => rfl))) (toV (q_var (pv 1)))) (by rfl)) (q_cons (q_ret hm (q_var (pv 6))) q_nil))) q_nil) (q_cons (q_set (i := 2) sc__law_draw.nd rfl (Or.inl rfl) (q_penA (b := false) (hu_of hr) (toV (q_var (pv 0))) (by rfl) (fun _ _ => rfl))) (q_cons (q_putA (b := false) (i := 0) (hu_of hr) (pv 0) (q_op op_add4 rop_add (toV (q_var (pv 2))) (toV q_int)) (by rfl)) (q_cons (q_set (i := 3) sc__law_draw.nd rfl (Or.inl rfl) (q_op op_add4 rop_add (toV (q_op op_mul3 rop_mul (toV (q_var (pv 2))) (toV (q_var (pv 2))))) (toV q_int))) (q_cons (q_if (q_tcmp (op_neD hr.units) rop_ne (toV (q_penC (hu_of hr) (toV (q_var (pv 0))) (fun _ _ => rfl))) (toV (toE (q_lst q_anil))) (nomark _)) (q_cons (q_set (i := 3) sc__law_draw.nd rfl (Or.inl rfl) (q_ix (toV (q_penC (hu_of hr) (toV (q_var (pv 0))) (fun _ _ => rfl))) (toV (q_op op_mod rop_mod (toV (q_var (pv 2))) (toV (q_callB call_len3 rc_len (by rfl) T.b_len (by decide +kernel) (q_xcons (toV (q_penC (hu_of hr) (toV (q_var (pv 0))) (fun _ _ => rfl))) q_xnil))))) (fun _ _ => rfl))) q_nil) q_nil) (q_cons (q_if (L2.PW.pt (q_and (q_tcmp op_lt rop_lt (toV (q_var (pv 2))) (toV (q_callB call_len3 rc_len (by rfl) T.b_len (by decide +kernel) (q_xcons (toV (q_penC (hu_of hr) (toV (q_var (pv 0))) (fun _ _ => rfl))) q_xnil))) (nomark _)) (q_and1 (q_tcmp op_ge rop_ge (toV (q_var (pv 3))) (toV (q_op op_powW rop_pow (toV q_int) (toV q_int))) (nomark _))))) (q_cons (q_putL (b := false) (i := 0) (hu_of hr) (pv 0) (q_op op_fdivW rop_div (toV (q_var (pv 3))) (toV (q_var (pv 1)))) (by rfl)) (q_cons (q_ret hm (q_op op_mod rop_mod (toV (q_var (pv 3))) (toV (q_var (pv 1))))) q_nil)) q_nil) (q_cons (q_set (i := 4) sc__law_draw.nd rfl (Or.inl rfl) (q_op op_mod rop_mod (toV (q_op op_mul3 rop_mul (toV (q_op op_add4 rop_add (toV (q_op op_add4 rop_add (toV (q_op op_mod rop_mod (toV (q_var (pv 3))) (toV q_int))) (toV (q_op op_mul3 rop_mul (toV q_int) (toV (q_var (pv 2))))))) (toV q_int))) (toV q_int))) (toV q_int))) (q_cons (q_for PassesOwn.never rfl (q_irng1 (by rfl) T.b_range (toV q_int)) (q_gname (vs := [5]) (pg_name (i := 5) sc__law_draw.nd rfl (Or.inl rfl)) (by decide)) (q_cons (q_set (i := 4) sc__law_draw.nd rfl (Or.inl rfl) (q_op op_add4 rop_add (toV (q_op op_add4 rop_add (toV (q_op op_add4 rop_add (toV (q_op op_mul3 rop_mul (toV (q_var (pv 4))) (toV (q_var (pv 4))))) (toV (q_op op_mul3 rop_mul (toV q_int) (toV (q_var (pv 4))))))) (toV (q_var (pv 2))))) (toV (q_var (pv 5))))) (q_cons (q_set (i := 4) sc__law_draw.nd rfl (Or.inl rfl) (q_op op_mod rop_mod (toV (q_var (pv 4))) (toV q_int))) q_nil))) (q_cons (q_ret hm (q_op op_mod rop_mod (toV (q_op op_fdivW rop_div (toV (q_var (pv 4))) (toV q_int))) (toV (q_var (pv 1))))) q_nil)))))))))
theorem sc__law_beginning : FnScope N__law_beginning ["_law_pen_here", "_law_base", "_law_most"] (defScope s__law_beginning) := ⟨rfl, rfl, rfl, by decide +kernel, rfl, by decide +kernel, by decide +kernel⟩
theorem ok__law_beginning {fd fd__law_draw : FuncData} (F : Fun K "_law_beginning" "_law_beginning" s__law_beginning a__law_beginning fd) (T : Tx K mg a__law_draw a__law_beginning a__law_bent_2 a__law_pen a_is_whole a_is_base a_is_count a_is_listing a_is_beginning a_BadHouse___init__ a_House___init__ a__law_refused a_House_base a_House_beginning a_House___eq__ a_House_folk a_House_reach a_law a_House a_BadHouse tk_LEAST_BASE tk_MOST_BASE) (G__law_draw : FnOk P w K mg base CX0 1 a__law_draw fd__law_draw ["_law_pen_here", "_law_many"] (lift K (sp__law_draw))) (b__law_draw : Binds K fd__law_draw ["_law_pen_here", "_law_many"] []) : FnOk P w K mg base CX0 2 a__law_beginning fd ["_law_pen_here", "_law_base", "_law_most"] (lift K (sp__law_beginning)) := by
  refine fn_ok (ds := d__law_beginning) F sc__law_beginning (len__law_beginning) (fun cdv A outer s H E B hr hB hm => ?_) (d__law_beginning_ok)
  exact (q_cons (q_ret hm (toE (q_lc (own := [("_law_k", 3)]) rfl sc__law_beginning.nd (q_irng1 (by rfl) T.b_range (toV (q_op op_sub rop_sub (toV (q_var (pv 1))) (toV q_int)))) (blkOk_by (N := N__law_beginning) (sc := defScope s__law_beginning) (own := [("_law_k", 3)]) (by decide +kernel)) (fun _ _ _ _ _ B => (q_gname (vs := [3]) (pg_name (i := 3) sc__law_beginning.nd rfl (Or.inl rfl)) (by decide))) (fun _ _ _ _ _ => pts_U0) (fun _ _ _ _ _ B => (q_op op_add4 rop_add (toV q_int) (toV (q_ix (toV (toE (q_lst (q_acons q_int (q_acons (q_call G__law_draw (hr.mono (by decide)) rfl T.g__law_draw T.k__law_draw b__law_draw .nil (fun _ _ => RelL.nil) pass0 (q_acons (q_var (pv 0)) (q_acons q_int q_anil))) (q_acons (q_call G__law_draw (hr.mono (by decide)) rfl T.g__law_draw T.k__law_draw b__law_draw .nil (fun _ _ => RelL.nil) pass0 (q_acons (q_var (pv 0)) (q_acons (q_var (pv 2)) q_anil))) q_anil)))))) (toV (q_call G__law_draw (hr.mono (by decide)) rfl T.g__law_draw T.k__law_draw b__law_draw .nil (fun _ _ => RelL.nil) pass0 (q_acons (q_var (pv 0)) (q_acons q_int q_anil)))) (fun _ _ => rfl)))))))) q_nil)
theorem sc__law_bent_2 : FnScope N__law_bent_2 ["_law_pen_here", "_law_begun"] (defScope s__law_bent_2) := ⟨rfl, rfl, rfl, by decide +kernel, rfl, by decide +kernel, by decide +kernel⟩
theorem ok__law_bent_2 {fd fd__law_draw : FuncData} (F : Fun K "_law_bent" "_law_bent" s__law_bent_2 a__law_bent_2 fd) (T : Tx K mg a__law_draw a__law_beginning a__law_bent_2 a__law_pen a_is_whole a_is_base a_is_count a_is_listing a_is_beginning a_BadHouse___init__ a_House___init__ a__law_refused a_House_base a_House_beginning a_House___eq__ a_House_folk a_House_reach a_law a_House a_BadHouse tk_LEAST_BASE tk_MOST_BASE) (G__law_draw : FnOk P w K mg base CX0 1 a__law_draw fd__law_draw ["_law_pen_here", "_law_many"] (lift K (sp__law_draw))) (b__law_draw : Binds K fd__law_draw ["_law_pen_here", "_law_many"] []) : FnOk P w K mg base CX0 2 a__law_bent_2 fd ["_law_pen_here", "_law_begun"] (lift K (sp__law_bent_2)) := by
  refine fn_ok (ds := d__law_bent_2) F sc__law_bent_2 (len__law_bent_2) (fun cdv A outer s H E B hr hB hm => ?_) (d__law_bent_2_ok)
  exact (q_cons (q_set (i := 2) sc__law_bent_2.nd rfl (Or.inl rfl) (q_call G__law_draw (hr.mono (by decide)) rfl T.g__law_draw T.k__law_draw b__law_draw .nil (fun _ _ => RelL.nil) pass0 (q_acons (q_var (pv 0)) (q_acons (q_callB call_len3 rc_len (by rfl) T.b_len (by decide +kernel) (q_xcons (toV (q_var (pv 1))) q_xnil)) q_anil)))) (q_cons (q_set (i := 3) sc__law_bent_2.nd rfl (Or.inl rfl) (q_ix (toV (toE (q_lst (q_acons q_int (q_acons (q_un un_neg run_neg (toV q_int)) (q_acons q_bl (q_acons q_non (q_acons q_str (q_acons (toE (q_lst (q_acons q_int q_anil))) (q_acons (q_tup (q_acons q_int q_anil)) q_anil)))))))))) (toV (q_call G__law_draw (hr.mono (by decide)) rfl T.g__law_draw T.k__law_draw b__law_draw .nil (fun _ _ => RelL.nil) pass0 (q_acons (q_var (pv 0)) (q_acons q_int q_anil)))) (fun _ _ => rfl))) (q_cons (q_setN (i := 4) sc__law_bent_2.nd rfl (Or.inl rfl) (q_lst (q_acons (q_op op_add4 rop_add (toV (q_op op_add4 rop_add (toV (q_slice (toV (q_var (pv 1))) q_onone (q_osome (toV (q_var (pv 2)))))) (toV (toE (q_lst (q_acons (q_var (pv 3)) q_anil)))))) (toV (q_slice (toV (q_var (pv 1))) (q_osome (toV (q_op op_add4 rop_add (toV (q_var (pv 2))) (toV q_int)))) q_onone))) (q_acons (q_op op_add4 rop_add (toV (q_var (pv 1))) (toV (toE (q_lst (q_acons q_int q_anil))))) (q_acons (q_slice (toV (q_var (pv 1))) (q_osome (toV q_int)) q_onone) (q_acons q_non (q_acons q_int (q_acons q_str (q_acons (q_op op_add4 rop_add (toV (q_callTy call_tuple_of rc_tuple (by rfl) T.b_tuple (by decide +kernel) (q_xcons (toV (q_var (pv 1))) q_xnil))) (toV (q_tup (q_acons q_int q_anil)))) q_anil))))))))) (q_cons (q_app (i := 4) (pe_bm PySem.F.plainAttrs_list PySem.F.slot_list_append PySem.F.type_list_append mt_append (pv 4) (pa_cons (toE (q_dictP rfl (by rfl) T.b_dict (by decide +kernel) (q_xcons (toV (toE (q_lc (own := [("_law_k", 5)]) rfl sc__law_bent_2.nd (q_irng1 (by rfl) T.b_range (toV (q_callB call_len3 rc_len (by rfl) T.b_len (by decide +kernel) (q_xcons (toV (q_var (pv 1))) q_xnil)))) (blkOk_by (N := N__law_bent_2) (sc := defScope s__law_bent_2) (own := [("_law_k", 5)]) (by decide +kernel)) (fun _ _ _ _ _ B => (q_gname (vs := [5]) (pg_name (i := 5) sc__law_bent_2.nd rfl (Or.inl rfl)) (by decide))) (fun _ _ _ _ _ => pts_U0) (fun _ _ _ _ _ B => (q_tup (q_acons (q_op op_add4 rop_add (toV (q_var (pv 5))) (toV q_int)) (q_acons q_int q_anil))))))) q_xnil))) pa_nil))) (q_frz (i := 4) hB (q_cons (q_ret hm (q_ix (q_view (pv 4)) (toV (q_call G__law_draw (hr.mono (by decide)) rfl T.g__law_draw T.k__law_draw b__law_draw .nil (fun _ _ => RelL.nil) pass0 (q_acons (q_var (pv 0)) (q_acons q_int q_anil)))) (fun _ _ => rfl))) q_nil))))))
theorem sc__law_pen : FnScope N__law_pen ["_law_script"] (defScope s__law_pen) := ⟨rfl, rfl, rfl, by decide +kernel, rfl, by decide +kernel, by decide +kernel⟩
theorem ok__law_pen {fd : FuncData} (F : Fun K "_law_pen" "_law_pen" s__law_pen a__law_pen fd) (T : Tx K mg a__law_draw a__law_beginning a__law_bent_2 a__law_pen a_is_whole a_is_base a_is_count a_is_listing a_is_beginning a_BadHouse___init__ a_House___init__ a__law_refused a_House_base a_House_beginning a_House___eq__ a_House_folk a_House_reach a_law a_House a_BadHouse tk_LEAST_BASE tk_MOST_BASE) : FnOk P w K mg base CX0 1 a__law_pen fd ["_law_script"] (liftN K (sp__law_pen)) := by
  refine fn_okN (ds := d__law_pen) F sc__law_pen (len__law_pen) (fun cdv A outer s H E B hr hB hm => ?_) (d__law_pen_ok)
  exact (q_cons (q_set (i := 1) sc__law_pen.nd rfl (Or.inr rfl) (q_op op_powW rop_pow (toV (q_op op_powW rop_pow (toV q_int) (toV q_int))) (toV q_int))) (q_cons (q_retNew hm (q_disp (q_pcons (fun B => (toE (q_lc (own := [("_law_cell", 2)]) rfl sc__law_pen.nd (q_iany (q_slice (toV (q_var (pv 0))) q_onone (q_osome (toV q_int)))) (blkOk_by (N := N__law_pen) (sc := defScope s__law_pen) (own := [("_law_cell", 2)]) (by decide +kernel)) (fun _ _ _ _ _ B => (q_gname (vs := [2]) (pg_name (i := 2) sc__law_pen.nd rfl (Or.inl rfl)) (by decide))) (fun _ _ _ _ _ => pts_U0) (fun _ _ _ _ _ B => (q_ifE (q_tcmp op_ge rop_ge (toV (q_callB call_abs rc_abs (by rfl) T.b_abs (by decide +kernel) (q_xcons (toV (q_var (pv 2))) q_xnil))) (toV (q_op op_powW rop_pow (toV q_int) (toV q_int))) (nomark _)) (q_op op_mod rop_mod (toV (q_callB call_abs rc_abs (by rfl) T.b_abs (by decide +kernel) (q_xcons (toV (q_var (pv 2))) q_xnil))) (toV (q_var (pv 1)))) (q_var (pv 2))))))) (q_pcons (fun B => q_int) (q_pcons (fun B => q_int) q_pnil))) (by decide +kernel) (by decide))) q_nil))
theorem sc_is_whole : FnScope N_is_whole ["thing"] (defScope s_is_whole) := ⟨rfl, rfl, rfl, by decide +kernel, rfl, by decide +kernel, by decide +kernel⟩
theorem ok_is_whole {fd : FuncData} (F : Fun K "is_whole" "is_whole" s_is_whole a_is_whole fd) (T : Tx K mg a__law_draw a__law_beginning a__law_bent_2 a__law_pen a_is_whole a_is_base a_is_count a_is_listing a_is_beginning a_BadHouse___init__ a_House___init__ a__law_refused a_House_base a_House_beginning a_House___eq__ a_House_folk a_House_reach a_law a_House a_BadHouse tk_LEAST_BASE tk_MOST_BASE) : FnOk P w K mg base CX0 1 a_is_whole fd ["thing"] (lift K (sp_is_whole)) := by
  refine fn_ok (ds := d_is_whole) F sc_is_whole (len_is_whole) (fun cdv A outer s H E B hr hB hm => ?_) (d_is_whole_ok)
  exact (q_cons (q_ret hm (q_andV (q_isi (c := .int) (toV (q_var (pv 0))) rfl T.b_isinstance rfl T.b_int (by rfl)) (q_one (q_notV (q_isi (c := .bl) (toV (q_var (pv 0))) rfl T.b_isinstance rfl T.b_bool (by rfl)))))) q_nil)
theorem sc_is_base : FnScope N_is_base ["thing"] (defScope s_is_base) := ⟨rfl, rfl, rfl, by decide +kernel, rfl, by decide +kernel, by decide +kernel⟩
theorem ok_is_base {fd fd_is_whole : FuncData} (F : Fun K "is_base" "is_base" s_is_base a_is_base fd) (T : Tx K mg a__law_draw a__law_beginning a__law_bent_2 a__law_pen a_is_whole a_is_base a_is_count a_is_listing a_is_beginning a_BadHouse___init__ a_House___init__ a__law_refused a_House_base a_House_beginning a_House___eq__ a_House_folk a_House_reach a_law a_House a_BadHouse tk_LEAST_BASE tk_MOST_BASE) (G_is_whole : FnOk P w K mg base CX0 1 a_is_whole fd_is_whole ["thing"] (lift K (sp_is_whole))) (b_is_whole : Binds K fd_is_whole ["thing"] []) : FnOk P w K mg base CX0 2 a_is_base fd ["thing"] (lift K (sp_is_base)) := by
  refine fn_ok (ds := d_is_base) F sc_is_base (len_is_base) (fun cdv A outer s H E B hr hB hm => ?_) (d_is_base_ok)
  exact (q_cons (q_ret hm (q_andV (q_call G_is_whole (hr.mono (by decide)) rfl T.g_is_whole T.k_is_whole b_is_whole .nil (fun _ _ => RelL.nil) pass0 (q_acons (q_var (pv 0)) q_anil)) (q_one (q_chain op_le rop_le op_le rop_le (toV (q_c (pe_glob (v := (.int 2)) rfl T.c_LEAST_BASE ⟨_, rfl⟩) (fun _ _ => rD_int _))) (toV (q_var (pv 0))) (toV (q_c (pe_glob (v := (.int 30)) rfl T.c_MOST_BASE ⟨_, rfl⟩) (fun _ _ => rD_int _))))))) q_nil)
theorem sc_is_count : FnScope N_is_count ["thing"] (defScope s_is_count) := ⟨rfl, rfl, rfl, by decide +kernel, rfl, by decide +kernel, by decide +kernel⟩
theorem ok_is_count {fd fd_is_whole : FuncData} (F : Fun K "is_count" "is_count" s_is_count a_is_count fd) (T : Tx K mg a__law_draw a__law_beginning a__law_bent_2 a__law_pen a_is_whole a_is_base a_is_count a_is_listing a_is_beginning a_BadHouse___init__ a_House___init__ a__law_refused a_House_base a_House_beginning a_House___eq__ a_House_folk a_House_reach a_law a_House a_BadHouse tk_LEAST_BASE tk_MOST_BASE) (G_is_whole : FnOk P w K mg base CX0 1 a_is_whole fd_is_whole ["thing"] (lift K (sp_is_whole))) (b_is_whole : Binds K fd_is_whole ["thing"] []) : FnOk P w K mg base CX0 2 a_is_count fd ["thing"] (lift K (sp_is_count)) := by
  refine fn_ok (ds := d_is_count) F sc_is_count (len_is_count) (fun cdv A outer s H E B hr hB hm => ?_) (d_is_count_ok)
  exact (q_cons (q_ret hm (q_andV (q_call G_is_whole (hr.mono (by decide)) rfl T.g_is_whole T.k_is_whole b_is_whole .nil (fun _ _ => RelL.nil) pass0 (q_acons (q_var (pv 0)) q_anil)) (q_one (q_cmp op_gt rop_gt (toV (q_var (pv 0))) (toV q_int) (nomark _))))) q_nil)
theorem sc_is_listing : FnScope N_is_listing ["thing"] (defScope s_is_listing) := ⟨rfl, rfl, rfl, by decide +kernel, rfl, by decide +kernel, by decide +kernel⟩
theorem ok_is_listing {fd : FuncData} (F : Fun K "is_listing" "is_listing" s_is_listing a_is_listing fd) (T : Tx K mg a__law_draw a__law_beginning a__law_bent_2 a__law_pen a_is_whole a_is_base a_is_count a_is_listing a_is_beginning a_BadHouse___init__ a_House___init__ a__law_refused a_House_base a_House_beginning a_House___eq__ a_House_folk a_House_reach a_law a_House a_BadHouse tk_LEAST_BASE tk_MOST_BASE) : FnOk P w K mg base CX0 1 a_is_listing fd ["thing"] (lift K (sp_is_listing)) := by
  refine fn_ok (ds := d_is_listing) F sc_is_listing (len_is_listing) (fun cdv A outer s H E B hr hB hm => ?_) (d_is_listing_ok)
  exact (q_cons (q_ret hm (q_isi2 (c := .lst) (c2 := .tup) (toV (q_var (pv 0))) rfl T.b_isinstance rfl T.b_list (by rfl) rfl T.b_tuple (by rfl))) q_nil)
theorem sc_is_beginning : FnScope N_is_beginning ["base", "thing"] (defScope s_is_beginning) := ⟨rfl, rfl, rfl, by decide +kernel, rfl, by decide +kernel, by decide +kernel⟩
theorem ok_is_beginning {fd fd_is_count fd_is_listing : FuncData} (F : Fun K "is_beginning" "is_beginning" s_is_beginning a_is_beginning fd) (T : Tx K mg a__law_draw a__law_beginning a__law_bent_2 a__law_pen a_is_whole a_is_base a_is_count a_is_listing a_is_beginning a_BadHouse___init__ a_House___init__ a__law_refused a_House_base a_House_beginning a_House___eq__ a_House_folk a_House_reach a_law a_House a_BadHouse tk_LEAST_BASE tk_MOST_BASE) (G_is_count : FnOk P w K mg base CX0 2 a_is_count fd_is_count ["thing"] (lift K (sp_is_count))) (b_is_count : Binds K fd_is_count ["thing"] []) (G_is_listing : FnOk P w K mg base CX0 1 a_is_listing fd_is_listing ["thing"] (lift K (sp_is_listing))) (b_is_listing : Binds K fd_is_listing ["thing"] []) : FnOk P w K mg base CX0 3 a_is_beginning fd ["base", "thing"] (lift K (sp_is_beginning)) := by
  refine fn_ok (ds := d_is_beginning) F sc_is_beginning (len_is_beginning) (fun cdv A outer s H E B hr hB hm => ?_) (d_is_beginning_ok)
  exact (q_cons (q_if (L2.PW.pt (q_or (q_not (q_tval (q_call G_is_listing (hr.mono (by decide)) rfl T.g_is_listing T.k_is_listing b_is_listing .nil (fun _ _ => RelL.nil) pass0 (q_acons (q_var (pv 1)) q_anil)))) (q_or1 (q_tcmp (op_neD hr.units) rop_ne (toV (q_callB call_len3 rc_len (by rfl) T.b_len (by decide +kernel) (q_xcons (toV (q_var (pv 1))) q_xnil))) (toV (q_op op_sub rop_sub (toV (q_var (pv 0))) (toV q_int))) (nomark _))))) (q_cons (q_ret hm q_bl) q_nil) q_nil) (q_cons (q_ret hm (q_callB (cr_all rfl) rc_all (by rfl) T.b_all (by decide +kernel) (q_xcons (toV (toE (q_lc (own := [("many", 2)]) rfl sc_is_beginning.nd (q_iany (q_var (pv 1))) (blkOk_by (N := N_is_beginning) (sc := defScope s_is_beginning) (own := [("many", 2)]) (by decide +kernel)) (fun _ _ _ _ _ B => (q_gname (vs := [2]) (pg_name (i := 2) sc_is_beginning.nd rfl (Or.inl rfl)) (by decide))) (fun _ _ _ _ _ => pts_U0) (fun _ _ _ _ _ B => (q_call G_is_count (hr.mono (by decide)) rfl T.g_is_count T.k_is_count b_is_count .nil (fun _ _ => RelL.nil) pass0 (q_acons (q_var (pv 2)) q_anil)))))) q_xnil))) q_nil))
theorem sc_BadHouse___init__ : FnScope N_BadHouse___init__ ["self", "part"] (defScope s_BadHouse___init__) := ⟨rfl, rfl, rfl, by decide +kernel, rfl, by decide +kernel, by decide +kernel⟩
theorem ok_BadHouse___init__ {fd : FuncData} (F : Fun K "__init__" "BadHouse.__init__" s_BadHouse___init__ a_BadHouse___init__ fd) (T : Tx K mg a__law_draw a__law_beginning a__law_bent_2 a__law_pen a_is_whole a_is_base a_is_count a_is_listing a_is_beginning a_BadHouse___init__ a_House___init__ a__law_refused a_House_base a_House_beginning a_House___eq__ a_House_folk a_House_reach a_law a_House a_BadHouse tk_LEAST_BASE tk_MOST_BASE) : FnOk P w K mg base CX0 1 a_BadHouse___init__ fd ["self", "part"] (spFx K "ValueError.__new__" vaTail "part") := by
  exact fn_fx F sc_BadHouse___init__ (fun cdv A outer s H E => pss_cons (ps_expr (pe_vainit (by rfl) T.b_ValueError T.vF_ValueError (pa_cons (pv 0) (pa_cons pe_str pa_nil)))) (pss_one (ps_fstG fxb_Value.g (pv 0) (pv 1))))
theorem sc_House___init__ : FnScope N_House___init__ ["self", "k", "beginning"] (defScope s_House___init__) := ⟨rfl, rfl, rfl, by decide +kernel, rfl, by decide +kernel, by decide +kernel⟩
theorem ok_House___init__ {fd fd_is_base fd_is_beginning fd_BadHouse___init__ : FuncData} (F : Fun K "__init__" "House.__init__" s_House___init__ a_House___init__ fd) (T : Tx K mg a__law_draw a__law_beginning a__law_bent_2 a__law_pen a_is_whole a_is_base a_is_count a_is_listing a_is_beginning a_BadHouse___init__ a_House___init__ a__law_refused a_House_base a_House_beginning a_House___eq__ a_House_folk a_House_reach a_law a_House a_BadHouse tk_LEAST_BASE tk_MOST_BASE) (G_is_base : FnOk P w K mg base CX0 2 a_is_base fd_is_base ["thing"] (lift K (sp_is_base))) (b_is_base : Binds K fd_is_base ["thing"] []) (G_is_beginning : FnOk P w K mg base CX0 3 a_is_beginning fd_is_beginning ["base", "thing"] (lift K (sp_is_beginning))) (b_is_beginning : Binds K fd_is_beginning ["base", "thing"] []) (G_BadHouse___init__ : FnOk P w K mg base CX0 1 a_BadHouse___init__ fd_BadHouse___init__ ["self", "part"] (spFx K "ValueError.__new__" vaTail "part")) (b_BadHouse___init__ : Binds K fd_BadHouse___init__ ["self", "part"] []) : FnOk P w K mg base (L2N.CX P w) 4 a_House___init__ fd ["self", "k", "beginning"] (liftIE K (xcl a_BadHouse) a_House (sp_House_initE (Cl.mk a_House a_law a_law a_law a_law))) := by
  refine fn_okIE (cl := (xcl a_BadHouse)) (ds := d_House_initE (Cl.mk a_House a_law a_law a_law a_law)) F sc_House___init__ (len_House_initE (Cl.mk a_House a_law a_law a_law a_law)) (np_House_initE (Cl.mk a_House a_law a_law a_law a_law)) (fun cdv A outer s H E O F0 H0 xa Px hr hE => ?_) (d_House_initE_ok (Cl.mk a_House a_law a_law a_law a_law))
  exact (i_consB (i_guardX (W := fun c d _ H => E c d H) (Ca := a_BadHouse) (f := "part") (m := "k") rfl (L2N.takes_of rfl rfl rfl rfl) (fun ns l F t env σ H dd S hd px => hE .BadHouse "k" a_BadHouse "part" ns l F t env σ H dd rfl S hd px) (pmkN_fxG fxb_Value.g T.fx_BadHouse T.in_BadHouse T.ty_BadHouse T.no_BadHouse G_BadHouse___init__ (hr.mono (by decide)) b_BadHouse___init__ pass0 rfl T.g_BadHouse (pa_cons pe_str pa_nil)) (fun B => (q_not (q_tval (q_callO G_is_base (hr.mono (by decide)) rfl T.g_is_base T.k_is_base b_is_base .nil (fun _ _ => RelL.nil) pass0 (q_acons (q_var (pv 1)) q_anil)))))) (i_consB (i_guardX (W := fun c d _ H => E c d H) (Ca := a_BadHouse) (f := "part") (m := "beginning") rfl (L2N.takes_of rfl rfl rfl rfl) (fun ns l F t env σ H dd S hd px => hE .BadHouse "beginning" a_BadHouse "part" ns l F t env σ H dd rfl S hd px) (pmkN_fxG fxb_Value.g T.fx_BadHouse T.in_BadHouse T.ty_BadHouse T.no_BadHouse G_BadHouse___init__ (hr.mono (by decide)) b_BadHouse___init__ pass0 rfl T.g_BadHouse (pa_cons pe_str pa_nil)) (fun B => (q_not (q_tval (q_ownE (i := 2) (fun B => (q_lendN (i := 2) (js := [1]) (fun B => (q_callO G_is_beginning (hr.mono (by decide)) rfl T.g_is_beginning T.k_is_beginning b_is_beginning .nil (fun _ _ => RelL.nil) pass0 (q_acons (q_var (pv 1)) (q_acons (q_var (pv 2)) q_anil))))))))))) (i_B (i_cons (i_set (pv 0) (fun B => (q_var (pv 1))) T.cl_House T.n_House_kept_base) (i_cons (i_set (pv 0) (fun B => (toE (q_ownN (i := 2) (fun B => (q_callTyN call_list_of rc_list (by rfl) T.b_list (by decide +kernel) (q_xcons (q_view (pv 2)) q_xnil)))))) T.cl_House T.n_House_kept_beginning) (i_sumsO (pv 0) (pv 2) (pg_name (i := 3) sc_House___init__.nd rfl (Or.inl rfl)) (pe_bm PySem.F.plainAttrs_list PySem.F.slot_list_append PySem.F.type_list_append mt_append (pe_fld (pv 0) rfl) (pa_cons (pe_U fun B => (q_op op_add4 rop_add (toV (q_op op_sub rop_sub (toV (q_var (pv 3))) (toV q_int))) (toV (q_ifE (q_tcmp (op_neD hr.units) rop_ne (toV (q_fld (toV (q_var (pv 0))) T.cl_House T.n_House_sums)) (toV (toE (q_lst q_anil))) (nomark _)) (q_ix (toV (q_fld (toV (q_var (pv 0))) T.cl_House T.n_House_sums)) (toV (q_un un_neg run_neg (toV q_int))) (fun _ _ => rfl)) q_int)))) pa_nil)) (sumsE_House (Cl.mk a_House a_law a_law a_law a_law)) T.cl_House T.n_House_sums (passes_of rfl) rfl (by decide)))))))
theorem sc__law_refused : FnScope N__law_refused ["_law_base", "_law_begun"] (defScope s__law_refused) := ⟨rfl, rfl, rfl, by decide +kernel, rfl, by decide +kernel, by decide +kernel⟩
theorem ok__law_refused {fd fd_House___init__ : FuncData} (F : Fun K "_law_refused" "_law_refused" s__law_refused a__law_refused fd) (T : Tx K mg a__law_draw a__law_beginning a__law_bent_2 a__law_pen a_is_whole a_is_base a_is_count a_is_listing a_is_beginning a_BadHouse___init__ a_House___init__ a__law_refused a_House_base a_House_beginning a_House___eq__ a_House_folk a_House_reach a_law a_House a_BadHouse tk_LEAST_BASE tk_MOST_BASE) (G_House___init__ : FnOk P w K mg base (L2N.CX P w) 4 a_House___init__ fd_House___init__ ["self", "k", "beginning"] (liftIE K (xcl a_BadHouse) a_House (sp_House_initE (Cl.mk a_House a_law a_law a_law a_law)))) (b_House___init__ : Binds K fd_House___init__ ["self", "k", "beginning"] []) : FnOk P w K mg base CX0 6 a__law_refused fd ["_law_base", "_law_begun"] (lift K (sp__law_refused (Cl.mk a_House a_law a_law a_law a_law))) := by
  refine fn_ok (ds := d__law_refused (Cl.mk a_House a_law a_law a_law a_law)) F sc__law_refused (len__law_refused (Cl.mk a_House a_law a_law a_law a_law)) (fun cdv A outer s H E B hr hB hm => ?_) (d__law_refused_ok (Cl.mk a_House a_law a_law a_law a_law))
  exact (q_cons (q_set (i := 2) sc__law_refused.nd rfl (Or.inl rfl) q_non) (q_cons (q_tryDrop rfl rfl sc__law_refused.nd takes_none5 (hq_set (i := 2) (j := 3) (f := "part") ⟨rfl, by decide, .inl T.g_BadHouse⟩ rfl T.tx_BadHouse rfl rfl (by decide) (show 2 < N__law_refused.length by decide) (fun a dd oe pn hz hf => ps_set (i := 2) sc__law_refused.nd rfl (Or.inl rfl) (sx_if T.ki_BadHouse_ValueError T.ex_BadHouse hz hf List.mem_cons_self (pv 3) rfl T.b_isinstance (pe_bltn (v := .ty "ValueError") (by rfl) T.b_ValueError (by decide +kernel) rfl) (sx_fld ⟨T.ex_BadHouse.hg, T.ex_BadHouse.hk, T.ex_BadHouse.hs, T.ex_BadHouse.hd⟩ T.no_BadHouse hz hf List.mem_cons_self (pv 3)))) hq_none) (fun _ _ => by rfl) (fun W pn xe tk => (z_makeI T.mk_House (fn_N2 G_House___init__) (hr.mono (by decide)) rfl T.g_House b_House___init__ (fun σ => passAt tk σ) (q_acons (q_var (pv 0)) (q_acons (q_var (pv 1)) q_anil))))) (q_cons (q_ret hm (q_var (pv 2))) q_nil)))
theorem sc_House_base : FnScope N_House_base ["self"] (defScope s_House_base) := ⟨rfl, rfl, rfl, by decide +kernel, rfl, by decide +kernel, by decide +kernel⟩
theorem ok_House_base {fd : FuncData} (F : Fun K "base" "House.base" s_House_base a_House_base fd) (T : Tx K mg a__law_draw a__law_beginning a__law_bent_2 a__law_pen a_is_whole a_is_base a_is_count a_is_listing a_is_beginning a_BadHouse___init__ a_House___init__ a__law_refused a_House_base a_House_beginning a_House___eq__ a_House_folk a_House_reach a_law a_House a_BadHouse tk_LEAST_BASE tk_MOST_BASE) : FnOk P w K mg base CX0 1 a_House_base fd ["self"] (lift K (sp_House_base (Cl.mk a_House a_law a_law a_law a_law))) := by
  refine fn_ok (ds := d_House_base (Cl.mk a_House a_law a_law a_law a_law)) F sc_House_base (len_House_base (Cl.mk a_House a_law a_law a_law a_law)) (fun cdv A outer s H E B hr hB hm => ?_) (d_House_base_ok (Cl.mk a_House a_law a_law a_law a_law))
  exact (q_cons (q_ret hm (q_fld (toV (q_var (pv 0))) T.cl_House T.n_House_kept_base)) q_nil)
theorem sc_House_beginning : FnScope N_House_beginning ["self"] (defScope s_House_beginning) := ⟨rfl, rfl, rfl, by decide +kernel, rfl, by decide +kernel, by decide +kernel⟩
theorem ok_House_beginning {fd : FuncData} (F : Fun K "beginning" "House.beginning" s_House_beginning a_House_beginning fd) (T : Tx K mg a__law_draw a__law_beginning a__law_bent_2 a__law_pen a_is_whole a_is_base a_is_count a_is_listing a_is_beginning a_BadHouse___init__ a_House___init__ a__law_refused a_House_base a_House_beginning a_House___eq__ a_House_folk a_House_reach a_law a_House a_BadHouse tk_LEAST_BASE tk_MOST_BASE) : FnOk P w K mg base CX0 1 a_House_beginning fd ["self"] (liftN K (sp_House_beginning (Cl.mk a_House a_law a_law a_law a_law))) := by
  refine fn_okN (ds := d_House_beginning (Cl.mk a_House a_law a_law a_law a_law)) F sc_House_beginning (len_House_beginning (Cl.mk a_House a_law a_law a_law a_law)) (fun cdv A outer s H E B hr hB hm => ?_) (d_House_beginning_ok (Cl.mk a_House a_law a_law a_law a_law))
  exact (q_cons (q_retNew hm (q_callTyN call_list_of rc_list (by rfl) T.b_list (by decide +kernel) (q_xcons (toV (q_fld (toV (q_var (pv 0))) T.cl_House T.n_House_kept_beginning)) q_xnil))) q_nil)
theorem sc_House___eq__ : FnScope N_House___eq__ ["self", "other"] (defScope s_House___eq__) := ⟨rfl, rfl, rfl, by decide +kernel, rfl, by decide +kernel, by decide +kernel⟩
theorem ok_House___eq__ {fd fd_House_base fd_House_beginning : FuncData} (F : Fun K "__eq__" "House.__eq__" s_House___eq__ a_House___eq__ fd) (T : Tx K mg a__law_draw a__law_beginning a__law_bent_2 a__law_pen a_is_whole a_is_base a_is_count a_is_listing a_is_beginning a_BadHouse___init__ a_House___init__ a__law_refused a_House_base a_House_beginning a_House___eq__ a_House_folk a_House_reach a_law a_House a_BadHouse tk_LEAST_BASE tk_MOST_BASE) (G_House_base : FnOk P w K mg base CX0 1 a_House_base fd_House_base ["self"] (lift K (sp_House_base (Cl.mk a_House a_law a_law a_law a_law)))) (b_House_base : Binds K fd_House_base ["self"] []) (G_House_beginning : FnOk P w K mg base CX0 1 a_House_beginning fd_House_beginning ["self"] (liftN K (sp_House_beginning (Cl.mk a_House a_law a_law a_law a_law)))) (b_House_beginning : Binds K fd_House_beginning ["self"] []) : FnOk P w K mg base CX0 2 a_House___eq__ fd ["self", "other"] (lift K (sp_House___eq__ (Cl.mk a_House a_law a_law a_law a_law))) := by
  refine fn_ok (ds := d_House___eq__ (Cl.mk a_House a_law a_law a_law a_law)) F sc_House___eq__ (len_House___eq__ (Cl.mk a_House a_law a_law a_law a_law)) (fun cdv A outer s H E B hr hB hm => ?_) (d_House___eq___ok (Cl.mk a_House a_law a_law a_law a_law))
  exact (q_cons (q_ret hm (q_andV (q_callB call_isi (rc_isCW T.w_House) (by rfl) T.b_isinstance (by decide +kernel) (q_xcons (toV (q_var (pv 1))) (q_xcons (toV (q_adr rfl T.g_House)) q_xnil))) (q_andV (q_cmp (op_eqD hr.units) rop_eq (toV (q_meth0 (q_var (pv 0)) T.cl_House T.m_House_base G_House_base (hr.mono (by decide)) b_House_base .nil (fun _ _ => RelL.nil) pass0)) (toV (q_meth0 (q_var (pv 1)) T.cl_House T.m_House_base G_House_base (hr.mono (by decide)) b_House_base .nil (fun _ _ => RelL.nil) pass0)) (nomark _)) (q_one (q_cmp (op_eqD hr.units) rop_eq (toV (toE (q_methN1 (q_var (pv 0)) T.cl_House T.m_House_beginning G_House_beginning (hr.mono (by decide)) b_House_beginning .nil (fun _ _ => RelL.nil) pass0))) (toV (toE (q_methN1 (q_var (pv 1)) T.cl_House T.m_House_beginning G_House_beginning (hr.mono (by decide)) b_House_beginning .nil (fun _ _ => RelL.nil) pass0))) (nomark _)))))) q_nil)
theorem sc_House_folk : FnScope N_House_folk ["self"] (defScope s_House_folk) := ⟨rfl, rfl, rfl, by decide +kernel, rfl, by decide +kernel, by decide +kernel⟩
theorem ok_House_folk {fd : FuncData} (F : Fun K "folk" "House.folk" s_House_folk a_House_folk fd) (T : Tx K mg a__law_draw a__law_beginning a__law_bent_2 a__law_pen a_is_whole a_is_base a_is_count a_is_listing a_is_beginning a_BadHouse___init__ a_House___init__ a__law_refused a_House_base a_House_beginning a_House___eq__ a_House_folk a_House_reach a_law a_House a_BadHouse tk_LEAST_BASE tk_MOST_BASE) : FnOk P w K mg base CX0 1 a_House_folk fd ["self"] (lift K (sp_House_folk (Cl.mk a_House a_law a_law a_law a_law))) := by
  refine fn_ok (ds := d_House_folk (Cl.mk a_House a_law a_law a_law a_law)) F sc_House_folk (len_House_folk (Cl.mk a_House a_law a_law a_law a_law)) (fun cdv A outer s H E B hr hB hm => ?_) (d_House_folk_ok (Cl.mk a_House a_law a_law a_law a_law))
  exact (q_cons (q_ret hm (q_callB (cr_sum rfl) rc_sum (by rfl) T.b_sum (by decide +kernel) (q_xcons (toV (q_fld (toV (q_var (pv 0))) T.cl_House T.n_House_kept_beginning)) q_xnil))) q_nil)
theorem sc_House_reach : FnScope N_House_reach ["self"] (defScope s_House_reach) := ⟨rfl, rfl, rfl, by decide +kernel, rfl, by decide +kernel, by decide +kernel⟩
theorem ok_House_reach {fd : FuncData} (F : Fun K "reach" "House.reach" s_House_reach a_House_reach fd) (T : Tx K mg a__law_draw a__law_beginning a__law_bent_2 a__law_pen a_is_whole a_is_base a_is_count a_is_listing a_is_beginning a_BadHouse___init__ a_House___init__ a__law_refused a_House_base a_House_beginning a_House___eq__ a_House_folk a_House_reach a_law a_House a_BadHouse tk_LEAST_BASE tk_MOST_BASE) : FnOk P w K mg base CX0 1 a_House_reach fd ["self"] (lift K (sp_House_reach (Cl.mk a_House a_law a_law a_law a_law))) := by
  refine fn_ok (ds := d_House_reach (Cl.mk a_House a_law a_law a_law a_law)) F sc_House_reach (len_House_reach (Cl.mk a_House a_law a_law a_law a_law)) (fun cdv A outer s H E B hr hB hm => ?_) (d_House_reach_ok (Cl.mk a_House a_law a_law a_law a_law))
  exact (q_cons (q_ret hm (q_ix (toV (q_fld (toV (q_var (pv 0))) T.cl_House T.n_House_sums)) (toV (q_un un_neg run_neg (toV q_int))) (fun _ _ => rfl))) q_nil)
theorem sc_law : FnScope N_law ["_law_script"] (defScope s_law) := ⟨rfl, rfl, rfl, by decide +kernel, rfl, by decide +kernel, by decide +kernel⟩
theorem ok_law {fd fd__law_beginning fd__law_bent_2 fd__law_draw fd__law_pen fd__law_refused fd_House___eq__ fd_House_base fd_House_beginning fd_House_folk fd_House_reach fd_House___init__ : FuncData} (F : Fun K "law" "law" s_law a_law fd) (T : Tx K mg a__law_draw a__law_beginning a__law_bent_2 a__law_pen a_is_whole a_is_base a_is_count a_is_listing a_is_beginning a_BadHouse___init__ a_House___init__ a__law_refused a_House_base a_House_beginning a_House___eq__ a_House_folk a_House_reach a_law a_House a_BadHouse tk_LEAST_BASE tk_MOST_BASE) (G__law_beginning : FnOk P w K mg base CX0 2 a__law_beginning fd__law_beginning ["_law_pen_here", "_law_base", "_law_most"] (lift K (sp__law_beginning))) (b__law_beginning : Binds K fd__law_beginning ["_law_pen_here", "_law_base", "_law_most"] []) (G__law_bent_2 : FnOk P w K mg base CX0 2 a__law_bent_2 fd__law_bent_2 ["_law_pen_here", "_law_begun"] (lift K (sp__law_bent_2))) (b__law_bent_2 : Binds K fd__law_bent_2 ["_law_pen_here", "_law_begun"] []) (G__law_draw : FnOk P w K mg base CX0 1 a__law_draw fd__law_draw ["_law_pen_here", "_law_many"] (lift K (sp__law_draw))) (b__law_draw : Binds K fd__law_draw ["_law_pen_here", "_law_many"] []) (G__law_pen : FnOk P w K mg base CX0 1 a__law_pen fd__law_pen ["_law_script"] (liftN K (sp__law_pen))) (b__law_pen : Binds K fd__law_pen ["_law_script"] []) (G__law_refused : FnOk P w K mg base CX0 6 a__law_refused fd__law_refused ["_law_base", "_law_begun"] (lift K (sp__law_refused (Cl.mk a_House a_law a_law a_law a_law)))) (b__law_refused : Binds K fd__law_refused ["_law_base", "_law_begun"] []) (G_House___eq__ : FnOk P w K mg base CX0 2 a_House___eq__ fd_House___eq__ ["self", "other"] (lift K (sp_House___eq__ (Cl.mk a_House a_law a_law a_law a_law)))) (b_House___eq__ : Binds K fd_House___eq__ ["self", "other"] []) (G_House_base : FnOk P w K mg base CX0 1 a_House_base fd_House_base ["self"] (lift K (sp_House_base (Cl.mk a_House a_law a_law a_law a_law)))) (b_House_base : Binds K fd_House_base ["self"] []) (G_House_beginning : FnOk P w K mg base CX0 1 a_House_beginning fd_House_beginning ["self"] (liftN K (sp_House_beginning (Cl.mk a_House a_law a_law a_law a_law)))) (b_House_beginning : Binds K fd_House_beginning ["self"] []) (G_House_folk : FnOk P w K mg base CX0 1 a_House_folk fd_House_folk ["self"] (lift K (sp_House_folk (Cl.mk a_House a_law a_law a_law a_law)))) (b_House_folk : Binds K fd_House_folk ["self"] []) (G_House_reach : FnOk P w K mg base CX0 1 a_House_reach fd_House_reach ["self"] (lift K (sp_House_reach (Cl.mk a_House a_law a_law a_law a_law)))) (b_House_reach : Binds K fd_House_reach ["self"] []) (G_House___init__ : FnOk P w K mg base (L2N.CX P w) 4 a_House___init__ fd_House___init__ ["self", "k", "beginning"] (liftIE K (xcl a_BadHouse) a_House (sp_House_initE (Cl.mk a_House a_law a_law a_law a_law)))) (b_House___init__ : Binds K fd_House___init__ ["self", "k", "beginning"] []) : FnOk P w K mg base CX0 7 a_law fd ["_law_script"] (spLaw K) := by
  refine fn_law (i := 1) (dp := dCall sp__law_pen [] (dCons (dVar 0) dNil)) (ds := d_law (Cl.mk a_House a_law a_law a_law a_law)) F sc_law rfl (fun cdv A outer s H E B hr => ?_) (fun cdv A outer s H E B hr hB hm => ?_) ⟨by decide, by decide⟩ false (d_law_ok (Cl.mk a_House a_law a_law a_law a_law))
  · exact ps_set (i := 1) sc_law.nd rfl (Or.inl rfl) (q_callN G__law_pen (hr.mono (by decide)) rfl T.g__law_pen T.k__law_pen b__law_pen .nil (fun _ _ => RelL.nil) pass0 (q_acons (q_var (pv 0)) q_anil))
  · exact (q_cons (q_for PassesOwn.never rfl (q_irng1 (by rfl) T.b_range (toV (q_op op_add4 rop_add (toV q_int) (toV (q_callB (call_min3 rfl) rc_min (by rfl) T.b_min (by decide +kernel) (q_xcons (toV q_int) (q_xcons (toV (q_callB call_len3 rc_len (by rfl) T.b_len (by decide +kernel) (q_xcons (toV (q_var (pv 0))) q_xnil))) q_xnil))))))) (q_gname (vs := [2]) (pg_name (i := 2) sc_law.nd rfl (Or.inl rfl)) (by decide)) (q_cons (q_set (i := 3) sc_law.nd rfl (Or.inl rfl) (q_op op_add4 rop_add (toV q_int) (toV (q_callO G__law_draw (hr.mono (by decide)) rfl T.g__law_draw T.k__law_draw b__law_draw .nil (fun _ _ => RelL.nil) pass0 (q_acons (q_var (pv 1)) (q_acons q_int q_anil)))))) (q_cons (q_set (i := 4) sc_law.nd rfl (Or.inl rfl) (q_callO G__law_beginning (hr.mono (by decide)) rfl T.g__law_beginning T.k__law_beginning b__law_beginning .nil (fun _ _ => RelL.nil) pass0 (q_acons (q_var (pv 1)) (q_acons (q_var (pv 3)) (q_acons (q_op op_powW rop_pow (toV q_int) (toV q_int)) q_anil))))) (q_cons (q_set (i := 5) sc_law.nd rfl (Or.inl rfl) (q_ix (toV (toE (q_lst (q_acons (q_reg (q_callTyN call_list_of rc_list (by rfl) T.b_list (by decide +kernel) (q_xcons (toV (q_var (pv 4))) q_xnil))) (q_acons (q_callTy call_tuple_of rc_tuple (by rfl) T.b_tuple (by decide +kernel) (q_xcons (toV (q_var (pv 4))) q_xnil)) q_anil))))) (toV (q_callO G__law_draw (hr.mono (by decide)) rfl T.g__law_draw T.k__law_draw b__law_draw .nil (fun _ _ => RelL.nil) pass0 (q_acons (q_var (pv 1)) (q_acons q_int q_anil)))) (fun _ _ => rfl))) (q_cons (q_set (i := 6) sc_law.nd rfl (Or.inl rfl) (toE (q_make T.mk_House (fn_plainIE G_House___init__) (hr.mono (by decide)) rfl T.g_House b_House___init__ .nil (fun _ _ => RelL.nil) pass0 (q_acons (q_var (pv 3)) (q_acons (q_var (pv 5)) q_anil))))) (q_cons (q_if (q_tval (q_ownE (i := 5) (fun B => (q_isi (c := .lst) (q_view (pv 5)) rfl T.b_isinstance rfl T.b_list (by rfl))))) (q_cons (q_appO (pe_bm PySem.F.plainAttrs_list PySem.F.slot_list_append PySem.F.type_list_append mt_append (q_var (pv 5)) (pa_cons q_int pa_nil))) q_nil) q_nil) (q_cons (q_for PassesOwn.never rfl (q_irng1 (by rfl) T.b_range (toV q_int)) (q_gname (vs := [7]) (pg_name (i := 7) sc_law.nd rfl (Or.inl rfl)) (by decide)) (q_cons (q_setN (i := 10) sc_law.nd rfl (Or.inl rfl) (q_methN1 (q_var (pv 6)) T.cl_House T.m_House_beginning G_House_beginning (hr.mono (by decide)) b_House_beginning .nil (fun _ _ => RelL.nil) pass0)) (q_cons (q_if (L2.PW.pt (q_or (q_tcmp (op_neD hr.units) rop_ne (q_view (pv 10)) (toV (q_var (pv 4))) (nomark _)) (q_or (q_tcmp (op_neD hr.units) rop_ne (toV (q_methB0 (q_var (pv 6)) T.cl_House T.m_House_base G_House_base (hr.mono (by decide)) b_House_base .nil (fun _ _ => RelL.nil) pass0)) (toV (q_var (pv 3))) (nomark _)) (q_or1 (q_tcmp (op_neD hr.units) rop_ne (toV (q_methB0 (q_var (pv 6)) T.cl_House T.m_House_reach G_House_reach (hr.mono (by decide)) b_House_reach .nil (fun _ _ => RelL.nil) pass0)) (toV (q_op op_sub rop_sub (toV (q_callB (cr_sum rfl) rc_sum (by rfl) T.b_sum (by decide +kernel) (q_xcons (toV (q_var (pv 4))) q_xnil))) (toV (q_callB call_len3 rc_len (by rfl) T.b_len (by decide +kernel) (q_xcons (toV (q_var (pv 4))) q_xnil))))) (nomark _)))))) (q_cons (q_ret hm q_bl) q_nil) q_nil) (q_cons (q_if (q_tcmp (op_neD hr.units) rop_ne (toV (q_methB0 (q_var (pv 6)) T.cl_House T.m_House_folk G_House_folk (hr.mono (by decide)) b_House_folk .nil (fun _ _ => RelL.nil) pass0)) (toV (q_callB (cr_sum rfl) rc_sum (by rfl) T.b_sum (by decide +kernel) (q_xcons (toV (q_var (pv 4))) q_xnil))) (nomark _)) (q_cons (q_ret hm q_bl) q_nil) q_nil) (q_cons (q_app (i := 10) (pe_bm PySem.F.plainAttrs_list PySem.F.slot_list_append PySem.F.type_list_append mt_append (pv 10) (pa_cons q_int pa_nil))) (q_frz (i := 10) hB q_nil)))))) (q_cons (q_par2M (i := 11) (j := 12) rfl sc_law.nd rfl rfl (by decide) rfl rfl (q_mconsV (toE (q_make T.mk_House (fn_plainIE G_House___init__) (hr.mono (by decide)) rfl T.g_House b_House___init__ .nil (fun _ _ => RelL.nil) pass0 (q_acons (q_var (pv 3)) (q_acons (q_callTy call_tuple_of rc_tuple (by rfl) T.b_tuple (by decide +kernel) (q_xcons (toV (q_var (pv 4))) q_xnil)) q_anil)))) (q_mconsN (q_callTyN call_list_of rc_list (by rfl) T.b_list (by decide +kernel) (q_xcons (toV (q_var (pv 4))) q_xnil)) fun B => q_mnil)) (by rfl)) (q_cons (q_set (i := 8) sc_law.nd rfl (Or.inl rfl) (q_callO G__law_draw (hr.mono (by decide)) rfl T.g__law_draw T.k__law_draw b__law_draw .nil (fun _ _ => RelL.nil) pass0 (q_acons (q_var (pv 1)) (q_acons (q_callB call_len3 rc_len (by rfl) T.b_len (by decide +kernel) (q_xcons (toV (q_var (pv 4))) q_xnil)) q_anil)))) (q_cons (q_seti (i := 12) (ps_asg (q_op op_add4 rop_add (toV (q_ix (q_view (pv 12)) (toV (q_var (pv 8))) (fun _ _ => rfl))) (toV q_int)) (pg_sub (pv 12) (toV (q_var (pv 8))) set_list))) (q_frz (i := 12) hB (q_cons (q_if (L2.PW.pt (q_or (q_not (q_teqHL T.cl_House G_House___eq__ (hr.mono (by decide)) T.m_House___eq__ b_House___eq__ pass0 (q_var (pv 6)) (q_var (pv 11)) (nomark _))) (q_or (q_tneH G_House___eq__ (hr.mono (by decide)) T.m_House___eq__ T.nq_House b_House___eq__ pass0 (q_var (pv 6)) (q_var (pv 11)) (nomark _)) (q_or (q_teqHL T.cl_House G_House___eq__ (hr.mono (by decide)) T.m_House___eq__ b_House___eq__ pass0 (q_var (pv 6)) (toE (q_make T.mk_House (fn_plainIE G_House___init__) (hr.mono (by decide)) rfl T.g_House b_House___init__ .nil (fun _ _ => RelL.nil) pass0 (q_acons (q_var (pv 3)) (q_acons (q_var (pv 12)) q_anil)))) (nomark _)) (q_or1 (q_teqHL T.cl_House G_House___eq__ (hr.mono (by decide)) T.m_House___eq__ b_House___eq__ pass0 (q_var (pv 6)) (q_var (pv 4)) (nomark _))))))) (q_cons (q_ret hm q_bl) q_nil) q_nil) (q_cons (q_set (i := 9) sc_law.nd rfl (Or.inl rfl) (q_ix (toV (toE (q_lst (q_acons q_int (q_acons q_int (q_acons q_int (q_acons q_bl (q_acons q_non (q_acons q_str (q_acons (q_un un_neg run_neg (toV q_int)) (q_acons (q_tup (q_acons q_int q_anil)) q_anil))))))))))) (toV (q_callO G__law_draw (hr.mono (by decide)) rfl T.g__law_draw T.k__law_draw b__law_draw .nil (fun _ _ => RelL.nil) pass0 (q_acons (q_var (pv 1)) (q_acons q_int q_anil)))) (fun _ _ => rfl))) (q_cons (q_if (L2.PW.pt (q_or (q_tcmp (op_neD hr.units) rop_ne (toV (q_callO G__law_refused (hr.mono (by decide)) rfl T.g__law_refused T.k__law_refused b__law_refused .nil (fun _ _ => RelL.nil) pass0 (q_acons (q_var (pv 9)) (q_acons (q_var (pv 4)) q_anil)))) (toV q_str) (nomark _)) (q_or1 (q_tcmp (op_neD hr.units) rop_ne (toV (q_callO G__law_refused (hr.mono (by decide)) rfl T.g__law_refused T.k__law_refused b__law_refused .nil (fun _ _ => RelL.nil) pass0 (q_acons (q_var (pv 9)) (q_acons q_non q_anil)))) (toV q_str) (nomark _))))) (q_cons (q_ret hm q_bl) q_nil) q_nil) (q_cons (q_if (q_tcmp (op_neD hr.units) rop_ne (toV (q_callO G__law_refused (hr.mono (by decide)) rfl T.g__law_refused T.k__law_refused b__law_refused .nil (fun _ _ => RelL.nil) pass0 (q_acons (q_var (pv 3)) (q_acons (q_callO G__law_bent_2 (hr.mono (by decide)) rfl T.g__law_bent_2 T.k__law_bent_2 b__law_bent_2 .nil (fun _ _ => RelL.nil) pass0 (q_acons (q_var (pv 1)) (q_acons (q_var (pv 4)) q_anil))) q_anil)))) (toV q_str) (nomark _)) (q_cons (q_ret hm q_bl) q_nil) q_nil) q_nil))))))))))))))) (q_cons (q_ret hm q_bl) q_nil))
end
theorem all_mk {l : PySem.W.OpenLaw} {w : World} {K : PySem.W.Frag} {h : Heap} {mg : Str → Option Value} {fa a__law_draw a__law_beginning a__law_bent_2 a__law_pen a_is_whole a_is_base a_is_count a_is_listing a_is_beginning a_BadHouse___init__ a_House___init__ a__law_refused a_House_base a_House_beginning a_House___eq__ a_House_folk a_House_reach a_law a_House a_BadHouse : Addr} {tk_LEAST_BASE tk_MOST_BASE : Tok} (X : K.In h) (G : h.Ns mainGlobals mg) (hfa : mg "law" = some (.ref fa))
    {od1 an1 od2 an2 od3 an3 od4 an4 od5 an5 od6 an6 od7 an7 od8 an8 od9 an9 od10 an10 od11 an11 od12 an12 od13 an13 od14 an14 od15 an15 od16 an16 od17 an17 od18 an18 : Option Addr} {sl1 sl2 sl3 sl4 sl5 sl6 sl7 sl8 sl9 sl10 sl11 sl12 sl13 sl14 sl15 sl16 sl17 sl18 : Array (Option Value)} {oc1 kV1 dc1 pm1 cd1 ct1 oc2 kV2 dc2 pm2 cd2 ct2 oc3 kV3 dc3 pm3 cd3 ct3 oc4 kV4 dc4 pm4 cd4 ct4 oc5 kV5 dc5 pm5 cd5 ct5 oc6 kV6 dc6 pm6 cd6 ct6 oc7 kV7 dc7 pm7 cd7 ct7 oc8 kV8 dc8 pm8 cd8 ct8 oc9 kV9 dc9 pm9 cd9 ct9 oc10 kV10 dc10 pm10 cd10 ct10 oc11 kV11 dc11 pm11 cd11 ct11 oc12 kV12 dc12 pm12 cd12 ct12 oc13 kV13 dc13 pm13 cd13 ct13 oc14 kV14 dc14 pm14 cd14 ct14 oc15 kV15 dc15 pm15 cd15 ct15 oc16 kV16 dc16 pm16 cd16 ct16 oc17 kV17 dc17 pm17 cd17 ct17 oc18 kV18 dc18 pm18 cd18 ct18 : Value}
    (ac_House : PySem.W.nsIn K mainGlobals "House" = some (some (.ref a_House))) (pg_House : PySem.W.plainGet K a_House Str.empty = true) (hd_House : PySem.W.hasDictIn K a_House = true) (po_House : PySem.W.plainOver K a_House = true)
    (sa_House : PySem.W.findIn K (.ref a_House) "__setattr__" = some (some (.builtin "object.__setattr__")))
    {nm_BadHouse : _} {qn_BadHouse : _} {nn_BadHouse : _} {bs_BadHouse : _} {sn_BadHouse : _} {sb_BadHouse : _} {ab_BadHouse : _} {co_BadHouse : _} {dd_BadHouse : _} {x0_BadHouse : _} {x1_BadHouse : _} {x2_BadHouse : _} {x3_BadHouse : _} {x5_BadHouse : _} 
    (ac_BadHouse : PySem.W.nsIn K mainGlobals "BadHouse" = some (some (.ref a_BadHouse))) (rl_BadHouse : K.lookup a_BadHouse = some (excClassObj nm_BadHouse qn_BadHouse a_BadHouse nn_BadHouse bs_BadHouse vaTail true sn_BadHouse sb_BadHouse ab_BadHouse co_BadHouse dd_BadHouse x0_BadHouse x1_BadHouse x2_BadHouse x3_BadHouse x5_BadHouse "ValueError.__new__"))
    (xs_BadHouse : PySem.W.subIn K (.ref a_BadHouse) (.type "BaseException") = some true) (xt_BadHouse : PySem.W.typeIn K (.ref a_BadHouse) = some (.type "type")) (xk_BadHouse : PySem.W.keepIn K (.ref a_BadHouse) = true) (xe_BadHouse : PySem.W.subIn K (.ref a_BadHouse) (.ref a_BadHouse) = some true) (xq_BadHouse : PySem.W.subIn K (.ref a_BadHouse) (.type "ValueError") = some true) (xg_BadHouse : PySem.W.findIn K (.ref a_BadHouse) "__getattribute__" = some (some (.builtin "BaseException.__getattribute__"))) (xa_BadHouse : PySem.W.findIn K (.ref a_BadHouse) "__getattr__" = some none) (xh_BadHouse : PySem.W.hasDictIn K a_BadHouse = true) (xc_BadHouse : PySem.W.findIn K (.ref a_BadHouse) "__class__" = some (some (.builtin "object.__class__"))) (xn_BadHouse : PySem.W.specialIn K (.builtin "object.__class__") "__get__" = some (some (.builtin "getset_descriptor.__get__"))) (xo_BadHouse : PySem.W.takesIn K (.builtin "object.__class__") = some true) (xm_BadHouse : PySem.W.mroIn K a_BadHouse (.type "object") = some true) (xz_BadHouse : PySem.W.findIn K (.ref a_BadHouse) "__setattr__" = some (some (.builtin "object.__setattr__"))) (xno_BadHouse : PySem.W.findIn K (.ref a_BadHouse) "part" = some none)
    (xj_BadHouse_ValueError : PySem.W.subIn K (.ref a_BadHouse) (.type "ValueError") = some true)
    (xv_ValueError : PySem.W.findCls K (.type "ValueError") (.type "type") "__init__" = some (.val (.builtin "ValueError.__init__")))
    (a1 : PySem.W.nsIn K mainGlobals "_law_draw" = some (some (.ref a__law_draw)))
    (l1 : K.lookup a__law_draw = some ⟨oc1, od1, .func (PySem.W.fnOf "_law_draw" "_law_draw" (defArgs s__law_draw) (defBody s__law_draw) (defScope s__law_draw) .none kV1 dc1 pm1 an1 cd1 ct1), sl1⟩) (c1 : PySem.W.codeIn K cd1 "_law_draw" = true) (k1 : PySem.W.keepIn K (.ref a__law_draw) = true)
    (a2 : PySem.W.nsIn K mainGlobals "_law_beginning" = some (some (.ref a__law_beginning)))
    (l2 : K.lookup a__law_beginning = some ⟨oc2, od2, .func (PySem.W.fnOf "_law_beginning" "_law_beginning" (defArgs s__law_beginning) (defBody s__law_beginning) (defScope s__law_beginning) .none kV2 dc2 pm2 an2 cd2 ct2), sl2⟩) (c2 : PySem.W.codeIn K cd2 "_law_beginning" = true) (k2 : PySem.W.keepIn K (.ref a__law_beginning) = true)
    (a3 : PySem.W.nsIn K mainGlobals "_law_bent" = some (some (.ref a__law_bent_2)))
    (l3 : K.lookup a__law_bent_2 = some ⟨oc3, od3, .func (PySem.W.fnOf "_law_bent" "_law_bent" (defArgs s__law_bent_2) (defBody s__law_bent_2) (defScope s__law_bent_2) .none kV3 dc3 pm3 an3 cd3 ct3), sl3⟩) (c3 : PySem.W.codeIn K cd3 "_law_bent" = true) (k3 : PySem.W.keepIn K (.ref a__law_bent_2) = true)
    (a4 : PySem.W.nsIn K mainGlobals "_law_pen" = some (some (.ref a__law_pen)))
    (l4 : K.lookup a__law_pen = some ⟨oc4, od4, .func (PySem.W.fnOf "_law_pen" "_law_pen" (defArgs s__law_pen) (defBody s__law_pen) (defScope s__law_pen) .none kV4 dc4 pm4 an4 cd4 ct4), sl4⟩) (c4 : PySem.W.codeIn K cd4 "_law_pen" = true) (k4 : PySem.W.keepIn K (.ref a__law_pen) = true)
    (a5 : PySem.W.nsIn K mainGlobals "is_whole" = some (some (.ref a_is_whole)))
    (l5 : K.lookup a_is_whole = some ⟨oc5, od5, .func (PySem.W.fnOf "is_whole" "is_whole" (defArgs s_is_whole) (defBody s_is_whole) (defScope s_is_whole) .none kV5 dc5 pm5 an5 cd5 ct5), sl5⟩) (c5 : PySem.W.codeIn K cd5 "is_whole" = true) (k5 : PySem.W.keepIn K (.ref a_is_whole) = true)
    (a6 : PySem.W.nsIn K mainGlobals "is_base" = some (some (.ref a_is_base)))
    (l6 : K.lookup a_is_base = some ⟨oc6, od6, .func (PySem.W.fnOf "is_base" "is_base" (defArgs s_is_base) (defBody s_is_base) (defScope s_is_base) .none kV6 dc6 pm6 an6 cd6 ct6), sl6⟩) (c6 : PySem.W.codeIn K cd6 "is_base" = true) (k6 : PySem.W.keepIn K (.ref a_is_base) = true)
    (a7 : PySem.W.nsIn K mainGlobals "is_count" = some (some (.ref a_is_count)))
    (l7 : K.lookup a_is_count = some ⟨oc7, od7, .func (PySem.W.fnOf "is_count" "is_count" (defArgs s_is_count) (defBody s_is_count) (defScope s_is_count) .none kV7 dc7 pm7 an7 cd7 ct7), sl7⟩) (c7 : PySem.W.codeIn K cd7 "is_count" = true) (k7 : PySem.W.keepIn K (.ref a_is_count) = true)
    (a8 : PySem.W.nsIn K mainGlobals "is_listing" = some (some (.ref a_is_listing)))
    (l8 : K.lookup a_is_listing = some ⟨oc8, od8, .func (PySem.W.fnOf "is_listing" "is_listing" (defArgs s_is_listing) (defBody s_is_listing) (defScope s_is_listing) .none kV8 dc8 pm8 an8 cd8 ct8), sl8⟩) (c8 : PySem.W.codeIn K cd8 "is_listing" = true) (k8 : PySem.W.keepIn K (.ref a_is_listing) = true)
    (a9 : PySem.W.nsIn K mainGlobals "is_beginning" = some (some (.ref a_is_beginning)))
    (l9 : K.lookup a_is_beginning = some ⟨oc9, od9, .func (PySem.W.fnOf "is_beginning" "is_beginning" (defArgs s_is_beginning) (defBody s_is_beginning) (defScope s_is_beginning) .none kV9 dc9 pm9 an9 cd9 ct9), sl9⟩) (c9 : PySem.W.codeIn K cd9 "is_beginning" = true) (k9 : PySem.W.keepIn K (.ref a_is_beginning) = true)
    (a10 : PySem.W.findIn K (.ref a_BadHouse) "__init__" = some (some (.ref a_BadHouse___init__))) (i10 : PySem.W.isFn K (.ref a_BadHouse___init__) = true)
    (l10 : K.lookup a_BadHouse___init__ = some ⟨oc10, od10, .func (PySem.W.fnOf "__init__" "BadHouse.__init__" (defArgs s_BadHouse___init__) (defBody s_BadHouse___init__) (defScope s_BadHouse___init__) .none kV10 dc10 pm10 an10 cd10 ct10), sl10⟩) (c10 : PySem.W.codeIn K cd10 "BadHouse.__init__" = true) (k10 : PySem.W.keepIn K (.ref a_BadHouse___init__) = true)
    (a11 : PySem.W.findIn K (.ref a_House) "__init__" = some (some (.ref a_House___init__))) (i11 : PySem.W.isFn K (.ref a_House___init__) = true)
    (l11 : K.lookup a_House___init__ = some ⟨oc11, od11, .func (PySem.W.fnOf "__init__" "House.__init__" (defArgs s_House___init__) (defBody s_House___init__) (defScope s_House___init__) .none kV11 dc11 pm11 an11 cd11 ct11), sl11⟩) (c11 : PySem.W.codeIn K cd11 "House.__init__" = true) (k11 : PySem.W.keepIn K (.ref a_House___init__) = true)
    (a12 : PySem.W.nsIn K mainGlobals "_law_refused" = some (some (.ref a__law_refused)))
    (l12 : K.lookup a__law_refused = some ⟨oc12, od12, .func (PySem.W.fnOf "_law_refused" "_law_refused" (defArgs s__law_refused) (defBody s__law_refused) (defScope s__law_refused) .none kV12 dc12 pm12 an12 cd12 ct12), sl12⟩) (c12 : PySem.W.codeIn K cd12 "_law_refused" = true) (k12 : PySem.W.keepIn K (.ref a__law_refused) = true)
    (a13 : PySem.W.findIn K (.ref a_House) "base" = some (some (.ref a_House_base))) (i13 : PySem.W.isFn K (.ref a_House_base) = true)
    (l13 : K.lookup a_House_base = some ⟨oc13, od13, .func (PySem.W.fnOf "base" "House.base" (defArgs s_House_base) (defBody s_House_base) (defScope s_House_base) .none kV13 dc13 pm13 an13 cd13 ct13), sl13⟩) (c13 : PySem.W.codeIn K cd13 "House.base" = true) (k13 : PySem.W.keepIn K (.ref a_House_base) = true)
    (a14 : PySem.W.findIn K (.ref a_House) "beginning" = some (some (.ref a_House_beginning))) (i14 : PySem.W.isFn K (.ref a_House_beginning) = true)
    (l14 : K.lookup a_House_beginning = some ⟨oc14, od14, .func (PySem.W.fnOf "beginning" "House.beginning" (defArgs s_House_beginning) (defBody s_House_beginning) (defScope s_House_beginning) .none kV14 dc14 pm14 an14 cd14 ct14), sl14⟩) (c14 : PySem.W.codeIn K cd14 "House.beginning" = true) (k14 : PySem.W.keepIn K (.ref a_House_beginning) = true)
    (a15 : PySem.W.findIn K (.ref a_House) "__eq__" = some (some (.ref a_House___eq__))) (i15 : PySem.W.isFn K (.ref a_House___eq__) = true)
    (l15 : K.lookup a_House___eq__ = some ⟨oc15, od15, .func (PySem.W.fnOf "__eq__" "House.__eq__" (defArgs s_House___eq__) (defBody s_House___eq__) (defScope s_House___eq__) .none kV15 dc15 pm15 an15 cd15 ct15), sl15⟩) (c15 : PySem.W.codeIn K cd15 "House.__eq__" = true) (k15 : PySem.W.keepIn K (.ref a_House___eq__) = true)
    (a16 : PySem.W.findIn K (.ref a_House) "folk" = some (some (.ref a_House_folk))) (i16 : PySem.W.isFn K (.ref a_House_folk) = true)
    (l16 : K.lookup a_House_folk = some ⟨oc16, od16, .func (PySem.W.fnOf "folk" "House.folk" (defArgs s_House_folk) (defBody s_House_folk) (defScope s_House_folk) .none kV16 dc16 pm16 an16 cd16 ct16), sl16⟩) (c16 : PySem.W.codeIn K cd16 "House.folk" = true) (k16 : PySem.W.keepIn K (.ref a_House_folk) = true)
    (a17 : PySem.W.findIn K (.ref a_House) "reach" = some (some (.ref a_House_reach))) (i17 : PySem.W.isFn K (.ref a_House_reach) = true)
    (l17 : K.lookup a_House_reach = some ⟨oc17, od17, .func (PySem.W.fnOf "reach" "House.reach" (defArgs s_House_reach) (defBody s_House_reach) (defScope s_House_reach) .none kV17 dc17 pm17 an17 cd17 ct17), sl17⟩) (c17 : PySem.W.codeIn K cd17 "House.reach" = true) (k17 : PySem.W.keepIn K (.ref a_House_reach) = true)
    (a18 : PySem.W.nsIn K mainGlobals "law" = some (some (.ref a_law)))
    (l18 : K.lookup a_law = some ⟨oc18, od18, .func (PySem.W.fnOf "law" "law" (defArgs s_law) (defBody s_law) (defScope s_law) .none kV18 dc18 pm18 an18 cd18 ct18), sl18⟩) (c18 : PySem.W.codeIn K cd18 "law" = true) (k18 : PySem.W.keepIn K (.ref a_law) = true)
    (xf_BadHouse : PySem.W.typeIn K (.ref a_BadHouse___init__) = some (.type "function"))
    (n_House_kept_base : PySem.W.findIn K (.ref a_House) "kept_base" = some none)
    (n_House_kept_beginning : PySem.W.findIn K (.ref a_House) "kept_beginning" = some none)
    (n_House_sums : PySem.W.findIn K (.ref a_House) "sums" = some none)
    (mk_House : PySem.W.makesIn K a_House = true) (kc_House : PySem.W.keepIn K (.ref a_House) = true)
    (ia_House : PySem.W.findIn K (.ref a_House) "__class__" = some (some (.builtin "object.__class__"))) (in_House : PySem.W.specialIn K (.builtin "object.__class__") "__get__" = some (some (.builtin "getset_descriptor.__get__"))) (it_House : PySem.W.takesIn K (.builtin "object.__class__") = some true) (im_House : PySem.W.mroIn K a_House (.type "object") = some true)
    (iy_House : PySem.W.typeIn K (.ref a_House) = some (.type "type")) (is_House : PySem.W.mroIn K a_House (.type "str") = some false) (il_House : PySem.W.mroIn K a_House (.type "list") = some false) (iu_House : PySem.W.mroIn K a_House (.type "tuple") = some false)
    (nq1_House : PySem.W.findIn K (.ref a_House) "__ne__" = some (some (.builtin "object.__ne__"))) (nq2_House : PySem.W.mroIn K a_House (.type "object") = some true)
    (q_LEAST_BASE : PySem.W.nsIn K mainGlobals "LEAST_BASE" = some (some (Value.int 2 tk_LEAST_BASE)))
    (q_MOST_BASE : PySem.W.nsIn K mainGlobals "MOST_BASE" = some (some (Value.int 30 tk_MOST_BASE)))
    (z_ValueError : PySem.W.nsIn K mainGlobals "ValueError" = some none)
    (z_abs : PySem.W.nsIn K mainGlobals "abs" = some none)
    (z_all : PySem.W.nsIn K mainGlobals "all" = some none)
    (z_bool : PySem.W.nsIn K mainGlobals "bool" = some none)
    (z_dict : PySem.W.nsIn K mainGlobals "dict" = some none)
    (z_int : PySem.W.nsIn K mainGlobals "int" = some none)
    (z_isinstance : PySem.W.nsIn K mainGlobals "isinstance" = some none)
    (z_len : PySem.W.nsIn K mainGlobals "len" = some none)
    (z_list : PySem.W.nsIn K mainGlobals "list" = some none)
    (z_min : PySem.W.nsIn K mainGlobals "min" = some none)
    (z_range : PySem.W.nsIn K mainGlobals "range" = some none)
    (z_sum : PySem.W.nsIn K mainGlobals "sum" = some none)
    (z_tuple : PySem.W.nsIn K mainGlobals "tuple" = some none)
    : ∃ fd : FuncData, (∀ (s : Shared) (v : Value), BindsTo s fd ⟨[v], []⟩ [("_law_script", v)]) ∧ ∀ base : Heap, K.In base → base.Ns mainGlobals mg → FnOk l.prog w K mg base CX0 7 fa fd ["_law_script"] (spLaw K) := by
  have e := hfa.symm.trans (PySem.W.mg_of X G a18)
  cases e
  have tx_BadHouse : ∀ c C fl, (xcl a_BadHouse) c = some (C, fl) → PySem.W.exmOne K (.ref C) (.ref a_BadHouse) = some (Xn.is c .BadHouse) := by
    intro c C fl h
    cases c with
    | BadHouse =>
      cases (show some (a_BadHouse, (some "part" : Option Str)) = some (C, fl) from h)
      exact PySem.W.exm_ref xs_BadHouse xh_BadHouse xt_BadHouse xe_BadHouse
    | _ => exact absurd (show (none : Option (Addr × Option Str)) = some (C, fl) from h) (by simp)
  have T : Tx K mg a__law_draw a__law_beginning a__law_bent_2 a__law_pen a_is_whole a_is_base a_is_count a_is_listing a_is_beginning a_BadHouse___init__ a_House___init__ a__law_refused a_House_base a_House_beginning a_House___eq__ a_House_folk a_House_reach fa a_House a_BadHouse tk_LEAST_BASE tk_MOST_BASE := ⟨PySem.W.mg_none_of X G z_ValueError, PySem.W.mg_none_of X G z_abs, PySem.W.mg_none_of X G z_all, PySem.W.mg_none_of X G z_bool, PySem.W.mg_none_of X G z_dict, PySem.W.mg_none_of X G z_int, PySem.W.mg_none_of X G z_isinstance, PySem.W.mg_none_of X G z_len, PySem.W.mg_none_of X G z_list, PySem.W.mg_none_of X G z_min, PySem.W.mg_none_of X G z_range, PySem.W.mg_none_of X G z_sum, PySem.W.mg_none_of X G z_tuple, PySem.W.mg_of X G q_LEAST_BASE, PySem.W.mg_of X G q_MOST_BASE, PySem.W.mg_of X G a1, k1, PySem.W.mg_of X G a2, k2, PySem.W.mg_of X G a3, k3, PySem.W.mg_of X G a4, k4, PySem.W.mg_of X G a5, k5, PySem.W.mg_of X G a6, k6, PySem.W.mg_of X G a7, k7, PySem.W.mg_of X G a8, k8, PySem.W.mg_of X G a9, k9, PySem.W.mg_of X G a12, k12, PySem.W.mg_of X G a18, k18, PySem.W.mg_of X G ac_House, ⟨pg_House, hd_House, po_House, sa_House⟩, n_House_kept_base, n_House_kept_beginning, n_House_sums, ⟨a13, i13, k13⟩, ⟨a14, i14, k14⟩, ⟨a15, i15, k15⟩, ⟨a16, i16, k16⟩, ⟨a17, i17, k17⟩, ⟨mk_House, a11, i11, kc_House⟩, PySem.W.mg_of X G ac_BadHouse, ⟨⟨_, _, _, _, _, _, _, _, _, _, _, _, _, _, rl_BadHouse⟩, xz_BadHouse, xs_BadHouse, xt_BadHouse, xk_BadHouse⟩, a10, xf_BadHouse, xno_BadHouse, PySem.W.exm_ref xs_BadHouse xh_BadHouse xt_BadHouse xe_BadHouse, kit_T (by decide +kernel) xq_BadHouse, ⟨xg_BadHouse, xa_BadHouse, xs_BadHouse, xh_BadHouse, xc_BadHouse, xn_BadHouse, xo_BadHouse, xm_BadHouse⟩, tx_BadHouse, kit_T (by decide +kernel) xj_BadHouse_ValueError, xv_ValueError, ⟨⟨pg_House, hd_House, po_House, sa_House⟩, ia_House, in_House, it_House, im_House, if_pos (beq_self_eq_true _)⟩, ⟨⟨⟨pg_House, hd_House, po_House, sa_House⟩, ia_House, in_House, it_House, im_House, if_pos (beq_self_eq_true _)⟩, iy_House, is_House, il_House, iu_House⟩, ⟨nq1_House, nq2_House⟩⟩
  have F1 := fun_mk (st := s__law_draw) l1 c1 k1
  have b1 := F1.binds (ps := ["_law_pen_here", "_law_many"]) fun _ _ _ _ _ _ us hl => match us, hl with | [_, _], _ => rfl
  have F2 := fun_mk (st := s__law_beginning) l2 c2 k2
  have b2 := F2.binds (ps := ["_law_pen_here", "_law_base", "_law_most"]) fun _ _ _ _ _ _ us hl => match us, hl with | [_, _, _], _ => rfl
  have F3 := fun_mk (st := s__law_bent_2) l3 c3 k3
  have b3 := F3.binds (ps := ["_law_pen_here", "_law_begun"]) fun _ _ _ _ _ _ us hl => match us, hl with | [_, _], _ => rfl
  have F4 := fun_mk (st := s__law_pen) l4 c4 k4
  have b4 := F4.binds (ps := ["_law_script"]) fun _ _ _ _ _ _ us hl => match us, hl with | [_], _ => rfl
  have F5 := fun_mk (st := s_is_whole) l5 c5 k5
  have b5 := F5.binds (ps := ["thing"]) fun _ _ _ _ _ _ us hl => match us, hl with | [_], _ => rfl
  have F6 := fun_mk (st := s_is_base) l6 c6 k6
  have b6 := F6.binds (ps := ["thing"]) fun _ _ _ _ _ _ us hl => match us, hl with | [_], _ => rfl
  have F7 := fun_mk (st := s_is_count) l7 c7 k7
  have b7 := F7.binds (ps := ["thing"]) fun _ _ _ _ _ _ us hl => match us, hl with | [_], _ => rfl
  have F8 := fun_mk (st := s_is_listing) l8 c8 k8
  have b8 := F8.binds (ps := ["thing"]) fun _ _ _ _ _ _ us hl => match us, hl with | [_], _ => rfl
  have F9 := fun_mk (st := s_is_beginning) l9 c9 k9
  have b9 := F9.binds (ps := ["base", "thing"]) fun _ _ _ _ _ _ us hl => match us, hl with | [_, _], _ => rfl
  have F10 := fun_mk (st := s_BadHouse___init__) l10 c10 k10
  have b10 := F10.binds (ps := ["self", "part"]) fun _ _ _ _ _ _ us hl => match us, hl with | [_, _], _ => rfl
  have F11 := fun_mk (st := s_House___init__) l11 c11 k11
  have b11 := F11.binds (ps := ["self", "k", "beginning"]) fun _ _ _ _ _ _ us hl => match us, hl with | [_, _, _], _ => rfl
  have F12 := fun_mk (st := s__law_refused) l12 c12 k12
  have b12 := F12.binds (ps := ["_law_base", "_law_begun"]) fun _ _ _ _ _ _ us hl => match us, hl with | [_, _], _ => rfl
  have F13 := fun_mk (st := s_House_base) l13 c13 k13
  have b13 := F13.binds (ps := ["self"]) fun _ _ _ _ _ _ us hl => match us, hl with | [_], _ => rfl
  have F14 := fun_mk (st := s_House_beginning) l14 c14 k14
  have b14 := F14.binds (ps := ["self"]) fun _ _ _ _ _ _ us hl => match us, hl with | [_], _ => rfl
  have F15 := fun_mk (st := s_House___eq__) l15 c15 k15
  have b15 := F15.binds (ps := ["self", "other"]) fun _ _ _ _ _ _ us hl => match us, hl with | [_, _], _ => rfl
  have F16 := fun_mk (st := s_House_folk) l16 c16 k16
  have b16 := F16.binds (ps := ["self"]) fun _ _ _ _ _ _ us hl => match us, hl with | [_], _ => rfl
  have F17 := fun_mk (st := s_House_reach) l17 c17 k17
  have b17 := F17.binds (ps := ["self"]) fun _ _ _ _ _ _ us hl => match us, hl with | [_], _ => rfl
  have F18 := fun_mk (st := s_law) l18 c18 k18
  refine ⟨PySem.W.fnOf "law" "law" (defArgs s_law) (defBody s_law) (defScope s_law) .none kV18 dc18 pm18 an18 cd18 ct18, fun s v => .of_eq rfl, fun base _ _ => ?_⟩
  have G1 := ok__law_draw (P := l.prog) (w := w) (base := base) F1 T
  have G2 := ok__law_beginning (P := l.prog) (w := w) (base := base) F2 T G1 b1
  have G3 := ok__law_bent_2 (P := l.prog) (w := w) (base := base) F3 T G1 b1
  have G4 := ok__law_pen (P := l.prog) (w := w) (base := base) F4 T
  have G5 := ok_is_whole (P := l.prog) (w := w) (base := base) F5 T
  have G6 := ok_is_base (P := l.prog) (w := w) (base := base) F6 T G5 b5
  have G7 := ok_is_count (P := l.prog) (w := w) (base := base) F7 T G5 b5
  have G8 := ok_is_listing (P := l.prog) (w := w) (base := base) F8 T
  have G9 := ok_is_beginning (P := l.prog) (w := w) (base := base) F9 T G7 b7 G8 b8
  have G10 := ok_BadHouse___init__ (P := l.prog) (w := w) (base := base) F10 T
  have G11 := ok_House___init__ (P := l.prog) (w := w) (base := base) F11 T G6 b6 G9 b9 G10 b10
  have G12 := ok__law_refused (P := l.prog) (w := w) (base := base) F12 T G11 b11
  have G13 := ok_House_base (P := l.prog) (w := w) (base := base) F13 T
  have G14 := ok_House_beginning (P := l.prog) (w := w) (base := base) F14 T
  have G15 := ok_House___eq__ (P := l.prog) (w := w) (base := base) F15 T G13 b13 G14 b14
  have G16 := ok_House_folk (P := l.prog) (w := w) (base := base) F16 T
  have G17 := ok_House_reach (P := l.prog) (w := w) (base := base) F17 T
  have G18 := ok_law (P := l.prog) (w := w) (base := base) F18 T G2 b2 G3 b3 G1 b1 G4 b4 G12 b12 G15 b15 G13 b13 G14 b14 G16 b16 G17 b17 G11 b11
  exact G18
theorem walk {l : PySem.W.OpenLaw} {q : Program} {loose : List Str} {XP : (Str → Option Value) → Heap → Prop} {YP : World → Heap → Prop} {d : DefRec} {K : Params → PySem.W.Frag} (hn : l.most = some 63) (hdf : d.params.defaults = [])
    (hY : ∀ (w : World) (h : Heap), YP w h → (K w.params).In h)
    (F : ∀ (w : World) (mg : Str → Option Value) (fa : Addr) (h : Heap), (K w.params).In h → h.Ns mainGlobals mg → mg d.name = some (.ref fa) →
      ∃ fd : FuncData, (∀ (s : Shared) (u : Value), BindsTo s fd ⟨[u], []⟩ [("_law_script", u)]) ∧ ∀ base : Heap, (K w.params).In base → base.Ns mainGlobals mg → FnOk l.prog w (K w.params) mg base CX0 7 fa fd ["_law_script"] (spLaw (K w.params))) :
    PySem.W.WalkO q loose XP YP l.row.toRowW d [] (fun f vs => PySem.call f vs) :=
  L2.walk_of (n := 63) (k := 7) (x := "_law_script") (CX := fun _ => CX0) (sp := fun w => spLaw (K w.params)) hn (by decide) hdf ⟨rfl, by decide, by decide⟩ hY F (fun _ H a ns hl hO hS => ⟨a, ns, rfl, hO, hS, hl, fun _ => rfl⟩) fun _ _ _ _ _ z => z
end L_k02
open PySem PySem.W PyProof.Rows
set_option maxRecDepth 100000 in
set_option maxHeartbeats 0 in
theorem PySem.Challenge.cw_askback_k02_houses_made_holds : PySem.Challenge.rw_askback_k02_houses_made.Holds := by
  w_on; o_law; k_head; (case hw => w_witness2)
  k_fill
  refine L_k02.walk (l := PySem.Challenge.rw_askback_k02_houses_made) rfl rfl (fun w h Y => PySem.W.kIn_of Y) ?F
  case F =>
    intro w mg fa h KX G hmg
    refine' L_k02.all_mk KX G hmg ?ac_House ?pg_House ?hd_House ?po_House ?sa_House ?ac_BadHouse ?rl_BadHouse ?xs_BadHouse ?xt_BadHouse ?xk_BadHouse ?xe_BadHouse ?xq_BadHouse ?xg_BadHouse ?xa_BadHouse ?xh_BadHouse ?xc_BadHouse ?xn_BadHouse ?xo_BadHouse ?xm_BadHouse ?xz_BadHouse ?xno_BadHouse ?xj_BadHouse_ValueError ?xv_ValueError ?a1 ?l1 ?c1 ?k1 ?a2 ?l2 ?c2 ?k2 ?a3 ?l3 ?c3 ?k3 ?a4 ?l4 ?c4 ?k4 ?a5 ?l5 ?c5 ?k5 ?a6 ?l6 ?c6 ?k6 ?a7 ?l7 ?c7 ?k7 ?a8 ?l8 ?c8 ?k8 ?a9 ?l9 ?c9 ?k9 ?a10 ?i10 ?l10 ?c10 ?k10 ?a11 ?i11 ?l11 ?c11 ?k11 ?a12 ?l12 ?c12 ?k12 ?a13 ?i13 ?l13 ?c13 ?k13 ?a14 ?i14 ?l14 ?c14 ?k14 ?a15 ?i15 ?l15 ?c15 ?k15 ?a16 ?i16 ?l16 ?c16 ?k16 ?a17 ?i17 ?l17 ?c17 ?k17 ?a18 ?l18 ?c18 ?k18 ?xf_BadHouse ?n_House_kept_base ?n_House_kept_beginning ?n_House_sums ?mk_House ?kc_House ?ia_House ?in_House ?it_House ?im_House ?iy_House ?is_House ?il_House ?iu_House ?nq1_House ?nq2_House ?q_LEAST_BASE ?q_MOST_BASE ?z_ValueError ?z_abs ?z_all ?z_bool ?z_dict ?z_int ?z_isinstance ?z_len ?z_list ?z_min ?z_range ?z_sum ?z_tuple
    (case ac_House => k_is)
    (case pg_House => k_is)
    (case hd_House => k_is)
    (case po_House => k_is)
    (case sa_House => k_is)
    (case ac_BadHouse => k_is)
    (case rl_BadHouse => k_is)
    (case xs_BadHouse => k_is)
    (case xt_BadHouse => k_is)
    (case xk_BadHouse => k_is)
    (case xe_BadHouse => k_is)
    (case xq_BadHouse => k_is)
    (case xg_BadHouse => k_is)
    (case xa_BadHouse => k_is)
    (case xh_BadHouse => k_is)
    (case xc_BadHouse => k_is)
    (case xn_BadHouse => k_is)
    (case xo_BadHouse => k_is)
    (case xm_BadHouse => k_is)
    (case xz_BadHouse => k_is)
    (case xno_BadHouse => k_is)
    (case xj_BadHouse_ValueError => k_is)
    (case xv_ValueError => k_is)
    (case a1 => k_is)
    (case l1 => k_is)
    (case c1 => k_is)
    (case k1 => k_is)
    (case a2 => k_is)
    (case l2 => k_is)
    (case c2 => k_is)
    (case k2 => k_is)
    (case a3 => k_is)
    (case l3 => k_is)
    (case c3 => k_is)
    (case k3 => k_is)
    (case a4 => k_is)
    (case l4 => k_is)
    (case c4 => k_is)
    (case k4 => k_is)
    (case a5 => k_is)
    (case l5 => k_is)
    (case c5 => k_is)
    (case k5 => k_is)
    (case a6 => k_is)
    (case l6 => k_is)
    (case c6 => k_is)
    (case k6 => k_is)
    (case a7 => k_is)
    (case l7 => k_is)
    (case c7 => k_is)
    (case k7 => k_is)
    (case a8 => k_is)
    (case l8 => k_is)
    (case c8 => k_is)
    (case k8 => k_is)
    (case a9 => k_is)
    (case l9 => k_is)
    (case c9 => k_is)
    (case k9 => k_is)
    (case a10 => k_is)
    (case i10 => k_is)
    (case l10 => k_is)
    (case c10 => k_is)
    (case k10 => k_is)
    (case a11 => k_is)
    (case i11 => k_is)
    (case l11 => k_is)
    (case c11 => k_is)
    (case k11 => k_is)
    (case a12 => k_is)
    (case l12 => k_is)
    (case c12 => k_is)
    (case k12 => k_is)
    (case a13 => k_is)
    (case i13 => k_is)
    (case l13 => k_is)
    (case c13 => k_is)
    (case k13 => k_is)
    (case a14 => k_is)
    (case i14 => k_is)
    (case l14 => k_is)
    (case c14 => k_is)
    (case k14 => k_is)
    (case a15 => k_is)
    (case i15 => k_is)
    (case l15 => k_is)
    (case c15 => k_is)
    (case k15 => k_is)
    (case a16 => k_is)
    (case i16 => k_is)
    (case l16 => k_is)
    (case c16 => k_is)
    (case k16 => k_is)
    (case a17 => k_is)
    (case i17 => k_is)
    (case l17 => k_is)
    (case c17 => k_is)
    (case k17 => k_is)
    (case a18 => k_is)
    (case l18 => k_is)
    (case c18 => k_is)
    (case k18 => k_is)
    (case xf_BadHouse => k_is)
    (case n_House_kept_base => k_is)
    (case n_House_kept_beginning => k_is)
    (case n_House_sums => k_is)
    (case mk_House => k_is)
    (case kc_House => k_is)
    (case ia_House => k_is)
    (case in_House => k_is)
    (case it_House => k_is)
    (case im_House => k_is)
    (case iy_House => k_is)
    (case is_House => k_is)
    (case il_House => k_is)
    (case iu_House => k_is)
    (case nq1_House => k_is)
    (case nq2_House => k_is)
    (case q_LEAST_BASE => k_is)
    (case q_MOST_BASE => k_is)
    (case z_ValueError => k_is)
    (case z_abs => k_is)
    (case z_all => k_is)
    (case z_bool => k_is)
    (case z_dict => k_is)
    (case z_int => k_is)
    (case z_isinstance => k_is)
    (case z_len => k_is)
    (case z_list => k_is)
    (case z_min => k_is)
    (case z_range => k_is)
    (case z_sum => k_is)
    (case z_tuple => k_is)
