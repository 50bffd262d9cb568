import PyProof.Rows.All
import Wide.All
import OpenK.AllK
import Wide.FinOn
import HandS.ForMost
import HandS.Wide
import HandS.Flow
import HandS.Style
import HandS.IsInst
import HandS.Lambda
import HandS.SetFor
import KE.GoesEnumKw
import HandS.MakeKwOnly
import HandS.Zip
import HandS.Rev
import HandS.SortInts
import HandS.More
import KE.GoesMore
import HandS.Conv
import PyProof.LongRange
import HandS.EndBits
import PyProof.ReprRoads
import PyProof.ReprLen
import HandS.NoneIn
import HandS.Codes
import HandS.SlotsOwn
import HandS.Defaults
import HandS.SetBool
import HandS.Strs
import KE.IntText
import PyProof.StrBlockL
import HandS.Text
import PyProof.Rows.RegStrFacts
import PyProof.StrBlock2
import HandS.ExcInit
import HandS.ExcOwn
import HandS.ExcIs
import HandS.WordsExc
import PyProof.ExcBaseAll.RuntimeError
import KE.KExcInit
import HandS.ExcField
import PyProof.ExcBaseAll.IndexError
import KE.KExcIs
import HandS.EndOwn
import HandS.NestedK
import KE.DatumOrd
import HandS.DictComp
import HandS.Steps
import HandS.RevRange
import PyProof.ListRange
import HandS.CallSlots
import HandS.TryOnly
import PyProof.EvalArms
import PyProof.InstNe
import OpenK.KMake
import HandS.OwnEq
import PyProof.NeKinds
import OpenK.KOps
import HandS.Set
import HandS.Deep
import HandS.SortKw
import KE.SortKeyHeap
import PyProof.Rows.IntBool
import PyProof.Rows.FloatCmp
import PyProof.Rows.ReprOcc
import HandS.FStr
import HandS.HeadHook3
import PyProof.ExcBaseAll.LookupError
import PyProof.ExcBaseAll.ValueError
import HandS.TryMany
import KE.KUnpackStar
import HandS.SuiteRaise
import HandS.ExcInitHot
import PySem.Challenge.RW_askback_k89_texts_of_no_house_and_no_say
set_option Elab.async false
set_option linter.all false
set_option autoImplicit false
set_option maxRecDepth 100000
set_option maxHeartbeats 8000000
/-! QD -/
/-! Q, the data level: values as data, programs as predicate transformers over an environment of data. -/
namespace Q
open PySem
inductive D where
  | non | bl (b : Bool) | int (i : Int) | str (x : Str)
  | lst (l : List D) | tup (l : List D) | dic (ks : List (Sum Int Str)) (l : List D)
  | ins (C : Addr) (ns : List Str) (l : List D)
  | pen | ty (n : String) | adr (a : Addr) | scr (ns : List Int)
  | rp (d : D)   -- the text that repr tells of a datum
abbrev Ky := Sum Int Str
/-- a slot: nothing known; a datum; a list, a dict that this name alone holds -/
inductive Sl where
  | no | val (d : D) | own (d : D)
abbrev En := List Sl
/-- the pen: its cells, how many were drawn, what is left of a great one -/
structure Ts where
  cells : List Int
  at' : Int
  left : Int
  tape : Bool
  /-- objects that may change, by their addresses -/
  obs : Addr → Option D
/-- objects there -/
def Ts.dom (t : Ts) (a : Addr) : Prop := ∃ d, t.obs a = some d
def noObs : Addr → Option D := fun _ => none
/-- without objects, with those -/
def Ts.bare (t : Ts) : Ts := ⟨t.cells, t.at', t.left, t.tape, noObs⟩
/-- an object is written -/
def Ts.put (t : Ts) (a : Addr) (d : D) : Ts := ⟨t.cells, t.at', t.left, t.tape, fun b => if b = a then some d else t.obs b⟩
theorem Ts.put_ne (t : Ts) {a b : Addr} (d : D) (h : b ≠ a) : (t.put a d).obs b = t.obs b := if_neg h
abbrev DE := En → Ts → (D → Ts → Prop) → Prop
abbrev DT := En → Ts → (Bool → Ts → Prop) → Prop
abbrev DA := En → Ts → (List D → Ts → Prop) → Prop
abbrev DO := En → Ts → (Option Int → Ts → Prop) → Prop
structure DEnds where
  nx : En → Ts → Prop
  rt : D → En → Ts → Prop
  bk : En → Ts → Prop
  ct : En → Ts → Prop
abbrev DS := DEnds → En → Ts → Prop
abbrev DG := D → En → Ts → (En → Ts → Prop) → Prop
abbrev DGs := List D → En → Ts → (En → Ts → Prop) → Prop
abbrev DOp := D → D → (D → Prop) → Prop
abbrev DU := D → (D → Prop) → Prop
abbrev DB := List D → (D → Prop) → Prop
/-- a def's promise: arguments, the pen's count, what is wanted -/
abbrev PSp := List D → Ts → (D → Ts → Prop) → Prop
/-- both ways -/
def Br (b : Bool) (p q : Prop) : Prop := match b with
  | true => p
  | false => q
theorem Br.mk {b : Bool} {p q : Prop} (h1 : b = true → p) (h2 : b = false → q) : Br b p q := by
  cases b with
  | true => exact h1 rfl
  | false => exact h2 rfl
/- as data, alike (True is 1) -/
def b2i (b : Bool) : Int := if b then 1 else 0
mutual
def deq : D → D → Bool
  | .non, .non => true
  | .bl a, .bl b => a == b
  | .bl a, .int i => b2i a == i
  | .int i, .bl a => i == b2i a
  | .int i, .int j => decide (i = j)
  | .str x, .str y => decide (x = y)
  | .lst a, .lst b => deqs a b
  | .tup a, .tup b => deqs a b
  | _, _ => false
def deqs : List D → List D → Bool
  | [], [] => true
  | x :: a, y :: b => deq x y && deqs a b
  | _, _ => false
end
/- what == is told of here -/
mutual
def plain : D → Bool
  | .non => true | .bl _ => true | .int _ => true | .str x => x.cps.all (· < 0x110000)
  | .lst l => plains l | .tup l => plains l
  | _ => false
def plains : List D → Bool
  | [] => true
  | x :: a => plain x && plains a
end
mutual
def deep : D → Nat
  | .lst l => deeps l + 1 | .tup l => deeps l + 1
  | _ => 0
def deeps : List D → Nat
  | [] => 0
  | x :: a => max (deep x) (deeps a)
end
/-! sizes -/
def Sm (b : Nat) (i : Int) : Prop := i.natAbs < 2 ^ b
def MulOk (i j : Int) : Prop := Sm 64 i ∨ Sm 64 j ∨ (∃ a b, Sm a i ∧ Sm b j ∧ 0 < a ∧ 0 < b ∧ a + b ≤ 1000000)
def DivOk (j : Int) : Prop := 0 < j ∧ Sm 9000 j
def PowOk (i j : Int) : Prop := 0 ≤ j ∧ ∃ a : Nat, Sm a i ∧ (a : Int) * j ≤ 100000000
def zLen : Nat := 16000000
/-! expressions -/
def dVar (i : Nat) : DE := fun env t P => match env[i]? with
  | some (.val d) => P d t
  | _ => False
/-- a name, read alone -/
def dView (i : Nat) : DE := fun env t P => match env[i]? with
  | some (.val d) => P d t
  | some (.own d) => P d t
  | _ => False
def dC (d : D) : DE := fun _ t P => P d t
def dOp (o : DOp) (a b : DE) : DE := fun env t P => a env t fun x t1 => b env t1 fun y t2 => o x y fun z => P z t2
def dUn (o : DU) (a : DE) : DE := fun env t P => a env t fun x t1 => o x fun z => P z t1
def dNil : DA := fun _ t P => P [] t
def dCons (a : DE) (r : DA) : DA := fun env t P => a env t fun x t1 => r env t1 fun xs t2 => P (x :: xs) t2
def dCB (b : DB) (a : DA) : DE := fun env t P => a env t fun xs t1 => b xs fun z => P z t1
/-- the length of a display -/
def Few (l : List D) (p : Prop) : Prop := match Nat.ble l.length 1000 with
  | true => p
  | false => False
def dTup (a : DA) : DE := fun env t P => a env t fun xs t1 => Few xs (P (.tup xs) t1)
def dLst (a : DA) : DE := fun env t P => a env t fun xs t1 => Few xs (P (.lst xs) t1)
def dCall (sp : PSp) (dvs : List D) (a : DA) : DE := fun env t P => a env t fun xs t1 => sp (xs ++ dvs) t1 P
def dFld (C : Addr) (f : Str) (a : DE) : DE := fun env t P => a env t fun x t1 => match x with
  | .ins C' ns l => C' = C ∧ (match (ns.zip l).lookup f with | some d => P d t1 | none => False)
  | _ => False
def dMeth (C : Addr) (m : Str) (sp : PSp) (dvs : List D) (a : DE) (r : DA) : DE := fun env t P => a env t fun x t1 => match x with
  | .ins C' ns l => C' = C ∧ ns.contains m = false ∧ r env t1 fun xs t2 => sp (.ins C' ns l :: (xs ++ dvs)) t2 P
  | _ => False
def dIfE (c : DT) (a b : DE) : DE := fun env t P => c env t fun k t1 => Br k (a env t1 P) (b env t1 P)
def dChain (o o' : DOp) (a b c : DE) : DE := fun env t P => a env t fun x t1 => b env t1 fun y t2 => o x y fun z => match z with
  | .bl k => Br k (c env t2 fun w t3 => o' y w fun z' => P z' t3) (P (.bl false) t2)
  | _ => False
def dAndV (a b : DE) : DE := fun env t P => a env t fun x t1 => match x with
  | .bl k => Br k (b env t1 P) (P (.bl false) t1)
  | _ => False
def dNotV (a : DE) : DE := fun env t P => a env t fun x t1 => match x with
  | .bl k => P (.bl (!k)) t1
  | _ => False
def dNoPart : DO := fun _ t P => P none t
def dPart (a : DE) : DO := fun env t P => a env t fun x t1 => match x with
  | .int i => P (some i) t1
  | _ => False
/-- a slice's place -/
def sIx (n d : Nat) : Option Int → Nat
  | none => d
  | some i => if i < 0 then ((n : Int) + i).toNat else min i.toNat n
def cutD (xs : List D) (lo hi : Option Int) : List D := (xs.drop (sIx xs.length 0 lo)).take (sIx xs.length xs.length hi - sIx xs.length 0 lo)
def dSlice (a : DE) (lo hi : DO) : DE := fun env t P => a env t fun x t1 => lo env t1 fun l t2 => hi env t2 fun h t3 => match x with
  | .lst xs => P (.lst (cutD xs l h)) t3
  | .tup xs => (cutD xs l h).length < xs.length ∧ P (.tup (cutD xs l h)) t3
  | .scr ns => P (.lst (cutD (ns.map .int) l h)) t3
  | _ => False
/-! tests -/
def dB (a : DE) : DT := fun env t P => a env t fun x t1 => match x with
  | .bl b => P b t1
  | _ => False
def dAnd (a b : DT) : DT := fun env t P => a env t fun k t1 => Br k (b env t1 P) (P false t1)
def dOr (a b : DT) : DT := fun env t P => a env t fun k t1 => Br k (P true t1) (b env t1 P)
def dNot (a : DT) : DT := fun env t P => a env t fun k t1 => P (!k) t1
/-! operators -/
def oAdd : DOp := fun x y P => match x, y with
  | .int i, .int j => P (.int (i + j))
  | .lst a, .lst b => a.length + b.length ≤ zLen ∧ P (.lst (a ++ b))
  | .tup a, .tup b => (a.length + b.length ≤ zLen ∧ a ≠ [] ∧ b ≠ []) ∧ P (.tup (a ++ b))
  | .str a, .str b => a.length + b.length ≤ zLen ∧ P (.str (a ++ b))
  | _, _ => False
def oSub : DOp := fun x y P => match x, y with
  | .int i, .int j => P (.int (i - j))
  | _, _ => False
def rep (n : Nat) (a : List D) : List D := (List.replicate n a).flatten
def oMul : DOp := fun x y P => match x, y with
  | .int i, .int j => MulOk i j ∧ P (.int (i * j))
  | .lst a, .int j => (j < 1000000000 ∧ -1000000000 < j ∧ a.length * j.toNat ≤ zLen) ∧ P (.lst (rep j.toNat a))
  | _, _ => False
def oDiv : DOp := fun x y P => match x, y with
  | .int i, .int j => DivOk j ∧ P (.int (i / j))
  | _, _ => False
def oMod : DOp := fun x y P => match x, y with
  | .int i, .int j => 0 < j ∧ P (.int (i % j))
  | _, _ => False
def oPow : DOp := fun x y P => match x, y with
  | .int i, .int j => PowOk i j ∧ P (.int (i ^ j.toNat))
  | _, _ => False
def oNeg : DU := fun x P => match x with
  | .int i => P (.int (-i))
  | _ => False
def oLt : DOp := fun x y P => match x, y with
  | .int i, .int j => P (.bl (decide (i < j)))
  | _, _ => False
def oLe : DOp := fun x y P => match x, y with
  | .int i, .int j => P (.bl (decide (i ≤ j)))
  | _, _ => False
def oGt : DOp := fun x y P => match x, y with
  | .int i, .int j => P (.bl (decide (j < i)))
  | _, _ => False
def oGe : DOp := fun x y P => match x, y with
  | .int i, .int j => P (.bl (decide (j ≤ i)))
  | _, _ => False
def oEq : DOp := fun x y P => match x, y with
  | .int i, .int j => P (.bl (decide (i = j)))
  | x, y => (plain x = true ∧ plain y = true ∧ deep x ≤ 60 ∧ deep y ≤ 60) ∧ P (.bl (deq x y))
def oNe : DOp := fun x y P => match x, y with
  | .int i, .int j => P (.bl (!decide (i = j)))
  | x, y => (plain x = true ∧ plain y = true ∧ deep x ≤ 60 ∧ deep y ≤ 60) ∧ P (.bl (!deq x y))
def isNon : D → Bool
  | .non => true
  | _ => false
def oIsN : DOp := fun x y P => match y with
  | .non => P (.bl (isNon x))
  | _ => False
/-- an index of any sign -/
def atI (xs : List D) (i : Int) : Option D := if 0 ≤ i then (if i < xs.length then xs[i.toNat]? else none) else if -(xs.length : Int) ≤ i then xs[(i + xs.length).toNat]? else none
def oIx : DOp := fun x y P => match x, y with
  | .lst xs, .int i => ∃ d, atI xs i = some d ∧ P d
  | .tup xs, .int i => ∃ d, atI xs i = some d ∧ P d
  | _, _ => False
/-! built-in functions -/
def bLen : DB := fun xs P => match xs with
  | [.lst l] => P (.int l.length)
  | [.tup l] => P (.int l.length)
  | [.scr l] => P (.int l.length)
  | [.str z] => z.length ≤ zLen ∧ P (.int z.length)
  | _ => False
def bAbs : DB := fun xs P => match xs with
  | [.int i] => P (.int (if i < 0 then -i else i))
  | _ => False
def intsD : List D → Option (List Int)
  | [] => some []
  | .int i :: r => (intsD r).map (i :: ·)
  | _ => none
def bMin : DB := fun xs P => match xs with
  | [.int i, .int j] => P (.int (if j < i then j else i))
  | [.lst l] => ∃ ns, intsD l = some ns ∧ 0 < ns.length ∧ ∀ m, m ∈ ns → (∀ y, y ∈ ns → m ≤ y) → P (.int m)
  | _ => False
def bls : List D → Option (List Bool)
  | [] => some []
  | .bl i :: r => (bls r).map (i :: ·)
  | _ => none
def bAll : DB := fun xs P => match xs with
  | [.lst l] => ∃ bs, bls l = some bs ∧ P (.bl (bs.all id))
  | _ => False
def bList : DB := fun xs P => match xs with
  | [.lst l] => P (.lst l)
  | [.tup l] => P (.lst l)
  | _ => False
/-! statements -/
def dNext : DS := fun DD env t => DD.nx env t
def dSeq (a b : DS) : DS := fun DD env t => a ⟨b DD, DD.rt, DD.bk, DD.ct⟩ env t
def gName (i : Nat) : DG := fun d env t P => P (env.set i (.val d)) t
def dAsg (a : DE) (g : DG) : DS := fun DD env t => a env t fun x t1 => g x env t1 DD.nx
/-- name = a new list: the name's own -/
def dAsgN (i : Nat) (a : DE) : DS := fun DD env t => a env t fun x t1 => DD.nx (env.set i (.own x)) t1
/-- the name's own list is not written again -/
def dFrz (i : Nat) : DS := fun DD env t => match env[i]? with
  | some (.own d) => DD.nx (env.set i (.val d)) t
  | _ => DD.nx env t
def dPar (i j : Nat) (a : DA) : DS := fun DD env t => a env t fun xs t1 => match xs with
  | [v, w] => DD.nx ((env.set i (.val v)).set j (.val w)) t1
  | _ => False
def dIf (c : DT) (a b : DS) : DS := fun DD env t => c env t fun k t1 => Br k (a DD env t1) (b DD env t1)
def dRet (a : DE) : DS := fun DD env t => a env t fun x t1 => DD.rt x env t1
/-- x.append(e), x the name's own -/
def dApp (i : Nat) (a : DE) : DS := fun DD env t => match env[i]? with
  | some (.own (.lst l)) => a env t fun y t1 => l.length < zLen ∧ DD.nx (env.set i (.own (.lst (l ++ [y])))) t1
  | _ => False
/-- an index that lies in it -/
def ixN (n : Nat) (i : Int) : Option Nat := if 0 ≤ i then (if i < n then some i.toNat else none) else if -(n : Int) ≤ i then some (i + n).toNat else none
/-! dicts -/
/-- {k: v, ..}: keys that are texts, each once -/
def dDispL : List (Str × DE) → DA
  | [] => fun _ t P => P [] t
  | (_, a) :: r => fun env t P => a env t fun x t1 => dDispL r env t1 fun xs t2 => P (x :: xs) t2
def dDisp (l : List (Str × DE)) : DE := fun env t P => dDispL l env t fun xs t1 => P (.dic (l.map fun p => .inr p.1) xs) t1
/-! the pen's own rows: cells, at (turn), left (rest) -/
def dPenC (a : DE) : DE := fun env t P => a env t fun x t1 => match x with
  | .pen => P (.lst (t1.cells.map .int)) t1
  | _ => False
def dPenA (b : Bool) (a : DE) : DE := fun env t P => a env t fun x t1 => match x with
  | .pen => t1.tape = b ∧ P (.int t1.at') t1
  | _ => False
def dPenL (b : Bool) (a : DE) : DE := fun env t P => a env t fun x t1 => match x with
  | .pen => t1.tape = b ∧ P (.int t1.left) t1
  | _ => False
def dPutA (b : Bool) (i : Nat) (a : DE) : DS := fun DD env t => a env t fun y t1 => match y with
  | .int n => (match env[i]? with
    | some (.val .pen) => t1.tape = b ∧ DD.nx env ⟨t1.cells, n, t1.left, t1.tape, t1.obs⟩
    | _ => False)
  | _ => False
def dPutL (b : Bool) (i : Nat) (a : DE) : DS := fun DD env t => a env t fun y t1 => match y with
  | .int n => (match env[i]? with
    | some (.val .pen) => t1.tape = b ∧ DD.nx env ⟨t1.cells, t1.at', n, t1.tape, t1.obs⟩
    | _ => False)
  | _ => False
/-- what is walked: its items -/
abbrev DI := En → Ts → (List D → Ts → Prop) → Prop
def rng (lo : Int) (n : Nat) : List D := (List.range n).map fun (i : Nat) => D.int (lo + i)
def iRng1 (a : DE) : DI := fun env t P => a env t fun x t1 => match x with
  | .int n => (-1000000000000 < n ∧ n < 1000000000000) ∧ P (rng 0 n.toNat) t1
  | _ => False
def dFor (di : DI) (g : DG) (b : DS) : DS := fun DD env t => di env t fun xs t1 => ∃ Inv : Nat → En → Ts → Prop, Inv 0 env t1 ∧
  (∀ i x e m, xs[i]? = some x → Inv i e m → g x e m fun e' m' => b ⟨Inv (i + 1), DD.rt, DD.nx, Inv (i + 1)⟩ e' m') ∧ ∀ e m, Inv xs.length e m → DD.nx e m
def wipeE (env : En) : List Nat → En
  | [] => env
  | i :: r => (wipeE env r).set i .no
/-- [e for x in xs if c] -/
def dLc (vs : List Nat) (di : DI) (g : DG) (c : DT) (a : DE) : DE := fun env t P => di env t fun xs t1 => ∃ Inv : Nat → List D → Ts → Prop, Inv 0 [] t1 ∧
  (∀ i x acc m, xs[i]? = some x → Inv i acc m → g x (wipeE env vs) m fun e' m' => wipeE e' vs = wipeE env vs ∧ c e' m' fun k m1 => Br k (a e' m1 fun y m2 => acc.length < zLen ∧ Inv (i + 1) (acc ++ [y]) m2) (Inv (i + 1) acc m1)) ∧
  ∀ acc m, Inv xs.length acc m → P (.lst acc) m
def dYes : DT := fun _ t P => P true t
/-- a def's beginning -/
def start0 (N : List Str) (ds : List D) : En := ds.map Sl.val ++ List.replicate (N.length - ds.length) Sl.no
/-- a def's ends -/
def endsOf (P : D → Ts → Prop) : DEnds := ⟨fun _ t => P .non t, fun d _ t => P d t, fun _ _ => False, fun _ _ => False⟩
/-- the ends of a def that tells a new object -/
def endsN (P : D → Ts → Prop) : DEnds := ⟨fun _ _ => False, fun d _ t => match d with | .non => False | d => P d t, fun _ _ => False, fun _ _ => False⟩
theorem rng_len (lo : Int) (n : Nat) : (rng lo n).length = n := by simp [rng]
theorem rng_get {lo : Int} {n i : Nat} {d : D} (h : (rng lo n)[i]? = some d) : i < n ∧ d = .int (lo + i) := by
  unfold rng at h
  rw [List.getElem?_map] at h
  cases q : (List.range n)[i]? with
  | none => rw [q] at h; cases h
  | some j =>
    rw [q] at h
    obtain ⟨h1, h2⟩ := List.getElem?_eq_some_iff.mp q
    simp at h1 h2
    cases h
    exact ⟨h1, by rw [← h2]⟩
/-! ### classes of the text -/
structure Cl where
  House : Addr
  Lore : Addr
  Desk : Addr
  Beside : Addr
  Solver : Addr
/-- a value's built-in type -/
inductive Tn where
  | non | bl | int | str | lst | tup | dic
def tn : D → Option Tn
  | .non => some .non
  | .bl _ => some .bl
  | .int _ => some .int
  | .str _ => some .str
  | .lst _ => some .lst
  | .tup _ => some .tup
  | .dic _ _ => some .dic
  | _ => none
def isa : Tn → Tn → Bool
  | .non, .non => true
  | .bl, .bl => true
  | .bl, .int => true
  | .int, .int => true
  | .str, .str => true
  | .lst, .lst => true
  | .tup, .tup => true
  | .dic, .dic => true
  | _, _ => false
def Tn.name : Tn → String
  | .non => "NoneType"
  | .bl => "bool"
  | .int => "int"
  | .str => "str"
  | .lst => "list"
  | .tup => "tuple"
  | .dic => "dict"
/-- isinstance(e, T), isinstance(e, (T, ..)) -/
def dIsi (cs : List Tn) (a : DE) : DE := fun env t P => a env t fun x t1 => match tn x with
  | some n => P (.bl (cs.any (isa n))) t1
  | none => False
/-! ### __init__: what the instance holds so far (names, data), the others' slots -/
abbrev IK := List Str → List D → En → Ts → Prop
abbrev IS := IK → List Str → List D → En → Ts → Prop
def iThen (a b : IS) : IS := fun k => a (b k)
/-- self.f = e -/
def iSet (f : Str) (a : DE) : IS := fun k ns l env t => a env t fun y t1 => (ns.contains f = false ∧ ns.length < 900) ∧ k (ns ++ [f]) (l ++ [y]) env t1
def startI (x : Addr) (N : List Str) (ds : List D) : En := .val (.adr x) :: start0 N ds
mutual
/-- no pen in it -/
def nopen : D → Bool
  | .pen => false
  | .lst l => nopens l
  | .tup l => nopens l
  | .dic _ l => nopens l
  | .ins _ _ l => nopens l
  | _ => true
def nopens : List D → Bool
  | [] => true
  | d :: l => nopen d && nopens l
end
/-- partial sums, each less one -/
def sumsOf : Int → List Int → List Int
  | _, [] => []
  | s, b :: r => (s + b - 1) :: sumsOf (s + b - 1) r
/-- self.sums = []; for many in beginning: self.sums.append(many - 1 + (self.sums[-1] if self.sums != [] else 0)) -/
def iSums (i j : Nat) : IS := fun k ns l env t => match env[i]? with
  | some (.val (.lst m)) => ∃ bs : List Int, m = bs.map .int ∧ bs.length ≤ 1000 ∧ (ns.contains ("sums" : Str) = false ∧ ns.length < 900 ∧ j < env.length) ∧ ∀ s, k (ns ++ [("sums" : Str)]) (l ++ [.lst ((sumsOf 0 bs).map .int)]) (env.set j s) t
  | some (.val (.tup m)) => ∃ bs : List Int, m = bs.map .int ∧ bs.length ≤ 1000 ∧ (ns.contains ("sums" : Str) = false ∧ ns.length < 900 ∧ j < env.length) ∧ ∀ s, k (ns ++ [("sums" : Str)]) (l ++ [.lst ((sumsOf 0 bs).map .int)]) (env.set j s) t
  | _ => False
/-- what is added, as the loop's step reads it: C the class, self at 0, many at j -/
def SumsE (C : Addr) (j : Nat) (de : DE) : Prop := ∀ (env : En) (t : Ts) (P : D → Ts → Prop) (ns : List Str) (l : List D) (cur : List Int) (m : Int), env[0]? = some (.val (.ins C ns l)) → (ns.zip l).lookup ("sums" : Str) = some (.lst (cur.map .int)) → env[j]? = some (.val (.int m)) →
  P (.int (m - 1 + cur.getLastD 0)) t → de env t P
/-- a list or a tuple, walked -/
def iSeq (a : DE) : DI := fun env t P => a env t fun x t1 => match x with
  | .lst l => P l t1
  | .tup l => P l t1
  | .scr ns => P (ns.map .int) t1
  | _ => False
/-! ### repr -/
/-! ### more of lists -/
/-- + of two lists, * of a list: the new list -/
def oCat : DOp := fun x y P => match x, y with
  | .lst a, .lst b => a.length + b.length ≤ zLen ∧ P (.lst (a ++ b))
  | _, _ => False
/-! ### by names: the values in the order that is written, then put in the parameters' order -/
def pick {α : Type} (ix : List Nat) (l : List α) : List α := ix.filterMap fun i => l[i]?
/-! ### more -/
end Q
/-! QH1 -/
namespace Q
open PySem L2 PyProof.Rows
/-! ### as the library's data -/
mutual
def toPy : D → PyData
  | .bl b => .bool b | .int i => .int i | .str x => .str x
  | .lst l => .list (toPys l) | .tup l => .tuple (toPys l)
  | _ => .none
def toPys : List D → List PyData
  | [] => []
  | d :: l => toPy d :: toPys l
end
/-! ### the relation of data and values -/
mutual
def RelD (K : PySem.W.Frag) (F : Hp) (pa : Option Addr) : D → V → Prop
  | .non, v => v = .non
  | .bl b, v => v = .bl b
  | .int i, v => v = .int i
  | .str x, v => v = .str x
  | .ty n, v => v = .ty n
  | .adr a, v => v = .ref a
  | .rp d, v => v = .str (toPy d).shown
  | .pen, v => ∃ a, pa = some a ∧ v = .ref a
  | .scr ns, v => ∃ a, v = .ref a ∧ SqL K F a (ns.map V.int)
  | .lst l, v => ∃ a vs, v = .ref a ∧ F a = some (.lst vs) ∧ RelL K F pa l vs
  | .tup l, v => ∃ a vs, v = .ref a ∧ F a = some (.tup vs) ∧ RelL K F pa l vs
  | .dic ks l, v => ∃ a vs, v = .ref a ∧ F a = some (.dK (ks.zip vs)) ∧ ks.length = vs.length ∧ RelL K F pa l vs
  | .ins C ns l, v => ∃ a dx vs, v = .ref a ∧ F a = some (.ins C dx (ns.zip vs)) ∧ ns.length = vs.length ∧ RelL K F pa l vs
def RelL (K : PySem.W.Frag) (F : Hp) (pa : Option Addr) : List D → List V → Prop
  | [], vs => vs = []
  | d :: ds, vs => ∃ v vr, vs = v :: vr ∧ RelD K F pa d v ∧ RelL K F pa ds vr
end
/-- what a name's own object holds -/
def RelO1 (K : PySem.W.Frag) (F : Hp) (pa : Option Addr) : D → HO → Prop
  | .lst l, h => ∃ vs, h = .lst vs ∧ RelL K F pa l vs
  | .dic ks l, h => ∃ vs, h = .dK (ks.zip vs) ∧ ks.length = vs.length ∧ RelL K F pa l vs
  | .ins C ns l, h => ∃ dx vs, h = .ins C dx (ns.zip vs) ∧ ns.length = vs.length ∧ RelL K F pa l vs
  | _, _ => False
def Gf (F F' : Hp) : Prop := ∀ a o, F a = some o → F' a = some o
def Gp (pa pa' : Option Addr) : Prop := pa' = pa
structure Gr (F : Hp) (pa : Option Addr) (F' : Hp) (pa' : Option Addr) : Prop where
  f : Gf F F'
  p : Gp pa pa'
theorem Gr.refl (F : Hp) (pa : Option Addr) : Gr F pa F pa := ⟨fun _ _ h => h, rfl⟩
theorem Gr.trans {F F1 F2 : Hp} {p p1 p2 : Option Addr} (a : Gr F p F1 p1) (b : Gr F1 p1 F2 p2) : Gr F p F2 p2 := ⟨fun x o h => b.f x o (a.f x o h), Eq.trans b.p a.p⟩
section
variable {K : PySem.W.Frag} {F F' : Hp} {pa pa' : Option Addr}
theorem sq_mono {a : Addr} {xs : List V} (g : Gf F F') (h : SqL K F a xs) : SqL K F' a xs := by
  rcases h with (h | ⟨o, h⟩) | h
  · exact .inl (.inl (g _ _ h))
  · exact .inl (.inr ⟨o, g _ _ h⟩)
  · exact .inr h
mutual
theorem RelD.mono (g : Gr F pa F' pa') : ∀ (d : D) (v : V), RelD K F pa d v → RelD K F' pa' d v
  | .non, v, h => by unfold RelD at h ⊢; exact h
  | .bl b, v, h => by unfold RelD at h ⊢; exact h
  | .int i, v, h => by unfold RelD at h ⊢; exact h
  | .str x, v, h => by unfold RelD at h ⊢; exact h
  | .ty n, v, h => by unfold RelD at h ⊢; exact h
  | .adr a, v, h => by unfold RelD at h ⊢; exact h
  | .rp d, v, h => by unfold RelD at h ⊢; exact h
  | .pen, v, h => by
    unfold RelD at h ⊢
    obtain ⟨a, e, r⟩ := h
    exact ⟨a, (show pa' = pa from g.p).trans e, r⟩
  | .scr ns, v, h => by
    unfold RelD at h ⊢
    obtain ⟨a, e, r⟩ := h
    exact ⟨a, e, sq_mono g.f r⟩
  | .lst l, v, h => by
    unfold RelD at h ⊢
    obtain ⟨a, vs, e, r, q⟩ := h
    exact ⟨a, vs, e, g.f _ _ r, RelL.mono g l vs q⟩
  | .tup l, v, h => by
    unfold RelD at h ⊢
    obtain ⟨a, vs, e, r, q⟩ := h
    exact ⟨a, vs, e, g.f _ _ r, RelL.mono g l vs q⟩
  | .dic ks l, v, h => by
    unfold RelD at h ⊢
    obtain ⟨a, vs, e, r, z, q⟩ := h
    exact ⟨a, vs, e, g.f _ _ r, z, RelL.mono g l vs q⟩
  | .ins C ns l, v, h => by
    unfold RelD at h ⊢
    obtain ⟨a, dx, vs, e, r, z, q⟩ := h
    exact ⟨a, dx, vs, e, g.f _ _ r, z, RelL.mono g l vs q⟩
theorem RelL.mono (g : Gr F pa F' pa') : ∀ (l : List D) (vs : List V), RelL K F pa l vs → RelL K F' pa' l vs
  | [], vs, h => by unfold RelL at h ⊢; exact h
  | d :: ds, vs, h => by
    unfold RelL at h ⊢
    obtain ⟨v, vr, e, r, q⟩ := h
    exact ⟨v, vr, e, RelD.mono g d v r, RelL.mono g ds vr q⟩
end
theorem RelO1.mono (g : Gr F pa F' pa') : ∀ (d : D) (h : HO), RelO1 K F pa d h → RelO1 K F' pa' d h
  | .lst l, h, r => by
    obtain ⟨vs, e, q⟩ := r
    exact ⟨vs, e, RelL.mono g l vs q⟩
  | .dic ks l, h, r => by
    obtain ⟨vs, e, z, q⟩ := r
    exact ⟨vs, e, z, RelL.mono g l vs q⟩
  | .ins C ns l, h, r => by
    obtain ⟨dx, vs, e, z, q⟩ := r
    exact ⟨dx, vs, e, z, RelL.mono g l vs q⟩
  | .non, _, r => r.elim
  | .bl _, _, r => r.elim
  | .int _, _, r => r.elim
  | .str _, _, r => r.elim
  | .tup _, _, r => r.elim
  | .pen, _, r => r.elim
  | .ty _, _, r => r.elim
  | .adr _, _, r => r.elim
  | .scr _, _, r => r.elim
  | .rp _, _, r => r.elim
end
section
variable {K : PySem.W.Frag} {F : Hp} {pa : Option Addr}
theorem RelL.nil : RelL K F pa [] [] := by unfold RelL; rfl
theorem RelL.cons {d : D} {v : V} {ds : List D} {vs : List V} (h : RelD K F pa d v) (r : RelL K F pa ds vs) : RelL K F pa (d :: ds) (v :: vs) := by
  unfold RelL; exact ⟨v, vs, rfl, h, r⟩
theorem RelL.inv {d : D} {ds : List D} {vs : List V} (h : RelL K F pa (d :: ds) vs) : ∃ v vr, vs = v :: vr ∧ RelD K F pa d v ∧ RelL K F pa ds vr := by unfold RelL at h; exact h
theorem RelL.inv0 {vs : List V} (h : RelL K F pa [] vs) : vs = [] := by unfold RelL at h; exact h
theorem RelL.len : ∀ {ds : List D} {vs : List V}, RelL K F pa ds vs → vs.length = ds.length
  | [], vs, h => by rw [h.inv0]; rfl
  | d :: ds, vs, h => by
    obtain ⟨v, vr, rfl, _, q⟩ := h.inv
    simp [RelL.len q]
theorem RelL.get : ∀ {ds : List D} {vs : List V} {i : Nat} {d : D}, RelL K F pa ds vs → ds[i]? = some d → ∃ v, vs[i]? = some v ∧ RelD K F pa d v
  | [], _, _, _, _, e => by simp at e
  | x :: ds, vs, 0, d, h, e => by
    obtain ⟨v, vr, rfl, r, _⟩ := h.inv
    simp at e; subst e
    exact ⟨v, rfl, r⟩
  | x :: ds, vs, i + 1, d, h, e => by
    obtain ⟨v, vr, rfl, _, q⟩ := h.inv
    simp at e
    obtain ⟨u, h1, h2⟩ := RelL.get q e
    exact ⟨u, by simpa using h1, h2⟩
theorem RelL.append : ∀ {a b : List D} {u v : List V}, RelL K F pa a u → RelL K F pa b v → RelL K F pa (a ++ b) (u ++ v)
  | [], b, u, v, h, r => by rw [h.inv0]; exact r
  | d :: a, b, u, v, h, r => by
    obtain ⟨x, ur, rfl, h1, q⟩ := h.inv
    exact RelL.cons h1 (RelL.append q r)
theorem RelL.take : ∀ {a : List D} {u : List V} (n : Nat), RelL K F pa a u → RelL K F pa (a.take n) (u.take n)
  | _, _, 0, h => by simpa using RelL.nil
  | [], _, n + 1, h => by rw [h.inv0]; simpa using RelL.nil
  | d :: a, u, n + 1, h => by
    obtain ⟨x, ur, rfl, h1, q⟩ := h.inv
    simpa using RelL.cons h1 (RelL.take n q)
theorem RelL.drop : ∀ {a : List D} {u : List V} (n : Nat), RelL K F pa a u → RelL K F pa (a.drop n) (u.drop n)
  | _, _, 0, h => by simpa using h
  | [], _, n + 1, h => by rw [h.inv0]; simpa using RelL.nil
  | d :: a, u, n + 1, h => by
    obtain ⟨x, ur, rfl, h1, q⟩ := h.inv
    simpa using RelL.drop n q
theorem RelL.set : ∀ {a : List D} {u : List V} (j : Nat) {d : D} {v : V}, RelL K F pa a u → RelD K F pa d v → RelL K F pa (a.set j d) (u.set j v)
  | [], u, j, d, v, h, r => by rw [h.inv0]; simpa using RelL.nil
  | x :: a, u, 0, d, v, h, r => by
    obtain ⟨y, ur, rfl, h1, q⟩ := h.inv
    simpa using RelL.cons r q
  | x :: a, u, j + 1, d, v, h, r => by
    obtain ⟨y, ur, rfl, h1, q⟩ := h.inv
    simpa using RelL.cons h1 (RelL.set j q r)
theorem RelL.rep {a : List D} {u : List V} (h : RelL K F pa a u) : ∀ n : Nat, RelL K F pa (rep n a) (List.replicate n u).flatten
  | 0 => by simpa [Q.rep] using RelL.nil
  | n + 1 => by
    have := RelL.append h (RelL.rep h n)
    simpa [Q.rep, List.replicate_succ] using this
theorem RelL.intsD : ∀ {l : List D} {vs : List V} {ns : List Int}, RelL K F pa l vs → Q.intsD l = some ns → vs = ns.map V.int
  | [], vs, ns, h, e => by
    rw [h.inv0]
    simp [Q.intsD] at e; subst e; rfl
  | d :: l, vs, ns, h, e => by
    obtain ⟨x, ur, rfl, h1, q⟩ := h.inv
    cases d with
    | int i =>
      unfold RelD at h1
      subst h1
      unfold Q.intsD at e
      cases e2 : Q.intsD l with
      | none => rw [e2] at e; simp at e
      | some ms =>
        rw [e2] at e
        simp at e; subst e
        rw [RelL.intsD q e2]; rfl
    | _ => simp [Q.intsD] at e
theorem RelL.bls : ∀ {l : List D} {vs : List V} {ns : List Bool}, RelL K F pa l vs → Q.bls l = some ns → vs = ns.map V.bl
  | [], vs, ns, h, e => by
    rw [h.inv0]
    simp [Q.bls] at e; subst e; rfl
  | d :: l, vs, ns, h, e => by
    obtain ⟨x, ur, rfl, h1, q⟩ := h.inv
    cases d with
    | bl i =>
      unfold RelD at h1
      subst h1
      unfold Q.bls at e
      cases e2 : Q.bls l with
      | none => rw [e2] at e; simp at e
      | some ms =>
        rw [e2] at e
        simp at e; subst e
        rw [RelL.bls q e2]; rfl
    | _ => simp [Q.bls] at e
theorem RelL.of_ints : ∀ (ns : List Int), RelL K F pa (ns.map D.int) (ns.map V.int)
  | [] => RelL.nil
  | n :: ns => RelL.cons (by unfold RelD; rfl) (RelL.of_ints ns)
end
/-! ### the state -/
structure Bs where
  F : Hp
  H : Hp
  ex : List Addr
  pn : Option Addr
  /-- what is told back: a datum, or a new object -/
  m : Bool
  /-- tables of code objects that may grow, with the code objects' name -/
  T : List (Addr × Str)
  /-- objects that may change -/
  O : Addr → Prop
/-- the base of a def's body: what may change is the pen alone, and tables of code objects -/
def Bs.Top (B : Bs) : Prop := ∀ a ∈ B.ex, B.pn = some a ∨ ∃ p ∈ B.T, p.1 = a
/-- the tables: outside of what is frozen, their code objects frozen -/
def TabF (T : List (Addr × Str)) (BH F H : Hp) : Prop := ∀ p ∈ T, BH p.1 ≠ none ∧ F p.1 = none ∧ ∃ ps : Array Value, H p.1 = some (.tbl ps) ∧ TriplesOk ps.toList ∧ ∀ (pos : Pos) (cv : Value), codeAmong pos ps.toList = some cv → ∃ c, cv = .ref c ∧ F c = some (LamX.CodeO c p.2)
theorem TabF.nil {BH F H : Hp} : TabF [] BH F H := fun p hp => by cases hp
theorem TabF.keep {T : List (Addr × Str)} {BH F H F' H' : Hp} (t : TabF T BH F H) (g : ∀ a o, F a = some o → F' a = some o) (hF : ∀ p ∈ T, ∀ ps, H p.1 = some (.tbl ps) → F' p.1 = none) (hH : ∀ p ∈ T, ∀ ps, H p.1 = some (.tbl ps) → H' p.1 = some (.tbl ps)) : TabF T BH F' H' := fun p hp => by
  obtain ⟨h1, h2, ps, h3, h4, h5⟩ := t p hp
  refine ⟨h1, hF p hp ps h3, ps, hH p hp ps h3, h4, fun pos cv hc => ?_⟩
  obtain ⟨c, e, q⟩ := h5 pos cv hc
  exact ⟨c, e, g _ _ q⟩
theorem TabF.hs {T : List (Addr × Str)} {BH F H H' : Hp} (t : TabF T BH F H) (hH : ∀ p ∈ T, ∀ ps, H p.1 = some (.tbl ps) → H' p.1 = some (.tbl ps)) : TabF T BH F H' := t.keep (fun _ _ h => h) (fun p hp _ _ => (t p hp).2.1) hH
theorem RelO1.ntb {K : PySem.W.Frag} {F : Hp} {pa : Option Addr} : ∀ {d : D} {h : HO}, RelO1 K F pa d h → ∀ ps, h ≠ .tbl ps := fun {d h} r ps e => by
  subst e
  cases d with
  | lst l => obtain ⟨_, z, _⟩ := r; cases z
  | dic ks l => obtain ⟨_, z, _⟩ := r; cases z
  | ins C ns l => obtain ⟨_, _, z, _⟩ := r; cases z
  | _ => exact r.elim
def penRows (t : Ts) (ca : Addr) : List (L2.Key × V) := match t.tape with
  | false => [(.inr "cells", .ref ca), (.inr "at", .int t.at'), (.inr "left", .int t.left)]
  | true => [(.inr "cells", .ref ca), (.inr "turn", .int t.at'), (.inr "rest", .int t.left)]
def PenOk (F : Hp) (t : Ts) (h : HO) : Prop := ∃ ca : Addr, h = .dK (penRows t ca) ∧ F ca = some (.lst (t.cells.map V.int))
theorem PenOk.mono {F F' : Hp} {t : Ts} {h : HO} (g : Gf F F') (p : PenOk F t h) : PenOk F' t h := by
  obtain ⟨ca, e, q⟩ := p
  exact ⟨ca, e, g _ _ q⟩
structure Cf (K : PySem.W.Frag) (B : Bs) (F : Hp) (pa : Option Addr) (t : Ts) (env : En) (σ : L2.St) (H : Hp) : Prop where
  len : env.length = σ.length
  sub : ∀ a o, F a = some o → H a = some o
  bas : ∀ a o, B.F a = some o → F a = some o
  frm : ∀ a o, B.H a = some o → a ∉ B.ex → ¬ B.O a → H a = some o
  new : ∀ a o, F a = some o → (∃ o', B.F a = some o') ∨ B.H a = none
  exl : ∀ a ∈ B.ex, ∃ o, H a = some o
  val : ∀ (i : Nat) (d : D), env[i]? = some (Sl.val d) → ∃ v : V, σ[i]? = some (some v) ∧ RelD K F pa d v
  own : ∀ (i : Nat) (d : D), env[i]? = some (Sl.own d) → ∃ (a : Addr) (h : HO), σ[i]? = some (some (V.ref a)) ∧ H a = some h ∧ RelO1 K F pa d h ∧ F a = none ∧ pa ≠ some a ∧ (a ∈ B.ex ∨ B.H a = none)
  sep : ∀ (i j : Nat) (d e : D) (a : Addr), env[i]? = some (Sl.own d) → env[j]? = some (Sl.own e) → σ[i]? = some (some (V.ref a)) → σ[j]? = some (some (V.ref a)) → i = j
  pen : ∀ a, pa = some a → F a = none ∧ (∃ h, H a = some h ∧ PenOk F t h) ∧ (a ∈ B.ex ∨ B.H a = none)
  pnn : Gp B.pn pa
  tab : TabF B.T B.H F H
  ntb : ∀ a ps, F a ≠ some (.tbl ps)
  obs : ∀ a d, t.obs a = some d → F a = none ∧ (∃ h, H a = some h ∧ RelO1 K F pa d h) ∧ pa ≠ some a ∧ (B.O a ∨ B.H a = none) ∧ nopen d = true
  obx : ∀ a, B.O a → ∃ d, t.obs a = some d
  osp : ∀ (i : Nat) (d : D) (a : Addr), env[i]? = some (Sl.own d) → σ[i]? = some (some (V.ref a)) → t.obs a = none
section
variable {K : PySem.W.Frag} {B : Bs} {F : Hp} {pa : Option Addr} {t : Ts} {env : En} {σ : L2.St} {H : Hp}
theorem Cf.fresh (C : Cf K B F pa t env σ H) {p : Addr} (h : H p = none) : F p = none ∧ B.H p = none ∧ p ∉ B.ex := by
  refine ⟨?_, ?_, ?_⟩
  · cases e : F p with
    | none => rfl
    | some o => rw [C.sub p o e] at h; cases h
  · cases e : B.H p with
    | none => rfl
    | some o =>
      by_cases hp : p ∈ B.ex
      · obtain ⟨o', q⟩ := C.exl p hp
        rw [q] at h; cases h
      · rw [C.frm p o e hp fun z => by
          obtain ⟨d, q⟩ := C.obx p z
          obtain ⟨_, ⟨u, q2, _⟩, _⟩ := C.obs p d q
          rw [h] at q2; cases q2] at h
        cases h
  · intro hp
    obtain ⟨o', q⟩ := C.exl p hp
    rw [q] at h; cases h
theorem Gf.upd {F : Hp} {p : Addr} {o : HO} (h : F p = none) : Gf F (upd F p o) := fun a u e => by
  rw [upd_ne (ne_of_none e h)]; exact e
/-- a new object, frozen at once -/
theorem Cf.alloc (C : Cf K B F pa t env σ H) {p : Addr} (o : HO) (h : H p = none) (hno : ∀ ps, o ≠ .tbl ps := by intro ps z; cases z) : Gr F pa (upd F p o) pa ∧ Cf K B (upd F p o) pa t env σ (upd H p o) := by
  obtain ⟨hF, hB, hex⟩ := C.fresh h
  have g : Gr F pa (upd F p o) pa := ⟨Gf.upd hF, rfl⟩
  have ne : ∀ {a : Addr} {u : HO}, H a = some u → a ≠ p := fun e => ne_of_none e h
  refine ⟨g, ⟨C.len, fun a u e => ?_, fun a u e => g.f _ _ (C.bas a u e), fun a u e hx ho => ?_, fun a u e => ?_, fun a ha => ?_, fun i d e => ?_, fun i d e => ?_, C.sep, fun a e => ?_, C.pnn, C.tab.keep g.f (fun q hq ps e => by rw [upd_ne (ne e)]; exact (C.tab q hq).2.1) (fun q hq ps e => by rw [upd_ne (ne e)]; exact e), fun a ps e => by
    by_cases ha : a = p
    · subst ha; rw [upd_same] at e; exact hno ps (Option.some.inj e)
    · rw [upd_ne ha] at e; exact C.ntb a ps e, fun a d e => by
    obtain ⟨h1, ⟨u, h2, h3⟩, h4⟩ := C.obs a d e
    exact ⟨by rw [upd_ne (ne h2)]; exact h1, ⟨u, by rw [upd_ne (ne h2)]; exact h2, RelO1.mono g d u h3⟩, h4⟩, C.obx, C.osp⟩⟩
  · by_cases ha : a = p
    · subst ha; rw [upd_same] at e ⊢; exact e
    · rw [upd_ne ha] at e ⊢; exact C.sub a u e
  · have := C.frm a u e hx ho
    rw [upd_ne (ne this)]; exact this
  · by_cases ha : a = p
    · subst ha; exact .inr hB
    · rw [upd_ne ha] at e; exact C.new a u e
  · obtain ⟨u, q⟩ := C.exl a ha
    exact ⟨u, by rw [upd_ne (ne q)]; exact q⟩
  · obtain ⟨v, h1, h2⟩ := C.val i d e
    exact ⟨v, h1, RelD.mono g d v h2⟩
  · obtain ⟨a, u, h1, h2, h3, h4, h5, h6⟩ := C.own i d e
    exact ⟨a, u, h1, by rw [upd_ne (ne h2)]; exact h2, RelO1.mono g d u h3, by rw [upd_ne (ne h2)]; exact h4, h5, h6⟩
  · obtain ⟨h1, ⟨u, h2, h3⟩, h4⟩ := C.pen a e
    exact ⟨by rw [upd_ne (ne h2)]; exact h1, ⟨u, by rw [upd_ne (ne h2)]; exact h2, h3.mono g.f⟩, h4⟩
/-- a new object, nobody's yet: the state stands -/
theorem Cf.loose (C : Cf K B F pa t env σ H) {p : Addr} (o : HO) (h : H p = none) : Cf K B F pa t env σ (upd H p o) := by
  have ne : ∀ {a : Addr} {u : HO}, H a = some u → a ≠ p := fun e => ne_of_none e h
  have kp : ∀ a u, H a = some u → upd H p o a = some u := fun a u e => by rw [upd_ne (ne e)]; exact e
  refine ⟨C.len, fun a u e => kp _ _ (C.sub a u e), C.bas, fun a u e hx ho => kp _ _ (C.frm a u e hx ho), C.new, fun a ha => ?_, C.val, fun i d e => ?_, C.sep, fun a e => ?_, C.pnn, C.tab.hs (fun q _ ps e => kp _ _ e), C.ntb, fun a d e => by
    obtain ⟨h1, ⟨u, h2, h3⟩, h4⟩ := C.obs a d e
    exact ⟨h1, ⟨u, kp _ _ h2, h3⟩, h4⟩, C.obx, C.osp⟩
  · obtain ⟨u, q⟩ := C.exl a ha
    exact ⟨u, kp _ _ q⟩
  · obtain ⟨a, u, h1, h2, h3⟩ := C.own i d e
    exact ⟨a, u, h1, kp _ _ h2, h3⟩
  · obtain ⟨h1, ⟨u, h2, h3⟩, h4⟩ := C.pen a e
    exact ⟨h1, ⟨u, kp _ _ h2, h3⟩, h4⟩
/-- an address that is nobody's yet -/
structure Nw (B : Bs) (F : Hp) (pa : Option Addr) (t : Ts) (env : En) (σ : L2.St) (p : Addr) : Prop where
  f : F p = none
  b : B.H p = none
  a : pa ≠ some p
  s : ∀ (j : Nat) (e : D), env[j]? = some (Sl.own e) → σ[j]? ≠ some (some (V.ref p))
  o : t.obs p = none
theorem Cf.noob (C : Cf K B F pa t env σ H) {p : Addr} (h : H p = none) : t.obs p = none := by
  cases q : t.obs p with
  | none => rfl
  | some d =>
    obtain ⟨_, ⟨u, q2, _⟩, _⟩ := C.obs p d q
    rw [h] at q2; cases q2
theorem Cf.nw (C : Cf K B F pa t env σ H) {p : Addr} (h : H p = none) : Nw B F pa t env σ p := by
  obtain ⟨hF, hB, _⟩ := C.fresh h
  refine ⟨hF, hB, fun e => ?_, fun j e hj hs => ?_, C.noob h⟩
  · obtain ⟨_, ⟨u, q, _⟩, _⟩ := C.pen p e
    rw [h] at q; cases q
  · obtain ⟨a, u, h1, h2, _⟩ := C.own j e hj
    rw [hs] at h1
    cases h1
    rw [h] at h2; cases h2
/-- a nobody's object is frozen -/
theorem Cf.frz (C : Cf K B F pa t env σ H) {p : Addr} {h : HO} (n : Nw B F pa t env σ p) (e : H p = some h) (hno : ∀ ps, h ≠ .tbl ps) : Gr F pa (upd F p h) pa ∧ Cf K B (upd F p h) pa t env σ H := by
  have g : Gr F pa (upd F p h) pa := ⟨Gf.upd n.f, rfl⟩
  refine ⟨g, ⟨C.len, fun a u q => ?_, fun a u q => g.f _ _ (C.bas a u q), C.frm, fun a u q => ?_, C.exl, fun i d q => ?_, fun i d q => ?_, C.sep, fun a q => ?_, C.pnn, C.tab.keep g.f (fun q hq ps z => by rw [upd_ne (fun y => (C.tab q hq).1 (by rw [y]; exact n.b))]; exact (C.tab q hq).2.1) (fun _ _ _ z => z), fun a ps z => by
    by_cases ha : a = p
    · subst ha; rw [upd_same] at z; exact hno ps (Option.some.inj z)
    · rw [upd_ne ha] at z; exact C.ntb a ps z, fun a d q => by
    obtain ⟨h1, ⟨u, h2, h3⟩, h4⟩ := C.obs a d q
    refine ⟨?_, ⟨u, h2, RelO1.mono g d u h3⟩, h4⟩
    rw [upd_ne ?_]
    · exact h1
    · rintro rfl
      rw [n.o] at q; exact (nomatch q), C.obx, C.osp⟩⟩
  · by_cases ha : a = p
    · subst ha; rw [upd_same] at q; cases q; exact e
    · rw [upd_ne ha] at q; exact C.sub a u q
  · by_cases ha : a = p
    · subst ha; exact .inr n.b
    · rw [upd_ne ha] at q; exact C.new a u q
  · obtain ⟨v, h1, h2⟩ := C.val i d q
    exact ⟨v, h1, RelD.mono g d v h2⟩
  · obtain ⟨a, u, h1, h2, h3, h4, h5, h6⟩ := C.own i d q
    refine ⟨a, u, h1, h2, RelO1.mono g d u h3, ?_, h5, h6⟩
    rw [upd_ne ?_]
    · exact h4
    · rintro rfl
      exact n.s i d q h1
  · obtain ⟨h1, ⟨u, h2, h3⟩, h4⟩ := C.pen a q
    refine ⟨?_, ⟨u, h2, h3.mono g.f⟩, h4⟩
    rw [upd_ne ?_]
    · exact h1
    · rintro rfl
      exact n.a q
/-- a nobody's object is written -/
theorem Cf.write (C : Cf K B F pa t env σ H) {p : Addr} {h : HO} (n : Nw B F pa t env σ p) : Cf K B F pa t env σ (upd H p h) := by
  refine ⟨C.len, fun a u q => ?_, C.bas, fun a u q hx ho => ?_, C.new, fun a ha => ?_, C.val, fun i d q => ?_, C.sep, fun a q => ?_, C.pnn, C.tab.hs (fun q hq ps z => by rw [upd_ne (fun y => (C.tab q hq).1 (by rw [y]; exact n.b))]; exact z), C.ntb, fun a d q => by
    obtain ⟨h1, ⟨u, h2, h3⟩, h4⟩ := C.obs a d q
    refine ⟨h1, ⟨u, ?_, h3⟩, h4⟩
    rw [upd_ne ?_]
    · exact h2
    · rintro rfl
      rw [n.o] at q; exact (nomatch q), C.obx, C.osp⟩
  · rw [upd_ne (ne_of_none q n.f)]; exact C.sub a u q
  · rw [upd_ne (ne_of_none q n.b)]; exact C.frm a u q hx ho
  · obtain ⟨u, q⟩ := C.exl a ha
    by_cases hb : a = p
    · subst hb; exact ⟨h, upd_same⟩
    · exact ⟨u, by rw [upd_ne hb]; exact q⟩
  · obtain ⟨a, u, h1, h2, r⟩ := C.own i d q
    refine ⟨a, u, h1, ?_, r⟩
    rw [upd_ne ?_]
    · exact h2
    · rintro rfl
      exact n.s i d q h1
  · obtain ⟨h1, ⟨u, h2, h3⟩, h4⟩ := C.pen a q
    refine ⟨h1, ⟨u, ?_, h3⟩, h4⟩
    rw [upd_ne ?_]
    · exact h2
    · rintro rfl
      exact n.a q
/-- what a new datum is -/
theorem RelO1.rel {d : D} {h : HO} {p : Addr} (r : RelO1 K F pa d h) (e : F p = some h) : RelD K F pa d (.ref p) := by
  cases d with
  | lst l =>
    obtain ⟨vs, rfl, q⟩ := r
    unfold RelD; exact ⟨p, vs, rfl, e, q⟩
  | dic ks l =>
    obtain ⟨vs, rfl, z, q⟩ := r
    unfold RelD; exact ⟨p, vs, rfl, e, z, q⟩
  | ins C ns l =>
    obtain ⟨dx, vs, rfl, z, q⟩ := r
    unfold RelD; exact ⟨p, dx, vs, rfl, e, z, q⟩
  | _ => exact r.elim
theorem get_set {α : Type} {l : List α} {i j : Nat} {x y : α} (h : (l.set i x)[j]? = some y) : (i = j ∧ y = x) ∨ (i ≠ j ∧ l[j]? = some y) := by
  by_cases e : i = j
  · subst e
    left
    rw [List.getElem?_set_self'] at h
    cases q : l[i]? with
    | none => rw [q] at h; simp at h
    | some z => rw [q] at h; simp at h; exact ⟨rfl, h.symm⟩
  · right
    rw [List.getElem?_set_ne e] at h
    exact ⟨e, h⟩
/-- a name is given a datum -/
theorem Cf.setV (C : Cf K B F pa t env σ H) (i : Nat) {d : D} {v : V} (r : RelD K F pa d v) : Cf K B F pa t (env.set i (.val d)) (σ.set i (some v)) H := by
  refine ⟨by simp [C.len], C.sub, C.bas, C.frm, C.new, C.exl, fun j e q => ?_, fun j e q => ?_, fun j k e f a q1 q2 s1 s2 => ?_, C.pen, C.pnn, C.tab, C.ntb, C.obs, C.obx, fun j e a q s => by
    rcases get_set q with ⟨_, z⟩ | ⟨ne, z⟩
    · cases z
    · rw [List.getElem?_set_ne ne] at s
      exact C.osp j e a z s⟩
  · rcases get_set q with ⟨rfl, z⟩ | ⟨ne, z⟩
    · cases z
      have hi : i < env.length := by
        have := (List.getElem?_eq_some_iff.mp q).1
        simpa using this
      exact ⟨v, by rw [List.getElem?_set_self (by rw [← C.len]; exact hi)], r⟩
    · obtain ⟨w, h1, h2⟩ := C.val j e z
      exact ⟨w, by rw [List.getElem?_set_ne ne]; exact h1, h2⟩
  · rcases get_set q with ⟨rfl, z⟩ | ⟨ne, z⟩
    · cases z
    · obtain ⟨a, u, h1, h2⟩ := C.own j e z
      exact ⟨a, u, by rw [List.getElem?_set_ne ne]; exact h1, h2⟩
  · rcases get_set q1 with ⟨_, z⟩ | ⟨n1, z1⟩
    · cases z
    · rcases get_set q2 with ⟨_, z⟩ | ⟨n2, z2⟩
      · cases z
      · rw [List.getElem?_set_ne n1] at s1
        rw [List.getElem?_set_ne n2] at s2
        exact C.sep j k e f a z1 z2 s1 s2
/-- a name is given a new object of its own -/
theorem Cf.setN (C : Cf K B F pa t env σ H) (i : Nat) {d : D} {p : Addr} {h : HO} (n : Nw B F pa t env σ p) (e : H p = some h) (r : RelO1 K F pa d h) : Cf K B F pa t (env.set i (.own d)) (σ.set i (some (.ref p))) H := by
  refine ⟨by simp [C.len], C.sub, C.bas, C.frm, C.new, C.exl, fun j e q => ?_, fun j e' q => ?_, fun j k e' f a q1 q2 s1 s2 => ?_, C.pen, C.pnn, C.tab, C.ntb, C.obs, C.obx, fun j e a q s => by
    rcases get_set q with ⟨rfl, z⟩ | ⟨ne, z⟩
    · rcases get_set s with ⟨_, zz⟩ | ⟨nn, _⟩
      · cases zz; exact n.o
      · exact absurd rfl nn
    · rw [List.getElem?_set_ne ne] at s
      exact C.osp j e a z s⟩
  · rcases get_set q with ⟨rfl, z⟩ | ⟨ne, z⟩
    · cases z
    · obtain ⟨w, h1, h2⟩ := C.val j e z
      exact ⟨w, by rw [List.getElem?_set_ne ne]; exact h1, h2⟩
  · rcases get_set q with ⟨rfl, z⟩ | ⟨ne, z⟩
    · cases z
      have hi : i < env.length := by
        have := (List.getElem?_eq_some_iff.mp q).1
        simpa using this
      exact ⟨p, h, by rw [List.getElem?_set_self (by rw [← C.len]; exact hi)], e, r, n.f, n.a, .inr n.b⟩
    · obtain ⟨a, u, h1, h2⟩ := C.own j e' z
      exact ⟨a, u, by rw [List.getElem?_set_ne ne]; exact h1, h2⟩
  · rcases get_set q1 with ⟨rfl, z⟩ | ⟨n1, z1⟩
    · rcases get_set q2 with ⟨rfl, z'⟩ | ⟨n2, z2⟩
      · rfl
      · rw [List.getElem?_set_ne n2] at s2
        rcases get_set s1 with ⟨_, zz⟩ | ⟨nn, _⟩
        · cases zz
          exact absurd s2 (n.s k f z2)
        · exact absurd rfl nn
    · rw [List.getElem?_set_ne n1] at s1
      rcases get_set q2 with ⟨rfl, z'⟩ | ⟨n2, z2⟩
      · rcases get_set s2 with ⟨_, zz⟩ | ⟨nn, _⟩
        · cases zz
          exact absurd s1 (n.s j e' z1)
        · exact absurd rfl nn
      · rw [List.getElem?_set_ne n2] at s2
        exact C.sep j k e' f a z1 z2 s1 s2
/-- a name's own object is written -/
theorem Cf.wrO (C : Cf K B F pa t env σ H) {i : Nat} {d d' : D} {a : Addr} {h : HO} (hi : env[i]? = some (Sl.own d)) (hs : σ[i]? = some (some (V.ref a))) (r : RelO1 K F pa d' h) : Cf K B F pa t (env.set i (.own d')) σ (upd H a h) := by
  obtain ⟨a', h0, s0, e0, r0, f0, p0, x0⟩ := C.own i d hi
  rw [hs] at s0; cases s0
  have nb : ∀ {c : Addr} {u : HO}, F c = some u → c ≠ a := fun e => ne_of_none e f0
  refine ⟨by simp [C.len], fun c u q => by rw [upd_ne (nb q)]; exact C.sub c u q, C.bas, fun c u q hx ho => ?_, C.new, fun c hc => ?_, fun j e q => ?_, fun j e q => ?_, fun j k e f c q1 q2 s1 s2 => ?_, fun c q => ?_, C.pnn, C.tab.hs (fun p _ ps z => by rw [upd_ne (fun y => by rw [y, e0] at z; exact r0.ntb ps (Option.some.inj z))]; exact z), C.ntb, fun c d q => by
    obtain ⟨h1, ⟨u, h2, h3⟩, h4⟩ := C.obs c d q
    refine ⟨h1, ⟨u, ?_, h3⟩, h4⟩
    rw [upd_ne ?_]
    · exact h2
    · rintro rfl
      rw [C.osp i _ c hi hs] at q; exact (nomatch q), C.obx, fun j e c q s => by
    rcases get_set q with ⟨rfl, _⟩ | ⟨_, z⟩
    · exact C.osp i d c hi s
    · exact C.osp j e c z s⟩
  · rw [upd_ne ?_]
    · exact C.frm c u q hx ho
    · rintro rfl
      rcases x0 with z | z
      · exact hx z
      · rw [z] at q; cases q
  · by_cases hc' : c = a
    · subst hc'; exact ⟨h, upd_same⟩
    · obtain ⟨u, q⟩ := C.exl c hc
      exact ⟨u, by rw [upd_ne hc']; exact q⟩
  · rcases get_set q with ⟨rfl, z⟩ | ⟨ne, z⟩
    · cases z
    · exact C.val j e z
  · rcases get_set q with ⟨rfl, z⟩ | ⟨ne, z⟩
    · cases z
      exact ⟨a, h, hs, upd_same, r, f0, p0, x0⟩
    · obtain ⟨c, u, h1, h2, h3⟩ := C.own j e z
      refine ⟨c, u, h1, ?_, h3⟩
      rw [upd_ne ?_]
      · exact h2
      · rintro rfl
        exact ne (C.sep i j d e c hi z hs h1)
  · have z1 : ∃ e', env[j]? = some (Sl.own e') := by
      rcases get_set q1 with ⟨rfl, _⟩ | ⟨_, z⟩
      · exact ⟨d, hi⟩
      · exact ⟨e, z⟩
    have z2 : ∃ e', env[k]? = some (Sl.own e') := by
      rcases get_set q2 with ⟨rfl, _⟩ | ⟨_, z⟩
      · exact ⟨d, hi⟩
      · exact ⟨f, z⟩
    obtain ⟨e1, z1⟩ := z1
    obtain ⟨e2, z2⟩ := z2
    exact C.sep j k e1 e2 c z1 z2 s1 s2
  · obtain ⟨h1, ⟨u, h2, h3⟩, h4⟩ := C.pen c q
    refine ⟨h1, ⟨u, ?_, h3⟩, h4⟩
    rw [upd_ne ?_]
    · exact h2
    · rintro rfl
      exact p0 q
/-- a name's own object is written no more -/
theorem Cf.frzO (C : Cf K B F pa t env σ H) (hB : B.Top) {i : Nat} {d : D} (hi : env[i]? = some (Sl.own d)) : ∃ F', Gr F pa F' pa ∧ Cf K B F' pa t (env.set i (.val d)) σ H := by
  obtain ⟨a, h, hs, e, r, f0, p0, x0⟩ := C.own i d hi
  have hb : B.H a = none := by
    rcases x0 with z | z
    · rcases hB a z with y | ⟨p, hp, y⟩
      · exact absurd ((show pa = B.pn from C.pnn).trans y) p0
      · obtain ⟨_, _, ps, q, _⟩ := C.tab p hp
        rw [y, e] at q
        exact absurd (Option.some.inj q) (r.ntb ps)
    · exact z
  have hl : i < env.length := (List.getElem?_eq_some_iff.mp hi).1
  have C1 : Cf K B F pa t (env.set i .no) σ H := by
    refine ⟨by simp [C.len], C.sub, C.bas, C.frm, C.new, C.exl, fun j e q => ?_, fun j e q => ?_, fun j k e f c q1 q2 => ?_, C.pen, C.pnn, C.tab, C.ntb, C.obs, C.obx, fun j e c q s => by
      rcases get_set q with ⟨_, z⟩ | ⟨_, z⟩
      · cases z
      · exact C.osp j e c z s⟩
    · rcases get_set q with ⟨rfl, z⟩ | ⟨ne, z⟩
      · cases z
      · exact C.val j e z
    · rcases get_set q with ⟨rfl, z⟩ | ⟨ne, z⟩
      · cases z
      · exact C.own j e z
    · rcases get_set q1 with ⟨_, z⟩ | ⟨n1, z1⟩
      · cases z
      · rcases get_set q2 with ⟨_, z⟩ | ⟨n2, z2⟩
        · cases z
        · exact C.sep j k e f c z1 z2
  have n : Nw B F pa t (env.set i .no) σ a := by
    refine ⟨f0, hb, p0, fun j e' q s1 => ?_, C.osp i d a hi hs⟩
    rcases get_set q with ⟨_, z⟩ | ⟨ne, z⟩
    · cases z
    · exact ne (C.sep i j d e' a hi z hs s1)
  obtain ⟨g, C2⟩ := C1.frz n e r.ntb
  have C3 := C2.setV i (RelO1.rel (p := a) (RelO1.mono g d h r) upd_same)
  rw [List.set_set] at C3
  have hσ : σ.set i (some (V.ref a)) = σ := by
    apply List.ext_getElem?
    intro j
    by_cases hj : i = j
    · subst hj
      rw [List.getElem?_set_self (by rw [← C.len]; exact hl), hs]
    · rw [List.getElem?_set_ne hj]
  rw [hσ] at C3
  exact ⟨_, g, C3⟩
/-- forgetting -/
theorem Cf.nil (C : Cf K B F pa t env σ H) : Cf K B F pa t [] [] H :=
  ⟨rfl, C.sub, C.bas, C.frm, C.new, C.exl, fun i d e => by simp at e, fun i d e => by simp at e, fun i j d e a q => by simp at q, C.pen, C.pnn, C.tab, C.ntb, C.obs, C.obx, fun i d a e => by simp at e⟩
/-! ### calls: the base of a callee -/
def B0 (F : Hp) (pa : Option Addr) (t : Ts) (H : Hp) : Bs := ⟨F, H, pa.toList, pa, false, [], t.dom⟩
def B1 (F : Hp) (pa : Option Addr) (t : Ts) (H : Hp) : Bs := ⟨F, H, pa.toList, pa, true, [], t.dom⟩
theorem B0.top (F : Hp) (pa : Option Addr) (t : Ts) (H : Hp) : (B0 F pa t H).Top := fun a h => .inl (by
  show pa = some a
  have h : a ∈ pa.toList := h
  cases pa with
  | none => simp at h
  | some b => simp at h; rw [h])
theorem B1.top (F : Hp) (pa : Option Addr) (t : Ts) (H : Hp) : (B1 F pa t H).Top := B0.top F pa t H
/-- the mode is nothing to the state -/
theorem Cf.cong {B' : Bs} (C : Cf K B F pa t env σ H) (h1 : B'.F = B.F) (h2 : B'.H = B.H) (h3 : B'.ex = B.ex) (h4 : B'.pn = B.pn) (h5 : B'.T = B.T) (h6 : B'.O = B.O := by rfl) : Cf K B' F pa t env σ H := by
  obtain ⟨F1, H1, e1, p1, m1, T1, O1⟩ := B
  obtain ⟨F2, H2, e2, p2, m2, T2, O2⟩ := B'
  cases h1; cases h2; cases h3; cases h4; cases h5; cases h6
  exact ⟨C.len, C.sub, C.bas, C.frm, C.new, C.exl, C.val, C.own, C.sep, C.pen, C.pnn, C.tab, C.ntb, C.obs, C.obx, C.osp⟩
theorem mem_pa {pa : Option Addr} {a : Addr} : a ∈ pa.toList ↔ pa = some a := by
  cases pa with
  | none => simp
  | some b => simp [eq_comm]
theorem Cf.call (C : Cf K B F pa t env σ H) : Cf K (B0 F pa t H) F pa t [] [] H := by
  refine ⟨rfl, C.sub, fun _ _ e => e, fun _ _ e _ _ => e, fun a o e => .inl ⟨o, e⟩, fun a ha => ?_, fun i d e => by simp at e, fun i d e => by simp at e, fun i j d e a q => by simp at q, fun a e => ?_, rfl, TabF.nil, C.ntb, fun a d e => by
    obtain ⟨h1, h2, h3, _, h5⟩ := C.obs a d e
    exact ⟨h1, h2, h3, .inl ⟨d, e⟩, h5⟩, fun a e => e, fun i d a e => by simp at e⟩
  · have q : pa = some a := mem_pa.mp ha
    obtain ⟨_, ⟨h, q, _⟩, _⟩ := C.pen a q
    exact ⟨h, q⟩
  · obtain ⟨h1, h2, _⟩ := C.pen a e
    exact ⟨h1, h2, .inl (mem_pa.mpr e)⟩
theorem Cf.after {F' : Hp} {pa' : Option Addr} {t' : Ts} {H' : Hp} (C : Cf K B F pa t env σ H) (C' : Cf K (B0 F pa t H) F' pa' t' [] [] H') : Gr F pa F' pa' ∧ Cf K B F' pa' t' env σ H' := by
  have g : Gr F pa F' pa' := ⟨C'.bas, C'.pnn⟩
  have kp : ∀ a o, H a = some o → pa ≠ some a → t.obs a = none → H' a = some o := fun a o e n no => C'.frm a o e (fun z => n (mem_pa.mp z)) (fun ⟨d, z⟩ => by rw [no] at z; cases z)
  have al : ∀ a o, H a = some o → ∃ o', H' a = some o' := fun a o e => by
    by_cases hp : pa = some a
    · obtain ⟨_, ⟨h, q, _⟩, _⟩ := C'.pen a ((show pa' = pa from g.p).trans hp)
      exact ⟨h, q⟩
    · cases q : t.obs a with
      | none => exact ⟨o, kp a o e hp q⟩
      | some d =>
        obtain ⟨d', q'⟩ := C'.obx a ⟨d, q⟩
        obtain ⟨_, ⟨u, z, _⟩, _⟩ := C'.obs a d' q'
        exact ⟨u, z⟩
  have nf : ∀ a o, H a = some o → F a = none → F' a = none := fun a o e n => by
    cases q : F' a with
    | none => rfl
    | some u =>
      rcases C'.new a u q with ⟨u', z⟩ | z
      · have z : F a = some u' := z
        rw [n] at z; cases z
      · have z : H a = none := z
        rw [e] at z; cases z
  refine ⟨g, ⟨C.len, C'.sub, fun a o e => g.f _ _ (C.bas a o e), fun a o e hx ho => ?_, fun a o e => ?_, fun a ha => ?_, fun i d e => ?_, fun i d e => ?_, C.sep, fun a e => ?_, (show pa' = pa from g.p).trans C.pnn, C.tab.keep g.f (fun p hp ps z => nf _ _ z (C.tab p hp).2.1) (fun p hp ps z => kp _ _ z (fun y => by
    obtain ⟨_, ⟨u, q, ca, w, _⟩, _⟩ := C.pen p.1 y
    rw [z] at q
    subst w
    cases q) (by
    cases q : t.obs p.1 with
    | none => rfl
    | some d =>
      obtain ⟨_, ⟨u, q2, r⟩, _⟩ := C.obs p.1 d q
      rw [z] at q2
      exact absurd (Option.some.inj q2).symm (r.ntb ps))), C'.ntb, fun a d q => ?_, fun a q => C'.obx a (C.obx a q), fun i d a e s => ?_⟩⟩
  · refine kp a o (C.frm a o e hx ho) (fun z => ?_) ?_
    · rcases (C.pen a z).2.2 with q | q
      · exact hx q
      · rw [q] at e; cases e
    · cases q : t.obs a with
      | none => rfl
      | some d =>
        rcases (C.obs a d q).2.2.2.1 with z | z
        · exact absurd z ho
        · rw [z] at e; cases e
  · rcases C'.new a o e with ⟨o', q⟩ | q
    · exact C.new a o' q
    · exact .inr (C.fresh q).2.1
  · obtain ⟨o, q⟩ := C.exl a ha
    exact al a o q
  · obtain ⟨v, h1, h2⟩ := C.val i d e
    exact ⟨v, h1, RelD.mono g d v h2⟩
  · obtain ⟨a, h, h1, h2, h3, h4, h5, h6⟩ := C.own i d e
    refine ⟨a, h, h1, kp a h h2 h5 (C.osp i d a e h1), RelO1.mono g d h h3, ?_, fun z => ?_, h6⟩
    · cases q : F' a with
      | none => rfl
      | some o =>
        rcases C'.new a o q with ⟨o', z⟩ | z
        · have z : F a = some o' := z
          rw [h4] at z; cases z
        · have z : H a = none := z
          rw [h2] at z; cases z
    · rcases (C'.pen a z).2.2 with q | q
      · exact h5 (mem_pa.mp q)
      · have q : H a = none := q
        rw [h2] at q; cases q
  · obtain ⟨h1, h2, h3⟩ := C'.pen a e
    refine ⟨h1, h2, ?_⟩
    rcases h3 with q | q
    · exact (C.pen a (mem_pa.mp q)).2.2
    · exact .inr (C.fresh q).2.1
  · obtain ⟨h1, h2, h3, h4, h5⟩ := C'.obs a d q
    refine ⟨h1, h2, h3, ?_, h5⟩
    rcases h4 with ⟨d0, z⟩ | z
    · exact (C.obs a d0 z).2.2.2.1
    · exact .inr (C.fresh z).2.1
  · cases q : t'.obs a with
    | none => rfl
    | some d' =>
      rcases (C'.obs a d' q).2.2.2.1 with ⟨d0, z⟩ | z
      · rw [C.osp i d a e s] at z; cases z
      · obtain ⟨a', h, h1, h2, _⟩ := C.own i d e
        rw [s] at h1; cases h1
        have z : H a = none := z
        rw [h2] at z; cases z
/-- objects forgotten -/
theorem Cf.bare (C : Cf K B F pa t env σ H) : Cf K (B0 F pa t.bare H) F pa t.bare [] [] H := by
  refine ⟨rfl, C.sub, fun _ _ e => e, fun _ _ e _ _ => e, fun a o e => .inl ⟨o, e⟩, fun a ha => ?_, fun i d e => by simp at e, fun i d e => by simp at e, fun i j d e a q => by simp at q, fun a e => ?_, rfl, TabF.nil, C.ntb, fun a d e => (nomatch e), fun a e => e, fun i d a e => by simp at e⟩
  · have q : pa = some a := mem_pa.mp ha
    obtain ⟨_, ⟨h, q, _⟩, _⟩ := C.pen a q
    exact ⟨h, q⟩
  · obtain ⟨h1, h2, _⟩ := C.pen a e
    exact ⟨h1, h2, .inl (mem_pa.mpr e)⟩
end
end Q
/-! QH2 -/
namespace Q
open PySem L2 PyProof.Rows
/-! ### the judgements -/
section
variable (K : PySem.W.Frag) (B : Bs)
def teOf (de : DE) : TE := fun σ H Q => ∃ F pa t env P, Cf K B F pa t env σ H ∧ de env t P ∧
  ∀ v d F' pa' t' H', Gr F pa F' pa' → Cf K B F' pa' t' env σ H' → RelD K F' pa' d v → P d t' → Q v H'
/-- read alone: a datum, or what a name's own object holds -/
def RelX (F : Hp) (pa : Option Addr) (env : En) (σ : L2.St) (d : D) (v : V) : Prop := RelD K F pa d v ∨ ∃ i : Nat, env[i]? = some (Sl.own d) ∧ σ[i]? = some (some v)
def tvOf (de : DE) : TE := fun σ H Q => ∃ F pa t env P, Cf K B F pa t env σ H ∧ de env t P ∧
  ∀ v d F' pa' t' H', Gr F pa F' pa' → Cf K B F' pa' t' env σ H' → RelX K F' pa' env σ d v → P d t' → Q v H'
/-- a new object -/
def tnOf (de : DE) : TE := fun σ H Q => ∃ F pa t env P, Cf K B F pa t env σ H ∧ de env t P ∧
  ∀ p h d F' pa' t' H', Gr F pa F' pa' → Cf K B F' pa' t' env σ H' → Nw B F' pa' t' env σ p → H' p = some h → RelO1 K F' pa' d h → P d t' → Q (.ref p) H'
def ttOf (dt : DT) : TT := fun σ H Q => ∃ F pa t env P, Cf K B F pa t env σ H ∧ dt env t P ∧
  ∀ k F' pa' t' H', Gr F pa F' pa' → Cf K B F' pa' t' env σ H' → P k t' → Q k H'
def taOf (da : DA) : TA := fun σ H Q => ∃ F pa t env P, Cf K B F pa t env σ H ∧ da env t P ∧
  ∀ vs ds F' pa' t' H', Gr F pa F' pa' → Cf K B F' pa' t' env σ H' → RelL K F' pa' ds vs → P ds t' → Q vs H'
/-- arguments that are read alone -/
inductive RelXs (F : Hp) (pa : Option Addr) (env : En) (σ : L2.St) : List D → List V → Prop
  | nil : RelXs F pa env σ [] []
  | cons {d : D} {v : V} {ds : List D} {vs : List V} : RelX K F pa env σ d v → RelXs F pa env σ ds vs → RelXs F pa env σ (d :: ds) (v :: vs)
def txOf (da : DA) : TA := fun σ H Q => ∃ F pa t env P, Cf K B F pa t env σ H ∧ da env t P ∧
  ∀ vs ds F' pa' t' H', Gr F pa F' pa' → Cf K B F' pa' t' env σ H' → RelXs K F' pa' env σ ds vs → P ds t' → Q vs H'
def toOf (d : DO) : TO := fun σ H Q => ∃ F pa t env P, Cf K B F pa t env σ H ∧ d env t P ∧
  ∀ k F' pa' t' H', Gr F pa F' pa' → Cf K B F' pa' t' env σ H' → P k t' → Q k H'
/-- a target whose names have the slots vs -/
def tgOf (vs : List Nat) (g : DG) : TG := fun v σ H Q => ∃ F pa t env d P, Cf K B F pa t env σ H ∧ RelD K F pa d v ∧ g d env t P ∧
  ∀ F' pa' t' env' σ' H', Gr F pa F' pa' → Cf K B F' pa' t' env' σ' H' → wipe σ' vs = wipe σ vs → P env' t' → Q σ' H'
/-- how a datum is told back -/
def RetRel (F : Hp) (pa : Option Addr) (t : Ts) (H : Hp) (d : D) (v : V) : Prop := match B.m with
  | false => RelD K F pa d v
  | true => (d = .non ∧ v = .non) ∨ ∃ p h, v = .ref p ∧ F p = none ∧ B.H p = none ∧ pa ≠ some p ∧ t.obs p = none ∧ H p = some h ∧ RelO1 K F pa d h
structure Rz (F0 : Hp) (pa0 : Option Addr) (DD : DEnds) (D : Ends) : Prop where
  nx : ∀ F pa t env σ H, Gr F0 pa0 F pa → Cf K B F pa t env σ H → DD.nx env t → D.nx σ H
  rt : ∀ v d F pa t env σ H, Gr F0 pa0 F pa → Cf K B F pa t env σ H → RetRel K B F pa t H d v → DD.rt d env t → D.rt v H
  bk : ∀ F pa t env σ H, Gr F0 pa0 F pa → Cf K B F pa t env σ H → DD.bk env t → D.bk σ H
  ct : ∀ F pa t env σ H, Gr F0 pa0 F pa → Cf K B F pa t env σ H → DD.ct env t → D.ct σ H
def tsOf (ds : DS) : TS := fun D σ H => ∃ F pa t env DD, Cf K B F pa t env σ H ∧ ds DD env t ∧ Rz K B F pa DD D
end
theorem Rz.mono {K : PySem.W.Frag} {B : Bs} {F0 F1 : Hp} {p0 p1 : Option Addr} {DD : DEnds} {D : Ends} (R : Rz K B F0 p0 DD D) (g : Gr F0 p0 F1 p1) : Rz K B F1 p1 DD D :=
  ⟨fun F pa t env σ H g' => R.nx F pa t env σ H (g.trans g'), fun v d F pa t env σ H g' => R.rt v d F pa t env σ H (g.trans g'), fun F pa t env σ H g' => R.bk F pa t env σ H (g.trans g'), fun F pa t env σ H g' => R.ct F pa t env σ H (g.trans g')⟩
abbrev QE (X : Cx) (B : Bs) (e : Expr) (de : DE) : Prop := PE X e (teOf X.K B de)
abbrev QV (X : Cx) (B : Bs) (e : Expr) (de : DE) : Prop := PE X e (tvOf X.K B de)
abbrev QN (X : Cx) (B : Bs) (e : Expr) (de : DE) : Prop := PE X e (tnOf X.K B de)
abbrev QT (X : Cx) (B : Bs) (e : Expr) (dt : DT) : Prop := PT X e (ttOf X.K B dt)
abbrev QW (X : Cx) (B : Bs) (e : Expr) (dt : DT) : Prop := PW X e (ttOf X.K B dt)
abbrev QA (X : Cx) (B : Bs) (es : List Expr) (da : DA) : Prop := PA X es (taOf X.K B da)
abbrev QX (X : Cx) (B : Bs) (es : List Expr) (da : DA) : Prop := PA X es (txOf X.K B da)
abbrev QO (X : Cx) (B : Bs) (e : Option Expr) (d : DO) : Prop := PO X e (toOf X.K B d)
abbrev QG (X : Cx) (B : Bs) (vs : List Nat) (e : Expr) (g : DG) : Prop := PG X e (tgOf X.K B vs g)
abbrev QS (X : Cx) (B : Bs) (st : Stmt) (ds : DS) : Prop := PS X st (tsOf X.K B ds)
abbrev QSs (X : Cx) (B : Bs) (st : List Stmt) (ds : DS) : Prop := PSs X st (tsOf X.K B ds)
theorem PE.imp {X : Cx} {e : Expr} {t t' : TE} (h : PE X e t) (i : ∀ σ H Q, t' σ H Q → t σ H Q) : PE X e t' := ⟨fun pins s σ H Q I q => h.run pins s σ H Q I (i σ H Q q)⟩
theorem PT.imp {X : Cx} {e : Expr} {t t' : TT} (h : PT X e t) (i : ∀ σ H Q, t' σ H Q → t σ H Q) : PT X e t' := ⟨fun pins s σ H Q I q => h.run pins s σ H Q I (i σ H Q q)⟩
theorem PW.imp {X : Cx} {e : Expr} {t t' : TT} (h : PW X e t) (i : ∀ σ H Q, t' σ H Q → t σ H Q) : PW X e t' := ⟨fun w pins s σ H Q I q => h.run w pins s σ H Q I (i σ H Q q)⟩
theorem PA.imp {X : Cx} {e : List Expr} {t t' : TA} (h : PA X e t) (i : ∀ σ H Q, t' σ H Q → t σ H Q) : PA X e t' := ⟨fun p pins s σ H Q I q => h.run p pins s σ H Q I (i σ H Q q)⟩
theorem PO.imp {X : Cx} {e : Option Expr} {t t' : TO} (h : PO X e t) (i : ∀ σ H Q, t' σ H Q → t σ H Q) : PO X e t' := ⟨fun pins s σ H Q I q => h.run pins s σ H Q I (i σ H Q q)⟩
theorem PG.imp {X : Cx} {e : Expr} {t t' : TG} (h : PG X e t) (i : ∀ v σ H Q, t' v σ H Q → t v σ H Q) : PG X e t' := ⟨fun pins s σ H v u Q I r q => h.run pins s σ H v u Q I r (i v σ H Q q)⟩
theorem PGs.imp {X : Cx} {e : List Expr} {t t' : TGs} (h : PGs X e t) (i : ∀ v σ H Q, t' v σ H Q → t v σ H Q) : PGs X e t' := ⟨fun pins s σ H v u Q I r q => h.run pins s σ H v u Q I r (i v σ H Q q)⟩
theorem PS.imp {X : Cx} {e : Stmt} {t t' : TS} (h : PS X e t) (i : ∀ D σ H, t' D σ H → t D σ H) : PS X e t' := ⟨fun pins s σ H D I q => h.run pins s σ H D I (i D σ H q)⟩
theorem PSs.imp {X : Cx} {e : List Stmt} {t t' : TS} (h : PSs X e t) (i : ∀ D σ H, t' D σ H → t D σ H) : PSs X e t' := ⟨fun pins s σ H D I q => h.run pins s σ H D I (i D σ H q)⟩
section
variable {X : Cx} {B : Bs} {K : PySem.W.Frag} {a b c e : Expr} {es : List Expr} {pos : Pos} {da db dc : DE} {as : DA}
theorem RelX.mono {F F' : Hp} {pa pa' : Option Addr} {env : En} {σ : L2.St} {d : D} {v : V} (g : Gr F pa F' pa') (r : RelX K F pa env σ d v) : RelX K F' pa' env σ d v := by
  rcases r with r | r
  · exact .inl (RelD.mono g d v r)
  · exact .inr r
theorem RelXs.mono {F F' : Hp} {pa pa' : Option Addr} {env : En} {σ : L2.St} {d : List D} {v : List V} (g : Gr F pa F' pa') (r : RelXs K F pa env σ d v) : RelXs K F' pa' env σ d v := by
  induction r with
  | nil => exact .nil
  | cons h _ ih => exact .cons (h.mono g) ih
theorem RelXs.of {F : Hp} {pa : Option Addr} {env : En} {σ : L2.St} : ∀ {d : List D} {v : List V}, RelL K F pa d v → RelXs K F pa env σ d v
  | [], v, h => by rw [h.inv0]; exact .nil
  | x :: d, v, h => by
    obtain ⟨y, w, rfl, r, q⟩ := h.inv
    exact .cons (.inl r) (RelXs.of q)
/-- what a list, a tuple, a dict that is read stands as -/
theorem RelX.lst {F : Hp} {pa : Option Addr} {t : Ts} {env : En} {σ : L2.St} {H : Hp} {l : List D} {v : V} (C : Cf K B F pa t env σ H) (r : RelX K F pa env σ (.lst l) v) : ∃ a vs, v = .ref a ∧ H a = some (.lst vs) ∧ RelL K F pa l vs := by
  rcases r with r | ⟨i, h1, h2⟩
  · unfold RelD at r
    obtain ⟨a, vs, e, q, z⟩ := r
    exact ⟨a, vs, e, C.sub _ _ q, z⟩
  · obtain ⟨a, h, s1, q, z, _⟩ := C.own i _ h1
    rw [h2] at s1; cases s1
    obtain ⟨vs, rfl, z⟩ := z
    exact ⟨a, vs, rfl, q, z⟩
theorem RelX.tup {F : Hp} {pa : Option Addr} {t : Ts} {env : En} {σ : L2.St} {H : Hp} {l : List D} {v : V} (C : Cf K B F pa t env σ H) (r : RelX K F pa env σ (.tup l) v) : ∃ a vs, v = .ref a ∧ H a = some (.tup vs) ∧ F a = some (.tup vs) ∧ RelL K F pa l vs := by
  rcases r with r | ⟨i, h1, h2⟩
  · unfold RelD at r
    obtain ⟨a, vs, e, q, z⟩ := r
    exact ⟨a, vs, e, C.sub _ _ q, q, z⟩
  · obtain ⟨a, h, s1, q, z, _⟩ := C.own i _ h1
    exact z.elim
theorem RelX.dic {F : Hp} {pa : Option Addr} {t : Ts} {env : En} {σ : L2.St} {H : Hp} {ks : List Ky} {l : List D} {v : V} (C : Cf K B F pa t env σ H) (r : RelX K F pa env σ (.dic ks l) v) : ∃ a vs, v = .ref a ∧ H a = some (.dK (ks.zip vs)) ∧ ks.length = vs.length ∧ RelL K F pa l vs := by
  rcases r with r | ⟨i, h1, h2⟩
  · unfold RelD at r
    obtain ⟨a, vs, e, q, z⟩ := r
    exact ⟨a, vs, e, C.sub _ _ q, z⟩
  · obtain ⟨a, h, s1, q, z, _⟩ := C.own i _ h1
    rw [h2] at s1; cases s1
    obtain ⟨vs, rfl, z⟩ := z
    exact ⟨a, vs, rfl, q, z⟩
theorem RelX.ins {F : Hp} {pa : Option Addr} {t : Ts} {env : En} {σ : L2.St} {H : Hp} {C : Addr} {ns : List Str} {l : List D} {v : V} (W : Cf K B F pa t env σ H) (r : RelX K F pa env σ (.ins C ns l) v) : ∃ a dx vs, v = .ref a ∧ H a = some (.ins C dx (ns.zip vs)) ∧ ns.length = vs.length ∧ RelL K F pa l vs := by
  rcases r with r | ⟨i, h1, h2⟩
  · unfold RelD at r
    obtain ⟨a, dx, vs, e, q, z⟩ := r
    exact ⟨a, dx, vs, e, W.sub _ _ q, z⟩
  · obtain ⟨a, h, s1, q, z, _⟩ := W.own i _ h1
    rw [h2] at s1; cases s1
    obtain ⟨dx, vs, rfl, z⟩ := z
    exact ⟨a, dx, vs, rfl, q, z⟩
theorem RelX.scr {F : Hp} {pa : Option Addr} {t : Ts} {env : En} {σ : L2.St} {H : Hp} {ns : List Int} {v : V} (W : Cf K B F pa t env σ H) (r : RelX K F pa env σ (.scr ns) v) : ∃ a, v = .ref a ∧ SqL K H a (ns.map V.int) := by
  rcases r with r | ⟨i, h1, h2⟩
  · unfold RelD at r
    obtain ⟨a, e, q⟩ := r
    exact ⟨a, e, sq_mono W.sub q⟩
  · obtain ⟨a, h, s1, q, z, _⟩ := W.own i _ h1
    exact z.elim
theorem RelX.int {F : Hp} {pa : Option Addr} {t : Ts} {env : En} {σ : L2.St} {H : Hp} {i : Int} {v : V} (W : Cf K B F pa t env σ H) (r : RelX K F pa env σ (.int i) v) : v = .int i := by
  rcases r with r | ⟨i, h1, h2⟩
  · unfold RelD at r; exact r
  · obtain ⟨a, h, s1, q, z, _⟩ := W.own i _ h1
    exact z.elim
theorem RelX.bl {F : Hp} {pa : Option Addr} {t : Ts} {env : En} {σ : L2.St} {H : Hp} {i : Bool} {v : V} (W : Cf K B F pa t env σ H) (r : RelX K F pa env σ (.bl i) v) : v = .bl i := by
  rcases r with r | ⟨i, h1, h2⟩
  · unfold RelD at r; exact r
  · obtain ⟨a, h, s1, q, z, _⟩ := W.own i _ h1
    exact z.elim
theorem RelX.str {F : Hp} {pa : Option Addr} {t : Ts} {env : En} {σ : L2.St} {H : Hp} {i : Str} {v : V} (W : Cf K B F pa t env σ H) (r : RelX K F pa env σ (.str i) v) : v = .str i := by
  rcases r with r | ⟨i, h1, h2⟩
  · unfold RelD at r; exact r
  · obtain ⟨a, h, s1, q, z, _⟩ := W.own i _ h1
    exact z.elim
theorem RelX.non {F : Hp} {pa : Option Addr} {t : Ts} {env : En} {σ : L2.St} {H : Hp} {v : V} (W : Cf K B F pa t env σ H) (r : RelX K F pa env σ .non v) : v = .non := by
  rcases r with r | ⟨i, h1, h2⟩
  · unfold RelD at r; exact r
  · obtain ⟨a, h, s1, q, z, _⟩ := W.own i _ h1
    exact z.elim
/-- a datum is read -/
theorem toV (h : QE X B e da) : QV X B e da := PE.imp h fun σ H Q ⟨F, pa, t, env, P, C, hd, k⟩ => ⟨F, pa, t, env, P, C, hd, fun v d F' pa' t' H' g C' r q => k v d F' pa' t' H' g C' (.inl r) q⟩
/-- a new object is frozen -/
theorem toE (h : QN X B e da) : QE X B e da := PE.imp h fun σ H Q ⟨F, pa, t, env, P, C, hd, k⟩ => ⟨F, pa, t, env, P, C, hd, fun p h d F' pa' t' H' g C' n e r q => by
  obtain ⟨g', C2⟩ := C'.frz n e r.ntb
  exact k (.ref p) d _ pa' t' H' (g.trans g') C2 (RelO1.rel (RelO1.mono g' d h r) upd_same) q⟩
/-! ### names, constants -/
theorem q_var {i : Nat} {x : Str} {pos : Pos} (h : PE X (.Name x pos) (tVar i)) : QE X B (.Name x pos) (dVar i) := PE.imp h fun σ H Q ⟨F, pa, t, env, P, C, hd, k⟩ => by
  have hd : (match env[i]? with | some (.val d) => P d t | _ => False) := hd
  cases q : env[i]? with
  | none => rw [q] at hd; exact hd.elim
  | some s =>
    rw [q] at hd
    cases s with
    | val d =>
      obtain ⟨v, h1, h2⟩ := C.val i d q
      exact ⟨v, h1, k v d F pa t H (Gr.refl _ _) C h2 hd⟩
    | no => exact hd.elim
    | own d => exact hd.elim
theorem q_view {i : Nat} {x : Str} {pos : Pos} (h : PE X (.Name x pos) (tVar i)) : QV X B (.Name x pos) (dView i) := PE.imp h fun σ H Q ⟨F, pa, t, env, P, C, hd, k⟩ => by
  have hd : (match env[i]? with | some (.val d) => P d t | some (.own d) => P d t | _ => False) := hd
  cases q : env[i]? with
  | none => rw [q] at hd; exact hd.elim
  | some s =>
    rw [q] at hd
    cases s with
    | val d =>
      obtain ⟨v, h1, h2⟩ := C.val i d q
      exact ⟨v, h1, k v d F pa t H (Gr.refl _ _) C (.inl h2) hd⟩
    | no => exact hd.elim
    | own d =>
      obtain ⟨a, h, h1, h2, h3, _⟩ := C.own i d q
      exact ⟨.ref a, h1, k _ d F pa t H (Gr.refl _ _) C (.inr ⟨i, q, h1⟩) hd⟩
theorem q_c {v : V} {d : D} (h : PE X e (tC v)) (r : ∀ F pa, RelD X.K F pa d v) : QE X B e (dC d) := PE.imp h fun σ H Q ⟨F, pa, t, env, P, C, hd, k⟩ => k v d F pa t H (Gr.refl _ _) C (r F pa) hd
theorem q_int {i : Int} {j pos} : QE X B (.Constant (.int i) j pos) (dC (.int i)) := q_c pe_int fun _ _ => by unfold RelD; rfl
theorem q_bl {i : Bool} {j pos} : QE X B (.Constant (.bool i) j pos) (dC (.bl i)) := q_c pe_bl fun _ _ => by unfold RelD; rfl
theorem q_non {j pos} : QE X B (.Constant .none j pos) (dC .non) := q_c pe_non fun _ _ => by unfold RelD; rfl
theorem q_str {i : Str} {j pos} : QE X B (.Constant (.str i) j pos) (dC (.str i)) := q_c pe_str fun _ _ => by unfold RelD; rfl
/-! ### operators -/
def ROp (K : PySem.W.Frag) (r : R2) (o : DOp) : Prop := ∀ (B : Bs) F pa t env σ H x y v u P (Q : VK), Cf K B F pa t env σ H → RelX K F pa env σ x v → RelX K F pa env σ y u → o x y P →
  (∀ w d F' H', Gr F pa F' pa → Cf K B F' pa t env σ H' → RelD K F' pa d w → P d → Q w H') → r v u H Q
/-- an operation that gives a new object: the list itself -/
def RUn (K : PySem.W.Frag) (r : V → Hp → VK → Prop) (o : DU) : Prop := ∀ (B : Bs) F pa t env σ H x v P (Q : VK), Cf K B F pa t env σ H → RelX K F pa env σ x v → o x P →
  (∀ w d F' H', Gr F pa F' pa → Cf K B F' pa t env σ H' → RelD K F' pa d w → P d → Q w H') → r v H Q
theorem ev2 {r : R2} {o : DOp} (hr : ROp K r o) : ∀ σ H Q, teOf K B (dOp o da db) σ H Q → tOp r (tvOf K B da) (tvOf K B db) σ H Q := fun σ H Q ⟨F, pa, t, env, P, C, hd, k⟩ =>
  ⟨F, pa, t, env, _, C, hd, fun v x F1 pa1 t1 H1 g1 C1 r1 q1 => ⟨F1, pa1, t1, env, _, C1, q1, fun u y F2 pa2 t2 H2 g2 C2 r2 q2 =>
    hr B F2 pa2 t2 env σ H2 x y v u _ Q C2 (r1.mono g2) r2 q2 fun w d F' H' g3 C3 r3 q3 => k w d F' pa2 t2 H' ((g1.trans g2).trans g3) C3 r3 q3⟩⟩
theorem q_op {op : Operator} {r : R2} {o : DOp} (ho : OpR X (binaryOp op) r) (hr : ROp X.K r o) (ha : QV X B a da) (hb : QV X B b db) : QE X B (.BinOp a op b pos) (dOp o da db) := PE.imp (pe_op ho ha hb) (ev2 hr)
theorem q_un {op : UnaryOp} {r : V → Hp → VK → Prop} {o : DU} (ho : UnR X (unaryOp op) r) (hr : RUn X.K r o) (ha : QV X B a da) : QE X B (.UnaryOp op a pos) (dUn o da) := PE.imp (pe_un ho ha) fun σ H Q ⟨F, pa, t, env, P, C, hd, k⟩ =>
  ⟨F, pa, t, env, _, C, hd, fun v x F1 pa1 t1 H1 g1 C1 r1 q1 => hr B F1 pa1 t1 env σ H1 x v _ Q C1 r1 q1 fun w d F' H' g3 C3 r3 q3 => k w d F' pa1 t1 H' (g1.trans g3) C3 r3 q3⟩
theorem q_cmp {op : CmpOp} {r : R2} {o : DOp} (ho : OpR X (compareOp op) r) (hr : ROp X.K r o) (ha : QV X B a da) (hb : QV X B b db) (hm : behindInMarks op b = false) : QE X B (.Compare a [op] [b] pos) (dOp o da db) := PE.imp (pe_cmpR ho ha hb hm) (ev2 hr)
theorem q_tcmp {op : CmpOp} {r : R2} {o : DOp} (ho : OpR X (compareOp op) r) (hr : ROp X.K r o) (ha : QV X B a da) (hb : QV X B b db) (hm : behindInMarks op b = false) : QT X B (.Compare a [op] [b] pos) (dB (dOp o da db)) := PT.imp (pt_cmpR ho ha hb hm) fun σ H Q ⟨F, pa, t, env, P, C, hd, k⟩ => by
  refine ev2 hr σ H _ ⟨F, pa, t, env, _, C, hd, fun v d F' pa' t' H' g C' rd q => ?_⟩
  cases d with
  | bl b => unfold RelD at rd; exact ⟨b, rd, k b F' pa' t' H' g C' q⟩
  | _ => exact q.elim
/-! ### the operators' relations -/
theorem rD_int {F : Hp} {pa : Option Addr} (i : Int) : RelD K F pa (.int i) (.int i) := by unfold RelD; rfl
theorem rD_bl {F : Hp} {pa : Option Addr} (i : Bool) : RelD K F pa (.bl i) (.bl i) := by unfold RelD; rfl
theorem rD_str {F : Hp} {pa : Option Addr} (i : Str) : RelD K F pa (.str i) (.str i) := by unfold RelD; rfl
theorem rD_non {F : Hp} {pa : Option Addr} : RelD K F pa .non .non := by unfold RelD; rfl
theorem rop_int {C : Int → Int → Prop} {g : Int → Int → V} {f : Int → Int → D} {o : DOp} (hg : ∀ F pa i j, RelD K F pa (f i j) (g i j)) (ho : ∀ x y P, o x y P → ∃ i j, x = .int i ∧ y = .int j ∧ C i j ∧ P (f i j)) : ROp K (rI C g) o := fun B F pa t env σ H x y v u P Q W rx ry h k => by
  obtain ⟨i, j, rfl, rfl, hc, p⟩ := ho x y P h
  exact ⟨i, j, rx.int W, ry.int W, hc, k _ _ F H (Gr.refl _ _) W (hg F pa i j) p⟩
theorem rop_int0 {g : Int → Int → V} {f : Int → Int → D} {o : DOp} (hg : ∀ F pa i j, RelD K F pa (f i j) (g i j)) (ho : ∀ x y P, o x y P → ∃ i j, x = .int i ∧ y = .int j ∧ P (f i j)) : ROp K (rI0 g) o := fun B F pa t env σ H x y v u P Q W rx ry h k => by
  obtain ⟨i, j, rfl, rfl, p⟩ := ho x y P h
  exact ⟨i, j, rx.int W, ry.int W, k _ _ F H (Gr.refl _ _) W (hg F pa i j) p⟩
theorem rop_sub : ROp K (rI0 fun i j => .int (i - j)) oSub := rop_int0 (f := fun i j => .int (i - j)) (fun _ _ _ _ => rD_int _) fun x y P h => by
  cases x <;> cases y <;> first | exact ⟨_, _, rfl, rfl, h⟩ | exact (False.elim h)
theorem rop_lt : ROp K (rI0 fun i j => .bl (decide (i < j))) oLt := rop_int0 (f := fun i j => .bl (decide (i < j))) (fun _ _ _ _ => rD_bl _) fun x y P h => by
  cases x <;> cases y <;> first | exact ⟨_, _, rfl, rfl, h⟩ | exact (False.elim h)
theorem rop_le : ROp K (rI0 fun i j => .bl (decide (i ≤ j))) oLe := rop_int0 (f := fun i j => .bl (decide (i ≤ j))) (fun _ _ _ _ => rD_bl _) fun x y P h => by
  cases x <;> cases y <;> first | exact ⟨_, _, rfl, rfl, h⟩ | exact (False.elim h)
theorem rop_gt : ROp K (rI0 fun i j => .bl (decide (j < i))) oGt := rop_int0 (f := fun i j => .bl (decide (j < i))) (fun _ _ _ _ => rD_bl _) fun x y P h => by
  cases x <;> cases y <;> first | exact ⟨_, _, rfl, rfl, h⟩ | exact (False.elim h)
theorem rop_ge : ROp K (rI0 fun i j => .bl (decide (j ≤ i))) oGe := rop_int0 (f := fun i j => .bl (decide (j ≤ i))) (fun _ _ _ _ => rD_bl _) fun x y P h => by
  cases x <;> cases y <;> first | exact ⟨_, _, rfl, rfl, h⟩ | exact (False.elim h)
theorem rop_mod : ROp K (rI (fun _ j => 0 < j) fun i j => .int (i % j)) oMod := rop_int (f := fun i j => .int (i % j)) (fun _ _ _ _ => rD_int _) fun x y P h => by
  cases x <;> cases y <;> first | exact ⟨_, _, rfl, rfl, h.1, h.2⟩ | exact (False.elim h)
theorem rop_div : ROp K (rI CDivW fun i j => .int (i / j)) oDiv := rop_int (f := fun i j => .int (i / j)) (fun _ _ _ _ => rD_int _) fun x y P h => by
  cases x <;> cases y <;> first | exact ⟨_, _, rfl, rfl, wide_div h.1.1 h.1.2 (by decide) (by decide), h.2⟩ | exact (False.elim h)
theorem zle {n : Nat} (h : n ≤ zLen) : n ≤ sizeLine := by rw [sizeLine_eq]; unfold zLen at h; omega
theorem zlt {n : Nat} (h : n < zLen) : n < sizeLine := by rw [sizeLine_eq]; unfold zLen at h; omega
theorem few_of {l : List D} {p : Prop} (h : Few l p) : l.length ≤ sizeLine ∧ p := by
  unfold Few at h
  split at h
  · rename_i e
    exact ⟨by rw [sizeLine_eq]; have := Nat.le_of_ble_eq_true e; omega, h⟩
  · exact h.elim
/-- a new list | tuple, of what is there -/
theorem new_lst {F : Hp} {pa : Option Addr} {t : Ts} {env : En} {σ : L2.St} {H : Hp} {p : Addr} {l : List D} {vs : List V} (C : Cf K B F pa t env σ H) (h : H p = none) (r : RelL K F pa l vs) :
    ∃ F', Gr F pa F' pa ∧ Cf K B F' pa t env σ (upd H p (.lst vs)) ∧ RelD K F' pa (.lst l) (.ref p) := by
  obtain ⟨g, C'⟩ := C.alloc (.lst vs) h
  exact ⟨_, g, C', RelO1.rel (d := .lst l) ⟨vs, rfl, RelL.mono g l vs r⟩ upd_same⟩
theorem new_tup {F : Hp} {pa : Option Addr} {t : Ts} {env : En} {σ : L2.St} {H : Hp} {p : Addr} {l : List D} {vs : List V} (C : Cf K B F pa t env σ H) (h : H p = none) (r : RelL K F pa l vs) :
    ∃ F', Gr F pa F' pa ∧ Cf K B F' pa t env σ (upd H p (.tup vs)) ∧ RelD K F' pa (.tup l) (.ref p) := by
  obtain ⟨g, C'⟩ := C.alloc (.tup vs) h
  refine ⟨_, g, C', ?_⟩
  unfold RelD
  exact ⟨p, vs, rfl, upd_same, RelL.mono g l vs r⟩
def rAdd4 (K : PySem.W.Frag) : R2 := fun x y H Q => (rI0 (fun i j => .int (i + j)) x y H Q ∨ rCat x y H Q) ∨ (rCatT K x y H Q ∨ ∃ i j, x = .str i ∧ y = .str j ∧ i.length + j.length ≤ sizeLine ∧ Q (.str (i ++ j)) H)
theorem op_add4 : OpR X (binaryOp .Add) (rAdd4 X.K) := (op_add.or op_cat).or (op_catT.or op_add_str)
theorem rop_add : ROp K (rAdd4 K) oAdd := fun B F pa t env σ H x y v u P Q W rx ry h k => by
  cases x with
  | int i =>
    cases y with
    | int j => exact .inl (.inl ⟨i, j, rx.int W, ry.int W, k _ _ F H (Gr.refl _ _) W (rD_int _) h⟩)
    | _ => exact h.elim
  | str i =>
    cases y with
    | str j => exact .inr (.inr ⟨i, j, rx.str W, ry.str W, zle h.1, k _ _ F H (Gr.refl _ _) W (rD_str _) h.2⟩)
    | _ => exact h.elim
  | lst l =>
    cases y with
    | lst m =>
      obtain ⟨a, vs, rfl, e1, r1⟩ := rx.lst W
      obtain ⟨b, ws, rfl, e2, r2⟩ := ry.lst W
      refine .inl (.inr ⟨a, b, vs, ws, rfl, rfl, e1, e2, by rw [r1.len, r2.len]; exact zle h.1, fun p hp => ?_⟩)
      obtain ⟨F', g, C', rd⟩ := new_lst W hp (r1.append r2)
      exact k _ _ F' _ g C' rd h.2
    | _ => exact h.elim
  | tup l =>
    cases y with
    | tup m =>
      obtain ⟨a, vs, rfl, e1, _, r1⟩ := rx.tup W
      obtain ⟨b, ws, rfl, e2, _, r2⟩ := ry.tup W
      obtain ⟨⟨hz, hl, hm⟩, hp⟩ := h
      refine .inr (.inl ⟨a, b, vs, ws, rfl, rfl, SqT.of e1, SqT.of e2, ?_, by rw [r1.len, r2.len]; exact zle hz, ?_, fun _ p hp' => ?_⟩)
      · intro e; have := r1.len; rw [e] at this; exact hl (List.length_eq_zero_iff.mp this.symm)
      · intro e; have := r2.len; rw [e] at this; exact absurd (List.length_eq_zero_iff.mp this.symm) hm
      · obtain ⟨F', g, C', rd⟩ := new_tup W hp' (r1.append r2)
        exact k _ _ F' _ g C' rd hp
    | _ => exact h.elim
  | _ => exact h.elim
theorem sm_mul {i j : Int} (h : MulOk i j) : CMul i j ∨ CMulW i j := by
  rcases h with h | h | ⟨a, b, h1, h2, h3, h4, h5⟩
  · have h : i.natAbs < 2 ^ 64 := h
    exact .inl (.inl ⟨by omega, by omega⟩)
  · have h : j.natAbs < 2 ^ 64 := h
    exact .inl (.inr ⟨by omega, by omega⟩)
  · exact .inr (wide_mul h1 h2 h3 h4 h5)
def rMul3 : R2 := fun x y H Q => (rI CMul (fun i j => .int (i * j)) x y H Q ∨ rI CMulW (fun i j => .int (i * j)) x y H Q) ∨ rRep x y H Q
theorem op_mul3 : OpR X (binaryOp .Mult) rMul3 := (op_mul.or op_mulW).or op_rep
theorem rop_mul : ROp K rMul3 oMul := fun B F pa t env σ H x y v u P Q W rx ry h k => by
  cases x with
  | int i =>
    cases y with
    | int j =>
      rcases sm_mul h.1 with c | c
      · exact .inl (.inl ⟨i, j, rx.int W, ry.int W, c, k _ _ F H (Gr.refl _ _) W (rD_int _) h.2⟩)
      · exact .inl (.inr ⟨i, j, rx.int W, ry.int W, c, k _ _ F H (Gr.refl _ _) W (rD_int _) h.2⟩)
    | _ => exact h.elim
  | lst l =>
    cases y with
    | int j =>
      obtain ⟨a, vs, rfl, e1, r1⟩ := rx.lst W
      obtain ⟨⟨h1, h2, h3⟩, hp⟩ := h
      refine .inr ⟨a, j, vs, rfl, ry.int W, e1, by omega, by omega, by rw [r1.len]; exact zle h3, fun p hp' => ?_⟩
      obtain ⟨F', g, C', rd⟩ := new_lst W hp' (r1.rep j.toNat)
      exact k _ _ F' _ g C' rd hp
    | _ => exact h.elim
  | _ => exact h.elim
/-- ** of whole numbers -/
theorem sm_pow {i j : Int} (h : PowOk i j) : 0 ≤ j ∧ (Builtin.Int.intBits i : Int) * j ≤ 2 ^ 27 := by
  obtain ⟨h0, a, ha, hb⟩ := h
  refine ⟨h0, ?_⟩
  have hi : Builtin.Int.intBits i ≤ a ∨ i = 0 := by
    unfold Builtin.Int.intBits
    by_cases e : i = 0
    · exact .inr e
    · left
      split
      · omega
      · have ha' : i.natAbs < 2 ^ a := ha
        have : i.natAbs.log2 < a := (Nat.log2_lt (by omega)).mpr ha'
        omega
  rcases hi with hi | rfl
  · have h1 : (Builtin.Int.intBits i : Int) ≤ (a : Int) := by omega
    have := Int.mul_le_mul_of_nonneg_right h1 h0
    have : (2 : Int) ^ 27 = 134217728 := by decide
    omega
  · have : (Builtin.Int.intBits 0 : Int) ≤ 1 := by decide
    have hj : j ≤ 100000000 ∨ a = 0 := by
      by_cases e : a = 0
      · exact .inr e
      · left
        have h1 : (1 : Int) ≤ (a : Int) := by omega
        have := Int.mul_le_mul_of_nonneg_right h1 h0
        omega
    rcases hj with hj | rfl
    · have := Int.mul_le_mul_of_nonneg_right this h0
      have : (2 : Int) ^ 27 = 134217728 := by decide
      omega
    · have e0 : Builtin.Int.intBits 0 = 0 := by decide
      rw [e0]
      have : (2 : Int) ^ 27 = 134217728 := by decide
      omega
theorem op_powW : OpR X (binaryOp .Pow) (rI (fun i j => PowOk i j) fun i j => .int (i ^ j.toNat)) := opI fun _ _ _ _ _ _ _ hc q => pow_int (sm_pow hc).1 (sm_pow hc).2 q
theorem rop_pow : ROp K (rI (fun i j => PowOk i j) fun i j => .int (i ^ j.toNat)) oPow := rop_int (f := fun i j => .int (i ^ j.toNat)) (fun _ _ _ _ => rD_int _) fun x y P h => by
  cases x <;> cases y <;> first | exact ⟨_, _, rfl, rfl, h.1, h.2⟩ | exact (False.elim h)
theorem run_neg : RUn K (rU fun i => .int (-i)) oNeg := fun B F pa t env σ H x v P Q W rx h k => by
  cases x with
  | int i => exact ⟨i, rx.int W, k _ _ F H (Gr.refl _ _) W (rD_int _) h⟩
  | _ => exact h.elim
theorem rop_isN : ROp K (fun x y H Q => y = .non ∧ Q (.bl (decide (x = .non))) H) oIsN := fun B F pa t env σ H x y v u P Q W rx ry h k => by
  cases y with
  | non =>
    refine ⟨ry.non W, ?_⟩
    have e : decide (v = V.non) = isNon x := by
      cases x with
      | non => rw [rx.non W]; rfl
      | int i => rw [rx.int W]; rfl
      | bl i => rw [rx.bl W]; rfl
      | str i => rw [rx.str W]; rfl
      | lst l => obtain ⟨a, vs, rfl, _⟩ := rx.lst W; rfl
      | tup l => obtain ⟨a, vs, rfl, _⟩ := rx.tup W; rfl
      | dic ks l => obtain ⟨a, vs, rfl, _⟩ := rx.dic W; rfl
      | ins C ns l => obtain ⟨a, dx, vs, rfl, _⟩ := rx.ins W; rfl
      | scr ns => obtain ⟨a, rfl, _⟩ := rx.scr W; rfl
      | pen =>
        rcases rx with r | ⟨i, h1, h2⟩
        · unfold RelD at r; obtain ⟨a, _, rfl⟩ := r; rfl
        · obtain ⟨a, h, s1, q, z, _⟩ := W.own i _ h1; exact z.elim
      | ty n =>
        rcases rx with r | ⟨i, h1, h2⟩
        · unfold RelD at r; rw [r]; rfl
        · obtain ⟨a, h, s1, q, z, _⟩ := W.own i _ h1; exact z.elim
      | adr n =>
        rcases rx with r | ⟨i, h1, h2⟩
        · unfold RelD at r; rw [r]; rfl
        · obtain ⟨a, h, s1, q, z, _⟩ := W.own i _ h1; exact z.elim
      | rp n =>
        rcases rx with r | ⟨i, h1, h2⟩
        · unfold RelD at r; rw [r]; rfl
        · obtain ⟨a, h, s1, q, z, _⟩ := W.own i _ h1; exact z.elim
    rw [e]
    exact k _ _ F H (Gr.refl _ _) W (rD_bl _) h
  | _ => exact h.elim
/-! ### == as data -/
mutual
theorem eqv_toPy : ∀ (x y : D), plain x = true → plain y = true → PyData.eqv (toPy x) (toPy y) = deq x y
  | .lst l, .lst m, hx, hy => by
    simp only [toPy, PyData.eqv, deq]
    exact eqvs_toPy l m hx hy
  | .tup l, .tup m, hx, hy => by
    simp only [toPy, PyData.eqv, deq]
    exact eqvs_toPy l m hx hy
  | .non, y, hx, hy => by cases y <;> first | rfl | (simp [plain] at hy; done)
  | .bl b, y, hx, hy => by cases y <;> first | rfl | (simp [plain] at hy; done)
  | .int b, y, hx, hy => by cases y <;> first | rfl | (simp [plain] at hy; done)
  | .str b, y, hx, hy => by cases y <;> first | rfl | (simp [plain] at hy; done) | (simp [toPy, PyData.eqv, deq]; done)
  | .lst l, .non, _, _ => rfl
  | .lst l, .bl _, _, _ => rfl
  | .lst l, .int _, _, _ => rfl
  | .lst l, .str _, _, _ => rfl
  | .lst l, .tup _, _, _ => rfl
  | .lst l, .dic _ _, _, hy => by simp [plain] at hy
  | .lst l, .ins _ _ _, _, hy => by simp [plain] at hy
  | .lst l, .pen, _, hy => by simp [plain] at hy
  | .lst l, .ty _, _, hy => by simp [plain] at hy
  | .lst l, .adr _, _, hy => by simp [plain] at hy
  | .lst l, .rp _, _, hy => by simp [plain] at hy
  | .lst l, .scr _, _, hy => by simp [plain] at hy
  | .tup l, .non, _, _ => rfl
  | .tup l, .bl _, _, _ => rfl
  | .tup l, .int _, _, _ => rfl
  | .tup l, .str _, _, _ => rfl
  | .tup l, .lst _, _, _ => rfl
  | .tup l, .dic _ _, _, hy => by simp [plain] at hy
  | .tup l, .ins _ _ _, _, hy => by simp [plain] at hy
  | .tup l, .pen, _, hy => by simp [plain] at hy
  | .tup l, .ty _, _, hy => by simp [plain] at hy
  | .tup l, .adr _, _, hy => by simp [plain] at hy
  | .tup l, .rp _, _, hy => by simp [plain] at hy
  | .tup l, .scr _, _, hy => by simp [plain] at hy
  | .dic _ _, _, hx, _ => by simp [plain] at hx
  | .ins _ _ _, _, hx, _ => by simp [plain] at hx
  | .pen, _, hx, _ => by simp [plain] at hx
  | .ty _, _, hx, _ => by simp [plain] at hx
  | .adr _, _, hx, _ => by simp [plain] at hx
  | .rp _, _, hx, _ => by simp [plain] at hx
  | .scr _, _, hx, _ => by simp [plain] at hx
theorem eqvs_toPy : ∀ (x y : List D), plains x = true → plains y = true → PyData.eqvAll (toPys x) (toPys y) = deqs x y
  | [], [], _, _ => rfl
  | [], _ :: _, _, _ => rfl
  | _ :: _, [], _, _ => rfl
  | x :: l, y :: m, hx, hy => by
    simp only [plains, Bool.and_eq_true] at hx hy
    simp only [toPys, PyData.eqvAll, deqs]
    rw [eqv_toPy x y hx.1 hy.1, eqvs_toPy l m hx.2 hy.2]
end
mutual
theorem lay_toPy : ∀ x : D, plain x = true → (toPy x).canLay0 = true
  | .non, _ => rfl
  | .bl _, _ => rfl
  | .int _, _ => rfl
  | .str x, h => by
    have h : x.cps.all (· < 0x110000) = true := by simpa [plain] using h
    simpa [toPy, PyData.canLay0, PyData.strOk] using h
  | .lst l, h => by simp only [toPy, PyData.canLay0]; exact lays_toPy l (by simpa [plain] using h)
  | .tup l, h => by simp only [toPy, PyData.canLay0]; exact lays_toPy l (by simpa [plain] using h)
  | .dic _ _, h => by simp [plain] at h
  | .ins _ _ _, h => by simp [plain] at h
  | .pen, h => by simp [plain] at h
  | .ty _, h => by simp [plain] at h
  | .adr _, h => by simp [plain] at h
  | .rp _, h => by simp [plain] at h
  | .scr _, h => by simp [plain] at h
theorem lays_toPy : ∀ x : List D, plains x = true → PyData.canLayAll0 (toPys x) = true
  | [], _ => rfl
  | x :: l, h => by
    simp only [plains, Bool.and_eq_true] at h
    simp only [toPys, PyData.canLayAll0, Bool.and_eq_true]
    exact ⟨lay_toPy x h.1, lays_toPy l h.2⟩
end
mutual
theorem dep_toPy : ∀ x : D, plain x = true → (toPy x).depth = deep x
  | .non, _ => rfl
  | .bl _, _ => rfl
  | .int _, _ => rfl
  | .str x, h => rfl
  | .lst l, h => by simp only [toPy, PyData.depth, deep]; rw [deps_toPy l (by simpa [plain] using h)]
  | .tup l, h => by simp only [toPy, PyData.depth, deep]; rw [deps_toPy l (by simpa [plain] using h)]
  | .dic _ _, h => by simp [plain] at h
  | .ins _ _ _, h => by simp [plain] at h
  | .pen, h => by simp [plain] at h
  | .ty _, h => by simp [plain] at h
  | .adr _, h => by simp [plain] at h
  | .rp _, h => by simp [plain] at h
  | .scr _, h => by simp [plain] at h
theorem deps_toPy : ∀ x : List D, plains x = true → PyData.depthAll (toPys x) = deeps x
  | [], _ => rfl
  | x :: l, h => by
    simp only [plains, Bool.and_eq_true] at h
    simp only [toPys, PyData.depthAll, deeps]
    rw [dep_toPy x h.1, deps_toPy l h.2]
end
theorem shaped_toPy {x : D} (h : plain x = true) (d : deep x ≤ 60) : SeqAt.shaped (toPy x) = true := by
  unfold SeqAt.shaped
  rw [lay_toPy x h, dep_toPy x h, decide_eq_true (by omega)]
  rfl
mutual
theorem dp_of {F : Hp} {pa : Option Addr} {H : Hp} (g : ∀ a o, F a = some o → H a = some o) : ∀ (x : D) (v : V), RelD K F pa x v → plain x = true → Dp K H v (toPy x)
  | .non, v, r, _ => by unfold RelD at r; subst r; exact .non
  | .bl b, v, r, _ => by unfold RelD at r; subst r; exact .bl b
  | .int i, v, r, _ => by unfold RelD at r; subst r; exact .int i
  | .str x, v, r, _ => by unfold RelD at r; subst r; exact .str x
  | .lst l, v, r, h => by
    unfold RelD at r
    obtain ⟨a, vs, rfl, e, q⟩ := r
    exact .lst (SqL.of (g _ _ e)) (dps_of g l vs q (by simpa [plain] using h))
  | .tup l, v, r, h => by
    unfold RelD at r
    obtain ⟨a, vs, rfl, e, q⟩ := r
    exact .tup (SqT.of (g _ _ e)) (dps_of g l vs q (by simpa [plain] using h))
  | .dic _ _, _, _, h => by simp [plain] at h
  | .ins _ _ _, _, _, h => by simp [plain] at h
  | .pen, _, _, h => by simp [plain] at h
  | .ty _, _, _, h => by simp [plain] at h
  | .adr _, _, _, h => by simp [plain] at h
  | .rp _, _, _, h => by simp [plain] at h
  | .scr _, _, _, h => by simp [plain] at h
theorem dps_of {F : Hp} {pa : Option Addr} {H : Hp} (g : ∀ a o, F a = some o → H a = some o) : ∀ (x : List D) (vs : List V), RelL K F pa x vs → plains x = true → DpAll K H vs (toPys x)
  | [], vs, r, _ => by rw [r.inv0]; exact .nil
  | x :: l, vs, r, h => by
    obtain ⟨v, vr, rfl, r1, r2⟩ := r.inv
    simp only [plains, Bool.and_eq_true] at h
    exact .cons (dp_of g x v r1 h.1) (dps_of g l vr r2 h.2)
end
theorem dp_x {F : Hp} {pa : Option Addr} {t : Ts} {env : En} {σ : L2.St} {H : Hp} {x : D} {v : V} (W : Cf K B F pa t env σ H) (r : RelX K F pa env σ x v) (h : plain x = true) : Dp K H v (toPy x) := by
  rcases r with r | ⟨i, h1, h2⟩
  · exact dp_of W.sub x v r h
  · cases x with
    | lst l =>
      obtain ⟨a, vs, rfl, e, q⟩ := RelX.lst W (.inr ⟨i, h1, h2⟩)
      exact .lst (SqL.of e) (dps_of W.sub l vs q (by simpa [plain] using h))
    | dic _ _ => simp [plain] at h
    | ins _ _ _ => simp [plain] at h
    | _ => obtain ⟨a, hh, s1, q, z, _⟩ := W.own i _ h1; exact z.elim
theorem oEq_int {x y : D} {P : D → Prop} (h : oEq x y P) : (∃ i j, x = .int i ∧ y = .int j ∧ P (.bl (decide (i = j)))) ∨ ((plain x = true ∧ plain y = true ∧ deep x ≤ 60 ∧ deep y ≤ 60) ∧ P (.bl (deq x y))) := by
  unfold oEq at h
  split at h
  · exact .inl ⟨_, _, rfl, rfl, h⟩
  · exact .inr h
theorem oNe_int {x y : D} {P : D → Prop} (h : oNe x y P) : (∃ i j, x = .int i ∧ y = .int j ∧ P (.bl (!decide (i = j)))) ∨ ((plain x = true ∧ plain y = true ∧ deep x ≤ 60 ∧ deep y ≤ 60) ∧ P (.bl (!deq x y))) := by
  unfold oNe at h
  split at h
  · exact .inl ⟨_, _, rfl, rfl, h⟩
  · exact .inr h
theorem rop_eq : ROp K (rEqD K) oEq := fun B F pa t env σ H x y v u P Q W rx ry h k => by
  rcases oEq_int h with ⟨i, j, rfl, rfl, p⟩ | ⟨⟨h1, h2, h3, h4⟩, p⟩
  · refine ⟨.int i, .int j, by rw [rx.int W]; exact .int i, by rw [ry.int W]; exact .int j, rfl, rfl, ?_⟩
    refine k _ (.bl (decide (i = j))) F H (Gr.refl _ _) W ?_ p
    rw [show PyData.eqv (.int i) (.int j) = decide (i = j) by simp [PyData.eqv, Bool.beq_eq_decide_eq]]
    exact rD_bl _
  · refine ⟨toPy x, toPy y, dp_x W rx h1, dp_x W ry h2, shaped_toPy h1 h3, shaped_toPy h2 h4, ?_⟩
    rw [eqv_toPy x y h1 h2]
    exact k _ _ F H (Gr.refl _ _) W (rD_bl _) p
theorem rop_ne : ROp K (rNeD K) oNe := fun B F pa t env σ H x y v u P Q W rx ry h k => by
  rcases oNe_int h with ⟨i, j, rfl, rfl, p⟩ | ⟨⟨h1, h2, h3, h4⟩, p⟩
  · refine ⟨.int i, .int j, by rw [rx.int W]; exact .int i, by rw [ry.int W]; exact .int j, rfl, rfl, ?_⟩
    refine k _ (.bl (!decide (i = j))) F H (Gr.refl _ _) W ?_ p
    rw [show PyData.eqv (.int i) (.int j) = decide (i = j) by simp [PyData.eqv, Bool.beq_eq_decide_eq]]
    exact rD_bl _
  · refine ⟨toPy x, toPy y, dp_x W rx h1, dp_x W ry h2, shaped_toPy h1 h3, shaped_toPy h2 h4, ?_⟩
    rw [eqv_toPy x y h1 h2]
    exact k _ _ F H (Gr.refl _ _) W (rD_bl _) p
/-! ### an item by its place -/
theorem atI_rel {F : Hp} {pa : Option Addr} {l : List D} {vs : List V} {i : Int} {d : D} (r : RelL K F pa l vs) (h : Q.atI l i = some d) : ∃ v, L2.atI vs i = some v ∧ RelD K F pa d v := by
  unfold Q.atI at h
  unfold L2.atI L2.ixN
  rw [r.len]
  split at h
  · rename_i h0
    split at h
    · rename_i h1
      obtain ⟨v, q, z⟩ := r.get h
      refine ⟨v, ?_, z⟩
      rw [if_pos h0, if_pos h1]
      exact q
    · cases h
  · rename_i h0
    split at h
    · rename_i h1
      obtain ⟨v, q, z⟩ := r.get h
      refine ⟨v, ?_, z⟩
      rw [if_neg h0, if_pos h1]
      exact q
    · cases h
theorem rop_ix : ROp K (rIx K) oIx := fun B F pa t env σ H x y v u P Q W rx ry h k => by
  cases x with
  | lst l =>
    cases y with
    | int i =>
      obtain ⟨d, hd, p⟩ := h
      obtain ⟨a, vs, rfl, e1, r1⟩ := rx.lst W
      obtain ⟨w, hw, rw'⟩ := atI_rel r1 hd
      exact .inl ⟨a, vs, i, w, rfl, ry.int W, SqL.of e1, hw, k _ _ F H (Gr.refl _ _) W rw' p⟩
    | _ => exact h.elim
  | tup l =>
    cases y with
    | int i =>
      obtain ⟨d, hd, p⟩ := h
      obtain ⟨a, vs, rfl, e1, _, r1⟩ := rx.tup W
      obtain ⟨w, hw, rw'⟩ := atI_rel r1 hd
      exact .inr (.inl ⟨a, vs, i, w, rfl, ry.int W, SqT.of e1, hw, k _ _ F H (Gr.refl _ _) W rw' p⟩)
    | _ => exact h.elim
  | _ => exact h.elim
theorem q_ix (ha : QV X B a da) (hb : QV X B b db) (hs : PlainIx b) : QE X B (.Subscript a b pos) (dOp oIx da db) := PE.imp (pe_ix ix_seq ha hb hs) (ev2 rop_ix)
end
end Q
/-! QH3 -/
namespace Q
open PySem L2 PyProof.Rows
section
variable {X : Cx} {B : Bs} {K : PySem.W.Frag} {a b c e : Expr} {es : List Expr} {pos : Pos} {da db dc : DE} {as : DA}
/-! ### arguments -/
theorem q_anil : QA X B [] dNil := PA.imp pa_nil fun σ H Q ⟨F, pa, t, env, P, C, hd, k⟩ => k [] [] F pa t H (Gr.refl _ _) C RelL.nil hd
theorem q_acons {r : DA} (ha : QE X B e da) (hr : QA X B es r) (hs : starEach (e :: es) X.env = (false, eval e X.env) :: starEach es X.env := by rfl) : QA X B (e :: es) (dCons da r) := PA.imp (pa_cons ha hr hs) fun σ H Q ⟨F, pa, t, env, P, C, hd, k⟩ =>
  ⟨F, pa, t, env, _, C, hd, fun v d F1 pa1 t1 H1 g1 C1 r1 q1 => ⟨F1, pa1, t1, env, _, C1, q1, fun vs ds F2 pa2 t2 H2 g2 C2 r2 q2 => k _ _ F2 pa2 t2 H2 (g1.trans g2) C2 (.cons (RelD.mono g2 d v r1) r2) q2⟩⟩
theorem q_xnil : QX X B [] dNil := PA.imp pa_nil fun σ H Q ⟨F, pa, t, env, P, C, hd, k⟩ => k [] [] F pa t H (Gr.refl _ _) C .nil hd
theorem q_xcons {r : DA} (ha : QV X B e da) (hr : QX X B es r) (hs : starEach (e :: es) X.env = (false, eval e X.env) :: starEach es X.env := by rfl) : QX X B (e :: es) (dCons da r) := PA.imp (pa_cons ha hr hs) fun σ H Q ⟨F, pa, t, env, P, C, hd, k⟩ =>
  ⟨F, pa, t, env, _, C, hd, fun v d F1 pa1 t1 H1 g1 C1 r1 q1 => ⟨F1, pa1, t1, env, _, C1, q1, fun vs ds F2 pa2 t2 H2 g2 C2 r2 q2 => k _ _ F2 pa2 t2 H2 (g1.trans g2) C2 (.cons (r1.mono g2) r2) q2⟩⟩
theorem q_lst (h : QA X B es as) : QN X B (.List es pos) (dLst as) := PE.imp (pe_lst h) fun σ H Q ⟨F, pa, t, env, P, C, hd, k⟩ => ⟨F, pa, t, env, _, C, hd, fun vs ds F' pa' t' H' g C' r q => by
  obtain ⟨hl, q⟩ := few_of q
  refine ⟨by rw [r.len]; exact hl, fun p hp => ?_⟩
  exact k p _ (.lst ds) F' pa' t' _ g (C'.loose _ hp) (C'.nw hp) upd_same ⟨vs, rfl, r⟩ q⟩
theorem q_tup {x1} (h : QA X B es as) : QE X B (.Tuple es x1 pos) (dTup as) := PE.imp (pe_tup h) fun σ H Q ⟨F, pa, t, env, P, C, hd, k⟩ => ⟨F, pa, t, env, _, C, hd, fun vs ds F' pa' t' H' g C' r q => by
  obtain ⟨hl, q⟩ := few_of q
  refine ⟨by rw [r.len]; exact hl, fun p hp => ?_⟩
  obtain ⟨F2, g2, C2, rd⟩ := new_tup C' hp r
  exact k _ _ F2 pa' t' _ (g.trans g2) C2 rd q⟩
/-! ### built-in functions -/
def RCall (K : PySem.W.Frag) (r : List V → Hp → VK → Prop) (o : DB) : Prop := ∀ (B : Bs) F pa t env σ H xs vs P (Q : VK), Cf K B F pa t env σ H → RelXs K F pa env σ xs vs → o xs P →
  (∀ w d F' H', Gr F pa F' pa → Cf K B F' pa t env σ H' → RelD K F' pa d w → P d → Q w H') → r vs H Q
/-- a new list comes -/
def RCallN (K : PySem.W.Frag) (r : List V → Hp → VK → Prop) (o : DB) : Prop := ∀ (B : Bs) F pa t env σ H xs vs P (Q : VK), Cf K B F pa t env σ H → RelXs K F pa env σ xs vs → o xs P →
  (∀ p h d F' H', Gr F pa F' pa → Cf K B F' pa t env σ H' → Nw B F' pa t env σ p → H' p = some h → RelO1 K F' pa d h → P d → Q (.ref p) H') → r vs H Q
theorem ev_cb {r : List V → Hp → VK → Prop} {o : DB} (hr : RCall K r o) : ∀ σ H Q, teOf K B (dCB o as) σ H Q → tCB r (txOf K B as) σ H Q := fun σ H Q ⟨F, pa, t, env, P, C, hd, k⟩ =>
  ⟨F, pa, t, env, _, C, hd, fun vs ds F1 pa1 t1 H1 g1 C1 r1 q1 => hr B F1 pa1 t1 env σ H1 ds vs _ Q C1 r1 q1 fun w d F' H' g3 C3 r3 q3 => k w d F' pa1 t1 H' (g1.trans g3) C3 r3 q3⟩
theorem ev_cbN {r : List V → Hp → VK → Prop} {o : DB} (hr : RCallN K r o) : ∀ σ H Q, tnOf K B (dCB o as) σ H Q → tCB r (txOf K B as) σ H Q := fun σ H Q ⟨F, pa, t, env, P, C, hd, k⟩ =>
  ⟨F, pa, t, env, _, C, hd, fun vs ds F1 pa1 t1 H1 g1 C1 r1 q1 => hr B F1 pa1 t1 env σ H1 ds vs _ Q C1 r1 q1 fun p h d F' H' g3 C3 n3 e3 r3 q3 => k p h d F' pa1 t1 H' (g1.trans g3) C3 n3 e3 r3 q3⟩
section
variable {x : Str} {p : Pos} {id T : String} {r : List V → Hp → VK → Prop} {o : DB}
theorem q_callB (hc : CallR X (.builtin id) r) (hr : RCall X.K r o) (hg : Gl X x) (hm : X.mg x = none) (hv : bootBuiltins x = some (.builtin id)) (ha : QX X B (e :: es) as) (hn : x ≠ "__name__" := by decide) (hdb : (x == ("__debug__" : Str)) = false := by decide)
    (he : starEach (e :: es) X.env = (false, eval e X.env) :: starEach es X.env := by rfl) (hpl : (backTo pos (starEach es X.env)).any (·.1) = false := by rfl) : QE X B (.Call (.Name x p) (e :: es) [] pos) (dCB o as) := PE.imp (pe_callB hc hg hm hv ha hn hdb he hpl) (ev_cb hr)
theorem q_callTy (hc : CallR X (.type T) r) (hr : RCall X.K r o) (hg : Gl X x) (hm : X.mg x = none) (hv : bootBuiltins x = some (.type T)) (ha : QX X B (e :: es) as) (hn : x ≠ "__name__" := by decide) (hdb : (x == ("__debug__" : Str)) = false := by decide)
    (he : starEach (e :: es) X.env = (false, eval e X.env) :: starEach es X.env := by rfl) (hpl : (backTo pos (starEach es X.env)).any (·.1) = false := by rfl) : QE X B (.Call (.Name x p) (e :: es) [] pos) (dCB o as) := PE.imp (pe_callTy hc hg hm hv ha hn hdb he hpl) (ev_cb hr)
theorem q_callTyN (hc : CallR X (.type T) r) (hr : RCallN X.K r o) (hg : Gl X x) (hm : X.mg x = none) (hv : bootBuiltins x = some (.type T)) (ha : QX X B (e :: es) as) (hn : x ≠ "__name__" := by decide) (hdb : (x == ("__debug__" : Str)) = false := by decide)
    (he : starEach (e :: es) X.env = (false, eval e X.env) :: starEach es X.env := by rfl) (hpl : (backTo pos (starEach es X.env)).any (·.1) = false := by rfl) : QN X B (.Call (.Name x p) (e :: es) [] pos) (dCB o as) := PE.imp (pe_callTy hc hg hm hv ha hn hdb he hpl) (ev_cbN hr)
end
theorem RelXs.one {F : Hp} {pa : Option Addr} {env : En} {σ : L2.St} {d : D} {vs : List V} (r : RelXs K F pa env σ [d] vs) : ∃ v, vs = [v] ∧ RelX K F pa env σ d v := by
  cases r with
  | cons h q => cases q; exact ⟨_, rfl, h⟩
theorem RelXs.two {F : Hp} {pa : Option Addr} {env : En} {σ : L2.St} {d d' : D} {vs : List V} (r : RelXs K F pa env σ [d, d'] vs) : ∃ v v', vs = [v, v'] ∧ RelX K F pa env σ d v ∧ RelX K F pa env σ d' v' := by
  cases r with
  | cons h q => cases q with
    | cons h' q => cases q; exact ⟨_, _, rfl, h, h'⟩
def rLen3 (K : PySem.W.Frag) : List V → Hp → VK → Prop := fun xs H Q => (∃ p ys, xs = [.ref p] ∧ (SqL K H p ys ∨ SqT K H p ys) ∧ Q (.int ys.length) H) ∨ ∃ z, xs = [.str z] ∧ z.length ≤ sizeLine ∧ Q (.int z.length) H
theorem call_len3 : CallR X (.builtin "len") (rLen3 X.K) := call_len_seq.or call_len_str
theorem rc_len : RCall K (rLen3 K) bLen := fun B F pa t env σ H xs vs P Q W r h k => by
  unfold bLen at h
  split at h
  · obtain ⟨v, rfl, r1⟩ := r.one
    obtain ⟨a, us, rfl, e, q⟩ := r1.lst W
    exact .inl ⟨a, us, rfl, .inl (SqL.of e), k _ _ F H (Gr.refl _ _) W (by rw [q.len]; exact rD_int _) h⟩
  · obtain ⟨v, rfl, r1⟩ := r.one
    obtain ⟨a, us, rfl, e, _, q⟩ := r1.tup W
    exact .inl ⟨a, us, rfl, .inr (SqT.of e), k _ _ F H (Gr.refl _ _) W (by rw [q.len]; exact rD_int _) h⟩
  · obtain ⟨v, rfl, r1⟩ := r.one
    obtain ⟨a, rfl, q⟩ := r1.scr W
    exact .inl ⟨a, _, rfl, .inl q, k _ _ F H (Gr.refl _ _) W (by rw [List.length_map]; exact rD_int _) h⟩
  · obtain ⟨v, rfl, r1⟩ := r.one
    exact .inr ⟨_, by rw [r1.str W], zle h.1, k _ _ F H (Gr.refl _ _) W (rD_int _) h.2⟩
  · exact h.elim
def rAbs : List V → Hp → VK → Prop := fun xs H Q => ∃ i, xs = [.int i] ∧ Q (.int (if i < 0 then -i else i)) H
theorem rc_abs : RCall K rAbs bAbs := fun B F pa t env σ H xs vs P Q W r h k => by
  unfold bAbs at h
  split at h
  · obtain ⟨v, rfl, r1⟩ := r.one
    exact ⟨_, by rw [r1.int W], k _ _ F H (Gr.refl _ _) W (rD_int _) h⟩
  · exact h.elim
def rMin2 (K : PySem.W.Frag) : List V → Hp → VK → Prop := fun xs H Q => (∃ i j, xs = [.int i, .int j] ∧ Q (.int (if j < i then j else i)) H) ∨ rMin K xs H Q
theorem call_min3 (hc : X.calm = true) : CallR X (.builtin "min") (rMin2 X.K) := (call_min2 hc).or (cr_min hc)
theorem rc_min : RCall K (rMin2 K) bMin := fun B F pa t env σ H xs vs P Q W r h k => by
  unfold bMin at h
  split at h
  · obtain ⟨v, v', rfl, r1, r2⟩ := r.two
    exact .inl ⟨_, _, by rw [r1.int W, r2.int W], k _ _ F H (Gr.refl _ _) W (rD_int _) h⟩
  · obtain ⟨v, rfl, r1⟩ := r.one
    obtain ⟨ns, hn, h0, hp⟩ := h
    obtain ⟨a, us, rfl, e, q⟩ := r1.lst W
    rw [q.intsD hn] at e
    exact .inr ⟨a, ns, rfl, SqL.of e, h0, fun m h1 h2 => k _ _ F H (Gr.refl _ _) W (rD_int _) (hp m h1 h2)⟩
  · exact h.elim
theorem rc_all : RCall K (rAll K) bAll := fun B F pa t env σ H xs vs P Q W r h k => by
  unfold bAll at h
  split at h
  · obtain ⟨v, rfl, r1⟩ := r.one
    obtain ⟨ns, hn, hp⟩ := h
    obtain ⟨a, us, rfl, e, q⟩ := r1.lst W
    rw [q.bls hn] at e
    exact ⟨a, ns, rfl, SqL.of e, k _ _ F H (Gr.refl _ _) W (rD_bl _) hp⟩
  · exact h.elim
def rListOf (K : PySem.W.Frag) : List V → Hp → VK → Prop := fun xs H Q => ∃ p ys, xs = [.ref p] ∧ (SqL K H p ys ∨ SqT K H p ys) ∧ ∀ l, H l = none → Q (.ref l) (upd H l (.lst ys))
theorem rc_list : RCallN K (rListOf K) bList := fun B F pa t env σ H xs vs P Q W r h k => by
  unfold bList at h
  split at h
  · obtain ⟨v, rfl, r1⟩ := r.one
    obtain ⟨a, us, rfl, e, q⟩ := r1.lst W
    exact ⟨a, us, rfl, .inl (SqL.of e), fun p hp => k p _ (.lst _) F _ (Gr.refl _ _) (W.loose _ hp) (W.nw hp) upd_same ⟨us, rfl, q⟩ h⟩
  · obtain ⟨v, rfl, r1⟩ := r.one
    obtain ⟨a, us, rfl, e, _, q⟩ := r1.tup W
    exact ⟨a, us, rfl, .inr (SqT.of e), fun p hp => k p _ (.lst _) F _ (Gr.refl _ _) (W.loose _ hp) (W.nw hp) upd_same ⟨us, rfl, q⟩ h⟩
  · exact h.elim
/-! ### slices -/
theorem q_onone : QO X B none dNoPart := PO.imp po_none fun σ H Q ⟨F, pa, t, env, P, C, hd, k⟩ => k none F pa t H (Gr.refl _ _) C hd
theorem q_osome (h : QV X B e da) : QO X B (some e) (dPart da) := PO.imp (po_some h) fun σ H Q ⟨F, pa, t, env, P, C, hd, k⟩ => ⟨F, pa, t, env, _, C, hd, fun v d F' pa' t' H' g C' r q => by
  cases d with
  | int i =>
    have q : P (some i) t' := q
    exact ⟨i, r.int C', k _ F' pa' t' H' g C' q⟩
  | _ => exact q.elim⟩
theorem sIx_eq (n d : Nat) : ∀ o : Option Int, HT.sIx n d o = Q.sIx n d o
  | none => rfl
  | some i => by simp only [HT.sIx, Q.sIx]; split <;> first | rfl | (congr 1; omega)
theorem cut_rel {F : Hp} {pa : Option Addr} {l : List D} {vs : List V} (r : RelL K F pa l vs) (lo hi : Option Int) : RelL K F pa (cutD l lo hi) (cutV vs lo hi) := by
  unfold cutD cutV
  rw [r.len, sIx_eq, sIx_eq]
  exact (r.drop _).take _
def rSl2 (K : PySem.W.Frag) : V → Option Int → Option Int → Hp → VK → Prop := fun x l h H Q => rSlL K x l h H Q ∨ rSlT K x l h H Q
theorem sl2 : SlR X (rSl2 X.K) := sl_list.or sl_tup
theorem q_slice {lo hi : Option Expr} {dl dh : DO} {p2 : Pos} (ha : QV X B a da) (hl : QO X B lo dl) (hh : QO X B hi dh) : QE X B (.Subscript a (.Slice lo hi none p2) pos) (dSlice da dl dh) := PE.imp (pe_slice sl2 ha hl hh) fun σ H Q ⟨F, pa, t, env, P, C, hd, k⟩ =>
  ⟨F, pa, t, env, _, C, hd, fun v x F1 pa1 t1 H1 g1 C1 r1 q1 => ⟨F1, pa1, t1, env, _, C1, q1, fun l F2 pa2 t2 H2 g2 C2 q2 => ⟨F2, pa2, t2, env, _, C2, q2, fun h F3 pa3 t3 H3 g3 C3 q3 => by
    have r3 := (r1.mono g2).mono g3
    cases x with
    | lst xs =>
      obtain ⟨a, us, rfl, e, q⟩ := r3.lst C3
      refine .inl ⟨a, us, rfl, SqL.of e, fun p hp => ?_⟩
      obtain ⟨F', g, C', rd⟩ := new_lst C3 hp (cut_rel q l h)
      exact k _ _ F' _ _ _ (((g1.trans g2).trans g3).trans g) C' rd q3
    | tup xs =>
      obtain ⟨a, us, rfl, e, f, q⟩ := r3.tup C3
      obtain ⟨hz, q3⟩ := q3
      have rr := cut_rel q l h
      refine .inr ⟨a, us, rfl, SqT.of e, ?_, fun p hp => ?_⟩
      · rw [q.len, sIx_eq, sIx_eq]
        rintro ⟨z1, z2⟩
        unfold cutD at hz
        rw [z1, z2] at hz
        simp at hz
      · obtain ⟨F', g, C', rd⟩ := new_tup C3 hp rr
        exact k _ _ F' _ _ _ (((g1.trans g2).trans g3).trans g) C' rd q3
    | scr ns =>
      obtain ⟨a, rfl, q⟩ := r3.scr C3
      refine .inl ⟨a, _, rfl, q, fun p hp => ?_⟩
      obtain ⟨F', g, C', rd⟩ := new_lst C3 hp (cut_rel (RelL.of_ints ns) l h)
      exact k _ _ F' _ _ _ (((g1.trans g2).trans g3).trans g) C' rd q3
    | _ => exact q3.elim⟩⟩⟩
/-! ### tests -/
theorem q_tval (h : QE X B e da) (he : ∀ whole, isTrue e X.env whole = (do let v ← whole; standAt e.pos; holding [v] (truthy v)) := by intro _; rfl) : QT X B e (dB da) := PT.imp (pt_val h he) fun σ H Q ⟨F, pa, t, env, P, C, hd, k⟩ => ⟨F, pa, t, env, _, C, hd, fun v d F' pa' t' H' g C' r q => by
  cases d with
  | bl b => unfold RelD at r; exact ⟨b, r, k b F' pa' t' H' g C' q⟩
  | _ => exact q.elim⟩
variable {ta tb : DT} {rest : List Expr}
theorem q_and1 (ha : QT X B a ta) : QW X B (.BoolOp .And [a] pos) ta := pw_and1 ha
theorem q_or1 (ha : QT X B a ta) : QW X B (.BoolOp .Or [a] pos) ta := pw_or1 ha
theorem q_and (ha : QT X B a ta) (hb : QW X B (.BoolOp .And (b :: rest) pos) tb) : QW X B (.BoolOp .And (a :: b :: rest) pos) (dAnd ta tb) := PW.imp (pw_and ha hb) fun σ H Q ⟨F, pa, t, env, P, C, hd, k⟩ =>
  ⟨F, pa, t, env, _, C, hd, fun b F' pa' t' H' g C' q => by
    cases b with
    | true => rw [if_pos rfl]; exact ⟨F', pa', t', env, _, C', q, fun c F2 pa2 t2 H2 g2 C2 q2 => k c F2 pa2 t2 H2 (g.trans g2) C2 q2⟩
    | false => rw [if_neg Bool.false_ne_true]; exact k false F' pa' t' H' g C' q⟩
theorem q_or (ha : QT X B a ta) (hb : QW X B (.BoolOp .Or (b :: rest) pos) tb) : QW X B (.BoolOp .Or (a :: b :: rest) pos) (dOr ta tb) := PW.imp (pw_or ha hb) fun σ H Q ⟨F, pa, t, env, P, C, hd, k⟩ =>
  ⟨F, pa, t, env, _, C, hd, fun b F' pa' t' H' g C' q => by
    cases b with
    | false => rw [if_neg Bool.false_ne_true]; exact ⟨F', pa', t', env, _, C', q, fun c F2 pa2 t2 H2 g2 C2 q2 => k c F2 pa2 t2 H2 (g.trans g2) C2 q2⟩
    | true => rw [if_pos rfl]; exact k true F' pa' t' H' g C' q⟩
theorem q_not (ha : QT X B a ta) : QT X B (.UnaryOp .Not a pos) (dNot ta) := PT.imp (pt_not ha) fun σ H Q ⟨F, pa, t, env, P, C, hd, k⟩ =>
  ⟨F, pa, t, env, _, C, hd, fun b F' pa' t' H' g C' q => k (!b) F' pa' t' H' g C' q⟩
theorem q_ifE (hc : QT X B c ta) (ha : QE X B a da) (hb : QE X B b db) : QE X B (.IfExp c a b pos) (dIfE ta da db) := PE.imp (pe_ifExp hc ha hb) fun σ H Q ⟨F, pa, t, env, P, C, hd, k⟩ =>
  ⟨F, pa, t, env, _, C, hd, fun b F' pa' t' H' g C' q => by
    cases b with
    | true => rw [if_pos rfl]; exact ⟨F', pa', t', env, P, C', q, fun w d F2 pa2 t2 H2 g2 C2 r2 q2 => k w d F2 pa2 t2 H2 (g.trans g2) C2 r2 q2⟩
    | false => rw [if_neg Bool.false_ne_true]; exact ⟨F', pa', t', env, P, C', q, fun w d F2 pa2 t2 H2 g2 C2 r2 q2 => k w d F2 pa2 t2 H2 (g.trans g2) C2 r2 q2⟩⟩
theorem q_one {op} (h : QE X B a da) : QE X B (.BoolOp op [a] pos) da := pe_one h
theorem q_andV (ha : QE X B a da) (hb : QE X B (.BoolOp .And (b :: rest) pos) db) : QE X B (.BoolOp .And (a :: b :: rest) pos) (dAndV da db) := PE.imp (pe_and ha hb) fun σ H Q ⟨F, pa, t, env, P, C, hd, k⟩ =>
  ⟨F, pa, t, env, _, C, hd, fun v d F' pa' t' H' g C' r q => by
    cases d with
    | bl b =>
      unfold RelD at r
      refine ⟨b, r, ?_⟩
      cases b with
      | true => rw [if_pos rfl]; exact ⟨F', pa', t', env, P, C', q, fun w d F2 pa2 t2 H2 g2 C2 r2 q2 => k w d F2 pa2 t2 H2 (g.trans g2) C2 r2 q2⟩
      | false => rw [if_neg Bool.false_ne_true]; exact k _ _ F' pa' t' H' g C' (rD_bl _) q
    | _ => exact q.elim⟩
theorem q_notV (ha : QE X B a da) : QE X B (.UnaryOp .Not a pos) (dNotV da) := PE.imp (pe_not ha) fun σ H Q ⟨F, pa, t, env, P, C, hd, k⟩ =>
  ⟨F, pa, t, env, _, C, hd, fun v d F' pa' t' H' g C' r q => by
    cases d with
    | bl b =>
      unfold RelD at r
      exact ⟨b, r, k _ _ F' pa' t' H' g C' (rD_bl _) q⟩
    | _ => exact q.elim⟩
end
end Q
/-! QH4 -/
namespace Q
open PySem L2 PyProof.Rows
section
variable {X : Cx} {B : Bs} {K : PySem.W.Frag} {a b c e : Expr} {es : List Expr} {pos : Pos} {da db dc : DE} {as : DA}
/-- two comparisons -/
theorem ev_chain {r r' : R2} {o o' : DOp} (hr : ROp K r o) (hr' : ROp K r' o') : ∀ σ H Q, teOf K B (dChain o o' da db dc) σ H Q → tChain r r' (tvOf K B da) (tvOf K B db) (tvOf K B dc) σ H Q := fun σ H Q ⟨F, pa, t, env, P, C, hd, k⟩ =>
  ⟨F, pa, t, env, _, C, hd, fun v x F1 pa1 t1 H1 g1 C1 r1 q1 => ⟨F1, pa1, t1, env, _, C1, q1, fun u y F2 pa2 t2 H2 g2 C2 r2 q2 =>
    hr B F2 pa2 t2 env σ H2 x y v u _ _ C2 (r1.mono g2) r2 q2 fun z d F3 H3 g3 C3 r3 q3 => by
      cases d with
      | bl k' =>
        unfold RelD at r3
        refine ⟨k', r3, ?_⟩
        cases k' with
        | true =>
          rw [if_pos rfl]
          exact ⟨F3, pa2, t2, env, _, C3, q3, fun w dw F4 pa4 t4 H4 g4 C4 r4 q4 => hr' B F4 pa4 t4 env σ H4 y dw u w _ Q C4 ((r2.mono g3).mono g4) r4 q4 fun w d F' H' g5 C5 r5 q5 =>
            k w d F' pa4 t4 H' ((((g1.trans g2).trans g3).trans g4).trans g5) C5 r5 q5⟩
        | false =>
          rw [if_neg Bool.false_ne_true]
          exact k _ _ F3 pa2 t2 H3 ((g1.trans g2).trans g3) C3 (rD_bl _) q3
      | _ => exact q3.elim⟩⟩
theorem q_chain {op op' : CmpOp} {r r' : R2} {o o' : DOp} (ho : OpR X (compareOp op) r) (hr : ROp X.K r o) (ho' : OpR X (compareOp op') r') (hr' : ROp X.K r' o') (ha : QV X B a da) (hb : QV X B b db) (hc : QV X B c dc)
    (hm : lastMarks [op, op'] [b, c] = false := by with_unfolding_all rfl) : QE X B (.Compare a [op, op'] [b, c] pos) (dChain o o' da db dc) := PE.imp (pe_chain ho ho' ha hb hc hm) (ev_chain hr hr')
theorem q_tchain {op op' : CmpOp} {r r' : R2} {o o' : DOp} (ho : OpR X (compareOp op) r) (hr : ROp X.K r o) (ho' : OpR X (compareOp op') r') (hr' : ROp X.K r' o') (ha : QV X B a da) (hb : QV X B b db) (hc : QV X B c dc)
    (hm : lastMarks [op, op'] [b, c] = false := by with_unfolding_all rfl) : QT X B (.Compare a [op, op'] [b, c] pos) (dB (dChain o o' da db dc)) := PT.imp (pt_chain ho ho' ha hb hc hm) fun σ H Q ⟨F, pa, t, env, P, C, hd, k⟩ => by
  refine ev_chain hr hr' σ H _ ⟨F, pa, t, env, _, C, hd, fun v d F' pa' t' H' g C' rd q => ?_⟩
  cases d with
  | bl b => unfold RelD at rd; exact ⟨b, rd, k b F' pa' t' H' g C' q⟩
  | _ => exact q.elim
/-! ### fields of frozen instances, calls of defs and methods -/
theorem zip_lookup {F : Hp} {pa : Option Addr} {f : Str} : ∀ {ns : List Str} {l : List D} {vs : List V} {d : D}, RelL K F pa l vs → (ns.zip l).lookup f = some d → ∃ v, (ns.zip vs).lookup f = some v ∧ RelD K F pa d v
  | [], _, _, _, _, h => by simp at h
  | _ :: _, [], _, _, _, h => by simp at h
  | n :: ns, x :: l, vs, d, r, h => by
    obtain ⟨v, vr, rfl, r1, r2⟩ := r.inv
    simp only [List.zip_cons_cons, List.lookup_cons] at h ⊢
    cases q : f == n with
    | true =>
      rw [q] at h; cases h
      exact ⟨v, rfl, r1⟩
    | false =>
      rw [q] at h
      exact zip_lookup r2 h
theorem zip_none {f : Str} : ∀ {ns : List Str} {vs : List V}, ns.contains f = false → (ns.zip vs).lookup f = none
  | [], _, _ => by simp
  | _ :: _, [], _ => by simp
  | n :: ns, v :: vs, h => by
    simp only [List.contains_cons, Bool.or_eq_false_iff] at h
    simp only [List.zip_cons_cons, List.lookup_cons, h.1]
    exact zip_none h.2
/-- a field of an instance of a class of the text -/
theorem q_fld {f : Str} {Cl : Addr} (ha : QV X B e da) (cl : Cls X.K Cl) (na : NoAttr X.K Cl f) (hb : attributeBase e f X.env (eval e X.env) = eval e X.env := by rfl) : QE X B (.Attribute e f pos) (dFld Cl f da) := PE.imp (pe_fld ha hb) fun σ H Q ⟨F, pa, t, env, P, C, hd, k⟩ =>
  ⟨F, pa, t, env, _, C, hd, fun v x F1 pa1 t1 H1 g1 C1 r1 q1 => by
    cases x with
    | ins C' ns l =>
      obtain ⟨rfl, q1⟩ := q1
      obtain ⟨a, dx, us, rfl, e1, _, r⟩ := r1.ins C1
      cases z : (ns.zip l).lookup f with
      | none => rw [z] at q1; exact q1.elim
      | some d =>
        rw [z] at q1
        obtain ⟨w, h1, h2⟩ := zip_lookup r z
        exact ⟨a, C', dx, _, w, rfl, e1, cl, na, h1, k w d F1 pa1 t1 H1 g1 C1 h2 q1⟩
    | _ => exact q1.elim⟩
end
/-- a def's promise, at the heap -/
def lift (K : PySem.W.Frag) (sp : PSp) : Sp := fun vs H Q E => ∃ F pa t ds P, Cf K (B0 F pa t H) F pa t [] [] H ∧ RelL K F pa ds vs ∧ sp ds t P ∧
  ∀ v d F' pa' t' H', Cf K (B0 F pa t H) F' pa' t' [] [] H' → RelD K F' pa' d v → P d t' → Q v H'
/-- .. that gives a new list -/
def liftN (K : PySem.W.Frag) (sp : PSp) : Sp := fun vs H Q E => ∃ F pa t ds P, Cf K (B0 F pa t H) F pa t [] [] H ∧ RelL K F pa ds vs ∧ sp ds t P ∧
  ∀ p h d F' pa' t' H', Cf K (B0 F pa t H) F' pa' t' [] [] H' → F' p = none → H p = none → pa' ≠ some p → t'.obs p = none → H' p = some h → RelO1 K F' pa' d h → P d t' → Q (.ref p) H'
section
variable {X : Cx} {B : Bs} {K : PySem.W.Frag} {a b c e o : Expr} {es : List Expr} {pos : Pos} {da db dc : DE} {as : DA} {CX : CXT} {k : Nat} {f C : Addr} {fd : FuncData} {ps : List Str} {sp : PSp} {dvs : List V} {dds : List D} {ds : List Value} {E : XK} {x m : Str} {p apos : Pos}
theorem ev_call (hd : ∀ F pa, RelL K F pa dds dvs) : ∀ σ H Q, teOf K B (dCall sp dds as) σ H Q → tCall (lift K sp) dvs E (taOf K B as) σ H Q := fun σ H Q ⟨F, pa, t, env, P, W, h, k⟩ =>
  ⟨F, pa, t, env, _, W, h, fun vs xs F1 pa1 t1 H1 g1 W1 r1 q1 => ⟨F1, pa1, t1, xs ++ dds, P, W1.call, r1.append (hd _ _), q1, fun v d F' pa' t' H' W' r' q' => by
    obtain ⟨g, W2⟩ := W1.after W'
    exact k v d F' pa' t' H' (g1.trans g) W2 r' q'⟩⟩
theorem ev_callN (hd : ∀ F pa, RelL K F pa dds dvs) : ∀ σ H Q, tnOf K B (dCall sp dds as) σ H Q → tCall (liftN K sp) dvs E (taOf K B as) σ H Q := fun σ H Q ⟨F, pa, t, env, P, W, h, k⟩ =>
  ⟨F, pa, t, env, _, W, h, fun vs xs F1 pa1 t1 H1 g1 W1 r1 q1 => ⟨F1, pa1, t1, xs ++ dds, P, W1.call, r1.append (hd _ _), q1, fun p hh d F' pa' t' H' W' n1 n2 n3 n4 e' r' q' => by
    obtain ⟨g, W2⟩ := W1.after W'
    refine k p hh d F' pa' t' H' (g1.trans g) W2 ⟨n1, (W1.fresh n2).2.1, n3, fun j d' ej sj => ?_, n4⟩ e' r' q'
    obtain ⟨a, u, s1, e1, _⟩ := W1.own j d' ej
    rw [sj] at s1
    cases s1
    rw [n2] at e1; cases e1⟩⟩
theorem q_call (F : FnOk X.prog X.w X.K X.mg X.base CX k f fd ps (lift X.K sp)) (hr : Room k X.A) (hg : Gl X x) (hm : X.mg x = some (.ref f)) (hk : PySem.W.keepIn X.K (.ref f) = true) (hb : Binds X.K fd ps ds) (hd : Vals dvs ds) (hD : ∀ F pa, RelL X.K F pa dds dvs) (hx : Passes CX X E)
    (ha : QA X B (e :: es) as) (hdb : (x == ("__debug__" : Str)) = false := by decide) (he : starEach (e :: es) X.env = (false, eval e X.env) :: starEach es X.env := by rfl) (hpl : (backTo pos (starEach es X.env)).any (·.1) = false := by rfl) :
    QE X B (.Call (.Name x p) (e :: es) [] pos) (dCall sp dds as) := PE.imp (pe_call F hr hg hm hk hb hd hx ha hdb he hpl) (ev_call hD)
theorem q_callN (F : FnOk X.prog X.w X.K X.mg X.base CX k f fd ps (liftN X.K sp)) (hr : Room k X.A) (hg : Gl X x) (hm : X.mg x = some (.ref f)) (hk : PySem.W.keepIn X.K (.ref f) = true) (hb : Binds X.K fd ps ds) (hd : Vals dvs ds) (hD : ∀ F pa, RelL X.K F pa dds dvs) (hx : Passes CX X E)
    (ha : QA X B (e :: es) as) (hdb : (x == ("__debug__" : Str)) = false := by decide) (he : starEach (e :: es) X.env = (false, eval e X.env) :: starEach es X.env := by rfl) (hpl : (backTo pos (starEach es X.env)).any (·.1) = false := by rfl) :
    QN X B (.Call (.Name x p) (e :: es) [] pos) (dCall sp dds as) := PE.imp (pe_call F hr hg hm hk hb hd hx ha hdb he hpl) (ev_callN hD)
/-- a method of a frozen instance -/
theorem ev_meth (hd : ∀ F pa, RelL K F pa dds dvs) : ∀ σ H Q, teOf K B (dMeth C m sp dds da as) σ H Q → tMeth C m (lift K sp) dvs E (teOf K B da) (taOf K B as) σ H Q := fun σ H Q ⟨F, pa, t, env, P, W, h, k⟩ =>
  ⟨F, pa, t, env, _, W, h, fun v x F1 pa1 t1 H1 g1 W1 r1 q1 => by
    cases x with
    | ins C' ns l =>
      obtain ⟨rfl, hn, q1⟩ := q1
      have r1' := r1
      unfold RelD at r1'
      obtain ⟨a, dx, us, rfl, e1, _, _⟩ := r1'
      refine ⟨a, dx, _, rfl, W1.sub _ _ e1, zip_none hn, F1, pa1, t1, env, _, W1, q1, fun vs xs F2 pa2 t2 H2 g2 W2 r2 q2 => ⟨F2, pa2, t2, .ins C' ns l :: (xs ++ dds), P, W2.call, RelL.cons (RelD.mono g2 _ _ r1) (r2.append (hd _ _)), q2, fun v d F' pa' t' H' W' r' q' => ?_⟩⟩
      obtain ⟨g, W3⟩ := W2.after W'
      exact k v d F' pa' t' H' ((g1.trans g2).trans g) W3 r' q'
    | _ => exact q1.elim⟩
theorem q_meth0 {pl : Sem Bool} (he : QE X B o da) (c : Cls X.K C) (hm : Meth X.K C m f) (F : FnOk X.prog X.w X.K X.mg X.base CX k f fd ps (lift X.K sp)) (hr : Room k X.A) (hb : Binds X.K fd ps ds) (hd : Vals dvs ds) (hD : ∀ F pa, RelL X.K F pa dds dvs) (hx : Passes CX X E)
    (ht : eval (.Call (.Attribute o m apos) [] [] pos) X.env = (do
      let ov ← eval o X.env
      standAt apos.atName
      let (f, first) ← holding [ov] (getMethod ov m pl)
      callWith pos f first (backTo pos (starEach [] X.env)) (backToKw pos (keywordEach [] X.env))) := by rfl) :
    QE X B (.Call (.Attribute o m apos) [] [] pos) (dMeth C m sp dds da dNil) := PE.imp (pe_meth0 he c hm F hr hb hd hx ht) fun σ H Q h => by
  obtain ⟨F, pa, t, env, P, W, h1, h2⟩ := ev_meth (E := E) hD σ H Q h
  exact ⟨F, pa, t, env, _, W, h1, fun v d F' pa' t' H' g W' r q => by
    obtain ⟨a, dx, fs, e1, e2, e3, z⟩ := h2 v d F' pa' t' H' g W' r q
    refine ⟨a, dx, fs, e1, e2, e3, ?_⟩
    obtain ⟨F2, pa2, t2, env2, P2, W2, q2, k2⟩ := z
    exact k2 [] [] F2 pa2 t2 H' (Gr.refl _ _) W2 RelL.nil q2⟩
end
end Q
/-! QH5 -/
namespace Q
open PySem L2 PyProof.Rows
section
variable {X : Cx} {B : Bs} {K : PySem.W.Frag} {a b c e : Expr} {es : List Expr} {pos : Pos} {da db dc : DE} {as : DA} {g : DG} {gs : DGs} {st : Stmt} {rest sts sts2 : List Stmt} {s1 s2 : DS} {dt : DT}
/-! ### targets -/
variable {vs : List Nat}
theorem wipe_set {σ : L2.St} {i : Nat} {x : Option V} : ∀ {vs : List Nat}, i ∈ vs → wipe (σ.set i x) vs = wipe σ vs
  | [], h => by simp at h
  | j :: r, h => by
    show (wipe (σ.set i x) r).set j none = (wipe σ r).set j none
    by_cases hr : i ∈ r
    · rw [wipe_set hr]
    · have hj : i = j := by
        rcases List.mem_cons.mp h with z | z
        · exact z
        · exact absurd z hr
      subst hj
      apply List.ext_getElem?
      intro k
      by_cases hk : i = k
      · subst hk
        rw [List.getElem?_set_self', List.getElem?_set_self', wipe_out hr, wipe_out hr, List.getElem?_set_self']
        cases σ[i]? <;> rfl
      · rw [List.getElem?_set_ne hk, List.getElem?_set_ne hk]
        exact wipe_setk hk
  where
  wipe_setk {σ : L2.St} {i k : Nat} {x : Option V} (hk : i ≠ k) : ∀ {vs : List Nat}, (wipe (σ.set i x) vs)[k]? = (wipe σ vs)[k]?
    | [] => by show (σ.set i x)[k]? = σ[k]?; rw [List.getElem?_set_ne hk]
    | j :: r => by
      show ((wipe (σ.set i x) r).set j none)[k]? = ((wipe σ r).set j none)[k]?
      by_cases hj : j = k
      · subst hj
        rw [List.getElem?_set_self', List.getElem?_set_self', wipe_setk hk]
      · rw [List.getElem?_set_ne hj, List.getElem?_set_ne hj]
        exact wipe_setk hk
theorem q_gname {i : Nat} {x : Str} {pos : Pos} (h : PG X (.Name x pos) (L2.gName i)) (hi : i ∈ vs) : QG X B vs (.Name x pos) (Q.gName i) := PG.imp h fun v σ H Q ⟨F, pa, t, env, d, P, C, r, hd, k⟩ =>
  k F pa t _ _ H (Gr.refl _ _) (C.setV i r) (wipe_set hi) hd
/-! ### statements -/
theorem q_nil : QSs X B [] dNext := PSs.imp pss_nil fun D σ H ⟨F, pa, t, env, DD, C, h, R⟩ => R.nx F pa t env σ H (Gr.refl _ _) C h
theorem q_cons (h1 : QS X B st s1) (h2 : QSs X B rest s2) : QSs X B (st :: rest) (dSeq s1 s2) := PSs.imp (pss_cons h1 h2) fun D σ H ⟨F, pa, t, env, DD, C, h, R⟩ =>
  ⟨F, pa, t, env, _, C, h, ⟨fun F pa t env σ H g C q => ⟨F, pa, t, env, DD, C, q, R.mono g⟩, R.rt, R.bk, R.ct⟩⟩
/-- the name's own list is frozen ahead of the rest -/
theorem q_frz {i : Nat} (hB : B.Top) (h2 : QSs X B rest s2) : QSs X B rest (dSeq (dFrz i) s2) := PSs.imp h2 fun D σ H ⟨F, pa, t, env, DD, C, h, R⟩ => by
  have h : (match env[i]? with | some (.own d) => s2 DD (env.set i (.val d)) t | _ => s2 DD env t) := h
  cases q : env[i]? with
  | none => rw [q] at h; exact ⟨F, pa, t, env, DD, C, h, R⟩
  | some z =>
    rw [q] at h
    cases z with
    | own d =>
      obtain ⟨F', g, C'⟩ := C.frzO hB q
      exact ⟨F', pa, t, _, DD, C', h, R.mono g⟩
    | val d => exact ⟨F, pa, t, env, DD, C, h, R⟩
    | no => exact ⟨F, pa, t, env, DD, C, h, R⟩
theorem ret0 {F : Hp} {pa : Option Addr} {t : Ts} {H : Hp} {d : D} {v : V} (hm : B.m = false) (r : RelD K F pa d v) : RetRel K B F pa t H d v := by
  unfold RetRel; rw [hm]; exact r
theorem q_ret (hm : B.m = false) (h : QE X B e da) : QS X B (.Return (some e) pos) (dRet da) := PS.imp (ps_ret h) fun D σ H ⟨F, pa, t, env, DD, C, h, R⟩ =>
  ⟨F, pa, t, env, _, C, h, fun v d F' pa' t' H' g C' r q => R.rt v d F' pa' t' env σ H' g C' (ret0 hm r) q⟩
theorem q_retNew (hm : B.m = true) (h : QN X B e da) : QS X B (.Return (some e) pos) (dRet da) := PS.imp (ps_ret h) fun D σ H ⟨F, pa, t, env, DD, C, h, R⟩ =>
  ⟨F, pa, t, env, _, C, h, fun p hh d F' pa' t' H' g C' n e r q => R.rt _ d F' pa' t' env σ H' g C' (by unfold RetRel; rw [hm]; exact .inr ⟨p, hh, rfl, n.f, n.b, n.a, n.o, e, r⟩) q⟩
theorem q_set {i : Nat} {x : Str} {pos' : Pos} (hN : X.N.Nodup) (hi : X.N[i]? = some x) (hx : Loc X.env.scope x) (he : QE X B e da) (hs : swapsWith e (some (.Name x pos')) pos.line X.env = pure false := by rfl) (hf : X.fn x = true ∨ X.env.scope.names.lookup x = some .local := by first | exact .inl rfl | exact .inr rfl | assumption) :
    QS X B (.Assign [.Name x pos'] e pos) (dAsg da (Q.gName i)) := PS.imp (ps_set hN hi hx he hs hf) fun D σ H ⟨F, pa, t, env, DD, C, h, R⟩ =>
  ⟨F, pa, t, env, _, C, h, fun v d F' pa' t' H' g' C' r q => R.nx F' pa' t' _ _ H' g' (C'.setV i r) q⟩
/-- a new list, the name's own -/
theorem q_setN {i : Nat} {x : Str} {pos' : Pos} (hN : X.N.Nodup) (hi : X.N[i]? = some x) (hx : Loc X.env.scope x) (he : QN X B e da) (hs : swapsWith e (some (.Name x pos')) pos.line X.env = pure false := by rfl) (hf : X.fn x = true ∨ X.env.scope.names.lookup x = some .local := by first | exact .inl rfl | exact .inr rfl | assumption) :
    QS X B (.Assign [.Name x pos'] e pos) (dAsgN i da) := PS.imp (ps_set hN hi hx he hs hf) fun D σ H ⟨F, pa, t, env, DD, C, h, R⟩ =>
  ⟨F, pa, t, env, _, C, h, fun p hh d F' pa' t' H' g' C' n e r q => R.nx F' pa' t' _ _ H' g' (C'.setN i n e r) q⟩
theorem q_par {i j : Nat} {x y : Str} {px py pt : Pos} {kt k2 pt2} (hc : X.calm = true) (hN : X.N.Nodup) (hi : X.N[i]? = some x) (hj : X.N[j]? = some y) (hij : i ≠ j)
    (hx : X.env.scope.names.lookup x = some .local) (hy : X.env.scope.names.lookup y = some .local) (ha : QA X B [a, b] as)
    (hw : swappedStores [.Tuple [.Name x px, .Name y py] kt pt] (.Tuple [a, b] k2 pt2) X.env = pure (some [x, y]))
    (hs : swapsWithSole [.Tuple [.Name x px, .Name y py] kt pt] (.Tuple [a, b] k2 pt2) pos.line X.env = pure false := by rfl) :
    QS X B (.Assign [.Tuple [.Name x px, .Name y py] kt pt] (.Tuple [a, b] k2 pt2) pos) (dPar i j as) := PS.imp (ps_par hc hN hi hj hij hx hy ha hw hs) fun D σ H ⟨F, pa, t, env, DD, C, h, R⟩ =>
  ⟨F, pa, t, env, _, C, h, fun vs ds F' pa' t' H' g' C' r q => by
    match ds, q with
    | [d, e], q =>
      obtain ⟨v, vr, rfl, r1, r2⟩ := r.inv
      obtain ⟨w, wr, rfl, r3, r4⟩ := r2.inv
      obtain rfl := r4.inv0
      exact ⟨v, w, rfl, R.nx F' pa' t' _ _ H' g' ((C'.setV i r1).setV j r3) q⟩⟩
theorem q_if {l r : List Stmt} (hc : QT X B c dt) (ha : QSs X B l s1) (hb : QSs X B r s2) : QS X B (.If c l r pos) (dIf dt s1 s2) := PS.imp (ps_if hc ha hb) fun D σ H ⟨F, pa, t, env, DD, C, h, R⟩ =>
  ⟨F, pa, t, env, _, C, h, fun k F' pa' t' H' g C' q => by
    cases k with
    | true => rw [if_pos rfl]; exact ⟨F', pa', t', env, DD, C', q, R.mono g⟩
    | false => rw [if_neg Bool.false_ne_true]; exact ⟨F', pa', t', env, DD, C', q, R.mono g⟩⟩
/-! ### lists of a name's own, written -/
theorem own_lst {F : Hp} {pa : Option Addr} {t : Ts} {env : En} {σ : L2.St} {H : Hp} {i : Nat} {l : List D} (C : Cf K B F pa t env σ H) (h : env[i]? = some (Sl.own (.lst l))) : ∃ a vs, σ[i]? = some (some (V.ref a)) ∧ H a = some (.lst vs) ∧ RelL K F pa l vs := by
  obtain ⟨a, u, h1, h2, h3, _⟩ := C.own i _ h
  obtain ⟨vs, rfl, q⟩ := h3
  exact ⟨a, vs, h1, h2, q⟩
theorem get_own {env : En} {i : Nat} {p : List D → Prop} (h : match env[i]? with | some (.own (.lst l)) => p l | _ => False) : ∃ l, env[i]? = some (Sl.own (.lst l)) ∧ p l := by
  split at h
  · rename_i l e; exact ⟨l, e, h⟩
  · exact h.elim
theorem q_app {i : Nat} (hp : PE X e (tBM X.K "list" rAppend (tVar i) (tCons (teOf X.K B da) tNil))) (hs : swapsWith e none pos.line X.env = pure false := by rfl) : QS X B (.Expr e pos) (dApp i da) :=
  PS.imp (ps_expr hp hs) fun De σ H ⟨F, pa, t, env, DD, C, h, R⟩ => by
    obtain ⟨l, hi, h⟩ := get_own h
    obtain ⟨a, vs, s1, e1, r1⟩ := own_lst C hi
    refine ⟨.ref a, s1, Or.inl ⟨rfl, vs, SqL.of e1⟩, F, pa, t, env, _, C, h, fun w y F' pa' t' H' g' C' r2 q2 => ?_⟩
    obtain ⟨hl, q2⟩ := q2
    obtain ⟨a', us, s2, e2, r3⟩ := own_lst C' hi
    rw [s1] at s2; cases s2
    refine ⟨a, us, w, rfl, rfl, e2, by rw [r3.len]; exact zlt hl, ?_⟩
    exact R.nx F' pa' t' _ σ _ g' (C'.wrO (d' := .lst (l ++ [y])) hi s1 ⟨_, rfl, r3.append (.cons r2 .nil)⟩) q2
/-! ### loops -/
/-- what is walked -/
def ItOk (K : PySem.W.Frag) (J : It) (items : List D) (F0 : Hp) (pa0 : Option Addr) : Prop := ∀ (B : Bs) F pa t env σ H (i : Nat), Gr F0 pa0 F pa → Cf K B F pa t env σ H →
  (items.length = i → J.stop i H) ∧ ∀ d, items[i]? = some d → J.go i H ∧ ∀ x H', J.yld i H x H' → Gf H H' ∧ ∃ F', (∀ a o, F' a = some o → (∃ o', F a = some o') ∨ H a = none) ∧ Gr F pa F' pa ∧ Cf K B F' pa t env σ H' ∧ RelD K F' pa d x
theorem ItOk.mono {J : It} {items : List D} {F0 F1 : Hp} {p0 p1 : Option Addr} (h : ItOk K J items F0 p0) (g : Gr F0 p0 F1 p1) : ItOk K J items F1 p1 := fun B F pa t env σ H i g' C => h B F pa t env σ H i (g.trans g') C
def tiOf (K : PySem.W.Frag) (B : Bs) (di : DI) : TI := fun σ H R => ∃ F pa t env P, Cf K B F pa t env σ H ∧ di env t P ∧
  ∀ J items F' pa' t' H', Gr F pa F' pa' → Cf K B F' pa' t' env σ H' → ItOk K J items F' pa' → P items t' → R J H'
abbrev QI (X : Cx) (B : Bs) (tg e : Expr) (di : DI) : Prop := PI X tg e (tiOf X.K B di)
theorem PI.imp {tg e : Expr} {w w' : TI} (h : PI X tg e w) (i : ∀ σ H R, w' σ H R → w σ H R) : PI X tg e w' := ⟨fun pins s σ H R I q => h.run pins s σ H R I (i σ H R q)⟩
theorem it_list {F0 : Hp} {pa0 : Option Addr} {a : Addr} {l : List D} {vs : List V} (e : SqL K F0 a vs) (r : RelL K F0 pa0 l vs) : ItOk K (Itl K a) l F0 pa0 := fun B F pa t env σ H i g C => by
  have eH : SqL K H a vs := sq_mono C.sub (sq_mono g.f e)
  refine ⟨fun hi => ⟨vs, eH, by rw [r.len]; exact Nat.le_of_eq hi⟩, fun d hd => ?_⟩
  obtain ⟨v, hv, rv⟩ := r.get hd
  refine ⟨⟨vs, v, eH, hv⟩, fun x H' y => ?_⟩
  obtain ⟨rfl, y⟩ := y
  have y := y vs eH
  rw [hv] at y; cases y
  exact ⟨fun _ _ z => z, F, fun a o e => .inl ⟨o, e⟩, Gr.refl _ _, C, RelD.mono g d v rv⟩
theorem it_tup {F0 : Hp} {pa0 : Option Addr} {a : Addr} {l : List D} {vs : List V} (e : F0 a = some (.tup vs)) (r : RelL K F0 pa0 l vs) : ItOk K (Itt K a) l F0 pa0 := fun B F pa t env σ H i g C => by
  have eH : SqT K H a vs := SqT.of (C.sub _ _ (g.f _ _ e))
  refine ⟨fun hi => ⟨vs, eH, by rw [r.len]; exact Nat.le_of_eq hi⟩, fun d hd => ?_⟩
  obtain ⟨v, hv, rv⟩ := r.get hd
  refine ⟨⟨vs, v, eH, hv⟩, fun x H' y => ?_⟩
  obtain ⟨rfl, y⟩ := y
  have y := y vs eH
  rw [hv] at y; cases y
  exact ⟨fun _ _ z => z, F, fun a o e => .inl ⟨o, e⟩, Gr.refl _ _, C, RelD.mono g d v rv⟩
theorem it_rng {F0 : Hp} {pa0 : Option Addr} (lo : Int) (n : Nat) : ItOk K (Itr lo n) (rng lo n) F0 pa0 := fun B F pa t env σ H i g C => by
  refine ⟨fun hi => by rw [rng_len] at hi; exact Nat.le_of_eq hi, fun d hd => ?_⟩
  obtain ⟨h1, rfl⟩ := rng_get hd
  refine ⟨h1, fun x H' y => ?_⟩
  obtain ⟨rfl, rfl⟩ := y
  exact ⟨fun _ _ z => z, F, fun a o e => .inl ⟨o, e⟩, Gr.refl _ _, C, rD_int _⟩
theorem q_irng1 {tg : Expr} {p pos : Pos} (hg : Gl X "range") (hm : X.mg "range" = none) (ha : QV X B a da) (hs : starEach [a] X.env = [(false, eval a X.env)] := by rfl) (hs' : starEach (a :: []) X.env = (false, eval a X.env) :: starEach [] X.env := by rfl) : QI X B tg (.Call (.Name "range" p) [a] [] pos) (iRng1 da) := PI.imp (pi_range1 hg hm (pa_cons ha pa_nil hs') hs) fun σ H R ⟨F, pa, t, env, P, C, h, k⟩ =>
  ⟨F, pa, t, env, _, C, h, fun v d F' pa' t' H' g C' r q => by
    cases d with
    | int n =>
      obtain ⟨⟨h1, h2⟩, q⟩ := q
      exact ⟨n, by rw [r.int C'], by omega, by omega, k _ _ F' pa' t' H' g C' (it_rng 0 n.toNat) q⟩
    | _ => exact q.elim⟩
theorem q_for {tg iter : Expr} {body : List Stmt} {di : DI} (hp : PassesOwn (model X.prog X.w) X.A X.env X.xe) (hc : X.calm = true) (hi : QI X B tg iter di) (hg : QG X B vs tg g) (hb : QSs X B body s1) (hs : ∀ x, foldedSetIterable iter X.env x = pure x := by intro _; rfl) : QS X B (.For tg iter body [] pos) (dFor di g s1) :=
  PS.imp (ps_for hp hc hi hg hb hs) fun De σ H ⟨F, pa, t, env, DD, C, h, R⟩ => ⟨F, pa, t, env, _, C, h, fun J items F1 pa1 t1 H1 g1 C1 iok q => by
    obtain ⟨Inv, h0, hstep, hd⟩ := q
    refine ⟨fun i m σ H => m = items.length - i ∧ i ≤ items.length ∧ ∃ F pa t env, Gr F1 pa1 F pa ∧ Cf X.K B F pa t env σ H ∧ Inv i env t, ⟨_, rfl, Nat.zero_le _, F1, pa1, t1, env, Gr.refl _ _, C1, h0⟩, ?_⟩
    rintro i m σ2 H2 ⟨rfl, hi, F2, pa2, t2, env2, g2, C2, q2⟩
    have io := iok B F2 pa2 t2 env2 σ2 H2 i g2 C2
    by_cases hlt : i < items.length
    · have hx : items[i]? = some items[i] := by simp [hlt]
      obtain ⟨go, yl⟩ := io.2 _ hx
      refine .inr ⟨go, fun σ' H' => ∃ m', m' < items.length - i ∧ (m' = items.length - (i + 1) ∧ i + 1 ≤ items.length ∧ ∃ F pa t env, Gr F1 pa1 F pa ∧ Cf X.K B F pa t env σ' H' ∧ Inv (i + 1) env t), fun σ' H' z => z, fun x H' y => ?_⟩
      obtain ⟨_, F3, _, g3, C3, r3⟩ := yl x H' y
      refine ⟨F3, pa2, t2, env2, items[i], _, C3, r3, hstep i _ env2 t2 hx q2, fun F4 pa4 t4 env4 σ4 H4 g4 C4 _ q4 => ?_⟩
      have g14 := (g2.trans g3).trans g4
      have nn : ∀ F pa t env σ' H', Gr F4 pa4 F pa → Cf X.K B F pa t env σ' H' → Inv (i + 1) env t → ∃ m', m' < items.length - i ∧ (m' = items.length - (i + 1) ∧ i + 1 ≤ items.length ∧ ∃ F pa t env, Gr F1 pa1 F pa ∧ Cf X.K B F pa t env σ' H' ∧ Inv (i + 1) env t) := fun F pa t env σ' H' g C' q => ⟨items.length - (i + 1), by omega, rfl, hlt, F, pa, t, env, g14.trans g, C', q⟩
      have R4 := R.mono (g1.trans g14)
      exact ⟨F4, pa4, t4, env4, _, C4, q4, ⟨nn, R4.rt, R4.nx, nn⟩⟩
    · have e : i = items.length := by omega
      subst e
      exact .inl ⟨io.1 rfl, R.nx F2 pa2 t2 env2 σ2 H2 (g1.trans g2) C2 (hd env2 t2 q2)⟩⟩
end
end Q
/-! QH6 -/
namespace Q
open PySem L2 PyProof.Rows
section
variable {X : Cx} {B : Bs} {K : PySem.W.Frag} {a b c e : Expr} {es : List Expr} {pos : Pos} {da db dc : DE} {as : DA} {g : DG} {gs : DGs} {dt : DT}
/-! ### comprehensions -/
theorem wipeE_length (env : En) : ∀ vs : List Nat, (wipeE env vs).length = env.length
  | [] => rfl
  | i :: r => by simp [wipeE, wipeE_length env r]
theorem wipeE_some {env : En} {i : Nat} {x : Sl} (hx : x ≠ .no) : ∀ {vs : List Nat}, (wipeE env vs)[i]? = some x → env[i]? = some x ∧ i ∉ vs
  | [], h => ⟨h, by simp⟩
  | j :: r, h => by
    rcases get_set (show ((wipeE env r).set j .no)[i]? = some x from h) with ⟨_, z⟩ | ⟨ne, z⟩
    · exact absurd z hx
    · obtain ⟨h1, h2⟩ := wipeE_some hx z
      exact ⟨h1, by simp [h2, Ne.symm ne]⟩
theorem wipeE_out {env : En} {i : Nat} : ∀ {vs : List Nat}, i ∉ vs → (wipeE env vs)[i]? = env[i]?
  | [], _ => rfl
  | j :: r, h => by
    simp only [List.mem_cons, not_or] at h
    show ((wipeE env r).set j .no)[i]? = _
    rw [List.getElem?_set_ne (Ne.symm h.1)]
    exact wipeE_out h.2
/-- the addresses of the names' own objects -/
def ownA (env : En) (σ : L2.St) : List Addr := (env.zip σ).filterMap fun p => match p with
  | (.own _, some (.ref a)) => some a
  | _ => none
theorem mem_ownA {env : En} {σ : L2.St} {a : Addr} : a ∈ ownA env σ ↔ ∃ (i : Nat) (d : D), env[i]? = some (Sl.own d) ∧ σ[i]? = some (some (V.ref a)) := by
  unfold ownA
  rw [List.mem_filterMap]
  constructor
  · rintro ⟨⟨s, v⟩, hm, h⟩
    obtain ⟨i, hi⟩ := List.mem_iff_getElem?.mp hm
    rw [List.getElem?_zip_eq_some] at hi
    cases s with
    | own d =>
      cases v with
      | none => cases h
      | some v =>
        cases v with
        | ref b => cases h; exact ⟨i, d, hi.1, hi.2⟩
        | _ => cases h
    | _ => cases h
  · rintro ⟨i, d, h1, h2⟩
    exact ⟨(.own d, some (.ref a)), List.mem_iff_getElem?.mpr ⟨i, List.getElem?_zip_eq_some.mpr ⟨h1, h2⟩⟩, rfl⟩
def Bk (F : Hp) (pa : Option Addr) (t : Ts) (env : En) (σ : L2.St) (H : Hp) : Bs := ⟨F, H, pa.toList ++ ownA env σ, pa, false, [], t.dom⟩
theorem Cf.block {F : Hp} {pa : Option Addr} {t : Ts} {env : En} {σ : L2.St} {H : Hp} (C : Cf K B F pa t env σ H) (vs : List Nat) : Cf K (Bk F pa t (wipeE env vs) (wipe σ vs) H) F pa t (wipeE env vs) (wipe σ vs) H := by
  have wo : ∀ {i : Nat}, i ∉ vs → (wipe σ vs)[i]? = σ[i]? := fun h => wipe_out h
  refine ⟨by rw [wipeE_length, wipe_length, C.len], C.sub, fun _ _ e => e, fun _ _ e _ _ => e, fun a o e => .inl ⟨o, e⟩, fun a ha => ?_, fun i d e => ?_, fun i d e => ?_, fun i j d e a q1 q2 s1 s2 => ?_, fun a e => ?_, rfl, TabF.nil, C.ntb, fun a d e => by
    obtain ⟨h1, h2, h3, _, h5⟩ := C.obs a d e
    exact ⟨h1, h2, h3, .inl ⟨d, e⟩, h5⟩, fun a e => e, fun i d a e s => by
    obtain ⟨h1, hi⟩ := wipeE_some (by simp) e
    rw [wo hi] at s
    exact C.osp i d a h1 s⟩
  · rcases List.mem_append.mp ha with h | h
    · obtain ⟨_, ⟨u, q, _⟩, _⟩ := C.pen a (mem_pa.mp h)
      exact ⟨u, q⟩
    · obtain ⟨i, d, h1, h2⟩ := mem_ownA.mp h
      obtain ⟨h1', hi⟩ := wipeE_some (by simp) h1
      rw [wo hi] at h2
      obtain ⟨a', u, s1, e1, _⟩ := C.own i d h1'
      rw [h2] at s1; cases s1
      exact ⟨u, e1⟩
  · obtain ⟨h1, hi⟩ := wipeE_some (by simp) e
    obtain ⟨v, s1, r⟩ := C.val i d h1
    exact ⟨v, by rw [wo hi]; exact s1, r⟩
  · obtain ⟨h1, hi⟩ := wipeE_some (by simp) e
    obtain ⟨a, u, s1, e1, r, f1, p1, _⟩ := C.own i d h1
    refine ⟨a, u, by rw [wo hi]; exact s1, e1, r, f1, p1, .inl (List.mem_append.mpr (.inr (mem_ownA.mpr ⟨i, d, e, by rw [wo hi]; exact s1⟩)))⟩
  · obtain ⟨h1, hi⟩ := wipeE_some (by simp) q1
    obtain ⟨h2, hj⟩ := wipeE_some (by simp) q2
    rw [wo hi] at s1
    rw [wo hj] at s2
    exact C.sep i j d e a h1 h2 s1 s2
  · obtain ⟨h1, h2, _⟩ := C.pen a e
    exact ⟨h1, h2, .inl (List.mem_append.mpr (.inl (mem_pa.mpr e)))⟩
theorem Cf.join {F F3 : Hp} {pa pa3 : Option Addr} {t t3 : Ts} {env e' : En} {σ σ2 : L2.St} {H H4 : Hp} {vs : List Nat} (C : Cf K B F pa t env σ H) (C' : Cf K (Bk F pa t (wipeE env vs) (wipe σ vs) H) F3 pa3 t3 e' σ2 H4)
    (he : wipeE e' vs = wipeE env vs) (hs : wipe σ2 vs = wipe σ vs) : Gr F pa F3 pa3 ∧ Cf K B F3 pa3 t3 env σ H4 := by
  have wo : ∀ {i : Nat}, i ∉ vs → (wipe σ vs)[i]? = σ[i]? := fun h => wipe_out h
  have wo2 : ∀ {i : Nat}, i ∉ vs → (wipe σ2 vs)[i]? = σ2[i]? := fun h => wipe_out h
  have g : Gr F pa F3 pa3 := ⟨C'.bas, C'.pnn⟩
  -- what the block may change
  have ex : ∀ a, a ∈ (Bk F pa t (wipeE env vs) (wipe σ vs) H).ex → pa = some a ∨ ∃ (i : Nat) (d : D), i ∉ vs ∧ env[i]? = some (Sl.own d) ∧ σ[i]? = some (some (V.ref a)) := fun a ha => by
    rcases List.mem_append.mp ha with h | h
    · exact .inl (mem_pa.mp h)
    · obtain ⟨i, d, h1, h2⟩ := mem_ownA.mp h
      obtain ⟨h1', hi⟩ := wipeE_some (by simp) h1
      exact .inr ⟨i, d, hi, h1', by rw [← wo hi]; exact h2⟩
  have exB : ∀ a, a ∈ (Bk F pa t (wipeE env vs) (wipe σ vs) H).ex → a ∈ B.ex ∨ B.H a = none := fun a ha => by
    rcases ex a ha with h | ⟨i, d, _, h1, h2⟩
    · exact (C.pen a h).2.2
    · obtain ⟨a', u, s1, _, _, _, _, x⟩ := C.own i d h1
      rw [h2] at s1; cases s1
      exact x
  have kp : ∀ a o, H a = some o → a ∉ (Bk F pa t (wipeE env vs) (wipe σ vs) H).ex → t.obs a = none → H4 a = some o := fun a o e n no => C'.frm a o e n (fun ⟨d, z⟩ => by rw [no] at z; cases z)
  have nf : ∀ a o, H a = some o → F a = none → F3 a = none := fun a o e n => by
    cases q : F3 a with
    | none => rfl
    | some u =>
      rcases C'.new a u q with ⟨u', z⟩ | z
      · have z : F a = some u' := z
        rw [n] at z; cases z
      · have z : H a = none := z
        rw [e] at z; cases z
  refine ⟨g, ⟨C.len, C'.sub, fun a o e => g.f _ _ (C.bas a o e), fun a o e hx ho => ?_, fun a o e => ?_, fun a ha => ?_, fun i d e => ?_, fun i d e => ?_, C.sep, fun a e => ?_, Eq.trans g.p C.pnn, C.tab.keep g.f (fun p hp ps z => nf _ _ z (C.tab p hp).2.1) (fun p hp ps z => kp _ _ z (fun y => by
    rcases ex _ y with y | ⟨i, d, _, h1, h2⟩
    · obtain ⟨_, ⟨u, q, ca, w, _⟩, _⟩ := C.pen p.1 y
      rw [z] at q
      subst w
      cases q
    · obtain ⟨a', u, s1, e1, r1, _⟩ := C.own i d h1
      rw [h2] at s1; cases s1
      rw [z] at e1
      exact r1.ntb ps (Option.some.inj e1).symm) (by
    cases q : t.obs p.1 with
    | none => rfl
    | some d =>
      obtain ⟨_, ⟨u, q2, r⟩, _⟩ := C.obs p.1 d q
      rw [z] at q2
      exact absurd (Option.some.inj q2).symm (r.ntb ps))), C'.ntb, fun a d q => ?_, fun a q => C'.obx a (C.obx a q), fun i d a e s => ?_⟩⟩
  · refine kp a o (C.frm a o e hx ho) (fun z => ?_) ?_
    · rcases exB a z with q | q
      · exact hx q
      · rw [q] at e; cases e
    · cases q : t.obs a with
      | none => rfl
      | some d =>
        rcases (C.obs a d q).2.2.2.1 with z | z
        · exact absurd z ho
        · rw [z] at e; cases e
  · rcases C'.new a o e with ⟨o', q⟩ | q
    · exact C.new a o' q
    · exact .inr (C.fresh q).2.1
  · by_cases hx : a ∈ (Bk F pa t (wipeE env vs) (wipe σ vs) H).ex
    · exact C'.exl a hx
    · obtain ⟨o, q⟩ := C.exl a ha
      cases z : t.obs a with
      | none => exact ⟨o, kp a o q hx z⟩
      | some d =>
        obtain ⟨d', q'⟩ := C'.obx a ⟨d, z⟩
        obtain ⟨_, ⟨u, y, _⟩, _⟩ := C'.obs a d' q'
        exact ⟨u, y⟩
  · obtain ⟨v, h1, h2⟩ := C.val i d e
    exact ⟨v, h1, RelD.mono g d v h2⟩
  · obtain ⟨a, h, h1, h2, h3, h4, h5, h6⟩ := C.own i d e
    by_cases hi : i ∈ vs
    · have nx : a ∉ (Bk F pa t (wipeE env vs) (wipe σ vs) H).ex := fun z => by
        rcases ex a z with q | ⟨j, d', hj, q1, q2⟩
        · exact h5 q
        · have := C.sep i j d d' a e q1 h1 q2
          exact hj (this ▸ hi)
      refine ⟨a, h, h1, kp a h h2 nx (C.osp i d a e h1), RelO1.mono g d h h3, nf a h h2 h4, fun z => ?_, h6⟩
      rcases (C'.pen a z).2.2 with q | q
      · exact nx q
      · have q : H a = none := q
        rw [h2] at q; cases q
    · have e1 : e'[i]? = some (Sl.own d) := by
        rw [← wipeE_out (env := e') hi, he, wipeE_out hi]; exact e
      obtain ⟨a', h', s1, q1, q2, q3, q4, _⟩ := C'.own i d e1
      rw [← wo2 hi, hs, wo hi, h1] at s1
      cases s1
      exact ⟨a, h', h1, q1, q2, q3, q4, h6⟩
  · obtain ⟨h1, h2, h3⟩ := C'.pen a e
    refine ⟨h1, h2, ?_⟩
    rcases h3 with q | q
    · exact exB a q
    · exact .inr (C.fresh q).2.1
  · obtain ⟨h1, h2, h3, h4, h5⟩ := C'.obs a d q
    refine ⟨h1, h2, h3, ?_, h5⟩
    rcases h4 with ⟨d0, z⟩ | z
    · exact (C.obs a d0 z).2.2.2.1
    · exact .inr (C.fresh z).2.1
  · cases q : t3.obs a with
    | none => rfl
    | some d' =>
      rcases (C'.obs a d' q).2.2.2.1 with ⟨d0, z⟩ | z
      · rw [C.osp i d a e s] at z; cases z
      · obtain ⟨a', h, h1, h2, _⟩ := C.own i d e
        rw [s] at h1; cases h1
        have z : H a = none := z
        rw [h2] at z; cases z
/-- what was there and no object is none behind a block -/
theorem noo_of {F : Hp} {pa : Option Addr} {t t' : Ts} {env : En} {σ : L2.St} {H H' : Hp} {D : Addr} {o : HO} {F3 : Hp} {pa3 : Option Addr} {env3 : En} {σ3 : L2.St} (h : t.obs D = none) (C : Cf K (Bk F pa t env σ H) F3 pa3 t' env3 σ3 H') (e : H D = some o) : t'.obs D = none := by
  cases q : t'.obs D with
  | none => rfl
  | some d' =>
    rcases (C.obs D d' q).2.2.2.1 with ⟨d0, z⟩ | z
    · rw [h] at z; cases z
    · have z : H D = none := z
      rw [e] at z; cases z
def teU (K : PySem.W.Frag) (de : DE) : TE := fun σ H Q => ∃ B, teOf K B de σ H Q
def ttU (K : PySem.W.Frag) (dt : DT) : TT := fun σ H Q => ∃ B, ttOf K B dt σ H Q
def tgU (K : PySem.W.Frag) (vs : List Nat) (g : DG) : TG := fun v σ H Q => ∃ B, tgOf K B vs g v σ H Q
theorem pe_U (h : ∀ B, QE X B e da) : PE X e (teU X.K da) := ⟨fun pins s σ H Q I ⟨B, q⟩ => (h B).run pins s σ H Q I q⟩
theorem pg_U {vs : List Nat} (h : ∀ B, QG X B vs e g) : PG X e (tgU X.K vs g) := ⟨fun pins s σ H v u Q I r ⟨B, q⟩ => (h B).run pins s σ H v u Q I r q⟩
theorem pts_U1 (h : ∀ B, QT X B e dt) : PTs X [e] (ttU X.K dt) := pts_one ⟨fun pins s σ H Q I ⟨B, q⟩ => (h B).run pins s σ H Q I q⟩
theorem pts_U0 : PTs X [] (ttU X.K dYes) := ⟨fun pins s σ H Q I ⟨B, q⟩ => pts_nil.run pins s σ H Q I (by
  obtain ⟨F, pa, t, env, P, C, h, k⟩ := q
  exact k true F pa t H (Gr.refl _ _) C h)⟩
theorem wipe_idem {σ : L2.St} : ∀ {vs : List Nat}, wipe (wipe σ vs) vs = wipe σ vs := fun {vs} => by
  apply List.ext_getElem?
  intro k
  by_cases hk : k ∈ vs
  · have : ∀ (τ : L2.St) (us : List Nat), k ∈ us → (wipe τ us)[k]? = τ[k]?.map fun _ => none := fun τ us => by
      induction us with
      | nil => intro h; simp at h
      | cons j r ih =>
        intro h
        show ((wipe τ r).set j none)[k]? = _
        by_cases hj : j = k
        · subst hj
          rw [List.getElem?_set_self']
          by_cases hr : j ∈ r
          · rw [ih hr]; cases τ[j]? <;> rfl
          · rw [wipe_out hr]; cases τ[j]? <;> rfl
        · rw [List.getElem?_set_ne hj]
          exact ih ((List.mem_cons.mp h).resolve_left (Ne.symm hj))
    rw [this _ _ hk, this _ _ hk]
    cases σ[k]? <;> rfl
  · rw [wipe_out hk]
theorem ev_lc {di : DI} {vs : List Nat} : ∀ σ H Q, tnOf K B (dLc vs di g dt da) σ H Q → tLc (tiOf K B di) (tgU K vs g) (ttU K dt) (teU K da) vs σ H Q := fun σ H Q ⟨F, pa, t, env, P, C, h, k⟩ => by
  refine ⟨F, pa, t, env, _, C, h, fun J items F1 pa1 t1 H1 g1 C1 iok q D hD => ?_⟩
  obtain ⟨Inv, h0, hstep, hd⟩ := q
  refine ⟨fun i m H => m = items.length - i ∧ i ≤ items.length ∧ ∃ F pa t acc us, Gr F1 pa1 F pa ∧ Cf K B F pa t env σ H ∧ Nw B F pa t env σ D ∧ H D = some (.lst us) ∧ RelL K F pa acc us ∧ Inv i acc t,
    ⟨_, rfl, Nat.zero_le _, F1, pa1, t1, [], [], Gr.refl _ _, C1.loose _ hD, C1.nw hD, upd_same, RelL.nil, h0⟩, ?_⟩
  rintro i m H2 ⟨rfl, hi, F2, pa2, t2, acc, us, g2, C2, n2, e2, r2, q2⟩
  have io := iok B F2 pa2 t2 env σ H2 i g2 C2
  by_cases hlt : i < items.length
  · have hx : items[i]? = some items[i] := by simp [hlt]
    obtain ⟨go, yl⟩ := io.2 _ hx
    refine .inr ⟨go, fun H' => ∃ m', m' < items.length - i ∧ (m' = items.length - (i + 1) ∧ i + 1 ≤ items.length ∧ ∃ F pa t acc us, Gr F1 pa1 F pa ∧ Cf K B F pa t env σ H' ∧ Nw B F pa t env σ D ∧ H' D = some (.lst us) ∧ RelL K F pa acc us ∧ Inv (i + 1) acc t), fun H' z => z, fun x H' y => ?_⟩
    obtain ⟨hk, F3, nw3, g3, C3, r3⟩ := yl x H' y
    have e3 : H' D = some (.lst us) := hk _ _ e2
    have dn : D ∉ (Bk F3 pa2 t2 (wipeE env vs) (wipe σ vs) H').ex := fun z => by
      rcases List.mem_append.mp z with z | z
      · exact n2.a (mem_pa.mp z)
      · obtain ⟨j, d, h1, h2⟩ := mem_ownA.mp z
        obtain ⟨h1', hj⟩ := wipeE_some (by simp) h1
        have wo : (wipe σ vs)[j]? = σ[j]? := wipe_out hj
        rw [wo] at h2
        exact n2.s j d h1' h2
    have fD : F3 D = none := by
      cases z : F3 D with
      | none => rfl
      | some o =>
        rcases nw3 D o z with ⟨o', q⟩ | q
        · rw [n2.f] at q; cases q
        · rw [e2] at q; cases q
    have n3 : Nw B F3 pa2 t2 env σ D := ⟨fD, n2.b, n2.a, n2.s, n2.o⟩
    have CB := C3.block vs
    refine ⟨_, F3, pa2, t2, wipeE env vs, items[i], _, CB, r3, hstep i _ acc t2 hx q2, fun F4 pa4 t4 e4 σ4 H4 g4 C4 w4 q4 => ?_⟩
    obtain ⟨we, q4⟩ := q4
    have hs4 : wipe σ4 vs = wipe σ vs := w4.trans wipe_idem
    refine ⟨hs4, _, F4, pa4, t4, e4, _, C4, q4, fun k F5 pa5 t5 H5 g5 C5 q5 => ?_⟩
    have fin : ∀ {F6 : Hp} {pa6 : Option Addr} {t6 : Ts} {H6 : Hp}, Gr F3 pa2 F6 pa6 → Cf K (Bk F3 pa2 t2 (wipeE env vs) (wipe σ vs) H') F6 pa6 t6 e4 σ4 H6 →
        Gr F1 pa1 F6 pa6 ∧ Cf K B F6 pa6 t6 env σ H6 ∧ Nw B F6 pa6 t6 env σ D ∧ H6 D = some (.lst us) ∧ RelL K F6 pa6 acc us := fun {F6 pa6 t6 H6} g6 C6 => by
      obtain ⟨g7, C7⟩ := C3.join C6 we hs4
      have eD : H6 D = some (.lst us) := C6.frm D _ e3 dn (fun ⟨d, z⟩ => by rw [n2.o] at z; cases z)
      refine ⟨(g2.trans g3).trans g7, C7, ⟨?_, n2.b, fun z => ?_, n2.s, noo_of n2.o C6 e3⟩, eD, RelL.mono (g3.trans g7) acc us r2⟩
      · cases z : F6 D with
        | none => rfl
        | some o =>
          rcases C6.new D o z with ⟨o', q⟩ | q
          · have q : F3 D = some o' := q
            rw [fD] at q; cases q
          · have q : H' D = none := q
            rw [e3] at q; cases q
      · rcases (C6.pen D z).2.2 with q | q
        · exact dn q
        · have q : H' D = none := q
          rw [e3] at q; cases q
    cases k with
    | true =>
      refine L2.iteT ?_
      refine ⟨_, F5, pa5, t5, e4, _, C5, q5, fun v d F6 pa6 t6 H6 g6 C6 r6 q6 => ?_⟩
      obtain ⟨hl, q6⟩ := q6
      obtain ⟨h1, h2, h3, h4, h5⟩ := fin ((g4.trans g5).trans g6) C6
      refine ⟨us, h4, by rw [h5.len]; exact zlt hl, _, by omega, rfl, hlt, F6, pa6, t6, acc ++ [d], us ++ [v], h1, h2.write h3, h3, upd_same, h5.append (.cons r6 .nil), q6⟩
    | false =>
      refine L2.iteF ?_
      obtain ⟨h1, h2, h3, h4, h5⟩ := fin (g4.trans g5) C5
      exact ⟨_, by omega, rfl, hlt, F5, pa5, t5, acc, us, h1, h2, h3, h4, h5, q5⟩
  · have e : i = items.length := by omega
    subst e
    exact .inl ⟨io.1 rfl, k D _ (.lst acc) F2 pa2 t2 H2 (g1.trans g2) C2 n2 e2 ⟨us, rfl, r2⟩ (hd acc t2 q2)⟩
theorem q_lc {elt tg iter : Expr} {ifs : List Expr} {scope : Scope} {own : List (Str × Nat)} {pos : Pos} {di : DI} (hc : X.calm = true) (hN : X.N.Nodup) (hi : QI X B tg iter di) (ok : BlkOk X.N X.env.scope scope own)
    (hg : ∀ (s : Shared) (H : Hp) (C : Addr) (cl : List (Str × Addr)) (fp : List Addr) (B : Bs), QG (X.blk s H scope (compEnvC scope cl C X.env) fp) B (own.map (·.2)) tg g) (ht : ∀ (s : Shared) (H : Hp) (C : Addr) (cl : List (Str × Addr)) (fp : List Addr), PTs (X.blk s H scope (compEnvC scope cl C X.env) fp) ifs (ttU X.K dt))
    (he : ∀ (s : Shared) (H : Hp) (C : Addr) (cl : List (Str × Addr)) (fp : List Addr) (B : Bs), QE (X.blk s H scope (compEnvC scope cl C X.env) fp) B elt da) (hs : ∀ x, foldedSetIterable iter X.env x = pure x := by intro _; rfl) :
    QN X B (.ListComp elt [⟨tg, iter, ifs, 0⟩] scope pos) (dLc (own.map (·.2)) di g dt da) :=
  PE.imp (pe_lc hc hN hi ok (fun s H C cl fp => pg_U fun B => hg s H C cl fp B) ht (fun s H C cl fp => pe_U fun B => he s H C cl fp B) hs) ev_lc
/-- name = [..], frozen at once -/
theorem q_setLc {i : Nat} {y : Str} {py : Pos} {elt tg iter : Expr} {ifs : List Expr} {scope : Scope} {own : List (Str × Nat)} {pos spos : Pos} {di : DI} (hc : X.calm = true) (hN : X.N.Nodup) (hy : X.N[i]? = some y) (hyl : X.env.scope.names.lookup y = some .local)
    (hsw : swapsWith (.ListComp elt [⟨tg, iter, ifs, 0⟩] scope pos) (some (.Name y py)) spos.line X.env = pure true) (hi : QI X B tg iter di) (ok : BlkOk X.N X.env.scope scope own)
    (hg : ∀ (s : Shared) (H : Hp) (C : Addr) (cl : List (Str × Addr)) (fp : List Addr) (B : Bs), QG (X.blk s H scope (compEnvC scope cl C X.env) fp) B (own.map (·.2)) tg g) (ht : ∀ (s : Shared) (H : Hp) (C : Addr) (cl : List (Str × Addr)) (fp : List Addr), PTs (X.blk s H scope (compEnvC scope cl C X.env) fp) ifs (ttU X.K dt))
    (he : ∀ (s : Shared) (H : Hp) (C : Addr) (cl : List (Str × Addr)) (fp : List Addr) (B : Bs), QE (X.blk s H scope (compEnvC scope cl C X.env) fp) B elt da) (hs : ∀ x, foldedSetIterable iter X.env x = pure x := by intro _; rfl) :
    QS X B (.Assign [.Name y py] (.ListComp elt [⟨tg, iter, ifs, 0⟩] scope pos) spos) (dAsg (dLc (own.map (·.2)) di g dt da) (Q.gName i)) :=
  PS.imp (ps_setLc hc hN hy hyl hsw hi ok (fun s H C cl fp => pg_U fun B => hg s H C cl fp B) ht (fun s H C cl fp => pe_U fun B => he s H C cl fp B) hs) fun De σ H ⟨F, pa, t, env, DD, C, h, R⟩ =>
    ev_lc σ H _ ⟨F, pa, t, env, _, C, h, fun p hh d F' pa' t' H' g' C' n e r q => by
      obtain ⟨g2, C2⟩ := C'.frz n e r.ntb
      exact R.nx _ pa' t' _ _ H' (g'.trans g2) (C2.setV i (RelO1.rel (p := p) (RelO1.mono g2 d hh r) upd_same)) q⟩
end
/-! ### a def keeps its promise -/
section
variable {P : Program} {w : World} {K : PySem.W.Frag} {mg : Str → Option Value} {base : Heap}
/-- the slots at the entry -/
theorem cf_start {F : Hp} {pa : Option Addr} {t : Ts} {H : Hp} {N : List Str} {ds : List D} {vs : List V} (C : Cf K (B0 F pa t H) F pa t [] [] H) (r : RelL K F pa ds vs) : Cf K (B0 F pa t H) F pa t (start0 N ds) (start N vs) H := by
  have hl := r.len
  have val : ∀ (i : Nat) (d : D), (start0 N ds)[i]? = some (Sl.val d) → ds[i]? = some d := fun i d e => by
    unfold start0 at e
    by_cases hi : i < ds.length
    · rw [List.getElem?_append_left (by simpa using hi), List.getElem?_map] at e
      cases q : ds[i]? with
      | none => rw [q] at e; cases e
      | some x => rw [q] at e; cases e; rfl
    · rw [List.getElem?_append_right (by simpa using hi), List.getElem?_replicate] at e
      split at e <;> cases e
  have noown : ∀ (i : Nat) (d : D), (start0 N ds)[i]? ≠ some (Sl.own d) := fun i d e => by
    unfold start0 at e
    by_cases hi : i < ds.length
    · rw [List.getElem?_append_left (by simpa using hi), List.getElem?_map] at e
      cases q : ds[i]? with
      | none => rw [q] at e; cases e
      | some x => rw [q] at e; cases e
    · rw [List.getElem?_append_right (by simpa using hi), List.getElem?_replicate] at e
      split at e <;> cases e
  refine ⟨by simp [start0, L2.start, hl], C.sub, C.bas, C.frm, C.new, C.exl, fun i d e => ?_, fun i d e => absurd e (noown i d), fun i j d e a q => absurd q (noown i d), C.pen, C.pnn, C.tab, C.ntb, C.obs, C.obx, fun i d a q => absurd q (noown i d)⟩
  obtain ⟨v, h1, h2⟩ := r.get (val i d e)
  refine ⟨v, ?_, h2⟩
  unfold L2.start
  have hi : i < vs.length := (List.getElem?_eq_some_iff.mp h1).1
  rw [List.getElem?_append_left (by simpa using hi), List.getElem?_map, h1]
  rfl
/-- THE RULE for a def: its body's reading ds, and what ds does from the arguments -/
theorem fn_ok {x qual : Str} {st : Stmt} {f : Addr} {fd : FuncData} {N ps : List Str} {k : Nat} {sp : PSp} {ds : DS} (Fu : Fun K x qual st f fd) (S : FnScope N ps (defScope st)) (len : ∀ as t Q, sp as t Q → as.length = ps.length)
    (hbody : ∀ (cdv : Value) (A : Around) (outer : List PySem.Env) (s : Shared) (H : Hp) (E : XK) (B : Bs), Room k (A.deeper (envOfC qual (defScope st) s.heap.objs.size f cdv)) → B.Top → B.m = false →
      QSs (cxOf CX0 P w K mg base N qual (defScope st) f cdv A outer s H E).nox B (defBody st) ds)
    (hds : ∀ as t Q, sp as t Q → ds (endsOf Q) (start0 N as) t) : FnOk P w K mg base CX0 (k + 1) f fd ps (lift K sp) := by
  refine Fu.ok S (fun vs H Q E h => ?_) (fun cdv A outer s H vs Q E hr h => ?_)
  · obtain ⟨F, pa, t, as, R, C, r, q, _⟩ := h
    rw [r.len]; exact len as t R q
  · obtain ⟨F, pa, t, as, R, C, r, q, fin⟩ := h
    refine ⟨_, hbody cdv A outer s H E (B0 F pa t H) hr (B0.top F pa t H) rfl, F, pa, t, start0 N as, endsOf R, cf_start C r, hds as t R q, ⟨?_, ?_, ?_, ?_⟩⟩
    · intro F' pa' t' env σ H' g C' q'
      exact fin .non .non F' pa' t' H' C'.nil rD_non q'
    · intro v d F' pa' t' env σ H' g C' r' q'
      exact fin v d F' pa' t' H' C'.nil r' q'
    · intro F' pa' t' env σ H' g C' q'
      exact q'.elim
    · intro F' pa' t' env σ H' g C' q'
      exact q'.elim
/-- .. that tells back a new object -/
theorem fn_okN {x qual : Str} {st : Stmt} {f : Addr} {fd : FuncData} {N ps : List Str} {k : Nat} {sp : PSp} {ds : DS} (Fu : Fun K x qual st f fd) (S : FnScope N ps (defScope st)) (len : ∀ as t Q, sp as t Q → as.length = ps.length)
    (hbody : ∀ (cdv : Value) (A : Around) (outer : List PySem.Env) (s : Shared) (H : Hp) (E : XK) (B : Bs), Room k (A.deeper (envOfC qual (defScope st) s.heap.objs.size f cdv)) → B.Top → B.m = true →
      QSs (cxOf CX0 P w K mg base N qual (defScope st) f cdv A outer s H E).nox B (defBody st) ds)
    (hds : ∀ as t Q, sp as t Q → ds (endsN Q) (start0 N as) t) : FnOk P w K mg base CX0 (k + 1) f fd ps (liftN K sp) := by
  refine Fu.ok S (fun vs H Q E h => ?_) (fun cdv A outer s H vs Q E hr h => ?_)
  · obtain ⟨F, pa, t, as, R, C, r, q, _⟩ := h
    rw [r.len]; exact len as t R q
  · obtain ⟨F, pa, t, as, R, C, r, q, fin⟩ := h
    refine ⟨_, hbody cdv A outer s H E (B1 F pa t H) hr (B1.top F pa t H) rfl, F, pa, t, start0 N as, _, (cf_start C r).cong rfl rfl rfl rfl rfl, hds as t R q, ⟨?_, ?_, ?_, ?_⟩⟩
    · intro F' pa' t' env σ H' g C' q'
      exact q'.elim
    · intro v d F' pa' t' env σ H' g C' r' q'
      rcases r' with ⟨rfl, rfl⟩ | ⟨p, h, rfl, n1, n2, n3, n4, e, r'⟩
      · exact q'.elim
      have q2 : R d t' := by
        cases d with
        | non => exact q'.elim
        | _ => exact q'
      exact fin p h d F' pa' t' H' (C'.nil.cong rfl rfl rfl rfl rfl) n1 n2 n3 n4 e r' q2
    · intro F' pa' t' env σ H' g C' q'
      exact q'.elim
    · intro F' pa' t' env σ H' g C' q'
      exact q'.elim
end
end Q
/-! QH7 -/
namespace Q
open PySem L2 PyProof.Rows
section
variable {X : Cx} {B : Bs} {K : PySem.W.Frag} {a b c e o i' : Expr} {es : List Expr} {pos : Pos} {da db dk dz : DE} {as : DA}
/-- {} -/
theorem q_dnew : QN X B (.Dict [] [] pos) (dC (.dic [] [])) := PE.imp pe_dnewK fun σ H Q ⟨F, pa, t, env, P, C, h, k⟩ => fun p hp =>
  k p _ (.dic [] []) F pa t _ (Gr.refl _ _) (C.loose _ hp) (C.nw hp) upd_same ⟨[], rfl, rfl, RelL.nil⟩ h
end
end Q
/-! QH8 -/
namespace Q
open PySem L2 PyProof.Rows
section
variable {X : Cx} {B : Bs} {K : PySem.W.Frag} {a b c e o i' : Expr} {es : List Expr} {pos : Pos} {da db dk dz : DE} {as : DA}
/-- the readings of a display's pairs -/
def dispT (K : PySem.W.Frag) (l : List (Str × DE)) : List (TE × TE) := l.map fun p => (tC (.str p.1), teU K p.2)
theorem q_pnil : PPs X pos [] [] (dispT X.K []) := pps_nil
theorem q_pcons {k : Str} {j : Nat} {p : Pos} {ks : List (Option Expr)} {vs : List Expr} {l : List (Str × DE)} (hv : ∀ B, QE X B e da) (hr : PPs X pos ks vs (dispT X.K l)) : PPs X pos (some (.Constant (.str k) j p) :: ks) (e :: vs) (dispT X.K ((k, da) :: l)) :=
  pps_cons pe_str (pe_U hv) hr
theorem ev_disp {l : List (Str × DE)} : ∀ {σ : L2.St} {F : Hp} {pa : Option Addr} {t : Ts} {env : En} {H : Hp} {P : List D → Ts → Prop} {Q : List (V × V) → Hp → Prop} {D : Addr} {h : HO}, Cf K B F pa t env σ H → Nw B F pa t env σ D → H D = some h → dDispL l env t P →
    (∀ vs ds F' pa' t' H', Gr F pa F' pa' → Cf K B F' pa' t' env σ H' → Nw B F' pa' t' env σ D → H' D = some h → RelL K F' pa' ds vs → ds.length = l.length → P ds t' → Q ((l.map fun p => V.str p.1).zip vs) H') → tPairs (dispT K l) σ H Q := by
  induction l with
  | nil =>
    intro σ F pa t env H P Q D h C n e hd k
    exact k [] [] F pa t H (Gr.refl _ _) C n e RelL.nil rfl hd
  | cons p l ih =>
    intro σ F pa t env H P Q D h C n e hd k
    have CB := C.block []
    have dn : D ∉ (Bk F pa t (wipeE env []) (wipe σ []) H).ex := fun z => by
      rcases List.mem_append.mp z with z | z
      · exact n.a (mem_pa.mp z)
      · obtain ⟨j, d, h1, h2⟩ := mem_ownA.mp z
        exact n.s j d h1 h2
    refine ⟨_, F, pa, t, env, _, CB, hd, fun v d F1 pa1 t1 H1 g1 C1 r1 q1 => ?_⟩
    obtain ⟨g, C2⟩ := C.join (vs := []) C1 rfl rfl
    have e1 : H1 D = some h := C1.frm D _ e dn (fun ⟨d, z⟩ => by rw [n.o] at z; cases z)
    have n1 : Nw B F1 pa1 t1 env σ D := by
      refine ⟨?_, n.b, fun z => ?_, n.s, noo_of n.o C1 e⟩
      · cases z : F1 D with
        | none => rfl
        | some o =>
          rcases C1.new D o z with ⟨o', q⟩ | q
          · have q : F D = some o' := q
            rw [n.f] at q; cases q
          · have q : H D = none := q
            rw [e] at q; cases q
      · rcases (C1.pen D z).2.2 with q | q
        · exact dn q
        · have q : H D = none := q
          rw [e] at q; cases q
    exact ih C2 n1 e1 q1 fun vs ds F2 pa2 t2 H2 g2 C3 n3 e3 r3 l3 q3 => k (v :: vs) (d :: ds) F2 pa2 t2 H2 (g.trans g2) C3 n3 e3 (.cons (RelD.mono g2 d v r1) r3) (by simp [l3]) q3
theorem merge_nd : ∀ {more acc : List (L2.Key × V)}, ((acc ++ more).map (·.1)).Nodup → mergeK acc more = acc ++ more
  | [], acc, _ => by simp [mergeK]
  | p :: more, acc, h => by
    have : valV acc p.1 = none := by
      cases q : valV acc p.1 with
      | none => rfl
      | some v =>
        exfalso
        have hm : p.1 ∈ acc.map (·.1) := by
          unfold valV at q
          cases z : acc.find? (fun kv => decide (kv.1 = p.1)) with
          | none => rw [z] at q; cases q
          | some x =>
            have h1 := List.mem_of_find?_eq_some z
            have h2 := List.find?_some z
            exact List.mem_map.mpr ⟨x, h1, of_decide_eq_true h2⟩
        rw [List.map_append, List.nodup_append] at h
        exact h.2.2 _ hm _ (List.mem_cons_self ..) rfl
    show mergeK (putK acc p.1 p.2) more = _
    rw [putK_new p.2 this, merge_nd (by simpa using h)]
    simp
theorem q_disp {keys : List (Option Expr)} {values : List Expr} {l : List (Str × DE)} (h : PPs X pos keys values (dispT X.K l)) (nd : (l.map fun p => p.1).Nodup) (h15 : l.length ≤ 15) (hall : keys.all (·.isSome) = true := by rfl) (hl : keys.length = values.length := by rfl) (h0 : keys ≠ [] := by exact fun z => nomatch z)
    (h15' : keys.length ≤ 15 := by decide) : QN X B (.Dict keys values pos) (dDisp l) := PE.imp (pe_disp h hall hl h0 h15') fun σ H Q ⟨F, pa, t, env, P, C, hd, k⟩ => fun p hp => by
  refine ev_disp (C.loose _ hp) (C.nw hp) upd_same hd fun vs ds F' pa' t' H' g C' n e r ld q => ?_
  have hlen : vs.length = l.length := by rw [r.len, ld]
  have e1 : ∀ (l : List (Str × DE)) (vs : List V), (l.map fun p => V.str p.1).zip vs = ((l.map fun p => (Sum.inr p.1 : L2.Key)).zip vs).map fun kv => (kV kv.1, kv.2) := by
    intro l
    induction l with
    | nil => intro vs; rfl
    | cons x l ih =>
      intro vs
      cases vs with
      | nil => rfl
      | cons v vs => simp only [List.map_cons, List.zip_cons_cons, ih vs]; rfl
  have nd2 : (((l.map fun p => (Sum.inr p.1 : L2.Key)).zip vs).map (·.1)).Nodup := by
    rw [List.map_fst_zip (by simp [hlen])]
    have : (l.map fun p => (Sum.inr p.1 : L2.Key)) = (l.map fun p => p.1).map Sum.inr := by simp
    rw [this]
    exact List.Pairwise.map _ (fun a b h z => h (Sum.inr.inj z)) nd
  have e2 := merge_nd (more := (l.map fun p => (Sum.inr p.1 : L2.Key)).zip vs) (acc := []) (by simpa using nd2)
  refine ⟨e, (l.map fun p => (Sum.inr p.1 : L2.Key)).zip vs, e1 l vs, by rw [List.length_zip]; simp; omega, ?_⟩
  rw [e2]
  exact k p _ _ F' pa' t' _ g (C'.write n) n upd_same (show RelO1 X.K F' pa' (.dic (l.map fun p => .inr p.1) ds) _ from ⟨vs, rfl, by simp [hlen], r⟩) q
end
end Q
/-! QH9 -/
namespace Q
open PySem L2 PyProof.Rows
section
variable {X : Cx} {B : Bs} {K : PySem.W.Frag} {a b c e o i' : Expr} {es : List Expr} {pos : Pos} {da db dk dz : DE} {as : DA}
theorem Cf.wrPen {F : Hp} {pa : Option Addr} {t t' : Ts} {env : En} {σ : L2.St} {H : Hp} (C : Cf K B F pa t env σ H) {a : Addr} {h : HO} (e : pa = some a) (p : PenOk F t' h) (ho : t'.obs = t.obs := by rfl) : Cf K B F pa t' env σ (upd H a h) := by
  obtain ⟨f0, ⟨h0, e0, p0⟩, x0⟩ := C.pen a e
  have nb : ∀ {c : Addr} {u : HO}, F c = some u → c ≠ a := fun z => ne_of_none z f0
  refine ⟨C.len, fun c u q => by rw [upd_ne (nb q)]; exact C.sub c u q, C.bas, fun c u q hx ho => ?_, C.new, fun c hc => ?_, C.val, fun i d q => ?_, C.sep, fun c q => ?_, C.pnn, C.tab.hs (fun p _ ps z => by rw [upd_ne (fun y => by rw [y, e0] at z; obtain ⟨ca, w, _⟩ := p0; rw [w] at z; cases z)]; exact z), C.ntb, fun c d q => by
    rw [ho] at q
    obtain ⟨h1, ⟨u, h2, h3⟩, h4, h5⟩ := C.obs c d q
    refine ⟨h1, ⟨u, ?_, h3⟩, h4, h5⟩
    rw [upd_ne ?_]
    · exact h2
    · rintro rfl
      exact h4 e, fun c z => by rw [ho]; exact C.obx c z, fun i d c z s => by rw [ho]; exact C.osp i d c z s⟩
  · rw [upd_ne ?_]
    · exact C.frm c u q hx ho
    · rintro rfl
      rcases x0 with z | z
      · exact hx z
      · rw [z] at q; cases q
  · by_cases hc' : c = a
    · subst hc'; exact ⟨h, upd_same⟩
    · obtain ⟨u, q⟩ := C.exl c hc
      exact ⟨u, by rw [upd_ne hc']; exact q⟩
  · obtain ⟨c, u, h1, h2, h3, h4, h5, h6⟩ := C.own i d q
    refine ⟨c, u, h1, ?_, h3, h4, h5, h6⟩
    rw [upd_ne ?_]
    · exact h2
    · rintro rfl
      exact h5 e
  · rw [e] at q; cases q
    exact ⟨f0, ⟨h, upd_same, p⟩, x0⟩
theorem pen_at {F : Hp} {pa : Option Addr} {t : Ts} {env : En} {σ : L2.St} {H : Hp} {v : V} (C : Cf K B F pa t env σ H) (r : RelX K F pa env σ .pen v) : ∃ a ca, v = .ref a ∧ pa = some a ∧ H a = some (.dK (penRows t ca)) ∧ F ca = some (.lst (t.cells.map V.int)) := by
  rcases r with r | ⟨i, h1, h2⟩
  · unfold RelD at r
    obtain ⟨a, e, rfl⟩ := r
    obtain ⟨_, ⟨h, q, ca, rfl, z⟩, _⟩ := C.pen a e
    exact ⟨a, ca, rfl, e, q, z⟩
  · obtain ⟨a, h, s1, q, z, _⟩ := C.own i _ h1
    exact z.elim
theorem q_penC {j : Nat} {p1 : Pos} (hu : X.A.units + 1 < cLine) (ho : QV X B o da) (hs : NoSl (.Constant (.str "cells") j p1)) : QE X B (.Subscript o (.Constant (.str "cells") j p1) pos) (dPenC da) := PE.imp (pe_dget hu ho (pe_str (x := "cells")) hs) fun σ H Q ⟨F, pa, t, env, P, C, h, k⟩ =>
  ⟨F, pa, t, env, _, C, h, fun v d F1 pa1 t1 H1 g1 C1 r1 q1 => by
    cases d with
    | pen =>
      obtain ⟨a, ca, rfl, e, q, z⟩ := pen_at C1 r1
      refine ⟨a, .ref ca, rfl, ?_, k _ _ F1 pa1 t1 H1 g1 C1 (by unfold RelD; exact ⟨ca, _, rfl, z, RelL.of_ints _⟩) q1⟩
      have dg := DGet.k (k := Sum.inr "cells") q
      have : valV (penRows t1 ca) (Sum.inr "cells" : L2.Key) = some (.ref ca) := by
        unfold penRows; split <;> exact valV_pos rfl
      rw [this] at dg
      exact dg
    | _ => exact q1.elim⟩
theorem val2 {k1 k2 k3 : Str} {v1 v2 v3 : V} (h : ¬ k1 = k2) : valV [((Sum.inr k1 : L2.Key), v1), (.inr k2, v2), (.inr k3, v3)] (.inr k2) = some v2 := by
  rw [valV_neg (fun z => h (Sum.inr.inj z)), valV_pos rfl]
theorem val3 {k1 k2 k3 : Str} {v1 v2 v3 : V} (h : ¬ k1 = k3) (h' : ¬ k2 = k3) : valV [((Sum.inr k1 : L2.Key), v1), (.inr k2, v2), (.inr k3, v3)] (.inr k3) = some v3 := by
  rw [valV_neg (fun z => h (Sum.inr.inj z)), valV_neg (fun z => h' (Sum.inr.inj z)), valV_pos rfl]
theorem put2 {k1 k2 k3 : Str} {v1 v2 v3 y : V} (h : ¬ k1 = k2) (h' : ¬ k3 = k2) : putK [((Sum.inr k1 : L2.Key), v1), (.inr k2, v2), (.inr k3, v3)] (.inr k2) y = [(.inr k1, v1), (.inr k2, y), (.inr k3, v3)] := by
  have e1 : ¬ ((Sum.inr k1 : L2.Key) = Sum.inr k2) := fun z => h (Sum.inr.inj z)
  have e3 : ¬ ((Sum.inr k3 : L2.Key) = Sum.inr k2) := fun z => h' (Sum.inr.inj z)
  simp [putK, e1, e3, h, h']
theorem put3 {k1 k2 k3 : Str} {v1 v2 v3 y : V} (h : ¬ k1 = k3) (h' : ¬ k2 = k3) : putK [((Sum.inr k1 : L2.Key), v1), (.inr k2, v2), (.inr k3, v3)] (.inr k3) y = [(.inr k1, v1), (.inr k2, v2), (.inr k3, y)] := by
  simp [putK, h, h']
theorem q_penA {b : Bool} {kw : Str} {j : Nat} {p1 : Pos} (hu : X.A.units + 1 < cLine) (ho : QV X B o da) (hk : kw = (if b then "turn" else "at" : Str)) (hs : NoSl (.Constant (.str kw) j p1)) : QE X B (.Subscript o (.Constant (.str kw) j p1) pos) (dPenA b da) := PE.imp (pe_dget hu ho (pe_str (x := kw)) hs) fun σ H Q ⟨F, pa, t, env, P, C, h, k⟩ =>
  ⟨F, pa, t, env, _, C, h, fun v d F1 pa1 t1 H1 g1 C1 r1 q1 => by
    cases d with
    | pen =>
      obtain ⟨hb, q1⟩ := q1
      obtain ⟨a, ca, rfl, e, q, z⟩ := pen_at C1 r1
      refine ⟨a, .int t1.at', rfl, ?_, k _ _ F1 pa1 t1 H1 g1 C1 (rD_int _) q1⟩
      have dg := DGet.k (k := Sum.inr kw) q
      have : valV (penRows t1 ca) (Sum.inr kw : L2.Key) = some (.int t1.at') := by
        unfold penRows
        rw [hb, hk]
        cases b
        · exact val2 (by decide +kernel)
        · exact val2 (by decide +kernel)
      rw [this] at dg
      exact dg
    | _ => exact q1.elim⟩
theorem q_penL {b : Bool} {kw : Str} {j : Nat} {p1 : Pos} (hu : X.A.units + 1 < cLine) (ho : QV X B o da) (hk : kw = (if b then "rest" else "left" : Str)) (hs : NoSl (.Constant (.str kw) j p1)) : QE X B (.Subscript o (.Constant (.str kw) j p1) pos) (dPenL b da) := PE.imp (pe_dget hu ho (pe_str (x := kw)) hs) fun σ H Q ⟨F, pa, t, env, P, C, h, k⟩ =>
  ⟨F, pa, t, env, _, C, h, fun v d F1 pa1 t1 H1 g1 C1 r1 q1 => by
    cases d with
    | pen =>
      obtain ⟨hb, q1⟩ := q1
      obtain ⟨a, ca, rfl, e, q, z⟩ := pen_at C1 r1
      refine ⟨a, .int t1.left, rfl, ?_, k _ _ F1 pa1 t1 H1 g1 C1 (rD_int _) q1⟩
      have dg := DGet.k (k := Sum.inr kw) q
      have : valV (penRows t1 ca) (Sum.inr kw : L2.Key) = some (.int t1.left) := by
        unfold penRows
        rw [hb, hk]
        cases b
        · exact val3 (by decide +kernel) (by decide +kernel)
        · exact val3 (by decide +kernel) (by decide +kernel)
      rw [this] at dg
      exact dg
    | _ => exact q1.elim⟩
theorem pen_name {F : Hp} {pa : Option Addr} {t : Ts} {env : En} {σ : L2.St} {H : Hp} {i : Nat} {p : Prop} (C : Cf K B F pa t env σ H) (h : match env[i]? with | some (.val .pen) => p | _ => False) : p ∧ ∃ a ca, σ[i]? = some (some (V.ref a)) ∧ pa = some a ∧ H a = some (.dK (penRows t ca)) ∧ F ca = some (.lst (t.cells.map V.int)) := by
  split at h
  · rename_i e
    obtain ⟨v, h1, h2⟩ := C.val i _ e
    obtain ⟨a, ca, rfl, r⟩ := pen_at C (.inl h2)
    exact ⟨h, a, ca, h1, r⟩
  · exact h.elim
theorem q_putA {b : Bool} {kw : Str} {i : Nat} {x : Str} {j : Nat} {p p1 pos' : Pos} (hu : X.A.units + 1 < cLine) (hx : PE X (.Name x p) (tVar i)) (he : QE X B e da) (hk : kw = (if b then "turn" else "at" : Str)) (hs : swapsWith e (some (.Subscript (.Name x p) (.Constant (.str kw) j p1) pos')) pos.line X.env = pure false := by rfl) :
    QS X B (.Assign [.Subscript (.Name x p) (.Constant (.str kw) j p1) pos'] e pos) (dPutA b i da) :=
  PS.imp (ps_dput hu hx (pe_str (x := kw)) he hs) fun De σ H ⟨F, pa, t, env, DD, C, h, R⟩ => ⟨F, pa, t, env, _, C, h, fun w y F' pa' t' H' g' C' r2 q2 => by
    cases y with
    | int n =>
      unfold RelD at r2
      subst r2
      obtain ⟨⟨hb, q2⟩, a, ca, s1, e1, q, z⟩ := pen_name C' q2
      refine ⟨.ref a, s1, a, _, rfl, DPut.k (k := Sum.inr kw) q (by unfold penRows; rw [sizeLine_eq]; split <;> simp), ?_⟩
      refine R.nx F' pa' ⟨t'.cells, n, t'.left, t'.tape, t'.obs⟩ env σ _ g' (C'.wrPen (t' := ⟨t'.cells, n, t'.left, t'.tape, t'.obs⟩) e1 ⟨ca, ?_, z⟩) q2
      unfold penRows
      rw [hb, hk]
      cases b
      · exact congrArg HO.dK (put2 (k1 := "cells") (k2 := "at") (k3 := "left") (by decide +kernel) (by decide +kernel))
      · exact congrArg HO.dK (put2 (k1 := "cells") (k2 := "turn") (k3 := "rest") (by decide +kernel) (by decide +kernel))
    | _ => exact q2.elim⟩
theorem q_putL {b : Bool} {kw : Str} {i : Nat} {x : Str} {j : Nat} {p p1 pos' : Pos} (hu : X.A.units + 1 < cLine) (hx : PE X (.Name x p) (tVar i)) (he : QE X B e da) (hk : kw = (if b then "rest" else "left" : Str)) (hs : swapsWith e (some (.Subscript (.Name x p) (.Constant (.str kw) j p1) pos')) pos.line X.env = pure false := by rfl) :
    QS X B (.Assign [.Subscript (.Name x p) (.Constant (.str kw) j p1) pos'] e pos) (dPutL b i da) :=
  PS.imp (ps_dput hu hx (pe_str (x := kw)) he hs) fun De σ H ⟨F, pa, t, env, DD, C, h, R⟩ => ⟨F, pa, t, env, _, C, h, fun w y F' pa' t' H' g' C' r2 q2 => by
    cases y with
    | int n =>
      unfold RelD at r2
      subst r2
      obtain ⟨⟨hb, q2⟩, a, ca, s1, e1, q, z⟩ := pen_name C' q2
      refine ⟨.ref a, s1, a, _, rfl, DPut.k (k := Sum.inr kw) q (by unfold penRows; rw [sizeLine_eq]; split <;> simp), ?_⟩
      refine R.nx F' pa' ⟨t'.cells, t'.at', n, t'.tape, t'.obs⟩ env σ _ g' (C'.wrPen (t' := ⟨t'.cells, t'.at', n, t'.tape, t'.obs⟩) e1 ⟨ca, ?_, z⟩) q2
      unfold penRows
      rw [hb, hk]
      cases b
      · exact congrArg HO.dK (put3 (k1 := "cells") (k2 := "at") (k3 := "left") (by decide +kernel) (by decide +kernel))
      · exact congrArg HO.dK (put3 (k1 := "cells") (k2 := "turn") (k3 := "rest") (by decide +kernel) (by decide +kernel))
    | _ => exact q2.elim⟩
end
/-! ### the law's own def -/
end Q
/-! QH10 -/
namespace Q
open PySem L2 PyProof.Rows
end Q
/-! QH11 -/
namespace Q
open PySem L2 PyProof.Rows
section
variable {X : Cx} {B : Bs} {K : PySem.W.Frag} {a b c e o : Expr} {es : List Expr} {pos : Pos} {da db dc : DE} {as : DA} {st : Stmt}
/-! ### a list or a tuple, walked -/
def iAny (K : PySem.W.Frag) (tl : TE) : TI := fun σ H R => tl σ H fun x H1 => ∃ a, x = .ref a ∧ (((∃ xs, SqL K H1 a xs) ∧ R (Itl K a) H1) ∨ ((∃ xs, SqT K H1 a xs) ∧ R (Itt K a) H1))
theorem pi_any {tg : Expr} {tl : TE} (hl : PE X e tl) : PI X tg e (iAny X.K tl) := ⟨fun pins s σ H R I h => by
  refine thn (hl.run pins s σ H _ I h) ?_
  rintro v s1 ⟨x, H1, I1, r1, a, rfl, h2⟩
  cases r1
  have fp : ∀ b ∈ [s1.heap.objs.size], FpOk X pins H1 b := by
    intro b hb
    rw [List.mem_singleton.mp hb]
    exact I1.fpOk (Nat.le_refl _) (I1.hok.fresh (Nat.le_refl _))
  have kp : ∀ (u : Obj) b o, s1.heap.get? b = some o → (s1.heap.push u).get? b = some o := fun u b o z => Heap.get?_push_of_some _ z
  rcases h2 with ⟨⟨xs, hq⟩, q⟩ | ⟨⟨xs, hq⟩, q⟩
  · have L := I1.list hq
    obtain ⟨its, rv, p, hz⟩ := L
    exact wpAny_pyIter_list p.isList ⟨_, _, _, _, H1, rfl, I1.kept (t' := s1.toks) (kp _), turn_list a _, ⟨_, Heap.get?_push_size _ rfl, rfl, rfl⟩, fp, q⟩
  · have L := I1.tuple hq
    obtain ⟨its, rv, p, hz⟩ := L
    exact wpAny_pyIter_tuple (s := s1) (items := its.toArray) p ⟨_, _, _, _, H1, rfl, I1.kept (t' := s1.toks) (kp _), turn_tuple a _, ⟨_, Heap.get?_push_size _ rfl, rfl, rfl⟩, fp, q⟩⟩
theorem q_iany {tg : Expr} (he : QE X B e da) : QI X B tg e (iSeq da) := PI.imp (pi_any he) fun σ H R ⟨F, pa, t, env, P, C, h, k⟩ => ⟨F, pa, t, env, _, C, h, fun v d F' pa' t' H' g C' r q => by
  cases d with
  | lst l =>
    have r' := r
    unfold RelD at r'
    obtain ⟨a, vs, rfl, e1, r1⟩ := r'
    exact ⟨a, rfl, .inl ⟨⟨vs, SqL.of (C'.sub _ _ e1)⟩, k _ l F' pa' t' H' g C' (it_list (SqL.of e1) r1) q⟩⟩
  | tup l =>
    have r' := r
    unfold RelD at r'
    obtain ⟨a, vs, rfl, e1, r1⟩ := r'
    exact ⟨a, rfl, .inr ⟨⟨vs, SqT.of (C'.sub _ _ e1)⟩, k _ l F' pa' t' H' g C' (it_tup e1 r1) q⟩⟩
  | scr ns =>
    have r' := r
    unfold RelD at r'
    obtain ⟨a, rfl, e1⟩ := r'
    exact ⟨a, rfl, .inl ⟨⟨_, sq_mono C'.sub e1⟩, k _ _ F' pa' t' H' g C' (it_list e1 (RelL.of_ints ns)) q⟩⟩
  | _ => exact q.elim⟩
/-! ### isinstance, of built-in types -/
theorem RelX.tyx {F : Hp} {pa : Option Addr} {t : Ts} {env : En} {σ : L2.St} {H : Hp} {d : D} {v : V} {n : Tn} (W : Cf K B F pa t env σ H) (r : RelX K F pa env σ d v) (h : tn d = some n) : TyX K H v (.type n.name) := by
  cases d with
  | non => cases h; rw [r.non W]; exact .base .non
  | bl b => cases h; rw [r.bl W]; exact .base (.bl b)
  | int i => cases h; rw [r.int W]; exact .base (.int i)
  | str s => cases h; rw [r.str W]; exact .base (.str s)
  | lst l => cases h; obtain ⟨a, us, rfl, e, _⟩ := r.lst W; exact .base (.lst e)
  | tup l => cases h; obtain ⟨a, us, rfl, e, _⟩ := r.tup W; exact .base (.tup e)
  | dic ks l => cases h; obtain ⟨a, us, rfl, e, _⟩ := r.dic W; exact .base (.dK e)
  | _ => cases h
theorem kit_isa (n c : Tn) : PySem.W.kitOne K (.type n.name) (.type c.name) = some (isa n c) := by
  refine kit_ty ?_
  cases n <;> cases c <;> decide +kernel
theorem kit_isas (n : Tn) : ∀ cs : List Tn, PySem.W.kitAny K (.type n.name) (cs.map fun c => .type c.name) = some (cs.any (isa n))
  | [] => rfl
  | c :: cs => kitAny_cons (b := isa n c) (kit_isa n c) (fun h => by rw [kit_isas n cs]; simp [h]) (fun h => by simp [h])
section
variable {p p2 tpos : Pos} {x : Str}
/-- isinstance(e, T) -/
theorem q_isi {c : Tn} (he : QV X B e da) (hg : Gl X "isinstance") (hm : X.mg "isinstance" = none) (hg2 : Gl X x) (hm2 : X.mg x = none) (hv : bootBuiltins x = some (.type c.name)) (hn : x ≠ "__name__" := by decide) (hdb : (x == ("__debug__" : Str)) = false := by decide)
    (hs : starEach [e, .Name x p2] X.env = (false, eval e X.env) :: starEach [.Name x p2] X.env := by rfl) (hs2 : starEach [.Name x p2] X.env = (false, eval (.Name x p2) X.env) :: starEach [] X.env := by rfl) :
    QE X B (.Call (.Name "isinstance" p) [e, .Name x p2] [] pos) (dIsi [c] da) :=
  PE.imp (pe_callB call_isi hg hm (by rfl) (pa_cons he (pa_cons (pe_bltn (v := .ty c.name) hg2 hm2 hv rfl hn hdb) pa_nil hs2) hs) (by decide) (by decide) hs (by rfl)) fun σ H Q ⟨F, pa, t, env, P, C, h, k⟩ =>
    ⟨F, pa, t, env, _, C, h, fun v d F' pa' t' H' g C' r q => by
      split at q
      · rename_i n hn
        exact ⟨v, .ty c.name, _, _, _, rfl, .ty _, r.tyx C' hn, kit_isa n c, k _ _ F' pa' t' H' g C' (rD_bl _) (by simpa using q)⟩
      · exact q.elim⟩
theorem q_isi2 {c c2 : Tn} {x2 : Str} {p3 : Pos} {kk : Nat} (he : QV X B e da) (hg : Gl X "isinstance") (hm : X.mg "isinstance" = none) (hg2 : Gl X x) (hm2 : X.mg x = none) (hv : bootBuiltins x = some (.type c.name))
    (hg3 : Gl X x2) (hm3 : X.mg x2 = none) (hv3 : bootBuiltins x2 = some (.type c2.name)) (hn : x ≠ "__name__" := by decide) (hdb : (x == ("__debug__" : Str)) = false := by decide) (hn2 : x2 ≠ "__name__" := by decide) (hdb2 : (x2 == ("__debug__" : Str)) = false := by decide)
    (hs : starEach [e, .Tuple [.Name x p2, .Name x2 p3] kk tpos] X.env = (false, eval e X.env) :: starEach [.Tuple [.Name x p2, .Name x2 p3] kk tpos] X.env := by rfl)
    (hs1 : starEach [.Tuple [.Name x p2, .Name x2 p3] kk tpos] X.env = (false, eval (.Tuple [.Name x p2, .Name x2 p3] kk tpos) X.env) :: starEach [] X.env := by rfl)
    (hs2 : starEach [.Name x p2, .Name x2 p3] X.env = (false, eval (.Name x p2) X.env) :: starEach [.Name x2 p3] X.env := by rfl) (hs3 : starEach [.Name x2 p3] X.env = (false, eval (.Name x2 p3) X.env) :: starEach [] X.env := by rfl) :
    QE X B (.Call (.Name "isinstance" p) [e, .Tuple [.Name x p2, .Name x2 p3] kk tpos] [] pos) (dIsi [c, c2] da) :=
  PE.imp (pe_callB call_isiT hg hm (by rfl) (pa_cons he (pa_cons (pe_tup (pa_cons (pe_bltn (v := .ty c.name) hg2 hm2 hv rfl hn hdb) (pa_cons (pe_bltn (v := .ty c2.name) hg3 hm3 hv3 rfl hn2 hdb2) pa_nil hs3) hs2)) pa_nil hs1) hs) (by decide) (by decide) hs (by rfl)) fun σ H Q ⟨F, pa, t, env, P, C, h, k⟩ =>
    ⟨F, pa, t, env, _, C, h, fun v d F' pa' t' H' g C' r q => by
      split at q
      · rename_i n hn
        refine ⟨by show 2 ≤ sizeLine; unfold sizeLine; decide, fun tp ht => ?_⟩
        have C2 := C'.loose (.tup [V.ty c.name, V.ty c2.name]) ht
        exact ⟨v, tp, _, _, _, _, rfl, upd_same, .cons (.ty _) (.cons (.ty _) .nil), r.tyx C2 hn, kit_isas n [c, c2], k _ _ F' pa' t' _ g C2 (rD_bl _) q⟩
      · exact q.elim⟩
end
/-! ### an instance made -/
def BI (F : Hp) (pa : Option Addr) (t : Ts) (H : Hp) (x : Addr) : Bs := ⟨F, H, x :: pa.toList, pa, false, [], t.dom⟩
/-- what __init__ promises: the instance that it is handed holds the datum -/
def liftI (K : PySem.W.Frag) (C : Addr) (sp : PSp) : Sp := fun vs H Q E => ∃ x dx us F pa t ds P, vs = .ref x :: us ∧ H x = some (.ins C dx []) ∧ F x = none ∧ pa ≠ some x ∧ t.obs x = none ∧ Cf K (B0 F pa t H) F pa t [] [] H ∧ RelL K F pa ds us ∧ sp ds t P ∧
  ∀ h d F' pa' t' H', Cf K (BI F pa t H x) F' pa' t' [] [] H' → F' x = none → pa' ≠ some x → t'.obs x = none → H' x = some h → RelO1 K F' pa' d h → P d t' → Q .non H'
section
variable {CX : CXT} {k : Nat} {f Cl' : Addr} {fd : FuncData} {ps : List Str} {sp : PSp} {dvs : List V} {dds : List D} {ds : List Value} {E : XK} {x m : Str} {p apos : Pos}
theorem ev_make (hd : ∀ F pa, RelL K F pa dds dvs) : ∀ σ H Q, tnOf K B (dCall sp dds as) σ H Q → tMake Cl' (liftI K Cl' sp) dvs E (taOf K B as) σ H Q := fun σ H Q ⟨F, pa, t, env, P, W, h, k⟩ =>
  ⟨F, pa, t, env, _, W, h, fun vs xs F1 pa1 t1 H1 g1 W1 r1 q1 x dx hx hdx hne => by
    have hx2 : upd H1 dx (.own x) x = none := by rw [upd_ne (Ne.symm hne)]; exact hx
    have W2 := (W1.loose (.own x) hdx).loose (.ins Cl' dx []) hx2
    obtain ⟨hF, hB, _⟩ := W1.fresh hx
    have nw := W1.nw hx
    have up : ∀ a o, H1 a = some o → upd (upd H1 dx (.own x)) x (.ins Cl' dx []) a = some o := fun a o e => by
      rw [upd_ne (ne_of_none e hx), upd_ne (ne_of_none e hdx)]; exact e
    refine ⟨x, dx, _, F1, pa1, t1, xs ++ dds, P, rfl, upd_same, hF, nw.a, nw.o, W2.call, r1.append (hd _ _), q1, fun hh d F' pa' t' H' W' n1 n2 n4 e' r' q' => ⟨rfl, ?_⟩⟩
    have W3 : Cf K (B0 F1 pa1 t1 H1) F' pa' t' [] [] H' := by
      refine ⟨rfl, W'.sub, W'.bas, fun a o e hp ho => ?_, fun a o e => ?_, fun a ha => ?_, W'.val, fun i d e => by simp at e, W'.sep, fun a e => ?_, W'.pnn, TabF.nil, W'.ntb, fun a d q => ?_, W'.obx, fun i d a e => by simp at e⟩
      · refine W'.frm a o (up a o e) (fun z => ?_) ho
        rcases List.mem_cons.mp z with z | z
        · exact absurd z (ne_of_none e hx)
        · exact hp z
      · rcases W'.new a o e with z | z
        · exact .inl z
        · refine .inr ?_
          cases q : H1 a with
          | none => exact q
          | some u => rw [show (BI F1 pa1 t1 (upd (upd H1 dx (.own x)) x (.ins Cl' dx [])) x).H a = upd (upd H1 dx (.own x)) x (.ins Cl' dx []) a from rfl, up a u q] at z; cases z
      · exact W'.exl a (List.mem_cons_of_mem _ ha)
      · obtain ⟨h1, h2, h3⟩ := W'.pen a e
        refine ⟨h1, h2, ?_⟩
        rcases h3 with z | z
        · rcases List.mem_cons.mp z with z | z
          · exact absurd (by rw [e, z]) n2
          · exact .inl z
        · refine .inr ?_
          cases q : H1 a with
          | none => exact q
          | some u => rw [show (BI F1 pa1 t1 (upd (upd H1 dx (.own x)) x (.ins Cl' dx [])) x).H a = upd (upd H1 dx (.own x)) x (.ins Cl' dx []) a from rfl, up a u q] at z; cases z
      · obtain ⟨h1, h2, h3, h4, h5⟩ := W'.obs a d q
        refine ⟨h1, h2, h3, ?_, h5⟩
        rcases h4 with z | z
        · exact .inl z
        · refine .inr ?_
          cases q : H1 a with
          | none => exact q
          | some u => rw [show (BI F1 pa1 t1 (upd (upd H1 dx (.own x)) x (.ins Cl' dx [])) x).H a = upd (upd H1 dx (.own x)) x (.ins Cl' dx []) a from rfl, up a u q] at z; cases z
    obtain ⟨g, W4⟩ := W1.after W3
    exact k x hh d F' pa' t' H' (g1.trans g) W4 ⟨n1, hB, n2, nw.s, n4⟩ e' r' q'⟩
theorem q_make (M : Mk X.K Cl' f) (F : FnOk X.prog X.w X.K X.mg X.base CX k f fd ps (liftI X.K Cl' sp)) (hr : Room (k + 1) X.A) (hg : Gl X x) (hm : X.mg x = some (.ref Cl')) (hb : Binds X.K fd ps ds) (hd : Vals dvs ds) (hD : ∀ F pa, RelL X.K F pa dds dvs) (hx : Passes CX X E)
    (ha : QA X B (e :: es) as) (hdb : (x == ("__debug__" : Str)) = false := by decide) (he : starEach (e :: es) X.env = (false, eval e X.env) :: starEach es X.env := by rfl) (hpl : (backTo pos (starEach es X.env)).any (·.1) = false := by rfl) :
    QN X B (.Call (.Name x p) (e :: es) [] pos) (dCall sp dds as) := PE.imp (pe_make M F hr hg hm hb hd hx ha hdb he hpl) (ev_make hD)
/-- self.f = e -/
theorem putF_new {f : Str} {v : V} : ∀ {fs : List (Str × V)}, fs.lookup f = none → putF f v fs = fs ++ [(f, v)]
  | [], _ => rfl
  | (g, y) :: r, h => by
    have hne : ¬ g = f := by
      rintro rfl
      simp [List.lookup] at h
    have h2 : r.lookup f = none := by
      have : (f == g) = false := by simpa using fun z => hne z.symm
      simpa [List.lookup, this] using h
    show (if g = f then _ else _) = _
    rw [if_neg hne, putF_new h2]
    rfl
theorem zip_snoc {α β : Type} : ∀ {a : List α} {b : List β} {x : α} {y : β}, a.length = b.length → (a ++ [x]).zip (b ++ [y]) = a.zip b ++ [(x, y)]
  | [], [], _, _, _ => rfl
  | _ :: _, _ :: _, _, _, h => by
    simp only [List.cons_append, List.zip_cons_cons]
    rw [zip_snoc (by simpa using h)]
  | [], _ :: _, _, _, h => by simp at h
  | _ :: _, [], _, _, h => by simp at h
theorem relL_snoc {F : Hp} {pa : Option Addr} {d : D} {v : V} (h : RelD K F pa d v) : ∀ {l : List D} {vs : List V}, RelL K F pa l vs → RelL K F pa (l ++ [d]) (vs ++ [v])
  | [], vs, r => by
    have e : vs = [] := by unfold RelL at r; exact r
    subst e
    exact RelL.cons h (by unfold RelL; rfl)
  | x :: l, vs, r => by
    obtain ⟨v1, vr, rfl, r1, r2⟩ := r.inv
    exact RelL.cons r1 (relL_snoc h r2)
end
end
end Q
/-! QH12 -/
namespace Q
open PySem L2 PyProof.Rows
section
variable {K : PySem.W.Frag} {F F' : Hp} {pa : Option Addr}
/-! ### without a pen -/
mutual
theorem RelD.un : ∀ (d : D) (v : V), nopen d = true → RelD K F pa d v → RelD K F none d v
  | .non, v, _, h => by unfold RelD at h ⊢; exact h
  | .bl b, v, _, h => by unfold RelD at h ⊢; exact h
  | .int i, v, _, h => by unfold RelD at h ⊢; exact h
  | .str x, v, _, h => by unfold RelD at h ⊢; exact h
  | .ty n, v, _, h => by unfold RelD at h ⊢; exact h
  | .adr a, v, _, h => by unfold RelD at h ⊢; exact h
  | .rp a, v, _, h => by unfold RelD at h ⊢; exact h
  | .pen, v, n, h => by simp [nopen] at n
  | .scr ns, v, _, h => by unfold RelD at h ⊢; exact h
  | .lst l, v, n, h => by
    unfold RelD at h ⊢
    unfold nopen at n
    obtain ⟨a, vs, e, r, q⟩ := h
    exact ⟨a, vs, e, r, RelL.un l vs n q⟩
  | .tup l, v, n, h => by
    unfold RelD at h ⊢
    unfold nopen at n
    obtain ⟨a, vs, e, r, q⟩ := h
    exact ⟨a, vs, e, r, RelL.un l vs n q⟩
  | .dic ks l, v, n, h => by
    unfold RelD at h ⊢
    unfold nopen at n
    obtain ⟨a, vs, e, r, z, q⟩ := h
    exact ⟨a, vs, e, r, z, RelL.un l vs n q⟩
  | .ins C ns l, v, n, h => by
    unfold RelD at h ⊢
    unfold nopen at n
    obtain ⟨a, dx, vs, e, r, z, q⟩ := h
    exact ⟨a, dx, vs, e, r, z, RelL.un l vs n q⟩
theorem RelL.un : ∀ (l : List D) (vs : List V), nopens l = true → RelL K F pa l vs → RelL K F none l vs
  | [], vs, _, h => by unfold RelL at h ⊢; exact h
  | d :: ds, vs, n, h => by
    unfold RelL at h ⊢
    unfold nopens at n
    obtain ⟨v, vr, e, r, q⟩ := h
    have n2 := Bool.and_eq_true_iff.mp n
    exact ⟨v, vr, e, RelD.un d v n2.1 r, RelL.un ds vr n2.2 q⟩
end
mutual
theorem RelD.up : ∀ (d : D) (v : V), RelD K F none d v → RelD K F pa d v
  | .non, v, h => by unfold RelD at h ⊢; exact h
  | .bl b, v, h => by unfold RelD at h ⊢; exact h
  | .int i, v, h => by unfold RelD at h ⊢; exact h
  | .str x, v, h => by unfold RelD at h ⊢; exact h
  | .ty n, v, h => by unfold RelD at h ⊢; exact h
  | .adr a, v, h => by unfold RelD at h ⊢; exact h
  | .rp a, v, h => by unfold RelD at h ⊢; exact h
  | .pen, v, h => by
    unfold RelD at h
    obtain ⟨a, e, _⟩ := h
    cases e
  | .scr ns, v, h => by unfold RelD at h ⊢; exact h
  | .lst l, v, h => by
    unfold RelD at h ⊢
    obtain ⟨a, vs, e, r, q⟩ := h
    exact ⟨a, vs, e, r, RelL.up l vs q⟩
  | .tup l, v, h => by
    unfold RelD at h ⊢
    obtain ⟨a, vs, e, r, q⟩ := h
    exact ⟨a, vs, e, r, RelL.up l vs q⟩
  | .dic ks l, v, h => by
    unfold RelD at h ⊢
    obtain ⟨a, vs, e, r, z, q⟩ := h
    exact ⟨a, vs, e, r, z, RelL.up l vs q⟩
  | .ins C ns l, v, h => by
    unfold RelD at h ⊢
    obtain ⟨a, dx, vs, e, r, z, q⟩ := h
    exact ⟨a, dx, vs, e, r, z, RelL.up l vs q⟩
theorem RelL.up : ∀ (l : List D) (vs : List V), RelL K F none l vs → RelL K F pa l vs
  | [], vs, h => by unfold RelL at h ⊢; exact h
  | d :: ds, vs, h => by
    unfold RelL at h ⊢
    obtain ⟨v, vr, e, r, q⟩ := h
    exact ⟨v, vr, e, RelD.up d v r, RelL.up ds vr q⟩
end
/-! ### the state of a def that makes: the instance at x, of its own -/
theorem RelO1.un : ∀ {d : D} {h : HO}, nopen d = true → RelO1 K F pa d h → RelO1 K F none d h := fun {d h} n r => by
  cases d with
  | lst l => obtain ⟨vs, e, q⟩ := r; exact ⟨vs, e, RelL.un l vs (by simpa [nopen] using n) q⟩
  | dic ks l => obtain ⟨vs, e, z, q⟩ := r; exact ⟨vs, e, z, RelL.un l vs (by simpa [nopen] using n) q⟩
  | ins C ns l => obtain ⟨dx, vs, e, z, q⟩ := r; exact ⟨dx, vs, e, z, RelL.un l vs (by simpa [nopen] using n) q⟩
  | _ => exact r.elim
theorem RelO1.up : ∀ {d : D} {h : HO}, RelO1 K F none d h → RelO1 K F pa d h := fun {d h} r => by
  cases d with
  | lst l => obtain ⟨vs, e, q⟩ := r; exact ⟨vs, e, RelL.up l vs q⟩
  | dic ks l => obtain ⟨vs, e, z, q⟩ := r; exact ⟨vs, e, z, RelL.up l vs q⟩
  | ins C ns l => obtain ⟨dx, vs, e, z, q⟩ := r; exact ⟨dx, vs, e, z, RelL.up l vs q⟩
  | _ => exact r.elim
end
def BX (O : Addr → Prop) (F : Hp) (H : Hp) (x : Addr) : Bs := ⟨F, H, [x], none, false, [], O⟩
structure Is (K : PySem.W.Frag) (O : Addr → Prop) (F0 H0 : Hp) (x Cl' : Addr) (ns : List Str) (l : List D) (F : Hp) (t : Ts) (env : En) (σ : L2.St) (H : Hp) : Prop where
  c : Cf K (BX O F0 H0 x) F none t env σ H
  nov : ∀ (i : Nat) (d : D), env[i]? ≠ some (Sl.own d)
  ins : ∃ dx vs, H x = some (.ins Cl' dx (ns.zip vs)) ∧ ns.length = vs.length ∧ RelL K F none l vs
  f : F x = none
  s : σ[0]? = some (some (V.ref x))
  o : t.obs x = none
section
variable {K : PySem.W.Frag} {O : Addr → Prop} {F0 H0 : Hp} {x Cl' : Addr} {ns : List Str} {l : List D} {F F' : Hp} {t t' : Ts} {env : En} {σ : L2.St} {H H' : Hp} {B : Bs} {pa : Option Addr}
theorem Cf.here (C : Cf K B F pa t env σ H) (n : ∀ (i : Nat) (d : D), env[i]? ≠ some (Sl.own d)) : Cf K (B0 F pa t H) F pa t env σ H := by
  have C2 := C.call
  exact ⟨C.len, C2.sub, C2.bas, C2.frm, C2.new, C2.exl, C.val, fun i d e => absurd e (n i d), fun i j d e a q => absurd q (n i d), C2.pen, C2.pnn, C2.tab, C2.ntb, C2.obs, C2.obx, fun i d a e => absurd e (n i d)⟩
theorem Is.step (S : Is K O F0 H0 x Cl' ns l F t env σ H) {pa' : Option Addr} (C : Cf K (B0 F none t H) F' pa' t' env σ H') : pa' = none ∧ Is K O F0 H0 x Cl' ns l F' t' env σ H' := by
  have hp : pa' = none := C.pnn
  subst hp
  obtain ⟨g, C2⟩ := S.c.after C.nil
  obtain ⟨dx, vs, h1, h2, h3⟩ := S.ins
  refine ⟨rfl, C2, S.nov, ⟨dx, vs, C.frm x _ h1 (by simp [B0]) (fun ⟨d, z⟩ => by rw [S.o] at z; cases z), h2, RelL.mono g l vs h3⟩, ?_, S.s, ?_⟩
  · cases q : F' x with
    | none => rfl
    | some o =>
      rcases C.new x o q with ⟨o', z⟩ | z
      · rw [show (B0 F none t H).F x = F x from rfl, S.f] at z; cases z
      · rw [show (B0 F none t H).H x = H x from rfl, h1] at z; cases z
  · cases q : t'.obs x with
    | none => rfl
    | some d' =>
      rcases (C.obs x d' q).2.2.2.1 with ⟨d0, z⟩ | z
      · rw [S.o] at z; cases z
      · rw [show (B0 F none t H).H x = H x from rfl, h1] at z; cases z
theorem Is.put (S : Is K O F0 H0 x Cl' ns l F t env σ H) {ns' : List Str} {l' : List D} {dx : Addr} {vs : List V} (h2 : ns'.length = vs.length) (h3 : RelL K F none l' vs) : Is K O F0 H0 x Cl' ns' l' F t env σ (upd H x (.ins Cl' dx (ns'.zip vs))) := by
  have C := S.c
  have nx : ∀ {a : Addr} {o : HO}, F a = some o → a ≠ x := fun e => ne_of_none e S.f
  refine ⟨⟨C.len, fun a o e => by rw [upd_ne (nx e)]; exact C.sub a o e, C.bas, fun a o e hp ho => ?_, C.new, fun a ha => ?_, C.val, fun i d e => absurd e (S.nov i d), fun i j d e a q => absurd q (S.nov i d), fun a e => (by cases e), C.pnn, TabF.nil, C.ntb, fun a d q => by
    obtain ⟨h1, ⟨u, h2, h3⟩, h4⟩ := C.obs a d q
    refine ⟨h1, ⟨u, ?_, h3⟩, h4⟩
    rw [upd_ne ?_]
    · exact h2
    · rintro rfl
      rw [S.o] at q; exact (nomatch q), C.obx, fun i d a e => absurd e (S.nov i d)⟩, S.nov, ⟨dx, vs, upd_same, h2, h3⟩, S.f, S.s, S.o⟩
  · have : a ≠ x := fun z => hp (by rw [z]; exact List.mem_singleton.mpr rfl)
    rw [upd_ne this]; exact C.frm a o e hp ho
  · have : a = x := List.mem_singleton.mp ha
    rw [this]; exact ⟨_, upd_same⟩
end
/-! ### its statements -/
def tiS (K : PySem.W.Frag) (Cl' : Addr) (ds : IS) : TS := fun D σ H => ∃ O F0 H0 x ns l F t env k, Is K O F0 H0 x Cl' ns l F t env σ H ∧ ds k ns l env t ∧
  ∀ ns' l' F' t' env' σ' H', Is K O F0 H0 x Cl' ns' l' F' t' env' σ' H' → k ns' l' env' t' → D.nx σ' H'
section
variable {X : Cx} {Cl' : Addr} {st : Stmt} {sts : List Stmt} {a b : IS} {c o value : Expr} {dt : DT} {da : DE} {pos pos' : Pos}
theorem i_cons (h1 : PS X st (tiS X.K Cl' a)) (h2 : PSs X sts (tiS X.K Cl' b)) : PSs X (st :: sts) (tiS X.K Cl' (iThen a b)) :=
  PSs.imp (pss_cons h1 h2) fun D σ H ⟨O, F0, H0, x, ns, l, F, t, env, k, S, h, R⟩ => ⟨O, F0, H0, x, ns, l, F, t, env, _, S, h, fun ns' l' F' t' env' σ' H' S' h' => ⟨O, F0, H0, x, ns', l', F', t', env', k, S', h', R⟩⟩
theorem i_set {f : Str} (h0 : PE X o (tVar 0)) (hv : ∀ B, QE X B value da) (cl : Cls X.K Cl') (na : NoAttr X.K Cl' f) (hs : swapsWith value (some (.Attribute o f pos')) pos.line X.env = pure false := by rfl) :
    PS X (.Assign [.Attribute o f pos'] value pos) (tiS X.K Cl' (iSet f da)) :=
  PS.imp (ps_fld h0 (pe_U hv) hs) fun D σ H ⟨O, F0, H0, x, ns, l, F, t, env, k, S, h, R⟩ =>
    ⟨B0 F none t H, F, none, t, env, _, S.c.here S.nov, h, fun v d F' pa' t' H' g C r q => by
      obtain ⟨rfl, S'⟩ := S.step C
      obtain ⟨⟨hn, hl⟩, q⟩ := q
      obtain ⟨dx, vs, e1, l1, r1⟩ := S'.ins
      refine ⟨_, S'.s, x, Cl', dx, _, rfl, e1, cl, na, by rw [List.length_zip]; omega, ?_⟩
      rw [putF_new (zip_none hn), ← zip_snoc l1]
      exact R _ _ F' t' env σ _ (S'.put (by simp [l1]) (relL_snoc r r1)) q⟩
/-! ### self.sums -/
theorem sumsOf_snoc : ∀ (bs : List Int) (s b : Int), sumsOf s (bs ++ [b]) = sumsOf s bs ++ [(sumsOf s bs).getLastD s + b - 1]
  | [], s, b => rfl
  | c :: bs, s, b => by
    show (s + c - 1) :: sumsOf (s + c - 1) (bs ++ [b]) = _
    rw [sumsOf_snoc bs (s + c - 1) b]
    show _ = (s + c - 1) :: sumsOf (s + c - 1) bs ++ [((s + c - 1) :: sumsOf (s + c - 1) bs).getLastD s + b - 1]
    rw [List.getLastD_cons]
    rfl
theorem sumsOf_len : ∀ (bs : List Int) (s : Int), (sumsOf s bs).length = bs.length
  | [], _ => rfl
  | c :: bs, s => by
    show (sumsOf (s + c - 1) bs).length + 1 = bs.length + 1
    rw [sumsOf_len bs]
/-- the loop's state: p the list, x the instance -/
structure Ls (K : PySem.W.Frag) (F Hs : Hp) (x p Cl' dx : Addr) (ns : List Str) (vs : List V) (l : List D) (t : Ts) (env : En) (σ : L2.St) (H : Hp) (cur : List Int) : Prop where
  len : env.length = σ.length
  sub : ∀ a o, F a = some o → H a = some o
  frm : ∀ a o, Hs a = some o → a ≠ x → a ≠ p → H a = some o
  val : ∀ (i : Nat) (d : D), env[i]? = some (Sl.val d) → ∃ v : V, σ[i]? = some (some v) ∧ RelD K F none d v
  nov : ∀ (i : Nat) (d : D), env[i]? ≠ some (Sl.own d)
  s : σ[0]? = some (some (V.ref x))
  hx : H x = some (.ins Cl' dx ((ns ++ [("sums" : Str)]).zip (vs ++ [.ref p])))
  hp : H p = some (.lst (cur.map V.int))
  ls : ns.length = vs.length
  rl : RelL K F none l vs
  fx : F x = none
  fp : F p = none
  xp : x ≠ p
  nt : ∀ a ps, F a ≠ some (.tbl ps)
section
variable {K : PySem.W.Frag} {F Hs : Hp} {x p dx : Addr} {ns : List Str} {vs : List V} {l : List D} {t : Ts} {env : En} {σ : L2.St} {H : Hp} {cur : List Int}
/-- the state as it is seen by a reading: all frozen -/
theorem Ls.seen (S : Ls K F Hs x p Cl' dx ns vs l t env σ H cur) : ∃ F2, Gr F none F2 none ∧ Cf K (B0 F2 none t.bare H) F2 none t.bare (env.set 0 (.val (.ins Cl' (ns ++ [("sums" : Str)]) (l ++ [.lst (cur.map .int)])))) σ H := by
  let F2 : Hp := upd (upd F p (.lst (cur.map V.int))) x (.ins Cl' dx ((ns ++ [("sums" : Str)]).zip (vs ++ [.ref p])))
  have g1 : Gf F (upd F p (.lst (cur.map V.int))) := Gf.upd S.fp
  have fx2 : (upd F p (.lst (cur.map V.int))) x = none := by rw [upd_ne S.xp]; exact S.fx
  have g2 : Gf (upd F p (.lst (cur.map V.int))) F2 := Gf.upd fx2
  have g : Gr F none F2 none := ⟨fun a o e => g2 a o (g1 a o e), rfl⟩
  have ep : F2 p = some (.lst (cur.map V.int)) := g2 _ _ upd_same
  have ex : F2 x = some (.ins Cl' dx ((ns ++ [("sums" : Str)]).zip (vs ++ [.ref p]))) := upd_same
  refine ⟨F2, g, ⟨by simp [S.len], fun a o e => ?_, fun _ _ e => e, fun _ _ e _ _ => e, fun a o e => .inl ⟨o, e⟩, fun a ha => ?_, fun i d e => ?_, fun i d e => ?_, fun i j d e a q => ?_, fun a e => ?_, rfl, TabF.nil, fun a ps e => ?_, fun a d e => (nomatch e), fun a ⟨d, e⟩ => (nomatch e), fun i d a e _ => rfl⟩⟩
  rotate_right
  · by_cases h1 : a = x
    · subst h1; rw [ex] at e; cases e
    · by_cases h2 : a = p
      · subst h2; rw [ep] at e; cases e
      · have : F2 a = F a := by show upd (upd F p _) x _ a = _; rw [upd_ne h1, upd_ne h2]
        rw [this] at e; exact S.nt a ps e
  · by_cases h1 : a = x
    · subst h1; rw [ex] at e; cases e; exact S.hx
    · by_cases h2 : a = p
      · subst h2; rw [ep] at e; cases e; exact S.hp
      · have : F2 a = F a := by show upd (upd F p _) x _ a = _; rw [upd_ne h1, upd_ne h2]
        rw [this] at e; exact S.sub a o e
  · simp [B0] at ha
  · rcases get_set e with ⟨rfl, z⟩ | ⟨ne, z⟩
    · cases z
      refine ⟨.ref x, S.s, ?_⟩
      unfold RelD
      refine ⟨x, dx, _, rfl, ex, by simp [S.ls], relL_snoc ?_ (RelL.mono g l vs S.rl)⟩
      unfold RelD
      exact ⟨p, _, rfl, ep, RelL.of_ints cur⟩
    · obtain ⟨v, h1, h2⟩ := S.val i d z
      exact ⟨v, h1, RelD.mono g d v h2⟩
  · rcases get_set e with ⟨_, z⟩ | ⟨_, z⟩
    · cases z
    · exact absurd z (S.nov i d)
  · rcases get_set q with ⟨_, z⟩ | ⟨_, z⟩
    · cases z
    · exact absurd z (S.nov i d)
  · cases e
theorem Ls.kept (S : Ls K F Hs x p Cl' dx ns vs l t env σ H cur) {H' : Hp} (g : Gf H H') : Ls K F Hs x p Cl' dx ns vs l t env σ H' cur :=
  ⟨S.len, fun a o e => g _ _ (S.sub a o e), fun a o e h1 h2 => g _ _ (S.frm a o e h1 h2), S.val, S.nov, S.s, g _ _ S.hx, g _ _ S.hp, S.ls, S.rl, S.fx, S.fp, S.xp, S.nt⟩
theorem Ls.setj (S : Ls K F Hs x p Cl' dx ns vs l t env σ H cur) {j : Nat} (hj : j ≠ 0) (b : Int) : Ls K F Hs x p Cl' dx ns vs l t (env.set j (.val (.int b))) (σ.set j (some (.int b))) H cur := by
  refine ⟨by simp [S.len], S.sub, S.frm, fun i d e => ?_, fun i d e => ?_, by rw [List.getElem?_set_ne hj]; exact S.s, S.hx, S.hp, S.ls, S.rl, S.fx, S.fp, S.xp, S.nt⟩
  · rcases get_set e with ⟨rfl, z⟩ | ⟨ne, z⟩
    · cases z
      have hi : j < env.length := by simpa using (List.getElem?_eq_some_iff.mp e).1
      exact ⟨.int b, by rw [List.getElem?_set_self (by rw [← S.len]; exact hi)], by unfold RelD; rfl⟩
    · obtain ⟨v, h1, h2⟩ := S.val i d z
      exact ⟨v, by rw [List.getElem?_set_ne ne]; exact h1, h2⟩
  · rcases get_set e with ⟨_, z⟩ | ⟨_, z⟩
    · cases z
    · exact S.nov i d z
theorem Ls.app (S : Ls K F Hs x p Cl' dx ns vs l t env σ H cur) (z : Int) : Ls K F Hs x p Cl' dx ns vs l t env σ (upd H p (.lst ((cur ++ [z]).map V.int))) (cur ++ [z]) :=
  ⟨S.len, fun a o e => by rw [upd_ne (ne_of_none e S.fp)]; exact S.sub a o e, fun a o e h1 h2 => by rw [upd_ne h2]; exact S.frm a o e h1 h2, S.val, S.nov, S.s, by rw [upd_ne S.xp]; exact S.hx, upd_same, S.ls, S.rl, S.fx, S.fp, S.xp, S.nt⟩
end
theorem intsD_map : ∀ bs : List Int, Q.intsD (bs.map .int) = some bs
  | [] => rfl
  | c :: r => by simp [Q.intsD, intsD_map r]
theorem set_self {α : Type} (l : List α) (i : Nat) : l = [] ∨ ∃ s, l.set i s = l := by
  by_cases h : i < l.length
  · exact .inr ⟨l[i], by simp⟩
  · cases l with
    | nil => exact .inl rfl
    | cons a r => exact .inr ⟨a, List.set_eq_of_length_le (by omega)⟩
theorem zip_look {α : Type} {f : Str} : ∀ {a : List Str} {b : List α} {y : α}, a.length = b.length → a.contains f = false → ((a ++ [f]).zip (b ++ [y])).lookup f = some y
  | [], [], y, _, _ => by simp [List.lookup]
  | g :: a, _ :: b, y, h, n => by
    have n2 : (f == g) = false ∧ a.contains f = false := by
      simp only [List.contains_cons, Bool.or_eq_false_iff] at n
      exact n
    show List.lookup f ((g, _) :: (a ++ [f]).zip (b ++ [y])) = _
    rw [List.lookup_cons, n2.1]
    exact zip_look (by simpa using h) n2.2
  | [], _ :: _, _, h, _ => by simp at h
  | _ :: _, [], _, h, _ => by simp at h
section
variable {o iter ecall tg : Expr} {de : DE} {ib j : Nat} {p1 p2 p3 p4 p5 : Pos}
theorem i_sums (h0 : PE X o (tVar 0)) (hb : PE X iter (tVar ib)) (hg : PG X tg (L2.gName j)) (hap : PE X ecall (tBM X.K "list" rAppend (tFld X.K (tVar 0) "sums") (tCons (teU X.K de) tNil))) (hde : SumsE Cl' j de) (cl : Cls X.K Cl') (na : NoAttr X.K Cl' "sums")
    (hpo : PassesOwn (model X.prog X.w) X.A X.env X.xe) (hc : X.calm = true) (hj : j ≠ 0) (hs : swapsWith (.List [] p1) (some (.Attribute o "sums" p2)) p3.line X.env = pure false := by rfl)
    (hsE : swapsWith ecall none p4.line X.env = pure false := by rfl) (hsF : ∀ x, foldedSetIterable iter X.env x = pure x := by intro _; rfl) :
    PSs X [.Assign [.Attribute o "sums" p2] (.List [] p1) p3, .For tg iter [.Expr ecall p4] [] p5] (tiS X.K Cl' (iSums ib j)) :=
  PSs.imp (pss_cons (ps_fld h0 (pe_lst pa_nil) hs) (pss_one (ps_for hpo hc (pi_any hb) hg (pss_one (ps_expr hap hsE)) hsF))) fun D σ H ⟨O, F0, H0, x, ns, l, F, t, env, k, S, h, R⟩ => by
    -- the numbers
    have hv : ∃ bs : List Int, ∃ a : Addr, σ[ib]? = some (some (V.ref a)) ∧ (F a = some (.lst (bs.map V.int)) ∨ F a = some (.tup (bs.map V.int))) ∧ bs.length ≤ 1000 ∧ (ns.contains ("sums" : Str) = false ∧ ns.length < 900 ∧ j < env.length) ∧ ∀ s, k (ns ++ [("sums" : Str)]) (l ++ [.lst ((sumsOf 0 bs).map .int)]) (env.set j s) t := by
      have ri : ∀ (bs : List Int) (us : List V), RelL X.K F none (bs.map .int) us → us = bs.map V.int := fun bs us r => RelL.intsD r (intsD_map bs)
      unfold iSums at h
      split at h
      · rename_i m e
        obtain ⟨bs, rfl, h1, h2, h3⟩ := h
        obtain ⟨v, e1, r⟩ := S.c.val _ _ e
        unfold RelD at r
        obtain ⟨a, us, rfl, e2, r2⟩ := r
        rw [ri bs us r2] at e2
        exact ⟨bs, a, e1, .inl e2, h1, h2, h3⟩
      · rename_i m e
        obtain ⟨bs, rfl, h1, h2, h3⟩ := h
        obtain ⟨v, e1, r⟩ := S.c.val _ _ e
        unfold RelD at r
        obtain ⟨a, us, rfl, e2, r2⟩ := r
        rw [ri bs us r2] at e2
        exact ⟨bs, a, e1, .inr e2, h1, h2, h3⟩
      · exact h.elim
    obtain ⟨bs, ab, hib, hab, hbl, ⟨hns, hnl, hjl⟩, hk⟩ := hv
    obtain ⟨dx, vs, hx, hlen, rl⟩ := S.ins
    refine ⟨Nat.zero_le _, fun p hp0 => ⟨.ref x, S.s, x, Cl', dx, _, rfl, by rw [upd_ne (ne_of_none hx hp0)]; exact hx, cl, na, by rw [List.length_zip]; omega, ?_⟩⟩
    rw [putF_new (zip_none hns), ← zip_snoc hlen]
    have xp : x ≠ p := ne_of_none hx hp0
    have fp : F p = none := (S.c.fresh hp0).1
    have L0 : Ls X.K F (upd (upd H p (.lst [])) x (.ins Cl' dx ((ns ++ [("sums" : Str)]).zip (vs ++ [.ref p])))) x p Cl' dx ns vs l t env σ (upd (upd H p (.lst [])) x (.ins Cl' dx ((ns ++ [("sums" : Str)]).zip (vs ++ [.ref p])))) [] :=
      ⟨S.c.len, fun a u e => by rw [upd_ne (ne_of_none e S.f), upd_ne (ne_of_none e fp)]; exact S.c.sub a u e, fun a u e _ _ => e, S.c.val, S.nov, S.s, upd_same, by rw [upd_ne (Ne.symm xp)]; exact upd_same, hlen, rl, S.f, fp, xp, S.c.ntb⟩
    generalize hHs : upd (upd H p (.lst [])) x (.ins Cl' dx ((ns ++ [("sums" : Str)]).zip (vs ++ [.ref p]))) = Hs at L0 ⊢
    have hfin : ∀ σ' H' s, Ls X.K F Hs x p Cl' dx ns vs l t (env.set j s) σ' H' (sumsOf 0 bs) → D.nx σ' H' := fun σ' H' s L => by
      refine R _ _ (upd F p (.lst ((sumsOf 0 bs).map V.int))) t (env.set j s) σ' H' ⟨⟨L.len, fun a u e => ?_, fun a u e => ?_, fun a u e hx' ho => ?_, fun a u e => ?_, fun a ha => ?_, fun i d e => ?_, fun i d e => absurd e (L.nov i d), fun i _ d _ _ q => absurd q (L.nov i d), fun a e => (by cases e), rfl, TabF.nil, fun a ps e => by
        by_cases ha : a = p
        · subst ha; rw [upd_same] at e; simp at e
        · rw [upd_ne ha] at e; exact S.c.ntb a ps e, fun a d q => by
        obtain ⟨h1, ⟨u, h2, h3⟩, h4⟩ := S.c.obs a d q
        have hax : a ≠ x := fun z => by rw [z, S.o] at q; simp at q
        have hap' : a ≠ p := ne_of_none h2 hp0
        refine ⟨by rw [upd_ne hap']; exact h1, ⟨u, L.frm a u ?_ hax hap', RelO1.mono ⟨Gf.upd fp, rfl⟩ d u h3⟩, h4⟩
        rw [← hHs, upd_ne hax, upd_ne hap']; exact h2, S.c.obx, fun i d a e => absurd e (L.nov i d)⟩, L.nov, ⟨dx, _, L.hx, by simp [hlen], ?_⟩, by rw [upd_ne xp]; exact S.f, L.s, S.o⟩ (hk s)
      · by_cases ha : a = p
        · subst ha; rw [upd_same] at e; cases e; exact L.hp
        · rw [upd_ne ha] at e; exact L.sub a u e
      · exact Gf.upd fp _ _ (S.c.bas a u e)
      · have h1 := S.c.frm a u e hx' ho
        have hax : a ≠ x := fun z => hx' (by rw [z]; exact List.mem_singleton.mpr rfl)
        have hap' : a ≠ p := ne_of_none h1 hp0
        refine L.frm a u ?_ hax hap'
        rw [← hHs, upd_ne hax, upd_ne hap']; exact h1
      · by_cases ha : a = p
        · subst ha; exact .inr (S.c.fresh hp0).2.1
        · rw [upd_ne ha] at e; exact S.c.new a u e
      · rw [List.mem_singleton.mp ha]; exact ⟨_, L.hx⟩
      · obtain ⟨v, h1, h2⟩ := L.val i d e
        exact ⟨v, h1, RelD.mono ⟨Gf.upd fp, rfl⟩ d v h2⟩
      · refine relL_snoc ?_ (RelL.mono ⟨Gf.upd fp, rfl⟩ l vs rl)
        unfold RelD
        exact ⟨p, _, rfl, upd_same, RelL.of_ints _⟩
    have ne0 : env ≠ [] := fun z => by
      have := S.c.len
      rw [z] at this
      have h2 := S.s
      have : σ = [] := List.eq_nil_of_length_eq_zero (by simpa using this.symm)
      rw [this] at h2; cases h2
    -- the loop
    have hloop : ∀ J, ItOk X.K J (bs.map .int) F none → ∃ W : Nat → Nat → L2.St → Hp → Prop, (∃ m, W 0 m σ Hs) ∧ ∀ i m σ H, W i m σ H →
        (J.stop i H ∧ D.nx σ H) ∨ (J.go i H ∧ ∃ N : L2.St → Hp → Prop, (∀ σ' H', N σ' H' → ∃ m', m' < m ∧ W (i + 1) m' σ' H') ∧ ∀ x H', J.yld i H x H' → L2.gName j x σ H' fun σ2 H2 => tDrop (tBM X.K "list" rAppend (tFld X.K (tVar 0) "sums") (tCons (teU X.K de) tNil)) { D with nx := N, ct := N, bk := D.nx } σ2 H2) := by
      intro J iok
      refine ⟨fun i m σ' H' => m = bs.length - i ∧ i ≤ bs.length ∧ ∃ s, Ls X.K F Hs x p Cl' dx ns vs l t (env.set j s) σ' H' (sumsOf 0 (bs.take i)), ?_, ?_⟩
      · rcases set_self env j with z | ⟨s, hs'⟩
        · exact absurd z ne0
        · exact ⟨_, rfl, Nat.zero_le _, s, by rw [hs']; exact L0⟩
      · rintro i m σ2 H2 ⟨rfl, hi, s, L⟩
        obtain ⟨F2, g2, C2⟩ := L.seen
        have io := iok _ F2 none t.bare _ σ2 H2 i g2 C2
        by_cases hlt : i < bs.length
        · have hb2 : (bs.map Q.D.int)[i]? = some (.int bs[i]) := by simp [hlt]
          obtain ⟨go, yl⟩ := io.2 _ hb2
          refine .inr ⟨go, fun σ' H' => ∃ m', m' < bs.length - i ∧ (m' = bs.length - (i + 1) ∧ i + 1 ≤ bs.length ∧ ∃ s, Ls X.K F Hs x p Cl' dx ns vs l t (env.set j s) σ' H' (sumsOf 0 (bs.take (i + 1)))), fun σ' H' z => z, fun xv H3 y => ?_⟩
          obtain ⟨gh, F3, _, _, _, rv⟩ := yl xv H3 y
          have exv : xv = .int bs[i] := by unfold RelD at rv; exact rv
          subst exv
          have L2' := (L.kept gh).setj hj bs[i]
          rw [List.set_set] at L2'
          obtain ⟨F4, _, C4⟩ := L2'.seen
          refine ⟨.ref x, L2'.s, x, Cl', dx, _, .ref p, rfl, L2'.hx, cl, na, zip_look hlen hns, Or.inl ⟨rfl, _, SqL.of L2'.hp⟩, ?_⟩
          refine ⟨B0 F4 none t.bare H3, F4, none, t.bare, _, fun d t2 => d = .int (bs[i] - 1 + (sumsOf 0 (bs.take i)).getLastD 0) ∧ t2 = t.bare, C4, ?_, ?_⟩
          · refine hde _ t.bare _ (ns ++ [("sums" : Str)]) (l ++ [.lst ((sumsOf 0 (bs.take i)).map .int)]) (sumsOf 0 (bs.take i)) bs[i] ?_ ?_ ?_ ⟨rfl, rfl⟩
            · rw [List.getElem?_set_self (by simp; omega)]
            · exact zip_look (hlen.trans (RelL.len rl)) hns
            · rw [List.getElem?_set_ne (Ne.symm hj), List.getElem?_set_self hjl]
          · rintro v d F5 pa5 t5 H5 g5 C5 r5 ⟨rfl, rfl⟩
            have ev : v = .int (bs[i] - 1 + (sumsOf 0 (bs.take i)).getLastD 0) := by unfold RelD at r5; exact r5
            subst ev
            have gh5 : Gf H3 H5 := fun a u e => C5.frm a u e (by simp [B0]) (fun ⟨d, z⟩ => by cases z)
            have L3 := L2'.kept gh5
            refine ⟨p, _, _, rfl, rfl, L3.hp, ?_, ?_⟩
            · simp only [List.length_map, sumsOf_len, List.length_take]
              unfold sizeLine
              omega
            · have L4 := L3.app (bs[i] - 1 + (sumsOf 0 (bs.take i)).getLastD 0)
              rw [List.map_append] at L4
              rw [show (sumsOf 0 (bs.take i)) ++ [bs[i] - 1 + (sumsOf 0 (bs.take i)).getLastD 0] = sumsOf 0 (bs.take (i + 1)) from ?_] at L4
              · refine ⟨bs.length - (i + 1), by omega, rfl, hlt, .val (.int bs[i]), ?_⟩
                exact L4
              · rw [List.take_add_one, List.getElem?_eq_getElem hlt]
                show _ = sumsOf 0 (bs.take i ++ [bs[i]])
                rw [sumsOf_snoc]
                refine congrArg (fun z => _ ++ [z]) ?_
                omega
        · have e : i = bs.length := by omega
          subst e
          rw [List.take_length] at L
          exact .inl ⟨io.1 (by simp), hfin _ _ _ L⟩
    rcases hab with hab | hab
    · refine ⟨.ref ab, hib, ab, rfl, .inl ⟨⟨_, SqL.of (L0.sub _ _ hab)⟩, hloop _ (it_list (SqL.of hab) (RelL.of_ints bs))⟩⟩
    · refine ⟨.ref ab, hib, ab, rfl, .inr ⟨⟨_, SqT.of (L0.sub _ _ hab)⟩, hloop _ (it_tup hab (RelL.of_ints bs))⟩⟩
end
end
end Q
namespace Q
open PySem L2 PyProof.Rows
section
variable {P : Program} {w : World} {K : PySem.W.Frag} {mg : Str → Option Value} {base : Heap}
theorem start0_nov {N : List Str} {ds : List D} (j : Nat) (d : D) : (start0 N ds)[j]? ≠ some (Sl.own d) := fun e => by
  unfold start0 at e
  by_cases hi : j < ds.length
  · rw [List.getElem?_append_left (by simpa using hi), List.getElem?_map] at e
    cases q : ds[j]? with
    | none => rw [q] at e; cases e
    | some y => rw [q] at e; cases e
  · rw [List.getElem?_append_right (by simpa using hi), List.getElem?_replicate] at e
    split at e <;> cases e
theorem is_start {F : Hp} {pa : Option Addr} {t : Ts} {H : Hp} {N : List Str} {n : Str} {ds : List D} {us : List V} {x dx C' : Addr} (C : Cf K (B0 F pa t H) F pa t [] [] H) (hox : t.obs x = none) (np : nopens ds = true) (r : RelL K F pa ds us) (hx : H x = some (.ins C' dx [])) (h1 : F x = none) :
    Is K t.dom F H x C' [] [] F t (startI x N ds) (start (n :: N) (.ref x :: us)) H := by
  have r0 := RelL.un ds us np r
  have C0 : Cf K (B0 F none t H) F none t [] [] H := ⟨rfl, C.sub, C.bas, fun _ _ e _ _ => e, fun a o e => .inl ⟨o, e⟩, fun a ha => by simp [B0] at ha, fun i d e => by simp at e, fun i d e => by simp at e, C.sep, fun a e => (by cases e), rfl, TabF.nil, C.ntb, fun a d q => by
    obtain ⟨h1, ⟨u, h2, h3⟩, h4, h5, h6⟩ := C.obs a d q
    exact ⟨h1, ⟨u, h2, RelO1.un h6 h3⟩, (by simp), h5, h6⟩, fun a e => e, fun i d a e => by simp at e⟩
  have S := cf_start (N := N) C0 r0
  have e2 : start (n :: N) (.ref x :: us) = some (V.ref x) :: start N us := by
    unfold L2.start
    simp
  have nov : ∀ (i : Nat) (d : D), (startI x N ds)[i]? ≠ some (Sl.own d) := fun i d e => by
    cases i with
    | zero => cases e
    | succ i => exact start0_nov i d e
  rw [e2]
  refine ⟨⟨by simpa [startI] using S.len, S.sub, fun _ _ e => e, fun a o e hp _ => e, fun a o e => .inl ⟨o, e⟩, fun a ha => ?_, fun i d e => ?_, fun i d e => absurd e (nov i d), fun i j d e a q1 => absurd q1 (nov i d), fun a e => (by cases e), rfl, TabF.nil, C.ntb, C0.obs, C0.obx, fun i d a e => absurd e (nov i d)⟩, nov, ⟨dx, [], hx, rfl, RelL.nil⟩, h1, rfl, hox⟩
  · rw [List.mem_singleton.mp ha]; exact ⟨_, hx⟩
  · cases i with
    | zero => cases e; exact ⟨.ref x, rfl, by unfold RelD; rfl⟩
    | succ i => exact S.val i d e
end
end Q
/-! QH13 -/
namespace Q
open PySem L2 PyProof.Rows
section
variable {X : Cx} {B : Bs} {K : PySem.W.Frag} {a b c e o : Expr} {es : List Expr} {pos : Pos} {da db dc : DE} {as : DA}
/-! ### an operation that gives a new object -/
def ROpN (K : PySem.W.Frag) (r : R2) (o : DOp) : Prop := ∀ (B : Bs) F pa t env σ H x y v u P (Q : VK), Cf K B F pa t env σ H → RelX K F pa env σ x v → RelX K F pa env σ y u → o x y P →
  (∀ p h d F' H', Gr F pa F' pa → Cf K B F' pa t env σ H' → Nw B F' pa t env σ p → H' p = some h → RelO1 K F' pa d h → P d → Q (.ref p) H') → r v u H Q
theorem ev2N {r : R2} {o : DOp} (hr : ROpN K r o) : ∀ σ H Q, tnOf K B (dOp o da db) σ H Q → tOp r (tvOf K B da) (tvOf K B db) σ H Q := fun σ H Q ⟨F, pa, t, env, P, C, hd, k⟩ =>
  ⟨F, pa, t, env, _, C, hd, fun v x F1 pa1 t1 H1 g1 C1 r1 q1 => ⟨F1, pa1, t1, env, _, C1, q1, fun u y F2 pa2 t2 H2 g2 C2 r2 q2 =>
    hr B F2 pa2 t2 env σ H2 x y v u _ Q C2 (r1.mono g2) r2 q2 fun p h d F' H' g3 C3 n3 e3 r3 q3 => k p h d F' pa2 t2 H' ((g1.trans g2).trans g3) C3 n3 e3 r3 q3⟩⟩
theorem q_opN {op : Operator} {r : R2} {o : DOp} (ho : OpR X (binaryOp op) r) (hr : ROpN X.K r o) (ha : QV X B a da) (hb : QV X B b db) : QN X B (.BinOp a op b pos) (dOp o da db) := PE.imp (pe_op ho ha hb) (ev2N hr)
theorem ropn_cat : ROpN K rCat oCat := fun B F pa t env σ H x y v u P Q W rx ry h k => by
  cases x with
  | lst l =>
    cases y with
    | lst m =>
      obtain ⟨a, vs, rfl, e1, r1⟩ := rx.lst W
      obtain ⟨b, ws, rfl, e2, r2⟩ := ry.lst W
      exact ⟨a, b, vs, ws, rfl, rfl, e1, e2, by rw [r1.len, r2.len]; exact zle h.1, fun p hp => k p _ (.lst (l ++ m)) F _ (Gr.refl _ _) (W.loose _ hp) (W.nw hp) upd_same ⟨_, rfl, r1.append r2⟩ h.2⟩
    | _ => exact h.elim
  | _ => exact h.elim
/-! ### a whole number among whole numbers -/
/-! ### l.index(x), l.count(x) -/
end
end Q
/-! QH14 -/
namespace Q
open PySem L2 PyProof.Rows
section
variable {X : Cx} {B : Bs} {K : PySem.W.Frag}
theorem PK.imp {kws : List Keyword} {t t' : TA} (h : PK X kws t) (i : ∀ σ H Q, t' σ H Q → t σ H Q) : PK X kws t' := ⟨fun pos pins s σ H Q I q => h.run pos pins s σ H Q I (i σ H Q q)⟩
end
end Q
/-! QH15 -/
namespace Q
open PySem L2 PyProof.Rows
/-! ### enumerate(xs, start=c) -/
end Q
/-! QH16 -/
namespace Q
open PySem L2 PyProof.Rows
end Q
/-! QH17 -/
namespace Q
open PySem L2 PyProof.Rows
section
variable {X : Cx} {B : Bs} {K : PySem.W.Frag} {a b c e o : Expr} {es : List Expr} {pos : Pos} {da db dc : DE} {as : DA}
/-! ### a, b = x, y with new objects -/
def RelM (K : PySem.W.Frag) (B : Bs) (F : Hp) (pa : Option Addr) (t : Ts) (env : En) (σ : L2.St) (H : Hp) : List Bool → List D → List V → Prop
  | [], [], [] => True
  | false :: bs, d :: ds, v :: vs => RelD K F pa d v ∧ RelM K B F pa t env σ H bs ds vs
  | true :: bs, d :: ds, v :: vs => (∃ p h, v = .ref p ∧ Nw B F pa t env σ p ∧ H p = some h ∧ RelO1 K F pa d h ∧ ∀ j : Nat, bs[j]? = some true → vs[j]? ≠ some (.ref p)) ∧ RelM K B F pa t env σ H bs ds vs
  | _, _, _ => False
theorem RelM.len {F : Hp} {pa : Option Addr} {t : Ts} {env : En} {σ : L2.St} {H : Hp} : ∀ {bs : List Bool} {ds : List D} {vs : List V}, RelM K B F pa t env σ H bs ds vs → ds.length = bs.length ∧ vs.length = bs.length
  | [], [], [], _ => ⟨rfl, rfl⟩
  | false :: bs, d :: ds, v :: vs, r => by
    obtain ⟨i1, i2⟩ := RelM.len r.2
    exact ⟨by simp [i1], by simp [i2]⟩
  | true :: bs, d :: ds, v :: vs, r => by
    obtain ⟨i1, i2⟩ := RelM.len r.2
    exact ⟨by simp [i1], by simp [i2]⟩
  | [], [], _ :: _, r => r.elim
  | [], _ :: _, vs, r => by cases vs <;> exact r.elim
  | b :: _, [], vs, r => by cases b <;> cases vs <;> exact r.elim
  | b :: _, _ :: _, [], r => by cases b <;> exact r.elim
/-! ### sorted, whole numbers -/
/-! ### reversed -/
/-! ### zip -/
end
end Q
/-! QH18 -/
namespace Q
open PySem L2 PyProof.Rows
end Q
/-! QH19 -/
namespace Q
open PySem L2 PyProof.Rows
section
variable {X : Cx} {B : Bs} {K : PySem.W.Frag} {a b c e o : Expr} {es : List Expr} {pos : Pos} {da db dc dk : DE} {as : DA}
/-! ### a, b, .. = x, y, .. by a tuple that is taken apart; some values are new objects -/
theorem RelM.heap {F : Hp} {pa : Option Addr} {t : Ts} {env : En} {σ : L2.St} {H H' : Hp} (hk : ∀ a o, H a = some o → H' a = some o) : ∀ {bs : List Bool} {ds : List D} {vs : List V}, RelM K B F pa t env σ H bs ds vs → RelM K B F pa t env σ H' bs ds vs
  | [], [], [], _ => True.intro
  | false :: bs, d :: ds, v :: vs, r => ⟨r.1, RelM.heap hk r.2⟩
  | true :: bs, d :: ds, v :: vs, r => by
    obtain ⟨⟨p, h, e, n, e1, r1, q⟩, r2⟩ := r
    exact ⟨⟨p, h, e, n, hk _ _ e1, r1, q⟩, RelM.heap hk r2⟩
  | [], [], _ :: _, r => r.elim
  | [], _ :: _, vs, r => by cases vs <;> exact r.elim
  | b :: _, [], vs, r => by cases b <;> cases vs <;> exact r.elim
  | b :: _, _ :: _, [], r => by cases b <;> exact r.elim
end
end Q
/-! QH20 -/
namespace Q
open PySem L2 PyProof.Rows
end Q
/-! QH21 -/
namespace Q
open PySem L2 PyProof.Rows
end Q
/-! QH22 -/
namespace Q
open PySem L2 PyProof.Rows
/-! ### defs that tell None or a new object -/
end Q
/-! QH23 -/
/-! ### sorted(d), a dict of whole numbers, any number of keys -/
namespace L2
open PySem PySem.Spec PyProof.Rows
end L2
namespace Q
open PySem L2 PyProof.Rows
end Q
/-! QH24 -/
namespace Q
open PySem L2 PyProof.Rows
end Q
/-! QH25 -/
/-! ### range(a, b) with bounds of any size -/
namespace L2
open PySem PySem.Spec PyProof.Rows
end L2
namespace Q
open PySem L2 PyProof.Rows
end Q
/-! QH26 -/
/-! ### defs that ask what is being shown (repr): the guards are known there -/
namespace Q
open PySem L2 PyProof.Rows PySem.Spec
/-- room, and nothing is being shown -/
structure RoomG (k : Nat) (A : Around) : Prop where
  room : Room k A
  idle : A.guards = some []
theorem RoomG.mono {j k : Nat} {A : Around} (r : RoomG k A) (h : j ≤ k) : RoomG j A := ⟨r.room.mono h, r.idle⟩
structure FnOkG (P : Program) (w : World) (K : PySem.W.Frag) (mg : Str → Option Value) (base : Heap) (CX : CXT) (k : Nat) (f : Addr) (fd : FuncData) (ps : List Str) (sp : Sp) : Prop where
  len : ∀ vs H Q E, sp vs H Q E → vs.length = ps.length
  goes : ∀ (A : Around), RoomG k A → ∀ (outer : List PySem.Env) (s : Shared) (H : Hp), Env0 P w K mg base A outer s H → ∀ (args : Args) (us : List Value) (vs : List V), Vals vs us → BindsTo s fd args (ps.zip us) →
    ∀ (R : VK) (E : XK), sp vs H R E → codeAny (model P w) A (.call (.ref f) args) (CR CX outer P w H s R E) s
section
variable {P : Program} {w : World} {K : PySem.W.Frag} {mg : Str → Option Value} {base : Heap} {CX : CXT} {k : Nat} {f : Addr} {fd : FuncData} {ps : List Str} {sp : Sp}
theorem FnOkG.of (F : FnOk P w K mg base CX k f fd ps sp) : FnOkG P w K mg base CX k f fd ps sp where
  len := F.len
  goes A r outer s H e args us vs rel b R E h := F.run A outer s H args us vs R E r.room e b rel h
end
section
variable {X : Cx} {CX : CXT} {k : Nat} {f : Addr} {fd : FuncData} {ps : List Str} {sp : Sp} {E : XK} {ds : List Value} {dvs : List V} {x : Str} {p pos : Pos} {e : Expr} {es : List Expr} {t : TA}
/-- the call itself, all evaluated -/
theorem FnOkG.call (F : FnOkG X.prog X.w X.K X.mg X.base CX k f fd ps sp) (r : RoomG k X.A) (b : Binds X.K fd ps ds) (d : Vals dvs ds) (px : Passes CX X E) {pins : List (Addr × Obj)} {σ : L2.St} {H : Hp} {s : Shared} {R : VK} {us : List Value} {vs : List V}
    (I : Inv X pins σ H s) (rv : Vals vs us) (h : sp (vs ++ dvs) H R E) : wpAny (model X.prog X.w) X.A (call (.ref f) us) (EP X pins σ R) X.xe s :=
  have rall : Vals (vs ++ dvs) (us ++ ds) := rv.append d
  have bs := b s us I.kIn (by have := F.len _ _ _ _ h; have e := rall.length; omega)
  wpAny_call (codeAny_mono (F.goes X.A r X.stack s H I.env0 ⟨us, []⟩ _ _ rall bs R E h) fun res s' q =>
    match res, q with
    | .ok (.ret _), q => I.after q
    | .ok .next, q => q.elim
    | .ok .brk, q => q.elim
    | .ok .cont, q => q.elim
    | .error ex, q => px pins σ H s ex s' I q)
end
section
variable {P : Program} {w : World} {K : PySem.W.Frag} {mg : Str → Option Value} {base : Heap}
/-- where a parameter's value goes -/
theorem par_kind {N ps : List Str} {scope : Scope} (S : FnScope N ps scope) (us : List Value) (n : Nat) : ∀ y ∈ ps.zip us, scope.names.lookup y.1 = some .local ∨ (scope.names.lookup y.1 = some .cell ∧ ((cellsFrom n scope.names []).lookup y.1).isSome = true) := by
  intro y hy
  have hp := S.par y.1 (List.of_mem_zip (a := y.1) (b := y.2) hy).1
  exact hp.imp id fun c => ⟨c, PySem.W.cellsFrom_some _ _ _ (.inl c)⟩
/-! ### the law's call -/
/-- what is tracked there: the script, where the written part doesn't hold it -/
def scrH (K : PySem.W.Frag) (a : Addr) (o : Obj) (ns : List Int) : Hp := fun b => if b = a ∧ K.lookup a = none then some (.frz o (.lst (ns.map V.int))) else none
theorem scrH_inv {K : PySem.W.Frag} {a b : Addr} {o : Obj} {ns : List Int} {u : HO} (h : scrH K a o ns b = some u) : b = a ∧ K.lookup a = none ∧ u = .frz o (.lst (ns.map V.int)) := by
  unfold scrH at h
  split at h
  · rename_i c; cases h; exact ⟨c.1, c.2, rfl⟩
  · cases h
theorem scrH_only (K : PySem.W.Frag) (a : Addr) (o : Obj) (ns : List Int) : Only (scrH K a o ns) := fun b => by
  cases q : scrH K a o ns b with
  | none => exact .inl rfl
  | some u => exact .inr ⟨o, _, congrArg some (scrH_inv q).2.2⟩
theorem scrH_none {K : PySem.W.Frag} {a b : Addr} {o : Obj} {ns : List Int} (h : b = a → K.lookup a ≠ none) : scrH K a o ns b = none := if_neg fun c => h c.1 c.2
/-- the script as the model lays it -/
abbrev scrO (vs : List Value) : Obj := { cls := .type "list", data := .seq vs.toArray }
end
section
variable {X : Cx} {CX : CXT} {B : Bs} {k : Nat} {f : Addr} {fd : FuncData} {ps : List Str} {sp : PSp} {E : XK} {ds : List Value} {dvs : List V} {dds : List D} {x : Str} {p pos : Pos} {e : Expr} {es : List Expr} {as : DA}
/-! ### repr -/
theorem RelX.rp {K : PySem.W.Frag} {F : Hp} {pa : Option Addr} {t : Ts} {env : En} {σ : L2.St} {H : Hp} {i : D} {v : V} (W : Cf K B F pa t env σ H) (r : RelX K F pa env σ (.rp i) v) : v = .str (toPy i).shown := by
  rcases r with r | ⟨i, h1, h2⟩
  · unfold RelD at r; exact r
  · obtain ⟨a, h, s1, q, z, _⟩ := W.own _ _ h1; exact z.elim
end
end Q
/-! QH27 -/
namespace Q
open PySem L2 PyProof.Rows
end Q
/-! QD2 -/
/-! Q, the data level, more of it. -/
namespace Q
open PySem
/-- isinstance(x, C), x an instance of C -/
def bIsC (C : Addr) : DB := fun xs P => match xs with
  | [.ins C1 _ _, .adr A] => C1 = C ∧ A = C ∧ P (.bl true)
  | _ => False
end Q
/-! QH28 -/
namespace Q
open PySem L2 PyProof.Rows
section
variable {X : Cx} {CX : CXT} {B : Bs} {K : PySem.W.Frag} {k : Nat} {f C : Addr} {fd : FuncData} {ps : List Str} {E : XK} {a b : Expr} {da db : DE} {pos : Pos}
theorem RelX.adr {F : Hp} {pa : Option Addr} {t : Ts} {env : En} {σ : L2.St} {H : Hp} {A : Addr} {v : V} (W : Cf K B F pa t env σ H) (r : RelX K F pa env σ (.adr A) v) : v = .ref A := by
  rcases r with r | ⟨i, z1, z2⟩
  · unfold RelD at r; exact r
  · obtain ⟨_, _, _, _, z, _⟩ := W.own _ _ z1; exact z.elim
/-- isinstance(x, C), x an instance of C -/
theorem rc_isC : RCall K (fun xs H Q => ∃ a dx fs, xs = [V.ref a, V.ref C] ∧ H a = some (HO.ins C dx fs) ∧ Q (.bl true) H) (bIsC C) := fun B F pa t env σ H xs vs P Q W r h k => by
  unfold bIsC at h
  split at h
  · rename_i C1 ns l A
    obtain ⟨rfl, rfl, h⟩ := h
    cases r with
    | cons r1 r2 =>
      cases r2 with
      | cons r2 r3 =>
        cases r3
        obtain ⟨a, dx, us, rfl, e, _⟩ := RelX.ins W r1
        obtain rfl := RelX.adr W r2
        exact ⟨a, dx, _, rfl, e, k _ _ F H (Gr.refl _ _) W (rD_bl _) h⟩
  · exact h.elim
theorem q_adr {x : Str} {p : Pos} (hg : Gl X x) (hm : X.mg x = some (.ref C)) (hdb : (x == ("__debug__" : Str)) = false := by decide) : QE X B (.Name x p) (dC (.adr C)) := q_c (pe_glob (v := .ref C) hg hm rfl hdb) fun _ _ => by unfold RelD; rfl
end
end Q
/-! QD3 -/
/-! Q, the data level, still more. -/
namespace Q
open PySem
/-- a text in a tuple of texts -/
def oInT : DOp := fun x y P => match x, y with
  | .str x, .tup l => ∃ ss : List Str, l = ss.map .str ∧ P (.bl (ss.any fun z => z == x))
  | _, _ => False
end Q
/-! QH29 -/
namespace Q
open PySem L2 PyProof.Rows
section
variable {X : Cx} {B : Bs} {K : PySem.W.Frag}
theorem relL_strs {F : Hp} {pa : Option Addr} : ∀ {ss : List Str} {vs : List V}, RelL K F pa (ss.map .str) vs → vs = ss.map V.str
  | [], vs, r => r.inv0
  | s :: ss, vs, r => by
    obtain ⟨v, vr, rfl, r1, r2⟩ := RelL.inv (show RelL K F pa (D.str s :: ss.map .str) vs from r)
    unfold RelD at r1
    rw [r1, relL_strs r2]; rfl
theorem flat_strs : ∀ ss : List Str, (ss.map V.str).all flatV = true
  | [] => rfl
  | s :: ss => by simp [flatV, flat_strs ss]
theorem inV_strs (x : Str) : ∀ ss : List Str, inV (.str x) (ss.map V.str) = ss.any fun z => z == x
  | [] => rfl
  | s :: ss => by
    have := inV_strs x ss
    unfold inV at this ⊢
    rw [List.map_cons, List.any_cons, List.any_cons, this]
    rfl
theorem rop_inT : ROp K (rIn K false) oInT := fun B F pa t env σ H x y v u P Q W rx ry h k => by
  cases x with
  | str x =>
    cases y with
    | tup l =>
      obtain ⟨ss, rfl, h⟩ := h
      obtain ⟨a, vs, rfl, e1, _, r1⟩ := ry.tup W
      rw [relL_strs r1] at e1
      obtain rfl := rx.str W
      refine ⟨a, _, rfl, .inr (SqT.of e1), rfl, flat_strs ss, ?_⟩
      refine k _ (.bl (ss.any fun z => z == x)) F H (Gr.refl _ _) W ?_ h
      rw [if_neg Bool.false_ne_true, inV_strs]
      exact rD_bl _
    | _ => exact h.elim
  | _ => exact h.elim
end
end Q
/-! QH30 -/
namespace Q
open PySem L2 PyProof.Rows
/-! ### two fors in one comprehension -/
end Q
/-! QH31 -/
namespace Q
open PySem L2 PyProof.Rows
end Q
/-! QD4 -/
namespace Q
open PySem
/-! defs that may raise -/
end Q
/-! QH32 -/
namespace Q
open PySem L2 PyProof.Rows
/-! ### keyword-only parameters -/
section
variable {K : PySem.W.Frag}
/-- by place, then by name -/
def gP {α : Type} (ix : List Nat) (us ws : List α) : List α := us ++ pick ix ws
end
end Q
/-! QH33 -/
namespace Q
open PySem L2 PyProof.Rows PpSet
/-! ### {e for x in xs if c}, {e for x in xs if c for y in ys if d}: sets of whole numbers -/
end Q
/-! QH34 -/
namespace Q
open PySem L2 PyProof.Rows PpSet
/-! ### sorted(sets of whole numbers) -/
end Q
/-! MLib -/
namespace Q
open PySem
/-! ### data made of whole numbers -/
theorem plains_ints : ∀ a : List Int, plains (a.map .int) = true
  | [] => rfl
  | x :: a => by simp [plains, plain, plains_ints a]
theorem deeps_ints : ∀ a : List Int, deeps (a.map .int) = 0
  | [] => rfl
  | x :: a => by simp [deeps, deep, deeps_ints a]
theorem deqs_ints : ∀ a b : List Int, deqs (a.map .int) (b.map .int) = decide (a = b)
  | [], [] => rfl
  | [], _ :: _ => by simp [deqs]
  | _ :: _, [] => by simp [deqs]
  | x :: a, y :: b => by simp [deqs, deq, deqs_ints a b]
theorem deq_ints (a b : List Int) : deq (.lst (a.map .int)) (.lst (b.map .int)) = decide (a = b) := by simp [deq, deqs_ints]
theorem eqok_ints (a b : List Int) : plain (.lst (a.map .int)) = true ∧ plain (.lst (b.map .int)) = true ∧ deep (.lst (a.map .int)) ≤ 60 ∧ deep (.lst (b.map .int)) ≤ 60 := by
  simp [plain, plains_ints, deep, deeps_ints]
theorem deqn_t {a b : List Int} (h : (!deq (.lst (a.map .int)) (.lst (b.map .int))) = true) : a ≠ b := by rw [deq_ints] at h; simpa using h
theorem deqn_f {a b : List Int} (h : (!deq (.lst (a.map .int)) (.lst (b.map .int))) = false) : a = b := by rw [deq_ints] at h; simpa using h
theorem ints_map : ∀ a : List Int, intsD (a.map .int) = some a
  | [] => rfl
  | x :: a => by simp [intsD, ints_map a]
theorem atI_nat {xs : List D} {i : Int} {d : D} (h0 : 0 ≤ i) (h : xs[i.toNat]? = some d) : atI xs i = some d := by
  unfold atI
  have := (List.getElem?_eq_some_iff.mp h).1
  rw [if_pos h0, if_pos (by omega), h]
theorem atI_ints {xs : List Int} {i : Int} (h0 : 0 ≤ i) (h : i < xs.length) : atI (xs.map .int) i = some (.int (xs.getD i.toNat 0)) := by
  refine atI_nat h0 ?_
  have h' : i.toNat < xs.length := by omega
  rw [List.getElem?_map, List.getElem?_eq_getElem h']
  simp [List.getD_eq_getElem?_getD, List.getElem?_eq_getElem h']
/-! ### tests whose answer is known -/
theorem br_ne {c : Prop} [Decidable c] {p q : Prop} (h : c) (k : q) : Br (!decide c) p q := Br.mk (fun z => by simp [h] at z) fun _ => k
theorem br_eq {c : Prop} [Decidable c] {p q : Prop} (h : c) (k : p) : Br (decide c) p q := Br.mk (fun _ => k) fun z => absurd h (of_decide_eq_false z)
theorem br_nq {c : Prop} [Decidable c] {p q : Prop} (h : ¬ c) (k : q) : Br (decide c) p q := Br.mk (fun z => absurd (of_decide_eq_true z) h) fun _ => k
theorem br_nn {c : Prop} [Decidable c] {p q : Prop} (h : ¬ c) (k : p) : Br (!decide c) p q := Br.mk (fun _ => k) fun z => by simp [h] at z
/-! ### sizes -/
theorem Sm.lit {b : Nat} {i : Int} (h : i.natAbs < 2 ^ b) : Sm b i := h
theorem Sm.mono {a b : Nat} {i : Int} (h : Sm a i) (hab : a ≤ b) : Sm b i := Nat.lt_of_lt_of_le h (Nat.pow_le_pow_right (by decide) hab)
theorem Sm.of {b : Nat} {i j : Int} (h0 : 0 ≤ i) (h : i ≤ j) (hj : Sm b j) : Sm b i := by unfold Sm at *; omega
theorem Sm.mul {a b : Nat} {i j : Int} (h : Sm a i) (k : Sm b j) : Sm (a + b) (i * j) := by
  unfold Sm at *
  rw [Int.natAbs_mul, Nat.pow_add]
  exact Nat.mul_lt_mul'' h k
theorem Sm.sub {a : Nat} {i j : Int} (h : Sm a i) (k : Sm a j) : Sm (a + 1) (i - j) := by
  unfold Sm at *
  have := Nat.pow_succ 2 a
  omega
theorem sm64 {i : Int} (h0 : -1000000000000000000 ≤ i) (h1 : i ≤ 1000000000000000000) : Sm 64 i := by
  unfold Sm
  have : (2 : Nat) ^ 64 = 18446744073709551616 := by decide
  omega
theorem MulOk.l {i j : Int} (h0 : -1000000000000000000 ≤ i) (h1 : i ≤ 1000000000000000000) : MulOk i j := .inl (sm64 h0 h1)
theorem MulOk.r {i j : Int} (h0 : -1000000000000000000 ≤ j) (h1 : j ≤ 1000000000000000000) : MulOk i j := .inr (.inl (sm64 h0 h1))
theorem MulOk.w {i j : Int} {a b : Nat} (h1 : Sm a i) (h2 : Sm b j) (h3 : 0 < a) (h4 : 0 < b) (h5 : a + b ≤ 1000000) : MulOk i j := .inr (.inr ⟨a, b, h1, h2, h3, h4, h5⟩)
theorem DivOk.s {j : Int} (h0 : 0 < j) (h1 : j ≤ 1000000000000000000) : DivOk j := ⟨h0, (sm64 (by omega) h1).mono (by decide)⟩
theorem DivOk.w {j : Int} {b : Nat} (h0 : 0 < j) (h1 : Sm b j) (h2 : b ≤ 9000) : DivOk j := ⟨h0, h1.mono h2⟩
theorem PowOk.s {i j : Int} (h0 : 0 ≤ j) (h1 : j ≤ 1000000) (h2 : -1000000000000000000 ≤ i) (h3 : i ≤ 1000000000000000000) : PowOk i j := ⟨h0, 64, sm64 h2 h3, by omega⟩
/-! ### the pen after at most n draws -/
structure Pk (n : Int) (t : Ts) : Prop where
  c : t.cells.length ≤ 63
  a0 : 0 ≤ t.at'
  a1 : t.at' ≤ n
  l : 0 ≤ t.left
  tp : t.tape = false
theorem Pk.mono {n m : Int} {t : Ts} (p : Pk n t) (h : n ≤ m) : Pk m t := ⟨p.c, p.a0, Int.le_trans p.a1 h, p.l, p.tp⟩
theorem Pk.zero {cs : List Int} (h : cs.length ≤ 63) : Pk 0 ⟨cs, 0, 0, false, noObs⟩ := ⟨h, Int.le_refl 0, Int.le_refl 0, Int.le_refl 0, rfl⟩
end Q
/-! MPen -/
namespace Q
open PySem
/-! ### the pen -/
def sp__law_pen : PSp := fun ds t P => ∃ ns, ds = [.scr ns] ∧ ns.length ≤ 63 ∧ ∀ cs : List Int, cs.length ≤ 63 → P (.dic [.inr "cells", .inr "at", .inr "left"] [.lst (cs.map .int), .int 0, .int 0]) t
def sp__law_draw : PSp := fun ds t P => ∃ many n, ds = [.pen, .int many] ∧ 0 < many ∧ Sm 9000 many ∧ Pk n t ∧ n < 100000000 ∧ ∀ z t', 0 ≤ z → z < many → Pk (n + 1) t' → P (.int z) t'
def d__law_pen : DS := (dSeq (dAsg (dOp oPow (dOp oPow (dC (.int 10)) (dC (.int 60))) (dC (.int 60))) (gName 1)) (dSeq (dRet (dDisp (("cells", (dLc [2] (iSeq (dSlice (dVar 0) dNoPart (dPart (dC (.int 63))))) (gName 2) dYes (dIfE (dB (dOp oGe (dCB bAbs (dCons (dVar 2) dNil)) (dOp oPow (dC (.int 10)) (dC (.int 18))))) (dOp oMod (dCB bAbs (dCons (dVar 2) dNil)) (dVar 1)) (dVar 2)))) :: (("at", (dC (.int 0))) :: (("left", (dC (.int 0))) :: []))))) dNext))
def d__law_draw : DS := (dSeq (dIf (dB (dOp oGt (dPenL false (dVar 0)) (dC (.int 0)))) (dSeq (dAsg (dOp oMod (dPenL false (dVar 0)) (dVar 1)) (gName 6)) (dSeq (dPutL false 0 (dOp oDiv (dPenL false (dVar 0)) (dVar 1))) (dSeq (dRet (dVar 6)) dNext))) dNext) (dSeq (dAsg (dPenA false (dVar 0)) (gName 2)) (dSeq (dPutA false 0 (dOp oAdd (dVar 2) (dC (.int 1)))) (dSeq (dAsg (dOp oAdd (dOp oMul (dVar 2) (dVar 2)) (dC (.int 5))) (gName 3)) (dSeq (dIf (dB (dOp oNe (dPenC (dVar 0)) (dLst dNil))) (dSeq (dAsg (dOp oIx (dPenC (dVar 0)) (dOp oMod (dVar 2) (dCB bLen (dCons (dPenC (dVar 0)) dNil)))) (gName 3)) dNext) dNext) (dSeq (dIf (dAnd (dB (dOp oLt (dVar 2) (dCB bLen (dCons (dPenC (dVar 0)) dNil)))) (dB (dOp oGe (dVar 3) (dOp oPow (dC (.int 10)) (dC (.int 18)))))) (dSeq (dPutL false 0 (dOp oDiv (dVar 3) (dVar 1))) (dSeq (dRet (dOp oMod (dVar 3) (dVar 1))) dNext)) dNext) (dSeq (dAsg (dOp oMod (dOp oMul (dOp oAdd (dOp oAdd (dOp oMod (dVar 3) (dC (.int 4294967311))) (dOp oMul (dC (.int 65539)) (dVar 2))) (dC (.int 17))) (dC (.int 48271))) (dC (.int 4294967311))) (gName 4)) (dSeq (dFor (iRng1 (dC (.int 3))) (gName 5) (dSeq (dAsg (dOp oAdd (dOp oAdd (dOp oAdd (dOp oMul (dVar 4) (dVar 4)) (dOp oMul (dC (.int 69621)) (dVar 4))) (dVar 2)) (dVar 5)) (gName 4)) (dSeq (dAsg (dOp oMod (dVar 4) (dC (.int 4294967311))) (gName 4)) dNext))) (dSeq (dRet (dOp oMod (dOp oDiv (dVar 4) (dC (.int 32))) (dVar 1))) dNext)))))))))
theorem len__law_pen (as : List D) (t : Ts) (P : D → Ts → Prop) (h : sp__law_pen as t P) : as.length = 1 := by obtain ⟨_, rfl, _⟩ := h; rfl
theorem len__law_draw (as : List D) (t : Ts) (P : D → Ts → Prop) (h : sp__law_draw as t P) : as.length = 2 := by obtain ⟨_, _, rfl, _⟩ := h; rfl
/-- the draw's tail: its three rounds -/
theorem draw_tail {many n c : Int} {t : Ts} {P : D → Ts → Prop} (h0 : 0 < many) (hn : n < 100000000) (ha : 0 ≤ c) (hc : c ≤ n) (hp : Pk (n + 1) t) (k : ∀ z t', 0 ≤ z → z < many → Pk (n + 1) t' → P (.int z) t') (env : En) (e0 : env[0]? = some (.val .pen)) (e1 : env[1]? = some (.val (.int many))) (e2 : env[2]? = some (.val (.int c))) (v : Int) (e3 : env[3]? = some (.val (.int v))) (hl : env.length = 7) :
    (dSeq (dAsg (dOp oMod (dOp oMul (dOp oAdd (dOp oAdd (dOp oMod (dVar 3) (dC (.int 4294967311))) (dOp oMul (dC (.int 65539)) (dVar 2))) (dC (.int 17))) (dC (.int 48271))) (dC (.int 4294967311))) (gName 4)) (dSeq (dFor (iRng1 (dC (.int 3))) (gName 5) (dSeq (dAsg (dOp oAdd (dOp oAdd (dOp oAdd (dOp oMul (dVar 4) (dVar 4)) (dOp oMul (dC (.int 69621)) (dVar 4))) (dVar 2)) (dVar 5)) (gName 4)) (dSeq (dAsg (dOp oMod (dVar 4) (dC (.int 4294967311))) (gName 4)) dNext))) (dSeq (dRet (dOp oMod (dOp oDiv (dVar 4) (dC (.int 32))) (dVar 1))) dNext))) (endsOf P) env t := by
  match env, hl, e0, e1, e2, e3 with
  | [_, _, _, _, x4, x5, x6], _, e0, e1, e2, e3 =>
  cases e0; cases e1; cases e2; cases e3
  conv => whnf
  refine ⟨by decide, ?_⟩
  conv => whnf
  refine ⟨.l (by omega) (by omega), ?_⟩
  conv => whnf
  refine ⟨.r (by omega) (by omega), ?_⟩
  conv => whnf
  refine ⟨by decide, ?_⟩
  conv => whnf
  refine ⟨by decide, ?_⟩
  conv => whnf
  refine ⟨fun i e m => m = t ∧ ∃ z x5' : Int, 0 ≤ z ∧ z < 4294967311 ∧ ∃ s5, e = [.val .pen, .val (.int many), .val (.int c), .val (.int v), .val (.int z), s5, x6], ⟨rfl, _, 0, Int.emod_nonneg _ (by decide), Int.emod_lt_of_pos _ (by decide), _, rfl⟩, fun i x e m hx hI => ?_, fun e m hI => ?_⟩
  · obtain ⟨rfl, z, _, hz, hz', s5, rfl⟩ := hI
    obtain ⟨hi, rfl⟩ := rng_get hx
    conv => whnf
    refine ⟨.l (by omega) (by omega), ?_⟩
    conv => whnf
    refine ⟨.l (by omega) (by omega), ?_⟩
    conv => whnf
    refine ⟨by decide, ?_⟩
    conv => whnf
    exact ⟨rfl, _, 0, Int.emod_nonneg _ (by decide), Int.emod_lt_of_pos _ (by decide), _, rfl⟩
  · obtain ⟨rfl, z, _, hz, hz', s5, rfl⟩ := hI
    conv => whnf
    refine ⟨.s (by decide) (by decide), ?_⟩
    conv => whnf
    refine ⟨h0, ?_⟩
    conv => whnf
    exact k _ _ (Int.emod_nonneg _ (by omega)) (Int.emod_lt_of_pos _ h0) hp
theorem d__law_draw_ok (as : List D) (t : Ts) (P : D → Ts → Prop) (h : sp__law_draw as t P) : d__law_draw (endsOf P) (start0 ["_law_pen_here", "_law_many", "_law_at", "_law_cell", "_law_number", "_law_rounds", "_law_digit"] as) t := by
  obtain ⟨many, n, rfl, h0, hs, hp, hn, k⟩ := h
  have tp := hp.tp
  have a0 := hp.a0
  have a1 := hp.a1
  conv => whnf
  refine ⟨tp, ?_⟩
  conv => whnf
  refine Br.mk (fun hl => ?_) (fun hl => ?_)
  · have hl : 0 < t.left := of_decide_eq_true hl
    conv => whnf
    refine ⟨tp, ?_⟩
    conv => whnf
    refine ⟨h0, ?_⟩
    conv => whnf
    refine ⟨tp, ?_⟩
    conv => whnf
    refine ⟨⟨h0, hs⟩, ?_⟩
    conv => whnf
    refine ⟨tp, ?_⟩
    conv => whnf
    exact k _ _ (Int.emod_nonneg _ (by omega)) (Int.emod_lt_of_pos _ h0) ⟨hp.c, hp.a0, (by show t.at' ≤ n + 1; omega), Int.ediv_nonneg hp.l (by omega), tp⟩
  · conv => whnf
    refine ⟨tp, ?_⟩
    conv => whnf
    refine ⟨tp, ?_⟩
    conv => whnf
    refine ⟨.l (by omega) (by omega), ?_⟩
    conv => whnf
    have P1 : Pk (n + 1) ⟨t.cells, t.at' + 1, t.left, t.tape, t.obs⟩ := ⟨hp.c, (by show 0 ≤ t.at' + 1; omega), (by show t.at' + 1 ≤ n + 1; omega), hp.l, tp⟩
    refine ⟨eqok_ints t.cells [], ?_⟩
    conv => whnf
    refine Br.mk (fun hc => ?_) (fun hc => ?_)
    · have hc : t.cells ≠ [] := deqn_t (b := []) hc
      have hn0 : 0 < t.cells.length := by
        cases q : t.cells with
        | nil => exact absurd q hc
        | cons => simp
      conv => whnf
      refine ⟨by simpa using hn0, ?_⟩
      conv => whnf
      refine ⟨_, atI_ints (Int.emod_nonneg _ (by simp; omega)) (by simpa using Int.emod_lt_of_pos _ (by simpa using hn0)), ?_⟩
      generalize t.cells.getD _ 0 = v
      conv => whnf
      refine Br.mk (fun hx => ?_) (fun hx => ?_)
      · conv => whnf
        refine ⟨PowOk.s (by decide) (by decide) (by decide) (by decide), ?_⟩
        conv => whnf
        refine Br.mk (fun hy => ?_) (fun hy => ?_)
        · conv => whnf
          refine ⟨⟨h0, hs⟩, ?_⟩
          conv => whnf
          refine ⟨tp, ?_⟩
          conv => whnf
          refine ⟨h0, ?_⟩
          conv => whnf
          refine k _ _ (Int.emod_nonneg _ (by omega)) (Int.emod_lt_of_pos _ h0) ⟨hp.c, P1.a0, P1.a1, Int.ediv_nonneg ?_ (by omega), tp⟩
          have := of_decide_eq_true hy
          exact Int.le_trans (by decide) this
        · exact draw_tail h0 hn a0 a1 P1 k [.val .pen, .val (.int many), .val (.int t.at'), .val (.int v), .no, .no, .no] rfl rfl rfl _ rfl rfl
      · exact draw_tail h0 hn a0 a1 P1 k [.val .pen, .val (.int many), .val (.int t.at'), .val (.int v), .no, .no, .no] rfl rfl rfl _ rfl rfl
    · have hc : t.cells = [] := deqn_f (b := []) hc
      conv => whnf
      refine Br.mk (fun hx => ?_) (fun hx => ?_)
      · have hx := of_decide_eq_true hx
        rw [hc] at hx
        exact absurd hx (by show ¬ t.at' < 0; omega)
      · exact draw_tail h0 hn a0 a1 P1 k [.val .pen, .val (.int many), .val (.int t.at'), .val (.int (t.at' * t.at' + 5)), .no, .no, .no] rfl rfl rfl _ rfl rfl
theorem d__law_pen_ok (as : List D) (t : Ts) (P : D → Ts → Prop) (h : sp__law_pen as t P) : d__law_pen (endsN P) (start0 ["_law_script", "_law_most", "_law_cell"] as) t := by
  obtain ⟨ns, rfl, hl, k⟩ := h
  conv => whnf
  refine ⟨PowOk.s (by decide) (by decide) (by decide) (by decide), ?_⟩
  conv => whnf
  refine ⟨⟨by decide, 200, Sm.lit (by decide), by decide⟩, ?_⟩
  have hM0 : (0 : Int) < (10 ^ Int.toNat 60) ^ Int.toNat 60 := by decide
  revert hM0
  generalize ((10 : Int) ^ Int.toNat 60) ^ Int.toNat 60 = M
  intro hM0
  conv => whnf
  refine ⟨fun i acc m => m = t ∧ acc.length = i ∧ ∃ cs : List Int, acc = cs.map .int, ⟨rfl, rfl, [], rfl⟩, fun i x acc m hx hI => ?_, fun acc m hI => ?_⟩
  · obtain ⟨rfl, hi, cs, rfl⟩ := hI
    have hlt := (List.getElem?_eq_some_iff.mp hx).1
    have hlt : i < 63 := by
      simp [cutD, sIx] at hlt
      omega
    obtain ⟨c, rfl⟩ : ∃ c : Int, x = .int c := by
      have := List.mem_of_getElem? hx
      unfold cutD at this
      obtain ⟨c, _, h⟩ := List.mem_map.mp (List.mem_of_mem_drop (List.mem_of_mem_take this))
      exact ⟨c, h.symm⟩
    conv => whnf
    refine ⟨rfl, ?_⟩
    conv => whnf
    refine ⟨PowOk.s (by decide) (by decide) (by decide) (by decide), ?_⟩
    conv => whnf
    refine Br.mk (fun hx => ?_) (fun hx => ?_)
    · conv => whnf
      refine ⟨hM0, ?_⟩
      conv => whnf
      refine ⟨by rw [hi]; unfold zLen; omega, rfl, by simp at hi ⊢; omega, cs ++ [_], by simp; rfl⟩
    · refine ⟨by rw [hi]; unfold zLen; omega, rfl, by simp at hi ⊢; omega, cs ++ [_], by simp; rfl⟩
  · obtain ⟨rfl, hi, cs, rfl⟩ := hI
    refine k cs ?_
    simp at hi
    rw [hi]
    simp [cutD, sIx]
    omega
/-! far numbers -/
end Q
/-! MSig -/
namespace Q
open PySem
/-! ### signs by a base -/
theorem ediv_toNat_lt {b x : Int} (h : 0 < x ∧ 2 ≤ b) : (x / b).toNat < x.toNat := by
  have h1 : x / b < x := Int.ediv_lt_of_lt_mul (by omega) (by
    have := Int.mul_le_mul_of_nonneg_left h.2 (Int.le_of_lt h.1)
    omega)
  have h2 : 0 ≤ x / b := Int.ediv_nonneg (by omega) (by omega)
  omega
def sigs (b x : Int) : List Int := if h : 0 < x ∧ 2 ≤ b then sigs b (x / b) ++ [x % b] else []
termination_by x.toNat
decreasing_by exact ediv_toNat_lt h
theorem sigs_pos {b x : Int} (h : 0 < x) (hb : 2 ≤ b) : sigs b x = sigs b (x / b) ++ [x % b] := by
  rw [sigs, dif_pos ⟨h, hb⟩]
theorem sigs_zero {b x : Int} (h : ¬ 0 < x) : sigs b x = [] := by
  rw [sigs, dif_neg (fun z => h z.1)]
def heap (b x : Int) : Int := if h : 0 < x ∧ 2 ≤ b then x / b + heap b (x / b) else 0
termination_by x.toNat
decreasing_by exact ediv_toNat_lt h
theorem sigs_ne {b x : Int} (h : 0 < x) (hb : 2 ≤ b) : sigs b x ≠ [] := by
  rw [sigs_pos h hb]
  simp
theorem sigs_mem {b : Int} (hb : 2 ≤ b) : ∀ (n : Nat) (x : Int), x.toNat ≤ n → ∀ d, d ∈ sigs b x → 0 ≤ d ∧ d < b
  | 0, x, h, d, hd => by
    rw [sigs_zero (by omega)] at hd
    cases hd
  | n + 1, x, h, d, hd => by
    by_cases hx : 0 < x
    · have := ediv_toNat_lt (b := b) ⟨hx, hb⟩
      rw [sigs_pos hx hb] at hd
      rcases List.mem_append.mp hd with h1 | h1
      · exact sigs_mem hb n (x / b) (by omega) d h1
      · have : d = x % b := by simpa using h1
        subst this
        exact ⟨Int.emod_nonneg _ (by omega), Int.emod_lt_of_pos _ (by omega)⟩
    · rw [sigs_zero hx] at hd
      cases hd
theorem sigs_head {b : Int} (hb : 2 ≤ b) : ∀ (n : Nat) (x : Int), 0 < x → x.toNat ≤ n → (sigs b x).getD 0 0 ≠ 0
  | 0, x, h0, h => by omega
  | n + 1, x, h0, h => by
    have := ediv_toNat_lt (b := b) ⟨h0, hb⟩
    rw [sigs_pos h0 hb]
    by_cases hq : 0 < x / b
    · have h1 := sigs_head hb n (x / b) hq (by omega)
      have h2 := sigs_ne hq hb
      cases q : sigs b (x / b) with
      | nil => exact absurd q h2
      | cons a l => rw [q] at h1; simpa using h1
    · rw [sigs_zero hq]
      have h3 := Int.mul_ediv_add_emod x b
      have h4 : 0 ≤ x / b := Int.ediv_nonneg (by omega) (by omega)
      have : x / b = 0 := by omega
      rw [this] at h3
      simp
      omega
/-! the program's -/
end Q
/-! MHous -/
namespace Q
open PySem
/-! ### the row: last places, from the plain law -/
/-- the beginning's sums, each less one -/
def Su (bs : List Int) (j : Int) : Int := ((bs.take j.toNat).map (· - 1)).sum
structure Hou (b : Int) (bs : List Int) : Prop where
  b2 : 2 ≤ b
  b30 : b ≤ 30
  len : (bs.length : Int) = b - 1
  pos : ∀ x ∈ bs, 1 ≤ x
def Re (bs : List Int) : Int := Su bs bs.length
def Lp (b : Int) (bs : List Int) (n : Int) : Int := if h : 0 < n ∧ 2 ≤ b then (if n < b then n + Su bs n else Lp b bs (n / b) + n + Re bs) else 0
termination_by n.toNat
decreasing_by exact ediv_toNat_lt h
theorem Lp_le0 {b : Int} {bs : List Int} {n : Int} (h : n ≤ 0) : Lp b bs n = 0 := by
  rw [Lp, dif_neg (fun z => by omega)]
theorem Lp_lt {b : Int} {bs : List Int} {n : Int} (hb : 2 ≤ b) (h : 0 < n) (h2 : n < b) : Lp b bs n = n + Su bs n := by
  rw [Lp, dif_pos ⟨h, hb⟩, if_pos h2]
theorem Lp_ge {b : Int} {bs : List Int} {n : Int} (hb : 2 ≤ b) (h2 : b ≤ n) : Lp b bs n = Lp b bs (n / b) + n + Re bs := by
  rw [Lp, dif_pos ⟨by omega, hb⟩, if_neg (by omega)]
section
variable {b : Int} {bs : List Int}
theorem Su_zero : Su bs 0 = 0 := by simp [Su]
theorem Su_succ {j : Int} (h0 : 0 ≤ j) (h1 : j < bs.length) : Su bs (j + 1) = Su bs j + bs.getD j.toNat 0 - 1 := by
  unfold Su
  have e : (j + 1).toNat = j.toNat + 1 := by omega
  have hj : j.toNat < bs.length := by omega
  rw [e, List.take_add_one, List.getElem?_eq_getElem hj, List.map_append, List.sum_append, List.getD_eq_getElem?_getD, List.getElem?_eq_getElem hj]
  simp
  omega
theorem Hou.at (h : Hou b bs) {j : Int} (h0 : 0 ≤ j) (h1 : j < bs.length) : 1 ≤ bs.getD j.toNat 0 := by
  have hj : j.toNat < bs.length := by omega
  rw [List.getD_eq_getElem?_getD, List.getElem?_eq_getElem hj]
  exact h.pos _ (List.getElem_mem hj)
theorem Su_mono (h : Hou b bs) : ∀ (n : Nat) (i : Int), 0 ≤ i → i + n ≤ bs.length → Su bs i ≤ Su bs (i + n)
  | 0, i, _, _ => by simp
  | n + 1, i, h0, h1 => by
    have h2 := Su_mono h n i h0 (by omega)
    have h3 := Su_succ (bs := bs) (j := i + n) (by omega) (by omega)
    have h4 := h.at (j := i + n) (by omega) (by omega)
    have e : i + ((n + 1 : Nat) : Int) = i + n + 1 := by omega
    rw [e, h3]
    omega
theorem Su_le (h : Hou b bs) {i j : Int} (h0 : 0 ≤ i) (h1 : i ≤ j) (h2 : j ≤ bs.length) : Su bs i ≤ Su bs j := by
  have := Su_mono h (j - i).toNat i h0 (by omega)
  rwa [show i + ((j - i).toNat : Int) = j by omega] at this
/-- the row within the row, from b - 1 on -/
theorem Lp_rec (h : Hou b bs) {n : Int} (hn : b - 1 ≤ n) : Lp b bs n = Lp b bs (n / b) + n + Re bs := by
  have hb := h.b2
  by_cases h1 : b ≤ n
  · exact Lp_ge hb h1
  · have e : n = b - 1 := by omega
    subst e
    rw [Lp_lt hb (by omega) (by omega), Int.ediv_eq_zero_of_lt (by omega) (by omega), Lp_le0 (Int.le_refl 0)]
    have : Su bs (b - 1) = Re bs := by rw [Re, h.len]
    omega
/-- how many times a number is said -/
def Ti (b : Int) (bs : List Int) (n : Int) : Int := Lp b bs n - Lp b bs (n - 1)
theorem Ti_lt (h : Hou b bs) {n : Int} (h0 : 1 ≤ n) (h1 : n < b) : Ti b bs n = bs.getD (n - 1).toNat 0 := by
  have hb := h.b2
  have hl := h.len
  have e := Su_succ (bs := bs) (j := n - 1) (by omega) (by omega)
  rw [show n - 1 + 1 = n by omega] at e
  unfold Ti
  rw [Lp_lt hb (by omega) h1]
  by_cases h2 : n = 1
  · subst h2
    rw [Lp_le0 (by decide)]
    rw [show (1 : Int) - 1 = 0 by decide, Su_zero] at e
    simp at e ⊢
    omega
  · rw [Lp_lt hb (by omega) (by omega)]
    omega
theorem Ti_ge (h : Hou b bs) {n : Int} (h1 : b ≤ n) : Ti b bs n = 1 + (Lp b bs (n / b) - Lp b bs ((n - 1) / b)) := by
  unfold Ti
  rw [Lp_rec h (n := n) (by omega), Lp_rec h (n := n - 1) (by omega)]
  omega
theorem div_pred {b n : Int} (hb : 2 ≤ b) (h : ¬ n % b = 0) : (n - 1) / b = n / b := by
  have h1 := Int.mul_ediv_add_emod n b
  have h2 := Int.emod_nonneg n (show b ≠ 0 by omega)
  have h3 := Int.emod_lt_of_pos n (show 0 < b by omega)
  refine Int.ediv_emod_unique (show 0 < b by omega) (r := n % b - 1) |>.mpr ⟨by omega, by omega, by omega⟩ |>.1
theorem div_predm {b u : Int} (hb : 2 ≤ b) : (b * u - 1) / b = u - 1 := by
  refine Int.ediv_emod_unique (show 0 < b by omega) (r := b - 1) |>.mpr ⟨by rw [Int.mul_sub]; omega, by omega, by omega⟩ |>.1
theorem Ti_one (h : Hou b bs) {n : Int} (h1 : b ≤ n) (h2 : ¬ n % b = 0) : Ti b bs n = 1 := by
  rw [Ti_ge h h1, div_pred h.b2 h2]
  omega
theorem Ti_mul (h : Hou b bs) {u : Int} (h1 : 1 ≤ u) : Ti b bs (b * u) = Ti b bs u + 1 := by
  have hb := h.b2
  have : b ≤ b * u := by
    have := Int.mul_le_mul_of_nonneg_left h1 (show 0 ≤ b by omega)
    omega
  rw [Ti_ge h this, div_predm hb, Int.mul_ediv_cancel_left _ (by omega)]
  unfold Ti
  omega
theorem Ti_pos (h : Hou b bs) : ∀ (k : Nat) (n : Int), n.toNat ≤ k → 1 ≤ n → 1 ≤ Ti b bs n
  | 0, n, h0, h1 => by omega
  | k + 1, n, h0, h1 => by
    have hb := h.b2
    by_cases h2 : n < b
    · rw [Ti_lt h h1 h2]
      have := h.len
      exact h.at (by omega) (by omega)
    · by_cases h3 : n % b = 0
      · have h4 := Int.mul_ediv_add_emod n b
        have h5 : n = b * (n / b) := by omega
        have h6 : 1 ≤ n / b := by
          rcases Int.lt_or_le 0 (n / b) with h | h
          · omega
          · have := Int.ediv_nonneg (show 0 ≤ n by omega) (show 0 ≤ b by omega)
            rw [show n / b = 0 by omega] at h5
            omega
        have h7 := ediv_toNat_lt (b := b) (x := n) ⟨by omega, hb⟩
        rw [h5, Ti_mul h h6]
        have := Ti_pos h k (n / b) (by omega) h6
        omega
      · rw [Ti_one h (by omega) h3]
        omega
theorem Lp_step (h : Hou b bs) {n : Int} (h1 : 1 ≤ n) : Lp b bs (n - 1) + 1 ≤ Lp b bs n := by
  have := Ti_pos h _ n (Nat.le_refl _) h1
  unfold Ti at this
  omega
theorem Lp_mono' (h : Hou b bs) : ∀ (k : Nat) (n : Int), 0 ≤ n → Lp b bs n + k ≤ Lp b bs (n + k)
  | 0, n, _ => by simp
  | k + 1, n, h0 => by
    have h1 := Lp_mono' h k n h0
    have h2 := Lp_step h (n := n + k + 1) (by omega)
    rw [show n + k + 1 - 1 = n + k by omega] at h2
    rw [show n + ((k + 1 : Nat) : Int) = n + k + 1 by omega]
    omega
theorem Lp_ge_self (h : Hou b bs) {n : Int} (h0 : 0 ≤ n) : n ≤ Lp b bs n := by
  have := Lp_mono' h n.toNat 0 (Int.le_refl 0)
  rw [Lp_le0 (Int.le_refl 0), show 0 + (n.toNat : Int) = n by omega] at this
  omega
/-! what is said at a place -/
structure Sa (b : Int) (bs : List Int) (p m : Int) : Prop where
  m1 : 1 ≤ m
  lo : Lp b bs (m - 1) < p
  hi : p ≤ Lp b bs m
theorem Sa.ex' (h : Hou b bs) : ∀ (k : Nat) (p : Int), 1 ≤ p → p ≤ Lp b bs k → ∃ m, Sa b bs p m
  | 0, p, h1, h2 => by
    rw [show ((0 : Nat) : Int) = 0 from rfl, Lp_le0 (Int.le_refl 0)] at h2
    omega
  | k + 1, p, h1, h2 => by
    by_cases h3 : p ≤ Lp b bs k
    · exact Sa.ex' h k p h1 h3
    · exact ⟨(k : Int) + 1, by omega, by rw [show (k : Int) + 1 - 1 = k by omega]; omega, by simpa using h2⟩
theorem Sa.ex (h : Hou b bs) {p : Int} (h1 : 1 ≤ p) : ∃ m, Sa b bs p m := by
  refine Sa.ex' h p.toNat p h1 ?_
  have := Lp_ge_self h (n := p) (by omega)
  rwa [show (p.toNat : Int) = p by omega]
end
end Q
/-! MHou2 -/
namespace Q
open PySem
end Q
/-! MHouse -/
namespace Q
open PySem
/-! ### what is a whole number, a list .. -/
def isInt : D → Bool
  | .int _ => true
  | _ => false
def isCount : D → Bool
  | .int i => decide (0 < i)
  | _ => false
def isBase : D → Bool
  | .int i => decide (2 ≤ i ∧ i ≤ 30)
  | _ => false
def isList : D → Bool
  | .lst _ => true
  | .tup _ => true
  | _ => false
def isBeg (b : Int) : D → Bool
  | .lst l => decide ((l.length : Int) = b - 1) && l.all isCount
  | .tup l => decide ((l.length : Int) = b - 1) && l.all isCount
  | _ => false
def tnOk (d : D) : Prop := ∃ n, tn d = some n
def sp_is_whole : PSp := fun ds t P => ∃ d, ds = [d] ∧ tnOk d ∧ P (.bl (isInt d)) t
def sp_is_count : PSp := fun ds t P => ∃ d, ds = [d] ∧ tnOk d ∧ P (.bl (isCount d)) t
def sp_is_base : PSp := fun ds t P => ∃ d, ds = [d] ∧ tnOk d ∧ P (.bl (isBase d)) t
def sp_is_listing : PSp := fun ds t P => ∃ d, ds = [d] ∧ tnOk d ∧ P (.bl (isList d)) t
def sp_is_beginning : PSp := fun ds t P => ∃ b d, ds = [.int b, d] ∧ tnOk d ∧ (∀ l, d = .lst l ∨ d = .tup l → l.length ≤ 1000000 ∧ ∀ x ∈ l, tnOk x) ∧ P (.bl (isBeg b d)) t
theorem len_is_whole (as : List D) (t : Ts) (P : D → Ts → Prop) (h : sp_is_whole as t P) : as.length = 1 := by obtain ⟨_, rfl, _⟩ := h; rfl
theorem len_is_count (as : List D) (t : Ts) (P : D → Ts → Prop) (h : sp_is_count as t P) : as.length = 1 := by obtain ⟨_, rfl, _⟩ := h; rfl
theorem len_is_base (as : List D) (t : Ts) (P : D → Ts → Prop) (h : sp_is_base as t P) : as.length = 1 := by obtain ⟨_, rfl, _⟩ := h; rfl
theorem len_is_listing (as : List D) (t : Ts) (P : D → Ts → Prop) (h : sp_is_listing as t P) : as.length = 1 := by obtain ⟨_, rfl, _⟩ := h; rfl
theorem len_is_beginning (as : List D) (t : Ts) (P : D → Ts → Prop) (h : sp_is_beginning as t P) : as.length = 2 := by obtain ⟨_, _, rfl, _⟩ := h; rfl
def d_is_whole : DS := (dSeq (dRet (dAndV (dIsi [.int] (dVar 0)) (dNotV (dIsi [.bl] (dVar 0))))) dNext)
def d_is_count : DS := (dSeq (dRet (dAndV (dCall sp_is_whole [] (dCons (dVar 0) dNil)) (dOp oGt (dVar 0) (dC (.int 0))))) dNext)
def d_is_base : DS := (dSeq (dRet (dAndV (dCall sp_is_whole [] (dCons (dVar 0) dNil)) (dChain oLe oLe (dC (.int 2)) (dVar 0) (dC (.int 30))))) dNext)
def d_is_listing : DS := (dSeq (dRet (dIsi [.lst, .tup] (dVar 0))) dNext)
def d_is_beginning : DS := (dSeq (dIf (dOr (dNot (dB (dCall sp_is_listing [] (dCons (dVar 1) dNil)))) (dB (dOp oNe (dCB bLen (dCons (dVar 1) dNil)) (dOp oSub (dVar 0) (dC (.int 1)))))) (dSeq (dRet (dC (.bl false))) dNext) dNext) (dSeq (dRet (dCB bAll (dCons (dLc [2] (iSeq (dVar 1)) (gName 2) dYes (dCall sp_is_count [] (dCons (dVar 2) dNil))) dNil))) dNext))
theorem d_is_whole_ok (as : List D) (t : Ts) (P : D → Ts → Prop) (h : sp_is_whole as t P) : d_is_whole (endsOf P) (start0 ["thing"] as) t := by
  obtain ⟨d, rfl, ⟨n, hn⟩, k⟩ := h
  cases d <;> first | exact k | cases hn
theorem d_is_count_ok (as : List D) (t : Ts) (P : D → Ts → Prop) (h : sp_is_count as t P) : d_is_count (endsOf P) (start0 ["thing"] as) t := by
  obtain ⟨d, rfl, hn, k⟩ := h
  conv => whnf
  refine ⟨d, rfl, hn, ?_⟩
  cases d <;> exact k
theorem d_is_base_ok (as : List D) (t : Ts) (P : D → Ts → Prop) (h : sp_is_base as t P) : d_is_base (endsOf P) (start0 ["thing"] as) t := by
  obtain ⟨d, rfl, hn, k⟩ := h
  conv => whnf
  refine ⟨d, rfl, hn, ?_⟩
  cases d with
  | int i =>
    conv => whnf
    refine Br.mk (fun h1 => ?_) (fun h1 => ?_)
    · have h1 : 2 ≤ i := of_decide_eq_true h1
      conv => whnf
      have e : isBase (.int i) = decide (i ≤ 30) := by
        show decide (2 ≤ i ∧ i ≤ 30) = _
        simp [h1]
      rw [e] at k
      exact k
    · have h1 : ¬ 2 ≤ i := of_decide_eq_false h1
      conv => whnf
      have e : isBase (.int i) = false := by
        show decide (2 ≤ i ∧ i ≤ 30) = _
        simp [h1]
      rw [e] at k
      exact k
  | _ => exact k
theorem d_is_listing_ok (as : List D) (t : Ts) (P : D → Ts → Prop) (h : sp_is_listing as t P) : d_is_listing (endsOf P) (start0 ["thing"] as) t := by
  obtain ⟨d, rfl, ⟨n, hn⟩, k⟩ := h
  cases d <;> first | exact k | cases hn
theorem bls_mapf (f : D → Bool) : ∀ l : List D, bls (l.map fun x => .bl (f x)) = some (l.map f)
  | [] => rfl
  | x :: l => by simp [bls, bls_mapf f l]
theorem all_id {α : Type} (f : α → Bool) (l : List α) : (l.map f).all id = l.all f := by
  induction l with
  | nil => rfl
  | cons a l ih => rw [List.map_cons, List.all_cons, List.all_cons, ih]; rfl
theorem take_map {α β : Type} (f : α → β) {l : List α} {i : Nat} {x : α} (h : l[i]? = some x) : (l.take i).map f ++ [f x] = (l.take (i + 1)).map f := by
  rw [List.take_add_one, h]
  simp
theorem d_is_beginning_ok (as : List D) (t : Ts) (P : D → Ts → Prop) (h : sp_is_beginning as t P) : d_is_beginning (endsOf P) (start0 ["base", "thing", "many"] as) t := by
  obtain ⟨b, d, rfl, hn, hl, k⟩ := h
  conv => whnf
  refine ⟨d, rfl, hn, ?_⟩
  cases d with
  | lst l =>
    conv => whnf
    refine Br.mk (fun h1 => ?_) (fun h1 => ?_)
    · conv => whnf
      have e : isBeg b (.lst l) = false := by
        show (decide ((l.length : Int) = b - 1) && _) = _
        simp at h1
        simp [h1]
      rw [e] at k
      exact k
    · have h1 : (l.length : Int) = b - 1 := by simpa using h1
      obtain ⟨hl1, hl2⟩ := hl l (.inl rfl)
      conv => whnf
      refine ⟨fun i acc m => t = m ∧ acc = (l.take i).map fun x => .bl (isCount x), ⟨rfl, rfl⟩, fun i x acc m hx hI => ?_, fun acc m hI => ?_⟩
      · obtain ⟨rfl, rfl⟩ := hI
        conv => whnf
        refine ⟨rfl, ?_⟩
        conv => whnf
        refine ⟨x, rfl, hl2 x (List.mem_of_getElem? hx), ?_⟩
        refine ⟨by rw [List.length_map, List.length_take]; unfold zLen; omega, rfl, take_map (fun x => D.bl (isCount x)) hx⟩
      · obtain ⟨rfl, rfl⟩ := hI
        rw [List.take_length]
        refine ⟨_, bls_mapf isCount l, ?_⟩
        rw [all_id]
        have e : isBeg b (.lst l) = l.all isCount := by
          show (decide ((l.length : Int) = b - 1) && _) = _
          simp [h1]
        rw [e] at k
        exact k
  | tup l =>
    conv => whnf
    refine Br.mk (fun h1 => ?_) (fun h1 => ?_)
    · conv => whnf
      have e : isBeg b (.tup l) = false := by
        show (decide ((l.length : Int) = b - 1) && _) = _
        simp at h1
        simp [h1]
      rw [e] at k
      exact k
    · have h1 : (l.length : Int) = b - 1 := by simpa using h1
      obtain ⟨hl1, hl2⟩ := hl l (.inr rfl)
      conv => whnf
      refine ⟨fun i acc m => t = m ∧ acc = (l.take i).map fun x => .bl (isCount x), ⟨rfl, rfl⟩, fun i x acc m hx hI => ?_, fun acc m hI => ?_⟩
      · obtain ⟨rfl, rfl⟩ := hI
        conv => whnf
        refine ⟨rfl, ?_⟩
        conv => whnf
        refine ⟨x, rfl, hl2 x (List.mem_of_getElem? hx), ?_⟩
        refine ⟨by rw [List.length_map, List.length_take]; unfold zLen; omega, rfl, take_map (fun x => D.bl (isCount x)) hx⟩
      · obtain ⟨rfl, rfl⟩ := hI
        rw [List.take_length]
        refine ⟨_, bls_mapf isCount l, ?_⟩
        rw [all_id]
        have e : isBeg b (.tup l) = l.all isCount := by
          show (decide ((l.length : Int) = b - 1) && _) = _
          simp [h1]
        rw [e] at k
        exact k
  | _ => exact k
end Q
/-! MHse2 -/
namespace Q
open PySem
/-! ### the house -/
def hD (W : Cl) (b : Int) (bs : List Int) : D := .ins W.House ["kept_base", "kept_beginning", "sums"] [.int b, .lst (bs.map .int), .lst ((sumsOf 0 bs).map .int)]
def sp_House_base (W : Cl) : PSp := fun ds t P => ∃ b bs, ds = [hD W b bs] ∧ P (.int b) t
def sp_House_beginning (W : Cl) : PSp := fun ds t P => ∃ b bs, ds = [hD W b bs] ∧ P (.lst (bs.map .int)) t
section
variable (W : Cl) (as : List D) (t : Ts) (P : D → Ts → Prop)
theorem len_House_base (h : sp_House_base W as t P) : as.length = 1 := by obtain ⟨_, _, rfl, _⟩ := h; rfl
theorem len_House_beginning (h : sp_House_beginning W as t P) : as.length = 1 := by obtain ⟨_, _, rfl, _⟩ := h; rfl
end
theorem nopens_ints : ∀ l : List Int, nopens (l.map .int) = true
  | [] => rfl
  | a :: l => by simp [nopens, nopen, nopens_ints l]
def d_House_sumsE (W : Cl) : DE := (dOp oAdd (dOp oSub (dVar 3) (dC (.int 1))) (dIfE (dB (dOp oNe (dFld W.House "sums" (dVar 0)) (dLst dNil))) (dOp oIx (dFld W.House "sums" (dVar 0)) (dUn oNeg (dC (.int 1)))) (dC (.int 0))))
theorem sumsE_House (W : Cl) : SumsE W.House 3 (d_House_sumsE W) := by
  intro env t P ns l cur m h0 h1 h3 k
  match env, h0, h3 with
  | a0 :: a1 :: a2 :: a3 :: r, h0, h3 =>
  cases h0
  cases h3
  conv => whnf
  refine ⟨rfl, ?_⟩
  conv => whnf
  rw [h1]
  conv => whnf
  refine ⟨eqok_ints cur [], ?_⟩
  conv => whnf
  refine Br.mk (fun hc => ?_) (fun hc => ?_)
  · have hc : cur ≠ [] := deqn_t (b := []) hc
    conv => whnf
    refine ⟨rfl, ?_⟩
    conv => whnf
    rw [h1]
    conv => whnf
    have hl : 0 < cur.length := List.length_pos_iff.mpr hc
    refine ⟨.int (cur.getLastD 0), ?_, k⟩
    unfold atI
    rw [if_neg (by decide), if_pos (by rw [List.length_map]; omega), List.getElem?_map]
    rw [show ((-1 : Int) + ((cur.map D.int).length : Int)).toNat = cur.length - 1 by rw [List.length_map]; omega, List.getElem?_eq_getElem (by omega)]
    simp [List.getLastD_eq_getLast?, List.getLast?_eq_getElem?, List.getElem?_eq_getElem (show cur.length - 1 < cur.length by omega)]
  · have hc : cur = [] := deqn_f (b := []) hc
    subst hc
    exact k
theorem Hou.isBeg {b : Int} {bs : List Int} (h : Hou b bs) : bs.all (fun x => isCount (.int x)) = true := List.all_eq_true.mpr fun x hx => decide_eq_true (by have := h.pos x hx; omega)
theorem all_map_int (bs : List Int) : (bs.map D.int).all isCount = bs.all (fun x => isCount (.int x)) := by
  induction bs with
  | nil => rfl
  | cons a l ih => rw [List.map_cons, List.all_cons, List.all_cons, ih]
theorem beg_lst {b : Int} {bs : List Int} (h : Hou b bs) : isBeg b (.lst (bs.map .int)) = true := by
  show (decide (((bs.map D.int).length : Int) = b - 1) && (bs.map D.int).all isCount) = true
  rw [List.length_map, h.len, all_map_int, h.isBeg]
  simp
theorem tnOk_ints (bs : List Int) : ∀ x ∈ bs.map D.int, tnOk x := fun x hx => by
  obtain ⟨i, _, rfl⟩ := List.mem_map.mp hx
  exact ⟨_, rfl⟩
end Q
/-! MHLaw -/
namespace Q
open PySem
/-! ### sizes of last places -/
/-! ### a drawn beginning -/
def sp__law_beginning : PSp := fun ds t P => ∃ b most n, ds = [.pen, .int b, .int most] ∧ 2 ≤ b ∧ b ≤ 30 ∧ 1 ≤ most ∧ Sm 8000 most ∧ Pk n t ∧ n < 90000000 ∧
  ∀ bs t', Hou b bs → (∀ x ∈ bs, x ≤ most + 3) → Pk (n + 100) t' → P (.lst (bs.map .int)) t'
theorem len__law_beginning (as : List D) (t : Ts) (P : D → Ts → Prop) (h : sp__law_beginning as t P) : as.length = 3 := by obtain ⟨_, _, _, rfl, _⟩ := h; rfl
def d__law_beginning : DS := (dSeq (dRet (dLc [3] (iRng1 (dOp oSub (dVar 1) (dC (.int 1)))) (gName 3) dYes (dOp oAdd (dC (.int 1)) (dOp oIx (dLst (dCons (dC (.int 0)) (dCons (dCall sp__law_draw [] (dCons (dVar 0) (dCons (dC (.int 3)) dNil))) (dCons (dCall sp__law_draw [] (dCons (dVar 0) (dCons (dVar 2) dNil))) dNil)))) (dCall sp__law_draw [] (dCons (dVar 0) (dCons (dC (.int 3)) dNil))))))) dNext)
theorem pick3 {a c : Int} {i : Int} (hi : 0 ≤ i) (hi' : i < 3) (ha : 0 ≤ a) (hc : 0 ≤ c) {M : Int} (hM : 0 ≤ M) (ha' : a ≤ M) (hc' : c ≤ M) : ∃ x : Int, atI [.int 0, .int a, .int c] i = some (.int x) ∧ 0 ≤ x ∧ x ≤ M := by
  match i, hi, hi' with
  | 0, _, _ => exact ⟨0, rfl, by omega, by omega⟩
  | 1, _, _ => exact ⟨a, rfl, ha, ha'⟩
  | 2, _, _ => exact ⟨c, rfl, hc, hc'⟩
theorem d__law_beginning_ok (as : List D) (t : Ts) (P : D → Ts → Prop) (h : sp__law_beginning as t P) : d__law_beginning (endsOf P) (start0 ["_law_pen_here", "_law_base", "_law_most", "_law_k"] as) t := by
  obtain ⟨b, most, n, rfl, h2, h30, hm, hs, hp, hn, k⟩ := h
  conv => whnf
  refine ⟨by omega, ?_⟩
  conv => whnf
  refine ⟨fun i acc m => ∃ bs : List Int, acc = bs.map .int ∧ bs.length = i ∧ (∀ x ∈ bs, 1 ≤ x ∧ x ≤ most + 3) ∧ Pk (n + 3 * i) m, ⟨[], rfl, rfl, by simp, by simpa using hp⟩, fun i x acc m hx hI => ?_, fun acc m hI => ?_⟩
  · obtain ⟨bs, rfl, hl, hb, pm⟩ := hI
    obtain ⟨hi, rfl⟩ := rng_get hx
    conv => whnf
    refine ⟨rfl, ?_⟩
    conv => whnf
    refine ⟨_, _, rfl, by first | omega | decide, (sm64 (by first | omega | decide) (by first | omega | decide)).mono (by decide), pm, by omega, fun u t1 u0 u1 pt1 => ?_⟩
    conv => whnf
    refine ⟨_, _, rfl, by omega, hs.mono (by decide), pt1, by omega, fun w t2 w0 w1 pt2 => ?_⟩
    conv => whnf
    refine ⟨_, _, rfl, by first | omega | decide, (sm64 (by first | omega | decide) (by first | omega | decide)).mono (by decide), pt2, by omega, fun v t3 v0 v1 pt3 => ?_⟩
    conv => whnf
    obtain ⟨y, e, y0, y1⟩ := pick3 v0 v1 u0 w0 (M := most + 2) (by omega) (by omega) (by omega)
    refine ⟨_, e, ?_⟩
    refine ⟨by rw [List.length_map]; unfold zLen; omega, bs ++ [1 + y], by simp, by simp [hl], fun z hz => ?_, pt3.mono (by omega)⟩
    rcases List.mem_append.mp hz with h | h
    · exact hb z h
    · have : z = 1 + y := by simpa using h
      omega
  · obtain ⟨bs, rfl, hl, hb, pm⟩ := hI
    rw [rng_len] at hl pm
    exact k bs m ⟨h2, h30, by omega, fun x hx => (hb x hx).1⟩ (fun x hx => (hb x hx).2) (pm.mono (by omega))
end Q
/-! MRec -/
namespace Q
open PySem
/-! ### what is said, as a function; 1 at places below 1 -/
def sdF (b : Int) (bs : List Int) (p : Int) : Nat → Int → Int
  | 0, m => m
  | k + 1, m => if p ≤ Lp b bs m then m else sdF b bs p k (m + 1)
def sd (b : Int) (bs : List Int) (p : Int) : Int := if 1 ≤ p then sdF b bs p p.toNat 1 else 1
end Q
/-! MGone -/
namespace Q
open PySem
/-! ### going: what is said at the first places -/
end Q
/-! MTot -/
namespace Q
open PySem
/-! ### sums over the row -/
end Q
/-! MOft -/
namespace Q
open PySem
/-! ### powers -/
end Q
/-! MHA -/
namespace Q
open PySem
/-! ### what the laws of one house (k13 to k34) share -/
theorem getD_mem {l : List Int} {i : Nat} (h : i < l.length) : l.getD i 0 ∈ l := by
  rw [List.getD_eq_getElem?_getD, List.getElem?_eq_getElem h]
  exact List.getElem_mem h
end Q
/-! MTool -/
namespace Q
open PySem
/-! ### comprehensions that draw nothing -/
section
variable {xs : List D} {env : En} {t : Ts} {vs : List Nat} {g : DG} {c : DT} {a : DE} {P : List D → Ts → Prop}
/-- by the items' places; some are left out -/
theorem lc_fm (f : Nat → Option D) (hl : xs.length ≤ zLen) (h : ∀ (i : Nat) (x : D), xs[i]? = some x → ∀ (Qy : D → Ts → Prop) (Qn : Ts → Prop), (∀ y, f i = some y → Qy y t) → (f i = none → Qn t) →
    g x (wipeE env vs) t fun e' m' => wipeE e' vs = wipeE env vs ∧ c e' m' fun k m1 => Br k (a e' m1 Qy) (Qn m1)) (k : P ((List.range xs.length).filterMap f) t) :
    ∃ Inv : Nat → List D → Ts → Prop, Inv 0 [] t ∧ (∀ i x acc m, xs[i]? = some x → Inv i acc m → g x (wipeE env vs) m fun e' m' => wipeE e' vs = wipeE env vs ∧ c e' m' fun k m1 => Br k (a e' m1 fun y m2 => acc.length < zLen ∧ Inv (i + 1) (acc ++ [y]) m2) (Inv (i + 1) acc m1)) ∧ ∀ acc m, Inv xs.length acc m → P acc m := by
  refine ⟨fun i acc m => t = m ∧ acc = (List.range i).filterMap f, ⟨rfl, rfl⟩, fun i x acc m hx hI => ?_, fun acc m hI => ?_⟩
  · obtain ⟨rfl, rfl⟩ := hI
    have hi : i < xs.length := (List.getElem?_eq_some_iff.mp hx).1
    refine h i x hx _ _ (fun y hy => ⟨?_, rfl, ?_⟩) (fun hn => ⟨rfl, ?_⟩)
    · refine Nat.lt_of_le_of_lt (List.length_filterMap_le _ _) ?_
      rw [List.length_range]; omega
    · rw [List.range_succ, List.filterMap_append]
      simp [hy]
    · rw [List.range_succ, List.filterMap_append]
      simp [hn]
  · obtain ⟨rfl, rfl⟩ := hI
    exact k
theorem fm_some {α β : Type} (f : α → β) : ∀ l : List α, l.filterMap (fun x => some (f x)) = l.map f
  | [] => rfl
  | x :: l => by simp [fm_some f l]
/-- .. all taken -/
theorem lc_idx (f : Nat → D) (hl : xs.length ≤ zLen) (h : ∀ (i : Nat) (x : D), xs[i]? = some x → ∀ Qy : D → Ts → Prop, Qy (f i) t →
    g x (wipeE env vs) t fun e' m' => wipeE e' vs = wipeE env vs ∧ a e' m' Qy) (k : P ((List.range xs.length).map f) t) :
    ∃ Inv : Nat → List D → Ts → Prop, Inv 0 [] t ∧ (∀ i x acc m, xs[i]? = some x → Inv i acc m → g x (wipeE env vs) m fun e' m' => wipeE e' vs = wipeE env vs ∧ dYes e' m' fun k m1 => Br k (a e' m1 fun y m2 => acc.length < zLen ∧ Inv (i + 1) (acc ++ [y]) m2) (Inv (i + 1) acc m1)) ∧ ∀ acc m, Inv xs.length acc m → P acc m := by
  refine lc_fm (c := dYes) (fun i => some (f i)) hl (fun i x hx Qy Qn h1 h2 => h i x hx Qy (h1 _ rfl)) ?_
  rw [fm_some]
  exact k
/-- .. by the items -/
theorem lc_map (f : D → D) (hl : xs.length ≤ zLen) (h : ∀ (i : Nat) (x : D), xs[i]? = some x → ∀ Qy : D → Ts → Prop, Qy (f x) t →
    g x (wipeE env vs) t fun e' m' => wipeE e' vs = wipeE env vs ∧ a e' m' Qy) (k : P (xs.map f) t) :
    ∃ Inv : Nat → List D → Ts → Prop, Inv 0 [] t ∧ (∀ i x acc m, xs[i]? = some x → Inv i acc m → g x (wipeE env vs) m fun e' m' => wipeE e' vs = wipeE env vs ∧ dYes e' m' fun k m1 => Br k (a e' m1 fun y m2 => acc.length < zLen ∧ Inv (i + 1) (acc ++ [y]) m2) (Inv (i + 1) acc m1)) ∧ ∀ acc m, Inv xs.length acc m → P acc m := by
  refine lc_idx (fun i => f (xs.getD i .non)) hl (fun i x hx Qy q => ?_) ?_
  · refine h i x hx Qy ?_
    rw [List.getD_eq_getElem?_getD, hx] at q
    exact q
  · have e : (List.range xs.length).map (fun i => f (xs.getD i .non)) = xs.map f := by
      apply List.ext_getElem
      · simp
      · intro i h1 h2
        simp at h1
        simp [List.getD_eq_getElem?_getD, List.getElem?_eq_getElem h1]
    rw [e]
    exact k
end
/-! ### data that are alike -/
end Q
/-! MSum -/
namespace Q
open PySem
/-! ### often.py: sums -/
def HSm (y : Nat) (bs : List Int) : Prop := ∀ x ∈ bs, Sm y x
def d_House_base (W : Cl) : DS := (dSeq (dRet (dFld W.House "kept_base" (dVar 0))) dNext)
def d_House_beginning (W : Cl) : DS := (dSeq (dRet (dCB bList (dCons (dFld W.House "kept_beginning" (dVar 0)) dNil))) dNext)
theorem d_House_base_ok (W : Cl) (as : List D) (t : Ts) (P : D → Ts → Prop) (h : sp_House_base W as t P) : d_House_base W (endsOf P) (start0 ["self"] as) t := by
  obtain ⟨b, bs, rfl, k⟩ := h
  conv => whnf
  repeat (refine And.intro (by first | omega | rfl | exact MulOk.r (by decide) (by decide) | exact MulOk.l (by omega) (by omega) | exact MulOk.r (by omega) (by omega) | exact DivOk.s (by omega) (by omega) | exact PowOk.s (by decide) (by decide) (by decide) (by decide) | (unfold zLen; omega) | (simp only [List.length_append, List.length_map, List.length_cons, List.length_nil]; unfold zLen; omega)) ?_; conv => whnf)
  exact k
theorem d_House_beginning_ok (W : Cl) (as : List D) (t : Ts) (P : D → Ts → Prop) (h : sp_House_beginning W as t P) : d_House_beginning W (endsOf P) (start0 ["self"] as) t := by
  obtain ⟨b, bs, rfl, k⟩ := h
  conv => whnf
  repeat (refine And.intro (by first | omega | rfl | exact MulOk.r (by decide) (by decide) | exact MulOk.l (by omega) (by omega) | exact MulOk.r (by omega) (by omega) | exact DivOk.s (by omega) (by omega) | exact PowOk.s (by decide) (by decide) (by decide) (by decide) | (unfold zLen; omega) | (simp only [List.length_append, List.length_map, List.length_cons, List.length_nil]; unfold zLen; omega)) ?_; conv => whnf)
  exact k
end Q
/-! MPenT -/
namespace Q
open PySem
/-! ### the tape pen -/
structure Pt (n : Int) (t : Ts) : Prop where
  c : t.cells.length ≤ 63
  a0 : 0 ≤ t.at'
  a1 : t.at' ≤ n
  l : 0 ≤ t.left
  tp : t.tape = true
theorem Pt.mono {n m : Int} {t : Ts} (p : Pt n t) (h : n ≤ m) : Pt m t := ⟨p.c, p.a0, Int.le_trans p.a1 h, p.l, p.tp⟩
end Q
/-! MMark -/
namespace Q
open PySem
/-! ### marks: the power below a number, marks by it, shares -/
def pw (b n : Int) : Int := if h : 0 < n ∧ 2 ≤ b then (if n < b then 1 else b * pw b (n / b)) else 1
termination_by n.toNat
decreasing_by exact ediv_toNat_lt h
section
variable {b : Int}
/-- what comes behind a sign's mark -/
def mF (b : Int) (ms : List Int) (s : Int) : Int := if s < b - 1 then ms.getD s.toNat 0 else b * ms.getD 0 0
def Mk (b : Int) (ms : List Int) (n : Int) : Int := (pw b n - n % pw b n) * ms.getD (n / pw b n - 1).toNat 0 + n % pw b n * mF b ms (n / pw b n)
end
end Q
/-! MMark2 -/
namespace Q
open PySem
/-! ### rows' sums of products -/
/-! ### shares -/
/-! ### THE RULE for marks -/
end Q
/-! MMark3 -/
namespace Q
open PySem
theorem HSm.at {y : Nat} {ms : List Int} (h : HSm y ms) (i : Nat) : Sm y (ms.getD i 0) := by
  rw [List.getD_eq_getElem?_getD]
  cases q : ms[i]? with
  | none => show (0 : Int).natAbs < 2 ^ y; exact Nat.two_pow_pos y
  | some x => exact h x (List.mem_of_getElem? q)
end Q
/-! MMark4 -/
namespace Q
open PySem
end Q
/-! MPart -/
namespace Q
open PySem
/-! ### where two houses part -/
/-- the least number that is said unlike often -/
structure Ap (b : Int) (bs : List Int) (c : Int) (cs : List Int) (n : Int) : Prop where
  n1 : 1 ≤ n
  ne : Ti b bs n ≠ Ti c cs n
  eq : ∀ m, 1 ≤ m → m < n → Ti b bs m = Ti c cs m
theorem Ap.symm {b c n : Int} {bs cs : List Int} (a : Ap b bs c cs n) : Ap c cs b bs n := ⟨a.n1, fun e => a.ne e.symm, fun m h1 h2 => (a.eq m h1 h2).symm⟩
def sp_House___eq__ (W : Cl) : PSp := fun ds t P => ∃ b bs c cs, ds = [hD W b bs, hD W c cs] ∧ P (.bl (decide (b = c ∧ bs = cs))) t
theorem len_House___eq__ (W : Cl) (as : List D) (t : Ts) (P : D → Ts → Prop) (h : sp_House___eq__ W as t P) : as.length = 2 := by first | (obtain ⟨_, rfl, _⟩ := h; rfl) | (obtain ⟨_, _, rfl, _⟩ := h; rfl) | (obtain ⟨_, _, _, rfl, _⟩ := h; rfl) | (obtain ⟨_, _, _, _, rfl, _⟩ := h; rfl) | (obtain ⟨_, _, _, _, _, rfl, _⟩ := h; rfl) | (obtain ⟨_, _, _, _, _, _, rfl, _⟩ := h; rfl) | (obtain ⟨_, _, _, _, _, _, _, rfl, _⟩ := h; rfl) | (obtain ⟨_, _, _, _, _, _, _, _, rfl, _⟩ := h; rfl) | (obtain ⟨_, rfl | rfl, _⟩ := h <;> rfl) | (obtain ⟨_, _, rfl | rfl, _⟩ := h <;> rfl) | (obtain ⟨_, _, _, rfl | rfl, _⟩ := h <;> rfl) | (obtain ⟨_, _, _, _, rfl | rfl, _⟩ := h <;> rfl) | (obtain ⟨_, _, _, _, _, rfl | rfl, _⟩ := h <;> rfl) | (obtain ⟨_, _, _, _, _, _, rfl | rfl, _⟩ := h <;> rfl) | (obtain ⟨_, _, _, _, _, _, _, rfl | rfl, _⟩ := h <;> rfl) | (obtain ⟨_, _, _, _, _, _, _, _, rfl | rfl, _⟩ := h <;> rfl)
def d_House___eq__ (W : Cl) : DS := (dSeq (dRet (dAndV (dCB (bIsC W.House) (dCons (dVar 1) (dCons (dC (.adr W.House)) dNil))) (dAndV (dOp oEq (dMeth W.House "base" (sp_House_base W) [] (dVar 0) dNil) (dMeth W.House "base" (sp_House_base W) [] (dVar 1) dNil)) (dOp oEq (dMeth W.House "beginning" (sp_House_beginning W) [] (dVar 0) dNil) (dMeth W.House "beginning" (sp_House_beginning W) [] (dVar 1) dNil))))) dNext)
theorem d_House___eq___ok (W : Cl) (as : List D) (t : Ts) (P : D → Ts → Prop) (h : sp_House___eq__ W as t P) : d_House___eq__ W (endsOf P) (start0 ["self", "other"] as) t := by
  obtain ⟨b, bs, c, cs, rfl, k⟩ := h
  conv => whnf
  refine ⟨rfl, ?_⟩
  conv => whnf
  refine ⟨rfl, ?_⟩
  conv => whnf
  conv => whnf
  refine ⟨rfl, ?_⟩
  conv => whnf
  refine ⟨rfl, ?_⟩
  conv => whnf
  refine ⟨b, bs, rfl, ?_⟩
  conv => whnf
  refine ⟨rfl, ?_⟩
  conv => whnf
  refine ⟨rfl, ?_⟩
  conv => whnf
  refine ⟨c, cs, rfl, ?_⟩
  conv => whnf
  refine Br.mk (fun hbc => ?_) (fun hbc => ?_)
  · have hbc := of_decide_eq_true hbc
    conv => whnf
    refine ⟨rfl, ?_⟩
    conv => whnf
    refine ⟨rfl, ?_⟩
    conv => whnf
    refine ⟨b, bs, rfl, ?_⟩
    conv => whnf
    refine ⟨rfl, ?_⟩
    conv => whnf
    refine ⟨rfl, ?_⟩
    conv => whnf
    refine ⟨c, cs, rfl, ?_⟩
    refine ⟨eqok_ints bs cs, ?_⟩
    rw [deq_ints]
    have e : decide (b = c ∧ bs = cs) = decide (bs = cs) := by simp [hbc]
    rw [e] at k
    exact k
  · have hbc := of_decide_eq_false hbc
    have e : decide (b = c ∧ bs = cs) = false := by simp [hbc]
    rw [e] at k
    exact k
end Q
/-! MRow -/
namespace Q
open PySem
/-! ### a row gone one by one -/
end Q
/-! MLast3 -/
namespace Q
open PySem
end Q
/-! MSay -/
namespace Q
open PySem
/-! ### sayings -/
structure Sy where
  w : Bool
  p : Int
  n : Int
def syD : Sy → D
  | ⟨true, p, n⟩ => .tup [.str "at most", .int p, .int n]
  | ⟨false, p, n⟩ => .tup [.str "at least", .int p, .int n]
structure Sy.Ok (s : Sy) : Prop where
  p1 : 1 ≤ s.p
  n1 : 1 ≤ s.n
/-- whether a house keeps it -/
def keepB (b : Int) (bs : List Int) (s : Sy) : Bool := if s.w then decide (s.p ≤ Lp b bs s.n) else decide (Lp b bs (s.n - 1) < s.p)
end Q
/-! MSum2 -/
namespace Q
open PySem
/-! ### sums by the laws' own signs -/
/-- digits, the last one first -/
def up (b : Int) (l : List Int) (x : Int) : Int := l.foldr (fun s a => a * b + s) x
end Q
/-! MSay2 -/
namespace Q
open PySem
end Q
/-! MPapA -/
namespace Q
open PySem
/-! ### cuts of any list -/
theorem cutG_fr {α : Type} {f : α → D} {l : List α} {a : Nat} (h : a ≤ l.length) : cutD (l.map f) (some (a : Int)) none = (l.drop a).map f := by
  unfold cutD
  have e1 : sIx (l.map f).length 0 (some (a : Int)) = a := by
    unfold sIx
    simp only [List.length_map]
    rw [if_neg (by omega)]
    omega
  rw [e1]
  show (((l.map f)).drop a).take ((l.map f).length - a) = _
  rw [List.take_of_length_le (by simp), ← List.map_drop]
theorem cutG_to {α : Type} {f : α → D} {l : List α} {a : Nat} (h : a ≤ l.length) : cutD (l.map f) none (some (a : Int)) = (l.take a).map f := by
  unfold cutD
  have e1 : sIx (l.map f).length (l.map f).length (some (a : Int)) = a := by
    unfold sIx
    simp only [List.length_map]
    rw [if_neg (by omega)]
    omega
  rw [e1]
  show (((l.map f)).drop 0).take (a - 0) = _
  rw [List.drop_zero, Nat.sub_zero, ← List.map_take]
theorem bls_gen {α : Type} (f : α → Bool) : ∀ l : List α, bls (l.map fun x => D.bl (f x)) = some (l.map f)
  | [] => rfl
  | x :: l => by
    show (bls (l.map fun x => D.bl (f x))).map _ = _
    rw [bls_gen f l]
    rfl
end Q
/-! QD5 -/
namespace Q
open PySem
/-- in a tuple of None and whole numbers -/
def pO : Option Int → D
  | none => .non
  | some i => .int i
/-- a text that is none of a tuple of texts -/
def oNotInT : DOp := fun x y P => match x, y with
  | .str x, .tup l => ∃ ss : List Str, l = ss.map .str ∧ P (.bl (!ss.any fun z => z == x))
  | _, _ => False
end Q
/-! QD6 -/
/-! Q, the data level: isinstance with both answers, where instances of the class at C stand beside other things. -/
namespace Q
open PySem
end Q
/-! QD7 -/
/-! Q, the data level: a new object picked out of a list of new objects by a def. -/
namespace Q
open PySem
end Q
/-! QD8 -/
/-! Q, the data level: a name's own list lent to a def that tells a truth. -/
namespace Q
open PySem
end Q
/-! QD9 -/
/-! Q, the data level: str of a whole number. -/
namespace Q
open PySem
/-- str(i) -/
def bStr : DB := fun xs P => match xs with
  | [.int i] => i.natAbs.log2 < 1920 ∧ P (.str (toString i))
  | _ => False
end Q
/-! QD10 -/
namespace Q
open PySem
/-- raise X(e) -/
def dRaiseF (Px : D → Ts → Prop) (as : DA) : DS := fun _ env t => as env t fun xs t1 => match xs with
  | [x] => Px x t1
  | _ => False
end Q
/-! QD11 -/
namespace Q
open PySem
end Q
/-! QD12 -/
/-! Q, the data level, more of it. -/
namespace Q
open PySem
end Q
namespace Q
open PySem
end Q
/-! QO0 -/
/-! Q, the data level: objects that may change, by their addresses. -/
namespace Q
open PySem
/- a field is put -/
/-! ### texts -/
def sg (c : Nat) : Str := ⟨#[c]⟩
/-- an index of any sign in a text -/
def atC (z : List Nat) (i : Int) : Option Nat := if 0 ≤ i then (if i < z.length then z[i.toNat]? else none) else if -(z.length : Int) ≤ i then z[(i + z.length).toNat]? else none
def oIxS : DOp := fun x y P => match x, y with
  | .str z, .int i => z.length ≤ zLen ∧ ∃ c, atC z.cps.toList i = some c ∧ P (.str (sg c))
  | _, _ => False
def cutT (z : Str) (lo hi : Option Int) : Str := ⟨((z.cps.toList.drop (sIx z.length 0 lo)).take (sIx z.length z.length hi - sIx z.length 0 lo)).toArray⟩
def dSliceS (a : DE) (lo hi : DO) : DE := fun env t P => a env t fun x t1 => lo env t1 fun l t2 => hi env t2 fun h t3 => match x with
  | .str z => z.length ≤ zLen ∧ P (.str (cutT z l h)) t3
  | _ => False
def joinC (a : Str) : List Str → List Nat
  | [] => []
  | [x] => x.cps.toList
  | x :: y :: r => x.cps.toList ++ a.cps.toList ++ joinC a (y :: r)
/-- t.join(l) -/
def dJoin (o a : DE) : DE := fun env t P => o env t fun x t1 => match x with
  | .str z => a env t1 fun y t2 => (match y with
    | .lst l => ∃ ss : List Str, l = ss.map .str ∧ (ss.map (·.length)).sum + ss.length * z.length ≤ zLen ∧ P (.str ⟨(joinC z ss).toArray⟩) t2
    | _ => False)
  | _ => False
/-- one sign in a text -/
def oInS : DOp := fun x y P => match x, y with
  | .str x, .str z => ∃ c, x = sg c ∧ P (.bl (decide (c ∈ z.cps.toList)))
  | _, _ => False
def iStrD (a : DE) : DI := fun env t P => a env t fun x t1 => match x with
  | .str z => P (z.cps.toList.map fun c => .str (sg c)) t1
  | _ => False
/-! ### more -/
end Q
/-! MWord -/
namespace Q
open PySem
/-! ### words of small letters -/
theorem Pk.bare {n : Int} {t : Ts} (p : Pk n t) : Pk n t.bare := ⟨p.c, p.a0, p.a1, p.l, p.tp⟩
def Lt (c : Nat) : Prop := 97 ≤ c ∧ c ≤ 122
instance (c : Nat) : Decidable (Lt c) := by unfold Lt; exact inferInstance
structure Wd (w : Str) : Prop where
  l1 : 0 < w.length
  l2 : w.length < 13
  s : ∀ c ∈ w.cps.toList, Lt c
def wdB (w : Str) : Bool := decide (0 < w.cps.size) && (decide (w.cps.size < 13) && w.cps.toList.all fun c => decide (Lt c))
theorem len_toList (w : Str) : w.cps.toList.length = w.length := Array.length_toList
end Q
/-! MTie -/
namespace Q
open PySem
/-! ### bounds and ties -/
structure Bnd where
  s : Int
  e : Int
  r : Int
  p : Option Int
def hd (b m : Int) : Int := (sigs b m).getD 0 0
def ex (b m : Int) : Int := (sigs b m).length - 1
def f0 : Bnd := ⟨0, 0, 0, none⟩
def f1 (b : Int) : Bnd := ⟨b - 1, -1, 0, none⟩
def floB (b : Int) (s : Sy) (i : Int) : Bnd := ⟨hd b s.n, ex b s.n, s.p - s.n - heap b s.n, some i⟩
def topB (b : Int) (s : Sy) (i : Int) : Bnd := ⟨hd b (s.n - 1), ex b (s.n - 1), s.p - s.n - heap b (s.n - 1), some i⟩
def floF (b : Int) (s : Sy) (i : Int) : Option Bnd := if s.w = true then some (floB b s i) else none
def topF (b : Int) (s : Sy) (i : Int) : Option Bnd := if s.w = false ∧ 1 < s.n then some (topB b s i) else none
def sy0 : Sy := ⟨true, 1, 1⟩
def flo (b : Int) (ss : List Sy) : List Bnd := f0 :: f1 b :: (List.range ss.length).filterMap fun i => floF b (ss.getD i sy0) i
def top (b : Int) (ss : List Sy) : List Bnd := f1 b :: (List.range ss.length).filterMap fun i => topF b (ss.getD i sy0) i
/-- each low with each top at its sign or behind it -/
def prs (ls ts : List Bnd) : List (Bnd × Bnd) := ls.flatMap fun l => (ts.filter fun t => decide (l.s ≤ t.s)).map fun t => (l, t)
def fr (q : Bnd × Bnd) : Int × Int := (q.2.e - q.1.e, q.2.r - q.1.r)
def tis (b : Int) (ss : List Sy) : List (Int × Int) := (prs (flo b ss) (top b ss)).map fr
end Q
/-! MTie2 -/
namespace Q
open PySem
end Q
/-! MTie3 -/
namespace Q
open PySem
end Q
/-! MHs -/
namespace Q
open PySem
/-! ### houses by their sums, and the bounds of these -/
/-- what a bound says of its sum in a house of a reach -/
def lev (R : Int) (x : Bnd) : Int := x.r - x.e * R
/-- no tie is broken -/
def Has (b R : Int) (ss : List Sy) : Prop := ∀ z ∈ tis b ss, z.1 * R ≤ z.2
/-- a house's sums keep all bounds -/
structure Bds (b R : Int) (bs : List Int) (ss : List Sy) : Prop where
  f : ∀ x ∈ flo b ss, lev R x ≤ Su bs x.s
  t : ∀ x ∈ top b ss, Su bs x.s ≤ lev R x
theorem sy_mem' {ss : List Sy} {i : Nat} (hi : i < ss.length) : ss.getD i sy0 ∈ ss := by
  rw [List.getD_eq_getElem?_getD, List.getElem?_eq_getElem hi]
  exact List.getElem_mem _
section
variable {b R : Int} {bs : List Int} {ss : List Sy}
theorem flo_mem {x : Bnd} : x ∈ flo b ss ↔ x = f0 ∨ x = f1 b ∨ ∃ i, i < ss.length ∧ (ss.getD i sy0).w = true ∧ x = floB b (ss.getD i sy0) i := by
  simp only [flo, List.mem_cons, List.mem_filterMap, List.mem_range, floF]
  constructor
  · rintro (h | h | ⟨i, hi, h⟩)
    · exact .inl h
    · exact .inr (.inl h)
    · split at h
      · rename_i hw; cases h; exact .inr (.inr ⟨i, hi, hw, rfl⟩)
      · cases h
  · rintro (h | h | ⟨i, hi, hw, h⟩)
    · exact .inl h
    · exact .inr (.inl h)
    · exact .inr (.inr ⟨i, hi, by rw [if_pos hw, h]⟩)
theorem top_mem {x : Bnd} : x ∈ top b ss ↔ x = f1 b ∨ ∃ i, i < ss.length ∧ ((ss.getD i sy0).w = false ∧ 1 < (ss.getD i sy0).n) ∧ x = topB b (ss.getD i sy0) i := by
  simp only [top, List.mem_cons, List.mem_filterMap, List.mem_range, topF]
  constructor
  · rintro (h | ⟨i, hi, h⟩)
    · exact .inl h
    · split at h
      · rename_i hw; cases h; exact .inr ⟨i, hi, hw, rfl⟩
      · cases h
  · rintro (h | ⟨i, hi, hw, h⟩)
    · exact .inl h
    · exact .inr ⟨i, hi, by rw [if_pos hw, h]⟩
theorem hd_in (h2 : 2 ≤ b) {m : Int} (hm : 1 ≤ m) : 1 ≤ hd b m ∧ hd b m ≤ b - 1 := by
  have h1 := sigs_ne (b := b) (x := m) (by omega) h2
  have h3 := sigs_head h2 _ m (by omega) (Nat.le_refl _)
  have h4 : (sigs b m).getD 0 0 ∈ sigs b m := getD_mem (List.length_pos_iff.mpr h1)
  have h5 := sigs_mem h2 _ m (Nat.le_refl _) _ h4
  unfold hd
  omega
end
end Q
/-! MHs2 -/
namespace Q
open PySem
def difS : Int → List Int → List Int
  | _, [] => []
  | a, x :: l => (1 + x - a) :: difS x l
def Ris : Int → List Int → Prop
  | _, [] => True
  | a, x :: l => a ≤ x ∧ Ris x l
section
variable {b R : Int} {bs cs : List Int} {ss : List Sy}
/-- the house whose sums are F 1 .. F (b - 1) -/
def hF (b : Int) (F : Int → Int) : List Int := difS 0 ((List.range (b - 1).toNat).map fun (i : Nat) => F ((i : Int) + 1))
theorem flo_s (h2 : 2 ≤ b) (hs : ∀ s ∈ ss, s.Ok) {x : Bnd} (hx : x ∈ flo b ss) : x = f0 ∨ (1 ≤ x.s ∧ x.s ≤ b - 1) := by
  rcases flo_mem.mp hx with e | e | ⟨i, hi, hw, rfl⟩
  · exact .inl e
  · subst e; exact .inr ⟨by show 1 ≤ b - 1; omega, Int.le_refl _⟩
  · exact .inr (hd_in h2 (hs _ (sy_mem' hi)).n1)
theorem top_s (h2 : 2 ≤ b) {x : Bnd} (hx : x ∈ top b ss) : 1 ≤ x.s ∧ x.s ≤ b - 1 := by
  rcases top_mem.mp hx with e | ⟨i, hi, hw, rfl⟩
  · subst e; exact ⟨by show 1 ≤ b - 1; omega, Int.le_refl _⟩
  · exact hd_in h2 (by omega)
theorem has_iff : Has b R ss ↔ ∀ x ∈ flo b ss, ∀ y ∈ top b ss, x.s ≤ y.s → lev R x ≤ lev R y := by
  have key : ∀ x y : Bnd, (y.e - x.e) * R ≤ y.r - x.r ↔ lev R x ≤ lev R y := fun x y => by
    unfold lev
    rw [Int.sub_mul]
    omega
  constructor
  · intro h x hx y hy hs
    refine (key x y).mp (h (fr (x, y)) ?_)
    exact List.mem_map.mpr ⟨(x, y), List.mem_flatMap.mpr ⟨x, hx, List.mem_map.mpr ⟨y, List.mem_filter.mpr ⟨hy, decide_eq_true hs⟩, rfl⟩⟩, rfl⟩
  · intro h z hz
    obtain ⟨q, hq, rfl⟩ := List.mem_map.mp hz
    obtain ⟨x, hx, hq⟩ := List.mem_flatMap.mp hq
    obtain ⟨y, hy, rfl⟩ := List.mem_map.mp hq
    obtain ⟨hy, hs⟩ := List.mem_filter.mp hy
    exact (key x y).mpr (h x hx y hy (of_decide_eq_true hs))
theorem Bds.has (h : Hou b bs) (hs : ∀ s ∈ ss, s.Ok) (z : Bds b R bs ss) : Has b R ss := has_iff.mpr fun x hx y hy hle => by
  have h1 := z.f x hx
  have h3 := z.t y hy
  have h4 := top_s h.b2 hy
  have h5 : 0 ≤ x.s := by
    rcases flo_s h.b2 hs hx with e | e
    · subst e; exact Int.le_refl _
    · omega
  have := Su_le h h5 hle (by rw [h.len]; exact h4.2)
  omega
end
end Q
/-! MEvr -/
namespace Q
open PySem
/-! ### all houses of a reach -/
/-- one more sum -/
def nx (R : Int) (l : List Int) : List (List Int) := (List.range (R + 1 - l.getLastD 0).toNat).map fun (i : Nat) => l ++ [l.getLastD 0 + i]
def rws (R : Int) : Nat → List (List Int)
  | 0 => [[]]
  | j + 1 => (rws R j).flatMap (nx R)
def evr (b R : Int) : List (List Int) := (rws R (b - 2).toNat).map fun l => difS 0 (l ++ [R])
end Q
/-! MTwo -/
namespace Q
open PySem
/-! ### two houses and sayings about them -/
end Q
/-! MEvr2 -/
namespace Q
open PySem
end Q
/-! MLev -/
namespace Q
open PySem
/-! ### the least and the greatest house, the program's -/
end Q
/-! MNine -/
namespace Q
open PySem
/-! ### which reaches ties leave; no place up to the ninth tells reaches from nine on apart -/
end Q
/-! MBar -/
namespace Q
open PySem
/-! ### bars of a reach -/
end Q
/-! MFits -/
namespace Q
open PySem
def fits (b R : Int) (ss : List Sy) : List (List Int) := (evr b R).filter fun bs => ss.all (keepB b bs)
end Q
/-! MBarL -/
namespace Q
open PySem
/-! ### bars looked at -/
def sub (ss : List Sy) (ps : List Int) : List Sy := ps.map fun p => ss.getD p.toNat sy0
end Q
/-! MLr0 -/
namespace Q
open PySem
/-! ### lores -/
inductive Wh where
  | bl (b : Bool)
  | sy (s : Sy)
structure Ent where
  m : Int
  n : Str
  w : Wh
def whD : Wh → D
  | .bl b => .bl b
  | .sy s => syD s
def entD (e : Ent) : D := .tup [.int e.m, .str e.n, whD e.w]
def Wh.Ok : Wh → Prop
  | .bl _ => True
  | .sy s => s.Ok
structure EOk (e : Ent) : Prop where
  m0 : 0 ≤ e.m
  n : Wd e.n
  w : e.w.Ok
def kysE (es : List Ent) : List Ky := es.map fun e => .inl e.m
structure LoreAt (W : Cl) (O : Addr → Option D) (a b : Addr) (k : Int) (es : List Ent) : Prop where
  A : O a = some (.ins W.Lore ["kept_base", "kept"] [.int k, .adr b])
  B : O b = some (.dic (kysE es) (es.map entD))
theorem LoreAt.ne {W : Cl} {O : Addr → Option D} {a b : Addr} {k : Int} {es : List Ent} (h : LoreAt W O a b k es) : a ≠ b := fun z => by
  have := h.A
  rw [z, h.B] at this
  cases this
/-- but for what stands at some addresses nothing is otherwise -/
structure Fr (t t' : Ts) (S : List Addr) : Prop where
  b : t'.bare = t.bare
  o : ∀ c, c ∉ S → t'.obs c = t.obs c
theorem Fr.trans {t t1 t2 : Ts} {S : List Addr} (f : Fr t t1 S) (g : Fr t1 t2 S) : Fr t t2 S := ⟨g.b.trans f.b, fun c h => (g.o c h).trans (f.o c h)⟩
theorem Fr.put {t t' : Ts} {a : Addr} {d : D} {S : List Addr} (f : Fr t t' S) (h : a ∈ S) : Fr t (t'.put a d) S :=
  ⟨f.b, fun c hc => by rw [Ts.put_ne _ _ (fun z => hc (by rw [z]; exact h))]; exact f.o c hc⟩
theorem LoreAt.fr {W : Cl} {t t' : Ts} {a b : Addr} {k : Int} {es : List Ent} {S : List Addr} (h : LoreAt W t.obs a b k es) (f : Fr t t' S) (ha : a ∉ S) (hb : b ∉ S) : LoreAt W t'.obs a b k es := ⟨by rw [f.o a ha]; exact h.A, by rw [f.o b hb]; exact h.B⟩
/-! ### by moments -/
/-! ### what is told -/
def PutS (W : Cl) (a : Addr) (e : Ent) (t : Ts) (P : D → Ts → Prop) : Prop := ∃ b k es, LoreAt W t.obs a b k es ∧ EOk e ∧ es.length < 1000 ∧ (∀ f ∈ es, f.m ≠ e.m) ∧ ∀ t', Fr t t' [b] → LoreAt W t'.obs a b k (es ++ [e]) → P .non t'
theorem PutS.at {W : Cl} {a : Addr} {e : Ent} {t : Ts} {P : D → Ts → Prop} (h : PutS W a e t P) : ∃ b k, t.obs a = some (.ins W.Lore ["kept_base", "kept"] [.int k, .adr b]) := by
  obtain ⟨b, k, es, L, _⟩ := h
  exact ⟨b, k, L.A⟩
/-! ### entries in their order -/
end Q
/-! MEntA -/
namespace Q
open PySem
/-! ### entries alike -/
instance decSy : DecidableEq Sy := fun ⟨w, p, n⟩ ⟨w', p', n'⟩ => decidable_of_iff (w = w' ∧ p = p' ∧ n = n') (by simp)
instance decWh : DecidableEq Wh := fun a b => match a, b with
  | .bl x, .bl y => decidable_of_iff (x = y) (by simp)
  | .sy x, .sy y => decidable_of_iff (x = y) (by simp)
  | .bl _, .sy _ => .isFalse (by simp)
  | .sy _, .bl _ => .isFalse (by simp)
instance decEnt : DecidableEq Ent := fun ⟨m, n, w⟩ ⟨m', n', w'⟩ => decidable_of_iff (m = m' ∧ n = n' ∧ w = w') (by simp)
theorem deq_sy (s r : Sy) : deq (syD s) (syD r) = decide (s = r) := by
  obtain ⟨w, p, n⟩ := s
  obtain ⟨w', p', n'⟩ := r
  rw [Bool.eq_iff_iff]
  have ne : ¬ Str.ofString "at least" = Str.ofString "at most" := by decide +kernel
  have ne2 : ¬ Str.ofString "at most" = Str.ofString "at least" := by decide +kernel
  cases w <;> cases w' <;> simp [syD, deq, deqs, ne, ne2]
theorem deq_wh (w v : Wh) : deq (whD w) (whD v) = decide (w = v) := by
  rw [Bool.eq_iff_iff]
  cases w with
  | bl a =>
    cases v with
    | bl b => simp [whD, deq]
    | sy s =>
      obtain ⟨w, p, n⟩ := s
      cases w <;> simp [whD, syD, deq]
  | sy s =>
    cases v with
    | bl b =>
      obtain ⟨w, p, n⟩ := s
      cases w <;> simp [whD, syD, deq]
    | sy r =>
      show (deq (syD s) (syD r) = true) ↔ _
      rw [deq_sy]
      simp
end Q
/-! QD13 -/
/-! Q, the data level: what may raise, any expression. -/
namespace Q
open PySem
end Q
/-! QD14 -/
/-! Q, the data level: lists that hold instances, compared where all is equal. -/
namespace Q
open PySem
/-- no pen, no objects -/
def T0 : Ts := ⟨[], 0, 0, false, noObs⟩
def okB (C : Addr) (sp : PSp) : D → Prop
  | .int _ => True
  | .bl _ => True
  | .non => True
  | .str _ => True
  | .ins C' ns l => C' = C ∧ nopen (.ins C' ns l) = true ∧ sp [.ins C' ns l, .ins C' ns l] T0 fun z _ => z = .bl true
  | _ => False
/-- what lists that are compared may hold, so deep -/
def okC (C : Addr) (sp : PSp) : Nat → D → Prop
  | 0, d => okB C sp d
  | n + 1, d => match d with
    | .lst l => ∀ e ∈ l, okC C sp n e
    | .tup l => ∀ e ∈ l, okC C sp n e
    | d => okB C sp d
end Q
/-! QD15 -/
/-! Q, the data level: sorted(set(l)), l a list of texts. -/
namespace Q
open PySem
end Q
/-! QD16 -/
namespace Q
open PySem
/-- x in l, l a list of data -/
def oInDL : DOp := fun x y P => match y with
  | .lst l => (plain x = true ∧ plain (.lst l) = true ∧ deep x ≤ 60 ∧ deep (.lst l) ≤ 60) ∧ P (.bl (l.any fun z => deq z x))
  | _ => False
end Q
/-! QD17 -/
namespace Q
open PySem
end Q
/-! QD18 -/
namespace Q
open PySem
end Q
/-! QD19 -/
namespace Q
open PySem
/-! ### rows of data of which the texts are told apart -/
end Q
/-! QD20 -/
namespace Q
open PySem
/-! ### texts: split, f-strings, int(text) -/
/-- x.split(z) -/
def dSplit (o e : DE) : DE := fun env t P => o env t fun x t1 => match x with
  | .str a => e env t1 fun y t2 => (match y with
    | .str b => (b.length == 0) = false ∧ a.length + 2 ≤ zLen ∧ P (.lst ((Txt.split a b).map .str)) t2
    | _ => False)
  | _ => False
/-- what the parts of an f-string come to, behind a text -/
abbrev DJ := Str → En → Ts → (Str → Ts → Prop) → Prop
def dJNil : DJ := fun acc _ t P => P acc t
def dJE (e : DE) (r : DJ) : DJ := fun acc env t P => e env t fun x t1 => match x with
  | .str s => (acc ++ s).length ≤ zLen ∧ r (acc ++ s) env t1 P
  | _ => False
def dJV (e : DE) (r : DJ) : DJ := fun acc env t P => e env t fun x t1 => match x with
  | .str s => s.length ≤ zLen ∧ (acc ++ s).length ≤ zLen ∧ r (acc ++ s) env t1 P
  | .int i => i.natAbs.log2 < 1920 ∧ (acc ++ Str.ofString (toString i)).length ≤ zLen ∧ r (acc ++ Str.ofString (toString i)) env t1 P
  | _ => False
def dFs (j : DJ) : DE := fun env t P => j Str.empty env t fun s t1 => P (.str s) t1
/-- int(text) -/
def bIntT : DB := fun xs P => match xs with
  | [.str a] => ∃ n, intText? a = some n ∧ a.length ≤ 640 ∧ P (.int n)
  | _ => False
end Q
/-! QD21 -/
namespace Q
open PySem
end Q
/-! QD22 -/
namespace Q
open PySem
end Q
/-! QD23 -/
namespace Q
open PySem
/-! ### what may raise an exception with a field, any expression -/
end Q
/-! QD24 -/
namespace Q
open PySem
end Q
/-! QD25 -/
namespace Q
open PySem
/-! ### refusals of any of the package's classes -/
inductive Xn where
  | BadHouse | BadMoment | BadSaying | BadTeller | NoAsk | Unread | NoEntry | NoName | SameMoment | BadMark | Beyond | NoBar | NoHouse | OtherK
def Xn.n : Xn → Nat
  | .BadHouse => 0 | .BadMoment => 1 | .BadSaying => 2 | .BadTeller => 3 | .NoAsk => 4 | .Unread => 5 | .NoEntry => 6 | .NoName => 7 | .SameMoment => 8 | .BadMark => 9 | .Beyond => 10 | .NoBar => 11 | .NoHouse => 12 | .OtherK => 13
def Xn.is (a b : Xn) : Bool := Nat.beq a.n b.n
theorem Xn.is_eq {a b : Xn} (h : Xn.is a b = true) : a = b := by
  cases a <;> cases b <;> first | rfl | exact absurd h (by decide)
/-- which refusal: its class, what its field holds (None where it has none) -/
abbrev PX := Xn → D → Ts → Prop
abbrev PSpE := List D → Ts → (D → Ts → Prop) → PX → Prop
abbrev DXE := En → Ts → (D → Ts → Prop) → PX → Prop
def zCall (sp : PSpE) (as : DA) : DXE := fun env t P Px => as env t fun xs t1 => sp xs t1 P Px
/-- raise X(e), raise X() -/
def dRaiseE (c : Xn) (Px : PX) (as : DA) : DS := dRaiseF (Px c) as
def spNoE (sp : PSpE) : PSp := fun ds t P => sp ds t P fun _ _ _ => False
/-! try: one raising expression; its clauses -/
abbrev DK := DEnds → En → D → Ts → Prop
def kRet : DK := fun DD env d t => DD.rt d env t
abbrev DHs := Xn → D → DS
def hNone (Px : PX) : DHs := fun c d _ _ t => Px c d t
def hOn (c0 : Xn) (h : D → DS) (r : DHs) : DHs := fun c d => match Xn.is c c0 with
  | true => h d
  | false => r c d
/-- no name -/
def hDo (s : DS) : D → DS := fun _ => s
def dTryE (dx : DXE) (ko : DK) (hs : DHs) : DS := fun DD env t => dx env t (fun d t2 => ko DD env d t2) fun c d t2 => hs c d DD env t2
end Q
/-! QD26 -/
namespace Q
open PySem
/-- which word stands beside the field -/
abbrev HvD := Xn → Option (Option Str)
def vNone : HvD := fun _ => none
def vOn (c0 : Xn) (o : Option Str) (r : HvD) : HvD := fun c => match Xn.is c c0 with
  | true => some o
  | false => r c
/-- x(lambda: e): a pair with what e tells -/
def dRefB (w : Str) (dx : DXE) (ms : HvD) : DE := fun env t P => dx env t (fun d t2 => P (.tup [.str w, d]) t2) fun c d t2 => match ms c with
  | some (some m) => P (.tup [.str m, d]) t2
  | _ => False
end Q
/-! QD27 -/
namespace Q
open PySem
/-- one sign that is in no text -/
def oNotInS : DOp := fun x y P => match x, y with
  | .str x, .str z => ∃ c, x = sg c ∧ P (.bl (!decide (c ∈ z.cps.toList)))
  | _, _ => False
end Q
/-! MLoreE -/
namespace Q
open PySem
/-! ### anything told to a lore -/
def momB : D → Bool
  | .int i => decide (0 ≤ i)
  | _ => false
def telB : D → Bool
  | .str w => wdB w
  | _ => false
def isBd : D → Bool
  | .str w => decide (w = "at most") || decide (w = "at least")
  | _ => false
def sayL : List D → Bool
  | [a, b, c] => isBd a && (isCount b && isCount c)
  | _ => false
def sayB : D → Bool
  | .tup l => sayL l
  | _ => false
def whB : D → Bool
  | .bl _ => true
  | d => sayB d
theorem bd_am : isBd (.str "at most") = true := by decide +kernel
theorem bd_al : isBd (.str "at least") = true := by decide +kernel
theorem sayB_sy {s : Sy} (h : s.Ok) : sayB (syD s) = true := by
  obtain ⟨w, p, n⟩ := s
  obtain ⟨h1, h2⟩ := h
  have h1 : 1 ≤ p := h1
  have h2 : 1 ≤ n := h2
  have e1 : isCount (.int p) = true := decide_eq_true (by omega)
  have e2 : isCount (.int n) = true := decide_eq_true (by omega)
  cases w with
  | true =>
    show (isBd (.str "at most") && (isCount (.int p) && isCount (.int n))) = true
    rw [e1, e2, bd_am]
    rfl
  | false =>
    show (isBd (.str "at least") && (isCount (.int p) && isCount (.int n))) = true
    rw [e1, e2, bd_al]
    rfl
theorem whB_wh {w : Wh} (h : w.Ok) : whB (whD w) = true := by
  cases w with
  | bl b => rfl
  | sy s =>
    have := sayB_sy (s := s) h
    obtain ⟨w, p, n⟩ := s
    cases w <;> exact this
def itemsOk : D → Prop
  | .tup l => ∀ x ∈ l, tnOk x
  | _ => True
def sp_is_saying_a : PSp := fun ds t P => ∃ d, ds = [d] ∧ tnOk d ∧ itemsOk d ∧ P (.bl (sayB d)) t
structure AnyE (dM dT dW : D) : Prop where
  m : tnOk dM
  t : tnOk dT
  l : ∀ w, dT = .str w → w.length ≤ zLen
  w : tnOk dW
  i : itemsOk dW
def PutE (W : Cl) (a : Addr) (dM dT dW : D) (t : Ts) (P : D → Ts → Prop) (Px : PX) : Prop := ∃ b k es, LoreAt W t.obs a b k es ∧ es.length < 1000 ∧ AnyE dM dT dW ∧ (momB dM = false → Px .BadMoment dM t) ∧ (momB dM = true → telB dT = false → Px .BadTeller dT t) ∧
  (momB dM = true → telB dT = true → whB dW = false → Px .BadSaying (.int 0) t) ∧ ∀ m n w, dM = .int m → dT = .str n → dW = whD w → EOk ⟨m, n, w⟩ → ((∃ f ∈ es, f.m = m) → Px .SameMoment (.int m) t) ∧ ((∀ f ∈ es, f.m ≠ m) → ∀ t', Fr t t' [b] → LoreAt W t'.obs a b k (es ++ [⟨m, n, w⟩]) → P .non t')
/-- an entry told as it is due -/
theorem PutE.of {W : Cl} {a : Addr} {e : Ent} {t : Ts} {P : D → Ts → Prop} {Px : PX} (h : PutS W a e t P) : PutE W a (.int e.m) (.str e.n) (whD e.w) t P Px := by
  obtain ⟨b, k, es, L, eo, hl, hne, hk⟩ := h
  have lw : e.n.length ≤ 12 := by have := eo.n.l2; omega
  have m0 := eo.m0
  have hm : momB (.int e.m) = true := decide_eq_true m0
  have ht : telB (.str e.n) = true := by
    show wdB e.n = true
    unfold wdB
    have h1 := eo.n.l1
    have h2 := eo.n.l2
    simp only [Bool.and_eq_true, decide_eq_true_eq, List.all_eq_true]
    exact ⟨h1, h2, eo.n.s⟩
  have hw := whB_wh eo.w
  refine ⟨b, k, es, L, hl, ⟨⟨_, rfl⟩, ⟨_, rfl⟩, (fun w ew => by cases ew; unfold zLen; omega), ?_, ?_⟩, (fun z => by rw [hm] at z; cases z), (fun _ z => by rw [ht] at z; cases z), (fun _ _ z => by rw [hw] at z; cases z), fun m n w e1 e2 e3 eo' => ?_⟩
  · obtain ⟨m, n, w⟩ := e
    cases w with
    | bl b => exact ⟨_, rfl⟩
    | sy s => obtain ⟨w, p, q⟩ := s; cases w <;> exact ⟨_, rfl⟩
  · obtain ⟨m, n, w⟩ := e
    have it : ∀ x y z : D, tnOk x → tnOk y → tnOk z → ∀ d ∈ [x, y, z], tnOk d := fun x y z h1 h2 h3 d hd => by
      simp only [List.mem_cons, List.not_mem_nil, or_false] at hd
      rcases hd with rfl | rfl | rfl <;> assumption
    cases w with
    | bl b => trivial
    | sy s => obtain ⟨w, p, q⟩ := s; cases w <;> exact it _ _ _ ⟨_, rfl⟩ ⟨_, rfl⟩ ⟨_, rfl⟩
  · cases e1
    cases e2
    have ew : w = e.w := by
      have z := deq_wh e.w w
      rw [← e3, deq_wh, decide_eq_true rfl] at z
      exact (of_decide_eq_true z.symm).symm
    subst ew
    refine ⟨fun ⟨f, hf, hm⟩ => absurd hm (hne f hf), fun _ => hk⟩
theorem len_is_saying_a (as : List D) (t : Ts) (P : D → Ts → Prop) (h : sp_is_saying_a as t P) : as.length = 1 := by first | (obtain ⟨_, rfl, _⟩ := h; rfl) | (obtain ⟨_, _, rfl, _⟩ := h; rfl) | (obtain ⟨_, _, _, rfl, _⟩ := h; rfl) | (obtain ⟨_, _, _, _, rfl, _⟩ := h; rfl) | (obtain ⟨_, _, _, _, _, rfl, _⟩ := h; rfl) | (obtain ⟨_, _, _, _, _, _, rfl, _⟩ := h; rfl) | (obtain ⟨_, _, _, _, _, _, _, rfl, _⟩ := h; rfl) | (obtain ⟨_, _, _, _, _, _, _, _, rfl, _⟩ := h; rfl) | (obtain ⟨_, rfl | rfl, _⟩ := h <;> rfl) | (obtain ⟨_, _, rfl | rfl, _⟩ := h <;> rfl) | (obtain ⟨_, _, _, rfl | rfl, _⟩ := h <;> rfl) | (obtain ⟨_, _, _, _, rfl | rfl, _⟩ := h <;> rfl) | (obtain ⟨_, _, _, _, _, rfl | rfl, _⟩ := h <;> rfl) | (obtain ⟨_, _, _, _, _, _, rfl | rfl, _⟩ := h <;> rfl) | (obtain ⟨_, _, _, _, _, _, _, rfl | rfl, _⟩ := h <;> rfl) | (obtain ⟨_, _, _, _, _, _, _, _, rfl | rfl, _⟩ := h <;> rfl)
def d_is_saying_a : DS := (dSeq (dIf (dOr (dNot (dB (dIsi [.tup] (dVar 0)))) (dOr (dB (dOp oNe (dCB bLen (dCons (dVar 0) dNil)) (dC (.int 3)))) (dNot (dB (dIsi [.str] (dOp oIx (dVar 0) (dC (.int 0)))))))) (dSeq (dRet (dC (.bl false))) dNext) dNext) (dSeq (dRet (dAndV (dOp oInT (dOp oIx (dVar 0) (dC (.int 0))) (dTup (dCons (dC (.str "at most")) (dCons (dC (.str "at least")) dNil)))) (dAndV (dCall sp_is_count [] (dCons (dOp oIx (dVar 0) (dC (.int 1))) dNil)) (dCall sp_is_count [] (dCons (dOp oIx (dVar 0) (dC (.int 2))) dNil))))) dNext))
theorem bd_any (w : Str) : ([("at most" : Str), "at least"].any fun z => z == w) = isBd (.str w) := by
  show (("at most" == w) || (("at least" == w) || false)) = (decide (w = "at most") || decide (w = "at least"))
  rw [Bool.or_false, Bool.eq_iff_iff]
  simp only [Bool.or_eq_true, beq_iff_eq, decide_eq_true_eq]
  exact ⟨fun h => h.imp Eq.symm Eq.symm, fun h => h.imp Eq.symm Eq.symm⟩
theorem d_is_saying_a_ok (as : List D) (t : Ts) (P : D → Ts → Prop) (h : sp_is_saying_a as t P) : d_is_saying_a (endsOf P) (start0 ["thing"] as) t := by
  obtain ⟨d, rfl, ⟨n, hn⟩, hi, k⟩ := h
  cases d with
  | tup l =>
    match l, hi, k with
    | [a, b, c], hi, k =>
      have hb : tnOk b := hi b (by simp)
      have hc : tnOk c := hi c (by simp)
      obtain ⟨na, ha⟩ : tnOk a := hi a (by simp)
      have k : P (.bl (isBd a && (isCount b && isCount c))) t := k
      conv => whnf
      refine ⟨a, rfl, ?_⟩
      cases a with
      | str w =>
        conv => whnf
        refine ⟨_, rfl, ?_⟩
        conv => whnf
        refine ⟨[("at most" : Str), "at least"], rfl, ?_⟩
        rw [bd_any]
        cases hw : isBd (.str w) with
        | false =>
          rw [hw] at k
          conv => whnf
          exact k
        | true =>
          rw [hw] at k
          conv => whnf
          refine ⟨b, rfl, ?_⟩
          refine ⟨b, rfl, hb, ?_⟩
          cases hB : isCount b with
          | false =>
            rw [hB] at k
            conv => whnf
            exact k
          | true =>
            rw [hB] at k
            conv => whnf
            refine ⟨c, rfl, ?_⟩
            exact ⟨c, rfl, hc, k⟩
      | _ => first | (cases ha; done) | exact k
    | [], hi, k =>
      conv => whnf
      exact k
    | [_], hi, k =>
      conv => whnf
      exact k
    | [_, _], hi, k =>
      conv => whnf
      exact k
    | _ :: _ :: _ :: _ :: r, hi, k =>
      conv => whnf
      exact k
  | _ => first | (cases hn; done) | exact k
end Q
/-! MTxt -/
namespace Q
open PySem
/-! ### texts of numbers, split and joined -/
abbrev tl (x : Str) : List Nat := x.cps.toList
theorem tl_ext {x y : Str} (h : tl x = tl y) : x = y := Str.ext' (Array.toList_inj.mp h)
theorem tl_app (x y : Str) : tl (x ++ y) = tl x ++ tl y := by
  show (x ++ y).cps.toList = _
  rw [Str.cps_append, Array.toList_append]
/-- the text of a number from 0 on -/
abbrev nt (i : Int) : Str := Str.ofString (toString i)
theorem tl_nt {i : Int} (h : 0 ≤ i) : tl (nt i) = TL.numL i.toNat := by
  obtain ⟨n, rfl⟩ := Int.eq_ofNat_of_zero_le h
  exact TL.tl_num n
/-- a sign that is a figure -/
def fgB (c : Nat) : Bool := decide (48 ≤ c) && decide (c ≤ 57)
def figB (l : List Nat) : Bool := decide (0 < l.length) && (decide (l.length ≤ 200) && (l.all fgB && (l == [48] || !(l.head? == some 48))))
def figV (l : List Nat) : Int := ((NumText.digitsVal l : Nat) : Int)
def figO (l : List Nat) : Option Int := if figB l = true then some (figV l) else none
theorem figs_is : (("0123456789" : Str)).cps.toList = (List.range 10).map (48 + ·) := by decide +kernel
theorem figs_mem (c : Nat) : decide (c ∈ (("0123456789" : Str)).cps.toList) = fgB c := by
  rw [figs_is]
  unfold fgB
  rw [← Bool.decide_and, decide_eq_decide]
  simp only [List.mem_map, List.mem_range]
  constructor
  · rintro ⟨a, ha, rfl⟩
    omega
  · rintro ⟨h1, h2⟩
    exact ⟨c - 48, by omega, by omega⟩
theorem numL_len {n k : Nat} (hk : 0 < k) (h : n < 10 ^ k) : (TL.numL n).length ≤ k := TL.numL_len hk h
theorem int_fig {w : Str} (h : figB (tl w) = true) : intText? w = some (figV (tl w)) := by
  unfold figB at h
  simp only [Bool.and_eq_true, decide_eq_true_eq] at h
  obtain ⟨h1, h2, h3, _⟩ := h
  refine intText_digits (x := w) (fun c hc => ?_) (List.length_pos_iff.mp h1) (by rw [TL.len_tl]; show (tl w).length ≤ 4300; omega)
  have := List.all_eq_true.mp h3 c hc
  unfold fgB at this
  simpa using this
theorem nt_len {i : Int} {k : Nat} (h0 : 0 ≤ i) (hk : 0 < k) (h : i < 10 ^ k) : (nt i).length ≤ k := by
  rw [TL.len_tl]
  show (tl (nt i)).length ≤ k
  rw [tl_nt h0]
  refine numL_len hk ?_
  have e : ((10 : Int) ^ k) = ((10 ^ k : Nat) : Int) := by simp
  omega
theorem tl_blank : tl ((" " : Str)) = [32] := by decide +kernel
theorem len_app (x y : Str) : (x ++ y).length = x.length + y.length := by
  rw [← len_toList, ← len_toList, ← len_toList, show (x ++ y).cps.toList = tl x ++ tl y from tl_app x y, List.length_append]
theorem plain_of {w : Str} (h : ∀ c ∈ tl w, c < 0x110000) : plain (.str w) = true := by
  show w.cps.all _ = true
  rw [← Array.all_toList]
  exact List.all_eq_true.mpr fun c hc => decide_eq_true (h c hc)
theorem fg_lt {c : Nat} (h : fgB c = true) : 48 ≤ c ∧ c ≤ 57 := by
  unfold fgB at h
  simpa using h
theorem tl_zero : tl (("0" : Str)) = [48] := by decide +kernel
theorem deq_zero (w : Str) : deq (.str w) (.str ("0" : Str)) = decide (tl w = [48]) := by
  show decide (w = _) = _
  rw [decide_eq_decide]
  constructor
  · rintro rfl
    exact tl_zero
  · intro h
    exact tl_ext (h.trans tl_zero.symm)
theorem at0_d {x : D} {R : List D} : atI (x :: R) 0 = some x := by
  unfold atI
  rw [if_pos (by decide), if_pos (by rw [List.length_cons]; omega)]
  rfl
theorem log_ok {i : Int} (h0 : 0 ≤ i) (h : i < 10 ^ 200) : i.natAbs.log2 < 1920 := by
  by_cases z : i.natAbs = 0
  · rw [z]; decide
  · refine (Nat.log2_lt z).mpr ?_
    have e : ((10 : Int) ^ 200) = ((10 ^ 200 : Nat) : Int) := by decide +kernel
    have : (10 : Nat) ^ 200 < 2 ^ 1920 := by decide +kernel
    omega
/-- figures_of, of any text -/
def sp_figures_of : PSp := fun ds t P => ∃ w : Str, ds = [.str w] ∧ w.length ≤ zLen ∧ P (pO (figO (tl w))) t
theorem len_figures_of (as : List D) (t : Ts) (P : D → Ts → Prop) (h : sp_figures_of as t P) : as.length = 1 := by first | (obtain ⟨_, rfl, _⟩ := h; rfl) | (obtain ⟨_, _, rfl, _⟩ := h; rfl) | (obtain ⟨_, _, _, rfl, _⟩ := h; rfl) | (obtain ⟨_, _, _, _, rfl, _⟩ := h; rfl) | (obtain ⟨_, _, _, _, _, rfl, _⟩ := h; rfl) | (obtain ⟨_, _, _, _, _, _, rfl, _⟩ := h; rfl) | (obtain ⟨_, _, _, _, _, _, _, rfl, _⟩ := h; rfl) | (obtain ⟨_, _, _, _, _, _, _, _, rfl, _⟩ := h; rfl) | (obtain ⟨_, rfl | rfl, _⟩ := h <;> rfl) | (obtain ⟨_, _, rfl | rfl, _⟩ := h <;> rfl) | (obtain ⟨_, _, _, rfl | rfl, _⟩ := h <;> rfl) | (obtain ⟨_, _, _, _, rfl | rfl, _⟩ := h <;> rfl) | (obtain ⟨_, _, _, _, _, rfl | rfl, _⟩ := h <;> rfl) | (obtain ⟨_, _, _, _, _, _, rfl | rfl, _⟩ := h <;> rfl) | (obtain ⟨_, _, _, _, _, _, _, rfl | rfl, _⟩ := h <;> rfl) | (obtain ⟨_, _, _, _, _, _, _, _, rfl | rfl, _⟩ := h <;> rfl)
def d_figures_of : DS := (dSeq (dIf (dOr (dNot (dB (dChain oLt oLe (dC (.int 0)) (dCB bLen (dCons (dVar 0) dNil)) (dC (.int 200))))) (dNot (dB (dCB bAll (dCons (dLc [1] (iStrD (dVar 0)) (gName 1) dYes (dOp oInS (dVar 1) (dC (.str "0123456789")))) dNil))))) (dSeq (dRet (dC .non)) dNext) dNext) (dSeq (dRet (dIfE (dOr (dB (dOp oEq (dVar 0) (dC (.str "0")))) (dB (dOp oNe (dOp oIxS (dVar 0) (dC (.int 0))) (dC (.str "0"))))) (dCB bIntT (dCons (dVar 0) dNil)) (dC .non))) dNext))
theorem d_figures_of_ok (as : List D) (t : Ts) (P : D → Ts → Prop) (h : sp_figures_of as t P) : d_figures_of (endsOf P) (start0 ["word", "sign"] as) t := by
  obtain ⟨w, rfl, hz, k⟩ := h
  have el : (tl w).length = w.length := len_toList w
  have done : figB (tl w) = false → P .non t := fun hb => by
    unfold figO at k
    rw [hb] at k
    exact k
  conv => whnf
  refine ⟨hz, ?_⟩
  conv => whnf
  by_cases h1 : (0 : Int) < w.length
  rotate_left
  · rw [decide_eq_false h1]
    conv => whnf
    exact done (by
      unfold figB
      rw [decide_eq_false (by omega)]
      rfl)
  rw [decide_eq_true h1]
  conv => whnf
  by_cases h2 : (w.length : Int) ≤ 200
  rotate_left
  · rw [decide_eq_false h2]
    conv => whnf
    exact done (by
      unfold figB
      rw [decide_eq_false (show ¬ (tl w).length ≤ 200 by omega), Bool.false_and, Bool.and_false])
  rw [decide_eq_true h2]
  conv => whnf
  refine lc_idx (fun i => .bl (fgB ((tl w).getD i 0))) (by rw [List.length_map, len_toList]; unfold zLen; omega) (fun i x hx Qy q => ?_) ?_
  · rw [List.getElem?_map] at hx
    cases hc : w.cps.toList[i]? with
    | none => rw [hc] at hx; cases hx
    | some c =>
      rw [hc] at hx
      cases hx
      refine ⟨rfl, ?_⟩
      conv => whnf
      refine ⟨c, rfl, ?_⟩
      rw [figs_mem]
      have e : (tl w).getD i 0 = c := by rw [List.getD_eq_getElem?_getD, show (tl w)[i]? = some c from hc]; rfl
      rw [e] at q
      exact q
  refine ⟨_, bls_gen _ _, ?_⟩
  have ea : ((List.range ((w.cps.toList.map fun c => D.str (sg c)).length)).map fun i => fgB ((tl w).getD i 0)).all id = (tl w).all fgB := by
    rw [List.length_map]
    have e2 : (List.range w.cps.toList.length).map (fun i => fgB ((tl w).getD i 0)) = (tl w).map fgB := by
      refine List.ext_getElem (by simp) fun i h1 h2 => ?_
      rw [List.length_map] at h2
      rw [List.getElem_map, List.getElem_map, List.getElem_range, List.getD_eq_getElem?_getD, List.getElem?_eq_getElem h2]
      rfl
    rw [e2, List.all_map]
    rfl
  rw [ea]
  by_cases h3 : (tl w).all fgB = true
  rotate_left
  · rw [Bool.not_eq_true] at h3
    rw [h3]
    conv => whnf
    exact done (by
      unfold figB
      rw [h3, Bool.false_and, Bool.and_false, Bool.and_false])
  rw [h3]
  conv => whnf
  have hfg : ∀ c ∈ tl w, 48 ≤ c ∧ c ≤ 57 := fun c hc => fg_lt (List.all_eq_true.mp h3 c hc)
  have hpl : plain (.str w) = true := plain_of fun c hc => by have := hfg c hc; omega
  have good : (tl w = [48] ∨ ¬ (tl w).head? = some 48) → intText? w = some (figV (tl w)) ∧ w.length ≤ 640 ∧ P (.int (figV (tl w))) t := fun hd => by
    have hb : figB (tl w) = true := by
      unfold figB
      rw [decide_eq_true (show 0 < (tl w).length by omega), decide_eq_true (show (tl w).length ≤ 200 by omega), h3]
      simp only [Bool.true_and, Bool.or_eq_true, beq_iff_eq, Bool.not_eq_true', beq_eq_false_iff_ne]
      exact hd
    refine ⟨int_fig hb, by omega, ?_⟩
    unfold figO at k
    rw [if_pos hb] at k
    exact k
  refine ⟨⟨hpl, by decide +kernel, by show 0 ≤ 60; decide, by decide⟩, ?_⟩
  rw [deq_zero]
  by_cases h4 : tl w = [48]
  · rw [decide_eq_true h4]
    conv => whnf
    exact ⟨_, good (.inl h4)⟩
  · rw [decide_eq_false h4]
    conv => whnf
    obtain ⟨c, r, hcr⟩ : ∃ c r, tl w = c :: r := by
      cases hq : tl w with
      | nil => rw [hq] at el; simp at el; omega
      | cons c r => exact ⟨c, r, rfl⟩
    have hc0 := hfg c (by rw [hcr]; exact List.mem_cons_self ..)
    have ha : atC w.cps.toList 0 = some c := by
      show atC (tl w) 0 = _
      unfold atC
      rw [if_pos (by decide), if_pos (by omega), hcr]
      rfl
    refine ⟨hz, c, ha, ?_⟩
    refine ⟨⟨plain_of (w := sg c) fun d hd => ?_, by decide +kernel, by show 0 ≤ 60; decide, by decide⟩, ?_⟩
    · have : d = c := by simpa [tl, sg] using hd
      omega
    · have e : deq (.str (sg c)) (.str ("0" : Str)) = decide (c = 48) := by
        rw [deq_zero, decide_eq_decide]
        show [c] = [48] ↔ _
        simp
      rw [e]
      by_cases h5 : c = 48
      · rw [decide_eq_true h5]
        conv => whnf
        refine done ?_
        unfold figB
        rw [hcr, h5] at h4 ⊢
        simp
        intro _ _ _ h
        exact h4 (by rw [h])
      · rw [decide_eq_false h5]
        conv => whnf
        exact ⟨_, good (.inr (by rw [hcr]; simpa using h5))⟩
end Q
/-! MAskM -/
namespace Q
open PySem
/-! ### where places lead: the mathematics -/
def ls (b : Int) (bs : List Int) (s : Nat) (y : Int) : Int := Lp b bs (b ^ s * sd b bs y - 1) + (y - Lp b bs (sd b bs y - 1))
end Q
/-! MAsk -/
namespace Q
open PySem
/-! ### asking.py -/
end Q
/-! MTx2 -/
namespace Q
open PySem
theorem log_bnd {i : Int} (h0 : 0 ≤ i) (h : i < 10 ^ 120) : i.natAbs.log2 < 1920 := log_ok h0 (Int.lt_of_lt_of_le h (by decide))
theorem getmap {α : Type} {f : α → D} {l : List α} {i : Nat} {x : D} (h : (l.map f)[i]? = some x) : ∃ w, l[i]? = some w ∧ x = f w := by
  rw [List.getElem?_map] at h
  cases q : l[i]? with
  | none => rw [q] at h; cases h
  | some j => rw [q] at h; cases h; exact ⟨j, rfl, rfl⟩
theorem no_non : ∀ l : List Int, ((l.map D.int).any fun z => deq z .non) = false
  | [] => rfl
  | x :: l => by
    rw [List.map_cons, List.any_cons, no_non l]
    rfl
theorem cutD_two {α : Type} {f : α → D} {l : List α} {a c : Nat} : cutD (l.map f) (some (a : Int)) (some (c : Int)) = ((l.map f).drop (min a l.length)).take (min c l.length - min a l.length) := by
  unfold cutD
  have e1 : ∀ (d z : Nat), sIx (l.map f).length d (some (z : Int)) = min z l.length := fun d z => by
    unfold sIx
    simp only [List.length_map]
    split <;> omega
  rw [e1, e1]
end Q
/-! QD28 -/
namespace Q
open PySem
end Q
/-! QD29 -/
namespace Q
open PySem
end Q
/-! MTxL -/
namespace Q
open PySem
/-! ### what words write: a saying, an entry -/
def mkSy (w : Bool) (p n : Int) : Option Sy := if 1 ≤ p ∧ 1 ≤ n then some ⟨w, p, n⟩ else none
def say2 (p b n : Str) : Option Sy := match figO (tl p), figO (tl n) with
  | some p, some n => if b = "most" then mkSy true p n else if b = "least" then mkSy false p n else none
  | _, _ => none
def sayO : List Str → Option Sy
  | [p, a, b, n] => if a = "at" then say2 p b n else none
  | _ => none
def saO : Option Sy → D
  | none => .non
  | some s => syD s
theorem fig_0 {l : List Nat} {i : Int} (h : figO l = some i) : 0 ≤ i := by
  unfold figO at h
  split at h
  · cases h
    unfold figV
    omega
  · cases h
/-- words of texts -/
def TxW (ws : List Str) : Prop := ∀ w ∈ ws, w.length ≤ 15000000 ∧ plain (.str w) = true
theorem deq_st (x y : Str) : deq (.str x) (.str y) = decide (x = y) := rfl
theorem at_app (b : Str) : (Str.empty ++ ("at " : Str) ++ b = "at most") = (b = "most") ∧ (Str.empty ++ ("at " : Str) ++ b = "at least") = (b = "least") := by
  have e1 : tl ((Str.empty ++ ("at " : Str) : Str)) = [97, 116, 32] := by decide +kernel
  have e2 : tl (("at most" : Str)) = [97, 116, 32] ++ tl (("most" : Str)) := by decide +kernel
  have e3 : tl (("at least" : Str)) = [97, 116, 32] ++ tl (("least" : Str)) := by decide +kernel
  refine ⟨propext ⟨fun h => ?_, fun h => ?_⟩, propext ⟨fun h => ?_, fun h => ?_⟩⟩
  · have := congrArg tl h
    rw [tl_app, e1, e2] at this
    exact tl_ext (List.append_cancel_left this)
  · subst h
    exact tl_ext (by rw [tl_app, e1, e2])
  · have := congrArg tl h
    rw [tl_app, e1, e3] at this
    exact tl_ext (List.append_cancel_left this)
  · subst h
    exact tl_ext (by rw [tl_app, e1, e3])
theorem dp0 (x : Str) : deep (.str x) ≤ 60 := Nat.zero_le 60
theorem strs_len (ws : List Str) : ((ws.map D.str).length : Int) = (ws.length : Int) := by rw [List.length_map]
def sp_saying_of_2 : PSp := fun ds t P => ∃ ws : List Str, ds = [.lst (ws.map .str)] ∧ TxW ws ∧ P (saO (sayO ws)) t
theorem len_saying_of_2 (as : List D) (t : Ts) (P : D → Ts → Prop) (h : sp_saying_of_2 as t P) : as.length = 1 := by first | (obtain ⟨_, rfl, _⟩ := h; rfl) | (obtain ⟨_, _, rfl, _⟩ := h; rfl) | (obtain ⟨_, _, _, rfl, _⟩ := h; rfl) | (obtain ⟨_, _, _, _, rfl, _⟩ := h; rfl) | (obtain ⟨_, _, _, _, _, rfl, _⟩ := h; rfl) | (obtain ⟨_, _, _, _, _, _, rfl, _⟩ := h; rfl) | (obtain ⟨_, _, _, _, _, _, _, rfl, _⟩ := h; rfl) | (obtain ⟨_, _, _, _, _, _, _, _, rfl, _⟩ := h; rfl) | (obtain ⟨_, rfl | rfl, _⟩ := h <;> rfl) | (obtain ⟨_, _, rfl | rfl, _⟩ := h <;> rfl) | (obtain ⟨_, _, _, rfl | rfl, _⟩ := h <;> rfl) | (obtain ⟨_, _, _, _, rfl | rfl, _⟩ := h <;> rfl) | (obtain ⟨_, _, _, _, _, rfl | rfl, _⟩ := h <;> rfl) | (obtain ⟨_, _, _, _, _, _, rfl | rfl, _⟩ := h <;> rfl) | (obtain ⟨_, _, _, _, _, _, _, rfl | rfl, _⟩ := h <;> rfl) | (obtain ⟨_, _, _, _, _, _, _, _, rfl | rfl, _⟩ := h <;> rfl)
def d_saying_of_2 : DS := (dSeq (dIf (dOr (dB (dOp oNe (dCB bLen (dCons (dVar 0) dNil)) (dC (.int 4)))) (dB (dOp oNe (dOp oIx (dVar 0) (dC (.int 1))) (dC (.str "at"))))) (dSeq (dRet (dC .non)) dNext) dNext) (dSeq (dPar 2 3 (dCons (dCall sp_figures_of [] (dCons (dOp oIx (dVar 0) (dC (.int 0))) dNil)) (dCons (dCall sp_figures_of [] (dCons (dOp oIx (dVar 0) (dC (.int 3))) dNil)) dNil))) (dSeq (dIf (dOr (dB (dOp oIsN (dVar 2) (dC .non))) (dB (dOp oIsN (dVar 3) (dC .non)))) (dSeq (dRet (dC .non)) dNext) dNext) (dSeq (dAsg (dTup (dCons (dFs (dJE (dC (.str "at ")) (dJV (dOp oIx (dVar 0) (dC (.int 2))) dJNil))) (dCons (dVar 2) (dCons (dVar 3) dNil)))) (gName 1)) (dSeq (dRet (dIfE (dB (dCall sp_is_saying_a [] (dCons (dVar 1) dNil))) (dVar 1) (dC .non))) dNext)))))
theorem d_saying_of_2_ok (as : List D) (t : Ts) (P : D → Ts → Prop) (h : sp_saying_of_2 as t P) : d_saying_of_2 (endsOf P) (start0 ["words", "saying", "place", "number"] as) t := by
  obtain ⟨ws, rfl, hw, k⟩ := h
  by_cases h4 : ws.length = 4
  · obtain ⟨p, a, b, n, rfl⟩ : ∃ p a b n, ws = [p, a, b, n] := by
      match ws, h4 with
      | [p, a, b, n], _ => exact ⟨p, a, b, n, rfl⟩
    obtain ⟨lp, pp⟩ := hw p (by simp)
    obtain ⟨la, pa⟩ := hw a (by simp)
    obtain ⟨lb, pb⟩ := hw b (by simp)
    obtain ⟨ln, pn⟩ := hw n (by simp)
    have z1 : plain (.str ("at" : Str)) = true := by decide +kernel
    conv => whnf
    refine ⟨_, rfl, ?_⟩
    conv => whnf
    refine ⟨⟨pa, z1, dp0 _, dp0 _⟩, ?_⟩
    rw [deq_st]
    by_cases ha : a = "at"
    · subst ha
      rw [decide_eq_true rfl]
      conv => whnf
      refine ⟨_, rfl, ?_⟩
      conv => whnf
      refine ⟨_, rfl, by unfold zLen; omega, ?_⟩
      conv => whnf
      refine ⟨_, rfl, ?_⟩
      conv => whnf
      refine ⟨_, rfl, by unfold zLen; omega, ?_⟩
      have ek : sayO [p, "at", b, n] = say2 p b n := by
        unfold sayO
        exact if_pos rfl
      rw [ek] at k
      unfold say2 at k
      cases hp : figO (tl p) with
      | none =>
        rw [hp] at k
        conv => whnf
        exact k
      | some i =>
        cases hn : figO (tl n) with
        | none =>
          rw [hp, hn] at k
          conv => whnf
          exact k
        | some j =>
          rw [hp, hn] at k
          have k : P (saO (if b = "most" then mkSy true i j else if b = "least" then mkSy false i j else none)) t := k
          conv => whnf
          have e3 : ((Str.empty ++ ("at " : Str) : Str)).length = 3 := by decide +kernel
          refine ⟨by rw [e3]; unfold zLen; omega, ?_⟩
          conv => whnf
          refine ⟨_, rfl, ?_⟩
          conv => whnf
          refine ⟨by unfold zLen; omega, ?_⟩
          conv => whnf
          refine ⟨by rw [len_app, e3]; unfold zLen; omega, ?_⟩
          conv => whnf
          refine ⟨_, rfl, ⟨_, rfl⟩, ?_, ?_⟩
          · intro x hx
            simp only [List.mem_cons, List.not_mem_nil, or_false] at hx
            rcases hx with rfl | rfl | rfl <;> exact ⟨_, rfl⟩
          have es : sayB (.tup [.str (Str.empty ++ ("at " : Str) ++ b), pO (some i), pO (some j)]) = ((decide (b = "most") || decide (b = "least")) && (decide (0 < i) && decide (0 < j))) := by
            show ((decide (Str.empty ++ ("at " : Str) ++ b = "at most") || decide (Str.empty ++ ("at " : Str) ++ b = "at least")) && (decide (0 < i) && decide (0 < j))) = _
            simp only [(at_app b).1, (at_app b).2]
          rw [es]
          by_cases hb1 : b = "most"
          · rw [if_pos hb1] at k
            rw [decide_eq_true hb1]
            unfold mkSy at k
            by_cases hi : 0 < i
            · by_cases hj : 0 < j
              · rw [if_pos ⟨by omega, by omega⟩] at k
                rw [decide_eq_true hi, decide_eq_true hj]
                conv => whnf
                have eb : Str.empty ++ ("at " : Str) ++ b = "at most" := by rw [(at_app b).1]; exact hb1
                rw [eb]
                exact k
              · rw [if_neg (fun z => hj (by omega))] at k
                rw [decide_eq_true hi, decide_eq_false hj]
                conv => whnf
                exact k
            · rw [if_neg (fun z => hi (by omega))] at k
              rw [decide_eq_false hi]
              conv => whnf
              exact k
          · rw [if_neg hb1] at k
            rw [decide_eq_false hb1]
            by_cases hb2 : b = "least"
            · rw [if_pos hb2] at k
              rw [decide_eq_true hb2]
              unfold mkSy at k
              by_cases hi : 0 < i
              · by_cases hj : 0 < j
                · rw [if_pos ⟨by omega, by omega⟩] at k
                  rw [decide_eq_true hi, decide_eq_true hj]
                  conv => whnf
                  have eb : Str.empty ++ ("at " : Str) ++ b = "at least" := by rw [(at_app b).2]; exact hb2
                  rw [eb]
                  exact k
                · rw [if_neg (fun z => hj (by omega))] at k
                  rw [decide_eq_true hi, decide_eq_false hj]
                  conv => whnf
                  exact k
              · rw [if_neg (fun z => hi (by omega))] at k
                rw [decide_eq_false hi]
                conv => whnf
                exact k
            · rw [if_neg hb2] at k
              rw [decide_eq_false hb2]
              conv => whnf
              exact k
    · rw [decide_eq_false ha]
      have ek : sayO [p, a, b, n] = none := if_neg ha
      rw [ek] at k
      conv => whnf
      exact k
  · have ek : sayO ws = none := by
      unfold sayO
      split
      · exact absurd rfl h4
      · rfl
    rw [ek] at k
    conv => whnf
    rw [strs_len]
    refine br_nn (by omega) ?_
    exact k
end Q
/-! QD30 -/
namespace Q
open PySem
/-- x.upper() -/
def dUpper (o : DE) : DE := fun env t P => o env t fun x t1 => match x with
  | .str a => a.length ≤ 5592405 ∧ P (.str (Txt.upper a)) t1
  | _ => False
end Q
/-! QD31 -/
namespace Q
open PySem
/-- p != q, tuples alike -/
def dNeT (C : Addr) (sp : PSp) (a b : DE) : DE := fun env t P => a env t fun x t1 => b env t1 fun y t2 => match x, y with
  | .tup l, .tup m => l = m ∧ (∀ d ∈ l, okC C sp 3 d ∨ d = .dic [] []) ∧ P (.bl false) t2
  | _, _ => False
end Q
/-! QD32 -/
namespace Q
open PySem
/-- a sign, times a number -/
def oMulS : DOp := fun x y P => match x, y with
  | .str a, .int j => (1 ≤ j ∧ j ≤ 1000000 ∧ a.length ≤ 1) ∧ P (.str (Txt.mul a j))
  | _, _ => False
end Q
/-! QD33 -/
namespace Q
open PySem
/-- if not ..: raise X("m") -/
def iGuardX (dt : DT) (c0 : Xn) (m : Str) (Px : PX) : IS := fun k ns l env t => dt env t fun b t1 => Br b (Px c0 (.str m) t1) (k ns l env t1)
end Q
/-! M_k89a -/
namespace Q
open PySem
/-! ### short texts of plain signs -/
structure Az (n : Nat) (w : Str) : Prop where
  l : w.length ≤ n
  c : ∀ c ∈ tl w, c < 128
def azB (n : Nat) (w : Str) : Bool := decide (w.length ≤ n) && (tl w).all fun c => decide (c < 128)
theorem az_of {n : Nat} {w : Str} (h : azB n w = true) : Az n w := by
  unfold azB at h
  rw [Bool.and_eq_true] at h
  exact ⟨of_decide_eq_true h.1, fun c hc => of_decide_eq_true (List.all_eq_true.mp h.2 c hc)⟩
theorem Az.mono {n m : Nat} {w : Str} (h : Az n w) (hn : n ≤ m) : Az m w := ⟨Nat.le_trans h.l hn, h.c⟩
theorem Az.pl {n : Nat} {w : Str} (h : Az n w) : plain (.str w) = true := plain_of fun c hc => by have := h.c c hc; omega
theorem Az.tx {n : Nat} {w : Str} (h : Az n w) (hn : n ≤ 15000000) : w.length ≤ 15000000 ∧ plain (.str w) = true := ⟨Nat.le_trans h.l hn, h.pl⟩
theorem az_app {n m k : Nat} {a b : Str} (ha : Az n a) (hb : Az m b) (h : n + m ≤ k) : Az k (a ++ b) := ⟨by rw [len_app]; have := ha.l; have := hb.l; omega, fun c hc => by
  rw [tl_app, List.mem_append] at hc
  exact hc.elim (ha.c c) (hb.c c)⟩
theorem az_cut {n : Nat} {w : Str} (h : Az n w) (lo hi : Option Int) : Az n (cutT w lo hi) := by
  refine ⟨?_, fun c hc => h.c c (List.drop_subset _ _ (List.take_subset _ _ hc))⟩
  have hl := h.l
  rw [← len_toList] at hl ⊢
  show ((w.cps.toList.drop _).take _).length ≤ n
  rw [List.length_take, List.length_drop]
  omega
theorem az_sg {n c : Nat} {w : Str} {i : Int} (h : Az n w) (e : atC w.cps.toList i = some c) : Az 1 (sg c) := by
  refine ⟨Nat.le_refl 1, fun d hd => ?_⟩
  have : d = c := by simpa [tl, sg] using hd
  subst this
  have mem : ∀ k : Nat, w.cps.toList[k]? = some d → d < 128 := fun k hk => h.c d (List.mem_of_getElem? hk)
  unfold atC at e
  split at e
  · split at e
    · exact mem _ e
    · cases e
  · split at e
    · exact mem _ e
    · cases e
theorem spl_mem (S : List Nat) : ∀ (l : List Nat) (k : Nat) (acc p : List Nat), p ∈ TL.spl S k acc l → (∀ c ∈ p, c ∈ acc ∨ c ∈ l) ∧ p.length ≤ acc.length + l.length
  | [], k, acc, p, h => by
    rw [TL.spl_nil, List.mem_singleton] at h
    subst h
    exact ⟨fun c hc => .inl hc, Nat.le_add_right _ _⟩
  | c :: r, 0, acc, p, h => by
    cases hp : TL.pre S (c :: r) with
    | true =>
      rw [TL.spl_hit hp, List.mem_cons] at h
      rcases h with rfl | h
      · exact ⟨fun c hc => .inl hc, Nat.le_add_right _ _⟩
      · obtain ⟨h1, h2⟩ := spl_mem S r _ [] p h
        refine ⟨fun d hd => .inr ?_, by simp at h2 ⊢; omega⟩
        rcases h1 d hd with z | z
        · cases z
        · exact List.mem_cons_of_mem _ z
    | false =>
      rw [TL.spl_miss hp] at h
      obtain ⟨h1, h2⟩ := spl_mem S r 0 (acc ++ [c]) p h
      refine ⟨fun d hd => ?_, by simp at h2 ⊢; omega⟩
      rcases h1 d hd with z | z
      · rcases List.mem_append.mp z with z | z
        · exact .inl z
        · rw [List.mem_singleton.mp z]
          exact .inr (List.mem_cons_self ..)
      · exact .inr (List.mem_cons_of_mem _ z)
  | c :: r, k + 1, acc, p, h => by
    obtain ⟨h1, h2⟩ := spl_mem S r k acc p h
    refine ⟨fun d hd => (h1 d hd).imp id (List.mem_cons_of_mem _), by simp at h2 ⊢; omega⟩
theorem spl_len (S : List Nat) : ∀ (l : List Nat) (k : Nat) (acc : List Nat), 1 ≤ (TL.spl S k acc l).length ∧ (TL.spl S k acc l).length ≤ l.length + 1
  | [], k, acc => by rw [TL.spl_nil]; exact ⟨Nat.le_refl 1, Nat.le_refl 1⟩
  | c :: r, 0, acc => by
    cases hp : TL.pre S (c :: r) with
    | true =>
      rw [TL.spl_hit hp]
      have := spl_len S r (S.length - 1) []
      simp
      omega
    | false =>
      rw [TL.spl_miss hp]
      have := spl_len S r 0 (acc ++ [c])
      simp
      omega
  | c :: r, k + 1, acc => by
    have := spl_len S r k acc
    show 1 ≤ (TL.spl S k acc r).length ∧ (TL.spl S k acc r).length ≤ _
    simp
    omega
theorem split_tl (x : Str) : (Txt.split x " ").map tl = TL.spl (tl ((" " : Str))) 0 [] (tl x) := TL.split_spl x " " (by decide +kernel) (TL.kind_ok (by decide +kernel))
theorem az_split {n : Nat} {x : Str} (h : Az n x) : ∀ w ∈ Txt.split x " ", Az n w := fun w hw => by
  have hm : tl w ∈ TL.spl (tl ((" " : Str))) 0 [] (tl x) := by
    rw [← split_tl]
    exact List.mem_map.mpr ⟨w, hw, rfl⟩
  obtain ⟨h1, h2⟩ := spl_mem _ _ _ _ _ hm
  refine ⟨?_, fun c hc => ?_⟩
  · have e1 : (tl w).length = w.length := len_toList w
    have e2 : (tl x).length = x.length := len_toList x
    have := h.l
    rw [e1, e2, List.length_nil] at h2
    omega
  · rcases h1 c hc with z | z
    · cases z
    · exact h.c c z
theorem split_cnt (x : Str) : 1 ≤ (Txt.split x " ").length ∧ (Txt.split x " ").length ≤ x.length + 1 := by
  have h := spl_len (tl ((" " : Str))) (tl x) 0 []
  rw [← split_tl, List.length_map] at h
  have e2 : (tl x).length = x.length := len_toList x
  omega
theorem joinC_az {n : Nat} : ∀ {ws : List Str}, (∀ w ∈ ws, Az n w) → (∀ c ∈ joinC " " ws, c < 128) ∧ (joinC " " ws).length ≤ ws.length * (n + 1)
  | [], _ => ⟨fun c hc => (by cases hc), Nat.zero_le _⟩
  | [x], h => by
    have hx := h x (List.mem_cons_self ..)
    refine ⟨hx.c, ?_⟩
    show (tl x).length ≤ 1 * (n + 1)
    have e1 : (tl x).length = x.length := len_toList x
    have := hx.l
    omega
  | x :: y :: r, h => by
    have hx := h x (List.mem_cons_self ..)
    obtain ⟨h1, h2⟩ := joinC_az fun w hw => h w (List.mem_cons_of_mem _ hw)
    have e1 : (tl x).length = x.length := len_toList x
    have hl := hx.l
    refine ⟨fun c hc => ?_, ?_⟩
    · have hc : c ∈ tl x ++ tl ((" " : Str)) ++ joinC " " (y :: r) := hc
      rw [tl_blank] at hc
      simp only [List.mem_append, List.mem_singleton] at hc
      rcases hc with (z | z) | z
      · exact hx.c c z
      · omega
      · exact h1 c z
    · show (tl x ++ tl ((" " : Str)) ++ joinC " " (y :: r)).length ≤ _
      rw [tl_blank, List.length_append, List.length_append, List.length_singleton]
      simp only [List.length_cons] at h2 ⊢
      rw [Nat.succ_mul]
      omega
theorem az_join {n k : Nat} {ws : List Str} (h : ∀ w ∈ ws, Az n w) (hl : ws.length ≤ k) : Az (k * (n + 1)) ⟨(joinC " " ws).toArray⟩ := by
  obtain ⟨h1, h2⟩ := joinC_az h
  refine ⟨?_, h1⟩
  rw [← len_toList]
  show (joinC " " ws).length ≤ _
  exact Nat.le_trans h2 (Nat.mul_le_mul_right _ hl)
theorem sum_az {n : Nat} : ∀ {ws : List Str}, (∀ w ∈ ws, Az n w) → (ws.map (·.length)).sum ≤ ws.length * n
  | [], _ => Nat.zero_le _
  | x :: r, h => by
    have h1 := sum_az fun w hw => h w (List.mem_cons_of_mem _ hw)
    have hl := (h x (List.mem_cons_self ..)).l
    simp only [List.map_cons, List.sum_cons, List.length_cons]
    rw [Nat.succ_mul]
    omega
/-- what joining asks -/
theorem join_ok {n k : Nat} {ws : List Str} (h : ∀ w ∈ ws, Az n w) (hl : ws.length ≤ k) (hz : k * (n + 1) ≤ 15000000) : (ws.map (·.length)).sum + ws.length * ((" " : Str)).length ≤ zLen := by
  have h1 := sum_az h
  have e1 : ((" " : Str)).length = 1 := by decide +kernel
  have h2 : ws.length * (n + 1) ≤ k * (n + 1) := Nat.mul_le_mul_right _ hl
  rw [e1]
  unfold zLen
  rw [Nat.mul_add] at h2
  omega
theorem az_upper {n : Nat} {w : Str} (h : Az n w) : Az n (Txt.upper w) := by
  rw [PyProof.Rows.upper_ascii h.c]
  refine ⟨?_, fun c hc => ?_⟩
  · show (w.cps.map PyProof.Rows.up1).size ≤ n
    rw [Array.size_map]
    exact h.l
  · have hc : c ∈ (w.cps.map PyProof.Rows.up1).toList := hc
    rw [Array.toList_map, List.mem_map] at hc
    obtain ⟨d, hd, rfl⟩ := hc
    have := h.c d hd
    unfold PyProof.Rows.up1
    split <;> omega
theorem fold_reps (x : Array Nat) : ∀ (n : Nat) (a : Array Nat), ((List.replicate n x).foldl (· ++ ·) a).toList = a.toList ++ (List.replicate n x.toList).flatten
  | 0, a => by simp
  | n + 1, a => by
    rw [List.replicate_succ, List.foldl_cons, fold_reps x n, Array.toList_append, List.replicate_succ, List.flatten_cons, List.append_assoc]
theorem az_mul {j : Int} (h1 : 1 ≤ j) : Az j.toNat (Txt.mul ("9" : Str) j) := by
  unfold Txt.mul
  rw [if_neg (by omega)]
  split
  · rename_i h
    exact (az_of (n := 1) (by decide +kernel)).mono (by omega)
  · have e := fold_reps (("9" : Str)).cps j.toNat #[]
    have e9 : (("9" : Str)).cps.toList = [57] := by decide +kernel
    rw [e9] at e
    have e2 : (List.replicate j.toNat [57]).flatten = List.replicate j.toNat 57 := by
      generalize j.toNat = n
      induction n with
      | zero => rfl
      | succ n ih => rw [List.replicate_succ, List.flatten_cons, ih]; rfl
    rw [e2] at e
    refine ⟨?_, fun c hc => ?_⟩
    · rw [← len_toList]
      show (((List.replicate j.toNat (("9" : Str)).cps).foldl (· ++ ·) #[]).toList).length ≤ _
      rw [e]
      simp
    · have hc : c ∈ ((List.replicate j.toNat (("9" : Str)).cps).foldl (· ++ ·) #[]).toList := hc
      rw [e] at hc
      simp at hc
      omega
/-! ### what a row writes: a house -/
def allO : List Str → Option (List Int)
  | [] => some []
  | w :: r => match figO (tl w), allO r with
    | some i, some l => some (i :: l)
    | _, _ => none
def houB (b : Int) (bs : List Int) : Bool := decide (2 ≤ b) && (decide (b ≤ 30) && (decide ((bs.length : Int) = b - 1) && bs.all fun x => decide (1 ≤ x)))
theorem houB_of {b : Int} {bs : List Int} : houB b bs = true ↔ Hou b bs := by
  unfold houB
  simp only [Bool.and_eq_true, decide_eq_true_eq, List.all_eq_true]
  exact ⟨fun ⟨h1, h2, h3, h4⟩ => ⟨h1, h2, h3, h4⟩, fun h => ⟨h.b2, h.b30, h.len, h.pos⟩⟩
/-- the words behind 'house' -/
def hosO : List Str → Option (Int × List Int)
  | w :: y :: r => if y = "by" then (match figO (tl w), allO r with
    | some b, some bs => if houB b bs = true then some (b, bs) else none
    | _, _ => none) else none
  | _ => none
theorem hosO_hou {ws : List Str} {b : Int} {bs : List Int} (h : hosO ws = some (b, bs)) : Hou b bs := by
  unfold hosO at h
  split at h
  · split at h
    · split at h
      · split at h
        · rename_i hb
          cases h
          exact houB_of.mp hb
        · cases h
      · cases h
    · cases h
  · cases h
end Q
/-! M_k89b -/
namespace Q
open PySem
theorem cutF {α : Type} (f : α → D) (l : List α) (a : Nat) : cutD (l.map f) (some (a : Int)) none = (l.drop a).map f := by
  rcases Nat.le_total a l.length with h | h
  · exact cutG_fr h
  · unfold cutD
    have e1 : sIx (l.map f).length 0 (some (a : Int)) = l.length := by
      unfold sIx
      simp only [List.length_map]
      rw [if_neg (by omega)]
      omega
    rw [e1, List.drop_of_length_le (by simp), List.drop_of_length_le h, List.take_nil]
    rfl
theorem cutT0 {α : Type} (f : α → D) (l : List α) (a : Nat) : cutD (l.map f) none (some (a : Int)) = (l.take a).map f := by
  rcases Nat.le_total a l.length with h | h
  · exact cutG_to h
  · unfold cutD
    have e1 : sIx (l.map f).length (l.map f).length (some (a : Int)) = l.length := by
      unfold sIx
      simp only [List.length_map]
      rw [if_neg (by omega)]
      omega
    rw [e1]
    show ((l.map f).drop 0).take (l.length - 0) = _
    rw [List.drop_zero, Nat.sub_zero, List.take_of_length_le (by simp), List.take_of_length_le h]
theorem cut12 {α : Type} (f : α → D) (h : α) (r : List α) (k : Nat) : cutD ((h :: r).map f) (some ((k : Nat) : Int)) (some ((k + 1 : Nat) : Int)) = (((h :: r).drop k).take 1).map f := by
  rw [cutD_two]
  rcases Nat.lt_or_ge k (h :: r).length with z | z
  · rw [Nat.min_eq_left (Nat.le_of_lt z), Nat.min_eq_left z, show k + 1 - k = 1 by omega, ← List.map_drop, ← List.map_take]
  · rw [Nat.min_eq_right z, Nat.min_eq_right (by omega), Nat.sub_self, List.take_zero, List.drop_of_length_le z]
    rfl
/-! ### a word's number -/
def fO (w : Str) : D := pO (figO (tl w))
theorem fO_pl (w : Str) : plain (fO w) = true ∧ deep (fO w) = 0 := by
  unfold fO
  cases figO (tl w) <;> exact ⟨rfl, rfl⟩
theorem fOs_pl : ∀ ws : List Str, plains (ws.map fO) = true ∧ deeps (ws.map fO) = 0
  | [] => ⟨rfl, rfl⟩
  | w :: r => by
    obtain ⟨h1, h2⟩ := fOs_pl r
    obtain ⟨h3, h4⟩ := fO_pl w
    refine ⟨?_, ?_⟩
    · show (plain (fO w) && plains (r.map fO)) = true
      rw [h1, h3]
      rfl
    · show max (deep (fO w)) (deeps (r.map fO)) = 0
      rw [h2, h4]
      rfl
theorem fOs_ok (ws : List Str) : plain .non = true ∧ plain (.lst (ws.map fO)) = true ∧ deep .non ≤ 60 ∧ deep (.lst (ws.map fO)) ≤ 60 := by
  obtain ⟨h1, h2⟩ := fOs_pl ws
  exact ⟨rfl, h1, by decide, by show deeps (ws.map fO) + 1 ≤ 60; rw [h2]; decide⟩
theorem allO_some : ∀ {ws : List Str} {bs : List Int}, allO ws = some bs → ws.map fO = bs.map .int
  | [], bs, h => by cases h; rfl
  | w :: r, bs, h => by
    unfold allO at h
    split at h
    · rename_i i l h1 h2
      cases h
      rw [List.map_cons, allO_some h2]
      unfold fO
      rw [h1]
      rfl
    · cases h
theorem allO_none : ∀ {ws : List Str}, allO ws = none → ((ws.map fO).any fun z => deq z .non) = true
  | [], h => by cases h
  | w :: r, h => by
    rw [List.map_cons, List.any_cons]
    cases hw : figO (tl w) with
    | none =>
      have : fO w = .non := by unfold fO; rw [hw]; rfl
      rw [this]
      rfl
    | some i =>
      cases hr : allO r with
      | none => rw [allO_none hr, Bool.or_true]
      | some l =>
        unfold allO at h
        rw [hw, hr] at h
        cases h
theorem allO_pos : ∀ {ws : List Str} {bs : List Int}, allO ws = some bs → bs.length = ws.length
  | [], bs, h => by cases h; rfl
  | w :: r, bs, h => by
    unfold allO at h
    split at h
    · rename_i i l h1 h2
      cases h
      rw [List.length_cons, List.length_cons, allO_pos h2]
    · cases h
/-! ### the law's own reading of a number -/
def sp__law_number_3 : PSp := fun ds t P => ∃ w : Str, ds = [.str w] ∧ w.length ≤ 15000000 ∧ plain (.str w) = true ∧ P (fO w) t
theorem len__law_number_3 (as : List D) (t : Ts) (P : D → Ts → Prop) (h : sp__law_number_3 as t P) : as.length = 1 := by first | (obtain ⟨_, rfl, _⟩ := h; rfl) | (obtain ⟨_, _, rfl, _⟩ := h; rfl) | (obtain ⟨_, _, _, rfl, _⟩ := h; rfl) | (obtain ⟨_, _, _, _, rfl, _⟩ := h; rfl) | (obtain ⟨_, _, _, _, _, rfl, _⟩ := h; rfl) | (obtain ⟨_, _, _, _, _, _, rfl, _⟩ := h; rfl) | (obtain ⟨_, _, _, _, _, _, _, rfl, _⟩ := h; rfl) | (obtain ⟨_, _, _, _, _, _, _, _, rfl, _⟩ := h; rfl) | (obtain ⟨_, rfl | rfl, _⟩ := h <;> rfl) | (obtain ⟨_, _, rfl | rfl, _⟩ := h <;> rfl) | (obtain ⟨_, _, _, rfl | rfl, _⟩ := h <;> rfl) | (obtain ⟨_, _, _, _, rfl | rfl, _⟩ := h <;> rfl) | (obtain ⟨_, _, _, _, _, rfl | rfl, _⟩ := h <;> rfl) | (obtain ⟨_, _, _, _, _, _, rfl | rfl, _⟩ := h <;> rfl) | (obtain ⟨_, _, _, _, _, _, _, rfl | rfl, _⟩ := h <;> rfl) | (obtain ⟨_, _, _, _, _, _, _, _, rfl | rfl, _⟩ := h <;> rfl)
def d__law_number_3 : DS := (dSeq (dIf (dOr (dB (dOp oEq (dVar 0) (dC (.str "")))) (dOr (dB (dOp oGt (dCB bLen (dCons (dVar 0) dNil)) (dC (.int 200)))) (dB (dOp oNe (dLc [1] (iStrD (dVar 0)) (gName 1) (dB (dOp oNotInS (dVar 1) (dC (.str "0123456789")))) (dVar 1)) (dLst dNil))))) (dSeq (dRet (dC .non)) dNext) dNext) (dSeq (dRet (dIfE (dAnd (dB (dOp oEq (dOp oIxS (dVar 0) (dC (.int 0))) (dC (.str "0")))) (dB (dOp oNe (dVar 0) (dC (.str "0"))))) (dC .non) (dCB bIntT (dCons (dVar 0) dNil)))) dNext))
theorem plains_fm (f : Nat → Option D) (hf : ∀ i y, f i = some y → plain y = true ∧ deep y = 0) : ∀ l : List Nat, plains (l.filterMap f) = true ∧ deeps (l.filterMap f) = 0
  | [] => ⟨rfl, rfl⟩
  | i :: r => by
    obtain ⟨h1, h2⟩ := plains_fm f hf r
    cases hi : f i with
    | none => rw [List.filterMap_cons_none hi]; exact ⟨h1, h2⟩
    | some y =>
      rw [List.filterMap_cons_some hi]
      obtain ⟨h3, h4⟩ := hf i y hi
      refine ⟨?_, ?_⟩
      · show (plain y && plains _) = true
        rw [h1, h3]
        rfl
      · show max (deep y) (deeps _) = 0
        rw [h2, h4]
        rfl
def oddS (w : Str) (i : Nat) : Option D := if fgB ((tl w).getD i 0) = true then none else some (.str (sg ((tl w).getD i 0)))
theorem odd_nil (w : Str) : (tl w).all fgB = true → (List.range (tl w).length).filterMap (oddS w) = [] := fun h => by
  rw [List.filterMap_eq_nil_iff]
  intro i hi
  have hi := List.mem_range.mp hi
  unfold oddS
  rw [if_pos]
  rw [List.getD_eq_getElem?_getD, List.getElem?_eq_getElem hi]
  exact List.all_eq_true.mp h _ (List.getElem_mem hi)
theorem odd_ne (w : Str) : (tl w).all fgB = false → (List.range (tl w).length).filterMap (oddS w) ≠ [] := fun h e => by
  rw [List.filterMap_eq_nil_iff] at e
  have : (tl w).all fgB = true := List.all_eq_true.mpr fun c hc => by
    obtain ⟨i, hi, rfl⟩ := List.mem_iff_getElem.mp hc
    have := e i (List.mem_range.mpr hi)
    unfold oddS at this
    split at this
    · rename_i z
      rw [List.getD_eq_getElem?_getD, List.getElem?_eq_getElem hi] at z
      exact z
    · cases this
  rw [this] at h
  cases h
theorem d__law_number_3_ok (as : List D) (t : Ts) (P : D → Ts → Prop) (h : sp__law_number_3 as t P) : d__law_number_3 (endsOf P) (start0 ["_law_word", "_law_sign"] as) t := by
  obtain ⟨w, rfl, hz, hp, k⟩ := h
  have el : (tl w).length = w.length := len_toList w
  have done : figB (tl w) = false → P .non t := fun hb => by
    unfold fO figO at k
    rw [hb] at k
    exact k
  conv => whnf
  refine ⟨⟨hp, by decide +kernel, by show 0 ≤ 60; decide, by decide⟩, ?_⟩
  have e0 : deq (.str w) (.str ("" : Str)) = decide ((tl w).length = 0) := by
    show decide (w = _) = _
    rw [decide_eq_decide]
    refine ⟨fun e => by rw [e]; decide +kernel, fun e => tl_ext ?_⟩
    rw [List.eq_nil_of_length_eq_zero e]
    decide +kernel
  rw [e0]
  by_cases h1 : (tl w).length = 0
  · rw [decide_eq_true h1]
    conv => whnf
    exact done (by
      unfold figB
      rw [decide_eq_false (by omega)]
      rfl)
  rw [decide_eq_false h1]
  conv => whnf
  refine ⟨by unfold zLen; omega, ?_⟩
  conv => whnf
  by_cases h2 : 200 < (w.length : Int)
  · rw [decide_eq_true h2]
    conv => whnf
    exact done (by
      unfold figB
      rw [decide_eq_false (show ¬ (tl w).length ≤ 200 by omega), Bool.false_and, Bool.and_false])
  rw [decide_eq_false h2]
  conv => whnf
  refine lc_fm (oddS w) (by rw [List.length_map, len_toList]; unfold zLen; omega) (fun i x hx Qy Qn h3 h4 => ?_) ?_
  · rw [List.getElem?_map] at hx
    cases hc : w.cps.toList[i]? with
    | none => rw [hc] at hx; cases hx
    | some c =>
      rw [hc] at hx
      cases hx
      refine ⟨rfl, ?_⟩
      conv => whnf
      refine ⟨c, rfl, ?_⟩
      rw [figs_mem]
      have e : (tl w).getD i 0 = c := by rw [List.getD_eq_getElem?_getD, show (tl w)[i]? = some c from hc]; rfl
      unfold oddS at h3 h4
      rw [e] at h3 h4
      cases hb : fgB c with
      | true =>
        rw [hb] at h4
        exact h4 (if_pos rfl)
      | false =>
        rw [hb] at h3
        exact h3 _ (if_neg (by decide))
  have er : (List.range (w.cps.toList.map fun c => D.str (sg c)).length) = List.range (tl w).length := by rw [List.length_map]
  rw [er]
  have hpl := plains_fm (oddS w) (fun i y e => by
    unfold oddS at e
    split at e
    · cases e
    · cases e
      refine ⟨plain_of fun c hc => ?_, rfl⟩
      have hcc : c = (tl w).getD i 0 := by simpa [tl, sg] using hc
      rcases Nat.lt_or_ge i (tl w).length with z | z
      · rw [List.getD_eq_getElem?_getD, List.getElem?_eq_getElem z] at hcc
        have hp2 : w.cps.all (· < 0x110000) = true := hp
        rw [← Array.all_toList] at hp2
        rw [hcc]
        exact of_decide_eq_true (List.all_eq_true.mp hp2 _ (List.getElem_mem z))
      · rw [List.getD_eq_getElem?_getD, List.getElem?_eq_none z] at hcc
        rw [hcc]
        decide) (List.range (tl w).length)
  refine ⟨⟨hpl.1, rfl, by show deeps _ + 1 ≤ 60; rw [hpl.2]; omega, by decide⟩, ?_⟩
  cases h3 : (tl w).all fgB with
  | false =>
    have hne := odd_ne w h3
    have ed : deq (.lst ((List.range (tl w).length).filterMap (oddS w))) (.lst []) = false := by
      cases hq : (List.range (tl w).length).filterMap (oddS w) with
      | nil => exact absurd hq hne
      | cons x r => rfl
    rw [ed]
    conv => whnf
    exact done (by
      unfold figB
      rw [h3, Bool.false_and, Bool.and_false, Bool.and_false])
  | true =>
    rw [odd_nil w h3]
    conv => whnf
    have hfg : ∀ c ∈ tl w, 48 ≤ c ∧ c ≤ 57 := fun c hc => fg_lt (List.all_eq_true.mp h3 c hc)
    have good : (tl w = [48] ∨ ¬ (tl w).head? = some 48) → intText? w = some (figV (tl w)) ∧ w.length ≤ 640 ∧ P (.int (figV (tl w))) t := fun hd => by
      have hb : figB (tl w) = true := by
        unfold figB
        rw [decide_eq_true (show 0 < (tl w).length by omega), decide_eq_true (show (tl w).length ≤ 200 by omega), h3]
        simp only [Bool.true_and, Bool.or_eq_true, beq_iff_eq, Bool.not_eq_true', beq_eq_false_iff_ne]
        exact hd
      refine ⟨int_fig hb, by omega, ?_⟩
      unfold fO figO at k
      rw [if_pos hb] at k
      exact k
    obtain ⟨c, r, hcr⟩ : ∃ c r, tl w = c :: r := by
      cases hq : tl w with
      | nil => rw [hq] at h1; exact absurd rfl h1
      | cons c r => exact ⟨c, r, rfl⟩
    have hc0 := hfg c (by rw [hcr]; exact List.mem_cons_self ..)
    have ha : atC w.cps.toList 0 = some c := by
      show atC (tl w) 0 = _
      unfold atC
      rw [if_pos (by decide), if_pos (by omega), hcr]
      rfl
    refine ⟨by unfold zLen; omega, c, ha, ?_⟩
    refine ⟨⟨plain_of (w := sg c) fun d hd => ?_, by decide +kernel, by show 0 ≤ 60; decide, by decide⟩, ?_⟩
    · have : d = c := by simpa [tl, sg] using hd
      omega
    · have e : deq (.str (sg c)) (.str ("0" : Str)) = decide (c = 48) := by
        rw [deq_zero, decide_eq_decide]
        show [c] = [48] ↔ _
        simp
      rw [e]
      by_cases h5 : c = 48
      · rw [decide_eq_true h5]
        conv => whnf
        refine ⟨⟨hp, by decide +kernel, by show 0 ≤ 60; decide, by decide⟩, ?_⟩
        rw [deq_zero]
        by_cases h4 : tl w = [48]
        · rw [decide_eq_true h4]
          conv => whnf
          exact ⟨_, good (.inl h4)⟩
        · rw [decide_eq_false h4]
          conv => whnf
          refine done ?_
          unfold figB
          rw [hcr, h5] at h4 ⊢
          simp
          intro _ _ _ h
          exact h4 (by rw [h])
      · rw [decide_eq_false h5]
        conv => whnf
        exact ⟨_, good (.inr (by rw [hcr]; simpa using h5))⟩
/-! ### the law's own reading of a saying -/
def sp__law_saying_in : PSp := fun ds t P => ∃ ws : List Str, ds = [.lst (ws.map .str)] ∧ TxW ws ∧ P (saO (sayO ws)) t
theorem len__law_saying_in (as : List D) (t : Ts) (P : D → Ts → Prop) (h : sp__law_saying_in as t P) : as.length = 1 := by first | (obtain ⟨_, rfl, _⟩ := h; rfl) | (obtain ⟨_, _, rfl, _⟩ := h; rfl) | (obtain ⟨_, _, _, rfl, _⟩ := h; rfl) | (obtain ⟨_, _, _, _, rfl, _⟩ := h; rfl) | (obtain ⟨_, _, _, _, _, rfl, _⟩ := h; rfl) | (obtain ⟨_, _, _, _, _, _, rfl, _⟩ := h; rfl) | (obtain ⟨_, _, _, _, _, _, _, rfl, _⟩ := h; rfl) | (obtain ⟨_, _, _, _, _, _, _, _, rfl, _⟩ := h; rfl) | (obtain ⟨_, rfl | rfl, _⟩ := h <;> rfl) | (obtain ⟨_, _, rfl | rfl, _⟩ := h <;> rfl) | (obtain ⟨_, _, _, rfl | rfl, _⟩ := h <;> rfl) | (obtain ⟨_, _, _, _, rfl | rfl, _⟩ := h <;> rfl) | (obtain ⟨_, _, _, _, _, rfl | rfl, _⟩ := h <;> rfl) | (obtain ⟨_, _, _, _, _, _, rfl | rfl, _⟩ := h <;> rfl) | (obtain ⟨_, _, _, _, _, _, _, rfl | rfl, _⟩ := h <;> rfl) | (obtain ⟨_, _, _, _, _, _, _, _, rfl | rfl, _⟩ := h <;> rfl)
def d__law_saying_in : DS := (dSeq (dIf (dOr (dB (dOp oNe (dCB bLen (dCons (dVar 0) dNil)) (dC (.int 4)))) (dOr (dB (dOp oNe (dOp oIx (dVar 0) (dC (.int 1))) (dC (.str "at")))) (dB (dOp oNotInT (dOp oIx (dVar 0) (dC (.int 2))) (dTup (dCons (dC (.str "most")) (dCons (dC (.str "least")) dNil))))))) (dSeq (dRet (dC .non)) dNext) dNext) (dSeq (dPar 1 2 (dCons (dCall sp__law_number_3 [] (dCons (dOp oIx (dVar 0) (dC (.int 0))) dNil)) (dCons (dCall sp__law_number_3 [] (dCons (dOp oIx (dVar 0) (dC (.int 3))) dNil)) dNil))) (dSeq (dIf (dOr (dB (dOp oIsN (dVar 1) (dC .non))) (dOr (dB (dOp oIsN (dVar 2) (dC .non))) (dOr (dB (dOp oEq (dVar 1) (dC (.int 0)))) (dB (dOp oEq (dVar 2) (dC (.int 0))))))) (dSeq (dRet (dC .non)) dNext) dNext) (dSeq (dRet (dTup (dCons (dOp oAdd (dC (.str "at ")) (dOp oIx (dVar 0) (dC (.int 2)))) (dCons (dVar 1) (dCons (dVar 2) dNil))))) dNext))))
theorem at_app2 (b : Str) : (("at " : Str) ++ b = "at most") = (b = "most") ∧ (("at " : Str) ++ b = "at least") = (b = "least") := by
  have h := at_app b
  have e : Str.empty ++ ("at " : Str) ++ b = ("at " : Str) ++ b := tl_ext (by rw [tl_app, tl_app, tl_app]; rfl)
  rw [e] at h
  exact h
theorem d__law_saying_in_ok (as : List D) (t : Ts) (P : D → Ts → Prop) (h : sp__law_saying_in as t P) : d__law_saying_in (endsOf P) (start0 ["_law_words", "_law_spot", "_law_number_here"] as) t := by
  obtain ⟨ws, rfl, hw, k⟩ := h
  by_cases h4 : ws.length = 4
  · obtain ⟨p, a, b, n, rfl⟩ : ∃ p a b n, ws = [p, a, b, n] := by
      match ws, h4 with
      | [p, a, b, n], _ => exact ⟨p, a, b, n, rfl⟩
    obtain ⟨lp, pp⟩ := hw p (by simp)
    obtain ⟨la, pa⟩ := hw a (by simp)
    obtain ⟨lb, pb⟩ := hw b (by simp)
    obtain ⟨ln, pn⟩ := hw n (by simp)
    have z1 : plain (.str ("at" : Str)) = true := by decide +kernel
    conv => whnf
    refine ⟨_, rfl, ?_⟩
    conv => whnf
    refine ⟨⟨pa, z1, dp0 _, dp0 _⟩, ?_⟩
    rw [deq_st]
    by_cases ha : a = "at"
    · subst ha
      rw [decide_eq_true rfl]
      conv => whnf
      refine ⟨_, rfl, ?_⟩
      conv => whnf
      refine ⟨["most", "least"], rfl, ?_⟩
      have ek : sayO [p, "at", b, n] = say2 p b n := by
        unfold sayO
        exact if_pos rfl
      rw [ek] at k
      unfold say2 at k
      have sb : ∀ x y : Str, (x == y) = decide (y = x) := fun x y => by
        rw [Bool.eq_iff_iff, beq_iff_eq, decide_eq_true_eq]
        exact eq_comm
      have em : (([("most" : Str), ("least" : Str)] : List Str).any fun z => z == b) = (decide (b = "most") || decide (b = "least")) := by
        rw [List.any_cons, List.any_cons, List.any_nil, Bool.or_false, sb, sb]
      rw [em]
      by_cases hb : b = "most" ∨ b = "least"
      · have eb : (decide (b = "most") || decide (b = "least")) = true := by
          rcases hb with hb | hb <;> simp [hb]
        rw [eb]
        conv => whnf
        refine ⟨_, rfl, ?_⟩
        conv => whnf
        refine ⟨_, rfl, lp, pp, ?_⟩
        conv => whnf
        refine ⟨_, rfl, ?_⟩
        conv => whnf
        refine ⟨_, rfl, ln, pn, ?_⟩
        unfold fO
        cases hp : figO (tl p) with
        | none =>
          rw [hp] at k
          conv => whnf
          exact k
        | some i =>
          cases hn : figO (tl n) with
          | none =>
            rw [hp, hn] at k
            conv => whnf
            exact k
          | some j =>
            rw [hp, hn] at k
            have k : P (saO (if b = "most" then mkSy true i j else if b = "least" then mkSy false i j else none)) t := k
            have i0 := fig_0 hp
            have j0 := fig_0 hn
            conv => whnf
            have no : (i = 0 ∨ j = 0) → P .non t := fun h => by
              have e1 : ∀ w, mkSy w i j = none := fun w => if_neg (by omega)
              rw [e1, e1] at k
              rcases hb with hb | hb
              · rw [if_pos hb] at k
                exact k
              · rw [if_neg (by rw [hb]; decide +kernel), if_pos hb] at k
                exact k
            by_cases hi : i = 0
            · rw [decide_eq_true hi]
              conv => whnf
              exact no (.inl hi)
            · rw [decide_eq_false hi]
              conv => whnf
              by_cases hj : j = 0
              · rw [decide_eq_true hj]
                conv => whnf
                exact no (.inr hj)
              · rw [decide_eq_false hj]
                conv => whnf
                refine ⟨_, rfl, ?_⟩
                conv => whnf
                have e3 : (("at " : Str)).length = 3 := by decide +kernel
                refine ⟨by rw [e3]; unfold zLen; omega, ?_⟩
                conv => whnf
                have e1 : ∀ w, mkSy w i j = some ⟨w, i, j⟩ := fun w => if_pos (by omega)
                rw [e1, e1] at k
                rcases hb with hb | hb
                · rw [if_pos hb] at k
                  have ee : ("at " : Str) ++ b = "at most" := by rw [(at_app2 b).1]; exact hb
                  rw [ee]
                  exact k
                · rw [if_neg (by rw [hb]; decide +kernel), if_pos hb] at k
                  have ee : ("at " : Str) ++ b = "at least" := by rw [(at_app2 b).2]; exact hb
                  rw [ee]
                  exact k
      · have eb : (decide (b = "most") || decide (b = "least")) = false := by
          rw [Bool.or_eq_false_iff]
          exact ⟨decide_eq_false fun z => hb (.inl z), decide_eq_false fun z => hb (.inr z)⟩
        rw [eb]
        conv => whnf
        have kn : P .non t := by
          cases hp : figO (tl p) with
          | none => rw [hp] at k; exact k
          | some i =>
            cases hn : figO (tl n) with
            | none => rw [hp, hn] at k; exact k
            | some j =>
              rw [hp, hn] at k
              have k : P (saO (if b = "most" then mkSy true i j else if b = "least" then mkSy false i j else none)) t := k
              rw [if_neg (fun z => hb (.inl z)), if_neg (fun z => hb (.inr z))] at k
              exact k
        exact kn
    · have ek : sayO [p, a, b, n] = none := if_neg ha
      rw [ek] at k
      refine br_nn ha ?_
      exact k
  · have ek : sayO ws = none := by
      unfold sayO
      split
      · exact absurd rfl h4
      · rfl
    rw [ek] at k
    conv => whnf
    rw [strs_len]
    refine br_nn (by omega) ?_
    exact k
/-! ### the law's own reading of a house -/
def hoO (W : Option (Int × List Int)) : D := match W with
  | none => .non
  | some (b, bs) => .tup [.int b, .lst (bs.map .int)]
def sp__law_house_in_2 : PSp := fun ds t P => ∃ ws : List Str, ds = [.lst (ws.map .str)] ∧ TxW ws ∧ ws.length ≤ 1000000 ∧ P (hoO (hosO ws)) t
theorem len__law_house_in_2 (as : List D) (t : Ts) (P : D → Ts → Prop) (h : sp__law_house_in_2 as t P) : as.length = 1 := by first | (obtain ⟨_, rfl, _⟩ := h; rfl) | (obtain ⟨_, _, rfl, _⟩ := h; rfl) | (obtain ⟨_, _, _, rfl, _⟩ := h; rfl) | (obtain ⟨_, _, _, _, rfl, _⟩ := h; rfl) | (obtain ⟨_, _, _, _, _, rfl, _⟩ := h; rfl) | (obtain ⟨_, _, _, _, _, _, rfl, _⟩ := h; rfl) | (obtain ⟨_, _, _, _, _, _, _, rfl, _⟩ := h; rfl) | (obtain ⟨_, _, _, _, _, _, _, _, rfl, _⟩ := h; rfl) | (obtain ⟨_, rfl | rfl, _⟩ := h <;> rfl) | (obtain ⟨_, _, rfl | rfl, _⟩ := h <;> rfl) | (obtain ⟨_, _, _, rfl | rfl, _⟩ := h <;> rfl) | (obtain ⟨_, _, _, _, rfl | rfl, _⟩ := h <;> rfl) | (obtain ⟨_, _, _, _, _, rfl | rfl, _⟩ := h <;> rfl) | (obtain ⟨_, _, _, _, _, _, rfl | rfl, _⟩ := h <;> rfl) | (obtain ⟨_, _, _, _, _, _, _, rfl | rfl, _⟩ := h <;> rfl) | (obtain ⟨_, _, _, _, _, _, _, _, rfl | rfl, _⟩ := h <;> rfl)
def d__law_house_in_2 : DS := (dSeq (dAsg (dLc [2] (iSeq (dVar 0)) (gName 2) dYes (dCall sp__law_number_3 [] (dCons (dVar 2) dNil))) (gName 1)) (dSeq (dIf (dOr (dB (dOp oLt (dCB bLen (dCons (dVar 0) dNil)) (dC (.int 3)))) (dOr (dB (dOp oNe (dOp oIx (dVar 0) (dC (.int 1))) (dC (.str "by")))) (dB (dOp oInDL (dC .non) (dOp oAdd (dSlice (dVar 1) dNoPart (dPart (dC (.int 1)))) (dSlice (dVar 1) (dPart (dC (.int 2))) dNoPart)))))) (dSeq (dRet (dC .non)) dNext) dNext) (dSeq (dIf (dOr (dNot (dB (dChain oLe oLe (dC (.int 2)) (dOp oIx (dVar 1) (dC (.int 0))) (dC (.int 30))))) (dOr (dB (dOp oNe (dCB bLen (dCons (dVar 0) dNil)) (dOp oAdd (dOp oIx (dVar 1) (dC (.int 0))) (dC (.int 1))))) (dB (dOp oLt (dCB bMin (dCons (dSlice (dVar 1) (dPart (dC (.int 2))) dNoPart) dNil)) (dC (.int 1)))))) (dSeq (dRet (dC .non)) dNext) dNext) (dSeq (dRet (dTup (dCons (dOp oIx (dVar 1) (dC (.int 0))) (dCons (dSlice (dVar 1) (dPart (dC (.int 2))) dNoPart) dNil)))) dNext))))
theorem d__law_house_in_2_ok (as : List D) (t : Ts) (P : D → Ts → Prop) (h : sp__law_house_in_2 as t P) : d__law_house_in_2 (endsOf P) (start0 ["_law_words", "_law_numbers", "_law_word"] as) t := by
  obtain ⟨ws, rfl, hw, hl, k⟩ := h
  conv => whnf
  refine lc_map (fun d => match d with | .str w => fO w | d => d) (by rw [List.length_map]; unfold zLen; omega) (fun i x hx Qy q => ?_) ?_
  · obtain ⟨w, hw1, rfl⟩ := getmap hx
    obtain ⟨lw, pw⟩ := hw w (List.mem_of_getElem? hw1)
    refine ⟨rfl, ?_⟩
    conv => whnf
    exact ⟨w, rfl, lw, pw, q⟩
  have ei : (ws.map D.str).map (fun d => match d with | .str w => fO w | d => d) = ws.map fO := by
    rw [List.map_map]
    rfl
  rw [ei]
  conv => whnf
  by_cases h3 : ws.length < 3
  · have ek : hosO ws = none := by
      unfold hosO
      split
      · rename_i w y r
        split
        · split
          · rename_i hr
            have hr0 : r = [] := by
              cases r with
              | nil => rfl
              | cons a r => simp at h3; omega
            subst hr0
            rename_i bs _ _
            cases hr
            rw [if_neg]
            intro hb
            have := (houB_of.mp hb).len
            have := (houB_of.mp hb).b2
            simp at *
            omega
          · rfl
        · rfl
      · rfl
    rw [ek] at k
    refine br_eq (by rw [strs_len]; omega) ?_
    exact k
  refine br_nq (by rw [strs_len]; omega) ?_
  obtain ⟨w, y, z, r, rfl⟩ : ∃ w y z r, ws = w :: y :: z :: r := by
    match ws, h3 with
    | w :: y :: z :: r, _ => exact ⟨w, y, z, r, rfl⟩
    | [], h => simp at h
    | [_], h => simp at h
    | [_, _], h => simp at h
  obtain ⟨ly, py⟩ := hw y (by simp)
  have zy : plain (.str ("by" : Str)) = true := by decide +kernel
  have a1 : atI ((w :: y :: z :: r).map D.str) 1 = some (.str y) := atI_nat (by decide) rfl
  conv => whnf
  refine ⟨_, a1, ?_⟩
  refine ⟨⟨py, zy, dp0 _, dp0 _⟩, ?_⟩
  rw [deq_st]
  by_cases hy : y = "by"
  rotate_left
  · rw [decide_eq_false hy]
    have ek : hosO (w :: y :: z :: r) = none := if_neg hy
    rw [ek] at k
    conv => whnf
    exact k
  subst hy
  rw [decide_eq_true rfl]
  conv => whnf
  have c1 : cutD ((w :: "by" :: z :: r).map fO) none (some 1) = [fO w] := cutT0 fO (w :: "by" :: z :: r) 1
  have c2 : cutD ((w :: "by" :: z :: r).map fO) (some 2) none = (z :: r).map fO := cutF fO (w :: "by" :: z :: r) 2
  rw [c1, c2]
  have lr : r.length ≤ 1000000 := by simp at hl; omega
  refine ⟨by show 1 + ((z :: r).map fO).length ≤ zLen; rw [List.length_map, List.length_cons]; unfold zLen; omega, ?_⟩
  conv => whnf
  have en : [fO w] ++ (z :: r).map fO = (w :: z :: r).map fO := rfl
  rw [en]
  refine ⟨fOs_ok (w :: z :: r), ?_⟩
  cases ha : allO (w :: z :: r) with
  | none =>
    rw [allO_none ha]
    have ek : hosO (w :: "by" :: z :: r) = none := by
      show (if ("by" : Str) = "by" then (match figO (tl w), allO (z :: r) with | some b, some bs => if houB b bs = true then some (b, bs) else none | _, _ => none) else none) = none
      rw [if_pos rfl]
      cases hf : figO (tl w) with
      | none => rfl
      | some b =>
        cases hr : allO (z :: r) with
        | none => rfl
        | some bs =>
          have : allO (w :: z :: r) = some (b :: bs) := by
            show (match figO (tl w), allO (z :: r) with | some i, some l => some (i :: l) | _, _ => none) = _
            rw [hf, hr]
          rw [this] at ha
          cases ha
    rw [ek] at k
    conv => whnf
    exact k
  | some l =>
    obtain ⟨b, bs, hf, hr, rfl⟩ : ∃ b bs, figO (tl w) = some b ∧ allO (z :: r) = some bs ∧ l = b :: bs := by
      have h : (match figO (tl w), allO (z :: r) with | some i, some l => some (i :: l) | _, _ => none) = some l := ha
      split at h
      · rename_i i l' h1 h2
        cases h
        exact ⟨_, _, h1, h2, rfl⟩
      · cases h
    have e1 := allO_some ha
    have e2 := allO_some hr
    have lb := allO_pos hr
    have ek : hosO (w :: "by" :: z :: r) = if houB b bs = true then some (b, bs) else none := by
      show (if ("by" : Str) = "by" then (match figO (tl w), allO (z :: r) with | some b, some bs => if houB b bs = true then some (b, bs) else none | _, _ => none) else none) = _
      rw [if_pos rfl, hf, hr]
    rw [ek] at k
    have b0 := fig_0 hf
    have ef : fO w = .int b := by unfold fO; rw [hf]; rfl
    rw [e1, no_non]
    conv => whnf
    have at0 : atI ((w :: "by" :: z :: r).map fO) 0 = some (.int b) := by rw [List.map_cons, ef]; exact at0_d
    refine ⟨_, at0, ?_⟩
    conv => whnf
    have bad : houB b bs = false → P .non t := fun h => by rw [h] at k; exact k
    by_cases h2 : 2 ≤ b
    rotate_left
    · rw [decide_eq_false h2]
      conv => whnf
      exact bad (by unfold houB; rw [decide_eq_false h2, Bool.false_and])
    rw [decide_eq_true h2]
    conv => whnf
    by_cases h30 : b ≤ 30
    rotate_left
    · rw [decide_eq_false h30]
      conv => whnf
      exact bad (by unfold houB; rw [decide_eq_false h30, Bool.false_and, Bool.and_false])
    rw [decide_eq_true h30]
    conv => whnf
    refine ⟨_, at0, ?_⟩
    conv => whnf
    have lW : (((w :: ("by" : Str) :: z :: r).map D.str).length : Int) = (bs.length : Int) + 2 := by
      rw [strs_len, lb]
      simp only [List.length_cons]
      omega
    rw [lW]
    by_cases hlen : (bs.length : Int) + 2 = b + 1
    rotate_left
    · refine br_nn hlen ?_
      exact bad (by unfold houB; rw [decide_eq_false (show ¬ (bs.length : Int) = b - 1 by omega), Bool.false_and, Bool.and_false, Bool.and_false])
    refine Br.mk (fun z => absurd hlen (by simpa using z)) fun _ => ?_
    conv => whnf
    rw [c2, e2]
    have hbs : 0 < bs.length := by rw [lb]; simp
    refine ⟨bs, ints_map bs, hbs, fun m hm hmin => ?_⟩
    conv => whnf
    by_cases hm1 : m < 1
    · refine br_eq hm1 ?_
      exact bad (by
        unfold houB
        have : bs.all (fun x => decide (1 ≤ x)) = false := by
          rw [List.all_eq_false]
          exact ⟨m, hm, by simp; omega⟩
        rw [this, Bool.and_false, Bool.and_false, Bool.and_false])
    refine br_nq hm1 ?_
    have hgood : houB b bs = true := houB_of.mpr ⟨h2, h30, by omega, fun x hx => by have := hmin x hx; omega⟩
    rw [if_pos hgood] at k
    conv => whnf
    refine ⟨_, at0, ?_⟩
    conv => whnf
    rw [c2, e2]
    exact k
end Q
/-! M_k89c -/
namespace Q
open PySem
/-! ### House(..), which may be refused -/
def sp_House_initE (W : Cl) : PSpE := fun ds t P Px => ∃ b bs, ds = [.int b, .lst (bs.map .int)] ∧ bs.length ≤ 1000000 ∧ (Hou b bs → P (hD W b bs) t) ∧ (¬ Hou b bs → ∀ m : Str, Px .BadHouse (.str m) t)
theorem len_House_initE (W : Cl) (as : List D) (t : Ts) (P : D → Ts → Prop) (Px : PX) (h : sp_House_initE W as t P Px) : as.length + 1 = 3 := by
  obtain ⟨_, _, rfl, _⟩ := h
  rfl
theorem np_House_initE (W : Cl) (as : List D) (t : Ts) (P : D → Ts → Prop) (Px : PX) (h : sp_House_initE W as t P Px) : nopens as = true := by
  obtain ⟨_, _, rfl, _⟩ := h
  simp [nopens, nopen, nopens_ints]
def d_House_initE (W : Cl) (Px : PX) : IS := (iThen (iGuardX (dNot (dB (dCall sp_is_base [] (dCons (dVar 1) dNil)))) .BadHouse "k" Px) (iThen (iGuardX (dNot (dB (dCall sp_is_beginning [] (dCons (dVar 1) (dCons (dVar 2) dNil))))) .BadHouse "beginning" Px) (iThen (iSet "kept_base" (dVar 1)) (iThen (iSet "kept_beginning" (dCB bList (dCons (dVar 2) dNil))) (iSums 2 3)))))
theorem isBeg_hou {b : Int} {bs : List Int} (h1 : 2 ≤ b) (h2 : b ≤ 30) (h : isBeg b (.lst (bs.map .int)) = true) : Hou b bs := by
  have h : (decide (((bs.map D.int).length : Int) = b - 1) && (bs.map D.int).all isCount) = true := h
  rw [List.length_map, all_map_int, Bool.and_eq_true, decide_eq_true_eq, List.all_eq_true] at h
  refine ⟨h1, h2, h.1, fun x hx => ?_⟩
  have := of_decide_eq_true (h.2 x hx)
  omega
theorem d_House_initE_ok (W : Cl) (as : List D) (t : Ts) (P : D → Ts → Prop) (Px : PX) (x : Addr) (h : sp_House_initE W as t P Px) : d_House_initE W (fun c d t' => t' = t ∧ Px c d t) (fun ns l env t' => t' = t ∧ P (.ins W.House ns l) t) [] [] (startI x ["k", "beginning", "many"] as) t := by
  obtain ⟨b, bs, rfl, hl, k, kx⟩ := h
  conv => whnf
  refine ⟨_, rfl, ⟨_, rfl⟩, ?_⟩
  conv => whnf
  by_cases hb : 2 ≤ b ∧ b ≤ 30
  rotate_left
  · refine br_nn hb ?_
    exact ⟨rfl, kx (fun z => hb ⟨z.b2, z.b30⟩) _⟩
  refine br_ne hb ?_
  conv => whnf
  refine ⟨_, _, rfl, ⟨_, rfl⟩, fun l hl' => ?_, ?_⟩
  · rcases hl' with z | z
    · cases z
      exact ⟨by rw [List.length_map]; omega, tnOk_ints bs⟩
    · cases z
  cases hq : isBeg b (.lst (bs.map .int)) with
  | false =>
    conv => whnf
    exact ⟨rfl, kx (fun z => by rw [beg_lst z] at hq; cases hq) _⟩
  | true =>
    have hh := isBeg_hou hb.1 hb.2 hq
    have hlen := hh.len
    conv => whnf
    refine ⟨⟨rfl, by decide⟩, ?_⟩
    conv => whnf
    refine ⟨⟨rfl, by decide⟩, ?_⟩
    conv => whnf
    exact ⟨bs, rfl, by omega, ⟨rfl, by decide, (show 3 < 4 by decide)⟩, fun s => ⟨rfl, k hh⟩⟩
/-! ### the readers -/
def rhO : List Str → Option (Int × List Int)
  | h :: r => if h = "house" then hosO r else none
  | [] => none
def NoTx (d : D) : Prop := ∃ n, tn d = some n ∧ isa n .str = false
def sp_read_house_3 (W : Cl) : PSpE := fun ds t P Px => ∃ d, ds = [d] ∧ ((∃ x, d = .str x ∧ Az 60000 x ∧ (∀ b bs, rhO (Txt.split x " ") = some (b, bs) → P (hD W b bs) t) ∧ (rhO (Txt.split x " ") = none → Px .Unread (.str x) t)) ∨ (NoTx d ∧ Px .Unread d t))
def sp_read_saying_3 : PSpE := fun ds t P Px => ∃ d, ds = [d] ∧ ((∃ x, d = .str x ∧ Az 60000 x ∧ (∀ s, sayO (Txt.split x " ") = some s → P (syD s) t) ∧ (sayO (Txt.split x " ") = none → Px .Unread (.str x) t)) ∨ (NoTx d ∧ Px .Unread d t))
theorem len_read_house_3 (W : Cl) (as : List D) (t : Ts) (P : D → Ts → Prop) (Px : PX) (h : sp_read_house_3 W as t P Px) : as.length = 1 := by first | (obtain ⟨_, rfl, _⟩ := h; rfl) | (obtain ⟨_, _, rfl, _⟩ := h; rfl) | (obtain ⟨_, _, _, rfl, _⟩ := h; rfl) | (obtain ⟨_, _, _, _, rfl, _⟩ := h; rfl) | (obtain ⟨_, _, _, _, _, rfl, _⟩ := h; rfl) | (obtain ⟨_, _, _, _, _, _, rfl, _⟩ := h; rfl) | (obtain ⟨_, _, _, _, _, _, _, rfl, _⟩ := h; rfl) | (obtain ⟨_, _, _, _, _, _, _, _, rfl, _⟩ := h; rfl)
theorem len_read_saying_3 (as : List D) (t : Ts) (P : D → Ts → Prop) (Px : PX) (h : sp_read_saying_3 as t P Px) : as.length = 1 := by first | (obtain ⟨_, rfl, _⟩ := h; rfl) | (obtain ⟨_, _, rfl, _⟩ := h; rfl) | (obtain ⟨_, _, _, rfl, _⟩ := h; rfl) | (obtain ⟨_, _, _, _, rfl, _⟩ := h; rfl) | (obtain ⟨_, _, _, _, _, rfl, _⟩ := h; rfl) | (obtain ⟨_, _, _, _, _, _, rfl, _⟩ := h; rfl) | (obtain ⟨_, _, _, _, _, _, _, rfl, _⟩ := h; rfl) | (obtain ⟨_, _, _, _, _, _, _, _, rfl, _⟩ := h; rfl)
def d_read_house_3 (W : Cl) (Px : PX) : DS := (dSeq (dIf (dNot (dB (dIsi [.str] (dVar 0)))) (dSeq (dRaiseE .Unread Px (dCons (dVar 0) dNil)) dNext) dNext) (dSeq (dAsg (dSplit (dVar 0) (dC (.str " "))) (gName 1)) (dSeq (dAsg (dLc [3] (iSeq (dOp oAdd (dSlice (dVar 1) (dPart (dC (.int 1))) (dPart (dC (.int 2)))) (dSlice (dVar 1) (dPart (dC (.int 3))) dNoPart))) (gName 3) dYes (dCall sp_figures_of [] (dCons (dVar 3) dNil))) (gName 2)) (dSeq (dIf (dOr (dB (dOp oNe (dSlice (dVar 1) dNoPart (dPart (dC (.int 1)))) (dLst (dCons (dC (.str "house")) dNil)))) (dOr (dB (dOp oNe (dSlice (dVar 1) (dPart (dC (.int 2))) (dPart (dC (.int 3)))) (dLst (dCons (dC (.str "by")) dNil)))) (dB (dOp oInDL (dC .non) (dVar 2))))) (dSeq (dRaiseE .Unread Px (dCons (dVar 0) dNil)) dNext) dNext) (dSeq (dTryE (zCall (sp_House_initE W) (dCons (dOp oIx (dVar 2) (dC (.int 0))) (dCons (dSlice (dVar 2) (dPart (dC (.int 1))) dNoPart) dNil))) kRet (hOn .BadHouse (hDo (dSeq (dRaiseE .Unread Px (dCons (dVar 0) dNil)) dNext)) (hNone Px))) dNext)))))
def d_read_saying_3 (Px : PX) : DS := (dSeq (dIf (dNot (dB (dIsi [.str] (dVar 0)))) (dSeq (dRaiseE .Unread Px (dCons (dVar 0) dNil)) dNext) dNext) (dSeq (dAsg (dCall sp_saying_of_2 [] (dCons (dSplit (dVar 0) (dC (.str " "))) dNil)) (gName 1)) (dSeq (dIf (dB (dOp oIsN (dVar 1) (dC .non))) (dSeq (dRaiseE .Unread Px (dCons (dVar 0) dNil)) dNext) dNext) (dSeq (dRet (dVar 1)) dNext))))
theorem txW_az {n : Nat} {ws : List Str} (h : ∀ w ∈ ws, Az n w) (hn : n ≤ 15000000) : TxW ws := fun w hw => (h w hw).tx hn
theorem deq_one (x y : Str) : deq (.lst [.str x]) (.lst [.str y]) = decide (x = y) := by
  show (decide (x = y) && true) = _
  rw [Bool.and_true]
theorem pl_one (x : Str) (h : plain (.str x) = true) : plain (.lst [.str x]) = true := by
  show (plain (.str x) && true) = true
  rw [h]
  rfl
theorem d_read_house_3_ok (W : Cl) (as : List D) (t : Ts) (P : D → Ts → Prop) (Px : PX) (h : sp_read_house_3 W as t P Px) : d_read_house_3 W Px (endsOf P) (start0 ["text", "words", "numbers", "word"] as) t := by
  obtain ⟨d, rfl, ⟨x, rfl, hx, k, kx⟩ | ⟨hn, kx⟩⟩ := h
  rotate_left
  · obtain ⟨n, en, hn⟩ := hn
    cases d <;> first
      | (cases en; done)
      | (cases en; exact absurd hn (by decide))
      | (conv => whnf
         exact kx)
  have lx := hx.l
  have sc := split_cnt x
  have hw := az_split hx
  obtain ⟨h, r0, ew⟩ : ∃ h r, Txt.split x " " = h :: r := by
    cases hq : Txt.split x " " with
    | nil => rw [hq] at sc; simp at sc
    | cons h r => exact ⟨h, r, rfl⟩
  rw [ew] at sc hw k kx
  have hW : TxW (h :: r0) := txW_az hw (by decide)
  have lw : ∀ w ∈ h :: r0, w.length ≤ zLen := fun w hm => by have := (hW w hm).1; unfold zLen; omega
  have c0 : cutD ((h :: r0).map D.str) none (some 1) = [.str h] := cutT0 D.str (h :: r0) 1
  have c1 : cutD ((h :: r0).map D.str) (some 1) (some 2) = (r0.take 1).map D.str := cut12 D.str h r0 1
  have c2 : cutD ((h :: r0).map D.str) (some 2) (some 3) = ((r0.drop 1).take 1).map D.str := cut12 D.str h r0 2
  have c3 : cutD ((h :: r0).map D.str) (some 3) none = (r0.drop 2).map D.str := cutF D.str (h :: r0) 3
  simp only [List.length_cons] at sc
  conv => whnf
  refine ⟨by decide +kernel, ?_⟩
  conv => whnf
  refine ⟨by unfold zLen; omega, ?_⟩
  conv => whnf
  rw [ew, c1, c3]
  have lt : (r0.take 1).length ≤ 1 := by rw [List.length_take]; omega
  have ld : (r0.drop 2).length ≤ r0.length := by rw [List.length_drop]; omega
  refine ⟨by rw [List.length_map, List.length_map]; unfold zLen; omega, ?_⟩
  conv => whnf
  rw [← List.map_append]
  have hm : ∀ w ∈ r0.take 1 ++ r0.drop 2, w ∈ h :: r0 := fun w z => by
    rcases List.mem_append.mp z with z | z
    · exact List.mem_cons_of_mem _ (List.mem_of_mem_take z)
    · exact List.mem_cons_of_mem _ (List.mem_of_mem_drop z)
  refine lc_map (fun d => match d with | .str w => fO w | d => d) (by rw [List.length_map, List.length_append]; unfold zLen; omega) (fun i x hx Qy q => ?_) ?_
  · obtain ⟨w, hw1, rfl⟩ := getmap hx
    refine ⟨rfl, ?_⟩
    conv => whnf
    exact ⟨w, rfl, lw w (hm w (List.mem_of_getElem? hw1)), q⟩
  have ei : ((r0.take 1 ++ r0.drop 2).map D.str).map (fun d => match d with | .str w => fO w | d => d) = (r0.take 1 ++ r0.drop 2).map fO := by
    rw [List.map_map]
    rfl
  rw [ei]
  conv => whnf
  rw [c0]
  have z1 : plain (.str ("house" : Str)) = true := by decide +kernel
  have z2 : plain (.str ("by" : Str)) = true := by decide +kernel
  refine ⟨⟨pl_one h (hW h (List.mem_cons_self ..)).2, pl_one _ z1, by show 0 + 1 ≤ 60; decide, by decide⟩, ?_⟩
  rw [deq_one]
  by_cases hh : h = "house"
  rotate_left
  · have ek : rhO (h :: r0) = none := if_neg hh
    refine br_nn hh ?_
    exact kx ek
  have ek : rhO (h :: r0) = hosO r0 := if_pos hh
  rw [ek] at k kx
  refine br_ne hh ?_
  conv => whnf
  rw [c2]
  match r0, hW, lw, c0, c1, c2, c3, k, kx, sc with
  | [], _, _, _, _, _, _, k, kx, _ =>
    refine ⟨⟨rfl, pl_one _ z2, by decide, by decide⟩, ?_⟩
    conv => whnf
    exact kx rfl
  | [w], _, _, _, _, _, _, k, kx, _ =>
    refine ⟨⟨rfl, pl_one _ z2, by show 0 + 1 ≤ 60; decide, by decide⟩, ?_⟩
    conv => whnf
    exact kx rfl
  | w :: y :: r, hW, lw, c0, c1, c2, c3, k, kx, sc =>
    have py := (hW y (by simp)).2
    refine ⟨⟨pl_one y py, pl_one _ z2, by show 0 + 1 ≤ 60; decide, by decide⟩, ?_⟩
    have ed : deq (.lst ((((w :: y :: r).drop 1).take 1).map D.str)) (.lst [.str ("by" : Str)]) = decide (y = "by") := deq_one y "by"
    rw [ed]
    by_cases hy : y = "by"
    rotate_left
    · refine br_nn hy ?_
      exact kx (if_neg hy)
    refine br_ne hy ?_
    have eh : hosO (w :: y :: r) = (match figO (tl w), allO r with | some b, some bs => if houB b bs = true then some (b, bs) else none | _, _ => none) := if_pos hy
    rw [eh] at k kx
    have el : (w :: y :: r).take 1 ++ (w :: y :: r).drop 2 = w :: r := rfl
    rw [el]
    conv => whnf
    refine ⟨fOs_ok (w :: r), ?_⟩
    cases ha : allO (w :: r) with
    | none =>
      rw [allO_none ha]
      conv => whnf
      refine kx ?_
      cases hf : figO (tl w) with
      | none => rfl
      | some b =>
        cases hr : allO r with
        | none => rfl
        | some bs =>
          have : allO (w :: r) = some (b :: bs) := by
            show (match figO (tl w), allO r with | some i, some l => some (i :: l) | _, _ => none) = _
            rw [hf, hr]
          rw [this] at ha
          cases ha
    | some l =>
      obtain ⟨b, bs, hf, hr, rfl⟩ : ∃ b bs, figO (tl w) = some b ∧ allO r = some bs ∧ l = b :: bs := by
        have h : (match figO (tl w), allO r with | some i, some l => some (i :: l) | _, _ => none) = some l := ha
        split at h
        · rename_i i l' h1 h2
          cases h
          exact ⟨_, _, h1, h2, rfl⟩
        · cases h
      rw [hf, hr] at k kx
      have e1 := allO_some ha
      have lb := allO_pos hr
      rw [e1, no_non]
      conv => whnf
      refine ⟨_, at0_d, ?_⟩
      conv => whnf
      rw [show cutD ((b :: bs).map D.int) (some 1) none = bs.map .int from cutF D.int (b :: bs) 1]
      simp only [List.length_cons] at sc
      refine ⟨b, bs, rfl, by omega, fun hh => ?_, fun hn m => ?_⟩
      · exact k b bs (if_pos (houB_of.mpr hh))
      · exact kx (if_neg fun z => hn (houB_of.mp z))
theorem d_read_saying_3_ok (as : List D) (t : Ts) (P : D → Ts → Prop) (Px : PX) (h : sp_read_saying_3 as t P Px) : d_read_saying_3 Px (endsOf P) (start0 ["text", "saying"] as) t := by
  obtain ⟨d, rfl, ⟨x, rfl, hx, k, kx⟩ | ⟨hn, kx⟩⟩ := h
  rotate_left
  · obtain ⟨n, en, hn⟩ := hn
    cases d <;> first
      | (cases en; done)
      | (cases en; exact absurd hn (by decide))
      | (conv => whnf
         exact kx)
  have lx := hx.l
  have hw := az_split hx
  conv => whnf
  refine ⟨by decide +kernel, ?_⟩
  conv => whnf
  refine ⟨by unfold zLen; omega, ?_⟩
  conv => whnf
  refine ⟨_, rfl, txW_az hw (by decide), ?_⟩
  cases hs : sayO (Txt.split x " ") with
  | none =>
    conv => whnf
    exact kx hs
  | some s =>
    have k := k s hs
    obtain ⟨w, p, q⟩ := s
    cases w <;> (conv => whnf
                 exact k)
end Q
/-! M_k89d -/
namespace Q
open PySem
theorem nt_azk {i : Int} {k : Nat} (h0 : 0 ≤ i) (hk : 0 < k) (h : i < 10 ^ k) : Az k (nt i) := ⟨nt_len h0 hk h, fun c hc => by
  rw [tl_nt h0] at hc
  have := TL.numL_digits _ c hc
  omega⟩
theorem atI_mem {α : Type} (f : α → D) {l : List α} {i : Int} (h0 : 0 ≤ i) (h : i < l.length) : ∃ y ∈ l, atI (l.map f) i = some (f y) := by
  have hi : i.toNat < l.length := by omega
  refine ⟨l[i.toNat], List.getElem_mem hi, ?_⟩
  unfold atI
  rw [if_pos h0, if_pos (by rw [List.length_map]; exact h), List.getElem?_map, List.getElem?_eq_getElem hi]
  rfl
theorem atC_ex {z : List Nat} {i : Int} (h0 : 0 ≤ i) (h : i < z.length) : ∃ c, atC z i = some c := by
  have hi : i.toNat < z.length := by omega
  refine ⟨z[i.toNat], ?_⟩
  unfold atC
  rw [if_pos h0, if_pos h, List.getElem?_eq_getElem hi]
/-! ### a row, right or spoilt -/
def sp__law_row_4 : PSp := fun ds t P => ∃ n, ds = [.pen] ∧ Pk n t ∧ n < 80000000 ∧ ∀ x t', Az 100 x → Pk (n + 200) t' → P (.str x) t'
theorem len__law_row_4 (as : List D) (t : Ts) (P : D → Ts → Prop) (h : sp__law_row_4 as t P) : as.length = 1 := by first | (obtain ⟨_, rfl, _⟩ := h; rfl) | (obtain ⟨_, _, rfl, _⟩ := h; rfl) | (obtain ⟨_, _, _, rfl, _⟩ := h; rfl) | (obtain ⟨_, _, _, _, rfl, _⟩ := h; rfl) | (obtain ⟨_, _, _, _, _, rfl, _⟩ := h; rfl) | (obtain ⟨_, _, _, _, _, _, rfl, _⟩ := h; rfl) | (obtain ⟨_, _, _, _, _, _, _, rfl, _⟩ := h; rfl) | (obtain ⟨_, _, _, _, _, _, _, _, rfl, _⟩ := h; rfl) | (obtain ⟨_, rfl | rfl, _⟩ := h <;> rfl) | (obtain ⟨_, _, rfl | rfl, _⟩ := h <;> rfl) | (obtain ⟨_, _, _, rfl | rfl, _⟩ := h <;> rfl) | (obtain ⟨_, _, _, _, rfl | rfl, _⟩ := h <;> rfl) | (obtain ⟨_, _, _, _, _, rfl | rfl, _⟩ := h <;> rfl) | (obtain ⟨_, _, _, _, _, _, rfl | rfl, _⟩ := h <;> rfl) | (obtain ⟨_, _, _, _, _, _, _, rfl | rfl, _⟩ := h <;> rfl) | (obtain ⟨_, _, _, _, _, _, _, _, rfl | rfl, _⟩ := h <;> rfl)
def d__law_row_4 : DS := (dSeq (dIf (dB (dOp oEq (dCall sp__law_draw [] (dCons (dVar 0) (dCons (dC (.int 2)) dNil))) (dC (.int 0)))) (dSeq (dAsg (dOp oIx (dLst (dCons (dC (.str " at most ")) (dCons (dC (.str " at least ")) dNil))) (dCall sp__law_draw [] (dCons (dVar 0) (dCons (dC (.int 2)) dNil)))) (gName 2)) (dSeq (dRet (dOp oAdd (dOp oAdd (dCB bStr (dCons (dOp oAdd (dC (.int 1)) (dCall sp__law_draw [] (dCons (dVar 0) (dCons (dOp oPow (dC (.int 10)) (dC (.int 6))) dNil)))) dNil)) (dVar 2)) (dCB bStr (dCons (dOp oAdd (dC (.int 1)) (dCall sp__law_draw [] (dCons (dVar 0) (dCons (dC (.int 99)) dNil)))) dNil)))) dNext)) dNext) (dSeq (dAsg (dOp oAdd (dC (.int 2)) (dCall sp__law_draw [] (dCons (dVar 0) (dCons (dC (.int 5)) dNil)))) (gName 1)) (dSeq (dRet (dOp oAdd (dOp oAdd (dOp oAdd (dC (.str "house ")) (dCB bStr (dCons (dVar 1) dNil))) (dC (.str " by "))) (dJoin (dC (.str " ")) (dLc [3] (iSeq (dCall sp__law_beginning [] (dCons (dVar 0) (dCons (dVar 1) (dCons (dC (.int 99)) dNil))))) (gName 3) dYes (dCB bStr (dCons (dVar 3) dNil)))))) dNext)))
theorem d__law_row_4_ok (as : List D) (t : Ts) (P : D → Ts → Prop) (h : sp__law_row_4 as t P) : d__law_row_4 (endsOf P) (start0 ["_law_pen_here", "_law_base", "_law_bound", "_law_many"] as) t := by
  obtain ⟨n, rfl, hp, hn, k⟩ := h
  conv => whnf
  refine ⟨_, _, rfl, by first | omega | decide, (sm64 (by first | omega | decide) (by first | omega | decide)).mono (by decide), hp, by omega, fun x t1 x0 x1 pt1 => ?_⟩
  conv => whnf
  by_cases hx : x = 0
  · rw [decide_eq_true hx]
    conv => whnf
    refine ⟨_, _, rfl, by first | omega | decide, (sm64 (by first | omega | decide) (by first | omega | decide)).mono (by decide), pt1, by omega, fun y t2 y0 y1 pt2 => ?_⟩
    conv => whnf
    have row : ∀ m : Str, Az 10 m → (dSeq (dRet (dOp oAdd (dOp oAdd (dCB bStr (dCons (dOp oAdd (dC (.int 1)) (dCall sp__law_draw [] (dCons (dVar 0) (dCons (dOp oPow (dC (.int 10)) (dC (.int 6))) dNil)))) dNil)) (dVar 2)) (dCB bStr (dCons (dOp oAdd (dC (.int 1)) (dCall sp__law_draw [] (dCons (dVar 0) (dCons (dC (.int 99)) dNil)))) dNil)))) dNext) (endsOf P) [.val .pen, .no, .val (.str m), .no] t2 := fun m hm => by
      conv => whnf
      refine ⟨PowOk.s (by decide) (by decide) (by decide) (by decide), ?_⟩
      conv => whnf
      refine ⟨_, _, rfl, by first | omega | decide, (sm64 (by first | omega | decide) (by first | omega | decide)).mono (by decide), pt2, by omega, fun a t3 a0 a1 pt3 => ?_⟩
      conv => whnf
      have a2 : a < 1000000 := a1
      have za := nt_azk (i := 1 + a) (k := 9) (by omega) (by decide) (by omega)
      have la := za.l
      have lm := hm.l
      refine ⟨log_bnd (by omega) (Int.lt_of_lt_of_le (show 1 + a < 10 ^ 9 by omega) (by decide)), ?_⟩
      conv => whnf
      refine ⟨by show (nt (1 + a)).length + m.length ≤ zLen; unfold zLen; omega, ?_⟩
      conv => whnf
      refine ⟨_, _, rfl, by first | omega | decide, (sm64 (by first | omega | decide) (by first | omega | decide)).mono (by decide), pt3, by omega, fun b t4 b0 b1 pt4 => ?_⟩
      conv => whnf
      have zb := nt_azk (i := 1 + b) (k := 9) (by omega) (by decide) (by omega)
      have lb := zb.l
      refine ⟨log_bnd (by omega) (Int.lt_of_lt_of_le (show 1 + b < 10 ^ 9 by omega) (by decide)), ?_⟩
      conv => whnf
      refine ⟨by rw [len_app]; show (nt (1 + a)).length + m.length + (nt (1 + b)).length ≤ zLen; unfold zLen; omega, ?_⟩
      conv => whnf
      exact k _ _ (az_app (az_app za hm (Nat.le_refl _)) zb (by decide)) (pt4.mono (by omega))
    obtain rfl | rfl : y = 0 ∨ y = 1 := by omega
    · refine ⟨_, rfl, ?_⟩
      conv => whnf
      exact row _ (az_of (by decide +kernel))
    · refine ⟨_, rfl, ?_⟩
      conv => whnf
      exact row _ (az_of (by decide +kernel))
  · rw [decide_eq_false hx]
    conv => whnf
    refine ⟨_, _, rfl, by first | omega | decide, (sm64 (by first | omega | decide) (by first | omega | decide)).mono (by decide), pt1, by omega, fun y t2 y0 y1 pt2 => ?_⟩
    conv => whnf
    have e6 : (("house " : Str)).length = 6 := by decide +kernel
    have e4 : ((" by " : Str)).length = 4 := by decide +kernel
    have zy := nt_azk (i := 2 + y) (k := 9) (by omega) (by decide) (by omega)
    have ly := zy.l
    refine ⟨log_bnd (by omega) (Int.lt_of_lt_of_le (show 2 + y < 10 ^ 9 by omega) (by decide)), ?_⟩
    conv => whnf
    refine ⟨by rw [e6]; show 6 + (nt (2 + y)).length ≤ zLen; unfold zLen; omega, ?_⟩
    conv => whnf
    refine ⟨by rw [len_app, e6, e4]; show 6 + (nt (2 + y)).length + 4 ≤ zLen; unfold zLen; omega, ?_⟩
    conv => whnf
    refine ⟨2 + y, 99, _, rfl, by omega, by omega, by decide, (sm64 (by decide) (by decide)).mono (by decide), pt2, by omega, fun bs t3 hh hb pt3 => ?_⟩
    have hlen := hh.len
    have zb : ∀ w ∈ bs.map nt, Az 9 w := fun w hw => by
      obtain ⟨z, hz, rfl⟩ := List.mem_map.mp hw
      have h1 := hh.pos z hz
      have h2 := hb z hz
      exact nt_azk (by omega) (by decide) (by omega)
    conv => whnf
    refine lc_map (fun d => match d with | .int i => D.str (nt i) | d => d) (by rw [List.length_map]; unfold zLen; omega) (fun i x hx Qy q => ?_) ?_
    · obtain ⟨z, hz, rfl⟩ := getmap hx
      have h1 := hh.pos z (List.mem_of_getElem? hz)
      have h2 := hb z (List.mem_of_getElem? hz)
      refine ⟨rfl, ?_⟩
      conv => whnf
      exact ⟨log_bnd (by omega) (Int.lt_of_lt_of_le (show z < 10 ^ 9 by omega) (by decide)), q⟩
    have ei : (bs.map D.int).map (fun d => match d with | .int i => D.str (nt i) | d => d) = (bs.map nt).map D.str := by
      rw [List.map_map, List.map_map]
      rfl
    rw [ei]
    conv => whnf
    have lB : (bs.map nt).length ≤ 5 := by rw [List.length_map]; omega
    have zj := az_join zb lB
    have lj := zj.l
    refine ⟨bs.map nt, rfl, join_ok zb lB (by decide), ?_⟩
    conv => whnf
    refine ⟨by simp only [len_app]; rw [e6, e4]; show 6 + (nt (2 + y)).length + 4 + _ ≤ zLen; unfold zLen; omega, ?_⟩
    conv => whnf
    exact k _ _ (az_app (az_app (az_app (az_of (n := 6) (by decide +kernel)) zy (Nat.le_refl _)) (az_of (n := 4) (by decide +kernel)) (Nat.le_refl _)) zj (by decide)) (pt3.mono (by omega))
def sp__law_spoilt_2 : PSp := fun ds t P => ∃ x n, ds = [.pen, .str x] ∧ Az 100 x ∧ Pk n t ∧ n < 80000000 ∧ ∀ y t', Az 60000 y → Pk (n + 10) t' → P (.str y) t'
theorem len__law_spoilt_2 (as : List D) (t : Ts) (P : D → Ts → Prop) (h : sp__law_spoilt_2 as t P) : as.length = 2 := by first | (obtain ⟨_, rfl, _⟩ := h; rfl) | (obtain ⟨_, _, rfl, _⟩ := h; rfl) | (obtain ⟨_, _, _, rfl, _⟩ := h; rfl) | (obtain ⟨_, _, _, _, rfl, _⟩ := h; rfl) | (obtain ⟨_, _, _, _, _, rfl, _⟩ := h; rfl) | (obtain ⟨_, _, _, _, _, _, rfl, _⟩ := h; rfl) | (obtain ⟨_, _, _, _, _, _, _, rfl, _⟩ := h; rfl) | (obtain ⟨_, _, _, _, _, _, _, _, rfl, _⟩ := h; rfl) | (obtain ⟨_, rfl | rfl, _⟩ := h <;> rfl) | (obtain ⟨_, _, rfl | rfl, _⟩ := h <;> rfl) | (obtain ⟨_, _, _, rfl | rfl, _⟩ := h <;> rfl) | (obtain ⟨_, _, _, _, rfl | rfl, _⟩ := h <;> rfl) | (obtain ⟨_, _, _, _, _, rfl | rfl, _⟩ := h <;> rfl) | (obtain ⟨_, _, _, _, _, _, rfl | rfl, _⟩ := h <;> rfl) | (obtain ⟨_, _, _, _, _, _, _, rfl | rfl, _⟩ := h <;> rfl) | (obtain ⟨_, _, _, _, _, _, _, _, rfl | rfl, _⟩ := h <;> rfl)
def d__law_spoilt_2 : DS := (dSeq (dPar 4 5 (dCons (dSplit (dVar 1) (dC (.str " "))) (dCons (dCall sp__law_draw [] (dCons (dVar 0) (dCons (dOp oAdd (dCB bLen (dCons (dVar 1) dNil)) (dC (.int 1))) dNil))) dNil))) (dSeq (dPar 6 7 (dCons (dCall sp__law_draw [] (dCons (dVar 0) (dCons (dCB bLen (dCons (dVar 4) dNil)) dNil))) (dCons (dC (.str "0123456789 abtbymostlesiT-_\t")) dNil))) (dSeq (dAsg (dOp oIxS (dVar 7) (dCall sp__law_draw [] (dCons (dVar 0) (dCons (dCB bLen (dCons (dVar 7) dNil)) dNil)))) (gName 2)) (dSeq (dAsgN 3 (dLst (dCons (dOp oAdd (dOp oAdd (dSliceS (dVar 1) dNoPart (dPart (dVar 5))) (dVar 2)) (dSliceS (dVar 1) (dPart (dVar 5)) dNoPart)) (dCons (dOp oAdd (dSliceS (dVar 1) dNoPart (dPart (dVar 5))) (dSliceS (dVar 1) (dPart (dOp oAdd (dVar 5) (dC (.int 1)))) dNoPart)) (dCons (dOp oAdd (dOp oAdd (dSliceS (dVar 1) dNoPart (dPart (dVar 5))) (dVar 2)) (dSliceS (dVar 1) (dPart (dOp oAdd (dVar 5) (dC (.int 1)))) dNoPart)) dNil))))) (dSeq (dAsgN 3 (dOp oCat (dView 3) (dLst (dCons (dOp oAdd (dVar 1) (dC (.str " "))) (dCons (dOp oAdd (dC (.str " ")) (dVar 1)) (dCons (dC (.str "")) (dCons (dJoin (dC (.str " ")) (dOp oAdd (dSlice (dVar 4) dNoPart (dPart (dVar 6))) (dSlice (dVar 4) (dPart (dOp oAdd (dVar 6) (dC (.int 1)))) dNoPart))) dNil))))))) (dSeq (dAsgN 3 (dOp oCat (dView 3) (dLst (dCons (dJoin (dC (.str " ")) (dOp oAdd (dSlice (dVar 4) dNoPart (dPart (dOp oAdd (dVar 6) (dC (.int 1))))) (dSlice (dVar 4) (dPart (dVar 6)) dNoPart))) (dCons (dOp oAdd (dVar 1) (dC (.str " 1"))) (dCons (dUpper (dVar 1)) (dCons (dOp oIx (dVar 4) (dC (.int 0))) (dCons (dOp oAdd (dC (.str "0")) (dVar 1)) dNil)))))))) (dSeq (dApp 3 (dJoin (dC (.str " ")) (dOp oAdd (dOp oAdd (dSlice (dVar 4) dNoPart (dPart (dVar 6))) (dLst (dCons (dOp oIx (dLst (dCons (dC (.str "1")) (dCons (dC (.str "0")) (dCons (dC (.str "31")) (dCons (dOp oMulS (dC (.str "9")) (dC (.int 200))) (dCons (dOp oMulS (dC (.str "9")) (dC (.int 201))) dNil)))))) (dCall sp__law_draw [] (dCons (dVar 0) (dCons (dC (.int 5)) dNil)))) dNil))) (dSlice (dVar 4) (dPart (dOp oAdd (dVar 6) (dC (.int 1)))) dNoPart)))) (dSeq (dFrz 3) (dSeq (dRet (dOp oIx (dView 3) (dCall sp__law_draw [] (dCons (dVar 0) (dCons (dC (.int 13)) dNil))))) dNext)))))))))
theorem d__law_spoilt_2_ok (as : List D) (t : Ts) (P : D → Ts → Prop) (h : sp__law_spoilt_2 as t P) : d__law_spoilt_2 (endsOf P) (start0 ["_law_pen_here", "_law_row_here", "_law_other", "_law_some", "_law_words", "_law_at", "_law_spot", "_law_signs"] as) t := by
  obtain ⟨x, n, rfl, hx, hp, hn, k⟩ := h
  have lx := hx.l
  have sc := split_cnt x
  have hw := az_split hx
  conv => whnf
  refine ⟨by decide +kernel, ?_⟩
  conv => whnf
  refine ⟨by unfold zLen; omega, ?_⟩
  conv => whnf
  refine ⟨by unfold zLen; omega, ?_⟩
  conv => whnf
  generalize Txt.split x " " = ws at sc hw ⊢
  refine ⟨_, _, rfl, by first | omega | decide, (sm64 (by first | omega | decide) (by first | omega | decide)).mono (by decide), hp, by omega, fun a t1 a0 a1 pt1 => ?_⟩
  conv => whnf
  rw [strs_len]
  refine ⟨_, _, rfl, by first | omega | decide, (sm64 (by first | omega | decide) (by first | omega | decide)).mono (by decide), pt1, by omega, fun b t2 b0 b1 pt2 => ?_⟩
  conv => whnf
  have e27 : (("0123456789 abtbymostlesiT-_\t" : Str)).length = 28 := by decide +kernel
  have z27 : Az 28 (("0123456789 abtbymostlesiT-_\t" : Str)) := az_of (by decide +kernel)
  generalize (("0123456789 abtbymostlesiT-_\t" : Str)) = sgs at e27 z27 ⊢
  refine ⟨by rw [e27]; unfold zLen; decide, ?_⟩
  conv => whnf
  rw [e27]
  refine ⟨_, _, rfl, by first | omega | decide, (sm64 (by first | omega | decide) (by first | omega | decide)).mono (by decide), pt2, by omega, fun c t3 c0 c1 pt3 => ?_⟩
  conv => whnf
  obtain ⟨cc, hc⟩ := atC_ex (z := sgs.cps.toList) c0 (by rw [len_toList, e27]; exact c1)
  refine ⟨by rw [e27]; unfold zLen; decide, cc, hc, ?_⟩
  have zo := az_sg z27 hc
  generalize sg cc = o at zo ⊢
  conv => whnf
  -- the pieces
  obtain ⟨na, rfl⟩ := Int.eq_ofNat_of_zero_le a0
  obtain ⟨nb, rfl⟩ := Int.eq_ofNat_of_zero_le b0
  have s1 := az_cut hx none (some ((na : Nat) : Int))
  have s2 := az_cut hx (some ((na : Nat) : Int)) none
  have s3 := az_cut hx (some (((na : Nat) : Int) + 1)) none
  have cW1 : cutD (ws.map D.str) none (some ((nb : Nat) : Int)) = (ws.take nb).map D.str := cutT0 D.str ws nb
  have cW2 : cutD (ws.map D.str) (some (((nb : Nat) : Int) + 1)) none = (ws.drop (nb + 1)).map D.str := cutF D.str ws (nb + 1)
  have cW3 : cutD (ws.map D.str) none (some (((nb : Nat) : Int) + 1)) = (ws.take (nb + 1)).map D.str := cutT0 D.str ws (nb + 1)
  have cW4 : cutD (ws.map D.str) (some ((nb : Nat) : Int)) none = (ws.drop nb).map D.str := cutF D.str ws nb
  have t1l : ∀ m, (ws.take m).length ≤ 101 := fun m => by rw [List.length_take]; omega
  have t2l : ∀ m, (ws.drop m).length ≤ 101 := fun m => by rw [List.length_drop]; omega
  have jn : ∀ m m', (∀ w ∈ ws.take m ++ ws.drop m', Az 100 w) ∧ (ws.take m ++ ws.drop m').length ≤ 202 := fun m m' => ⟨fun w hm => by
    rcases List.mem_append.mp hm with z | z
    · exact hw w (List.mem_of_mem_take z)
    · exact hw w (List.mem_of_mem_drop z), by rw [List.length_append]; have := t1l m; have := t2l m'; omega⟩
  have hx1 := s1.l
  have hx2 := s2.l
  have hx3 := s3.l
  have ho1 := zo.l
  have q1 : ((" " : Str)).length = 1 := by decide +kernel
  have q2 : ((" 1" : Str)).length = 2 := by decide +kernel
  have q3 : (("0" : Str)).length = 1 := by decide +kernel
  have q0 : (("" : Str)).length = 0 := by decide +kernel
  repeat (refine And.intro (by first | (unfold zLen; omega) | (simp only [len_app, q0, q1, q2, q3]; unfold zLen; omega) | (simp only [List.length_append, List.length_cons, List.length_nil]; unfold zLen; omega)) ?_; conv => whnf)
  rw [cW1, cW2]
  have u1 := t1l nb
  have u2 := t2l (nb + 1)
  have u3 := t1l (nb + 1)
  have u4 := t2l nb
  have j1 := jn nb (nb + 1)
  have j2 := jn (nb + 1) nb
  have z1 := az_join j1.1 j1.2
  have z2 := az_join j2.1 j2.2
  refine ⟨by rw [List.length_map, List.length_map]; unfold zLen; omega, ?_⟩
  conv => whnf
  rw [← List.map_append]
  refine ⟨_, rfl, join_ok j1.1 j1.2 (by decide), ?_⟩
  conv => whnf
  repeat (refine And.intro (by first | (unfold zLen; omega) | (simp only [len_app, q0, q1, q2, q3]; unfold zLen; omega) | (simp only [List.length_append, List.length_cons, List.length_nil]; unfold zLen; omega)) ?_; conv => whnf)
  rw [cW3, cW4]
  refine ⟨by rw [List.length_map, List.length_map]; unfold zLen; omega, ?_⟩
  conv => whnf
  rw [← List.map_append]
  refine ⟨_, rfl, join_ok j2.1 j2.2 (by decide), ?_⟩
  conv => whnf
  repeat (refine And.intro (by first | (unfold zLen; omega) | (simp only [len_app, q0, q1, q2, q3]; unfold zLen; omega) | (simp only [List.length_append, List.length_cons, List.length_nil]; unfold zLen; omega)) ?_; conv => whnf)
  refine ⟨by omega, ?_⟩
  conv => whnf
  obtain ⟨w0, hw0, ew0⟩ := atI_mem D.str (l := ws) (i := 0) (by decide) (by omega)
  refine ⟨_, ew0, ?_⟩
  conv => whnf
  repeat (refine And.intro (by first | (unfold zLen; omega) | (simp only [len_app, q0, q1, q2, q3]; unfold zLen; omega) | (simp only [List.length_append, List.length_cons, List.length_nil]; unfold zLen; omega)) ?_; conv => whnf)
  rw [cW1]
  refine ⟨⟨by decide, by decide, by decide +kernel⟩, ?_⟩
  conv => whnf
  refine ⟨⟨by decide, by decide, by decide +kernel⟩, ?_⟩
  conv => whnf
  refine ⟨_, _, rfl, by first | omega | decide, (sm64 (by first | omega | decide) (by first | omega | decide)).mono (by decide), pt3, by omega, fun e t4 e0 e1 pt4 => ?_⟩
  conv => whnf
  have k5 : ∀ i : Int, 0 ≤ i → i < 5 → ∃ y : Str, atI [.str "1", .str "0", .str "31", .str (Txt.mul ("9" : Str) 200), .str (Txt.mul ("9" : Str) 201)] i = some (.str y) ∧ Az 201 y := fun i h0 h5 => by
    have l1 : Az 201 (("1" : Str)) := az_of (by decide +kernel)
    have l2 : Az 201 (("0" : Str)) := az_of (by decide +kernel)
    have l3 : Az 201 (("31" : Str)) := az_of (by decide +kernel)
    have l4 : Az 201 (Txt.mul ("9" : Str) 200) := (az_mul (j := 200) (by decide)).mono (by decide)
    have l5 : Az 201 (Txt.mul ("9" : Str) 201) := (az_mul (j := 201) (by decide)).mono (by decide)
    obtain rfl | rfl | rfl | rfl | rfl : i = 0 ∨ i = 1 ∨ i = 2 ∨ i = 3 ∨ i = 4 := by omega
    · exact ⟨_, rfl, l1⟩
    · exact ⟨_, rfl, l2⟩
    · exact ⟨_, rfl, l3⟩
    · exact ⟨_, rfl, l4⟩
    · exact ⟨_, rfl, l5⟩
  obtain ⟨y5, ey5, zy5⟩ := k5 e e0 e1
  refine ⟨_, ey5, ?_⟩
  conv => whnf
  refine ⟨by rw [List.length_map]; show (ws.take nb).length + 1 ≤ zLen; unfold zLen; omega, ?_⟩
  conv => whnf
  rw [cW2]
  refine ⟨by rw [List.length_append, List.length_map, List.length_map]; show (ws.take nb).length + 1 + (ws.drop (nb + 1)).length ≤ zLen; unfold zLen; omega, ?_⟩
  conv => whnf
  have em : (ws.take nb).map D.str ++ [.str y5] ++ (ws.drop (nb + 1)).map D.str = (ws.take nb ++ [y5] ++ ws.drop (nb + 1)).map D.str := by simp
  rw [em]
  have j3 : (∀ w ∈ ws.take nb ++ [y5] ++ ws.drop (nb + 1), Az 201 w) ∧ (ws.take nb ++ [y5] ++ ws.drop (nb + 1)).length ≤ 203 := ⟨fun w hm => by
    rcases List.mem_append.mp hm with z | z
    · rcases List.mem_append.mp z with z | z
      · exact (hw w (List.mem_of_mem_take z)).mono (by decide)
      · rw [List.mem_singleton.mp z]
        exact zy5
    · exact (hw w (List.mem_of_mem_drop z)).mono (by decide), by rw [List.length_append, List.length_append, List.length_singleton]; omega⟩
  have z3 := az_join j3.1 j3.2
  refine ⟨_, rfl, join_ok j3.1 j3.2 (by decide), ?_⟩
  conv => whnf
  refine ⟨by simp only [List.length_append, List.length_cons, List.length_nil]; unfold zLen; omega, ?_⟩
  conv => whnf
  refine ⟨_, _, rfl, by first | omega | decide, (sm64 (by first | omega | decide) (by first | omega | decide)).mono (by decide), pt4, by omega, fun f t5 f0 f1 pt5 => ?_⟩
  conv => whnf
  generalize joinC (" " : Str) (ws.take nb ++ ws.drop (nb + 1)) = J1 at z1 ⊢
  generalize joinC (" " : Str) (ws.take (nb + 1) ++ ws.drop nb) = J2 at z2 ⊢
  generalize joinC (" " : Str) (ws.take nb ++ [y5] ++ ws.drop (nb + 1)) = J3 at z3 ⊢
  have zu := az_upper hx
  generalize Txt.upper x = xu at zu ⊢
  generalize cutT x none (some ((na : Nat) : Int)) = A1 at s1 ⊢
  generalize cutT x (some ((na : Nat) : Int)) none = A2 at s2 ⊢
  generalize cutT x (some (((na : Nat) : Int) + 1)) none = A3 at s3 ⊢
  have b1 : Az 1 ((" " : Str)) := az_of (by decide +kernel)
  have b2 : Az 2 ((" 1" : Str)) := az_of (by decide +kernel)
  have b3 : Az 1 (("0" : Str)) := az_of (by decide +kernel)
  have b4 : Az 0 (("" : Str)) := az_of (by decide +kernel)
  have all : ∀ y ∈ [A1 ++ o ++ A2, A1 ++ A3, A1 ++ o ++ A3, x ++ " ", " " ++ x, "", ⟨J1.toArray⟩, ⟨J2.toArray⟩, x ++ " 1", xu, w0, "0" ++ x, ⟨J3.toArray⟩], Az 60000 y := fun y hy => by
    simp only [List.mem_cons, List.not_mem_nil, or_false] at hy
    rcases hy with rfl | rfl | rfl | rfl | rfl | rfl | rfl | rfl | rfl | rfl | rfl | rfl | rfl
    · exact az_app (az_app s1 zo (Nat.le_refl _)) s2 (by decide)
    · exact az_app s1 s3 (by decide)
    · exact az_app (az_app s1 zo (Nat.le_refl _)) s3 (by decide)
    · exact az_app hx b1 (by decide)
    · exact az_app b1 hx (by decide)
    · exact b4.mono (by decide)
    · exact z1.mono (by decide)
    · exact z2.mono (by decide)
    · exact az_app hx b2 (by decide)
    · exact zu.mono (by decide)
    · exact (hw _ hw0).mono (by decide)
    · exact az_app b3 hx (by decide)
    · exact z3.mono (by decide)
  obtain ⟨y, hy, ey⟩ := atI_mem D.str (l := [A1 ++ o ++ A2, A1 ++ A3, A1 ++ o ++ A3, x ++ " ", " " ++ x, "", ⟨J1.toArray⟩, ⟨J2.toArray⟩, x ++ " 1", xu, w0, "0" ++ x, ⟨J3.toArray⟩]) f0 (by simpa using f1)
  exact ⟨_, ey, k y _ (all y hy) (pt5.mono (by omega))⟩
end Q
/-! M_k89 -/
namespace Q
open PySem
theorem okC_hD {W : Cl} {b : Int} {bs : List Int} : okC W.House (sp_House___eq__ W) 3 (hD W b bs) := by
  refine ⟨rfl, ?_, b, bs, b, bs, rfl, ?_⟩
  · simp [hD, nopen, nopens, nopens_ints]
  · show D.bl (decide (b = b ∧ bs = bs)) = .bl true
    rw [decide_eq_true ⟨rfl, rfl⟩]
theorem okC_str {W : Cl} {x : Str} : okC W.House (sp_House___eq__ W) 3 (.str x) := trivial
theorem okC_sy {W : Cl} {s : Sy} : okC W.House (sp_House___eq__ W) 3 (syD s) := by
  obtain ⟨w, p, n⟩ := s
  have all : ∀ x : Str, ∀ e ∈ [D.str x, D.int p, D.int n], okC W.House (sp_House___eq__ W) 2 e := fun x e he => by
    simp only [List.mem_cons, List.not_mem_nil, or_false] at he
    rcases he with rfl | rfl | rfl <;> trivial
  cases w
  · exact all _
  · exact all _
theorem ok_pair {W : Cl} {m : Str} {d : D} (h : okC W.House (sp_House___eq__ W) 3 d ∨ d = .dic [] []) : ∀ e ∈ [D.str m, d], okC W.House (sp_House___eq__ W) 3 e ∨ e = .dic [] [] := fun e he => by
  simp only [List.mem_cons, List.not_mem_nil, or_false] at he
  rcases he with rfl | rfl
  · exact .inl okC_str
  · exact h
theorem law_tail (W : Cl) (ns : List Int) (DD : DEnds) (s2 s3 s5 s6 s7 s8 : Sl) (r : Str) (m : Ts) (hr : Az 60000 r) (hnx : ∀ s5 s6 s7 s8, DD.nx [.val (.scr ns), .val .pen, s2, s3, .val (.str r), s5, s6, s7, s8] m) : ((dSeq (dAsg (dSplit (dVar 4) (dC (.str " "))) (gName 5)) (dSeq (dAsg (dIfE (dB (dOp oEq (dOp oIx (dVar 5) (dC (.int 0))) (dC (.str "house")))) (dCall sp__law_house_in_2 [] (dCons (dSlice (dVar 5) (dPart (dC (.int 1))) dNoPart) dNil)) (dC .non)) (gName 6)) (dSeq (dAsg (dIfE (dB (dOp oIsN (dVar 6) (dC .non))) (dTup (dCons (dC (.str "unread")) (dCons (dVar 4) dNil))) (dTup (dCons (dC (.str "told")) (dCons (dCall (spNoE (sp_House_initE W)) [] (dCons (dOp oIx (dVar 6) (dC (.int 0))) (dCons (dOp oIx (dVar 6) (dC (.int 1))) dNil))) dNil)))) (gName 7)) (dSeq (dIf (dB (dNeT W.House (sp_House___eq__ W) (dRefB "told" (zCall (sp_read_house_3 W) (dCons (dVar 4) dNil)) (vOn .Unread (some "unread") vNone)) (dVar 7))) (dSeq (dRet (dC (.bl false))) dNext) dNext) (dSeq (dAsg (dCall sp__law_saying_in [] (dCons (dVar 5) dNil)) (gName 8)) (dSeq (dAsg (dIfE (dB (dOp oIsN (dVar 8) (dC .non))) (dTup (dCons (dC (.str "unread")) (dCons (dVar 4) dNil))) (dTup (dCons (dC (.str "told")) (dCons (dVar 8) dNil)))) (gName 7)) (dSeq (dIf (dB (dNeT W.House (sp_House___eq__ W) (dRefB "told" (zCall sp_read_saying_3 (dCons (dVar 4) dNil)) (vOn .Unread (some "unread") vNone)) (dVar 7))) (dSeq (dRet (dC (.bl false))) dNext) dNext) dNext)))))))) DD [.val (.scr ns), .val .pen, s2, s3, .val (.str r), s5, s6, s7, s8] m := by
  have lx := hr.l
  have sc := split_cnt r
  have hw := az_split hr
  obtain ⟨h, r0, ew⟩ : ∃ h r', Txt.split r " " = h :: r' := by
    cases hq : Txt.split r " " with
    | nil => rw [hq] at sc; simp at sc
    | cons h r => exact ⟨h, r, rfl⟩
  rw [ew] at sc hw
  simp only [List.length_cons] at sc
  have hW : TxW (h :: r0) := txW_az hw (by decide)
  have z1 : plain (.str ("house" : Str)) = true := by decide +kernel
  have c1 : cutD ((h :: r0).map D.str) (some 1) none = r0.map D.str := cutF D.str (h :: r0) 1
  have rest : ((dSeq (dAsg (dIfE (dB (dOp oIsN (dVar 6) (dC .non))) (dTup (dCons (dC (.str "unread")) (dCons (dVar 4) dNil))) (dTup (dCons (dC (.str "told")) (dCons (dCall (spNoE (sp_House_initE W)) [] (dCons (dOp oIx (dVar 6) (dC (.int 0))) (dCons (dOp oIx (dVar 6) (dC (.int 1))) dNil))) dNil)))) (gName 7)) (dSeq (dIf (dB (dNeT W.House (sp_House___eq__ W) (dRefB "told" (zCall (sp_read_house_3 W) (dCons (dVar 4) dNil)) (vOn .Unread (some "unread") vNone)) (dVar 7))) (dSeq (dRet (dC (.bl false))) dNext) dNext) (dSeq (dAsg (dCall sp__law_saying_in [] (dCons (dVar 5) dNil)) (gName 8)) (dSeq (dAsg (dIfE (dB (dOp oIsN (dVar 8) (dC .non))) (dTup (dCons (dC (.str "unread")) (dCons (dVar 4) dNil))) (dTup (dCons (dC (.str "told")) (dCons (dVar 8) dNil)))) (gName 7)) (dSeq (dIf (dB (dNeT W.House (sp_House___eq__ W) (dRefB "told" (zCall sp_read_saying_3 (dCons (dVar 4) dNil)) (vOn .Unread (some "unread") vNone)) (dVar 7))) (dSeq (dRet (dC (.bl false))) dNext) dNext) dNext)))))) DD [.val (.scr ns), .val .pen, s2, s3, .val (.str r), .val (.lst ((h :: r0).map .str)), .val (hoO (rhO (h :: r0))), s7, s8] m := by
    have say : ∀ s7, ((dSeq (dAsg (dCall sp__law_saying_in [] (dCons (dVar 5) dNil)) (gName 8)) (dSeq (dAsg (dIfE (dB (dOp oIsN (dVar 8) (dC .non))) (dTup (dCons (dC (.str "unread")) (dCons (dVar 4) dNil))) (dTup (dCons (dC (.str "told")) (dCons (dVar 8) dNil)))) (gName 7)) (dSeq (dIf (dB (dNeT W.House (sp_House___eq__ W) (dRefB "told" (zCall sp_read_saying_3 (dCons (dVar 4) dNil)) (vOn .Unread (some "unread") vNone)) (dVar 7))) (dSeq (dRet (dC (.bl false))) dNext) dNext) dNext)))) DD [.val (.scr ns), .val .pen, s2, s3, .val (.str r), .val (.lst ((h :: r0).map .str)), .val (hoO (rhO (h :: r0))), s7, s8] m := fun s7 => by
      conv => whnf
      refine ⟨h :: r0, rfl, hW, ?_⟩
      cases hs : sayO (h :: r0) with
      | none =>
        conv => whnf
        refine ⟨_, rfl, .inl ⟨r, rfl, hr, fun s e => ?_, fun _ => ?_⟩⟩
        · rw [ew, hs] at e
          cases e
        · conv => whnf
          refine ⟨rfl, ok_pair (.inl okC_str), ?_⟩
          conv => whnf
          exact hnx _ _ _ _
      | some s =>
        have hd : ∃ d, d = syD s ∧ saO (some s) = d ∧ ∃ l, d = .tup l := by
          obtain ⟨w, p, q⟩ := s
          cases w
          · exact ⟨_, rfl, rfl, _, rfl⟩
          · exact ⟨_, rfl, rfl, _, rfl⟩
        obtain ⟨d, hd1, hd2, l, hd3⟩ := hd
        rw [hd2, hd3]
        rw [hd3] at hd1
        conv => whnf
        refine ⟨_, rfl, .inl ⟨r, rfl, hr, fun s' e => ?_, fun e => ?_⟩⟩
        · rw [ew, hs] at e
          cases e
          rw [← hd1]
          conv => whnf
          refine ⟨rfl, ok_pair (.inl (by rw [hd1]; exact okC_sy)), ?_⟩
          conv => whnf
          exact hnx _ _ _ _
        · rw [ew, hs] at e
          cases e
    cases hR : rhO (h :: r0) with
    | none =>
      rw [hR] at say
      conv => whnf
      refine ⟨_, rfl, .inl ⟨r, rfl, hr, fun b bs e => ?_, fun _ => ?_⟩⟩
      · rw [ew, hR] at e
        cases e
      · conv => whnf
        refine ⟨rfl, ok_pair (.inl okC_str), ?_⟩
        conv => whnf
        exact say _
    | some w =>
      obtain ⟨b, bs⟩ := w
      rw [hR] at say
      have hh : Hou b bs := by
        have e : (if h = "house" then hosO r0 else none) = some (b, bs) := hR
        split at e
        · exact hosO_hou e
        · cases e
      have hlen := hh.len
      have h30 := hh.b30
      conv => whnf
      refine ⟨_, rfl, ?_⟩
      conv => whnf
      refine ⟨_, rfl, ?_⟩
      conv => whnf
      refine ⟨b, bs, rfl, by omega, fun _ => ?_, fun hn => absurd hh hn⟩
      conv => whnf
      refine ⟨_, rfl, .inl ⟨r, rfl, hr, fun b' bs' e => ?_, fun e => ?_⟩⟩
      · rw [ew, hR] at e
        cases e
        conv => whnf
        refine ⟨rfl, ok_pair (.inl okC_hD), ?_⟩
        conv => whnf
        exact say _
      · rw [ew, hR] at e
        cases e
  conv => whnf
  refine ⟨by decide +kernel, ?_⟩
  conv => whnf
  refine ⟨by unfold zLen; omega, ?_⟩
  conv => whnf
  rw [ew]
  refine ⟨_, at0_d, ?_⟩
  refine ⟨⟨(hW h (List.mem_cons_self ..)).2, z1, dp0 _, dp0 _⟩, ?_⟩
  rw [deq_st]
  by_cases hh : h = "house"
  · rw [decide_eq_true hh]
    conv => whnf
    rw [c1]
    refine ⟨r0, rfl, fun w hw' => hW w (List.mem_cons_of_mem _ hw'), by omega, ?_⟩
    have e : hosO r0 = rhO (h :: r0) := (if_pos hh).symm
    rw [e]
    exact rest
  · rw [decide_eq_false hh]
    conv => whnf
    have e : rhO (h :: r0) = none := if_neg hh
    rw [e] at rest
    exact rest
def thgs : List D := [.non, .int 5, .lst [.str "1 at most 1"], .tup [.str "house 2 by 1"], .dic [] [], .bl true]
theorem thg_ok {W : Cl} {x : D} {i : Nat} (h : thgs[i]? = some x) : NoTx x ∧ (okC W.House (sp_House___eq__ W) 3 x ∨ x = .dic [] []) := by
  have hm := List.mem_of_getElem? h
  have one : ∀ y : Str, ∀ e ∈ [D.str y], okC W.House (sp_House___eq__ W) 2 e := fun y e he => by
    rw [List.mem_singleton.mp he]
    trivial
  unfold thgs at hm
  simp only [List.mem_cons, List.not_mem_nil, or_false] at hm
  rcases hm with rfl | rfl | rfl | rfl | rfl | rfl
  · exact ⟨⟨_, rfl, rfl⟩, .inl trivial⟩
  · exact ⟨⟨_, rfl, rfl⟩, .inl trivial⟩
  · exact ⟨⟨_, rfl, rfl⟩, .inl (one _)⟩
  · exact ⟨⟨_, rfl, rfl⟩, .inl (one _)⟩
  · exact ⟨⟨_, rfl, rfl⟩, .inr rfl⟩
  · exact ⟨⟨_, rfl, rfl⟩, .inl trivial⟩
def d_law (W : Cl) : DS := (dSeq (dFor (iRng1 (dOp oAdd (dC (.int 4)) (dCB bMin (dCons (dC (.int 12)) (dCons (dCB bLen (dCons (dVar 0) dNil)) dNil))))) (gName 2) (dSeq (dAsg (dCall sp__law_row_4 [] (dCons (dVar 1) dNil)) (gName 4)) (dSeq (dIf (dB (dOp oGt (dCall sp__law_draw [] (dCons (dVar 1) (dCons (dC (.int 4)) dNil))) (dC (.int 0)))) (dSeq (dAsg (dOp oIx (dOp oAdd (dLst (dCons (dOp oAdd (dVar 4) (dOp oMulS (dC (.str "9")) (dC (.int 5000)))) (dCons (dOp oAdd (dVar 4) (dC (.str "\n"))) dNil))) (dOp oMul (dLst (dCons (dCall sp__law_spoilt_2 [] (dCons (dVar 1) (dCons (dVar 4) dNil))) dNil)) (dC (.int 8)))) (dCall sp__law_draw [] (dCons (dVar 1) (dCons (dC (.int 10)) dNil)))) (gName 4)) dNext) dNext) (dSeq (dAsg (dSplit (dVar 4) (dC (.str " "))) (gName 5)) (dSeq (dAsg (dIfE (dB (dOp oEq (dOp oIx (dVar 5) (dC (.int 0))) (dC (.str "house")))) (dCall sp__law_house_in_2 [] (dCons (dSlice (dVar 5) (dPart (dC (.int 1))) dNoPart) dNil)) (dC .non)) (gName 6)) (dSeq (dAsg (dIfE (dB (dOp oIsN (dVar 6) (dC .non))) (dTup (dCons (dC (.str "unread")) (dCons (dVar 4) dNil))) (dTup (dCons (dC (.str "told")) (dCons (dCall (spNoE (sp_House_initE W)) [] (dCons (dOp oIx (dVar 6) (dC (.int 0))) (dCons (dOp oIx (dVar 6) (dC (.int 1))) dNil))) dNil)))) (gName 7)) (dSeq (dIf (dB (dNeT W.House (sp_House___eq__ W) (dRefB "told" (zCall (sp_read_house_3 W) (dCons (dVar 4) dNil)) (vOn .Unread (some "unread") vNone)) (dVar 7))) (dSeq (dRet (dC (.bl false))) dNext) dNext) (dSeq (dAsg (dCall sp__law_saying_in [] (dCons (dVar 5) dNil)) (gName 8)) (dSeq (dAsg (dIfE (dB (dOp oIsN (dVar 8) (dC .non))) (dTup (dCons (dC (.str "unread")) (dCons (dVar 4) dNil))) (dTup (dCons (dC (.str "told")) (dCons (dVar 8) dNil)))) (gName 7)) (dSeq (dIf (dB (dNeT W.House (sp_House___eq__ W) (dRefB "told" (zCall sp_read_saying_3 (dCons (dVar 4) dNil)) (vOn .Unread (some "unread") vNone)) (dVar 7))) (dSeq (dRet (dC (.bl false))) dNext) dNext) dNext)))))))))) (dSeq (dFor (iSeq (dTup (dCons (dC .non) (dCons (dC (.int 5)) (dCons (dLst (dCons (dC (.str "1 at most 1")) dNil)) (dCons (dTup (dCons (dC (.str "house 2 by 1")) dNil)) (dCons (dC (.dic [] [])) (dCons (dC (.bl true)) dNil)))))))) (gName 3) (dSeq (dIf (dB (dNeT W.House (sp_House___eq__ W) (dRefB "told" (zCall (sp_read_house_3 W) (dCons (dVar 3) dNil)) (vOn .Unread (some "unread") vNone)) (dTup (dCons (dC (.str "unread")) (dCons (dVar 3) dNil))))) (dSeq (dRet (dC (.bl false))) dNext) dNext) (dSeq (dIf (dB (dNeT W.House (sp_House___eq__ W) (dRefB "told" (zCall sp_read_saying_3 (dCons (dVar 3) dNil)) (vOn .Unread (some "unread") vNone)) (dTup (dCons (dC (.str "unread")) (dCons (dVar 3) dNil))))) (dSeq (dRet (dC (.bl false))) dNext) dNext) dNext))) (dSeq (dRet (dC (.bl true))) dNext)))
abbrev Nlaw : List Str := ["_law_script", "_law_pen_here", "_law_turn", "_law_thing", "_law_row_here", "_law_words", "_law_told_here", "_law_due", "_law_saying"]
theorem law_run (W : Cl) (ns : List Int) (t : Ts) (hp : Pk 0 t) : d_law W (endsOf fun d _ => d = .bl true) ((start0 Nlaw [.scr ns]).set 1 (.val .pen)) t := by
  conv => whnf
  have hm : (if (ns.length : Int) < 12 then (ns.length : Int) else 12) ≤ 12 ∧ 0 ≤ (if (ns.length : Int) < 12 then (ns.length : Int) else 12) := by split <;> omega
  generalize (if (ns.length : Int) < 12 then (ns.length : Int) else 12) = mm at hm ⊢
  refine ⟨by omega, ?_⟩
  conv => whnf
  refine ⟨fun i e m => Pk (1000 * i) m ∧ ∃ s2 s3 s4 s5 s6 s7 s8 : Sl, e = [.val (.scr ns), .val .pen, s2, s3, s4, s5, s6, s7, s8], ⟨by simpa using hp, _, _, _, _, _, _, _, rfl⟩, fun i x e m hx hI => ?_, fun e m hI => ?_⟩
  · obtain ⟨pm, s2, s3, s4, s5, s6, s7, s8, rfl⟩ := hI
    obtain ⟨hi, rfl⟩ := rng_get hx
    conv => whnf
    refine ⟨_, rfl, pm, by omega, fun r t1 hr pt1 => ?_⟩
    conv => whnf
    refine ⟨_, _, rfl, by first | omega | decide, (sm64 (by first | omega | decide) (by first | omega | decide)).mono (by decide), pt1, by omega, fun v t2 v0 v1 pt2 => ?_⟩
    conv => whnf
    by_cases hv : 0 < v
    · rw [decide_eq_true hv]
      conv => whnf
      have lr := hr.l
      have z9 := az_mul (j := 5000) (by decide)
      have l9 := z9.l
      have q1 : (("\n" : Str)).length = 1 := by decide +kernel
      have zn : Az 1 (("\n" : Str)) := az_of (by decide +kernel)
      have l92 : (Txt.mul ("9" : Str) 5000).length ≤ 5000 := l9
      refine ⟨⟨by decide, by decide, by decide +kernel⟩, ?_⟩
      conv => whnf
      refine ⟨by unfold zLen; omega, ?_⟩
      conv => whnf
      refine ⟨by rw [q1]; unfold zLen; omega, ?_⟩
      conv => whnf
      refine ⟨r, _, rfl, hr, pt2, by omega, fun y t3 hy pt3 => ?_⟩
      conv => whnf
      refine ⟨⟨by decide, by decide, by show 1 * 8 ≤ zLen; unfold zLen; decide⟩, ?_⟩
      conv => whnf
      have er : rep (Int.toNat 8) [D.str y] = List.replicate 8 (D.str y) := rfl
      rw [er]
      refine ⟨by rw [List.length_replicate]; show 2 + 8 ≤ zLen; unfold zLen; decide, ?_⟩
      conv => whnf
      refine ⟨_, _, rfl, by first | omega | decide, (sm64 (by first | omega | decide) (by first | omega | decide)).mono (by decide), pt3, by omega, fun z t4 z0 z1 pt4 => ?_⟩
      conv => whnf
      have zr := hr.mono (show 100 ≤ 60000 by decide)
      have all : ∀ w ∈ [r ++ Txt.mul ("9" : Str) 5000, r ++ "\n", y, y, y, y, y, y, y, y], Az 60000 w := fun w hw => by
        simp only [List.mem_cons, List.not_mem_nil, or_false] at hw
        rcases hw with rfl | rfl | rfl | rfl | rfl | rfl | rfl | rfl | rfl | rfl
        · exact az_app hr (z9.mono (show Int.toNat 5000 ≤ 5000 by decide)) (by decide)
        · exact az_app hr zn (by decide)
        all_goals exact hy
      obtain ⟨w, hw, ew⟩ := atI_mem D.str (l := [r ++ Txt.mul ("9" : Str) 5000, r ++ "\n", y, y, y, y, y, y, y, y]) z0 z1
      refine ⟨_, ew, ?_⟩
      conv => whnf
      exact law_tail W ns _ _ _ _ _ _ _ w t4 (all w hw) fun _ _ _ _ => ⟨pt4.mono (by omega), _, _, _, _, _, _, _, rfl⟩
    · rw [decide_eq_false hv]
      conv => whnf
      exact law_tail W ns _ _ _ _ _ _ _ r t2 (hr.mono (by decide)) fun _ _ _ _ => ⟨pt2.mono (by omega), _, _, _, _, _, _, _, rfl⟩
  · obtain ⟨pm, s2, s3, s4, s5, s6, s7, s8, rfl⟩ := hI
    conv => whnf
    refine ⟨fun i e m => ∃ s2 s3 s4 s5 s6 s7 s8 : Sl, e = [.val (.scr ns), .val .pen, s2, s3, s4, s5, s6, s7, s8], ⟨_, _, _, _, _, _, _, rfl⟩, fun i x e m hx hI => ?_, fun e m hI => ?_⟩
    · obtain ⟨s2, s3, s4, s5, s6, s7, s8, rfl⟩ := hI
      obtain ⟨hn, ho⟩ := thg_ok (W := W) hx
      conv => whnf
      refine ⟨_, rfl, .inr ⟨hn, ?_⟩⟩
      conv => whnf
      refine ⟨rfl, ok_pair ho, ?_⟩
      conv => whnf
      refine ⟨_, rfl, .inr ⟨hn, ?_⟩⟩
      conv => whnf
      refine ⟨rfl, ok_pair ho, ?_⟩
      conv => whnf
      exact ⟨_, _, _, _, _, _, _, rfl⟩
    · obtain ⟨s2, s3, s4, s5, s6, s7, s8, rfl⟩ := hI
      rfl
theorem d_law_ok (W : Cl) (ns : List Int) (hl : ns.length ≤ 63) : (dCall sp__law_pen [] (dCons (dVar 0) dNil)) (start0 Nlaw [.scr ns]) ⟨[], 0, 0, false, noObs⟩ (fun d _ => ∃ cs : List Int, d = .dic (if false = true then [.inr "cells", .inr "turn", .inr "rest"] else [.inr "cells", .inr "at", .inr "left"]) [.lst (cs.map .int), .int 0, .int 0] ∧ cs.length ≤ 63 ∧ d_law W (endsOf fun d _ => d = .bl true) ((start0 Nlaw [.scr ns]).set 1 (.val .pen)) ⟨cs, 0, 0, false, noObs⟩) :=
  ⟨ns, rfl, hl, fun cs hc => ⟨cs, rfl, hc, law_run W ns _ (Pk.zero hc)⟩⟩
end Q
/-! QX1 -/
namespace Q
open PySem L2 PySem.Spec PyProof.Rows
/-! ### own exception classes over RuntimeError whose __init__ calls RuntimeError.__init__(self, text) alone -/
end Q
/-! QX2 -/
namespace Q
open PySem L2 PySem.Spec PyProof.Rows
/-! ### defs that may raise -/
/-! ### try: return f(..) / except X as e: w = e, then behind it the exception that w holds -/
theorem Cf.slots {K : PySem.W.Frag} {B : Bs} {F : Hp} {pa : Option Addr} {t : Ts} {env env' : En} {σ σ' : L2.St} {H : Hp} (C : Cf K B F pa t env σ H) (hl : env'.length = σ'.length) (h : ∀ (k : Nat) (s : Sl), env'[k]? = some s → s ≠ Sl.no → env[k]? = some s ∧ σ'[k]? = σ[k]?) : Cf K B F pa t env' σ' H :=
  ⟨hl, C.sub, C.bas, C.frm, C.new, C.exl, fun i d e => by
    obtain ⟨h1, h2⟩ := h i _ e (by simp)
    rw [h2]; exact C.val i d h1,
  fun i d e => by
    obtain ⟨h1, h2⟩ := h i _ e (by simp)
    rw [h2]; exact C.own i d h1,
  fun i j d e a q1 q2 s1 s2 => by
    obtain ⟨h1, h2⟩ := h i _ q1 (by simp)
    obtain ⟨h3, h4⟩ := h j _ q2 (by simp)
    rw [h2] at s1
    rw [h4] at s2
    exact C.sep i j d e a h1 h3 s1 s2, C.pen, C.pnn, C.tab, C.ntb, C.obs, C.obx, fun i d a e s => by
    obtain ⟨h1, h2⟩ := h i _ e (by simp)
    rw [h2] at s
    exact C.osp i d a h1 s⟩
end Q
/-! QX15 -/
namespace Q
open PySem L2 PySem.Spec PyProof.Rows
/-! ### own exception classes over a base B whose __init__ calls B.__init__(self, text) and keeps one field -/
structure FxB (B newId initId : String) (tl : List Value) : Prop where
  base : PySem.ExcBaseFacts B newId initId tl
  pass : ∀ self : Value, refuseLoop self "__setattr__" tl = pure ()
  obj : tl.contains (.type "object") = true
  ne : tl.isEmpty = false
structure FxC (K : PySem.W.Frag) (C : Addr) (newId : String) (tl : List Value) : Prop where
  cls : ∃ nm q N bs sn sub ab col dd k0 k1 k2 k3 k5, K.lookup C = some (excClassObj nm q C N bs tl true sn sub ab col dd k0 k1 k2 k3 k5 newId)
  sa : PySem.W.findIn K (.ref C) "__setattr__" = some (some (.builtin "object.__setattr__"))
  exC : PySem.W.subIn K (.ref C) (.type "BaseException") = some true
  tyC : PySem.W.typeIn K (.ref C) = some (.type "type")
  kC : PySem.W.keepIn K (.ref C) = true
end Q
namespace PySem
namespace HandSPX
open PySem.W PySem.Calls PyProof.Rows Builtin Builtin.ObjectAttr
end HandSPX
end PySem
namespace Q
open PySem L2 PySem.Spec PyProof.Rows
/-- B.__init__(self, ..) -/
def tFxI (K : PySem.W.Frag) (newId : String) (tl : List Value) (ta : TA) : TE := fun σ H Q => ta σ H fun vs H1 => ∃ (a C : Addr) (ws : List V), vs = .ref a :: ws ∧ ws.length ≤ 1000 ∧ FxC K C newId tl ∧ H1 a = some (exo a C none) ∧ Q .non H1
/-- self.f = e, the first field -/
def tFst (K : PySem.W.Frag) (newId : String) (tl : List Value) (f : Str) (to te : TE) : TS := fun D σ H => te σ H fun y H1 => to σ H1 fun x H2 => ∃ a C : Addr, x = .ref a ∧ FxC K C newId tl ∧ PySem.W.findIn K (.ref C) f = some none ∧
  H2 a = some (exo a C none) ∧ ∀ dx, H2 dx = none → dx ≠ a → D.nx σ (upd (upd H2 dx (exd dx [(f, y)])) a (exo a C (some dx)))
/-- such an __init__'s promise -/
def spFx (K : PySem.W.Frag) (newId : String) (tl : List Value) (f : Str) : Sp := fun vs H Q _ => ∃ (a C : Addr) (y : V), vs = [.ref a, y] ∧ FxC K C newId tl ∧ PySem.W.findIn K (.ref C) f = some none ∧ H a = some (exo a C none) ∧
  ∀ dx, H dx = none → dx ≠ a → Q .non (upd (upd H dx (exd dx [(f, y)])) a (exo a C (some dx)))
section
variable {P : Program} {w : World} {K : PySem.W.Frag} {mg : Str → Option Value} {base : Heap}
theorem fn_fx {x qual m f par : Str} {tl : List Value} {nI : String} {st : Stmt} {fa : Addr} {fd : FuncData} (Fu : Fun K x qual st fa fd) (S : FnScope ["self", par] ["self", par] (defScope st))
    (hb : ∀ (cdv : Value) (A : Around) (outer : List PySem.Env) (s : Shared) (H : Hp) (E : XK), PSs (cxOf CX0 P w K mg base ["self", par] qual (defScope st) fa cdv A outer s H E).nox (defBody st) (tSeq (tDrop (tFxI K nI tl (tCons (tVar 0) (tCons (tC (.str m)) tNil)))) (tFst K nI tl f (tVar 0) (tVar 1)))) : FnOk P w K mg base CX0 1 fa fd ["self", par] (spFx K nI tl f) := by
  refine Fu.ok S (fun vs H Q E h => ?_) (fun cdv A outer s H vs Q E hr h => ?_)
  · obtain ⟨a, C, y, rfl, _⟩ := h
    rfl
  · obtain ⟨a, C, y, rfl, T, hn, e, q⟩ := h
    refine ⟨_, hb cdv A outer s H E, .ref a, rfl, ⟨a, C, [.str m], rfl, (by show 1 ≤ 1000; omega), T, e, ?_⟩⟩
    exact ⟨y, rfl, .ref a, rfl, a, C, rfl, T, hn, e, fun dx n ne => q dx n ne⟩
end
theorem fx_heap {H : Hp} {a dx : Addr} {e1 e2 e3 o : HO} (ha : H a = none) (hne : dx ≠ a) : upd (del (upd (upd (upd H a e1) dx e2) a e3) a) dx o = upd H dx o := by
  funext b
  by_cases hb : b = dx
  · rw [hb, upd_same, upd_same]
  · rw [upd_ne hb, upd_ne hb]
    by_cases hc : b = a
    · rw [hc, del_same, ha]
    · rw [del_ne hc, upd_ne hc, upd_ne hb, upd_ne hc]
end Q
/-! QX16 -/
namespace Q
open PySem L2 PySem.Spec PyProof.Rows
section
variable {X : Cx} {B : Bs} {pos : Pos} {e : Expr} {C : Addr} {f : Str}
theorem q_raiseF {W : WX} {Px : D → Ts → Prop} {as : DA} (hc : X.calm = true) (tk : Takes X W) (hE : ∀ F pa t env σ H v d dd fs, Cf X.K B F pa t env σ H → RelD X.K F pa d v → H dd = some (.xd fs) → fs.lookup f = some v → Px d t → W (.ref C) (some dd) σ H)
    (mk : PMk X e fun σ H Q => taOf X.K B as σ H fun vs H1 => ∃ y, vs = [y] ∧ ∀ d, H1 d = none → Q (.ref C) (some d) (upd H1 d (.xd [(f, y)]))) : QS X B (.Raise (some e) none pos) (dRaiseF Px as) :=
  PS.imp (ps_raise hc tk mk) fun D σ H ⟨F, pa, t, env, DD, Cc, h, R⟩ => by
    refine ⟨F, pa, t, env, _, Cc, h, fun vs ds F' pa' t' H' g C' r q => ?_⟩
    cases ds with
    | nil => exact q.elim
    | cons x ds =>
      cases ds with
      | cons _ _ => exact q.elim
      | nil =>
        obtain ⟨v, vr, rfl, rv, rr⟩ := r.inv
        obtain rfl := rr.inv0
        refine ⟨v, rfl, fun d hd => ?_⟩
        refine hE F' pa' t' env σ _ v x d [(f, v)] (C'.loose _ hd) rv upd_same ?_ q
        simp [List.lookup]
end
/-! ### reading a field of the exception that a name holds -/
theorem pe_xfT {X : Cx} {a C : Addr} {oe : Obj} {cls : Value} {d : Option Addr} {e : Expr} {te : TE} {pos : Pos} {n : Str} (T : XfC X.K C) (hno : PySem.W.findIn X.K (.ref C) n = some none)
    (hz : Zc cls d oe) (hf : ∃ vs, oe.data = .fields vs) (hm : (a, oe) ∈ X.pn) (he : PE X e te) (hb : attributeBase e n X.env (eval e X.env) = eval e X.env := by rfl) :
    PE X (.Attribute e n pos) (tXf a cls d C n te) := by
  refine ⟨fun pins s σ H Q I h => ?_⟩
  refine attr_of hb (thn (he.run pins s σ H _ I h) fun u s1 hh => ?_)
  obtain ⟨x, H1, I1, rx, ex, ec, dd, fs, v, ed, ea, l, q⟩ := hh
  subst ex
  obtain rfl : u = Value.ref a := rx
  subst ec
  subst ed
  obtain ⟨ha, _⟩ := I1.pin (a, oe) (List.mem_append_left _ hm)
  obtain ⟨vs, hd⟩ := hf
  have hx : ObjOk X.prog X.w H1 s1.heap dd (.xd fs) := I1.hok dd _ ea
  obtain ⟨mA, hns, hr⟩ := hx
  obtain ⟨od, ho, hl⟩ := lookIn_ns hns
  obtain ⟨u, hu, ru⟩ := RelO.some_of (v := v) (o := mA n) (by rw [← l]; exact hr n)
  have J : PySem.W.InstAt s1.heap a oe C (some od) := ⟨ha, hz.1, by unfold PySem.W.notCls; rw [hd] <;> rfl, by rw [hz.2]; exact ho⟩
  exact HandSPX.exc_get I1.kIn J T.ga T.gg T.exC (PySem.W.findObj_own T.hdC hno rfl (by rw [hl, hu])) (handed_of ru) ⟨v, H1, I1.tok _, ru, q⟩
/-- isinstance(e, c), e an exception with a dict at dd -/
def rIsF (K : PySem.W.Frag) (D a dd : Addr) : List V → Hp → VK → Prop := fun xs H Q => ∃ (c : V) (cv : Value) (b : Bool) (fs : List (Str × V)), xs = [.ref a, c] ∧ (∀ u, RelV c u → u = cv) ∧ PySem.W.kitOne K (.ref D) cv = some b ∧ H dd = some (.xd fs) ∧ Q (.bl b) H
theorem call_isF {X : Cx} {a D dd : Addr} {oe : Obj} (C : ExcC X.K D) (hz : Zc (.ref D) (some dd) oe) (hf : ∃ vs, oe.data = .fields vs) (hm : (a, oe) ∈ X.pn) : CallR X (.builtin "isinstance") (rIsF X.K D a dd) := by
  intro pins s σ H xs us Q I r h
  obtain ⟨c, cv, b, fs, rfl, hcv, e, ea, q⟩ := h
  cases r with
  | cons rx rr =>
    cases rr with
    | cons rt rr =>
      cases rr
      cases rx
      have ec := hcv _ rt
      subst ec
      obtain ⟨hget, _⟩ := I.pin (a, oe) (List.mem_append.mpr (.inl hm))
      obtain ⟨vs, hv⟩ := hf
      have hx : ObjOk X.prog X.w H s.heap dd (.xd fs) := I.hok dd _ ea
      obtain ⟨mA, hns, hr⟩ := hx
      obtain ⟨od, ho, hl⟩ := lookIn_ns hns
      have J : PySem.W.InstAt s.heap a oe D (some od) := ⟨hget, hz.1, by unfold PySem.W.notCls; rw [hv] <;> rfl, by rw [hz.2]; exact ho⟩
      exact PySem.W.kia_one (PySem.W.kitx_exc (by obtain ⟨cd, hc, _⟩ := PySem.W.any_some C.hd; rw [hc]; rfl) C.hg C.hk C.hs C.ha C.hn C.ht C.hm) I.kIn J e (fun z => nomatch z) fun tk => ⟨.bl b, H, I.kept (t' := tk) fun _ _ z => z, rfl, q⟩
theorem kit_T {K : PySem.W.Frag} {C : Addr} {T : String} (km : PySem.W.kitMeta T = true) (h : PySem.W.subIn K (.ref C) (.type T) = some true) : PySem.W.kitOne K (.ref C) (.type T) = some true := by
  show (if (Value.ref C == Value.type T) = true then some true else (if PySem.W.kitMeta T = true then PySem.W.subIn K (.ref C) (.type T) else none)) = some true
  rw [if_pos km, h]
  split <;> rfl
theorem pe_nvr {X : Cx} {e : Expr} : PE X e (fun _ _ _ => False) := ⟨fun _ _ _ _ _ _ h => h.elim⟩
end Q
/-! QX17 -/
namespace Q
open PySem L2 PySem.Spec PyProof.Rows LamX
/-- a table known: its code objects bear the name q -/
def TabK (H : Hp) (ps : Array Value) (q : Str) : Prop := TriplesOk ps.toList ∧ ∀ (pos : Pos) (cv : Value), codeAmong pos ps.toList = some cv → ∃ c, cv = .ref c ∧ H c = some (CodeO c q)
/-- a lambda is made: its code object found in the table at P, or laid and told there -/
def LamH (H : Hp) (P : Addr) (q : Str) (ps : Array Value) (H1 : Hp) : Prop := H1 = H ∨ ∃ (c' : Addr) (ps' : Array Value), H c' = none ∧ TriplesOk ps'.toList ∧
  (∀ (pos : Pos) (cv : Value), codeAmong pos ps'.toList = some cv → codeAmong pos ps.toList = some cv ∨ cv = .ref c') ∧ H1 = upd (upd H P (.tbl ps')) c' (CodeO c' q)
section
variable {X : Cx} {pins : List (Addr × Obj)} {σ : L2.St} {H : Hp} {s : Shared}
theorem lam_made {c P : Addr} {ps : Array Value} {params : Arguments} {body : Expr} {scope : Scope} {pos : Pos} {E : Value → Shared → Prop} {Q : Value → Shared → Prop} (I : Inv X pins σ H s) (TB : LamX.TabB X.base X.mg c P) (hcode : X.env.code = .ref c)
    (hP : H P = some (.tbl ps)) (hT : TabK H ps (X.env.qual ++ "<lambda>")) (hdef : defaultsOf params X.env = ([], [])) (hfree : ∀ y ∈ scope.names, y.2 = .free → ∃ c, X.env.cells.lookup y.1 = some c)
    (h : ∀ (f c' : Addr) (pm ctv : Value) (H1 : Hp) (s' : Shared), Inv X pins σ H1 s' → LamH H P (X.env.qual ++ "<lambda>") ps H1 →
      s'.heap.get? f = some (PySem.W.kla_obj "<lambda>" (X.env.qual ++ "<lambda>") params body scope (cloFrom X.env.cells scope.names []) pm c' ctv) → H1 f = none → f ∉ frs X.stack → H1 c' = some (CodeO c' (X.env.qual ++ "<lambda>")) → Q (.ref f) s') :
    wpAny (model X.prog X.w) X.A (eval (.Lambda params body scope pos) X.env) Q E s := by
  obtain ⟨ht, ha⟩ := hT
  refine PySem.W.kla_eval hdef ?_
  have bP : s.heap.BuiltinsAt X.mg P := TB.bm.keeps I.bk
  have hP' : s.heap.get? P = some { cls := .none, data := .fields ps } := I.hok P _ hP
  have off : ∀ f, s.heap.objs.size ≤ f → f ∉ frs X.stack := fun f hf z => (List.mem_cons.mp (I.stkSub _ z)).elim (fun e => by
    have h1 := I.lt
    rw [← e] at h1
    exact absurd hf (Nat.not_le.mpr h1)) fun e => I.nofs hf e
  cases hc : codeAmong pos ps.toList with
  | some cv =>
    obtain ⟨c', rfl, hco⟩ := ha pos cv hc
    refine PySem.W.kla_makeFunctionHit (mg := X.mg) (c := c) (P := P) (ps := ps) (closure_ok hfree) I.ok.glob (I.mod.glob.keeps I.bk) hcode (TB.code.keeps I.bk) hP' ht hc bP fun ctv h' tk hx hsz => ?_
    exact h h'.objs.size c' ((X.mg "__name__").getD .none) ctv H _ (I.kept (t' := tk) fun b o e => Heap.get?_push_of_some _ (hx b o e)) (.inl rfl) (Heap.get?_push_size _ rfl) (I.hok.fresh hsz) (off _ hsz) hco
  | none =>
    refine PySem.W.kla_makeFunction (mg := X.mg) (c := c) (P := P) (ps := ps) (closure_ok hfree) I.ok.glob (I.mod.glob.keeps I.bk) hcode (TB.code.keeps I.bk) hP' ht hc TB.gP bP fun c' ctv h' tk hx hge hlt hrec htb => ?_
    obtain ⟨c2, oc, vs, t, e2, hoc, hd, hv⟩ := hrec
    cases e2
    have hsz : s.heap.objs.size ≤ h'.objs.size := Nat.le_trans hge (Nat.le_of_lt hlt)
    have nC : H c' = none := I.hok.fresh hge
    let o := PySem.W.kla_obj "<lambda>" (X.env.qual ++ "<lambda>") params body scope (cloFrom X.env.cells scope.names []) ((X.mg "__name__").getD .none) c' ctv
    have I1 := inv_table (t' := tk) (more := #[rawInt pos.line, rawInt pos.col, .ref c']) (h' := h'.push o) (q := X.env.qual ++ "<lambda>") I hP
      (fun b u hb e => Heap.get?_push_of_some _ (hx b u hb e)) (Heap.get?_push_of_some _ htb) hge ⟨oc, vs, t, Heap.get?_push_of_some _ hoc, hd, hv⟩
    have eL : (ps ++ #[rawInt pos.line, rawInt pos.col, .ref c']).toList = ps.toList ++ [rawInt pos.line, rawInt pos.col, .ref c'] := by simp
    refine h h'.objs.size c' ((X.mg "__name__").getD .none) ctv _ _ I1 (.inr ⟨c', _, nC, ?_, fun p' cv hcv => ?_, rfl⟩) (Heap.get?_push_size _ rfl) ?_ (off _ hsz) upd_same
    · rw [eL]; exact PySem.TriplesOk_snoc _ _ _ _ ht
    · rw [eL] at hcv
      exact among_app _ ht hcv
    · have lP := Heap.lt_size hP'
      rw [upd_ne (Nat.ne_of_gt hlt), upd_ne (Nat.ne_of_gt (Nat.lt_of_lt_of_le lP hsz))]
      exact I.hok.fresh hsz
end
/-- the reading of x(lambda: ..): TT what x makes of it -/
def tLamP (P : Addr) (q : Str) (TT : (XK → Hp → VK → Prop) → Hp → VK → Prop) (t : XK → TE) : TE := fun σ H Q => ∃ ps, H P = some (.tbl ps) ∧ TabK H ps q ∧ ∀ H1, LamH H P q ps H1 → TT (fun E H' Q' => t E σ H' Q') H1 Q
section
variable {X : Cx}
/-- x(lambda: body) -/
theorem pe_lamP {TT : (XK → Hp → VK → Prop) → Hp → VK → Prop} {x a : Str} {g c P : Addr} {k : Nat} {pg : Arguments} {bg : List Stmt} {sg : Scope} {dV kV doc pm cdv ct oc : Value} {an od : Option Addr} {osl : Array (Option Value)} {Ng : List Str}
    {params : Arguments} {body : Expr} {scope : Scope} {t : XK → TE} {p lpos pos : Pos} (hg : Gl X x) (hm : X.mg x = some (.ref g)) (hk : PySem.W.keepIn X.K (.ref g) = true)
    (lk : X.K.lookup g = some ⟨oc, od, .func (PySem.W.fnOf x x pg bg sg dV kV doc pm an cdv ct), osl⟩) (hcg : PySem.W.codeIn X.K cdv x = true) (hb : L2.Binds X.K (PySem.W.fnOf x x pg bg sg dV kV doc pm an cdv ct) [a] []) (Sg : FnScope Ng [a] sg) (hNg : Ng[0]? = some a) (hva : Vis sg a)
    (hG : GivesTo X Ng x sg g cdv bg a (X.env.qual ++ "<lambda>") TT)
    (TB : LamX.TabB X.base X.mg c P) (hcode : X.env.code = .ref c) (hr : Room (k + 2) X.A) (L : LamS X.env.scope scope) (hdef : defaultsOf params X.env = ([], []))
    (hbind : ∀ (q : Str) (cl : List (Str × Addr)) (pm cv ctv : Value), bindArgs (PySem.W.kla_fn "<lambda>" q params body scope cl pm cv ctv) ⟨[], []⟩ = pure [])
    (hbody : ∀ (A : Around) (outer : List Env) (s : Shared) (H : Hp) (E : XK) (f c' : Addr), Room k (A.deeper (lamEnv X scope s.heap.objs.size f c')) → PE (lamCx X A outer s H E scope f c') body (t E))
    (hdb : (x == ("__debug__" : Str)) = false := by decide) (hd : (a == ("__debug__" : Str)) = false := by decide) (hcd : (a == ("__classdict__" : Str)) = false := by decide) :
    PE X (.Call (.Name x p) [.Lambda params body scope lpos] [] pos) (tLamP P (X.env.qual ++ "<lambda>") TT t) := by
  refine ⟨fun pins s σ H Q I ⟨ps, hP, hT, h⟩ => wpAny_Call_Name_kw (ld_glob I hg hm ?_ hdb)⟩
  refine PySem.W.callWith_K (h₀ := X.base) I.ok.mod.kin hk ?_ (by rfl) (by rfl)
  show wpAny _ _ (spliced ((false, eval (.Lambda params body scope lpos) X.env) :: backTo pos (starEach [] X.env))) _ _ s
  refine Calls.spliced_cons (lam_made I TB hcode hP hT hdef (L.has I.ok) fun f c' pm' ctv H1 s' I1 lh hf hfn hfr hco => Calls.spliced_nil ⟨I1.kIn, ?_⟩)
  refine wpAny_call (codeAny_mono (run_ofS (CX := C8.CX0) (E := C8.E0) (Q := Q) (N := Ng) (ps := [a]) (us := [.ref f]) (vs := [.ref f]) lk hcg Sg hr I1.env0 (hb s' [.ref f] I1.kIn rfl) (.cons rfl .nil) rfl fun hr' => ?_) fun r s2 hq => ?_)
  · obtain ⟨t', ht', hq'⟩ := hG f c' s' H1 Q (fun E H' Q' => t E σ H' Q') (fun W pn xe E p1 p2 tk hW => pe_act (i := 0) I1 L hf hfn hfr (hbind _ _ _ _ _) tk hW hr' (fun A outer s H hr2 => hbody A outer s H E f c' hr2) hNg hva hd hcd) hco (h H1 lh)
    exact ⟨t', ht'.nox, hq'⟩
  · cases r with
    | error e => exact (show False from hq).elim
    | ok fl =>
      cases fl with
      | ret u => exact I1.after hq
      | next => exact False.elim hq
      | brk => exact False.elim hq
      | cont => exact False.elim hq
end
/-! ### the state when a lambda is made -/
theorem Cf.lam {K : PySem.W.Frag} {B : Bs} {F : Hp} {pa : Option Addr} {t : Ts} {env : En} {σ : L2.St} {H H1 : Hp} {P : Addr} {q : Str} (C : Cf K B F pa t env σ H) (hm : (P, q) ∈ B.T) (hx : P ∈ B.ex) (hu : ∀ p ∈ B.T, p.1 = P → p.2 = q) {ps : Array Value} (eP : H P = some (.tbl ps)) (l : LamH H P q ps H1) : ∃ F1, Gr F pa F1 pa ∧ Cf K B F1 pa t env σ H1 := by
  rcases l with rfl | ⟨c', ps', hc, h1, h2, rfl⟩
  · exact ⟨F, Gr.refl _ _, C⟩
  · obtain ⟨bP, fP, _⟩ := C.tab _ hm
    have fc := C.fresh hc
    have nPc : P ≠ c' := fun z => by rw [z, hc] at eP; cases eP
    have nF : ∀ {a : Addr} {o : HO}, F a = some o → a ≠ c' ∧ a ≠ P := fun {a o} e => ⟨ne_of_none e fc.1, ne_of_none e fP⟩
    have g : Gr F pa (upd F c' (CodeO c' q)) pa := ⟨Gf.upd fc.1, rfl⟩
    have kp : ∀ {a : Addr} {o : HO}, H a = some o → a ≠ P → upd (upd H P (.tbl ps')) c' (CodeO c' q) a = some o := fun {a o} e n => by rw [upd_ne (ne_of_none e hc), upd_ne n]; exact e
    have atP : upd (upd H P (.tbl ps')) c' (CodeO c' q) P = some (.tbl ps') := by rw [upd_ne nPc, upd_same]
    refine ⟨_, g, ⟨C.len, fun a o e => ?_, fun a o e => g.f _ _ (C.bas a o e), fun a o e n hO => kp (C.frm a o e n hO) (fun z => n (by rw [z]; exact hx)), fun a o e => ?_, fun a ha => ?_, fun i d e => ?_, fun i d e => ?_, C.sep, fun a e => ?_, C.pnn, fun p hp => ?_, fun a qs e => ?_, fun a d e => ?_, C.obx, C.osp⟩⟩
    · by_cases ha : a = c'
      · subst ha; rw [upd_same] at e ⊢; exact e
      · rw [upd_ne ha] at e; exact kp (C.sub a o e) (nF e).2
    · by_cases ha : a = c'
      · subst ha; exact .inr fc.2.1
      · rw [upd_ne ha] at e; exact C.new a o e
    · by_cases hb : a = P
      · subst hb; exact ⟨_, atP⟩
      · obtain ⟨o, e⟩ := C.exl a ha
        exact ⟨o, kp e hb⟩
    · obtain ⟨v, s1, r⟩ := C.val i d e
      exact ⟨v, s1, RelD.mono g d v r⟩
    · obtain ⟨a, h, s1, e1, r, f1, p1, x1⟩ := C.own i d e
      have na : a ≠ P := fun z => by rw [z, eP] at e1; exact r.ntb ps (Option.some.inj e1).symm
      exact ⟨a, h, s1, kp e1 na, RelO1.mono g d h r, by rw [upd_ne (ne_of_none e1 hc)]; exact f1, p1, x1⟩
    · obtain ⟨f1, ⟨h, e1, r⟩, x1⟩ := C.pen a e
      have na : a ≠ P := fun z => by rw [z, eP] at e1; obtain ⟨ca, w, _⟩ := r; rw [← Option.some.inj e1] at w; cases w
      exact ⟨by rw [upd_ne (ne_of_none e1 hc)]; exact f1, ⟨h, kp e1 na, r.mono g.f⟩, x1⟩
    · obtain ⟨b1, f1, qs, e1, t1, o1⟩ := C.tab p hp
      by_cases hb : p.1 = P
      · refine ⟨b1, by rw [upd_ne (fun z => nPc (hb.symm.trans z))]; exact f1, ps', by rw [hb]; exact atP, h1, fun pos cv hcv => ?_⟩
        rw [hu p hp hb]
        have e1' : H P = some (.tbl qs) := by rw [← hb]; exact e1
        rw [eP] at e1'
        cases e1'
        rcases h2 pos cv hcv with hk | rfl
        · obtain ⟨c, e2, q2⟩ := o1 pos _ hk
          rw [hu p hp hb] at q2
          exact ⟨c, e2, g.f _ _ q2⟩
        · exact ⟨c', rfl, upd_same⟩
      · exact ⟨b1, by rw [upd_ne (fun z => by rw [z, hc] at e1; cases e1)]; exact f1, qs, kp e1 hb, t1, fun pos cv hcv => by
          obtain ⟨c, e2, q2⟩ := o1 pos cv hcv
          exact ⟨c, e2, g.f _ _ q2⟩⟩
    · by_cases ha : a = c'
      · subst ha; rw [upd_same] at e; exact codeO_ne qs (Option.some.inj e)
      · rw [upd_ne ha] at e; exact C.ntb a qs e
    · obtain ⟨f1, ⟨h, e1, r⟩, x1⟩ := C.obs a d e
      have na : a ≠ P := fun z => by rw [z, eP] at e1; exact r.ntb ps (Option.some.inj e1).symm
      exact ⟨by rw [upd_ne (ne_of_none e1 hc)]; exact f1, ⟨h, kp e1 na, RelO1.mono g d h r⟩, x1⟩
end Q
/-! QX18 -/
namespace Q
open PySem L2 PySem.Spec PyProof.Rows LamX
end Q
/-! QX19 -/
namespace Q
open PySem L2 PySem.Spec PyProof.Rows LamX
/-- the base bears the table at P, whose code objects' name is q -/
structure TabOf (B : Bs) (P : Addr) (q : Str) : Prop where
  m : (P, q) ∈ B.T
  x : P ∈ B.ex
  u : ∀ p ∈ B.T, p.1 = P → p.2 = q
/-! ### the law's own def, a table of code objects with it -/
section
variable {P : Program} {w : World} {K : PySem.W.Frag} {mg : Str → Option Value} {base : Heap}
/-- the law's promise -/
def spLawT (K : PySem.W.Frag) (Pt : Addr) : Sp := fun vs H Q _ => ∃ (a : Addr) (ns : List Int), vs = [.ref a] ∧ (∀ b, b ≠ Pt → H b = none ∨ ∃ o xs, H b = some (.frz o (.lst xs))) ∧ H Pt = some (.tbl #[]) ∧ SqL K H a (ns.map V.int) ∧ ns.length ≤ 63 ∧ ∀ H', Q (.bl true) H'
theorem law_bodyT {qual : Str} {st : Stmt} {f : Addr} {N : List Str} {i : Nat} {s0 : Stmt} {rest : List Stmt} {dp : DE} {ds : DS} (hst : defBody st = s0 :: rest) {cdv : Value} {A : Around} {outer : List PySem.Env} {s : Shared} {H : Hp} {vs : List V} {Q : VK} {E : XK}
    (hfirst : ∀ B : Bs, PS (cxOf CX0 P w K mg base N qual (defScope st) f cdv A outer s H E).nox s0 (tAsg (tnOf K B dp) (L2.gName i)))
    {Pt : Addr} {q0 : Str} (hbody : ∀ B : Bs, B.Top → B.m = false → TabOf B Pt q0 → QSs (cxOf CX0 P w K mg base N qual (defScope st) f cdv A outer s H E).nox B rest ds)
    (hi : i ≠ 0 ∧ i < N.length) (tape : Bool)
    (hds : ∀ ns : List Int, ns.length ≤ 63 → dp (start0 N [.scr ns]) ⟨[], 0, 0, false, noObs⟩ fun d _ => ∃ cs : List Int, d = .dic (if tape then [.inr "cells", .inr "turn", .inr "rest"] else [.inr "cells", .inr "at", .inr "left"]) [.lst (cs.map .int), .int 0, .int 0] ∧ cs.length ≤ 63 ∧
      ds (endsOf fun d _ => d = .bl true) ((start0 N [.scr ns]).set i (.val .pen)) ⟨cs, 0, 0, tape, noObs⟩) (h : spLawT K Pt vs H Q E) :
    ∃ t, PSs (cxOf CX0 P w K mg base N qual (defScope st) f cdv A outer s H E).nox (defBody st) t ∧ t { nx := fun _ H' => Q .non H', rt := Q } (start N vs) H := by
  obtain ⟨a, ns, rfl, hO, hP, hS, hl, fin⟩ := h
  let Hs : Hp := fun b => if b = Pt then none else H b
  have hs1 : ∀ {b o}, Hs b = some o → b ≠ Pt ∧ H b = some o := fun {b o} e => by
    by_cases hb : b = Pt
    · rw [show Hs b = none from if_pos hb] at e; cases e
    · rw [show Hs b = H b from if_neg hb] at e; exact ⟨hb, e⟩
  have hSs : SqL K Hs a (ns.map V.int) := by
    rcases hS with (z | ⟨o, z⟩) | z
    · have n : a ≠ Pt := fun e => by rw [e, hP] at z; cases z
      exact .inl (.inl ((if_neg n).trans z))
    · have n : a ≠ Pt := fun e => by rw [e, hP] at z; cases z
      exact .inl (.inr ⟨o, (if_neg n).trans z⟩)
    · exact .inr z
  let BHt : Hp := fun b => if b = Pt then some (.tbl #[]) else none
  rw [hst]
  have hall : PSs (cxOf CX0 P w K mg base N qual (defScope st) f cdv A outer s H E).nox rest (fun De σ H' => ∃ p' : Addr, tsOf K ⟨fun _ => none, BHt, [Pt], some p', false, [(Pt, q0)], fun _ => False⟩ ds De σ H') := ⟨fun pins s' σ H' De I ⟨p', q⟩ => (hbody ⟨fun _ => none, BHt, [Pt], some p', false, [(Pt, q0)], fun _ => False⟩ (fun a ha => .inr ⟨(Pt, q0), List.mem_singleton.mpr rfl, (List.mem_singleton.mp ha).symm⟩) rfl ⟨List.mem_singleton.mpr rfl, List.mem_singleton.mpr rfl, fun p hp _ => by rw [List.mem_singleton.mp hp]⟩).run pins s' σ H' De I q⟩
  refine ⟨_, pss_cons (hfirst (B0 Hs none ⟨[], 0, 0, false, noObs⟩ H)) hall, ?_⟩
  have C0 : Cf K (B0 Hs none ⟨[], 0, 0, false, noObs⟩ H) Hs none ⟨[], 0, 0, false, noObs⟩ [] [] H := ⟨rfl, fun _ _ e => (hs1 e).2, fun _ _ e => e, fun _ _ e _ _ => e, fun a o e => .inl ⟨o, e⟩, fun a ha => by simp [B0] at ha, fun i d e => by simp at e, fun i d e => by simp at e, fun i j d e a q => by simp at q, fun a e => by simp at e, rfl, TabF.nil, fun a ps e => by
    obtain ⟨n, e⟩ := hs1 e
    rcases hO a n with z | ⟨o, xs, z⟩ <;> rw [z] at e <;> simp at e, fun a d e => (nomatch e), fun a e => e, fun i d a e => by simp at e⟩
  have rs : RelL K Hs none [.scr ns] [.ref a] := .cons (by unfold RelD; exact ⟨a, rfl, hSs⟩) .nil
  refine ⟨Hs, none, _, _, _, cf_start C0 rs, hds ns hl, fun p' h d F' pa' t' H' g C' n e r q => ?_⟩
  obtain ⟨cs, rfl, hcs, q⟩ := q
  obtain ⟨us, rfl, hlen, rl⟩ := r
  obtain ⟨v1, u1, rfl, r1, rl⟩ := rl.inv
  obtain ⟨v2, u2, rfl, r2, rl⟩ := rl.inv
  obtain ⟨v3, u3, rfl, r3, rl⟩ := rl.inv
  obtain rfl := rl.inv0
  unfold RelD at r1 r2 r3
  obtain ⟨ca, us, rfl, ec, rl4⟩ := r1
  subst r2 r3
  have eu : us = cs.map V.int := by
    have : ∀ {cs : List Int} {vs : List V}, RelL K F' pa' (cs.map .int) vs → vs = cs.map V.int := by
      intro cs
      induction cs with
      | nil => intro vs r; exact r.inv0
      | cons c cs ih =>
        intro vs r
        obtain ⟨v, vr, rfl, r1, r2⟩ := RelL.inv (show RelL K F' pa' (D.int c :: cs.map .int) vs from r)
        unfold RelD at r1
        rw [r1, ih r2]; rfl
    exact this rl4
  subst eu
  have C2 : Cf K ⟨fun _ => none, BHt, [Pt], some p', false, [(Pt, q0)], fun _ => False⟩ F' (some p') ⟨cs, 0, 0, tape, noObs⟩ ((start0 N [.scr ns]).set i (.val .pen)) ((start N [.ref a]).set i (some (.ref p'))) H' := by
    have noown : ∀ (j : Nat) (d : D), ((start0 N [.scr ns]).set i (.val .pen))[j]? ≠ some (Sl.own d) := fun j d e => by
      rcases get_set e with ⟨_, z⟩ | ⟨_, z⟩
      · cases z
      · have : ∀ (j : Nat) (d : D), (start0 N [.scr ns])[j]? ≠ some (Sl.own d) := fun j d e => by
          unfold start0 at e
          cases j with
          | zero => simp at e
          | succ j =>
            simp [List.getElem?_replicate] at e
        exact this j d z
    have hP' : H' Pt = some (.tbl #[]) := C'.frm Pt _ hP (by simp [B0]) (fun ⟨d, z⟩ => (nomatch z))
    have fP : F' Pt = none := by
      cases qq : F' Pt with
      | none => rfl
      | some u =>
        rcases C'.new Pt u qq with ⟨o', y⟩ | y
        · have y : Hs Pt = some o' := y
          rw [show Hs Pt = none from if_pos rfl] at y; cases y
        · have y : H Pt = none := y
          rw [hP] at y; cases y
    have bh : ∀ {b : Addr}, b ≠ Pt → BHt b = none := fun n => if_neg n
    have pP : p' ≠ Pt := fun z => by rw [z, hP'] at e; cases e
    have exP : ∀ b ∈ [Pt], ∃ o, H' b = some o := fun b z => ⟨.tbl #[], by
      have y : b = Pt := List.mem_singleton.mp z
      subst y
      exact hP'⟩
    refine ⟨by simp [C'.len], C'.sub, fun _ _ z => (by cases z), fun b o z n _ => absurd (bh fun w => n (List.mem_singleton.mpr w)) (by have z : BHt b = some o := z; rw [z]; simp), fun b o z => .inr (bh fun w => by rw [w, fP] at z; cases z), exP, fun j d e => ?_, fun j d e => absurd e (noown j d), fun j j' d d' a q => absurd q (noown j d), fun a' e' => ?_, rfl, fun p hp => ?_, C'.ntb, fun a d z => (nomatch z), fun a z => z.elim, fun j d a q => absurd q (noown j d)⟩
    · rcases get_set e with ⟨rfl, z⟩ | ⟨ne, z⟩
      · cases z
        refine ⟨.ref p', ?_, by unfold RelD; exact ⟨p', rfl, rfl⟩⟩
        rw [List.getElem?_set_self]
        unfold L2.start
        simp; omega
      · obtain ⟨v, h1, h2⟩ := C'.val j d z
        refine ⟨v, by rw [List.getElem?_set_ne ne]; exact h1, ?_⟩
        -- the only datum there is the script
        have hj : j = 0 ∧ d = .scr ns := by
          unfold start0 at z
          cases j with
          | zero => simp at z; exact ⟨rfl, z.symm⟩
          | succ j => simp [List.getElem?_replicate] at z
        obtain ⟨rfl, rfl⟩ := hj
        unfold RelD at h2 ⊢
        exact h2
    · cases e'
      refine ⟨n.f, ⟨_, e, ca, ?_, ec⟩, .inr (bh pP)⟩
      unfold penRows
      cases tape <;> rfl
    · have hp : p = (Pt, q0) := List.mem_singleton.mp hp
      subst hp
      refine ⟨?_, fP, #[], hP', True.intro, fun pos cv hc => ?_⟩
      · show BHt Pt ≠ none
        rw [show BHt Pt = some (.tbl #[]) from if_pos rfl]; simp
      · have z : codeAmong pos [] = some cv := hc
        simp [codeAmong] at z
  refine ⟨p', F', some p', _, _, _, C2, q, ⟨?_, ?_, ?_, ?_⟩⟩
  · intro F pa t env σ H g C q
    cases q
  · intro v d F pa t env σ H g C r q
    have q : d = .bl true := q
    subst q
    unfold RetRel RelD at r
    rw [r]; exact fin H
  · intro F pa t env σ H g C q
    exact q.elim
  · intro F pa t env σ H g C q
    exact q.elim
/-- a def whose code object is known -/
theorem okG_at {x qual : Str} {st : Stmt} {f cA : Addr} {N ps : List Str} {k : Nat} {sp : Sp} {kV doc pm ct oc : Value} {an od : Option Addr} {osl : Array (Option Value)} (lk : K.lookup f = some ⟨oc, od, .func (PySem.W.fnOf x qual (defArgs st) (defBody st) (defScope st) .none kV doc pm an (.ref cA) ct), osl⟩) (hcd : PySem.W.codeIn K (.ref cA) qual = true)
    (S : FnScope N ps (defScope st)) (len : ∀ vs H Q E, sp vs H Q E → vs.length = ps.length)
    (hbody : ∀ (A : Around) (outer : List PySem.Env) (s : Shared) (H : Hp) (vs : List V) (Q : VK) (E : XK), RoomG k (A.deeper (envOfC qual (defScope st) s.heap.objs.size f (.ref cA))) → sp vs H Q E →
      ∃ t, PSs (cxOf CX0 P w K mg base N qual (defScope st) f (.ref cA) A outer s H E).nox (defBody st) t ∧ t { nx := fun _ H' => Q .non H', rt := Q } (start N vs) H) :
    FnOkG P w K mg base CX0 (k + 1) f (PySem.W.fnOf x qual (defArgs st) (defBody st) (defScope st) .none kV doc pm an (.ref cA) ct) ps sp where
  len := len
  goes A r outer s H e args us vs rel b R E h := by
    obtain ⟨t, ht, hq⟩ := hbody A outer s H vs R E ⟨r.room.deeper _, r.idle⟩ h
    have there : ∀ c o, base.get? c = some o → s.heap.get? c = some o := fun c o g => (e.bs c o g).1
    have inK := e.mod.kin.keeps there
    have noL := e.mod.nolimit.keeps there
    refine codeAny_call_function r.room.depth (inK f _ lk) rfl S.co S.gen rfl (PySem.W.codeRec_of inK hcd) (b _ _ _ _ ?_)
    refine wpAny_newFunctionEnv_cells S.kind (par_kind S us _) ?_
    rintro env rfl s1 made
    refine ⟨noL.keeps made.toInCall.keep, codeAny_func ?_⟩
    have go := ht.nox.run [] s1 (start N vs) H _ (inv_start S (r.room.deeper (envOfC qual (defScope st) s.heap.objs.size f (.ref cA))).hd e (len _ _ _ _ h) rel made) hq
    refine wpAny_mono go ?_ fun _ _ z => z
    rintro (_ | _ | _ | u) s' z
    · obtain ⟨σ', H', J, q⟩ := z
      exact ⟨.non, H', J.os, J.bare, J.base, J.hok, rfl, q⟩
    · obtain ⟨_, _, _, q⟩ := z
      exact q.elim
    · obtain ⟨_, _, _, q⟩ := z
      exact q.elim
    · obtain ⟨v, σ', H', J, rv, q⟩ := z
      exact ⟨v, H', J.os, J.bare, J.base, J.hok, rv, q⟩
theorem fn_lawT {x qual q0 : Str} {st : Stmt} {f cA Pt : Addr} {N : List Str} {p : Str} {k i : Nat} {s0 : Stmt} {rest : List Stmt} {dp : DE} {ds : DS} {kV doc pm ct oc : Value} {an od : Option Addr} {osl : Array (Option Value)} (lk : K.lookup f = some ⟨oc, od, .func (PySem.W.fnOf x qual (defArgs st) (defBody st) (defScope st) .none kV doc pm an (.ref cA) ct), osl⟩) (hcd : PySem.W.codeIn K (.ref cA) qual = true)
    (S : FnScope N [p] (defScope st)) (hst : defBody st = s0 :: rest)
    (hfirst : ∀ (A : Around) (outer : List PySem.Env) (s : Shared) (H : Hp) (E : XK) (B : Bs), RoomG k (A.deeper (envOfC qual (defScope st) s.heap.objs.size f (.ref cA))) →
      PS (cxOf CX0 P w K mg base N qual (defScope st) f (.ref cA) A outer s H E).nox s0 (tAsg (tnOf K B dp) (L2.gName i)))
    (hbody : ∀ (A : Around) (outer : List PySem.Env) (s : Shared) (H : Hp) (E : XK) (B : Bs), RoomG k (A.deeper (envOfC qual (defScope st) s.heap.objs.size f (.ref cA))) → B.Top → B.m = false → TabOf B Pt q0 →
      QSs (cxOf CX0 P w K mg base N qual (defScope st) f (.ref cA) A outer s H E).nox B rest ds)
    (hi : i ≠ 0 ∧ i < N.length) (tape : Bool)
    (hds : ∀ ns : List Int, ns.length ≤ 63 → dp (start0 N [.scr ns]) ⟨[], 0, 0, false, noObs⟩ fun d _ => ∃ cs : List Int, d = .dic (if tape then [.inr "cells", .inr "turn", .inr "rest"] else [.inr "cells", .inr "at", .inr "left"]) [.lst (cs.map .int), .int 0, .int 0] ∧ cs.length ≤ 63 ∧
      ds (endsOf fun d _ => d = .bl true) ((start0 N [.scr ns]).set i (.val .pen)) ⟨cs, 0, 0, tape, noObs⟩) : FnOkG P w K mg base CX0 (k + 1) f (PySem.W.fnOf x qual (defArgs st) (defBody st) (defScope st) .none kV doc pm an (.ref cA) ct) [p] (spLawT K Pt) := by
  refine okG_at lk hcd S (fun vs H Q E h => ?_) (fun A outer s H vs Q E hr h => ?_)
  · obtain ⟨a, ns, rfl, _⟩ := h
    rfl
  · exact law_bodyT hst (fun B => hfirst A outer s H E B hr) (fun B => hbody A outer s H E B hr) hi tape hds h
/-! ### the law's call -/
theorem law_callTG {mb : Str → Option Value} {k : Nat} {fa a cA Pt : Addr} {fd : FuncData} {x : Str} {s : Shared} {vs : List Value} {ns : List Int} (room : RoomG k callerA)
    (inK : K.In s.heap) (hG : s.heap.Ns mainGlobals mg) (hB : s.heap.Ns builtinsNs mb) (boot : ∀ y : Str, y ≠ "__name__" → mb y = bootBuiltins y) (noL : s.heap.NoLimit) (gens : s.gens = #[])
    (hbm : ∃ (bm : Addr) (ob : Obj), mg "__builtins__" = some (.ref bm) ∧ bm ≠ builtinsNs ∧ s.heap.get? bm = some ob ∧ ob.cls = .type "module" ∧ ob.dict = some builtinsNs ∧ ob.data = .plain)
    (hT : s.heap.get? Pt = some { cls := .none, data := .fields #[] }) (nT : K.lookup Pt = none) (hc : PySem.W.codeHdIn K cA Pt = true)
    (at_ : s.heap.get? a = some (scrO vs)) (iv : IntsAre vs ns) (small : ns.length ≤ sizeLine) (few : ns.length ≤ 63)
    (F : ∀ base : Heap, K.In base → base.Ns mainGlobals mg → LamX.TabB base mg cA Pt → FnOkG P w K mg base CX0 k fa fd [x] (spLawT K Pt)) (bind : ∀ (s : Shared) (u : Value), BindsTo s fd ⟨[u], []⟩ [(x, u)]) :
    codeAny (model P w) callerA (.call (.ref fa) ⟨[.ref a], []⟩) (fun r s' => r = .ok (.ret (.bool true)) ∧ OldK s.heap s'.heap ∧ s'.os = s.os ∧ AllBare s'.gens) s := by
  have vals := vals_ints iv
  have vlen : vs.length = ns.length := by have := vals.length; simpa using this.symm
  have aP : a ≠ Pt := fun z => by rw [z, hT] at at_; cases at_
  let T : Hp := fun b => if b = Pt then some (.tbl #[]) else scrH K a (scrO vs) ns b
  have tP : T Pt = some (.tbl #[]) := if_pos rfl
  have tN : ∀ {b : Addr}, b ≠ Pt → T b = scrH K a (scrO vs) ns b := fun n => if_neg n
  have clear : ∀ {b : Addr} {o : Obj}, s.heap.get? b = some o → (b = a → K.lookup a = none → False) → b ≠ Pt → T b = none := fun {b o} _ n m => by rw [tN m]; exact scrH_none fun e z => n e z
  have nsP : ∀ {b : Addr} {m : Str → Option Value}, s.heap.Ns b m → b ≠ Pt := fun {b m} ⟨o, es, ep, g, d, _⟩ z => by
    rw [z, hT] at g
    cases g
    cases d
  have keepNs : ∀ {b : Addr} {m : Str → Option Value}, s.heap.Ns b m → (hidT s.heap T).Ns b m := by
    intro b m hb
    have nb := nsP hb
    obtain ⟨o, es, ep, g, d, rest⟩ := hb
    refine ⟨o, es, ep, hidT_get g (clear g (fun e _ => ?_) nb), d, rest⟩
    subst e
    have := at_.symm.trans g
    cases this
    cases d
  have baseK : K.In (hidT s.heap T) := fun b o l => hidT_get (inK b o l) (by
    have nb : b ≠ Pt := fun z => by rw [z, nT] at l; cases l
    rw [tN nb]
    exact scrH_none fun e z => by subst e; rw [l] at z; cases z)
  have seq : SqL K T a (ns.map V.int) := by
    cases l : K.lookup a with
    | none => exact .inl (.inr ⟨scrO vs, by rw [tN aP]; exact if_pos ⟨rfl, l⟩⟩)
    | some o =>
      have := at_.symm.trans (inK a o l)
      cases this
      exact .inr ⟨_, vs.toArray, _, l, rfl, rfl, rfl, by simpa [vlen] using small, by simpa using vals⟩
  have objs : HOk P w T s.heap := fun b u h => by
    by_cases hb : b = Pt
    · rw [hb, tP] at h
      cases h
      rw [hb]
      exact hT
    · rw [tN hb] at h
      obtain ⟨rfl, _, rfl⟩ := scrH_inv h
      exact ⟨at_, by simpa using small, vs, _, vals, at_⟩
  obtain ⟨mc, nb, bb⟩ := noL
  have md : Mod K mg (hidT s.heap T) := { kin := baseK, glob := keepNs hG, blt := ⟨mb, keepNs hB, boot⟩, nolimit := ⟨mc, keepNs nb, bb⟩ }
  have env0 : Env0 P w K mg (hidT s.heap T) callerA [] s T :=
    { frames := rfl, mod := md, bs := fun _ _ g => of_hidT g, bsz := by rw [hidT_size]; exact Nat.le_refl _, funs := trivial, frf := fun b z => (by cases z), hok := objs, bare := .of_eq gens }
  have TB : LamX.TabB (hidT s.heap T) mg cA Pt := by
    refine ⟨PySem.W.codeHd_of_K baseK hc, ?_, fun z => nsP hG z⟩
    obtain ⟨bm, ob, b1, b2, b3, b4, b5, b6⟩ := hbm
    have nG : bm ≠ mainGlobals := fun q => by
      obtain ⟨o, es, ep, e, hd, _⟩ := hG
      rw [q, e] at b3
      cases b3
      rw [hd] at b6
      cases b6
    have nP : bm ≠ Pt := fun q => by
      rw [q, hT] at b3
      cases b3
      cases b6
    refine ⟨bm, ob, b1, b2, nG, nP, hidT_get b3 (clear b3 (fun e _ => ?_) nP), b4, b5, b6⟩
    rw [e, at_] at b3
    cases b3
    cases b6
  refine codeAny_mono ((F _ baseK (keepNs hG) TB).goes callerA room [] s T env0 ⟨[.ref a], []⟩ [.ref a] [.ref a] (.cons rfl .nil) (bind s (.ref a)) (fun v _ => v = .bl true) E0 ⟨a, ns, rfl, fun b hb => ?_, tP, seq, few, fun _ => rfl⟩) ?_
  · rw [tN hb]
    exact scrH_only K a (scrO vs) ns b
  rintro (ex | fl) s' h
  · exact h.elim
  · cases fl with
    | ret u =>
      obtain ⟨v, H', os, bare, un, ok', rv, q⟩ := h
      have q : v = .bl true := q
      subst q
      have rv : u = Value.bool true := rv
      subst rv
      have keep : ∀ b o, b ≠ Pt → s.heap.get? b = some o → s'.heap.get? b = some o := fun b o nb g => by
        cases q : T b with
        | none => exact un.keep b o g q (fun z => by cases z) (fun z => by cases z)
        | some u =>
          have q2 := q
          rw [tN nb] at q2
          obtain ⟨rfl, _, rfl⟩ := scrH_inv q2
          have g2 := (ok' b _ (un.frzs b _ _ q)).1
          have := at_.symm.trans g
          cases this
          exact g2
      obtain ⟨more, hm⟩ := un.tbls Pt #[] tP
      have hm2 : s'.heap.get? Pt = some { cls := .none, data := .fields (#[] ++ more) } := ok' Pt _ hm
      refine ⟨rfl, ⟨fun b o g => ?_, fun b o g => ?_⟩, os, bare⟩
      · by_cases hb : b = Pt
        · rw [hb] at g ⊢
          rw [hT] at g
          cases g
          exact .inr (.inl ⟨((PySem.W.codeHd_of_K inK hc).tab hT).isCodeTable, rfl, #[], more, rfl, hm2⟩)
        · exact .inl (keep b o hb g)
      · by_cases hb : b = Pt
        · rw [hb]; exact ⟨_, hm2⟩
        · exact ⟨o, keep b o hb g⟩
    | next => exact h.elim
    | brk => exact h.elim
    | cont => exact h.elim
end
/-- the table of a def of the program is empty at the head -/
def TabAt (K : PySem.W.Frag) (fb : Addr) (h : Heap) : Prop := ∀ (c P : Addr) (o : Obj) (fd : FuncData) (e : Value) (dd : Option Addr) (vs : Array Value) (sl : Array (Option Value)), K.lookup fb = some o → o.data = .func fd → fd.code = .ref c → K.lookup c = some ⟨e, dd, .fields vs, sl⟩ → vs[11]? = some (.ref P) →
  h.get? P = some { cls := .none, data := .fields #[] }
theorem codeTab_ex {K : PySem.W.Frag} {c P : Addr} (e : PySem.W.codeHdIn K c P = true) : ∃ (cl : Value) (dd : Option Addr) (vs : Array Value) (sl : Array (Option Value)), K.lookup c = some ⟨cl, dd, .fields vs, sl⟩ ∧ vs[11]? = some (.ref P) := by
  unfold PySem.W.codeHdIn at e
  split at e
  · rename_i vs sl hk
    refine ⟨_, _, vs, sl, hk, ?_⟩
    simp only [Bool.and_eq_true] at e
    obtain ⟨⟨⟨⟨⟨e1, _⟩, _⟩, _⟩, _⟩, _⟩ := e
    split at e1
    · rename_i P' h
      rw [h, beq_iff_eq.mp e1]
    · cases e1
  · cases e
theorem TabAt.at {K : PySem.W.Frag} {fb c P : Addr} {h : Heap} {fd : FuncData} {oc : Value} {od : Option Addr} {osl : Array (Option Value)} (t : TabAt K fb h) (lk : K.lookup fb = some ⟨oc, od, .func fd, osl⟩) (hc : fd.code = .ref c) (e : PySem.W.codeHdIn K c P = true) : h.get? P = some { cls := .none, data := .fields #[] } := by
  obtain ⟨cl, dd, vs, sl, e1, e2⟩ := codeTab_ex e
  exact t c P _ fd cl dd vs sl lk rfl hc e1 e2
theorem walk_ofTG {l : PySem.W.OpenLaw} {k : Nat} {q : Program} {loose : List Str} {XP : (Str → Option Value) → Heap → Prop} {YP : World → Heap → Prop} {d : DefRec} {K : Params → PySem.W.Frag} {x nm : Str}
    (hn : l.most = some 63) (hdf : d.params.defaults = []) (room : RoomG k callerA) (hrec : ((recsOf q).any fun e => e.name == nm) = true) (hY : ∀ (w : World) (h : Heap), YP w h → (K w.params).In h)
    (F : ∀ (w : World) (mg : Str → Option Value) (fa : Addr) (h : Heap), (K w.params).In h → h.Ns mainGlobals mg → mg d.name = some (.ref fa) → (∀ fb, mg nm = some (.ref fb) → TabAt (K w.params) fb h) →
      ∃ (fd : FuncData) (cA Pt : Addr), h.get? Pt = some { cls := .none, data := .fields #[] } ∧ (K w.params).lookup Pt = none ∧ PySem.W.codeHdIn (K w.params) cA Pt = true ∧ (∀ (s : Shared) (u : Value), BindsTo s fd ⟨[u], []⟩ [(x, u)]) ∧
        ∀ base : Heap, (K w.params).In base → base.Ns mainGlobals mg → LamX.TabB base mg cA Pt → FnOkG l.prog w (K w.params) mg base CX0 k fa fd [x] (spLawT (K w.params) Pt)) :
    PySem.W.WalkO q loose XP YP l.row.toRowW d [] (fun f vs => PySem.call f vs) := by
  apply Att.attach_call hn hdf
  intro w s₀ s mg mb fa o pm cd doc a vs ns G Y _ _ _ at_fa at_a iv short gens
  have inK := hY w _ Y
  have tab : ∀ fb, mg nm = some (.ref fb) → TabAt (K w.params) fb s.heap := fun fb hfb c P o1 fd1 e dd vs1 sl k1 k2 k3 k4 k5 => by
    obtain ⟨dL, hm, hn1⟩ := List.any_eq_true.mp hrec
    have hn2 : dL.name = nm := beq_iff_eq.mp hn1
    obtain ⟨a', o', fd', c', P', h1, h2, h3, h4, h5, h6⟩ := G.T.tab dL hm
    rw [hn2, hfb] at h1
    cases h1
    have g1 := inK _ _ k1
    rw [g1] at h2
    cases h2
    rw [k2] at h3
    cases h3
    rw [k3] at h4
    cases h4
    obtain ⟨⟨oc, vc, e1, _, e3, e4⟩, hP⟩ := h6
    have g2 := inK _ _ k4
    rw [g2] at e1
    cases e1
    cases e3
    rw [k5] at e4
    cases e4
    exact hP
  obtain ⟨fd, cA, Pt, hT, nT, hc, bind, ok⟩ := F w mg fa _ inK G.T.g at_fa tab
  exact law_callTG room inK G.T.g G.T.b G.T.builtins G.T.nolimit gens G.T.bmain hT nT hc at_a iv (Nat.le_trans short (by decide)) short ok bind
end Q
/-! QX20 -/
namespace Q
open PySem L2 PySem.Spec PyProof.Rows LamX
end Q
/-! QX21 -/
namespace Q
open PySem L2 PySem.Spec PyProof.Rows LamX
/-! ### an exception's field, where it is of one class and of no other -/
/-! ### another def that holds the lambdas -/
section
variable {K : PySem.W.Frag} {B : Bs} {F : Hp} {pa : Option Addr} {t : Ts} {env : En} {σ : L2.St} {H : Hp} {Pt : Addr} {q0 : Str}
theorem TabOf.nt (T : TabOf B Pt q0) (C : Cf K B F pa t env σ H) : F Pt = none ∧ ∃ ps, H Pt = some (.tbl ps) ∧ TriplesOk ps.toList ∧ ∀ (pos : Pos) (cv : Value), codeAmong pos ps.toList = some cv → ∃ c, cv = .ref c ∧ F c = some (CodeO c q0) := (C.tab _ T.m).2
end
end Q
/-! QX22 -/
namespace Q
open PySem L2 PyProof.Rows
/-! ### range(m, n, -1) -/
end Q
/-! QX23 -/
namespace Q
open PySem L2 PyProof.Rows
/-! ### max of a list of pairs -/
end Q
/-! QX25 -/
namespace Q
open PySem L2 PySem.Spec PyProof.Rows LamX
end Q
/-! QO1 -/
namespace L2
open PySem PySem.Spec PyProof.Rows
end L2
namespace Q
open PySem L2 PyProof.Rows
end Q
/-! QO2 -/
namespace Q
open PySem L2 PyProof.Rows
/-! ### texts -/
section
variable {K : PySem.W.Frag} {X : Cx} {B : Bs} {a b e o : Expr} {da db dk : DE} {pos apos p : Pos}
theorem rop_ixS : ROp K rIxS oIxS := fun B F pa t env σ H x y v u P Q W rx ry h k => by
  cases x with
  | str z =>
    cases y with
    | int i =>
      obtain ⟨hz, c, hc, p⟩ := h
      refine ⟨z, i, c, rx.str W, ry.int W, zle hz, ?_, k _ (.str (sg c)) F H (Gr.refl _ _) W (rD_str _) p⟩
      unfold atC at hc
      unfold L2.atI L2.ixN
      split at hc
      · rename_i h0
        split at hc
        · rename_i h1
          rw [if_pos h0, if_pos h1]
          exact hc
        · cases hc
      · rename_i h0
        split at hc
        · rename_i h1
          rw [if_neg h0, if_pos h1]
          exact hc
        · cases hc
    | _ => exact h.elim
  | _ => exact h.elim
theorem q_ixS (ha : QV X B a da) (hb : QV X B b db) (hs : PlainIx b) : QE X B (.Subscript a b pos) (dOp oIxS da db) := PE.imp (pe_ix ix_str ha hb hs) (ev2 rop_ixS)
theorem q_sliceS {lo hi : Option Expr} {dl dh : DO} {p2 : Pos} (ha : QV X B a da) (hl : QO X B lo dl) (hh : QO X B hi dh) : QE X B (.Subscript a (.Slice lo hi none p2) pos) (dSliceS da dl dh) := PE.imp (pe_slice sl_str ha hl hh) fun σ H Q ⟨F, pa, t, env, P, C, hd, k⟩ =>
  ⟨F, pa, t, env, _, C, hd, fun v x F1 pa1 t1 H1 g1 C1 r1 q1 => ⟨F1, pa1, t1, env, _, C1, q1, fun l F2 pa2 t2 H2 g2 C2 q2 => ⟨F2, pa2, t2, env, _, C2, q2, fun h F3 pa3 t3 H3 g3 C3 q3 => by
    cases x with
    | str z =>
      obtain ⟨hz, q3⟩ := q3
      refine ⟨z, ((r1.mono g2).mono g3).str C3, zle hz, ?_⟩
      have e : cutS z l h = cutT z l h := by
        unfold cutS cutT
        rw [sIx_eq, sIx_eq]
      rw [e]
      exact k _ (.str (cutT z l h)) F3 pa3 t3 H3 ((g1.trans g2).trans g3) C3 (rD_str _) q3
    | _ => exact q3.elim⟩⟩⟩
theorem glued_eq (z : Str) : ∀ ss : List Str, Txt.join z ss = ⟨(joinC z ss).toArray⟩ := by
  have go : ∀ (r : List Str) (acc : Array Nat), (r.foldl (fun acc p => acc ++ z.cps ++ p.cps) acc).toList = acc.toList ++ (r.map fun p => z.cps.toList ++ p.cps.toList).flatten := by
    intro r
    induction r with
    | nil => intro acc; simp
    | cons p r ih => intro acc; rw [List.foldl_cons, ih]; simp
  have jc : ∀ (x : Str) (r : List Str), joinC z (x :: r) = x.cps.toList ++ (r.map fun p => z.cps.toList ++ p.cps.toList).flatten := by
    intro x r
    induction r generalizing x with
    | nil => simp [joinC]
    | cons y r ih => rw [joinC, ih]; simp
  intro ss
  cases ss with
  | nil => rfl
  | cons x r =>
    show Builtin.Str.glued z (x :: r) = _
    unfold Builtin.Str.glued
    rw [jc, ← go r x.cps]
    simp
theorem q_join (ho : QE X B o da) (he : QE X B e db) (hs : starEach [e] X.env = [(false, eval e X.env)] := by rfl) (hbase : attributeBase o "join" X.env (eval o X.env) = eval o X.env := by rfl) (hline : (apos.endLine == pos.line) = true := by rfl) :
    QE X B (.Call (.Attribute o "join" apos) [e] [] pos) (dJoin da db) := PE.imp (pe_join ho he hs hbase hline) fun σ H Q ⟨F, pa, t, env, P, C, hd, k⟩ =>
  ⟨F, pa, t, env, _, C, hd, fun v x F1 pa1 t1 H1 g1 C1 r1 q1 => by
    cases x with
    | str z =>
      refine ⟨⟨z, by unfold RelD at r1; exact r1⟩, F1, pa1, t1, env, _, C1, q1, fun u y F2 pa2 t2 H2 g2 C2 r2 q2 => ?_⟩
      cases y with
      | lst l =>
        obtain ⟨ss, rfl, hz, q2⟩ := q2
        unfold RelD at r2
        obtain ⟨A, vs, rfl, e2, r3⟩ := r2
        rw [relL_strs r3] at e2
        refine ⟨z, A, ss, by unfold RelD at r1; exact r1, rfl, .inl (SqL.of (C2.sub _ _ e2)), by unfold zLen at hz; omega, ?_⟩
        rw [glued_eq]
        exact k _ (.str ⟨(joinC z ss).toArray⟩) F2 pa2 t2 H2 (g1.trans g2) C2 (rD_str _) q2
      | _ => exact q2.elim
    | _ => exact q1.elim⟩
theorem rop_inS : ROp K L2.rInS oInS := fun B F pa t env σ H x y v u P Q W rx ry h k => by
  cases x with
  | str x =>
    cases y with
    | str z =>
      obtain ⟨c, rfl, p⟩ := h
      exact ⟨c, z, rx.str W, ry.str W, k _ (.bl (decide (c ∈ z.cps.toList))) F H (Gr.refl _ _) W (rD_bl _) p⟩
    | _ => exact h.elim
  | _ => exact h.elim
theorem it_str {F0 : Hp} {pa0 : Option Addr} (z : Str) : ItOk K (Its z) (z.cps.toList.map fun c => .str (sg c)) F0 pa0 := fun B F pa t env σ H i g C => by
  refine ⟨fun hi => ?_, fun d hd => ?_⟩
  · rw [List.length_map, Array.length_toList] at hi
    exact Nat.le_of_eq hi
  · rw [List.getElem?_map] at hd
    cases q : z.cps.toList[i]? with
    | none => rw [q] at hd; cases hd
    | some c =>
      rw [q] at hd
      cases hd
      have hl := (List.getElem?_eq_some_iff.mp q).1
      rw [Array.length_toList] at hl
      refine ⟨hl, fun x H' y => ?_⟩
      obtain ⟨rfl, c', hc, rfl⟩ := y
      rw [Array.getElem?_toList] at q
      rw [q] at hc
      cases hc
      exact ⟨fun _ _ z => z, F, fun a o e => .inl ⟨o, e⟩, Gr.refl _ _, C, rD_str _⟩
theorem q_istr {tg : Expr} (he : QE X B e da) : QI X B tg e (iStrD da) := PI.imp (pi_str he) fun σ H R ⟨F, pa, t, env, P, C, h, k⟩ => ⟨F, pa, t, env, _, C, h, fun v d F' pa' t' H' g C' r q => by
  cases d with
  | str z =>
    unfold RelD at r
    exact ⟨z, r, k _ _ F' pa' t' H' g C' (it_str z) q⟩
  | _ => exact q.elim⟩
end
/-! ### {k: v for x in xs if c} -/
/-! ### x.append(y.pop(k)) -/
end Q
/-! QO3 -/
namespace Q
open PySem L2 PyProof.Rows
/-! ### defs with a default -/
end Q
/-! QX3 -/
namespace Q
open PySem L2 PyProof.Rows
/-! ### reversed(range(n)) -/
end Q
/-! QX4 -/
/-! ### list(reversed(l)) -/
namespace Q
open PySem
open Sem (wp)
open L2 PyProof.Rows
/-! ### f(a, .., k = v, ..) that may raise -/
end Q
/-! QX5 -/
namespace Q
open PySem L2 PyProof.Rows
/-! ### calls that may raise: defaults, one way or the other -/
end Q
/-! QO4 -/
namespace Q
open PySem PySem.Spec PyProof.Rows L2
end Q
namespace Q
open PySem L2 PySem.Spec PyProof.Rows LamX
end Q
/-! QX6 -/
namespace Q
open PySem L2 PyProof.Rows
end Q
/-! QX7 -/
namespace Q
open PySem L2 PyProof.Rows
end Q
/-! QX8 -/
namespace PySem.W
open PySem PyProof.Rows
end PySem.W
namespace Q
open PySem L2 PyProof.Rows
end Q
/-! QO5 -/
namespace Q
open PySem L2 PyProof.Rows
/-! ### != of instances, or of None twice -/
end Q
/-! QO6 -/
/-! != of lists that hold instances with an own ==, where all is equal -/
namespace Q
open PySem PySem.Spec PyProof.Rows L2
section
variable {X : Cx} {n : Nat} {D : Eqv}
def rNeG (D : Eqv) : R2 := fun x y H Q => D x y H ∧ ∀ H', Ext H H' → Q (.bl false) H'
end
section
variable {K : PySem.W.Frag} {B : Bs} {F : Hp} {pa : Option Addr} {t : Ts} {env : En} {σ : L2.St} {H H' : Hp}
theorem Cf.ext (C : Cf K B F pa t env σ H) (kp : Ext H H') : Cf K B F pa t env σ H' := by
  refine ⟨C.len, fun a u e => kp _ _ (C.sub a u e), C.bas, fun a u e hx ho => kp _ _ (C.frm a u e hx ho), C.new, fun a ha => ?_, C.val, fun i d e => ?_, C.sep, fun a e => ?_, C.pnn, C.tab.hs (fun q _ ps e => kp _ _ e), C.ntb, fun a d e => by
    obtain ⟨h1, ⟨u, h2, h3⟩, h4⟩ := C.obs a d e
    exact ⟨h1, ⟨u, kp _ _ h2, h3⟩, h4⟩, C.obx, C.osp⟩
  · obtain ⟨u, q⟩ := C.exl a ha
    exact ⟨u, kp _ _ q⟩
  · obtain ⟨a, u, h1, h2, h3⟩ := C.own i d e
    exact ⟨a, u, h1, kp _ _ h2, h3⟩
  · obtain ⟨h1, ⟨u, h2, h3⟩, h4⟩ := C.pen a e
    exact ⟨h1, ⟨u, kp _ _ h2, h3⟩, h4⟩
theorem Cf.naked (C : Cf K B F pa t env σ H) : Cf K (B0 F none T0 H) F none T0 [] [] H :=
  ⟨rfl, C.sub, fun _ _ e => e, fun _ _ e _ _ => e, fun a o e => .inl ⟨o, e⟩, fun a ha => by simp [B0] at ha, fun i d e => by simp at e, fun i d e => by simp at e, fun i j d e a q => by simp at q, fun a e => (nomatch e), rfl, TabF.nil, C.ntb, fun a d e => (nomatch e), fun a e => e, fun i d a e => by simp at e⟩
theorem naked_ext (C : Cf K (B0 F none T0 H) F none T0 [] [] H) (x : Ext H H') : Cf K (B0 F none T0 H') F none T0 [] [] H' :=
  ⟨rfl, fun a o e => x _ _ (C.sub a o e), fun _ _ e => e, fun _ _ e _ _ => e, fun a o e => .inl ⟨o, e⟩, fun a ha => by simp [B0] at ha, fun i d e => by simp at e, fun i d e => by simp at e, fun i j d e a q => by simp at q, fun a e => (nomatch e), rfl, TabF.nil, C.ntb, fun a d e => (nomatch e), fun a e => e, fun i d a e => by simp at e⟩
/-- two instances of one datum, of which the own == tells True -/
def RI (K : PySem.W.Frag) (sp : PSp) (a b : Addr) (H : Hp) : Prop := ∃ F d, Cf K (B0 F none T0 H) F none T0 [] [] H ∧ RelD K F none d (.ref a) ∧ RelD K F none d (.ref b) ∧ sp [d, d] T0 fun z _ => z = .bl true
theorem RI.mon {sp : PSp} : ∀ a b H H', Ext H H' → RI K sp a b H → RI K sp a b H' := fun a b H H' x ⟨F, d, C, r1, r2, h⟩ => ⟨F, d, naked_ext C x, r1, r2, h⟩
def DBq (K : PySem.W.Frag) (C : Addr) (sp : PSp) : Eqv := fun x y H => DFlat x y H ∨ DIns C (RI K sp) x y H
def DNq (K : PySem.W.Frag) (C : Addr) (sp : PSp) : Nat → Eqv
  | 0 => DBq K C sp
  | n + 1 => fun x y H => DBq K C sp x y H ∨ (DList (DNq K C sp n) x y H ∨ DTup K (DNq K C sp n) x y H)
theorem mon_DBq {C : Addr} {sp : PSp} : Mon (DBq K C sp) := mon_flat.or (mon_ins RI.mon)
theorem mon_DNq {C : Addr} {sp : PSp} : ∀ n, Mon (DNq K C sp n)
  | 0 => mon_DBq
  | n + 1 => mon_DBq.or ((mon_list (mon_DNq n)).or (mon_tup (mon_DNq n)))
theorem okB_DBq {C : Addr} {sp : PSp} {d : D} {v u : V} (Cc : Cf K B F pa t env σ H) (h : okB C sp d) (r1 : RelD K F pa d v) (r2 : RelD K F pa d u) : DBq K C sp v u H := by
  cases d with
  | int i => unfold RelD at r1 r2; subst r1 r2; exact .inl ⟨rfl, rfl, by simp [eqV]⟩
  | bl b => unfold RelD at r1 r2; subst r1 r2; exact .inl ⟨rfl, rfl, by simp [eqV]⟩
  | non => unfold RelD at r1 r2; subst r1 r2; exact .inl ⟨rfl, rfl, rfl⟩
  | str s => unfold RelD at r1 r2; subst r1 r2; exact .inl ⟨rfl, rfl, by simp [eqV]⟩
  | ins C' ns l =>
    obtain ⟨rfl, np, hs⟩ := h
    have a1 := RelD.un _ _ np r1
    have a2 := RelD.un _ _ np r2
    unfold RelD at r1 r2
    obtain ⟨a, dx, us, rfl, e1, _, _⟩ := r1
    obtain ⟨b, dy, ws, rfl, e2, _, _⟩ := r2
    exact .inr ⟨a, b, dx, dy, _, _, rfl, rfl, Cc.sub _ _ e1, Cc.sub _ _ e2, F, _, Cc.naked, a1, a2, hs⟩
  | _ => exact h.elim
theorem prs_of {Dq : Eqv} {H : Hp} : ∀ {l : List D} {vs us : List V}, (∀ d ∈ l, ∀ v u, RelD K F pa d v → RelD K F pa d u → Dq v u H) → RelL K F pa l vs → RelL K F pa l us → Prs Dq vs us H
  | [], vs, us, _, r1, r2 => by
    rw [r1.inv0, r2.inv0]
    exact Prs.nil
  | d :: l, vs, us, h, r1, r2 => by
    obtain ⟨v, vr, rfl, a1, b1⟩ := r1.inv
    obtain ⟨u, ur, rfl, a2, b2⟩ := r2.inv
    exact Prs.cons (h d (List.mem_cons_self ..) v u a1 a2) (prs_of (fun e he => h e (List.mem_cons_of_mem _ he)) b1 b2)
theorem okC_DNq {C : Addr} {sp : PSp} (Cc : Cf K B F pa t env σ H) : ∀ (n : Nat) (d : D) (v u : V), okC C sp n d → RelD K F pa d v → RelD K F pa d u → DNq K C sp n v u H
  | 0, d, v, u, h, r1, r2 => okB_DBq Cc h r1 r2
  | n + 1, d, v, u, h, r1, r2 => by
    cases d with
    | lst l =>
      unfold RelD at r1 r2
      obtain ⟨a, vs, rfl, e1, q1⟩ := r1
      obtain ⟨b, us, rfl, e2, q2⟩ := r2
      exact .inr (.inl ⟨a, b, vs, us, rfl, rfl, Cc.sub _ _ e1, Cc.sub _ _ e2, prs_of (fun e he v u x y => okC_DNq Cc n e v u (h e he) x y) q1 q2⟩)
    | tup l =>
      unfold RelD at r1 r2
      obtain ⟨a, vs, rfl, e1, q1⟩ := r1
      obtain ⟨b, us, rfl, e2, q2⟩ := r2
      exact .inr (.inr ⟨a, b, vs, us, rfl, rfl, .inl (.inl (Cc.sub _ _ e1)), .inl (.inl (Cc.sub _ _ e2)), prs_of (fun e he v u x y => okC_DNq Cc n e v u (h e he) x y) q1 q2⟩)
    | _ => unfold okC at h; exact .inl (okB_DBq Cc h r1 r2)
end
section
variable {X : Cx} {CX : CXT} {B : Bs} {k : Nat} {f C : Addr} {fd : FuncData} {ps : List Str} {E : XK} {a b : Expr} {da db : DE} {pos : Pos} {sp : PSp}
theorem fn_spEq (F : FnOk X.prog X.w X.K X.mg X.base CX k f fd ps (lift X.K sp)) : FnOk X.prog X.w X.K X.mg X.base CX k f fd ps (spEq (RI X.K sp)) := F.imp fun vs H Q E ⟨a, b, e, ⟨F0, d, Cc, r1, r2, hs⟩, q⟩ => by
  subst e
  refine ⟨F0, none, T0, [d, d], fun z _ => z = .bl true, Cc, RelL.cons r1 (RelL.cons r2 RelL.nil), hs, fun v z F' pa' t' H' C' r e => ?_⟩
  subst e
  unfold RelD at r
  subst r
  exact q H' fun a o e => C'.frm a o e (by simp [B0]) fun ⟨d, z⟩ => nomatch z
theorem eqG_DNq (F : FnOk X.prog X.w X.K X.mg X.base CX k f fd ps (lift X.K sp)) (m : Meth X.K C "__eq__" f) (hb : Binds X.K fd ps []) (hx : Passes CX X E) : ∀ n, EqG X (k + n) (DNq X.K C sp n)
  | 0 => (eqG_flat.mono (Nat.zero_le _)).or (eqG_ins (fn_spEq F) m.at_ m.fn hb hx)
  | n + 1 => ((eqG_DNq F m hb hx 0).mono (by omega)).or ((eqG_list (mon_DNq n) (eqG_DNq F m hb hx n)).or (eqG_tup (mon_DNq n) (eqG_DNq F m hb hx n)))
end
end Q
/-! QO7 -/
namespace Q
open PySem PySem.Spec PyProof.Rows L2
/-! ### len(o), o an instance whose class has __len__ -/
/-! ### a def with a default, handed all -/
end Q
/-! QO8 -/
/-! the law's own def where several defs hold lambdas: several tables of code objects -/
namespace Q
open PySem L2 PySem.Spec PyProof.Rows LamX
end Q
/-! QH35 -/
namespace Q
open PySem L2 PyProof.Rows PpSet
/-! ### set(l), l a list of whole numbers (HandS.SetFor has the tuples) -/
end Q
/-! QO9 -/
/-! sets of texts: set(l) and sorted(set(l)), l a list of texts -/
namespace Q
open PySem PySem.Spec PyProof.Rows L2 PpSet
def keyS (e : Int × Value) : Str := match e.2 with | .str k _ => k | _ => Str.empty
def GoodS (w : World) (e : Int × Value) : Prop := ∃ k tk, e.2 = Value.str k tk ∧ e.1 = hashStr w k
/-- the set of texts at a -/
def SetS (w : World) (h : Heap) (a : Addr) (S : Str → Bool) (n : Nat) : Prop :=
  ∃ o es ep t, h.get? a = some o ∧ o.ExactSet ∧ o.data = .set es ep t ∧ (∀ e ∈ es.toList, GoodS w e) ∧ (es.toList.map keyS).Nodup ∧ (∀ k, S k = true ↔ k ∈ es.toList.map keyS) ∧
    es.size < scanBound ∧ t.fits es.size = true ∧ es.size = n ∧ L2.Ris t.place.toList ∧ (w.params.followText "set-order" = true ∨ t.led = true)
section
variable {P : Program} {w : World} {h h' : Heap} {a : Addr} {S : Str → Bool} {n : Nat}
theorem SetS.at (R : SetS w h a S n) (k : ∀ o, h.get? a = some o → h'.get? a = some o) : SetS w h' a S n := by
  obtain ⟨o, es, ep, t, ho, r⟩ := R
  exact ⟨o, es, ep, t, k o ho, r⟩
end
end Q
/-! QO10 -/
namespace Q
open PySem L2 PyProof.Rows
/-! ### methods that tell None or a new object -/
end Q
/-! QX9 -/
namespace Q
open PySem L2 PyProof.Rows
section
variable {K : PySem.W.Frag}
theorem rop_notInT : ROp K (rIn K true) oNotInT := fun B F pa t env σ H x y v u P Q W rx ry h k => by
  cases x with
  | str x =>
    cases y with
    | tup l =>
      obtain ⟨ss, rfl, h⟩ := h
      obtain ⟨a, vs, rfl, e1, _, r1⟩ := ry.tup W
      rw [relL_strs r1] at e1
      obtain rfl := rx.str W
      refine ⟨a, _, rfl, .inr (SqT.of e1), rfl, flat_strs ss, ?_⟩
      refine k _ (.bl (!ss.any fun z => z == x)) F H (Gr.refl _ _) W ?_ h
      rw [if_pos rfl, inV_strs]
      exact rD_bl _
    | _ => exact h.elim
  | _ => exact h.elim
end
end Q
/-! QX10 -/
namespace Q
open PySem L2 PyProof.Rows
end Q
/-! QX11 -/
namespace Q
open PySem L2 PyProof.Rows
section
variable {X : Cx} {B : Bs} {K : PySem.W.Frag} {e : Expr} {pos : Pos} {da : DE} {C : Addr}
theorem units65 {k : Nat} {A : Around} (r : Room k A) : A.units + 65 < cLine := by have := r.un; omega
theorem any_toPy (x : D) (hx : plain x = true) : ∀ l : List D, plains l = true → (toPys l).any (fun z => PyData.eqv z (toPy x)) = l.any fun z => deq z x
  | [], _ => by simp [toPys]
  | y :: l, h => by
    simp only [plains, Bool.and_eq_true] at h
    simp only [toPys, List.any_cons]
    rw [eqv_toPy y x h.1 hx, any_toPy x hx l h.2]
end
end Q
/-! QO11 -/
/-! ### sorted(l, key = lambda r: r[0]); x in l, l a list of data -/
namespace Q
open PySem PySem.Spec PyProof.Rows L2 LamX
section
variable {K : PySem.W.Frag}
theorem rop_inDL : ROp K (rInD K) oInDL := fun B F pa t env σ H x y v u P Q W rx ry h k => by
  cases y with
  | lst l =>
    obtain ⟨⟨h1, h2, h3, h4⟩, p⟩ := h
    refine ⟨toPy x, toPys l, dp_x W rx h1, ?_, shaped_toPy h1 h3, ?_, ?_⟩
    · have := dp_x W ry h2
      simpa [toPy] using this
    · have := shaped_toPy h2 h4
      simpa [toPy] using this
    rw [any_toPy x h1 l (by simpa [plain] using h2)]
    exact k _ _ F H (Gr.refl _ _) W (rD_bl _) p
  | _ => exact h.elim
end
end Q
/-! QO12 -/
namespace Q
open PySem PySem.Spec PyProof.Rows L2
end Q
/-! QX12 -/
namespace Q
open PySem L2 PyProof.Rows
end Q
/-! QX13 -/
namespace Q
open PySem L2 PyProof.Rows
end Q
/-! QX14 -/
namespace Q
open PySem L2 PyProof.Rows
section
variable {K : PySem.W.Frag}
theorem rc_str : RCall K (fun xs H Q => ∃ i, xs = [.int i] ∧ i.natAbs.log2 < 1920 ∧ Q (.str (toString i)) H) bStr := fun B F pa t env σ H xs vs P Q W r h k => by
  unfold bStr at h
  split at h
  · obtain ⟨hz, h⟩ := h
    obtain ⟨v, rfl, r1⟩ := r.one
    exact ⟨_, by rw [r1.int W], hz, k _ _ F H (Gr.refl _ _) W (rD_str _) h⟩
  · exact h.elim
variable {X : Cx} {B : Bs} {vs : List Nat} {i : Nat} {dk : DE} {tg : Expr}
end
end Q
/-! QO13 -/
namespace Q
open PySem PySem.Spec PyProof.Rows L2
end Q
/-! QO14 -/
namespace Q
open PySem PySem.Spec PyProof.Rows L2
def Tx (d : D) : List Nat := (toPy d).shown.cps.toList
def num (c : Nat) : Prop := c = 45 ∨ (48 ≤ c ∧ c ≤ 57)
/-- what ends a number -/
def Ends (u : List Nat) : Prop := ∀ c ∈ u.head?, ¬ num c
end Q
/-! QO15 -/
namespace Q
open PySem PySem.Spec PyProof.Rows L2
section
variable {K : PySem.W.Frag} {X : Cx} {B : Bs} {a b e o : Expr} {da db de : DE} {pos apos p : Pos}
theorem relL_of_strs {F : Hp} {pa : Option Addr} : ∀ ys : List Str, RelL K F pa (ys.map D.str) (ys.map V.str)
  | [] => RelL.nil
  | y :: ys => RelL.cons (rD_str _) (relL_of_strs ys)
theorem q_split (ho : QE X B o da) (he : QE X B e db) (hs : starEach [e] X.env = [(false, eval e X.env)] := by rfl) (hbase : attributeBase o "split" X.env (eval o X.env) = eval o X.env := by rfl) (hline : (apos.endLine == pos.line) = true := by rfl) :
    QN X B (.Call (.Attribute o "split" apos) [e] [] pos) (dSplit da db) := PE.imp (pe_split ho he hs hbase hline) fun σ H Q ⟨F, pa, t, env, P, C, hd, k⟩ =>
  ⟨F, pa, t, env, _, C, hd, fun v x F1 pa1 t1 H1 g1 C1 r1 q1 => by
    cases x with
    | str z =>
      refine ⟨⟨z, by unfold RelD at r1; exact r1⟩, F1, pa1, t1, env, _, C1, q1, fun u y F2 pa2 t2 H2 g2 C2 r2 q2 => ?_⟩
      cases y with
      | str c =>
        obtain ⟨hb, hz, q2⟩ := q2
        refine ⟨z, c, by unfold RelD at r1; exact r1, ?_, hb, zle hz, fun p hp => k p _ (.lst _) F2 pa2 t2 _ (g1.trans g2) (C2.loose _ hp) (C2.nw hp) upd_same ⟨_, rfl, relL_of_strs _⟩ q2⟩
        unfold RelD at r2
        rw [r2]
      | _ => exact q2.elim
    | _ => exact q1.elim⟩
/-- the parts of an f-string -/
def QJ (X : Cx) (B : Bs) (es : List Expr) (j : DJ) : Prop := ∃ ts, PJ X es ts ∧ ∀ acc σ H (Q : Str → Hp → Prop), (∃ F pa t env P, Cf X.K B F pa t env σ H ∧ j acc env t P ∧ ∀ out F' pa' t' H', Gr F pa F' pa' → Cf X.K B F' pa' t' env σ H' → P out t' → Q out H') → tJs ts acc σ H Q
theorem q_jnil : QJ X B [] dJNil := ⟨[], .nil, fun acc σ H Q ⟨F, pa, t, env, P, C, h, k⟩ => k acc F pa t H (Gr.refl _ _) C h⟩
theorem q_je {es : List Expr} {j : DJ} (he : QE X B e de) (hj : QJ X B es j) : QJ X B (e :: es) (dJE de j) := by
  obtain ⟨ts, hp, hr⟩ := hj
  refine ⟨_, .cons he hp, fun acc σ H Q ⟨F, pa, t, env, P, C, h, k⟩ => ⟨F, pa, t, env, _, C, h, fun v x F1 pa1 t1 H1 g1 C1 r1 q1 => ?_⟩⟩
  cases x with
  | str s =>
    obtain ⟨hz, q1⟩ := q1
    unfold RelD at r1
    exact ⟨s, r1, zle hz, hr _ _ _ _ ⟨F1, pa1, t1, env, _, C1, q1, fun out F2 pa2 t2 H2 g2 C2 q2 => k out F2 pa2 t2 H2 (g1.trans g2) C2 q2⟩⟩
  | _ => exact q1.elim
theorem q_jv {es : List Expr} {j : DJ} (he : QE X B e de) (hj : QJ X B es j) : QJ X B (.FormattedValue e (-1) none pos :: es) (dJV de j) := by
  obtain ⟨ts, hp, hr⟩ := hj
  refine ⟨_, .cons (pe_fmt he) hp, fun acc σ H Q ⟨F, pa, t, env, P, C, h, k⟩ => ⟨F, pa, t, env, _, C, h, fun v x F1 pa1 t1 H1 g1 C1 r1 q1 => ?_⟩⟩
  cases x with
  | str s =>
    obtain ⟨hz, hz2, q1⟩ := q1
    unfold RelD at r1
    exact .inl ⟨s, r1, zle hz, s, rfl, zle hz2, hr _ _ _ _ ⟨F1, pa1, t1, env, _, C1, q1, fun out F2 pa2 t2 H2 g2 C2 q2 => k out F2 pa2 t2 H2 (g1.trans g2) C2 q2⟩⟩
  | int i =>
    obtain ⟨hz, hz2, q1⟩ := q1
    unfold RelD at r1
    exact .inr ⟨i, r1, hz, _, rfl, zle hz2, hr _ _ _ _ ⟨F1, pa1, t1, env, _, C1, q1, fun out F2 pa2 t2 H2 g2 C2 q2 => k out F2 pa2 t2 H2 (g1.trans g2) C2 q2⟩⟩
  | _ => exact q1.elim
theorem q_fs {v1 v2 : Expr} {rest : List Expr} {j : DJ} (hj : QJ X B (v1 :: v2 :: rest) j) : QE X B (.JoinedStr (v1 :: v2 :: rest) pos) (dFs j) := by
  obtain ⟨ts, hp, hr⟩ := hj
  refine PE.imp (pe_joined hp) fun σ H Q ⟨F, pa, t, env, P, C, h, k⟩ => hr _ _ _ _ ⟨F, pa, t, env, _, C, h, fun out F' pa' t' H' g C' q => k _ (.str out) F' pa' t' H' g C' (rD_str _) q⟩
theorem rc_intT : RCall K (fun xs H Q => ∃ a n, xs = [.str a] ∧ PySem.intText? a = some n ∧ a.length ≤ 640 ∧ Q (.int n) H) bIntT := fun B F pa t env σ H xs vs P Q W r h k => by
  unfold bIntT at h
  split at h
  · obtain ⟨n, hn, hz, h⟩ := h
    obtain ⟨v, rfl, r1⟩ := r.one
    exact ⟨_, n, by rw [r1.str W], hn, hz, k _ _ F H (Gr.refl _ _) W (rD_int _) h⟩
  · exact h.elim
end
end Q
/-! QO16 -/
namespace Q
open PySem PySem.Spec PyProof.Rows L2
/-! ### a dict of the module, its keys texts -/
end Q
/-! QO17 -/
namespace Q
open PySem PySem.Spec PyProof.Rows L2
end Q
/-! QO18 -/
namespace PySem.F
end PySem.F
namespace Q
open PySem L2 PySem.Spec PyProof.Rows
/-! ### own exception classes with one field over LookupError, ValueError -/
abbrev vaTail : List Value := [.type "ValueError", .type "Exception", .type "BaseException", .type "object"]
theorem fxb_Value : FxB "ValueError" "ValueError.__new__" "ValueError.__init__" vaTail := ⟨PySem.F.excBase_ValueError, PySem.F.store_ValueError.passes, by decide +kernel, rfl⟩
end Q
/-! QO19 -/
namespace Q
open PySem PySem.Spec PyProof.Rows L2
end Q
/-! QO20 -/
/-! own exception classes over KeyError, whose __new__ is LookupError's -/
namespace PySem
end PySem
/-! QO21 -/
namespace Q
open PySem L2 PySem.Spec PyProof.Rows
/-! ### own exception classes with one field, whatever the base: what a base must give -/
structure FxG (newId initId : String) (tl : List Value) : Prop where
  pass : ∀ self : Value, refuseLoop self "__setattr__" tl = pure ()
  obj : tl.contains (.type "object") = true
  ne : tl.isEmpty = false
  callO : ∀ {prog : Program} {w : World} {A : Around} {R : Result → Shared → Prop} {h : Heap} {g : Array GenState} {d : Drawn} {t : Nat} {os : OsState} {nm q : Str} {C N : Addr} {bs : List Value} {hdct : Bool} {sn : List Str} {sub : List Value} {ab : Bool} {col : Option Bool} {dd : Option Addr} {k0 k1 k2 k3 k5 : Option Value} {rest : List Value} {fI : Addr},
    h.get? C = some (excClassObj nm q C N bs tl hdct sn sub ab col dd k0 k1 k2 k3 k5 newId) → W.Looks (model prog w) h (typeLookup (.ref C) "__init__") (some (.ref fI)) → (∀ self, W.Looks (model prog w) h (bindSpecial (.ref fI) self) (.ref fI, [self])) → rest.length ≤ sizeLine →
    codeAny (model prog w) (A.under (.builtin "type.__call__" ⟨.ref C :: rest, []⟩)) (.call (.ref fI) ⟨.ref (h.objs.size + 1) :: rest, []⟩) (W.InitBack (h.objs.size + 1) R) ⟨(h.push (W.kdv_tup rest)).push (HandSPX.excO C h.objs.size), g, d, t, os⟩ →
    codeAny (model prog w) A (.call (.ref C) ⟨rest, []⟩) R ⟨h, g, d, t, os⟩
  initB : ∀ {prog : Program} {w : World} {A : Around} {R : Result → Shared → Prop} {h : Heap} {g : Array GenState} {d : Drawn} {t : Nat} {os : OsState} {nm q : Str} {C N : Addr} {bs : List Value} {hdct : Bool} {sn : List Str} {sub : List Value} {ab : Bool} {col : Option Bool} {dd : Option Addr} {k0 k1 k2 k3 k5 : Option Value} {e t0 : Addr} {rest : List Value},
    h.get? C = some (excClassObj nm q C N bs tl hdct sn sub ab col dd k0 k1 k2 k3 k5 newId) → h.get? e = some (HandSPX.excO C t0) → rest.length ≤ sizeLine →
    (∀ h' t1, (∀ b o, b ≠ e → h.get? b = some o → h'.get? b = some o) → h'.get? e = some (HandSPX.excO C t1) → R (.ok (.ret .none)) ⟨h', g, d, t, os⟩) →
    codeAny (model prog w) A (.call (.builtin initId) ⟨.ref e :: rest, []⟩) R ⟨h, g, d, t, os⟩
theorem FxB.g {B newId initId : String} {tl : List Value} (F : FxB B newId initId tl) : FxG newId initId tl :=
  ⟨F.pass, F.obj, F.ne, fun a b c e f => PySem.HandSPX.call_own F.base (fun Y => rfl) a b c e f, fun a b c e => PySem.HandSPX.init_base F.base (fun Y => rfl) a b c e⟩
end Q
namespace PySem
namespace HandSPX
open PySem.W PySem.Calls PyProof.Rows Builtin Builtin.ObjectAttr
section
variable {prog : Program} {w : World} {A : Around} {E : Value → Shared → Prop} {R : Result → Shared → Prop} {hp : Heap} {g : Array GenState} {d : Drawn} {t : Nat} {os : OsState}
theorem exc_osaG {K : W.Frag} {name : Str} {tk : Tok} {v : Value} {x C : Addr} {fv : Array Value} {cd : ClassData} {tl : List Value} {newId initId : String} (T : Q.FxG newId initId tl)
    (X : K.In hp) (hx : hp.get? x = some { cls := .ref C, data := .fields fv }) (hcd : W.clsIn K C = some cd) (hm : cd.mro = .ref C :: tl) (hh : cd.hasDict = true) (ha : W.findIn K (.ref C) name = some none)
    (hq : ∀ h' tk' dx, (∀ b o, b ≠ x → hp.get? b = some o → h'.get? b = some o) → hp.objs.size ≤ dx → dx ≠ x → h'.get? x = some { cls := .ref C, dict := some dx, data := .fields fv } →
      h'.Ns1 dx (fun y => if y = name then some v else none) → R (.ok (.ret .none)) ⟨h', g, d, tk', os⟩) :
    codeAny (model prog w) A (.call (.builtin "object.__setattr__") ⟨[.ref x, .str name tk, v], []⟩) R ⟨hp, g, d, t, os⟩ := by
  have I : W.InstAt hp x { cls := .ref C, data := .fields fv } C none := ⟨hx, rfl, rfl, trivial⟩
  have SF := F.store_object
  have ne : cd.mro.isEmpty = false := by rw [hm]; rfl
  have hob : cd.mro.contains (.type "object") = true := by rw [hm, List.contains_cons, T.obj, Bool.or_true]
  have hxs : x ≠ hp.objs.size := Nat.ne_of_lt (Heap.lt_size hx)
  have sub : W.Looks (model prog w) hp (isInstance (.ref x) (.type "object")) true := I.type.andThen (W.looks_mroIn X (by unfold W.mroIn; rw [hcd, Option.bind_some, if_neg (by rw [ne]; decide), hob]))
  refine codeAny_call_builtin SF.slot.plain SF.entry (@W.check_slot (model prog w) _ _ ⟨hp, g, d, t, os⟩ "object.__setattr__" "object" "__setattr__" (.ref x) [.str name tk, v] [] _ SF.kind SF.split sub (SF.args (.ref x) (.str name tk) v) ?_)
  have hmr : W.Looks (model prog w) hp (mroOf (.ref C)) cd.mro := (W.looks_clsIn X hcd).andThen .now
  have L3 : W.Looks (model prog w) hp (storeTaker? none) none := .now
  have hcls : W.Looks (model prog w) hp (classData C) cd := W.looks_clsIn X hcd
  rw [W.osa_eq, refuse_eq]
  refine wpAny_bind (wpAny_bind (I.type.at (wpAny_bind (hmr.at ?_))))
  rw [hm, refuseLoop_ref, T.pass]
  refine wpAny_pure (wpAny_bind (I.type.at (wpAny_bind ((W.looks_findIn X ha).at (wpAny_bind (L3.at ?_))))))
  show wpAny _ _ (storeInOwnDict (.ref x) (.ref C) (.str name tk) name v false) _ _ _
  clear hm hob ne sub hmr
  obtain ⟨nm, bs, mro, ns, qn, hd, sn, sb, ab, col, del⟩ := cd
  dsimp only at hh
  subst hh
  unfold storeInOwnDict ownDictForStores
  repeat (first | with_reducible refine store_in_new ?_ ?_ | with_reducible refine wpAny_loadPart_at hx ?_ | with_reducible refine hcls.at ?_ | wp_step)
  · exact ⟨_, #[], _, (Heap.get?_update_ne _ _ _ _ hxs.symm).trans (Heap.get?_push_at rfl rfl), rfl, fun e he => absurd he (by simp), fun _ => rfl⟩
  · intro h' tk' hn' hs
    have hx₁ : (hp.push { cls := .type "dict", data := .dict #[] }).get? x = some { cls := .ref C, data := .fields fv } := Heap.get?_push_of_some _ hx
    refine hq h' tk' hp.objs.size (fun b o hb ho => ?_) (Nat.le_refl _) hxs.symm ?_ hn'
    · exact (hs.2 b (Nat.ne_of_lt (Heap.lt_size ho))).trans ((Heap.get?_update_ne _ _ _ _ hb).trans (Heap.get?_push_of_some _ ho))
    · exact (hs.2 x hxs).trans (Heap.get?_update_self _ hx₁ rfl)
end
end HandSPX
end PySem
namespace Q
open PySem L2 PySem.Spec PyProof.Rows
section
variable {X : Cx} {pins : List (Addr × Obj)} {σ : L2.St} {H : Hp} {s : Shared} {a C : Addr} {f : Str} {y : V} {u : Value} {A : Around} {E : Value → Shared → Prop} {newId initId : String} {tl : List Value}
theorem fst_newG {Q : Unit → Shared → Prop} (FB : FxG newId initId tl) (T : FxC X.K C newId tl) (I : Inv X pins σ H s) (e : H a = some (exo a C none)) (hno : PySem.W.findIn X.K (.ref C) f = some none) (ry : RelV y u)
    (h : ∀ dx s', H dx = none → dx ≠ a → Inv X pins σ (upd (upd H dx (exd dx [(f, y)])) a (exo a C (some dx))) s' → Q () s') : wpAny (model X.prog X.w) A (setAttr (.ref a) f u) Q E s := by
  obtain ⟨nm, q, N, bs, sn, sub, ab, col, dd, k0, k1, k2, k3, k5, hC⟩ := T.cls
  have hcl : PySem.W.clsIn X.K C = some { name := nm, bases := bs, mro := .ref C :: tl, ns := N, qualname := q, hasDict := true, slotNames := sn, subclasses := sub, abstract := ab, collection := col, hasDel := false } := by unfold PySem.W.clsIn; rw [hC] <;> rfl
  obtain ⟨t1, ho⟩ := exo_at I.hok e
  obtain ⟨hp, g, d, t, os⟩ := s
  refine PySem.W.set_plain I.kIn (ox := { cls := .ref C, dict := none, data := .fields #[.ref t1, .none, .none, .none, .bool false, .none] }) (od := none) ⟨ho, rfl, rfl, trivial⟩ T.sa ?_
  refine PySem.HandSPX.exc_osaG FB I.kIn ho hcl rfl rfl hno (fun h' tk' dx k dn dne hx hn => ?_)
  have hnd : H dx = none := I.hok.fresh dn
  have nd : ∀ {b : Addr} {o : Obj}, hp.get? b = some o → b ≠ dx := fun {b o} q => Nat.ne_of_lt (Nat.lt_of_lt_of_le (Heap.lt_size q) dn)
  have na : ∀ {b : Addr}, H b = none → b ≠ a := fun {b} n z => by
    rw [z, e] at n
    cases n
  have Un1 : Un X.fs [] H (upd (upd H dx (exd dx [(f, y)])) a (exo a C (some dx))) hp h' := {
    keep := fun b o q n _ _ => k b o (na n) q
    slot := fun b o q n _ _ => ⟨o.slots, k b o (na n) q⟩
    free := fun b o q n _ => by rw [upd_ne (na n), upd_ne (nd q)]; exact n
    there := fun b o q _ => by
      by_cases hb : b = a
      · exact ⟨_, by rw [hb]; exact hx⟩
      · exact ⟨o, k b o hb q⟩
    tups := fun b xs q => by rw [upd_ne (at_ne e q exo_tup), upd_ne (ne_of_none q hnd)]; exact q
    frzs := fun b o v q => by rw [upd_ne (at_ne e q exo_frz), upd_ne (ne_of_none q hnd)]; exact q
    tbls := fun b ps q => ⟨#[], by rw [upd_ne (at_ne e q exo_tbl), upd_ne (ne_of_none q hnd), q]; simp⟩ }
  refine h dx _ hnd dne (I.un (t' := tk') Un1 fun b o q => ?_)
  by_cases hb : b = a
  · subst hb
    rw [upd_same] at q
    cases q
    exact exo_ok hx
  · rw [upd_ne hb] at q
    by_cases hd : b = dx
    · subst hd
      rw [upd_same] at q
      cases q
      exact exd_ok hn (relO_put (fs := []) ry fun g => True.intro)
    · rw [upd_ne hd] at q
      exact (I.hok b o q).stay (fun c v hc z => k c v (by
          rcases hc with hc | hc
          · rw [hc]
            exact hb
          · exact at_ne e hc exo_own) z)
        (fun c hc => by rw [upd_ne (at_ne e hc exo_own), upd_ne (ne_of_none hc hnd)]; exact hc) (fun c xs hc => by rw [upd_ne (at_ne e hc exo_tup), upd_ne (ne_of_none hc hnd)]; exact hc)
theorem finit_okG {us : List Value} {Q : Value → Shared → Prop} (FB : FxG newId initId tl) (T : FxC X.K C newId tl) (I : Inv X pins σ H s) (e : H a = some (exo a C none)) (hl : us.length ≤ sizeLine) (h : ∀ s', Inv X pins σ H s' → Q .none s') :
    wpAny (model X.prog X.w) A (call (.builtin initId) (.ref a :: us)) Q E s := by
  obtain ⟨nm, q, N, bs, sn, sub, ab, col, dd, k0, k1, k2, k3, k5, hC⟩ := T.cls
  obtain ⟨t1, ho⟩ := exo_at I.hok e
  obtain ⟨hp, g, d, t, os⟩ := s
  refine wpAny_call (FB.initB (I.kIn _ _ hC) ho hl fun h' t2 k hx => ?_)
  have J := I.write (t' := t) (x := a) (e := a) (o := exo a C none) (by rw [e]; exact True.intro) (.inl rfl) k ⟨_, hx⟩ (exo_ok hx)
  have eu : upd H a (exo a C none) = H := by
    funext b
    by_cases hb : b = a
    · rw [hb, upd_same, e]
    · rw [upd_ne hb]
  rw [eu] at J
  exact h _ J
end
section
variable {X : Cx} {o e : Expr} {es : List Expr} {to te : TE} {ta : TA} {f : Str} {p p' p1 p2 pos : Pos}
theorem ps_fstG {newId initId : String} {tl : List Value} (FB : FxG newId initId tl) (ho : PE X o to) (he : PE X e te) (hs : swapsWith e (some (.Attribute o f p')) pos.line X.env = pure false := by rfl) : PS X (.Assign [.Attribute o f p'] e pos) (tFst X.K newId tl f to te) := by
  refine ⟨fun pins s σ H D I h => ?_⟩
  refine plainObj_wpAny_Assign_Attribute (thn (he.run pins s σ H _ I h) fun v s1 ⟨y, H1, I1, r1, q1⟩ => thn (ho.run pins s1 σ H1 _ I1 q1) fun u s2 ⟨x, H2, I2, r2, a, C, ex, T, hno, ea, q⟩ => ?_) hs
  subst ex
  obtain rfl : u = Value.ref a := r2
  exact fst_newG FB T I2 ea hno r1 fun dx s' n ne J => ⟨σ, _, J, q dx n ne⟩
end
section
variable {X : Cx} {e : Expr} {es : List Expr} {ta : TA} {p pos : Pos}
/-- X(e), X's own __init__ keeping spFx -/
theorem pmk_fxG {x : Str} {C fI : Addr} {k : Nat} {fd : FuncData} {ps : List Str} {f : Str} {newId initId : String} {tl : List Value} (FB : FxG newId initId tl) (T : FxC X.K C newId tl) (iC : PySem.W.findIn X.K (.ref C) "__init__" = some (some (.ref fI))) (tI : PySem.W.typeIn X.K (.ref fI) = some (.type "function"))
    (hno : PySem.W.findIn X.K (.ref C) f = some none)
    (F1 : FnOk X.prog X.w X.K X.mg X.base CX0 k fI fd ps (spFx X.K newId tl f)) (hr : Room (k + 1) X.A) (hb : Binds X.K fd ps []) (hx : Passes CX0 X (fun _ _ _ => False)) (hg : Gl X x) (hm : X.mg x = some (.ref C)) (ha : PA X (e :: es) ta)
    (hdb : (x == ("__debug__" : Str)) = false := by decide) (he : starEach (e :: es) X.env = (false, eval e X.env) :: starEach es X.env := by rfl) (hpl : (backTo pos (starEach es X.env)).any (·.1) = false := by rfl) :
    PMk X (.Call (.Name x p) (e :: es) [] pos) (fun σ H Q => ta σ H fun vs H1 => ∃ y, vs = [y] ∧ ∀ d, H1 d = none → Q (.ref C) (some d) (upd H1 d (.xd [(f, y)]))) := by
  intro pins s σ H Q I h
  obtain ⟨nm, q, N, bs, sn, sub, ab, col, dd, k0, k1, k2, k3, k5, hC⟩ := T.cls
  refine wpAny_Call_Name_kw (ld_glob I hg hm ?_ hdb)
  refine PySem.W.callWith_K (h₀ := X.base) I.ok.mod.kin T.kC (thn (ha.run pos pins s σ H _ I h) fun us s1 ⟨vs, H1, I1, r1, y, ey, q1⟩ => ⟨I1.kIn, ?_⟩) he hpl
  subst ey
  show wpAny _ _ (call (.ref C) us) _ _ _
  obtain ⟨hp, g, dr, tk, os⟩ := s1
  have hsz : hp.objs.size ≤ hp.objs.size + 1 := Nat.le_succ _
  have hn : H1 (hp.objs.size + 1) = none := I1.hok.fresh hsz
  have kk : ∀ b o, hp.get? b = some o → ((hp.push (PySem.W.kdv_tup us)).push (PySem.HandSPX.excO C hp.objs.size)).get? b = some o := fun b o e => Heap.get?_push_of_some _ (Heap.get?_push_of_some _ e)
  have hget : ((hp.push (PySem.W.kdv_tup us)).push (PySem.HandSPX.excO C hp.objs.size)).get? (hp.objs.size + 1) = some (PySem.HandSPX.excO C hp.objs.size) := by heap_get
  have I2 : Inv X pins σ (upd H1 (hp.objs.size + 1) (exo (hp.objs.size + 1) C none)) ⟨(hp.push (PySem.W.kdv_tup us)).push (PySem.HandSPX.excO C hp.objs.size), g, dr, tk, os⟩ :=
    I1.laid (t' := tk) (a := hp.objs.size + 1) (o := exo (hp.objs.size + 1) C none) (h' := (hp.push (PySem.W.kdv_tup us)).push (PySem.HandSPX.excO C hp.objs.size)) kk hsz (exo_ok hget)
  have r2 : Vals (V.ref (hp.objs.size + 1) :: [y]) (Value.ref (hp.objs.size + 1) :: us) := .cons rfl r1
  have hq : spFx X.K newId tl f (V.ref (hp.objs.size + 1) :: [y]) (upd H1 (hp.objs.size + 1) (exo (hp.objs.size + 1) C none)) (fun v H2 => v = .non ∧ ∃ (d : Addr) (fs : List (Str × V)), H2 (hp.objs.size + 1) = some (exo (hp.objs.size + 1) C (some d)) ∧ H2 d = some (exd d fs) ∧ H1 d = none ∧ Q (.ref C) (some d) (upd (del H2 (hp.objs.size + 1)) d (.xd fs))) (fun _ _ _ => False) := by
    refine ⟨_, C, y, rfl, T, hno, upd_same, fun dx n ne => ⟨rfl, dx, [(f, y)], upd_same, by rw [upd_ne ne, upd_same], ?_, ?_⟩⟩
    · rw [upd_ne ne] at n
      exact n
    · rw [fx_heap hn ne]
      rw [upd_ne ne] at n
      exact q1 dx n
  have hl : (Value.ref (hp.objs.size + 1) :: us).length = ps.length := by
    have e := r2.length
    rw [F1.len _ _ _ _ hq] at e
    exact e.symm
  have hus : us.length ≤ sizeLine := by
    rw [← Paired.length r1, sizeLine_eq]
    show 1 ≤ _
    omega
  have bb := hb _ (Value.ref (hp.objs.size + 1) :: us) I2.kIn (by simpa using hl)
  rw [List.append_nil] at bb
  refine wpAny_call (FB.callO (I1.kIn _ _ hC) (PySem.W.looks_findIn I1.kIn iC) (fun self => PySem.W.bind_fn I1.kIn self tI) hus
    (codeAny_mono (F1.run _ X.stack _ _ ⟨Value.ref (hp.objs.size + 1) :: us, []⟩ (Value.ref (hp.objs.size + 1) :: us) _ _ (fun _ _ _ => False) (hr.make C us []) (I2.env0.make C us []) bb r2 hq) fun r s' hq' => ?_))
  cases r with
  | error er => exact hx pins σ _ _ er s' I2 hq'
  | ok fl =>
    cases fl with
    | ret u =>
      obtain ⟨v, H2, os2, bare2, un2, hok2, rv, ev, d, fs, ea, ed, hd1, q2⟩ := hq'
      subst ev
      obtain ⟨h2, g2, d2, t2, os'⟩ := s'
      exact ⟨rv, mk_end (raises_own T.exC T.tyC) I1 hsz kk un2 hok2 os2 bare2 ea ed hd1 q2⟩
    | next => exact False.elim hq'
    | brk => exact False.elim hq'
    | cont => exact False.elim hq'
end
end Q
/-! QO22 -/
namespace Q
open PySem L2 PySem.Spec PyProof.Rows
theorem boot_ValueErrorQ : bootBuiltins "ValueError" = some (.type "ValueError") := by decide +kernel
theorem typ_VA : typeOf (.type "ValueError") = pure (.type "type") := by kernel_rfl
section
variable {X : Cx} {o e : Expr} {es : List Expr} {to te : TE} {ta : TA} {f : Str} {p p' p1 p2 pos : Pos}
theorem pe_vainit {pl : Sem Bool} (hg : Gl X "ValueError") (hm : X.mg "ValueError" = none) (vV : PySem.W.findCls X.K (.type "ValueError") (.type "type") "__init__" = some (.val (.builtin "ValueError.__init__"))) (ha : PA X (e :: es) ta)
    (hc : eval (.Call (.Attribute (.Name "ValueError" p1) "__init__" p2) (e :: es) [] pos) X.env = (do
      let ov ← eval (.Name "ValueError" p1) X.env
      standAt p2.atName
      let (f, first) ← holding [ov] (getMethod ov "__init__" pl)
      callWith pos f first (backTo pos (starEach (e :: es) X.env)) (backToKw pos (keywordEach [] X.env))) := by rfl)
    (he : starEach (e :: es) X.env = (false, eval e X.env) :: starEach es X.env := by rfl) (hpl : (backTo pos (starEach es X.env)).any (·.1) = false := by rfl) :
    PE X (.Call (.Attribute (.Name "ValueError" p1) "__init__" p2) (e :: es) [] pos) (tFxI X.K "ValueError.__new__" vaTail ta) := by
  refine ⟨fun pins s σ H Q I h => ?_⟩
  refine PySem.W.methodCall_KW (ld_blt I hg hm boot_ValueErrorQ ?_ (by decide) (by decide)) hc
  obtain ⟨m, fr⟩ := I.fr
  refine PySem.W.method_type fr I.ok.mod.kin typ_VA (by decide +kernel) vV (by decide +kernel) ?_
  show wpAny _ _ (callWith pos (Value.builtin "ValueError.__init__") [] (backTo pos (starEach (e :: es) X.env)) []) _ _ _
  refine PyProof.Rows.callWith_method1 (thn (ha.run pos pins _ σ H _ (I.tok _) h) fun us s1 ⟨vs, H1, I1, r1, a, C, ws, ev, hl, T, ea, q⟩ => ?_) he hpl
  subst ev
  cases r1 with
  | @cons _ u0 _ ur ra rw' =>
    obtain rfl : u0 = Value.ref a := ra
    have hlen : ur.length ≤ sizeLine := by
      rw [← Paired.length rw', sizeLine_eq]
      omega
    exact finit_okG fxb_Value.g T I1 ea hlen fun s' J => ⟨.non, H1, J, rfl, q⟩
end
end Q
/-! QO23 -/
namespace Q
open PySem PySem.Spec PyProof.Rows L2
end Q
/-! QO24 -/
namespace Q
open PySem PySem.Spec PyProof.Rows L2
/-! ### several except clauses, with and without names -/
abbrev HdL := List (Value × Option Nat × (Addr → Value → Option Addr → TS))
def wManyA (K : PySem.W.Frag) (Wout : WX) (D : L2.Ends) : HdL → WX
  | [] => Wout
  | (c, none, ts) :: r => fun cls d σ H => ∃ b, PySem.W.exmOne K cls c = some b ∧ (b = true → ∀ a, H a = none → ts a cls d D σ H) ∧ (b = false → wManyA K Wout D r cls d σ H)
  | (c, some i, ts) :: r => fun cls d σ H => ∃ b, PySem.W.exmOne K cls c = some b ∧ (b = true → ∀ a, H a = none → ts a cls d { nx := fun σ' H' => D.nx (σ'.set i none) H', rt := D.rt, bk := fun σ' H' => D.bk (σ'.set i none) H', ct := fun σ' H' => D.ct (σ'.set i none) H' } (σ.set i (some (.ref a))) H) ∧ (b = false → wManyA K Wout D r cls d σ H)
inductive HdsA (X : Cx) : List ExceptHandler → HdL → Prop
  | nil : HdsA X [] []
  | no {x : Str} {c : Value} {ts : Addr → Value → Option Addr → TS} {b₀ : Stmt} {suite : List Stmt} {np pos' : Pos} {hds : List ExceptHandler} {l : HdL} (hc : Names X x c)
      (hsu : ∀ (a : Addr) (oe : Obj) (cls : Value) (d : Option Addr) (pn : List (Addr × Obj)), Zc cls d oe → (∃ vs, oe.data = .fields vs) → PSs (X.suite a ((a, oe) :: pn)) (b₀ :: suite) (ts a cls d)) (r : HdsA X hds l) :
      HdsA X (.ExceptHandler (some (.Name x np)) none (b₀ :: suite) pos' :: hds) ((c, none, ts) :: l)
  | as {x n : Str} {i : Nat} {c : Value} {ts : Addr → Value → Option Addr → TS} {b₀ : Stmt} {suite : List Stmt} {np pos' : Pos} {hds : List ExceptHandler} {l : HdL} (hi : X.N[i]? = some n) (hln : X.env.kindOf n = some .local) (hc : Names X x c)
      (hsu : ∀ (a : Addr) (oe : Obj) (cls : Value) (d : Option Addr) (pn : List (Addr × Obj)), Zc cls d oe → (∃ vs, oe.data = .fields vs) → PSs (X.suite a ((a, oe) :: pn)) (b₀ :: suite) (ts a cls d)) (r : HdsA X hds l) :
      HdsA X (.ExceptHandler (some (.Name x np)) (some n) (b₀ :: suite) pos' :: hds) ((c, some i, ts) :: l)
section
variable {X : Cx} {body : List Stmt} {h₀ : ExceptHandler} {hds : List ExceptHandler} {l : HdL} {pos : Pos} {tb : WX → TS} {Wout : WX}
theorem ps_try_manyA (hs : X.stack = X.env :: X.outer) (hf : X.env.frame = some X.env.locals) (hN : X.N.Nodup) (tk : Takes X Wout)
    (hb : ∀ (W : WX) (pn : List (Addr × Obj)) (xe : Value → Shared → Prop), Takes (X.tr pn xe) W → PassesOwn (model X.prog X.w) X.A X.env xe → PSs (X.tr pn xe) body (tb W))
    (hh : HdsA X (h₀ :: hds) l) : PS X (.Try body (h₀ :: hds) [] [] pos) (fun D σ H => tb (wManyA X.K Wout D l) D σ H) := by
  refine ⟨fun pins s σ H D I h => ?_⟩
  have ok := I.ok
  have hfr : X.A.frames = some (X.env :: X.outer) := by rw [ok.frames, hs]
  refine wpAny_Try_except ?_
  refine wpAny_mono ((hb (wManyA X.K Wout D l) (X.pn ++ pins) (fun e s₁ => wpAny (model X.prog X.w) X.A (noteFrame e X.env) (fun _ s₂ => wpAny (model X.prog X.w) X.A (setFlight e none) (fun _ s₃ =>
    wpAny (model X.prog X.w) X.A (handleBy e X.env (h₀ :: hds)) (SP X pins D) X.xe s₃) X.xe s₂) X.xe s₁) (fun u s' xx => ?_) PassesOwn.looking).run [] s σ H D (I.toTry _) h) (fun f s1 hsp => ?_) (fun e s1 he => he)
  · obtain ⟨a, B, sI, pins', σ', H', cls, d, rfl, J', nb, up, sky, na, os, ag, w⟩ := xx
    have J : Inv X pins σ' H' sI := J'.ofTry ok
    have sky' : Sky B (X.env :: X.outer) a (Zc cls d) X.env.locals s'.heap := by rw [← hs]; exact sky
    show wpAny (model X.prog X.w) X.A (noteFrame (.ref a) X.env) _ _ _
    refine Sky.land Zc.steady hfr hf sky' fun h3 fl3 up3 => ?_
    have J3 : Inv X pins σ' H' { s' with heap := h3 } := J.landed nb fl3.1 (up.trans up3) os ag
    obtain ⟨oe3, vs3, he3, hz3, hd3⟩ := fl3.there
    have notFr : ∀ {h : Heap} {o : Obj} {vs : Array Value}, h.FunFrames B (X.env :: X.outer) → h.get? a = some o → o.data = .fields vs → a ∉ frs (X.env :: X.outer) := fun {h o vs} ff e dd hm => by
      obtain ⟨_, o', e', hnf⟩ := ff.mem hm
      rw [e] at e'; cases e'
      exact hnf _ dd
    have nfr := notFr fl3.2.2.1 he3 hd3
    have nL : a ≠ X.env.locals := fun z => nfr (List.mem_filterMap.mpr ⟨X.env, List.mem_cons_self, by rw [hf, z]⟩)
    have nF : a ∉ X.fs := fun hm => by
      obtain ⟨e, he, q⟩ := List.mem_filterMap.mp hm
      exact nfr (List.mem_filterMap.mpr ⟨e, List.mem_cons_of_mem _ he, q⟩)
    have S3 := J3.suite he3 hd3 na nL nF
    have LT : PySem.W.Looks (model X.prog X.w) h3 (typeOf (.ref a)) cls := fun A Q E s k q => wpAny_typeOf_ref (k _ _ he3) (by rw [hz3.1]; exact q)
    have test : ∀ {x : Str} {c : Value} {np : Pos} {Q : Value → Shared → Prop} {E : Value → Shared → Prop}, Names X x c → Q c { s' with heap := h3 } → wpAny (model X.prog X.w) (X.A.mark (some (.ref a))) (eval (.Name x np) X.env) Q E { s' with heap := h3 } := fun {x c np Q E} hc q => by
      obtain ⟨hg, hdbg, hm | ⟨hm, hv, hnn⟩⟩ := hc
      · exact ld_glob (X := X.suite a ((a, oe3) :: (X.pn ++ pins))) S3 hg hm q hdbg
      · exact ld_blt (X := X.suite a ((a, oe3) :: (X.pn ++ pins))) S3 hg hm hv q hnn hdbg
    have go : ∀ {hds' : List ExceptHandler} {l' : HdL}, HdsA X hds' l' → wManyA X.K Wout D l' cls d σ' H' →
        wpAny (model X.prog X.w) X.A (handleBy (.ref a) X.env hds') (SP X pins D) X.xe { s' with heap := h3 } := by
      intro hds' l' hk
      induction hk with
      | nil =>
        intro w
        refine wpAny_handleBy_nil ?_
        obtain ⟨k1, k2, k3, oe, vs, T, oT, ts', he, hz, hd, h1, hr⟩ := id fl3
        unfold PySem.passOn
        refine wpAny_bind (wpAny_field he hd h1 ?_)
        rw [if_neg (show ¬ ((Value.ref T == Value.none) = true) from by simp)]
        have fin : wpAny (model X.prog X.w) X.A (setFlight (.ref a) X.env.frame) (fun _ s4 => wpAny (model X.prog X.w) X.A (throw (.ref a) : Sem Flow) (SP X pins D) X.xe s4) X.xe { s' with heap := h3 } := by
          rw [hf]
          refine HandSPX.setFlight_upZ fl3 fun h4 hh4 up4 => wpAny_throw (tk _ _ ?_)
          exact ⟨a, B, sI, pins, σ', H', cls, d, rfl, J, nb, (up.trans up3).trans up4, .inr (.inr (by rw [hs]; exact hh4)), na, os, ag, w⟩
        first
          | exact wpAny_bind (wpAny_pure (wpAny_bind fin))
          | exact wpAny_bind fin
      | @no x c ts b₀ suite np pos' hds2 l2 hc hsu r ih =>
        intro w
        obtain ⟨b, hb1, hyes, hno⟩ := w
        refine wpAny_handleBy_cons (codeAny_handlers_test ?_) (by intro q; cases q)
        have LM := PySem.W.exm_one (M := model X.prog X.w) (J3.kIn) LT hb1
        refine test hc (LM.here ?_)
        cases b with
        | true =>
          refine codeAny_handlers_suite ?_
          refine HandSPX.lands_againZ fl3 fun h4 fl4 up4 => ?_
          have J4 : Inv X pins σ' H' { s' with heap := h4 } := J.landed nb fl4.1 ((up.trans up3).trans up4) os ag
          obtain ⟨oe4, vs4, he4, hz4, hd4⟩ := fl4.there
          have S4 := J4.suite he4 hd4 na nL nF
          refine wpAny_mono ((hsu a oe4 cls d (X.pn ++ pins) hz4 ⟨_, hd4⟩).run [] _ _ H' _ S4 (hyes rfl a na)) (fun f s6 hsp => ?_) (fun _ _ z => False.elim z)
          cases f with
          | next =>
            obtain ⟨σ6, H6, S6, q6⟩ := hsp
            exact ⟨_, _, S6.unsuite ok, q6⟩
          | brk =>
            obtain ⟨σ6, H6, S6, q6⟩ := hsp
            exact ⟨_, _, S6.unsuite ok, q6⟩
          | cont =>
            obtain ⟨σ6, H6, S6, q6⟩ := hsp
            exact ⟨_, _, S6.unsuite ok, q6⟩
          | ret u =>
            obtain ⟨v6, σ6, H6, S6, r6, q6⟩ := hsp
            exact ⟨_, _, _, S6.unsuite ok, r6, q6⟩
        | false =>
          show wpAny _ X.A (handleBy (.ref a) X.env hds2) _ _ _
          exact ih (hno rfl)
      | @as x n i c ts b₀ suite np pos' hds2 l2 hi hln hc hsu r ih =>
        intro w
        obtain ⟨b, hb1, hyes, hno⟩ := w
        have hloc : Loc X.env.scope n := .inl hln
        refine wpAny_handleBy_cons (codeAny_handlers_test ?_) (by intro q; cases q)
        have LM := PySem.W.exm_one (M := model X.prog X.w) (J3.kIn) LT hb1
        refine test hc (LM.here ?_)
        cases b with
        | true =>
          refine codeAny_handlers_suite_as ?_
          refine HandSPX.lands_againZ fl3 fun h4 fl4 up4 => ?_
          have J4 : Inv X pins σ' H' { s' with heap := h4 } := J.landed nb fl4.1 ((up.trans up3).trans up4) os ag
          obtain ⟨oe4, vs4, he4, hz4, hd4⟩ := fl4.there
          have S4 := J4.suite he4 hd4 na nL nF
          refine store_ok (X := X.suite a ((a, oe4) :: (X.pn ++ pins))) (v := .ref a) S4 hN hi hloc rfl (fun s5 S5 => ?_) (.inr hln)
          refine wpAny_mono ((hsu a oe4 cls d (X.pn ++ pins) hz4 ⟨_, hd4⟩).run [] s5 _ H' _ S5 (hyes rfl a na)) (fun f s6 hsp => ?_) (fun _ _ z => False.elim z)
          have end_ : ∀ {σ6 : L2.St} {H6 : Hp} {Q : Shared → Prop}, Inv (X.suite a ((a, oe4) :: (X.pn ++ pins))) [] σ6 H6 s6 → (∀ s7, Inv X pins (σ6.set i none) H6 s7 → Q s7) →
              wpAny (model X.prog X.w) X.A (do bindName X.env n .none; unbindBehindTheSuite X.env n pos') (fun _ s7 => Q s7) X.xe s6 := fun {σ6 H6 Q} S6 hq => gone_ok (S6.unsuite ok) hN hi hln hq
          cases f with
          | next =>
            obtain ⟨σ6, H6, S6, q6⟩ := hsp
            exact end_ S6 fun s7 J7 => ⟨_, _, J7, q6⟩
          | brk =>
            obtain ⟨σ6, H6, S6, q6⟩ := hsp
            exact end_ S6 fun s7 J7 => ⟨_, _, J7, q6⟩
          | cont =>
            obtain ⟨σ6, H6, S6, q6⟩ := hsp
            exact end_ S6 fun s7 J7 => ⟨_, _, J7, q6⟩
          | ret u =>
            obtain ⟨v6, σ6, H6, S6, r6, q6⟩ := hsp
            exact end_ S6 fun s7 J7 => ⟨_, _, _, J7, r6, q6⟩
        | false =>
          show wpAny _ X.A (handleBy (.ref a) X.env hds2) _ _ _
          exact ih (hno rfl)
    exact go hh w
  · cases f with
    | next =>
      obtain ⟨σ', H', J', q⟩ := hsp
      exact wpAny_execs_nil ⟨σ', H', J'.ofTry ok, q⟩
    | brk =>
      obtain ⟨σ', H', J', q⟩ := hsp
      exact ⟨σ', H', J'.ofTry ok, q⟩
    | cont =>
      obtain ⟨σ', H', J', q⟩ := hsp
      exact ⟨σ', H', J'.ofTry ok, q⟩
    | ret u =>
      obtain ⟨v, σ', H', J', r, q⟩ := hsp
      exact ⟨v, σ', H', J'.ofTry ok, r, q⟩
end
end Q
/-! QO25 -/
namespace Q
open PySem PySem.Spec PyProof.Rows L2
/-! ### defs that may raise refusals of several classes -/
/-- the classes: where each stands, its field -/
abbrev XCl := Xn → Option (Addr × Option Str)
/-- what an exception's dict holds, as data -/
def RzX (K : PySem.W.Frag) (F : Hp) (pa : Option Addr) (H : Hp) (fl : Option Str) (d : D) (dd : Option Addr) : Prop := match fl with
  | none => dd = none ∧ d = .non
  | some f => ∃ a fs v, dd = some a ∧ H a = some (.xd fs) ∧ fs.lookup f = some v ∧ RelD K F pa d v
def liftE (K : PySem.W.Frag) (cl : XCl) (sp : PSpE) : Sp := fun vs H Q E => ∃ F pa t ds P Px, Cf K (B0 F pa t H) F pa t [] [] H ∧ RelL K F pa ds vs ∧ sp ds t P Px ∧
  (∀ v d F' pa' t' H', Cf K (B0 F pa t H) F' pa' t' [] [] H' → RelD K F' pa' d v → P d t' → Q v H') ∧
  ∀ c C fl d dd F' pa' t' H', cl c = some (C, fl) → Cf K (B0 F pa t H) F' pa' t' [] [] H' → RzX K F' pa' H' fl d dd → Px c d t' → E (.ref C) dd H'
def teE (K : PySem.W.Frag) (B : Bs) (cl : XCl) (dx : DXE) (E : L2.St → XK) : TE := fun σ H Q => ∃ F pa t env P Px, Cf K B F pa t env σ H ∧ dx env t P Px ∧
  (∀ v d F' pa' t' H', Gr F pa F' pa' → Cf K B F' pa' t' env σ H' → RelD K F' pa' d v → P d t' → Q v H') ∧
  ∀ c C fl d dd F' pa' t' H', cl c = some (C, fl) → Gr F pa F' pa' → Cf K B F' pa' t' env σ H' → RzX K F' pa' H' fl d dd → Px c d t' → E σ (.ref C) dd H'
section
variable {X : Cx} {B : Bs} {cl : XCl} {sp : PSpE} {as bs : DA} {E : L2.St → XK} {e o : Expr} {es : List Expr} {dx : DXE} {da de : DE}
theorem z_call (h : PE X e (tCallS (liftE X.K cl sp) E (taOf X.K B as))) : PE X e (teE X.K B cl (zCall sp as) E) :=
  PE.imp h fun σ H Q ⟨F, pa, t, env, P, Px, Cc, h, k, kx⟩ => ⟨F, pa, t, env, _, Cc, h, fun vs ds F1 pa1 t1 H1 g1 C1 r1 q1 => ⟨F1, pa1, t1, ds, P, Px, C1.call, r1, q1, fun v d F' pa' t' H' C' r' q' => by
    obtain ⟨g, W2⟩ := C1.after C'
    exact k v d F' pa' t' H' (g1.trans g) W2 r' q', fun c C fl d dd F' pa' t' H' ec C' r' q' => by
    obtain ⟨g, W2⟩ := C1.after C'
    exact kx c C fl d dd F' pa' t' H' ec (g1.trans g) W2 r' q'⟩⟩
theorem q_raiseE {W : WX} {Px : PX} {c : Xn} {C : Addr} {f : Str} {pos : Pos} {as : DA} (hc : X.calm = true) (tk : Takes X W) (hE : ∀ c C fl F pa t env σ H d dd, cl c = some (C, fl) → Cf X.K B F pa t env σ H → RzX X.K F pa H fl d dd → Px c d t → W (.ref C) dd σ H) (ec : cl c = some (C, some f))
    (mk : PMk X e (fun σ H Q => taOf X.K B as σ H fun vs H1 => ∃ y, vs = [y] ∧ ∀ d, H1 d = none → Q (.ref C) (some d) (upd H1 d (.xd [(f, y)])))) : QS X B (.Raise (some e) none pos) (dRaiseE c Px as) :=
  q_raiseF (C := C) (f := f) (Px := Px c) hc tk (fun F pa t env σ H v d dd fs C' r e1 e2 q => hE c C (some f) F pa t env σ H d (some dd) ec C' ⟨dd, fs, v, rfl, e1, e2, r⟩ q) mk
end
section
variable {P : Program} {w : World} {K : PySem.W.Frag} {mg : Str → Option Value} {base : Heap}
theorem fn_okE {x qual : Str} {st : Stmt} {f : Addr} {cl : XCl} {fd : FuncData} {N ps : List Str} {k : Nat} {sp : PSpE} {ds : PX → DS} (Fu : Fun K x qual st f fd) (S : FnScope N ps (defScope st)) (len : ∀ as t Q Px, sp as t Q Px → as.length = ps.length)
    (hbody : ∀ (cdv : Value) (A : Around) (outer : List PySem.Env) (s : Shared) (H : Hp) (E : XK) (B : Bs) (Px : PX), Room k (A.deeper (envOfC qual (defScope st) s.heap.objs.size f cdv)) → B.Top → B.m = false →
      (∀ c C fl F pa t env σ H' d dd, cl c = some (C, fl) → Cf K B F pa t env σ H' → RzX K F pa H' fl d dd → Px c d t → E (.ref C) dd H') →
      QSs (cxOf (L2.CX P w) P w K mg base N qual (defScope st) f cdv A outer s H E) B (defBody st) (ds Px))
    (hds : ∀ as t Q Px, sp as t Q Px → ds Px (endsOf Q) (start0 N as) t) : FnOk P w K mg base (L2.CX P w) (k + 1) f fd ps (liftE K cl sp) := by
  refine Fu.okX S (fun vs H Q E h => ?_) (fun cdv A outer s H vs Q E hr h => ?_)
  · obtain ⟨F, pa, t, as, R, Px, Cc, r, q, _⟩ := h
    rw [r.len]; exact len as t R Px q
  · obtain ⟨F, pa, t, as, R, Px, Cc, r, q, fin, finx⟩ := h
    refine ⟨_, hbody cdv A outer s H E (B0 F pa t H) Px hr (B0.top F pa t H) rfl (fun c C fl F' pa' t' env σ H' d dd ec C' rv px => finx c C fl d dd F' pa' t' H' ec C'.nil rv px), F, pa, t, start0 N as, endsOf R, cf_start Cc r, hds as t R Px q, ⟨?_, ?_, ?_, ?_⟩⟩
    · intro F' pa' t' env σ H' g C' q'
      exact fin .non .non F' pa' t' H' C'.nil rD_non q'
    · intro v d F' pa' t' env σ H' g C' r' q'
      exact fin v d F' pa' t' H' C'.nil r' q'
    · intro F' pa' t' env σ H' g C' q'
      exact q'.elim
    · intro F' pa' t' env σ H' g C' q'
      exact q'.elim
end
end Q
/-! QO26 -/
namespace Q
open PySem PySem.Spec PyProof.Rows L2
/-! ### what a clause's suite makes of the exception's field -/
def tSx (j : Nat) (a dd : Addr) (f : Str) (o : Option Str) : TE := fun σ H Q => σ[j]? = some (some (.ref a)) ∧ ∃ fs v, H dd = some (.xd fs) ∧ fs.lookup f = some v ∧ match o with
  | none => Q v H
  | some m => ∀ p, H p = none → Q (.ref p) (upd H p (.tup [.str m, v]))
section
variable {X : Cx} {n f : Str} {j : Nat} {a dd C : Addr} {oe : Obj} {e1 e2 : Expr} {o : Option Str} {p p1 p2 p3 p4 p5 p6 p7 p8 p9 pos : Pos} {x1 kk : Nat}
theorem sx_fld (xf : XfC X.K C) (hno : PySem.W.findIn X.K (.ref C) f = some none) (hz : Zc (.ref C) (some dd) oe) (hf : ∃ vs, oe.data = .fields vs) (hm : (a, oe) ∈ X.pn) (vx : PE X (.Name n p) (tVar j))
    (hb : attributeBase (.Name n p) f X.env (eval (.Name n p) X.env) = eval (.Name n p) X.env := by rfl) : PE X (.Attribute (.Name n p) f pos) (tSx j a dd f none) :=
  PE.imp (pe_xfT (pos := pos) xf hno hz hf hm vx hb) fun σ H Q ⟨h1, fs, v, h2, h3, h4⟩ => ⟨.ref a, h1, rfl, rfl, dd, fs, v, rfl, h2, h3, h4⟩
theorem sx_tup {m : Str} (h : PE X (.Attribute (.Name n p2) f p3) (tSx j a dd f none)) : PE X (.Tuple [.Constant (.str m) kk p1, .Attribute (.Name n p2) f p3] x1 pos) (tSx j a dd f (some m)) :=
  PE.imp (pe_tup (pa_cons pe_str (pa_cons h pa_nil))) fun σ H Q ⟨h1, fs, v, h2, h3, h4⟩ => ⟨h1, fs, v, h2, h3, by show 2 ≤ sizeLine; rw [sizeLine_eq]; omega, h4⟩
theorem sx_if {nT : Str} {T : String} (hk : PySem.W.kitOne X.K (.ref C) (.type T) = some true) (xc : ExcC X.K C) (hz : Zc (.ref C) (some dd) oe) (hf : ∃ vs, oe.data = .fields vs) (hm : (a, oe) ∈ X.pn)
    (vx : PE X (.Name n p2) (tVar j)) (gi : Gl X "isinstance") (mi : X.mg "isinstance" = none) (bT : PE X (.Name nT p3) (tC (.ty T))) (h : PE X e1 (tSx j a dd f o)) :
    PE X (.IfExp (.Call (.Name "isinstance" p1) [.Name n p2, .Name nT p3] [] p4) e1 e2 pos) (tSx j a dd f o) := by
  have hc := pt_val (pe_callB (p := p1) (pos := p4) (call_isF xc hz hf hm) gi mi (by decide +kernel) (pa_cons vx (pa_cons bT pa_nil)))
  refine PE.imp (pe_ifExp hc h pe_nvr) fun σ H Q ⟨h1, fs, v, h2, h3, h4⟩ => ?_
  exact ⟨.ref a, h1, .ty T, .type T, true, fs, rfl, fun u hu => hu, hk, h2, true, rfl, h1, fs, v, h2, h3, h4⟩
end
/-! ### the clauses, read -/
end Q
/-! QO27 -/
namespace Q
open PySem PySem.Spec PyProof.Rows L2
section
variable {X : Cx} {CX : CXT} {k : Nat} {f C : Addr} {fd : FuncData} {ps : List Str} {sp : Sp} {E : L2.St → XK} {x : Str} {p pos : Pos} {e : Expr} {es : List Expr} {t : TA}
theorem run_makeS {pins : List (Addr × Obj)} {σ : L2.St} {H : Hp} {s : Shared} {Q : VK} {us : List Value} {vs : List V} (M : L2.Mk X.K C f) (F : FnOk X.prog X.w X.K X.mg X.base CX k f fd ps sp) (hr : Room (k + 1) X.A) (hb : Binds X.K fd ps [])
    (hx : PassesAt CX X σ (E σ)) (I : Inv X pins σ H s) (r : Vals vs us)
    (h : ∀ x dx, H x = none → H dx = none → dx ≠ x → sp (.ref x :: vs) (upd (upd H dx (.own x)) x (.ins C dx [])) (fun v H2 => v = .non ∧ Q (.ref x) H2) (E σ)) :
    wpAny (model X.prog X.w) X.A (call (.ref C) us) (EP X pins σ Q) X.xe s := by
  have hq := h (s.heap.objs.size + 1) s.heap.objs.size (I.hok.fresh (Nat.le_succ _)) (I.hok.fresh (Nat.le_refl _)) (Nat.ne_of_lt (Nat.lt_succ_self _))
  have I2 := Inv.made (C := C) I
  have r2 : Vals (V.ref (s.heap.objs.size + 1) :: vs) (Value.ref (s.heap.objs.size + 1) :: us) := .cons rfl r
  have hl : (Value.ref (s.heap.objs.size + 1) :: us ++ []).length = ps.length := by
    have e := r2.length
    rw [F.len _ _ _ _ hq] at e
    rw [List.append_nil]
    exact e.symm
  have b := hb _ (Value.ref (s.heap.objs.size + 1) :: us) I2.kIn hl
  rw [List.append_nil] at b
  refine wpAny_call (make_map (f := f) I.kIn M.makes M.init (beq_iff_eq.mp M.fn) (codeAny_mono (F.run _ X.stack _ _ ⟨Value.ref (s.heap.objs.size + 1) :: us, []⟩ (Value.ref (s.heap.objs.size + 1) :: us) _ _ (E σ) (hr.make C us [])
    (I2.env0.make C us []) b r2 hq) fun r s' hq' => ?_))
  cases r with
  | error e => exact hx pins _ _ e s' I2 hq'
  | ok fl =>
    cases fl with
    | ret u =>
      obtain ⟨v, H', I3, rv, ev, q3⟩ := I2.after hq'
      subst ev
      exact ⟨rv, ⟨V.ref (s.heap.objs.size + 1), H', I3, rfl, q3⟩⟩
    | next => exact False.elim hq'
    | brk => exact False.elim hq'
    | cont => exact False.elim hq'
def tMakeS (C : Addr) (sp : Sp) (E : L2.St → XK) (t : TA) : TE := fun σ H Q => t σ H fun vs H1 => ∀ x dx, H1 x = none → H1 dx = none → dx ≠ x → sp (.ref x :: vs) (upd (upd H1 dx (.own x)) x (.ins C dx [])) (fun v H2 => v = .non ∧ Q (.ref x) H2) (E σ)
theorem pe_makeS (M : L2.Mk X.K C f) (F : FnOk X.prog X.w X.K X.mg X.base CX k f fd ps sp) (hr : Room (k + 1) X.A) (hg : Gl X x) (hm : X.mg x = some (.ref C)) (hb : Binds X.K fd ps []) (hx : ∀ σ, PassesAt CX X σ (E σ))
    (ha : PA X (e :: es) t) (hdb : (x == ("__debug__" : Str)) = false := by decide) (he : starEach (e :: es) X.env = (false, eval e X.env) :: starEach es X.env := by rfl) (hpl : (backTo pos (starEach es X.env)).any (·.1) = false := by rfl) :
    PE X (.Call (.Name x p) (e :: es) [] pos) (tMakeS C sp E t) := by
  refine ⟨fun pins s σ H Q I h => ?_⟩
  refine wpAny_Call_Name_kw (ld_glob I hg hm ?_ hdb)
  refine PySem.W.callWith_K (h₀ := X.base) I.ok.mod.kin M.kp (thn (ha.run pos pins s σ H _ I h) fun us s1 ⟨vs, H1, I1, r, q⟩ => ⟨I1.kIn, ?_⟩) he hpl
  exact run_makeS M F hr hb (hx σ) I1 r q
end
end Q
/-! QO28 -/
namespace Q
open PySem L2 PySem.Spec PyProof.Rows LamX
/-! ### x(lambda: e), x catching refusals of several classes -/
abbrev HvL := List (Addr × Str × Option Str)
def wRes (K : PySem.W.Frag) : HvL → VK → XK
  | [], _ => fun _ _ _ => False
  | (C, f, o) :: r, Q => fun cls dd H => ∃ b, PySem.W.exmOne K cls (.ref C) = some b ∧ (b = true → cls = .ref C ∧ ∃ a fs v, dd = some a ∧ H a = some (.xd fs) ∧ fs.lookup f = some v ∧ match o with
      | none => Q v H
      | some m => ∀ p, H p = none → Q (.ref p) (upd H p (.tup [.str m, v]))) ∧ (b = false → wRes K r Q cls dd H)
def ltsOf (i j n : Nat) (l : HvL) : HdL := l.map fun x => (.ref x.1, some j, fun a cls d D σ H => σ.length = n → ∃ dd, cls = .ref x.1 ∧ d = some dd ∧ tAsg (tSx j a dd x.2.1 x.2.2) (L2.gName i) D σ H)
theorem wRes_many {K : PySem.W.Frag} {Wout : WX} {De : L2.Ends} {Q : VK} {i j n : Nat} (hij : i ≠ j) (hi : i < n) (hj : j < n) (hD : ∀ (σ' : L2.St) (v : V) (H' : Hp), σ'.length = n → σ'[i]? = some (some v) → Q v H' → De.nx (σ'.set j none) H') : ∀ (l : HvL) {cls : Value} {dd : Option Addr} {H : Hp} {σ : L2.St}, wRes K l Q cls dd H → wManyA K Wout De (ltsOf i j n l) cls dd σ H
  | [], _, _, _, _, h => h.elim
  | (C, f, o) :: l, cls, dd, H, σ, ⟨b, e, y, z⟩ => by
    refine ⟨b, e, fun hb a ha hl => ?_, fun hb => wRes_many hij hi hj hD l (z hb)⟩
    rw [List.length_set] at hl
    obtain ⟨rfl, da, fs, v, rfl, e1, e2, q⟩ := y hb
    refine ⟨da, rfl, rfl, by rw [List.getElem?_set_self (by omega)], fs, v, e1, e2, ?_⟩
    have fin : ∀ v' H', Q v' H' → De.nx ((((σ.set j (some (.ref a))).set i (some v'))).set j none) H' := fun v' H' q => hD _ v' H' (by simp [hl]) (by rw [List.getElem?_set_self (by simp; omega)]) q
    cases o with
    | none => exact fin v H q
    | some m => exact fun p hp => fin _ _ (q p hp)
/-- the clauses found by their classes -/
def HvOk (K : PySem.W.Frag) (cl : XCl) (l : HvL) (ms : HvD) : Prop := ∀ c C fl o, cl c = some (C, fl) → ms c = some o → ∃ f, fl = some f ∧ ∀ (Q : VK) (dd : Option Addr) (H : Hp), (∃ a fs v, dd = some a ∧ H a = some (.xd fs) ∧ fs.lookup f = some v ∧ match o with
      | none => Q v H
      | some m => ∀ p, H p = none → Q (.ref p) (upd H p (.tup [.str m, v]))) → wRes K l Q (.ref C) dd H
theorem hv_nil {K : PySem.W.Frag} {cl : XCl} : HvOk K cl [] vNone := fun _ _ _ _ _ h => nomatch h
theorem hv_cons {K : PySem.W.Frag} {cl : XCl} {c0 : Xn} {C0 : Addr} {f : Str} {o : Option Str} {l : HvL} {ms : HvD} (ec : cl c0 = some (C0, some f)) (te : ∀ c C fl, cl c = some (C, fl) → PySem.W.exmOne K (.ref C) (.ref C0) = some (Xn.is c c0)) (r : HvOk K cl l ms) : HvOk K cl ((C0, f, o) :: l) (vOn c0 o ms) := by
  intro c C fl o' e1 e2
  cases hb : Xn.is c c0 with
  | true =>
    obtain rfl := Xn.is_eq hb
    have z : vOn c o ms c = some o := by unfold vOn; rw [hb]
    rw [z] at e2
    cases e2
    rw [ec] at e1
    cases e1
    refine ⟨f, rfl, fun Q dd H h => ⟨true, by rw [te c C0 (some f) ec, hb], fun _ => ⟨rfl, h⟩, (fun z => nomatch z)⟩⟩
  | false =>
    have z : vOn c0 o ms c = ms c := by unfold vOn; rw [hb]
    rw [z] at e2
    obtain ⟨f', e3, k⟩ := r c C fl o' e1 e2
    exact ⟨f', e3, fun Q dd H h => ⟨false, by rw [te c C fl e1, hb], (fun z => nomatch z), fun _ => k Q dd H h⟩⟩
section
variable {X Z : Cx} {N : List Str} {w n xn f m nT nU : Str} {T U : String} {C : Addr} {sg : Scope} {i j : Nat} {hds : List ExceptHandler} {l : HvL} {p1 p2 p3 p4 p5 p6 p7 p8 p9 pa pb pc pd pe pf pg : Pos} {kk x1 : Nat} {other : Expr}
/-- except X as n: w = <of n> -/
theorem hdR_as {val : Expr} {o : Option Str} (zn : Z.N = N) (nd : N.Nodup) (zs : Z.env.scope = sg) (hwi : N[i]? = some w) (hnj : N[j]? = some n) (hlw : sg.names.lookup w = some .local) (hln : sg.names.lookup n = some .local) (hnx : sg.names.lookup xn = some .globalImplicit) (hm : Z.mg xn = some (.ref C)) (hde : (xn == ("__debug__" : Str)) = false)
    (hset : ∀ (a dd : Addr) (oe : Obj) (pn : List (Addr × Obj)), Zc (.ref C) (some dd) oe → (∃ vs, oe.data = .fields vs) → PE (Z.suite a ((a, oe) :: pn)) val (tSx j a dd f o)) (hsw : ∀ Y : Cx, swapsWith val (some (.Name w p2)) p3.line Y.env = pure false)
    (r : HdsA Z hds (ltsOf i j N.length l)) : HdsA Z (.ExceptHandler (some (.Name xn p1)) (some n) [.Assign [.Name w p2] val p3] p4 :: hds) (ltsOf i j N.length ((C, f, o) :: l)) := by
  refine .as (by rw [zn]; exact hnj) (by show Z.env.scope.names.lookup n = _; rw [zs]; exact hln) ⟨by show Z.env.scope.names.lookup _ = _; rw [zs]; exact hnx, hde, .inl hm⟩ (fun a oe cls d pn hz hf => pss_one ⟨fun pins s σ H D I h => ?_⟩) r
  have len : σ.length = N.length := by rw [← zn]; exact I.len
  obtain ⟨dd, e1, e2, h2⟩ := h len
  subst e1 e2
  have lw : Loc Z.env.scope w := Or.inl (by rw [zs]; exact hlw)
  exact (ps_set (X := Z.suite a ((a, oe) :: pn)) (i := i) (by show Z.N.Nodup; rw [zn]; exact nd) (by show Z.N[i]? = _; rw [zn]; exact hwi) lw (hset a dd oe pn hz hf) (hsw _) (Or.inr (by show Z.env.scope.names.lookup w = _; rw [zs]; exact hlw))).run pins s σ H D I h2
/-- the exception's name, read -/
theorem vis_n {Y : Cx} {p : Pos} (yn : Y.N = N) (ys : Y.env.scope = sg) (hnj : N[j]? = some n) (hln : sg.names.lookup n = some .local) (hdn : (n == ("__debug__" : Str)) = false) (hcn : (n == ("__classdict__" : Str)) = false) : PE Y (.Name n p) (tVar j) :=
  pe_var (by rw [yn]; exact hnj) (Or.inl (by rw [ys]; exact hln)) hdn hcn
/-- w = (m, n.f) if isinstance(n, T) else .. -/
theorem hdR1 (zn : Z.N = N) (zs : Z.env.scope = sg) (zm : Z.mg = X.mg) (zk : Z.K = X.K) (nd : N.Nodup) (hwi : N[i]? = some w) (hnj : N[j]? = some n) (hlw : sg.names.lookup w = some .local) (hln : sg.names.lookup n = some .local) (hnx : sg.names.lookup xn = some .globalImplicit) (hgi : sg.names.lookup ("isinstance" : Str) = some .globalImplicit)
    (hm : X.mg xn = some (.ref C)) (mi : X.mg "isinstance" = none) (hk : PySem.W.kitOne X.K (.ref C) (.type T) = some true) (xc : ExcC X.K C) (hno : PySem.W.findIn X.K (.ref C) f = some none)
    (r : HdsA Z hds (ltsOf i j N.length l)) (hde : (xn == ("__debug__" : Str)) = false := by decide) (hdn : (n == ("__debug__" : Str)) = false := by decide) (hcn : (n == ("__classdict__" : Str)) = false := by decide)
    (hbT : ∀ (Y : Cx) (p : Pos), Y.env.scope = sg → Y.mg = X.mg → PE Y (.Name nT p) (tC (.ty T)))
    (hsw : ∀ Y : Cx, swapsWith (.IfExp (.Call (.Name "isinstance" p5) [.Name n p6, .Name nT p7] [] p8) (.Tuple [.Constant (.str m) kk p9, .Attribute (.Name n pa) f pb] x1 pc) other pd) (some (.Name w p2)) p3.line Y.env = pure false := by intro _; rfl)
    (hbase : ∀ Y : Cx, attributeBase (.Name n pa) f Y.env (eval (.Name n pa) Y.env) = eval (.Name n pa) Y.env := by intro _; rfl) :
    HdsA Z (.ExceptHandler (some (.Name xn p1)) (some n) [.Assign [.Name w p2] (.IfExp (.Call (.Name "isinstance" p5) [.Name n p6, .Name nT p7] [] p8) (.Tuple [.Constant (.str m) kk p9, .Attribute (.Name n pa) f pb] x1 pc) other pd) p3] p4 :: hds) (ltsOf i j N.length ((C, f, some m) :: l)) := by
  refine hdR_as zn nd zs hwi hnj hlw hln hnx (by rw [zm]; exact hm) hde (fun a dd oe pn hz hf => ?_) hsw r
  have yn : (Z.suite a ((a, oe) :: pn)).N = N := zn
  have ys : (Z.suite a ((a, oe) :: pn)).env.scope = sg := zs
  have ym : (Z.suite a ((a, oe) :: pn)).mg = X.mg := zm
  have yk : (Z.suite a ((a, oe) :: pn)).K = X.K := zk
  have hmem : (a, oe) ∈ (Z.suite a ((a, oe) :: pn)).pn := List.mem_cons_self
  refine sx_if (C := C) (by rw [yk]; exact hk) (by rw [yk]; exact xc) hz hf hmem (vis_n yn ys hnj hln hdn hcn) (by show Z.env.scope.names.lookup _ = _; rw [zs]; exact hgi) (by rw [ym]; exact mi) (hbT _ _ ys ym) (sx_tup (sx_fld (by rw [yk]; exact ⟨xc.hg, xc.hk, xc.hs, xc.hd⟩) (by rw [yk]; exact hno) hz hf hmem (vis_n yn ys hnj hln hdn hcn) (hbase _)))
end
end Q
/-! QO29 -/
namespace Q
open PySem L2 PySem.Spec PyProof.Rows LamX
end Q
/-! QO30 -/
namespace Q
open PySem L2 PySem.Spec PyProof.Rows
section
variable {K : PySem.W.Frag}
theorem rop_notInS : ROp K L2.rNotInS oNotInS := fun B F pa t env σ H x y v u P Q W rx ry h k => by
  cases x with
  | str x =>
    cases y with
    | str z =>
      obtain ⟨c, rfl, p⟩ := h
      exact ⟨c, z, rx.str W, ry.str W, k _ (.bl (!decide (c ∈ z.cps.toList))) F H (Gr.refl _ _) W (rD_bl _) p⟩
    | _ => exact h.elim
  | _ => exact h.elim
end
end Q
/-! QO31 -/
namespace Q
open PySem L2 PySem.Spec PyProof.Rows PySem.W
end Q
/-! QO32 -/
namespace Q
open PySem PySem.Spec PyProof.Rows L2
/-- what a dict of the module tells at its keys -/
inductive Kvs (K : PySem.W.Frag) (d : Addr) : List (Str × D) → Prop
  | nil : Kvs K d []
  | bl {k : Str} {b : Bool} {r : List (Str × D)} : PySem.W.nsIn K d k = some (some (.bool b)) → Kvs K d r → Kvs K d ((k, .bl b) :: r)
  | int {k : Str} {i : Int} {t : Tok} {r : List (Str × D)} : PySem.W.nsIn K d k = some (some (.int i t)) → Kvs K d r → Kvs K d ((k, .int i) :: r)
theorem Kvs.at {K : PySem.W.Frag} {d : Addr} {s : Str} {v : D} : ∀ {l : List (Str × D)}, Kvs K d l → l.lookup s = some v → ∃ u v0, PySem.W.nsIn K d s = some (some u) ∧ RelV v0 u ∧ ∀ F pa, RelD K F pa v v0
  | [], _, h => by cases h
  | _, .bl (k := k) (b := b) (r := r) e h, hl => by
    rw [List.lookup_cons] at hl
    cases hk : (s == k) with
    | true =>
      rw [hk] at hl
      cases hl
      have : s = k := by simpa using hk
      subst this
      exact ⟨_, .bl b, e, rfl, fun F pa => rD_bl _⟩
    | false =>
      rw [hk] at hl
      exact h.at hl
  | _, .int (k := k) (i := i) (t := t) (r := r) e h, hl => by
    rw [List.lookup_cons] at hl
    cases hk : (s == k) with
    | true =>
      rw [hk] at hl
      cases hl
      have : s = k := by simpa using hk
      subst this
      exact ⟨_, .int i, e, ⟨t, rfl⟩, fun F pa => rD_int _⟩
    | false =>
      rw [hk] at hl
      exact h.at hl
end Q
/-! QO33 -/
namespace Q
open PySem L2 PySem.Spec PyProof.Rows L2H
/-! ### exceptions whose context is None, and X(e) while one is handled -/
section
variable {X : Cx} {e : Expr} {es : List Expr} {ta : TA} {p pos : Pos}
/-- what an exception class's own __init__ leaves -/
theorem mk_fxN {pins : List (Addr × Obj)} {σ : L2.St} {H1 H2 : Hp} {hp h2 : Heap} {g g2 : Array GenState} {dr d2 : Drawn} {tk t2 : Nat} {os os2 : OsState} {us : List Value} {C d : Addr} {fs : List (Str × V)} {Q : XK} (I1 : Inv X pins σ H1 ⟨hp, g, dr, tk, os⟩) (hex : Raises X (.ref C))
    (un2 : Un (frs X.stack) [] (upd H1 (hp.objs.size + 1) (exo (hp.objs.size + 1) C none)) H2 ((hp.push (PySem.W.kdv_tup us)).push (PySem.HandSPX.excO C hp.objs.size)) h2) (hok2 : HOk X.prog X.w H2 h2) (os2' : os2 = os) (bare2 : AllBare g2)
    (ea : H2 (hp.objs.size + 1) = some (exo (hp.objs.size + 1) C (some d))) (ed : H2 d = some (exd d fs)) (hd1 : H1 d = none) (q2 : Q (.ref C) (some d) (upd (del H2 (hp.objs.size + 1)) d (.xd fs))) :
    L2N.MkP X pins σ Q (.ref (hp.objs.size + 1)) ⟨h2, g2, d2, t2, os2⟩ ∧ Six (.ref (hp.objs.size + 1)) ⟨h2, g2, d2, t2, os2⟩ := by
  have hsz : hp.objs.size ≤ hp.objs.size + 1 := Nat.le_succ _
  have kk : ∀ b o, hp.get? b = some o → ((hp.push (PySem.W.kdv_tup us)).push (PySem.HandSPX.excO C hp.objs.size)).get? b = some o := fun b o e => Heap.get?_push_of_some _ (Heap.get?_push_of_some _ e)
  obtain ⟨t0, G, J, kG, ge, hoe, na⟩ := mk_end0 (d2 := d2) (t2 := t2) I1 hsz kk un2 hok2 os2' bare2 ea ed hd1
  refine ⟨⟨hp.objs.size + 1, _, _, ⟨G, g2, d2, t2, os2⟩, _, .ref C, some d, rfl, J, kG, ge, hoe, ⟨rfl, rfl, fun vs hv => ?_⟩, rfl, rfl, na, rfl, bare2, hex, q2⟩, fun a oe vs ea2 hg2 hd2 => ?_⟩
  · cases hv
    rfl
  · cases ea2
    have hg3 : h2.get? (hp.objs.size + 1) = some oe := hg2
    rw [hoe] at hg3
    cases hg3
    cases hd2
    show (4 : Nat) < 6
    decide
/-- X(e), nothing handled -/
theorem pmkN_fxG {x : Str} {C fI : Addr} {k : Nat} {fd : FuncData} {ps : List Str} {f : Str} {newId initId : String} {tl : List Value} (FB : FxG newId initId tl) (T : FxC X.K C newId tl) (iC : PySem.W.findIn X.K (.ref C) "__init__" = some (some (.ref fI))) (tI : PySem.W.typeIn X.K (.ref fI) = some (.type "function"))
    (hno : PySem.W.findIn X.K (.ref C) f = some none)
    (F1 : FnOk X.prog X.w X.K X.mg X.base CX0 k fI fd ps (spFx X.K newId tl f)) (hr : Room (k + 1) X.A) (hb : Binds X.K fd ps []) (hx : Passes CX0 X (fun _ _ _ => False)) (hg : Gl X x) (hm : X.mg x = some (.ref C)) (ha : PA X (e :: es) ta)
    (hdb : (x == ("__debug__" : Str)) = false := by decide) (he : starEach (e :: es) X.env = (false, eval e X.env) :: starEach es X.env := by rfl) (hpl : (backTo pos (starEach es X.env)).any (·.1) = false := by rfl) :
    L2N.PMk X (.Call (.Name x p) (e :: es) [] pos) (fun σ H Q => ta σ H fun vs H1 => ∃ y, vs = [y] ∧ ∀ d, H1 d = none → Q (.ref C) (some d) (upd H1 d (.xd [(f, y)]))) := by
  intro pins s σ H Q I h
  obtain ⟨nm, q, N, bs, sn, sub, ab, col, dd, k0, k1, k2, k3, k5, hC⟩ := T.cls
  refine wpAny_Call_Name_kw (ld_glob I hg hm ?_ hdb)
  refine PySem.W.callWith_K (h₀ := X.base) I.ok.mod.kin T.kC (thn (ha.run pos pins s σ H _ I h) fun us s1 ⟨vs, H1, I1, r1, y, ey, q1⟩ => ⟨I1.kIn, ?_⟩) he hpl
  subst ey
  show wpAny _ _ (call (.ref C) us) _ _ _
  obtain ⟨hp, g, dr, tk, os⟩ := s1
  have hsz : hp.objs.size ≤ hp.objs.size + 1 := Nat.le_succ _
  have hn : H1 (hp.objs.size + 1) = none := I1.hok.fresh hsz
  have kk : ∀ b o, hp.get? b = some o → ((hp.push (PySem.W.kdv_tup us)).push (PySem.HandSPX.excO C hp.objs.size)).get? b = some o := fun b o e => Heap.get?_push_of_some _ (Heap.get?_push_of_some _ e)
  have hget : ((hp.push (PySem.W.kdv_tup us)).push (PySem.HandSPX.excO C hp.objs.size)).get? (hp.objs.size + 1) = some (PySem.HandSPX.excO C hp.objs.size) := by heap_get
  have I2 : Inv X pins σ (upd H1 (hp.objs.size + 1) (exo (hp.objs.size + 1) C none)) ⟨(hp.push (PySem.W.kdv_tup us)).push (PySem.HandSPX.excO C hp.objs.size), g, dr, tk, os⟩ :=
    I1.laid (t' := tk) (a := hp.objs.size + 1) (o := exo (hp.objs.size + 1) C none) (h' := (hp.push (PySem.W.kdv_tup us)).push (PySem.HandSPX.excO C hp.objs.size)) kk hsz (exo_ok hget)
  have r2 : Vals (V.ref (hp.objs.size + 1) :: [y]) (Value.ref (hp.objs.size + 1) :: us) := .cons rfl r1
  have hq : spFx X.K newId tl f (V.ref (hp.objs.size + 1) :: [y]) (upd H1 (hp.objs.size + 1) (exo (hp.objs.size + 1) C none)) (fun v H2 => v = .non ∧ ∃ (d : Addr) (fs : List (Str × V)), H2 (hp.objs.size + 1) = some (exo (hp.objs.size + 1) C (some d)) ∧ H2 d = some (exd d fs) ∧ H1 d = none ∧ Q (.ref C) (some d) (upd (del H2 (hp.objs.size + 1)) d (.xd fs))) (fun _ _ _ => False) := by
    refine ⟨_, C, y, rfl, T, hno, upd_same, fun dx n ne => ⟨rfl, dx, [(f, y)], upd_same, by rw [upd_ne ne, upd_same], ?_, ?_⟩⟩
    · rw [upd_ne ne] at n
      exact n
    · rw [fx_heap hn ne]
      rw [upd_ne ne] at n
      exact q1 dx n
  have hl : (Value.ref (hp.objs.size + 1) :: us).length = ps.length := by
    have e := r2.length
    rw [F1.len _ _ _ _ hq] at e
    exact e.symm
  have hus : us.length ≤ sizeLine := by
    rw [← Paired.length r1, sizeLine_eq]
    show 1 ≤ _
    omega
  have bb := hb _ (Value.ref (hp.objs.size + 1) :: us) I2.kIn (by simpa using hl)
  rw [List.append_nil] at bb
  refine wpAny_call (FB.callO (I1.kIn _ _ hC) (PySem.W.looks_findIn I1.kIn iC) (fun self => PySem.W.bind_fn I1.kIn self tI) hus
    (codeAny_mono (F1.run _ X.stack _ _ ⟨Value.ref (hp.objs.size + 1) :: us, []⟩ (Value.ref (hp.objs.size + 1) :: us) _ _ (fun _ _ _ => False) (hr.make C us []) (I2.env0.make C us []) bb r2 hq) fun r s' hq' => ?_))
  cases r with
  | error er => exact hx pins σ _ _ er s' I2 hq'
  | ok fl =>
    cases fl with
    | ret u =>
      obtain ⟨v, H2, os2, bare2, un2, hok2, rv, ev, d, fs, ea, ed, hd1, q2⟩ := hq'
      subst ev
      obtain ⟨h2, g2, d2, t2, os'⟩ := s'
      exact ⟨rv, (mk_fxN I1 (raises_own T.exC T.tyC) un2 hok2 os2 bare2 ea ed hd1 q2).1⟩
    | next => exact False.elim hq'
    | brk => exact False.elim hq'
    | cont => exact False.elim hq'
/-- X(e), an exception handled -/
theorem pmkH_fxG {x : Str} {C fI : Addr} {k : Nat} {fd : FuncData} {ps : List Str} {f : Str} {newId initId : String} {tl : List Value} (FB : FxG newId initId tl) (T : FxC X.K C newId tl) (iC : PySem.W.findIn X.K (.ref C) "__init__" = some (some (.ref fI))) (tI : PySem.W.typeIn X.K (.ref fI) = some (.type "function"))
    (hno : PySem.W.findIn X.K (.ref C) f = some none)
    (F1 : FnH X.prog X.w X.K X.mg X.base CX0 k fI fd ps (spFx X.K newId tl f)) (hr : RoomH (k + 1) X.A) (hc : HotC X) (hb : Binds X.K fd ps []) (hx : Passes CX0 X (fun _ _ _ => False)) (hg : Gl X x) (hm : X.mg x = some (.ref C)) (ha : PA X (e :: es) ta)
    (hdb : (x == ("__debug__" : Str)) = false := by decide) (he : starEach (e :: es) X.env = (false, eval e X.env) :: starEach es X.env := by rfl) (hpl : (backTo pos (starEach es X.env)).any (·.1) = false := by rfl) :
    L2N.PMk X (.Call (.Name x p) (e :: es) [] pos) (fun σ H Q => ta σ H fun vs H1 => ∃ y, vs = [y] ∧ ∀ d, H1 d = none → Q (.ref C) (some d) (upd H1 d (.xd [(f, y)]))) := by
  intro pins s σ H Q I h
  obtain ⟨nm, q, N, bs, sn, sub, ab, col, dd, k0, k1, k2, k3, k5, hC⟩ := T.cls
  obtain ⟨pn, hot, hpn⟩ := hc
  refine wpAny_Call_Name_kw (ld_glob I hg hm ?_ hdb)
  refine PySem.W.callWith_K (h₀ := X.base) I.ok.mod.kin T.kC (thn (ha.run pos pins s σ H _ I h) fun us s1 ⟨vs, H1, I1, r1, y, ey, q1⟩ => ⟨I1.kIn, ?_⟩) he hpl
  subst ey
  show wpAny _ _ (call (.ref C) us) _ _ _
  obtain ⟨hp, g, dr, tk, os⟩ := s1
  have hsz : hp.objs.size ≤ hp.objs.size + 1 := Nat.le_succ _
  have hn : H1 (hp.objs.size + 1) = none := I1.hok.fresh hsz
  have kk : ∀ b o, hp.get? b = some o → ((hp.push (PySem.W.kdv_tup us)).push (PySem.HandSPX.excO C hp.objs.size)).get? b = some o := fun b o e => Heap.get?_push_of_some _ (Heap.get?_push_of_some _ e)
  have hget : ((hp.push (PySem.W.kdv_tup us)).push (PySem.HandSPX.excO C hp.objs.size)).get? (hp.objs.size + 1) = some (PySem.HandSPX.excO C hp.objs.size) := by heap_get
  have I2 : Inv X pins σ (upd H1 (hp.objs.size + 1) (exo (hp.objs.size + 1) C none)) ⟨(hp.push (PySem.W.kdv_tup us)).push (PySem.HandSPX.excO C hp.objs.size), g, dr, tk, os⟩ :=
    I1.laid (t' := tk) (a := hp.objs.size + 1) (o := exo (hp.objs.size + 1) C none) (h' := (hp.push (PySem.W.kdv_tup us)).push (PySem.HandSPX.excO C hp.objs.size)) kk hsz (exo_ok hget)
  have r2 : Vals (V.ref (hp.objs.size + 1) :: [y]) (Value.ref (hp.objs.size + 1) :: us) := .cons rfl r1
  have hq : spFx X.K newId tl f (V.ref (hp.objs.size + 1) :: [y]) (upd H1 (hp.objs.size + 1) (exo (hp.objs.size + 1) C none)) (fun v H2 => v = .non ∧ ∃ (d : Addr) (fs : List (Str × V)), H2 (hp.objs.size + 1) = some (exo (hp.objs.size + 1) C (some d)) ∧ H2 d = some (exd d fs) ∧ H1 d = none ∧ Q (.ref C) (some d) (upd (del H2 (hp.objs.size + 1)) d (.xd fs))) (fun _ _ _ => False) := by
    refine ⟨_, C, y, rfl, T, hno, upd_same, fun dx n ne => ⟨rfl, dx, [(f, y)], upd_same, by rw [upd_ne ne, upd_same], ?_, ?_⟩⟩
    · rw [upd_ne ne] at n
      exact n
    · rw [fx_heap hn ne]
      rw [upd_ne ne] at n
      exact q1 dx n
  have hl : (Value.ref (hp.objs.size + 1) :: us).length = ps.length := by
    have e := r2.length
    rw [F1.len _ _ _ _ hq] at e
    exact e.symm
  have hus : us.length ≤ sizeLine := by
    rw [← Paired.length r1, sizeLine_eq]
    show 1 ≤ _
    omega
  have bb := hb _ (Value.ref (hp.objs.size + 1) :: us) I2.kIn (by simpa using hl)
  rw [List.append_nil] at bb
  have P1 := I2.pin pn (List.mem_append_left _ hpn)
  have hpin : PinOk X.stack (upd H1 (hp.objs.size + 1) (exo (hp.objs.size + 1) C none)) ⟨(hp.push (PySem.W.kdv_tup us)).push (PySem.HandSPX.excO C hp.objs.size), g, dr, tk, os⟩ pn :=
    ⟨P1.1, P1.2.1, fun hmm => (List.mem_cons.mp (I2.stkSub pn.1 hmm)).elim P1.2.2.1 P1.2.2.2.1, P1.2.2.2.2⟩
  refine wpAny_call (FB.callO (I1.kIn _ _ hC) (PySem.W.looks_findIn I1.kIn iC) (fun self => PySem.W.bind_fn I1.kIn self tI) hus
    (codeAny_mono (F1.run _ X.stack _ _ ⟨Value.ref (hp.objs.size + 1) :: us, []⟩ (Value.ref (hp.objs.size + 1) :: us) _ _ (fun _ _ _ => False) pn (hr.make C us []) ⟨hot.1, hot.2⟩ hpin (I2.env0.make C us []) bb r2 hq) fun r s' hq' => ?_))
  cases r with
  | error er => exact hx pins σ _ _ er s' I2 hq'
  | ok fl =>
    cases fl with
    | ret u =>
      obtain ⟨v, H2, os2, bare2, un2, hok2, rv, ev, d, fs, ea, ed, hd1, q2⟩ := hq'
      subst ev
      obtain ⟨h2, g2, d2, t2, os'⟩ := s'
      exact ⟨rv, (mk_fxN I1 (raises_own T.exC T.tyC) un2 hok2 os2 bare2 ea ed hd1 q2).1⟩
    | next => exact False.elim hq'
    | brk => exact False.elim hq'
    | cont => exact False.elim hq'
end
section
variable {P : Program} {w : World} {K : PySem.W.Frag} {mg : Str → Option Value} {base : Heap}
/-- an exception class's own __init__, while one is handled -/
theorem fn_fxH {x qual m f par : Str} {tl : List Value} {nI : String} {st : Stmt} {fa : Addr} {fd : FuncData} (Fu : Fun K x qual st fa fd) (S : FnScope ["self", par] ["self", par] (defScope st))
    (hb : ∀ (cdv : Value) (A : Around) (outer : List PySem.Env) (s : Shared) (H : Hp) (E : XK) (p : Addr × Obj), PSs (cxH CX0 P w K mg base ["self", par] qual (defScope st) fa cdv A outer s H E p) (defBody st) (tSeq (tDrop (tFxI K nI tl (tCons (tVar 0) (tCons (tC (.str m)) tNil)))) (tFst K nI tl f (tVar 0) (tVar 1)))) : FnH P w K mg base CX0 1 fa fd ["self", par] (spFx K nI tl f) := by
  obtain ⟨oc, od, kV, doc, pm, an, cdv, ct, osl, rfl, lk, hcd⟩ := Fu.ex
  refine fn_ofH lk hcd S (fun vs H Q E h => ?_) fun A outer s H vs Q E p hot hr h => ?_
  · obtain ⟨a, C, y, rfl, _⟩ := h
    rfl
  · obtain ⟨a, C, y, rfl, T, hn, e, q⟩ := h
    refine ⟨_, hb cdv A outer s H E p, .ref a, rfl, ⟨a, C, [.str m], rfl, (by show 1 ≤ 1000; omega), T, e, ?_⟩⟩
    exact ⟨y, rfl, .ref a, rfl, a, C, rfl, T, hn, e, fun dx n ne => q dx n ne⟩
end
end Q
/-! QO34 -/
namespace Q
open PySem L2 PySem.Spec PyProof.Rows L2H
/-! ### __init__ of an instance that may raise; raises out of an except clause -/
section
variable {P : Program} {w : World} {K : PySem.W.Frag} {mg : Str → Option Value} {base : Heap}
/-- as Fun.okX, exceptions whose context is None -/
theorem Fun_okN {x qual : Str} {st : Stmt} {f : Addr} {fd : FuncData} {N ps : List Str} {k : Nat} {sp : Sp} (F : Fun K x qual st f fd) (S : FnScope N ps (defScope st)) (len : ∀ vs H Q E, sp vs H Q E → vs.length = ps.length)
    (hbody : ∀ (cdv : Value) (A : Around) (outer : List PySem.Env) (s : Shared) (H : Hp) (vs : List V) (Q : VK) (E : XK), Room k (A.deeper (envOfC qual (defScope st) s.heap.objs.size f cdv)) → sp vs H Q E →
      ∃ t, PSs (cxOf (L2N.CX P w) P w K mg base N qual (defScope st) f cdv A outer s H E) (defBody st) t ∧ t { nx := fun _ H' => Q .non H', rt := Q } (start N vs) H) : FnOk P w K mg base (L2N.CX P w) (k + 1) f fd ps sp := by
  obtain ⟨oc, od, kV, doc, pm, an, cdv, ct, osl, rfl, lk, hcd⟩ := F.ex
  exact fn_of lk hcd S len fun A outer s H vs Q E hr hsp => hbody cdv A outer s H vs Q E hr hsp
end
section
variable {X : Cx} {B : Bs} {cl : XCl} {e : Expr} {pos : Pos}
/-- raise X(e) in an except clause -/
theorem q_raiseH {W : WX} {Px : PX} {c : Xn} {C : Addr} {f : Str} {as : DA} (hc : HotC X) (tk : L2.Takes X W) (hE : ∀ c C fl F pa t env σ H d dd, cl c = some (C, fl) → Cf X.K B F pa t env σ H → RzX X.K F pa H fl d dd → Px c d t → W (.ref C) dd σ H) (ec : cl c = some (C, some f))
    (mk : L2N.PMk X e (fun σ H Q => taOf X.K B as σ H fun vs H1 => ∃ y, vs = [y] ∧ ∀ d, H1 d = none → Q (.ref C) (some d) (upd H1 d (.xd [(f, y)])))) : QS X B (.Raise (some e) none pos) (dRaiseE c Px as) :=
  PS.imp (ps_raiseH hc tk mk) fun D σ H ⟨F, pa, t, env, DD, Cc, h, R⟩ => by
    refine ⟨F, pa, t, env, _, Cc, h, fun vs ds F' pa' t' H' g C' r q => ?_⟩
    cases ds with
    | nil => exact q.elim
    | cons x ds =>
      cases ds with
      | cons _ _ => exact q.elim
      | nil =>
        obtain ⟨v, vr, rfl, rv, rr⟩ := r.inv
        obtain rfl := rr.inv0
        refine ⟨v, rfl, fun d hd => ?_⟩
        exact hE c C (some f) F' pa' t' env σ _ x (some d) ec (C'.loose _ hd) ⟨d, [(f, v)], v, rfl, upd_same, by simp [List.lookup], rv⟩ q
end
/-! ### try, one clause without a name, which raises -/
section
variable {X : Cx} {B : Bs} {cl : XCl} {dx : DXE} {Wout : WX} {call : Expr} {pos rp np pos' : Pos} {x n : Str} {i : Nat} {C0 : Addr} {c0 : Xn} {C1 : Option Str} {b₀ : Stmt} {suite : List Stmt} {ds : DS} {Px : PX} {ko : DK}
theorem tryX {body : List Stmt} {tb : WX → TS} (hst : X.stack = X.env :: X.outer) (hf : X.env.frame = some X.env.locals) (hpa : ∀ hd : Option Value, PassesOwnAt (model X.prog X.w) (X.A.mark hd) X.A X.env X.xe) (tk : L2.Takes X Wout)
    (hE : ∀ c C fl F pa t env σ H d dd, cl c = some (C, fl) → Cf X.K B F pa t env σ H → RzX X.K F pa H fl d dd → Px c d t → Wout (.ref C) dd σ H)
    (hc : Names X x (.ref C0)) (ec : cl c0 = some (C0, C1)) (te : ∀ c C fl, cl c = some (C, fl) → PySem.W.exmOne X.K (.ref C) (.ref C0) = some (Xn.is c c0))
    (hsu : ∀ (a : Addr) (oe : Obj) (pn : List (Addr × Obj)), L2.Takes (suiteX X a ((a, oe) :: pn)) Wout → HotC (suiteX X a ((a, oe) :: pn)) → PSs (suiteX X a ((a, oe) :: pn)) (b₀ :: suite) (tsOf X.K B ds))
    (hb : ∀ (W : WX) (pn : List (Addr × Obj)) (xe : Value → Shared → Prop), L2N.Takes (X.tr pn xe) W → PSs (X.tr pn xe) body (tb W))
    (ht : ∀ (W : WX) (D : L2.Ends) (σ : L2.St) (H : Hp) F pa t env DD, σ.length = X.N.length → Cf X.K B F pa t env σ H → Rz X.K B F pa DD D → dx env t (fun d t2 => ko DD env d t2) (fun c d t2 => hOn c0 (hDo ds) (hNone Px) c d DD env t2) →
      (∀ c C fl d dd F' pa' t' H', cl c = some (C, fl) → Gr F pa F' pa' → Cf X.K B F' pa' t' env σ H' → RzX X.K F' pa' H' fl d dd → hOn c0 (hDo ds) (hNone Px) c d DD env t' → W (.ref C) dd σ H') → tb W D σ H) :
    QS X B (.Try body [.ExceptHandler (some (.Name x np)) none (b₀ :: suite) pos'] [] [] pos) (dTryE dx ko (hOn c0 (hDo ds) (hNone Px))) := by
  have hp := ps_try_onlyX (pos := pos) (np := np) (pos' := pos') (ts := fun _ _ _ => tsOf X.K B ds) (tb := tb) hst hf hc hpa tk (fun W pn xe t2 _ _ => hb W pn xe t2) (fun a oe cls d pn hz hfl t2 hot => hsu a oe pn t2 hot)
  refine ⟨fun pins s σ H D I h0 => hp.run pins s σ H D I ?_⟩
  obtain ⟨F, pa, t, env, DD, Cc, h, R⟩ := h0
  refine ht _ D σ H F pa t env DD I.len Cc R h fun c C fl d dd F' pa' t' H' ec1 g C' rz q => ?_
  refine ⟨_, te c C fl ec1, fun hb a ha => ?_, fun hb => ?_⟩
  · have q : ds DD env t' := by
      have e : hOn c0 (hDo ds) (hNone Px) c d DD env t' = ds DD env t' := by unfold hOn; rw [hb]; rfl
      rw [← e]; exact q
    exact ⟨F', pa', t', env, DD, C', q, R.mono g⟩
  · have q : Px c d t' := by
      have e : hOn c0 (hDo ds) (hNone Px) c d DD env t' = Px c d t' := by unfold hOn; rw [hb]; rfl
      rw [← e]; exact q
    exact hE c C fl F' pa' t' env σ H' d dd ec1 C' rz q
theorem q_tryRetX (hB : B.m = false) (hst : X.stack = X.env :: X.outer) (hf : X.env.frame = some X.env.locals) (hpa : ∀ hd : Option Value, PassesOwnAt (model X.prog X.w) (X.A.mark hd) X.A X.env X.xe) (tk : L2.Takes X Wout)
    (hE : ∀ c C fl F pa t env σ H d dd, cl c = some (C, fl) → Cf X.K B F pa t env σ H → RzX X.K F pa H fl d dd → Px c d t → Wout (.ref C) dd σ H)
    (hc : Names X x (.ref C0)) (ec : cl c0 = some (C0, C1)) (te : ∀ c C fl, cl c = some (C, fl) → PySem.W.exmOne X.K (.ref C) (.ref C0) = some (Xn.is c c0))
    (hsu : ∀ (a : Addr) (oe : Obj) (pn : List (Addr × Obj)), L2.Takes (suiteX X a ((a, oe) :: pn)) Wout → HotC (suiteX X a ((a, oe) :: pn)) → PSs (suiteX X a ((a, oe) :: pn)) (b₀ :: suite) (tsOf X.K B ds))
    (hcall : ∀ (W : WX) (pn : List (Addr × Obj)) (xe : Value → Shared → Prop), L2N.Takes (X.tr pn xe) W → PE (X.tr pn xe) call (teE X.K B cl dx (WE W))) :
    QS X B (.Try [.Return (some call) rp] [.ExceptHandler (some (.Name x np)) none (b₀ :: suite) pos'] [] [] pos) (dTryE dx kRet (hOn c0 (hDo ds) (hNone Px))) :=
  tryX (tb := fun W => tRet (teE X.K B cl dx (WE W))) hst hf hpa tk hE hc ec te hsu (fun W pn xe tk => pss_one (ps_ret (pos := rp) (hcall W pn xe tk))) fun W D σ H F pa t env DD hl Cc R h k =>
    ⟨F, pa, t, env, _, _, Cc, h, fun v d F' pa' t' H' g C' r q => R.rt v d F' pa' t' env σ H' g C' (ret0 hB r) q, k⟩
end
/-! ### an instance's __init__ -/
/-- as liftI; what it may raise -/
def liftIE (K : PySem.W.Frag) (cl : XCl) (C : Addr) (sp : PSpE) : Sp := fun vs H Q E => ∃ x dx us F pa t ds P Px, vs = .ref x :: us ∧ H x = some (.ins C dx []) ∧ F x = none ∧ pa ≠ some x ∧ t.obs x = none ∧ Cf K (B0 F pa t H) F pa t [] [] H ∧ RelL K F pa ds us ∧ sp ds t P Px ∧
  (∀ h d F' pa' t' H', Cf K (BI F pa t H x) F' pa' t' [] [] H' → F' x = none → pa' ≠ some x → t'.obs x = none → H' x = some h → RelO1 K F' pa' d h → P d t' → Q .non H') ∧
  ∀ c Ca fl d dd F' pa' t' H', cl c = some (Ca, fl) → Cf K (BI F pa t H x) F' pa' t' [] [] H' → pa' ≠ some x → RzX K F' pa' H' fl d dd → Px c d t' → E (.ref Ca) dd H'
section
variable {K : PySem.W.Frag}
theorem bi_out {F1 F' H1 H2 H' : Hp} {pa1 pa' : Option Addr} {t0 t' : Ts} {x : Addr} (hx : H1 x = none) (up : ∀ a o, H1 a = some o → H2 a = some o) (W' : Cf K (BI F1 pa1 t0 H2 x) F' pa' t' [] [] H') (n2 : pa' ≠ some x) : Cf K (B0 F1 pa1 t0 H1) F' pa' t' [] [] H' := by
  refine ⟨rfl, W'.sub, W'.bas, fun a o e hp ho => ?_, fun a o e => ?_, fun a ha => ?_, W'.val, fun i d e => by simp at e, W'.sep, fun a e => ?_, W'.pnn, TabF.nil, W'.ntb, fun a d q => ?_, W'.obx, fun i d a e => by simp at e⟩
  · refine W'.frm a o (up a o e) (fun z => ?_) ho
    rcases List.mem_cons.mp z with z | z
    · exact absurd z (ne_of_none e hx)
    · exact hp z
  · rcases W'.new a o e with z | z
    · exact .inl z
    · refine .inr ?_
      cases q : H1 a with
      | none => exact q
      | some u => rw [show (BI F1 pa1 t0 H2 x).H a = H2 a from rfl, up a u q] at z; cases z
  · exact W'.exl a (List.mem_cons_of_mem _ ha)
  · obtain ⟨h1, h2, h3⟩ := W'.pen a e
    refine ⟨h1, h2, ?_⟩
    rcases h3 with z | z
    · rcases List.mem_cons.mp z with z | z
      · exact absurd (by rw [e, z]) n2
      · exact .inl z
    · refine .inr ?_
      cases q : H1 a with
      | none => exact q
      | some u => rw [show (BI F1 pa1 t0 H2 x).H a = H2 a from rfl, up a u q] at z; cases z
  · obtain ⟨h1, h2, h3, h4, h5⟩ := W'.obs a d q
    refine ⟨h1, h2, h3, ?_, h5⟩
    rcases h4 with z | z
    · exact .inl z
    · refine .inr ?_
      cases q : H1 a with
      | none => exact q
      | some u => rw [show (BI F1 pa1 t0 H2 x).H a = H2 a from rfl, up a u q] at z; cases z
end
section
variable {X : Cx} {B : Bs} {cl : XCl} {sp : PSpE} {as : DA} {E : L2.St → XK} {e : Expr} {es : List Expr} {CX : CXT} {k : Nat} {fa Cl : Addr} {fd : FuncData} {ps : List Str} {x : Str} {p pos : Pos}
/-- C(..), an instance, may raise -/
theorem z_makeI (M : L2.Mk X.K Cl fa) (F : FnOk X.prog X.w X.K X.mg X.base CX k fa fd ps (liftIE X.K cl Cl sp)) (hr : Room (k + 1) X.A) (hg : Gl X x) (hm : X.mg x = some (.ref Cl)) (hb : Binds X.K fd ps []) (hx : ∀ σ, PassesAt CX X σ (E σ))
    (ha : QA X B (e :: es) as) (hdb : (x == ("__debug__" : Str)) = false := by decide) (he : starEach (e :: es) X.env = (false, eval e X.env) :: starEach es X.env := by rfl) (hpl : (backTo pos (starEach es X.env)).any (·.1) = false := by rfl) :
    PE X (.Call (.Name x p) (e :: es) [] pos) (teE X.K B cl (zCall sp as) E) := PE.imp (pe_makeS M F hr hg hm hb hx ha hdb he hpl) fun σ H Q ⟨F, pa, t, env, P, Px, W, h, k, kx⟩ =>
  ⟨F, pa, t, env, _, W, h, fun vs xs F1 pa1 t1 H1 g1 W1 r1 q1 y dx hy hdx hne => by
    have hy2 : upd H1 dx (.own y) y = none := by rw [upd_ne (Ne.symm hne)]; exact hy
    have W2 := (W1.loose (.own y) hdx).loose (.ins Cl dx []) hy2
    obtain ⟨hF, hB, _⟩ := W1.fresh hy
    have nw := W1.nw hy
    have up : ∀ a o, H1 a = some o → upd (upd H1 dx (.own y)) y (.ins Cl dx []) a = some o := fun a o e => by
      rw [upd_ne (ne_of_none e hy), upd_ne (ne_of_none e hdx)]; exact e
    refine ⟨y, dx, _, F1, pa1, t1, xs, P, Px, rfl, upd_same, hF, nw.a, nw.o, W2.call, r1, q1, fun hh d F' pa' t' H' W' n1 n2 n4 e' r' q' => ⟨rfl, ?_⟩, fun c Ca fl d dd F' pa' t' H' ec W' n2 rz q' => ?_⟩
    · obtain ⟨g, W4⟩ := W1.after (bi_out hy up W' n2)
      have n : Nw B F' pa' t' env σ y := ⟨n1, hB, n2, nw.s, n4⟩
      obtain ⟨g', C2⟩ := W4.frz n e' r'.ntb
      exact k (.ref y) d _ pa' t' H' ((g1.trans g).trans g') C2 (RelO1.rel (RelO1.mono g' d hh r') upd_same) q'
    · obtain ⟨g, W4⟩ := W1.after (bi_out hy up W' n2)
      exact kx c Ca fl d dd F' pa' t' H' ec (g1.trans g) W4 rz q'⟩
end
/-! its statements -/
def tiB (K : PySem.W.Frag) (Cl' : Addr) (O : Addr → Prop) (F0 H0 : Hp) (x : Addr) (ds : IS) : TS := fun D σ H => ∃ ns l F t env k, Is K O F0 H0 x Cl' ns l F t env σ H ∧ ds k ns l env t ∧
  ∀ ns' l' F' t' env' σ' H', Is K O F0 H0 x Cl' ns' l' F' t' env' σ' H' → k ns' l' env' t' → D.nx σ' H'
section
variable {X : Cx} {Cl' : Addr} {O : Addr → Prop} {F0 H0 : Hp} {xa : Addr} {st : Stmt} {sts : List Stmt} {a b : IS} {c : Expr} {dt : DT} {pos : Pos}
/-- what tells the end of a list of statements -/
theorem i_B (h : PSs X sts (tiS X.K Cl' a)) : PSs X sts (tiB X.K Cl' O F0 H0 xa a) := PSs.imp h fun D σ H ⟨ns, l, F, t, env, k, S, h, R⟩ => ⟨O, F0, H0, xa, ns, l, F, t, env, k, S, h, R⟩
theorem i_consB (h1 : PS X st (tiB X.K Cl' O F0 H0 xa a)) (h2 : PSs X sts (tiB X.K Cl' O F0 H0 xa b)) : PSs X (st :: sts) (tiB X.K Cl' O F0 H0 xa (iThen a b)) :=
  PSs.imp (pss_cons h1 h2) fun D σ H ⟨ns, l, F, t, env, k, S, h, R⟩ => ⟨ns, l, F, t, env, _, S, h, fun ns' l' F' t' env' σ' H' S' h' => ⟨ns', l', F', t', env', k, S', h', R⟩⟩
theorem i_guardX {W : WX} {Px : PX} {c0 : Xn} {Ca : Addr} {f m : Str} {e : Expr} {rp : Pos} (hcm : X.calm = true) (tk : L2N.Takes X W)
    (hE : ∀ ns l F t env σ H dd, Is X.K O F0 H0 xa Cl' ns l F t env σ H → H dd = none → Px c0 (.str m) t → W (.ref Ca) (some dd) σ (upd H dd (.xd [(f, .str m)])))
    (mk : L2N.PMk X e (fun σ H Q => (tCons (tC (.str m)) tNil) σ H fun vs H1 => ∃ y, vs = [y] ∧ ∀ d, H1 d = none → Q (.ref Ca) (some d) (upd H1 d (.xd [(f, y)]))))
    (hc : ∀ B, QT X B c dt) : PS X (.If c [.Raise (some e) none rp] [] pos) (tiB X.K Cl' O F0 H0 xa (iGuardX dt c0 m Px)) :=
  PS.imp (ps_if (tc := ttU X.K dt) ⟨fun pins s σ H Q I ⟨B, q⟩ => (hc B).run pins s σ H Q I q⟩ (pss_one (L2N.ps_raise hcm tk mk)) pss_nil) fun D σ H ⟨ns, l, F, t, env, k, S, h, R⟩ =>
    ⟨B0 F none t H, F, none, t, env, _, S.c.here S.nov, h, fun kb F' pa' t' H' g C q => by
      obtain ⟨rfl, S'⟩ := S.step C
      cases kb with
      | true => exact ⟨.str m, rfl, fun d hd => hE ns l F' t' env σ H' d S' hd q⟩
      | false => exact R ns l F' t' env σ H' S' q⟩
end
section
variable {P : Program} {w : World} {K : PySem.W.Frag} {mg : Str → Option Value} {base : Heap}
theorem is_end {F : Hp} {pa : Option Addr} {t : Ts} {H : Hp} {x C' : Addr} {ns' : List Str} {l' : List D} {F' H' : Hp} {env' : En} {σ' : L2.St} (C : Cf K (B0 F pa t H) F pa t [] [] H) (h2 : pa ≠ some x) (S' : Is K t.dom F H x C' ns' l' F' t env' σ' H') : Cf K (BI F pa t H x) F' pa t [] [] H' := by
  obtain ⟨dx', vs', e1, e2, e3⟩ := S'.ins
  have kp : ∀ a o, H a = some o → a ≠ x → ¬ t.dom a → H' a = some o := fun a o e ne ho => S'.c.frm a o e (fun z => ne (List.mem_singleton.mp z)) ho
  refine ⟨rfl, S'.c.sub, S'.c.bas, fun a o e hp ho => ?_, S'.c.new, fun a ha => ?_, fun i d e => by simp at e, fun i d e => by simp at e, fun i j d e a q => by simp at q, fun a e => ?_, rfl, TabF.nil, S'.c.ntb, fun a d q => by
      obtain ⟨h1, ⟨u, h2, h3⟩, _, h5, h6⟩ := S'.c.obs a d q
      exact ⟨h1, ⟨u, h2, RelO1.up h3⟩, (C.obs a d q).2.2.1, h5, h6⟩, S'.c.obx, fun i d a e => by simp at e⟩
  · exact kp a o e (fun z => hp (by rw [z]; exact List.mem_cons_self ..)) ho
  · rcases List.mem_cons.mp ha with z | z
    · rw [z]; exact ⟨_, e1⟩
    · obtain ⟨o, e⟩ := C.exl a z
      by_cases hax : a = x
      · rw [hax]; exact ⟨_, e1⟩
      · by_cases hd : t.dom a
        · obtain ⟨d, q⟩ := hd
          obtain ⟨_, ⟨u, q2, _⟩, _⟩ := S'.c.obs a d q
          exact ⟨u, q2⟩
        · exact ⟨o, kp a o e hax hd⟩
  · obtain ⟨h3, ⟨h, h4, h5⟩, h6⟩ := C.pen a e
    have hax : a ≠ x := fun z => h2 (by rw [← z]; exact e)
    refine ⟨?_, ⟨h, kp a h h4 hax (fun ⟨d, q⟩ => (C.obs a d q).2.2.1 e), h5.mono S'.c.bas⟩, .inl (List.mem_cons_of_mem _ (mem_pa.mpr e))⟩
    cases q2 : F' a with
    | none => rfl
    | some o =>
      rcases S'.c.new a o q2 with ⟨o', z⟩ | z
      · rw [show (BX t.dom F H x).F a = F a from rfl, h3] at z; cases z
      · rw [show (BX t.dom F H x).H a = H a from rfl, h4] at z; cases z
theorem fn_okIE {x qual : Str} {st : Stmt} {f C' : Addr} {cl : XCl} {fd : FuncData} {n : Str} {N ps : List Str} {k : Nat} {sp : PSpE} {ds : PX → IS} (Fu : Fun K x qual st f fd) (S : FnScope (n :: N) ps (defScope st)) (len : ∀ as t Q Px, sp as t Q Px → as.length + 1 = ps.length)
    (hnp : ∀ as t Q Px, sp as t Q Px → nopens as = true)
    (hbody : ∀ (cdv : Value) (A : Around) (outer : List PySem.Env) (s : Shared) (H : Hp) (E : XK) (O : Addr → Prop) (F0 H0 : Hp) (xa : Addr) (Px : PX), Room k (A.deeper (envOfC qual (defScope st) s.heap.objs.size f cdv)) →
      (∀ c0 m Ca fl ns l F t env σ H dd, cl c0 = some (Ca, some fl) → Is K O F0 H0 xa C' ns l F t env σ H → H dd = none → Px c0 (.str m) t → E (.ref Ca) (some dd) (upd H dd (.xd [(fl, .str m)]))) →
      PSs (cxOf (L2N.CX P w) P w K mg base (n :: N) qual (defScope st) f cdv A outer s H E) (defBody st) (tiB K C' O F0 H0 xa (ds Px)))
    (hds : ∀ as t Q Px x, sp as t Q Px → ds (fun c d t' => t' = t ∧ Px c d t) (fun ns l env t' => t' = t ∧ Q (.ins C' ns l) t) [] [] (startI x N as) t) : FnOk P w K mg base (L2N.CX P w) (k + 1) f fd ps (liftIE K cl C' sp) := by
  refine Fun_okN Fu S (fun vs H Q E h => ?_) (fun cdv A outer s H vs Q E hr h => ?_)
  · obtain ⟨x, dx, us, F, pa, t, as, R, Px, rfl, hx, h1, h2, h3, C, r, q, _⟩ := h
    rw [List.length_cons, r.len]; exact len as t R Px q
  · obtain ⟨x, dx, us, F, pa, t, as, R, Px, rfl, hx, h1, h2, hox, C, r, q, fin, finx⟩ := h
    refine ⟨_, hbody cdv A outer s H E t.dom F H x (fun c d t' => t' = t ∧ Px c d t) hr (fun c0 m Ca fl ns l F' t' env σ H' dd ec S' hd px => ?_), [], [], F, t, startI x N as, _, is_start C hox (hnp as t R Px q) r hx h1, hds as t R Px x q, fun ns' l' F' t' env' σ' H' S' h' => ?_⟩
    · obtain ⟨rfl, px⟩ := px
      exact finx c0 Ca (some fl) (.str m) (some dd) F' pa _ _ ec ((is_end C h2 S').loose _ hd) h2 ⟨dd, [(fl, .str m)], .str m, rfl, upd_same, by simp [List.lookup], rD_str m⟩ px
    · obtain ⟨rfl, h'⟩ := h'
      obtain ⟨dx', vs', e1, e2, e3⟩ := S'.ins
      exact fin _ (.ins C' ns' l') F' pa t' H' (is_end C h2 S') S'.f h2 S'.o e1 ⟨dx', vs', rfl, e2, RelL.up l' vs' e3⟩ h'
end
end Q
/-! QO35 -/
namespace Q
open PySem L2 PySem.Spec PyProof.Rows LamX
section
variable {X : Cx}
/-- return (m, v) if w is None else w -/
def tRetB (m : Str) : TS := tRet (tIf (tTest (tOp rIsN (tVar 1) (tC .non))) (tTup (tCons (tC (.str m)) (tCons (tVar 2) tNil))) (tVar 1))
theorem retB_told {m : Str} {D : L2.Ends} {σ : L2.St} {H : Hp} {v : V} (h1 : σ[1]? = some (some .non)) (h2 : σ[2]? = some (some v)) (h : ∀ p, H p = none → D.rt (.ref p) (upd H p (.tup [.str m, v]))) : tRetB m D σ H :=
  ⟨.non, h1, rfl, true, rfl, ⟨v, h2, by show 2 ≤ sizeLine; rw [sizeLine_eq]; omega, h⟩⟩
theorem retB_wrong {m : Str} {D : L2.Ends} {σ : L2.St} {H : Hp} {u : V} (h1 : σ[1]? = some (some u)) (hu : u ≠ .non) (h : D.rt u H) : tRetB m D σ H :=
  ⟨u, h1, rfl, false, by rw [decide_eq_false hu], ⟨u, h1, h⟩⟩
/-- w = None; v = None; try: v = a() / except ..: w = (..); return (m, v) if w is None else w -/
theorem holdB_gives {x a w v n q m : Str} {sg : Scope} {g : Addr} {cdg : Value} {l : HvL} {h₀ : ExceptHandler} {hds : List ExceptHandler} {k1 k2 k3 k4 : Nat} {x1 : Nat} {p0 p1 p2 p3 p4 p5 p6 p7 p8 p9 pa pb pc pd pe pf pg ph pi pj : Pos} (hN : [a, w, v, n].Nodup) (hlw : sg.names.lookup w = some .local) (hlv : sg.names.lookup v = some .local) (hdw : (w == ("__debug__" : Str)) = false) (hcw : (w == ("__classdict__" : Str)) = false) (hdv : (v == ("__debug__" : Str)) = false) (hcv : (v == ("__classdict__" : Str)) = false)
    (hH : ∀ Z : Cx, Z.N = [a, w, v, n] → Z.env.scope = sg → Z.mg = X.mg → Z.K = X.K → HdsA Z (h₀ :: hds) (ltsOf 1 3 4 l)) :
    GivesTo X [a, w, v, n] x sg g cdg [.Assign [.Name w p0] (.Constant .none k1 p9) pa, .Assign [.Name v p3] (.Constant .none k2 p4) p5, .Try [.Assign [.Name v p6] (.Call (.Name a p1) [] [] p2) p7] (h₀ :: hds) [] [] p8,
        .Return (some (.IfExp (.Compare (.Name w pb) [.Is] [.Constant .none k3 pc] pd) (.Tuple [.Constant (.str m) k4 pe, .Name v pf] x1 pg) (.Name w ph) pi)) pj] a q
      (fun tl H Q => tl (wRes X.K l fun v H' => v ≠ .non ∧ Q v H') H fun v H' => ∀ p, H' p = none → Q (.ref p) (upd H' p (.tup [.str m, v]))) := by
  intro f c' s H Q tl act hc h
  let Z := (cxOf C8.CX0 X.prog X.w X.K X.mg X.base [a, w, v, n] x sg g cdg X.A X.stack s H C8.E0).nox
  have visw : ∀ (Y : Cx) (p : Pos), Y.N = [a, w, v, n] → Y.env.scope = sg → PE Y (.Name w p) (tVar 1) := fun Y p hN hs => pe_var (by rw [hN]; rfl) (Or.inl (by rw [hs]; exact hlw)) hdw hcw
  have visv : ∀ (Y : Cx) (p : Pos), Y.N = [a, w, v, n] → Y.env.scope = sg → PE Y (.Name v p) (tVar 2) := fun Y p hN hs => pe_var (by rw [hN]; rfl) (Or.inl (by rw [hs]; exact hlv)) hdv hcv
  refine ⟨_, pss_cons (ps_set (i := 1) hN rfl (Or.inl hlw) pe_non (by rfl) (Or.inr hlw)) (pss_cons (ps_set (i := 2) hN rfl (Or.inl hlv) pe_non (by rfl) (Or.inr hlv)) (pss_cons (ps_try_manyA (X := Z) (Wout := fun _ _ _ _ => False) (l := ltsOf 1 3 4 l)
      (tb := fun W D σ H => ∃ Ech : XK, (∀ cls d σ' H', Ech cls d H' → W cls d σ' H') ∧ σ[0]? = some (some (.ref f)) ∧ H c' = some (CodeO c' q) ∧ tl Ech H fun v H' => D.nx (σ.set 2 (some v)) H')
      rfl rfl hN takes_none5 (fun W pn xe tk _ => ?_) (hH Z rfl rfl rfl rfl)) (pss_one (ps_ret (pe_ifExp (pt_cmpR op_isN1 (visw _ _ rfl rfl) pe_non rfl) (pe_tup (pa_cons pe_str (pa_cons (visv _ _ rfl rfl) pa_nil))) (visw _ _ rfl rfl)))))), ?_⟩
  · refine ⟨fun pins s' σ H' D I h' => ?_⟩
    obtain ⟨Ech, hW, h1, h2, h3⟩ := h'
    have hp := act W pn xe Ech p1 p2 tk hW
    have hq := pss_one (ps_set (i := 2) (pos := p7) (pos' := p6) hN rfl (Or.inl hlv) hp (by rfl) (Or.inr hlv))
    exact hq.run pins s' σ H' D I ⟨h1, h2, h3⟩
  · refine ⟨wRes X.K l (fun v H' => v ≠ .non ∧ Q v H'), fun cls d σ' H' w => ?_, rfl, hc, ?_⟩
    · refine wRes_many (Q := fun v H' => v ≠ .non ∧ Q v H') (by decide) (by decide) (by decide) (fun σ2 u H2 hl e q => ?_) l w
      refine retB_wrong (m := m) (u := u) ?_ q.1 q.2
      rw [List.getElem?_set_ne (by decide)]
      exact e
    · refine cast (congrArg (tl (wRes X.K l fun v H' => v ≠ .non ∧ Q v H') H) (funext fun u => funext fun H2 => propext ⟨fun z => ?_, fun z => ?_⟩)) h
      · exact retB_told (m := m) (v := u) rfl rfl z
      · obtain ⟨_, e1, _, b, e2, z⟩ := (show tRetB m _ _ _ from z)
        cases e1
        cases e2
        obtain ⟨_, e3, _, z⟩ := z
        cases e3
        exact z
theorem ev_holdB {B : Bs} {cl : XCl} {dx : DXE} {ms : HvD} {e : Expr} {l : HvL} {q0 m : Str} {Pt : Addr} (T : TabOf B Pt q0) (hv : HvOk X.K cl l ms)
    (h : PE X e (tLamP Pt q0 (fun tl H Q => tl (wRes X.K l fun v H' => v ≠ .non ∧ Q v H') H fun v H' => ∀ p, H' p = none → Q (.ref p) (upd H' p (.tup [.str m, v]))) (fun E => teE X.K B cl dx (WE fun cls d _ H => E cls d H)))) : QE X B e (dRefB m dx ms) :=
  PE.imp h fun σ H Q ⟨F, pa, t, env, P', Cc, hd, k⟩ => by
    obtain ⟨_, _, ps, eP, ht, hcod⟩ := Cc.tab _ T.m
    refine ⟨ps, eP, ⟨ht, fun pos cv hc => ?_⟩, fun H1 l => ?_⟩
    · obtain ⟨c, e1, e2⟩ := hcod pos cv hc
      exact ⟨c, e1, Cc.sub _ _ e2⟩
    · obtain ⟨F1, g1, C1⟩ := Cc.lam T.m T.x T.u eP l
      refine ⟨F1, pa, t, env, _, _, C1, hd, fun v d F' pa' t' H' g C' r' q' => ?_, fun c C fl d dd F' pa' t' H' ec g C' r' q' => ?_⟩
      · intro p hp
        obtain ⟨F2, g2, C2, r2⟩ := new_tup C' hp (l := [.str m, d]) (vs := [.str m, v]) (RelL.cons (rD_str _) (RelL.cons r' RelL.nil))
        exact k _ _ F2 pa' t' _ (g1.trans (g.trans g2)) C2 r2 q'
      · cases em : ms c with
        | none =>
          rw [em] at q'
          exact q'.elim
        | some o =>
          rw [em] at q'
          obtain ⟨f, rfl, hw⟩ := hv c C fl o ec em
          obtain ⟨a, fs, v, e1, e2, e3, rv⟩ := r'
          cases o with
          | none => exact q'.elim
          | some m2 =>
            refine hw _ dd H' ⟨a, fs, v, e1, e2, e3, ?_⟩
            intro p hp
            obtain ⟨F2, g2, C2, r2⟩ := new_tup C' hp (l := [.str m2, d]) (vs := [.str m2, v]) (RelL.cons (rD_str _) (RelL.cons rv RelL.nil))
            exact ⟨by simp, k _ _ F2 pa' t' _ (g1.trans (g.trans g2)) C2 r2 q'⟩
/-- x(lambda: e), x as in holdB_gives -/
theorem q_holdB {B : Bs} {cl : XCl} {dx : DXE} {ms : HvD} {l : HvL} {h₀ : ExceptHandler} {hds : List ExceptHandler} {x a w v n m : Str} {st : Stmt} {g c Pt : Addr} {fd : FuncData} {k1 k2 k3 k4 k : Nat} {x1 : Nat} {p0 p1 p2 p3 p4 p5 p6 p7 p8 p9 pa pb pc pd pe pf pg ph pi pj p lpos pos : Pos} {params : Arguments} {body : Expr} {scope : Scope}
    (Fu : Fun X.K x x st g fd) (Sg : FnScope [a, w, v, n] [a] (defScope st))
    (hbd : defBody st = [.Assign [.Name w p0] (.Constant .none k1 p9) pa, .Assign [.Name v p3] (.Constant .none k2 p4) p5, .Try [.Assign [.Name v p6] (.Call (.Name a p1) [] [] p2) p7] (h₀ :: hds) [] [] p8,
        .Return (some (.IfExp (.Compare (.Name w pb) [.Is] [.Constant .none k3 pc] pd) (.Tuple [.Constant (.str m) k4 pe, .Name v pf] x1 pg) (.Name w ph) pi)) pj])
    (hg : Gl X x) (hm : X.mg x = some (.ref g)) (hk : PySem.W.keepIn X.K (.ref g) = true) (hb : L2.Binds X.K fd [a] []) (hva : (defScope st).names.lookup a = some .local) (hlw : (defScope st).names.lookup w = some .local) (hlv : (defScope st).names.lookup v = some .local)
    (hv : HvOk X.K cl l ms) (hH : ∀ Z : Cx, Z.N = [a, w, v, n] → Z.env.scope = defScope st → Z.mg = X.mg → Z.K = X.K → HdsA Z (h₀ :: hds) (ltsOf 1 3 4 l))
    (hT : TabOf B Pt (X.env.qual ++ "<lambda>")) (TB : LamX.TabB X.base X.mg c Pt) (hcode : X.env.code = .ref c) (hr : Room (k + 2) X.A) (L : LamS X.env.scope scope) (hdef : defaultsOf params X.env = ([], []))
    (hbind : ∀ (q : Str) (cl : List (Str × Addr)) (pm cv ctv : Value), bindArgs (PySem.W.kla_fn "<lambda>" q params body scope cl pm cv ctv) ⟨[], []⟩ = pure [])
    (hbody : ∀ (A : Around) (outer : List Env) (s : Shared) (H : Hp) (E : XK) (f c' : Addr), Room k (A.deeper (lamEnv X scope s.heap.objs.size f c')) → PE (lamCx X A outer s H E scope f c') body (teE X.K B cl dx (WE fun cls d _ H => E cls d H)))
    (hdx : (x == ("__debug__" : Str)) = false := by decide) (hda : (a == ("__debug__" : Str)) = false := by decide) (hca : (a == ("__classdict__" : Str)) = false := by decide)
    (hdw : (w == ("__debug__" : Str)) = false := by decide) (hcw : (w == ("__classdict__" : Str)) = false := by decide) (hdv : (v == ("__debug__" : Str)) = false := by decide) (hcv : (v == ("__classdict__" : Str)) = false := by decide) :
    QE X B (.Call (.Name x p) [.Lambda params body scope lpos] [] pos) (dRefB m dx ms) := by
  obtain ⟨oc, od, kV, doc, pm, an, cdv, ct, osl, rfl, lk, hcd⟩ := Fu.ex
  rw [hbd] at lk hb
  exact ev_holdB hT hv (pe_lamP hg hm hk lk hcd hb Sg rfl (Or.inl hva) (holdB_gives Sg.nd hlw hlv hdw hcw hdv hcv hH) TB hcode hr L hdef hbind hbody hdx hda hca)
end
section
variable {P : Program} {w : World} {K : PySem.W.Frag} {mg : Str → Option Value} {base : Heap}
/-- asked where it never raises -/
theorem fn_plainIE {f C : Addr} {cl : XCl} {fd : FuncData} {ps : List Str} {k : Nat} {sp : PSpE} (F : FnOk P w K mg base (L2N.CX P w) k f fd ps (liftIE K cl C sp)) : FnOk P w K mg base CX0 k f fd ps (liftI K C (spNoE sp)) := by
  refine ⟨fun vs H Q E h => ?_, fun A outer s H args us vs Q E hr e0 hb r h => ?_⟩
  · obtain ⟨x, dx, vr, F1, pa, t, ds, P1, ev, e1, e2, e3, e4, Cc, rl, q, fin⟩ := h
    exact F.len vs H Q (fun _ _ _ => False) ⟨x, dx, vr, F1, pa, t, ds, P1, _, ev, e1, e2, e3, e4, Cc, rl, q, fin, fun _ _ _ _ _ _ _ _ _ _ _ _ _ z => z⟩
  · obtain ⟨x, dx, vr, F1, pa, t, ds, P1, ev, e1, e2, e3, e4, Cc, rl, q, fin⟩ := h
    refine codeAny_mono (F.run A outer s H args us vs Q (fun _ _ _ => False) hr e0 hb r ⟨x, dx, vr, F1, pa, t, ds, P1, _, ev, e1, e2, e3, e4, Cc, rl, q, fin, fun _ _ _ _ _ _ _ _ _ _ _ _ _ z => z⟩) fun res s' hq => ?_
    cases res with
    | ok fl =>
      cases fl with
      | ret u => exact hq
      | next => exact False.elim hq
      | brk => exact False.elim hq
      | cont => exact False.elim hq
    | error e =>
      obtain ⟨_, _, _, _, _, _, _, _, _, _, _, _, z⟩ := (show L2N.CX P w outer H s (fun _ _ _ => False) e s' from hq)
      first | done | exact z.elim
end
end Q
/-! QO36 -/
namespace Q
open PySem L2 PySem.Spec PyProof.Rows
section
variable {X : Cx} {B : Bs} {o : Expr} {da : DE} {apos pos : Pos}
theorem q_upper (ho : QE X B o da) (hbase : attributeBase o "upper" X.env (eval o X.env) = eval o X.env := by rfl) (hline : (apos.endLine == pos.line) = true := by rfl) : QE X B (.Call (.Attribute o "upper" apos) [] [] pos) (dUpper da) :=
  PE.imp (pe_upper ho hbase hline) fun σ H Q ⟨F, pa, t, env, P, C, hd, k⟩ => ⟨F, pa, t, env, _, C, hd, fun v x F1 pa1 t1 H1 g1 C1 r1 q1 => by
    cases x with
    | str a =>
      obtain ⟨hl, q1⟩ := q1
      unfold RelD at r1
      exact ⟨⟨a, r1⟩, a, r1, rfl, hl, k _ (.str (Txt.upper a)) F1 pa1 t1 H1 g1 C1 (rD_str _) q1⟩
    | _ => exact q1.elim⟩
end
end Q
/-! QO37 -/
/-! != of tuples that hold instances with an own ==, where all is equal -/
namespace GQ
open PySem PySem.SeqAt
open AutoSeq1 (wpAny_loadPart')
open MeetsSeq MeetsSeq2 MeetsSeq3 SeqRoads2
section
variable {prog : Program} {w : World} {A : Around} {R : Result → Shared → Prop}
theorem tuple_neG (l b : Addr) (items items2 : Array Value) (n n2 : Nat) (dd dd2 : Option Addr) (sl sl2 : Array (Option Value)) (hsz : items.size = items2.size) (I : Nat → Shared → Prop)
    (turn : ∀ i (h1 : i < items.size) (h2 : i < items2.size) s, I i s → wpAny (model prog w) A.in1 (eqBool items[i] items2[i]) (fun r s' => r = true ∧ I (i + 1) s') (fun e s' => R (.error e) s') s)
    (fin : ∀ s, I items.size s → R (.ok (.ret (.bool false))) s) {s : Shared} (hl1 : s.heap.get? l = some { cls := .type "tuple", dict := dd, data := .seq items n, slots := sl }) (hb1 : s.heap.get? b = some { cls := .type "tuple", dict := dd2, data := .seq items2 n2, slots := sl2 }) (h : I 0 s) :
    wpAny (model prog w) A.in1 (Builtin.«tuple.__ne__» ⟨[.ref l, .ref b], []⟩) (FinOf prog w A R) (fun e s' => R (.error e) s') s := by
  have f2 := AutoSeq1.sub_tuple_tuple
  have hZ : (items.toList.zip items2.toList).length = items.size := by simp [hsz]
  have h0 := h
  obtain ⟨hp, g, d, tk, os⟩ := s
  wp_walk using wpAny_loadPart' hl1, wpAny_loadPart' hb1, wpAny_forIn_list _ (fun rest b s' => b.1 = none ∧ ∃ i, rest = (items.toList.zip items2.toList).drop i ∧ i ≤ items.size ∧ I i s') _
  case turn =>
    rintro ⟨y, x⟩ rest b s' ⟨hb', i, hz, hi, hI⟩
    have hlt : i < (items.toList.zip items2.toList).length := by
      rcases Nat.lt_or_ge i (items.toList.zip items2.toList).length with h' | h'
      · exact h'
      · rw [List.drop_of_length_le h'] at hz; cases hz
    have h1 : i < items.size := hZ ▸ hlt
    have h2 : i < items2.size := hsz ▸ h1
    rw [List.drop_eq_getElem_cons hlt] at hz
    injection hz with hyx hrest
    have hy : y = items[i] := by have := congrArg Prod.fst hyx; simpa using this
    have hx : x = items2[i] := by have := congrArg Prod.snd hyx; simpa using this
    subst hy hx
    refine wpAny_bind (wpAny_mono (turn i h1 h2 s' hI) (fun r s2 q2 => ?_) fun _ _ x => x)
    obtain ⟨hr, q2⟩ := q2
    subst hr
    wp_walk
    exact ⟨rfl, i + 1, hrest, h1, q2⟩
  case fin =>
    rintro ⟨b1, b2⟩ s' ⟨hb', i, hz, hi, hI⟩
    simp only at hb'
    subst hb'
    have hge : items.size ≤ i := by
      rcases Nat.lt_or_ge i (items.toList.zip items2.toList).length with h' | h'
      · rw [List.drop_eq_getElem_cons h'] at hz; cases hz
      · exact hZ ▸ h'
    have hi' : i = items.size := by omega
    have hR : R (.ok (.ret (.bool false))) s' := fin s' (hi' ▸ hI)
    wp_walk
    simpa [Builtin.Tuple.tupleCompareSizes, hsz] using hR
  case h =>
    exact ⟨rfl, 0, rfl, Nat.zero_le _, h0⟩
end
section
variable {prog : Program} {w : World} {A : Around} {E : Value → Shared → Prop} {s : Shared}
theorem rc_neTupG {l b : Addr} {items items2 : Array Value} {Q : Value → Shared → Prop} (hsz : items.size = items2.size) (hu : A.units < cLine) (I : Nat → Shared → Prop)
    (hl : s.heap.IsTuple l items) (hb : s.heap.IsTuple b items2)
    (turn : ∀ i (h1 : i < items.size) (h2 : i < items2.size) s, I i s → wpAny (model prog w) A.in1 (eqBool items[i] items2[i]) (fun r s' => r = true ∧ I (i + 1) s') E s)
    (fin : ∀ s, I items.size s → Q (.bool false) s) (h : I 0 s) : wpAny (model prog w) A (richCompare .NotEq (.ref l) (.ref b)) Q E s := by
  obtain ⟨⟨cls, dd, data, sl⟩, ho, hc, n, hd⟩ := id hl
  obtain ⟨⟨cls2, dd2, data2, sl2⟩, ho2, hc2, n2, hd2⟩ := id hb
  simp only at hc hd hc2 hd2
  subst hc hd hc2 hd2
  refine wpAny_richCompare_same_room (op := .NotEq) ⟨_, ho, rfl⟩ ⟨_, ho2, rfl⟩ F.slot_tuple_ne (call_here F.slot_tuple_ne ⟨_, ho, rfl⟩ F.entry_tuple_ne (F.args_tuple_ne_2 _ _) ?_) hu
  exact tuple_neG (R := wants (fun v s' => v ≠ .notImplemented ∧ Q v s') E) l b items items2 n n2 dd dd2 sl sl2 hsz I turn (fun s' q => ⟨(fun x => nomatch x), fin s' q⟩) ho ho2 h
end
end GQ
namespace Q
open PySem PySem.Spec PyProof.Rows L2
section
variable {X : Cx} {n : Nat} {D : Eqv}
theorem op_neTG (hD : Mon D) (h : EqG X n D) (hr : Room (n + 1) X.A) : OpR X (compareOp .NotEq) (rNeG (DTup X.K D)) := by
  intro pins s σ H x y v u Q I rx ry hq
  obtain ⟨d, q⟩ := hq
  obtain ⟨a, b, xs, ys, rfl, rfl, ha, hb, p⟩ := d
  cases rx
  cases ry
  have sb : Sub X (n + 1) X.A := ⟨hr, rfl⟩
  obtain ⟨its, r, e, z⟩ := I.tuple ha
  obtain ⟨its2, r2, e2, z2⟩ := I.tuple hb
  have hsz : its.toArray.size = its2.toArray.size := by rw [List.size_toArray, List.size_toArray, ← r.length, ← r2.length]; exact p.1
  show wpAny (model X.prog X.w) X.A (richCompare .NotEq (.ref a) (.ref b)) (EP X pins σ Q) X.xe s
  refine GQ.rc_neTupG hsz sb.room.units0 (fun _ s' => LoopI X pins σ H s') e e2 (fun i h1 h2 s' q => turnG hD h sb p r r2 i h1 h2 s' q) (fun s' z => ?_) ⟨H, I, Ext.rfl'⟩
  obtain ⟨H1, I1, e1⟩ := z
  exact ⟨.bl false, H1, I1, rfl, q H1 e1⟩
/-- two empty dicts -/
def DEmp : Eqv := fun x y H => ∃ a b, x = .ref a ∧ y = .ref b ∧ H a = some (.dK []) ∧ H b = some (.dK [])
theorem mon_emp : Mon DEmp := fun x y H H' e ⟨a, b, h1, h2, h3, h4⟩ => ⟨a, b, h1, h2, e _ _ h3, e _ _ h4⟩
theorem rcG_emp : RcG X 0 DEmp := by
  intro A pins s σ H x y u v sb I rx ry d
  obtain ⟨a, b, rfl, rfl, ea, eb⟩ := d
  cases rx
  cases ry
  obtain ⟨_, ya, va, ra, da⟩ := (show ObjOk X.prog X.w H s.heap a (.dK []) from I.hok a _ ea)
  obtain ⟨_, yb, vb, rb, db⟩ := (show ObjOk X.prog X.w H s.heap b (.dK []) from I.hok b _ eb)
  have hl : va.length = vb.length := ra.length.symm.trans rb.length
  exact PySem.W.keq_eq (knd := mixKind X.prog X.w) (r := true) ya yb da db sb.room.units0 (fun _ => hits_all rb ra fun p hp => absurd hp List.not_mem_nil) (by simpa [hl] using (⟨H, I, Ext.rfl'⟩ : ∃ H', Inv X pins σ H' s ∧ Ext H H'))
theorem eqG_emp : EqG X 0 DEmp := rcG_emp.eqG fun _ _ _ d => let ⟨a, b, hx, hy, _⟩ := d; ⟨a, b, hx, hy⟩
end
section
variable {X : Cx} {CX : CXT} {B : Bs} {k : Nat} {f C : Addr} {fd : FuncData} {ps : List Str} {E : XK} {a b : Expr} {da db : DE} {pos : Pos} {sp : PSp}
def DNt (K : PySem.W.Frag) (C : Addr) (sp : PSp) : Eqv := fun x y H => DNq K C sp 3 x y H ∨ DEmp x y H
theorem ev_neT : ∀ σ H Q, teOf X.K B (dNeT C sp da db) σ H Q → tOp (rNeG (DTup X.K (DNt X.K C sp))) (teOf X.K B da) (teOf X.K B db) σ H Q := fun σ H Q ⟨F, pa, t, env, P, W, hd, kk⟩ =>
    ⟨F, pa, t, env, _, W, hd, fun v x F1 pa1 t1 H1 g1 W1 r1 q1 => ⟨F1, pa1, t1, env, _, W1, q1, fun u y F2 pa2 t2 H2 g2 W2 r2 q2 => by
      cases x with
      | tup l =>
        cases y with
        | tup m =>
          obtain ⟨rfl, hc, q2⟩ := q2
          have r1' := RelD.mono g2 _ _ r1
          unfold RelD at r1' r2
          obtain ⟨a, vs, rfl, e1, z1⟩ := r1'
          obtain ⟨b, us, rfl, e2, z2⟩ := r2
          refine ⟨⟨a, b, vs, us, rfl, rfl, .inl (.inl (W2.sub _ _ e1)), .inl (.inl (W2.sub _ _ e2)), prs_of (fun e he v u x y => ?_) z1 z2⟩, fun H' x => ?_⟩
          · rcases hc e he with h | h
            · exact .inl (okC_DNq W2 3 e v u h x y)
            · subst h
              unfold RelD at x y
              obtain ⟨a1, vs1, rfl, f1, _⟩ := x
              obtain ⟨a2, vs2, rfl, f2, _⟩ := y
              exact .inr ⟨a1, a2, rfl, rfl, W2.sub _ _ f1, W2.sub _ _ f2⟩
          · exact kk _ (.bl false) F2 pa2 t2 H' (g1.trans g2) (W2.ext x) (rD_bl _) q2
        | _ => exact q2.elim
      | _ => exact q2.elim⟩⟩
theorem q_tneT (F : FnOk X.prog X.w X.K X.mg X.base CX k f fd ps (lift X.K sp)) (hr : Room (k + 4) X.A) (m : Meth X.K C "__eq__" f) (hb : Binds X.K fd ps []) (hx : Passes CX X E) (ha : QE X B a da) (hb' : QE X B b db) (hm : behindInMarks .NotEq b = false) : QT X B (.Compare a [.NotEq] [b] pos) (dB (dNeT C sp da db)) :=
  PT.imp (pt_cmpR (op_neTG ((mon_DNq 3).or mon_emp) ((eqG_DNq (E := E) F m hb hx 3).or (eqG_emp.mono (Nat.zero_le _))) hr) ha hb' hm) fun σ H Q ⟨F, pa, t, env, P, W, hd, k⟩ => by
    refine ev_neT σ H _ ⟨F, pa, t, env, _, W, hd, fun v d F' pa' t' H' g W' rd q => ?_⟩
    cases d with
    | bl b => unfold RelD at rd; exact ⟨b, rd, k b F' pa' t' H' g W' q⟩
    | _ => exact q.elim
end
end Q
/-! QO38 -/
namespace Q
open PySem L2 PySem.Spec PyProof.Rows
section
variable {X : Cx}
def rMulS : R2 := fun x y H Q => ∃ a n, x = .str a ∧ y = .int n ∧ PySem.MulOk a n ∧ Q (.str (Txt.mul a n)) H
theorem op_mulS : OpR X (binaryOp .Mult) rMulS := by
  intro pins s σ H x y v u Q I rx ry h
  obtain ⟨a, n, rfl, rfl, hok, q⟩ := h
  obtain ⟨t1, rfl⟩ := rx
  obtain ⟨t2, rfl⟩ := ry
  exact SB.mul hok fun t' k => ⟨.str (Txt.mul a n), H, I.kept (t' := k) (h' := s.heap) (fun _ _ z => z), ⟨t', rfl⟩, q⟩
theorem mulS_ok {a : Str} {n : Int} (h1 : 1 ≤ n) (h2 : n ≤ 1000000) (ha : a.length ≤ 1) : PySem.MulOk a n := by
  refine ⟨by rw [decide_eq_false (by omega), decide_eq_false (by omega)]; rfl, fun _ _ => ?_, fun _ _ => ?_⟩
  · have : (1 : Int) ≤ (2 ^ 63 - 1) / n := by
      refine (Int.le_ediv_iff_mul_le (by omega)).mpr ?_
      omega
    omega
  · have h3 : a.length * n.toNat ≤ 1 * n.toNat := Nat.mul_le_mul_right _ ha
    show decide (a.length * n.toNat > PySem.sizeLine) = false
    refine decide_eq_false ?_
    have : PySem.sizeLine = 16777216 := by decide
    omega
theorem rop_mulS {K : PySem.W.Frag} : ROp K rMulS oMulS := fun B F pa t env σ H x y v u P Q W rx ry h k => by
  cases x with
  | str i =>
    cases y with
    | int j => exact ⟨i, j, rx.str W, ry.int W, mulS_ok h.1.1 h.1.2.1 h.1.2.2, k _ _ F H (Gr.refl _ _) W (rD_str _) h.2⟩
    | _ => exact h.elim
  | _ => exact h.elim
end
end Q
/-! T_k89 -/
namespace L_k89
open PySem L2 PyProof.Rows Q
def top (i : Nat) : Stmt := PySem.Challenge.pw_askback_k89_texts_of_no_house_and_no_say.main.body.getD i (.Pass ⟨0, 0, 0, 0⟩)
abbrev s__law_draw : Stmt := top 25
abbrev N__law_draw : List Str := ["_law_pen_here", "_law_many", "_law_at", "_law_cell", "_law_number_here", "_law_rounds", "_law_digit"]
abbrev s__law_number_3 : Stmt := top 27
abbrev N__law_number_3 : List Str := ["_law_word", "_law_sign"]
abbrev s__law_house_in_2 : Stmt := top 29
abbrev N__law_house_in_2 : List Str := ["_law_words", "_law_numbers", "_law_word"]
abbrev s__law_pen : Stmt := top 24
abbrev N__law_pen : List Str := ["_law_script", "_law_most", "_law_cell"]
abbrev s__law_beginning : Stmt := top 26
abbrev N__law_beginning : List Str := ["_law_pen_here", "_law_base", "_law_most", "_law_k"]
abbrev s__law_row_4 : Stmt := top 32
abbrev N__law_row_4 : List Str := ["_law_pen_here", "_law_base", "_law_bound", "_law_many"]
abbrev s__law_saying_in : Stmt := top 28
abbrev N__law_saying_in : List Str := ["_law_words", "_law_spot", "_law_number_here"]
abbrev s__law_spoilt_2 : Stmt := top 30
abbrev N__law_spoilt_2 : List Str := ["_law_pen_here", "_law_row_here", "_law_other", "_law_some", "_law_words", "_law_at", "_law_spot", "_law_signs"]
abbrev s__law_told : Stmt := top 31
abbrev N__law_told : List Str := ["_law_deed", "_law_wrong", "_law_found", "e"]
abbrev s_figures_of : Stmt := top 19
abbrev N_figures_of : List Str := ["word", "sign"]
abbrev s_is_whole : Stmt := top 7
abbrev N_is_whole : List Str := ["thing"]
abbrev s_is_base : Stmt := top 9
abbrev N_is_base : List Str := ["thing"]
abbrev s_is_count : Stmt := top 8
abbrev N_is_count : List Str := ["thing"]
abbrev s_is_listing : Stmt := top 10
abbrev N_is_listing : List Str := ["thing"]
abbrev s_is_beginning : Stmt := top 12
abbrev N_is_beginning : List Str := ["base", "thing", "many"]
abbrev s_BadHouse___init__ : Stmt := inClass (top 2) 0
abbrev N_BadHouse___init__ : List Str := ["self", "part"]
abbrev s_House___init__ : Stmt := inClass (top 13) 0
abbrev N_House___init__ : List Str := ["self", "k", "beginning", "many"]
abbrev s_Unread___init__ : Stmt := inClass (top 3) 0
abbrev N_Unread___init__ : List Str := ["self", "row"]
abbrev s_read_house_3 : Stmt := top 20
abbrev N_read_house_3 : List Str := ["text", "words", "numbers", "word"]
abbrev s_is_saying_a : Stmt := top 15
abbrev N_is_saying_a : List Str := ["thing"]
abbrev s_saying_of_2 : Stmt := top 21
abbrev N_saying_of_2 : List Str := ["words", "saying", "place", "number"]
abbrev s_read_saying_3 : Stmt := top 22
abbrev N_read_saying_3 : List Str := ["text", "saying"]
abbrev s_House_base : Stmt := inClass (top 13) 2
abbrev N_House_base : List Str := ["self"]
abbrev s_House_beginning : Stmt := inClass (top 13) 3
abbrev N_House_beginning : List Str := ["self"]
abbrev s_House___eq__ : Stmt := inClass (top 13) 1
abbrev N_House___eq__ : List Str := ["self", "other"]
abbrev s_law : Stmt := top 33
abbrev N_law : List Str := ["_law_script", "_law_pen_here", "_law_turn", "_law_thing", "_law_row_here", "_law_words", "_law_told_here", "_law_due", "_law_saying"]
def xcl (a_BadHouse a_Unread : Addr) : XCl := fun c => match c with
  | .BadHouse => some (a_BadHouse, some "part")
  | .Unread => some (a_Unread, some "row")
  | _ => none
structure Tx (K : PySem.W.Frag) (mg : Str → Option Value) (a__law_draw a__law_number_3 a__law_house_in_2 a__law_pen a__law_beginning a__law_row_4 a__law_saying_in a__law_spoilt_2 a__law_told a_figures_of a_is_whole a_is_base a_is_count a_is_listing a_is_beginning a_BadHouse___init__ a_House___init__ a_Unread___init__ a_read_house_3 a_is_saying_a a_saying_of_2 a_read_saying_3 a_House_base a_House_beginning a_House___eq__ a_law a_House a_BadHouse a_Unread : Addr) (tk_FIGURES tk_LEAST_BASE tk_MOST_BASE tk_MOST_FIGURES : Tok) : Prop where
  b_ValueError : mg "ValueError" = none
  b_abs : mg "abs" = none
  b_all : mg "all" = none
  b_bool : mg "bool" = none
  b_int : mg "int" = none
  b_isinstance : mg "isinstance" = none
  b_len : mg "len" = none
  b_list : mg "list" = none
  b_min : mg "min" = none
  b_range : mg "range" = none
  b_str : mg "str" = none
  b_tuple : mg "tuple" = none
  c_FIGURES : mg "FIGURES" = some (Value.str "0123456789" tk_FIGURES)
  c_LEAST_BASE : mg "LEAST_BASE" = some (Value.int 2 tk_LEAST_BASE)
  c_MOST_BASE : mg "MOST_BASE" = some (Value.int 30 tk_MOST_BASE)
  c_MOST_FIGURES : mg "MOST_FIGURES" = some (Value.int 200 tk_MOST_FIGURES)
  g__law_draw : mg "_law_draw" = some (.ref a__law_draw)
  k__law_draw : PySem.W.keepIn K (.ref a__law_draw) = true
  g__law_number_3 : mg "_law_number" = some (.ref a__law_number_3)
  k__law_number_3 : PySem.W.keepIn K (.ref a__law_number_3) = true
  g__law_house_in_2 : mg "_law_house_in" = some (.ref a__law_house_in_2)
  k__law_house_in_2 : PySem.W.keepIn K (.ref a__law_house_in_2) = true
  g__law_pen : mg "_law_pen" = some (.ref a__law_pen)
  k__law_pen : PySem.W.keepIn K (.ref a__law_pen) = true
  g__law_beginning : mg "_law_beginning" = some (.ref a__law_beginning)
  k__law_beginning : PySem.W.keepIn K (.ref a__law_beginning) = true
  g__law_row_4 : mg "_law_row" = some (.ref a__law_row_4)
  k__law_row_4 : PySem.W.keepIn K (.ref a__law_row_4) = true
  g__law_saying_in : mg "_law_saying_in" = some (.ref a__law_saying_in)
  k__law_saying_in : PySem.W.keepIn K (.ref a__law_saying_in) = true
  g__law_spoilt_2 : mg "_law_spoilt" = some (.ref a__law_spoilt_2)
  k__law_spoilt_2 : PySem.W.keepIn K (.ref a__law_spoilt_2) = true
  g__law_told : mg "_law_told" = some (.ref a__law_told)
  k__law_told : PySem.W.keepIn K (.ref a__law_told) = true
  g_figures_of : mg "figures_of" = some (.ref a_figures_of)
  k_figures_of : PySem.W.keepIn K (.ref a_figures_of) = true
  g_is_whole : mg "is_whole" = some (.ref a_is_whole)
  k_is_whole : PySem.W.keepIn K (.ref a_is_whole) = true
  g_is_base : mg "is_base" = some (.ref a_is_base)
  k_is_base : PySem.W.keepIn K (.ref a_is_base) = true
  g_is_count : mg "is_count" = some (.ref a_is_count)
  k_is_count : PySem.W.keepIn K (.ref a_is_count) = true
  g_is_listing : mg "is_listing" = some (.ref a_is_listing)
  k_is_listing : PySem.W.keepIn K (.ref a_is_listing) = true
  g_is_beginning : mg "is_beginning" = some (.ref a_is_beginning)
  k_is_beginning : PySem.W.keepIn K (.ref a_is_beginning) = true
  g_read_house_3 : mg "read_house" = some (.ref a_read_house_3)
  k_read_house_3 : PySem.W.keepIn K (.ref a_read_house_3) = true
  g_is_saying_a : mg "is_saying" = some (.ref a_is_saying_a)
  k_is_saying_a : PySem.W.keepIn K (.ref a_is_saying_a) = true
  g_saying_of_2 : mg "saying_of" = some (.ref a_saying_of_2)
  k_saying_of_2 : PySem.W.keepIn K (.ref a_saying_of_2) = true
  g_read_saying_3 : mg "read_saying" = some (.ref a_read_saying_3)
  k_read_saying_3 : PySem.W.keepIn K (.ref a_read_saying_3) = true
  g_law : mg "law" = some (.ref a_law)
  k_law : PySem.W.keepIn K (.ref a_law) = true
  g_House : mg "House" = some (.ref a_House)
  cl_House : Cls K a_House
  n_House_kept_base : NoAttr K a_House "kept_base"
  n_House_kept_beginning : NoAttr K a_House "kept_beginning"
  n_House_sums : NoAttr K a_House "sums"
  m_House_base : Meth K a_House "base" a_House_base
  m_House_beginning : Meth K a_House "beginning" a_House_beginning
  m_House___eq__ : Meth K a_House "__eq__" a_House___eq__
  mk_House : Mk K a_House a_House___init__
  g_BadHouse : mg "BadHouse" = some (.ref a_BadHouse)
  fx_BadHouse : FxC K a_BadHouse "ValueError.__new__" vaTail
  in_BadHouse : PySem.W.findIn K (.ref a_BadHouse) "__init__" = some (some (.ref a_BadHouse___init__))
  ty_BadHouse : PySem.W.typeIn K (.ref a_BadHouse___init__) = some (.type "function")
  no_BadHouse : PySem.W.findIn K (.ref a_BadHouse) "part" = some none
  te_BadHouse : PySem.W.exmOne K (.ref a_BadHouse) (.ref a_BadHouse) = some true
  kt_BadHouse : PySem.W.kitOne K (.ref a_BadHouse) (.type "ValueError") = some true
  ex_BadHouse : ExcC K a_BadHouse
  g_Unread : mg "Unread" = some (.ref a_Unread)
  fx_Unread : FxC K a_Unread "ValueError.__new__" vaTail
  in_Unread : PySem.W.findIn K (.ref a_Unread) "__init__" = some (some (.ref a_Unread___init__))
  ty_Unread : PySem.W.typeIn K (.ref a_Unread___init__) = some (.type "function")
  no_Unread : PySem.W.findIn K (.ref a_Unread) "row" = some none
  te_Unread : PySem.W.exmOne K (.ref a_Unread) (.ref a_Unread) = some true
  kt_Unread : PySem.W.kitOne K (.ref a_Unread) (.type "ValueError") = some true
  ex_Unread : ExcC K a_Unread
  tx_BadHouse : ∀ c C fl, (xcl a_BadHouse a_Unread) c = some (C, fl) → PySem.W.exmOne K (.ref C) (.ref a_BadHouse) = some (Xn.is c .BadHouse)
  tx_Unread : ∀ c C fl, (xcl a_BadHouse a_Unread) c = some (C, fl) → PySem.W.exmOne K (.ref C) (.ref a_Unread) = some (Xn.is c .Unread)
  ki_Unread_ValueError : PySem.W.kitOne K (.ref a_Unread) (.type "ValueError") = some true
  vF_ValueError : PySem.W.findCls K (.type "ValueError") (.type "type") "__init__" = some (.val (.builtin "ValueError.__init__"))
  i_House : C8.InsC K a_House
section
variable {P : Program} {w : World} {K : PySem.W.Frag} {mg : Str → Option Value} {base : Heap} {a__law_draw a__law_number_3 a__law_house_in_2 a__law_pen a__law_beginning a__law_row_4 a__law_saying_in a__law_spoilt_2 a__law_told a_figures_of a_is_whole a_is_base a_is_count a_is_listing a_is_beginning a_BadHouse___init__ a_House___init__ a_Unread___init__ a_read_house_3 a_is_saying_a a_saying_of_2 a_read_saying_3 a_House_base a_House_beginning a_House___eq__ a_law a_House a_BadHouse a_Unread : Addr} {tk_FIGURES tk_LEAST_BASE tk_MOST_BASE tk_MOST_FIGURES : Tok}
theorem sc__law_draw : FnScope N__law_draw ["_law_pen_here", "_law_many"] (defScope s__law_draw) := ⟨rfl, rfl, rfl, by decide +kernel, rfl, by decide +kernel, by decide +kernel⟩
theorem ok__law_draw {fd : FuncData} (F : Fun K "_law_draw" "_law_draw" s__law_draw a__law_draw fd) (T : Tx K mg a__law_draw a__law_number_3 a__law_house_in_2 a__law_pen a__law_beginning a__law_row_4 a__law_saying_in a__law_spoilt_2 a__law_told a_figures_of a_is_whole a_is_base a_is_count a_is_listing a_is_beginning a_BadHouse___init__ a_House___init__ a_Unread___init__ a_read_house_3 a_is_saying_a a_saying_of_2 a_read_saying_3 a_House_base a_House_beginning a_House___eq__ a_law a_House a_BadHouse a_Unread tk_FIGURES tk_LEAST_BASE tk_MOST_BASE tk_MOST_FIGURES) : FnOk P w K mg base CX0 1 a__law_draw fd ["_law_pen_here", "_law_many"] (lift K (sp__law_draw)) := by
  refine fn_ok (ds := d__law_draw) F sc__law_draw (len__law_draw) (fun cdv A outer s H E B hr hB hm => ?_) (d__law_draw_ok)
  exact (q_cons (q_if (q_tcmp op_gt rop_gt (toV (q_penL (b := false) (hu_of hr) (toV (q_var (pv 0))) (by rfl) (fun _ _ => rfl))) (toV q_int) (nomark _)) (q_cons (q_set (i := 6) sc__law_draw.nd rfl (Or.inl rfl) (q_op op_mod rop_mod (toV (q_penL (b := false) (hu_of hr) (toV (q_var (pv 0))) (by rfl) (fun _ _ => rfl))) (toV (q_var (pv 1))))) (q_cons (q_putL (b := false) (i := 0) (hu_of hr) (pv 0) (q_op op_fdivW rop_div (toV (q_penL (b := false) (hu_of hr) (toV (q_var (pv 0))) (by rfl) (fun _ _ => rfl))) (toV (q_var (pv 1)))) (by rfl)) (q_cons (q_ret hm (q_var (pv 6))) q_nil))) q_nil) (q_cons (q_set (i := 2) sc__law_draw.nd rfl (Or.inl rfl) (q_penA (b := false) (hu_of hr) (toV (q_var (pv 0))) (by rfl) (fun _ _ => rfl))) (q_cons (q_putA (b := false) (i := 0) (hu_of hr) (pv 0) (q_op op_add4 rop_add (toV (q_var (pv 2))) (toV q_int)) (by rfl)) (q_cons (q_set (i := 3) sc__law_draw.nd rfl (Or.inl rfl) (q_op op_add4 rop_add (toV (q_op op_mul3 rop_mul (toV (q_var (pv 2))) (toV (q_var (pv 2))))) (toV q_int))) (q_cons (q_if (q_tcmp (op_neD hr.units) rop_ne (toV (q_penC (hu_of hr) (toV (q_var (pv 0))) (fun _ _ => rfl))) (toV (toE (q_lst q_anil))) (nomark _)) (q_cons (q_set (i := 3) sc__law_draw.nd rfl (Or.inl rfl) (q_ix (toV (q_penC (hu_of hr) (toV (q_var (pv 0))) (fun _ _ => rfl))) (toV (q_op op_mod rop_mod (toV (q_var (pv 2))) (toV (q_callB call_len3 rc_len (by rfl) T.b_len (by decide +kernel) (q_xcons (toV (q_penC (hu_of hr) (toV (q_var (pv 0))) (fun _ _ => rfl))) q_xnil))))) (fun _ _ => rfl))) q_nil) q_nil) (q_cons (q_if (L2.PW.pt (q_and (q_tcmp op_lt rop_lt (toV (q_var (pv 2))) (toV (q_callB call_len3 rc_len (by rfl) T.b_len (by decide +kernel) (q_xcons (toV (q_penC (hu_of hr) (toV (q_var (pv 0))) (fun _ _ => rfl))) q_xnil))) (nomark _)) (q_and1 (q_tcmp op_ge rop_ge (toV (q_var (pv 3))) (toV (q_op op_powW rop_pow (toV q_int) (toV q_int))) (nomark _))))) (q_cons (q_putL (b := false) (i := 0) (hu_of hr) (pv 0) (q_op op_fdivW rop_div (toV (q_var (pv 3))) (toV (q_var (pv 1)))) (by rfl)) (q_cons (q_ret hm (q_op op_mod rop_mod (toV (q_var (pv 3))) (toV (q_var (pv 1))))) q_nil)) q_nil) (q_cons (q_set (i := 4) sc__law_draw.nd rfl (Or.inl rfl) (q_op op_mod rop_mod (toV (q_op op_mul3 rop_mul (toV (q_op op_add4 rop_add (toV (q_op op_add4 rop_add (toV (q_op op_mod rop_mod (toV (q_var (pv 3))) (toV q_int))) (toV (q_op op_mul3 rop_mul (toV q_int) (toV (q_var (pv 2))))))) (toV q_int))) (toV q_int))) (toV q_int))) (q_cons (q_for PassesOwn.never rfl (q_irng1 (by rfl) T.b_range (toV q_int)) (q_gname (vs := [5]) (pg_name (i := 5) sc__law_draw.nd rfl (Or.inl rfl)) (by decide)) (q_cons (q_set (i := 4) sc__law_draw.nd rfl (Or.inl rfl) (q_op op_add4 rop_add (toV (q_op op_add4 rop_add (toV (q_op op_add4 rop_add (toV (q_op op_mul3 rop_mul (toV (q_var (pv 4))) (toV (q_var (pv 4))))) (toV (q_op op_mul3 rop_mul (toV q_int) (toV (q_var (pv 4))))))) (toV (q_var (pv 2))))) (toV (q_var (pv 5))))) (q_cons (q_set (i := 4) sc__law_draw.nd rfl (Or.inl rfl) (q_op op_mod rop_mod (toV (q_var (pv 4))) (toV q_int))) q_nil))) (q_cons (q_ret hm (q_op op_mod rop_mod (toV (q_op op_fdivW rop_div (toV (q_var (pv 4))) (toV q_int))) (toV (q_var (pv 1))))) q_nil)))))))))
theorem sc__law_number_3 : FnScope N__law_number_3 ["_law_word"] (defScope s__law_number_3) := ⟨rfl, rfl, rfl, by decide +kernel, rfl, by decide +kernel, by decide +kernel⟩
theorem ok__law_number_3 {fd : FuncData} (F : Fun K "_law_number" "_law_number" s__law_number_3 a__law_number_3 fd) (T : Tx K mg a__law_draw a__law_number_3 a__law_house_in_2 a__law_pen a__law_beginning a__law_row_4 a__law_saying_in a__law_spoilt_2 a__law_told a_figures_of a_is_whole a_is_base a_is_count a_is_listing a_is_beginning a_BadHouse___init__ a_House___init__ a_Unread___init__ a_read_house_3 a_is_saying_a a_saying_of_2 a_read_saying_3 a_House_base a_House_beginning a_House___eq__ a_law a_House a_BadHouse a_Unread tk_FIGURES tk_LEAST_BASE tk_MOST_BASE tk_MOST_FIGURES) : FnOk P w K mg base CX0 1 a__law_number_3 fd ["_law_word"] (lift K (sp__law_number_3)) := by
  refine fn_ok (ds := d__law_number_3) F sc__law_number_3 (len__law_number_3) (fun cdv A outer s H E B hr hB hm => ?_) (d__law_number_3_ok)
  exact (q_cons (q_if (L2.PW.pt (q_or (q_tcmp (op_eqD hr.units) rop_eq (toV (q_var (pv 0))) (toV q_str) (nomark _)) (q_or (q_tcmp op_gt rop_gt (toV (q_callB call_len3 rc_len (by rfl) T.b_len (by decide +kernel) (q_xcons (toV (q_var (pv 0))) q_xnil))) (toV q_int) (nomark _)) (q_or1 (q_tcmp (op_neD hr.units) rop_ne (toV (toE (q_lc (own := [("_law_sign", 1)]) rfl sc__law_number_3.nd (q_istr (q_var (pv 0))) (blkOk_by (N := N__law_number_3) (sc := defScope s__law_number_3) (own := [("_law_sign", 1)]) (by decide +kernel)) (fun _ _ _ _ _ B => (q_gname (vs := [1]) (pg_name (i := 1) sc__law_number_3.nd rfl (Or.inl rfl)) (by decide))) (fun _ _ _ _ _ => pts_U1 fun B => (q_tcmp op_notInS rop_notInS (toV (q_var (pv 1))) (toV q_str) rfl)) (fun _ _ _ _ _ B => (q_var (pv 1)))))) (toV (toE (q_lst q_anil))) (nomark _)))))) (q_cons (q_ret hm q_non) q_nil) q_nil) (q_cons (q_ret hm (q_ifE (L2.PW.pt (q_and (q_tcmp (op_eqD hr.units) rop_eq (toV (q_ixS (toV (q_var (pv 0))) (toV q_int) (fun _ _ => rfl))) (toV q_str) (nomark _)) (q_and1 (q_tcmp (op_neD hr.units) rop_ne (toV (q_var (pv 0))) (toV q_str) (nomark _))))) q_non (q_callTy call_int_str rc_intT (by rfl) T.b_int (by decide +kernel) (q_xcons (toV (q_var (pv 0))) q_xnil)))) q_nil))
theorem sc__law_house_in_2 : FnScope N__law_house_in_2 ["_law_words"] (defScope s__law_house_in_2) := ⟨rfl, rfl, rfl, by decide +kernel, rfl, by decide +kernel, by decide +kernel⟩
theorem ok__law_house_in_2 {fd fd__law_number_3 : FuncData} (F : Fun K "_law_house_in" "_law_house_in" s__law_house_in_2 a__law_house_in_2 fd) (T : Tx K mg a__law_draw a__law_number_3 a__law_house_in_2 a__law_pen a__law_beginning a__law_row_4 a__law_saying_in a__law_spoilt_2 a__law_told a_figures_of a_is_whole a_is_base a_is_count a_is_listing a_is_beginning a_BadHouse___init__ a_House___init__ a_Unread___init__ a_read_house_3 a_is_saying_a a_saying_of_2 a_read_saying_3 a_House_base a_House_beginning a_House___eq__ a_law a_House a_BadHouse a_Unread tk_FIGURES tk_LEAST_BASE tk_MOST_BASE tk_MOST_FIGURES) (G__law_number_3 : FnOk P w K mg base CX0 1 a__law_number_3 fd__law_number_3 ["_law_word"] (lift K (sp__law_number_3))) (b__law_number_3 : Binds K fd__law_number_3 ["_law_word"] []) : FnOk P w K mg base CX0 2 a__law_house_in_2 fd ["_law_words"] (lift K (sp__law_house_in_2)) := by
  refine fn_ok (ds := d__law_house_in_2) F sc__law_house_in_2 (len__law_house_in_2) (fun cdv A outer s H E B hr hB hm => ?_) (d__law_house_in_2_ok)
  exact (q_cons (q_setLc (i := 1) (own := [("_law_word", 2)]) rfl sc__law_house_in_2.nd rfl rfl (sw_true rfl rfl rfl (by decide +kernel)) (q_iany (q_var (pv 0))) (blkOk_by (N := N__law_house_in_2) (sc := defScope s__law_house_in_2) (own := [("_law_word", 2)]) (by decide +kernel)) (fun _ _ _ _ _ B => (q_gname (vs := [2]) (pg_name (i := 2) sc__law_house_in_2.nd rfl (Or.inl rfl)) (by decide))) (fun _ _ _ _ _ => pts_U0) (fun _ _ _ _ _ B => (q_call G__law_number_3 (hr.mono (by decide)) rfl T.g__law_number_3 T.k__law_number_3 b__law_number_3 .nil (fun _ _ => RelL.nil) pass0 (q_acons (q_var (pv 2)) q_anil)))) (q_cons (q_if (L2.PW.pt (q_or (q_tcmp op_lt rop_lt (toV (q_callB call_len3 rc_len (by rfl) T.b_len (by decide +kernel) (q_xcons (toV (q_var (pv 0))) q_xnil))) (toV q_int) (nomark _)) (q_or (q_tcmp (op_neD hr.units) rop_ne (toV (q_ix (toV (q_var (pv 0))) (toV q_int) (fun _ _ => rfl))) (toV q_str) (nomark _)) (q_or1 (q_tcmp (op_inD (units65 hr)) rop_inDL (toV q_non) (toV (q_op op_add4 rop_add (toV (q_slice (toV (q_var (pv 1))) q_onone (q_osome (toV q_int)))) (toV (q_slice (toV (q_var (pv 1))) (q_osome (toV q_int)) q_onone)))) rfl))))) (q_cons (q_ret hm q_non) q_nil) q_nil) (q_cons (q_if (L2.PW.pt (q_or (q_not (q_tchain op_le rop_le op_le rop_le (toV q_int) (toV (q_ix (toV (q_var (pv 1))) (toV q_int) (fun _ _ => rfl))) (toV q_int))) (q_or (q_tcmp (op_neD hr.units) rop_ne (toV (q_callB call_len3 rc_len (by rfl) T.b_len (by decide +kernel) (q_xcons (toV (q_var (pv 0))) q_xnil))) (toV (q_op op_add4 rop_add (toV (q_ix (toV (q_var (pv 1))) (toV q_int) (fun _ _ => rfl))) (toV q_int))) (nomark _)) (q_or1 (q_tcmp op_lt rop_lt (toV (q_callB (call_min3 rfl) rc_min (by rfl) T.b_min (by decide +kernel) (q_xcons (toV (q_slice (toV (q_var (pv 1))) (q_osome (toV q_int)) q_onone)) q_xnil))) (toV q_int) (nomark _)))))) (q_cons (q_ret hm q_non) q_nil) q_nil) (q_cons (q_ret hm (q_tup (q_acons (q_ix (toV (q_var (pv 1))) (toV q_int) (fun _ _ => rfl)) (q_acons (q_slice (toV (q_var (pv 1))) (q_osome (toV q_int)) q_onone) q_anil)))) q_nil))))
theorem sc__law_pen : FnScope N__law_pen ["_law_script"] (defScope s__law_pen) := ⟨rfl, rfl, rfl, by decide +kernel, rfl, by decide +kernel, by decide +kernel⟩
theorem ok__law_pen {fd : FuncData} (F : Fun K "_law_pen" "_law_pen" s__law_pen a__law_pen fd) (T : Tx K mg a__law_draw a__law_number_3 a__law_house_in_2 a__law_pen a__law_beginning a__law_row_4 a__law_saying_in a__law_spoilt_2 a__law_told a_figures_of a_is_whole a_is_base a_is_count a_is_listing a_is_beginning a_BadHouse___init__ a_House___init__ a_Unread___init__ a_read_house_3 a_is_saying_a a_saying_of_2 a_read_saying_3 a_House_base a_House_beginning a_House___eq__ a_law a_House a_BadHouse a_Unread tk_FIGURES tk_LEAST_BASE tk_MOST_BASE tk_MOST_FIGURES) : FnOk P w K mg base CX0 1 a__law_pen fd ["_law_script"] (liftN K (sp__law_pen)) := by
  refine fn_okN (ds := d__law_pen) F sc__law_pen (len__law_pen) (fun cdv A outer s H E B hr hB hm => ?_) (d__law_pen_ok)
  exact (q_cons (q_set (i := 1) sc__law_pen.nd rfl (Or.inr rfl) (q_op op_powW rop_pow (toV (q_op op_powW rop_pow (toV q_int) (toV q_int))) (toV q_int))) (q_cons (q_retNew hm (q_disp (q_pcons (fun B => (toE (q_lc (own := [("_law_cell", 2)]) rfl sc__law_pen.nd (q_iany (q_slice (toV (q_var (pv 0))) q_onone (q_osome (toV q_int)))) (blkOk_by (N := N__law_pen) (sc := defScope s__law_pen) (own := [("_law_cell", 2)]) (by decide +kernel)) (fun _ _ _ _ _ B => (q_gname (vs := [2]) (pg_name (i := 2) sc__law_pen.nd rfl (Or.inl rfl)) (by decide))) (fun _ _ _ _ _ => pts_U0) (fun _ _ _ _ _ B => (q_ifE (q_tcmp op_ge rop_ge (toV (q_callB call_abs rc_abs (by rfl) T.b_abs (by decide +kernel) (q_xcons (toV (q_var (pv 2))) q_xnil))) (toV (q_op op_powW rop_pow (toV q_int) (toV q_int))) (nomark _)) (q_op op_mod rop_mod (toV (q_callB call_abs rc_abs (by rfl) T.b_abs (by decide +kernel) (q_xcons (toV (q_var (pv 2))) q_xnil))) (toV (q_var (pv 1)))) (q_var (pv 2))))))) (q_pcons (fun B => q_int) (q_pcons (fun B => q_int) q_pnil))) (by decide +kernel) (by decide))) q_nil))
theorem sc__law_beginning : FnScope N__law_beginning ["_law_pen_here", "_law_base", "_law_most"] (defScope s__law_beginning) := ⟨rfl, rfl, rfl, by decide +kernel, rfl, by decide +kernel, by decide +kernel⟩
theorem ok__law_beginning {fd fd__law_draw : FuncData} (F : Fun K "_law_beginning" "_law_beginning" s__law_beginning a__law_beginning fd) (T : Tx K mg a__law_draw a__law_number_3 a__law_house_in_2 a__law_pen a__law_beginning a__law_row_4 a__law_saying_in a__law_spoilt_2 a__law_told a_figures_of a_is_whole a_is_base a_is_count a_is_listing a_is_beginning a_BadHouse___init__ a_House___init__ a_Unread___init__ a_read_house_3 a_is_saying_a a_saying_of_2 a_read_saying_3 a_House_base a_House_beginning a_House___eq__ a_law a_House a_BadHouse a_Unread tk_FIGURES tk_LEAST_BASE tk_MOST_BASE tk_MOST_FIGURES) (G__law_draw : FnOk P w K mg base CX0 1 a__law_draw fd__law_draw ["_law_pen_here", "_law_many"] (lift K (sp__law_draw))) (b__law_draw : Binds K fd__law_draw ["_law_pen_here", "_law_many"] []) : FnOk P w K mg base CX0 2 a__law_beginning fd ["_law_pen_here", "_law_base", "_law_most"] (lift K (sp__law_beginning)) := by
  refine fn_ok (ds := d__law_beginning) F sc__law_beginning (len__law_beginning) (fun cdv A outer s H E B hr hB hm => ?_) (d__law_beginning_ok)
  exact (q_cons (q_ret hm (toE (q_lc (own := [("_law_k", 3)]) rfl sc__law_beginning.nd (q_irng1 (by rfl) T.b_range (toV (q_op op_sub rop_sub (toV (q_var (pv 1))) (toV q_int)))) (blkOk_by (N := N__law_beginning) (sc := defScope s__law_beginning) (own := [("_law_k", 3)]) (by decide +kernel)) (fun _ _ _ _ _ B => (q_gname (vs := [3]) (pg_name (i := 3) sc__law_beginning.nd rfl (Or.inl rfl)) (by decide))) (fun _ _ _ _ _ => pts_U0) (fun _ _ _ _ _ B => (q_op op_add4 rop_add (toV q_int) (toV (q_ix (toV (toE (q_lst (q_acons q_int (q_acons (q_call G__law_draw (hr.mono (by decide)) rfl T.g__law_draw T.k__law_draw b__law_draw .nil (fun _ _ => RelL.nil) pass0 (q_acons (q_var (pv 0)) (q_acons q_int q_anil))) (q_acons (q_call G__law_draw (hr.mono (by decide)) rfl T.g__law_draw T.k__law_draw b__law_draw .nil (fun _ _ => RelL.nil) pass0 (q_acons (q_var (pv 0)) (q_acons (q_var (pv 2)) q_anil))) q_anil)))))) (toV (q_call G__law_draw (hr.mono (by decide)) rfl T.g__law_draw T.k__law_draw b__law_draw .nil (fun _ _ => RelL.nil) pass0 (q_acons (q_var (pv 0)) (q_acons q_int q_anil)))) (fun _ _ => rfl)))))))) q_nil)
theorem sc__law_row_4 : FnScope N__law_row_4 ["_law_pen_here"] (defScope s__law_row_4) := ⟨rfl, rfl, rfl, by decide +kernel, rfl, by decide +kernel, by decide +kernel⟩
theorem ok__law_row_4 {fd fd__law_beginning fd__law_draw : FuncData} (F : Fun K "_law_row" "_law_row" s__law_row_4 a__law_row_4 fd) (T : Tx K mg a__law_draw a__law_number_3 a__law_house_in_2 a__law_pen a__law_beginning a__law_row_4 a__law_saying_in a__law_spoilt_2 a__law_told a_figures_of a_is_whole a_is_base a_is_count a_is_listing a_is_beginning a_BadHouse___init__ a_House___init__ a_Unread___init__ a_read_house_3 a_is_saying_a a_saying_of_2 a_read_saying_3 a_House_base a_House_beginning a_House___eq__ a_law a_House a_BadHouse a_Unread tk_FIGURES tk_LEAST_BASE tk_MOST_BASE tk_MOST_FIGURES) (G__law_beginning : FnOk P w K mg base CX0 2 a__law_beginning fd__law_beginning ["_law_pen_here", "_law_base", "_law_most"] (lift K (sp__law_beginning))) (b__law_beginning : Binds K fd__law_beginning ["_law_pen_here", "_law_base", "_law_most"] []) (G__law_draw : FnOk P w K mg base CX0 1 a__law_draw fd__law_draw ["_law_pen_here", "_law_many"] (lift K (sp__law_draw))) (b__law_draw : Binds K fd__law_draw ["_law_pen_here", "_law_many"] []) : FnOk P w K mg base CX0 3 a__law_row_4 fd ["_law_pen_here"] (lift K (sp__law_row_4)) := by
  refine fn_ok (ds := d__law_row_4) F sc__law_row_4 (len__law_row_4) (fun cdv A outer s H E B hr hB hm => ?_) (d__law_row_4_ok)
  exact (q_cons (q_if (q_tcmp (op_eqD hr.units) rop_eq (toV (q_call G__law_draw (hr.mono (by decide)) rfl T.g__law_draw T.k__law_draw b__law_draw .nil (fun _ _ => RelL.nil) pass0 (q_acons (q_var (pv 0)) (q_acons q_int q_anil)))) (toV q_int) (nomark _)) (q_cons (q_set (i := 2) sc__law_row_4.nd rfl (Or.inl rfl) (q_ix (toV (toE (q_lst (q_acons q_str (q_acons q_str q_anil))))) (toV (q_call G__law_draw (hr.mono (by decide)) rfl T.g__law_draw T.k__law_draw b__law_draw .nil (fun _ _ => RelL.nil) pass0 (q_acons (q_var (pv 0)) (q_acons q_int q_anil)))) (fun _ _ => rfl))) (q_cons (q_ret hm (q_op op_add4 rop_add (toV (q_op op_add4 rop_add (toV (q_callTy call_str_int rc_str (by rfl) T.b_str (by decide +kernel) (q_xcons (toV (q_op op_add4 rop_add (toV q_int) (toV (q_call G__law_draw (hr.mono (by decide)) rfl T.g__law_draw T.k__law_draw b__law_draw .nil (fun _ _ => RelL.nil) pass0 (q_acons (q_var (pv 0)) (q_acons (q_op op_powW rop_pow (toV q_int) (toV q_int)) q_anil)))))) q_xnil))) (toV (q_var (pv 2))))) (toV (q_callTy call_str_int rc_str (by rfl) T.b_str (by decide +kernel) (q_xcons (toV (q_op op_add4 rop_add (toV q_int) (toV (q_call G__law_draw (hr.mono (by decide)) rfl T.g__law_draw T.k__law_draw b__law_draw .nil (fun _ _ => RelL.nil) pass0 (q_acons (q_var (pv 0)) (q_acons q_int q_anil)))))) q_xnil))))) q_nil)) q_nil) (q_cons (q_set (i := 1) sc__law_row_4.nd rfl (Or.inl rfl) (q_op op_add4 rop_add (toV q_int) (toV (q_call G__law_draw (hr.mono (by decide)) rfl T.g__law_draw T.k__law_draw b__law_draw .nil (fun _ _ => RelL.nil) pass0 (q_acons (q_var (pv 0)) (q_acons q_int q_anil)))))) (q_cons (q_ret hm (q_op op_add4 rop_add (toV (q_op op_add4 rop_add (toV (q_op op_add4 rop_add (toV q_str) (toV (q_callTy call_str_int rc_str (by rfl) T.b_str (by decide +kernel) (q_xcons (toV (q_var (pv 1))) q_xnil))))) (toV q_str))) (toV (q_join q_str (toE (q_lc (own := [("_law_many", 3)]) rfl sc__law_row_4.nd (q_iany (q_call G__law_beginning (hr.mono (by decide)) rfl T.g__law_beginning T.k__law_beginning b__law_beginning .nil (fun _ _ => RelL.nil) pass0 (q_acons (q_var (pv 0)) (q_acons (q_var (pv 1)) (q_acons q_int q_anil))))) (blkOk_by (N := N__law_row_4) (sc := defScope s__law_row_4) (own := [("_law_many", 3)]) (by decide +kernel)) (fun _ _ _ _ _ B => (q_gname (vs := [3]) (pg_name (i := 3) sc__law_row_4.nd rfl (Or.inl rfl)) (by decide))) (fun _ _ _ _ _ => pts_U0) (fun _ _ _ _ _ B => (q_callTy call_str_int rc_str (by rfl) T.b_str (by decide +kernel) (q_xcons (toV (q_var (pv 3))) q_xnil))))))))) q_nil)))
theorem sc__law_saying_in : FnScope N__law_saying_in ["_law_words"] (defScope s__law_saying_in) := ⟨rfl, rfl, rfl, by decide +kernel, rfl, by decide +kernel, by decide +kernel⟩
theorem ok__law_saying_in {fd fd__law_number_3 : FuncData} (F : Fun K "_law_saying_in" "_law_saying_in" s__law_saying_in a__law_saying_in fd) (T : Tx K mg a__law_draw a__law_number_3 a__law_house_in_2 a__law_pen a__law_beginning a__law_row_4 a__law_saying_in a__law_spoilt_2 a__law_told a_figures_of a_is_whole a_is_base a_is_count a_is_listing a_is_beginning a_BadHouse___init__ a_House___init__ a_Unread___init__ a_read_house_3 a_is_saying_a a_saying_of_2 a_read_saying_3 a_House_base a_House_beginning a_House___eq__ a_law a_House a_BadHouse a_Unread tk_FIGURES tk_LEAST_BASE tk_MOST_BASE tk_MOST_FIGURES) (G__law_number_3 : FnOk P w K mg base CX0 1 a__law_number_3 fd__law_number_3 ["_law_word"] (lift K (sp__law_number_3))) (b__law_number_3 : Binds K fd__law_number_3 ["_law_word"] []) : FnOk P w K mg base CX0 2 a__law_saying_in fd ["_law_words"] (lift K (sp__law_saying_in)) := by
  refine fn_ok (ds := d__law_saying_in) F sc__law_saying_in (len__law_saying_in) (fun cdv A outer s H E B hr hB hm => ?_) (d__law_saying_in_ok)
  exact (q_cons (q_if (L2.PW.pt (q_or (q_tcmp (op_neD hr.units) rop_ne (toV (q_callB call_len3 rc_len (by rfl) T.b_len (by decide +kernel) (q_xcons (toV (q_var (pv 0))) q_xnil))) (toV q_int) (nomark _)) (q_or (q_tcmp (op_neD hr.units) rop_ne (toV (q_ix (toV (q_var (pv 0))) (toV q_int) (fun _ _ => rfl))) (toV q_str) (nomark _)) (q_or1 (q_tcmp op_notIn_seq rop_notInT (toV (q_ix (toV (q_var (pv 0))) (toV q_int) (fun _ _ => rfl))) (toV (q_tup (q_acons q_str (q_acons q_str q_anil)))) rfl))))) (q_cons (q_ret hm q_non) q_nil) q_nil) (q_cons (q_par (i := 1) (j := 2) rfl sc__law_saying_in.nd rfl rfl (by decide) rfl rfl (q_acons (q_call G__law_number_3 (hr.mono (by decide)) rfl T.g__law_number_3 T.k__law_number_3 b__law_number_3 .nil (fun _ _ => RelL.nil) pass0 (q_acons (q_ix (toV (q_var (pv 0))) (toV q_int) (fun _ _ => rfl)) q_anil)) (q_acons (q_call G__law_number_3 (hr.mono (by decide)) rfl T.g__law_number_3 T.k__law_number_3 b__law_number_3 .nil (fun _ _ => RelL.nil) pass0 (q_acons (q_ix (toV (q_var (pv 0))) (toV q_int) (fun _ _ => rfl)) q_anil)) q_anil)) (by rfl)) (q_cons (q_if (L2.PW.pt (q_or (q_tcmp op_isN rop_isN (toV (q_var (pv 1))) (toV q_non) (nomark _)) (q_or (q_tcmp op_isN rop_isN (toV (q_var (pv 2))) (toV q_non) (nomark _)) (q_or (q_tcmp (op_eqD hr.units) rop_eq (toV (q_var (pv 1))) (toV q_int) (nomark _)) (q_or1 (q_tcmp (op_eqD hr.units) rop_eq (toV (q_var (pv 2))) (toV q_int) (nomark _))))))) (q_cons (q_ret hm q_non) q_nil) q_nil) (q_cons (q_ret hm (q_tup (q_acons (q_op op_add4 rop_add (toV q_str) (toV (q_ix (toV (q_var (pv 0))) (toV q_int) (fun _ _ => rfl)))) (q_acons (q_var (pv 1)) (q_acons (q_var (pv 2)) q_anil))))) q_nil))))
theorem sc__law_spoilt_2 : FnScope N__law_spoilt_2 ["_law_pen_here", "_law_row_here"] (defScope s__law_spoilt_2) := ⟨rfl, rfl, rfl, by decide +kernel, rfl, by decide +kernel, by decide +kernel⟩
theorem ok__law_spoilt_2 {fd fd__law_draw : FuncData} (F : Fun K "_law_spoilt" "_law_spoilt" s__law_spoilt_2 a__law_spoilt_2 fd) (T : Tx K mg a__law_draw a__law_number_3 a__law_house_in_2 a__law_pen a__law_beginning a__law_row_4 a__law_saying_in a__law_spoilt_2 a__law_told a_figures_of a_is_whole a_is_base a_is_count a_is_listing a_is_beginning a_BadHouse___init__ a_House___init__ a_Unread___init__ a_read_house_3 a_is_saying_a a_saying_of_2 a_read_saying_3 a_House_base a_House_beginning a_House___eq__ a_law a_House a_BadHouse a_Unread tk_FIGURES tk_LEAST_BASE tk_MOST_BASE tk_MOST_FIGURES) (G__law_draw : FnOk P w K mg base CX0 1 a__law_draw fd__law_draw ["_law_pen_here", "_law_many"] (lift K (sp__law_draw))) (b__law_draw : Binds K fd__law_draw ["_law_pen_here", "_law_many"] []) : FnOk P w K mg base CX0 2 a__law_spoilt_2 fd ["_law_pen_here", "_law_row_here"] (lift K (sp__law_spoilt_2)) := by
  refine fn_ok (ds := d__law_spoilt_2) F sc__law_spoilt_2 (len__law_spoilt_2) (fun cdv A outer s H E B hr hB hm => ?_) (d__law_spoilt_2_ok)
  exact (q_cons (q_par (i := 4) (j := 5) rfl sc__law_spoilt_2.nd rfl rfl (by decide) rfl rfl (q_acons (toE (q_split (q_var (pv 1)) q_str)) (q_acons (q_call G__law_draw (hr.mono (by decide)) rfl T.g__law_draw T.k__law_draw b__law_draw .nil (fun _ _ => RelL.nil) pass0 (q_acons (q_var (pv 0)) (q_acons (q_op op_add4 rop_add (toV (q_callB call_len3 rc_len (by rfl) T.b_len (by decide +kernel) (q_xcons (toV (q_var (pv 1))) q_xnil))) (toV q_int)) q_anil))) q_anil)) (by rfl)) (q_cons (q_par (i := 6) (j := 7) rfl sc__law_spoilt_2.nd rfl rfl (by decide) rfl rfl (q_acons (q_call G__law_draw (hr.mono (by decide)) rfl T.g__law_draw T.k__law_draw b__law_draw .nil (fun _ _ => RelL.nil) pass0 (q_acons (q_var (pv 0)) (q_acons (q_callB call_len3 rc_len (by rfl) T.b_len (by decide +kernel) (q_xcons (toV (q_var (pv 4))) q_xnil)) q_anil))) (q_acons q_str q_anil)) (by rfl)) (q_cons (q_set (i := 2) sc__law_spoilt_2.nd rfl (Or.inl rfl) (q_ixS (toV (q_var (pv 7))) (toV (q_call G__law_draw (hr.mono (by decide)) rfl T.g__law_draw T.k__law_draw b__law_draw .nil (fun _ _ => RelL.nil) pass0 (q_acons (q_var (pv 0)) (q_acons (q_callB call_len3 rc_len (by rfl) T.b_len (by decide +kernel) (q_xcons (toV (q_var (pv 7))) q_xnil)) q_anil)))) (fun _ _ => rfl))) (q_cons (q_setN (i := 3) sc__law_spoilt_2.nd rfl (Or.inl rfl) (q_lst (q_acons (q_op op_add4 rop_add (toV (q_op op_add4 rop_add (toV (q_sliceS (toV (q_var (pv 1))) q_onone (q_osome (toV (q_var (pv 5)))))) (toV (q_var (pv 2))))) (toV (q_sliceS (toV (q_var (pv 1))) (q_osome (toV (q_var (pv 5)))) q_onone))) (q_acons (q_op op_add4 rop_add (toV (q_sliceS (toV (q_var (pv 1))) q_onone (q_osome (toV (q_var (pv 5)))))) (toV (q_sliceS (toV (q_var (pv 1))) (q_osome (toV (q_op op_add4 rop_add (toV (q_var (pv 5))) (toV q_int)))) q_onone))) (q_acons (q_op op_add4 rop_add (toV (q_op op_add4 rop_add (toV (q_sliceS (toV (q_var (pv 1))) q_onone (q_osome (toV (q_var (pv 5)))))) (toV (q_var (pv 2))))) (toV (q_sliceS (toV (q_var (pv 1))) (q_osome (toV (q_op op_add4 rop_add (toV (q_var (pv 5))) (toV q_int)))) q_onone))) q_anil))))) (q_cons (q_setN (i := 3) sc__law_spoilt_2.nd rfl (Or.inl rfl) (q_opN op_cat ropn_cat (q_view (pv 3)) (toV (toE (q_lst (q_acons (q_op op_add4 rop_add (toV (q_var (pv 1))) (toV q_str)) (q_acons (q_op op_add4 rop_add (toV q_str) (toV (q_var (pv 1)))) (q_acons q_str (q_acons (q_join q_str (q_op op_add4 rop_add (toV (q_slice (toV (q_var (pv 4))) q_onone (q_osome (toV (q_var (pv 6)))))) (toV (q_slice (toV (q_var (pv 4))) (q_osome (toV (q_op op_add4 rop_add (toV (q_var (pv 6))) (toV q_int)))) q_onone)))) q_anil))))))))) (q_cons (q_setN (i := 3) sc__law_spoilt_2.nd rfl (Or.inl rfl) (q_opN op_cat ropn_cat (q_view (pv 3)) (toV (toE (q_lst (q_acons (q_join q_str (q_op op_add4 rop_add (toV (q_slice (toV (q_var (pv 4))) q_onone (q_osome (toV (q_op op_add4 rop_add (toV (q_var (pv 6))) (toV q_int)))))) (toV (q_slice (toV (q_var (pv 4))) (q_osome (toV (q_var (pv 6)))) q_onone)))) (q_acons (q_op op_add4 rop_add (toV (q_var (pv 1))) (toV q_str)) (q_acons (q_upper (q_var (pv 1))) (q_acons (q_ix (toV (q_var (pv 4))) (toV q_int) (fun _ _ => rfl)) (q_acons (q_op op_add4 rop_add (toV q_str) (toV (q_var (pv 1)))) q_anil)))))))))) (q_cons (q_app (i := 3) (pe_bm PySem.F.plainAttrs_list PySem.F.slot_list_append PySem.F.type_list_append mt_append (pv 3) (pa_cons (q_join q_str (q_op op_add4 rop_add (toV (q_op op_add4 rop_add (toV (q_slice (toV (q_var (pv 4))) q_onone (q_osome (toV (q_var (pv 6)))))) (toV (toE (q_lst (q_acons (q_ix (toV (toE (q_lst (q_acons q_str (q_acons q_str (q_acons q_str (q_acons (q_op op_mulS rop_mulS (toV q_str) (toV q_int)) (q_acons (q_op op_mulS rop_mulS (toV q_str) (toV q_int)) q_anil)))))))) (toV (q_call G__law_draw (hr.mono (by decide)) rfl T.g__law_draw T.k__law_draw b__law_draw .nil (fun _ _ => RelL.nil) pass0 (q_acons (q_var (pv 0)) (q_acons q_int q_anil)))) (fun _ _ => rfl)) q_anil)))))) (toV (q_slice (toV (q_var (pv 4))) (q_osome (toV (q_op op_add4 rop_add (toV (q_var (pv 6))) (toV q_int)))) q_onone)))) pa_nil))) (q_frz (i := 3) hB (q_cons (q_ret hm (q_ix (q_view (pv 3)) (toV (q_call G__law_draw (hr.mono (by decide)) rfl T.g__law_draw T.k__law_draw b__law_draw .nil (fun _ _ => RelL.nil) pass0 (q_acons (q_var (pv 0)) (q_acons q_int q_anil)))) (fun _ _ => rfl))) q_nil)))))))))
theorem sc__law_told : FnScope N__law_told ["_law_deed"] (defScope s__law_told) := ⟨rfl, rfl, rfl, by decide +kernel, rfl, by decide +kernel, by decide +kernel⟩
theorem sc_figures_of : FnScope N_figures_of ["word"] (defScope s_figures_of) := ⟨rfl, rfl, rfl, by decide +kernel, rfl, by decide +kernel, by decide +kernel⟩
theorem ok_figures_of {fd : FuncData} (F : Fun K "figures_of" "figures_of" s_figures_of a_figures_of fd) (T : Tx K mg a__law_draw a__law_number_3 a__law_house_in_2 a__law_pen a__law_beginning a__law_row_4 a__law_saying_in a__law_spoilt_2 a__law_told a_figures_of a_is_whole a_is_base a_is_count a_is_listing a_is_beginning a_BadHouse___init__ a_House___init__ a_Unread___init__ a_read_house_3 a_is_saying_a a_saying_of_2 a_read_saying_3 a_House_base a_House_beginning a_House___eq__ a_law a_House a_BadHouse a_Unread tk_FIGURES tk_LEAST_BASE tk_MOST_BASE tk_MOST_FIGURES) : FnOk P w K mg base CX0 1 a_figures_of fd ["word"] (lift K (sp_figures_of)) := by
  refine fn_ok (ds := d_figures_of) F sc_figures_of (len_figures_of) (fun cdv A outer s H E B hr hB hm => ?_) (d_figures_of_ok)
  exact (q_cons (q_if (L2.PW.pt (q_or (q_not (q_tchain op_lt rop_lt op_le rop_le (toV q_int) (toV (q_callB call_len3 rc_len (by rfl) T.b_len (by decide +kernel) (q_xcons (toV (q_var (pv 0))) q_xnil))) (toV (q_c (pe_glob (v := (.int 200)) rfl T.c_MOST_FIGURES ⟨_, rfl⟩) (fun _ _ => rD_int _))))) (q_or1 (q_not (q_tval (q_callB (cr_all rfl) rc_all (by rfl) T.b_all (by decide +kernel) (q_xcons (toV (toE (q_lc (own := [("sign", 1)]) rfl sc_figures_of.nd (q_istr (q_var (pv 0))) (blkOk_by (N := N_figures_of) (sc := defScope s_figures_of) (own := [("sign", 1)]) (by decide +kernel)) (fun _ _ _ _ _ B => (q_gname (vs := [1]) (pg_name (i := 1) sc_figures_of.nd rfl (Or.inl rfl)) (by decide))) (fun _ _ _ _ _ => pts_U0) (fun _ _ _ _ _ B => (q_cmp op_inS rop_inS (toV (q_var (pv 1))) (toV (q_c (pe_glob (v := (.str "0123456789")) rfl T.c_FIGURES ⟨_, rfl⟩) (fun _ _ => rD_str _))) rfl))))) q_xnil))))))) (q_cons (q_ret hm q_non) q_nil) q_nil) (q_cons (q_ret hm (q_ifE (L2.PW.pt (q_or (q_tcmp (op_eqD hr.units) rop_eq (toV (q_var (pv 0))) (toV q_str) (nomark _)) (q_or1 (q_tcmp (op_neD hr.units) rop_ne (toV (q_ixS (toV (q_var (pv 0))) (toV q_int) (fun _ _ => rfl))) (toV q_str) (nomark _))))) (q_callTy call_int_str rc_intT (by rfl) T.b_int (by decide +kernel) (q_xcons (toV (q_var (pv 0))) q_xnil)) q_non)) q_nil))
theorem sc_is_whole : FnScope N_is_whole ["thing"] (defScope s_is_whole) := ⟨rfl, rfl, rfl, by decide +kernel, rfl, by decide +kernel, by decide +kernel⟩
theorem ok_is_whole {fd : FuncData} (F : Fun K "is_whole" "is_whole" s_is_whole a_is_whole fd) (T : Tx K mg a__law_draw a__law_number_3 a__law_house_in_2 a__law_pen a__law_beginning a__law_row_4 a__law_saying_in a__law_spoilt_2 a__law_told a_figures_of a_is_whole a_is_base a_is_count a_is_listing a_is_beginning a_BadHouse___init__ a_House___init__ a_Unread___init__ a_read_house_3 a_is_saying_a a_saying_of_2 a_read_saying_3 a_House_base a_House_beginning a_House___eq__ a_law a_House a_BadHouse a_Unread tk_FIGURES tk_LEAST_BASE tk_MOST_BASE tk_MOST_FIGURES) : FnOk P w K mg base CX0 1 a_is_whole fd ["thing"] (lift K (sp_is_whole)) := by
  refine fn_ok (ds := d_is_whole) F sc_is_whole (len_is_whole) (fun cdv A outer s H E B hr hB hm => ?_) (d_is_whole_ok)
  exact (q_cons (q_ret hm (q_andV (q_isi (c := .int) (toV (q_var (pv 0))) rfl T.b_isinstance rfl T.b_int (by rfl)) (q_one (q_notV (q_isi (c := .bl) (toV (q_var (pv 0))) rfl T.b_isinstance rfl T.b_bool (by rfl)))))) q_nil)
theorem sc_is_base : FnScope N_is_base ["thing"] (defScope s_is_base) := ⟨rfl, rfl, rfl, by decide +kernel, rfl, by decide +kernel, by decide +kernel⟩
theorem ok_is_base {fd fd_is_whole : FuncData} (F : Fun K "is_base" "is_base" s_is_base a_is_base fd) (T : Tx K mg a__law_draw a__law_number_3 a__law_house_in_2 a__law_pen a__law_beginning a__law_row_4 a__law_saying_in a__law_spoilt_2 a__law_told a_figures_of a_is_whole a_is_base a_is_count a_is_listing a_is_beginning a_BadHouse___init__ a_House___init__ a_Unread___init__ a_read_house_3 a_is_saying_a a_saying_of_2 a_read_saying_3 a_House_base a_House_beginning a_House___eq__ a_law a_House a_BadHouse a_Unread tk_FIGURES tk_LEAST_BASE tk_MOST_BASE tk_MOST_FIGURES) (G_is_whole : FnOk P w K mg base CX0 1 a_is_whole fd_is_whole ["thing"] (lift K (sp_is_whole))) (b_is_whole : Binds K fd_is_whole ["thing"] []) : FnOk P w K mg base CX0 2 a_is_base fd ["thing"] (lift K (sp_is_base)) := by
  refine fn_ok (ds := d_is_base) F sc_is_base (len_is_base) (fun cdv A outer s H E B hr hB hm => ?_) (d_is_base_ok)
  exact (q_cons (q_ret hm (q_andV (q_call G_is_whole (hr.mono (by decide)) rfl T.g_is_whole T.k_is_whole b_is_whole .nil (fun _ _ => RelL.nil) pass0 (q_acons (q_var (pv 0)) q_anil)) (q_one (q_chain op_le rop_le op_le rop_le (toV (q_c (pe_glob (v := (.int 2)) rfl T.c_LEAST_BASE ⟨_, rfl⟩) (fun _ _ => rD_int _))) (toV (q_var (pv 0))) (toV (q_c (pe_glob (v := (.int 30)) rfl T.c_MOST_BASE ⟨_, rfl⟩) (fun _ _ => rD_int _))))))) q_nil)
theorem sc_is_count : FnScope N_is_count ["thing"] (defScope s_is_count) := ⟨rfl, rfl, rfl, by decide +kernel, rfl, by decide +kernel, by decide +kernel⟩
theorem ok_is_count {fd fd_is_whole : FuncData} (F : Fun K "is_count" "is_count" s_is_count a_is_count fd) (T : Tx K mg a__law_draw a__law_number_3 a__law_house_in_2 a__law_pen a__law_beginning a__law_row_4 a__law_saying_in a__law_spoilt_2 a__law_told a_figures_of a_is_whole a_is_base a_is_count a_is_listing a_is_beginning a_BadHouse___init__ a_House___init__ a_Unread___init__ a_read_house_3 a_is_saying_a a_saying_of_2 a_read_saying_3 a_House_base a_House_beginning a_House___eq__ a_law a_House a_BadHouse a_Unread tk_FIGURES tk_LEAST_BASE tk_MOST_BASE tk_MOST_FIGURES) (G_is_whole : FnOk P w K mg base CX0 1 a_is_whole fd_is_whole ["thing"] (lift K (sp_is_whole))) (b_is_whole : Binds K fd_is_whole ["thing"] []) : FnOk P w K mg base CX0 2 a_is_count fd ["thing"] (lift K (sp_is_count)) := by
  refine fn_ok (ds := d_is_count) F sc_is_count (len_is_count) (fun cdv A outer s H E B hr hB hm => ?_) (d_is_count_ok)
  exact (q_cons (q_ret hm (q_andV (q_call G_is_whole (hr.mono (by decide)) rfl T.g_is_whole T.k_is_whole b_is_whole .nil (fun _ _ => RelL.nil) pass0 (q_acons (q_var (pv 0)) q_anil)) (q_one (q_cmp op_gt rop_gt (toV (q_var (pv 0))) (toV q_int) (nomark _))))) q_nil)
theorem sc_is_listing : FnScope N_is_listing ["thing"] (defScope s_is_listing) := ⟨rfl, rfl, rfl, by decide +kernel, rfl, by decide +kernel, by decide +kernel⟩
theorem ok_is_listing {fd : FuncData} (F : Fun K "is_listing" "is_listing" s_is_listing a_is_listing fd) (T : Tx K mg a__law_draw a__law_number_3 a__law_house_in_2 a__law_pen a__law_beginning a__law_row_4 a__law_saying_in a__law_spoilt_2 a__law_told a_figures_of a_is_whole a_is_base a_is_count a_is_listing a_is_beginning a_BadHouse___init__ a_House___init__ a_Unread___init__ a_read_house_3 a_is_saying_a a_saying_of_2 a_read_saying_3 a_House_base a_House_beginning a_House___eq__ a_law a_House a_BadHouse a_Unread tk_FIGURES tk_LEAST_BASE tk_MOST_BASE tk_MOST_FIGURES) : FnOk P w K mg base CX0 1 a_is_listing fd ["thing"] (lift K (sp_is_listing)) := by
  refine fn_ok (ds := d_is_listing) F sc_is_listing (len_is_listing) (fun cdv A outer s H E B hr hB hm => ?_) (d_is_listing_ok)
  exact (q_cons (q_ret hm (q_isi2 (c := .lst) (c2 := .tup) (toV (q_var (pv 0))) rfl T.b_isinstance rfl T.b_list (by rfl) rfl T.b_tuple (by rfl))) q_nil)
theorem sc_is_beginning : FnScope N_is_beginning ["base", "thing"] (defScope s_is_beginning) := ⟨rfl, rfl, rfl, by decide +kernel, rfl, by decide +kernel, by decide +kernel⟩
theorem ok_is_beginning {fd fd_is_count fd_is_listing : FuncData} (F : Fun K "is_beginning" "is_beginning" s_is_beginning a_is_beginning fd) (T : Tx K mg a__law_draw a__law_number_3 a__law_house_in_2 a__law_pen a__law_beginning a__law_row_4 a__law_saying_in a__law_spoilt_2 a__law_told a_figures_of a_is_whole a_is_base a_is_count a_is_listing a_is_beginning a_BadHouse___init__ a_House___init__ a_Unread___init__ a_read_house_3 a_is_saying_a a_saying_of_2 a_read_saying_3 a_House_base a_House_beginning a_House___eq__ a_law a_House a_BadHouse a_Unread tk_FIGURES tk_LEAST_BASE tk_MOST_BASE tk_MOST_FIGURES) (G_is_count : FnOk P w K mg base CX0 2 a_is_count fd_is_count ["thing"] (lift K (sp_is_count))) (b_is_count : Binds K fd_is_count ["thing"] []) (G_is_listing : FnOk P w K mg base CX0 1 a_is_listing fd_is_listing ["thing"] (lift K (sp_is_listing))) (b_is_listing : Binds K fd_is_listing ["thing"] []) : FnOk P w K mg base CX0 3 a_is_beginning fd ["base", "thing"] (lift K (sp_is_beginning)) := by
  refine fn_ok (ds := d_is_beginning) F sc_is_beginning (len_is_beginning) (fun cdv A outer s H E B hr hB hm => ?_) (d_is_beginning_ok)
  exact (q_cons (q_if (L2.PW.pt (q_or (q_not (q_tval (q_call G_is_listing (hr.mono (by decide)) rfl T.g_is_listing T.k_is_listing b_is_listing .nil (fun _ _ => RelL.nil) pass0 (q_acons (q_var (pv 1)) q_anil)))) (q_or1 (q_tcmp (op_neD hr.units) rop_ne (toV (q_callB call_len3 rc_len (by rfl) T.b_len (by decide +kernel) (q_xcons (toV (q_var (pv 1))) q_xnil))) (toV (q_op op_sub rop_sub (toV (q_var (pv 0))) (toV q_int))) (nomark _))))) (q_cons (q_ret hm q_bl) q_nil) q_nil) (q_cons (q_ret hm (q_callB (cr_all rfl) rc_all (by rfl) T.b_all (by decide +kernel) (q_xcons (toV (toE (q_lc (own := [("many", 2)]) rfl sc_is_beginning.nd (q_iany (q_var (pv 1))) (blkOk_by (N := N_is_beginning) (sc := defScope s_is_beginning) (own := [("many", 2)]) (by decide +kernel)) (fun _ _ _ _ _ B => (q_gname (vs := [2]) (pg_name (i := 2) sc_is_beginning.nd rfl (Or.inl rfl)) (by decide))) (fun _ _ _ _ _ => pts_U0) (fun _ _ _ _ _ B => (q_call G_is_count (hr.mono (by decide)) rfl T.g_is_count T.k_is_count b_is_count .nil (fun _ _ => RelL.nil) pass0 (q_acons (q_var (pv 2)) q_anil)))))) q_xnil))) q_nil))
theorem sc_BadHouse___init__ : FnScope N_BadHouse___init__ ["self", "part"] (defScope s_BadHouse___init__) := ⟨rfl, rfl, rfl, by decide +kernel, rfl, by decide +kernel, by decide +kernel⟩
theorem ok_BadHouse___init__ {fd : FuncData} (F : Fun K "__init__" "BadHouse.__init__" s_BadHouse___init__ a_BadHouse___init__ fd) (T : Tx K mg a__law_draw a__law_number_3 a__law_house_in_2 a__law_pen a__law_beginning a__law_row_4 a__law_saying_in a__law_spoilt_2 a__law_told a_figures_of a_is_whole a_is_base a_is_count a_is_listing a_is_beginning a_BadHouse___init__ a_House___init__ a_Unread___init__ a_read_house_3 a_is_saying_a a_saying_of_2 a_read_saying_3 a_House_base a_House_beginning a_House___eq__ a_law a_House a_BadHouse a_Unread tk_FIGURES tk_LEAST_BASE tk_MOST_BASE tk_MOST_FIGURES) : FnOk P w K mg base CX0 1 a_BadHouse___init__ fd ["self", "part"] (spFx K "ValueError.__new__" vaTail "part") := by
  exact fn_fx F sc_BadHouse___init__ (fun cdv A outer s H E => pss_cons (ps_expr (pe_vainit (by rfl) T.b_ValueError T.vF_ValueError (pa_cons (pv 0) (pa_cons pe_str pa_nil)))) (pss_one (ps_fstG fxb_Value.g (pv 0) (pv 1))))
theorem sc_House___init__ : FnScope N_House___init__ ["self", "k", "beginning"] (defScope s_House___init__) := ⟨rfl, rfl, rfl, by decide +kernel, rfl, by decide +kernel, by decide +kernel⟩
theorem ok_House___init__ {fd fd_is_base fd_is_beginning fd_BadHouse___init__ : FuncData} (F : Fun K "__init__" "House.__init__" s_House___init__ a_House___init__ fd) (T : Tx K mg a__law_draw a__law_number_3 a__law_house_in_2 a__law_pen a__law_beginning a__law_row_4 a__law_saying_in a__law_spoilt_2 a__law_told a_figures_of a_is_whole a_is_base a_is_count a_is_listing a_is_beginning a_BadHouse___init__ a_House___init__ a_Unread___init__ a_read_house_3 a_is_saying_a a_saying_of_2 a_read_saying_3 a_House_base a_House_beginning a_House___eq__ a_law a_House a_BadHouse a_Unread tk_FIGURES tk_LEAST_BASE tk_MOST_BASE tk_MOST_FIGURES) (G_is_base : FnOk P w K mg base CX0 2 a_is_base fd_is_base ["thing"] (lift K (sp_is_base))) (b_is_base : Binds K fd_is_base ["thing"] []) (G_is_beginning : FnOk P w K mg base CX0 3 a_is_beginning fd_is_beginning ["base", "thing"] (lift K (sp_is_beginning))) (b_is_beginning : Binds K fd_is_beginning ["base", "thing"] []) (G_BadHouse___init__ : FnOk P w K mg base CX0 1 a_BadHouse___init__ fd_BadHouse___init__ ["self", "part"] (spFx K "ValueError.__new__" vaTail "part")) (b_BadHouse___init__ : Binds K fd_BadHouse___init__ ["self", "part"] []) : FnOk P w K mg base (L2N.CX P w) 4 a_House___init__ fd ["self", "k", "beginning"] (liftIE K (xcl a_BadHouse a_Unread) a_House (sp_House_initE (Cl.mk a_House a_law a_law a_law a_law))) := by
  refine fn_okIE (cl := (xcl a_BadHouse a_Unread)) (ds := d_House_initE (Cl.mk a_House a_law a_law a_law a_law)) F sc_House___init__ (len_House_initE (Cl.mk a_House a_law a_law a_law a_law)) (np_House_initE (Cl.mk a_House a_law a_law a_law a_law)) (fun cdv A outer s H E O F0 H0 xa Px hr hE => ?_) (d_House_initE_ok (Cl.mk a_House a_law a_law a_law a_law))
  exact (i_consB (i_guardX (W := fun c d _ H => E c d H) (Ca := a_BadHouse) (f := "part") (m := "k") rfl (L2N.takes_of rfl rfl rfl rfl) (fun ns l F t env σ H dd S hd px => hE .BadHouse "k" a_BadHouse "part" ns l F t env σ H dd rfl S hd px) (pmkN_fxG fxb_Value.g T.fx_BadHouse T.in_BadHouse T.ty_BadHouse T.no_BadHouse G_BadHouse___init__ (hr.mono (by decide)) b_BadHouse___init__ pass0 rfl T.g_BadHouse (pa_cons pe_str pa_nil)) (fun B => (q_not (q_tval (q_call G_is_base (hr.mono (by decide)) rfl T.g_is_base T.k_is_base b_is_base .nil (fun _ _ => RelL.nil) pass0 (q_acons (q_var (pv 1)) q_anil)))))) (i_consB (i_guardX (W := fun c d _ H => E c d H) (Ca := a_BadHouse) (f := "part") (m := "beginning") rfl (L2N.takes_of rfl rfl rfl rfl) (fun ns l F t env σ H dd S hd px => hE .BadHouse "beginning" a_BadHouse "part" ns l F t env σ H dd rfl S hd px) (pmkN_fxG fxb_Value.g T.fx_BadHouse T.in_BadHouse T.ty_BadHouse T.no_BadHouse G_BadHouse___init__ (hr.mono (by decide)) b_BadHouse___init__ pass0 rfl T.g_BadHouse (pa_cons pe_str pa_nil)) (fun B => (q_not (q_tval (q_call G_is_beginning (hr.mono (by decide)) rfl T.g_is_beginning T.k_is_beginning b_is_beginning .nil (fun _ _ => RelL.nil) pass0 (q_acons (q_var (pv 1)) (q_acons (q_var (pv 2)) q_anil))))))) (i_B (i_cons (i_set (pv 0) (fun B => (q_var (pv 1))) T.cl_House T.n_House_kept_base) (i_cons (i_set (pv 0) (fun B => (toE (q_callTyN call_list_of rc_list (by rfl) T.b_list (by decide +kernel) (q_xcons (toV (q_var (pv 2))) q_xnil)))) T.cl_House T.n_House_kept_beginning) (i_sums (pv 0) (pv 2) (pg_name (i := 3) sc_House___init__.nd rfl (Or.inl rfl)) (pe_bm PySem.F.plainAttrs_list PySem.F.slot_list_append PySem.F.type_list_append mt_append (pe_fld (pv 0) rfl) (pa_cons (pe_U fun B => (q_op op_add4 rop_add (toV (q_op op_sub rop_sub (toV (q_var (pv 3))) (toV q_int))) (toV (q_ifE (q_tcmp (op_neD hr.units) rop_ne (toV (q_fld (toV (q_var (pv 0))) T.cl_House T.n_House_sums)) (toV (toE (q_lst q_anil))) (nomark _)) (q_ix (toV (q_fld (toV (q_var (pv 0))) T.cl_House T.n_House_sums)) (toV (q_un un_neg run_neg (toV q_int))) (fun _ _ => rfl)) q_int)))) pa_nil)) (sumsE_House (Cl.mk a_House a_law a_law a_law a_law)) T.cl_House T.n_House_sums (passes_of rfl) rfl (by decide)))))))
theorem sc_Unread___init__ : FnScope N_Unread___init__ ["self", "row"] (defScope s_Unread___init__) := ⟨rfl, rfl, rfl, by decide +kernel, rfl, by decide +kernel, by decide +kernel⟩
theorem ok_Unread___init__ {fd : FuncData} (F : Fun K "__init__" "Unread.__init__" s_Unread___init__ a_Unread___init__ fd) (T : Tx K mg a__law_draw a__law_number_3 a__law_house_in_2 a__law_pen a__law_beginning a__law_row_4 a__law_saying_in a__law_spoilt_2 a__law_told a_figures_of a_is_whole a_is_base a_is_count a_is_listing a_is_beginning a_BadHouse___init__ a_House___init__ a_Unread___init__ a_read_house_3 a_is_saying_a a_saying_of_2 a_read_saying_3 a_House_base a_House_beginning a_House___eq__ a_law a_House a_BadHouse a_Unread tk_FIGURES tk_LEAST_BASE tk_MOST_BASE tk_MOST_FIGURES) : FnOk P w K mg base CX0 1 a_Unread___init__ fd ["self", "row"] (spFx K "ValueError.__new__" vaTail "row") := by
  exact fn_fx F sc_Unread___init__ (fun cdv A outer s H E => pss_cons (ps_expr (pe_vainit (by rfl) T.b_ValueError T.vF_ValueError (pa_cons (pv 0) (pa_cons pe_str pa_nil)))) (pss_one (ps_fstG fxb_Value.g (pv 0) (pv 1))))
theorem okh_Unread___init__ {fd : FuncData} (F : Fun K "__init__" "Unread.__init__" s_Unread___init__ a_Unread___init__ fd) (T : Tx K mg a__law_draw a__law_number_3 a__law_house_in_2 a__law_pen a__law_beginning a__law_row_4 a__law_saying_in a__law_spoilt_2 a__law_told a_figures_of a_is_whole a_is_base a_is_count a_is_listing a_is_beginning a_BadHouse___init__ a_House___init__ a_Unread___init__ a_read_house_3 a_is_saying_a a_saying_of_2 a_read_saying_3 a_House_base a_House_beginning a_House___eq__ a_law a_House a_BadHouse a_Unread tk_FIGURES tk_LEAST_BASE tk_MOST_BASE tk_MOST_FIGURES) : L2H.FnH P w K mg base CX0 1 a_Unread___init__ fd ["self", "row"] (spFx K "ValueError.__new__" vaTail "row") := by
  exact fn_fxH F sc_Unread___init__ (fun cdv A outer s H E p => pss_cons (ps_expr (pe_vainit (by rfl) T.b_ValueError T.vF_ValueError (pa_cons (pv 0) (pa_cons pe_str pa_nil)))) (pss_one (ps_fstG fxb_Value.g (pv 0) (pv 1))))
theorem sc_read_house_3 : FnScope N_read_house_3 ["text"] (defScope s_read_house_3) := ⟨rfl, rfl, rfl, by decide +kernel, rfl, by decide +kernel, by decide +kernel⟩
theorem ok_read_house_3 {fd fd_figures_of fd_House___init__ fd_Unread___init__ : FuncData} (F : Fun K "read_house" "read_house" s_read_house_3 a_read_house_3 fd) (T : Tx K mg a__law_draw a__law_number_3 a__law_house_in_2 a__law_pen a__law_beginning a__law_row_4 a__law_saying_in a__law_spoilt_2 a__law_told a_figures_of a_is_whole a_is_base a_is_count a_is_listing a_is_beginning a_BadHouse___init__ a_House___init__ a_Unread___init__ a_read_house_3 a_is_saying_a a_saying_of_2 a_read_saying_3 a_House_base a_House_beginning a_House___eq__ a_law a_House a_BadHouse a_Unread tk_FIGURES tk_LEAST_BASE tk_MOST_BASE tk_MOST_FIGURES) (G_figures_of : FnOk P w K mg base CX0 1 a_figures_of fd_figures_of ["word"] (lift K (sp_figures_of))) (b_figures_of : Binds K fd_figures_of ["word"] []) (G_House___init__ : FnOk P w K mg base (L2N.CX P w) 4 a_House___init__ fd_House___init__ ["self", "k", "beginning"] (liftIE K (xcl a_BadHouse a_Unread) a_House (sp_House_initE (Cl.mk a_House a_law a_law a_law a_law)))) (b_House___init__ : Binds K fd_House___init__ ["self", "k", "beginning"] []) (G_Unread___init__ : FnOk P w K mg base CX0 1 a_Unread___init__ fd_Unread___init__ ["self", "row"] (spFx K "ValueError.__new__" vaTail "row")) (b_Unread___init__ : Binds K fd_Unread___init__ ["self", "row"] []) (GH_Unread___init__ : L2H.FnH P w K mg base CX0 1 a_Unread___init__ fd_Unread___init__ ["self", "row"] (spFx K "ValueError.__new__" vaTail "row")) : FnOk P w K mg base (L2.CX P w) 6 a_read_house_3 fd ["text"] (liftE K (xcl a_BadHouse a_Unread) (sp_read_house_3 (Cl.mk a_House a_law a_law a_law a_law))) := by
  refine fn_okE (cl := (xcl a_BadHouse a_Unread)) (ds := d_read_house_3 (Cl.mk a_House a_law a_law a_law a_law)) F sc_read_house_3 (len_read_house_3 (Cl.mk a_House a_law a_law a_law a_law)) (fun cdv A outer s H E B Px hr hB hm hE => ?_) (d_read_house_3_ok (Cl.mk a_House a_law a_law a_law a_law))
  exact (q_cons (q_if (q_not (q_tval (q_isi (c := .str) (toV (q_var (pv 0))) rfl T.b_isinstance rfl T.b_str (by rfl)))) (q_cons (q_raiseE (f := "row") rfl (takes_of rfl rfl rfl rfl) hE rfl (pmk_fxG fxb_Value.g T.fx_Unread T.in_Unread T.ty_Unread T.no_Unread G_Unread___init__ (hr.mono (by decide)) b_Unread___init__ pass0 rfl T.g_Unread (q_acons (q_var (pv 0)) q_anil))) q_nil) q_nil) (q_cons (q_set (i := 1) sc_read_house_3.nd rfl (Or.inl rfl) (toE (q_split (q_var (pv 0)) q_str))) (q_cons (q_setLc (i := 2) (own := [("word", 3)]) rfl sc_read_house_3.nd rfl rfl (sw_true rfl rfl rfl (by decide +kernel)) (q_iany (q_op op_add4 rop_add (toV (q_slice (toV (q_var (pv 1))) (q_osome (toV q_int)) (q_osome (toV q_int)))) (toV (q_slice (toV (q_var (pv 1))) (q_osome (toV q_int)) q_onone)))) (blkOk_by (N := N_read_house_3) (sc := defScope s_read_house_3) (own := [("word", 3)]) (by decide +kernel)) (fun _ _ _ _ _ B => (q_gname (vs := [3]) (pg_name (i := 3) sc_read_house_3.nd rfl (Or.inl rfl)) (by decide))) (fun _ _ _ _ _ => pts_U0) (fun _ _ _ _ _ B => (q_call G_figures_of (hr.mono (by decide)) rfl T.g_figures_of T.k_figures_of b_figures_of .nil (fun _ _ => RelL.nil) pass0 (q_acons (q_var (pv 3)) q_anil)))) (q_cons (q_if (L2.PW.pt (q_or (q_tcmp (op_neD hr.units) rop_ne (toV (q_slice (toV (q_var (pv 1))) q_onone (q_osome (toV q_int)))) (toV (toE (q_lst (q_acons q_str q_anil)))) (nomark _)) (q_or (q_tcmp (op_neD hr.units) rop_ne (toV (q_slice (toV (q_var (pv 1))) (q_osome (toV q_int)) (q_osome (toV q_int)))) (toV (toE (q_lst (q_acons q_str q_anil)))) (nomark _)) (q_or1 (q_tcmp (op_inD (units65 hr)) rop_inDL (toV q_non) (toV (q_var (pv 2))) rfl))))) (q_cons (q_raiseE (f := "row") rfl (takes_of rfl rfl rfl rfl) hE rfl (pmk_fxG fxb_Value.g T.fx_Unread T.in_Unread T.ty_Unread T.no_Unread G_Unread___init__ (hr.mono (by decide)) b_Unread___init__ pass0 rfl T.g_Unread (q_acons (q_var (pv 0)) q_anil))) q_nil) q_nil) (q_cons (q_tryRetX hm (Wout := fun c d _ H => E c d H) rfl rfl (L2H.passesAt_of rfl) (takes_of rfl rfl rfl rfl) hE ⟨rfl, by decide, .inl T.g_BadHouse⟩ rfl T.tx_BadHouse (fun a oe pn tk2 hot => (q_cons (q_raiseH (f := "row") (W := fun c d _ H => E c d H) hot tk2 hE rfl (pmkH_fxG fxb_Value.g T.fx_Unread T.in_Unread T.ty_Unread T.no_Unread GH_Unread___init__ (L2H.roomH_mark (hr.mono (by decide)) _) hot b_Unread___init__ pass0 rfl T.g_Unread (q_acons (q_var (pv 0)) q_anil))) q_nil)) (fun W pn xe tk => (z_makeI T.mk_House G_House___init__ (hr.mono (by decide)) rfl T.g_House b_House___init__ (fun σ => L2N.passAt tk σ) (q_acons (q_ix (toV (q_var (pv 2))) (toV q_int) (fun _ _ => rfl)) (q_acons (q_slice (toV (q_var (pv 2))) (q_osome (toV q_int)) q_onone) q_anil))))) q_nil)))))
theorem sc_is_saying_a : FnScope N_is_saying_a ["thing"] (defScope s_is_saying_a) := ⟨rfl, rfl, rfl, by decide +kernel, rfl, by decide +kernel, by decide +kernel⟩
theorem ok_is_saying_a {fd fd_is_count : FuncData} (F : Fun K "is_saying" "is_saying" s_is_saying_a a_is_saying_a fd) (T : Tx K mg a__law_draw a__law_number_3 a__law_house_in_2 a__law_pen a__law_beginning a__law_row_4 a__law_saying_in a__law_spoilt_2 a__law_told a_figures_of a_is_whole a_is_base a_is_count a_is_listing a_is_beginning a_BadHouse___init__ a_House___init__ a_Unread___init__ a_read_house_3 a_is_saying_a a_saying_of_2 a_read_saying_3 a_House_base a_House_beginning a_House___eq__ a_law a_House a_BadHouse a_Unread tk_FIGURES tk_LEAST_BASE tk_MOST_BASE tk_MOST_FIGURES) (G_is_count : FnOk P w K mg base CX0 2 a_is_count fd_is_count ["thing"] (lift K (sp_is_count))) (b_is_count : Binds K fd_is_count ["thing"] []) : FnOk P w K mg base CX0 3 a_is_saying_a fd ["thing"] (lift K (sp_is_saying_a)) := by
  refine fn_ok (ds := d_is_saying_a) F sc_is_saying_a (len_is_saying_a) (fun cdv A outer s H E B hr hB hm => ?_) (d_is_saying_a_ok)
  exact (q_cons (q_if (L2.PW.pt (q_or (q_not (q_tval (q_isi (c := .tup) (toV (q_var (pv 0))) rfl T.b_isinstance rfl T.b_tuple (by rfl)))) (q_or (q_tcmp (op_neD hr.units) rop_ne (toV (q_callB call_len3 rc_len (by rfl) T.b_len (by decide +kernel) (q_xcons (toV (q_var (pv 0))) q_xnil))) (toV q_int) (nomark _)) (q_or1 (q_not (q_tval (q_isi (c := .str) (toV (q_ix (toV (q_var (pv 0))) (toV q_int) (fun _ _ => rfl))) rfl T.b_isinstance rfl T.b_str (by rfl)))))))) (q_cons (q_ret hm q_bl) q_nil) q_nil) (q_cons (q_ret hm (q_andV (q_cmp op_in_seq rop_inT (toV (q_ix (toV (q_var (pv 0))) (toV q_int) (fun _ _ => rfl))) (toV (q_tup (q_acons q_str (q_acons q_str q_anil)))) rfl) (q_andV (q_call G_is_count (hr.mono (by decide)) rfl T.g_is_count T.k_is_count b_is_count .nil (fun _ _ => RelL.nil) pass0 (q_acons (q_ix (toV (q_var (pv 0))) (toV q_int) (fun _ _ => rfl)) q_anil)) (q_one (q_call G_is_count (hr.mono (by decide)) rfl T.g_is_count T.k_is_count b_is_count .nil (fun _ _ => RelL.nil) pass0 (q_acons (q_ix (toV (q_var (pv 0))) (toV q_int) (fun _ _ => rfl)) q_anil)))))) q_nil))
theorem sc_saying_of_2 : FnScope N_saying_of_2 ["words"] (defScope s_saying_of_2) := ⟨rfl, rfl, rfl, by decide +kernel, rfl, by decide +kernel, by decide +kernel⟩
theorem ok_saying_of_2 {fd fd_figures_of fd_is_saying_a : FuncData} (F : Fun K "saying_of" "saying_of" s_saying_of_2 a_saying_of_2 fd) (T : Tx K mg a__law_draw a__law_number_3 a__law_house_in_2 a__law_pen a__law_beginning a__law_row_4 a__law_saying_in a__law_spoilt_2 a__law_told a_figures_of a_is_whole a_is_base a_is_count a_is_listing a_is_beginning a_BadHouse___init__ a_House___init__ a_Unread___init__ a_read_house_3 a_is_saying_a a_saying_of_2 a_read_saying_3 a_House_base a_House_beginning a_House___eq__ a_law a_House a_BadHouse a_Unread tk_FIGURES tk_LEAST_BASE tk_MOST_BASE tk_MOST_FIGURES) (G_figures_of : FnOk P w K mg base CX0 1 a_figures_of fd_figures_of ["word"] (lift K (sp_figures_of))) (b_figures_of : Binds K fd_figures_of ["word"] []) (G_is_saying_a : FnOk P w K mg base CX0 3 a_is_saying_a fd_is_saying_a ["thing"] (lift K (sp_is_saying_a))) (b_is_saying_a : Binds K fd_is_saying_a ["thing"] []) : FnOk P w K mg base CX0 4 a_saying_of_2 fd ["words"] (lift K (sp_saying_of_2)) := by
  refine fn_ok (ds := d_saying_of_2) F sc_saying_of_2 (len_saying_of_2) (fun cdv A outer s H E B hr hB hm => ?_) (d_saying_of_2_ok)
  exact (q_cons (q_if (L2.PW.pt (q_or (q_tcmp (op_neD hr.units) rop_ne (toV (q_callB call_len3 rc_len (by rfl) T.b_len (by decide +kernel) (q_xcons (toV (q_var (pv 0))) q_xnil))) (toV q_int) (nomark _)) (q_or1 (q_tcmp (op_neD hr.units) rop_ne (toV (q_ix (toV (q_var (pv 0))) (toV q_int) (fun _ _ => rfl))) (toV q_str) (nomark _))))) (q_cons (q_ret hm q_non) q_nil) q_nil) (q_cons (q_par (i := 2) (j := 3) rfl sc_saying_of_2.nd rfl rfl (by decide) rfl rfl (q_acons (q_call G_figures_of (hr.mono (by decide)) rfl T.g_figures_of T.k_figures_of b_figures_of .nil (fun _ _ => RelL.nil) pass0 (q_acons (q_ix (toV (q_var (pv 0))) (toV q_int) (fun _ _ => rfl)) q_anil)) (q_acons (q_call G_figures_of (hr.mono (by decide)) rfl T.g_figures_of T.k_figures_of b_figures_of .nil (fun _ _ => RelL.nil) pass0 (q_acons (q_ix (toV (q_var (pv 0))) (toV q_int) (fun _ _ => rfl)) q_anil)) q_anil)) (by rfl)) (q_cons (q_if (L2.PW.pt (q_or (q_tcmp op_isN rop_isN (toV (q_var (pv 2))) (toV q_non) (nomark _)) (q_or1 (q_tcmp op_isN rop_isN (toV (q_var (pv 3))) (toV q_non) (nomark _))))) (q_cons (q_ret hm q_non) q_nil) q_nil) (q_cons (q_set (i := 1) sc_saying_of_2.nd rfl (Or.inl rfl) (q_tup (q_acons (q_fs (q_je q_str (q_jv (q_ix (toV (q_var (pv 0))) (toV q_int) (fun _ _ => rfl)) q_jnil))) (q_acons (q_var (pv 2)) (q_acons (q_var (pv 3)) q_anil))))) (q_cons (q_ret hm (q_ifE (q_tval (q_call G_is_saying_a (hr.mono (by decide)) rfl T.g_is_saying_a T.k_is_saying_a b_is_saying_a .nil (fun _ _ => RelL.nil) pass0 (q_acons (q_var (pv 1)) q_anil))) (q_var (pv 1)) q_non)) q_nil)))))
theorem sc_read_saying_3 : FnScope N_read_saying_3 ["text"] (defScope s_read_saying_3) := ⟨rfl, rfl, rfl, by decide +kernel, rfl, by decide +kernel, by decide +kernel⟩
theorem ok_read_saying_3 {fd fd_saying_of_2 fd_Unread___init__ : FuncData} (F : Fun K "read_saying" "read_saying" s_read_saying_3 a_read_saying_3 fd) (T : Tx K mg a__law_draw a__law_number_3 a__law_house_in_2 a__law_pen a__law_beginning a__law_row_4 a__law_saying_in a__law_spoilt_2 a__law_told a_figures_of a_is_whole a_is_base a_is_count a_is_listing a_is_beginning a_BadHouse___init__ a_House___init__ a_Unread___init__ a_read_house_3 a_is_saying_a a_saying_of_2 a_read_saying_3 a_House_base a_House_beginning a_House___eq__ a_law a_House a_BadHouse a_Unread tk_FIGURES tk_LEAST_BASE tk_MOST_BASE tk_MOST_FIGURES) (G_saying_of_2 : FnOk P w K mg base CX0 4 a_saying_of_2 fd_saying_of_2 ["words"] (lift K (sp_saying_of_2))) (b_saying_of_2 : Binds K fd_saying_of_2 ["words"] []) (G_Unread___init__ : FnOk P w K mg base CX0 1 a_Unread___init__ fd_Unread___init__ ["self", "row"] (spFx K "ValueError.__new__" vaTail "row")) (b_Unread___init__ : Binds K fd_Unread___init__ ["self", "row"] []) : FnOk P w K mg base (L2.CX P w) 5 a_read_saying_3 fd ["text"] (liftE K (xcl a_BadHouse a_Unread) (sp_read_saying_3)) := by
  refine fn_okE (cl := (xcl a_BadHouse a_Unread)) (ds := d_read_saying_3) F sc_read_saying_3 (len_read_saying_3) (fun cdv A outer s H E B Px hr hB hm hE => ?_) (d_read_saying_3_ok)
  exact (q_cons (q_if (q_not (q_tval (q_isi (c := .str) (toV (q_var (pv 0))) rfl T.b_isinstance rfl T.b_str (by rfl)))) (q_cons (q_raiseE (f := "row") rfl (takes_of rfl rfl rfl rfl) hE rfl (pmk_fxG fxb_Value.g T.fx_Unread T.in_Unread T.ty_Unread T.no_Unread G_Unread___init__ (hr.mono (by decide)) b_Unread___init__ pass0 rfl T.g_Unread (q_acons (q_var (pv 0)) q_anil))) q_nil) q_nil) (q_cons (q_set (i := 1) sc_read_saying_3.nd rfl (Or.inl rfl) (q_call G_saying_of_2 (hr.mono (by decide)) rfl T.g_saying_of_2 T.k_saying_of_2 b_saying_of_2 .nil (fun _ _ => RelL.nil) pass0 (q_acons (toE (q_split (q_var (pv 0)) q_str)) q_anil))) (q_cons (q_if (q_tcmp op_isN rop_isN (toV (q_var (pv 1))) (toV q_non) (nomark _)) (q_cons (q_raiseE (f := "row") rfl (takes_of rfl rfl rfl rfl) hE rfl (pmk_fxG fxb_Value.g T.fx_Unread T.in_Unread T.ty_Unread T.no_Unread G_Unread___init__ (hr.mono (by decide)) b_Unread___init__ pass0 rfl T.g_Unread (q_acons (q_var (pv 0)) q_anil))) q_nil) q_nil) (q_cons (q_ret hm (q_var (pv 1))) q_nil))))
theorem sc_House_base : FnScope N_House_base ["self"] (defScope s_House_base) := ⟨rfl, rfl, rfl, by decide +kernel, rfl, by decide +kernel, by decide +kernel⟩
theorem ok_House_base {fd : FuncData} (F : Fun K "base" "House.base" s_House_base a_House_base fd) (T : Tx K mg a__law_draw a__law_number_3 a__law_house_in_2 a__law_pen a__law_beginning a__law_row_4 a__law_saying_in a__law_spoilt_2 a__law_told a_figures_of a_is_whole a_is_base a_is_count a_is_listing a_is_beginning a_BadHouse___init__ a_House___init__ a_Unread___init__ a_read_house_3 a_is_saying_a a_saying_of_2 a_read_saying_3 a_House_base a_House_beginning a_House___eq__ a_law a_House a_BadHouse a_Unread tk_FIGURES tk_LEAST_BASE tk_MOST_BASE tk_MOST_FIGURES) : FnOk P w K mg base CX0 1 a_House_base fd ["self"] (lift K (sp_House_base (Cl.mk a_House a_law a_law a_law a_law))) := by
  refine fn_ok (ds := d_House_base (Cl.mk a_House a_law a_law a_law a_law)) F sc_House_base (len_House_base (Cl.mk a_House a_law a_law a_law a_law)) (fun cdv A outer s H E B hr hB hm => ?_) (d_House_base_ok (Cl.mk a_House a_law a_law a_law a_law))
  exact (q_cons (q_ret hm (q_fld (toV (q_var (pv 0))) T.cl_House T.n_House_kept_base)) q_nil)
theorem sc_House_beginning : FnScope N_House_beginning ["self"] (defScope s_House_beginning) := ⟨rfl, rfl, rfl, by decide +kernel, rfl, by decide +kernel, by decide +kernel⟩
theorem ok_House_beginning {fd : FuncData} (F : Fun K "beginning" "House.beginning" s_House_beginning a_House_beginning fd) (T : Tx K mg a__law_draw a__law_number_3 a__law_house_in_2 a__law_pen a__law_beginning a__law_row_4 a__law_saying_in a__law_spoilt_2 a__law_told a_figures_of a_is_whole a_is_base a_is_count a_is_listing a_is_beginning a_BadHouse___init__ a_House___init__ a_Unread___init__ a_read_house_3 a_is_saying_a a_saying_of_2 a_read_saying_3 a_House_base a_House_beginning a_House___eq__ a_law a_House a_BadHouse a_Unread tk_FIGURES tk_LEAST_BASE tk_MOST_BASE tk_MOST_FIGURES) : FnOk P w K mg base CX0 1 a_House_beginning fd ["self"] (lift K (sp_House_beginning (Cl.mk a_House a_law a_law a_law a_law))) := by
  refine fn_ok (ds := d_House_beginning (Cl.mk a_House a_law a_law a_law a_law)) F sc_House_beginning (len_House_beginning (Cl.mk a_House a_law a_law a_law a_law)) (fun cdv A outer s H E B hr hB hm => ?_) (d_House_beginning_ok (Cl.mk a_House a_law a_law a_law a_law))
  exact (q_cons (q_ret hm (toE (q_callTyN call_list_of rc_list (by rfl) T.b_list (by decide +kernel) (q_xcons (toV (q_fld (toV (q_var (pv 0))) T.cl_House T.n_House_kept_beginning)) q_xnil)))) q_nil)
theorem sc_House___eq__ : FnScope N_House___eq__ ["self", "other"] (defScope s_House___eq__) := ⟨rfl, rfl, rfl, by decide +kernel, rfl, by decide +kernel, by decide +kernel⟩
theorem ok_House___eq__ {fd fd_House_base fd_House_beginning : FuncData} (F : Fun K "__eq__" "House.__eq__" s_House___eq__ a_House___eq__ fd) (T : Tx K mg a__law_draw a__law_number_3 a__law_house_in_2 a__law_pen a__law_beginning a__law_row_4 a__law_saying_in a__law_spoilt_2 a__law_told a_figures_of a_is_whole a_is_base a_is_count a_is_listing a_is_beginning a_BadHouse___init__ a_House___init__ a_Unread___init__ a_read_house_3 a_is_saying_a a_saying_of_2 a_read_saying_3 a_House_base a_House_beginning a_House___eq__ a_law a_House a_BadHouse a_Unread tk_FIGURES tk_LEAST_BASE tk_MOST_BASE tk_MOST_FIGURES) (G_House_base : FnOk P w K mg base CX0 1 a_House_base fd_House_base ["self"] (lift K (sp_House_base (Cl.mk a_House a_law a_law a_law a_law)))) (b_House_base : Binds K fd_House_base ["self"] []) (G_House_beginning : FnOk P w K mg base CX0 1 a_House_beginning fd_House_beginning ["self"] (lift K (sp_House_beginning (Cl.mk a_House a_law a_law a_law a_law)))) (b_House_beginning : Binds K fd_House_beginning ["self"] []) : FnOk P w K mg base CX0 2 a_House___eq__ fd ["self", "other"] (lift K (sp_House___eq__ (Cl.mk a_House a_law a_law a_law a_law))) := by
  refine fn_ok (ds := d_House___eq__ (Cl.mk a_House a_law a_law a_law a_law)) F sc_House___eq__ (len_House___eq__ (Cl.mk a_House a_law a_law a_law a_law)) (fun cdv A outer s H E B hr hB hm => ?_) (d_House___eq___ok (Cl.mk a_House a_law a_law a_law a_law))
  exact (q_cons (q_ret hm (q_andV (q_callB (C8.call_isC T.i_House) rc_isC (by rfl) T.b_isinstance (by decide +kernel) (q_xcons (toV (q_var (pv 1))) (q_xcons (toV (q_adr rfl T.g_House)) q_xnil))) (q_andV (q_cmp (op_eqD hr.units) rop_eq (toV (q_meth0 (q_var (pv 0)) T.cl_House T.m_House_base G_House_base (hr.mono (by decide)) b_House_base .nil (fun _ _ => RelL.nil) pass0)) (toV (q_meth0 (q_var (pv 1)) T.cl_House T.m_House_base G_House_base (hr.mono (by decide)) b_House_base .nil (fun _ _ => RelL.nil) pass0)) (nomark _)) (q_one (q_cmp (op_eqD hr.units) rop_eq (toV (q_meth0 (q_var (pv 0)) T.cl_House T.m_House_beginning G_House_beginning (hr.mono (by decide)) b_House_beginning .nil (fun _ _ => RelL.nil) pass0)) (toV (q_meth0 (q_var (pv 1)) T.cl_House T.m_House_beginning G_House_beginning (hr.mono (by decide)) b_House_beginning .nil (fun _ _ => RelL.nil) pass0)) (nomark _)))))) q_nil)
theorem sc_law : FnScope N_law ["_law_script"] (defScope s_law) := ⟨rfl, rfl, rfl, by decide +kernel, rfl, by decide +kernel, by decide +kernel⟩
theorem ok_law {fd__law_draw fd__law_house_in_2 fd__law_pen fd__law_row_4 fd__law_saying_in fd__law_spoilt_2 fd__law_told fd_read_house_3 fd_read_saying_3 fd_House___init__ fd_House___eq__ : FuncData} {cA Pt : Addr} {kV doc pm ct oc : Value} {an od : Option Addr} {osl : Array (Option Value)} (lk : K.lookup a_law = some ⟨oc, od, .func (PySem.W.fnOf "law" "law" (defArgs s_law) (defBody s_law) (defScope s_law) .none kV doc pm an (.ref cA) ct), osl⟩) (hcd : PySem.W.codeIn K (.ref cA) "law" = true) (TB : LamX.TabB base mg cA Pt) (T : Tx K mg a__law_draw a__law_number_3 a__law_house_in_2 a__law_pen a__law_beginning a__law_row_4 a__law_saying_in a__law_spoilt_2 a__law_told a_figures_of a_is_whole a_is_base a_is_count a_is_listing a_is_beginning a_BadHouse___init__ a_House___init__ a_Unread___init__ a_read_house_3 a_is_saying_a a_saying_of_2 a_read_saying_3 a_House_base a_House_beginning a_House___eq__ a_law a_House a_BadHouse a_Unread tk_FIGURES tk_LEAST_BASE tk_MOST_BASE tk_MOST_FIGURES) (G__law_draw : FnOk P w K mg base CX0 1 a__law_draw fd__law_draw ["_law_pen_here", "_law_many"] (lift K (sp__law_draw))) (b__law_draw : Binds K fd__law_draw ["_law_pen_here", "_law_many"] []) (G__law_house_in_2 : FnOk P w K mg base CX0 2 a__law_house_in_2 fd__law_house_in_2 ["_law_words"] (lift K (sp__law_house_in_2))) (b__law_house_in_2 : Binds K fd__law_house_in_2 ["_law_words"] []) (G__law_pen : FnOk P w K mg base CX0 1 a__law_pen fd__law_pen ["_law_script"] (liftN K (sp__law_pen))) (b__law_pen : Binds K fd__law_pen ["_law_script"] []) (G__law_row_4 : FnOk P w K mg base CX0 3 a__law_row_4 fd__law_row_4 ["_law_pen_here"] (lift K (sp__law_row_4))) (b__law_row_4 : Binds K fd__law_row_4 ["_law_pen_here"] []) (G__law_saying_in : FnOk P w K mg base CX0 2 a__law_saying_in fd__law_saying_in ["_law_words"] (lift K (sp__law_saying_in))) (b__law_saying_in : Binds K fd__law_saying_in ["_law_words"] []) (G__law_spoilt_2 : FnOk P w K mg base CX0 2 a__law_spoilt_2 fd__law_spoilt_2 ["_law_pen_here", "_law_row_here"] (lift K (sp__law_spoilt_2))) (b__law_spoilt_2 : Binds K fd__law_spoilt_2 ["_law_pen_here", "_law_row_here"] []) (F__law_told : Fun K "_law_told" "_law_told" s__law_told a__law_told fd__law_told) (b__law_told : Binds K fd__law_told ["_law_deed"] []) (G_read_house_3 : FnOk P w K mg base (L2.CX P w) 6 a_read_house_3 fd_read_house_3 ["text"] (liftE K (xcl a_BadHouse a_Unread) (sp_read_house_3 (Cl.mk a_House a_law a_law a_law a_law)))) (b_read_house_3 : Binds K fd_read_house_3 ["text"] []) (G_read_saying_3 : FnOk P w K mg base (L2.CX P w) 5 a_read_saying_3 fd_read_saying_3 ["text"] (liftE K (xcl a_BadHouse a_Unread) (sp_read_saying_3))) (b_read_saying_3 : Binds K fd_read_saying_3 ["text"] []) (G_House___init__ : FnOk P w K mg base (L2N.CX P w) 4 a_House___init__ fd_House___init__ ["self", "k", "beginning"] (liftIE K (xcl a_BadHouse a_Unread) a_House (sp_House_initE (Cl.mk a_House a_law a_law a_law a_law)))) (b_House___init__ : Binds K fd_House___init__ ["self", "k", "beginning"] []) (G_House___eq__ : FnOk P w K mg base CX0 2 a_House___eq__ fd_House___eq__ ["self", "other"] (lift K (sp_House___eq__ (Cl.mk a_House a_law a_law a_law a_law)))) (b_House___eq__ : Binds K fd_House___eq__ ["self", "other"] []) : FnOkG P w K mg base CX0 9 a_law (PySem.W.fnOf "law" "law" (defArgs s_law) (defBody s_law) (defScope s_law) .none kV doc pm an (.ref cA) ct) ["_law_script"] (spLawT K Pt) := by
  refine fn_lawT (q0 := (envOfC "law" (defScope s_law) 0 a_law (.ref cA)).qual ++ "<lambda>") (i := 1) (dp := dCall sp__law_pen [] (dCons (dVar 0) dNil)) (ds := d_law (Cl.mk a_House a_law a_law a_law a_law)) lk hcd sc_law rfl (fun A outer s H E B hr0 => ?_) (fun A outer s H E B hr0 hB hm hT => ?_) ⟨by decide, by decide⟩ false (d_law_ok (Cl.mk a_House a_law a_law a_law a_law))
  · have hr := hr0.room
    exact ps_set (i := 1) sc_law.nd rfl (Or.inl rfl) (q_callN G__law_pen (hr.mono (by decide)) rfl T.g__law_pen T.k__law_pen b__law_pen .nil (fun _ _ => RelL.nil) pass0 (q_acons (q_var (pv 0)) q_anil))
  · have hr := hr0.room
    exact (q_cons (q_for PassesOwn.never rfl (q_irng1 (by rfl) T.b_range (toV (q_op op_add4 rop_add (toV q_int) (toV (q_callB (call_min3 rfl) rc_min (by rfl) T.b_min (by decide +kernel) (q_xcons (toV q_int) (q_xcons (toV (q_callB call_len3 rc_len (by rfl) T.b_len (by decide +kernel) (q_xcons (toV (q_var (pv 0))) q_xnil))) q_xnil))))))) (q_gname (vs := [2]) (pg_name (i := 2) sc_law.nd rfl (Or.inl rfl)) (by decide)) (q_cons (q_set (i := 4) sc_law.nd rfl (Or.inr rfl) (q_call G__law_row_4 (hr.mono (by decide)) rfl T.g__law_row_4 T.k__law_row_4 b__law_row_4 .nil (fun _ _ => RelL.nil) pass0 (q_acons (q_var (pv 1)) q_anil))) (q_cons (q_if (q_tcmp op_gt rop_gt (toV (q_call G__law_draw (hr.mono (by decide)) rfl T.g__law_draw T.k__law_draw b__law_draw .nil (fun _ _ => RelL.nil) pass0 (q_acons (q_var (pv 1)) (q_acons q_int q_anil)))) (toV q_int) (nomark _)) (q_cons (q_set (i := 4) sc_law.nd rfl (Or.inr rfl) (q_ix (toV (q_op op_add4 rop_add (toV (toE (q_lst (q_acons (q_op op_add4 rop_add (toV (q_var (pv 4))) (toV (q_op op_mulS rop_mulS (toV q_str) (toV q_int)))) (q_acons (q_op op_add4 rop_add (toV (q_var (pv 4))) (toV q_str)) q_anil))))) (toV (q_op op_mul3 rop_mul (toV (toE (q_lst (q_acons (q_call G__law_spoilt_2 (hr.mono (by decide)) rfl T.g__law_spoilt_2 T.k__law_spoilt_2 b__law_spoilt_2 .nil (fun _ _ => RelL.nil) pass0 (q_acons (q_var (pv 1)) (q_acons (q_var (pv 4)) q_anil))) q_anil)))) (toV q_int))))) (toV (q_call G__law_draw (hr.mono (by decide)) rfl T.g__law_draw T.k__law_draw b__law_draw .nil (fun _ _ => RelL.nil) pass0 (q_acons (q_var (pv 1)) (q_acons q_int q_anil)))) (fun _ _ => rfl))) q_nil) q_nil) (q_cons (q_set (i := 5) sc_law.nd rfl (Or.inl rfl) (toE (q_split (q_var (pv 4)) q_str))) (q_cons (q_set (i := 6) sc_law.nd rfl (Or.inl rfl) (q_ifE (q_tcmp (op_eqD hr.units) rop_eq (toV (q_ix (toV (q_var (pv 5))) (toV q_int) (fun _ _ => rfl))) (toV q_str) (nomark _)) (q_call G__law_house_in_2 (hr.mono (by decide)) rfl T.g__law_house_in_2 T.k__law_house_in_2 b__law_house_in_2 .nil (fun _ _ => RelL.nil) pass0 (q_acons (q_slice (toV (q_var (pv 5))) (q_osome (toV q_int)) q_onone) q_anil)) q_non)) (q_cons (q_set (i := 7) sc_law.nd rfl (Or.inl rfl) (q_ifE (q_tcmp op_isN rop_isN (toV (q_var (pv 6))) (toV q_non) (nomark _)) (q_tup (q_acons q_str (q_acons (q_var (pv 4)) q_anil))) (q_tup (q_acons q_str (q_acons (toE (q_make T.mk_House (fn_plainIE G_House___init__) (hr.mono (by decide)) rfl T.g_House b_House___init__ .nil (fun _ _ => RelL.nil) pass0 (q_acons (q_ix (toV (q_var (pv 6))) (toV q_int) (fun _ _ => rfl)) (q_acons (q_ix (toV (q_var (pv 6))) (toV q_int) (fun _ _ => rfl)) q_anil)))) q_anil))))) (q_cons (q_if (q_tneT G_House___eq__ (hr.mono (by decide)) T.m_House___eq__ b_House___eq__ pass0 (q_holdB F__law_told sc__law_told rfl rfl T.g__law_told T.k__law_told b__law_told rfl rfl rfl (hv_cons rfl T.tx_Unread hv_nil) (fun Z zn zs zm zk => (hdR1 zn zs zm zk sc__law_told.nd rfl rfl rfl rfl rfl rfl T.g_Unread T.b_isinstance T.ki_Unread_ValueError T.ex_Unread T.no_Unread .nil (hbT := (fun Y p ys ym => pe_bltn (v := .ty "ValueError") (by show Y.env.scope.names.lookup _ = _; rw [ys]; rfl) (by rw [ym]; exact T.b_ValueError) (by decide +kernel) rfl)))) (k := 6) hT TB rfl (hr.mono (by decide)) (LamX.lamS_by (sc := defScope s_law) (by decide +kernel)) rfl (fun _ _ _ _ _ => rfl) (fun A outer s H E f c' hr => (z_call (pe_callS G_read_house_3 (hr.mono (by decide)) rfl T.g_read_house_3 T.k_read_house_3 b_read_house_3 (fun σ => passAt (takes_of rfl rfl rfl rfl) σ) (q_acons (q_var (pv 4)) q_anil))))) (q_var (pv 7)) (nomark _)) (q_cons (q_ret hm q_bl) q_nil) q_nil) (q_cons (q_set (i := 8) sc_law.nd rfl (Or.inl rfl) (q_call G__law_saying_in (hr.mono (by decide)) rfl T.g__law_saying_in T.k__law_saying_in b__law_saying_in .nil (fun _ _ => RelL.nil) pass0 (q_acons (q_var (pv 5)) q_anil))) (q_cons (q_set (i := 7) sc_law.nd rfl (Or.inl rfl) (q_ifE (q_tcmp op_isN rop_isN (toV (q_var (pv 8))) (toV q_non) (nomark _)) (q_tup (q_acons q_str (q_acons (q_var (pv 4)) q_anil))) (q_tup (q_acons q_str (q_acons (q_var (pv 8)) q_anil))))) (q_cons (q_if (q_tneT G_House___eq__ (hr.mono (by decide)) T.m_House___eq__ b_House___eq__ pass0 (q_holdB F__law_told sc__law_told rfl rfl T.g__law_told T.k__law_told b__law_told rfl rfl rfl (hv_cons rfl T.tx_Unread hv_nil) (fun Z zn zs zm zk => (hdR1 zn zs zm zk sc__law_told.nd rfl rfl rfl rfl rfl rfl T.g_Unread T.b_isinstance T.ki_Unread_ValueError T.ex_Unread T.no_Unread .nil (hbT := (fun Y p ys ym => pe_bltn (v := .ty "ValueError") (by show Y.env.scope.names.lookup _ = _; rw [ys]; rfl) (by rw [ym]; exact T.b_ValueError) (by decide +kernel) rfl)))) (k := 5) hT TB rfl (hr.mono (by decide)) (LamX.lamS_by (sc := defScope s_law) (by decide +kernel)) rfl (fun _ _ _ _ _ => rfl) (fun A outer s H E f c' hr => (z_call (pe_callS G_read_saying_3 (hr.mono (by decide)) rfl T.g_read_saying_3 T.k_read_saying_3 b_read_saying_3 (fun σ => passAt (takes_of rfl rfl rfl rfl) σ) (q_acons (q_var (pv 4)) q_anil))))) (q_var (pv 7)) (nomark _)) (q_cons (q_ret hm q_bl) q_nil) q_nil) q_nil)))))))))) (q_cons (q_for PassesOwn.never rfl (q_iany (q_tup (q_acons q_non (q_acons q_int (q_acons (toE (q_lst (q_acons q_str q_anil))) (q_acons (q_tup (q_acons q_str q_anil)) (q_acons (toE q_dnew) (q_acons q_bl q_anil)))))))) (q_gname (vs := [3]) (pg_name (i := 3) sc_law.nd rfl (Or.inr rfl)) (by decide)) (q_cons (q_if (q_tneT G_House___eq__ (hr.mono (by decide)) T.m_House___eq__ b_House___eq__ pass0 (q_holdB F__law_told sc__law_told rfl rfl T.g__law_told T.k__law_told b__law_told rfl rfl rfl (hv_cons rfl T.tx_Unread hv_nil) (fun Z zn zs zm zk => (hdR1 zn zs zm zk sc__law_told.nd rfl rfl rfl rfl rfl rfl T.g_Unread T.b_isinstance T.ki_Unread_ValueError T.ex_Unread T.no_Unread .nil (hbT := (fun Y p ys ym => pe_bltn (v := .ty "ValueError") (by show Y.env.scope.names.lookup _ = _; rw [ys]; rfl) (by rw [ym]; exact T.b_ValueError) (by decide +kernel) rfl)))) (k := 6) hT TB rfl (hr.mono (by decide)) (LamX.lamS_by (sc := defScope s_law) (by decide +kernel)) rfl (fun _ _ _ _ _ => rfl) (fun A outer s H E f c' hr => (z_call (pe_callS G_read_house_3 (hr.mono (by decide)) rfl T.g_read_house_3 T.k_read_house_3 b_read_house_3 (fun σ => passAt (takes_of rfl rfl rfl rfl) σ) (q_acons (q_var (pv 3)) q_anil))))) (q_tup (q_acons q_str (q_acons (q_var (pv 3)) q_anil))) (nomark _)) (q_cons (q_ret hm q_bl) q_nil) q_nil) (q_cons (q_if (q_tneT G_House___eq__ (hr.mono (by decide)) T.m_House___eq__ b_House___eq__ pass0 (q_holdB F__law_told sc__law_told rfl rfl T.g__law_told T.k__law_told b__law_told rfl rfl rfl (hv_cons rfl T.tx_Unread hv_nil) (fun Z zn zs zm zk => (hdR1 zn zs zm zk sc__law_told.nd rfl rfl rfl rfl rfl rfl T.g_Unread T.b_isinstance T.ki_Unread_ValueError T.ex_Unread T.no_Unread .nil (hbT := (fun Y p ys ym => pe_bltn (v := .ty "ValueError") (by show Y.env.scope.names.lookup _ = _; rw [ys]; rfl) (by rw [ym]; exact T.b_ValueError) (by decide +kernel) rfl)))) (k := 5) hT TB rfl (hr.mono (by decide)) (LamX.lamS_by (sc := defScope s_law) (by decide +kernel)) rfl (fun _ _ _ _ _ => rfl) (fun A outer s H E f c' hr => (z_call (pe_callS G_read_saying_3 (hr.mono (by decide)) rfl T.g_read_saying_3 T.k_read_saying_3 b_read_saying_3 (fun σ => passAt (takes_of rfl rfl rfl rfl) σ) (q_acons (q_var (pv 3)) q_anil))))) (q_tup (q_acons q_str (q_acons (q_var (pv 3)) q_anil))) (nomark _)) (q_cons (q_ret hm q_bl) q_nil) q_nil) q_nil))) (q_cons (q_ret hm q_bl) q_nil)))
end
theorem all_mk {l : PySem.W.OpenLaw} {w : World} {K : PySem.W.Frag} {h : Heap} {mg : Str → Option Value} {fa a__law_draw a__law_number_3 a__law_house_in_2 a__law_pen a__law_beginning a__law_row_4 a__law_saying_in a__law_spoilt_2 a__law_told a_figures_of a_is_whole a_is_base a_is_count a_is_listing a_is_beginning a_BadHouse___init__ a_House___init__ a_Unread___init__ a_read_house_3 a_is_saying_a a_saying_of_2 a_read_saying_3 a_House_base a_House_beginning a_House___eq__ a_law a_House a_BadHouse a_Unread : Addr} {tk_FIGURES tk_LEAST_BASE tk_MOST_BASE tk_MOST_FIGURES : Tok} (X : K.In h) (G : h.Ns mainGlobals mg) (hfa : mg "law" = some (.ref fa)) (tab : ∀ fb, mg "law" = some (.ref fb) → TabAt K fb h)
    {od1 an1 od2 an2 od3 an3 od4 an4 od5 an5 od6 an6 od7 an7 od8 an8 od9 an9 od10 an10 od11 an11 od12 an12 od13 an13 od14 an14 od15 an15 od16 an16 od17 an17 od18 an18 od19 an19 od20 an20 od21 an21 od22 an22 od23 an23 od24 an24 od25 an25 od26 an26 : Option Addr} {sl1 sl2 sl3 sl4 sl5 sl6 sl7 sl8 sl9 sl10 sl11 sl12 sl13 sl14 sl15 sl16 sl17 sl18 sl19 sl20 sl21 sl22 sl23 sl24 sl25 sl26 : Array (Option Value)} {oc1 kV1 dc1 pm1 cd1 ct1 oc2 kV2 dc2 pm2 cd2 ct2 oc3 kV3 dc3 pm3 cd3 ct3 oc4 kV4 dc4 pm4 cd4 ct4 oc5 kV5 dc5 pm5 cd5 ct5 oc6 kV6 dc6 pm6 cd6 ct6 oc7 kV7 dc7 pm7 cd7 ct7 oc8 kV8 dc8 pm8 cd8 ct8 oc9 kV9 dc9 pm9 cd9 ct9 oc10 kV10 dc10 pm10 cd10 ct10 oc11 kV11 dc11 pm11 cd11 ct11 oc12 kV12 dc12 pm12 cd12 ct12 oc13 kV13 dc13 pm13 cd13 ct13 oc14 kV14 dc14 pm14 cd14 ct14 oc15 kV15 dc15 pm15 cd15 ct15 oc16 kV16 dc16 pm16 cd16 ct16 oc17 kV17 dc17 pm17 cd17 ct17 oc18 kV18 dc18 pm18 cd18 ct18 oc19 kV19 dc19 pm19 cd19 ct19 oc20 kV20 dc20 pm20 cd20 ct20 oc21 kV21 dc21 pm21 cd21 ct21 oc22 kV22 dc22 pm22 cd22 ct22 oc23 kV23 dc23 pm23 cd23 ct23 oc24 kV24 dc24 pm24 cd24 ct24 oc25 kV25 dc25 pm25 cd25 ct25 oc26 kV26 dc26 pm26 ct26 : Value}
    (ac_House : PySem.W.nsIn K mainGlobals "House" = some (some (.ref a_House))) (pg_House : PySem.W.plainGet K a_House Str.empty = true) (hd_House : PySem.W.hasDictIn K a_House = true) (po_House : PySem.W.plainOver K a_House = true)
    (sa_House : PySem.W.findIn K (.ref a_House) "__setattr__" = some (some (.builtin "object.__setattr__")))
    {nm_BadHouse : _} {qn_BadHouse : _} {nn_BadHouse : _} {bs_BadHouse : _} {sn_BadHouse : _} {sb_BadHouse : _} {ab_BadHouse : _} {co_BadHouse : _} {dd_BadHouse : _} {x0_BadHouse : _} {x1_BadHouse : _} {x2_BadHouse : _} {x3_BadHouse : _} {x5_BadHouse : _} 
    (ac_BadHouse : PySem.W.nsIn K mainGlobals "BadHouse" = some (some (.ref a_BadHouse))) (rl_BadHouse : K.lookup a_BadHouse = some (excClassObj nm_BadHouse qn_BadHouse a_BadHouse nn_BadHouse bs_BadHouse vaTail true sn_BadHouse sb_BadHouse ab_BadHouse co_BadHouse dd_BadHouse x0_BadHouse x1_BadHouse x2_BadHouse x3_BadHouse x5_BadHouse "ValueError.__new__"))
    (xs_BadHouse : PySem.W.subIn K (.ref a_BadHouse) (.type "BaseException") = some true) (xt_BadHouse : PySem.W.typeIn K (.ref a_BadHouse) = some (.type "type")) (xk_BadHouse : PySem.W.keepIn K (.ref a_BadHouse) = true) (xe_BadHouse : PySem.W.subIn K (.ref a_BadHouse) (.ref a_BadHouse) = some true) (xq_BadHouse : PySem.W.subIn K (.ref a_BadHouse) (.type "ValueError") = some true) (xg_BadHouse : PySem.W.findIn K (.ref a_BadHouse) "__getattribute__" = some (some (.builtin "BaseException.__getattribute__"))) (xa_BadHouse : PySem.W.findIn K (.ref a_BadHouse) "__getattr__" = some none) (xh_BadHouse : PySem.W.hasDictIn K a_BadHouse = true) (xc_BadHouse : PySem.W.findIn K (.ref a_BadHouse) "__class__" = some (some (.builtin "object.__class__"))) (xn_BadHouse : PySem.W.specialIn K (.builtin "object.__class__") "__get__" = some (some (.builtin "getset_descriptor.__get__"))) (xo_BadHouse : PySem.W.takesIn K (.builtin "object.__class__") = some true) (xm_BadHouse : PySem.W.mroIn K a_BadHouse (.type "object") = some true) (xz_BadHouse : PySem.W.findIn K (.ref a_BadHouse) "__setattr__" = some (some (.builtin "object.__setattr__"))) (xno_BadHouse : PySem.W.findIn K (.ref a_BadHouse) "part" = some none)
    {nm_Unread : _} {qn_Unread : _} {nn_Unread : _} {bs_Unread : _} {sn_Unread : _} {sb_Unread : _} {ab_Unread : _} {co_Unread : _} {dd_Unread : _} {x0_Unread : _} {x1_Unread : _} {x2_Unread : _} {x3_Unread : _} {x5_Unread : _} 
    (ac_Unread : PySem.W.nsIn K mainGlobals "Unread" = some (some (.ref a_Unread))) (rl_Unread : K.lookup a_Unread = some (excClassObj nm_Unread qn_Unread a_Unread nn_Unread bs_Unread vaTail true sn_Unread sb_Unread ab_Unread co_Unread dd_Unread x0_Unread x1_Unread x2_Unread x3_Unread x5_Unread "ValueError.__new__"))
    (xs_Unread : PySem.W.subIn K (.ref a_Unread) (.type "BaseException") = some true) (xt_Unread : PySem.W.typeIn K (.ref a_Unread) = some (.type "type")) (xk_Unread : PySem.W.keepIn K (.ref a_Unread) = true) (xe_Unread : PySem.W.subIn K (.ref a_Unread) (.ref a_Unread) = some true) (xq_Unread : PySem.W.subIn K (.ref a_Unread) (.type "ValueError") = some true) (xg_Unread : PySem.W.findIn K (.ref a_Unread) "__getattribute__" = some (some (.builtin "BaseException.__getattribute__"))) (xa_Unread : PySem.W.findIn K (.ref a_Unread) "__getattr__" = some none) (xh_Unread : PySem.W.hasDictIn K a_Unread = true) (xc_Unread : PySem.W.findIn K (.ref a_Unread) "__class__" = some (some (.builtin "object.__class__"))) (xn_Unread : PySem.W.specialIn K (.builtin "object.__class__") "__get__" = some (some (.builtin "getset_descriptor.__get__"))) (xo_Unread : PySem.W.takesIn K (.builtin "object.__class__") = some true) (xm_Unread : PySem.W.mroIn K a_Unread (.type "object") = some true) (xz_Unread : PySem.W.findIn K (.ref a_Unread) "__setattr__" = some (some (.builtin "object.__setattr__"))) (xno_Unread : PySem.W.findIn K (.ref a_Unread) "row" = some none)
    (xp_Unread_BadHouse : PySem.W.subIn K (.ref a_Unread) (.ref a_BadHouse) = some false)
    (xp_BadHouse_Unread : PySem.W.subIn K (.ref a_BadHouse) (.ref a_Unread) = some false)
    (xj_Unread_ValueError : PySem.W.subIn K (.ref a_Unread) (.type "ValueError") = some true)
    (xv_ValueError : PySem.W.findCls K (.type "ValueError") (.type "type") "__init__" = some (.val (.builtin "ValueError.__init__")))
    {cA Pt : Addr}
    (a1 : PySem.W.nsIn K mainGlobals "_law_draw" = some (some (.ref a__law_draw)))
    (l1 : K.lookup a__law_draw = some ⟨oc1, od1, .func (PySem.W.fnOf "_law_draw" "_law_draw" (defArgs s__law_draw) (defBody s__law_draw) (defScope s__law_draw) .none kV1 dc1 pm1 an1 cd1 ct1), sl1⟩) (c1 : PySem.W.codeIn K cd1 "_law_draw" = true) (k1 : PySem.W.keepIn K (.ref a__law_draw) = true)
    (a2 : PySem.W.nsIn K mainGlobals "_law_number" = some (some (.ref a__law_number_3)))
    (l2 : K.lookup a__law_number_3 = some ⟨oc2, od2, .func (PySem.W.fnOf "_law_number" "_law_number" (defArgs s__law_number_3) (defBody s__law_number_3) (defScope s__law_number_3) .none kV2 dc2 pm2 an2 cd2 ct2), sl2⟩) (c2 : PySem.W.codeIn K cd2 "_law_number" = true) (k2 : PySem.W.keepIn K (.ref a__law_number_3) = true)
    (a3 : PySem.W.nsIn K mainGlobals "_law_house_in" = some (some (.ref a__law_house_in_2)))
    (l3 : K.lookup a__law_house_in_2 = some ⟨oc3, od3, .func (PySem.W.fnOf "_law_house_in" "_law_house_in" (defArgs s__law_house_in_2) (defBody s__law_house_in_2) (defScope s__law_house_in_2) .none kV3 dc3 pm3 an3 cd3 ct3), sl3⟩) (c3 : PySem.W.codeIn K cd3 "_law_house_in" = true) (k3 : PySem.W.keepIn K (.ref a__law_house_in_2) = true)
    (a4 : PySem.W.nsIn K mainGlobals "_law_pen" = some (some (.ref a__law_pen)))
    (l4 : K.lookup a__law_pen = some ⟨oc4, od4, .func (PySem.W.fnOf "_law_pen" "_law_pen" (defArgs s__law_pen) (defBody s__law_pen) (defScope s__law_pen) .none kV4 dc4 pm4 an4 cd4 ct4), sl4⟩) (c4 : PySem.W.codeIn K cd4 "_law_pen" = true) (k4 : PySem.W.keepIn K (.ref a__law_pen) = true)
    (a5 : PySem.W.nsIn K mainGlobals "_law_beginning" = some (some (.ref a__law_beginning)))
    (l5 : K.lookup a__law_beginning = some ⟨oc5, od5, .func (PySem.W.fnOf "_law_beginning" "_law_beginning" (defArgs s__law_beginning) (defBody s__law_beginning) (defScope s__law_beginning) .none kV5 dc5 pm5 an5 cd5 ct5), sl5⟩) (c5 : PySem.W.codeIn K cd5 "_law_beginning" = true) (k5 : PySem.W.keepIn K (.ref a__law_beginning) = true)
    (a6 : PySem.W.nsIn K mainGlobals "_law_row" = some (some (.ref a__law_row_4)))
    (l6 : K.lookup a__law_row_4 = some ⟨oc6, od6, .func (PySem.W.fnOf "_law_row" "_law_row" (defArgs s__law_row_4) (defBody s__law_row_4) (defScope s__law_row_4) .none kV6 dc6 pm6 an6 cd6 ct6), sl6⟩) (c6 : PySem.W.codeIn K cd6 "_law_row" = true) (k6 : PySem.W.keepIn K (.ref a__law_row_4) = true)
    (a7 : PySem.W.nsIn K mainGlobals "_law_saying_in" = some (some (.ref a__law_saying_in)))
    (l7 : K.lookup a__law_saying_in = some ⟨oc7, od7, .func (PySem.W.fnOf "_law_saying_in" "_law_saying_in" (defArgs s__law_saying_in) (defBody s__law_saying_in) (defScope s__law_saying_in) .none kV7 dc7 pm7 an7 cd7 ct7), sl7⟩) (c7 : PySem.W.codeIn K cd7 "_law_saying_in" = true) (k7 : PySem.W.keepIn K (.ref a__law_saying_in) = true)
    (a8 : PySem.W.nsIn K mainGlobals "_law_spoilt" = some (some (.ref a__law_spoilt_2)))
    (l8 : K.lookup a__law_spoilt_2 = some ⟨oc8, od8, .func (PySem.W.fnOf "_law_spoilt" "_law_spoilt" (defArgs s__law_spoilt_2) (defBody s__law_spoilt_2) (defScope s__law_spoilt_2) .none kV8 dc8 pm8 an8 cd8 ct8), sl8⟩) (c8 : PySem.W.codeIn K cd8 "_law_spoilt" = true) (k8 : PySem.W.keepIn K (.ref a__law_spoilt_2) = true)
    (a9 : PySem.W.nsIn K mainGlobals "_law_told" = some (some (.ref a__law_told)))
    (l9 : K.lookup a__law_told = some ⟨oc9, od9, .func (PySem.W.fnOf "_law_told" "_law_told" (defArgs s__law_told) (defBody s__law_told) (defScope s__law_told) .none kV9 dc9 pm9 an9 cd9 ct9), sl9⟩) (c9 : PySem.W.codeIn K cd9 "_law_told" = true) (k9 : PySem.W.keepIn K (.ref a__law_told) = true)
    (a10 : PySem.W.nsIn K mainGlobals "figures_of" = some (some (.ref a_figures_of)))
    (l10 : K.lookup a_figures_of = some ⟨oc10, od10, .func (PySem.W.fnOf "figures_of" "figures_of" (defArgs s_figures_of) (defBody s_figures_of) (defScope s_figures_of) .none kV10 dc10 pm10 an10 cd10 ct10), sl10⟩) (c10 : PySem.W.codeIn K cd10 "figures_of" = true) (k10 : PySem.W.keepIn K (.ref a_figures_of) = true)
    (a11 : PySem.W.nsIn K mainGlobals "is_whole" = some (some (.ref a_is_whole)))
    (l11 : K.lookup a_is_whole = some ⟨oc11, od11, .func (PySem.W.fnOf "is_whole" "is_whole" (defArgs s_is_whole) (defBody s_is_whole) (defScope s_is_whole) .none kV11 dc11 pm11 an11 cd11 ct11), sl11⟩) (c11 : PySem.W.codeIn K cd11 "is_whole" = true) (k11 : PySem.W.keepIn K (.ref a_is_whole) = true)
    (a12 : PySem.W.nsIn K mainGlobals "is_base" = some (some (.ref a_is_base)))
    (l12 : K.lookup a_is_base = some ⟨oc12, od12, .func (PySem.W.fnOf "is_base" "is_base" (defArgs s_is_base) (defBody s_is_base) (defScope s_is_base) .none kV12 dc12 pm12 an12 cd12 ct12), sl12⟩) (c12 : PySem.W.codeIn K cd12 "is_base" = true) (k12 : PySem.W.keepIn K (.ref a_is_base) = true)
    (a13 : PySem.W.nsIn K mainGlobals "is_count" = some (some (.ref a_is_count)))
    (l13 : K.lookup a_is_count = some ⟨oc13, od13, .func (PySem.W.fnOf "is_count" "is_count" (defArgs s_is_count) (defBody s_is_count) (defScope s_is_count) .none kV13 dc13 pm13 an13 cd13 ct13), sl13⟩) (c13 : PySem.W.codeIn K cd13 "is_count" = true) (k13 : PySem.W.keepIn K (.ref a_is_count) = true)
    (a14 : PySem.W.nsIn K mainGlobals "is_listing" = some (some (.ref a_is_listing)))
    (l14 : K.lookup a_is_listing = some ⟨oc14, od14, .func (PySem.W.fnOf "is_listing" "is_listing" (defArgs s_is_listing) (defBody s_is_listing) (defScope s_is_listing) .none kV14 dc14 pm14 an14 cd14 ct14), sl14⟩) (c14 : PySem.W.codeIn K cd14 "is_listing" = true) (k14 : PySem.W.keepIn K (.ref a_is_listing) = true)
    (a15 : PySem.W.nsIn K mainGlobals "is_beginning" = some (some (.ref a_is_beginning)))
    (l15 : K.lookup a_is_beginning = some ⟨oc15, od15, .func (PySem.W.fnOf "is_beginning" "is_beginning" (defArgs s_is_beginning) (defBody s_is_beginning) (defScope s_is_beginning) .none kV15 dc15 pm15 an15 cd15 ct15), sl15⟩) (c15 : PySem.W.codeIn K cd15 "is_beginning" = true) (k15 : PySem.W.keepIn K (.ref a_is_beginning) = true)
    (a16 : PySem.W.findIn K (.ref a_BadHouse) "__init__" = some (some (.ref a_BadHouse___init__))) (i16 : PySem.W.isFn K (.ref a_BadHouse___init__) = true)
    (l16 : K.lookup a_BadHouse___init__ = some ⟨oc16, od16, .func (PySem.W.fnOf "__init__" "BadHouse.__init__" (defArgs s_BadHouse___init__) (defBody s_BadHouse___init__) (defScope s_BadHouse___init__) .none kV16 dc16 pm16 an16 cd16 ct16), sl16⟩) (c16 : PySem.W.codeIn K cd16 "BadHouse.__init__" = true) (k16 : PySem.W.keepIn K (.ref a_BadHouse___init__) = true)
    (a17 : PySem.W.findIn K (.ref a_House) "__init__" = some (some (.ref a_House___init__))) (i17 : PySem.W.isFn K (.ref a_House___init__) = true)
    (l17 : K.lookup a_House___init__ = some ⟨oc17, od17, .func (PySem.W.fnOf "__init__" "House.__init__" (defArgs s_House___init__) (defBody s_House___init__) (defScope s_House___init__) .none kV17 dc17 pm17 an17 cd17 ct17), sl17⟩) (c17 : PySem.W.codeIn K cd17 "House.__init__" = true) (k17 : PySem.W.keepIn K (.ref a_House___init__) = true)
    (a18 : PySem.W.findIn K (.ref a_Unread) "__init__" = some (some (.ref a_Unread___init__))) (i18 : PySem.W.isFn K (.ref a_Unread___init__) = true)
    (l18 : K.lookup a_Unread___init__ = some ⟨oc18, od18, .func (PySem.W.fnOf "__init__" "Unread.__init__" (defArgs s_Unread___init__) (defBody s_Unread___init__) (defScope s_Unread___init__) .none kV18 dc18 pm18 an18 cd18 ct18), sl18⟩) (c18 : PySem.W.codeIn K cd18 "Unread.__init__" = true) (k18 : PySem.W.keepIn K (.ref a_Unread___init__) = true)
    (a19 : PySem.W.nsIn K mainGlobals "read_house" = some (some (.ref a_read_house_3)))
    (l19 : K.lookup a_read_house_3 = some ⟨oc19, od19, .func (PySem.W.fnOf "read_house" "read_house" (defArgs s_read_house_3) (defBody s_read_house_3) (defScope s_read_house_3) .none kV19 dc19 pm19 an19 cd19 ct19), sl19⟩) (c19 : PySem.W.codeIn K cd19 "read_house" = true) (k19 : PySem.W.keepIn K (.ref a_read_house_3) = true)
    (a20 : PySem.W.nsIn K mainGlobals "is_saying" = some (some (.ref a_is_saying_a)))
    (l20 : K.lookup a_is_saying_a = some ⟨oc20, od20, .func (PySem.W.fnOf "is_saying" "is_saying" (defArgs s_is_saying_a) (defBody s_is_saying_a) (defScope s_is_saying_a) .none kV20 dc20 pm20 an20 cd20 ct20), sl20⟩) (c20 : PySem.W.codeIn K cd20 "is_saying" = true) (k20 : PySem.W.keepIn K (.ref a_is_saying_a) = true)
    (a21 : PySem.W.nsIn K mainGlobals "saying_of" = some (some (.ref a_saying_of_2)))
    (l21 : K.lookup a_saying_of_2 = some ⟨oc21, od21, .func (PySem.W.fnOf "saying_of" "saying_of" (defArgs s_saying_of_2) (defBody s_saying_of_2) (defScope s_saying_of_2) .none kV21 dc21 pm21 an21 cd21 ct21), sl21⟩) (c21 : PySem.W.codeIn K cd21 "saying_of" = true) (k21 : PySem.W.keepIn K (.ref a_saying_of_2) = true)
    (a22 : PySem.W.nsIn K mainGlobals "read_saying" = some (some (.ref a_read_saying_3)))
    (l22 : K.lookup a_read_saying_3 = some ⟨oc22, od22, .func (PySem.W.fnOf "read_saying" "read_saying" (defArgs s_read_saying_3) (defBody s_read_saying_3) (defScope s_read_saying_3) .none kV22 dc22 pm22 an22 cd22 ct22), sl22⟩) (c22 : PySem.W.codeIn K cd22 "read_saying" = true) (k22 : PySem.W.keepIn K (.ref a_read_saying_3) = true)
    (a23 : PySem.W.findIn K (.ref a_House) "base" = some (some (.ref a_House_base))) (i23 : PySem.W.isFn K (.ref a_House_base) = true)
    (l23 : K.lookup a_House_base = some ⟨oc23, od23, .func (PySem.W.fnOf "base" "House.base" (defArgs s_House_base) (defBody s_House_base) (defScope s_House_base) .none kV23 dc23 pm23 an23 cd23 ct23), sl23⟩) (c23 : PySem.W.codeIn K cd23 "House.base" = true) (k23 : PySem.W.keepIn K (.ref a_House_base) = true)
    (a24 : PySem.W.findIn K (.ref a_House) "beginning" = some (some (.ref a_House_beginning))) (i24 : PySem.W.isFn K (.ref a_House_beginning) = true)
    (l24 : K.lookup a_House_beginning = some ⟨oc24, od24, .func (PySem.W.fnOf "beginning" "House.beginning" (defArgs s_House_beginning) (defBody s_House_beginning) (defScope s_House_beginning) .none kV24 dc24 pm24 an24 cd24 ct24), sl24⟩) (c24 : PySem.W.codeIn K cd24 "House.beginning" = true) (k24 : PySem.W.keepIn K (.ref a_House_beginning) = true)
    (a25 : PySem.W.findIn K (.ref a_House) "__eq__" = some (some (.ref a_House___eq__))) (i25 : PySem.W.isFn K (.ref a_House___eq__) = true)
    (l25 : K.lookup a_House___eq__ = some ⟨oc25, od25, .func (PySem.W.fnOf "__eq__" "House.__eq__" (defArgs s_House___eq__) (defBody s_House___eq__) (defScope s_House___eq__) .none kV25 dc25 pm25 an25 cd25 ct25), sl25⟩) (c25 : PySem.W.codeIn K cd25 "House.__eq__" = true) (k25 : PySem.W.keepIn K (.ref a_House___eq__) = true)
    (a26 : PySem.W.nsIn K mainGlobals "law" = some (some (.ref a_law)))
    (l26 : K.lookup a_law = some ⟨oc26, od26, .func (PySem.W.fnOf "law" "law" (defArgs s_law) (defBody s_law) (defScope s_law) .none kV26 dc26 pm26 an26 (.ref cA) ct26), sl26⟩) (c26 : PySem.W.codeIn K (.ref cA) "law" = true) (k26 : PySem.W.keepIn K (.ref a_law) = true)
    {ddA : Option Addr} {vsA : Array Value} {slA : Array (Option Value)} (tv : K.lookup cA = some ⟨.type "code", ddA, .fields vsA, slA⟩) (tp : vsA[11]? = some (.ref Pt)) (th : PySem.W.codeHdIn K cA Pt = true) (tn : K.lookup Pt = none)
    (xf_BadHouse : PySem.W.typeIn K (.ref a_BadHouse___init__) = some (.type "function"))
    (xf_Unread : PySem.W.typeIn K (.ref a_Unread___init__) = some (.type "function"))
    (n_House_kept_base : PySem.W.findIn K (.ref a_House) "kept_base" = some none)
    (n_House_kept_beginning : PySem.W.findIn K (.ref a_House) "kept_beginning" = some none)
    (n_House_sums : PySem.W.findIn K (.ref a_House) "sums" = some none)
    (mk_House : PySem.W.makesIn K a_House = true) (kc_House : PySem.W.keepIn K (.ref a_House) = true)
    (ia_House : PySem.W.findIn K (.ref a_House) "__class__" = some (some (.builtin "object.__class__"))) (in_House : PySem.W.specialIn K (.builtin "object.__class__") "__get__" = some (some (.builtin "getset_descriptor.__get__"))) (it_House : PySem.W.takesIn K (.builtin "object.__class__") = some true) (im_House : PySem.W.mroIn K a_House (.type "object") = some true)
    (q_FIGURES : PySem.W.nsIn K mainGlobals "FIGURES" = some (some (Value.str "0123456789" tk_FIGURES)))
    (q_LEAST_BASE : PySem.W.nsIn K mainGlobals "LEAST_BASE" = some (some (Value.int 2 tk_LEAST_BASE)))
    (q_MOST_BASE : PySem.W.nsIn K mainGlobals "MOST_BASE" = some (some (Value.int 30 tk_MOST_BASE)))
    (q_MOST_FIGURES : PySem.W.nsIn K mainGlobals "MOST_FIGURES" = some (some (Value.int 200 tk_MOST_FIGURES)))
    (z_ValueError : PySem.W.nsIn K mainGlobals "ValueError" = some none)
    (z_abs : PySem.W.nsIn K mainGlobals "abs" = some none)
    (z_all : PySem.W.nsIn K mainGlobals "all" = some none)
    (z_bool : PySem.W.nsIn K mainGlobals "bool" = some none)
    (z_int : PySem.W.nsIn K mainGlobals "int" = some none)
    (z_isinstance : PySem.W.nsIn K mainGlobals "isinstance" = some none)
    (z_len : PySem.W.nsIn K mainGlobals "len" = some none)
    (z_list : PySem.W.nsIn K mainGlobals "list" = some none)
    (z_min : PySem.W.nsIn K mainGlobals "min" = some none)
    (z_range : PySem.W.nsIn K mainGlobals "range" = some none)
    (z_str : PySem.W.nsIn K mainGlobals "str" = some none)
    (z_tuple : PySem.W.nsIn K mainGlobals "tuple" = some none)
    : ∃ (fd : FuncData) (cA Pt : Addr), h.get? Pt = some { cls := .none, data := .fields #[] } ∧ K.lookup Pt = none ∧ PySem.W.codeHdIn K cA Pt = true ∧ (∀ (s : Shared) (v : Value), BindsTo s fd ⟨[v], []⟩ [("_law_script", v)]) ∧ ∀ base : Heap, K.In base → base.Ns mainGlobals mg → LamX.TabB base mg cA Pt → FnOkG l.prog w K mg base CX0 9 fa fd ["_law_script"] (spLawT K Pt) := by
  have e := hfa.symm.trans (PySem.W.mg_of X G a26)
  cases e
  have tx_BadHouse : ∀ c C fl, (xcl a_BadHouse a_Unread) c = some (C, fl) → PySem.W.exmOne K (.ref C) (.ref a_BadHouse) = some (Xn.is c .BadHouse) := by
    intro c C fl h
    cases c with
    | BadHouse =>
      cases (show some (a_BadHouse, (some "part" : Option Str)) = some (C, fl) from h)
      exact PySem.W.exm_ref xs_BadHouse xh_BadHouse xt_BadHouse xe_BadHouse
    | Unread =>
      cases (show some (a_Unread, (some "row" : Option Str)) = some (C, fl) from h)
      exact PySem.W.exm_ref xs_BadHouse xh_BadHouse xt_BadHouse xp_Unread_BadHouse
    | _ => exact absurd (show (none : Option (Addr × Option Str)) = some (C, fl) from h) (by simp)
  have tx_Unread : ∀ c C fl, (xcl a_BadHouse a_Unread) c = some (C, fl) → PySem.W.exmOne K (.ref C) (.ref a_Unread) = some (Xn.is c .Unread) := by
    intro c C fl h
    cases c with
    | BadHouse =>
      cases (show some (a_BadHouse, (some "part" : Option Str)) = some (C, fl) from h)
      exact PySem.W.exm_ref xs_Unread xh_Unread xt_Unread xp_BadHouse_Unread
    | Unread =>
      cases (show some (a_Unread, (some "row" : Option Str)) = some (C, fl) from h)
      exact PySem.W.exm_ref xs_Unread xh_Unread xt_Unread xe_Unread
    | _ => exact absurd (show (none : Option (Addr × Option Str)) = some (C, fl) from h) (by simp)
  have T : Tx K mg a__law_draw a__law_number_3 a__law_house_in_2 a__law_pen a__law_beginning a__law_row_4 a__law_saying_in a__law_spoilt_2 a__law_told a_figures_of a_is_whole a_is_base a_is_count a_is_listing a_is_beginning a_BadHouse___init__ a_House___init__ a_Unread___init__ a_read_house_3 a_is_saying_a a_saying_of_2 a_read_saying_3 a_House_base a_House_beginning a_House___eq__ fa a_House a_BadHouse a_Unread tk_FIGURES tk_LEAST_BASE tk_MOST_BASE tk_MOST_FIGURES := ⟨PySem.W.mg_none_of X G z_ValueError, PySem.W.mg_none_of X G z_abs, PySem.W.mg_none_of X G z_all, PySem.W.mg_none_of X G z_bool, PySem.W.mg_none_of X G z_int, PySem.W.mg_none_of X G z_isinstance, PySem.W.mg_none_of X G z_len, PySem.W.mg_none_of X G z_list, PySem.W.mg_none_of X G z_min, PySem.W.mg_none_of X G z_range, PySem.W.mg_none_of X G z_str, PySem.W.mg_none_of X G z_tuple, PySem.W.mg_of X G q_FIGURES, PySem.W.mg_of X G q_LEAST_BASE, PySem.W.mg_of X G q_MOST_BASE, PySem.W.mg_of X G q_MOST_FIGURES, PySem.W.mg_of X G a1, k1, PySem.W.mg_of X G a2, k2, PySem.W.mg_of X G a3, k3, PySem.W.mg_of X G a4, k4, PySem.W.mg_of X G a5, k5, PySem.W.mg_of X G a6, k6, PySem.W.mg_of X G a7, k7, PySem.W.mg_of X G a8, k8, PySem.W.mg_of X G a9, k9, PySem.W.mg_of X G a10, k10, PySem.W.mg_of X G a11, k11, PySem.W.mg_of X G a12, k12, PySem.W.mg_of X G a13, k13, PySem.W.mg_of X G a14, k14, PySem.W.mg_of X G a15, k15, PySem.W.mg_of X G a19, k19, PySem.W.mg_of X G a20, k20, PySem.W.mg_of X G a21, k21, PySem.W.mg_of X G a22, k22, PySem.W.mg_of X G a26, k26, PySem.W.mg_of X G ac_House, ⟨pg_House, hd_House, po_House, sa_House⟩, n_House_kept_base, n_House_kept_beginning, n_House_sums, ⟨a23, i23, k23⟩, ⟨a24, i24, k24⟩, ⟨a25, i25, k25⟩, ⟨mk_House, a17, i17, kc_House⟩, PySem.W.mg_of X G ac_BadHouse, ⟨⟨_, _, _, _, _, _, _, _, _, _, _, _, _, _, rl_BadHouse⟩, xz_BadHouse, xs_BadHouse, xt_BadHouse, xk_BadHouse⟩, a16, xf_BadHouse, xno_BadHouse, PySem.W.exm_ref xs_BadHouse xh_BadHouse xt_BadHouse xe_BadHouse, kit_T (by decide +kernel) xq_BadHouse, ⟨xg_BadHouse, xa_BadHouse, xs_BadHouse, xh_BadHouse, xc_BadHouse, xn_BadHouse, xo_BadHouse, xm_BadHouse⟩, PySem.W.mg_of X G ac_Unread, ⟨⟨_, _, _, _, _, _, _, _, _, _, _, _, _, _, rl_Unread⟩, xz_Unread, xs_Unread, xt_Unread, xk_Unread⟩, a18, xf_Unread, xno_Unread, PySem.W.exm_ref xs_Unread xh_Unread xt_Unread xe_Unread, kit_T (by decide +kernel) xq_Unread, ⟨xg_Unread, xa_Unread, xs_Unread, xh_Unread, xc_Unread, xn_Unread, xo_Unread, xm_Unread⟩, tx_BadHouse, tx_Unread, kit_T (by decide +kernel) xj_Unread_ValueError, xv_ValueError, ⟨⟨pg_House, hd_House, po_House, sa_House⟩, ia_House, in_House, it_House, im_House, if_pos (beq_self_eq_true _)⟩⟩
  have F1 := fun_mk (st := s__law_draw) l1 c1 k1
  have b1 := F1.binds (ps := ["_law_pen_here", "_law_many"]) fun _ _ _ _ _ _ us hl => match us, hl with | [_, _], _ => rfl
  have F2 := fun_mk (st := s__law_number_3) l2 c2 k2
  have b2 := F2.binds (ps := ["_law_word"]) fun _ _ _ _ _ _ us hl => match us, hl with | [_], _ => rfl
  have F3 := fun_mk (st := s__law_house_in_2) l3 c3 k3
  have b3 := F3.binds (ps := ["_law_words"]) fun _ _ _ _ _ _ us hl => match us, hl with | [_], _ => rfl
  have F4 := fun_mk (st := s__law_pen) l4 c4 k4
  have b4 := F4.binds (ps := ["_law_script"]) fun _ _ _ _ _ _ us hl => match us, hl with | [_], _ => rfl
  have F5 := fun_mk (st := s__law_beginning) l5 c5 k5
  have b5 := F5.binds (ps := ["_law_pen_here", "_law_base", "_law_most"]) fun _ _ _ _ _ _ us hl => match us, hl with | [_, _, _], _ => rfl
  have F6 := fun_mk (st := s__law_row_4) l6 c6 k6
  have b6 := F6.binds (ps := ["_law_pen_here"]) fun _ _ _ _ _ _ us hl => match us, hl with | [_], _ => rfl
  have F7 := fun_mk (st := s__law_saying_in) l7 c7 k7
  have b7 := F7.binds (ps := ["_law_words"]) fun _ _ _ _ _ _ us hl => match us, hl with | [_], _ => rfl
  have F8 := fun_mk (st := s__law_spoilt_2) l8 c8 k8
  have b8 := F8.binds (ps := ["_law_pen_here", "_law_row_here"]) fun _ _ _ _ _ _ us hl => match us, hl with | [_, _], _ => rfl
  have F9 := fun_mk (st := s__law_told) l9 c9 k9
  have b9 := F9.binds (ps := ["_law_deed"]) fun _ _ _ _ _ _ us hl => match us, hl with | [_], _ => rfl
  have F10 := fun_mk (st := s_figures_of) l10 c10 k10
  have b10 := F10.binds (ps := ["word"]) fun _ _ _ _ _ _ us hl => match us, hl with | [_], _ => rfl
  have F11 := fun_mk (st := s_is_whole) l11 c11 k11
  have b11 := F11.binds (ps := ["thing"]) fun _ _ _ _ _ _ us hl => match us, hl with | [_], _ => rfl
  have F12 := fun_mk (st := s_is_base) l12 c12 k12
  have b12 := F12.binds (ps := ["thing"]) fun _ _ _ _ _ _ us hl => match us, hl with | [_], _ => rfl
  have F13 := fun_mk (st := s_is_count) l13 c13 k13
  have b13 := F13.binds (ps := ["thing"]) fun _ _ _ _ _ _ us hl => match us, hl with | [_], _ => rfl
  have F14 := fun_mk (st := s_is_listing) l14 c14 k14
  have b14 := F14.binds (ps := ["thing"]) fun _ _ _ _ _ _ us hl => match us, hl with | [_], _ => rfl
  have F15 := fun_mk (st := s_is_beginning) l15 c15 k15
  have b15 := F15.binds (ps := ["base", "thing"]) fun _ _ _ _ _ _ us hl => match us, hl with | [_, _], _ => rfl
  have F16 := fun_mk (st := s_BadHouse___init__) l16 c16 k16
  have b16 := F16.binds (ps := ["self", "part"]) fun _ _ _ _ _ _ us hl => match us, hl with | [_, _], _ => rfl
  have F17 := fun_mk (st := s_House___init__) l17 c17 k17
  have b17 := F17.binds (ps := ["self", "k", "beginning"]) fun _ _ _ _ _ _ us hl => match us, hl with | [_, _, _], _ => rfl
  have F18 := fun_mk (st := s_Unread___init__) l18 c18 k18
  have b18 := F18.binds (ps := ["self", "row"]) fun _ _ _ _ _ _ us hl => match us, hl with | [_, _], _ => rfl
  have F19 := fun_mk (st := s_read_house_3) l19 c19 k19
  have b19 := F19.binds (ps := ["text"]) fun _ _ _ _ _ _ us hl => match us, hl with | [_], _ => rfl
  have F20 := fun_mk (st := s_is_saying_a) l20 c20 k20
  have b20 := F20.binds (ps := ["thing"]) fun _ _ _ _ _ _ us hl => match us, hl with | [_], _ => rfl
  have F21 := fun_mk (st := s_saying_of_2) l21 c21 k21
  have b21 := F21.binds (ps := ["words"]) fun _ _ _ _ _ _ us hl => match us, hl with | [_], _ => rfl
  have F22 := fun_mk (st := s_read_saying_3) l22 c22 k22
  have b22 := F22.binds (ps := ["text"]) fun _ _ _ _ _ _ us hl => match us, hl with | [_], _ => rfl
  have F23 := fun_mk (st := s_House_base) l23 c23 k23
  have b23 := F23.binds (ps := ["self"]) fun _ _ _ _ _ _ us hl => match us, hl with | [_], _ => rfl
  have F24 := fun_mk (st := s_House_beginning) l24 c24 k24
  have b24 := F24.binds (ps := ["self"]) fun _ _ _ _ _ _ us hl => match us, hl with | [_], _ => rfl
  have F25 := fun_mk (st := s_House___eq__) l25 c25 k25
  have b25 := F25.binds (ps := ["self", "other"]) fun _ _ _ _ _ _ us hl => match us, hl with | [_, _], _ => rfl
  have F26 := fun_mk (st := s_law) l26 c26 k26
  refine ⟨PySem.W.fnOf "law" "law" (defArgs s_law) (defBody s_law) (defScope s_law) .none kV26 dc26 pm26 an26 (.ref cA) ct26, cA, Pt, (tab _ (PySem.W.mg_of X G a26)).at l26 rfl th, tn, th, fun s v => .of_eq rfl, fun base _ _ TB => ?_⟩
  have G1 := ok__law_draw (P := l.prog) (w := w) (base := base) F1 T
  have G2 := ok__law_number_3 (P := l.prog) (w := w) (base := base) F2 T
  have G3 := ok__law_house_in_2 (P := l.prog) (w := w) (base := base) F3 T G2 b2
  have G4 := ok__law_pen (P := l.prog) (w := w) (base := base) F4 T
  have G5 := ok__law_beginning (P := l.prog) (w := w) (base := base) F5 T G1 b1
  have G6 := ok__law_row_4 (P := l.prog) (w := w) (base := base) F6 T G5 b5 G1 b1
  have G7 := ok__law_saying_in (P := l.prog) (w := w) (base := base) F7 T G2 b2
  have G8 := ok__law_spoilt_2 (P := l.prog) (w := w) (base := base) F8 T G1 b1
  have G10 := ok_figures_of (P := l.prog) (w := w) (base := base) F10 T
  have G11 := ok_is_whole (P := l.prog) (w := w) (base := base) F11 T
  have G12 := ok_is_base (P := l.prog) (w := w) (base := base) F12 T G11 b11
  have G13 := ok_is_count (P := l.prog) (w := w) (base := base) F13 T G11 b11
  have G14 := ok_is_listing (P := l.prog) (w := w) (base := base) F14 T
  have G15 := ok_is_beginning (P := l.prog) (w := w) (base := base) F15 T G13 b13 G14 b14
  have G16 := ok_BadHouse___init__ (P := l.prog) (w := w) (base := base) F16 T
  have G17 := ok_House___init__ (P := l.prog) (w := w) (base := base) F17 T G12 b12 G15 b15 G16 b16
  have GH18 := okh_Unread___init__ (P := l.prog) (w := w) (base := base) F18 T
  have G18 := ok_Unread___init__ (P := l.prog) (w := w) (base := base) F18 T
  have G19 := ok_read_house_3 (P := l.prog) (w := w) (base := base) F19 T G10 b10 G17 b17 G18 b18 GH18
  have G20 := ok_is_saying_a (P := l.prog) (w := w) (base := base) F20 T G13 b13
  have G21 := ok_saying_of_2 (P := l.prog) (w := w) (base := base) F21 T G10 b10 G20 b20
  have G22 := ok_read_saying_3 (P := l.prog) (w := w) (base := base) F22 T G21 b21 G18 b18
  have G23 := ok_House_base (P := l.prog) (w := w) (base := base) F23 T
  have G24 := ok_House_beginning (P := l.prog) (w := w) (base := base) F24 T
  have G25 := ok_House___eq__ (P := l.prog) (w := w) (base := base) F25 T G23 b23 G24 b24
  have G26 := ok_law (P := l.prog) (w := w) (base := base) l26 c26 TB T G1 b1 G3 b3 G4 b4 G6 b6 G7 b7 G8 b8 F9 b9 G19 b19 G22 b22 G17 b17 G25 b25
  exact G26
theorem walk {l : PySem.W.OpenLaw} {q : Program} {loose : List Str} {XP : (Str → Option Value) → Heap → Prop} {YP : World → Heap → Prop} {d : DefRec} {K : Params → PySem.W.Frag} (hn : l.most = some 63) (hdf : d.params.defaults = [])
    (hY : ∀ (w : World) (h : Heap), YP w h → (K w.params).In h)
    (hrec : ((recsOf q).any fun e => e.name == ("law" : Str)) = true)
    (F : ∀ (w : World) (mg : Str → Option Value) (fa : Addr) (h : Heap), (K w.params).In h → h.Ns mainGlobals mg → mg d.name = some (.ref fa) → (∀ fb, mg "law" = some (.ref fb) → TabAt (K w.params) fb h) →
      ∃ (fd : FuncData) (cA Pt : Addr), h.get? Pt = some { cls := .none, data := .fields #[] } ∧ (K w.params).lookup Pt = none ∧ PySem.W.codeHdIn (K w.params) cA Pt = true ∧ (∀ (s : Shared) (u : Value), BindsTo s fd ⟨[u], []⟩ [("_law_script", u)]) ∧ ∀ base : Heap, (K w.params).In base → base.Ns mainGlobals mg → LamX.TabB base mg cA Pt → FnOkG l.prog w (K w.params) mg base CX0 9 fa fd ["_law_script"] (spLawT (K w.params) Pt)) :
    PySem.W.WalkO q loose XP YP l.row.toRowW d [] (fun f vs => PySem.call f vs) :=
  walk_ofTG (k := 9) (x := "_law_script") (nm := "law") hn hdf ⟨⟨rfl, by decide, by decide⟩, rfl⟩ hrec hY F
end L_k89
open PySem PySem.W PyProof.Rows
set_option maxRecDepth 100000 in
set_option maxHeartbeats 0 in
theorem PySem.Challenge.cw_askback_k89_texts_of_no_house_and_no_say_holds : PySem.Challenge.rw_askback_k89_texts_of_no_house_and_no_say.Holds := by
  w_on; o_law; k_head; (case hw => w_witness2)
  k_fill
  refine L_k89.walk (l := PySem.Challenge.rw_askback_k89_texts_of_no_house_and_no_say) rfl rfl (fun w h Y => PySem.W.km_in_of Y) (by decide +kernel) ?F
  case F =>
    intro w mg fa h KX G hmg tab
    refine' L_k89.all_mk KX G hmg tab ?ac_House ?pg_House ?hd_House ?po_House ?sa_House ?ac_BadHouse ?rl_BadHouse ?xs_BadHouse ?xt_BadHouse ?xk_BadHouse ?xe_BadHouse ?xq_BadHouse ?xg_BadHouse ?xa_BadHouse ?xh_BadHouse ?xc_BadHouse ?xn_BadHouse ?xo_BadHouse ?xm_BadHouse ?xz_BadHouse ?xno_BadHouse ?ac_Unread ?rl_Unread ?xs_Unread ?xt_Unread ?xk_Unread ?xe_Unread ?xq_Unread ?xg_Unread ?xa_Unread ?xh_Unread ?xc_Unread ?xn_Unread ?xo_Unread ?xm_Unread ?xz_Unread ?xno_Unread ?xp_Unread_BadHouse ?xp_BadHouse_Unread ?xj_Unread_ValueError ?xv_ValueError ?a1 ?l1 ?c1 ?k1 ?a2 ?l2 ?c2 ?k2 ?a3 ?l3 ?c3 ?k3 ?a4 ?l4 ?c4 ?k4 ?a5 ?l5 ?c5 ?k5 ?a6 ?l6 ?c6 ?k6 ?a7 ?l7 ?c7 ?k7 ?a8 ?l8 ?c8 ?k8 ?a9 ?l9 ?c9 ?k9 ?a10 ?l10 ?c10 ?k10 ?a11 ?l11 ?c11 ?k11 ?a12 ?l12 ?c12 ?k12 ?a13 ?l13 ?c13 ?k13 ?a14 ?l14 ?c14 ?k14 ?a15 ?l15 ?c15 ?k15 ?a16 ?i16 ?l16 ?c16 ?k16 ?a17 ?i17 ?l17 ?c17 ?k17 ?a18 ?i18 ?l18 ?c18 ?k18 ?a19 ?l19 ?c19 ?k19 ?a20 ?l20 ?c20 ?k20 ?a21 ?l21 ?c21 ?k21 ?a22 ?l22 ?c22 ?k22 ?a23 ?i23 ?l23 ?c23 ?k23 ?a24 ?i24 ?l24 ?c24 ?k24 ?a25 ?i25 ?l25 ?c25 ?k25 ?a26 ?l26 ?c26 ?k26 ?tv ?tp ?th ?tn ?xf_BadHouse ?xf_Unread ?n_House_kept_base ?n_House_kept_beginning ?n_House_sums ?mk_House ?kc_House ?ia_House ?in_House ?it_House ?im_House ?q_FIGURES ?q_LEAST_BASE ?q_MOST_BASE ?q_MOST_FIGURES ?z_ValueError ?z_abs ?z_all ?z_bool ?z_int ?z_isinstance ?z_len ?z_list ?z_min ?z_range ?z_str ?z_tuple
    (case ac_House => k_is)
    (case pg_House => k_is)
    (case hd_House => k_is)
    (case po_House => k_is)
    (case sa_House => k_is)
    (case ac_BadHouse => k_is)
    (case rl_BadHouse => k_is)
    (case xs_BadHouse => k_is)
    (case xt_BadHouse => k_is)
    (case xk_BadHouse => k_is)
    (case xe_BadHouse => k_is)
    (case xq_BadHouse => k_is)
    (case xg_BadHouse => k_is)
    (case xa_BadHouse => k_is)
    (case xh_BadHouse => k_is)
    (case xc_BadHouse => k_is)
    (case xn_BadHouse => k_is)
    (case xo_BadHouse => k_is)
    (case xm_BadHouse => k_is)
    (case xz_BadHouse => k_is)
    (case xno_BadHouse => k_is)
    (case ac_Unread => k_is)
    (case rl_Unread => k_is)
    (case xs_Unread => k_is)
    (case xt_Unread => k_is)
    (case xk_Unread => k_is)
    (case xe_Unread => k_is)
    (case xq_Unread => k_is)
    (case xg_Unread => k_is)
    (case xa_Unread => k_is)
    (case xh_Unread => k_is)
    (case xc_Unread => k_is)
    (case xn_Unread => k_is)
    (case xo_Unread => k_is)
    (case xm_Unread => k_is)
    (case xz_Unread => k_is)
    (case xno_Unread => k_is)
    (case xp_Unread_BadHouse => k_is)
    (case xp_BadHouse_Unread => k_is)
    (case xj_Unread_ValueError => k_is)
    (case xv_ValueError => k_is)
    (case a1 => k_is)
    (case l1 => k_is)
    (case c1 => k_is)
    (case k1 => k_is)
    (case a2 => k_is)
    (case l2 => k_is)
    (case c2 => k_is)
    (case k2 => k_is)
    (case a3 => k_is)
    (case l3 => k_is)
    (case c3 => k_is)
    (case k3 => k_is)
    (case a4 => k_is)
    (case l4 => k_is)
    (case c4 => k_is)
    (case k4 => k_is)
    (case a5 => k_is)
    (case l5 => k_is)
    (case c5 => k_is)
    (case k5 => k_is)
    (case a6 => k_is)
    (case l6 => k_is)
    (case c6 => k_is)
    (case k6 => k_is)
    (case a7 => k_is)
    (case l7 => k_is)
    (case c7 => k_is)
    (case k7 => k_is)
    (case a8 => k_is)
    (case l8 => k_is)
    (case c8 => k_is)
    (case k8 => k_is)
    (case a9 => k_is)
    (case l9 => k_is)
    (case c9 => k_is)
    (case k9 => k_is)
    (case a10 => k_is)
    (case l10 => k_is)
    (case c10 => k_is)
    (case k10 => k_is)
    (case a11 => k_is)
    (case l11 => k_is)
    (case c11 => k_is)
    (case k11 => k_is)
    (case a12 => k_is)
    (case l12 => k_is)
    (case c12 => k_is)
    (case k12 => k_is)
    (case a13 => k_is)
    (case l13 => k_is)
    (case c13 => k_is)
    (case k13 => k_is)
    (case a14 => k_is)
    (case l14 => k_is)
    (case c14 => k_is)
    (case k14 => k_is)
    (case a15 => k_is)
    (case l15 => k_is)
    (case c15 => k_is)
    (case k15 => k_is)
    (case a16 => k_is)
    (case i16 => k_is)
    (case l16 => k_is)
    (case c16 => k_is)
    (case k16 => k_is)
    (case a17 => k_is)
    (case i17 => k_is)
    (case l17 => k_is)
    (case c17 => k_is)
    (case k17 => k_is)
    (case a18 => k_is)
    (case i18 => k_is)
    (case l18 => k_is)
    (case c18 => k_is)
    (case k18 => k_is)
    (case a19 => k_is)
    (case l19 => k_is)
    (case c19 => k_is)
    (case k19 => k_is)
    (case a20 => k_is)
    (case l20 => k_is)
    (case c20 => k_is)
    (case k20 => k_is)
    (case a21 => k_is)
    (case l21 => k_is)
    (case c21 => k_is)
    (case k21 => k_is)
    (case a22 => k_is)
    (case l22 => k_is)
    (case c22 => k_is)
    (case k22 => k_is)
    (case a23 => k_is)
    (case i23 => k_is)
    (case l23 => k_is)
    (case c23 => k_is)
    (case k23 => k_is)
    (case a24 => k_is)
    (case i24 => k_is)
    (case l24 => k_is)
    (case c24 => k_is)
    (case k24 => k_is)
    (case a25 => k_is)
    (case i25 => k_is)
    (case l25 => k_is)
    (case c25 => k_is)
    (case k25 => k_is)
    (case a26 => k_is)
    (case l26 => k_is)
    (case c26 => k_is)
    (case k26 => k_is)
    (case tv => first | k_is | rfl)
    (case tp => rfl)
    (case th => first | rfl | decide +kernel)
    (case tn => first | rfl | k_is | decide +kernel)
    (case xf_BadHouse => k_is)
    (case xf_Unread => k_is)
    (case n_House_kept_base => k_is)
    (case n_House_kept_beginning => k_is)
    (case n_House_sums => k_is)
    (case mk_House => k_is)
    (case kc_House => k_is)
    (case ia_House => k_is)
    (case in_House => k_is)
    (case it_House => k_is)
    (case im_House => k_is)
    (case q_FIGURES => k_is)
    (case q_LEAST_BASE => k_is)
    (case q_MOST_BASE => k_is)
    (case q_MOST_FIGURES => k_is)
    (case z_ValueError => k_is)
    (case z_abs => k_is)
    (case z_all => k_is)
    (case z_bool => k_is)
    (case z_int => k_is)
    (case z_isinstance => k_is)
    (case z_len => k_is)
    (case z_list => k_is)
    (case z_min => k_is)
    (case z_range => k_is)
    (case z_str => k_is)
    (case z_tuple => k_is)
