import PyProof.Rows.All
import Wide.All
import OpenK.AllK
import Wide.FinOn
import PySem.PyData
import PyProof.P3Statements
import PyProof.EqLayable
import PyProof.Rows.Walk
import HandS.ForMost
import HandS.Zip
import HandS.IsInst
import HandS.Wide
import HandS.WideBits
import HandS.TupAny
import KE.KUnpack
import HandS.Exc
import HandS.ExcOwn
import HandS.ExcCtx
import HandS.Gcd
import KE.KMathGC
import HandS.Text
import HandS.Defaults
import HandS.MakeKwOnly
import HandS.HeadHook2
import HandS.SortInts
import KE.SortCalls
import HandS.HotCalls
import HandS.ExcInit
import HandS.ExcInitHot
import HandS.ExcField
import HandS.WordsExc
import KE.KExcIs
import HandS.Property
import HandS.Star
import HandS.Style
import KE.KTupSum
import PySem.Challenge.RW_fooledortold_k54_near_sums_whole
section
set_option Elab.async false
set_option linter.all false
namespace Pyl
open PySem

/-- data: what a value denotes, without a heap. obj: an instance of the own class number c, by its attributes; exn: a caught exception at a, its dict at d, its attributes -/
inductive Dt where
  | non | bl (b : Bool) | int (i : Int) | str (x : Str) | lst (ds : List Dt) | tup (ds : List Dt) | obj (c : Nat) (fs : List (Str × Dt)) | exn (a : Nat) (d : Option Nat) (fs : List (Str × Dt))

/-- an object that one name of the frame alone holds -/
inductive OD where
  | lst (ds : List Dt)
/-- what a name of the frame holds: nothing known | data | an object of its own | an object of its own that a loop walks just now | a list of its own of lists of its own -/
inductive Slot where
  | non | val (d : Dt) | own (o : OD) | take | mat (dss : List (List Dt))
abbrev Sl := List Slot
/-- what an expression gives: data | an object that a name holds, looked at | a new object -/
inductive R where
  | vis (d : Dt) | bor (d : Dt) | fre (o : OD)
def OD.dt : OD → Dt
  | .lst ds => .lst ds
def R.dt : R → Dt
  | .vis d => d
  | .bor d => d
  | .fre o => o.dt
def R.sh : R → Bool
  | .bor _ => true
  | _ => false

/-! ### expressions -/
abbrev EF := Sl → Option R
abbrev TF := Sl → Option Bool
abbrev AF := Sl → Option (List (Dt × Bool))
def eVar (i : Nat) : EF := fun env => match env[i]? with
  | some (.val d) => some (.vis d)
  | some (.own (.lst ds)) => some (.bor (.lst ds))
  | _ => none
def eC (d : Dt) : EF := fun _ => some (.vis d)
/-- an operation of one, of two data, the answer a scalar or a new object -/
def e1 (p : Dt → Option R) (fa : EF) : EF := fun env => (fa env).bind fun a => p a.dt
def e2 (p : Dt → Dt → Option R) (fa fb : EF) : EF := fun env => (fa env).bind fun a => (fb env).bind fun b => p a.dt b.dt
def aNil : AF := fun _ => some []
def aCons (fa : EF) (fr : AF) : AF := fun env => (fa env).bind fun a => (fr env).bind fun r => some ((a.dt, a.sh) :: r)
/-- all data, none of them borrowed -/
def plain (rs : List (Dt × Bool)) : Option (List Dt) := if rs.any (·.2) then none else some (rs.map (·.1))
def eTup (fa : AF) : EF := fun env => (fa env).bind fun rs => (plain rs).bind fun ds => some (.vis (.tup ds))
def eLst (fa : AF) : EF := fun env => (fa env).bind fun rs => (plain rs).bind fun ds => some (.fre (.lst ds))
def Dt.scalar : Dt → Bool
  | .non | .bl _ | .int _ | .str _ => true
  | _ => false
abbrev FN := List Dt → Option Dt
def eCall (F : FN) (fa : AF) : EF := fun env => (fa env).bind fun rs => (F (rs.map (·.1))).bind fun d => if rs.any (·.2) && !d.scalar then none else some (.vis d)
/-- arguments and keywords -/
def aApp (fa fb : AF) : AF := fun env => (fa env).bind fun a => (fb env).bind fun b => some (a ++ b)
/-- arguments that lack at a call -/
def aDfl (dd : List Dt) : AF := fun _ => some (dd.map fun d => (d, false))
def eIf (ft : TF) (fa fb : EF) : EF := fun env => (ft env).bind fun t => if t then fa env else fb env
/-- and, or, not as values (bools) -/
def eAnd (fa fb : EF) : EF := fun env => match fa env with
  | some (.vis (.bl true)) => fb env
  | some (.vis (.bl false)) => some (.vis (.bl false))
  | _ => none
def eOr (fa fb : EF) : EF := fun env => match fa env with
  | some (.vis (.bl true)) => some (.vis (.bl true))
  | some (.vis (.bl false)) => fb env
  | _ => none
def eNot (fa : EF) : EF := fun env => match fa env with
  | some (.vis (.bl b)) => some (.vis (.bl (!b)))
  | _ => none
/-! ### tests -/
def tVal (fa : EF) : TF := fun env => match fa env with
  | some (.vis (.bl b)) => some b
  | _ => none
def tAnd (a b : TF) : TF := fun env => (a env).bind fun t => if t then b env else some false
def tOr (a b : TF) : TF := fun env => (a env).bind fun t => if t then some true else b env
def tNot (a : TF) : TF := fun env => (a env).bind fun t => some (!t)

/-! ### operations on data -/
def LIM : Nat := 4194304
@[irreducible] def BIG : Nat := 2 ^ 400000
@[irreducible] def DIVB : Nat := 2 ^ 8999
theorem BIG_eq : BIG = 2 ^ 400000 := by unfold BIG; rfl
theorem DIVB_eq : DIVB = 2 ^ 8999 := by unfold DIVB; rfl
def pIntI (c : Int → Int → Option Int) : Dt → Dt → Option R
  | .int i, .int j => (c i j).map fun k => .vis (.int k)
  | _, _ => none
def pAdd : Dt → Dt → Option R
  | .int i, .int j => some (.vis (.int (i + j)))
  | .lst a, .lst b => if a.length + b.length ≤ LIM then some (.fre (.lst (a ++ b))) else none
  | .tup a, .tup b => if a.length + b.length ≤ LIM then some (.vis (.tup (a ++ b))) else none
  | .str a, .str b => if a.length + b.length ≤ LIM then some (.vis (.str (a ++ b))) else none
  | _, _ => none
def pSub : Dt → Dt → Option R := pIntI fun i j => some (i - j)
def pMul : Dt → Dt → Option R
  | .int i, .int j => if i.natAbs < BIG ∧ j.natAbs < BIG then some (.vis (.int (i * j))) else none
  | _, _ => none
def pDiv : Dt → Dt → Option R := pIntI fun i j => if 0 < j ∧ j.natAbs < DIVB then some (i / j) else none
def pMod : Dt → Dt → Option R := pIntI fun i j => if 0 < j then some (i % j) else none
/-- of ints that are not below 0 -/
def pXor : Dt → Dt → Option R := pIntI fun i j => if 0 ≤ i ∧ 0 ≤ j then some ((i.toNat ^^^ j.toNat : Nat) : Int) else none
def pAnd : Dt → Dt → Option R := pIntI fun i j => if 0 ≤ i ∧ 0 ≤ j then some ((i.toNat &&& j.toNat : Nat) : Int) else none
def pOr : Dt → Dt → Option R := pIntI fun i j => if 0 ≤ i ∧ 0 ≤ j then some ((i.toNat ||| j.toNat : Nat) : Int) else none
def pPow : Dt → Dt → Option R := pIntI fun i j => if 0 ≤ j ∧ j ≤ 1000000 ∧ i.natAbs < 2 ^ 64 then some (i ^ j.toNat) else none
def pShl : Dt → Dt → Option R := pIntI fun i j => if 0 ≤ j ∧ j ≤ 100000 ∧ i.natAbs < BIG then some (i * 2 ^ j.toNat) else none
def pShr : Dt → Dt → Option R := pIntI fun i j => if 0 ≤ j then some (i / 2 ^ j.toNat) else none
def pNeg : Dt → Option R
  | .int i => some (.vis (.int (-i)))
  | _ => none
def pCmp (c : Int → Int → Bool) : Dt → Dt → Option R
  | .int i, .int j => some (.vis (.bl (c i j)))
  | _, _ => none
def pLt := pCmp fun i j => decide (i < j)
def pLe := pCmp fun i j => decide (i ≤ j)
def pGt := pCmp fun i j => decide (j < i)
def pGe := pCmp fun i j => decide (j ≤ i)
mutual
def Dt.py : Dt → Option PyData
  | .non => some .none
  | .bl b => some (.bool b)
  | .int i => some (.int i)
  | .str x => some (.str x)
  | .lst ds => (Dt.pyL ds).map .list
  | .tup ds => (Dt.pyL ds).map .tuple
  | .obj _ _ => none
  | .exn _ _ _ => none
def Dt.pyL : List Dt → Option (List PyData)
  | [] => some []
  | d :: ds => (Dt.py d).bind fun p => (Dt.pyL ds).bind fun r => some (p :: r)
end
/-- == of data -/
def eqD (a b : Dt) : Option Bool := (a.py).bind fun p => (b.py).bind fun q => if SeqAt.shaped p && SeqAt.shaped q then some (PyData.eqv p q) else none
def pEq (a b : Dt) : Option R := (eqD a b).map fun t => .vis (.bl t)
def pNe (a b : Dt) : Option R := (eqD a b).map fun t => .vis (.bl (!t))
def Dt.isNon : Dt → Bool
  | .non => true
  | _ => false
def pIsN (a : Dt) : Option R := some (.vis (.bl a.isNon))
def pNotN (a : Dt) : Option R := some (.vis (.bl (!a.isNon)))
def atL {α : Type} (ds : List α) (i : Int) : Option α := if 0 ≤ i then ds[i.toNat]? else if -(ds.length : Int) ≤ i then ds[(i + ds.length).toNat]? else none
def pIx : Dt → Dt → Option R
  | .lst ds, .int i => (atL ds i).map .vis
  | .tup ds, .int i => (atL ds i).map .vis
  | .str z, .int i => if z.length ≤ LIM then (atL z.cps.toList i).map fun c => .vis (.str ⟨#[c]⟩) else none
  | _, _ => none
/-- the bounds of a slice, as the interpreter makes them -/
def sIx (n : Nat) (dflt : Nat) : Option Int → Nat
  | none => dflt
  | some i => if 0 ≤ i then min i.toNat n else (i + n).toNat
def cutD (ds : List Dt) (lo hi : Option Int) : List Dt := (ds.drop (sIx ds.length 0 lo)).take (sIx ds.length ds.length hi - sIx ds.length 0 lo)
abbrev OF := Sl → Option (Option Int)
def oNone : OF := fun _ => some none
def oSome (fa : EF) : OF := fun env => match fa env with
  | some (.vis (.int i)) => some (some i)
  | _ => none
def eSlice (fa : EF) (lo hi : OF) : EF := fun env => (fa env).bind fun a => (lo env).bind fun l => (hi env).bind fun h => match a.dt with
  | .lst ds => some (.fre (.lst (cutD ds l h)))
  | .tup ds => some (.vis (.tup (cutD ds l h)))
  | _ => none
/-! built-in functions -/
def pLen : Dt → Option R
  | .lst ds => some (.vis (.int ds.length))
  | .tup ds => some (.vis (.int ds.length))
  | _ => none
def pInt : Dt → Option R
  | .int i => some (.vis (.int i))
  | .bl b => some (.vis (.int (if b then 1 else 0)))
  | _ => none
def pAbs : Dt → Option R
  | .int i => some (.vis (.int (if i < 0 then -i else i)))
  | _ => none
def intsOf : List Dt → Option (List Int)
  | [] => some []
  | .int i :: ds => (intsOf ds).map (i :: ·)
  | _ => none
def pSum : Dt → Option R
  | .lst ds => (intsOf ds).map fun ns => .vis (.int ns.sum)
  | _ => none
def pMaxL : Dt → Option R
  | .lst ds => (intsOf ds).bind fun ns => match ns with
    | [] => none
    | n :: ns => some (.vis (.int (ns.foldl (fun m x => if x > m then x else m) n)))
  | _ => none
def pMinL : Dt → Option R
  | .lst ds => (intsOf ds).bind fun ns => match ns with
    | [] => none
    | n :: ns => some (.vis (.int (ns.foldl (fun m x => if x < m then x else m) n)))
  | _ => none
/-- an int among ints -/
def inInts : Dt → Dt → Option Bool
  | .int i, .lst ds => (intsOf ds).map fun ns => decide (i ∈ ns)
  | .int i, .tup ds => (intsOf ds).map fun ns => decide (i ∈ ns)
  | _, _ => none
def pIn (a b : Dt) : Option R := (inInts a b).map fun t => .vis (.bl t)
def pNotIn (a b : Dt) : Option R := (inInts a b).map fun t => .vis (.bl (!t))
def pMax2 : Dt → Dt → Option R
  | .int i, .int j => some (.vis (.int (if j > i then j else i)))
  | _, _ => none
def pMin2 : Dt → Dt → Option R
  | .int i, .int j => some (.vis (.int (if j < i then j else i)))
  | _, _ => none
def chooseN : Nat → Nat → Nat
  | _, 0 => 1
  | 0, _ + 1 => 0
  | n + 1, k + 1 => chooseN n k + chooseN n (k + 1)
def pGcd : Dt → Dt → Option R
  | .int i, .int j => some (.vis (.int (Nat.gcd i.natAbs j.natAbs : Nat)))
  | _, _ => none
def pComb : Dt → Dt → Option R
  | .int i, .int j => if 0 ≤ i ∧ i ≤ 9000 ∧ 0 ≤ j then some (.vis (.int (chooseN i.toNat j.toNat : Nat))) else none
  | _, _ => none
@[irreducible] def LCMB : Nat := 2 ^ 13000
theorem LCMB_eq : LCMB = 2 ^ 13000 := by unfold LCMB; rfl
def pLcm : Dt → Dt → Option R
  | .int i, .int j => if i.natAbs < LCMB ∧ j.natAbs < LCMB then some (.vis (.int (Nat.lcm i.natAbs j.natAbs : Nat))) else none
  | _, _ => none
/-- a list of lists of two ints -/
def intPairs : List Dt → Option (List (Int × Int))
  | [] => some []
  | .lst [.int a, .int b] :: ds => (intPairs ds).map ((a, b) :: ·)
  | _ => none
def lexLe (p q : Int × Int) : Bool := if p.1 = q.1 then decide (p.2 ≤ q.2) else decide (p.1 < q.1)
def pairD (p : Int × Int) : Dt := .lst [.int p.1, .int p.2]
def pSorted : Dt → Option R
  | .lst ds => match intsOf ds with
    | some ns => some (.fre (.lst ((ns.mergeSort fun a b => decide (a ≤ b)).map .int)))
    | none => (intPairs ds).map fun ps => .fre (.lst ((ps.mergeSort lexLe).map pairD))
  | _ => none
/-- a op b op' c -/
def eChain (p q : Dt → Dt → Option R) (fa fb fc : EF) : EF := fun env => (fa env).bind fun a => (fb env).bind fun b => match p a.dt b.dt with
  | some (.vis (.bl true)) => (fc env).bind fun c => q b.dt c.dt
  | some (.vis (.bl false)) => some (.vis (.bl false))
  | _ => none
def pList : Dt → Option R
  | .lst ds => some (.fre (.lst ds))
  | .tup ds => some (.fre (.lst ds))
  | _ => none
def pTuple : Dt → Option R
  | .lst ds => some (.vis (.tup ds))
  | .tup ds => some (.vis (.tup ds))
  | _ => none
/-- isinstance(x, T), T a built-in type by its name -/
def Dt.ty : Dt → Option String
  | .non => some "NoneType"
  | .bl _ => some "bool"
  | .int _ => some "int"
  | .str _ => some "str"
  | .lst _ => some "list"
  | .tup _ => some "tuple"
  | .obj _ _ => none
  | .exn _ _ _ => none
def isTy (T : String) (d : Dt) : Option Bool := d.ty.map fun t => t == T || (t == "bool" && T == "int")
def pIsi (T : String) (d : Dt) : Option R := (isTy T d).map fun b => .vis (.bl b)

/-! ### what a loop or a comprehension walks -/
abbrev IF := Sl → Option (List Dt × Bool)
def iSeq (fa : EF) : IF := fun env => (fa env).bind fun a => match a.dt with
  | .lst ds => some (ds, a.sh)
  | .tup ds => some (ds, a.sh)
  | _ => none
def rngD (lo : Int) (n : Nat) : List Dt := (List.range n).map fun i : Nat => .int (lo + (i : Int))
def iRange1 (fa : EF) : IF := fun env => match fa env with
  | some (.vis (.int n)) => if n < 4611686018427387904 ∧ -4611686018427387904 ≤ n then some (rngD 0 n.toNat, false) else none
  | _ => none
def iRange2 (fa fb : EF) : IF := fun env => (fa env).bind fun a => (fb env).bind fun b => match a.dt, b.dt with
  | .int lo, .int hi => if -4611686018427387904 ≤ lo ∧ lo < 4611686018427387904 ∧ -4611686018427387904 ≤ hi ∧ hi < 4611686018427387904 then some (rngD lo (hi - lo).toNat, false) else none
  | _, _ => none
/-- how many numbers range(a, b, c) has, c above 0 or -1 -/
def stepN (a b c : Int) : Nat := if 0 < c then (if a < b then ((b - a - 1) / c + 1).toNat else 0) else (a - b).toNat
def stepD (a c : Int) (n : Nat) : List Dt := (List.range n).map fun k : Nat => .int (a + (k : Int) * c)
def iRange3 (fa fb fc : EF) : IF := fun env => (fa env).bind fun a => (fb env).bind fun b => (fc env).bind fun c => match a.dt, b.dt, c.dt with
  | .int i, .int j, .int k => if ((0 < k ∧ k < 1073741824) ∨ k = -1) ∧ (-1099511627776 ≤ i ∧ i ≤ 1099511627776) ∧ -1099511627776 ≤ j ∧ j ≤ 1099511627776 then some (stepD i k (stepN i j k), false) else none
  | _, _, _ => none
def seqOf : Dt → Option (List Dt)
  | .lst ds => some ds
  | .tup ds => some ds
  | _ => none
def iZip (fa fb : EF) : IF := fun env => (fa env).bind fun a => (fb env).bind fun b => (seqOf a.dt).bind fun xs => (seqOf b.dt).bind fun ys =>
  some (List.zipWith (fun x y => Dt.tup [x, y]) xs ys, a.sh || b.sh)
/-- targets -/
abbrev GF := Dt → Sl → Option Sl
def gN (i : Nat) : GF := fun d env => some (env.set i (.val d))
def gsN : List Nat → List Dt → Sl → Option Sl
  | [], [], env => some env
  | i :: is, d :: ds, env => gsN is ds (env.set i (.val d))
  | _, _, _ => none
def gT (is : List Nat) : GF := fun d env => match d with
  | .tup ds => gsN is ds env
  | .lst ds => gsN is ds env
  | _ => none
def wipeS (env : Sl) : List Nat → Sl
  | [] => env
  | i :: is => (wipeS env is).set i .non
/-- one turn of a comprehension -/
def compG (env : Sl) (own : List Nat) (g : GF) (t : TF) (e : EF) (d : Dt) : Option (List Dt) := (g d (wipeS env own)).bind fun env' => (t env').bind fun b => if b then (e env').bind fun r => if r.sh then none else some [r.dt] else some []
def compL (g : Dt → Option (List Dt)) : List Dt → Option (List Dt)
  | [] => some []
  | d :: ds => (g d).bind fun o => (compL g ds).bind fun r => some (o ++ r)
def tYes : TF := fun _ => some true
def eComp (own : List Nat) (i : IF) (g : GF) (t : TF) (e : EF) : EF := fun env => (i env).bind fun ds => (compL (compG env own g t e) ds.1).bind fun out => if ds.1.length ≤ LIM then some (.fre (.lst out)) else none

/-! ### statements -/
structure En where
  nx : Sl → Prop
  rt : Dt → Prop
  bk : Sl → Prop
  ct : Sl → Prop
  er : Nat → List (Str × Dt) → Sl → Prop
abbrev WS := En → Sl → Prop
def wNil : WS := fun D env => D.nx env
def wSeq (a b : WS) : WS := fun D env => ∃ M : Sl → Prop, a { D with nx := M } env ∧ ∀ e, M e → b D e
def R.slot : R → Slot
  | .vis d => .val d
  | .fre o => .own o
  | .bor _ => .non
def wAsg (i : Nat) (e : EF) : WS := fun D env => ∃ r, e env = some r ∧ r.sh = false ∧ D.nx (env.set i r.slot)
def wUnp (is : List Nat) (e : EF) : WS := fun D env => ∃ d env', e env = some (.vis d) ∧ gT is d env = some env' ∧ D.nx env'
def wRet (e : EF) : WS := fun D env => ∃ r, e env = some r ∧ r.sh = false ∧ D.rt r.dt
def wRetN : WS := fun D _ => D.rt .non
def wIf (t : TF) (a b : WS) : WS := fun D env => ∃ c, t env = some c ∧ ((c = true → a D env) ∧ (c = false → b D env))
def wDrop (e : EF) : WS := fun D env => ∃ r, e env = some r ∧ D.nx env
def wApp (i : Nat) (e : EF) : WS := fun D env => ∃ ds r, env[i]? = some (.own (.lst ds)) ∧ e env = some r ∧ r.sh = false ∧ ds.length < LIM ∧ D.nx (env.set i (.own (.lst (ds ++ [r.dt]))))
/-- xs[k] = e -/
def wPut (i : Nat) (k e : EF) : WS := fun D env => ∃ ds r j, env[i]? = some (.own (.lst ds)) ∧ e env = some r ∧ r.sh = false ∧ k env = some (.vis (.int j)) ∧ -(ds.length : Int) ≤ j ∧ j < ds.length ∧ D.nx (env.set i (.own (.lst (ds.set (if 0 ≤ j then j else j + ds.length).toNat r.dt))))
/-- never come to -/
def wDead : WS := fun _ _ => False
def wBrk : WS := fun D env => D.bk env
def wCnt : WS := fun D env => D.ct env
def wFor (fi : IF) (g : GF) (b : WS) : WS := fun D env => ∃ ds, fi env = some (ds, false) ∧ ∃ I : Nat → Sl → Prop, I 0 env ∧
  (∀ i env d, ds[i]? = some d → I i env → ∃ env', g d env = some env' ∧ b { D with nx := I (i + 1), bk := D.nx, ct := I (i + 1) } env') ∧ ∀ env, I ds.length env → D.nx env
/-- over a list of one's own, that the body leaves alone -/
def wForO (k : Nat) (g : GF) (b : WS) : WS := fun D env => ∃ ds, env[k]? = some (.own (.lst ds)) ∧ ∃ I : Nat → Sl → Prop, I 0 (env.set k .take) ∧
  (∀ i env d, ds[i]? = some d → I i env → ∃ env', g d env = some env' ∧ b { D with nx := I (i + 1), bk := fun e => e[k]? = some .take ∧ D.nx (e.set k (.own (.lst ds))), ct := I (i + 1) } env') ∧
  ∀ env, I ds.length env → env[k]? = some .take ∧ D.nx (env.set k (.own (.lst ds)))
def wWhile (t : TF) (b : WS) : WS := fun D env => ∃ I : Nat → Sl → Prop, (∃ m, I m env) ∧ ∀ m env, I m env → ∃ c, t env = some c ∧
  ((c = true → b { D with nx := fun e => ∃ m', m' < m ∧ I m' e, bk := D.nx, ct := fun e => ∃ m', m' < m ∧ I m' e } env) ∧ (c = false → D.nx env))
/-- what a name holds is from now on data -/
def frzS (i : Nat) (env : Sl) : Sl := match env[i]? with
  | some (.own o) => env.set i (.val o.dt)
  | some (.mat dss) => env.set i (.val (.lst (dss.map .lst)))
  | _ => env
/-- all that the frame's names hold as data -/
def Slot.frz : Slot → Slot
  | .own o => .val o.dt
  | .mat dss => .val (.lst (dss.map .lst))
  | s => s
def frzAll (env : Sl) : Sl := env.map Slot.frz
/-- an expression that only looks at what the names hold, the answer a scalar or a new list of scalars -/
def eLook (fe : EF) : EF := fun env => match fe (frzAll env) with
  | some (.vis d) => if d.scalar then some (.vis d) else none
  | some (.fre (.lst ds)) => if ds.all Dt.scalar then some (.fre (.lst ds)) else none
  | _ => none
def tLook (ft : TF) : TF := fun env => ft (frzAll env)
/-- lists of lists, all of them new -/
abbrev MF := Sl → Option (List (List Dt))
def freL : Option R → Option (List Dt)
  | some (.fre (.lst ds)) => some ds
  | _ => none
def mNil : MF := fun _ => some []
def mCons (fe : EF) (m : MF) : MF := fun env => (freL (fe env)).bind fun ds => (m env).bind fun r => some (ds :: r)
def compM (g : Dt → Option (List Dt)) : List Dt → Option (List (List Dt))
  | [] => some []
  | d :: ds => (g d).bind fun o => (compM g ds).bind fun r => some (o :: r)
def mComp (own : List Nat) (i : IF) (g : GF) (e : EF) : MF := fun env => (i env).bind fun ds => if ds.1.length ≤ LIM then compM (fun d => (g d (wipeS env own)).bind fun env' => freL (e env')) ds.1 else none
def wAsgM (i : Nat) (m : MF) : WS := fun D env => ∃ dss, m env = some dss ∧ D.nx (env.set i (.mat dss))
def nrm (n : Nat) (j : Int) : Nat := (if 0 ≤ j then j else j + n).toNat
/-- xss[a][b] = e -/
def wPutM (i : Nat) (ka kb e : EF) : WS := fun D env => ∃ dss r a b ds, env[i]? = some (.mat dss) ∧ e env = some r ∧ r.sh = false ∧ ka env = some (.vis (.int a)) ∧ atL dss a = some ds ∧ kb env = some (.vis (.int b)) ∧ -(ds.length : Int) ≤ b ∧ b < ds.length ∧
  D.nx (env.set i (.mat (dss.set (nrm dss.length a) (ds.set (nrm ds.length b) r.dt))))
/-- xss[k] = e, e a new list -/
def wPutR (i : Nat) (k e : EF) : WS := fun D env => ∃ dss ds j, env[i]? = some (.mat dss) ∧ e env = some (.fre (.lst ds)) ∧ k env = some (.vis (.int j)) ∧ -(dss.length : Int) ≤ j ∧ j < dss.length ∧ D.nx (env.set i (.mat (dss.set (nrm dss.length j) ds)))
def wFrz (i : Nat) (a : WS) : WS := fun D env => a D (frzS i env)
def startE (n : Nat) (ds : List Dt) : Sl := ds.map .val ++ List.replicate (n - ds.length) .non
/-- a def keeps the function F -/
def Keeps (n : Nat) (w : WS) (F : FN) : Prop := ∀ ds r, F ds = some r → w ⟨fun _ => r = .non, fun d => d = r, fun _ => False, fun _ => False, fun _ _ _ => False⟩ (startE n ds)

/-! ### instances, errors -/
/-- a class called, its __init__ storing its arguments under these names -/
def eMake (c : Nat) (ns : List Str) (fa : AF) : EF := fun env => (fa env).bind fun rs => (plain rs).bind fun ds => if ds.length = ns.length then some (.vis (.obj c (ns.zip ds))) else none
/-- e.f, e an instance of one of these classes -/
def eFld (cs : List Nat) (f : Str) (fe : EF) : EF := fun env => match fe env with
  | some (.vis (.obj c fs)) => if c ∈ cs then (fs.lookup f).map .vis else none
  | _ => none
/-- isinstance(e, C), C the own class number c -/
def eIsC (cs : List Nat) (c : Nat) (fe : EF) : EF := fun env => (fe env).bind fun r => match r.dt with
  | .obj c' _ => if c' ∈ cs then some (.vis (.bl (c' == c))) else none
  | d => d.ty.map fun _ => .vis (.bl false)
/-- e.f, e the caught exception at a -/
def eXf (a : Nat) (d : Option Nat) (f : Str) (fe : EF) : EF := fun env => match fe env with
  | some (.vis (.exn a' d' fs)) => if a' = a ∧ d' = d then (fs.lookup f).map .vis else none
  | _ => none
/-- isinstance(e, T), the answer b -/
def eXis (a : Nat) (d : Option Nat) (b : Bool) (fe : EF) : EF := fun env => match fe env with
  | some (.vis (.exn a' d' _)) => if a' = a ∧ d' = d then some (.vis (.bl b)) else none
  | _ => none
/-- how a call ends: a value, or an error of the class number c with its fields -/
inductive Xr where
  | ok (d : Dt) | er (c : Nat) (fs : List (Str × Dt))
abbrev FX := List Dt → Option Xr
abbrev XF := Sl → Option Xr
def Xr.scalar : Xr → Bool
  | .ok d => d.scalar
  | .er _ _ => false
def xCall (F : FX) (fa : AF) : XF := fun env => (fa env).bind fun rs => (F (rs.map (·.1))).bind fun o => if rs.any (·.2) && !o.scalar then none else some o
def wAsgX (i : Nat) (f : XF) : WS := fun D env => ∃ o, f env = some o ∧ (∀ d, o = .ok d → D.nx (env.set i (.val d))) ∧ ∀ c fs, o = .er c fs → D.er c fs env
def wRetX (f : XF) : WS := fun D env => ∃ o, f env = some o ∧ (∀ d, o = .ok d → D.rt d) ∧ ∀ c fs, o = .er c fs → D.er c fs env
def wDropX (f : XF) : WS := fun D env => ∃ o, f env = some o ∧ (∀ d, o = .ok d → D.nx env) ∧ ∀ c fs, o = .er c fs → D.er c fs env
/-- raise C(e, ..), C the class number c, its fields in the order in which they are told -/
def wRaise (c : Nat) (ns : List Str) (fa : AF) : WS := fun D env => ∃ rs ds, fa env = some rs ∧ plain rs = some ds ∧ ds.length = ns.length ∧ D.er c (ns.zip ds).reverse env
/-- try: b; except ..: as the name number i: s, of errors of these classes -/
def wTry (i : Nat) (cs : List Nat) (b : WS) (s : Nat → Nat → Option Nat → WS) : WS := fun D env => b { D with er := fun c fs e => c ∈ cs ∧ ∀ a d, s c a d { nx := fun e' => D.nx (e'.set i .non), rt := D.rt, bk := fun e' => D.bk (e'.set i .non), ct := fun e' => D.ct (e'.set i .non), er := fun _ _ _ => False } (e.set i (.val (.exn a d fs))) } env
/-- a def keeps the function F, and raises what F tells -/
def KeepsX (n : Nat) (w : WS) (F : FX) : Prop := ∀ ds o, F ds = some o → w ⟨fun _ => o = .ok .non, fun d => o = .ok d, fun _ => False, fun _ => False, fun c fs _ => o = .er c fs⟩ (startE n ds)
/-- what a def that may raise gives where it does not -/
def okF (F : FX) : FN := fun ds => match F ds with
  | some (.ok d) => some d
  | _ => none
end Pyl
end
section
set_option Elab.async false
set_option linter.all false
namespace Pyl
open PySem
/-! ### one step at a time: all by what the words mean -/
section
variable {env : Sl} {D : En} {a b : WS} {fa fb : EF} {ft fu : TF} {i : Nat} {d e : Dt} {x y : Int} {ds es : List Dt}
theorem wNil_at : wNil D env = D.nx env := rfl
theorem q_go (h : a { D with nx := b D } env) : wSeq a b D env := ⟨b D, h, fun _ h => h⟩
theorem wAsg_at : wAsg i fa D env = ∃ r, fa env = some r ∧ r.sh = false ∧ D.nx (env.set i r.slot) := rfl
theorem wUnp_at {is : List Nat} : wUnp is fa D env = ∃ d env', fa env = some (.vis d) ∧ gT is d env = some env' ∧ D.nx env' := rfl
theorem wRet_at : wRet fa D env = ∃ r, fa env = some r ∧ r.sh = false ∧ D.rt r.dt := rfl
theorem wRetN_at : wRetN D env = D.rt .non := rfl
theorem wIf_at : wIf ft a b D env = ∃ c, ft env = some c ∧ ((c = true → a D env) ∧ (c = false → b D env)) := rfl
theorem wDrop_at : wDrop fa D env = ∃ r, fa env = some r ∧ D.nx env := rfl
theorem wApp_at : wApp i fa D env = ∃ ds r, env[i]? = some (.own (.lst ds)) ∧ fa env = some r ∧ r.sh = false ∧ ds.length < LIM ∧ D.nx (env.set i (.own (.lst (ds ++ [r.dt])))) := rfl
theorem wPut_at : wPut i fb fa D env = ∃ ds r j, env[i]? = some (.own (.lst ds)) ∧ fa env = some r ∧ r.sh = false ∧ fb env = some (.vis (.int j)) ∧ -(ds.length : Int) ≤ j ∧ j < ds.length ∧ D.nx (env.set i (.own (.lst (ds.set (if 0 ≤ j then j else j + ds.length).toNat r.dt)))) := rfl
theorem wBrk_at : wBrk D env = D.bk env := rfl
theorem wCnt_at : wCnt D env = D.ct env := rfl
theorem wFrz_at : wFrz i a D env = a D (frzS i env) := rfl
theorem frzS_own {o : OD} (h : env[i]? = some (.own o)) : frzS i env = env.set i (.val o.dt) := by unfold frzS; rw [h]
theorem frzS_val (h : env[i]? = some (.val d)) : frzS i env = env := by unfold frzS; rw [h]
theorem frzS_at : frzS i env = match env[i]? with
  | some (.own o) => env.set i (.val o.dt)
  | some (.mat dss) => env.set i (.val (.lst (dss.map .lst)))
  | _ => env := rfl
theorem eVar_at : eVar i env = match env[i]? with
  | some (.val d) => some (.vis d)
  | some (.own (.lst ds)) => some (.bor (.lst ds))
  | _ => none := rfl
theorem eC_at : eC d env = some (.vis d) := rfl
theorem e1_at {p : Dt → Option R} : e1 p fa env = (fa env).bind fun a => p a.dt := rfl
theorem e2_at {p : Dt → Dt → Option R} : e2 p fa fb env = (fa env).bind fun a => (fb env).bind fun b => p a.dt b.dt := rfl
theorem aNil_at : aNil env = some [] := rfl
theorem aCons_at {fr : AF} : aCons fa fr env = (fa env).bind fun a => (fr env).bind fun r => some ((a.dt, a.sh) :: r) := rfl
theorem eTup_at {fr : AF} : eTup fr env = (fr env).bind fun rs => (plain rs).bind fun ds => some (.vis (.tup ds)) := rfl
theorem eLst_at {fr : AF} : eLst fr env = (fr env).bind fun rs => (plain rs).bind fun ds => some (.fre (.lst ds)) := rfl
theorem plain_nil : plain [] = some [] := rfl
theorem plain_cons {rs : List (Dt × Bool)} : plain ((d, false) :: rs) = (plain rs).map (d :: ·) := by
  unfold plain
  rw [List.any_cons, Bool.false_or, List.map_cons]
  split <;> rfl
theorem eCall_at {F : FN} {fr : AF} : eCall F fr env = (fr env).bind fun rs => (F (rs.map (·.1))).bind fun d => if rs.any (·.2) && !d.scalar then none else some (.vis d) := rfl
theorem eIf_at : eIf ft fa fb env = (ft env).bind fun t => if t then fa env else fb env := rfl
theorem eAnd_at : eAnd fa fb env = match fa env with
  | some (.vis (.bl true)) => fb env
  | some (.vis (.bl false)) => some (.vis (.bl false))
  | _ => none := rfl
theorem eOr_at : eOr fa fb env = match fa env with
  | some (.vis (.bl true)) => some (.vis (.bl true))
  | some (.vis (.bl false)) => fb env
  | _ => none := rfl
theorem eNot_at : eNot fa env = match fa env with
  | some (.vis (.bl b)) => some (.vis (.bl (!b)))
  | _ => none := rfl
theorem tVal_at : tVal fa env = match fa env with
  | some (.vis (.bl b)) => some b
  | _ => none := rfl
theorem tAnd_at : tAnd ft fu env = (ft env).bind fun t => if t then fu env else some false := rfl
theorem tOr_at : tOr ft fu env = (ft env).bind fun t => if t then some true else fu env := rfl
theorem tNot_at : tNot ft env = (ft env).bind fun t => some (!t) := rfl
theorem tYes_at : tYes env = some true := rfl
theorem pAdd_int : pAdd (.int x) (.int y) = some (.vis (.int (x + y))) := rfl
theorem pAdd_lst (h : ds.length + es.length ≤ LIM) : pAdd (.lst ds) (.lst es) = some (.fre (.lst (ds ++ es))) := if_pos h
theorem pAdd_tup (h : ds.length + es.length ≤ LIM) : pAdd (.tup ds) (.tup es) = some (.vis (.tup (ds ++ es))) := if_pos h
theorem pSub_int : pSub (.int x) (.int y) = some (.vis (.int (x - y))) := rfl
theorem pMul_int (h1 : x.natAbs < BIG) (h2 : y.natAbs < BIG) : pMul (.int x) (.int y) = some (.vis (.int (x * y))) := if_pos ⟨h1, h2⟩
theorem pDiv_int (h1 : 0 < y) (h2 : y.natAbs < DIVB) : pDiv (.int x) (.int y) = some (.vis (.int (x / y))) := by
  show (if 0 < y ∧ y.natAbs < DIVB then some (x / y) else none).map _ = _
  rw [if_pos ⟨h1, h2⟩]
  rfl
theorem pMod_int (h1 : 0 < y) : pMod (.int x) (.int y) = some (.vis (.int (x % y))) := by
  show (if 0 < y then some (x % y) else none).map _ = _
  rw [if_pos h1]
  rfl
theorem pPow_int (h1 : 0 ≤ y) (h2 : y ≤ 1000000) (h3 : x.natAbs < 2 ^ 64) : pPow (.int x) (.int y) = some (.vis (.int (x ^ y.toNat))) := by
  show (if 0 ≤ y ∧ y ≤ 1000000 ∧ x.natAbs < 2 ^ 64 then some (x ^ y.toNat) else none).map _ = _
  rw [if_pos ⟨h1, h2, h3⟩]
  rfl
theorem pShl_int (h1 : 0 ≤ y) (h2 : y ≤ 100000) (h3 : x.natAbs < BIG) : pShl (.int x) (.int y) = some (.vis (.int (x * 2 ^ y.toNat))) := by
  show (if 0 ≤ y ∧ y ≤ 100000 ∧ x.natAbs < BIG then some (x * 2 ^ y.toNat) else none).map _ = _
  rw [if_pos ⟨h1, h2, h3⟩]
  rfl
theorem pShr_int (h1 : 0 ≤ y) : pShr (.int x) (.int y) = some (.vis (.int (x / 2 ^ y.toNat))) := by
  show (if 0 ≤ y then some (x / 2 ^ y.toNat) else none).map _ = _
  rw [if_pos h1]
  rfl
theorem pXor_nat {n k : Nat} : pXor (.int (n : Int)) (.int (k : Int)) = some (.vis (.int ((n ^^^ k : Nat) : Int))) := by
  unfold pXor pIntI
  dsimp only
  rw [if_pos ⟨Int.natCast_nonneg n, Int.natCast_nonneg k⟩, Int.toNat_natCast, Int.toNat_natCast]
  rfl
theorem pAnd_nat {n k : Nat} : pAnd (.int (n : Int)) (.int (k : Int)) = some (.vis (.int ((n &&& k : Nat) : Int))) := by
  unfold pAnd pIntI
  dsimp only
  rw [if_pos ⟨Int.natCast_nonneg n, Int.natCast_nonneg k⟩, Int.toNat_natCast, Int.toNat_natCast]
  rfl
theorem pOr_nat {n k : Nat} : pOr (.int (n : Int)) (.int (k : Int)) = some (.vis (.int ((n ||| k : Nat) : Int))) := by
  unfold pOr pIntI
  dsimp only
  rw [if_pos ⟨Int.natCast_nonneg n, Int.natCast_nonneg k⟩, Int.toNat_natCast, Int.toNat_natCast]
  rfl
theorem pNeg_int : pNeg (.int x) = some (.vis (.int (-x))) := rfl
theorem pLt_int : pLt (.int x) (.int y) = some (.vis (.bl (decide (x < y)))) := rfl
theorem pLe_int : pLe (.int x) (.int y) = some (.vis (.bl (decide (x ≤ y)))) := rfl
theorem pGt_int : pGt (.int x) (.int y) = some (.vis (.bl (decide (y < x)))) := rfl
theorem pGe_int : pGe (.int x) (.int y) = some (.vis (.bl (decide (y ≤ x)))) := rfl
theorem shaped_int (x : Int) : SeqAt.shaped (.int x) = true := rfl
theorem eqD_int : eqD (.int x) (.int y) = some (decide (x = y)) := by
  show (if SeqAt.shaped (.int x) && SeqAt.shaped (.int y) then some (PyData.eqv (.int x) (.int y)) else none) = _
  rw [shaped_int, shaped_int]
  show some (x == y) = _
  by_cases h : x = y <;> simp [h]
theorem pEq_int : pEq (.int x) (.int y) = some (.vis (.bl (decide (x = y)))) := by unfold pEq; rw [eqD_int]; rfl
theorem pNe_int : pNe (.int x) (.int y) = some (.vis (.bl (!decide (x = y)))) := by unfold pNe; rw [eqD_int]; rfl
theorem pIsN_at : pIsN d = some (.vis (.bl d.isNon)) := rfl
theorem pNotN_at : pNotN d = some (.vis (.bl (!d.isNon))) := rfl
theorem pIx_lst : pIx (.lst ds) (.int x) = (atL ds x).map .vis := rfl
theorem pIx_tup : pIx (.tup ds) (.int x) = (atL ds x).map .vis := rfl
theorem atL_nat {α : Type} {l : List α} {n : Nat} : atL l (n : Int) = l[n]? := by
  unfold atL
  rw [if_pos (Int.natCast_nonneg n), Int.toNat_natCast]
theorem atL_of_get {α : Type} {l : List α} {z : Int} {v : α} (h0 : 0 ≤ z) (h : l[z.toNat]? = some v) : atL l z = some v := by
  unfold atL
  rw [if_pos h0, h]
theorem atL_zero {α : Type} {a : α} {l : List α} : atL (a :: l) 0 = some a := rfl
theorem atL_last {α : Type} {a : α} {l : List α} : atL (l ++ [a]) (-1) = some a := by
  unfold atL
  rw [if_neg (by decide), if_pos (by rw [List.length_append, List.length_singleton]; omega)]
  rw [show (-1 + ((l ++ [a]).length : Int)).toNat = l.length by rw [List.length_append, List.length_singleton]; omega]
  rw [List.getElem?_append_right (Nat.le_refl _), Nat.sub_self]
  rfl
theorem oNone_at : oNone env = some none := rfl
theorem oSome_at : oSome fa env = match fa env with
  | some (.vis (.int i)) => some (some i)
  | _ => none := rfl
theorem eSlice_at {lo hi : OF} : eSlice fa lo hi env = (fa env).bind fun a => (lo env).bind fun l => (hi env).bind fun h => match a.dt with
  | .lst ds => some (.fre (.lst (cutD ds l h)))
  | .tup ds => some (.vis (.tup (cutD ds l h)))
  | _ => none := rfl
theorem pLen_lst : pLen (.lst ds) = some (.vis (.int ds.length)) := rfl
theorem pLen_tup : pLen (.tup ds) = some (.vis (.int ds.length)) := rfl
theorem pInt_int : pInt (.int x) = some (.vis (.int x)) := rfl
theorem pInt_bl {t : Bool} : pInt (.bl t) = some (.vis (.int (if t then 1 else 0))) := rfl
theorem pAbs_int : pAbs (.int x) = some (.vis (.int (if x < 0 then -x else x))) := rfl
theorem pSum_lst {ns : List Int} (h : intsOf ds = some ns) : pSum (.lst ds) = some (.vis (.int ns.sum)) := by
  show (intsOf ds).map _ = _
  rw [h]
  rfl
theorem intsOf_ints : ∀ ns : List Int, intsOf (ns.map Dt.int) = some ns
  | [] => rfl
  | n :: ns => by
    rw [List.map_cons]
    unfold intsOf
    rw [intsOf_ints ns]
    rfl
theorem pSum_ints {ns : List Int} : pSum (.lst (ns.map .int)) = some (.vis (.int ns.sum)) := pSum_lst (intsOf_ints ns)
theorem pMax2_int : pMax2 (.int x) (.int y) = some (.vis (.int (if y > x then y else x))) := rfl
theorem pMin2_int : pMin2 (.int x) (.int y) = some (.vis (.int (if y < x then y else x))) := rfl
theorem pList_lst : pList (.lst ds) = some (.fre (.lst ds)) := rfl
theorem pList_tup : pList (.tup ds) = some (.fre (.lst ds)) := rfl
theorem pTuple_lst : pTuple (.lst ds) = some (.vis (.tup ds)) := rfl
theorem pTuple_tup : pTuple (.tup ds) = some (.vis (.tup ds)) := rfl
theorem iSeq_at : iSeq fa env = (fa env).bind fun a => match a.dt with
  | .lst ds => some (ds, a.sh)
  | .tup ds => some (ds, a.sh)
  | _ => none := rfl
theorem iRange1_at : iRange1 fa env = match fa env with
  | some (.vis (.int n)) => if n < 4611686018427387904 ∧ -4611686018427387904 ≤ n then some (rngD 0 n.toNat, false) else none
  | _ => none := rfl
theorem eChain_at {p q : Dt → Dt → Option R} {fc : EF} : eChain p q fa fb fc env = (fa env).bind fun a => (fb env).bind fun b => match p a.dt b.dt with
  | some (.vis (.bl true)) => (fc env).bind fun c => q b.dt c.dt
  | some (.vis (.bl false)) => some (.vis (.bl false))
  | _ => none := rfl
theorem pGcd_int : pGcd (.int x) (.int y) = some (.vis (.int (Nat.gcd x.natAbs y.natAbs : Nat))) := rfl
theorem pComb_nat {n k : Nat} (h : n ≤ 9000) : pComb (.int (n : Int)) (.int (k : Int)) = some (.vis (.int (chooseN n k : Nat))) := by
  show (if 0 ≤ (n : Int) ∧ (n : Int) ≤ 9000 ∧ 0 ≤ (k : Int) then some (R.vis (.int (chooseN (n : Int).toNat (k : Int).toNat : Nat))) else none) = _
  rw [if_pos ⟨by omega, by omega, by omega⟩, Int.toNat_natCast, Int.toNat_natCast]
/-- a chain of two comparisons of ints -/
theorem chain_le {fc : EF} {z : Int} (h1 : fa env = some (.vis (.int x))) (h2 : fb env = some (.vis (.int y))) (h3 : fc env = some (.vis (.int z))) : eChain pLe pLe fa fb fc env = some (.vis (.bl (decide (x ≤ y ∧ y ≤ z)))) := by
  rw [eChain_at, h1, h2, h3]
  show (match pLe (.int x) (.int y) with
    | some (.vis (.bl true)) => pLe (.int y) (.int z)
    | some (.vis (.bl false)) => some (.vis (.bl false))
    | _ => none) = _
  rw [pLe_int, pLe_int]
  by_cases h : x ≤ y <;> simp [h]
theorem rng1 {n : Int} (h : fa env = some (.vis (.int n))) (h1 : n < 4611686018427387904) (h2 : -4611686018427387904 ≤ n := by omega) : iRange1 fa env = some (rngD 0 n.toNat, false) := by
  rw [iRange1_at, h]
  exact if_pos ⟨h1, h2⟩
theorem rng2 {lo hi : Int} (h : fa env = some (.vis (.int lo))) (h' : fb env = some (.vis (.int hi))) (h1 : -4611686018427387904 ≤ lo ∧ lo < 4611686018427387904 ∧ -4611686018427387904 ≤ hi ∧ hi < 4611686018427387904 := by omega) : iRange2 fa fb env = some (rngD lo (hi - lo).toNat, false) := by
  show (fa env).bind _ = _
  rw [h]
  show (fb env).bind _ = _
  rw [h']
  exact if_pos h1
theorem rng3 {fc : EF} {i j k : Int} {n : Nat} (h1 : fa env = some (.vis (.int i))) (h2 : fb env = some (.vis (.int j))) (h3 : fc env = some (.vis (.int k))) (hn : stepN i j k = n) (hk : (0 < k ∧ k < 1073741824) ∨ k = -1) (hb : (-1099511627776 ≤ i ∧ i ≤ 1099511627776) ∧ -1099511627776 ≤ j ∧ j ≤ 1099511627776 := by omega) : iRange3 fa fb fc env = some (stepD i k n, false) := by
  show (fa env).bind _ = _
  rw [h1]
  show (fb env).bind _ = _
  rw [h2]
  show (fc env).bind _ = _
  rw [h3, ← hn]
  exact if_pos ⟨hk, hb⟩
theorem stepD_len (a c : Int) (n : Nat) : (stepD a c n).length = n := by
  unfold stepD
  rw [List.length_map, List.length_range]
theorem stepD_at {a c : Int} {n j : Nat} {v : Dt} (h : (stepD a c n)[j]? = some v) : j < n ∧ v = .int (a + (j : Int) * c) := by
  unfold stepD at h
  rw [List.getElem?_map] at h
  cases hj : (List.range n)[j]? with
  | none => rw [hj] at h; cases h
  | some k =>
    rw [hj] at h
    have hl := (List.getElem?_eq_some_iff.mp hj).1
    rw [List.length_range] at hl
    rw [List.getElem?_range hl] at hj
    cases hj
    cases h
    exact ⟨hl, rfl⟩
theorem rngD_at {lo : Int} {n j : Nat} {v : Dt} (h : (rngD lo n)[j]? = some v) : j < n ∧ v = .int (lo + (j : Int)) := by
  unfold rngD at h
  rw [List.getElem?_map] at h
  cases hj : (List.range n)[j]? with
  | none => rw [hj] at h; cases h
  | some k =>
    rw [hj] at h
    have hl := (List.getElem?_eq_some_iff.mp hj).1
    rw [List.length_range] at hl
    rw [List.getElem?_range hl] at hj
    cases hj
    cases h
    exact ⟨hl, rfl⟩
theorem rngD_len (lo : Int) (n : Nat) : (rngD lo n).length = n := by
  unfold rngD
  rw [List.length_map, List.length_range]
theorem gN_at : gN i d env = some (env.set i (.val d)) := rfl
theorem gT_at {is : List Nat} : gT is (.tup ds) env = gsN is ds env := rfl
theorem gT_lst {is : List Nat} : gT is (.lst ds) env = gsN is ds env := rfl
theorem gsN_cons {is : List Nat} : gsN (i :: is) (d :: ds) env = gsN is ds (env.set i (.val d)) := rfl
theorem gsN_nil : gsN [] [] env = some env := rfl
theorem wipeS_cons {is : List Nat} : wipeS env (i :: is) = (wipeS env is).set i .non := rfl
theorem wipeS_nil : wipeS env [] = env := rfl
theorem compG_at {own : List Nat} {g : GF} : compG env own g ft fa d = (g d (wipeS env own)).bind fun env' => (ft env').bind fun b => if b then (fa env').bind fun r => if r.sh then none else some [r.dt] else some [] := rfl
theorem eComp_of {own : List Nat} {fi : IF} {g : GF} {s : Bool} {out : List Dt} (h : fi env = some (ds, s)) (hl : ds.length ≤ LIM) (hc : compL (compG env own g ft fa) ds = some out) : eComp own fi g ft fa env = some (.fre (.lst out)) := by
  show (fi env).bind _ = _
  rw [h]
  show (compL _ ds).bind _ = _
  rw [hc]
  exact if_pos hl
end
/-! ### comprehensions -/
theorem compL_flat {g : Dt → Option (List Dt)} {k : Dt → List Dt} : ∀ {ds : List Dt}, (∀ d ∈ ds, g d = some (k d)) → compL g ds = some (ds.flatMap k)
  | [], _ => rfl
  | d :: ds, h => by
    show (g d).bind _ = _
    rw [h d List.mem_cons_self]
    show (compL g ds).bind _ = _
    rw [compL_flat fun e he => h e (List.mem_cons_of_mem _ he), List.flatMap_cons]
    rfl
/-- the items typed, each gives one item -/
theorem compL_map {α β : Type} {g : Dt → Option (List Dt)} {u : α → Dt} {v : β → Dt} {f : α → β} : ∀ {xs : List α}, (∀ x ∈ xs, g (u x) = some [v (f x)]) → compL g (xs.map u) = some ((xs.map f).map v)
  | [], _ => rfl
  | x :: xs, h => by
    rw [List.map_cons, List.map_cons, List.map_cons]
    show (g (u x)).bind _ = _
    rw [h x List.mem_cons_self]
    show (compL g (xs.map u)).bind _ = _
    rw [compL_map fun y hy => h y (List.mem_cons_of_mem _ hy)]
    rfl
theorem compL_filter {α β : Type} {g : Dt → Option (List Dt)} {u : α → Dt} {v : β → Dt} {p : α → Bool} {f : α → β} : ∀ {xs : List α}, (∀ x ∈ xs, g (u x) = some (if p x then [v (f x)] else [])) → compL g (xs.map u) = some (((xs.filter p).map f).map v)
  | [], _ => rfl
  | x :: xs, h => by
    rw [List.map_cons]
    show (g (u x)).bind _ = _
    rw [h x List.mem_cons_self]
    show (compL g (xs.map u)).bind _ = _
    rw [compL_filter fun y hy => h y (List.mem_cons_of_mem _ hy), List.filter_cons]
    cases p x <;> rfl
/-- by places -/
theorem compL_ix {g : Dt → Option (List Dt)} : ∀ {ds out : List Dt}, ds.length = out.length → (∀ (i : Nat) d o, ds[i]? = some d → out[i]? = some o → g d = some [o]) → compL g ds = some out
  | [], [], _, _ => rfl
  | [], _ :: _, h, _ => by cases h
  | _ :: _, [], h, _ => by cases h
  | d :: ds, o :: out, hl, h => by
    show (g d).bind _ = _
    rw [h 0 d o rfl rfl]
    show (compL g ds).bind _ = _
    rw [compL_ix (by simpa using hl) fun i d' o' h1 h2 => h (i + 1) d' o' h1 h2]
    rfl
/-! ### functions told by what they give -/
/-- the end in which just r is returned -/
def endR (r : Dt) : En := ⟨fun _ => r = .non, fun d => d = r, fun _ => False, fun _ => False, fun _ _ _ => False⟩
open Classical in
noncomputable def autoF (n : Nat) (w : WS) (P : List Dt → Dt → Prop) : FN := fun ds => if h : ∃ r, P ds r ∧ w (endR r) (startE n ds) then some (choose h) else none
theorem auto_spec {n : Nat} {w : WS} {P : List Dt → Dt → Prop} {ds : List Dt} {r : Dt} (h : autoF n w P ds = some r) : P ds r ∧ w (endR r) (startE n ds) := by
  unfold autoF at h
  split at h
  · rename_i hk
    cases h
    exact Classical.choose_spec hk
  · cases h
theorem auto_keeps {n : Nat} {w : WS} {P : List Dt → Dt → Prop} : Keeps n w (autoF n w P) := fun ds r h => (auto_spec h).2
theorem auto_at {n : Nat} {w : WS} {P : List Dt → Dt → Prop} {ds : List Dt} (h : ∃ r, P ds r ∧ w (endR r) (startE n ds)) : ∃ r, autoF n w P ds = some r ∧ P ds r := by
  unfold autoF
  rw [dif_pos h]
  exact ⟨_, rfl, (Classical.choose_spec h).1⟩
/-! ### loops -/
theorem wFor_of {fi : IF} {g : GF} {b : WS} {D : En} {env : Sl} {ds : List Dt} (I : Nat → Sl → Prop) (h : fi env = some (ds, false)) (h0 : I 0 env)
    (hs : ∀ i env d, ds[i]? = some d → I i env → ∃ env', g d env = some env' ∧ b { D with nx := I (i + 1), bk := D.nx, ct := I (i + 1) } env') (hd : ∀ env, I ds.length env → D.nx env) : wFor fi g b D env := ⟨ds, h, I, h0, hs, hd⟩
/-- over typed items -/
theorem wFor_map {α : Type} {u : α → Dt} {xs : List α} {fi : IF} {g : GF} {b : WS} {D : En} {env : Sl} (I : Nat → Sl → Prop) (h : fi env = some (xs.map u, false)) (h0 : I 0 env)
    (hs : ∀ i env x, xs[i]? = some x → I i env → ∃ env', g (u x) env = some env' ∧ b { D with nx := I (i + 1), bk := D.nx, ct := I (i + 1) } env') (hd : ∀ env, I xs.length env → D.nx env) : wFor fi g b D env := by
  refine ⟨_, h, I, h0, fun i env d hi inv => ?_, fun env inv => hd env (by rw [List.length_map] at inv; exact inv)⟩
  rw [List.getElem?_map] at hi
  cases hx : xs[i]? with
  | none => rw [hx] at hi; cases hi
  | some x =>
    rw [hx] at hi
    cases hi
    exact hs i env x hx inv
theorem wFor_rng {lo : Int} {n : Nat} {fi : IF} {g : GF} {b : WS} {D : En} {env : Sl} (I : Nat → Sl → Prop) (h : fi env = some (rngD lo n, false)) (h0 : I 0 env)
    (hs : ∀ i env, i < n → I i env → ∃ env', g (.int (lo + (i : Int))) env = some env' ∧ b { D with nx := I (i + 1), bk := D.nx, ct := I (i + 1) } env') (hd : ∀ env, I n env → D.nx env) : wFor fi g b D env := by
  refine ⟨_, h, I, h0, fun i env d hi inv => ?_, fun env inv => hd env (by rw [rngD_len] at inv; exact inv)⟩
  obtain ⟨hl, rfl⟩ := rngD_at hi
  exact hs i env hl inv
theorem wWhile_of {t : TF} {b : WS} {D : En} {env : Sl} (I : Nat → Sl → Prop) (m : Nat) (h0 : I m env)
    (hs : ∀ m env, I m env → ∃ c, t env = some c ∧ ((c = true → b { D with nx := fun e => ∃ m', m' < m ∧ I m' e, bk := D.nx, ct := fun e => ∃ m', m' < m ∧ I m' e } env) ∧ (c = false → D.nx env))) : wWhile t b D env := ⟨I, ⟨m, h0⟩, hs⟩
/-! ### sizes -/
theorem big_of {x : Int} {n : Nat} (h : x.natAbs < 2 ^ n) (hn : n ≤ 400000) : x.natAbs < BIG := by
  rw [BIG_eq]
  exact Nat.lt_of_lt_of_le h (Nat.pow_le_pow_right (by decide) hn)
theorem big64 {x : Int} (h1 : -18446744073709551616 < x) (h2 : x < 18446744073709551616) : x.natAbs < BIG := big_of (n := 64) (by omega) (by decide)
theorem div64 {x : Int} (h0 : 0 < x) (h2 : x < 18446744073709551616) : x.natAbs < DIVB := by
  rw [DIVB_eq]
  exact Nat.lt_of_lt_of_le (show x.natAbs < 2 ^ 64 by omega) (Nat.pow_le_pow_right (by decide) (by decide))
theorem lim_of {n : Nat} (h : n ≤ 4000000) : n ≤ LIM := Nat.le_trans h (by decide)
theorem lim_lt {n : Nat} (h : n < 4000000) : n < LIM := Nat.lt_of_lt_of_le h (by decide)
/-! ### results -/
theorem dt_vis {d : Dt} : (R.vis d).dt = d := rfl
theorem dt_bor {d : Dt} : (R.bor d).dt = d := rfl
theorem dt_fre {ds : List Dt} : (R.fre (.lst ds)).dt = .lst ds := rfl
theorem sh_vis {d : Dt} : (R.vis d).sh = false := rfl
theorem sh_bor {d : Dt} : (R.bor d).sh = true := rfl
theorem sh_fre {o : OD} : (R.fre o).sh = false := rfl
theorem slot_vis {d : Dt} : (R.vis d).slot = .val d := rfl
theorem slot_fre {o : OD} : (R.fre o).slot = .own o := rfl
theorem od_dt {ds : List Dt} : (OD.lst ds).dt = .lst ds := rfl
theorem isNon_non : Dt.non.isNon = true := rfl
theorem isNon_int {i : Int} : (Dt.int i).isNon = false := rfl
theorem isNon_lst {ds : List Dt} : (Dt.lst ds).isNon = false := rfl
theorem isNon_tup {ds : List Dt} : (Dt.tup ds).isNon = false := rfl
theorem scalar_int {i : Int} : (Dt.int i).scalar = true := rfl
theorem scalar_bl {i : Bool} : (Dt.bl i).scalar = true := rfl
theorem scalar_non : Dt.non.scalar = true := rfl
/-! ### a statement and the rest -/
section
variable {env env' : Sl} {D : En} {a b rest : WS} {fa fb : EF} {ft fu : TF} {i : Nat} {r : R} {ds : List Dt} {c : Bool}
theorem q_asg (h : fa env = some r) (hs : r.sh = false) (he : env.set i r.slot = env') (k : rest D env') : wSeq (wAsg i fa) rest D env := q_go ⟨r, h, hs, by rw [he]; exact k⟩
theorem s_asg (h : fa env = some r) (hs : r.sh = false) (he : env.set i r.slot = env') (k : D.nx env') : wAsg i fa D env := ⟨r, h, hs, by rw [he]; exact k⟩
theorem s_ret {d : Dt} (h : fa env = some r) (hs : r.sh = false) (hd : r.dt = d) (k : D.rt d) : wRet fa D env := ⟨r, h, hs, by rw [hd]; exact k⟩
theorem q_ret {d : Dt} (h : fa env = some r) (hs : r.sh = false) (hd : r.dt = d) (k : D.rt d) : wSeq (wRet fa) rest D env := q_go ⟨r, h, hs, by rw [hd]; exact k⟩
theorem q_if (h : ft env = some c) (h1 : c = true → a { D with nx := rest D } env) (h2 : c = false → b { D with nx := rest D } env) : wSeq (wIf ft a b) rest D env := q_go ⟨c, h, h1, h2⟩
theorem s_if (h : ft env = some c) (h1 : c = true → a D env) (h2 : c = false → b D env) : wIf ft a b D env := ⟨c, h, h1, h2⟩
/-- by a test of Lean's -/
theorem q_ifD {p : Prop} [Decidable p] (h : ft env = some (decide p)) (h1 : p → a { D with nx := rest D } env) (h2 : ¬ p → b { D with nx := rest D } env) : wSeq (wIf ft a b) rest D env := q_go ⟨_, h, fun e => h1 (of_decide_eq_true e), fun e => h2 (of_decide_eq_false e)⟩
theorem s_ifD {p : Prop} [Decidable p] (h : ft env = some (decide p)) (h1 : p → a D env) (h2 : ¬ p → b D env) : wIf ft a b D env := ⟨_, h, fun e => h1 (of_decide_eq_true e), fun e => h2 (of_decide_eq_false e)⟩
/-- if c: x = e, x known: told by one value -/
theorem q_ifAsg {p : Prop} [Decidable p] {d d1 : Dt} (h : ft env = some (decide p)) (h1 : p → fa env = some (.vis d1)) (h2 : ¬ p → env[i]? = some (.val d)) (k : ∀ d2, d2 = (if p then d1 else d) → rest D (env.set i (.val d2))) : wSeq (wIf ft (wAsg i fa) wNil) rest D env := by
  refine q_ifD h (fun hp => ⟨_, h1 hp, rfl, k d1 (if_pos hp).symm⟩) (fun hp => ?_)
  have q := k d (if_neg hp).symm
  have e : env.set i (.val d) = env := by
    have z := h2 hp
    obtain ⟨hl, hz⟩ := List.getElem?_eq_some_iff.mp z
    rw [← hz, List.set_getElem_self]
  rw [e] at q
  exact q
/-- if c: x = e, of ints: one value -/
theorem q_ifI {p : Prop} [Decidable p] {x y : Int} (h : ft env = some (decide p)) (h1 : p → fa env = some (.vis (.int x))) (h2 : env[i]? = some (.val (.int y))) (k : rest D (env.set i (.val (.int (if p then x else y))))) : wSeq (wIf ft (wAsg i fa) wNil) rest D env :=
  q_ifAsg (d := .int y) (d1 := .int x) h h1 (fun _ => h2) fun d2 e => by
    have e2 : d2 = .int (if p then x else y) := by
      rw [e]
      split <;> rfl
    rw [e2]
    exact k
theorem q_unp {is : List Nat} {d : Dt} (h : fa env = some (.vis d)) (he : gT is d env = some env') (k : rest D env') : wSeq (wUnp is fa) rest D env := q_go ⟨d, env', h, he, k⟩
theorem q_app {d : Dt} (h0 : env[i]? = some (.own (.lst ds))) (h : fa env = some r) (hs : r.sh = false) (hl : ds.length < LIM) (hd : r.dt = d) (he : env.set i (.own (.lst (ds ++ [d]))) = env') (k : rest D env') : wSeq (wApp i fa) rest D env := q_go ⟨ds, r, h0, h, hs, hl, by rw [hd, he]; exact k⟩
theorem s_app {d : Dt} (h0 : env[i]? = some (.own (.lst ds))) (h : fa env = some r) (hs : r.sh = false) (hl : ds.length < LIM) (hd : r.dt = d) (he : env.set i (.own (.lst (ds ++ [d]))) = env') (k : D.nx env') : wApp i fa D env := ⟨ds, r, h0, h, hs, hl, by rw [hd, he]; exact k⟩
theorem q_nil (k : rest D env) : wSeq wNil rest D env := q_go k
theorem s_nil (k : D.nx env) : wNil D env := k
theorem q_frz {o : OD} (h : env[i]? = some (.own o)) (he : env.set i (.val o.dt) = env') (k : a D env') : wFrz i a D env := by
  show a D (frzS i env)
  rw [frzS_own h, he]
  exact k
theorem q_frz0 {d : Dt} (h : env[i]? = some (.val d)) (k : a D env) : wFrz i a D env := by
  show a D (frzS i env)
  rw [frzS_val h]
  exact k
theorem q_cut (M : Sl → Prop) (h : a { D with nx := M } env) (k : ∀ e, M e → rest D e) : wSeq a rest D env := ⟨M, h, k⟩
theorem q_forMap {α : Type} {u : α → Dt} {xs : List α} {fi : IF} {g : GF} (I : Nat → Sl → Prop) (h : fi env = some (xs.map u, false)) (h0 : I 0 env)
    (hs : ∀ i env x, xs[i]? = some x → I i env → ∃ env', g (u x) env = some env' ∧ b { D with nx := I (i + 1), bk := rest D, ct := I (i + 1) } env') (hd : ∀ env, I xs.length env → rest D env) : wSeq (wFor fi g b) rest D env :=
  q_go <| wFor_map (D := { D with nx := rest D }) I h h0 hs hd
theorem q_forRng {lo : Int} {n : Nat} {fi : IF} {g : GF} (I : Nat → Sl → Prop) (h : fi env = some (rngD lo n, false)) (h0 : I 0 env)
    (hs : ∀ i env, i < n → I i env → ∃ env', g (.int (lo + (i : Int))) env = some env' ∧ b { D with nx := I (i + 1), bk := rest D, ct := I (i + 1) } env') (hd : ∀ env, I n env → rest D env) : wSeq (wFor fi g b) rest D env :=
  q_go <| wFor_rng (D := { D with nx := rest D }) I h h0 hs hd
theorem q_for {fi : IF} {g : GF} (I : Nat → Sl → Prop) (h : fi env = some (ds, false)) (h0 : I 0 env)
    (hs : ∀ i env d, ds[i]? = some d → I i env → ∃ env', g d env = some env' ∧ b { D with nx := I (i + 1), bk := rest D, ct := I (i + 1) } env') (hd : ∀ env, I ds.length env → rest D env) : wSeq (wFor fi g b) rest D env :=
  q_go <| wFor_of (D := { D with nx := rest D }) I h h0 hs hd
theorem q_forStep {lo c : Int} {n : Nat} {fi : IF} {g : GF} (I : Nat → Sl → Prop) (h : fi env = some (stepD lo c n, false)) (h0 : I 0 env)
    (hs : ∀ i env, i < n → I i env → ∃ env', g (.int (lo + (i : Int) * c)) env = some env' ∧ b { D with nx := I (i + 1), bk := rest D, ct := I (i + 1) } env') (hd : ∀ env, I n env → rest D env) : wSeq (wFor fi g b) rest D env := by
  refine q_go ⟨_, h, I, h0, fun i env d hi inv => ?_, fun env inv => hd env (by rw [stepD_len] at inv; exact inv)⟩
  obtain ⟨hl, rfl⟩ := stepD_at hi
  exact hs i env hl inv
theorem q_while (I : Nat → Sl → Prop) (m : Nat) (h0 : I m env)
    (hs : ∀ m env, I m env → ∃ c, ft env = some c ∧ ((c = true → b { D with nx := fun e => ∃ m', m' < m ∧ I m' e, bk := rest D, ct := fun e => ∃ m', m' < m ∧ I m' e } env) ∧ (c = false → rest D env))) : wSeq (wWhile ft b) rest D env :=
  q_go <| wWhile_of (D := { D with nx := rest D }) I m h0 hs
end

/-! ### lists of lists, looks, keywords, sorted -/
section
variable {env env' : Sl} {D : En} {rest : WS} {fa fb fc fe : EF} {ft : TF} {i : Nat} {a b : AF}
theorem aApp_at : aApp a b env = (a env).bind fun x => (b env).bind fun y => some (x ++ y) := rfl
theorem aDfl_at {dd : List Dt} : aDfl dd env = some (dd.map fun d => (d, false)) := rfl
theorem eLook_vis {d : Dt} (h : fe (frzAll env) = some (.vis d)) (hs : d.scalar = true) : eLook fe env = some (.vis d) := by
  unfold eLook
  rw [h]
  exact if_pos hs
theorem eLook_int {x : Int} (h : fe (frzAll env) = some (.vis (.int x))) : eLook fe env = some (.vis (.int x)) := eLook_vis h rfl
theorem ints_scalar (ns : List Int) : (ns.map Dt.int).all Dt.scalar = true := by
  rw [List.all_map, List.all_eq_true]
  intro x _
  rfl
theorem eLook_ints {ns : List Int} (h : fe (frzAll env) = some (.fre (.lst (ns.map .int)))) : eLook fe env = some (.fre (.lst (ns.map .int))) := by
  unfold eLook
  rw [h]
  exact if_pos (ints_scalar ns)
theorem tLook_at : tLook ft env = ft (frzAll env) := rfl
theorem frzAll_cons {s : Slot} : frzAll (s :: env) = s.frz :: frzAll env := rfl
theorem frzAll_nil : frzAll [] = [] := rfl
theorem frz_val {d : Dt} : (Slot.val d).frz = .val d := rfl
theorem frz_own {o : OD} : (Slot.own o).frz = .val o.dt := rfl
theorem frz_mat {m : List (List Dt)} : (Slot.mat m).frz = .val (.lst (m.map .lst)) := rfl
theorem frz_non : Slot.non.frz = .non := rfl
theorem pLcm_int {x y : Int} (h1 : x.natAbs < LCMB) (h2 : y.natAbs < LCMB) : pLcm (.int x) (.int y) = some (.vis (.int (Nat.lcm x.natAbs y.natAbs : Nat))) := if_pos ⟨h1, h2⟩
theorem lcm_of {x : Int} {n : Nat} (h : x.natAbs < 2 ^ n) (hn : n ≤ 13000) : x.natAbs < LCMB := by
  rw [LCMB_eq]
  exact Nat.lt_of_lt_of_le h (Nat.pow_le_pow_right (by decide) hn)
theorem pSorted_ints {ns : List Int} : pSorted (.lst (ns.map .int)) = some (.fre (.lst ((ns.mergeSort fun a b => decide (a ≤ b)).map .int))) := by
  unfold pSorted
  dsimp only
  rw [intsOf_ints]
theorem intPairs_pairs : ∀ ps : List (Int × Int), intPairs (ps.map pairD) = some ps
  | [] => rfl
  | p :: ps => by
    show (intPairs (ps.map pairD)).map _ = _
    rw [intPairs_pairs ps]
    rfl
theorem pSorted_pairs {ps : List (Int × Int)} (h : ps ≠ []) : pSorted (.lst (ps.map pairD)) = some (.fre (.lst ((ps.mergeSort lexLe).map pairD))) := by
  have e : intsOf (ps.map pairD) = none := by
    cases ps with
    | nil => exact absurd rfl h
    | cons p ps => rfl
  unfold pSorted
  dsimp only
  rw [e]
  show (intPairs (ps.map pairD)).map _ = _
  rw [intPairs_pairs]
  rfl
theorem q_asgM {m : MF} {dss : List (List Dt)} (h : m env = some dss) (he : env.set i (.mat dss) = env') (k : rest D env') : wSeq (wAsgM i m) rest D env := q_go ⟨dss, h, by rw [he]; exact k⟩
theorem s_asgM {m : MF} {dss : List (List Dt)} (h : m env = some dss) (he : env.set i (.mat dss) = env') (k : D.nx env') : wAsgM i m D env := ⟨dss, h, by rw [he]; exact k⟩
/-- a list of lists of ints that a name holds -/
def mat (m : List (List Int)) : Slot := .mat (m.map fun r => r.map .int)
theorem frz_matI {m : List (List Int)} : (mat m).frz = .val (.lst (m.map fun r => .lst (r.map .int))) := by
  show Slot.val (.lst ((m.map fun r => r.map Dt.int).map .lst)) = _
  rw [List.map_map]
  rfl
theorem s_putM {m : List (List Int)} {x a b : Int} {r : List Int} (h0 : env[i]? = some (mat m)) (h : fc env = some (.vis (.int x))) (ha : fa env = some (.vis (.int a))) (hr : atL m a = some r) (hb : fb env = some (.vis (.int b))) (b0 : 0 ≤ b) (b1 : b < r.length)
    (he : env.set i (mat (m.set (nrm m.length a) (r.set b.toNat x))) = env') (k : D.nx env') : wPutM i fa fb fc D env := by
  have hr' : atL (m.map fun r => r.map Dt.int) a = some (r.map .int) := by
    unfold atL at hr ⊢
    rw [List.length_map]
    split at hr
    · rename_i h
      rw [if_pos h, List.getElem?_map, hr]; rfl
    · rename_i h
      rw [if_neg h]
      split at hr
      · rename_i h2
        rw [if_pos h2, List.getElem?_map, hr]; rfl
      · cases hr
  refine ⟨_, .vis (.int x), a, b, r.map .int, h0, h, rfl, ha, hr', hb, by rw [List.length_map]; omega, by rw [List.length_map]; exact b1, ?_⟩
  have e : (m.map fun r => r.map Dt.int).set (nrm (m.map fun r => r.map Dt.int).length a) ((r.map Dt.int).set (nrm (r.map Dt.int).length b) (R.vis (.int x)).dt) = (m.set (nrm m.length a) (r.set b.toNat x)).map fun r => r.map .int := by
    rw [List.length_map, List.map_set, List.map_set]
    have : nrm (r.map Dt.int).length b = b.toNat := by unfold nrm; rw [if_pos b0]
    rw [this]
    rfl
  rw [e]
  show D.nx (env.set i (mat _))
  rw [he]
  exact k
theorem q_putR {m : List (List Int)} {j : Int} {r : List Int} (h0 : env[i]? = some (mat m)) (h : fe env = some (.fre (.lst (r.map .int)))) (hk : fa env = some (.vis (.int j))) (j0 : 0 ≤ j) (j1 : j < m.length) (he : env.set i (mat (m.set j.toNat r)) = env') (k : rest D env') : wSeq (wPutR i fa fe) rest D env := by
  refine q_go ⟨_, r.map .int, j, h0, h, hk, by rw [List.length_map]; omega, by rw [List.length_map]; exact j1, ?_⟩
  have e : (m.map fun r => r.map Dt.int).set (nrm (m.map fun r => r.map Dt.int).length j) (r.map .int) = (m.set j.toNat r).map fun r => r.map .int := by
    rw [List.map_set]
    have : nrm (m.map fun r => r.map Dt.int).length j = j.toNat := by unfold nrm; rw [if_pos j0]
    rw [this]
  rw [e]
  show rest D (env.set i (mat _))
  rw [he]
  exact k
theorem q_frzM {m : List (List Int)} {w : WS} (h : env[i]? = some (mat m)) (he : env.set i (.val (.lst (m.map fun r => .lst (r.map .int)))) = env') (k : w D env') : wFrz i w D env := by
  show w D (frzS i env)
  unfold frzS
  rw [h]
  show w D (env.set i (.val (.lst ((m.map fun r => r.map Dt.int).map .lst))))
  rw [List.map_map]
  show w D (env.set i (.val (.lst (m.map fun r => .lst (r.map .int)))))
  rw [he]
  exact k
/-- a list of lists made by places -/
theorem mComp_ix {own : List Nat} {fi : IF} {g : GF} {ds : List Dt} {s : Bool} {m : List (List Int)} (h : fi env = some (ds, s)) (hl : ds.length ≤ LIM) (hm : ds.length = m.length)
    (hc : ∀ (j : Nat) d r, ds[j]? = some d → m[j]? = some r → ∃ env', g d (wipeS env own) = some env' ∧ fe env' = some (.fre (.lst (r.map .int)))) : mComp own fi g fe env = some (m.map fun r => r.map .int) := by
  show (fi env).bind _ = _
  rw [h]
  show (if ds.length ≤ LIM then _ else _) = _
  rw [if_pos hl]
  clear h hl
  induction ds generalizing m with
  | nil =>
    cases m with
    | nil => rfl
    | cons r m => cases hm
  | cons d ds ih =>
    cases m with
    | nil => cases hm
    | cons r m =>
      obtain ⟨env', h1, h2⟩ := hc 0 d r rfl rfl
      unfold compM
      rw [h1]
      show (freL (fe env')).bind _ = _
      rw [h2]
      show (compM _ ds).bind _ = _
      rw [ih (by simpa using hm) fun j d' r' e1 e2 => hc (j + 1) d' r' (by simpa using e1) (by simpa using e2)]
      rfl
end
end Pyl
end
section
set_option Elab.async false
set_option linter.all false
namespace Pyl
open PySem
/-! ### one end: what is promised of all ends is promised of one -/
inductive Out where
  | nx (e : Sl) | rt (d : Dt) | bk (e : Sl) | ct (e : Sl) | er (c : Nat) (fs : List (Str × Dt)) (e : Sl)
def Out.ok (D : En) : Out → Prop
  | .nx e => D.nx e
  | .rt d => D.rt d
  | .bk e => D.bk e
  | .ct e => D.ct e
  | .er c fs e => D.er c fs e
def One (o : Out) : En := ⟨fun e => o = .nx e, fun d => o = .rt d, fun e => o = .bk e, fun e => o = .ct e, fun c fs e => o = .er c fs e⟩
/-- D' asks no more than D -/
structure Le (D D' : En) : Prop where
  nx : ∀ e, D.nx e → D'.nx e
  rt : ∀ d, D.rt d → D'.rt d
  bk : ∀ e, D.bk e → D'.bk e
  ct : ∀ e, D.ct e → D'.ct e
  er : ∀ c fs e, D.er c fs e → D'.er c fs e
theorem One.le {D : En} {o : Out} (h : o.ok D) : Le (One o) D := by
  refine ⟨fun e q => ?_, fun e q => ?_, fun e q => ?_, fun e q => ?_, fun c fs e q => ?_⟩ <;> (have q : o = _ := q; subst q; exact h)
structure Det (w : WS) : Prop where
  mono : ∀ (D D' : En) (env : Sl), Le D D' → w D env → w D' env
  one : ∀ (D : En) (env : Sl), w D env → ∃ o : Out, o.ok D ∧ w (One o) env
theorem det_nil : Det wNil := ⟨fun D D' env h q => h.nx env q, fun D env q => ⟨.nx env, q, rfl⟩⟩
theorem det_dead : Det wDead := ⟨fun D D' env h q => q.elim, fun D env q => q.elim⟩
theorem det_brk : Det wBrk := ⟨fun D D' env h q => h.bk env q, fun D env q => ⟨.bk env, q, rfl⟩⟩
theorem det_cnt : Det wCnt := ⟨fun D D' env h q => h.ct env q, fun D env q => ⟨.ct env, q, rfl⟩⟩
theorem det_seq {a b : WS} (ha : Det a) (hb : Det b) : Det (wSeq a b) := by
  refine ⟨fun D D' env h q => ?_, fun D env q => ?_⟩
  · obtain ⟨M, h1, h2⟩ := q
    exact ⟨M, ha.mono { D with nx := M } { D' with nx := M } env ⟨fun e z => z, h.rt, h.bk, h.ct, h.er⟩ h1, fun e he => hb.mono D D' e h (h2 e he)⟩
  · obtain ⟨M, h1, h2⟩ := q
    obtain ⟨o, ho, h3⟩ := ha.one _ env h1
    cases o with
    | nx e =>
      obtain ⟨o2, ho2, h4⟩ := hb.one D e (h2 e ho)
      exact ⟨o2, ho2, fun e' => e' = e, ha.mono _ _ env (One.le (D := { One o2 with nx := fun e' => e' = e }) (o := .nx e) (show e = e from rfl)) h3, fun e' he => by rw [he]; exact h4⟩
    | rt d => exact ⟨.rt d, ho, fun _ => False, ha.mono _ _ env (One.le (D := { One (.rt d) with nx := fun _ => False }) (o := .rt d) (show Out.rt d = Out.rt d from rfl)) h3, fun e' he => he.elim⟩
    | bk e => exact ⟨.bk e, ho, fun _ => False, ha.mono _ _ env (One.le (D := { One (.bk e) with nx := fun _ => False }) (o := .bk e) (show Out.bk e = Out.bk e from rfl)) h3, fun e' he => he.elim⟩
    | ct e => exact ⟨.ct e, ho, fun _ => False, ha.mono _ _ env (One.le (D := { One (.ct e) with nx := fun _ => False }) (o := .ct e) (show Out.ct e = Out.ct e from rfl)) h3, fun e' he => he.elim⟩
    | er c fs e => exact ⟨.er c fs e, ho, fun _ => False, ha.mono _ _ env (One.le (D := { One (.er c fs e) with nx := fun _ => False }) (o := .er c fs e) (show Out.er c fs e = Out.er c fs e from rfl)) h3, fun e' he => he.elim⟩
theorem det_asg {i : Nat} {f : EF} : Det (wAsg i f) := ⟨fun D D' env h ⟨r, h1, h2, h3⟩ => ⟨r, h1, h2, h.nx _ h3⟩, fun D env ⟨r, h1, h2, h3⟩ => ⟨.nx _, h3, r, h1, h2, rfl⟩⟩
theorem det_unp {is : List Nat} {f : EF} : Det (wUnp is f) := ⟨fun D D' env h ⟨d, e, h1, h2, h3⟩ => ⟨d, e, h1, h2, h.nx _ h3⟩, fun D env ⟨d, e, h1, h2, h3⟩ => ⟨.nx _, h3, d, e, h1, h2, rfl⟩⟩
theorem det_ret {f : EF} : Det (wRet f) := ⟨fun D D' env h ⟨r, h1, h2, h3⟩ => ⟨r, h1, h2, h.rt _ h3⟩, fun D env ⟨r, h1, h2, h3⟩ => ⟨.rt _, h3, r, h1, h2, rfl⟩⟩
theorem det_retN : Det wRetN := ⟨fun D D' env h q => h.rt _ q, fun D env q => ⟨.rt .non, q, rfl⟩⟩
theorem det_drop {f : EF} : Det (wDrop f) := ⟨fun D D' env h ⟨r, h1, h2⟩ => ⟨r, h1, h.nx _ h2⟩, fun D env ⟨r, h1, h2⟩ => ⟨.nx _, h2, r, h1, rfl⟩⟩
theorem det_app {i : Nat} {f : EF} : Det (wApp i f) := ⟨fun D D' env h ⟨ds, r, h1, h2, h3, h4, h5⟩ => ⟨ds, r, h1, h2, h3, h4, h.nx _ h5⟩, fun D env ⟨ds, r, h1, h2, h3, h4, h5⟩ => ⟨.nx _, h5, ds, r, h1, h2, h3, h4, rfl⟩⟩
theorem det_put {i : Nat} {k f : EF} : Det (wPut i k f) := ⟨fun D D' env h ⟨ds, r, j, h1, h2, h3, h4, h5, h6, h7⟩ => ⟨ds, r, j, h1, h2, h3, h4, h5, h6, h.nx _ h7⟩, fun D env ⟨ds, r, j, h1, h2, h3, h4, h5, h6, h7⟩ => ⟨.nx _, h7, ds, r, j, h1, h2, h3, h4, h5, h6, rfl⟩⟩
theorem det_asgM {i : Nat} {m : MF} : Det (wAsgM i m) := ⟨fun D D' env h ⟨ds, h1, h2⟩ => ⟨ds, h1, h.nx _ h2⟩, fun D env ⟨ds, h1, h2⟩ => ⟨.nx _, h2, ds, h1, rfl⟩⟩
theorem det_putM {i : Nat} {ka kb f : EF} : Det (wPutM i ka kb f) := ⟨fun D D' env h ⟨dss, r, a, b, ds, h1, h2, h3, h4, h5, h6, h7, h8, h9⟩ => ⟨dss, r, a, b, ds, h1, h2, h3, h4, h5, h6, h7, h8, h.nx _ h9⟩,
  fun D env ⟨dss, r, a, b, ds, h1, h2, h3, h4, h5, h6, h7, h8, h9⟩ => ⟨.nx _, h9, dss, r, a, b, ds, h1, h2, h3, h4, h5, h6, h7, h8, rfl⟩⟩
theorem det_putR {i : Nat} {k f : EF} : Det (wPutR i k f) := ⟨fun D D' env h ⟨dss, ds, j, h1, h2, h3, h4, h5, h6⟩ => ⟨dss, ds, j, h1, h2, h3, h4, h5, h.nx _ h6⟩, fun D env ⟨dss, ds, j, h1, h2, h3, h4, h5, h6⟩ => ⟨.nx _, h6, dss, ds, j, h1, h2, h3, h4, h5, rfl⟩⟩
theorem det_frz {i : Nat} {a : WS} (h : Det a) : Det (wFrz i a) := ⟨fun D D' env l q => h.mono D D' _ l q, fun D env q => h.one D _ q⟩
theorem det_if {t : TF} {a b : WS} (ha : Det a) (hb : Det b) : Det (wIf t a b) := by
  refine ⟨fun D D' env h ⟨c, h1, h2, h3⟩ => ⟨c, h1, fun e => ha.mono D D' env h (h2 e), fun e => hb.mono D D' env h (h3 e)⟩, fun D env ⟨c, h1, h2, h3⟩ => ?_⟩
  cases c with
  | true =>
    obtain ⟨o, ho, h4⟩ := ha.one D env (h2 rfl)
    exact ⟨o, ho, true, h1, fun _ => h4, fun e => (by cases e)⟩
  | false =>
    obtain ⟨o, ho, h4⟩ := hb.one D env (h3 rfl)
    exact ⟨o, ho, false, h1, fun e => (by cases e), fun _ => h4⟩
/-- a loop from its i-th turn on -/
def ForFrom (ds : List Dt) (g : GF) (b : WS) (i : Nat) (D : En) (env : Sl) : Prop := ∃ I : Nat → Sl → Prop, I i env ∧
  (∀ i env d, ds[i]? = some d → I i env → ∃ env', g d env = some env' ∧ b { D with nx := I (i + 1), bk := D.nx, ct := I (i + 1) } env') ∧ ∀ env, I ds.length env → D.nx env
theorem forFrom_one {ds : List Dt} {g : GF} {b : WS} (hb : Det b) {D : En} {I : Nat → Sl → Prop} (hs : ∀ i env d, ds[i]? = some d → I i env → ∃ env', g d env = some env' ∧ b { D with nx := I (i + 1), bk := D.nx, ct := I (i + 1) } env')
    (he : ∀ env, I ds.length env → D.nx env) : ∀ (k i : Nat) (env : Sl), i + k = ds.length → I i env → ∃ o : Out, o.ok D ∧ ForFrom ds g b i (One o) env := by
  intro k
  induction k with
  | zero =>
    intro i env hik hI
    have e : i = ds.length := by omega
    subst e
    refine ⟨.nx env, he env hI, fun j e => j = ds.length ∧ e = env, ⟨rfl, rfl⟩, fun j e d hj hJ => ?_, fun e hJ => by rw [hJ.2]; rfl⟩
    rw [hJ.1, List.getElem?_eq_none (Nat.le_refl _)] at hj
    cases hj
  | succ k ih =>
    intro i env hik hI
    have hg : ds[i]? = some ds[i] := List.getElem?_eq_getElem (by omega)
    obtain ⟨env', h1, h2⟩ := hs i env ds[i] hg hI
    obtain ⟨o1, ho1, h3⟩ := hb.one _ env' h2
    have next : ∀ e1, I (i + 1) e1 → (o1 = .nx e1 ∨ o1 = .ct e1) → ∃ o : Out, o.ok D ∧ ForFrom ds g b i (One o) env := fun e1 hI1 hor => by
      obtain ⟨o, ho, J, j0, js, je⟩ := ih (i + 1) e1 (by omega) hI1
      refine ⟨o, ho, fun j e => (j = i ∧ e = env) ∨ (i < j ∧ J j e), .inl ⟨rfl, rfl⟩, fun j e d hj hJ => ?_, fun e hJ => ?_⟩
      · rcases hJ with ⟨rfl, rfl⟩ | ⟨hl, hJ⟩
        · rw [hg] at hj
          cases hj
          refine ⟨env', h1, hb.mono _ _ env' (One.le ?_) h3⟩
          rcases hor with rfl | rfl
          · exact .inr ⟨Nat.lt_succ_self _, j0⟩
          · exact .inr ⟨Nat.lt_succ_self _, j0⟩
        · obtain ⟨e', q1, q2⟩ := js j e d hj hJ
          refine ⟨e', q1, hb.mono _ _ e' ?_ q2⟩
          exact ⟨fun z q => .inr ⟨by omega, q⟩, fun _ q => q, fun _ q => q, fun z q => .inr ⟨by omega, q⟩, fun _ _ _ q => q⟩
      · rcases hJ with ⟨e2, rfl⟩ | ⟨_, hJ⟩
        · omega
        · exact je e hJ
    have last : ∀ o : Out, o.ok D → Le (One o1) { One o with nx := fun _ => False, bk := (One o).nx, ct := fun _ => False } → ∃ o : Out, o.ok D ∧ ForFrom ds g b i (One o) env := fun o ho hl => by
      refine ⟨o, ho, fun j e => j = i ∧ e = env, ⟨rfl, rfl⟩, fun j e d hj hJ => ?_, fun e hJ => ?_⟩
      · obtain ⟨rfl, rfl⟩ := hJ
        rw [hg] at hj
        cases hj
        exact ⟨env', h1, hb.mono _ _ env' ⟨fun z q => (hl.nx z q).elim, hl.rt, hl.bk, fun z q => (hl.ct z q).elim, hl.er⟩ h3⟩
      · have := hJ.1
        omega
    cases o1 with
    | nx e1 => exact next e1 ho1 (.inl rfl)
    | ct e1 => exact next e1 ho1 (.inr rfl)
    | bk e1 => exact last (.nx e1) ho1 ⟨fun z q => (by cases q), fun z q => (by cases q), fun z q => (by cases q; rfl), fun z q => (by cases q), fun _ _ z q => (by cases q)⟩
    | rt d => exact last (.rt d) ho1 ⟨fun z q => (by cases q), fun z q => (by cases q; rfl), fun z q => (by cases q), fun z q => (by cases q), fun _ _ z q => (by cases q)⟩
    | er c fs e1 => exact last (.er c fs e1) ho1 ⟨fun z q => (by cases q), fun z q => (by cases q), fun z q => (by cases q), fun z q => (by cases q), fun _ _ z q => (by cases q; rfl)⟩
theorem det_for {fi : IF} {g : GF} {b : WS} (hb : Det b) : Det (wFor fi g b) := by
  refine ⟨fun D D' env h ⟨ds, h1, I, i0, hs, he⟩ => ⟨ds, h1, I, i0, fun i e d hd hI => ?_, fun e hI => h.nx e (he e hI)⟩, fun D env ⟨ds, h1, I, i0, hs, he⟩ => ?_⟩
  · obtain ⟨e', q1, q2⟩ := hs i e d hd hI
    exact ⟨e', q1, hb.mono { D with nx := I (i + 1), bk := D.nx, ct := I (i + 1) } _ e' ⟨fun _ q => q, h.rt, h.nx, fun _ q => q, h.er⟩ q2⟩
  · obtain ⟨o, ho, J, j0, js, je⟩ := forFrom_one hb hs he ds.length 0 env (Nat.zero_add _) i0
    exact ⟨o, ho, ds, h1, J, j0, js, je⟩
theorem while_one {t : TF} {b : WS} (hb : Det b) {D : En} {I : Nat → Sl → Prop} (hs : ∀ m env, I m env → ∃ c, t env = some c ∧ ((c = true → b { D with nx := fun e => ∃ m', m' < m ∧ I m' e, bk := D.nx, ct := fun e => ∃ m', m' < m ∧ I m' e } env) ∧ (c = false → D.nx env))) :
    ∀ (m : Nat) (env : Sl), I m env → ∃ o : Out, o.ok D ∧ ∃ J : Nat → Sl → Prop, J m env ∧ (∀ k e, J k e → k ≤ m) ∧ ∀ k e, J k e → ∃ c, t e = some c ∧ ((c = true → b { One o with nx := fun e => ∃ m', m' < k ∧ J m' e, bk := (One o).nx, ct := fun e => ∃ m', m' < k ∧ J m' e } e) ∧ (c = false → (One o).nx e)) := by
  intro m
  induction m using Nat.strongRecOn with
  | ind m ih =>
    intro env hI
    obtain ⟨c, h1, h2, h3⟩ := hs m env hI
    cases c with
    | false => exact ⟨.nx env, h3 rfl, fun k e => k = m ∧ e = env, ⟨rfl, rfl⟩, fun k e hJ => Nat.le_of_eq hJ.1, fun k e hJ => ⟨false, (by rw [hJ.2]; exact h1), fun q => (by cases q), fun _ => (by rw [hJ.2]; rfl)⟩⟩
    | true =>
      obtain ⟨o1, ho1, h4⟩ := hb.one _ env (h2 rfl)
      have next : ∀ e1, (∃ m', m' < m ∧ I m' e1) → (o1 = .nx e1 ∨ o1 = .ct e1) → ∃ o : Out, o.ok D ∧ ∃ J : Nat → Sl → Prop, J m env ∧ (∀ k e, J k e → k ≤ m) ∧ ∀ k e, J k e → ∃ c, t e = some c ∧ ((c = true → b { One o with nx := fun e => ∃ m', m' < k ∧ J m' e, bk := (One o).nx, ct := fun e => ∃ m', m' < k ∧ J m' e } e) ∧ (c = false → (One o).nx e)) := fun e1 ⟨m', hm, hI1⟩ hor => by
        obtain ⟨o, ho, J, j0, jl, js⟩ := ih m' hm e1 hI1
        refine ⟨o, ho, fun k e => (k = m ∧ e = env) ∨ (k < m ∧ J k e), .inl ⟨rfl, rfl⟩, fun k e hJ => ?_, fun k e hJ => ?_⟩
        · rcases hJ with ⟨rfl, _⟩ | ⟨h, _⟩ <;> omega
        · rcases hJ with ⟨rfl, rfl⟩ | ⟨hl, hJ⟩
          · refine ⟨true, h1, fun _ => hb.mono _ _ e (One.le ?_) h4, fun q => (by cases q)⟩
            rcases hor with rfl | rfl
            · exact ⟨m', hm, .inr ⟨hm, j0⟩⟩
            · exact ⟨m', hm, .inr ⟨hm, j0⟩⟩
          · obtain ⟨c, q1, q2, q3⟩ := js k e hJ
            refine ⟨c, q1, fun hc => hb.mono _ _ e ?_ (q2 hc), q3⟩
            exact ⟨fun z ⟨m2, a, q⟩ => ⟨m2, a, .inr ⟨by omega, q⟩⟩, fun _ q => q, fun _ q => q, fun z ⟨m2, a, q⟩ => ⟨m2, a, .inr ⟨by omega, q⟩⟩, fun _ _ _ q => q⟩
      have last : ∀ o : Out, o.ok D → Le (One o1) { One o with nx := fun _ => False, bk := (One o).nx, ct := fun _ => False } → ∃ o : Out, o.ok D ∧ ∃ J : Nat → Sl → Prop, J m env ∧ (∀ k e, J k e → k ≤ m) ∧ ∀ k e, J k e → ∃ c, t e = some c ∧ ((c = true → b { One o with nx := fun e => ∃ m', m' < k ∧ J m' e, bk := (One o).nx, ct := fun e => ∃ m', m' < k ∧ J m' e } e) ∧ (c = false → (One o).nx e)) := fun o ho hl => by
        refine ⟨o, ho, fun k e => k = m ∧ e = env, ⟨rfl, rfl⟩, fun k e hJ => Nat.le_of_eq hJ.1, fun k e hJ => ?_⟩
        obtain ⟨rfl, rfl⟩ := hJ
        exact ⟨true, h1, fun _ => hb.mono _ _ e ⟨fun z q => (hl.nx z q).elim, hl.rt, hl.bk, fun z q => (hl.ct z q).elim, hl.er⟩ h4, fun q => (by cases q)⟩
      cases o1 with
      | nx e1 => exact next e1 ho1 (.inl rfl)
      | ct e1 => exact next e1 ho1 (.inr rfl)
      | bk e1 => exact last (.nx e1) ho1 ⟨fun z q => (by cases q), fun z q => (by cases q), fun z q => (by cases q; rfl), fun z q => (by cases q), fun _ _ z q => (by cases q)⟩
      | rt d => exact last (.rt d) ho1 ⟨fun z q => (by cases q), fun z q => (by cases q; rfl), fun z q => (by cases q), fun z q => (by cases q), fun _ _ z q => (by cases q)⟩
      | er c fs e1 => exact last (.er c fs e1) ho1 ⟨fun z q => (by cases q), fun z q => (by cases q), fun z q => (by cases q), fun z q => (by cases q), fun _ _ z q => (by cases q; rfl)⟩
theorem det_while {t : TF} {b : WS} (hb : Det b) : Det (wWhile t b) := by
  refine ⟨fun D D' env h ⟨I, i0, hs⟩ => ⟨I, i0, fun m e hI => ?_⟩, fun D env ⟨I, ⟨m, i0⟩, hs⟩ => ?_⟩
  · obtain ⟨c, h1, h2, h3⟩ := hs m e hI
    exact ⟨c, h1, fun hc => hb.mono { D with nx := fun e => ∃ m', m' < m ∧ I m' e, bk := D.nx, ct := fun e => ∃ m', m' < m ∧ I m' e } _ e ⟨fun _ q => q, h.rt, h.nx, fun _ q => q, h.er⟩ (h2 hc), fun hc => h.nx e (h3 hc)⟩
  · obtain ⟨o, ho, J, j0, _, js⟩ := while_one hb hs m env i0
    exact ⟨o, ho, J, ⟨m, j0⟩, js⟩
/-- the ends of a def, told by what is wanted of its answer -/
def endP (P : Dt → Prop) : En := ⟨fun _ => P .non, P, fun _ => False, fun _ => False, fun _ _ _ => False⟩
theorem auto_rel {n : Nat} {w : WS} {P : List Dt → Dt → Prop} {ds : List Dt} (hd : Det w) (h : w (endP (P ds)) (startE n ds)) : ∃ r, autoF n w P ds = some r ∧ P ds r := by
  obtain ⟨o, ho, h2⟩ := hd.one _ _ h
  cases o with
  | nx e => exact auto_at ⟨.non, ho, hd.mono _ _ _ (One.le (D := endR .non) (o := .nx e) (show Dt.non = Dt.non from rfl)) h2⟩
  | rt d => exact auto_at ⟨d, ho, hd.mono _ _ _ (One.le (D := endR d) (o := .rt d) (show d = d from rfl)) h2⟩
  | bk e => exact ho.elim
  | ct e => exact ho.elim
  | er c fs e => exact ho.elim
/-! ### defs that may raise -/
theorem det_asgX {i : Nat} {f : XF} : Det (wAsgX i f) := ⟨fun D D' env h ⟨o, h1, h2, h3⟩ => ⟨o, h1, fun d e => h.nx _ (h2 d e), fun c fs e => h.er _ _ _ (h3 c fs e)⟩, fun D env ⟨o, h1, h2, h3⟩ => by
  cases o with
  | ok d => exact ⟨.nx _, h2 d rfl, .ok d, h1, fun d' e => by cases e; rfl, fun c fs e => by cases e⟩
  | er c fs => exact ⟨.er _ _ _, h3 c fs rfl, .er c fs, h1, fun d' e => (by cases e), fun c fs e => by cases e; rfl⟩⟩
theorem det_retX {f : XF} : Det (wRetX f) := ⟨fun D D' env h ⟨o, h1, h2, h3⟩ => ⟨o, h1, fun d e => h.rt _ (h2 d e), fun c fs e => h.er _ _ _ (h3 c fs e)⟩, fun D env ⟨o, h1, h2, h3⟩ => by
  cases o with
  | ok d => exact ⟨.rt _, h2 d rfl, .ok d, h1, fun d' e => by cases e; rfl, fun c fs e => by cases e⟩
  | er c fs => exact ⟨.er _ _ _, h3 c fs rfl, .er c fs, h1, fun d' e => (by cases e), fun c fs e => by cases e; rfl⟩⟩
theorem det_dropX {f : XF} : Det (wDropX f) := ⟨fun D D' env h ⟨o, h1, h2, h3⟩ => ⟨o, h1, fun d e => h.nx _ (h2 d e), fun c fs e => h.er _ _ _ (h3 c fs e)⟩, fun D env ⟨o, h1, h2, h3⟩ => by
  cases o with
  | ok d => exact ⟨.nx _, h2 d rfl, .ok d, h1, fun d' e => by cases e; rfl, fun c fs e => by cases e⟩
  | er c fs => exact ⟨.er _ _ _, h3 c fs rfl, .er c fs, h1, fun d' e => (by cases e), fun c fs e => by cases e; rfl⟩⟩
theorem det_raise {c : Nat} {ns : List Str} {fa : AF} : Det (wRaise c ns fa) := ⟨fun D D' env h ⟨rs, ds, h1, h2, h3, h4⟩ => ⟨rs, ds, h1, h2, h3, h.er _ _ _ h4⟩, fun D env ⟨rs, ds, h1, h2, h3, h4⟩ => ⟨.er _ _ _, h4, rs, ds, h1, h2, h3, rfl⟩⟩
/-- the ends of a def that may raise, told by what is wanted of its end -/
def endX (P : Xr → Prop) : En := ⟨fun _ => P (.ok .non), fun d => P (.ok d), fun _ => False, fun _ => False, fun c fs _ => P (.er c fs)⟩
open Classical in
noncomputable def autoX (n : Nat) (w : WS) (P : List Dt → Xr → Prop) : FX := fun ds => if h : ∃ o, P ds o ∧ w (endX (· = o)) (startE n ds) then some (choose h) else none
theorem autoX_spec {n : Nat} {w : WS} {P : List Dt → Xr → Prop} {ds : List Dt} {o : Xr} (h : autoX n w P ds = some o) : P ds o ∧ w (endX (· = o)) (startE n ds) := by
  unfold autoX at h
  split at h
  · rename_i hk
    cases h
    exact Classical.choose_spec hk
  · cases h
theorem autoX_keeps {n : Nat} {w : WS} (hd : Det w) {P : List Dt → Xr → Prop} : KeepsX n w (autoX n w P) := fun ds o h => hd.mono (endX (· = o)) _ _ ⟨fun _ q => Eq.symm q, fun _ q => Eq.symm q, fun _ q => q, fun _ q => q, fun _ _ _ q => Eq.symm q⟩ (autoX_spec h).2
theorem autoX_rel {n : Nat} {w : WS} {P : List Dt → Xr → Prop} {ds : List Dt} (hd : Det w) (h : w (endX (P ds)) (startE n ds)) : ∃ o, autoX n w P ds = some o ∧ P ds o := by
  have key : ∀ o : Xr, P ds o → w (endX (· = o)) (startE n ds) → ∃ o, autoX n w P ds = some o ∧ P ds o := fun o h1 h2 => by
    have hk : ∃ o, P ds o ∧ w (endX (· = o)) (startE n ds) := ⟨o, h1, h2⟩
    unfold autoX
    rw [dif_pos hk]
    exact ⟨_, rfl, (Classical.choose_spec hk).1⟩
  obtain ⟨o, ho, h2⟩ := hd.one _ _ h
  cases o with
  | nx e => exact key (.ok .non) ho (hd.mono _ _ _ (One.le (D := endX (· = .ok .non)) (o := .nx e) (show Xr.ok .non = Xr.ok .non from rfl)) h2)
  | rt d => exact key (.ok d) ho (hd.mono _ _ _ (One.le (D := endX (· = .ok d)) (o := .rt d) (show Xr.ok d = Xr.ok d from rfl)) h2)
  | bk e => exact ho.elim
  | ct e => exact ho.elim
  | er c fs e => exact key (.er c fs) ho (hd.mono _ _ _ (One.le (D := endX (· = .er c fs)) (o := .er c fs e) (show Xr.er c fs = Xr.er c fs from rfl)) h2)
end Pyl
end
section
set_option Elab.async false
set_option linter.all false
namespace Pyl
open PySem
/-! ### what two readings promise, one promises -/
def En.and (D D' : En) : En := ⟨fun e => D.nx e ∧ D'.nx e, fun d => D.rt d ∧ D'.rt d, fun e => D.bk e ∧ D'.bk e, fun e => D.ct e ∧ D'.ct e, fun c fs e => D.er c fs e ∧ D'.er c fs e⟩
structure Cnj (w : WS) : Prop where
  two : ∀ (D D' : En) (env : Sl), w D env → w D' env → w (D.and D') env
theorem cnj_nil : Cnj wNil := ⟨fun D D' env h h' => ⟨h, h'⟩⟩
theorem cnj_dead : Cnj wDead := ⟨fun D D' env h h' => h.elim⟩
theorem cnj_brk : Cnj wBrk := ⟨fun D D' env h h' => ⟨h, h'⟩⟩
theorem cnj_cnt : Cnj wCnt := ⟨fun D D' env h h' => ⟨h, h'⟩⟩
theorem cnj_seq {a b : WS} (ha : Cnj a) (hb : Cnj b) : Cnj (wSeq a b) := ⟨fun D D' env ⟨M, h1, h2⟩ ⟨M', h1', h2'⟩ => ⟨fun e => M e ∧ M' e, ha.two { D with nx := M } { D' with nx := M' } env h1 h1', fun e he => hb.two D D' e (h2 e he.1) (h2' e he.2)⟩⟩
theorem cnj_asg {i : Nat} {f : EF} : Cnj (wAsg i f) := ⟨fun D D' env ⟨r, h1, h2, h3⟩ ⟨r', h1', h2', h3'⟩ => by
  rw [h1] at h1'
  cases h1'
  exact ⟨r, h1, h2, h3, h3'⟩⟩
theorem cnj_unp {is : List Nat} {f : EF} : Cnj (wUnp is f) := ⟨fun D D' env ⟨d, e, h1, h2, h3⟩ ⟨d', e', h1', h2', h3'⟩ => by
  rw [h1] at h1'
  cases h1'
  rw [h2] at h2'
  cases h2'
  exact ⟨d, e, h1, h2, h3, h3'⟩⟩
theorem cnj_ret {f : EF} : Cnj (wRet f) := ⟨fun D D' env ⟨r, h1, h2, h3⟩ ⟨r', h1', h2', h3'⟩ => by
  rw [h1] at h1'
  cases h1'
  exact ⟨r, h1, h2, h3, h3'⟩⟩
theorem cnj_retN : Cnj wRetN := ⟨fun D D' env h h' => ⟨h, h'⟩⟩
theorem cnj_drop {f : EF} : Cnj (wDrop f) := ⟨fun D D' env ⟨r, h1, h3⟩ ⟨r', h1', h3'⟩ => ⟨r, h1, h3, h3'⟩⟩
theorem cnj_app {i : Nat} {f : EF} : Cnj (wApp i f) := ⟨fun D D' env ⟨ds, r, h1, h2, h3, h4, h5⟩ ⟨ds', r', h1', h2', h3', h4', h5'⟩ => by
  rw [h1] at h1'
  cases h1'
  rw [h2] at h2'
  cases h2'
  exact ⟨ds, r, h1, h2, h3, h4, h5, h5'⟩⟩
theorem cnj_put {i : Nat} {k f : EF} : Cnj (wPut i k f) := ⟨fun D D' env ⟨ds, r, j, h1, h2, h3, h4, h5, h6, h7⟩ ⟨ds', r', j', h1', h2', h3', h4', h5', h6', h7'⟩ => by
  rw [h1] at h1'
  cases h1'
  rw [h2] at h2'
  cases h2'
  rw [h4] at h4'
  cases h4'
  exact ⟨ds, r, j, h1, h2, h3, h4, h5, h6, h7, h7'⟩⟩
theorem cnj_asgM {i : Nat} {m : MF} : Cnj (wAsgM i m) := ⟨fun D D' env ⟨ds, h1, h2⟩ ⟨ds', h1', h2'⟩ => by
  rw [h1] at h1'
  cases h1'
  exact ⟨ds, h1, h2, h2'⟩⟩
theorem cnj_putM {i : Nat} {ka kb f : EF} : Cnj (wPutM i ka kb f) := ⟨fun D D' env ⟨dss, r, a, b, ds, h1, h2, h3, h4, h5, h6, h7, h8, h9⟩ ⟨dss', r', a', b', ds', h1', h2', h3', h4', h5', h6', h7', h8', h9'⟩ => by
  rw [h1] at h1'
  cases h1'
  rw [h2] at h2'
  cases h2'
  rw [h4] at h4'
  cases h4'
  rw [h5] at h5'
  cases h5'
  rw [h6] at h6'
  cases h6'
  exact ⟨dss, r, a, b, ds, h1, h2, h3, h4, h5, h6, h7, h8, h9, h9'⟩⟩
theorem cnj_putR {i : Nat} {k f : EF} : Cnj (wPutR i k f) := ⟨fun D D' env ⟨dss, ds, j, h1, h2, h3, h4, h5, h6⟩ ⟨dss', ds', j', h1', h2', h3', h4', h5', h6'⟩ => by
  rw [h1] at h1'
  cases h1'
  rw [h2] at h2'
  cases h2'
  rw [h3] at h3'
  cases h3'
  exact ⟨dss, ds, j, h1, h2, h3, h4, h5, h6, h6'⟩⟩
theorem cnj_frz {i : Nat} {a : WS} (h : Cnj a) : Cnj (wFrz i a) := ⟨fun D D' env q q' => h.two D D' _ q q'⟩
theorem cnj_if {t : TF} {a b : WS} (ha : Cnj a) (hb : Cnj b) : Cnj (wIf t a b) := ⟨fun D D' env ⟨c, h1, h2, h3⟩ ⟨c', h1', h2', h3'⟩ => by
  rw [h1] at h1'
  cases h1'
  exact ⟨c, h1, fun e => ha.two D D' env (h2 e) (h2' e), fun e => hb.two D D' env (h3 e) (h3' e)⟩⟩
theorem cnj_for {fi : IF} {g : GF} {b : WS} (hb : Cnj b) : Cnj (wFor fi g b) := ⟨fun D D' env ⟨ds, h1, I, i0, hs, he⟩ ⟨ds', h1', I', i0', hs', he'⟩ => by
  rw [h1] at h1'
  cases h1'
  refine ⟨ds, h1, fun i e => I i e ∧ I' i e, ⟨i0, i0'⟩, fun i e d hd hI => ?_, fun e hI => ⟨he e hI.1, he' e hI.2⟩⟩
  obtain ⟨e1, q1, q2⟩ := hs i e d hd hI.1
  obtain ⟨e2, q1', q2'⟩ := hs' i e d hd hI.2
  rw [q1] at q1'
  cases q1'
  exact ⟨e1, q1, hb.two { D with nx := I (i + 1), bk := D.nx, ct := I (i + 1) } { D' with nx := I' (i + 1), bk := D'.nx, ct := I' (i + 1) } e1 q2 q2'⟩⟩
theorem cnj_while {t : TF} {b : WS} (hb : Cnj b) (hm : Det b) : Cnj (wWhile t b) := ⟨fun D D' env ⟨I, ⟨m, i0⟩, hs⟩ ⟨I', ⟨m', i0'⟩, hs'⟩ => by
  refine ⟨fun k e => I k e ∧ ∃ k', I' k' e, ⟨m, i0, m', i0'⟩, fun k e ⟨hI, k', hI'⟩ => ?_⟩
  obtain ⟨c, h1, h2, h3⟩ := hs k e hI
  obtain ⟨c', h1', h2', h3'⟩ := hs' k' e hI'
  rw [h1] at h1'
  cases h1'
  refine ⟨c, h1, fun hc => ?_, fun hc => ⟨h3 hc, h3' hc⟩⟩
  refine hm.mono _ _ e ?_ (hb.two _ _ e (h2 hc) (h2' hc))
  exact ⟨fun z ⟨⟨j, hj, q⟩, j', hj', q'⟩ => ⟨j, hj, q, j', q'⟩, fun _ q => q, fun _ q => q, fun z ⟨⟨j, hj, q⟩, j', hj', q'⟩ => ⟨j, hj, q, j', q'⟩, fun _ _ _ q => q⟩⟩
theorem cnj_asgX {i : Nat} {f : XF} : Cnj (wAsgX i f) := ⟨fun D D' env ⟨o, h1, h2, h3⟩ ⟨o', h1', h2', h3'⟩ => by
  rw [h1] at h1'
  cases h1'
  exact ⟨o, h1, fun d e => ⟨h2 d e, h2' d e⟩, fun c fs e => ⟨h3 c fs e, h3' c fs e⟩⟩⟩
theorem cnj_retX {f : XF} : Cnj (wRetX f) := ⟨fun D D' env ⟨o, h1, h2, h3⟩ ⟨o', h1', h2', h3'⟩ => by
  rw [h1] at h1'
  cases h1'
  exact ⟨o, h1, fun d e => ⟨h2 d e, h2' d e⟩, fun c fs e => ⟨h3 c fs e, h3' c fs e⟩⟩⟩
theorem cnj_dropX {f : XF} : Cnj (wDropX f) := ⟨fun D D' env ⟨o, h1, h2, h3⟩ ⟨o', h1', h2', h3'⟩ => by
  rw [h1] at h1'
  cases h1'
  exact ⟨o, h1, fun d e => ⟨h2 d e, h2' d e⟩, fun c fs e => ⟨h3 c fs e, h3' c fs e⟩⟩⟩
theorem cnj_raise {c : Nat} {ns : List Str} {fa : AF} : Cnj (wRaise c ns fa) := ⟨fun D D' env ⟨rs, ds, h1, h2, h3, h4⟩ ⟨rs', ds', h1', h2', h3', h4'⟩ => by
  rw [h1] at h1'
  cases h1'
  rw [h2] at h2'
  cases h2'
  exact ⟨rs, ds, h1, h2, h3, h4, h4'⟩⟩
/-! both -/
def DC (w : WS) : Prop := Det w ∧ Cnj w
theorem dc_nil : DC wNil := ⟨det_nil, cnj_nil⟩
theorem dc_dead : DC wDead := ⟨det_dead, cnj_dead⟩
theorem dc_brk : DC wBrk := ⟨det_brk, cnj_brk⟩
theorem dc_cnt : DC wCnt := ⟨det_cnt, cnj_cnt⟩
theorem dc_seq {a b : WS} (ha : DC a) (hb : DC b) : DC (wSeq a b) := ⟨det_seq ha.1 hb.1, cnj_seq ha.2 hb.2⟩
theorem dc_asg {i : Nat} {f : EF} : DC (wAsg i f) := ⟨det_asg, cnj_asg⟩
theorem dc_unp {is : List Nat} {f : EF} : DC (wUnp is f) := ⟨det_unp, cnj_unp⟩
theorem dc_ret {f : EF} : DC (wRet f) := ⟨det_ret, cnj_ret⟩
theorem dc_retN : DC wRetN := ⟨det_retN, cnj_retN⟩
theorem dc_drop {f : EF} : DC (wDrop f) := ⟨det_drop, cnj_drop⟩
theorem dc_app {i : Nat} {f : EF} : DC (wApp i f) := ⟨det_app, cnj_app⟩
theorem dc_put {i : Nat} {k f : EF} : DC (wPut i k f) := ⟨det_put, cnj_put⟩
theorem dc_asgM {i : Nat} {m : MF} : DC (wAsgM i m) := ⟨det_asgM, cnj_asgM⟩
theorem dc_putM {i : Nat} {ka kb f : EF} : DC (wPutM i ka kb f) := ⟨det_putM, cnj_putM⟩
theorem dc_putR {i : Nat} {k f : EF} : DC (wPutR i k f) := ⟨det_putR, cnj_putR⟩
theorem dc_frz {i : Nat} {a : WS} (h : DC a) : DC (wFrz i a) := ⟨det_frz h.1, cnj_frz h.2⟩
theorem dc_if {t : TF} {a b : WS} (ha : DC a) (hb : DC b) : DC (wIf t a b) := ⟨det_if ha.1 hb.1, cnj_if ha.2 hb.2⟩
theorem dc_for {fi : IF} {g : GF} {b : WS} (hb : DC b) : DC (wFor fi g b) := ⟨det_for hb.1, cnj_for hb.2⟩
theorem dc_while {t : TF} {b : WS} (hb : DC b) : DC (wWhile t b) := ⟨det_while hb.1, cnj_while hb.2 hb.1⟩
theorem dc_asgX {i : Nat} {f : XF} : DC (wAsgX i f) := ⟨det_asgX, cnj_asgX⟩
theorem dc_retX {f : XF} : DC (wRetX f) := ⟨det_retX, cnj_retX⟩
theorem dc_dropX {f : XF} : DC (wDropX f) := ⟨det_dropX, cnj_dropX⟩
theorem dc_raise {c : Nat} {ns : List Str} {fa : AF} : DC (wRaise c ns fa) := ⟨det_raise, cnj_raise⟩
/-! ### functions that are nothing but their readings -/
theorem DC.uniq {w : WS} (h : DC w) {r r' : Dt} {env : Sl} (h1 : w (endR r) env) (h2 : w (endR r') env) : r = r' := by
  obtain ⟨o, ho, _⟩ := h.1.one _ _ (h.2.two _ _ _ h1 h2)
  cases o with
  | nx e => exact (show r = .non ∧ r' = .non from ho).1.trans (show r = .non ∧ r' = .non from ho).2.symm
  | rt d => exact (show d = r ∧ d = r' from ho).1.symm.trans (show d = r ∧ d = r' from ho).2
  | bk e => exact (show False ∧ False from ho).1.elim
  | ct e => exact (show False ∧ False from ho).1.elim
  | er c fs e => exact (show False ∧ False from ho).1.elim
/-- a def of k parameters, n names -/
noncomputable abbrev getF (n k : Nat) (w : WS) : FN := autoF n w fun ds _ => ds.length = k
theorem getF_len {n k : Nat} {w : WS} : ∀ ds r, getF n k w ds = some r → ds.length = k := fun ds r h => (auto_spec h).1
theorem getF_keeps {n k : Nat} {w : WS} : Keeps n w (getF n k w) := auto_keeps
theorem getF_eq {n k : Nat} {w : WS} {ds : List Dt} {r : Dt} (hd : DC w) (h : w (endR r) (startE n ds)) (hl : ds.length = k := by rfl) : getF n k w ds = some r := by
  obtain ⟨r', h1, h2⟩ := auto_at (P := fun ds _ => ds.length = k) ⟨r, hl, h⟩
  rw [show getF n k w ds = some r' from h1, hd.uniq (auto_spec h1).2 h]
theorem getF_rel {n k : Nat} {w : WS} {ds : List Dt} {Q : Dt → Prop} (hd : DC w) (h : w (endP Q) (startE n ds)) (hl : ds.length = k := by rfl) : ∃ r, getF n k w ds = some r ∧ Q r := by
  obtain ⟨o, ho, h2⟩ := hd.1.one _ _ h
  cases o with
  | nx e => exact ⟨.non, getF_eq hd (hd.1.mono _ _ _ (One.le (D := endR .non) (o := .nx e) (show Dt.non = Dt.non from rfl)) h2) hl, ho⟩
  | rt d => exact ⟨d, getF_eq hd (hd.1.mono _ _ _ (One.le (D := endR d) (o := .rt d) (show d = d from rfl)) h2) hl, ho⟩
  | bk e => exact ho.elim
  | ct e => exact ho.elim
  | er c fs e => exact ho.elim
/-- by a function that it keeps -/
theorem getF_lib {n k : Nat} {w : WS} {F : FN} {ds : List Dt} {r : Dt} (hd : DC w) (hk : Keeps n w F) (h : F ds = some r) (hl : ds.length = k := by rfl) : getF n k w ds = some r := getF_eq hd (hk ds r h) hl
/-! that may raise -/
noncomputable abbrev getX (n k : Nat) (w : WS) : FX := autoX n w fun ds _ => ds.length = k
theorem getX_len {n k : Nat} {w : WS} : ∀ ds o, getX n k w ds = some o → ds.length = k := fun ds o h => (autoX_spec h).1
theorem getX_keeps {n k : Nat} {w : WS} (hd : DC w) : KeepsX n w (getX n k w) := autoX_keeps hd.1
theorem DC.uniqX {w : WS} (h : DC w) {r r' : Xr} {env : Sl} (h1 : w (endX (· = r)) env) (h2 : w (endX (· = r')) env) : r = r' := by
  obtain ⟨o, ho, _⟩ := h.1.one _ _ (h.2.two _ _ _ h1 h2)
  cases o with
  | nx e => exact (show Xr.ok .non = r ∧ Xr.ok .non = r' from ho).1.symm.trans (show Xr.ok .non = r ∧ Xr.ok .non = r' from ho).2
  | rt d => exact (show Xr.ok d = r ∧ Xr.ok d = r' from ho).1.symm.trans (show Xr.ok d = r ∧ Xr.ok d = r' from ho).2
  | bk e => exact (show False ∧ False from ho).1.elim
  | ct e => exact (show False ∧ False from ho).1.elim
  | er c fs e => exact (show Xr.er c fs = r ∧ Xr.er c fs = r' from ho).1.symm.trans (show Xr.er c fs = r ∧ Xr.er c fs = r' from ho).2
theorem getX_eq {n k : Nat} {w : WS} {ds : List Dt} {o : Xr} (hd : DC w) (h : w (endX (· = o)) (startE n ds)) (hl : ds.length = k := by rfl) : getX n k w ds = some o := by
  have hk : ∃ x, ds.length = k ∧ w (endX (· = x)) (startE n ds) := ⟨o, hl, h⟩
  have e : getX n k w ds = some (Classical.choose hk) := by
    unfold getX autoX
    rw [dif_pos hk]
  rw [e, hd.uniqX (Classical.choose_spec hk).2 h]
theorem getX_rel {n k : Nat} {w : WS} {ds : List Dt} {Q : Xr → Prop} (hd : DC w) (h : w (endX Q) (startE n ds)) (hl : ds.length = k := by rfl) : ∃ o, getX n k w ds = some o ∧ Q o := by
  obtain ⟨o, ho, h2⟩ := hd.1.one _ _ h
  cases o with
  | nx e => exact ⟨.ok .non, getX_eq hd (hd.1.mono _ _ _ (One.le (D := endX (· = .ok .non)) (o := .nx e) (show Xr.ok .non = Xr.ok .non from rfl)) h2) hl, ho⟩
  | rt d => exact ⟨.ok d, getX_eq hd (hd.1.mono _ _ _ (One.le (D := endX (· = .ok d)) (o := .rt d) (show Xr.ok d = Xr.ok d from rfl)) h2) hl, ho⟩
  | bk e => exact ho.elim
  | ct e => exact ho.elim
  | er c fs e => exact ⟨.er c fs, getX_eq hd (hd.1.mono _ _ _ (One.le (D := endX (· = .er c fs)) (o := .er c fs e) (show Xr.er c fs = Xr.er c fs from rfl)) h2) hl, ho⟩
end Pyl
end
section
set_option Elab.async false
set_option linter.all false
namespace Pyl
open PySem
/-! ### own classes: their instances made, their methods, properties, operators -/
/-- by the class's number, a def -/
abbrev MT := List (Nat × FN)
/-- o.m(..) -/
def eMeth (ms : MT) (m : Str) (fe : EF) (ft : AF) : EF := fun env => match fe env with
  | some (.vis (.obj c fs)) => (ms.lookup c).bind fun F => if fs.lookup m = none then (ft env).bind fun rs => (F (.obj c fs :: rs.map (·.1))).bind fun d => if rs.any (·.2) && !d.scalar then none else some (.vis d) else none
  | _ => none
/-- o(..) -/
def eCallO (ms : MT) (fe : EF) (ft : AF) : EF := fun env => match fe env with
  | some (.vis (.obj c fs)) => (ms.lookup c).bind fun F => (ft env).bind fun rs => (F (.obj c fs :: rs.map (·.1))).bind fun d => if rs.any (·.2) && !d.scalar then none else some (.vis d)
  | _ => none
/-- o.f, a field of the classes cs, a property of those in ps -/
def eAtt (cs : List Nat) (ps : MT) (f : Str) (fe : EF) : EF := fun env => match fe env with
  | some (.vis (.obj c fs)) => (match ps.lookup c with
    | some F => (F [.obj c fs]).map .vis
    | none => if c ∈ cs then (fs.lookup f).map .vis else none)
  | _ => none
/-- ~o -/
def pInvO (ms : MT) : Dt → Option R
  | .obj c fs => (ms.lookup c).bind fun F => (F [.obj c fs]).map .vis
  | _ => none
/-- o == p, both of one class, or data -/
def pEqO (ms : MT) (a b : Dt) : Option R := match a, b with
  | .obj c fs, .obj c' gs => if c' = c then (ms.lookup c).bind fun F => (F [.obj c fs, .obj c' gs]).map .vis else none
  | a, b => pEq a b
/-- a class called; F: its __init__, of None in self's stead, gives what it stores, in order -/
def eMakeF (c : Nat) (ns : List Str) (F : FN) (fa : AF) : EF := fun env => (fa env).bind fun rs => (plain rs).bind fun ds => match F (.non :: ds) with
  | some (.tup vs) => if vs.length = ns.length then some (.vis (.obj c (ns.zip vs))) else none
  | _ => none
/-- is, of bools -/
def pIs : Dt → Dt → Option R
  | .bl a, .bl b => some (.vis (.bl (decide (a = b))))
  | _, _ => none
/-- the body of an __init__: self is not looked at .. -/
def wSelf (w : WS) : WS := fun D env => w D (env.set 0 .take)
/-- .. but for what is stored last -/
def wThenI (a b : WS) : WS := fun D env => ∃ M : Sl → Prop, a { D with nx := M, rt := fun _ => False } env ∧ ∀ e, M e → b D e
def wStores (fa : AF) : WS := fun D env => env[0]? = some .take ∧ wRet (eTup fa) D env
theorem det_self {a : WS} (h : Det a) : Det (wSelf a) := ⟨fun D D' env l q => h.mono D D' _ l q, fun D env q => h.one D _ q⟩
theorem cnj_self {a : WS} (h : Cnj a) : Cnj (wSelf a) := ⟨fun D D' env q q' => h.two D D' _ q q'⟩
theorem dc_self {a : WS} (h : DC a) : DC (wSelf a) := ⟨det_self h.1, cnj_self h.2⟩
theorem det_thenI {a b : WS} (ha : Det a) (hb : Det b) : Det (wThenI a b) := by
  refine ⟨fun D D' env h ⟨M, h1, h2⟩ => ⟨M, ha.mono { D with nx := M, rt := fun _ => False } { D' with nx := M, rt := fun _ => False } env ⟨fun e z => z, fun _ z => z, h.bk, h.ct, h.er⟩ h1, fun e he => hb.mono D D' e h (h2 e he)⟩, fun D env ⟨M, h1, h2⟩ => ?_⟩
  obtain ⟨o, ho, h3⟩ := ha.one _ env h1
  cases o with
  | nx e =>
    obtain ⟨o2, ho2, h4⟩ := hb.one D e (h2 e ho)
    exact ⟨o2, ho2, fun e' => e' = e, ha.mono _ _ env (One.le (D := { One o2 with nx := fun e' => e' = e, rt := fun _ => False }) (o := .nx e) (show e = e from rfl)) h3, fun e' he => by rw [he]; exact h4⟩
  | rt d => exact (show False from ho).elim
  | bk e => exact ⟨.bk e, ho, fun _ => False, ha.mono _ _ env (One.le (D := { One (.bk e) with nx := fun _ => False, rt := fun _ => False }) (o := .bk e) (show Out.bk e = Out.bk e from rfl)) h3, fun e' he => he.elim⟩
  | ct e => exact ⟨.ct e, ho, fun _ => False, ha.mono _ _ env (One.le (D := { One (.ct e) with nx := fun _ => False, rt := fun _ => False }) (o := .ct e) (show Out.ct e = Out.ct e from rfl)) h3, fun e' he => he.elim⟩
  | er c fs e => exact ⟨.er c fs e, ho, fun _ => False, ha.mono _ _ env (One.le (D := { One (.er c fs e) with nx := fun _ => False, rt := fun _ => False }) (o := .er c fs e) (show Out.er c fs e = Out.er c fs e from rfl)) h3, fun e' he => he.elim⟩
theorem cnj_thenI {a b : WS} (ha : Cnj a) (hb : Cnj b) (hd : Det a) : Cnj (wThenI a b) := ⟨fun D D' env ⟨M, h1, h2⟩ ⟨M', h1', h2'⟩ => by
  have h3 := ha.two { D with nx := M, rt := fun _ => False } { D' with nx := M', rt := fun _ => False } env h1 h1'
  exact ⟨fun e => M e ∧ M' e, hd.mono (En.and { D with nx := M, rt := fun _ => False } { D' with nx := M', rt := fun _ => False }) { D.and D' with nx := fun e => M e ∧ M' e, rt := fun _ => False } env ⟨fun _ z => z, fun _ z => z.1, fun _ z => z, fun _ z => z, fun _ _ _ z => z⟩ h3, fun e he => hb.two D D' e (h2 e he.1) (h2' e he.2)⟩⟩
theorem dc_thenI {a b : WS} (ha : DC a) (hb : DC b) : DC (wThenI a b) := ⟨det_thenI ha.1 hb.1, cnj_thenI ha.2 hb.2 ha.1⟩
theorem dc_stores {fa : AF} : DC (wStores fa) := ⟨⟨fun D D' env h ⟨h1, h2⟩ => ⟨h1, det_ret.mono D D' env h h2⟩, fun D env ⟨h1, h2⟩ => by
  obtain ⟨o, h3, h4⟩ := det_ret.one D env h2
  exact ⟨o, h3, h1, h4⟩⟩, ⟨fun D D' env ⟨h1, h2⟩ ⟨_, h2'⟩ => ⟨h1, cnj_ret.two D D' env h2 h2'⟩⟩⟩
/-- target = xs.pop() -/
def wPop (j : Nat) (g : GF) : WS := fun D env => ∃ ds d env', env[j]? = some (.own (.lst ds)) ∧ ds[ds.length - 1]? = some d ∧ g d (env.set j (.own (.lst ds.dropLast))) = some env' ∧ D.nx env'
/-- xs.pop() -/
def wPopD (j : Nat) : WS := fun D env => ∃ ds d, env[j]? = some (.own (.lst ds)) ∧ ds[ds.length - 1]? = some d ∧ D.nx (env.set j (.own (.lst ds.dropLast)))
theorem dc_pop {j : Nat} {g : GF} : DC (wPop j g) := by
  refine ⟨⟨fun D D' env h ⟨ds, d, env', h1, h2, h3, h4⟩ => ⟨ds, d, env', h1, h2, h3, h.nx _ h4⟩, fun D env ⟨ds, d, env', h1, h2, h3, h4⟩ => ⟨.nx _, h4, ds, d, env', h1, h2, h3, rfl⟩⟩, ⟨fun D D' env ⟨ds, d, env', h1, h2, h3, h4⟩ ⟨ds', d', env'', h1', h2', h3', h4'⟩ => ?_⟩⟩
  rw [h1] at h1'
  cases h1'
  rw [h2] at h2'
  cases h2'
  rw [h3] at h3'
  cases h3'
  exact ⟨ds, d, env', h1, h2, h3, h4, h4'⟩
theorem dc_popD {j : Nat} : DC (wPopD j) := by
  refine ⟨⟨fun D D' env h ⟨ds, d, h1, h2, h4⟩ => ⟨ds, d, h1, h2, h.nx _ h4⟩, fun D env ⟨ds, d, h1, h2, h4⟩ => ⟨.nx _, h4, ds, d, h1, h2, rfl⟩⟩, ⟨fun D D' env ⟨ds, d, h1, h2, h4⟩ ⟨ds', d', h1', h2', h4'⟩ => ?_⟩⟩
  rw [h1] at h1'
  cases h1'
  rw [h2] at h2'
  cases h2'
  exact ⟨ds, d, h1, h2, h4, h4'⟩
/-- two clauses: [e for x in i if t for y in j if u] -/
def comp2G (env : Sl) (own own1 : List Nat) (g : GF) (t : TF) (j : IF) (h : GF) (u : TF) (e : EF) (d : Dt) : Option (List Dt) := (g d (wipeS env own)).bind fun env' => (t env').bind fun b => if b then (j env').bind fun es => if es.2 then none else compL (compG env' own1 h u e) es.1 else some []
def eComp2 (own own1 : List Nat) (i : IF) (g : GF) (t : TF) (j : IF) (h : GF) (u : TF) (e : EF) : EF := fun env => (i env).bind fun ds => (compL (comp2G env own own1 g t j h u e) ds.1).bind fun out => if out.length ≤ LIM then some (.fre (.lst out)) else none
/-- isinstance(x, (T, ..)), built-in types -/
def pIsiT (Ts : List String) (d : Dt) : Option R := d.ty.map fun t => .vis (.bl (Ts.any fun T => t == T || (t == "bool" && T == "int")))
/-- sum of a list or a tuple -/
def pSumA : Dt → Option R
  | .lst ds => (intsOf ds).map fun ns => .vis (.int ns.sum)
  | .tup ds => (intsOf ds).map fun ns => .vis (.int ns.sum)
  | _ => none
/-- a def that calls itself: by how deep it may go -/
noncomputable def recF (n k : Nat) (w : FN → WS) : Nat → FN
  | 0 => fun _ => none
  | i + 1 => getF n k (w (recF n k w i))
theorem recF_len {n k : Nat} {w : FN → WS} : ∀ (i : Nat) ds r, recF n k w i ds = some r → ds.length = k
  | 0, _, _, h => nomatch h
  | _ + 1, ds, r, h => getF_len ds r h
end Pyl
end
section
set_option Elab.async false
set_option linter.all false
set_option maxHeartbeats 1000000
namespace Pyl
open PySem
/-! ### the helpers that every law has -/
local macro_rules | `(tactic| walk_at "pe") => `(tactic| simp (config := { implicitDefEqProofs := false }) only [eVar_at, eC_at, e1_at, e2_at, aNil_at, aCons_at, eTup_at, eLst_at, plain_nil, plain_cons, eCall_at, eIf_at, eAnd_at, eOr_at, eNot_at, tVal_at, tAnd_at, tOr_at, tNot_at, tYes_at,
  pAdd_int, pSub_int, pNeg_int, pLt_int, pLe_int, pGt_int, pGe_int, pEq_int, pNe_int, pIsN_at, pNotN_at, pIx_lst, pIx_tup, oNone_at, oSome_at, eSlice_at, pLen_lst, pLen_tup, pInt_int, pInt_bl, pAbs_int, pSum_ints, pMax2_int, pMin2_int, pList_lst, pList_tup, pTuple_lst, pTuple_tup, iSeq_at, gN_at, gT_at, gsN_cons, gsN_nil, wipeS_cons, wipeS_nil,
  dt_vis, dt_bor, dt_fre, sh_vis, sh_bor, sh_fre, slot_vis, slot_fre, od_dt, isNon_non, isNon_int, isNon_lst, isNon_tup, scalar_int, scalar_bl, scalar_non, Option.bind_some, Option.bind_none, Option.map_some, Option.map_none, List.getElem?_cons_zero, List.getElem?_cons_succ, List.set_cons_zero, List.set_cons_succ, List.map_cons, List.map_nil, List.any_cons, List.any_nil, Bool.or_false, Bool.false_or, Bool.false_and, Bool.and_true, Bool.true_and, Bool.not_true, Bool.not_false,
  Option.some.injEq, exists_eq_left', exists_eq_left, true_and, and_true, if_true, if_false, Bool.false_eq_true, ite_true, ite_false, reduceIte, decide_eq_true_eq, decide_eq_false_iff_not, R.vis.injEq, R.fre.injEq, Dt.lst.injEq, Dt.tup.injEq, Dt.int.injEq, Slot.own.injEq, OD.lst.injEq, reduceCtorEq, false_and, exists_false, exists_const, Bool.true_eq_false, false_implies, true_implies, implies_true, forall_const])
/-- isinstance(value, int) and not a bool -/
def wholeD : Dt → Option Bool
  | .obj _ _ => none
  | .exn _ _ _ => none
  | .int _ => some true
  | _ => some false
def F_whole : FN := fun ds => match ds with
  | [d] => (wholeD d).map .bl
  | _ => none
def cw_whole : WS := (wRet (eAnd (e1 (pIsi "int") (eVar 0)) (eNot (e1 (pIsi "bool") (eVar 0)))))
theorem k_whole : Keeps 1 cw_whole F_whole := by
  intro ds r h
  match ds, h with
  | [d], h =>
    cases d <;> first | (cases h; done) | (cases h; exact ⟨_, rfl, rfl, rfl⟩)
def seedM (ns : List Int) : Int := ns.foldl (fun s n => (s * 31 + n % 1000003) % 1000003) 17
def cellM (ns : List Int) (k : Int) : Int := if k < ns.length then ns.getD k.toNat 0 else ((seedM ns + 7) * (k + 3) * 69621) % 2147483647
def F_cell : FN := fun ds => match ds with
  | [.lst xs, .int k] => (intsOf xs).bind fun ns => if 0 ≤ k ∧ k < 4294967296 then some (.int (cellM ns k)) else none
  | _ => none
def cw_cell : WS := (wSeq (wIf (tVal (e2 pLt (eVar 1) (e1 pLen (eVar 0)))) (wRet (e2 pIx (eVar 0) (eVar 1))) wNil)
  (wSeq (wAsg 2 (eC (.int 17)))
  (wSeq (wFor (iSeq (eVar 0)) (gN 3) (wAsg 2 (e2 pMod (e1 pInt (e2 pAdd (e2 pMul (eVar 2) (eC (.int 31))) (e2 pMod (e1 pInt (eVar 3)) (eC (.int 1000003))))) (eC (.int 1000003)))))
  (wRet (e2 pMod (e1 pInt (e2 pMul (e2 pMul (e2 pAdd (eVar 2) (eC (.int 7))) (e2 pAdd (eVar 1) (eC (.int 3)))) (eC (.int 69621)))) (eC (.int 2147483647)))))))
theorem intsOf_some : ∀ {ds : List Dt} {ns : List Int}, intsOf ds = some ns → ds = ns.map .int
  | [], _, h => by cases h; rfl
  | .int i :: ds, _, h => by
    unfold intsOf at h
    obtain ⟨ms, h1, h2⟩ := Option.map_eq_some_iff.mp h
    subst h2
    rw [intsOf_some h1]
    rfl
  | .non :: _, _, e => by simp [intsOf] at e
  | .bl _ :: _, _, e => by simp [intsOf] at e
  | .str _ :: _, _, e => by simp [intsOf] at e
  | .lst _ :: _, _, e => by simp [intsOf] at e
  | .tup _ :: _, _, e => by simp [intsOf] at e
  | .obj _ _ :: _, _, e => by simp [intsOf] at e
theorem seed_bound (ns : List Int) (i : Nat) : 0 ≤ seedM (ns.take i) ∧ seedM (ns.take i) < 1000003 := by
  have h : ∀ (ns : List Int) (s : Int), 0 ≤ s ∧ s < 1000003 → 0 ≤ ns.foldl (fun s n => (s * 31 + n % 1000003) % 1000003) s ∧ ns.foldl (fun s n => (s * 31 + n % 1000003) % 1000003) s < 1000003 := by
    intro ns
    induction ns with
    | nil => exact fun s h => h
    | cons n ns ih => exact fun s h => ih _ ⟨Int.emod_nonneg _ (by decide), Int.emod_lt_of_pos _ (by decide)⟩
  exact h _ 17 (by decide)
theorem foldl_take {α β : Type} {f : β → α → β} {l : List α} {i : Nat} {x : α} {s : β} (h : l[i]? = some x) : (l.take (i + 1)).foldl f s = f ((l.take i).foldl f s) x := by
  rw [List.take_add_one, h, List.foldl_append]
  rfl
theorem k_cell : Keeps 4 cw_cell F_cell := by
  intro ds r h
  match ds, h with
  | [.lst xs, .int k], h =>
    obtain ⟨ns, h1, h⟩ := Option.bind_eq_some_iff.mp h
    split at h
    case isFalse => cases h
    rename_i hk
    cases h
    rw [intsOf_some h1]
    show cw_cell _ [.val (.lst (ns.map .int)), .val (.int k), .non, .non]
    have hsz : (List.map Dt.int ns).length = ns.length := List.length_map _
    refine q_ifD (p := k < (ns.length : Int)) (by walk_at "pe"; rw [hsz]) (fun hlt => ?_) fun hge => ?_
    · have hg : atL (ns.map Dt.int) k = some (.int (cellM ns k)) := by
        refine atL_of_get hk.1 ?_
        unfold cellM
        rw [if_pos hlt, List.getElem?_map, List.getD_eq_getElem?_getD, List.getElem?_eq_getElem (by omega)]
        rfl
      exact s_ret (r := .vis _) (by walk_at "pe"; rw [hg]; rfl) rfl rfl rfl
    · refine q_asg (r := .vis _) (by walk_at "pe"; rfl) rfl rfl ?_
      refine q_forMap (u := Dt.int) (xs := ns) (fun i e => ∃ z, e = [.val (.lst (ns.map .int)), .val (.int k), .val (.int (seedM (ns.take i))), z]) (by walk_at "pe") ⟨_, rfl⟩ ?_ ?_
      · rintro i env x hx ⟨z, rfl⟩
        refine ⟨_, by walk_at "pe"; rfl, ?_⟩
        have hb := seed_bound ns i
        refine s_asg (r := .vis (.int (seedM (ns.take (i + 1))))) ?_ rfl rfl ⟨_, rfl⟩
        walk_at "pe"
        rw [pMul_int (big64 (by omega) (by omega)) (big64 (by decide) (by decide)), pMod_int (by decide)]
        walk_at "pe"
        rw [pMod_int (by decide)]
        unfold seedM
        rw [foldl_take hx]
      · rintro env ⟨z, rfl⟩
        have hb := seed_bound ns ns.length
        rw [List.take_length] at hb ⊢
        refine s_ret (r := .vis (.int (cellM ns k))) ?_ rfl rfl rfl
        walk_at "pe"
        rw [pMul_int (big64 (by omega) (by omega)) (big64 (by omega) (by omega))]
        walk_at "pe"
        rw [pMul_int (big_of (n := 100) ?_ (by decide)) (big64 (by decide) (by decide))]
        · walk_at "pe"
          rw [pMod_int (by decide)]
          unfold cellM
          rw [if_neg hge]
        · have h1 : (seedM ns + 7) * (k + 3) < 1000010 * (k + 3) + 1 := by
            have := Int.mul_le_mul_of_nonneg_right (show seedM ns + 7 ≤ 1000010 by omega) (show (0 : Int) ≤ k + 3 by omega)
            omega
          have h2 : 0 ≤ (seedM ns + 7) * (k + 3) := Int.mul_nonneg (by omega) (by omega)
          omega
/-! the digits of a cell -/
def digA : Int → List Int → List Int
  | _, [] => []
  | r, s :: ss => r % s :: digA (r / s) ss
def stepB (seed : Int) (k : Nat) : Int := (seed * 48271 + 974711 * (k : Int) + 12345) % 2147483647
def takeB (seed : Int) : Int := (seed * (seed / 65537 + 3)) % 2147483629
def digB : Int → Nat → List Int → List Int
  | _, _, [] => []
  | seed, k, s :: ss => takeB (stepB seed k) / 19 % s :: digB (stepB seed k) (k + 1) ss
def digitsM (cell : Int) (sizes : List Int) : List Int := if 1000000000000000000 ≤ cell then digA (cell - 1000000000000000000) sizes else digB (cell % 2147483629) 0 sizes
def sizeOk (sizes : List Int) : Prop := (∀ s ∈ sizes, 0 < s ∧ s < 18446744073709551616) ∧ sizes.length ≤ 100000
instance (sizes : List Int) : Decidable (sizeOk sizes) := by unfold sizeOk; exact inferInstance
def F_digits : FN := fun ds => match ds with
  | [.int c, .lst xs] => (intsOf xs).bind fun ns => if sizeOk ns then some (.lst ((digitsM c ns).map .int)) else none
  | _ => none
theorem digA_len : ∀ (ss : List Int) (r : Int), (digA r ss).length = ss.length
  | [], _ => rfl
  | s :: ss, r => by
    show (digA (r / s) ss).length + 1 = _
    rw [digA_len ss]
    rfl
theorem digB_len : ∀ (ss : List Int) (r : Int) (k : Nat), (digB r k ss).length = ss.length
  | [], _, _ => rfl
  | s :: ss, r, k => by
    show (digB _ (k + 1) ss).length + 1 = _
    rw [digB_len ss]
    rfl
theorem digitsM_len (c : Int) (ss : List Int) : (digitsM c ss).length = ss.length := by
  unfold digitsM
  split
  · exact digA_len _ _
  · exact digB_len _ _ _
theorem digA_get : ∀ {ss : List Int} {r : Int} {i : Nat} {s d : Int}, (∀ s ∈ ss, 0 < s) → ss[i]? = some s → (digA r ss)[i]? = some d → 0 ≤ d ∧ d < s
  | [], _, _, _, _, _, h, _ => by simp at h
  | s' :: ss, r, 0, s, d, hp, h, h2 => by
    cases h
    have e : r % s' = d := Option.some.inj h2
    have := hp s' List.mem_cons_self
    rw [← e]
    exact ⟨Int.emod_nonneg _ (by omega), Int.emod_lt_of_pos _ this⟩
  | s' :: ss, r, i + 1, s, d, hp, h, h2 => digA_get (i := i) (fun x hx => hp x (List.mem_cons_of_mem _ hx)) h h2
theorem digB_get : ∀ {ss : List Int} {r : Int} {k i : Nat} {s d : Int}, (∀ s ∈ ss, 0 < s) → ss[i]? = some s → (digB r k ss)[i]? = some d → 0 ≤ d ∧ d < s
  | [], _, _, _, _, _, _, h, _ => by simp at h
  | s' :: ss, r, k, 0, s, d, hp, h, h2 => by
    cases h
    have e : takeB (stepB r k) / 19 % s' = d := Option.some.inj h2
    have := hp s' List.mem_cons_self
    rw [← e]
    exact ⟨Int.emod_nonneg _ (by omega), Int.emod_lt_of_pos _ this⟩
  | s' :: ss, r, k, i + 1, s, d, hp, h, h2 => digB_get (i := i) (fun x hx => hp x (List.mem_cons_of_mem _ hx)) h h2
theorem digitsM_get {c : Int} {ss : List Int} {i : Nat} {s d : Int} (hp : ∀ s ∈ ss, 0 < s) (h : ss[i]? = some s) (h2 : (digitsM c ss)[i]? = some d) : 0 ≤ d ∧ d < s := by
  unfold digitsM at h2
  split at h2
  · exact digA_get hp h h2
  · exact digB_get hp h h2
def cw_digits : WS := (wSeq (wAsg 2 (eLst aNil))
  (wSeq (wAsg 3 (e1 pInt (eVar 0)))
  (wSeq (wIf (tVal (e2 pGe (eVar 3) (e2 pPow (eC (.int 10)) (eC (.int 18)))))
  (wSeq (wAsg 3 (e2 pSub (eVar 3) (e2 pPow (eC (.int 10)) (eC (.int 18)))))
  (wSeq (wFor (iSeq (eVar 1)) (gN 6)
  (wSeq (wApp 2 (e2 pMod (e1 pInt (eVar 3)) (eVar 6)))
  (wAsg 3 (e2 pDiv (e1 pInt (eVar 3)) (eVar 6)))))
  (wFrz 2 (wRet (eVar 2)))))
  wNil)
  (wSeq (wAsg 4 (e2 pMod (e1 pInt (eVar 3)) (eC (.int 2147483629))))
  (wSeq (wFor (iRange1 (e1 pLen (eVar 1))) (gN 5)
  (wSeq (wAsg 4 (e2 pMod (e1 pInt (e2 pAdd (e2 pAdd (e2 pMul (eVar 4) (eC (.int 48271))) (e2 pMul (eC (.int 974711)) (eVar 5))) (eC (.int 12345)))) (eC (.int 2147483647))))
  (wSeq (wAsg 7 (e2 pMod (e1 pInt (e2 pMul (eVar 4) (e2 pAdd (e2 pDiv (eVar 4) (eC (.int 65537))) (eC (.int 3))))) (eC (.int 2147483629))))
  (wApp 2 (e2 pMod (e2 pDiv (eVar 7) (eC (.int 19))) (e2 pIx (eVar 1) (eVar 5)))))))
  (wFrz 2 (wRet (eVar 2))))))))
theorem pow18 : pPow (.int 10) (.int 18) = some (.vis (.int 1000000000000000000)) := by
  rw [pPow_int (by decide) (by decide) (by decide)]
  rfl
theorem drop_cons_get {α : Type} {l : List α} {i : Nat} {x : α} (h : l[i]? = some x) : l.drop i = x :: l.drop (i + 1) := by
  obtain ⟨hl, e⟩ := List.getElem?_eq_some_iff.mp h
  rw [← e]
  exact List.drop_eq_getElem_cons hl
theorem k_digits : Keeps 8 cw_digits F_digits := by
  intro ds r h
  match ds, h with
  | [.int c, .lst xs], h =>
    obtain ⟨ns, h1, h⟩ := Option.bind_eq_some_iff.mp h
    split at h
    case isFalse => cases h
    rename_i hk
    cases h
    rw [intsOf_some h1]
    obtain ⟨hp, hlen⟩ := hk
    have hsz : (List.map Dt.int ns).length = ns.length := List.length_map _
    show cw_digits _ [.val (.int c), .val (.lst (ns.map .int)), .non, .non, .non, .non, .non, .non]
    refine q_asg (r := .fre (.lst [])) (by walk_at "pe") rfl rfl ?_
    refine q_asg (r := .vis (.int c)) (by walk_at "pe") rfl rfl ?_
    refine q_ifD (p := 1000000000000000000 ≤ c) (by walk_at "pe"; rw [pow18]; walk_at "pe") (fun hge => ?_) fun hlt => ?_
    · refine q_asg (r := .vis (.int (c - 1000000000000000000))) (by walk_at "pe"; rw [pow18]; walk_at "pe") rfl rfl ?_
      refine q_forMap (u := Dt.int) (xs := ns) (fun i e => ∃ z acc rest, e = [.val (.int c), .val (.lst (ns.map .int)), .own (.lst (acc.map .int)), .val (.int rest), .non, .non, z, .non] ∧ acc.length = i ∧ acc ++ digA rest (ns.drop i) = digitsM c ns) (by walk_at "pe") ⟨_, [], c - 1000000000000000000, rfl, rfl, ?_⟩ ?_ ?_
      · unfold digitsM
        rw [if_pos hge]
        rfl
      · rintro i env x hx ⟨z, acc, rest, rfl, hl, he⟩
        have hx2 := hp x (List.mem_of_getElem? hx)
        have hi := (List.getElem?_eq_some_iff.mp hx).1
        refine ⟨_, by walk_at "pe"; rfl, ?_⟩
        refine q_app (d := .int (rest % x)) rfl (r := .vis _) (by walk_at "pe"; rw [pMod_int hx2.1]) rfl (by rw [List.length_map]; exact lim_lt (by omega)) rfl rfl ?_
        refine s_asg (r := .vis (.int (rest / x))) (by walk_at "pe"; rw [pDiv_int hx2.1 (div64 hx2.1 hx2.2)]) rfl rfl ⟨.val (.int x), acc ++ [rest % x], rest / x, ?_, ?_, ?_⟩
        · rw [List.map_append]
          rfl
        · rw [List.length_append, hl]
          rfl
        · rw [List.append_assoc, ← he, drop_cons_get hx]
          rfl
      · rintro env ⟨z, acc, rest, rfl, hl, he⟩
        rw [List.drop_length] at he
        have he : acc = digitsM c ns := by rw [← he]; exact (List.append_nil _).symm
        subst he
        exact q_frz rfl rfl (s_ret (r := .vis _) (by walk_at "pe") rfl rfl rfl)
    · refine s_nil ?_
      refine q_asg (r := .vis (.int (c % 2147483629))) (by walk_at "pe"; rw [pMod_int (by decide)]) rfl rfl ?_
      refine q_forRng (lo := 0) (n := ns.length) (fun i e => ∃ z z7 acc seed, e = [.val (.int c), .val (.lst (ns.map .int)), .own (.lst (acc.map .int)), .val (.int c), .val (.int seed), z, .non, z7] ∧ acc.length = i ∧ 0 ≤ seed ∧ seed < 2147483647 ∧ acc ++ digB seed i (ns.drop i) = digitsM c ns)
        (by rw [rng1 (n := (ns.length : Int)) (by walk_at "pe"; rw [hsz]) (by omega)]; rw [Int.toNat_natCast]) ⟨_, _, [], c % 2147483629, rfl, rfl, Int.emod_nonneg _ (by decide), ?_, ?_⟩ ?_ ?_
      · have := Int.emod_lt_of_pos c (show (0 : Int) < 2147483629 by decide)
        omega
      · unfold digitsM
        rw [if_neg hlt]
        rfl
      · rintro i env hi ⟨z, z7, acc, seed, rfl, hl, hs0, hs1, he⟩
        have hg : ns[i]? = some ns[i] := List.getElem?_eq_getElem hi
        have hx2 := hp ns[i] (List.mem_of_getElem? hg)
        have hb0 : 0 ≤ stepB seed i := Int.emod_nonneg _ (by decide)
        have hb1 : stepB seed i < 2147483647 := Int.emod_lt_of_pos _ (by decide)
        refine ⟨_, by walk_at "pe"; rfl, ?_⟩
        refine q_asg (r := .vis (.int (stepB seed i))) ?_ rfl rfl ?_
        · walk_at "pe"
          rw [pMul_int (big64 (by omega) (by omega)) (big64 (by decide) (by decide)), pMul_int (big64 (by decide) (by decide)) (big64 (by omega) (by omega))]
          walk_at "pe"
          rw [pMod_int (by decide)]
          unfold stepB
          rw [Int.zero_add]
        have hq0 : 0 ≤ stepB seed i / 65537 := Int.ediv_nonneg hb0 (by decide)
        have hq1 : stepB seed i / 65537 < 40000 := by omega
        refine q_asg (r := .vis (.int (takeB (stepB seed i)))) ?_ rfl rfl ?_
        · walk_at "pe"
          rw [pDiv_int (by decide) (div64 (by decide) (by decide))]
          walk_at "pe"
          rw [pMul_int (big64 (by omega) (by omega)) (big64 (by omega) (by omega))]
          walk_at "pe"
          rw [pMod_int (by decide)]
          rfl
        refine s_app (d := .int (takeB (stepB seed i) / 19 % ns[i])) rfl (r := .vis _) ?_ rfl (by rw [List.length_map]; exact lim_lt (by omega)) rfl rfl ⟨.val (.int (0 + (i : Int))), .val (.int (takeB (stepB seed i))), acc ++ [takeB (stepB seed i) / 19 % ns[i]], stepB seed i, ?_, ?_, hb0, hb1, ?_⟩
        · walk_at "pe"
          rw [pDiv_int (by decide) (div64 (by decide) (by decide)), Int.zero_add, atL_nat, List.getElem?_map, hg]
          walk_at "pe"
          rw [pMod_int hx2.1]
        · rw [List.map_append]
          rfl
        · rw [List.length_append, hl]
          rfl
        · rw [List.append_assoc, ← he, drop_cons_get hg]
          rfl
      · rintro env ⟨z, z7, acc, seed, rfl, hl, hs0, hs1, he⟩
        rw [List.drop_length] at he
        have he : acc = digitsM c ns := by rw [← he]; exact (List.append_nil _).symm
        subst he
        exact q_frz rfl rfl (s_ret (r := .vis _) (by walk_at "pe") rfl rfl rfl)
/-! lists of ints as data, and back -/
def ilst (ns : List Int) : Dt := .lst (ns.map .int)
def itup (ns : List Int) : Dt := .tup (ns.map .int)
def imat (m : List (List Int)) : Dt := .lst (m.map ilst)
/-- as a list, as a tuple -/
def iseq (b : Bool) (ns : List Int) : Dt := bif b then itup ns else ilst ns
def imatS (b : Bool) (m : List (List Int)) : Dt := bif b then .tup (m.map itup) else imat m
def Dt.toI : Dt → Int
  | .int i => i
  | _ => 0
def Dt.items : Dt → List Dt
  | .lst ds => ds
  | .tup ds => ds
  | _ => []
def Dt.toIs (d : Dt) : List Int := d.items.map Dt.toI
def Dt.toM (d : Dt) : List (List Int) := d.items.map Dt.toIs
theorem map_toI (ns : List Int) : (ns.map Dt.int).map Dt.toI = ns := by
  rw [List.map_map]
  exact List.map_id _
theorem toIs_ilst (ns : List Int) : (ilst ns).toIs = ns := map_toI ns
theorem toIs_itup (ns : List Int) : (itup ns).toIs = ns := map_toI ns
theorem toIs_iseq (b : Bool) (ns : List Int) : (iseq b ns).toIs = ns := by cases b <;> exact map_toI ns
theorem toM_imat (m : List (List Int)) : (imat m).toM = m := by
  show (m.map ilst).map Dt.toIs = m
  rw [List.map_map, show Dt.toIs ∘ ilst = id from funext toIs_ilst]
  exact List.map_id _
theorem toM_imatS (b : Bool) (m : List (List Int)) : (imatS b m).toM = m := by
  cases b
  · exact toM_imat m
  · show (m.map itup).map Dt.toIs = m
    rw [List.map_map, show Dt.toIs ∘ itup = id from funext toIs_itup]
    exact List.map_id _
theorem seqOf_iseq (b : Bool) (ns : List Int) : seqOf (iseq b ns) = some (ns.map .int) := by cases b <;> rfl
theorem seqOf_imatS (b : Bool) (m : List (List Int)) : seqOf (imatS b m) = some (m.map (iseq b)) := by cases b <;> rfl
theorem pLen_iseq (b : Bool) (ns : List Int) : pLen (iseq b ns) = some (.vis (.int ns.length)) := by
  cases b
  · show some (R.vis (.int ((ns.map Dt.int).length : Nat))) = _
    rw [List.length_map]
  · show some (R.vis (.int ((ns.map Dt.int).length : Nat))) = _
    rw [List.length_map]
theorem pIx_iseq {b : Bool} {ns : List Int} {i : Int} {x : Int} (h0 : 0 ≤ i) (h : ns[i.toNat]? = some x) : pIx (iseq b ns) (.int i) = some (.vis (.int x)) := by
  have e : (ns.map Dt.int)[i.toNat]? = some (.int x) := by
    rw [List.getElem?_map, h]
    rfl
  cases b
  · show (atL (ns.map Dt.int) i).map R.vis = _
    rw [atL_of_get h0 e]
    rfl
  · show (atL (ns.map Dt.int) i).map R.vis = _
    rw [atL_of_get h0 e]
    rfl
theorem pIx_imatS {b : Bool} {m : List (List Int)} {i : Int} {x : List Int} (h0 : 0 ≤ i) (h : m[i.toNat]? = some x) : pIx (imatS b m) (.int i) = some (.vis (iseq b x)) := by
  cases b
  · have e : (m.map ilst)[i.toNat]? = some (ilst x) := by
      rw [List.getElem?_map, h]
      rfl
    show (atL (m.map ilst) i).map R.vis = _
    rw [atL_of_get h0 e]
    rfl
  · have e : (m.map itup)[i.toNat]? = some (itup x) := by
      rw [List.getElem?_map, h]
      rfl
    show (atL (m.map itup) i).map R.vis = _
    rw [atL_of_get h0 e]
    rfl
theorem zipWith_tup {α β : Type} (u : α → Dt) (v : β → Dt) : ∀ (xs : List α) (ys : List β), List.zipWith (fun x y => Dt.tup [x, y]) (xs.map u) (ys.map v) = (xs.zip ys).map fun p => Dt.tup [u p.1, v p.2]
  | [], _ => rfl
  | _ :: _, [] => rfl
  | x :: xs, y :: ys => by
    rw [List.map_cons, List.map_cons, List.zipWith_cons_cons, List.zip_cons_cons, List.map_cons, zipWith_tup u v xs ys]
theorem cutD_map {α : Type} (u : α → Dt) (xs : List α) {lo hi : Option Int} : cutD (xs.map u) lo hi = ((xs.drop (sIx xs.length 0 lo)).take (sIx xs.length xs.length hi - sIx xs.length 0 lo)).map u := by
  unfold cutD
  rw [List.length_map, List.map_take, List.map_drop]
theorem sIx_nat {n d k : Nat} (h : k ≤ n) : sIx n d (some (k : Int)) = k := by
  unfold sIx
  show (if 0 ≤ (k : Int) then min (k : Int).toNat n else ((k : Int) + (n : Int)).toNat) = k
  rw [if_pos (Int.natCast_nonneg k), Int.toNat_natCast, Nat.min_eq_left h]
theorem cut_nat {α : Type} (u : α → Dt) {xs : List α} {a k : Nat} (h : a + k ≤ xs.length) : cutD (xs.map u) (some (a : Int)) (some ((a : Int) + (k : Int))) = ((xs.drop a).take k).map u := by
  rw [cutD_map, sIx_nat (by omega), show ((a : Int) + (k : Int)) = ((a + k : Nat) : Int) by omega, sIx_nat h, Nat.add_sub_cancel_left]
theorem cutD_from {ds : List Dt} {k : Nat} : cutD ds (some (k : Int)) none = ds.drop k := by
  unfold cutD
  have h1 : sIx ds.length 0 (some (k : Int)) = min k ds.length := by
    show (if 0 ≤ (k : Int) then min (k : Int).toNat ds.length else ((k : Int) + (ds.length : Int)).toNat) = _
    rw [if_pos (Int.natCast_nonneg k), Int.toNat_natCast]
  rw [h1]
  show (ds.drop _).take (ds.length - _) = _
  rw [List.take_of_length_le (by rw [List.length_drop]; omega)]
  rcases Nat.le_total k ds.length with h | h
  · rw [Nat.min_eq_left h]
  · rw [Nat.min_eq_right h, List.drop_eq_nil_of_le h, List.drop_length]
theorem cutD_to {ds : List Dt} {k : Nat} : cutD ds none (some (k : Int)) = ds.take k := by
  unfold cutD
  have h1 : sIx ds.length ds.length (some (k : Int)) = min k ds.length := by
    show (if 0 ≤ (k : Int) then min (k : Int).toNat ds.length else ((k : Int) + (ds.length : Int)).toNat) = _
    rw [if_pos (Int.natCast_nonneg k), Int.toNat_natCast]
  rw [h1]
  show (ds.drop 0).take (min k ds.length - 0) = _
  rw [List.drop_zero, Nat.sub_zero]
  rcases Nat.le_total k ds.length with h | h
  · rw [Nat.min_eq_left h]
  · rw [Nat.min_eq_right h, List.take_length, List.take_of_length_le h]
theorem cutD_from1 {ds : List Dt} : cutD ds (some 1) none = ds.drop 1 := cutD_from (k := 1)
theorem sum_bounds {B : Int} : ∀ {l : List Int}, (∀ x ∈ l, 0 ≤ x ∧ x ≤ B) → 0 ≤ l.sum ∧ l.sum ≤ B * l.length
  | [], _ => ⟨Int.le_refl _, by simp⟩
  | x :: l, h => by
    have h1 := h x List.mem_cons_self
    have h2 := sum_bounds (l := l) fun y hy => h y (List.mem_cons_of_mem _ hy)
    rw [List.sum_cons, List.length_cons]
    refine ⟨by omega, ?_⟩
    rw [Int.natCast_add, Int.mul_add]
    omega
/-- digits as they are taken: the sizes given -/
theorem F_digits_at {c : Int} {ns : List Int} (h : sizeOk ns) : F_digits [.int c, ilst ns] = some (ilst (digitsM c ns)) := by
  show (intsOf (ns.map .int)).bind _ = _
  rw [intsOf_ints]
  exact if_pos h
theorem F_cell_at {ns : List Int} {k : Int} (h : 0 ≤ k ∧ k < 4294967296) : F_cell [ilst ns, .int k] = some (.int (cellM ns k)) := by
  show (intsOf (ns.map .int)).bind _ = _
  rw [intsOf_ints]
  exact if_pos h
/-! == of lists of ints -/
theorem pyL_ints : ∀ ns : List Int, Dt.pyL (ns.map .int) = some (ns.map .int)
  | [] => rfl
  | n :: ns => by
    rw [List.map_cons]
    unfold Dt.pyL
    rw [pyL_ints ns]
    rfl
theorem py_ilst (ns : List Int) : (ilst ns).py = some (.list (ns.map .int)) := by
  unfold ilst Dt.py
  rw [pyL_ints]
  rfl
theorem pyL_mat : ∀ m : List (List Int), Dt.pyL (m.map ilst) = some (m.map fun r => .list (r.map .int))
  | [] => rfl
  | n :: m => by
    rw [List.map_cons]
    unfold Dt.pyL
    rw [pyL_mat m, py_ilst]
    rfl
theorem py_imat (m : List (List Int)) : (imat m).py = some (.list (m.map fun r => .list (r.map .int))) := by
  unfold imat Dt.py
  rw [pyL_mat]
  rfl
theorem lay_ints : ∀ ns : List Int, PyData.canLayAll0 (ns.map .int) = true ∧ PyData.depthAll (ns.map .int) ≤ 1
  | [] => ⟨rfl, Nat.zero_le _⟩
  | n :: ns => by
    have h := lay_ints ns
    rw [List.map_cons]
    exact ⟨by simp [PyData.canLayAll0, PyData.canLay0, h.1], by simp only [PyData.depthAll, PyData.depth]; omega⟩
theorem lay_mat : ∀ m : List (List Int), PyData.canLayAll0 (m.map fun r => .list (r.map .int)) = true ∧ PyData.depthAll (m.map fun r => .list (r.map .int)) ≤ 3
  | [] => ⟨rfl, Nat.zero_le _⟩
  | n :: ns => by
    have h := lay_mat ns
    have h1 := lay_ints n
    rw [List.map_cons]
    exact ⟨by simp [PyData.canLayAll0, PyData.canLay0, h.1, h1.1], by simp only [PyData.depthAll, PyData.depth]; omega⟩
theorem eqv_ints : ∀ a b : List Int, PyData.eqvAll (a.map .int) (b.map .int) = decide (a = b)
  | [], [] => rfl
  | [], _ :: _ => by simp [PyData.eqvAll]
  | _ :: _, [] => by simp [PyData.eqvAll]
  | x :: a, y :: b => by
    rw [List.map_cons, List.map_cons]
    simp only [PyData.eqvAll, PyData.eqv, eqv_ints a b, List.cons.injEq]
    by_cases h : x = y <;> by_cases h2 : a = b <;> simp [h, h2]
theorem eqv_mat : ∀ a b : List (List Int), PyData.eqvAll (a.map fun r => .list (r.map .int)) (b.map fun r => .list (r.map .int)) = decide (a = b)
  | [], [] => rfl
  | [], _ :: _ => by simp [PyData.eqvAll]
  | _ :: _, [] => by simp [PyData.eqvAll]
  | x :: a, y :: b => by
    rw [List.map_cons, List.map_cons]
    simp only [PyData.eqvAll, PyData.eqv, eqv_mat a b, eqv_ints x y, List.cons.injEq]
    by_cases h : x = y <;> by_cases h2 : a = b <;> simp [h, h2]
theorem eqD_ilst (a b : List Int) : eqD (ilst a) (ilst b) = some (decide (a = b)) := by
  have h1 := lay_ints a
  have h2 := lay_ints b
  unfold eqD
  rw [py_ilst, py_ilst]
  show (if SeqAt.shaped (.list (a.map .int)) && SeqAt.shaped (.list (b.map .int)) then some (PyData.eqv _ _) else none) = _
  rw [if_pos]
  · simp only [PyData.eqv, eqv_ints]
  · simp only [SeqAt.shaped, PyData.canLay0, PyData.depth, h1.1, h2.1, Bool.and_eq_true, decide_eq_true_eq, true_and, Bool.true_and]
    exact ⟨decide_eq_true (by omega), decide_eq_true (by omega)⟩
theorem eqD_imat (a b : List (List Int)) : eqD (imat a) (imat b) = some (decide (a = b)) := by
  have h1 := lay_mat a
  have h2 := lay_mat b
  unfold eqD
  rw [py_imat, py_imat]
  show (if SeqAt.shaped (.list (a.map fun r => .list (r.map .int))) && SeqAt.shaped (.list (b.map fun r => .list (r.map .int))) then some (PyData.eqv _ _) else none) = _
  rw [if_pos]
  · simp only [PyData.eqv, eqv_mat]
  · simp only [SeqAt.shaped, PyData.canLay0, PyData.depth, h1.1, h2.1, Bool.and_eq_true, decide_eq_true_eq, true_and, Bool.true_and]
    exact ⟨decide_eq_true (by omega), decide_eq_true (by omega)⟩
theorem pEq_ilst (a b : List Int) : pEq (ilst a) (ilst b) = some (.vis (.bl (decide (a = b)))) := by unfold pEq; rw [eqD_ilst]; rfl
theorem pNe_ilst (a b : List Int) : pNe (ilst a) (ilst b) = some (.vis (.bl (!decide (a = b)))) := by unfold pNe; rw [eqD_ilst]; rfl
theorem pEq_imat (a b : List (List Int)) : pEq (imat a) (imat b) = some (.vis (.bl (decide (a = b)))) := by unfold pEq; rw [eqD_imat]; rfl
theorem pNe_imat (a b : List (List Int)) : pNe (imat a) (imat b) = some (.vis (.bl (!decide (a = b)))) := by unfold pNe; rw [eqD_imat]; rfl
/-! all digits at once; tables -/
def Below : List Int → List Int → Prop
  | [], [] => True
  | d :: ds, s :: ss => (0 ≤ d ∧ d < s) ∧ Below ds ss
  | _, _ => False
theorem below_of : ∀ {ds ss : List Int}, ds.length = ss.length → (∀ (i : Nat) s d, ss[i]? = some s → ds[i]? = some d → 0 ≤ d ∧ d < s) → Below ds ss
  | [], [], _, _ => trivial
  | [], _ :: _, h, _ => by cases h
  | _ :: _, [], h, _ => by cases h
  | d :: ds, s :: ss, h, g => ⟨g 0 s d rfl rfl, below_of (by simpa using h) fun i s' d' h1 h2 => g (i + 1) s' d' h1 h2⟩
theorem digits_below {c : Int} {ss : List Int} (hp : ∀ s ∈ ss, 0 < s) : Below (digitsM c ss) ss := below_of (digitsM_len c ss) fun i s d h1 h2 => digitsM_get hp h1 h2
theorem tab {l : List Int} {d : Int} (h0 : 0 ≤ d) (h : d < l.length) : ∃ v, v ∈ l ∧ atL (l.map Dt.int) d = some (.int v) := by
  have hl : d.toNat < l.length := by omega
  refine ⟨l[d.toNat], List.getElem_mem hl, atL_of_get h0 ?_⟩
  rw [List.getElem?_map, List.getElem?_eq_getElem hl]
  rfl
section
variable {α : Type} {a b c d e f g h i j k l m : α} {t : List α}
theorem atL0 : atL (a :: t) 0 = some a := rfl
theorem atL1 : atL (a :: b :: t) 1 = some b := rfl
theorem atL2 : atL (a :: b :: c :: t) 2 = some c := rfl
theorem atL3 : atL (a :: b :: c :: d :: t) 3 = some d := rfl
theorem atL4 : atL (a :: b :: c :: d :: e :: t) 4 = some e := rfl
theorem atL5 : atL (a :: b :: c :: d :: e :: f :: t) 5 = some f := rfl
theorem atL6 : atL (a :: b :: c :: d :: e :: f :: g :: t) 6 = some g := rfl
theorem atL7 : atL (a :: b :: c :: d :: e :: f :: g :: h :: t) 7 = some h := rfl
theorem atL8 : atL (a :: b :: c :: d :: e :: f :: g :: h :: i :: t) 8 = some i := rfl
theorem atL9 : atL (a :: b :: c :: d :: e :: f :: g :: h :: i :: j :: t) 9 = some j := rfl
theorem atL10 : atL (a :: b :: c :: d :: e :: f :: g :: h :: i :: j :: k :: t) 10 = some k := rfl
theorem atL11 : atL (a :: b :: c :: d :: e :: f :: g :: h :: i :: j :: k :: l :: t) 11 = some l := rfl
theorem atL12 : atL (a :: b :: c :: d :: e :: f :: g :: h :: i :: j :: k :: l :: m :: t) 12 = some m := rfl
end
theorem map_ilst (ns : List Int) : Dt.lst (ns.map .int) = ilst ns := rfl
theorem pAdd_ilst {a b : List Int} (h : a.length + b.length ≤ 4000000) : pAdd (ilst a) (ilst b) = some (.fre (.lst ((a ++ b).map .int))) := by
  unfold ilst
  rw [pAdd_lst (by rw [List.length_map, List.length_map]; exact lim_of h), List.map_append]
end Pyl
end
section
set_option Elab.async false
set_option linter.all false
set_option maxHeartbeats 1000000
namespace Pyl
open PySem
/-! tails: what their functions compute, for every law that needs them -/
local macro_rules | `(tactic| walk_at "pe") => `(tactic| simp (config := { implicitDefEqProofs := false }) only [eVar_at, eC_at, e1_at, e2_at, aNil_at, aCons_at, eTup_at, eLst_at, plain_nil, plain_cons, eCall_at, eIf_at, eAnd_at, eOr_at, eNot_at, tVal_at, tAnd_at, tOr_at, tNot_at, tYes_at,
  pAdd_int, pSub_int, pNeg_int, pLt_int, pLe_int, pGt_int, pGe_int, pEq_int, pNe_int, pIsN_at, pNotN_at, pIx_lst, pIx_tup, pGcd_int, atL0, atL1, atL2, atL3, atL4, atL5, atL6, atL7, atL8, oNone_at, oSome_at, eSlice_at, pLen_lst, pLen_tup, pInt_int, pInt_bl, pAbs_int, pSum_ints, pMax2_int, pMin2_int, pList_lst, pList_tup, pTuple_lst, pTuple_tup, iSeq_at, gN_at, gT_at, gsN_cons, gsN_nil, wipeS_cons, wipeS_nil,
  dt_vis, dt_bor, dt_fre, sh_vis, sh_bor, sh_fre, slot_vis, slot_fre, od_dt, isNon_non, isNon_int, isNon_lst, isNon_tup, scalar_int, scalar_bl, scalar_non, Option.bind_some, Option.bind_none, Option.map_some, Option.map_none, List.getElem?_cons_zero, List.getElem?_cons_succ, List.set_cons_zero, List.set_cons_succ, List.map_cons, List.map_nil, List.any_cons, List.any_nil, Bool.or_false, Bool.false_or, Bool.false_and, Bool.and_true, Bool.true_and, Bool.not_true, Bool.not_false,
  Option.some.injEq, exists_eq_left', exists_eq_left, true_and, and_true, if_true, if_false, Bool.false_eq_true, ite_true, ite_false, reduceIte, decide_eq_true_eq, decide_eq_false_iff_not, R.vis.injEq, R.fre.injEq, Dt.lst.injEq, Dt.tup.injEq, Dt.int.injEq, Slot.own.injEq, OD.lst.injEq, reduceCtorEq, false_and, exists_false, exists_const, Bool.true_eq_false, false_implies, true_implies, implies_true, forall_const])
def termM (t m : Int) (n j : Nat) : Int := (chooseN n j : Int) * t ^ j * m ^ (n - j)
def tailS (t m : Int) (n l : Nat) : Int := (((List.range (n + 1)).drop l).map (termM t m n)).sum
def gcdI (a b : Int) : Int := (Nat.gcd a.natAbs b.natAbs : Nat)
def lowT (t b : Int) : Int := t / gcdI t b
def lowB (t b : Int) : Int := b / gcdI t b
def powsM (x : Int) (n : Nat) : List Int := (List.range (n + 1)).map (x ^ ·)
open Classical in
noncomputable def F_lowest : FN := fun ds => match ds with
  | [.int t, .int b] => if 0 < b ∧ b.natAbs < 2 ^ 8000 then some (.tup [.int (lowT t b), .int (lowB t b)]) else none
  | _ => none
open Classical in
noncomputable def F_powers_of : FN := fun ds => match ds with
  | [.int x, .int n] => if 0 ≤ n ∧ n ≤ 1000 ∧ x.natAbs < 2 ^ 22 then some (ilst (powsM x n.toNat)) else none
  | _ => none
open Classical in
noncomputable def F_ways_of : FN := fun ds => match ds with
  | [hp, mp, .int n, .int j] => if (hp = ilst hp.toIs ∧ mp = ilst mp.toIs) ∧ (0 ≤ j ∧ j ≤ n ∧ n ≤ 1000) ∧ (hp.toIs.length = n + 1 ∧ mp.toIs.length = n + 1) ∧ (∀ x ∈ hp.toIs, x.natAbs < 2 ^ 21000) ∧ ∀ x ∈ mp.toIs, x.natAbs < 2 ^ 21000 then
      some (.int ((chooseN n.toNat j.toNat : Int) * hp.toIs.getD j.toNat 0 * mp.toIs.getD (n - j).toNat 0)) else none
  | _ => none
/-- what is handed as a share: top and bottom -/
structure OkSh (T B : Int) : Prop where
  t0 : 0 ≤ T
  tb : T ≤ B
  b0 : 0 < B
  b1 : B ≤ 999999
open Classical in
noncomputable def F_tail : FN := fun ds => match ds with
  | [.int n, sh, .int l] => if (∃ b T B, sh = iseq b [T, B] ∧ OkSh T B) ∧ 0 ≤ n ∧ n ≤ 200 ∧ 0 ≤ l ∧ l ≤ n + 1 then
      (let t := lowT (sh.toIs.getD 0 0) (sh.toIs.getD 1 0); let b := lowB (sh.toIs.getD 0 0) (sh.toIs.getD 1 0); let s := tailS t (b - t) n.toNat l.toNat; let w := b ^ n.toNat
       some (.tup [.int (lowT s w), .int (lowB s w)])) else none
  | _ => none
def cw_lowest : WS := (wSeq (wIf (tVal (e2 pEq (eVar 1) (eC (.int 0))))
  wDead
  wNil)
  (wSeq (wAsg 2 (e2 pGcd (eVar 0) (eVar 1)))
  (wSeq (wIf (tVal (e2 pLt (eVar 1) (eC (.int 0))))
  (wAsg 2 (e1 pNeg (eVar 2)))
  wNil)
  (wRet (eTup (aCons (e2 pDiv (eVar 0) (eVar 2)) (aCons (e2 pDiv (eVar 1) (eVar 2)) aNil)))))))
def cw_powers_of : WS := (wSeq (wAsg 2 (eLst (aCons (eC (.int 1)) aNil)))
  (wSeq (wFor (iRange1 (eVar 1)) (gN 3)
  (wApp 2 (e2 pMul (e2 pIx (eVar 2) (e1 pNeg (eC (.int 1)))) (eVar 0))))
  (wFrz 2 (wRet (eVar 2)))))
def cw_ways_of : WS := (wRet (e2 pMul (e2 pMul (e2 pComb (eVar 2) (eVar 3)) (e2 pIx (eVar 0) (eVar 3))) (e2 pIx (eVar 1) (e2 pSub (eVar 2) (eVar 3)))))
def cw_tail : WS := (wSeq (wUnp [7, 8] (eCall F_lowest (aCons (e2 pIx (eVar 1) (eC (.int 0))) (aCons (e2 pIx (eVar 1) (eC (.int 1))) aNil))))
  (wSeq (wAsg 3 (eCall F_powers_of (aCons (eVar 7) (aCons (eVar 0) aNil))))
  (wSeq (wAsg 4 (eCall F_powers_of (aCons (e2 pSub (eVar 8) (eVar 7)) (aCons (eVar 0) aNil))))
  (wSeq (wAsg 5 (eC (.int 0)))
  (wSeq (wFor (iRange2 (eVar 2) (e2 pAdd (eVar 0) (eC (.int 1)))) (gN 6)
  (wAsg 5 (e2 pAdd (eVar 5) (eCall F_ways_of (aCons (eVar 3) (aCons (eVar 4) (aCons (eVar 0) (aCons (eVar 6) aNil))))))))
  (wRet (eCall F_lowest (aCons (eVar 5) (aCons (e2 pIx (eCall F_powers_of (aCons (eVar 8) (aCons (eVar 0) aNil))) (eVar 0)) aNil)))))))))
/-! sizes of powers -/
theorem pow_bits {x : Int} {k : Nat} (h : x.natAbs ≤ 2 ^ k) (i : Nat) : (x ^ i).natAbs ≤ 2 ^ (k * i) := by
  rw [Int.natAbs_pow, Nat.pow_mul]
  exact Nat.pow_le_pow_left h i
theorem mul_bits {x y : Int} {a b : Nat} (hx : x.natAbs ≤ 2 ^ a) (hy : y.natAbs ≤ 2 ^ b) : (x * y).natAbs ≤ 2 ^ (a + b) := by
  rw [Int.natAbs_mul, Nat.pow_add]
  exact Nat.mul_le_mul hx hy
theorem lt_bits {x a b : Nat} (h : x ≤ 2 ^ a) (hab : a < b) : x < 2 ^ b := Nat.lt_of_le_of_lt h (Nat.pow_lt_pow_right (by decide) hab)
theorem choose_le : ∀ n k : Nat, chooseN n k ≤ 2 ^ n
  | n, 0 => by
    unfold chooseN
    exact Nat.pow_pos (by decide)
  | 0, k + 1 => by
    unfold chooseN
    exact Nat.zero_le _
  | n + 1, k + 1 => by
    have h1 := choose_le n k
    have h2 := choose_le n (k + 1)
    show chooseN n k + chooseN n (k + 1) ≤ _
    rw [Nat.pow_succ]
    omega
theorem ch_zero (n : Nat) : chooseN n 0 = 1 := by unfold chooseN; rfl
theorem ch_above : ∀ {n k : Nat}, n < k → chooseN n k = 0
  | 0, k + 1, _ => by unfold chooseN; rfl
  | n + 1, k + 1, h => by
    unfold chooseN
    rw [ch_above (n := n) (k := k) (by omega), ch_above (n := n) (k := k + 1) (by omega)]
theorem term_bits {t m : Int} {n j : Nat} (ht : t.natAbs ≤ 2 ^ 20) (hm : m.natAbs ≤ 2 ^ 20) (hj : j ≤ n) : (termM t m n j).natAbs ≤ 2 ^ (21 * n) := by
  have h1 : ((chooseN n j : Int)).natAbs ≤ 2 ^ n := by
    rw [Int.natAbs_natCast]
    exact choose_le n j
  have h := mul_bits (mul_bits h1 (pow_bits ht j)) (pow_bits hm (n - j))
  rw [show 21 * n = n + 20 * j + 20 * (n - j) by omega]
  exact h
theorem natAbs_sum {B : Nat} : ∀ {l : List Int}, (∀ x ∈ l, x.natAbs ≤ B) → l.sum.natAbs ≤ B * l.length
  | [], _ => by simp
  | x :: l, h => by
    have h1 := h x List.mem_cons_self
    have h2 := natAbs_sum (l := l) fun y hy => h y (List.mem_cons_of_mem _ hy)
    rw [List.sum_cons, List.length_cons, Nat.mul_add, Nat.mul_one]
    have := Int.natAbs_add_le x l.sum
    omega
theorem tail_bits {t m : Int} {n : Nat} (ht : t.natAbs ≤ 2 ^ 20) (hm : m.natAbs ≤ 2 ^ 20) (hn : n ≤ 200) (l : Nat) : (tailS t m n l).natAbs < 2 ^ 4400 := by
  have h := natAbs_sum (B := 2 ^ (21 * n)) (l := ((List.range (n + 1)).drop l).map (termM t m n)) fun x hx => by
    obtain ⟨j, hj, rfl⟩ := List.mem_map.mp hx
    have := List.mem_range.mp (List.mem_of_mem_drop hj)
    exact term_bits ht hm (by omega)
  have hl : (((List.range (n + 1)).drop l).map (termM t m n)).length ≤ 2 ^ 8 := by
    rw [List.length_map, List.length_drop, List.length_range]
    omega
  refine Nat.lt_of_le_of_lt (Nat.le_trans h (Nat.mul_le_mul_left _ hl)) ?_
  rw [← Nat.pow_add]
  exact Nat.pow_lt_pow_right (by decide) (by omega)
/-! scaling -/
theorem term_scale {c t m : Int} {n j : Nat} (hj : j ≤ n) : termM (c * t) (c * m) n j = c ^ n * termM t m n j := by
  unfold termM
  have e : c ^ n = c ^ j * c ^ (n - j) := by rw [← Int.pow_add]; congr 1; omega
  rw [Int.mul_pow, Int.mul_pow, e]
  ac_rfl
theorem tail_scale {c t m : Int} {n l : Nat} : tailS (c * t) (c * m) n l = c ^ n * tailS t m n l := by
  unfold tailS
  have e : ((List.range (n + 1)).drop l).map (termM (c * t) (c * m) n) = ((List.range (n + 1)).drop l).map fun j => c ^ n * termM t m n j :=
    List.map_congr_left fun j hj => term_scale (by have := List.mem_range.mp (List.mem_of_mem_drop hj); omega)
  rw [e]
  generalize (List.range (n + 1)).drop l = L
  induction L with
  | nil => exact (Int.mul_zero _).symm
  | cons x L ih => rw [List.map_cons, List.map_cons, List.sum_cons, List.sum_cons, ih, Int.mul_add]
theorem gcd_pos {a b : Int} (hb : 0 < b) : 0 < gcdI a b := by
  unfold gcdI
  have := Nat.gcd_pos_of_pos_right a.natAbs (show 0 < b.natAbs by omega)
  omega
theorem gcd_top (a b : Int) : gcdI a b * lowT a b = a := Int.mul_ediv_cancel' (Int.ofNat_dvd_left.mpr (Nat.gcd_dvd_left _ _))
theorem gcd_bot (a b : Int) : gcdI a b * lowB a b = b := Int.mul_ediv_cancel' (Int.ofNat_dvd_left.mpr (Nat.gcd_dvd_right _ _))
theorem low_pos {a b : Int} (hb : 0 < b) : 0 < lowB a b := by
  have h := gcd_bot a b
  have hg := gcd_pos (a := a) hb
  rcases Int.lt_or_le 0 (lowB a b) with h2 | h2
  · exact h2
  · have := Int.mul_nonpos_of_nonneg_of_nonpos (Int.le_of_lt hg) h2
    omega
theorem low_abs {a b : Int} (hb : 0 < b) : (lowT a b).natAbs ≤ a.natAbs ∧ (lowB a b).natAbs ≤ b.natAbs := by
  have hg := gcd_pos (a := a) hb
  have h1 := congrArg Int.natAbs (gcd_top a b)
  have h2 := congrArg Int.natAbs (gcd_bot a b)
  rw [Int.natAbs_mul] at h1 h2
  have hg2 : 0 < (gcdI a b).natAbs := by omega
  exact ⟨by rw [← h1]; exact Nat.le_mul_of_pos_left _ hg2, by rw [← h2]; exact Nat.le_mul_of_pos_left _ hg2⟩
theorem low_gcd {a b : Int} (hb : 0 < b) : gcdI (lowT a b) (lowB a b) = 1 := by
  have hp : 0 < Nat.gcd a.natAbs b.natAbs := Nat.gcd_pos_of_pos_right _ (by omega)
  have h1 := congrArg Int.natAbs (gcd_top a b)
  have h2 := congrArg Int.natAbs (gcd_bot a b)
  rw [Int.natAbs_mul] at h1 h2
  have e : (gcdI a b).natAbs = Nat.gcd a.natAbs b.natAbs := Int.natAbs_natCast _
  rw [e] at h1 h2
  have h : Nat.gcd a.natAbs b.natAbs * Nat.gcd (lowT a b).natAbs (lowB a b).natAbs = Nat.gcd a.natAbs b.natAbs * 1 := by
    rw [← Nat.gcd_mul_left, h1, h2, Nat.mul_one]
  unfold gcdI
  rw [Nat.eq_of_mul_eq_mul_left hp h]
  rfl
/-- what a share's chance is does not turn on how the share is handed -/
theorem told_ok {T B f : Int} {n l : Nat} (hT : 0 ≤ T) (hB : 0 < B) (hf : 0 < f) :
    let t := lowT (T * f) (B * f); let b := lowB (T * f) (B * f); let s := tailS t (b - t) n l
    lowT s (b ^ n) * B ^ n = tailS T (B - T) n l * lowB s (b ^ n) := by
  intro t b s
  have hBf : 0 < B * f := Int.mul_pos hB hf
  have hb : 0 < b := low_pos hBf
  have hbn : 0 < b ^ n := Int.pow_pos hb
  have hg : 0 < gcdI (T * f) (B * f) := gcd_pos hBf
  have e1 : gcdI (T * f) (B * f) * t = T * f := gcd_top _ _
  have e2 : gcdI (T * f) (B * f) * b = B * f := gcd_bot _ _
  generalize gcdI (T * f) (B * f) = g at *
  have e3 : g ^ n * s = f ^ n * tailS T (B - T) n l := by
    rw [← tail_scale, ← tail_scale, e1, Int.mul_sub, e1, e2, Int.mul_comm T, Int.mul_comm B, Int.mul_sub]
  have e4 : g ^ n * b ^ n = f ^ n * B ^ n := by rw [← Int.mul_pow, ← Int.mul_pow, e2, Int.mul_comm B]
  have hgn : 0 < g ^ n := Int.pow_pos hg
  have hfn : 0 < f ^ n := Int.pow_pos hf
  have hG : 0 < gcdI s (b ^ n) := gcd_pos hbn
  have e5 := gcd_top s (b ^ n)
  have e6 := gcd_bot s (b ^ n)
  generalize tailS T (B - T) n l = S at *
  have e7 : s * B ^ n = S * b ^ n := by
    have h : (g ^ n * f ^ n) * (s * B ^ n) = (g ^ n * f ^ n) * (S * b ^ n) := by
      calc (g ^ n * f ^ n) * (s * B ^ n) = (g ^ n * s) * (f ^ n * B ^ n) := by ac_rfl
        _ = (f ^ n * S) * (g ^ n * b ^ n) := by rw [e3, e4]
        _ = (g ^ n * f ^ n) * (S * b ^ n) := by ac_rfl
    exact Int.eq_of_mul_eq_mul_left (Int.ne_of_gt (Int.mul_pos hgn hfn)) h
  refine Int.eq_of_mul_eq_mul_left (Int.ne_of_gt hG) ?_
  calc gcdI s (b ^ n) * (lowT s (b ^ n) * B ^ n) = (gcdI s (b ^ n) * lowT s (b ^ n)) * B ^ n := by ac_rfl
    _ = S * b ^ n := by rw [e5, e7]
    _ = S * (gcdI s (b ^ n) * lowB s (b ^ n)) := by rw [e6]
    _ = gcdI s (b ^ n) * (S * lowB s (b ^ n)) := by ac_rfl
theorem lenk_lowest : ∀ (ds : List Dt) (r : Dt), F_lowest ds = some r → ds.length = 2 := by
  intro ds r h
  match ds, h with
  | [.int _, .int _], _ => rfl
theorem big_lt {x : Int} {n : Nat} (h : x.natAbs < 2 ^ n) (hn : n ≤ 400000 := by decide) : x.natAbs < BIG := big_of h hn
theorem gcd_le {a b : Int} (hb : 0 < b) : (gcdI a b).natAbs ≤ b.natAbs := by
  unfold gcdI
  rw [Int.natAbs_natCast]
  exact Nat.gcd_le_right _ (by omega)
theorem kk_lowest : Keeps 3 cw_lowest F_lowest := by
  intro ds r h
  match ds, h with
  | [.int t, .int b], h =>
    simp only [F_lowest] at h
    split at h
    case isFalse => cases h
    rename_i hk
    cases h
    have hg := gcd_pos (a := t) hk.1
    have hgl : (gcdI t b).natAbs < DIVB := by
      rw [DIVB_eq]
      exact Nat.lt_of_le_of_lt (gcd_le hk.1) (Nat.lt_trans hk.2 (Nat.pow_lt_pow_right (by decide) (by decide)))
    show cw_lowest _ [.val (.int t), .val (.int b), .non]
    refine q_ifD (p := b = 0) (by walk_at "pe") (fun e => absurd e (by omega)) fun _ => s_nil ?_
    refine q_asg (r := .vis (.int (gcdI t b))) (by walk_at "pe"; rfl) rfl rfl ?_
    refine q_ifD (p := b < 0) (by walk_at "pe") (fun e => absurd e (by omega)) fun _ => s_nil ?_
    exact s_ret (r := .vis (.tup [.int (lowT t b), .int (lowB t b)])) (by walk_at "pe"; rw [pDiv_int hg hgl, pDiv_int hg hgl]; walk_at "pe"; rfl) rfl rfl rfl
theorem low_at {t b : Int} (h : 0 < b) (h2 : b.natAbs < 2 ^ 8000) : F_lowest [.int t, .int b] = some (.tup [.int (lowT t b), .int (lowB t b)]) := if_pos ⟨h, h2⟩
theorem lenk_powers_of : ∀ (ds : List Dt) (r : Dt), F_powers_of ds = some r → ds.length = 2 := by
  intro ds r h
  match ds, h with
  | [.int _, .int _], _ => rfl
theorem pows_snoc (x : Int) (n : Nat) : (powsM x n).map Dt.int = ((List.range n).map (x ^ ·)).map Dt.int ++ [.int (x ^ n)] := by
  unfold powsM
  rw [List.range_succ, List.map_append, List.map_append]
  rfl
theorem pows_succ (x : Int) (n : Nat) : powsM x (n + 1) = powsM x n ++ [x ^ n * x] := by
  unfold powsM
  rw [List.range_succ, List.map_append, List.map_cons, List.map_nil, Int.pow_succ]
theorem pows_zero (x : Int) : powsM x 0 = [1] := by
  show [x ^ 0] = [1]
  rw [Int.pow_zero]
theorem pows_len (x : Int) (n : Nat) : (powsM x n).length = n + 1 := by
  unfold powsM
  rw [List.length_map, List.length_range]
theorem pows_get {x : Int} {n i : Nat} (h : i ≤ n) : (powsM x n)[i]? = some (x ^ i) := by
  unfold powsM
  rw [List.getElem?_map, List.getElem?_range (by omega)]
  rfl
theorem kk_powers_of : Keeps 4 cw_powers_of F_powers_of := by
  intro ds r h
  match ds, h with
  | [.int x, .int n], h =>
    simp only [F_powers_of] at h
    split at h
    case isFalse => cases h
    rename_i hk
    cases h
    obtain ⟨n, rfl⟩ : ∃ k : Nat, n = k := ⟨n.toNat, by omega⟩
    rw [Int.toNat_natCast]
    show cw_powers_of _ [.val (.int x), .val (.int n), .non, .non]
    refine q_asg (r := .fre (.lst ((powsM x 0).map .int))) (by walk_at "pe"; rw [pows_zero]; rfl) rfl rfl ?_
    refine q_forRng (lo := 0) (n := n) (fun i e => ∃ z, e = [.val (.int x), .val (.int n), .own (.lst ((powsM x i).map .int)), z]) (by rw [rng1 (n := (n : Int)) rfl (by omega), Int.toNat_natCast]) ⟨_, rfl⟩ ?_ ?_
    · rintro i env hi ⟨z, rfl⟩
      refine ⟨_, by walk_at "pe"; rfl, ?_⟩
      refine s_app (d := .int (x ^ i * x)) rfl (r := .vis (.int (x ^ i * x))) ?_ rfl (by rw [List.length_map, pows_len]; exact lim_lt (by omega)) rfl rfl ⟨.val (.int (0 + (i : Int))), ?_⟩
      · walk_at "pe"
        rw [pows_snoc, atL_last]
        walk_at "pe"
        have hx : x.natAbs ≤ 2 ^ 22 := by omega
        rw [pMul_int (big_lt (n := 22 * i + 1) (lt_bits (pow_bits hx i) (by omega)) (by omega)) (big_lt (n := 22) hk.2.2)]
      · rw [pows_succ, List.map_append]
        rfl
    · rintro env ⟨z, rfl⟩
      exact q_frz rfl rfl (s_ret (r := .vis (ilst (powsM x n))) (by walk_at "pe"; rfl) rfl rfl rfl)
theorem pows_at22 {x : Int} {n : Nat} (h : n ≤ 1000) (h2 : x.natAbs < 2 ^ 22) : F_powers_of [.int x, .int (n : Int)] = some (ilst (powsM x n)) := by
  show (if 0 ≤ (n : Int) ∧ (n : Int) ≤ 1000 ∧ x.natAbs < 2 ^ 22 then some (ilst (powsM x (n : Int).toNat)) else none) = _
  rw [if_pos ⟨by omega, by omega, h2⟩, Int.toNat_natCast]
theorem pows_at {x : Int} {n : Nat} (h : n ≤ 1000) (h2 : x.natAbs < 2 ^ 20) : F_powers_of [.int x, .int (n : Int)] = some (ilst (powsM x n)) := pows_at22 h (by omega)
theorem lenk_ways_of : ∀ (ds : List Dt) (r : Dt), F_ways_of ds = some r → ds.length = 4 := by
  intro ds r h
  match ds, h with
  | [_, _, .int _, .int _], _ => rfl
theorem kk_ways_of : Keeps 4 cw_ways_of F_ways_of := by
  intro ds r h
  match ds, h with
  | [hp, mp, .int n, .int j], h =>
    simp only [F_ways_of] at h
    split at h
    case isFalse => cases h
    rename_i hk
    obtain ⟨⟨e1, e2⟩, ⟨j0, jn, n1⟩, ⟨l1, l2⟩, b1, b2⟩ := hk
    cases h
    generalize hp.toIs = xs at *
    generalize mp.toIs = ys at *
    subst e1 e2
    obtain ⟨n, rfl⟩ : ∃ k : Nat, n = k := ⟨n.toNat, by omega⟩
    obtain ⟨j, rfl⟩ : ∃ k : Nat, j = k := ⟨j.toNat, by omega⟩
    rw [Int.toNat_natCast, Int.toNat_natCast, show ((n : Int) - (j : Int)).toNat = n - j by omega]
    have g1 : xs[j]? = some (xs.getD j 0) := by
      rw [List.getD_eq_getElem?_getD, List.getElem?_eq_getElem (by omega)]
      rfl
    have g2 : ys[n - j]? = some (ys.getD (n - j) 0) := by
      rw [List.getD_eq_getElem?_getD, List.getElem?_eq_getElem (by omega)]
      rfl
    have z1 := b1 _ (List.mem_of_getElem? g1)
    have z2 := b2 _ (List.mem_of_getElem? g2)
    generalize xs.getD j 0 = x at *
    generalize ys.getD (n - j) 0 = y at *
    have hc : ((chooseN n j : Int)).natAbs ≤ 2 ^ n := by
      rw [Int.natAbs_natCast]
      exact choose_le n j
    show cw_ways_of _ [.val (ilst xs), .val (ilst ys), .val (.int n), .val (.int j)]
    refine s_ret (r := .vis (.int ((chooseN n j : Int) * x * y))) ?_ rfl rfl rfl
    walk_at "pe"
    rw [pComb_nat (by omega), show pIx (ilst xs) (.int (j : Int)) = _ from pIx_iseq (b := false) (Int.natCast_nonneg j) (by rw [Int.toNat_natCast]; exact g1)]
    walk_at "pe"
    rw [pMul_int (big_lt (n := n + 1) (lt_bits hc (by omega)) (by omega)) (big_lt z1), show ((n : Int) - (j : Int)) = ((n - j : Nat) : Int) by omega, show pIx (ilst ys) (.int ((n - j : Nat) : Int)) = _ from pIx_iseq (b := false) (Int.natCast_nonneg _) (by rw [Int.toNat_natCast]; exact g2)]
    walk_at "pe"
    rw [pMul_int (big_lt (n := n + 21000 + 1) (lt_bits (mul_bits hc (Nat.le_of_lt z1)) (by omega)) (by omega)) (big_lt z2)]
theorem ways_at {t m : Int} {n j : Nat} (hj : j ≤ n) (hn : n ≤ 1000) (ht : t.natAbs < 2 ^ 20) (hm : m.natAbs < 2 ^ 20) : F_ways_of [ilst (powsM t n), ilst (powsM m n), .int (n : Int), .int (j : Int)] = some (.int (termM t m n j)) := by
  have hb : ∀ (x : Int), x.natAbs < 2 ^ 20 → ∀ y ∈ powsM x n, y.natAbs < 2 ^ 21000 := fun x hx y hy => by
    obtain ⟨i, hi, rfl⟩ := List.mem_map.mp hy
    have := List.mem_range.mp hi
    exact lt_bits (pow_bits (Nat.le_of_lt hx) i) (by omega)
  simp only [F_ways_of]
  rw [toIs_ilst, toIs_ilst, if_pos]
  · rw [Int.toNat_natCast, Int.toNat_natCast, show ((n : Int) - (j : Int)).toNat = n - j by omega, List.getD_eq_getElem?_getD, List.getD_eq_getElem?_getD, pows_get hj, pows_get (Nat.sub_le n j)]
    rfl
  · exact ⟨⟨rfl, rfl⟩, ⟨by omega, by omega, by omega⟩, ⟨by rw [pows_len]; omega, by rw [pows_len]; omega⟩, hb t ht, hb m hm⟩
theorem lenk_tail : ∀ (ds : List Dt) (r : Dt), F_tail ds = some r → ds.length = 3 := by
  intro ds r h
  match ds, h with
  | [.int _, _, .int _], _ => rfl
theorem sum_take_succ {l : List Int} {i : Nat} {x : Int} (h : l[i]? = some x) : (l.take (i + 1)).sum = (l.take i).sum + x := by
  rw [List.take_add_one, h, List.sum_append]
  simp
theorem sh_bits {T B : Int} (ok : OkSh T B) : (lowT T B).natAbs < 2 ^ 20 ∧ (lowB T B).natAbs < 2 ^ 20 ∧ (lowB T B - lowT T B).natAbs < 2 ^ 20 ∧ 0 < lowB T B := by
  have h := low_abs (a := T) ok.b0
  have hp := low_pos (a := T) ok.b0
  have h1 := ok.t0
  have h2 := ok.tb
  have h3 := ok.b1
  have hg := gcd_pos (a := T) ok.b0
  have ht : 0 ≤ lowT T B := Int.ediv_nonneg h1 (Int.le_of_lt hg)
  omega
theorem kk_tail : Keeps 9 cw_tail F_tail := by
  intro ds r h
  match ds, h with
  | [.int n, sh, .int l], h =>
    simp only [F_tail] at h
    split at h
    case isFalse => cases h
    rename_i hk
    obtain ⟨⟨b, T, B, rfl, ok⟩, n0, n1, l0, l1⟩ := hk
    cases h
    obtain ⟨n, rfl⟩ : ∃ k : Nat, n = k := ⟨n.toNat, by omega⟩
    obtain ⟨l, rfl⟩ : ∃ k : Nat, l = k := ⟨l.toNat, by omega⟩
    rw [toIs_iseq, Int.toNat_natCast, Int.toNat_natCast]
    show cw_tail ⟨_, fun d => d = .tup [.int (lowT (tailS (lowT T B) (lowB T B - lowT T B) n l) (lowB T B ^ n)), .int (lowB (tailS (lowT T B) (lowB T B - lowT T B) n l) (lowB T B ^ n))], _, _, _⟩ [.val (.int n), .val (iseq b [T, B]), .val (.int l), .non, .non, .non, .non, .non, .non]
    have i0 : pIx (iseq b [T, B]) (.int 0) = some (.vis (.int T)) := pIx_iseq (by decide) rfl
    have i1 : pIx (iseq b [T, B]) (.int 1) = some (.vis (.int B)) := pIx_iseq (by decide) rfl
    have hlow : F_lowest [.int T, .int B] = some (.tup [.int (lowT T B), .int (lowB T B)]) := low_at ok.b0 (Nat.lt_of_lt_of_le (show B.natAbs < 2 ^ 20 by have := ok.b1; have := ok.b0; omega) (Nat.pow_le_pow_right (by decide) (by decide)))
    obtain ⟨z1, z2, z3, z4⟩ := sh_bits ok
    generalize lowT T B = t at *
    generalize lowB T B = c at *
    have hcn : 0 < c ^ n := Int.pow_pos z4
    have hcb : (c ^ n).natAbs < 2 ^ 8000 := lt_bits (pow_bits (Nat.le_of_lt z2) n) (by omega)
    refine q_unp (d := .tup [.int t, .int c]) (by walk_at "pe"; rw [i0, i1]; walk_at "pe"; rw [hlow]; walk_at "pe") rfl ?_
    refine q_asg (r := .vis (ilst (powsM t n))) (by walk_at "pe"; rw [pows_at (by omega) z1]; walk_at "pe") rfl rfl ?_
    refine q_asg (r := .vis (ilst (powsM (c - t) n))) (by walk_at "pe"; rw [pows_at (by omega) z3]; walk_at "pe") rfl rfl ?_
    refine q_asg (r := .vis (.int 0)) (by walk_at "pe") rfl rfl ?_
    generalize hts : ((List.range (n + 1)).drop l).map (termM t (c - t) n) = ts
    have htl : ts.length = n + 1 - l := by rw [← hts, List.length_map, List.length_drop, List.length_range]
    refine q_forRng (lo := (l : Int)) (n := n + 1 - l) (fun i e => ∃ z, e = [.val (.int n), .val (iseq b [T, B]), .val (.int l), .val (ilst (powsM t n)), .val (ilst (powsM (c - t) n)), .val (.int ((ts.take i).sum)), z, .val (.int t), .val (.int c)])
      (by rw [rng2 (lo := (l : Int)) (hi := (n : Int) + 1) rfl (by walk_at "pe"), show ((n : Int) + 1 - (l : Int)).toNat = n + 1 - l by omega]) ⟨_, rfl⟩ ?_ ?_
    · rintro i env hi ⟨z, rfl⟩
      refine ⟨_, by walk_at "pe"; rfl, ?_⟩
      have hg : ts[i]? = some (termM t (c - t) n (l + i)) := by
        rw [← hts, List.getElem?_map, List.getElem?_drop, List.getElem?_range (by omega)]
        rfl
      refine s_asg (r := .vis (.int ((ts.take (i + 1)).sum))) ?_ rfl rfl ⟨_, rfl⟩
      walk_at "pe"
      rw [show ((l : Int) + (i : Int)) = ((l + i : Nat) : Int) by omega, ways_at (by omega) (by omega) z1 z3]
      walk_at "pe"
      rw [sum_take_succ hg]
    · rintro env ⟨z, rfl⟩
      rw [← htl, List.take_length]
      refine s_ret (r := .vis _) ?_ rfl rfl rfl
      walk_at "pe"
      rw [pows_at (by omega) z2]
      walk_at "pe"
      rw [show pIx (ilst (powsM c n)) (.int (n : Int)) = _ from pIx_iseq (b := false) (Int.natCast_nonneg n) (by rw [Int.toNat_natCast]; exact pows_get (Nat.le_refl n))]
      walk_at "pe"
      rw [low_at hcn hcb]
      walk_at "pe"
      rw [← hts]
      rfl
theorem tail_at {b : Bool} {T B : Int} {n l : Nat} (ok : OkSh T B) (hn : n ≤ 200) (hl : l ≤ n + 1) :
    F_tail [.int (n : Int), iseq b [T, B], .int (l : Int)] = some (.tup [.int (lowT (tailS (lowT T B) (lowB T B - lowT T B) n l) (lowB T B ^ n)), .int (lowB (tailS (lowT T B) (lowB T B - lowT T B) n l) (lowB T B ^ n))]) := by
  simp only [F_tail]
  rw [toIs_iseq, if_pos ⟨⟨b, T, B, rfl, ok⟩, by omega, by omega, by omega, by omega⟩, Int.toNat_natCast, Int.toNat_natCast]
  rfl
def rowW (t m : Int) (n : Nat) : List Int := (List.range (n + 1)).map (termM t m n)
theorem rowW_len (t m : Int) (n : Nat) : (rowW t m n).length = n + 1 := by
  unfold rowW
  rw [List.length_map, List.length_range]
theorem rowW_get {t m : Int} {n j : Nat} (h : j ≤ n) : (rowW t m n)[j]? = some (termM t m n j) := by
  unfold rowW
  rw [List.getElem?_map, List.getElem?_range (by omega)]
  rfl
theorem term_above {t m : Int} {n j : Nat} (h : n < j) : termM t m n j = 0 := by
  unfold termM
  rw [ch_above h, Int.natCast_zero, Int.zero_mul, Int.zero_mul]
theorem term_zero {t m : Int} {n : Nat} : termM t m (n + 1) 0 = m * termM t m n 0 := by
  unfold termM
  rw [ch_zero, ch_zero, Nat.sub_zero, Nat.sub_zero, Int.pow_succ, Int.pow_zero]
  simp only [Int.natCast_one, Int.one_mul, Int.mul_one]
  exact Int.mul_comm _ _
theorem term_succ {t m : Int} {n j : Nat} (h : j ≤ n) : termM t m (n + 1) (j + 1) = m * termM t m n (j + 1) + t * termM t m n j := by
  unfold termM
  show ((chooseN n j + chooseN n (j + 1) : Nat) : Int) * t ^ (j + 1) * m ^ (n + 1 - (j + 1)) = _
  rw [Nat.add_sub_add_right, Int.natCast_add, Int.add_mul, Int.add_mul]
  rcases Nat.lt_or_ge j n with h2 | h2
  · have e : n - j = (n - (j + 1)) + 1 := by omega
    rw [e, Int.pow_succ m, Int.pow_succ t]
    rw [Int.add_comm]
    congr 1 <;> ac_rfl
  · have e : j = n := by omega
    subst e
    rw [ch_above (Nat.lt_succ_self j), Int.natCast_zero, Int.zero_mul, Int.zero_mul, Int.zero_mul, Int.mul_zero, Int.add_zero, Int.zero_add, Int.pow_succ]
    ac_rfl
theorem rowW_drop (t m : Int) (n l : Nat) : ((rowW t m n).drop l).sum = tailS t m n l := by
  unfold rowW tailS
  rw [List.map_drop]
end Pyl
end
section
set_option Elab.async false
set_option linter.all false
set_option maxHeartbeats 1000000
namespace Pyl
open PySem
/-! shares: plus, times, sum_of, compare; the law's own gcd; digits of great sizes -/
local macro_rules | `(tactic| walk_at "pe") => `(tactic| simp (config := { implicitDefEqProofs := false }) only [eVar_at, eC_at, e1_at, e2_at, aNil_at, aCons_at, eTup_at, eLst_at, plain_nil, plain_cons, eCall_at, eIf_at, eAnd_at, eOr_at, eNot_at, tVal_at, tAnd_at, tOr_at, tNot_at, tYes_at,
  pAdd_int, pSub_int, pNeg_int, pLt_int, pLe_int, pGt_int, pGe_int, pEq_int, pNe_int, pIsN_at, pNotN_at, pIx_lst, pIx_tup, pGcd_int, atL0, atL1, atL2, atL3, atL4, atL5, atL6, atL7, atL8, oNone_at, oSome_at, eSlice_at, pLen_lst, pLen_tup, pInt_int, pInt_bl, pAbs_int, pSum_ints, pMax2_int, pMin2_int, pList_lst, pList_tup, pTuple_lst, pTuple_tup, iSeq_at, gN_at, gT_at, gsN_cons, gsN_nil, wipeS_cons, wipeS_nil,
  dt_vis, dt_bor, dt_fre, sh_vis, sh_bor, sh_fre, slot_vis, slot_fre, od_dt, isNon_non, isNon_int, isNon_lst, isNon_tup, scalar_int, scalar_bl, scalar_non, Option.bind_some, Option.bind_none, Option.map_some, Option.map_none, List.getElem?_cons_zero, List.getElem?_cons_succ, List.set_cons_zero, List.set_cons_succ, List.map_cons, List.map_nil, List.any_cons, List.any_nil, Bool.or_false, Bool.false_or, Bool.false_and, Bool.and_true, Bool.true_and, Bool.not_true, Bool.not_false,
  Option.some.injEq, exists_eq_left', exists_eq_left, true_and, and_true, if_true, if_false, Bool.false_eq_true, ite_true, ite_false, reduceIte, decide_eq_true_eq, decide_eq_false_iff_not, R.vis.injEq, R.fre.injEq, Dt.lst.injEq, Dt.tup.injEq, Dt.int.injEq, Slot.own.injEq, OD.lst.injEq, reduceCtorEq, false_and, exists_false, exists_const, Bool.true_eq_false, false_implies, true_implies, implies_true, forall_const])

@[irreducible] def BIGS : Nat := 2 ^ 8000
theorem BIGS_eq : BIGS = 2 ^ 8000 := by unfold BIGS; rfl
theorem divW {x : Int} (h0 : 0 < x) (h : x.natAbs < BIGS) : x.natAbs < DIVB := by
  rw [DIVB_eq]
  rw [BIGS_eq] at h
  exact Nat.lt_of_lt_of_le h (Nat.pow_le_pow_right (by decide) (by decide))
theorem bigs_of {x : Int} {n : Nat} (h : x.natAbs < 2 ^ n) (hn : n ≤ 8000) : x.natAbs < BIGS := by
  rw [BIGS_eq]
  exact Nat.lt_of_lt_of_le h (Nat.pow_le_pow_right (by decide) hn)
theorem bigs64 {x : Int} (h0 : 0 < x) (h2 : x < 18446744073709551616) : x.natAbs < BIGS := bigs_of (n := 64) (by omega) (by decide)
def sizeOkW (sizes : List Int) : Prop := (∀ s ∈ sizes, 0 < s ∧ s.natAbs < BIGS) ∧ sizes.length ≤ 100000
open Classical in
noncomputable def F_digitsW : FN := fun ds => match ds with
  | [.int c, .lst xs] => (intsOf xs).bind fun ns => if sizeOkW ns then some (.lst ((digitsM c ns).map .int)) else none
  | _ => none
theorem F_digitsW_at {c : Int} {ns : List Int} (h : sizeOkW ns) : F_digitsW [.int c, ilst ns] = some (ilst (digitsM c ns)) := by
  show (intsOf (ns.map .int)).bind _ = _
  rw [intsOf_ints]
  exact if_pos h
theorem len_digitsW : ∀ (ds : List Dt) (r : Dt), F_digitsW ds = some r → ds.length = 2 := by
  intro ds r h
  match ds, h with
  | [.int _, .lst _], _ => rfl
theorem k_digitsW : Keeps 8 cw_digits F_digitsW := by
  intro ds r h
  match ds, h with
  | [.int c, .lst xs], h =>
    obtain ⟨ns, h1, h⟩ := Option.bind_eq_some_iff.mp h
    split at h
    case isFalse => cases h
    rename_i hk
    cases h
    rw [intsOf_some h1]
    obtain ⟨hp, hlen⟩ := hk
    have hsz : (List.map Dt.int ns).length = ns.length := List.length_map _
    show cw_digits _ [.val (.int c), .val (.lst (ns.map .int)), .non, .non, .non, .non, .non, .non]
    refine q_asg (r := .fre (.lst [])) (by walk_at "pe") rfl rfl ?_
    refine q_asg (r := .vis (.int c)) (by walk_at "pe") rfl rfl ?_
    refine q_ifD (p := 1000000000000000000 ≤ c) (by walk_at "pe"; rw [pow18]; walk_at "pe") (fun hge => ?_) fun hlt => ?_
    · refine q_asg (r := .vis (.int (c - 1000000000000000000))) (by walk_at "pe"; rw [pow18]; walk_at "pe") rfl rfl ?_
      refine q_forMap (u := Dt.int) (xs := ns) (fun i e => ∃ z acc rest, e = [.val (.int c), .val (.lst (ns.map .int)), .own (.lst (acc.map .int)), .val (.int rest), .non, .non, z, .non] ∧ acc.length = i ∧ acc ++ digA rest (ns.drop i) = digitsM c ns) (by walk_at "pe") ⟨_, [], c - 1000000000000000000, rfl, rfl, ?_⟩ ?_ ?_
      · unfold digitsM
        rw [if_pos hge]
        rfl
      · rintro i env x hx ⟨z, acc, rest, rfl, hl, he⟩
        have hx2 := hp x (List.mem_of_getElem? hx)
        have hi := (List.getElem?_eq_some_iff.mp hx).1
        refine ⟨_, by walk_at "pe"; rfl, ?_⟩
        refine q_app (d := .int (rest % x)) rfl (r := .vis _) (by walk_at "pe"; rw [pMod_int hx2.1]) rfl (by rw [List.length_map]; exact lim_lt (by omega)) rfl rfl ?_
        refine s_asg (r := .vis (.int (rest / x))) (by walk_at "pe"; rw [pDiv_int hx2.1 (divW hx2.1 hx2.2)]) rfl rfl ⟨.val (.int x), acc ++ [rest % x], rest / x, ?_, ?_, ?_⟩
        · rw [List.map_append]
          rfl
        · rw [List.length_append, hl]
          rfl
        · rw [List.append_assoc, ← he, drop_cons_get hx]
          rfl
      · rintro env ⟨z, acc, rest, rfl, hl, he⟩
        rw [List.drop_length] at he
        have he : acc = digitsM c ns := by rw [← he]; exact (List.append_nil _).symm
        subst he
        exact q_frz rfl rfl (s_ret (r := .vis _) (by walk_at "pe") rfl rfl rfl)
    · refine s_nil ?_
      refine q_asg (r := .vis (.int (c % 2147483629))) (by walk_at "pe"; rw [pMod_int (by decide)]) rfl rfl ?_
      refine q_forRng (lo := 0) (n := ns.length) (fun i e => ∃ z z7 acc seed, e = [.val (.int c), .val (.lst (ns.map .int)), .own (.lst (acc.map .int)), .val (.int c), .val (.int seed), z, .non, z7] ∧ acc.length = i ∧ 0 ≤ seed ∧ seed < 2147483647 ∧ acc ++ digB seed i (ns.drop i) = digitsM c ns)
        (by rw [rng1 (n := (ns.length : Int)) (by walk_at "pe"; rw [hsz]) (by omega)]; rw [Int.toNat_natCast]) ⟨_, _, [], c % 2147483629, rfl, rfl, Int.emod_nonneg _ (by decide), ?_, ?_⟩ ?_ ?_
      · have := Int.emod_lt_of_pos c (show (0 : Int) < 2147483629 by decide)
        omega
      · unfold digitsM
        rw [if_neg hlt]
        rfl
      · rintro i env hi ⟨z, z7, acc, seed, rfl, hl, hs0, hs1, he⟩
        have hg : ns[i]? = some ns[i] := List.getElem?_eq_getElem hi
        have hx2 := hp ns[i] (List.mem_of_getElem? hg)
        have hb0 : 0 ≤ stepB seed i := Int.emod_nonneg _ (by decide)
        have hb1 : stepB seed i < 2147483647 := Int.emod_lt_of_pos _ (by decide)
        refine ⟨_, by walk_at "pe"; rfl, ?_⟩
        refine q_asg (r := .vis (.int (stepB seed i))) ?_ rfl rfl ?_
        · walk_at "pe"
          rw [pMul_int (big64 (by omega) (by omega)) (big64 (by decide) (by decide)), pMul_int (big64 (by decide) (by decide)) (big64 (by omega) (by omega))]
          walk_at "pe"
          rw [pMod_int (by decide)]
          unfold stepB
          rw [Int.zero_add]
        have hq0 : 0 ≤ stepB seed i / 65537 := Int.ediv_nonneg hb0 (by decide)
        have hq1 : stepB seed i / 65537 < 40000 := by omega
        refine q_asg (r := .vis (.int (takeB (stepB seed i)))) ?_ rfl rfl ?_
        · walk_at "pe"
          rw [pDiv_int (by decide) (div64 (by decide) (by decide))]
          walk_at "pe"
          rw [pMul_int (big64 (by omega) (by omega)) (big64 (by omega) (by omega))]
          walk_at "pe"
          rw [pMod_int (by decide)]
          rfl
        refine s_app (d := .int (takeB (stepB seed i) / 19 % ns[i])) rfl (r := .vis _) ?_ rfl (by rw [List.length_map]; exact lim_lt (by omega)) rfl rfl ⟨.val (.int (0 + (i : Int))), .val (.int (takeB (stepB seed i))), acc ++ [takeB (stepB seed i) / 19 % ns[i]], stepB seed i, ?_, ?_, hb0, hb1, ?_⟩
        · walk_at "pe"
          rw [pDiv_int (by decide) (div64 (by decide) (by decide)), Int.zero_add, atL_nat, List.getElem?_map, hg]
          walk_at "pe"
          rw [pMod_int hx2.1]
        · rw [List.map_append]
          rfl
        · rw [List.length_append, hl]
          rfl
        · rw [List.append_assoc, ← he, drop_cons_get hg]
          rfl
      · rintro env ⟨z, z7, acc, seed, rfl, hl, hs0, hs1, he⟩
        rw [List.drop_length] at he
        have he : acc = digitsM c ns := by rw [← he]; exact (List.append_nil _).symm
        subst he
        exact q_frz rfl rfl (s_ret (r := .vis _) (by walk_at "pe") rfl rfl rfl)
theorem half_step {l r : Nat} (h : r ≤ l) (hr : 0 < r) : 2 * (r * (l % r)) ≤ l * r := by
  have h1 := Nat.mod_lt l hr
  have h2 : l % r + r ≤ l := by
    have := Nat.div_add_mod l r
    have h3 : 1 ≤ l / r := Nat.div_pos h hr
    have h4 : r * 1 ≤ r * (l / r) := Nat.mul_le_mul_left r h3
    omega
  have h3 : 2 * (l % r) ≤ l := by omega
  calc 2 * (r * (l % r)) = r * (2 * (l % r)) := by ac_rfl
    _ ≤ r * l := Nat.mul_le_mul_left r h3
    _ = l * r := Nat.mul_comm r l

/-! the law's own gcd: N turns at most -/
def cw_gcdN (N : Nat) : WS := (wSeq (wAsg 2 (e1 pAbs (eVar 0)))
  (wSeq (wAsg 3 (e1 pAbs (eVar 1)))
  (wSeq (wFor (iRange1 (eC (.int N))) (gN 4)
  (wSeq (wIf (tVal (e2 pEq (eVar 3) (eC (.int 0))))
  wBrk
  wNil)
  (wSeq (wAsg 5 (e2 pMod (e1 pInt (eVar 2)) (eVar 3)))
  (wSeq (wAsg 2 (eVar 3))
  (wAsg 3 (eVar 5))))))
  (wRet (eVar 2)))))
def F_gcdN (N : Nat) : FN := fun ds => match ds with
  | [.int a, .int b] => if a.natAbs * b.natAbs < 2 ^ (N - 2) ∧ 2 ≤ N ∧ N < 1000000 then some (.int (gcdI a b)) else none
  | _ => none
theorem gcdN_shape {N : Nat} {ds : List Dt} {r : Dt} (h : F_gcdN N ds = some r) : ∃ a b, ds = [.int a, .int b] ∧ (a.natAbs * b.natAbs < 2 ^ (N - 2) ∧ 2 ≤ N ∧ N < 1000000) ∧ r = .int (gcdI a b) := by
  unfold F_gcdN at h
  split at h
  · split at h
    · rename_i hk
      exact ⟨_, _, rfl, hk, (Option.some.inj h).symm⟩
    · cases h
  · cases h
theorem len_gcdN {N : Nat} : ∀ (ds : List Dt) (r : Dt), F_gcdN N ds = some r → ds.length = 2 := by
  intro ds r h
  obtain ⟨a, b, rfl, _⟩ := gcdN_shape h
  rfl
theorem kk_gcdN (N : Nat) : Keeps 6 (cw_gcdN N) (F_gcdN N) := by
  intro ds r h
  obtain ⟨a, b, rfl, ⟨hk, hN2, hN⟩, rfl⟩ := gcdN_shape h
  have habs : ∀ x : Int, (if x < 0 then -x else x) = (x.natAbs : Int) := fun x => by split <;> omega
  show cw_gcdN N _ [.val (.int a), .val (.int b), .non, .non, .non, .non]
  refine q_asg (r := .vis (.int (a.natAbs : Int))) (by walk_at "pe"; rw [habs]) rfl rfl ?_
  refine q_asg (r := .vis (.int (b.natAbs : Int))) (by walk_at "pe"; rw [habs]) rfl rfl ?_
  have hgcd : gcdI a b = (Nat.gcd a.natAbs b.natAbs : Nat) := rfl
  rw [hgcd]
  have hP : a.natAbs * b.natAbs < 2 ^ (N - 2) := hk
  generalize hE : N - 2 = E at hP
  generalize a.natAbs = x at *
  generalize b.natAbs = y at *
  generalize hg : Nat.gcd x y = g
  refine q_forRng (lo := 0) (n := N) (fun i e => ∃ (l r : Nat) (z1 z2 : Slot), e = [.val (.int a), .val (.int b), .val (.int (l : Int)), .val (.int (r : Int)), z1, z2] ∧ Nat.gcd l r = g ∧ (i = 0 ∨ (r ≤ l ∧ l * r * 2 ^ (i - 1) < 2 ^ E)) ∧ (i = 0 → l * r < 2 ^ E)) (by rw [rng1 (n := (N : Int)) rfl (by omega)]; rfl) ⟨x, y, _, _, rfl, hg, Or.inl rfl, fun _ => hP⟩ ?_ ?_
  · rintro i env hi ⟨l, r, z1, z2, rfl, hgl, hor, hz⟩
    refine ⟨_, by walk_at "pe"; rfl, ?_⟩
    refine q_ifD (p := (r : Int) = 0) (by walk_at "pe") (fun e => ?_) fun hr => s_nil ?_
    · show wRet _ _ _
      have e2 : r = 0 := by omega
      subst e2
      rw [Nat.gcd_zero_right] at hgl
      subst hgl
      exact s_ret (r := .vis (.int (l : Int))) (by walk_at "pe") rfl rfl rfl
    · have hr0 : 0 < r := by omega
      refine q_asg (r := .vis (.int ((l % r : Nat) : Int))) (by walk_at "pe"; rw [pMod_int (by omega), Int.natCast_emod]) rfl rfl ?_
      refine q_asg (r := .vis (.int (r : Int))) (by walk_at "pe") rfl rfl ?_
      refine s_asg (r := .vis (.int ((l % r : Nat) : Int))) (by walk_at "pe") rfl rfl ⟨r, l % r, _, _, rfl, ?_, Or.inr ⟨Nat.le_of_lt (Nat.mod_lt l hr0), ?_⟩, fun e => absurd e (by omega)⟩
      · rw [Nat.gcd_comm l r, Nat.gcd_rec r l, Nat.gcd_comm] at hgl
        exact hgl
      · rw [Nat.add_sub_cancel]
        rcases hor with e | ⟨hle, hlt⟩
        · subst e
          rw [Nat.pow_zero, Nat.mul_one]
          rcases Nat.lt_or_ge l r with h | h
          · rw [Nat.mod_eq_of_lt h, Nat.mul_comm]
            exact hz rfl
          · have := half_step h hr0
            have := hz rfl
            omega
        · by_cases e : i = 0
          · subst e
            have := half_step hle hr0
            rw [Nat.pow_zero, Nat.mul_one]
            have := hz rfl
            omega
          · obtain ⟨j, rfl⟩ : ∃ j, i = j + 1 := ⟨i - 1, by omega⟩
            rw [Nat.add_sub_cancel] at hlt
            refine Nat.lt_of_le_of_lt ?_ hlt
            rw [Nat.pow_succ, ← Nat.mul_assoc, Nat.mul_right_comm, Nat.mul_comm _ 2]
            exact Nat.mul_le_mul_right _ (half_step hle hr0)
  · rintro env ⟨l, r, z1, z2, rfl, hgl, hor, hz⟩
    have hr : r = 0 := by
      rcases hor with e | ⟨hle, hlt⟩
      · exact absurd e (by omega)
      · rcases Nat.eq_zero_or_pos r with h | h
        · exact h
        · have hl : 0 < l * r := Nat.mul_pos (by omega) h
          have h3 : 1 * 2 ^ (N - 1) ≤ l * r * 2 ^ (N - 1) := Nat.mul_le_mul_right _ hl
          have h4 : 2 ^ E ≤ 2 ^ (N - 1) := Nat.pow_le_pow_right (by decide) (by omega)
          rw [Nat.one_mul] at h3
          exact absurd (Nat.lt_of_lt_of_le hlt (Nat.le_trans h4 h3)) (Nat.lt_irrefl _)
    subst hr
    rw [Nat.gcd_zero_right] at hgl
    subst hgl
    exact s_ret (r := .vis (.int (l : Int))) (by walk_at "pe") rfl rfl rfl

theorem gcdN_at {N : Nat} {a b : Int} (h : a.natAbs * b.natAbs < 2 ^ (N - 2)) (h2 : 2 ≤ N := by decide) (h3 : N < 1000000 := by decide) : F_gcdN N [.int a, .int b] = some (.int (gcdI a b)) := if_pos ⟨h, h2, h3⟩
def cw_is_share (N : Nat) : WS := (wSeq (wIf (tOr (tNot (tVal (e1 (pIsi "tuple") (eVar 0)))) (tVal (e2 pNe (e1 pLen (eVar 0)) (eC (.int 2)))))
  (wRet (eC (.bl false)))
  wNil)
  (wSeq (wIf (tOr (tNot (tVal (eCall F_whole (aCons (e2 pIx (eVar 0) (eC (.int 0))) aNil)))) (tOr (tNot (tVal (eCall F_whole (aCons (e2 pIx (eVar 0) (eC (.int 1))) aNil)))) (tVal (e2 pLt (e2 pIx (eVar 0) (eC (.int 1))) (eC (.int 1))))))
  (wRet (eC (.bl false)))
  wNil)
  (wRet (e2 pEq (eCall (F_gcdN N) (aCons (e2 pIx (eVar 0) (eC (.int 0))) (aCons (e2 pIx (eVar 0) (eC (.int 1))) aNil))) (eC (.int 1))))))
def shT (a b : Int) : Dt := .tup [.int a, .int b]
def F_is_shareN (N : Nat) : FN := fun ds => match ds with
  | [.tup [.int a, .int b]] => if 0 < b ∧ a.natAbs * b.natAbs < 2 ^ (N - 2) ∧ 2 ≤ N ∧ N < 1000000 then some (.bl (decide (gcdI a b = 1))) else none
  | _ => none
theorem shareN_shape {N : Nat} {ds : List Dt} {r : Dt} (h : F_is_shareN N ds = some r) : ∃ a b, ds = [.tup [.int a, .int b]] ∧ (0 < b ∧ a.natAbs * b.natAbs < 2 ^ (N - 2) ∧ 2 ≤ N ∧ N < 1000000) ∧ r = .bl (decide (gcdI a b = 1)) := by
  unfold F_is_shareN at h
  split at h
  · split at h
    · rename_i hk
      exact ⟨_, _, rfl, hk, (Option.some.inj h).symm⟩
    · cases h
  · cases h
theorem len_is_shareN {N : Nat} : ∀ (ds : List Dt) (r : Dt), F_is_shareN N ds = some r → ds.length = 1 := by
  intro ds r h
  obtain ⟨a, b, rfl, _⟩ := shareN_shape h
  rfl
theorem pIsi_tup (ds : List Dt) : pIsi "tuple" (.tup ds) = some (.vis (.bl true)) := rfl
theorem whole_int (i : Int) : F_whole [.int i] = some (.bl true) := rfl
theorem kk_is_shareN (N : Nat) : Keeps 1 (cw_is_share N) (F_is_shareN N) := by
  intro ds r h
  obtain ⟨a, b, rfl, ⟨h1, h2, h3, h4⟩, rfl⟩ := shareN_shape h
  show cw_is_share N _ [.val (.tup [.int a, .int b])]
  refine q_if (c := false) (by walk_at "pe"; rw [pIsi_tup]; walk_at "pe"; rfl) (fun e => by cases e) fun _ => s_nil ?_
  refine q_if (c := false) (by walk_at "pe"; rw [whole_int, whole_int]; walk_at "pe"; simp; omega) (fun e => by cases e) fun _ => s_nil ?_
  exact s_ret (r := .vis (.bl (decide (gcdI a b = 1)))) (by walk_at "pe"; rw [gcdN_at h2 h3 h4]; walk_at "pe") rfl rfl rfl
def cw_exactly (N : Nat) : WS := (wRet (eAnd (eCall (F_is_shareN N) (aCons (eVar 0) aNil)) (e2 pEq (e2 pMul (e2 pIx (eVar 0) (eC (.int 0))) (eVar 2)) (e2 pMul (eVar 1) (e2 pIx (eVar 0) (eC (.int 1)))))))
/-- told exactly: the answer is yes -/
structure Exact (N : Nat) (a b t w : Int) : Prop where
  b0 : 0 < b
  sz : a.natAbs * b.natAbs < 2 ^ (N - 2)
  n2 : 2 ≤ N
  n3 : N < 1000000
  ba : a.natAbs < BIG
  bb : b.natAbs < BIG
  bt : t.natAbs < BIG
  bw : w.natAbs < BIG
  eq : a * w = t * b
  g1 : gcdI a b = 1
open Classical in
noncomputable def F_exactlyN (N : Nat) : FN := fun ds => match ds with
  | [.tup [.int a, .int b], .int t, .int w] => if Exact N a b t w then some (.bl true) else none
  | _ => none
theorem exactN_shape {N : Nat} {ds : List Dt} {r : Dt} (h : F_exactlyN N ds = some r) : ∃ a b t w, ds = [.tup [.int a, .int b], .int t, .int w] ∧ Exact N a b t w ∧ r = .bl true := by
  unfold F_exactlyN at h
  split at h
  · split at h
    · rename_i hk
      exact ⟨_, _, _, _, rfl, hk, (Option.some.inj h).symm⟩
    · cases h
  · cases h
theorem len_exactlyN {N : Nat} : ∀ (ds : List Dt) (r : Dt), F_exactlyN N ds = some r → ds.length = 3 := by
  intro ds r h
  obtain ⟨a, b, t, w, rfl, _⟩ := exactN_shape h
  rfl
theorem kk_exactlyN (N : Nat) : Keeps 3 (cw_exactly N) (F_exactlyN N) := by
  intro ds r h
  obtain ⟨a, b, t, w, rfl, ok, rfl⟩ := exactN_shape h
  show cw_exactly N _ [.val (.tup [.int a, .int b]), .val (.int t), .val (.int w)]
  have h1 : F_is_shareN N [.tup [.int a, .int b]] = some (.bl true) := by
    show (if _ then _ else _) = _
    rw [if_pos ⟨ok.b0, ok.sz, ok.n2, ok.n3⟩, decide_eq_true ok.g1]
  refine s_ret (r := .vis (.bl true)) ?_ rfl rfl rfl
  walk_at "pe"
  rw [h1]
  walk_at "pe"
  rw [pMul_int ok.ba ok.bw, pMul_int ok.bt ok.bb]
  walk_at "pe"
  rw [decide_eq_true ok.eq]
/-! shares in lowest terms -/
def lowD (t b : Int) : Dt := .tup [.int (lowT t b), .int (lowB t b)]
theorem low_cross {a b : Int} (hb : 0 < b) : lowT a b * b = a * lowB a b := by
  have h1 := gcd_top a b
  have h2 := gcd_bot a b
  have hg := gcd_pos (a := a) hb
  refine Int.eq_of_mul_eq_mul_left (Int.ne_of_gt hg) ?_
  calc gcdI a b * (lowT a b * b) = (gcdI a b * lowT a b) * b := by ac_rfl
    _ = a * b := by rw [h1]
    _ = a * (gcdI a b * lowB a b) := by rw [h2]
    _ = gcdI a b * (a * lowB a b) := by ac_rfl
theorem low1 {a b : Int} (hb : 0 < b) : gcdI (lowT a b) (lowB a b) = 1 := by
  have hg := gcd_pos (a := a) hb
  have h1 := congrArg Int.natAbs (gcd_top a b)
  have h2 := congrArg Int.natAbs (gcd_bot a b)
  rw [Int.natAbs_mul] at h1 h2
  have e : (gcdI a b).natAbs = Nat.gcd a.natAbs b.natAbs := Int.natAbs_natCast _
  rw [e] at h1 h2
  have hp : 0 < Nat.gcd a.natAbs b.natAbs := Nat.gcd_pos_of_pos_right _ (by omega)
  have h : Nat.gcd a.natAbs b.natAbs * Nat.gcd (lowT a b).natAbs (lowB a b).natAbs = Nat.gcd a.natAbs b.natAbs * 1 := by
    rw [← Nat.gcd_mul_left, h1, h2, Nat.mul_one]
  unfold gcdI
  rw [Nat.eq_of_mul_eq_mul_left hp h]
  rfl
/-- the lowest terms are one -/
theorem low_uniq {a b c d : Int} (hb : 0 < b) (hd : 0 < d) (g1 : gcdI a b = 1) (g2 : gcdI c d = 1) (h : a * d = c * b) : a = c ∧ b = d := by
  have n1 : Nat.gcd a.natAbs b.natAbs = 1 := by unfold gcdI at g1; omega
  have n2 : Nat.gcd c.natAbs d.natAbs = 1 := by unfold gcdI at g2; omega
  have hn := congrArg Int.natAbs h
  rw [Int.natAbs_mul, Int.natAbs_mul] at hn
  have d1 : b.natAbs ∣ d.natAbs := by
    have : b.natAbs ∣ a.natAbs * d.natAbs := by rw [hn]; exact Nat.dvd_mul_left _ _
    exact Nat.Coprime.dvd_of_dvd_mul_left (Nat.Coprime.symm n1) this
  have d2 : d.natAbs ∣ b.natAbs := by
    have : d.natAbs ∣ c.natAbs * b.natAbs := by rw [← hn]; exact Nat.dvd_mul_left _ _
    exact Nat.Coprime.dvd_of_dvd_mul_left (Nat.Coprime.symm n2) this
  have e : b.natAbs = d.natAbs := Nat.dvd_antisymm d1 d2
  have e2 : b = d := by omega
  subst e2
  exact ⟨Int.eq_of_mul_eq_mul_right (by omega) h, rfl⟩
theorem low_same {a b c d : Int} (hb : 0 < b) (hd : 0 < d) (h : a * d = c * b) : lowT a b = lowT c d ∧ lowB a b = lowB c d := by
  refine low_uniq (low_pos hb) (low_pos hd) (low1 hb) (low1 hd) ?_
  have h1 := low_cross (a := a) hb
  have h2 := low_cross (a := c) hd
  have p1 := low_pos (a := a) hb
  have hbd : b * d ≠ 0 := Int.ne_of_gt (Int.mul_pos hb hd)
  refine Int.eq_of_mul_eq_mul_left hbd ?_
  calc b * d * (lowT a b * lowB c d) = (lowT a b * b) * (lowB c d * d) := by ac_rfl
    _ = (a * lowB a b) * (lowB c d * d) := by rw [h1]
    _ = (a * d) * (lowB a b * lowB c d) := by ac_rfl
    _ = (c * b) * (lowB a b * lowB c d) := by rw [h]
    _ = (c * lowB c d) * (lowB a b * b) := by ac_rfl
    _ = (lowT c d * d) * (lowB a b * b) := by rw [h2]
    _ = b * d * (lowT c d * lowB a b) := by ac_rfl
theorem lowD_same {a b c d : Int} (hb : 0 < b) (hd : 0 < d) (h : a * d = c * b) : lowD a b = lowD c d := by
  obtain ⟨h1, h2⟩ := low_same hb hd h
  unfold lowD
  rw [h1, h2]
/-- a list or tuple of top and bottom, not too great -/
structure ShOk (k : Nat) (a b : Int) : Prop where
  b0 : 0 < b
  sb : b.natAbs < 2 ^ k
  sa : a.natAbs < 2 ^ k
theorem ShOk.mono {k m : Nat} {a b : Int} (h : ShOk k a b) (hm : k ≤ m) : ShOk m a b := ⟨h.b0, Nat.lt_of_lt_of_le h.sb (Nat.pow_le_pow_right (by decide) hm), Nat.lt_of_lt_of_le h.sa (Nat.pow_le_pow_right (by decide) hm)⟩
theorem ShOk.low {k : Nat} {a b : Int} (h : ShOk k a b) : ShOk k (lowT a b) (lowB a b) := by
  obtain ⟨h1, h2⟩ := low_abs (a := a) h.b0
  exact ⟨low_pos h.b0, Nat.lt_of_le_of_lt h2 h.sb, Nat.lt_of_le_of_lt h1 h.sa⟩
theorem ShOk.mul {k m : Nat} {a b c d : Int} (h : ShOk k a b) (h2 : ShOk m c d) : ShOk (k + m) (a * c) (b * d) := by
  refine ⟨Int.mul_pos h.b0 h2.b0, ?_, ?_⟩
  · rw [Int.natAbs_mul, Nat.pow_add]; exact Nat.mul_lt_mul'' h.sb h2.sb
  · rw [Int.natAbs_mul, Nat.pow_add]; exact Nat.mul_lt_mul'' h.sa h2.sa
def topD (d : Dt) : Int := d.toIs.getD 0 0
def botD (d : Dt) : Int := d.toIs.getD 1 0
theorem topD_iseq (s : Bool) (a b : Int) : topD (iseq s [a, b]) = a := by unfold topD; rw [toIs_iseq]; rfl
theorem botD_iseq (s : Bool) (a b : Int) : botD (iseq s [a, b]) = b := by unfold botD; rw [toIs_iseq]; rfl
def IsSh (d : Dt) : Prop := ∃ s a b, d = iseq s [a, b] ∧ ShOk 3900 a b
theorem isSh_low {a b : Int} (h : ShOk 3900 a b) : IsSh (lowD a b) := ⟨true, lowT a b, lowB a b, rfl, h.low⟩
open Classical in
noncomputable def F_plus : FN := fun ds => match ds with
  | [x, y] => if IsSh x ∧ IsSh y then some (lowD (topD x * botD y + topD y * botD x) (botD x * botD y)) else none
  | _ => none
open Classical in
noncomputable def F_times : FN := fun ds => match ds with
  | [x, y] => if IsSh x ∧ IsSh y then some (lowD (topD x * topD y) (botD x * botD y)) else none
  | _ => none
open Classical in
noncomputable def F_compare : FN := fun ds => match ds with
  | [x, y] => if IsSh x ∧ IsSh y then some (.int ((if topD y * botD x < topD x * botD y then 1 else 0) - (if topD x * botD y < topD y * botD x then 1 else 0))) else none
  | _ => none
def cw_plus : WS := (wRet (eCall F_lowest (aCons (e2 pAdd (e2 pMul (e2 pIx (eVar 0) (eC (.int 0))) (e2 pIx (eVar 1) (eC (.int 1)))) (e2 pMul (e2 pIx (eVar 1) (eC (.int 0))) (e2 pIx (eVar 0) (eC (.int 1))))) (aCons (e2 pMul (e2 pIx (eVar 0) (eC (.int 1))) (e2 pIx (eVar 1) (eC (.int 1)))) aNil))))
def cw_times : WS := (wRet (eCall F_lowest (aCons (e2 pMul (e2 pIx (eVar 0) (eC (.int 0))) (e2 pIx (eVar 1) (eC (.int 0)))) (aCons (e2 pMul (e2 pIx (eVar 0) (eC (.int 1))) (e2 pIx (eVar 1) (eC (.int 1)))) aNil))))
def cw_compare : WS := (wSeq (wAsg 2 (e2 pMul (e2 pIx (eVar 0) (eC (.int 0))) (e2 pIx (eVar 1) (eC (.int 1)))))
  (wSeq (wAsg 3 (e2 pMul (e2 pIx (eVar 1) (eC (.int 0))) (e2 pIx (eVar 0) (eC (.int 1)))))
  (wRet (e2 pSub (e1 pInt (e2 pGt (eVar 2) (eVar 3))) (e1 pInt (e2 pLt (eVar 2) (eVar 3)))))))
theorem len2_of {F : FN} (h : ∀ ds r, F ds = some r → ∃ x y, ds = [x, y]) : ∀ (ds : List Dt) (r : Dt), F ds = some r → ds.length = 2 := fun ds r e => by
  obtain ⟨x, y, rfl⟩ := h ds r e
  rfl
theorem lenk_plus : ∀ (ds : List Dt) (r : Dt), F_plus ds = some r → ds.length = 2 := by
  intro ds r h
  match ds, h with
  | [_, _], _ => rfl
theorem lenk_times : ∀ (ds : List Dt) (r : Dt), F_times ds = some r → ds.length = 2 := by
  intro ds r h
  match ds, h with
  | [_, _], _ => rfl
theorem lenk_compare : ∀ (ds : List Dt) (r : Dt), F_compare ds = some r → ds.length = 2 := by
  intro ds r h
  match ds, h with
  | [_, _], _ => rfl
theorem ix2_0 (s : Bool) (a b : Int) : pIx (iseq s [a, b]) (.int 0) = some (.vis (.int a)) := by cases s <;> rfl
theorem ix2_1 (s : Bool) (a b : Int) : pIx (iseq s [a, b]) (.int 1) = some (.vis (.int b)) := by cases s <;> rfl
theorem big39 {x : Int} (h : x.natAbs < 2 ^ 3900) : x.natAbs < BIG := big_of h (by decide)
theorem kk_plus : Keeps 2 cw_plus F_plus := by
  intro ds r h
  match ds, h with
  | [x, y], h =>
    simp only [F_plus] at h
    split at h
    case isFalse => cases h
    rename_i hk
    cases h
    obtain ⟨⟨s, a, b, rfl, h1⟩, s', c, d, rfl, h2⟩ := hk
    rw [topD_iseq, topD_iseq, botD_iseq, botD_iseq]
    show cw_plus _ [.val (iseq s [a, b]), .val (iseq s' [c, d])]
    refine s_ret (r := .vis (lowD (a * d + c * b) (b * d))) ?_ rfl rfl rfl
    walk_at "pe"
    rw [ix2_0, ix2_1, ix2_0, ix2_1]
    walk_at "pe"
    rw [pMul_int (big39 h1.sa) (big39 h2.sb), pMul_int (big39 h2.sa) (big39 h1.sb), pMul_int (big39 h1.sb) (big39 h2.sb)]
    walk_at "pe"
    have h3 := h1.mul h2
    rw [low_at h3.b0 (Nat.lt_of_lt_of_le h3.sb (Nat.pow_le_pow_right (by decide) (by decide)))]
    rfl
theorem kk_times : Keeps 2 cw_times F_times := by
  intro ds r h
  match ds, h with
  | [x, y], h =>
    simp only [F_times] at h
    split at h
    case isFalse => cases h
    rename_i hk
    cases h
    obtain ⟨⟨s, a, b, rfl, h1⟩, s', c, d, rfl, h2⟩ := hk
    rw [topD_iseq, topD_iseq, botD_iseq, botD_iseq]
    show cw_times _ [.val (iseq s [a, b]), .val (iseq s' [c, d])]
    refine s_ret (r := .vis (lowD (a * c) (b * d))) ?_ rfl rfl rfl
    walk_at "pe"
    rw [ix2_0, ix2_1, ix2_0, ix2_1]
    walk_at "pe"
    rw [pMul_int (big39 h1.sa) (big39 h2.sa), pMul_int (big39 h1.sb) (big39 h2.sb)]
    walk_at "pe"
    have h3 := h1.mul h2
    rw [low_at h3.b0 (Nat.lt_of_lt_of_le h3.sb (Nat.pow_le_pow_right (by decide) (by decide)))]
    rfl
theorem kk_compare : Keeps 4 cw_compare F_compare := by
  intro ds r h
  match ds, h with
  | [x, y], h =>
    simp only [F_compare] at h
    split at h
    case isFalse => cases h
    rename_i hk
    cases h
    obtain ⟨⟨s, a, b, rfl, h1⟩, s', c, d, rfl, h2⟩ := hk
    rw [topD_iseq, topD_iseq, botD_iseq, botD_iseq]
    show cw_compare _ [.val (iseq s [a, b]), .val (iseq s' [c, d]), .non, .non]
    refine q_asg (r := .vis (.int (a * d))) (by walk_at "pe"; rw [ix2_0, ix2_1]; walk_at "pe"; rw [pMul_int (big39 h1.sa) (big39 h2.sb)]) rfl rfl ?_
    refine q_asg (r := .vis (.int (c * b))) (by walk_at "pe"; rw [ix2_0, ix2_1]; walk_at "pe"; rw [pMul_int (big39 h2.sa) (big39 h1.sb)]) rfl rfl ?_
    generalize a * d = u
    generalize c * b = v
    refine s_ret (r := .vis (.int ((if v < u then 1 else 0) - (if u < v then 1 else 0)))) ?_ rfl rfl rfl
    walk_at "pe"
theorem plus_at {s s' : Bool} {a b c d : Int} (h1 : ShOk 3900 a b) (h2 : ShOk 3900 c d) : F_plus [iseq s [a, b], iseq s' [c, d]] = some (lowD (a * d + c * b) (b * d)) := by
  simp only [F_plus]
  rw [if_pos ⟨⟨s, a, b, rfl, h1⟩, s', c, d, rfl, h2⟩, topD_iseq, topD_iseq, botD_iseq, botD_iseq]
theorem times_at {s s' : Bool} {a b c d : Int} (h1 : ShOk 3900 a b) (h2 : ShOk 3900 c d) : F_times [iseq s [a, b], iseq s' [c, d]] = some (lowD (a * c) (b * d)) := by
  simp only [F_times]
  rw [if_pos ⟨⟨s, a, b, rfl, h1⟩, s', c, d, rfl, h2⟩, topD_iseq, topD_iseq, botD_iseq, botD_iseq]
theorem compare_at {s s' : Bool} {a b c d : Int} (h1 : ShOk 3900 a b) (h2 : ShOk 3900 c d) : F_compare [iseq s [a, b], iseq s' [c, d]] = some (.int ((if c * b < a * d then 1 else 0) - (if a * d < c * b then 1 else 0))) := by
  simp only [F_compare]
  rw [if_pos ⟨⟨s, a, b, rfl, h1⟩, s', c, d, rfl, h2⟩, topD_iseq, topD_iseq, botD_iseq, botD_iseq]
/-! sums of shares -/
def shD (s : Bool) (L : List (Int × Int)) : List Dt := L.map fun e => iseq s [e.1, e.2]
def toL (d : Dt) : List (Int × Int) := d.items.map fun x => (topD x, botD x)
def seqD (c : Bool) (ds : List Dt) : Dt := bif c then .tup ds else .lst ds
theorem items_seqD (c : Bool) (ds : List Dt) : (seqD c ds).items = ds := by cases c <;> rfl
theorem toL_sh (c s : Bool) (L : List (Int × Int)) : toL (seqD c (shD s L)) = L := by
  unfold toL shD
  rw [items_seqD, List.map_map]
  have : ((fun x => (topD x, botD x)) ∘ fun e : Int × Int => iseq s [e.1, e.2]) = id := funext fun e => by
    show (topD (iseq s [e.1, e.2]), botD (iseq s [e.1, e.2])) = e
    rw [topD_iseq, botD_iseq]
  rw [this, List.map_id]

/-- L tells the numbers Ps over B -/
inductive Rep (B : Int) : List (Int × Int) → List Int → Prop
  | nil : Rep B [] []
  | cons {e : Int × Int} {P : Int} {L : List (Int × Int)} {Ps : List Int} : e.1 * B = P * e.2 → Rep B L Ps → Rep B (e :: L) (P :: Ps)
structure OkRep (L : List (Int × Int)) (B : Int) (Ps : List Int) : Prop where
  rep : Rep B L Ps
  b0 : 0 < B
  sb : B.natAbs < 2 ^ 1900
  sh : ∀ e ∈ L, ShOk 1900 e.1 e.2
  sp : (Ps.map Int.natAbs).sum < 2 ^ 1900
def plusP (r e : Int × Int) : Int × Int := (lowT (r.1 * e.2 + e.1 * r.2) (r.2 * e.2), lowB (r.1 * e.2 + e.1 * r.2) (r.2 * e.2))
def sumL (L : List (Int × Int)) : Int × Int := L.foldl plusP (0, 1)
theorem natAbs_sumP : ∀ l : List Int, l.sum.natAbs ≤ (l.map Int.natAbs).sum
  | [] => Nat.le_refl _
  | x :: l => by
    rw [List.sum_cons, List.map_cons, List.sum_cons]
    have h1 := natAbs_sumP l
    have h2 := Int.natAbs_add_le x l.sum
    omega
theorem Rep.len {B : Int} : ∀ {L : List (Int × Int)} {Ps : List Int}, Rep B L Ps → L.length = Ps.length
  | _, _, .nil => rfl
  | _, _, .cons _ h => by rw [List.length_cons, List.length_cons, h.len]
theorem Rep.get {B : Int} : ∀ {L : List (Int × Int)} {Ps : List Int} {i : Nat} {e : Int × Int} {P : Int}, Rep B L Ps → L[i]? = some e → Ps[i]? = some P → e.1 * B = P * e.2
  | _, _, _, _, _, .nil, h, _ => by simp at h
  | _, _, 0, _, _, .cons h _, h1, h2 => by cases h1; cases h2; exact h
  | _, _, i + 1, _, _, .cons _ h, h1, h2 => h.get (i := i) (by simpa using h1) (by simpa using h2)
theorem Rep.of {B : Int} : ∀ {L : List (Int × Int)} {Ps : List Int}, L.length = Ps.length → (∀ (i : Nat) (e : Int × Int) (P : Int), L[i]? = some e → Ps[i]? = some P → e.1 * B = P * e.2) → Rep B L Ps
  | [], [], _, _ => .nil
  | e :: L, P :: Ps, hl, h => .cons (h 0 e P rfl rfl) (Rep.of (by simpa using hl) fun i e' P' h1 h2 => h (i + 1) e' P' (by simpa using h1) (by simpa using h2))
  | [], _ :: _, hl, _ => by cases hl
  | _ :: _, [], hl, _ => by cases hl
theorem low01 {B : Int} (hB : 0 < B) : lowT 0 B = 0 ∧ lowB 0 B = 1 := by
  obtain ⟨h1, h2⟩ := low_same (a := 0) (b := B) (c := 0) (d := 1) hB (by decide) (by simp)
  rw [h1, h2]
  exact ⟨by decide, by decide⟩
theorem plusP_low {S B : Int} {e : Int × Int} {P : Int} (hB : 0 < B) (he : 0 < e.2) (h : e.1 * B = P * e.2) : plusP (lowT S B, lowB S B) e = (lowT (S + P) B, lowB (S + P) B) := by
  have c := low_cross (a := S) hB
  have p := low_pos (a := S) hB
  obtain ⟨h1, h2⟩ := low_same (a := lowT S B * e.2 + e.1 * lowB S B) (b := lowB S B * e.2) (c := S + P) (d := B) (Int.mul_pos p he) hB (by
    calc (lowT S B * e.2 + e.1 * lowB S B) * B = (lowT S B * B) * e.2 + (e.1 * B) * lowB S B := by rw [Int.add_mul]; congr 1 <;> ac_rfl
      _ = (S * lowB S B) * e.2 + (P * e.2) * lowB S B := by rw [c, h]
      _ = (S + P) * (lowB S B * e.2) := by rw [Int.add_mul]; congr 1 <;> ac_rfl)
  unfold plusP
  rw [h1, h2]
theorem sumL_from {B : Int} (hB : 0 < B) : ∀ {L : List (Int × Int)} {Ps : List Int} (S : Int), Rep B L Ps → (∀ e ∈ L, 0 < e.2) → L.foldl plusP (lowT S B, lowB S B) = (lowT (S + Ps.sum) B, lowB (S + Ps.sum) B)
  | _, _, S, .nil, _ => by rw [List.sum_nil, Int.add_zero]; rfl
  | e :: L, P :: Ps, S, .cons h t, hp => by
    rw [List.foldl_cons, plusP_low hB (hp e List.mem_cons_self) h, sumL_from hB (S + P) t fun e' he' => hp e' (List.mem_cons_of_mem _ he'), List.sum_cons, Int.add_assoc]
theorem sumL_eq {L : List (Int × Int)} {B : Int} {Ps : List Int} (ok : OkRep L B Ps) : sumL L = (lowT Ps.sum B, lowB Ps.sum B) := by
  have h := sumL_from ok.b0 0 ok.rep fun e he => (ok.sh e he).b0
  obtain ⟨h1, h2⟩ := low01 ok.b0
  rw [h1, h2, Int.zero_add] at h
  exact h
def pD (e : Int × Int) : Dt := .tup [.int e.1, .int e.2]
open Classical in
noncomputable def F_sum_of : FN := fun ds => match ds with
  | [x] => if (∃ s, x = .lst (shD s (toL x))) ∧ ∃ B Ps, OkRep (toL x) B Ps then some (pD (sumL (toL x))) else none
  | _ => none
def cw_sum_of : WS := (wSeq (wAsg 1 (eTup (aCons (eC (.int 0)) (aCons (eC (.int 1)) aNil))))
  (wSeq (wFor (iSeq (eVar 0)) (gN 2)
  (wAsg 1 (eCall F_plus (aCons (eVar 1) (aCons (eVar 2) aNil)))))
  (wRet (eVar 1))))
theorem lenk_sum_of : ∀ (ds : List Dt) (r : Dt), F_sum_of ds = some r → ds.length = 1 := by
  intro ds r h
  match ds, h with
  | [_], _ => rfl
theorem OkRep.take {L : List (Int × Int)} {B : Int} {Ps : List Int} (ok : OkRep L B Ps) (i : Nat) : OkRep (L.take i) B (Ps.take i) := by
  refine ⟨?_, ok.b0, ok.sb, fun e he => ok.sh e (List.mem_of_mem_take he), ?_⟩
  · refine Rep.of (by rw [List.length_take, List.length_take, ok.rep.len]) fun j e P h1 h2 => ?_
    rw [List.getElem?_take] at h1 h2
    split at h1
    · rename_i hj
      rw [if_pos hj] at h2
      exact ok.rep.get h1 h2
    · cases h1
  · refine Nat.lt_of_le_of_lt ?_ ok.sp
    have e : (Ps.map Int.natAbs).sum = ((Ps.take i).map Int.natAbs).sum + ((Ps.drop i).map Int.natAbs).sum := by
      rw [← List.sum_append, ← List.map_append, List.take_append_drop]
    omega
theorem OkRep.shOk {L : List (Int × Int)} {B : Int} {Ps : List Int} (ok : OkRep L B Ps) : ShOk 1900 Ps.sum B := ⟨ok.b0, ok.sb, Nat.lt_of_le_of_lt (natAbs_sumP Ps) ok.sp⟩
theorem kk_sum_of : Keeps 3 cw_sum_of F_sum_of := by
  intro ds r h
  match ds, h with
  | [x], h =>
    simp only [F_sum_of] at h
    split at h
    case isFalse => cases h
    rename_i hk
    cases h
    obtain ⟨⟨s, hx⟩, B, Ps, ok⟩ := hk
    generalize hL : toL x = L at *
    subst hx
    show cw_sum_of _ [.val (.lst (shD s L)), .non, .non]
    refine q_asg (r := .vis (pD (0, 1))) (by walk_at "pe"; rfl) rfl rfl ?_
    refine q_forMap (u := fun e => iseq s [e.1, e.2]) (xs := L) (fun i e => ∃ z, e = [.val (.lst (shD s L)), .val (pD (sumL (L.take i))), z]) (by walk_at "pe"; rfl) ⟨_, rfl⟩ ?_ ?_
    · rintro i env e he ⟨z, rfl⟩
      refine ⟨_, by walk_at "pe"; rfl, ?_⟩
      have ok1 := (ok.take i)
      have es := sumL_eq ok1
      have hsum : sumL (L.take (i + 1)) = plusP (sumL (L.take i)) e := foldl_take he
      refine s_asg (r := .vis (pD (sumL (L.take (i + 1))))) ?_ rfl rfl ⟨_, rfl⟩
      have hp := plus_at (s := true) (s' := s) (a := (sumL (L.take i)).1) (b := (sumL (L.take i)).2) (c := e.1) (d := e.2) (by rw [es]; exact (ok1.shOk.mono (by decide)).low) ((ok.sh e (List.mem_of_getElem? he)).mono (by decide))
      walk_at "pe"
      rw [show F_plus [pD (sumL (L.take i)), iseq s [e.1, e.2]] = _ from hp]
      walk_at "pe"
      rw [hsum]
      rfl
    · rintro env ⟨z, rfl⟩
      rw [List.take_length]
      exact s_ret (r := .vis (pD (sumL L))) (by walk_at "pe") rfl rfl rfl
theorem sum_of_at {s : Bool} {L : List (Int × Int)} {B : Int} {Ps : List Int} (ok : OkRep L B Ps) : F_sum_of [.lst (shD s L)] = some (lowD Ps.sum B) := by
  have e : toL (.lst (shD s L)) = L := toL_sh false s L
  simp only [F_sum_of]
  rw [e, if_pos ⟨⟨s, rfl⟩, B, Ps, ok⟩, sumL_eq ok]
  rfl
end Pyl
end
section
set_option Elab.async false
set_option linter.all false
set_option maxHeartbeats 1000000
namespace Pyl
open PySem
/-! ### values of comprehensions, places in lists: for every law -/
local macro_rules | `(tactic| walk_at "pe") => `(tactic| simp (config := { implicitDefEqProofs := false }) only [eVar_at, eC_at, e1_at, e2_at, aNil_at, aCons_at, eTup_at, eLst_at, plain_nil, plain_cons, eCall_at, eIf_at, aApp_at, aDfl_at, List.cons_append, List.nil_append, eAnd_at, eOr_at, eNot_at, tVal_at, tAnd_at, tOr_at, tNot_at, tYes_at,
  pAdd_int, pSub_int, pNeg_int, pLt_int, pLe_int, pGt_int, pGe_int, pEq_int, pNe_int, pIsN_at, pNotN_at, pIx_lst, pIx_tup, pGcd_int, atL0, atL1, atL2, atL3, atL4, atL5, atL6, atL7, atL8, oNone_at, oSome_at, eSlice_at, pLen_lst, pLen_tup, pInt_int, pInt_bl, pAbs_int, pSum_ints, pMax2_int, pMin2_int, pList_lst, pList_tup, pTuple_lst, pTuple_tup, iSeq_at, gN_at, gT_at, gsN_cons, gsN_nil, wipeS_cons, wipeS_nil,
  dt_vis, dt_bor, dt_fre, sh_vis, sh_bor, sh_fre, slot_vis, slot_fre, od_dt, isNon_non, isNon_int, isNon_lst, isNon_tup, scalar_int, scalar_bl, scalar_non, Option.bind_some, Option.bind_none, Option.map_some, Option.map_none, List.getElem?_cons_zero, List.getElem?_cons_succ, List.set_cons_zero, List.set_cons_succ, List.map_cons, List.map_nil, List.any_cons, List.any_nil, Bool.or_false, Bool.false_or, Bool.false_and, Bool.and_true, Bool.true_and, Bool.not_true, Bool.not_false,
  Option.some.injEq, exists_eq_left', exists_eq_left, true_and, and_true, if_true, if_false, Bool.false_eq_true, ite_true, ite_false, reduceIte, decide_eq_true_eq, decide_eq_false_iff_not, R.vis.injEq, R.fre.injEq, Dt.lst.injEq, Dt.tup.injEq, Dt.int.injEq, Slot.own.injEq, OD.lst.injEq, reduceCtorEq, false_and, exists_false, exists_const, Bool.true_eq_false, false_implies, true_implies, implies_true, forall_const])

theorem comp_rng {env : Sl} {k n : Nat} {fa fe : EF} {f : Nat → Int} (h : fa env = some (.vis (.int (n : Int)))) (hn : n ≤ 4000000) (hf : ∀ j : Nat, j < n → fe ((wipeS env [k]).set k (.val (.int (j : Int)))) = some (.vis (.int (f j)))) :
    eComp [k] (iRange1 fa) (gN k) tYes fe env = some (.fre (.lst (((List.range n).map f).map .int))) := by
  refine eComp_of (ds := rngD 0 n) (s := false) (by rw [rng1 (n := (n : Int)) h (by omega), Int.toNat_natCast]) (by rw [rngD_len]; exact lim_of hn) ?_
  have e : rngD 0 n = (List.range n).map fun j : Nat => Dt.int ((j : Int)) := by
    unfold rngD
    refine List.map_congr_left fun j _ => ?_
    rw [Int.zero_add]
  rw [e]
  refine compL_map (u := fun j : Nat => Dt.int (j : Int)) (f := f) (v := Dt.int) fun j hj => ?_
  rw [compG_at, gN_at]
  show ((fe ((wipeS env [k]).set k (.val (.int (j : Int))))).bind _) = _
  rw [hf j (List.mem_range.mp hj)]
  rfl
theorem comp_consts {env : Sl} {k n : Nat} {fa : EF} {x : Int} (h : fa env = some (.vis (.int (n : Int)))) (hn : n ≤ 4000000) : eComp [k] (iRange1 fa) (gN k) tYes (eC (.int x)) env = some (.fre (.lst ((List.replicate n x).map .int))) := by
  rw [comp_rng (f := fun _ => x) h hn fun j hj => rfl]
  have : (List.range n).map (fun _ => x) = List.replicate n x := by
    rw [List.map_const', List.length_range]
  rw [this]
theorem comp_lists {env : Sl} {i : Nat} {b : Bool} {m : List (List Int)} (hi : i < env.length) : compL (compG env [i] (gN i) tYes (e1 pList (eVar i))) (m.map (iseq b)) = some (m.map ilst) := by
  refine (compL_map (f := fun r : List Int => r) (v := ilst) fun r _ => ?_).trans (by rw [List.map_id'])
  have e : (((wipeS env [i]).set i (.val (iseq b r)))[i]?) = some (.val (iseq b r)) := List.getElem?_set_self (by rw [wipeS_cons, wipeS_nil, List.length_set]; exact hi)
  show ((e1 pList (eVar i) ((wipeS env [i]).set i (.val (iseq b r)))).bind fun r => if r.sh then none else some [r.dt]) = _
  rw [e1_at, eVar_at, e]
  cases b <;> rfl
theorem comp_tups {env : Sl} {i : Nat} {b : Bool} {m : List (List Int)} (hi : i < env.length) : compL (compG env [i] (gN i) tYes (e1 pTuple (eVar i))) (m.map (iseq b)) = some (m.map itup) := by
  refine compL_map (f := fun r : List Int => r) (v := itup) (fun r _ => ?_) |>.trans (by rw [List.map_id'])
  have e : (((wipeS env [i]).set i (.val (iseq b r)))[i]?) = some (.val (iseq b r)) := List.getElem?_set_self (by rw [wipeS_cons, wipeS_nil, List.length_set]; exact hi)
  show ((e1 pTuple (eVar i) ((wipeS env [i]).set i (.val (iseq b r)))).bind fun r => if r.sh then none else some [r.dt]) = _
  rw [e1_at, eVar_at, e]
  cases b <;> rfl
/-- lists of them, tuples of them -/
theorem asLists {env : Sl} {i k : Nat} {b c : Bool} {m : List (List Int)} (hi : i < env.length) (he : env[k]? = some (.val (seqD c (m.map (iseq b))))) (hm : m.length ≤ 4000000) : eComp [i] (iSeq (eVar k)) (gN i) tYes (e1 pList (eVar i)) env = some (.fre (.lst (m.map ilst))) := by
  refine eComp_of (ds := m.map (iseq b)) (s := false) ?_ (by rw [List.length_map]; exact lim_of hm) (comp_lists hi)
  rw [iSeq_at, eVar_at, he]
  cases c <;> rfl
theorem asTups {env : Sl} {i k : Nat} {b c : Bool} {m : List (List Int)} (hi : i < env.length) (he : env[k]? = some (.val (seqD c (m.map (iseq b))))) (hm : m.length ≤ 4000000) : eComp [i] (iSeq (eVar k)) (gN i) tYes (e1 pTuple (eVar i)) env = some (.fre (.lst (m.map itup))) := by
  refine eComp_of (ds := m.map (iseq b)) (s := false) ?_ (by rw [List.length_map]; exact lim_of hm) (comp_tups hi)
  rw [iSeq_at, eVar_at, he]
  cases c <;> rfl
theorem getD_at {l : List Int} {j : Nat} (h : j < l.length) : atL (l.map Dt.int) (j : Int) = some (.int (l.getD j 0)) := by
  rw [atL_nat, List.getElem?_map, List.getElem?_eq_getElem h, List.getD_eq_getElem?_getD, List.getElem?_eq_getElem h]
  rfl
theorem getD_mem {l : List Int} {j : Nat} (h : j < l.length) : l.getD j 0 ∈ l := by
  rw [List.getD_eq_getElem?_getD, List.getElem?_eq_getElem h]
  exact List.getElem_mem h
theorem s_put {env env' : Sl} {D : En} {fa fb : EF} {i : Nat} {b : List Int} {v j : Int} (h0 : env[i]? = some (.own (.lst (b.map .int)))) (h : fa env = some (.vis (.int v))) (hk : fb env = some (.vis (.int j))) (j0 : 0 ≤ j) (j1 : j < b.length)
    (he : env.set i (.own (.lst ((b.set j.toNat v).map .int))) = env') (k : D.nx env') : wPut i fb fa D env := by
  refine ⟨b.map .int, .vis (.int v), j, h0, h, rfl, hk, by rw [List.length_map]; omega, by rw [List.length_map]; exact j1, ?_⟩
  rw [if_pos j0]
  have e : (b.map Dt.int).set j.toNat (R.vis (.int v)).dt = (b.set j.toNat v).map .int := by
    rw [List.map_set]
    rfl
  rw [e, he]
  exact k
theorem nrm_nat (n i : Nat) : nrm n (i : Int) = i := by unfold nrm; rw [if_pos (Int.natCast_nonneg i), Int.toNat_natCast]
/-- the data of a list of lists that is only looked at -/
theorem getD_get {l : List Int} {i : Nat} (h : i < l.length) : l[i]? = some (l.getD i 0) := by
  rw [List.getD_eq_getElem?_getD, List.getElem?_eq_getElem h]
  rfl

/-- over typed items, each gives one -/
theorem comp_of {α β : Type} {env : Sl} {own : List Nat} {fi : IF} {g : GF} {fe : EF} {s : Bool} {xs : List α} {u : α → Dt} {f : α → β} {v : β → Dt} (h : fi env = some (xs.map u, s)) (hl : xs.length ≤ 4000000)
    (hx : ∀ x ∈ xs, ∃ env', g (u x) (wipeS env own) = some env' ∧ ∃ r, fe env' = some r ∧ r.sh = false ∧ r.dt = v (f x)) : eComp own fi g tYes fe env = some (.fre (.lst ((xs.map f).map v))) := by
  refine eComp_of h (by rw [List.length_map]; exact lim_of hl) (compL_map fun x hm => ?_)
  obtain ⟨env', h1, r, h2, h3, h4⟩ := hx x hm
  rw [compG_at, h1]
  show ((fe env').bind _) = _
  rw [h2]
  show (if r.sh then none else some [r.dt]) = _
  rw [h3, h4]
  rfl
theorem comp_filt {α β : Type} {env : Sl} {own : List Nat} {fi : IF} {g : GF} {ft : TF} {fe : EF} {s : Bool} {xs : List α} {u : α → Dt} {p : α → Bool} {f : α → β} {v : β → Dt} (h : fi env = some (xs.map u, s)) (hl : xs.length ≤ 4000000)
    (hx : ∀ x ∈ xs, ∃ env', g (u x) (wipeS env own) = some env' ∧ ft env' = some (p x) ∧ (p x = true → ∃ r, fe env' = some r ∧ r.sh = false ∧ r.dt = v (f x))) : eComp own fi g ft fe env = some (.fre (.lst (((xs.filter p).map f).map v))) := by
  refine eComp_of h (by rw [List.length_map]; exact lim_of hl) (compL_filter fun x hm => ?_)
  obtain ⟨env', h1, h2, h3⟩ := hx x hm
  rw [compG_at, h1]
  show ((ft env').bind _) = _
  rw [h2]
  show (if p x then _ else _) = _
  cases hp : p x with
  | false => rfl
  | true =>
    obtain ⟨r, h4, h5, h6⟩ := h3 hp
    rw [if_pos rfl, if_pos rfl, h4]
    show (if r.sh then none else some [r.dt]) = _
    rw [h5, h6]
    rfl
theorem rng_map (n : Nat) : rngD 0 n = (List.range n).map fun j : Nat => Dt.int (j : Int) := by
  unfold rngD
  exact List.map_congr_left fun j _ => by rw [Int.zero_add]
theorem rngN {env : Sl} {fa : EF} {n : Nat} (h : fa env = some (.vis (.int (n : Int)))) (hn : n ≤ 4000000) : iRange1 fa env = some ((List.range n).map fun j : Nat => Dt.int (j : Int), false) := by
  rw [rng1 (n := (n : Int)) h (by omega), Int.toNat_natCast, rng_map]
theorem seq_ints {env : Sl} {fa : EF} {b : Bool} {ns : List Int} (h : fa env = some (.vis (iseq b ns))) : iSeq fa env = some (ns.map Dt.int, false) := by
  rw [iSeq_at, h]
  cases b <;> rfl
theorem seq_mat {env : Sl} {fa : EF} {b : Bool} {m : List (List Int)} (h : fa env = some (.vis (imatS b m))) : iSeq fa env = some (m.map (iseq b), false) := by
  rw [iSeq_at, h]
  cases b <;> rfl
theorem zip_of {α β : Type} {env : Sl} {fa fb : EF} {da db : Dt} {u : α → Dt} {v : β → Dt} {xs : List α} {ys : List β} (h1 : fa env = some (.vis da)) (h2 : fb env = some (.vis db)) (e1 : seqOf da = some (xs.map u)) (e2 : seqOf db = some (ys.map v)) :
    iZip fa fb env = some ((xs.zip ys).map fun z => Dt.tup [u z.1, v z.2], false) := by
  show (fa env).bind _ = _
  rw [h1]
  show (fb env).bind _ = _
  rw [h2]
  show ((seqOf da).bind fun xs => (seqOf db).bind fun ys => some (List.zipWith (fun x y => Dt.tup [x, y]) xs ys, false || false)) = _
  rw [e1, e2]
  show some (List.zipWith (fun x y => Dt.tup [x, y]) (xs.map u) (ys.map v), false) = _
  rw [zipWith_tup]
theorem len_imat (b : Bool) (m : List (List Int)) : pLen (imatS b m) = some (.vis (.int m.length)) := by
  cases b
  · show some (R.vis (.int ((m.map ilst).length : Int))) = _; rw [List.length_map]
  · show some (R.vis (.int ((m.map itup).length : Int))) = _; rw [List.length_map]
theorem ix_iseq {b : Bool} {ns : List Int} {i : Nat} {x : Int} (h : ns[i]? = some x) : pIx (iseq b ns) (.int (i : Int)) = some (.vis (.int x)) := pIx_iseq (Int.natCast_nonneg i) (by rw [Int.toNat_natCast]; exact h)
theorem ix_imat {b : Bool} {m : List (List Int)} {i : Nat} {x : List Int} (h : m[i]? = some x) : pIx (imatS b m) (.int (i : Int)) = some (.vis (iseq b x)) := pIx_imatS (Int.natCast_nonneg i) (by rw [Int.toNat_natCast]; exact h)
theorem ix_iseqD {b : Bool} {ns : List Int} {i : Nat} (h : i < ns.length) : pIx (iseq b ns) (.int (i : Int)) = some (.vis (.int (ns.getD i 0))) := ix_iseq (getD_get h)
theorem sum_iseq (ns : List Int) : pSum (ilst ns) = some (.vis (.int ns.sum)) := pSum_ints
end Pyl
end
section
set_option Elab.async false
set_option linter.all false
namespace Pyl
open PySem
local macro_rules | `(tactic| walk_at "dc") => `(tactic| repeat' first | exact dc_asg | exact dc_nil | exact dc_ret | exact dc_app | exact dc_put | exact dc_unp | exact dc_pop | exact dc_popD | exact dc_stores | exact dc_asgM | exact dc_putM | exact dc_putR | exact dc_brk | exact dc_cnt | exact dc_retN | exact dc_drop | exact dc_dead | exact dc_asgX | exact dc_retX | exact dc_dropX | exact dc_raise | refine dc_seq ?_ ?_ | refine dc_thenI ?_ ?_ | refine dc_if ?_ ?_ | refine dc_frz ?_ | refine dc_for ?_ | refine dc_while ?_)
/-! _law_digits(cell, sizes): 0 cell 1 sizes 2 row 3 rest 4 seed 5 k 6 size 7 twice -/
def w__law_digits : WS := (wSeq (wAsg 2 (eLst aNil))
  (wSeq (wAsg 3 (e1 pInt (eVar 0)))
  (wSeq (wIf (tVal (e2 pGe (eVar 3) (e2 pPow (eC (.int 10)) (eC (.int 18)))))
  (wSeq (wAsg 3 (e2 pSub (eVar 3) (e2 pPow (eC (.int 10)) (eC (.int 18)))))
  (wSeq (wFor (iSeq (eVar 1)) (gN 6)
  (wSeq (wApp 2 (e2 pMod (e1 pInt (eVar 3)) (eVar 6)))
  (wAsg 3 (e2 pDiv (e1 pInt (eVar 3)) (eVar 6)))))
  (wFrz 2 (wRet (eVar 2)))))
  wNil)
  (wSeq (wAsg 4 (e2 pMod (e1 pInt (eVar 3)) (eC (.int 2147483629))))
  (wSeq (wFor (iRange1 (e1 pLen (eVar 1))) (gN 5)
  (wSeq (wAsg 4 (e2 pMod (e1 pInt (e2 pAdd (e2 pAdd (e2 pMul (eVar 4) (eC (.int 48271))) (e2 pMul (eC (.int 974711)) (eVar 5))) (eC (.int 12345)))) (eC (.int 2147483647))))
  (wSeq (wAsg 7 (e2 pMod (e1 pInt (e2 pMul (eVar 4) (e2 pAdd (e2 pDiv (eVar 4) (eC (.int 65537))) (eC (.int 3))))) (eC (.int 2147483629))))
  (wApp 2 (e2 pMod (e2 pDiv (eVar 7) (eC (.int 19))) (e2 pIx (eVar 1) (eVar 5)))))))
  (wFrz 2 (wRet (eVar 2))))))))
theorem dc__law_digits : DC w__law_digits := by unfold w__law_digits; walk_at "dc"
noncomputable def F__law_digits : FN := getF 8 2 w__law_digits
theorem len__law_digits : ∀ ds r, F__law_digits ds = some r → ds.length = 2 := getF_len
theorem k__law_digits : Keeps 8 w__law_digits F__law_digits := getF_keeps
/-! _law_cell(script, k): 0 script 1 k 2 seed 3 cell -/
def w__law_cell : WS := (wSeq (wIf (tVal (e2 pLt (eVar 1) (e1 pLen (eVar 0))))
  (wRet (e2 pIx (eVar 0) (eVar 1)))
  wNil)
  (wSeq (wAsg 2 (eC (.int 17)))
  (wSeq (wFor (iSeq (eVar 0)) (gN 3)
  (wAsg 2 (e2 pMod (e1 pInt (e2 pAdd (e2 pMul (eVar 2) (eC (.int 31))) (e2 pMod (e1 pInt (eVar 3)) (eC (.int 1000003))))) (eC (.int 1000003)))))
  (wRet (e2 pMod (e1 pInt (e2 pMul (e2 pMul (e2 pAdd (eVar 2) (eC (.int 7))) (e2 pAdd (eVar 1) (eC (.int 3)))) (eC (.int 69621)))) (eC (.int 2147483647)))))))
theorem dc__law_cell : DC w__law_cell := by unfold w__law_cell; walk_at "dc"
noncomputable def F__law_cell : FN := getF 4 2 w__law_cell
theorem len__law_cell : ∀ ds r, F__law_cell ds = some r → ds.length = 2 := getF_len
theorem k__law_cell : Keeps 4 w__law_cell F__law_cell := getF_keeps
/-! _law_whole(value): 0 value -/
def w__law_whole : WS := (wRet (eAnd (e1 (pIsi "int") (eVar 0)) (eNot (e1 (pIsi "bool") (eVar 0)))))
theorem dc__law_whole : DC w__law_whole := by unfold w__law_whole; walk_at "dc"
noncomputable def F__law_whole : FN := getF 1 1 w__law_whole
theorem len__law_whole : ∀ ds r, F__law_whole ds = some r → ds.length = 1 := getF_len
theorem k__law_whole : Keeps 1 w__law_whole F__law_whole := getF_keeps
/-! _law_leaf(node, row): 0 node 1 row 2 here 3 k -/
def w__law_leaf : WS := (wSeq (wAsg 2 (eVar 0))
  (wSeq (wFor (iRange1 (eC (.int 20))) (gN 3)
  (wSeq (wIf (tVal (eCall F__law_whole (aCons (eVar 2) aNil)))
  wBrk
  wNil)
  (wAsg 2 (e2 pIx (eVar 2) (e2 pAdd (eC (.int 1)) (e2 pIx (eVar 1) (e2 pIx (eVar 2) (eC (.int 0)))))))))
  (wRet (eVar 2))))
theorem dc__law_leaf : DC w__law_leaf := by unfold w__law_leaf; walk_at "dc"
noncomputable def F__law_leaf : FN := getF 4 2 w__law_leaf
theorem len__law_leaf : ∀ ds r, F__law_leaf ds = some r → ds.length = 2 := getF_len
theorem k__law_leaf : Keeps 4 w__law_leaf F__law_leaf := getF_keeps
/-! _law_number(row): 0 row 1 number 2 sign -/
def w__law_number : WS := (wSeq (wAsg 1 (eC (.int 0)))
  (wSeq (wFor (iSeq (eVar 0)) (gN 2)
  (wAsg 1 (e2 pAdd (e2 pMul (eC (.int 2)) (eVar 1)) (eVar 2))))
  (wRet (eVar 1))))
theorem dc__law_number : DC w__law_number := by unfold w__law_number; walk_at "dc"
noncomputable def F__law_number : FN := getF 3 1 w__law_number
theorem len__law_number : ∀ ds r, F__law_number ds = some r → ds.length = 1 := getF_len
theorem k__law_number : Keeps 3 w__law_number F__law_number := getF_keeps
/-! _law_answer(spec, row): 0 spec 1 row 2 values 3 gate 4 standing 5 k 6 wire -/
def w__law_answer : WS := (wSeq (wIf (tVal (e2 pEq (e2 pIx (eVar 0) (eC (.int 0))) (eC (.str "table"))))
  (wRet (e2 pIx (e2 pIx (eVar 0) (eC (.int 2))) (eCall F__law_number (aCons (eVar 1) aNil))))
  wNil)
  (wSeq (wIf (tVal (e2 pEq (e2 pIx (eVar 0) (eC (.int 0))) (eC (.str "tree"))))
  (wRet (eCall F__law_leaf (aCons (e2 pIx (eVar 0) (eC (.int 2))) (aCons (eVar 1) aNil))))
  wNil)
  (wSeq (wIf (tVal (e2 pEq (e2 pIx (eVar 0) (eC (.int 0))) (eC (.str "reader"))))
  (wSeq (wAsg 4 (eC (.int 0)))
  (wSeq (wFor (iRange1 (e1 pLen (eVar 1))) (gN 5)
  (wAsg 4 (e2 pIx (e2 pIx (e2 pIx (e2 pIx (eVar 0) (eC (.int 2))) (eVar 5)) (eVar 4)) (e2 pIx (eVar 1) (eVar 5)))))
  (wRet (e2 pIx (e2 pIx (eVar 0) (eC (.int 3))) (eVar 4)))))
  wNil)
  (wSeq (wAsg 2 (e1 pList (eVar 1)))
  (wSeq (wFor (iSeq (e2 pIx (eVar 0) (eC (.int 2)))) (gN 3)
  (wApp 2 (e2 pIx (e2 pIx (eVar 3) (eC (.int 1))) (eCall F__law_number (aCons (eComp [6] (iSeq (e2 pIx (eVar 3) (eC (.int 0)))) (gN 6) tYes (e2 pIx (eVar 2) (eVar 6))) aNil)))))
  (wRet (e2 pIx (eVar 2) (e1 pNeg (eC (.int 1))))))))))
theorem dc__law_answer : DC w__law_answer := by unfold w__law_answer; walk_at "dc"
noncomputable def F__law_answer : FN := getF 7 2 w__law_answer
theorem len__law_answer : ∀ ds r, F__law_answer ds = some r → ds.length = 2 := getF_len
theorem k__law_answer : Keeps 7 w__law_answer F__law_answer := getF_keeps
/-! _law_bits(number, width): 0 number 1 width 2 k -/
def w__law_bits : WS := (wRet (e1 pTuple (eComp [2] (iRange1 (eVar 1)) (gN 2) tYes (e2 pMod (e1 pInt (e2 pShr (eVar 0) (e2 pSub (e2 pSub (eVar 1) (eC (.int 1))) (eVar 2)))) (eC (.int 2))))))
theorem dc__law_bits : DC w__law_bits := by unfold w__law_bits; walk_at "dc"
noncomputable def F__law_bits : FN := getF 3 2 w__law_bits
theorem len__law_bits : ∀ ds r, F__law_bits ds = some r → ds.length = 2 := getF_len
theorem k__law_bits : Keeps 3 w__law_bits F__law_bits := getF_keeps
/-! _law_truth(spec): 0 spec 1 number -/
def w__law_truth : WS := (wRet (eComp [1] (iRange1 (e2 pShl (eC (.int 1)) (e2 pIx (eVar 0) (eC (.int 1))))) (gN 1) tYes (eCall F__law_answer (aCons (eVar 0) (aCons (eCall F__law_bits (aCons (eVar 1) (aCons (e2 pIx (eVar 0) (eC (.int 1))) aNil))) aNil)))))
theorem dc__law_truth : DC w__law_truth := by unfold w__law_truth; walk_at "dc"
noncomputable def F__law_truth : FN := getF 2 1 w__law_truth
theorem len__law_truth : ∀ ds r, F__law_truth ds = some r → ds.length = 1 := getF_len
theorem k__law_truth : Keeps 2 w__law_truth F__law_truth := getF_keeps
/-! _law_pair_judge(kind, width, one, two): 0 kind 1 width 2 one 3 two 4 sums 5 layers 6 number 7 k -/
def w__law_pair_judge : WS := (wSeq (wAsg 4 (eComp [6] (iRange1 (e2 pShl (eC (.int 1)) (eVar 1))) (gN 6) tYes (e1 pInt (e2 pNe (e2 pIx (eCall F__law_bits (aCons (eVar 6) (aCons (eVar 1) aNil))) (eVar 2)) (e2 pIx (eCall F__law_bits (aCons (eVar 6) (aCons (eVar 1) aNil))) (eVar 3))))))
  (wFrz 4 (wSeq (wIf (tVal (e2 pEq (eVar 2) (eVar 3)))
  (wAsg 4 (eComp [6] (iRange1 (e2 pShl (eC (.int 1)) (eVar 1))) (gN 6) tYes (e2 pIx (eCall F__law_bits (aCons (eVar 6) (aCons (eVar 1) aNil))) (eVar 2))))
  wNil)
  (wSeq (wIf (tVal (e2 pEq (eVar 0) (eC (.str "table"))))
  (wFrz 4 (wRet (eLst (aCons (eC (.str "table")) (aCons (eVar 1) (aCons (eVar 4) aNil))))))
  wNil)
  (wSeq (wIf (tAnd (tVal (e2 pEq (eVar 0) (eC (.str "tree")))) (tVal (e2 pEq (eVar 2) (eVar 3))))
  (wRet (eLst (aCons (eC (.str "tree")) (aCons (eVar 1) (aCons (eLst (aCons (eVar 2) (aCons (eC (.int 0)) (aCons (eC (.int 1)) aNil)))) aNil)))))
  wNil)
  (wSeq (wIf (tVal (e2 pEq (eVar 0) (eC (.str "tree"))))
  (wRet (eLst (aCons (eC (.str "tree")) (aCons (eVar 1) (aCons (eLst (aCons (eVar 2) (aCons (eLst (aCons (eVar 3) (aCons (eC (.int 0)) (aCons (eC (.int 1)) aNil)))) (aCons (eLst (aCons (eVar 3) (aCons (eC (.int 1)) (aCons (eC (.int 0)) aNil)))) aNil)))) aNil)))))
  wNil)
  (wSeq (wIf (tAnd (tVal (e2 pEq (eVar 0) (eC (.str "circuit")))) (tVal (e2 pEq (eVar 2) (eVar 3))))
  (wRet (eLst (aCons (eC (.str "circuit")) (aCons (eVar 1) (aCons (eLst (aCons (eLst (aCons (eLst (aCons (eVar 2) aNil)) (aCons (eLst (aCons (eC (.int 0)) (aCons (eC (.int 1)) aNil))) aNil))) aNil)) aNil)))))
  wNil)
  (wSeq (wIf (tVal (e2 pEq (eVar 0) (eC (.str "circuit"))))
  (wRet (eLst (aCons (eC (.str "circuit")) (aCons (eVar 1) (aCons (eLst (aCons (eLst (aCons (eLst (aCons (eVar 2) (aCons (eVar 3) aNil))) (aCons (eLst (aCons (eC (.int 0)) (aCons (eC (.int 1)) (aCons (eC (.int 1)) (aCons (eC (.int 0)) aNil))))) aNil))) aNil)) aNil)))))
  wNil)
  (wSeq (wAsg 5 (eComp [7] (iRange1 (eVar 1)) (gN 7) tYes (eLst (aCons (eLst (aCons (eC (.int 0)) (aCons (eC (.int 0)) aNil))) (aCons (eLst (aCons (eC (.int 1)) (aCons (eC (.int 1)) aNil))) aNil)))))
  (wSeq (wPut 5 (eVar 2) (eLst (aCons (eLst (aCons (eC (.int 0)) (aCons (eC (.int 1)) aNil))) (aCons (eLst (aCons (eC (.int 1)) (aCons (eC (.int 0)) aNil))) aNil))))
  (wSeq (wPut 5 (eVar 3) (eLst (aCons (eLst (aCons (eC (.int 0)) (aCons (eC (.int 1)) aNil))) (aCons (eLst (aCons (eC (.int 1)) (aCons (eC (.int 0)) aNil))) aNil))))
  (wFrz 5 (wRet (eLst (aCons (eC (.str "reader")) (aCons (eVar 1) (aCons (eVar 5) (aCons (eLst (aCons (eC (.int 0)) (aCons (eC (.int 1)) aNil))) aNil))))))))))))))))))
theorem dc__law_pair_judge : DC w__law_pair_judge := by unfold w__law_pair_judge; walk_at "dc"
noncomputable def F__law_pair_judge : FN := getF 8 4 w__law_pair_judge
theorem len__law_pair_judge : ∀ ds r, F__law_pair_judge ds = some r → ds.length = 4 := getF_len
theorem k__law_pair_judge : Keeps 8 w__law_pair_judge F__law_pair_judge := getF_keeps
/-! _law_gates(width, row): 0 width 1 row 2 gates 3 k 4 part 5 many 6 wires 7 word 8 j -/
def w__law_gates : WS := (wSeq (wAsg 2 (eLst aNil))
  (wSeq (wFor (iRange1 (e2 pAdd (eC (.int 1)) (e2 pMod (e2 pIx (eVar 1) (eC (.int 0))) (eC (.int 5))))) (gN 3)
  (wSeq (wAsg 4 (eSlice (eVar 1) (oSome (e2 pAdd (eC (.int 1)) (e2 pMul (eC (.int 8)) (eVar 3)))) (oSome (e2 pAdd (eC (.int 9)) (e2 pMul (eC (.int 8)) (eVar 3))))))
  (wFrz 4 (wSeq (wAsg 5 (e2 pIx (eLst (aCons (eC (.int 2)) (aCons (eC (.int 2)) (aCons (eC (.int 3)) (aCons (eC (.int 1)) (aCons (eC (.int 2)) (aCons (eC (.int 3)) (aCons (eC (.int 0)) (aCons (eC (.int 2)) aNil))))))))) (e2 pMod (e1 pInt (e2 pIx (eVar 4) (eC (.int 0)))) (eC (.int 8)))))
  (wSeq (wIf (tVal (e2 pEq (e2 pAdd (eVar 0) (eVar 3)) (eC (.int 0))))
  (wAsg 5 (eC (.int 0)))
  wNil)
  (wSeq (wAsg 6 (eComp [8] (iRange1 (eVar 5)) (gN 8) tYes (e2 pMod (e1 pInt (e2 pIx (eVar 4) (e2 pAdd (eC (.int 1)) (eVar 8)))) (e2 pAdd (eVar 0) (eVar 3)))))
  (wSeq (wIf (tAnd (tVal (e2 pGt (eVar 3) (eC (.int 0)))) (tVal (e2 pGt (eVar 5) (eC (.int 0)))))
  (wPut 6 (eC (.int 0)) (e2 pSub (e2 pAdd (eVar 0) (eVar 3)) (eC (.int 1))))
  wNil)
  (wSeq (wAsg 7 (e2 pAdd (e2 pIx (eVar 4) (eC (.int 4))) (e2 pMul (eC (.int 60)) (e2 pIx (eVar 4) (eC (.int 5))))))
  (wFrz 6 (wApp 2 (eLst (aCons (eVar 6) (aCons (eComp [8] (iRange1 (e2 pShl (eC (.int 1)) (eVar 5))) (gN 8) tYes (e2 pMod (e1 pInt (e2 pShr (eVar 7) (eVar 8))) (eC (.int 2)))) aNil)))))))))))))
  (wFrz 2 (wRet (eVar 2)))))
theorem dc__law_gates : DC w__law_gates := by unfold w__law_gates; walk_at "dc"
noncomputable def F__law_gates : FN := getF 9 2 w__law_gates
theorem len__law_gates : ∀ ds r, F__law_gates ds = some r → ds.length = 2 := getF_len
theorem k__law_gates : Keeps 9 w__law_gates F__law_gates := getF_keeps
/-! _law_node(places, row, depth): 0 places 1 row 2 depth 3 at 4 rest 5 half -/
def w__law_node (R : FN) : WS := (wSeq (wIf (tOr (tVal (e2 pEq (eVar 2) (eC (.int 0)))) (tOr (tVal (e2 pEq (e1 pLen (eVar 0)) (eC (.int 0)))) (tVal (e2 pLt (e2 pIx (eVar 1) (eC (.int 0))) (eC (.int 4))))))
  (wRet (e2 pMod (e1 pInt (e2 pIx (eVar 1) (eC (.int 0)))) (eC (.int 2))))
  wNil)
  (wSeq (wAsg 3 (e2 pMod (e1 pInt (e2 pDiv (e2 pIx (eVar 1) (eC (.int 0))) (eC (.int 4)))) (e1 pLen (eVar 0))))
  (wSeq (wAsg 4 (e2 pAdd (eSlice (eVar 0) oNone (oSome (eVar 3))) (eSlice (eVar 0) (oSome (e2 pAdd (eVar 3) (eC (.int 1)))) oNone)))
  (wFrz 4 (wSeq (wAsg 5 (e2 pDiv (e2 pSub (e1 pLen (eVar 1)) (eC (.int 1))) (eC (.int 2))))
  (wRet (eLst (aCons (e2 pIx (eVar 0) (eVar 3)) (aCons (eCall R (aCons (eVar 4) (aCons (eSlice (eVar 1) (oSome (eC (.int 1))) (oSome (e2 pAdd (eC (.int 1)) (eVar 5)))) (aCons (e2 pSub (eVar 2) (eC (.int 1))) aNil)))) (aCons (eCall R (aCons (eVar 4) (aCons (eSlice (eVar 1) (oSome (e2 pAdd (eC (.int 1)) (eVar 5))) (oSome (e2 pAdd (eC (.int 1)) (e2 pMul (eC (.int 2)) (eVar 5))))) (aCons (e2 pSub (eVar 2) (eC (.int 1))) aNil)))) aNil))))))))))
theorem dc__law_node (R : FN) : DC (w__law_node R) := by unfold w__law_node; walk_at "dc"
noncomputable def F__law_node : Nat → FN := recF 6 3 w__law_node
theorem F__law_node_succ (i : Nat) : F__law_node (i + 1) = getF 6 3 (w__law_node (F__law_node i)) := rfl
/-! _law_judge(script, at, width, depth): 0 script 1 at 2 width 3 depth 4 kind 5 row 6 spec 7 truth 8 many 9 layers 10 k 11 part 12 j -/
def w__law_judge : WS := (wSeq (wAsg 4 (eCall F__law_digits (aCons (eCall F__law_cell (aCons (eVar 0) (aCons (eVar 1) aNil))) (aCons (eLst (aCons (eC (.int 4)) (aCons (eC (.int 8)) (aCons (eC (.int 10)) (aCons (eC (.int 60)) (aCons (eC (.int 60)) aNil)))))) aNil))))
  (wSeq (wAsg 5 (eCall F__law_digits (aCons (eCall F__law_cell (aCons (eVar 0) (aCons (e2 pAdd (eVar 1) (eC (.int 1))) aNil))) (aCons (eComp [10] (iRange1 (eC (.int 63))) (gN 10) tYes (eC (.int 60))) aNil))))
  (wSeq (wAsg 6 (eLst (aCons (eC (.str "table")) (aCons (eVar 2) (aCons (eComp [10] (iRange1 (e2 pShl (eC (.int 1)) (eVar 2))) (gN 10) tYes (e2 pMod (e1 pInt (e2 pDiv (e2 pIx (eVar 5) (e2 pMod (e1 pInt (eVar 10)) (eC (.int 63)))) (e2 pAdd (eC (.int 1)) (e2 pDiv (eVar 10) (eC (.int 63)))))) (eC (.int 2)))) aNil)))))
  (wFrz 6 (wSeq (wIf (tVal (e2 pEq (e2 pIx (eVar 4) (eC (.int 0))) (eC (.int 1))))
  (wAsg 6 (eLst (aCons (eC (.str "circuit")) (aCons (eVar 2) (aCons (eCall F__law_gates (aCons (eVar 2) (aCons (eVar 5) aNil))) aNil)))))
  wNil)
  (wSeq (wIf (tVal (e2 pEq (e2 pIx (eVar 4) (eC (.int 0))) (eC (.int 2))))
  (wAsg 6 (eLst (aCons (eC (.str "tree")) (aCons (eVar 2) (aCons (eCall (F__law_node 8) (aCons (eComp [10] (iRange1 (eVar 2)) (gN 10) tYes (eVar 10)) (aCons (eVar 5) (aCons (eVar 3) aNil)))) aNil)))))
  wNil)
  (wSeq (wIf (tVal (e2 pEq (e2 pIx (eVar 4) (eC (.int 0))) (eC (.int 3))))
  (wSeq (wAsg 8 (e2 pIx (eLst (aCons (eC (.int 2)) (aCons (eC (.int 3)) (aCons (eC (.int 2)) (aCons (eC (.int 3)) (aCons (eC (.int 2)) (aCons (eC (.int 3)) (aCons (eC (.int 2)) (aCons (eC (.int 1)) aNil))))))))) (e2 pIx (eVar 4) (eC (.int 1)))))
  (wSeq (wAsg 9 (eLst aNil))
  (wSeq (wFor (iRange1 (eVar 2)) (gN 10)
  (wSeq (wAsg 11 (eComp [12] (iRange1 (e2 pMul (eC (.int 2)) (eVar 8))) (gN 12) tYes (e2 pMod (e1 pInt (e2 pIx (eVar 5) (e2 pMod (e1 pInt (e2 pAdd (e2 pMul (e2 pMul (eC (.int 2)) (eVar 8)) (eVar 10)) (eVar 12))) (eC (.int 60))))) (eVar 8))))
  (wFrz 11 (wApp 9 (eComp [12] (iRange1 (eVar 8)) (gN 12) tYes (eLst (aCons (e2 pIx (eVar 11) (e2 pMul (eC (.int 2)) (eVar 12))) (aCons (e2 pIx (eVar 11) (e2 pAdd (e2 pMul (eC (.int 2)) (eVar 12)) (eC (.int 1)))) aNil))))))))
  (wFrz 9 (wAsg 6 (eLst (aCons (eC (.str "reader")) (aCons (eVar 2) (aCons (eVar 9) (aCons (eComp [12] (iRange1 (eVar 8)) (gN 12) tYes (e2 pMod (e1 pInt (e2 pDiv (e2 pIx (eVar 5) (e2 pSub (eC (.int 62)) (eVar 12))) (eC (.int 2)))) (eC (.int 2)))) aNil))))))))))
  wNil)
  (wFrz 6 (wSeq (wAsg 7 (eCall F__law_truth (aCons (eVar 6) aNil)))
  (wSeq (wIf (tAnd (tVal (e2 pGt (eVar 2) (eC (.int 0)))) (tAnd (tVal (e2 pGt (e2 pIx (eVar 4) (eC (.int 2))) (eC (.int 0)))) (tOr (tVal (e2 pEq (e1 pSumA (eVar 7)) (eC (.int 0)))) (tVal (e2 pEq (e1 pSumA (eVar 7)) (e1 pLen (eVar 7)))))))
  (wAsg 6 (eCall F__law_pair_judge (aCons (e2 pIx (eVar 6) (eC (.int 0))) (aCons (eVar 2) (aCons (e2 pMod (e1 pInt (e2 pIx (eVar 4) (eC (.int 3)))) (eVar 2)) (aCons (e2 pMod (e1 pInt (e2 pIx (eVar 4) (eC (.int 4)))) (eVar 2)) aNil))))))
  wNil)
  (wFrz 6 (wRet (eVar 6)))))))))))))
theorem dc__law_judge : DC w__law_judge := by unfold w__law_judge; walk_at "dc"
noncomputable def F__law_judge : FN := getF 13 4 w__law_judge
theorem len__law_judge : ∀ ds r, F__law_judge ds = some r → ds.length = 4 := getF_len
theorem k__law_judge : Keeps 13 w__law_judge F__law_judge := getF_keeps
/-! is_whole(value): 0 value -/
def w_is_whole : WS := (wRet (eAnd (e1 (pIsi "int") (eVar 0)) (eNot (e1 (pIsi "bool") (eVar 0)))))
theorem dc_is_whole : DC w_is_whole := by unfold w_is_whole; walk_at "dc"
noncomputable def F_is_whole : FN := getF 1 1 w_is_whole
theorem len_is_whole : ∀ ds r, F_is_whole ds = some r → ds.length = 1 := getF_len
theorem k_is_whole : Keeps 1 w_is_whole F_is_whole := getF_keeps
/-! is_bit(value): 0 value -/
def w_is_bit : WS := (wRet (eAnd (eCall F_is_whole (aCons (eVar 0) aNil)) (eChain pLe pLe (eC (.int 0)) (eVar 0) (eC (.int 1)))))
theorem dc_is_bit : DC w_is_bit := by unfold w_is_bit; walk_at "dc"
noncomputable def F_is_bit : FN := getF 1 1 w_is_bit
theorem len_is_bit : ∀ ds r, F_is_bit ds = some r → ds.length = 1 := getF_len
theorem k_is_bit : Keeps 1 w_is_bit F_is_bit := getF_keeps
/-! is_bits(values, count): 0 values 1 count 2 value -/
def w_is_bits : WS := (wSeq (wIf (tVal (e2 pNe (e1 pLen (eVar 0)) (eVar 1)))
  (wRet (eC (.bl false)))
  wNil)
  (wSeq (wFor (iSeq (eVar 0)) (gN 2)
  (wIf (tNot (tVal (eCall F_is_bit (aCons (eVar 2) aNil))))
  (wRet (eC (.bl false)))
  wNil))
  (wRet (eC (.bl true)))))
theorem dc_is_bits : DC w_is_bits := by unfold w_is_bits; walk_at "dc"
noncomputable def F_is_bits : FN := getF 3 2 w_is_bits
theorem len_is_bits : ∀ ds r, F_is_bits ds = some r → ds.length = 2 := getF_len
theorem k_is_bits : Keeps 3 w_is_bits F_is_bits := getF_keeps
/-! is_layer(layer, standings): 0 layer 1 standings 2 pair 3 standing -/
def w_is_layer : WS := (wSeq (wIf (tVal (e2 pNe (e1 pLen (eVar 0)) (eVar 1)))
  (wRet (eC (.bl false)))
  wNil)
  (wSeq (wFor (iSeq (eVar 0)) (gN 2)
  (wSeq (wIf (tVal (e2 pNe (e1 pLen (eVar 2)) (eC (.int 2))))
  (wRet (eC (.bl false)))
  wNil)
  (wFor (iSeq (eVar 2)) (gN 3)
  (wIf (tOr (tNot (tVal (eCall F_is_whole (aCons (eVar 3) aNil)))) (tNot (tVal (eChain pLe pLt (eC (.int 0)) (eVar 3) (eVar 1)))))
  (wRet (eC (.bl false)))
  wNil))))
  (wRet (eC (.bl true)))))
theorem dc_is_layer : DC w_is_layer := by unfold w_is_layer; walk_at "dc"
noncomputable def F_is_layer : FN := getF 4 2 w_is_layer
theorem len_is_layer : ∀ ds r, F_is_layer ds = some r → ds.length = 2 := getF_len
theorem k_is_layer : Keeps 4 w_is_layer F_is_layer := getF_keeps
/-! check_reader(layers, accepts): 0 layers 1 accepts 2 standings 3 index -/
def w_check_reader : WS := (wSeq (wAsg 2 (e1 pLen (eVar 1)))
  (wSeq (wIf (tOr (tVal (e2 pEq (eVar 2) (eC (.int 0)))) (tOr (tVal (e2 pGt (eVar 2) (eC (.int 64)))) (tNot (tVal (eCall F_is_bits (aCons (eVar 1) (aCons (eVar 2) aNil)))))))
  wDead
  wNil)
  (wFor (iRange1 (e1 pLen (eVar 0))) (gN 3)
  (wIf (tNot (tVal (eCall F_is_layer (aCons (e2 pIx (eVar 0) (eVar 3)) (aCons (eVar 2) aNil)))))
  wDead
  wNil))))
theorem dc_check_reader : DC w_check_reader := by unfold w_check_reader; walk_at "dc"
noncomputable def F_check_reader : FN := getF 4 2 w_check_reader
theorem len_check_reader : ∀ ds r, F_check_reader ds = some r → ds.length = 2 := getF_len
theorem k_check_reader : Keeps 4 w_check_reader F_check_reader := getF_keeps
/-! Reader.__init__(self, layers, accepts): 0 self 1 layers 2 accepts 3 layer 4 pair -/
def wi_Reader____init__ : WS := (wThenI (wDrop (eCall F_check_reader (aCons (eVar 1) (aCons (eVar 2) aNil))))
  (wStores (aCons (e1 pLen (eVar 1)) (aCons (e1 pTuple (eComp [3] (iSeq (eVar 1)) (gN 3) tYes (e1 pTuple (eComp [4] (iSeq (eVar 3)) (gN 4) tYes (e1 pTuple (eVar 4)))))) (aCons (e1 pTuple (eVar 2)) aNil)))))
def w_Reader____init__ : WS := wSelf wi_Reader____init__
theorem dc_Reader____init__ : DC w_Reader____init__ := dc_self (by unfold wi_Reader____init__; walk_at "dc")
noncomputable def F_Reader____init__ : FN := getF 5 3 w_Reader____init__
theorem len_Reader____init__ : ∀ ds r, F_Reader____init__ ds = some r → ds.length = 3 := getF_len
theorem k_Reader____init__ : Keeps 5 w_Reader____init__ F_Reader____init__ := getF_keeps
/-! Table.__init__(self, width, bits): 0 self 1 width 2 bits -/
def wi_Table____init__ : WS := (wThenI (wIf (tNot (tVal (eCall F_is_bits (aCons (eVar 2) (aCons (e2 pShl (eC (.int 1)) (eVar 1)) aNil)))))
  wDead
  wNil)
  (wStores (aCons (eVar 1) (aCons (e1 pTuple (eVar 2)) aNil))))
def w_Table____init__ : WS := wSelf wi_Table____init__
theorem dc_Table____init__ : DC w_Table____init__ := dc_self (by unfold wi_Table____init__; walk_at "dc")
noncomputable def F_Table____init__ : FN := getF 3 3 w_Table____init__
theorem len_Table____init__ : ∀ ds r, F_Table____init__ ds = some r → ds.length = 3 := getF_len
theorem k_Table____init__ : Keeps 3 w_Table____init__ F_Table____init__ := getF_keeps
/-! is_gate(gate, wires_before): 0 gate 1 wires_before 2 wire 3 wires 4 bits -/
def w_is_gate : WS := (wSeq (wUnp [3, 4] (eVar 0))
  (wSeq (wIf (tVal (e2 pGt (e1 pLen (eVar 3)) (eC (.int 8))))
  (wRet (eC (.bl false)))
  wNil)
  (wSeq (wFor (iSeq (eVar 3)) (gN 2)
  (wIf (tOr (tNot (tVal (eCall F_is_whole (aCons (eVar 2) aNil)))) (tNot (tVal (eChain pLe pLt (eC (.int 0)) (eVar 2) (eVar 1)))))
  (wRet (eC (.bl false)))
  wNil))
  (wRet (eCall F_is_bits (aCons (eVar 4) (aCons (e2 pShl (eC (.int 1)) (e1 pLen (eVar 3))) aNil)))))))
theorem dc_is_gate : DC w_is_gate := by unfold w_is_gate; walk_at "dc"
noncomputable def F_is_gate : FN := getF 5 2 w_is_gate
theorem len_is_gate : ∀ ds r, F_is_gate ds = some r → ds.length = 2 := getF_len
theorem k_is_gate : Keeps 5 w_is_gate F_is_gate := getF_keeps
/-! check_gates(width, gates): 0 width 1 gates 2 index -/
def w_check_gates : WS := (wSeq (wIf (tVal (e2 pEq (e1 pLen (eVar 1)) (eC (.int 0))))
  wDead
  wNil)
  (wFor (iRange1 (e1 pLen (eVar 1))) (gN 2)
  (wIf (tNot (tVal (eCall F_is_gate (aCons (e2 pIx (eVar 1) (eVar 2)) (aCons (e2 pAdd (eVar 0) (eVar 2)) aNil)))))
  wDead
  wNil)))
theorem dc_check_gates : DC w_check_gates := by unfold w_check_gates; walk_at "dc"
noncomputable def F_check_gates : FN := getF 3 2 w_check_gates
theorem len_check_gates : ∀ ds r, F_check_gates ds = some r → ds.length = 2 := getF_len
theorem k_check_gates : Keeps 3 w_check_gates F_check_gates := getF_keeps
/-! Circuit.__init__(self, width, gates): 0 self 1 width 2 gates 3 wires 4 bits -/
def wi_Circuit____init__ : WS := (wThenI (wDrop (eCall F_check_gates (aCons (eVar 1) (aCons (eVar 2) aNil))))
  (wStores (aCons (eVar 1) (aCons (e1 pTuple (eComp [3, 4] (iSeq (eVar 2)) (gT [3, 4]) tYes (eTup (aCons (e1 pTuple (eVar 3)) (aCons (e1 pTuple (eVar 4)) aNil))))) aNil))))
def w_Circuit____init__ : WS := wSelf wi_Circuit____init__
theorem dc_Circuit____init__ : DC w_Circuit____init__ := dc_self (by unfold wi_Circuit____init__; walk_at "dc")
noncomputable def F_Circuit____init__ : FN := getF 5 3 w_Circuit____init__
theorem len_Circuit____init__ : ∀ ds r, F_Circuit____init__ ds = some r → ds.length = 3 := getF_len
theorem k_Circuit____init__ : Keeps 5 w_Circuit____init__ F_Circuit____init__ := getF_keeps
/-! is_look(node, width, above): 0 node 1 width 2 above 3 place -/
def w_is_look : WS := (wSeq (wIf (tOr (tNot (tVal (e1 (pIsiT ["list", "tuple"]) (eVar 0)))) (tVal (e2 pNe (e1 pLen (eVar 0)) (eC (.int 3)))))
  (wRet (eC (.bl false)))
  wNil)
  (wSeq (wAsg 3 (e2 pIx (eVar 0) (eC (.int 0))))
  (wRet (eAnd (eCall F_is_whole (aCons (eVar 3) aNil)) (eAnd (eChain pLe pLt (eC (.int 0)) (eVar 3) (eVar 1)) (e2 pNotIn (eVar 3) (eVar 2)))))))
theorem dc_is_look : DC w_is_look := by unfold w_is_look; walk_at "dc"
noncomputable def F_is_look : FN := getF 4 3 w_is_look
theorem len_is_look : ∀ ds r, F_is_look ds = some r → ds.length = 3 := getF_len
theorem k_is_look : Keeps 4 w_is_look F_is_look := getF_keeps
/-! bad_path(node, width): 0 node 1 width 2 waiting 3 here 4 path 5 above 6 below -/
def w_bad_path : WS := (wSeq (wAsg 2 (eLst (aCons (eTup (aCons (eVar 0) (aCons (eTup aNil) (aCons (eTup aNil) aNil)))) aNil)))
  (wSeq (wWhile (tVal (e2 pGt (e1 pLen (eVar 2)) (eC (.int 0))))
  (wSeq (wPop 2 (gT [3, 4, 5]))
  (wIf (tNot (tVal (eCall F_is_bit (aCons (eVar 3) aNil))))
  (wSeq (wIf (tNot (tVal (eCall F_is_look (aCons (eVar 3) (aCons (eVar 1) (aCons (eVar 5) aNil))))))
  (wRet (eVar 4))
  wNil)
  (wSeq (wAsg 6 (e2 pAdd (eVar 5) (eTup (aCons (e2 pIx (eVar 3) (eC (.int 0))) aNil))))
  (wSeq (wApp 2 (eTup (aCons (e2 pIx (eVar 3) (eC (.int 2))) (aCons (e2 pAdd (eVar 4) (eTup (aCons (eC (.int 1)) aNil))) (aCons (eVar 6) aNil)))))
  (wApp 2 (eTup (aCons (e2 pIx (eVar 3) (eC (.int 1))) (aCons (e2 pAdd (eVar 4) (eTup (aCons (eC (.int 0)) aNil))) (aCons (eVar 6) aNil))))))))
  wNil)))
  (wRet (eC .non))))
theorem dc_bad_path : DC w_bad_path := by unfold w_bad_path; walk_at "dc"
noncomputable def F_bad_path : FN := getF 7 2 w_bad_path
theorem len_bad_path : ∀ ds r, F_bad_path ds = some r → ds.length = 2 := getF_len
theorem k_bad_path : Keeps 7 w_bad_path F_bad_path := getF_keeps
/-! joined_node(parts): 0 parts 1 ready 2 index 3 part 4 zero_side 5 one_side -/
def w_joined_node : WS := (wSeq (wAsg 1 (eLst aNil))
  (wSeq (wFor (iRange1 (e1 pLen (eVar 0))) (gN 2)
  (wSeq (wAsg 3 (e2 pIx (eVar 0) (e2 pSub (e2 pSub (e1 pLen (eVar 0)) (eC (.int 1))) (eVar 2))))
  (wIf (tVal (eCall F_is_bit (aCons (eVar 3) aNil)))
  (wApp 1 (eVar 3))
  (wSeq (wPop 1 (gN 4))
  (wSeq (wPop 1 (gN 5))
  (wApp 1 (eTup (aCons (e2 pIx (eVar 3) (eC (.int 0))) (aCons (eVar 4) (aCons (eVar 5) aNil))))))))))
  (wRet (e2 pIx (eVar 1) (eC (.int 0))))))
theorem dc_joined_node : DC w_joined_node := by unfold w_joined_node; walk_at "dc"
noncomputable def F_joined_node : FN := getF 6 1 w_joined_node
theorem len_joined_node : ∀ ds r, F_joined_node ds = some r → ds.length = 1 := getF_len
theorem k_joined_node : Keeps 6 w_joined_node F_joined_node := getF_keeps
/-! parts_of(node): 0 node 1 found 2 waiting 3 here -/
def w_parts_of : WS := (wSeq (wAsg 1 (eLst aNil))
  (wSeq (wAsg 2 (eLst (aCons (eVar 0) aNil)))
  (wSeq (wWhile (tVal (e2 pGt (e1 pLen (eVar 2)) (eC (.int 0))))
  (wSeq (wPop 2 (gN 3))
  (wSeq (wApp 1 (eVar 3))
  (wIf (tNot (tVal (eCall F_is_bit (aCons (eVar 3) aNil))))
  (wSeq (wApp 2 (e2 pIx (eVar 3) (eC (.int 2))))
  (wApp 2 (e2 pIx (eVar 3) (eC (.int 1)))))
  wNil))))
  (wFrz 1 (wRet (eVar 1))))))
theorem dc_parts_of : DC w_parts_of := by unfold w_parts_of; walk_at "dc"
noncomputable def F_parts_of : FN := getF 4 1 w_parts_of
theorem len_parts_of : ∀ ds r, F_parts_of ds = some r → ds.length = 1 := getF_len
theorem k_parts_of : Keeps 4 w_parts_of F_parts_of := getF_keeps
/-! Tree.__init__(self, width, node): 0 self 1 width 2 node 3 path -/
def wi_Tree____init__ : WS := (wThenI (wAsg 3 (eCall F_bad_path (aCons (eVar 2) (aCons (eVar 1) aNil))))
  (wThenI (wIf (tVal (e1 pNotN (eVar 3)))
  wDead
  wNil)
  (wStores (aCons (eVar 1) (aCons (eCall F_joined_node (aCons (eCall F_parts_of (aCons (eVar 2) aNil)) aNil)) aNil)))))
def w_Tree____init__ : WS := wSelf wi_Tree____init__
theorem dc_Tree____init__ : DC w_Tree____init__ := dc_self (by unfold wi_Tree____init__; walk_at "dc")
noncomputable def F_Tree____init__ : FN := getF 4 3 w_Tree____init__
theorem len_Tree____init__ : ∀ ds r, F_Tree____init__ ds = some r → ds.length = 3 := getF_len
theorem k_Tree____init__ : Keeps 4 w_Tree____init__ F_Tree____init__ := getF_keeps
/-! _law_build(spec): 0 spec 1 layer 2 gate 3 pair -/
def w__law_build : WS := (wSeq (wIf (tVal (e2 pEq (e2 pIx (eVar 0) (eC (.int 0))) (eC (.str "table"))))
  (wRet (eMakeF 24 ["width", "bits"] F_Table____init__ (aCons (e2 pIx (eVar 0) (eC (.int 1))) (aCons (e1 pList (e2 pIx (eVar 0) (eC (.int 2)))) aNil))))
  wNil)
  (wSeq (wIf (tVal (e2 pEq (e2 pIx (eVar 0) (eC (.int 0))) (eC (.str "circuit"))))
  (wRet (eMakeF 22 ["width", "gates"] F_Circuit____init__ (aCons (e2 pIx (eVar 0) (eC (.int 1))) (aCons (eComp [2] (iSeq (e2 pIx (eVar 0) (eC (.int 2)))) (gN 2) tYes (eLst (aCons (e1 pList (e2 pIx (eVar 2) (eC (.int 0)))) (aCons (e1 pList (e2 pIx (eVar 2) (eC (.int 1)))) aNil)))) aNil))))
  wNil)
  (wSeq (wIf (tVal (e2 pEq (e2 pIx (eVar 0) (eC (.int 0))) (eC (.str "tree"))))
  (wRet (eMakeF 25 ["width", "node"] F_Tree____init__ (aCons (e2 pIx (eVar 0) (eC (.int 1))) (aCons (e2 pIx (eVar 0) (eC (.int 2))) aNil))))
  wNil)
  (wRet (eMakeF 23 ["width", "layers", "accepts"] F_Reader____init__ (aCons (eComp [1] (iSeq (e2 pIx (eVar 0) (eC (.int 2)))) (gN 1) tYes (eComp [3] (iSeq (eVar 1)) (gN 3) tYes (e1 pList (eVar 3)))) (aCons (e1 pList (e2 pIx (eVar 0) (eC (.int 3)))) aNil)))))))
theorem dc__law_build : DC w__law_build := by unfold w__law_build; walk_at "dc"
noncomputable def F__law_build : FN := getF 4 1 w__law_build
theorem len__law_build : ∀ ds r, F__law_build ds = some r → ds.length = 1 := getF_len
theorem k__law_build : Keeps 4 w__law_build F__law_build := getF_keeps
/-! Reader.truth(self): 0 self 1 reached 2 layer 3 standing 4 sign -/
def w_Reader__truth : WS := (wSeq (wAsg 1 (eLst (aCons (eC (.int 0)) aNil)))
  (wFrz 1 (wSeq (wFor (iSeq (eAtt [23] [] "layers" (eVar 0))) (gN 2)
  (wAsg 1 (eComp2 [3, 4] [4] (iSeq (eVar 1)) (gN 3) tYes (iRange1 (eC (.int 2))) (gN 4) tYes (e2 pIx (e2 pIx (eVar 2) (eVar 3)) (eVar 4)))))
  (wRet (e1 pTuple (eComp [3] (iSeq (eVar 1)) (gN 3) tYes (e2 pIx (eAtt [23] [] "accepts" (eVar 0)) (eVar 3))))))))
theorem dc_Reader__truth : DC w_Reader__truth := by unfold w_Reader__truth; walk_at "dc"
noncomputable def F_Reader__truth : FN := getF 5 1 w_Reader__truth
theorem len_Reader__truth : ∀ ds r, F_Reader__truth ds = some r → ds.length = 1 := getF_len
theorem k_Reader__truth : Keeps 5 w_Reader__truth F_Reader__truth := getF_keeps
/-! Table.truth(self): 0 self -/
def w_Table__truth : WS := (wRet (eAtt [24] [] "bits" (eVar 0)))
theorem dc_Table__truth : DC w_Table__truth := by unfold w_Table__truth; walk_at "dc"
noncomputable def F_Table__truth : FN := getF 1 1 w_Table__truth
theorem len_Table__truth : ∀ ds r, F_Table__truth ds = some r → ds.length = 1 := getF_len
theorem k_Table__truth : Keeps 1 w_Table__truth F_Table__truth := getF_keeps
/-! number_of(row): 0 row 1 number 2 sign -/
def w_number_of : WS := (wSeq (wAsg 1 (eC (.int 0)))
  (wSeq (wFor (iSeq (eVar 0)) (gN 2)
  (wAsg 1 (e2 pAdd (e2 pMul (eC (.int 2)) (eVar 1)) (eVar 2))))
  (wRet (eVar 1))))
theorem dc_number_of : DC w_number_of := by unfold w_number_of; walk_at "dc"
noncomputable def F_number_of : FN := getF 3 1 w_number_of
theorem len_number_of : ∀ ds r, F_number_of ds = some r → ds.length = 1 := getF_len
theorem k_number_of : Keeps 3 w_number_of F_number_of := getF_keeps
/-! Circuit.__call__(self, row): 0 self 1 row 2 values 3 wires 4 bits 5 wire -/
def w_Circuit____call__ : WS := (wSeq (wAsg 2 (e1 pList (eVar 1)))
  (wSeq (wFor (iSeq (eAtt [22] [] "gates" (eVar 0))) (gT [3, 4])
  (wApp 2 (e2 pIx (eVar 4) (eCall F_number_of (aCons (eComp [5] (iSeq (eVar 3)) (gN 5) tYes (e2 pIx (eVar 2) (eVar 5))) aNil)))))
  (wRet (e2 pIx (eVar 2) (e1 pNeg (eC (.int 1)))))))
theorem dc_Circuit____call__ : DC w_Circuit____call__ := by unfold w_Circuit____call__; walk_at "dc"
noncomputable def F_Circuit____call__ : FN := getF 6 2 w_Circuit____call__
theorem len_Circuit____call__ : ∀ ds r, F_Circuit____call__ ds = some r → ds.length = 2 := getF_len
theorem k_Circuit____call__ : Keeps 6 w_Circuit____call__ F_Circuit____call__ := getF_keeps
/-! row_of(number, width): 0 number 1 width 2 place -/
def w_row_of : WS := (wRet (e1 pTuple (eComp [2] (iRange1 (eVar 1)) (gN 2) tYes (e2 pAnd (e2 pShr (eVar 0) (e2 pSub (e2 pSub (eVar 1) (eC (.int 1))) (eVar 2))) (eC (.int 1))))))
theorem dc_row_of : DC w_row_of := by unfold w_row_of; walk_at "dc"
noncomputable def F_row_of : FN := getF 3 2 w_row_of
theorem len_row_of : ∀ ds r, F_row_of ds = some r → ds.length = 2 := getF_len
theorem k_row_of : Keeps 3 w_row_of F_row_of := getF_keeps
/-! Circuit.truth(self): 0 self 1 number -/
def w_Circuit__truth : WS := (wRet (e1 pTuple (eComp [1] (iRange1 (e2 pShl (eC (.int 1)) (eAtt [22] [] "width" (eVar 0)))) (gN 1) tYes (eCallO [(22, F_Circuit____call__)] (eVar 0) (aCons (eCall F_row_of (aCons (eVar 1) (aCons (eAtt [22] [] "width" (eVar 0)) aNil))) aNil)))))
theorem dc_Circuit__truth : DC w_Circuit__truth := by unfold w_Circuit__truth; walk_at "dc"
noncomputable def F_Circuit__truth : FN := getF 2 1 w_Circuit__truth
theorem len_Circuit__truth : ∀ ds r, F_Circuit__truth ds = some r → ds.length = 1 := getF_len
theorem k_Circuit__truth : Keeps 2 w_Circuit__truth F_Circuit__truth := getF_keeps
/-! leaf_of(node, row): 0 node 1 row 2 here -/
def w_leaf_of : WS := (wSeq (wAsg 2 (eVar 0))
  (wSeq (wWhile (tVal (e1 (pIsi "tuple") (eVar 2)))
  (wAsg 2 (e2 pIx (eVar 2) (e2 pAdd (eC (.int 1)) (e2 pIx (eVar 1) (e2 pIx (eVar 2) (eC (.int 0))))))))
  (wRet (eVar 2))))
theorem dc_leaf_of : DC w_leaf_of := by unfold w_leaf_of; walk_at "dc"
noncomputable def F_leaf_of : FN := getF 3 2 w_leaf_of
theorem len_leaf_of : ∀ ds r, F_leaf_of ds = some r → ds.length = 2 := getF_len
theorem k_leaf_of : Keeps 3 w_leaf_of F_leaf_of := getF_keeps
/-! Tree.truth(self): 0 self 1 number -/
def w_Tree__truth : WS := (wRet (e1 pTuple (eComp [1] (iRange1 (e2 pShl (eC (.int 1)) (eAtt [25] [] "width" (eVar 0)))) (gN 1) tYes (eCall F_leaf_of (aCons (eAtt [25] [] "node" (eVar 0)) (aCons (eCall F_row_of (aCons (eVar 1) (aCons (eAtt [25] [] "width" (eVar 0)) aNil))) aNil))))))
theorem dc_Tree__truth : DC w_Tree__truth := by unfold w_Tree__truth; walk_at "dc"
noncomputable def F_Tree__truth : FN := getF 2 1 w_Tree__truth
theorem len_Tree__truth : ∀ ds r, F_Tree__truth ds = some r → ds.length = 1 := getF_len
theorem k_Tree__truth : Keeps 2 w_Tree__truth F_Tree__truth := getF_keeps
end Pyl
end
section
set_option Elab.async false
set_option linter.all false
set_option maxHeartbeats 1000000
namespace Pyl
open PySem
local macro_rules | `(tactic| walk_at "pe") => `(tactic| simp (config := { implicitDefEqProofs := false }) only [eVar_at, eC_at, e1_at, e2_at, aNil_at, aCons_at, eTup_at, eLst_at, plain_nil, plain_cons, eCall_at, eIf_at, aApp_at, aDfl_at, List.cons_append, List.nil_append, eAnd_at, eOr_at, eNot_at, tVal_at, tAnd_at, tOr_at, tNot_at, tYes_at,
  pAdd_int, pSub_int, pNeg_int, pLt_int, pLe_int, pGt_int, pGe_int, pEq_int, pNe_int, pIsN_at, pNotN_at, pIx_lst, pIx_tup, pGcd_int, atL0, atL1, atL2, atL3, atL4, atL5, atL6, atL7, atL8, oNone_at, oSome_at, eSlice_at, pLen_lst, pLen_tup, pInt_int, pInt_bl, pAbs_int, pSum_ints, pMax2_int, pMin2_int, pList_lst, pList_tup, pTuple_lst, pTuple_tup, iSeq_at, gN_at, gT_at, gsN_cons, gsN_nil, wipeS_cons, wipeS_nil,
  dt_vis, dt_bor, dt_fre, sh_vis, sh_bor, sh_fre, slot_vis, slot_fre, od_dt, isNon_non, isNon_int, isNon_lst, isNon_tup, scalar_int, scalar_bl, scalar_non, Option.bind_some, Option.bind_none, Option.map_some, Option.map_none, List.getElem?_cons_zero, List.getElem?_cons_succ, List.set_cons_zero, List.set_cons_succ, List.map_cons, List.map_nil, List.any_cons, List.any_nil, Bool.or_false, Bool.false_or, Bool.false_and, Bool.and_true, Bool.true_and, Bool.not_true, Bool.not_false,
  Option.some.injEq, exists_eq_left', exists_eq_left, true_and, and_true, if_true, if_false, Bool.false_eq_true, ite_true, ite_false, reduceIte, decide_eq_true_eq, decide_eq_false_iff_not, R.vis.injEq, R.fre.injEq, Dt.lst.injEq, Dt.tup.injEq, Dt.int.injEq, Slot.own.injEq, OD.lst.injEq, reduceCtorEq, false_and, exists_false, exists_const, Bool.true_eq_false, false_implies, true_implies, implies_true, forall_const])
/-! ### rows, bits, numbers -/
def b01 (l : List Int) : Prop := ∀ x ∈ l, x = 0 ∨ x = 1
def bitsM (n w : Nat) : List Int := (List.range w).map fun k => ((n / 2 ^ (w - 1 - k) % 2 : Nat) : Int)
def numM (row : List Int) : Int := row.foldl (fun a s => 2 * a + s) 0
theorem bitsM_len (n w : Nat) : (bitsM n w).length = w := by unfold bitsM; simp
theorem bitsM_01 (n w : Nat) : b01 (bitsM n w) := by
  intro x hx
  unfold bitsM at hx
  obtain ⟨k, _, rfl⟩ := List.mem_map.mp hx
  have : n / 2 ^ (w - 1 - k) % 2 < 2 := Nat.mod_lt _ (by decide)
  omega
theorem numM_snoc (l : List Int) (x : Int) : numM (l ++ [x]) = 2 * numM l + x := by
  unfold numM
  rw [List.foldl_append]
  rfl
theorem bitsM_snoc (n w : Nat) : bitsM n (w + 1) = bitsM (n / 2) w ++ [((n % 2 : Nat) : Int)] := by
  unfold bitsM
  rw [List.range_succ, List.map_append]
  congr 1
  · refine List.map_congr_left fun k hk => ?_
    have hk := List.mem_range.mp hk
    rw [show w + 1 - 1 - k = (w - 1 - k) + 1 by omega, Nat.pow_succ, Nat.mul_comm, ← Nat.div_div_eq_div_mul]
  · show [((n / 2 ^ (w + 1 - 1 - w) % 2 : Nat) : Int)] = _
    rw [show w + 1 - 1 - w = 0 by omega, Nat.pow_zero, Nat.div_one]
theorem numM_bits : ∀ (w n : Nat), numM (bitsM n w) = ((n % 2 ^ w : Nat) : Int)
  | 0, n => by rw [Nat.pow_zero, Nat.mod_one]; rfl
  | w + 1, n => by
    rw [bitsM_snoc, numM_snoc, numM_bits w]
    have h : n % 2 ^ (w + 1) = 2 * (n / 2 % 2 ^ w) + n % 2 := by
      rw [Nat.pow_succ, Nat.mul_comm, Nat.mod_mul]
      omega
    rw [h]
    omega
theorem b01_snoc {l : List Int} {x : Int} : b01 (l ++ [x]) ↔ b01 l ∧ (x = 0 ∨ x = 1) := by
  unfold b01
  constructor
  · intro h
    exact ⟨fun y hy => h y (by simp [hy]), h x (by simp)⟩
  · rintro ⟨h1, h2⟩ y hy
    rcases List.mem_append.mp hy with h | h
    · exact h1 y h
    · rw [List.mem_singleton.mp h]; exact h2
theorem list_snoc {α : Type} {P : List α → Prop} (h0 : P []) (hs : ∀ l x, P l → P (l ++ [x])) (l : List α) : P l := by
  have : P l.reverse.reverse := by
    induction l.reverse with
    | nil => exact h0
    | cons x t ih => rw [List.reverse_cons]; exact hs _ _ ih
  rwa [List.reverse_reverse] at this
theorem numM_bound (l : List Int) : b01 l → 0 ≤ numM l ∧ numM l < 2 ^ l.length := by
  refine list_snoc (P := fun l => b01 l → 0 ≤ numM l ∧ numM l < 2 ^ l.length) (fun _ => ⟨by decide, by decide⟩) (fun l x ih h => ?_) l
  obtain ⟨h1, h2⟩ := b01_snoc.mp h
  obtain ⟨i1, i2⟩ := ih h1
  rw [numM_snoc, List.length_append, List.length_singleton, Int.pow_succ]
  generalize (2 : Int) ^ l.length = P at i2 ⊢
  omega
theorem bits_numM (l : List Int) : b01 l → bitsM (numM l).toNat l.length = l := by
  refine list_snoc (P := fun l => b01 l → bitsM (numM l).toNat l.length = l) (fun _ => rfl) (fun l x ih h => ?_) l
  obtain ⟨h1, h2⟩ := b01_snoc.mp h
  have nb := (numM_bound l h1).1
  rw [numM_snoc, List.length_append, List.length_singleton, bitsM_snoc]
  rw [show (2 * numM l + x).toNat / 2 = (numM l).toNat by omega, ih h1]
  congr 2
  omega
theorem numM_lt {l : List Int} {w : Nat} (h : b01 l) (hw : l.length = w) : (numM l).toNat < 2 ^ w := by
  have := numM_bound l h
  rw [hw] at this
  have e : ((2 ^ w : Nat) : Int) = 2 ^ w := by simp
  omega
theorem pow2_le {w k : Nat} (h : w ≤ k) : 2 ^ w ≤ 2 ^ k := Nat.pow_le_pow_right (by decide) h
theorem b01_take {l : List Int} {i : Nat} (h : b01 l) : b01 (l.take i) := fun x hx => h x (List.mem_of_mem_take hx)
theorem b01_get {l : List Int} {i : Nat} {x : Int} (h : b01 l) (hi : l[i]? = some x) : x = 0 ∨ x = 1 := h x (List.mem_of_getElem? hi)
theorem b01_getD {l : List Int} {i : Nat} (h : b01 l) : l.getD i 0 = 0 ∨ l.getD i 0 = 1 := by
  rw [List.getD_eq_getElem?_getD]
  cases hi : l[i]? with
  | none => exact .inl rfl
  | some x => exact b01_get h hi
/-! what the small defs give -/
theorem whole_at (i : Int) : F_is_whole [.int i] = some (.bl true) := getF_lib dc_is_whole k_whole rfl
theorem lwhole_at (i : Int) : F__law_whole [.int i] = some (.bl true) := getF_lib dc__law_whole k_whole rfl
theorem whole_seq (s : Bool) (ds : List Dt) : F_is_whole [seqD s ds] = some (.bl false) := getF_lib dc_is_whole k_whole (by cases s <;> rfl)
theorem lwhole_seq (s : Bool) (ds : List Dt) : F__law_whole [seqD s ds] = some (.bl false) := getF_lib dc__law_whole k_whole (by cases s <;> rfl)
theorem cell_at {ns : List Int} {k : Int} (h : 0 ≤ k ∧ k < 4294967296) : F__law_cell [ilst ns, .int k] = some (.int (cellM ns k)) := getF_lib dc__law_cell k_cell (F_cell_at h)
theorem digs_at {c : Int} {ns : List Int} (h : sizeOkW ns) : F__law_digits [.int c, ilst ns] = some (ilst (digitsM c ns)) := getF_lib dc__law_digits k_digitsW (F_digitsW_at h)
theorem bit_at (i : Int) : F_is_bit [.int i] = some (.bl (decide (0 ≤ i ∧ i ≤ 1))) := by
  refine getF_eq dc_is_bit ?_
  show w_is_bit _ [.val (.int i)]
  refine s_ret (r := .vis (.bl (decide (0 ≤ i ∧ i ≤ 1)))) ?_ rfl rfl rfl
  rw [eAnd_at, eCall_at, aCons_at]
  walk_at "pe"
  rw [whole_at]
  walk_at "pe"
  exact chain_le rfl rfl rfl
theorem bit_seq (s : Bool) (ds : List Dt) : F_is_bit [seqD s ds] = some (.bl false) := by
  refine getF_eq dc_is_bit ?_
  show w_is_bit _ [.val (seqD s ds)]
  refine s_ret (r := .vis (.bl false)) ?_ rfl rfl rfl
  rw [eAnd_at, eCall_at, aCons_at]
  walk_at "pe"
  rw [whole_seq]
  rfl
theorem bit01 {i : Int} (h : i = 0 ∨ i = 1) : F_is_bit [.int i] = some (.bl true) := by
  rw [bit_at, decide_eq_true (by omega)]
theorem bits_at {s : Bool} {ns : List Int} {n : Nat} (h : b01 ns) (hl : ns.length = n) : F_is_bits [iseq s ns, .int (n : Int)] = some (.bl true) := by
  refine getF_eq dc_is_bits ?_
  show w_is_bits _ [.val (iseq s ns), .val (.int n), .non]
  refine q_ifD (p := False) ?_ (fun e => e.elim) fun _ => s_nil ?_
  · walk_at "pe"
    rw [pLen_iseq, hl]
    walk_at "pe"
    simp
  · refine q_forMap (u := Dt.int) (xs := ns) (fun _ e => ∃ z, e = [.val (iseq s ns), .val (.int n), z]) (seq_ints rfl) ⟨_, rfl⟩ ?_ ?_
    · rintro i env x hx ⟨z, rfl⟩
      refine ⟨_, by walk_at "pe"; rfl, ?_⟩
      refine s_ifD (p := False) ?_ (fun e => e.elim) fun _ => s_nil ⟨_, rfl⟩
      walk_at "pe"
      rw [bit01 (b01_get h hx)]
      rfl
    · rintro env ⟨z, rfl⟩
      exact s_ret (r := .vis (.bl true)) rfl rfl rfl rfl
theorem shr1 (n k : Nat) : (n : Int) / 2 ^ k = ((n / 2 ^ k : Nat) : Int) := by
  rw [Int.natCast_ediv]
  congr 1
theorem row_at {n w : Nat} (hw : w ≤ 1000) : F_row_of [.int (n : Int), .int (w : Int)] = some (itup (bitsM n w)) := by
  refine getF_eq dc_row_of ?_
  show w_row_of _ [.val (.int n), .val (.int w), .non]
  refine s_ret (r := .vis (itup (bitsM n w))) ?_ rfl rfl rfl
  rw [e1_at, comp_rng (n := w) (f := fun k => ((n / 2 ^ (w - 1 - k) % 2 : Nat) : Int)) (by walk_at "pe") (by omega) fun j hj => ?_]
  · rfl
  · walk_at "pe"
    rw [show (w : Int) - 1 - (j : Int) = ((w - 1 - j : Nat) : Int) by omega, pShr_int (by omega), Int.toNat_natCast, shr1]
    walk_at "pe"
    rw [show (Dt.int 1) = .int ((1 : Nat) : Int) from rfl, pAnd_nat, Nat.and_one_is_mod]
theorem lbits_at {n w : Nat} (hw : w ≤ 1000) : F__law_bits [.int (n : Int), .int (w : Int)] = some (itup (bitsM n w)) := by
  refine getF_eq dc__law_bits ?_
  show w__law_bits _ [.val (.int n), .val (.int w), .non]
  refine s_ret (r := .vis (itup (bitsM n w))) ?_ rfl rfl rfl
  rw [e1_at, comp_rng (n := w) (f := fun k => ((n / 2 ^ (w - 1 - k) % 2 : Nat) : Int)) (by walk_at "pe") (by omega) fun j hj => ?_]
  · rfl
  · walk_at "pe"
    rw [show (w : Int) - 1 - (j : Int) = ((w - 1 - j : Nat) : Int) by omega, pShr_int (by omega), Int.toNat_natCast, shr1]
    walk_at "pe"
    rw [pMod_int (by omega)]
    rfl
theorem big_num {l : List Int} (h : b01 l) (hl : l.length ≤ 4000) : (numM l).natAbs < BIG := by
  obtain ⟨h1, h2⟩ := numM_bound l h
  have h3 : (numM l).natAbs < 2 ^ l.length := by
    have e : ((2 ^ l.length : Nat) : Int) = 2 ^ l.length := by simp
    omega
  exact big_of h3 (by omega)
theorem number_w {w : WS} {s : Bool} {row : List Int} (h : b01 row) (hl : row.length ≤ 4000) (hw : w = (wSeq (wAsg 1 (eC (.int 0)))
  (wSeq (wFor (iSeq (eVar 0)) (gN 2)
  (wAsg 1 (e2 pAdd (e2 pMul (eC (.int 2)) (eVar 1)) (eVar 2))))
  (wRet (eVar 1))))) : w (endR (.int (numM row))) [.val (iseq s row), .non, .non] := by
  subst hw
  refine q_asg (r := .vis (.int 0)) rfl rfl rfl ?_
  refine q_forMap (u := Dt.int) (xs := row) (fun i e => ∃ z, e = [.val (iseq s row), .val (.int (numM (row.take i))), z]) (seq_ints rfl) ⟨_, rfl⟩ ?_ ?_
  · rintro i env x hx ⟨z, rfl⟩
    refine ⟨_, by walk_at "pe"; rfl, ?_⟩
    refine s_asg (r := .vis (.int (numM (row.take (i + 1))))) ?_ rfl rfl ⟨_, rfl⟩
    have e : numM (row.take (i + 1)) = 2 * numM (row.take i) + x := foldl_take hx
    walk_at "pe"
    rw [pMul_int (big64 (by decide) (by decide)) (big_num (b01_take h) (by rw [List.length_take]; omega)), e]
    walk_at "pe"
  · rintro env ⟨z, rfl⟩
    rw [List.take_length]
    exact s_ret (r := .vis (.int (numM row))) rfl rfl rfl rfl
theorem number_at {s : Bool} {row : List Int} (h : b01 row) (hl : row.length ≤ 4000) : F_number_of [iseq s row] = some (.int (numM row)) := getF_eq dc_number_of (number_w h hl rfl)
theorem lnumber_at {s : Bool} {row : List Int} (h : b01 row) (hl : row.length ≤ 4000) : F__law_number [iseq s row] = some (.int (numM row)) := getF_eq dc__law_number (number_w h hl rfl)
/-! two clauses -/
theorem compL_flatMap {α : Type} {g : Dt → Option (List Dt)} {u : α → Dt} {k : α → List Dt} : ∀ {xs : List α}, (∀ x ∈ xs, g (u x) = some (k x)) → compL g (xs.map u) = some (xs.flatMap k)
  | [], _ => rfl
  | x :: xs, h => by
    rw [List.map_cons]
    unfold compL
    rw [h x (List.mem_cons_self ..)]
    show (compL g (xs.map u)).bind _ = _
    rw [compL_flatMap fun y hy => h y (List.mem_cons_of_mem _ hy)]
    rfl
theorem comp2_of {α β γ : Type} {env : Sl} {own own1 : List Nat} {fi fj : IF} {g h : GF} {fe : EF} {s : Bool} {xs : List α} {u : α → Dt} {ys : α → List β} {u1 : β → Dt} {f : α → β → γ} {v : γ → Dt} (hi : fi env = some (xs.map u, s)) (hl : (xs.flatMap fun x => (ys x).map (f x)).length ≤ 4000000)
    (hx : ∀ x ∈ xs, ∃ env', g (u x) (wipeS env own) = some env' ∧ fj env' = some ((ys x).map u1, false) ∧ ∀ y ∈ ys x, ∃ env'', h (u1 y) (wipeS env' own1) = some env'' ∧ ∃ r, fe env'' = some r ∧ r.sh = false ∧ r.dt = v (f x y)) :
    eComp2 own own1 fi g tYes fj h tYes fe env = some (.fre (.lst ((xs.flatMap fun x => (ys x).map (f x)).map v))) := by
  unfold eComp2
  rw [hi]
  show ((compL _ (xs.map u)).bind _) = _
  rw [compL_flatMap (k := fun x => ((ys x).map (f x)).map v) fun x hm => ?_]
  · have e : (xs.flatMap fun x => ((ys x).map (f x)).map v) = (xs.flatMap fun x => (ys x).map (f x)).map v := by rw [List.map_flatMap]
    rw [e]
    show (if ((xs.flatMap fun x => (ys x).map (f x)).map v).length ≤ LIM then _ else _) = _
    rw [if_pos (by rw [List.length_map]; exact lim_of hl)]
  · obtain ⟨env', h1, h2, h3⟩ := hx x hm
    unfold comp2G
    rw [h1]
    show (fj env').bind _ = _
    rw [h2]
    show compL (compG env' own1 h tYes fe) ((ys x).map u1) = _
    refine compL_map fun y hy => ?_
    obtain ⟨env'', h4, r, h5, h6, h7⟩ := h3 y hy
    rw [compG_at, h4]
    show ((fe env'').bind _) = _
    rw [h5]
    show (if r.sh then none else some [r.dt]) = _
    rw [h6, h7]
    rfl
end Pyl
end
section
set_option Elab.async false
set_option linter.all false
set_option maxHeartbeats 1000000
namespace Pyl
open PySem
local macro_rules | `(tactic| walk_at "pe") => `(tactic| simp (config := { implicitDefEqProofs := false }) only [eVar_at, eC_at, e1_at, e2_at, aNil_at, aCons_at, eTup_at, eLst_at, plain_nil, plain_cons, eCall_at, eIf_at, aApp_at, aDfl_at, List.cons_append, List.nil_append, eAnd_at, eOr_at, eNot_at, tVal_at, tAnd_at, tOr_at, tNot_at, tYes_at,
  pAdd_int, pSub_int, pNeg_int, pLt_int, pLe_int, pGt_int, pGe_int, pEq_int, pNe_int, pIsN_at, pNotN_at, pIx_lst, pIx_tup, pGcd_int, atL0, atL1, atL2, atL3, atL4, atL5, atL6, atL7, atL8, oNone_at, oSome_at, eSlice_at, pLen_lst, pLen_tup, pInt_int, pInt_bl, pAbs_int, pSum_ints, pMax2_int, pMin2_int, pList_lst, pList_tup, pTuple_lst, pTuple_tup, iSeq_at, gN_at, gT_at, gsN_cons, gsN_nil, wipeS_cons, wipeS_nil,
  dt_vis, dt_bor, dt_fre, sh_vis, sh_bor, sh_fre, slot_vis, slot_fre, od_dt, isNon_non, isNon_int, isNon_lst, isNon_tup, scalar_int, scalar_bl, scalar_non, Option.bind_some, Option.bind_none, Option.map_some, Option.map_none, List.getElem?_cons_zero, List.getElem?_cons_succ, List.set_cons_zero, List.set_cons_succ, List.map_cons, List.map_nil, List.any_cons, List.any_nil, Bool.or_false, Bool.false_or, Bool.false_and, Bool.and_true, Bool.true_and, Bool.not_true, Bool.not_false,
  Option.some.injEq, exists_eq_left', exists_eq_left, true_and, and_true, if_true, if_false, Bool.false_eq_true, ite_true, ite_false, reduceIte, decide_eq_true_eq, decide_eq_false_iff_not, R.vis.injEq, R.fre.injEq, Dt.lst.injEq, Dt.tup.injEq, Dt.int.injEq, Slot.own.injEq, OD.lst.injEq, reduceCtorEq, false_and, exists_false, exists_const, Bool.true_eq_false, false_implies, true_implies, implies_true, forall_const])
/-! ### sequences -/
theorem iseq_seqD (s : Bool) (ns : List Int) : iseq s ns = seqD s (ns.map .int) := by cases s <;> rfl
theorem gT_seqD {is : List Nat} {s : Bool} {ds : List Dt} {env : Sl} : gT is (seqD s ds) env = gsN is ds env := by cases s <;> rfl
theorem pLen_seqD (s : Bool) (ds : List Dt) : pLen (seqD s ds) = some (.vis (.int ds.length)) := by cases s <;> rfl
theorem pIx_seqD (s : Bool) (ds : List Dt) (i : Int) : pIx (seqD s ds) (.int i) = (atL ds i).map .vis := by cases s <;> rfl
theorem pList_seqD (s : Bool) (ds : List Dt) : pList (seqD s ds) = some (.fre (.lst ds)) := by cases s <;> rfl
theorem pTuple_seqD (s : Bool) (ds : List Dt) : pTuple (seqD s ds) = some (.vis (.tup ds)) := by cases s <;> rfl
theorem pList_iseq (s : Bool) (ns : List Int) : pList (iseq s ns) = some (.fre (.lst (ns.map .int))) := by cases s <;> rfl
theorem pTuple_iseq (s : Bool) (ns : List Int) : pTuple (iseq s ns) = some (.vis (itup ns)) := by cases s <;> rfl
theorem seq_seqD {env : Sl} {fa : EF} {s : Bool} {ds : List Dt} (h : fa env = some (.vis (seqD s ds))) : iSeq fa env = some (ds, false) := by
  rw [iSeq_at, h]
  cases s <;> rfl
theorem atL_lastI {l : List Int} (h : l ≠ []) : atL (l.map Dt.int) (-1) = some (.int (l.getLastD 0)) := by
  obtain ⟨t, x, rfl⟩ : ∃ t x, l = t ++ [x] := ⟨l.dropLast, l.getLast h, (List.dropLast_concat_getLast h).symm⟩
  rw [List.map_append, List.map_cons, List.map_nil, atL_last]
  simp
theorem q_thenI {a b : WS} {D : En} {env : Sl} (h : a { D with nx := b D, rt := fun _ => False } env) : wThenI a b D env := ⟨b D, h, fun _ h => h⟩
theorem s_drop {f : EF} {D : En} {env : Sl} {r : R} (h : f env = some r) (k : D.nx env) : wDrop f D env := ⟨r, h, k⟩
theorem s_stores {fa : AF} {D : En} {env : Sl} {ds : List Dt} (h0 : env[0]? = some .take) (h : eTup fa env = some (.vis (.tup ds))) (k : D.rt (.tup ds)) : wStores fa D env := ⟨h0, _, h, rfl, k⟩
theorem att_fld {cs : List Nat} {f : Str} {fe : EF} {env : Sl} {c : Nat} {fs : List (Str × Dt)} {d : Dt} (h : fe env = some (.vis (.obj c fs))) (hc : c ∈ cs) (hl : fs.lookup f = some d) : eAtt cs [] f fe env = some (.vis d) := by
  unfold eAtt
  rw [h]
  show (if c ∈ cs then (fs.lookup f).map R.vis else none) = _
  rw [if_pos hc, hl]
  rfl
theorem makeF_at {c : Nat} {ns : List Str} {F : FN} {fa : AF} {env : Sl} {rs : List (Dt × Bool)} {ds vs : List Dt} (h1 : fa env = some rs) (h2 : plain rs = some ds) (h3 : F (.non :: ds) = some (.tup vs)) (h4 : vs.length = ns.length) : eMakeF c ns F fa env = some (.vis (.obj c (ns.zip vs))) := by
  unfold eMakeF
  rw [h1]
  show (plain rs).bind _ = _
  rw [h2]
  show (match F (.non :: ds) with | some (.tup vs) => _ | _ => none) = _
  rw [h3]
  show (if vs.length = ns.length then _ else _) = _
  rw [if_pos h4]
theorem callO_at {ms : MT} {fe : EF} {ft : AF} {env : Sl} {c : Nat} {fs : List (Str × Dt)} {F : FN} {rs : List (Dt × Bool)} {d : Dt} (h : fe env = some (.vis (.obj c fs))) (hm : ms.lookup c = some F) (h1 : ft env = some rs) (h2 : F (.obj c fs :: rs.map (·.1)) = some d) (h3 : (rs.any (·.2) && !d.scalar) = false) : eCallO ms fe ft env = some (.vis d) := by
  unfold eCallO
  rw [h]
  show (ms.lookup c).bind _ = _
  rw [hm]
  show (ft env).bind _ = _
  rw [h1]
  show (F _).bind _ = _
  rw [h2]
  show (if _ then none else some (R.vis d)) = _
  rw [h3]
  rfl
theorem meth_at {ms : MT} {m : Str} {fe : EF} {ft : AF} {env : Sl} {c : Nat} {fs : List (Str × Dt)} {F : FN} {rs : List (Dt × Bool)} {d : Dt} (h : fe env = some (.vis (.obj c fs))) (hm : ms.lookup c = some F) (hn : fs.lookup m = none) (h1 : ft env = some rs) (h2 : F (.obj c fs :: rs.map (·.1)) = some d) (h3 : (rs.any (·.2) && !d.scalar) = false) : eMeth ms m fe ft env = some (.vis d) := by
  unfold eMeth
  rw [h]
  show (ms.lookup c).bind _ = _
  rw [hm]
  show (if fs.lookup m = none then _ else _) = _
  rw [if_pos hn, h1]
  show (F _).bind _ = _
  rw [h2]
  show (if _ then none else some (R.vis d)) = _
  rw [h3]
  rfl
/-! ### gates -/
structure Gt where
  sg : Bool
  sw : Bool
  sb : Bool
  ws : List Int
  bs : List Int
def Gt.d (g : Gt) : Dt := seqD g.sg [iseq g.sw g.ws, iseq g.sb g.bs]
def Gt.dt (g : Gt) : Dt := .tup [itup g.ws, itup g.bs]
def Gt.ins (g : Gt) (vs : List Int) : List Int := g.ws.map fun x => vs.getD x.toNat 0
def Gt.go (g : Gt) (vs : List Int) : Int := g.bs.getD (numM (g.ins vs)).toNat 0
structure GtOk (n : Nat) (g : Gt) : Prop where
  few : g.ws.length ≤ 8
  wires : ∀ x ∈ g.ws, 0 ≤ x ∧ x < (n : Int)
  bits : b01 g.bs
  len : g.bs.length = 2 ^ g.ws.length
def GtsOk : Nat → List Gt → Prop
  | _, [] => True
  | n, g :: gs => GtOk n g ∧ GtsOk (n + 1) gs
def runG : List Gt → List Int → List Int
  | [], vs => vs
  | g :: gs, vs => runG gs (vs ++ [g.go vs])
theorem GtsOk.get : ∀ {n : Nat} {gs : List Gt} {i : Nat} {g : Gt}, GtsOk n gs → gs[i]? = some g → GtOk (n + i) g
  | _, [], _, _, _, h => nomatch h
  | _, _ :: _, 0, _, o, h => by cases h; exact o.1
  | n, _ :: gs, i + 1, g, o, h => by
    have := GtsOk.get o.2 (i := i) (g := g) (by simpa using h)
    rwa [show n + 1 + i = n + (i + 1) by omega] at this
theorem gts_snoc : ∀ {n : Nat} {gs : List Gt} {g : Gt}, GtsOk n gs → GtOk (n + gs.length) g → GtsOk n (gs ++ [g])
  | _, [], _, _, h => ⟨h, trivial⟩
  | n, a :: gs, g, o, h => ⟨o.1, gts_snoc o.2 (by rw [List.length_cons] at h; rwa [show n + 1 + gs.length = n + (gs.length + 1) by omega])⟩
theorem runG_snoc : ∀ (gs : List Gt) (g : Gt) (vs : List Int), runG (gs ++ [g]) vs = runG gs vs ++ [g.go (runG gs vs)]
  | [], _, _ => rfl
  | _ :: gs, g, vs => runG_snoc gs g _
theorem runG_take {gs : List Gt} {i : Nat} {g : Gt} {vs : List Int} (h : gs[i]? = some g) : runG (gs.take (i + 1)) vs = runG (gs.take i) vs ++ [g.go (runG (gs.take i) vs)] := by
  rw [List.take_add_one, h]
  exact runG_snoc _ _ _
theorem runG_len : ∀ (gs : List Gt) (vs : List Int), (runG gs vs).length = vs.length + gs.length
  | [], _ => rfl
  | g :: gs, vs => by
    unfold runG
    rw [runG_len gs, List.length_append, List.length_singleton, List.length_cons]
    omega
theorem go_01 {n : Nat} {g : Gt} {vs : List Int} (h : GtOk n g) : g.go vs = 0 ∨ g.go vs = 1 := b01_getD h.bits
theorem runG_01 : ∀ {n : Nat} {gs : List Gt} {vs : List Int}, GtsOk n gs → b01 vs → b01 (runG gs vs)
  | _, [], _, _, h => h
  | _, g :: gs, vs, o, h => runG_01 (gs := gs) o.2 (b01_snoc.mpr ⟨h, go_01 o.1⟩)
theorem ins_01 {g : Gt} {vs : List Int} (h : b01 vs) : b01 (g.ins vs) := by
  intro x hx
  obtain ⟨y, _, rfl⟩ := List.mem_map.mp hx
  exact b01_getD h
theorem ins_len (g : Gt) (vs : List Int) : (g.ins vs).length = g.ws.length := List.length_map _
theorem go_get {n : Nat} {g : Gt} {vs : List Int} (o : GtOk n g) (h : b01 vs) : g.bs[(numM (g.ins vs)).toNat]? = some (g.go vs) := by
  have := numM_lt (ins_01 (g := g) h) (ins_len g vs)
  exact getD_get (by rw [o.len]; exact this)
theorem gts_take {n i : Nat} {gs : List Gt} (o : GtsOk n gs) : GtsOk n (gs.take i) := by
  induction gs generalizing n i with
  | nil => rw [List.take_nil]; trivial
  | cons g gs ih =>
    cases i with
    | zero => trivial
    | succ i => exact ⟨o.1, ih o.2⟩
/-! what the checks give -/
theorem gate_at {n : Nat} {g : Gt} (o : GtOk n g) : F_is_gate [g.d, .int (n : Int)] = some (.bl true) := by
  refine getF_eq dc_is_gate ?_
  show w_is_gate _ [.val g.d, .val (.int n), .non, .non, .non]
  refine q_unp (d := g.d) rfl (env' := [.val g.d, .val (.int n), .non, .val (iseq g.sw g.ws), .val (iseq g.sb g.bs)]) (by unfold Gt.d; rw [gT_seqD]; rfl) ?_
  have hf := o.few
  refine q_ifD (p := False) ?_ (fun e => e.elim) fun _ => s_nil ?_
  · walk_at "pe"
    rw [pLen_iseq]
    walk_at "pe"
    simp
    omega
  · refine q_forMap (u := Dt.int) (xs := g.ws) (fun _ e => ∃ z, e = [.val g.d, .val (.int n), z, .val (iseq g.sw g.ws), .val (iseq g.sb g.bs)]) (seq_ints rfl) ⟨_, rfl⟩ ?_ ?_
    · rintro i env x hx ⟨z, rfl⟩
      refine ⟨_, by walk_at "pe"; rfl, ?_⟩
      obtain ⟨x0, x1⟩ := o.wires x (List.mem_of_getElem? hx)
      refine s_ifD (p := False) ?_ (fun e => e.elim) fun _ => s_nil ⟨_, rfl⟩
      rw [tOr_at, tNot_at, tNot_at, tVal_at, tVal_at, eChain_at]
      walk_at "pe"
      rw [whole_at]
      walk_at "pe"
      rw [decide_eq_true x0, decide_eq_true x1]
      rfl
    · rintro env ⟨z, rfl⟩
      refine s_ret (r := .vis (.bl true)) ?_ rfl rfl rfl
      walk_at "pe"
      rw [pLen_iseq]
      walk_at "pe"
      rw [pShl_int (by omega) (by omega) (big64 (by decide) (by decide))]
      walk_at "pe"
      rw [show (1 : Int) * 2 ^ (g.ws.length : Int).toNat = ((2 ^ g.ws.length : Nat) : Int) by simp, bits_at o.bits o.len]
      rfl
theorem gates_at {w : Nat} {s : Bool} {gs : List Gt} (o : GtsOk w gs) (h0 : gs ≠ []) (hl : gs.length ≤ 4000000) : F_check_gates [.int (w : Int), seqD s (gs.map Gt.d)] = some .non := by
  refine getF_eq dc_check_gates ?_
  show w_check_gates _ [.val (.int w), .val (seqD s (gs.map Gt.d)), .non]
  have hp : 0 < gs.length := List.length_pos_iff.mpr h0
  refine q_ifD (p := False) ?_ (fun e => e.elim) fun _ => s_nil ?_
  · walk_at "pe"
    rw [pLen_seqD]
    walk_at "pe"
    simp [h0]
  · refine wFor_rng (lo := 0) (n := gs.length) (fun _ e => ∃ z, e = [.val (.int w), .val (seqD s (gs.map Gt.d)), z]) (by rw [rng1 (n := (gs.length : Int)) (by walk_at "pe"; rw [pLen_seqD, List.length_map]) (by omega), Int.toNat_natCast]) ⟨_, rfl⟩ ?_ ?_
    · rintro i env hi ⟨z, rfl⟩
      refine ⟨_, by walk_at "pe"; rfl, ?_⟩
      refine s_ifD (p := False) ?_ (fun e => e.elim) fun _ => s_nil ⟨_, rfl⟩
      have hg : (gs.map Gt.d)[i]? = some (gs[i].d) := by rw [List.getElem?_map, List.getElem?_eq_getElem hi]; rfl
      walk_at "pe"
      rw [pIx_seqD, show (0 : Int) + (i : Int) = ((i : Nat) : Int) by omega, atL_nat, hg]
      walk_at "pe"
      rw [show (w : Int) + (i : Int) = ((w + i : Nat) : Int) by omega, gate_at (o.get (List.getElem?_eq_getElem hi))]
      rfl
    · rintro env ⟨z, rfl⟩
      rfl
/-! ### circuits -/
def cirD (w : Nat) (gs : List Gt) : Dt := .obj 22 [("width", .int w), ("gates", .tup (gs.map Gt.dt))]
theorem cinit_at {w : Nat} {s : Bool} {gs : List Gt} (o : GtsOk w gs) (h0 : gs ≠ []) (hl : gs.length ≤ 4000000) : F_Circuit____init__ [.non, .int (w : Int), seqD s (gs.map Gt.d)] = some (.tup [.int w, .tup (gs.map Gt.dt)]) := by
  refine getF_eq dc_Circuit____init__ ?_
  show wi_Circuit____init__ _ [.take, .val (.int w), .val (seqD s (gs.map Gt.d)), .non, .non]
  refine q_thenI (s_drop (r := .vis .non) ?_ ?_)
  · walk_at "pe"
    rw [gates_at o h0 hl]
    rfl
  · refine s_stores rfl (ds := [.int w, .tup (gs.map Gt.dt)]) ?_ rfl
    rw [eTup_at, aCons_at, aCons_at, e1_at, comp_of (xs := gs) (u := Gt.d) (f := id) (v := Gt.dt) (seq_seqD (s := s) rfl) hl fun g hg => ?_]
    · rw [List.map_id]
      walk_at "pe"
    · refine ⟨[.take, .val (.int w), .val (seqD s (gs.map Gt.d)), .val (iseq g.sw g.ws), .val (iseq g.sb g.bs)], by unfold Gt.d; rw [gT_seqD]; rfl, .vis g.dt, ?_, rfl, rfl⟩
      walk_at "pe"
      rw [pTuple_iseq, pTuple_iseq]
      walk_at "pe"
      rfl
theorem gate_step {env : Sl} {g : Gt} {n i5 i2 : Nat} {vs : List Int} {FN' : FN} (hN : ∀ {s : Bool} {row : List Int}, b01 row → row.length ≤ 4000 → FN' [iseq s row] = some (.int (numM row))) {f3 f4 : EF} {b3 b4 : Bool} (h3 : f3 env = some (.vis (iseq b3 g.ws))) (h4 : f4 env = some (.vis (iseq b4 g.bs))) (o : GtOk n g) (hv : b01 vs) (hn : n = vs.length)
    (hi : ∀ x : Int, eVar i2 ((wipeS env [i5]).set i5 (.val (.int x))) = some (.bor (.lst (vs.map .int))) ∧ eVar i5 ((wipeS env [i5]).set i5 (.val (.int x))) = some (.vis (.int x))) :
    e2 pIx f4 (eCall FN' (aCons (eComp [i5] (iSeq f3) (gN i5) tYes (e2 pIx (eVar i2) (eVar i5))) aNil)) env = some (.vis (.int (g.go vs))) := by
  have hc : eComp [i5] (iSeq f3) (gN i5) tYes (e2 pIx (eVar i2) (eVar i5)) env = some (.fre (.lst ((g.ins vs).map .int))) := by
    refine comp_of (xs := g.ws) (u := Dt.int) (f := fun x => vs.getD x.toNat 0) (v := Dt.int) (seq_ints h3) (by have := o.few; omega) fun x hx => ?_
    obtain ⟨x0, x1⟩ := o.wires x hx
    obtain ⟨q1, q2⟩ := hi x
    refine ⟨_, gN_at, .vis (.int (vs.getD x.toNat 0)), ?_, rfl, rfl⟩
    rw [e2_at, q1, q2]
    show pIx (.lst (vs.map .int)) (.int x) = _
    exact pIx_iseq (b := false) x0 (getD_get (by omega))
  rw [e2_at, h4, eCall_at, aCons_at, hc]
  walk_at "pe"
  have := hN (s := false) (ins_01 (g := g) hv) (by rw [ins_len]; have := o.few; omega)
  rw [show Dt.lst ((g.ins vs).map .int) = iseq false (g.ins vs) from rfl, this]
  walk_at "pe"
  have nb := (numM_bound (g.ins vs) (ins_01 hv)).1
  exact pIx_iseq nb (go_get o hv)
theorem ccall_at {w : Nat} {s : Bool} {gs : List Gt} {row : List Int} (o : GtsOk w gs) (h0 : gs ≠ []) (hl : gs.length ≤ 4000) (hr : b01 row) (hw : row.length = w) (hw2 : w ≤ 1000) : F_Circuit____call__ [cirD w gs, iseq s row] = some (.int ((runG gs row).getLastD 0)) := by
  refine getF_eq dc_Circuit____call__ ?_
  show w_Circuit____call__ _ [.val (cirD w gs), .val (iseq s row), .non, .non, .non, .non]
  refine q_asg (r := .fre (.lst (row.map .int))) (by walk_at "pe"; rw [pList_iseq]) rfl rfl ?_
  refine q_forMap (u := Gt.dt) (xs := gs) (fun i e => ∃ z3 z4, e = [.val (cirD w gs), .val (iseq s row), .own (.lst ((runG (gs.take i) row).map .int)), z3, z4, .non]) (seq_seqD (s := true) (by rw [att_fld (c := 22) rfl (by decide) rfl]; rfl)) ⟨_, _, rfl⟩ ?_ ?_
  · rintro i env g hg ⟨z3, z4, rfl⟩
    refine ⟨_, by unfold Gt.dt; walk_at "pe"; rfl, ?_⟩
    have hlen : (runG (gs.take i) row).length = w + i := by
      rw [runG_len, List.length_take, hw, Nat.min_eq_left (Nat.le_of_lt (List.getElem?_eq_some_iff.mp hg).1)]
    have hi := (List.getElem?_eq_some_iff.mp hg).1
    refine s_app (d := .int (g.go (runG (gs.take i) row))) rfl (r := .vis (.int (g.go (runG (gs.take i) row)))) (gate_step (n := w + i) (b3 := true) (b4 := true) number_at rfl rfl (o.get hg) (runG_01 (gts_take o) hr) hlen.symm fun x => ⟨rfl, rfl⟩) rfl (by rw [List.length_map, hlen]; exact lim_lt (by omega)) rfl rfl ⟨.val (itup g.ws), .val (itup g.bs), ?_⟩
    rw [runG_take hg, List.map_append]
    rfl
  · rintro env ⟨z3, z4, rfl⟩
    rw [List.take_length]
    refine s_ret (r := .vis (.int ((runG gs row).getLastD 0))) ?_ rfl rfl rfl
    walk_at "pe"
    rw [atL_lastI (by intro e; have := runG_len gs row; rw [e] at this; have := List.length_pos_iff.mpr h0; simp at *; omega)]
    rfl
end Pyl
end
section
set_option Elab.async false
set_option linter.all false
set_option maxHeartbeats 4000000
namespace Pyl
open PySem
local macro_rules | `(tactic| walk_at "pe") => `(tactic| simp (config := { implicitDefEqProofs := false }) only [eVar_at, eC_at, e1_at, e2_at, aNil_at, aCons_at, eTup_at, eLst_at, plain_nil, plain_cons, eCall_at, eIf_at, aApp_at, aDfl_at, List.cons_append, List.nil_append, eAnd_at, eOr_at, eNot_at, tVal_at, tAnd_at, tOr_at, tNot_at, tYes_at,
  pAdd_int, pSub_int, pNeg_int, pLt_int, pLe_int, pGt_int, pGe_int, pEq_int, pNe_int, pIsN_at, pNotN_at, pIx_lst, pIx_tup, pGcd_int, atL0, atL1, atL2, atL3, atL4, atL5, atL6, atL7, atL8, oNone_at, oSome_at, eSlice_at, pLen_lst, pLen_tup, pInt_int, pInt_bl, pAbs_int, pSum_ints, pMax2_int, pMin2_int, pList_lst, pList_tup, pTuple_lst, pTuple_tup, iSeq_at, gN_at, gT_at, gsN_cons, gsN_nil, wipeS_cons, wipeS_nil,
  dt_vis, dt_bor, dt_fre, sh_vis, sh_bor, sh_fre, slot_vis, slot_fre, od_dt, isNon_non, isNon_int, isNon_lst, isNon_tup, scalar_int, scalar_bl, scalar_non, Option.bind_some, Option.bind_none, Option.map_some, Option.map_none, List.getElem?_cons_zero, List.getElem?_cons_succ, List.set_cons_zero, List.set_cons_succ, List.map_cons, List.map_nil, List.any_cons, List.any_nil, Bool.or_false, Bool.false_or, Bool.false_and, Bool.and_true, Bool.true_and, Bool.not_true, Bool.not_false,
  Option.some.injEq, exists_eq_left', exists_eq_left, true_and, and_true, if_true, if_false, Bool.false_eq_true, ite_true, ite_false, reduceIte, decide_eq_true_eq, decide_eq_false_iff_not, R.vis.injEq, R.fre.injEq, Dt.lst.injEq, Dt.tup.injEq, Dt.int.injEq, Slot.own.injEq, OD.lst.injEq, reduceCtorEq, false_and, exists_false, exists_const, Bool.true_eq_false, false_implies, true_implies, implies_true, forall_const])
/-! ### trees -/
inductive Nd where
  | leaf (b : Int) | look (s : Bool) (p : Int) (z o : Nd)
def Nd.d : Nd → Dt
  | .leaf b => .int b
  | .look s p z o => seqD s [.int p, z.d, o.d]
def Nd.dt : Nd → Dt
  | .leaf b => .int b
  | .look _ p z o => .tup [.int p, z.dt, o.dt]
def Nd.ans (row : List Int) : Nd → Int
  | .leaf b => b
  | .look _ p z o => if row.getD p.toNat 0 = 0 then z.ans row else o.ans row
def Nd.dep : Nd → Nat
  | .leaf _ => 0
  | .look _ _ z o => max z.dep o.dep + 1
def Nd.size : Nd → Nat
  | .leaf _ => 1
  | .look _ _ z o => z.size + o.size + 1
def OkN (w : Nat) (above : List Int) : Nd → Prop
  | .leaf b => b = 0 ∨ b = 1
  | .look _ p z o => 0 ≤ p ∧ p < (w : Int) ∧ p ∉ above ∧ OkN w (above ++ [p]) z ∧ OkN w (above ++ [p]) o
/-- distinct places below w -/
def Abv (w : Nat) (above : List Int) : Prop := above.Nodup ∧ ∀ p ∈ above, 0 ≤ p ∧ p < (w : Int)
theorem abv_nil (w : Nat) : Abv w [] := ⟨List.nodup_nil, fun _ h => nomatch h⟩
theorem Abv.snoc {w : Nat} {above : List Int} {p : Int} (h : Abv w above) (h0 : 0 ≤ p) (h1 : p < (w : Int)) (h2 : p ∉ above) : Abv w (above ++ [p]) := by
  refine ⟨List.nodup_append.mpr ⟨h.1, by simp, fun a ha b hb => ?_⟩, fun q hq => ?_⟩
  · rw [List.mem_singleton.mp hb]
    intro e
    rw [e] at ha
    exact h2 ha
  · rcases List.mem_append.mp hq with q1 | q1
    · exact h.2 q q1
    · rw [List.mem_singleton.mp q1]; exact ⟨h0, h1⟩
theorem nodup_le : ∀ (w : Nat) (l : List Nat), l.Nodup → (∀ x ∈ l, x < w) → l.length ≤ w
  | 0, l, _, h => by
    cases l with
    | nil => exact Nat.le_refl _
    | cons a t => exact absurd (h a (List.mem_cons_self ..)) (Nat.not_lt_zero _)
  | w + 1, l, hn, h => by
    have h2 := nodup_le w (l.erase w) (hn.erase w) fun x hx => by
      have h3 := h x (List.mem_of_mem_erase hx)
      have h4 : x ≠ w := fun e => by
        rw [e] at hx
        exact (List.Nodup.not_mem_erase hn) hx
      omega
    have h5 := List.length_erase (a := w) (l := l)
    split at h5 <;> omega
theorem Abv.len {w : Nat} {above : List Int} (h : Abv w above) : above.length ≤ w := by
  have h1 : (above.map Int.toNat).Nodup := by
    rw [List.Nodup, List.pairwise_map]
    refine h.1.imp_of_mem fun {a b} ha hb ne e => ?_
    have := h.2 a ha
    have := h.2 b hb
    exact ne (by omega)
  have h2 : above.map Int.toNat ⊆ List.range w := by
    intro x hx
    obtain ⟨p, hp, rfl⟩ := List.mem_map.mp hx
    have := h.2 p hp
    rw [List.mem_range]
    omega
  have := nodup_le w _ h1 fun x hx => List.mem_range.mp (h2 hx)
  rwa [List.length_map] at this
theorem okN_dep {w : Nat} : ∀ {n : Nd} {above : List Int}, Abv w above → OkN w above n → above.length + n.dep ≤ w
  | .leaf _, _, h, _ => h.len
  | .look _ p z o, above, h, ⟨h0, h1, h2, h3, h4⟩ => by
    have q := h.snoc h0 h1 h2
    have q1 := okN_dep q h3
    have q2 := okN_dep q h4
    rw [List.length_append, List.length_singleton] at q1 q2
    unfold Nd.dep
    omega
theorem size_dep : ∀ n : Nd, n.size < 2 ^ (n.dep + 1)
  | .leaf _ => by show 1 < 2 ^ (0 + 1); decide
  | .look _ _ z o => by
    have h1 := size_dep z
    have h2 := size_dep o
    unfold Nd.size Nd.dep
    have q1 : 2 ^ (z.dep + 1) ≤ 2 ^ (max z.dep o.dep + 1) := Nat.pow_le_pow_right (by decide) (by omega)
    have q2 : 2 ^ (o.dep + 1) ≤ 2 ^ (max z.dep o.dep + 1) := Nat.pow_le_pow_right (by decide) (by omega)
    rw [Nat.pow_succ 2 (max z.dep o.dep + 1)]
    omega
theorem ans_01 {w : Nat} {row : List Int} : ∀ {n : Nd} {above : List Int}, OkN w above n → n.ans row = 0 ∨ n.ans row = 1
  | .leaf _, _, h => h
  | .look _ p z o, _, ⟨_, _, _, h3, h4⟩ => by
    unfold Nd.ans
    split
    · exact ans_01 h3
    · exact ans_01 h4
theorem OkN.size {w : Nat} {n : Nd} (h : OkN w [] n) (hw : w ≤ 20) : n.size ≤ 3000000 := by
  have h1 := okN_dep (abv_nil w) h
  have h2 := size_dep n
  have h3 : 2 ^ (n.dep + 1) ≤ 2 ^ 21 := Nat.pow_le_pow_right (by decide) (by simp at h1; omega)
  have h4 : (2 : Nat) ^ 21 = 2097152 := by decide
  omega
/-! the nodes of trees, one behind another -/
def pre : Nd → List Nd
  | .leaf b => [.leaf b]
  | .look s p z o => .look s p z o :: (pre z ++ pre o)
def opened : List Nd → List Nd
  | [] => []
  | .leaf _ :: r => r
  | .look _ _ z o :: r => z :: o :: r
def open_ : Nat → List Nd → List Nd
  | 0, r => r
  | k + 1, r => opened (open_ k r)
def fsize (r : List Nd) : Nat := (r.map Nd.size).sum
theorem pre_len : ∀ n : Nd, (pre n).length = n.size
  | .leaf _ => rfl
  | .look s p z o => by
    unfold pre Nd.size
    rw [List.length_cons, List.length_append, pre_len z, pre_len o]
theorem open_pre : ∀ r : List Nd, (opened r).flatMap pre = (r.flatMap pre).drop 1
  | [] => rfl
  | .leaf b :: r => rfl
  | .look s p z o :: r => by
    show (z :: o :: r).flatMap pre = ((pre (.look s p z o)) ++ r.flatMap pre).drop 1
    unfold pre
    rw [List.cons_append, List.drop_one, List.tail_cons, List.flatMap_cons, List.flatMap_cons, List.append_assoc]
theorem openk_pre (r : List Nd) : ∀ k, (open_ k r).flatMap pre = (r.flatMap pre).drop k
  | 0 => rfl
  | k + 1 => by
    show (opened (open_ k r)).flatMap pre = _
    rw [open_pre, openk_pre r k, List.drop_drop]
theorem head_pre (n : Nd) : ∃ t, pre n = n :: t := by cases n <;> exact ⟨_, rfl⟩
theorem opened_size : ∀ {n : Nd} {r : List Nd}, fsize (opened (n :: r)) + 1 = fsize (n :: r)
  | .leaf _, r => by
    show (r.map Nd.size).sum + 1 = (List.map Nd.size (.leaf _ :: r)).sum
    rw [List.map_cons, List.sum_cons]
    unfold Nd.size
    omega
  | .look s p z o, r => by
    show (List.map Nd.size (z :: o :: r)).sum + 1 = (List.map Nd.size (.look s p z o :: r)).sum
    rw [List.map_cons, List.map_cons, List.map_cons, List.sum_cons, List.sum_cons, List.sum_cons]
    conv => rhs; unfold Nd.size
    omega
theorem size_pos (n : Nd) : 0 < n.size := by cases n <;> (unfold Nd.size; omega)
theorem fsize_pos {n : Nd} {r : List Nd} : 0 < fsize (n :: r) := by
  have := size_pos n
  unfold fsize
  rw [List.map_cons, List.sum_cons]
  omega
theorem fsize_len : ∀ r : List Nd, r.length ≤ fsize r
  | [] => Nat.le_refl _
  | n :: r => by
    have := fsize_len r
    have := size_pos n
    unfold fsize at *
    rw [List.map_cons, List.sum_cons, List.length_cons]
    omega
/-! what the checks give -/
def isLeaf : Nd → Bool
  | .leaf _ => true
  | _ => false
theorem d_bit {w : Nat} {above : List Int} : ∀ {n : Nd}, OkN w above n → F_is_bit [n.d] = some (.bl (isLeaf n))
  | .leaf b, h => bit01 h
  | .look s p z o, _ => bit_seq s _
theorem isiT_seq (s : Bool) (ds : List Dt) : pIsiT ["list", "tuple"] (seqD s ds) = some (.vis (.bl true)) := by cases s <;> rfl
theorem inInts_tup (i : Int) (ns : List Int) : pNotIn (.int i) (itup ns) = some (.vis (.bl (decide (i ∉ ns)))) := by
  unfold pNotIn inInts itup
  dsimp only
  rw [intsOf_ints]
  simp
theorem look_at {w : Nat} {above : List Int} {s : Bool} {p : Int} {z o : Nd} (h : OkN w above (.look s p z o)) : F_is_look [(Nd.look s p z o).d, .int (w : Int), itup above] = some (.bl true) := by
  obtain ⟨h0, h1, h2, _, _⟩ := h
  refine getF_eq dc_is_look ?_
  show w_is_look _ [.val (seqD s [.int p, z.d, o.d]), .val (.int w), .val (itup above), .non]
  refine q_ifD (p := False) ?_ (fun e => e.elim) fun _ => s_nil ?_
  · walk_at "pe"
    rw [isiT_seq, pLen_seqD]
    rfl
  · refine q_asg (r := .vis (.int p)) (by walk_at "pe"; rw [pIx_seqD]; rfl) rfl rfl ?_
    refine s_ret (r := .vis (.bl true)) ?_ rfl rfl rfl
    rw [eAnd_at, eAnd_at, eChain_at]
    walk_at "pe"
    rw [whole_at, inInts_tup, decide_eq_true h0, decide_eq_true h1, decide_eq_true h2]
    rfl
/-- what waits: nodes, their paths, the places above them -/
structure Wt where
  n : Nd
  path : List Int
  above : List Int
def Wt.d (t : Wt) : Dt := .tup [t.n.d, itup t.path, itup t.above]
theorem dropLast_rev {α : Type} (x : α) (l : List α) : ((x :: l).reverse).dropLast = l.reverse := by
  rw [List.reverse_cons, List.dropLast_concat]
theorem last_rev {α : Type} (x : α) (l : List α) : ((x :: l).reverse)[((x :: l).reverse).length - 1]? = some x := by
  rw [List.reverse_cons, List.length_append, List.length_singleton, Nat.add_sub_cancel, List.getElem?_append_right (Nat.le_refl _), Nat.sub_self]
  rfl
theorem len_pos_int {n : Nat} : decide (((n + 1 : Nat) : Int) > 0) = true := decide_eq_true (by omega)
theorem bad_path_at {w : Nat} {n : Nd} (h : OkN w [] n) (hw : w ≤ 20) : F_bad_path [n.d, .int (w : Int)] = some .non := by
  refine getF_eq dc_bad_path ?_
  show w_bad_path _ [.val n.d, .val (.int w), .non, .non, .non, .non, .non]
  refine q_asg (r := .fre (.lst [Wt.d ⟨n, [], []⟩])) (by walk_at "pe"; rfl) rfl rfl ?_
  have hsz := h.size hw
  refine q_while (fun m e => ∃ (r : List Wt) (z3 z4 z5 z6 : Slot), m = fsize (r.map Wt.n) ∧ m ≤ 3000000 ∧ (∀ t ∈ r, OkN w t.above t.n ∧ t.path.length ≤ 100 ∧ t.path.length = t.above.length ∧ Abv w t.above) ∧ e = [.val n.d, .val (.int w), .own (.lst (r.map Wt.d).reverse), z3, z4, z5, z6]) n.size ⟨[⟨n, [], []⟩], _, _, _, _, by simp [fsize], by omega, ?_, rfl⟩ ?_
  · intro t ht
    rw [List.mem_singleton.mp ht]
    exact ⟨h, Nat.zero_le _, rfl, abv_nil w⟩
  · rintro m env ⟨r, z3, z4, z5, z6, rfl, hm, hr, rfl⟩
    match r, hr with
    | [], _ =>
      refine ⟨false, by walk_at "pe"; simp, fun e => (nomatch e), fun _ => ?_⟩
      exact s_ret (r := .vis .non) rfl rfl rfl rfl
    | t :: r, hr =>
      obtain ⟨t1, t2, t3, t4⟩ := hr t (List.mem_cons_self ..)
      refine ⟨true, ?_, fun _ => ?_, fun e => (nomatch e)⟩
      · walk_at "pe"
        rw [List.length_reverse, List.length_cons]
        omega
      · refine q_go ⟨_, t.d, [.val n.d, .val (.int w), .own (.lst (r.map Wt.d).reverse), .val t.n.d, .val (itup t.path), .val (itup t.above), z6], rfl, last_rev (t.d) (r.map Wt.d), ?_, ?_⟩
        · rw [List.map_cons, dropLast_rev]
          rfl
        · have hfs : fsize ((t :: r).map Wt.n) = t.n.size + fsize (r.map Wt.n) := by unfold fsize; rw [List.map_cons, List.map_cons, List.sum_cons]
          obtain ⟨tn, tp, ta⟩ := t
          match tn, t1 with
          | .leaf b, t1 =>
            refine s_ifD (p := False) ?_ (fun e => e.elim) fun _ => ?_
            · walk_at "pe"
              rw [d_bit t1]
              rfl
            · refine s_nil ⟨_, ?_, r, _, _, _, _, rfl, ?_, fun x hx => hr x (List.mem_cons_of_mem _ hx), rfl⟩
              · rw [hfs]
                show _ < 1 + _
                omega
              · rw [hfs] at hm
                omega
          | .look s p z o, t1 =>
            have hd : (⟨.look s p z o, tp, ta⟩ : Wt).n.d = seqD s [.int p, z.d, o.d] := rfl
            obtain ⟨p0, p1, p2, p3, p4⟩ := id t1
            refine s_ifD (p := True) ?_ (fun _ => ?_) fun e => (e trivial).elim
            · walk_at "pe"
              rw [d_bit t1]
              rfl
            · refine q_ifD (p := False) ?_ (fun e => e.elim) fun _ => s_nil ?_
              · walk_at "pe"
                rw [look_at t1]
                rfl
              · have hl : ta.length ≤ w := t4.len
                refine q_asg (r := .vis (itup (ta ++ [p]))) ?_ rfl rfl ?_
                · walk_at "pe"
                  rw [hd, pIx_seqD]
                  walk_at "pe"
                  unfold itup
                  rw [pAdd_tup (by simp [LIM]; omega), List.map_append]
                  rfl
                · have hpl : ∀ x : Int, pAdd (itup tp) (.tup [.int x]) = some (.vis (itup (tp ++ [x]))) := fun x => by
                    unfold itup
                    rw [pAdd_tup (by simp [LIM]; simp at t2; omega), List.map_append]
                    rfl
                  have hlen : r.length ≤ 3000000 := by
                    have := fsize_len (r.map Wt.n)
                    rw [List.length_map] at this
                    omega
                  refine q_app (d := Wt.d ⟨o, tp ++ [1], ta ++ [p]⟩) rfl (r := .vis (Wt.d ⟨o, tp ++ [1], ta ++ [p]⟩)) ?_ rfl (by rw [List.length_reverse, List.length_map]; exact lim_lt (by omega)) rfl rfl ?_
                  · walk_at "pe"
                    rw [hd, pIx_seqD, hpl]
                    walk_at "pe"
                    rfl
                  · refine s_app (d := Wt.d ⟨z, tp ++ [0], ta ++ [p]⟩) rfl (r := .vis (Wt.d ⟨z, tp ++ [0], ta ++ [p]⟩)) ?_ rfl (by rw [List.length_append, List.length_reverse, List.length_map]; exact lim_lt (by simp; omega)) rfl rfl ?_
                    · walk_at "pe"
                      rw [hd, pIx_seqD, hpl]
                      walk_at "pe"
                      rfl
                    · have q := t4.snoc p0 p1 p2
                      have ql := q.len
                      rw [List.length_append, List.length_singleton] at ql
                      have hf2 : fsize ((⟨z, tp ++ [0], ta ++ [p]⟩ :: ⟨o, tp ++ [1], ta ++ [p]⟩ :: r : List Wt).map Wt.n) + 1 = fsize ((⟨.look s p z o, tp, ta⟩ :: r : List Wt).map Wt.n) := opened_size (n := .look s p z o) (r := r.map Wt.n)
                      simp only at t2 t3
                      refine ⟨_, ?_, ⟨z, tp ++ [0], ta ++ [p]⟩ :: ⟨o, tp ++ [1], ta ++ [p]⟩ :: r, .val (Nd.look s p z o).d, .val (itup tp), .val (itup ta), .val (itup (ta ++ [p])), rfl, ?_, ?_, ?_⟩
                      · omega
                      · omega
                      · intro x hx
                        rcases List.mem_cons.mp hx with e | hx
                        · rw [e]
                          exact ⟨p3, by show (tp ++ [0]).length ≤ 100; simp; omega, by simp [t3], q⟩
                        · rcases List.mem_cons.mp hx with e | hx
                          · rw [e]
                            exact ⟨p4, by show (tp ++ [1]).length ≤ 100; simp; omega, by simp [t3], q⟩
                          · exact hr x (List.mem_cons_of_mem _ hx)
                      · rw [List.map_cons, List.map_cons, List.reverse_cons, List.reverse_cons]
                        rfl
end Pyl
end
section
set_option Elab.async false
set_option linter.all false
set_option maxHeartbeats 4000000
namespace Pyl
open PySem
local macro_rules | `(tactic| walk_at "pe") => `(tactic| simp (config := { implicitDefEqProofs := false }) only [eVar_at, eC_at, e1_at, e2_at, aNil_at, aCons_at, eTup_at, eLst_at, plain_nil, plain_cons, eCall_at, eIf_at, aApp_at, aDfl_at, List.cons_append, List.nil_append, eAnd_at, eOr_at, eNot_at, tVal_at, tAnd_at, tOr_at, tNot_at, tYes_at,
  pAdd_int, pSub_int, pNeg_int, pLt_int, pLe_int, pGt_int, pGe_int, pEq_int, pNe_int, pIsN_at, pNotN_at, pIx_lst, pIx_tup, pGcd_int, atL0, atL1, atL2, atL3, atL4, atL5, atL6, atL7, atL8, oNone_at, oSome_at, eSlice_at, pLen_lst, pLen_tup, pInt_int, pInt_bl, pAbs_int, pSum_ints, pMax2_int, pMin2_int, pList_lst, pList_tup, pTuple_lst, pTuple_tup, iSeq_at, gN_at, gT_at, gsN_cons, gsN_nil, wipeS_cons, wipeS_nil,
  dt_vis, dt_bor, dt_fre, sh_vis, sh_bor, sh_fre, slot_vis, slot_fre, od_dt, isNon_non, isNon_int, isNon_lst, isNon_tup, scalar_int, scalar_bl, scalar_non, Option.bind_some, Option.bind_none, Option.map_some, Option.map_none, List.getElem?_cons_zero, List.getElem?_cons_succ, List.set_cons_zero, List.set_cons_succ, List.map_cons, List.map_nil, List.any_cons, List.any_nil, Bool.or_false, Bool.false_or, Bool.false_and, Bool.and_true, Bool.true_and, Bool.not_true, Bool.not_false,
  Option.some.injEq, exists_eq_left', exists_eq_left, true_and, and_true, if_true, if_false, Bool.false_eq_true, ite_true, ite_false, reduceIte, decide_eq_true_eq, decide_eq_false_iff_not, R.vis.injEq, R.fre.injEq, Dt.lst.injEq, Dt.tup.injEq, Dt.int.injEq, Slot.own.injEq, OD.lst.injEq, reduceCtorEq, false_and, exists_false, exists_const, Bool.true_eq_false, false_implies, true_implies, implies_true, forall_const])
theorem parts_at {w : Nat} {n : Nd} (h : OkN w [] n) (hw : w ≤ 20) : F_parts_of [n.d] = some (.lst ((pre n).map Nd.d)) := by
  refine getF_eq dc_parts_of ?_
  show w_parts_of _ [.val n.d, .non, .non, .non]
  refine q_asg (r := .fre (.lst [])) rfl rfl rfl ?_
  refine q_asg (r := .fre (.lst [n.d])) (by walk_at "pe") rfl rfl ?_
  have hsz := h.size hw
  refine q_while (fun m e => ∃ (k : Nat) (r : List Nd) (z3 : Slot), r = open_ k [n] ∧ m = fsize r ∧ m + k = n.size ∧ (∀ t ∈ r, ∃ above, OkN w above t) ∧ e = [.val n.d, .own (.lst (((pre n).take k).map Nd.d)), .own (.lst (r.map Nd.d).reverse), z3]) n.size ⟨0, [n], _, rfl, by simp [fsize], rfl, ?_, rfl⟩ ?_
  · intro t ht
    rw [List.mem_singleton.mp ht]
    exact ⟨[], h⟩
  · rintro m env ⟨k, r, z3, hk, rfl, hm, hr, rfl⟩
    have hpre : r.flatMap pre = (pre n).drop k := by
      rw [hk, openk_pre]
      simp
    match r, hr with
    | [], _ =>
      refine ⟨false, by walk_at "pe"; simp, fun e => (nomatch e), fun _ => ?_⟩
      refine q_frz rfl rfl (s_ret (r := .vis (.lst ((pre n).map Nd.d))) ?_ rfl rfl rfl)
      have : (pre n).take k = pre n := List.take_of_length_le (by rw [pre_len]; unfold fsize at hm; simp at hm; omega)
      rw [this]
      rfl
    | t :: r, hr =>
      have hfs : fsize (t :: r) = t.size + fsize r := by unfold fsize; rw [List.map_cons, List.sum_cons]
      have htp := size_pos t
      have hget : (pre n)[k]? = some t := by
        obtain ⟨tl, e⟩ := head_pre t
        have := congrArg (fun l => l[0]?) hpre
        simp only [List.flatMap_cons, e, List.cons_append, List.getElem?_cons_zero, List.getElem?_drop, Nat.add_zero] at this
        exact this.symm
      have hkl : ((pre n).take k).length ≤ 3000000 := by rw [List.length_take]; omega
      have htk : (pre n).take (k + 1) = (pre n).take k ++ [t] := by rw [List.take_add_one, hget]; rfl
      have hrl := fsize_len r
      refine ⟨true, ?_, fun _ => ?_, fun e => (nomatch e)⟩
      · walk_at "pe"
        rw [List.length_reverse, List.length_cons]
        omega
      · refine q_go ⟨_, t.d, [.val n.d, .own (.lst (((pre n).take k).map Nd.d)), .own (.lst (r.map Nd.d).reverse), .val t.d], rfl, last_rev (t.d) (r.map Nd.d), ?_, ?_⟩
        · rw [List.map_cons, dropLast_rev]
          rfl
        · obtain ⟨above, ht⟩ := hr t (List.mem_cons_self ..)
          refine q_app (d := t.d) rfl (r := .vis t.d) rfl rfl (by rw [List.length_map]; exact lim_lt (by omega)) rfl rfl ?_
          match t, ht with
          | .leaf b, ht =>
            refine s_ifD (p := False) ?_ (fun e => e.elim) fun _ => ?_
            · walk_at "pe"
              rw [d_bit ht]
              rfl
            · refine s_nil ⟨fsize r, ?_, k + 1, r, .val (.int b), ?_, rfl, ?_, fun x hx => hr x (List.mem_cons_of_mem _ hx), ?_⟩
              · rw [hfs]; omega
              · show r = opened (open_ k [n])
                rw [← hk]
                rfl
              · rw [hfs] at hm
                have hs : (Nd.leaf b).size = 1 := rfl
                omega
              · rw [htk, List.map_append]
                rfl
          | .look s p z o, ht =>
            have hd : (Nd.look s p z o).d = seqD s [.int p, z.d, o.d] := rfl
            obtain ⟨_, _, _, p3, p4⟩ := id ht
            have hf2 : fsize (z :: o :: r) + 1 = fsize (.look s p z o :: r) := opened_size (n := .look s p z o) (r := r)
            refine s_ifD (p := True) ?_ (fun _ => ?_) fun e => (e trivial).elim
            · walk_at "pe"
              rw [d_bit ht]
              rfl
            · refine q_app (d := o.d) rfl (r := .vis o.d) ?_ rfl (by rw [List.length_reverse, List.length_map]; exact lim_lt (by omega)) rfl rfl ?_
              · walk_at "pe"
                rw [hd, pIx_seqD]
                rfl
              · refine s_app (d := z.d) rfl (r := .vis z.d) ?_ rfl (by rw [List.length_append, List.length_reverse, List.length_map]; exact lim_lt (by simp; omega)) rfl rfl ?_
                · walk_at "pe"
                  rw [hd, pIx_seqD]
                  rfl
                · refine ⟨_, ?_, k + 1, z :: o :: r, .val (Nd.look s p z o).d, ?_, rfl, ?_, ?_, ?_⟩
                  · omega
                  · show _ = opened (open_ k [n])
                    rw [← hk]
                    rfl
                  · omega
                  · intro x hx
                    rcases List.mem_cons.mp hx with e | hx
                    · rw [e]; exact ⟨_, p3⟩
                    · rcases List.mem_cons.mp hx with e | hx
                      · rw [e]; exact ⟨_, p4⟩
                      · exact hr x (List.mem_cons_of_mem _ hx)
                  · rw [htk, List.map_append]
                    simp only [List.map_cons, List.map_nil, List.reverse_cons]
                    rfl
/-- all that stands in r is right -/
def OkR (w : Nat) (r : List Nd) : Prop := ∀ t ∈ r, ∃ above, OkN w above t
theorem OkR.opened {w : Nat} : ∀ {r : List Nd}, OkR w r → OkR w (opened r)
  | [], h => h
  | .leaf b :: r, h => fun t ht => h t (List.mem_cons_of_mem _ ht)
  | .look s p z o :: r, h => fun t ht => by
    obtain ⟨above, _, _, _, p3, p4⟩ := h _ (List.mem_cons_self ..)
    rcases List.mem_cons.mp ht with e | ht
    · rw [e]; exact ⟨_, p3⟩
    · rcases List.mem_cons.mp ht with e | ht
      · rw [e]; exact ⟨_, p4⟩
      · exact h t (List.mem_cons_of_mem _ ht)
theorem OkR.open_ {w : Nat} {r : List Nd} (h : OkR w r) : ∀ k, OkR w (open_ k r)
  | 0 => h
  | k + 1 => (OkR.open_ h k).opened
theorem open_size (n : Nd) : ∀ k, k ≤ n.size → fsize (open_ k [n]) + k = n.size
  | 0, _ => by show fsize [n] + 0 = _; simp [fsize]
  | k + 1, h => by
    have ih := open_size n k (by omega)
    show fsize (opened (open_ k [n])) + (k + 1) = _
    match e : open_ k [n] with
    | [] => rw [e] at ih; have : fsize [] = 0 := rfl; omega
    | t :: r =>
      have := @opened_size t r
      rw [e] at ih
      omega
theorem joined_at {w : Nat} {n : Nd} (h : OkN w [] n) (hw : w ≤ 20) : F_joined_node [.lst ((pre n).map Nd.d)] = some n.dt := by
  refine getF_eq dc_joined_node ?_
  show w_joined_node _ [.val (.lst ((pre n).map Nd.d)), .non, .non, .non, .non, .non]
  have hsz := h.size hw
  have hok : OkR w [n] := fun t ht => by rw [List.mem_singleton.mp ht]; exact ⟨[], h⟩
  refine q_asg (r := .fre (.lst [])) rfl rfl rfl ?_
  refine q_forRng (lo := 0) (n := n.size) (fun i e => ∃ (z2 z3 z4 z5 : Slot), e = [.val (.lst ((pre n).map Nd.d)), .own (.lst ((open_ (n.size - i) [n]).map Nd.dt).reverse), z2, z3, z4, z5])
    (by rw [rng1 (n := (n.size : Int)) (by walk_at "pe"; rw [List.length_map, pre_len]) (by omega), Int.toNat_natCast]) ⟨.non, .non, .non, .non, ?_⟩ ?_ ?_
  · have : open_ (n.size - 0) [n] = [] := by
      have := open_size n n.size (Nat.le_refl _)
      rw [Nat.sub_zero]
      match e : open_ n.size [n] with
      | [] => rfl
      | t :: r =>
        rw [e] at this
        have := @fsize_pos t r
        omega
    rw [this]
    rfl
  · rintro i env hi ⟨z2, z3, z4, z5, rfl⟩
    refine ⟨_, by walk_at "pe"; rfl, ?_⟩
    have hk : n.size - i = n.size - (i + 1) + 1 := by omega
    have hsz1 := open_size n (n.size - (i + 1)) (by omega)
    have hok1 := hok.open_ (n.size - (i + 1))
    have hpre := openk_pre [n] (n.size - (i + 1))
    rw [hk]
    show wSeq _ _ _ [_, .own (.lst ((opened (open_ (n.size - (i + 1)) [n])).map Nd.dt).reverse), _, _, _, _]
    generalize open_ (n.size - (i + 1)) [n] = R at hsz1 hok1 hpre ⊢
    match R, hok1 with
    | [], _ => exact absurd hsz1 (by show ¬ (0 + _ = _); omega)
    | t :: r, hok1 =>
      obtain ⟨above, ht⟩ := hok1 t (List.mem_cons_self ..)
      have hget : (pre n)[n.size - (i + 1)]? = some t := by
        obtain ⟨tl, e⟩ := head_pre t
        have := congrArg (fun l => l[0]?) hpre
        simp only [List.flatMap_cons, List.flatMap_nil, List.append_nil, e, List.cons_append, List.getElem?_cons_zero, List.getElem?_drop, Nat.add_zero] at this
        exact this.symm
      have hfs : fsize (t :: r) = t.size + fsize r := by unfold fsize; rw [List.map_cons, List.sum_cons]
      have hrl := fsize_len r
      have htp := size_pos t
      refine q_asg (r := .vis t.d) ?_ rfl rfl ?_
      · walk_at "pe"
        rw [List.length_map, pre_len, show (n.size : Int) - 1 - (0 + (i : Int)) = ((n.size - (i + 1) : Nat) : Int) by omega, atL_nat, List.getElem?_map, hget]
        rfl
      · match t, ht with
        | .leaf b, ht =>
          refine s_ifD (p := True) ?_ (fun _ => ?_) fun e => (e trivial).elim
          · walk_at "pe"
            rw [d_bit ht]
            rfl
          · refine s_app (d := .int b) rfl (r := .vis (.int b)) rfl rfl (by rw [List.length_reverse, List.length_map]; show r.length < _; exact lim_lt (by omega)) rfl rfl ⟨.val (.int (0 + (i : Int))), .val (.int b), z4, z5, ?_⟩
            simp only [List.map_cons, List.reverse_cons]
            rfl
        | .look s p z o, ht =>
          have hd : (Nd.look s p z o).d = seqD s [.int p, z.d, o.d] := rfl
          refine s_ifD (p := False) ?_ (fun e => e.elim) fun _ => ?_
          · walk_at "pe"
            rw [d_bit ht]
            rfl
          · show wSeq _ _ _ [_, .own (.lst ((z :: o :: r).map Nd.dt).reverse), _, _, _, _]
            refine q_go ⟨_, z.dt, [.val (.lst ((pre n).map Nd.d)), .own (.lst ((o :: r).map Nd.dt).reverse), .val (.int (0 + (i : Int))), .val (Nd.look s p z o).d, .val z.dt, z5], rfl, last_rev z.dt ((o :: r).map Nd.dt), ?_, ?_⟩
            · rw [List.map_cons, dropLast_rev]
              rfl
            · refine q_go ⟨_, o.dt, [.val (.lst ((pre n).map Nd.d)), .own (.lst (r.map Nd.dt).reverse), .val (.int (0 + (i : Int))), .val (Nd.look s p z o).d, .val z.dt, .val o.dt], rfl, last_rev o.dt (r.map Nd.dt), ?_, ?_⟩
              · rw [List.map_cons, dropLast_rev]
                rfl
              · refine s_app (d := (Nd.look s p z o).dt) rfl (r := .vis (Nd.look s p z o).dt) ?_ rfl (by rw [List.length_reverse, List.length_map]; exact lim_lt (by omega)) rfl rfl ⟨.val (.int (0 + (i : Int))), .val (Nd.look s p z o).d, .val z.dt, .val o.dt, ?_⟩
                · walk_at "pe"
                  rw [hd, pIx_seqD]
                  rfl
                · simp only [List.map_cons, List.reverse_cons]
                  rfl
  · rintro env ⟨z2, z3, z4, z5, rfl⟩
    refine s_ret (r := .vis n.dt) ?_ rfl rfl rfl
    rw [Nat.sub_self]
    rfl
/-! ### answers of trees -/
theorem dep_lt {s : Bool} {p : Int} {z o : Nd} : z.dep < (Nd.look s p z o).dep ∧ o.dep < (Nd.look s p z o).dep := by
  have e : (Nd.look s p z o).dep = max z.dep o.dep + 1 := rfl
  omega
theorem look_ix {b : Bool} {row : List Int} {p : Int} {z o : Nd} (h0 : 0 ≤ p) (h1 : p < row.length) (hr : b01 row) (V : Nd → Dt) : atL [Dt.int p, V z, V o] (1 + row.getD p.toNat 0) = some (V (if row.getD p.toNat 0 = 0 then z else o)) := by
  rcases b01_getD (i := p.toNat) hr with e | e <;> rw [e] <;> rfl
theorem leaf_at {w : Nat} {n : Nd} {s : Bool} {row : List Int} (h : OkN w [] n) (hr : b01 row) (hl : row.length = w) : F_leaf_of [n.dt, iseq s row] = some (.int (n.ans row)) := by
  refine getF_eq dc_leaf_of ?_
  show w_leaf_of _ [.val n.dt, .val (iseq s row), .non]
  refine q_asg (r := .vis n.dt) rfl rfl rfl ?_
  refine q_while (fun m e => ∃ (t : Nd) (above : List Int), m = t.dep ∧ OkN w above t ∧ t.ans row = n.ans row ∧ e = [.val n.dt, .val (iseq s row), .val t.dt]) n.dep ⟨n, [], rfl, h, rfl, rfl⟩ ?_
  rintro m env ⟨t, above, rfl, ht, ha, rfl⟩
  match t, ht with
  | .leaf b, ht =>
    refine ⟨false, rfl, fun e => (nomatch e), fun _ => ?_⟩
    exact s_ret (r := .vis (.int b)) rfl rfl (by rw [← ha]; rfl) rfl
  | .look s' p z o, ht =>
    obtain ⟨h0, h1, h2, h3, h4⟩ := ht
    refine ⟨true, rfl, fun _ => ?_, fun e => (nomatch e)⟩
    obtain ⟨d1, d2⟩ := @dep_lt s' p z o
    refine s_asg (r := .vis (Nd.dt (if row.getD p.toNat 0 = 0 then z else o))) ?_ rfl rfl ⟨_, ?_, if row.getD p.toNat 0 = 0 then z else o, above ++ [p], rfl, ?_, ?_, rfl⟩
    · have hd : (Nd.look s' p z o).dt = .tup [.int p, z.dt, o.dt] := rfl
      have hp : pIx (iseq s row) (.int p) = some (.vis (.int (row.getD p.toNat 0))) := pIx_iseq h0 (getD_get (by omega))
      walk_at "pe"
      rw [hd]
      walk_at "pe"
      rw [hp]
      walk_at "pe"
      rw [look_ix (b := s) h0 (by omega) hr Nd.dt]
      rfl
    · split <;> assumption
    · split <;> assumption
    · rw [← ha]
      conv => rhs; unfold Nd.ans
      split <;> rfl
theorem lleaf_at {w : Nat} {n : Nd} {s : Bool} {row : List Int} (h : OkN w [] n) (hr : b01 row) (hl : row.length = w) (hw : w ≤ 19) : F__law_leaf [n.d, iseq s row] = some (.int (n.ans row)) := by
  refine getF_eq dc__law_leaf ?_
  show w__law_leaf _ [.val n.d, .val (iseq s row), .non, .non]
  have hdep := okN_dep (abv_nil w) h
  simp only [List.length_nil] at hdep
  refine q_asg (r := .vis n.d) rfl rfl rfl ?_
  refine q_forRng (lo := 0) (n := 20) (fun i e => ∃ (t : Nd) (above : List Int) (z : Slot), t.dep + i ≤ 19 ∧ OkN w above t ∧ t.ans row = n.ans row ∧ e = [.val n.d, .val (iseq s row), .val t.d, z]) (by rw [rng1 (n := 20) rfl (by omega)]; rfl) ⟨n, [], _, by omega, h, rfl, rfl⟩ ?_ ?_
  · rintro i env hi ⟨t, above, z, hd, ht, ha, rfl⟩
    refine ⟨_, by walk_at "pe"; rfl, ?_⟩
    match t, ht with
    | .leaf b, ht =>
      refine q_ifD (p := True) ?_ (fun _ => ?_) fun e => (e trivial).elim
      · walk_at "pe"
        rw [show (Nd.leaf b).d = .int b from rfl, lwhole_at]
        rfl
      · show wRet _ _ _
        exact s_ret (r := .vis (.int b)) rfl rfl (by rw [← ha]; rfl) rfl
    | .look s' p z o, ht =>
      obtain ⟨h0, h1, h2, h3, h4⟩ := ht
      have hd' : (Nd.look s' p z o).d = seqD s' [.int p, z.d, o.d] := rfl
      obtain ⟨d1, d2⟩ := @dep_lt s' p z o
      refine q_ifD (p := False) ?_ (fun e => e.elim) fun _ => s_nil ?_
      · walk_at "pe"
        rw [hd', lwhole_seq]
        rfl
      · refine s_asg (r := .vis (Nd.d (if row.getD p.toNat 0 = 0 then z else o))) ?_ rfl rfl ⟨if row.getD p.toNat 0 = 0 then z else o, above ++ [p], _, ?_, ?_, ?_, rfl⟩
        · have hp : pIx (iseq s row) (.int p) = some (.vis (.int (row.getD p.toNat 0))) := pIx_iseq h0 (getD_get (by omega))
          walk_at "pe"
          rw [hd', pIx_seqD]
          walk_at "pe"
          rw [hp]
          walk_at "pe"
          rw [pIx_seqD, look_ix (b := s) h0 (by omega) hr Nd.d]
          rfl
        · split <;> omega
        · split <;> assumption
        · rw [← ha]
          conv => rhs; unfold Nd.ans
          split <;> rfl
  · rintro env ⟨t, above, z, hd, ht, ha, rfl⟩
    omega
end Pyl
end
section
set_option Elab.async false
set_option linter.all false
set_option maxHeartbeats 4000000
namespace Pyl
open PySem
local macro_rules | `(tactic| walk_at "pe") => `(tactic| simp (config := { implicitDefEqProofs := false }) only [eVar_at, eC_at, e1_at, e2_at, aNil_at, aCons_at, eTup_at, eLst_at, plain_nil, plain_cons, eCall_at, eIf_at, aApp_at, aDfl_at, List.cons_append, List.nil_append, eAnd_at, eOr_at, eNot_at, tVal_at, tAnd_at, tOr_at, tNot_at, tYes_at,
  pAdd_int, pSub_int, pNeg_int, pLt_int, pLe_int, pGt_int, pGe_int, pEq_int, pNe_int, pIsN_at, pNotN_at, pIx_lst, pIx_tup, pGcd_int, atL0, atL1, atL2, atL3, atL4, atL5, atL6, atL7, atL8, oNone_at, oSome_at, eSlice_at, pLen_lst, pLen_tup, pInt_int, pInt_bl, pAbs_int, pSum_ints, pMax2_int, pMin2_int, pList_lst, pList_tup, pTuple_lst, pTuple_tup, iSeq_at, gN_at, gT_at, gsN_cons, gsN_nil, wipeS_cons, wipeS_nil,
  dt_vis, dt_bor, dt_fre, sh_vis, sh_bor, sh_fre, slot_vis, slot_fre, od_dt, isNon_non, isNon_int, isNon_lst, isNon_tup, scalar_int, scalar_bl, scalar_non, Option.bind_some, Option.bind_none, Option.map_some, Option.map_none, List.getElem?_cons_zero, List.getElem?_cons_succ, List.set_cons_zero, List.set_cons_succ, List.map_cons, List.map_nil, List.any_cons, List.any_nil, Bool.or_false, Bool.false_or, Bool.false_and, Bool.and_true, Bool.true_and, Bool.not_true, Bool.not_false,
  Option.some.injEq, exists_eq_left', exists_eq_left, true_and, and_true, if_true, if_false, Bool.false_eq_true, ite_true, ite_false, reduceIte, decide_eq_true_eq, decide_eq_false_iff_not, R.vis.injEq, R.fre.injEq, Dt.lst.injEq, Dt.tup.injEq, Dt.int.injEq, Slot.own.injEq, OD.lst.injEq, reduceCtorEq, false_and, exists_false, exists_const, Bool.true_eq_false, false_implies, true_implies, implies_true, forall_const])
/-! ### readers -/
structure Ly where
  s : Bool
  ps : List (Bool × Int × Int)
def prD (p : Bool × Int × Int) : Dt := iseq p.1 [p.2.1, p.2.2]
def prT (p : Bool × Int × Int) : Dt := itup [p.2.1, p.2.2]
def Ly.d (l : Ly) : Dt := seqD l.s (l.ps.map prD)
def Ly.dt (l : Ly) : Dt := .tup (l.ps.map prT)
def Ly.at_ (l : Ly) (st : Int) : Bool × Int × Int := l.ps.getD st.toNat (false, 0, 0)
def prN (p : Bool × Int × Int) (b : Int) : Int := if b = 0 then p.2.1 else p.2.2
def Ly.nx (l : Ly) (st b : Int) : Int := prN (l.at_ st) b
structure LyOk (m : Nat) (l : Ly) : Prop where
  len : l.ps.length = m
  le : ∀ p ∈ l.ps, (0 ≤ p.2.1 ∧ p.2.1 < (m : Int)) ∧ (0 ≤ p.2.2 ∧ p.2.2 < (m : Int))
def stand : List Ly → List Int → Int → Int
  | l :: ls, b :: r, st => stand ls r (l.nx st b)
  | _, _, st => st
theorem stand_snoc : ∀ {ls : List Ly} {r : List Int} {l : Ly} {b st : Int}, ls.length = r.length → stand (ls ++ [l]) (r ++ [b]) st = l.nx (stand ls r st) b
  | [], [], _, _, _, _ => rfl
  | [], _ :: _, _, _, _, h => nomatch h
  | _ :: _, [], _, _, _, h => nomatch h
  | a :: ls, c :: r, l, b, st, h => by
    show stand (ls ++ [l]) (r ++ [b]) (a.nx st c) = _
    rw [stand_snoc (by simpa using h)]
    rfl
theorem ly_get {m : Nat} {l : Ly} {st : Int} (o : LyOk m l) (h0 : 0 ≤ st) (h1 : st < (m : Int)) : l.ps[st.toNat]? = some (l.at_ st) := by
  unfold Ly.at_
  rw [List.getD_eq_getElem?_getD, List.getElem?_eq_getElem (by rw [o.len]; omega)]
  rfl
theorem nx_ok {m : Nat} {l : Ly} {st b : Int} (o : LyOk m l) (h0 : 0 ≤ st) (h1 : st < (m : Int)) : 0 ≤ l.nx st b ∧ l.nx st b < (m : Int) := by
  have := o.le _ (List.mem_of_getElem? (ly_get o h0 h1))
  unfold Ly.nx prN
  split <;> omega
theorem stand_ok {m : Nat} : ∀ {ls : List Ly} {r : List Int} {st : Int}, (∀ l ∈ ls, LyOk m l) → 0 ≤ st → st < (m : Int) → 0 ≤ stand ls r st ∧ stand ls r st < (m : Int)
  | [], _, _, _, h0, h1 => by unfold stand; exact ⟨h0, h1⟩
  | _ :: _, [], _, _, h0, h1 => by unfold stand; exact ⟨h0, h1⟩
  | l :: ls, b :: r, st, h, h0, h1 => by
    obtain ⟨q0, q1⟩ := nx_ok (b := b) (h l (List.mem_cons_self ..)) h0 h1
    exact stand_ok (ls := ls) (r := r) (fun x hx => h x (List.mem_cons_of_mem _ hx)) q0 q1
theorem pr_ix {s : Bool} {p : Bool × Int × Int} {b : Int} (h : b = 0 ∨ b = 1) : pIx (iseq s [p.2.1, p.2.2]) (.int b) = some (.vis (.int (prN p b))) := by
  rcases h with e | e <;> subst e <;> cases s <;> rfl
theorem layer_at {m : Nat} {l : Ly} (o : LyOk m l) : F_is_layer [l.d, .int (m : Int)] = some (.bl true) := by
  refine getF_eq dc_is_layer ?_
  show w_is_layer _ [.val l.d, .val (.int m), .non, .non]
  refine q_ifD (p := False) ?_ (fun e => e.elim) fun _ => s_nil ?_
  · walk_at "pe"
    unfold Ly.d
    rw [pLen_seqD, List.length_map, o.len]
    walk_at "pe"
    simp
  · refine q_forMap (u := prD) (xs := l.ps) (fun _ e => ∃ z2 z3, e = [.val l.d, .val (.int m), z2, z3]) (seq_seqD (s := l.s) rfl) ⟨_, _, rfl⟩ ?_ ?_
    · rintro i env p hp ⟨z2, z3, rfl⟩
      refine ⟨_, by walk_at "pe"; rfl, ?_⟩
      have hb := o.le p (List.mem_of_getElem? hp)
      refine q_ifD (p := False) ?_ (fun e => e.elim) fun _ => s_nil ?_
      · walk_at "pe"
        unfold prD
        rw [pLen_iseq]
        walk_at "pe"
        simp
      · refine wFor_map (u := Dt.int) (xs := [p.2.1, p.2.2]) (fun _ e => ∃ z3, e = [.val l.d, .val (.int m), .val (prD p), z3]) (seq_ints (b := p.1) rfl) ⟨_, rfl⟩ ?_ ?_
        · rintro j env x hx ⟨z3, rfl⟩
          refine ⟨_, by walk_at "pe"; rfl, ?_⟩
          have hx2 : 0 ≤ x ∧ x < (m : Int) := by
            rcases List.mem_cons.mp (List.mem_of_getElem? hx) with e | e
            · rw [e]; exact hb.1
            · rw [List.mem_singleton.mp e]; exact hb.2
          refine s_ifD (p := False) ?_ (fun e => e.elim) fun _ => s_nil ⟨_, rfl⟩
          rw [tOr_at, tNot_at, tNot_at, tVal_at, tVal_at, eChain_at]
          walk_at "pe"
          rw [whole_at]
          walk_at "pe"
          rw [decide_eq_true hx2.1, decide_eq_true hx2.2]
          rfl
        · rintro env ⟨z3, rfl⟩
          exact ⟨_, _, rfl⟩
    · rintro env ⟨z2, z3, rfl⟩
      exact s_ret (r := .vis (.bl true)) rfl rfl rfl rfl
structure RdOk (ls : List Ly) (acc : List Int) : Prop where
  pos : 0 < acc.length
  few : acc.length ≤ 64
  bits : b01 acc
  lys : ∀ l ∈ ls, LyOk acc.length l
  lim : ls.length ≤ 1000
theorem reader_at {s sa : Bool} {ls : List Ly} {acc : List Int} (o : RdOk ls acc) : F_check_reader [seqD s (ls.map Ly.d), iseq sa acc] = some .non := by
  refine getF_eq dc_check_reader ?_
  show w_check_reader _ [.val (seqD s (ls.map Ly.d)), .val (iseq sa acc), .non, .non]
  have hp := o.pos
  have hf := o.few
  have hm := o.lim
  refine q_asg (r := .vis (.int acc.length)) (by walk_at "pe"; rw [pLen_iseq]) rfl rfl ?_
  refine q_ifD (p := False) ?_ (fun e => e.elim) fun _ => s_nil ?_
  · walk_at "pe"
    rw [bits_at o.bits rfl]
    walk_at "pe"
    rw [if_neg (show ¬ (acc.length : Int) = 0 by omega), if_neg (show ¬ (64 : Int) < acc.length by omega)]
    rfl
  · refine wFor_rng (lo := 0) (n := ls.length) (fun _ e => ∃ z, e = [.val (seqD s (ls.map Ly.d)), .val (iseq sa acc), .val (.int acc.length), z]) (by rw [rng1 (n := (ls.length : Int)) (by walk_at "pe"; rw [pLen_seqD, List.length_map]) (by omega), Int.toNat_natCast]) ⟨_, rfl⟩ ?_ ?_
    · rintro i env hi ⟨z, rfl⟩
      refine ⟨_, by walk_at "pe"; rfl, ?_⟩
      refine s_ifD (p := False) ?_ (fun e => e.elim) fun _ => s_nil ⟨_, rfl⟩
      have hg : (ls.map Ly.d)[i]? = some (ls[i].d) := by rw [List.getElem?_map, List.getElem?_eq_getElem hi]; rfl
      walk_at "pe"
      rw [pIx_seqD, show (0 : Int) + (i : Int) = ((i : Nat) : Int) by omega, atL_nat, hg]
      walk_at "pe"
      rw [layer_at (o.lys _ (List.getElem_mem hi))]
      rfl
    · rintro env ⟨z, rfl⟩
      rfl
def redD (ls : List Ly) (acc : List Int) : Dt := .obj 23 [("width", .int ls.length), ("layers", .tup (ls.map Ly.dt)), ("accepts", itup acc)]
theorem rinit_at {s sa : Bool} {ls : List Ly} {acc : List Int} (o : RdOk ls acc) : F_Reader____init__ [.non, seqD s (ls.map Ly.d), iseq sa acc] = some (.tup [.int ls.length, .tup (ls.map Ly.dt), itup acc]) := by
  refine getF_eq dc_Reader____init__ ?_
  show wi_Reader____init__ _ [.take, .val (seqD s (ls.map Ly.d)), .val (iseq sa acc), .non, .non]
  have hm := o.lim
  have hf := o.few
  refine q_thenI (s_drop (r := .vis .non) ?_ ?_)
  · walk_at "pe"
    rw [reader_at o]
    rfl
  · refine s_stores rfl (ds := [.int ls.length, .tup (ls.map Ly.dt), itup acc]) ?_ rfl
    rw [eTup_at, aCons_at, aCons_at, aCons_at, e1_at, e1_at, comp_of (xs := ls) (u := Ly.d) (f := id) (v := Ly.dt) (seq_seqD (s := s) rfl) (by omega) fun l hl => ?_]
    · rw [List.map_id]
      walk_at "pe"
      rw [pLen_seqD, List.length_map, pTuple_iseq]
      walk_at "pe"
    · refine ⟨[.take, .val (seqD s (ls.map Ly.d)), .val (iseq sa acc), .val l.d, .non], rfl, .vis l.dt, ?_, rfl, rfl⟩
      have ho := o.lys l hl
      rw [e1_at, comp_of (xs := l.ps) (u := prD) (f := id) (v := prT) (seq_seqD (s := l.s) rfl) (by rw [ho.len]; omega) fun p hp => ?_]
      · rw [List.map_id]
        rfl
      · refine ⟨[.take, .val (seqD s (ls.map Ly.d)), .val (iseq sa acc), .val l.d, .val (prD p)], rfl, .vis (prT p), ?_, rfl, rfl⟩
        walk_at "pe"
        unfold prD
        rw [pTuple_iseq]
        rfl
/-! all that are reached -/
theorem range_double {α : Type} (f : Nat → α) : ∀ m : Nat, (List.range (2 * m)).map f = (List.range m).flatMap fun n => [f (2 * n), f (2 * n + 1)]
  | 0 => rfl
  | m + 1 => by
    rw [show 2 * (m + 1) = 2 * m + 1 + 1 by omega, List.range_succ, List.range_succ, List.range_succ, List.flatMap_append, ← range_double f m]
    simp
def reached (ls : List Ly) : List Int := (List.range (2 ^ ls.length)).map fun n => stand ls (bitsM n ls.length) 0
theorem reached_snoc (ls : List Ly) (l : Ly) : reached (ls ++ [l]) = (reached ls).flatMap fun st => [0, 1].map fun b => l.nx st b := by
  unfold reached
  rw [List.length_append, List.length_singleton, Nat.pow_succ, Nat.mul_comm, range_double, List.flatMap_map]
  congr 1
  funext n
  rw [bitsM_snoc, bitsM_snoc, stand_snoc (by rw [bitsM_len]), stand_snoc (by rw [bitsM_len])]
  rw [show 2 * n / 2 = n by omega, show (2 * n + 1) / 2 = n by omega, show 2 * n % 2 = 0 by omega, show (2 * n + 1) % 2 = 1 by omega]
  rfl
theorem reached_ok {m : Nat} {ls : List Ly} (h : ∀ l ∈ ls, LyOk m l) (hm : 0 < m) : ∀ st ∈ reached ls, 0 ≤ st ∧ st < (m : Int) := by
  intro st hst
  obtain ⟨n, _, rfl⟩ := List.mem_map.mp hst
  exact stand_ok h (by omega) (by omega)
theorem reached_len (ls : List Ly) : (reached ls).length = 2 ^ ls.length := by unfold reached; simp
def rdTruth (ls : List Ly) (acc : List Int) : List Int := (reached ls).map fun st => acc.getD st.toNat 0
theorem take_snoc {α : Type} {l : List α} {i : Nat} {x : α} (h : l[i]? = some x) : l.take (i + 1) = l.take i ++ [x] := by rw [List.take_add_one, h]; rfl
theorem rtruth_at {ls : List Ly} {acc : List Int} (o : RdOk ls acc) (hl : ls.length ≤ 16) : F_Reader__truth [redD ls acc] = some (itup (rdTruth ls acc)) := by
  refine getF_eq dc_Reader__truth ?_
  show w_Reader__truth _ [.val (redD ls acc), .non, .non, .non, .non]
  have hpos := o.pos
  refine q_asg (r := .fre (.lst ([0].map .int))) (by walk_at "pe") rfl rfl ?_
  refine q_frz rfl rfl ?_
  refine q_forMap (u := Ly.dt) (xs := ls) (fun i e => ∃ sl z2, (sl = .val (ilst (reached (ls.take i))) ∨ sl = .own (.lst ((reached (ls.take i)).map .int))) ∧ e = [.val (redD ls acc), sl, z2, .non, .non]) (seq_seqD (s := true) (by rw [att_fld (c := 23) rfl (by decide) rfl]; rfl)) ⟨_, _, .inl rfl, rfl⟩ ?_ ?_
  · rintro i env l hg ⟨sl, z2, hsl, rfl⟩
    have hi := (List.getElem?_eq_some_iff.mp hg).1
    have ho := o.lys l (List.mem_of_getElem? hg)
    have hlt : (ls.take i).length = i := by rw [List.length_take]; omega
    have hp2 : 2 ^ (i + 1) ≤ 2 ^ 16 := Nat.pow_le_pow_right (by decide) (by omega)
    have hp3 : (2 : Nat) ^ 16 = 65536 := by decide
    refine ⟨_, by walk_at "pe"; rfl, ?_⟩
    refine s_asg (r := .fre (.lst ((reached (ls.take (i + 1))).map .int))) ?_ rfl rfl ⟨_, _, .inr rfl, rfl⟩
    rw [take_snoc hg, reached_snoc]
    have hs : ∃ s, iSeq (eVar 1) [.val (redD ls acc), sl, .val l.dt, .non, .non] = some ((reached (ls.take i)).map .int, s) := by
      rcases hsl with e | e <;> subst e
      · exact ⟨false, rfl⟩
      · exact ⟨true, rfl⟩
    obtain ⟨s, hs⟩ := hs
    refine comp2_of (xs := reached (ls.take i)) (u := Dt.int) (ys := fun _ => [0, 1]) (u1 := Dt.int) (f := fun st b => l.nx st b) (v := Dt.int) hs ?_ fun st hst => ?_
    · rw [← reached_snoc, reached_len, List.length_append, hlt, List.length_singleton]
      omega
    · have hst2 := reached_ok (m := acc.length) (fun x hx => o.lys x (List.mem_of_mem_take hx)) hpos st hst
      refine ⟨[.val (redD ls acc), sl, .val l.dt, .val (.int st), .non], rfl, by rw [rng1 (n := 2) rfl (by omega)]; rfl, fun b hb => ⟨[.val (redD ls acc), sl, .val l.dt, .val (.int st), .val (.int b)], rfl, .vis (.int (l.nx st b)), ?_, rfl, rfl⟩⟩
      have hget : atL (l.ps.map prT) st = some (prT (l.at_ st)) := atL_of_get hst2.1 (by rw [List.getElem?_map, ly_get ho hst2.1 hst2.2]; rfl)
      rw [e2_at, e2_at]
      show (((pIx (.tup (l.ps.map prT)) (.int st)).bind fun a => (eVar 4 _).bind fun c => pIx a.dt c.dt)) = _
      rw [pIx_tup, hget]
      have hb2 : b = 0 ∨ b = 1 := by simpa using hb
      exact pr_ix (s := true) hb2
  · rintro env ⟨sl, z2, hsl, rfl⟩
    rw [List.take_length] at hsl
    have hp2 : 2 ^ ls.length ≤ 2 ^ 16 := Nat.pow_le_pow_right (by decide) hl
    have hp3 : (2 : Nat) ^ 16 = 65536 := by decide
    refine s_ret (r := .vis (itup (rdTruth ls acc))) ?_ rfl rfl rfl
    have hs : ∃ s, iSeq (eVar 1) [.val (redD ls acc), sl, z2, .non, .non] = some ((reached ls).map .int, s) := by
      rcases hsl with e | e <;> subst e
      · exact ⟨false, rfl⟩
      · exact ⟨true, rfl⟩
    obtain ⟨s, hs⟩ := hs
    rw [e1_at, comp_of (xs := reached ls) (u := Dt.int) (f := fun st => acc.getD st.toNat 0) (v := Dt.int) hs (by rw [reached_len]; omega) fun st hst => ?_]
    · rfl
    · have hst2 := reached_ok o.lys hpos st hst
      refine ⟨[.val (redD ls acc), sl, z2, .val (.int st), .non], rfl, .vis (.int (acc.getD st.toNat 0)), ?_, rfl, rfl⟩
      rw [e2_at, att_fld (c := 23) rfl (by decide) (d := itup acc) rfl]
      exact pIx_iseq (b := true) hst2.1 (getD_get (by omega))
/-! ### the other truths -/
theorem pow_lim {w : Nat} (h : w ≤ 20) : 2 ^ w ≤ 2000000 := by
  have h1 := pow2_le h
  have h2 : (2 : Nat) ^ 20 = 1048576 := by decide
  omega
theorem shl_one {w : Nat} (h : w ≤ 20) : pShl (.int 1) (.int (w : Int)) = some (.vis (.int ((2 ^ w : Nat) : Int))) := by
  rw [pShl_int (by omega) (by omega) (big64 (by decide) (by decide)), Int.toNat_natCast]
  simp
def cirAns (gs : List Gt) (row : List Int) : Int := (runG gs row).getLastD 0
def truthM (w : Nat) (f : List Int → Int) : List Int := (List.range (2 ^ w)).map fun n => f (bitsM n w)
theorem truthM_len (w : Nat) (f : List Int → Int) : (truthM w f).length = 2 ^ w := by unfold truthM; simp
theorem ctruth_at {w : Nat} {gs : List Gt} (o : GtsOk w gs) (h0 : gs ≠ []) (hl : gs.length ≤ 4000) (hw : w ≤ 20) : F_Circuit__truth [cirD w gs] = some (itup (truthM w (cirAns gs))) := by
  refine getF_eq dc_Circuit__truth ?_
  show w_Circuit__truth _ [.val (cirD w gs), .non]
  have hp := pow_lim hw
  refine s_ret (r := .vis (itup (truthM w (cirAns gs)))) ?_ rfl rfl rfl
  rw [e1_at, comp_rng (n := 2 ^ w) (f := fun n => cirAns gs (bitsM n w)) (by rw [e2_at, att_fld (c := 22) rfl (by decide) rfl]; exact shl_one hw) (by omega) fun n hn => ?_]
  · rfl
  · refine callO_at (F := F_Circuit____call__) rfl rfl (rs := [(itup (bitsM n w), false)]) ?_ (ccall_at (s := true) o h0 hl (bitsM_01 n w) (bitsM_len n w) (by omega)) rfl
    rw [aCons_at, eCall_at, aCons_at, aCons_at, att_fld (c := 22) rfl (by decide) (d := .int (w : Int)) rfl]
    walk_at "pe"
    rw [row_at (by omega)]
    rfl
def treD (w : Nat) (n : Nd) : Dt := .obj 25 [("width", .int w), ("node", n.dt)]
theorem ttruth_at {w : Nat} {n : Nd} (o : OkN w [] n) (hw : w ≤ 20) : F_Tree__truth [treD w n] = some (itup (truthM w fun row => n.ans row)) := by
  refine getF_eq dc_Tree__truth ?_
  show w_Tree__truth _ [.val (treD w n), .non]
  have hp := pow_lim hw
  refine s_ret (r := .vis (itup (truthM w fun row => n.ans row))) ?_ rfl rfl rfl
  rw [e1_at, comp_rng (n := 2 ^ w) (f := fun k => n.ans (bitsM k w)) (by rw [e2_at, att_fld (c := 25) rfl (by decide) rfl]; exact shl_one hw) (by omega) fun k hk => ?_]
  · rfl
  · rw [eCall_at, aCons_at, aCons_at, eCall_at, aCons_at, aCons_at, att_fld (f := "width") (c := 25) rfl (by decide) (d := .int (w : Int)) rfl, att_fld (f := "node") (c := 25) rfl (by decide) (d := n.dt) rfl]
    walk_at "pe"
    rw [row_at (by omega)]
    walk_at "pe"
    rw [show itup (bitsM k w) = iseq true (bitsM k w) from rfl, leaf_at o (bitsM_01 k w) (bitsM_len k w)]
    rfl
def tabD (w : Nat) (bits : List Int) : Dt := .obj 24 [("width", .int w), ("bits", itup bits)]
theorem tabtruth_at {w : Nat} {bits : List Int} : F_Table__truth [tabD w bits] = some (itup bits) := by
  refine getF_eq dc_Table__truth ?_
  show w_Table__truth _ [.val (tabD w bits)]
  exact s_ret (r := .vis (itup bits)) (att_fld (c := 24) rfl (by decide) rfl) rfl rfl rfl
theorem tabinit_at {w : Nat} {s : Bool} {bits : List Int} (h : b01 bits) (hl : bits.length = 2 ^ w) (hw : w ≤ 20) : F_Table____init__ [.non, .int (w : Int), iseq s bits] = some (.tup [.int w, itup bits]) := by
  refine getF_eq dc_Table____init__ ?_
  show wi_Table____init__ _ [.take, .val (.int w), .val (iseq s bits)]
  refine q_thenI (s_ifD (p := False) ?_ (fun e => e.elim) fun _ => s_nil ?_)
  · walk_at "pe"
    rw [shl_one hw]
    walk_at "pe"
    rw [bits_at h hl]
    rfl
  · refine s_stores rfl (ds := [.int w, itup bits]) ?_ rfl
    walk_at "pe"
    rw [pTuple_iseq]
    rfl
theorem treeinit_at {w : Nat} {n : Nd} (o : OkN w [] n) (hw : w ≤ 20) : F_Tree____init__ [.non, .int (w : Int), n.d] = some (.tup [.int w, n.dt]) := by
  refine getF_eq dc_Tree____init__ ?_
  show wi_Tree____init__ _ [.take, .val (.int w), .val n.d, .non]
  refine q_thenI (s_asg (r := .vis .non) (by walk_at "pe"; rw [bad_path_at o hw]; rfl) rfl rfl ?_)
  refine q_thenI (s_ifD (p := False) (by rfl) (fun e => e.elim) fun _ => s_nil ?_)
  refine s_stores rfl (ds := [.int w, n.dt]) ?_ rfl
  walk_at "pe"
  rw [parts_at o hw]
  walk_at "pe"
  rw [joined_at o hw]
  rfl
end Pyl
end
section
set_option Elab.async false
set_option linter.all false
set_option maxHeartbeats 4000000
namespace Pyl
open PySem
local macro_rules | `(tactic| walk_at "pe") => `(tactic| simp (config := { implicitDefEqProofs := false }) only [eVar_at, eC_at, e1_at, e2_at, aNil_at, aCons_at, eTup_at, eLst_at, plain_nil, plain_cons, eCall_at, eIf_at, aApp_at, aDfl_at, List.cons_append, List.nil_append, eAnd_at, eOr_at, eNot_at, tVal_at, tAnd_at, tOr_at, tNot_at, tYes_at,
  pAdd_int, pSub_int, pNeg_int, pLt_int, pLe_int, pGt_int, pGe_int, pEq_int, pNe_int, pIsN_at, pNotN_at, pIx_lst, pIx_tup, pGcd_int, atL0, atL1, atL2, atL3, atL4, atL5, atL6, atL7, atL8, oNone_at, oSome_at, eSlice_at, pLen_lst, pLen_tup, pInt_int, pInt_bl, pAbs_int, pSum_ints, pMax2_int, pMin2_int, pList_lst, pList_tup, pTuple_lst, pTuple_tup, iSeq_at, gN_at, gT_at, gsN_cons, gsN_nil, wipeS_cons, wipeS_nil,
  dt_vis, dt_bor, dt_fre, sh_vis, sh_bor, sh_fre, slot_vis, slot_fre, od_dt, isNon_non, isNon_int, isNon_lst, isNon_tup, scalar_int, scalar_bl, scalar_non, Option.bind_some, Option.bind_none, Option.map_some, Option.map_none, List.getElem?_cons_zero, List.getElem?_cons_succ, List.set_cons_zero, List.set_cons_succ, List.map_cons, List.map_nil, List.any_cons, List.any_nil, Bool.or_false, Bool.false_or, Bool.false_and, Bool.and_true, Bool.true_and, Bool.not_true, Bool.not_false,
  Option.some.injEq, exists_eq_left', exists_eq_left, true_and, and_true, if_true, if_false, Bool.false_eq_true, ite_true, ite_false, reduceIte, decide_eq_true_eq, decide_eq_false_iff_not, R.vis.injEq, R.fre.injEq, Dt.lst.injEq, Dt.tup.injEq, Dt.int.injEq, Slot.own.injEq, OD.lst.injEq, reduceCtorEq, false_and, exists_false, exists_const, Bool.true_eq_false, false_implies, true_implies, implies_true, forall_const])
/-! ### judges -/
inductive Jd where
  | table (w : Nat) (bits : List Int) | circuit (w : Nat) (gs : List Gt) | tree (w : Nat) (n : Nd) | reader (ls : List Ly) (acc : List Int)
namespace Jd
def w : Jd → Nat
  | .table w _ => w
  | .circuit w _ => w
  | .tree w _ => w
  | .reader ls _ => ls.length
def kind : Jd → Str
  | .table _ _ => "table"
  | .circuit _ _ => "circuit"
  | .tree _ _ => "tree"
  | .reader _ _ => "reader"
/-- as the laws write it -/
def spec : Jd → Dt
  | .table w bits => .lst [.str "table", .int w, ilst bits]
  | .circuit w gs => .lst [.str "circuit", .int w, .lst (gs.map Gt.d)]
  | .tree w n => .lst [.str "tree", .int w, n.d]
  | .reader ls acc => .lst [.str "reader", .int ls.length, .lst (ls.map Ly.d), ilst acc]
/-- the instance -/
def obj : Jd → Dt
  | .table w bits => tabD w bits
  | .circuit w gs => cirD w gs
  | .tree w n => treD w n
  | .reader ls acc => redD ls acc
def ans : Jd → List Int → Int
  | .table _ bits, row => bits.getD (numM row).toNat 0
  | .circuit _ gs, row => cirAns gs row
  | .tree _ n, row => n.ans row
  | .reader ls acc, row => acc.getD (stand ls row 0).toNat 0
def truth (J : Jd) : List Int := truthM J.w J.ans
structure Wf (J : Jd) : Prop where
  wide : J.w ≤ 16
  ok : match J with
    | .table w bits => b01 bits ∧ bits.length = 2 ^ w
    | .circuit w gs => GtsOk w gs ∧ gs ≠ [] ∧ gs.length ≤ 4000
    | .tree w n => OkN w [] n
    | .reader ls acc => RdOk ls acc
end Jd
theorem spec_w (J : Jd) : ∃ r, J.spec = .lst (.str J.kind :: .int (J.w : Int) :: r) := by cases J <;> exact ⟨_, rfl⟩
theorem ans_01J {J : Jd} (h : J.Wf) (row : List Int) : J.ans row = 0 ∨ J.ans row = 1 := by
  have hk := h.ok
  cases J with
  | table w bits => exact b01_getD hk.1
  | circuit w gs =>
    show cirAns gs row = 0 ∨ cirAns gs row = 1
    obtain ⟨o, h0, _⟩ := hk
    obtain ⟨t, x, rfl⟩ : ∃ t x, gs = t ++ [x] := ⟨gs.dropLast, gs.getLast h0, (List.dropLast_concat_getLast h0).symm⟩
    unfold cirAns
    rw [runG_snoc]
    have := go_01 (vs := runG t row) (o.get (i := t.length) (g := x) (by simp))
    simpa using this
  | tree w n => exact ans_01 hk
  | reader ls acc => exact b01_getD hk.bits
theorem truth_01 {J : Jd} (h : J.Wf) : b01 J.truth := by
  intro x hx
  obtain ⟨n, _, rfl⟩ := List.mem_map.mp hx
  exact ans_01J h _
theorem truth_len (J : Jd) : J.truth.length = 2 ^ J.w := truthM_len _ _
theorem getD_rangeI {n : Nat} (l : List Int) (h : l.length = n) : (List.range n).map (fun k => l.getD k 0) = l := by
  refine List.ext_getElem? fun i => ?_
  rw [List.getElem?_map]
  by_cases hi : i < n
  · rw [List.getElem?_range hi, getD_get (by omega)]
    rfl
  · rw [List.getElem?_eq_none (by simp; omega), List.getElem?_eq_none (by omega)]
    rfl
theorem table_truth {w : Nat} {bits : List Int} (h : bits.length = 2 ^ w) : (Jd.table w bits).truth = bits := by
  refine Eq.trans ?_ (getD_rangeI bits h)
  show truthM w _ = _
  unfold truthM
  refine List.map_congr_left fun n hn => ?_
  have hn := List.mem_range.mp hn
  show bits.getD (numM (bitsM n w)).toNat 0 = _
  rw [numM_bits, Nat.mod_eq_of_lt hn, Int.toNat_natCast]
theorem reader_truth (ls : List Ly) (acc : List Int) : (Jd.reader ls acc).truth = rdTruth ls acc := by
  show truthM ls.length _ = _
  unfold truthM rdTruth reached
  rw [List.map_map]
  rfl
/-- all truths by the program -/
theorem truth_meth {env : Sl} {fe : EF} {J : Jd} (h : J.Wf) (he : fe env = some (.vis J.obj)) : eMeth [(22, F_Circuit__truth), (23, F_Reader__truth), (24, F_Table__truth), (25, F_Tree__truth)] "truth" fe aNil env = some (.vis (itup J.truth)) := by
  have hw := h.wide
  have hk := h.ok
  cases J with
  | table w bits =>
    refine meth_at (F := F_Table__truth) he rfl rfl rfl ?_ rfl
    show F_Table__truth [tabD w bits] = _
    rw [tabtruth_at, table_truth hk.2]
  | circuit w gs => exact meth_at (F := F_Circuit__truth) he rfl rfl rfl (ctruth_at hk.1 hk.2.1 hk.2.2 (show w ≤ 20 by have : w ≤ 16 := hw; omega)) rfl
  | tree w n => exact meth_at (F := F_Tree__truth) he rfl rfl rfl (ttruth_at hk (show w ≤ 20 by have : w ≤ 16 := hw; omega)) rfl
  | reader ls acc =>
    refine meth_at (F := F_Reader__truth) he rfl rfl rfl ?_ rfl
    show F_Reader__truth [redD ls acc] = _
    rw [rtruth_at hk hw, reader_truth]
theorem width_att {env : Sl} {fe : EF} {J : Jd} (he : fe env = some (.vis J.obj)) : eAtt [22, 23, 24, 25] [] "width" fe env = some (.vis (.int (J.w : Int))) := by
  cases J with
  | table w bits => exact att_fld (c := 24) he (by decide) rfl
  | circuit w gs => exact att_fld (c := 22) he (by decide) rfl
  | tree w n => exact att_fld (c := 25) he (by decide) rfl
  | reader ls acc => exact att_fld (c := 23) he (by decide) rfl
/-! ### the laws' own reading -/
theorem str_eq {a b : Str} (ha : PyData.strOk a = true) (hb : PyData.strOk b = true) : pEq (.str a) (.str b) = some (.vis (.bl (decide (a = b)))) := by
  have e : eqD (.str a) (.str b) = some (decide (a = b)) := by
    show (if SeqAt.shaped (.str a) && SeqAt.shaped (.str b) then some (PyData.eqv (.str a) (.str b)) else none) = _
    have h1 : SeqAt.shaped (.str a) = true := by show (PyData.strOk a && _) = true; rw [ha]; rfl
    have h2 : SeqAt.shaped (.str b) = true := by show (PyData.strOk b && _) = true; rw [hb]; rfl
    rw [h1, h2]
    show some (a == b) = _
    by_cases h : a = b <;> simp [h]
  unfold pEq
  rw [e]
  rfl
def K4 : List Str := ["table", "circuit", "tree", "reader"]
theorem k4_ok : ∀ a ∈ K4, PyData.strOk a = true := by decide +kernel
theorem kind_K4 (J : Jd) : J.kind ∈ K4 := by
  unfold K4
  cases J
  · exact .head _
  · exact .tail _ (.head _)
  · exact .tail _ (.tail _ (.head _))
  · exact .tail _ (.tail _ (.tail _ (.head _)))
theorem k4_eq {a b : Str} (ha : a ∈ K4) (hb : b ∈ K4) : pEq (.str a) (.str b) = some (.vis (.bl (decide (a = b)))) := str_eq (k4_ok a ha) (k4_ok b hb)
theorem m_table : ("table" : Str) ∈ K4 := .head _
theorem m_circuit : ("circuit" : Str) ∈ K4 := .tail _ (.head _)
theorem m_tree : ("tree" : Str) ∈ K4 := .tail _ (.tail _ (.head _))
theorem m_reader : ("reader" : Str) ∈ K4 := .tail _ (.tail _ (.tail _ (.head _)))
theorem ne_tree_table : ¬ (("tree" : Str) = "table") := by decide +kernel
theorem ne_reader_table : ¬ (("reader" : Str) = "table") := by decide +kernel
theorem ne_circuit_table : ¬ (("circuit" : Str) = "table") := by decide +kernel
theorem ne_reader_tree : ¬ (("reader" : Str) = "tree") := by decide +kernel
theorem ne_circuit_tree : ¬ (("circuit" : Str) = "tree") := by decide +kernel
theorem ne_circuit_reader : ¬ (("circuit" : Str) = "reader") := by decide +kernel
theorem ne_tree_circuit : ¬ (("tree" : Str) = "circuit") := by decide +kernel
theorem ne_reader_circuit : ¬ (("reader" : Str) = "circuit") := by decide +kernel
theorem spec_ixw (J : Jd) : pIx J.spec (.int 1) = some (.vis (.int (J.w : Int))) := by cases J <;> rfl
theorem spec_ix0 (J : Jd) : pIx J.spec (.int 0) = some (.vis (.str J.kind)) := by cases J <;> rfl
theorem tst_kind {env : Sl} {fe : EF} {J : Jd} {k : Str} (hk : k ∈ K4) (h : fe env = some (.vis J.spec)) : tVal (e2 pEq (e2 pIx fe (eC (.int 0))) (eC (.str k))) env = some (decide (J.kind = k)) := by
  rw [tVal_at, e2_at, e2_at, h]
  show (match ((pIx J.spec (.int 0)).bind fun a => (eC (.str k) env).bind fun b => pEq a.dt b.dt) with | some (.vis (.bl b)) => some b | _ => none) = _
  rw [spec_ix0]
  show (match pEq (.str J.kind) (.str k) with | some (.vis (.bl b)) => some b | _ => none) = _
  rw [k4_eq (kind_K4 J) hk]
theorem atL_map {α : Type} {V : α → Dt} {l : List α} {i : Nat} {x : α} (h : l[i]? = some x) : atL (l.map V) (i : Int) = some (V x) := by
  rw [atL_nat, List.getElem?_map, h]
  rfl
theorem answer_at {J : Jd} {s : Bool} {row : List Int} (h : J.Wf) (hr : b01 row) (hl : row.length = J.w) : F__law_answer [J.spec, iseq s row] = some (.int (J.ans row)) := by
  have hw := h.wide
  have hk := h.ok
  refine getF_eq dc__law_answer ?_
  show w__law_answer _ [.val J.spec, .val (iseq s row), .non, .non, .non, .non, .non]
  cases J with
  | table w bits =>
    refine q_ifD (tst_kind m_table rfl) (fun _ => ?_) fun e => absurd rfl e
    have hl : row.length = w := hl
    have hw : w ≤ 16 := hw
    refine s_ret (r := .vis (.int (bits.getD (numM row).toNat 0))) ?_ rfl rfl rfl
    rw [e2_at, eCall_at, aCons_at]
    walk_at "pe"
    rw [lnumber_at hr (by omega)]
    show pIx (iseq false bits) (.int (numM row)) = _
    have := numM_lt hr hl
    exact pIx_iseq (numM_bound row hr).1 (getD_get (by rw [hk.2]; omega))
  | tree w n =>
    refine q_ifD (tst_kind m_table rfl) (fun e => absurd e ne_tree_table) fun _ => s_nil ?_
    refine q_ifD (tst_kind m_tree rfl) (fun _ => ?_) fun e => absurd rfl e
    refine s_ret (r := .vis (.int (n.ans row))) ?_ rfl rfl rfl
    rw [eCall_at, aCons_at, aCons_at]
    show (Option.bind (some [(n.d, false), (iseq s row, false)]) _) = _
    show (F__law_leaf [n.d, iseq s row]).bind _ = _
    rw [lleaf_at hk hr hl (by have : w ≤ 16 := hw; omega)]
    rfl
  | reader ls acc =>
    refine q_ifD (tst_kind m_table rfl) (fun e => absurd e ne_reader_table) fun _ => s_nil ?_
    refine q_ifD (tst_kind m_tree rfl) (fun e => absurd e ne_reader_tree) fun _ => s_nil ?_
    refine q_ifD (tst_kind m_reader rfl) (fun _ => ?_) fun e => absurd rfl e
    have hl : row.length = ls.length := hl
    have hw : ls.length ≤ 16 := hw
    have hpos := hk.pos
    refine q_asg (r := .vis (.int 0)) rfl rfl rfl ?_
    refine q_forRng (lo := 0) (n := row.length) (fun i e => ∃ z, e = [.val (Jd.reader ls acc).spec, .val (iseq s row), .non, .non, .val (.int (stand (ls.take i) (row.take i) 0)), z, .non]) (by rw [rng1 (n := (row.length : Int)) (by walk_at "pe"; rw [pLen_iseq]) (by omega), Int.toNat_natCast]) ⟨_, rfl⟩ ?_ ?_
    · rintro i env hi ⟨z, rfl⟩
      refine ⟨_, by walk_at "pe"; rfl, ?_⟩
      have g1 := List.getElem?_eq_getElem (show i < ls.length by omega)
      have g2 := List.getElem?_eq_getElem hi
      generalize ls[i] = l at g1
      generalize row[i] = b at g2
      have ho := hk.lys l (List.mem_of_getElem? g1)
      obtain ⟨q0, q1⟩ := stand_ok (m := acc.length) (ls := ls.take i) (r := row.take i) (st := 0) (fun x hx => hk.lys x (List.mem_of_mem_take hx)) (by omega) (by omega)
      have hst := @stand_snoc (ls.take i) (row.take i) l b 0 (by rw [List.length_take, List.length_take]; omega)
      rw [← take_snoc g1, ← take_snoc g2] at hst
      generalize stand (ls.take i) (row.take i) 0 = st at q0 q1 hst ⊢
      refine s_asg (r := .vis (.int (stand (ls.take (i + 1)) (row.take (i + 1)) 0))) ?_ rfl rfl ⟨_, rfl⟩
      have h1 : atL (ls.map Ly.d) (i : Int) = some l.d := atL_map g1
      have h2 : pIx l.d (.int st) = some (.vis (prD (l.at_ st))) := by
        unfold Ly.d
        rw [pIx_seqD, atL_of_get q0 (by rw [List.getElem?_map, ly_get ho q0 q1]; rfl)]
        rfl
      have h3 : pIx (iseq s row) (.int (i : Int)) = some (.vis (.int b)) := ix_iseq g2
      have h4 : pIx (prD (l.at_ st)) (.int b) = some (.vis (.int (l.nx st b))) := pr_ix (b01_get hr g2)
      have h0 : (Jd.reader ls acc).spec = .lst [.str "reader", .int ls.length, .lst (ls.map Ly.d), ilst acc] := rfl
      walk_at "pe"
      rw [h0, show (0 : Int) + (i : Int) = (i : Int) by omega]
      walk_at "pe"
      rw [h1]
      walk_at "pe"
      rw [h2]
      walk_at "pe"
      rw [h3]
      walk_at "pe"
      rw [h4, hst]
    · rintro env ⟨z, rfl⟩
      rw [List.take_length, hl, List.take_length]
      have hs := stand_ok (m := acc.length) (ls := ls) (r := row) (st := 0) hk.lys (by omega) (by omega)
      refine s_ret (r := .vis (.int (acc.getD (stand ls row 0).toNat 0))) ?_ rfl rfl rfl
      show pIx (iseq false acc) (.int (stand ls row 0)) = _
      exact pIx_iseq hs.1 (getD_get (by omega))
  | circuit w gs =>
    refine q_ifD (tst_kind m_table rfl) (fun e => absurd e ne_circuit_table) fun _ => s_nil ?_
    refine q_ifD (tst_kind m_tree rfl) (fun e => absurd e ne_circuit_tree) fun _ => s_nil ?_
    refine q_ifD (tst_kind m_reader rfl) (fun e => absurd e ne_circuit_reader) fun _ => s_nil ?_
    obtain ⟨o, h0, hg⟩ := hk
    have hl : row.length = w := hl
    have hw : w ≤ 16 := hw
    refine q_asg (r := .fre (.lst (row.map .int))) (by walk_at "pe"; rw [pList_iseq]) rfl rfl ?_
    refine q_forMap (u := Gt.d) (xs := gs) (fun i e => ∃ z3, e = [.val (Jd.circuit w gs).spec, .val (iseq s row), .own (.lst ((runG (gs.take i) row).map .int)), z3, .non, .non, .non]) (seq_seqD (s := false) rfl) ⟨_, rfl⟩ ?_ ?_
    · rintro i env g hgi ⟨z3, rfl⟩
      refine ⟨_, by walk_at "pe"; rfl, ?_⟩
      have hi := (List.getElem?_eq_some_iff.mp hgi).1
      have hlen : (runG (gs.take i) row).length = w + i := by
        rw [runG_len, List.length_take, hl]
        omega
      have hd : g.d = seqD g.sg [iseq g.sw g.ws, iseq g.sb g.bs] := rfl
      refine s_app (d := .int (g.go (runG (gs.take i) row))) rfl (r := .vis (.int (g.go (runG (gs.take i) row)))) (gate_step (n := w + i) (b3 := g.sw) (b4 := g.sb) lnumber_at (by walk_at "pe"; rw [hd, pIx_seqD]; rfl) (by walk_at "pe"; rw [hd, pIx_seqD]; rfl) (o.get hgi) (runG_01 (gts_take o) hr) hlen.symm fun x => ⟨rfl, rfl⟩) rfl (by rw [List.length_map, hlen]; exact lim_lt (by omega)) rfl rfl ⟨.val g.d, ?_⟩
      rw [runG_take hgi, List.map_append]
      rfl
    · rintro env ⟨z3, rfl⟩
      rw [List.take_length]
      refine s_ret (r := .vis (.int ((runG gs row).getLastD 0))) ?_ rfl rfl rfl
      walk_at "pe"
      rw [atL_lastI (by intro e; have := runG_len gs row; rw [e] at this; have := List.length_pos_iff.mpr h0; simp at *; omega)]
      rfl
theorem ltruth_at {J : Jd} (h : J.Wf) : F__law_truth [J.spec] = some (ilst J.truth) := by
  refine getF_eq dc__law_truth ?_
  show w__law_truth _ [.val J.spec, .non]
  have hw := h.wide
  have hp := pow_lim (w := J.w) (by omega)
  refine s_ret (r := .fre (.lst (J.truth.map .int))) ?_ rfl rfl rfl
  rw [comp_rng (n := 2 ^ J.w) (f := fun n => J.ans (bitsM n J.w)) ?_ (by omega) fun n hn => ?_]
  · rfl
  · walk_at "pe"
    rw [spec_ixw]
    exact shl_one (by omega)
  · walk_at "pe"
    rw [spec_ixw]
    walk_at "pe"
    rw [lbits_at (by omega)]
    walk_at "pe"
    rw [show itup (bitsM n J.w) = iseq true (bitsM n J.w) from rfl, answer_at h (bitsM_01 _ _) (bitsM_len _ _)]
    rfl
/-! a judge is built -/
def Gt.plain (g : Gt) : Gt := ⟨false, false, false, g.ws, g.bs⟩
theorem gts_plain : ∀ {n : Nat} {gs : List Gt}, GtsOk n gs → GtsOk n (gs.map Gt.plain)
  | _, [], h => h
  | _, g :: gs, h => ⟨⟨h.1.few, h.1.wires, h.1.bits, h.1.len⟩, gts_plain h.2⟩
theorem plain_dt (gs : List Gt) : (gs.map Gt.plain).map Gt.dt = gs.map Gt.dt := by rw [List.map_map]; rfl
def Ly.plain (l : Ly) : Ly := ⟨false, l.ps.map fun p => (false, p.2)⟩
theorem ly_plain {m : Nat} {l : Ly} (h : LyOk m l) : LyOk m l.plain := ⟨by unfold Ly.plain; simp [h.len], fun p hp => by
  obtain ⟨q, hq, rfl⟩ := List.mem_map.mp hp
  exact h.le q hq⟩
theorem lplain_dt (ls : List Ly) : (ls.map Ly.plain).map Ly.dt = ls.map Ly.dt := by
  rw [List.map_map]
  refine List.map_congr_left fun l _ => ?_
  show Dt.tup (List.map prT (List.map _ l.ps)) = _
  rw [List.map_map]
  rfl
theorem build_at {J : Jd} (h : J.Wf) : F__law_build [J.spec] = some J.obj := by
  refine getF_eq dc__law_build ?_
  show w__law_build _ [.val J.spec, .non, .non, .non]
  have hw := h.wide
  have hk := h.ok
  cases J with
  | table w bits =>
    refine q_ifD (tst_kind m_table rfl) (fun _ => ?_) fun e => absurd rfl e
    refine s_ret (r := .vis (tabD w bits)) ?_ rfl rfl rfl
    refine makeF_at (rs := [(.int w, false), (ilst bits, false)]) (ds := [.int w, ilst bits]) rfl rfl (tabinit_at (s := false) hk.1 hk.2 (by have : w ≤ 16 := hw; omega)) rfl
  | circuit w gs =>
    refine q_ifD (tst_kind m_table rfl) (fun e => absurd e ne_circuit_table) fun _ => s_nil ?_
    refine q_ifD (tst_kind m_circuit rfl) (fun _ => ?_) fun e => absurd rfl e
    refine s_ret (r := .vis (cirD w gs)) ?_ rfl rfl rfl
    obtain ⟨o, h0, hg⟩ := hk
    have hc : eComp [2] (iSeq (e2 pIx (eVar 0) (eC (.int 2)))) (gN 2) tYes (eLst (aCons (e1 pList (e2 pIx (eVar 2) (eC (.int 0)))) (aCons (e1 pList (e2 pIx (eVar 2) (eC (.int 1)))) aNil))) [.val (Jd.circuit w gs).spec, .non, .non, .non] = some (.fre (.lst ((gs.map Gt.plain).map Gt.d))) := by
      refine comp_of (xs := gs) (u := Gt.d) (f := Gt.plain) (v := Gt.d) (seq_seqD (s := false) rfl) (by omega) fun g hgm => ?_
      refine ⟨[.val (Jd.circuit w gs).spec, .non, .val g.d, .non], rfl, .fre (.lst [ilst g.ws, ilst g.bs]), ?_, rfl, rfl⟩
      have hd : g.d = seqD g.sg [iseq g.sw g.ws, iseq g.sb g.bs] := rfl
      walk_at "pe"
      rw [hd, pIx_seqD, pIx_seqD]
      walk_at "pe"
      rw [pList_iseq, pList_iseq]
      walk_at "pe"
      rfl
    refine (makeF_at (vs := [.int w, .tup ((gs.map Gt.plain).map Gt.dt)]) (rs := [(.int w, false), (.lst ((gs.map Gt.plain).map Gt.d), false)]) (ds := [.int w, .lst ((gs.map Gt.plain).map Gt.d)]) (by rw [aCons_at, aCons_at, hc]; rfl) rfl (cinit_at (s := false) (gts_plain o) (by simpa using h0) (by rw [List.length_map]; omega)) rfl).trans ?_
    rw [plain_dt]
    rfl
  | tree w n =>
    refine q_ifD (tst_kind m_table rfl) (fun e => absurd e ne_tree_table) fun _ => s_nil ?_
    refine q_ifD (tst_kind m_circuit rfl) (fun e => absurd e ne_tree_circuit) fun _ => s_nil ?_
    refine q_ifD (tst_kind m_tree rfl) (fun _ => ?_) fun e => absurd rfl e
    refine s_ret (r := .vis (treD w n)) ?_ rfl rfl rfl
    exact makeF_at (rs := [(.int w, false), (n.d, false)]) (ds := [.int w, n.d]) rfl rfl (treeinit_at hk (by have : w ≤ 16 := hw; omega)) rfl
  | reader ls acc =>
    refine q_ifD (tst_kind m_table rfl) (fun e => absurd e ne_reader_table) fun _ => s_nil ?_
    refine q_ifD (tst_kind m_circuit rfl) (fun e => absurd e ne_reader_circuit) fun _ => s_nil ?_
    refine q_ifD (tst_kind m_tree rfl) (fun e => absurd e ne_reader_tree) fun _ => s_nil ?_
    refine s_ret (r := .vis (redD ls acc)) ?_ rfl rfl rfl
    have hf := hk.few
    have hlm := hk.lim
    have hc : eComp [1] (iSeq (e2 pIx (eVar 0) (eC (.int 2)))) (gN 1) tYes (eComp [3] (iSeq (eVar 1)) (gN 3) tYes (e1 pList (eVar 3))) [.val (Jd.reader ls acc).spec, .non, .non, .non] = some (.fre (.lst ((ls.map Ly.plain).map Ly.d))) := by
      refine comp_of (xs := ls) (u := Ly.d) (f := Ly.plain) (v := Ly.d) (seq_seqD (s := false) rfl) (by omega) fun l hl => ?_
      refine ⟨[.val (Jd.reader ls acc).spec, .val l.d, .non, .non], rfl, .fre (.lst ((l.ps.map fun p => (false, p.2)).map prD)), ?_, rfl, rfl⟩
      refine comp_of (xs := l.ps) (u := prD) (f := fun p => (false, p.2)) (v := prD) (seq_seqD (s := l.s) rfl) (by rw [(hk.lys l hl).len]; omega) fun p hp => ?_
      refine ⟨[.val (Jd.reader ls acc).spec, .val l.d, .non, .val (prD p)], rfl, .fre (.lst ([p.2.1, p.2.2].map .int)), ?_, rfl, rfl⟩
      walk_at "pe"
      unfold prD
      rw [pList_iseq]
      rfl
    have ok' : RdOk (ls.map Ly.plain) acc := ⟨hk.pos, hk.few, hk.bits, fun l hl => by
      obtain ⟨q, hq, rfl⟩ := List.mem_map.mp hl
      exact ly_plain (hk.lys q hq), by rw [List.length_map]; exact hlm⟩
    refine (makeF_at (vs := [.int (ls.map Ly.plain).length, .tup ((ls.map Ly.plain).map Ly.dt), itup acc]) (rs := [(.lst ((ls.map Ly.plain).map Ly.d), false), (ilst acc, false)]) (ds := [.lst ((ls.map Ly.plain).map Ly.d), ilst acc]) (by rw [aCons_at, hc]; rfl) rfl (rinit_at (s := false) (sa := false) ok') rfl).trans ?_
    rw [lplain_dt, List.length_map]
    rfl
end Pyl
end
section
set_option Elab.async false
set_option linter.all false
set_option maxHeartbeats 4000000
namespace Pyl
open PySem
local macro_rules | `(tactic| walk_at "pe") => `(tactic| simp (config := { implicitDefEqProofs := false }) only [eVar_at, eC_at, e1_at, e2_at, aNil_at, aCons_at, eTup_at, eLst_at, plain_nil, plain_cons, eCall_at, eIf_at, aApp_at, aDfl_at, List.cons_append, List.nil_append, eAnd_at, eOr_at, eNot_at, tVal_at, tAnd_at, tOr_at, tNot_at, tYes_at,
  pAdd_int, pSub_int, pNeg_int, pLt_int, pLe_int, pGt_int, pGe_int, pEq_int, pNe_int, pIsN_at, pNotN_at, pIx_lst, pIx_tup, pGcd_int, atL0, atL1, atL2, atL3, atL4, atL5, atL6, atL7, atL8, oNone_at, oSome_at, eSlice_at, pLen_lst, pLen_tup, pInt_int, pInt_bl, pAbs_int, pSum_ints, pMax2_int, pMin2_int, pList_lst, pList_tup, pTuple_lst, pTuple_tup, iSeq_at, gN_at, gT_at, gsN_cons, gsN_nil, wipeS_cons, wipeS_nil,
  dt_vis, dt_bor, dt_fre, sh_vis, sh_bor, sh_fre, slot_vis, slot_fre, od_dt, isNon_non, isNon_int, isNon_lst, isNon_tup, scalar_int, scalar_bl, scalar_non, Option.bind_some, Option.bind_none, Option.map_some, Option.map_none, List.getElem?_cons_zero, List.getElem?_cons_succ, List.set_cons_zero, List.set_cons_succ, List.map_cons, List.map_nil, List.any_cons, List.any_nil, Bool.or_false, Bool.false_or, Bool.false_and, Bool.and_true, Bool.true_and, Bool.not_true, Bool.not_false,
  Option.some.injEq, exists_eq_left', exists_eq_left, true_and, and_true, if_true, if_false, Bool.false_eq_true, ite_true, ite_false, reduceIte, decide_eq_true_eq, decide_eq_false_iff_not, R.vis.injEq, R.fre.injEq, Dt.lst.injEq, Dt.tup.injEq, Dt.int.injEq, Slot.own.injEq, OD.lst.injEq, reduceCtorEq, false_and, exists_false, exists_const, Bool.true_eq_false, false_implies, true_implies, implies_true, forall_const])
/-! ### judges that the laws draw -/
def Nd.In (w : Nat) : List Int → Nd → Prop
  | _, .leaf b => b = 0 ∨ b = 1
  | ps, .look _ p z o => p ∈ ps ∧ z.In w (ps.erase p) ∧ o.In w (ps.erase p)
theorem in_ok {w : Nat} : ∀ {n : Nd} {ps above : List Int}, ps.Nodup → (∀ p ∈ ps, 0 ≤ p ∧ p < (w : Int)) → (∀ p ∈ ps, p ∉ above) → n.In w ps → OkN w above n
  | .leaf _, _, _, _, _, _, h => h
  | .look _ p z o, ps, above, hn, hp, ha, ⟨h1, h2, h3⟩ => by
    have q : ∀ x ∈ ps.erase p, x ∉ above ++ [p] := fun x hx hm => by
      rcases List.mem_append.mp hm with e | e
      · exact ha x (List.mem_of_mem_erase hx) e
      · rw [List.mem_singleton.mp e] at hx
        exact List.Nodup.not_mem_erase hn hx
    exact ⟨(hp p h1).1, (hp p h1).2, ha p h1, in_ok (hn.erase p) (fun x hx => hp x (List.mem_of_mem_erase hx)) q h2, in_ok (hn.erase p) (fun x hx => hp x (List.mem_of_mem_erase hx)) q h3⟩
theorem erase_at {l : List Int} {i : Nat} {x : Int} (hn : l.Nodup) (h : l[i]? = some x) : l.take i ++ l.drop (i + 1) = l.erase x := by
  induction l generalizing i with
  | nil => cases h
  | cons a t ih =>
    cases i with
    | zero =>
      cases h
      rw [List.erase_cons_head]
      rfl
    | succ i =>
      have h : t[i]? = some x := by simpa using h
      have ne : a ≠ x := fun e => by
        rw [e] at hn
        exact (List.nodup_cons.mp hn).1 (List.mem_of_getElem? h)
      rw [List.erase_cons_tail (by simpa using ne), ← ih (List.nodup_cons.mp hn).2 h]
      rfl
/-- digits that the laws draw: not below 0 -/
def nn (l : List Int) (b : Int) : Prop := ∀ x ∈ l, 0 ≤ x ∧ x < b
theorem nn_getD {l : List Int} {b : Int} {i : Nat} (h : nn l b) (hi : i < l.length) : 0 ≤ l.getD i 0 ∧ l.getD i 0 < b := h _ (getD_mem hi)
theorem emod_nn {x m : Int} (hm : 0 < m) : 0 ≤ x % m ∧ x % m < m := ⟨Int.emod_nonneg _ (by omega), Int.emod_lt_of_pos _ hm⟩
theorem cut_nat' {α : Type} (u : α → Dt) {xs : List α} {a b : Nat} (h : b ≤ xs.length) : cutD (xs.map u) (some (a : Int)) (some (b : Int)) = ((xs.drop a).take (b - a)).map u := by
  rw [cutD_map]
  congr 1
  have e2 : sIx xs.length xs.length (some (b : Int)) = b := sIx_nat h
  by_cases ha : a ≤ xs.length
  · rw [sIx_nat ha, e2]
  · have e1 : sIx xs.length 0 (some (a : Int)) = xs.length := by
      unfold sIx
      simp only
      rw [if_pos (by omega)]
      omega
    rw [e1, e2, List.drop_length, List.drop_eq_nil_of_le (by omega)]
    simp
theorem slice_at {env : Sl} {fa : EF} {lo hi : OF} {ds : List Dt} {l h : Option Int} (e : fa env = some (.vis (.lst ds))) (el : lo env = some l) (eh : hi env = some h) : eSlice fa lo hi env = some (.fre (.lst (cutD ds l h))) := by
  rw [eSlice_at, e, el, eh]
  rfl
theorem oSome_int {env : Sl} {fa : EF} {i : Int} (e : fa env = some (.vis (.int i))) : oSome fa env = some (some i) := by rw [oSome_at, e]
theorem and_test {p q : Prop} [Decidable p] [Decidable q] : (if p then some (decide q) else some false) = some (decide (p ∧ q)) := by
  by_cases h : p <;> simp [h]
theorem or_test {p q : Prop} [Decidable p] [Decidable q] : (if p then some true else some (decide q)) = some (decide (p ∨ q)) := by
  by_cases h : p <;> simp [h]
/-- for rows long enough -/
def needs : Nat → Nat
  | 0 => 1
  | d + 1 => 2 * needs d + 1
theorem node_at {w : Nat} : ∀ (i d : Nat) (ps row : List Int) (b : Int), d < i → d ≤ 12 → ps.Nodup → ps.length ≤ 1000 → nn row b → needs d ≤ row.length → row.length ≤ 100000 → ∃ n : Nd, F__law_node i [ilst ps, ilst row, .int (d : Int)] = some n.d ∧ n.In w ps
  | 0, d, _, _, _, h, _, _, _, _, _, _ => absurd h (Nat.not_lt_zero _)
  | i + 1, d, ps, row, b, hi, hd, hn, hpl, hr, hl, hl2 => by
    rw [F__law_node_succ]
    have hpos : 0 < row.length := by cases d <;> (unfold needs at hl; omega)
    have h0 := nn_getD (i := 0) hr hpos
    have g0 : pIx (ilst row) (.int 0) = some (.vis (.int (row.getD 0 0))) := ix_iseqD (b := false) hpos
    have gl : pLen (ilst ps) = some (.vis (.int ps.length)) := pLen_iseq false ps
    have gr : pLen (ilst row) = some (.vis (.int row.length)) := pLen_iseq false row
    suffices hs : ∃ n : Nd, w__law_node (F__law_node i) (endR n.d) (startE 6 [ilst ps, ilst row, .int (d : Int)]) ∧ n.In w ps by
      obtain ⟨n, h1, h2⟩ := hs
      exact ⟨n, getF_eq (dc__law_node _) h1, h2⟩
    have htest : tOr (tVal (e2 pEq (eVar 2) (eC (.int 0)))) (tOr (tVal (e2 pEq (e1 pLen (eVar 0)) (eC (.int 0)))) (tVal (e2 pLt (e2 pIx (eVar 1) (eC (.int 0))) (eC (.int 4))))) [.val (ilst ps), .val (ilst row), .val (.int d), .non, .non, .non] = some (decide ((d : Int) = 0 ∨ (ps.length : Int) = 0 ∨ row.getD 0 0 < 4)) := by
      walk_at "pe"
      rw [gl, g0]
      walk_at "pe"
      rw [or_test, or_test]
    by_cases hc : (d : Int) = 0 ∨ (ps.length : Int) = 0 ∨ row.getD 0 0 < 4
    · refine ⟨.leaf (row.getD 0 0 % 2), ?_, ?_⟩
      · show w__law_node _ _ [.val (ilst ps), .val (ilst row), .val (.int d), .non, .non, .non]
        refine q_ifD htest (fun _ => ?_) fun e => absurd hc e
        refine s_ret (r := .vis (.int (row.getD 0 0 % 2))) ?_ rfl rfl rfl
        walk_at "pe"
        rw [g0]
        walk_at "pe"
        rw [pMod_int (by omega)]
      · have := emod_nn (x := row.getD 0 0) (m := 2) (by omega)
        show _ = 0 ∨ _ = 1
        omega
    · obtain ⟨d, rfl⟩ : ∃ k, d = k + 1 := ⟨d - 1, by omega⟩
      have hpp : 0 < ps.length := by omega
      unfold needs at hl
      have ha := emod_nn (x := row.getD 0 0 / 4) (m := (ps.length : Int)) (by omega)
      obtain ⟨at_, hat⟩ : ∃ a : Nat, row.getD 0 0 / 4 % (ps.length : Int) = (a : Int) := ⟨(row.getD 0 0 / 4 % (ps.length : Int)).toNat, by omega⟩
      rw [hat] at ha
      have hatl : at_ < ps.length := by omega
      obtain ⟨hf, hhf⟩ : ∃ h : Nat, ((row.length : Int) - 1) / 2 = (h : Int) := ⟨(row.length - 1) / 2, by omega⟩
      have hh : needs d ≤ hf := by omega
      have hh2 : 2 * hf + 1 ≤ row.length := by omega
      have hp : ps[at_]? = some (ps.getD at_ 0) := getD_get hatl
      have hrest := erase_at hn hp
      have hr1 : nn ((row.drop 1).take hf) b := fun x hx => hr x (List.mem_of_mem_drop (List.mem_of_mem_take hx))
      have hr2 : nn ((row.drop (1 + hf)).take hf) b := fun x hx => hr x (List.mem_of_mem_drop (List.mem_of_mem_take hx))
      have hrl : (ps.take at_ ++ ps.drop (at_ + 1)).length ≤ 1000 := by rw [List.length_append, List.length_take, List.length_drop]; omega
      obtain ⟨n1, hn1, i1⟩ := node_at (w := w) i d (ps.take at_ ++ ps.drop (at_ + 1)) ((row.drop 1).take hf) b (by omega) (by omega) (by rw [hrest]; exact hn.erase _) hrl hr1 (by rw [List.length_take, List.length_drop]; omega) (by rw [List.length_take]; omega)
      obtain ⟨n2, hn2, i2⟩ := node_at (w := w) i d (ps.take at_ ++ ps.drop (at_ + 1)) ((row.drop (1 + hf)).take hf) b (by omega) (by omega) (by rw [hrest]; exact hn.erase _) hrl hr2 (by rw [List.length_take, List.length_drop]; omega) (by rw [List.length_take]; omega)
      refine ⟨.look false (ps.getD at_ 0) n1 n2, ?_, getD_mem hatl, by rw [← hrest]; exact i1, by rw [← hrest]; exact i2⟩
      show w__law_node _ _ [.val (ilst ps), .val (ilst row), .val (.int (d + 1 : Nat)), .non, .non, .non]
      refine q_ifD htest (fun e => absurd e hc) fun _ => s_nil ?_
      refine q_asg (r := .vis (.int (at_ : Int))) ?_ rfl rfl ?_
      · walk_at "pe"
        rw [g0]
        walk_at "pe"
        rw [pDiv_int (by omega) (div64 (by omega) (by omega))]
        walk_at "pe"
        rw [gl]
        walk_at "pe"
        rw [pMod_int (by omega), hat]
      · refine q_asg (r := .fre (.lst ((ps.take at_ ++ ps.drop (at_ + 1)).map .int))) ?_ rfl rfl ?_
        · walk_at "pe"
          show pAdd (.lst (cutD (ps.map .int) none (some (at_ : Int)))) (.lst (cutD (ps.map .int) (some ((at_ : Int) + 1)) none)) = _
          rw [cutD_to, show ((at_ : Int) + 1) = ((at_ + 1 : Nat) : Int) by omega, cutD_from, ← List.map_take, ← List.map_drop, pAdd_lst (by simp [LIM]; omega), List.map_append]
        · refine q_frz rfl rfl ?_
          refine q_asg (r := .vis (.int (hf : Int))) ?_ rfl rfl ?_
          · walk_at "pe"
            rw [gr]
            walk_at "pe"
            rw [pDiv_int (by omega) (div64 (by omega) (by omega)), hhf]
          · refine s_ret (r := .fre (.lst [.int (ps.getD at_ 0), n1.d, n2.d])) ?_ rfl rfl rfl
            have c1 : cutD (row.map Dt.int) (some 1) (some (1 + (hf : Int))) = ((row.drop 1).take hf).map .int := by
              rw [show (1 : Int) + (hf : Int) = ((1 + hf : Nat) : Int) by omega, show (1 : Int) = ((1 : Nat) : Int) by rfl, cut_nat' Dt.int (by omega), show 1 + hf - 1 = hf by omega]
            have c2 : cutD (row.map Dt.int) (some (1 + (hf : Int))) (some (1 + 2 * (hf : Int))) = ((row.drop (1 + hf)).take hf).map .int := by
              rw [show (1 : Int) + (hf : Int) = ((1 + hf : Nat) : Int) by omega, show (1 : Int) + 2 * (hf : Int) = ((1 + 2 * hf : Nat) : Int) by omega, cut_nat' Dt.int (by omega), show 1 + 2 * hf - (1 + hf) = hf by omega]
            have gp : pIx (ilst ps) (.int (at_ : Int)) = some (.vis (.int (ps.getD at_ 0))) := ix_iseqD (b := false) hatl
            have ed : ((d + 1 : Nat) : Int) - 1 = (d : Int) := by omega
            have k1 : (eCall (F__law_node i) (aCons (eVar 4) (aCons (eSlice (eVar 1) (oSome (eC (.int 1))) (oSome (e2 pAdd (eC (.int 1)) (eVar 5)))) (aCons (e2 pSub (eVar 2) (eC (.int 1))) aNil)))) [.val (ilst ps), .val (ilst row), .val (.int (d + 1 : Nat)), .val (.int at_), .val (ilst (ps.take at_ ++ ps.drop (at_ + 1))), .val (.int hf)] = some (.vis n1.d) := by
              rw [eCall_at, aCons_at, aCons_at, aCons_at, eSlice_at]
              walk_at "pe"
              show Option.bind (F__law_node i [ilst _, .lst (cutD (row.map .int) (some 1) (some (1 + (hf : Int)))), .int (((d + 1 : Nat) : Int) - 1)]) _ = _
              rw [c1, ed]
              show Option.bind (F__law_node i [ilst _, ilst ((row.drop 1).take hf), .int (d : Int)]) _ = _
              rw [hn1]
              rfl
            have k2 : (eCall (F__law_node i) (aCons (eVar 4) (aCons (eSlice (eVar 1) (oSome (e2 pAdd (eC (.int 1)) (eVar 5))) (oSome (e2 pAdd (eC (.int 1)) (e2 pMul (eC (.int 2)) (eVar 5))))) (aCons (e2 pSub (eVar 2) (eC (.int 1))) aNil)))) [.val (ilst ps), .val (ilst row), .val (.int (d + 1 : Nat)), .val (.int at_), .val (ilst (ps.take at_ ++ ps.drop (at_ + 1))), .val (.int hf)] = some (.vis n2.d) := by
              rw [eCall_at, aCons_at, aCons_at, aCons_at, eSlice_at]
              walk_at "pe"
              rw [pMul_int (big64 (by decide) (by decide)) (big64 (by omega) (by omega))]
              walk_at "pe"
              show Option.bind (F__law_node i [ilst _, .lst (cutD (row.map .int) (some (1 + (hf : Int))) (some (1 + 2 * (hf : Int)))), .int (((d + 1 : Nat) : Int) - 1)]) _ = _
              rw [c2, ed]
              show Option.bind (F__law_node i [ilst _, ilst ((row.drop (1 + hf)).take hf), .int (d : Int)]) _ = _
              rw [hn2]
              rfl
            show eLst _ [.val (ilst ps), .val (ilst row), .val (.int (d + 1 : Nat)), .val (.int at_), .val (ilst (ps.take at_ ++ ps.drop (at_ + 1))), .val (.int hf)] = _
            rw [eLst_at, aCons_at, aCons_at, aCons_at, k1, k2]
            walk_at "pe"
            rw [gp]
            walk_at "pe"
end Pyl
end
section
set_option Elab.async false
set_option linter.all false
set_option maxHeartbeats 4000000
namespace Pyl
open PySem
local macro_rules | `(tactic| walk_at "pe") => `(tactic| simp (config := { implicitDefEqProofs := false }) only [eVar_at, eC_at, e1_at, e2_at, aNil_at, aCons_at, eTup_at, eLst_at, plain_nil, plain_cons, eCall_at, eIf_at, aApp_at, aDfl_at, List.cons_append, List.nil_append, eAnd_at, eOr_at, eNot_at, tVal_at, tAnd_at, tOr_at, tNot_at, tYes_at,
  pAdd_int, pSub_int, pNeg_int, pLt_int, pLe_int, pGt_int, pGe_int, pEq_int, pNe_int, pIsN_at, pNotN_at, pIx_lst, pIx_tup, pGcd_int, atL0, atL1, atL2, atL3, atL4, atL5, atL6, atL7, atL8, oNone_at, oSome_at, eSlice_at, pLen_lst, pLen_tup, pInt_int, pInt_bl, pAbs_int, pSum_ints, pMax2_int, pMin2_int, pList_lst, pList_tup, pTuple_lst, pTuple_tup, iSeq_at, gN_at, gT_at, gsN_cons, gsN_nil, wipeS_cons, wipeS_nil,
  dt_vis, dt_bor, dt_fre, sh_vis, sh_bor, sh_fre, slot_vis, slot_fre, od_dt, isNon_non, isNon_int, isNon_lst, isNon_tup, scalar_int, scalar_bl, scalar_non, Option.bind_some, Option.bind_none, Option.map_some, Option.map_none, List.getElem?_cons_zero, List.getElem?_cons_succ, List.set_cons_zero, List.set_cons_succ, List.map_cons, List.map_nil, List.any_cons, List.any_nil, Bool.or_false, Bool.false_or, Bool.false_and, Bool.and_true, Bool.true_and, Bool.not_true, Bool.not_false,
  Option.some.injEq, exists_eq_left', exists_eq_left, true_and, and_true, if_true, if_false, Bool.false_eq_true, ite_true, ite_false, reduceIte, decide_eq_true_eq, decide_eq_false_iff_not, R.vis.injEq, R.fre.injEq, Dt.lst.injEq, Dt.tup.injEq, Dt.int.injEq, Slot.own.injEq, OD.lst.injEq, reduceCtorEq, false_and, exists_false, exists_const, Bool.true_eq_false, false_implies, true_implies, implies_true, forall_const])
theorem gates_in {w : Nat} {row : List Int} (hw : w ≤ 16) (hl : row.length = 63) (hr : nn row 60) : ∃ gs : List Gt, F__law_gates [.int (w : Int), ilst row] = some (.lst (gs.map Gt.d)) ∧ GtsOk w gs ∧ gs ≠ [] ∧ gs.length ≤ 5 := by
  suffices hs : ∃ r, F__law_gates [.int (w : Int), ilst row] = some r ∧ ∃ gs : List Gt, r = .lst (gs.map Gt.d) ∧ GtsOk w gs ∧ gs ≠ [] ∧ gs.length ≤ 5 by
    obtain ⟨r, h1, gs, rfl, h2⟩ := hs
    exact ⟨gs, h1, h2⟩
  refine getF_rel dc__law_gates ?_
  show w__law_gates _ [.val (.int w), .val (ilst row), .non, .non, .non, .non, .non, .non, .non]
  have h0 := nn_getD (i := 0) hr (by omega)
  have g0 : pIx (ilst row) (.int 0) = some (.vis (.int (row.getD 0 0))) := ix_iseqD (b := false) (i := 0) (by omega)
  obtain ⟨m, hm⟩ : ∃ m : Nat, 1 + row.getD 0 0 % 5 = (m : Int) := ⟨(1 + row.getD 0 0 % 5).toNat, by omega⟩
  have hm5 : m ≤ 5 ∧ 1 ≤ m := by omega
  refine q_asg (r := .fre (.lst [])) rfl rfl rfl ?_
  refine q_forRng (lo := 0) (n := m) (fun i e => ∃ (gs : List Gt) (z3 z4 z5 z6 z7 z8 : Slot), gs.length = i ∧ GtsOk w gs ∧ e = [.val (.int w), .val (ilst row), .own (.lst (gs.map Gt.d)), z3, z4, z5, z6, z7, z8])
    (by rw [rng1 (n := (m : Int)) (by walk_at "pe"; rw [g0]; walk_at "pe"; rw [pMod_int (by omega)]; walk_at "pe"; rw [hm]) (by omega), Int.toNat_natCast]) ⟨[], _, _, _, _, _, _, rfl, trivial, rfl⟩ ?_ ?_
  · rintro i env hi ⟨gs, z3, z4, z5, z6, z7, z8, hgl, hgo, rfl⟩
    refine ⟨_, by walk_at "pe"; rfl, ?_⟩
    rw [show (0 : Int) + (i : Int) = (i : Int) by omega]
    have hp1 : nn ((row.drop (1 + 8 * i)).take 8) 60 := fun x hx => hr x (List.mem_of_mem_drop (List.mem_of_mem_take hx))
    have hp2 : ((row.drop (1 + 8 * i)).take 8).length = 8 := by rw [List.length_take, List.length_drop]; omega
    have hc : cutD (row.map Dt.int) (some (1 + 8 * (i : Int))) (some (9 + 8 * (i : Int))) = ((row.drop (1 + 8 * i)).take 8).map .int := by
      rw [show (1 : Int) + 8 * (i : Int) = ((1 + 8 * i : Nat) : Int) by omega, show (9 : Int) + 8 * (i : Int) = ((9 + 8 * i : Nat) : Int) by omega, cut_nat' Dt.int (by omega), show 9 + 8 * i - (1 + 8 * i) = 8 by omega]
    refine q_asg (r := .fre (.lst (((row.drop (1 + 8 * i)).take 8).map .int))) ?_ rfl rfl ?_
    · rw [← hc]
      refine slice_at rfl (oSome_int ?_) (oSome_int ?_)
      · walk_at "pe"
        rw [pMul_int (big64 (by decide) (by decide)) (big64 (by omega) (by omega))]
        rfl
      · walk_at "pe"
        rw [pMul_int (big64 (by decide) (by decide)) (big64 (by omega) (by omega))]
        rfl
    · generalize (row.drop (1 + 8 * i)).take 8 = P at hp1 hp2 hc ⊢
      refine q_frz rfl rfl ?_
      have p0 := nn_getD (i := 0) hp1 (by omega)
      have i0 : atL (P.map Dt.int) 0 = some (.int (P.getD 0 0)) := getD_at (j := 0) (by omega)
      obtain ⟨many, hmm, hat⟩ := tab (l := [2, 2, 3, 1, 2, 3, 0, 2]) (d := P.getD 0 0 % 8) (by omega) (by show _ < (8 : Int); omega)
      have hmm3 : 0 ≤ many ∧ many ≤ 3 := by
        simp only [List.mem_cons, List.not_mem_nil, or_false] at hmm
        omega
      refine q_asg (r := .vis (.int many)) ?_ rfl rfl ?_
      · walk_at "pe"
        rw [i0]
        walk_at "pe"
        rw [pMod_int (by omega)]
        walk_at "pe"
        rw [show [Dt.int 2, .int 2, .int 3, .int 1, .int 2, .int 3, .int 0, .int 2] = [2, 2, 3, 1, 2, 3, 0, 2].map Dt.int from rfl, hat]
        rfl
      · refine q_ifI (p := (w : Int) + (i : Int) = 0) (x := 0) (y := many) (by walk_at "pe") (fun _ => rfl) rfl ?_
        obtain ⟨mn, hmn⟩ : ∃ mn : Nat, (if (w : Int) + (i : Int) = 0 then 0 else many) = (mn : Int) := ⟨(if (w : Int) + (i : Int) = 0 then 0 else many).toNat, by split <;> omega⟩
        have hmn3 : mn ≤ 3 := by split at hmn <;> omega
        have hmn0 : (w : Int) + (i : Int) = 0 → mn = 0 := fun e => by rw [if_pos e] at hmn; omega
        rw [hmn]
        refine q_asg (r := .fre (.lst (((List.range mn).map fun j => P.getD (1 + j) 0 % ((w : Int) + (i : Int))).map .int))) ?_ rfl rfl ?_
        · refine comp_rng (n := mn) (by walk_at "pe") (by omega) fun j hj => ?_
          have ij : atL (P.map Dt.int) ((1 + j : Nat) : Int) = some (.int (P.getD (1 + j) 0)) := getD_at (by omega)
          walk_at "pe"
          rw [show (1 : Int) + (j : Int) = ((1 + j : Nat) : Int) by omega]
          rw [ij]
          walk_at "pe"
          rw [pMod_int (by omega)]
        · have hws : ∀ x ∈ (List.range mn).map fun j => P.getD (1 + j) 0 % ((w : Int) + (i : Int)), 0 ≤ x ∧ x < (w : Int) + (i : Int) := by
            intro x hx
            obtain ⟨j, hj, rfl⟩ := List.mem_map.mp hx
            have := List.mem_range.mp hj
            exact emod_nn (by omega)
          have hwl : ((List.range mn).map fun j => P.getD (1 + j) 0 % ((w : Int) + (i : Int))).length = mn := by simp
          generalize ((List.range mn).map fun j => P.getD (1 + j) 0 % ((w : Int) + (i : Int))) = ws at hws hwl ⊢
          refine q_cut (fun e => ∃ ws' : List Int, ws'.length = mn ∧ (∀ x ∈ ws', 0 ≤ x ∧ x < (w : Int) + (i : Int)) ∧ e = [.val (.int w), .val (ilst row), .own (.lst (gs.map Gt.d)), .val (.int i), .val (ilst P), .val (.int mn), .own (.lst (ws'.map .int)), z7, z8]) ?_ ?_
          · refine s_ifD (p := (i : Int) > 0 ∧ (mn : Int) > 0) ?_ (fun hh => ?_) fun _ => s_nil ⟨ws, hwl, hws, rfl⟩
            · walk_at "pe"
              exact and_test
            · refine s_put (b := ws) (v := (w : Int) + (i : Int) - 1) (j := 0) rfl (by walk_at "pe") rfl (by omega) (by omega) rfl ⟨_, by rw [List.length_set]; exact hwl, fun x hx => ?_, rfl⟩
              rcases List.mem_or_eq_of_mem_set hx with h | h
              · exact hws x h
              · rw [h]; omega
          · rintro e ⟨ws', hwl', hws', rfl⟩
            have p4 := nn_getD (i := 4) hp1 (by omega)
            have p5 := nn_getD (i := 5) hp1 (by omega)
            have i4 : pIx (ilst P) (.int 4) = some (.vis (.int (P.getD 4 0))) := ix_iseqD (b := false) (i := 4) (by omega)
            have i5 : pIx (ilst P) (.int 5) = some (.vis (.int (P.getD 5 0))) := ix_iseqD (b := false) (i := 5) (by omega)
            obtain ⟨word, hword⟩ : ∃ word : Nat, P.getD 4 0 + 60 * P.getD 5 0 = (word : Int) := ⟨(P.getD 4 0 + 60 * P.getD 5 0).toNat, by omega⟩
            refine q_asg (r := .vis (.int (word : Int))) ?_ rfl rfl ?_
            · walk_at "pe"
              rw [i4, i5]
              walk_at "pe"
              rw [pMul_int (big64 (by decide) (by decide)) (big64 (by omega) (by omega))]
              walk_at "pe"
              rw [hword]
            · refine q_frz (o := .lst (ws'.map .int)) rfl rfl ?_
              have hpm : 2 ^ mn ≤ 2 ^ 3 := Nat.pow_le_pow_right (by decide) hmn3
              have hcb : eComp [8] (iRange1 (e2 pShl (eC (.int 1)) (eVar 5))) (gN 8) tYes (e2 pMod (e1 pInt (e2 pShr (eVar 7) (eVar 8))) (eC (.int 2))) [.val (.int w), .val (ilst row), .own (.lst (gs.map Gt.d)), .val (.int i), .val (ilst P), .val (.int mn), .val (ilst ws'), .val (.int word), z8] = some (.fre (.lst (((List.range (2 ^ mn)).map fun j => ((word / 2 ^ j % 2 : Nat) : Int)).map .int))) := by
                refine comp_rng (n := 2 ^ mn) (by walk_at "pe"; exact shl_one (by omega)) (by omega) fun j hj => ?_
                walk_at "pe"
                rw [pShr_int (by omega), Int.toNat_natCast, shr1]
                walk_at "pe"
                rw [pMod_int (by omega)]
                rfl
              refine s_app (d := Gt.d ⟨false, false, false, ws', (List.range (2 ^ mn)).map fun j => ((word / 2 ^ j % 2 : Nat) : Int)⟩) rfl (r := .fre (.lst [ilst ws', ilst ((List.range (2 ^ mn)).map fun j => ((word / 2 ^ j % 2 : Nat) : Int))])) ?_ rfl (by rw [List.length_map]; exact lim_lt (by omega)) rfl rfl ⟨gs ++ [⟨false, false, false, ws', (List.range (2 ^ mn)).map fun j => ((word / 2 ^ j % 2 : Nat) : Int)⟩], .val (.int i), .val (ilst P), .val (.int mn), .val (ilst ws'), .val (.int word), z8, by rw [List.length_append, hgl]; rfl, ?_, by rw [List.map_append]; rfl⟩
              · show eLst _ [.val (.int w), .val (ilst row), .own (.lst (gs.map Gt.d)), .val (.int i), .val (ilst P), .val (.int mn), .val (ilst ws'), .val (.int word), z8] = _
                rw [eLst_at, aCons_at, aCons_at, hcb]
                walk_at "pe"
                rfl
              · refine gts_snoc hgo ⟨by show ws'.length ≤ 8; omega, ?_, ?_, ?_⟩
                · intro x hx
                  have := hws' x hx
                  rw [hgl]
                  omega
                · intro x hx
                  obtain ⟨j, _, rfl⟩ := List.mem_map.mp hx
                  have : word / 2 ^ j % 2 < 2 := Nat.mod_lt _ (by decide)
                  omega
                · show List.length (List.map _ _) = 2 ^ ws'.length
                  rw [List.length_map, List.length_range, hwl']
  · rintro env ⟨gs, z3, z4, z5, z6, z7, z8, hgl, hgo, rfl⟩
    refine q_frz rfl rfl (s_ret (r := .vis (.lst (gs.map Gt.d))) rfl rfl rfl ⟨gs, rfl, hgo, fun e => ?_, by omega⟩)
    rw [e] at hgl
    simp at hgl
    omega
end Pyl
end
section
set_option Elab.async false
set_option linter.all false
set_option maxHeartbeats 4000000
namespace Pyl
open PySem
local macro_rules | `(tactic| walk_at "pe") => `(tactic| simp (config := { implicitDefEqProofs := false }) only [eVar_at, eC_at, e1_at, e2_at, aNil_at, aCons_at, eTup_at, eLst_at, plain_nil, plain_cons, eCall_at, eIf_at, aApp_at, aDfl_at, List.cons_append, List.nil_append, eAnd_at, eOr_at, eNot_at, tVal_at, tAnd_at, tOr_at, tNot_at, tYes_at,
  pAdd_int, pSub_int, pNeg_int, pLt_int, pLe_int, pGt_int, pGe_int, pEq_int, pNe_int, pIsN_at, pNotN_at, pIx_lst, pIx_tup, pGcd_int, atL0, atL1, atL2, atL3, atL4, atL5, atL6, atL7, atL8, oNone_at, oSome_at, eSlice_at, pLen_lst, pLen_tup, pInt_int, pInt_bl, pAbs_int, pSum_ints, pMax2_int, pMin2_int, pList_lst, pList_tup, pTuple_lst, pTuple_tup, iSeq_at, gN_at, gT_at, gsN_cons, gsN_nil, wipeS_cons, wipeS_nil,
  dt_vis, dt_bor, dt_fre, sh_vis, sh_bor, sh_fre, slot_vis, slot_fre, od_dt, isNon_non, isNon_int, isNon_lst, isNon_tup, scalar_int, scalar_bl, scalar_non, Option.bind_some, Option.bind_none, Option.map_some, Option.map_none, List.getElem?_cons_zero, List.getElem?_cons_succ, List.set_cons_zero, List.set_cons_succ, List.map_cons, List.map_nil, List.any_cons, List.any_nil, Bool.or_false, Bool.false_or, Bool.false_and, Bool.and_true, Bool.true_and, Bool.not_true, Bool.not_false,
  Option.some.injEq, exists_eq_left', exists_eq_left, true_and, and_true, if_true, if_false, Bool.false_eq_true, ite_true, ite_false, reduceIte, decide_eq_true_eq, decide_eq_false_iff_not, R.vis.injEq, R.fre.injEq, Dt.lst.injEq, Dt.tup.injEq, Dt.int.injEq, Slot.own.injEq, OD.lst.injEq, reduceCtorEq, false_and, exists_false, exists_const, Bool.true_eq_false, false_implies, true_implies, implies_true, forall_const])
/-! a pair of places: their sum -/
theorem comp_rngD {env : Sl} {k n : Nat} {fa fe : EF} {f : Nat → Dt} (h : fa env = some (.vis (.int (n : Int)))) (hn : n ≤ 4000000) (hf : ∀ j : Nat, j < n → ∃ r, fe ((wipeS env [k]).set k (.val (.int (j : Int)))) = some r ∧ r.sh = false ∧ r.dt = f j) :
    eComp [k] (iRange1 fa) (gN k) tYes fe env = some (.fre (.lst ((List.range n).map f))) := by
  have := comp_of (own := [k]) (g := gN k) (fe := fe) (xs := List.range n) (u := fun j : Nat => Dt.int (j : Int)) (f := f) (v := id) (rngN h hn) (by simpa using hn) fun j hj => ⟨_, gN_at, hf j (List.mem_range.mp hj)⟩
  rw [this, List.map_id]
theorem q_putD {env env' : Sl} {D : En} {rest : WS} {fa fb : EF} {i : Nat} {ds : List Dt} {r : R} {j : Int} (h0 : env[i]? = some (.own (.lst ds))) (h : fa env = some r) (hs : r.sh = false) (hk : fb env = some (.vis (.int j))) (j0 : 0 ≤ j) (j1 : j < ds.length)
    (he : env.set i (.own (.lst (ds.set j.toNat r.dt))) = env') (k : rest D env') : wSeq (wPut i fb fa) rest D env := by
  refine q_go ⟨ds, r, j, h0, h, hs, hk, by omega, j1, ?_⟩
  rw [if_pos j0, he]
  exact k
theorem q_frzE {env env' : Sl} {D : En} {a : WS} {i : Nat} {d : Dt} (h : env[i]? = some (.val d) ∨ ∃ o, env[i]? = some (.own o) ∧ o.dt = d) (he : env.set i (.val d) = env') (k : a D env') : wFrz i a D env := by
  show a D (frzS i env)
  rcases h with h | ⟨o, h, e⟩
  · rw [frzS_val h]
    have : env.set i (.val d) = env := by
      obtain ⟨hl, hz⟩ := List.getElem?_eq_some_iff.mp h
      rw [← hz, List.set_getElem_self]
    rw [← this, he]
    exact k
  · rw [frzS_own h, e, he]
    exact k
def L0 : Ly := ⟨false, [(false, 0, 0), (false, 1, 1)]⟩
def L1 : Ly := ⟨false, [(false, 0, 1), (false, 1, 0)]⟩
theorem l0_ok : LyOk 2 L0 := ⟨rfl, by decide⟩
theorem l1_ok : LyOk 2 L1 := ⟨rfl, by decide⟩
theorem acc_ok {ls : List Ly} (h : ∀ l ∈ ls, LyOk 2 l) (hl : ls.length ≤ 1000) : RdOk ls [0, 1] := ⟨by decide, by decide, by intro x hx; simpa using hx, h, hl⟩
theorem lbit_ix {n w : Nat} {i : Nat} (hi : i < w) : pIx (itup (bitsM n w)) (.int (i : Int)) = some (.vis (.int ((bitsM n w).getD i 0))) := ix_iseqD (b := true) (by rw [bitsM_len]; exact hi)
def pairSums (w one two : Nat) : List Int := (List.range (2 ^ w)).map fun n => if one = two then (bitsM n w).getD one 0 else (if ¬ (bitsM n w).getD one 0 = (bitsM n w).getD two 0 then 1 else 0)
theorem pairSums_01 (w one two : Nat) : b01 (pairSums w one two) := by
  intro x hx
  obtain ⟨n, _, rfl⟩ := List.mem_map.mp hx
  split
  · exact b01_getD (bitsM_01 n w)
  · split
    · exact .inr rfl
    · exact .inl rfl
theorem pair_at {w one two : Nat} {k : Str} (hk : k ∈ K4) (hw : w ≤ 16) (h1 : one < w) (h2 : two < w) : ∃ J : Jd, F__law_pair_judge [.str k, .int (w : Int), .int (one : Int), .int (two : Int)] = some J.spec ∧ J.Wf ∧ J.w = w := by
  suffices hs : ∃ r, F__law_pair_judge [.str k, .int (w : Int), .int (one : Int), .int (two : Int)] = some r ∧ ∃ J : Jd, r = J.spec ∧ J.Wf ∧ J.w = w by
    obtain ⟨r, h1, J, rfl, h2⟩ := hs
    exact ⟨J, h1, h2⟩
  refine getF_rel dc__law_pair_judge ?_
  show w__law_pair_judge _ [.val (.str k), .val (.int w), .val (.int one), .val (.int two), .non, .non, .non, .non]
  have hp := pow_lim (w := w) (by omega)
  have key : ∀ z, eComp [6] (iRange1 (e2 pShl (eC (.int 1)) (eVar 1))) (gN 6) tYes (e1 pInt (e2 pNe (e2 pIx (eCall F__law_bits (aCons (eVar 6) (aCons (eVar 1) aNil))) (eVar 2)) (e2 pIx (eCall F__law_bits (aCons (eVar 6) (aCons (eVar 1) aNil))) (eVar 3)))) [.val (.str k), .val (.int w), .val (.int one), .val (.int two), z, .non, .non, .non] = some (.fre (.lst (((List.range (2 ^ w)).map fun n => if ¬ (bitsM n w).getD one 0 = (bitsM n w).getD two 0 then (1 : Int) else 0).map .int))) := fun z => by
    refine comp_rng (n := 2 ^ w) (by walk_at "pe"; exact shl_one (by omega)) (by omega) fun n hn => ?_
    walk_at "pe"
    rw [lbits_at (by omega)]
    walk_at "pe"
    rw [lbit_ix h1, lbit_ix h2]
    walk_at "pe"
    by_cases e : (bitsM n w).getD one 0 = (bitsM n w).getD two 0 <;> simp [e]
  refine q_asg (r := .fre (.lst (((List.range (2 ^ w)).map fun n => if ¬ (bitsM n w).getD one 0 = (bitsM n w).getD two 0 then (1 : Int) else 0).map .int))) (key _) rfl rfl ?_
  refine q_frz rfl rfl ?_
  refine q_cut (fun e => ∃ sl, (sl = .val (ilst (pairSums w one two)) ∨ sl = .own (.lst ((pairSums w one two).map .int))) ∧ e = [.val (.str k), .val (.int w), .val (.int one), .val (.int two), sl, .non, .non, .non]) ?_ ?_
  · refine s_ifD (p := (one : Int) = two) (by walk_at "pe") (fun e => ?_) fun e => s_nil ⟨_, .inl ?_, rfl⟩
    · refine s_asg (r := .fre (.lst ((pairSums w one two).map .int))) ?_ rfl rfl ⟨_, .inr rfl, rfl⟩
      refine comp_rng (n := 2 ^ w) (by walk_at "pe"; exact shl_one (by omega)) (by omega) fun n hn => ?_
      rw [if_pos (show one = two by omega)]
      walk_at "pe"
      rw [lbits_at (by omega)]
      walk_at "pe"
      rw [lbit_ix h1]
    · show Slot.val (ilst _) = _
      unfold pairSums
      congr 2
      refine List.map_congr_left fun n _ => ?_
      rw [if_neg (show ¬ one = two by omega)]
  · rintro e ⟨sl, hsl, rfl⟩
    have tstr : ∀ z k2, k2 ∈ K4 → tVal (e2 pEq (eVar 0) (eC (.str k2))) [.val (.str k), .val (.int w), .val (.int one), .val (.int two), sl, z, .non, .non] = some (decide (k = k2)) := fun z k2 hk2 => by
      rw [tVal_at, e2_at]
      show (match pEq (.str k) (.str k2) with | some (.vis (.bl b)) => some b | _ => none) = _
      rw [k4_eq hk hk2]
    have tand : ∀ z k2, k2 ∈ K4 → tAnd (tVal (e2 pEq (eVar 0) (eC (.str k2)))) (tVal (e2 pEq (eVar 2) (eVar 3))) [.val (.str k), .val (.int w), .val (.int one), .val (.int two), sl, z, .non, .non] = some (decide (k = k2 ∧ (one : Int) = two)) := fun z k2 hk2 => by
      rw [tAnd_at, tstr z k2 hk2]
      walk_at "pe"
      exact and_test
    refine q_ifD (tstr _ _ m_table) (fun hk1 => ?_) fun n1 => s_nil ?_
    · refine q_frzE (d := ilst (pairSums w one two)) (by rcases hsl with e | e <;> rw [e]; exact .inl rfl; exact .inr ⟨_, rfl, rfl⟩) rfl ?_
      exact s_ret (r := .fre (.lst [.str "table", .int w, ilst (pairSums w one two)])) (by walk_at "pe") rfl rfl ⟨.table w (pairSums w one two), rfl, ⟨hw, pairSums_01 _ _ _, by unfold pairSums; simp⟩, rfl⟩
    refine q_ifD (tand _ _ m_tree) (fun hk1 => ?_) fun n2 => s_nil ?_
    · refine s_ret (r := .fre (.lst [.str "tree", .int w, (Nd.look false one (.leaf 0) (.leaf 1)).d])) (by walk_at "pe"; rfl) rfl rfl ⟨.tree w (.look false one (.leaf 0) (.leaf 1)), rfl, ⟨hw, ?_⟩, rfl⟩
      exact ⟨by omega, by omega, by simp, .inl rfl, .inr rfl⟩
    refine q_ifD (tstr _ _ m_tree) (fun hk1 => ?_) fun n3 => s_nil ?_
    · have hne : ¬ (one : Int) = two := fun e => n2 ⟨hk1, e⟩
      refine s_ret (r := .fre (.lst [.str "tree", .int w, (Nd.look false one (.look false two (.leaf 0) (.leaf 1)) (.look false two (.leaf 1) (.leaf 0))).d])) (by walk_at "pe"; rfl) rfl rfl ⟨.tree w (.look false one (.look false two (.leaf 0) (.leaf 1)) (.look false two (.leaf 1) (.leaf 0))), rfl, ⟨hw, ?_⟩, rfl⟩
      refine ⟨by omega, by omega, by simp, ⟨by omega, by omega, ?_, .inl rfl, .inr rfl⟩, ⟨by omega, by omega, ?_, .inr rfl, .inl rfl⟩⟩ <;>
      · rw [List.nil_append, List.mem_singleton]
        omega
    refine q_ifD (tand _ _ m_circuit) (fun hk1 => ?_) fun n4 => s_nil ?_
    · refine s_ret (r := .fre (.lst [.str "circuit", .int w, .lst [Gt.d ⟨false, false, false, [one], [0, 1]⟩]])) (by walk_at "pe"; rfl) rfl rfl ⟨.circuit w [⟨false, false, false, [one], [0, 1]⟩], rfl, ⟨hw, ⟨⟨by show 1 ≤ 8; decide, ?_, ?_, rfl⟩, trivial⟩, by simp, by show 1 ≤ 4000; decide⟩, rfl⟩
      · intro x hx
        rw [List.mem_singleton.mp hx]
        omega
      · intro x hx; simpa using hx
    refine q_ifD (tstr _ _ m_circuit) (fun hk1 => ?_) fun n5 => s_nil ?_
    · refine s_ret (r := .fre (.lst [.str "circuit", .int w, .lst [Gt.d ⟨false, false, false, [one, two], [0, 1, 1, 0]⟩]])) (by walk_at "pe"; rfl) rfl rfl ⟨.circuit w [⟨false, false, false, [one, two], [0, 1, 1, 0]⟩], rfl, ⟨hw, ⟨⟨by show 2 ≤ 8; decide, ?_, ?_, rfl⟩, trivial⟩, by simp, by show 1 ≤ 4000; decide⟩, rfl⟩
      · intro x hx
        rcases List.mem_cons.mp hx with e | hx
        · rw [e]; omega
        · rw [List.mem_singleton.mp hx]; omega
      · intro x hx
        simp at hx
        omega
    refine q_asg (r := .fre (.lst ((List.replicate w L0).map Ly.d))) ?_ rfl rfl ?_
    · rw [comp_rngD (n := w) (f := fun _ => L0.d) (by walk_at "pe") (by omega) fun j hj => ⟨.fre (.lst [.lst [.int 0, .int 0], .lst [.int 1, .int 1]]), by walk_at "pe", rfl, rfl⟩]
      rw [List.map_const', List.length_range, List.map_replicate]
    · refine q_putD (j := (one : Int)) (r := .fre (.lst [.lst [.int 0, .int 1], .lst [.int 1, .int 0]])) rfl (by walk_at "pe") rfl (by walk_at "pe") (by omega) (by simp; omega) rfl ?_
      refine q_putD (j := (two : Int)) (r := .fre (.lst [.lst [.int 0, .int 1], .lst [.int 1, .int 0]])) rfl (by walk_at "pe") rfl (by walk_at "pe") (by omega) (by simp; omega) rfl ?_
      refine q_frz rfl rfl ?_
      have e : ((((List.replicate w L0).map Ly.d).set (one : Int).toNat L1.d).set (two : Int).toNat L1.d) = (((List.replicate w L0).set one L1).set two L1).map Ly.d := by
        rw [List.map_set, List.map_set, Int.toNat_natCast, Int.toNat_natCast]
      have hlen : (((List.replicate w L0).set one L1).set two L1).length = w := by simp
      refine s_ret (r := .fre (.lst [.str "reader", .int w, .lst ((((List.replicate w L0).set one L1).set two L1).map Ly.d), ilst [0, 1]])) ?_ rfl rfl ⟨.reader (((List.replicate w L0).set one L1).set two L1) [0, 1], ?_, ⟨by show List.length _ ≤ 16; rw [hlen]; exact hw, acc_ok ?_ (by rw [hlen]; omega)⟩, hlen⟩
      · rw [← e]
        walk_at "pe"
        rfl
      · show _ = Dt.lst [.str "reader", .int (List.length _ : Nat), _, _]
        rw [hlen]
        rfl
      · intro l hl
        rcases List.mem_or_eq_of_mem_set hl with h | h
        · rcases List.mem_or_eq_of_mem_set h with h | h
          · rw [(List.mem_replicate.mp h).2]; exact l0_ok
          · rw [h]; exact l1_ok
        · rw [h]; exact l1_ok
end Pyl
end
section
set_option Elab.async false
set_option linter.all false
set_option maxHeartbeats 8000000
namespace Pyl
open PySem
local macro_rules | `(tactic| walk_at "pe") => `(tactic| simp (config := { implicitDefEqProofs := false }) only [eVar_at, eC_at, e1_at, e2_at, aNil_at, aCons_at, eTup_at, eLst_at, plain_nil, plain_cons, eCall_at, eIf_at, aApp_at, aDfl_at, List.cons_append, List.nil_append, eAnd_at, eOr_at, eNot_at, tVal_at, tAnd_at, tOr_at, tNot_at, tYes_at,
  pAdd_int, pSub_int, pNeg_int, pLt_int, pLe_int, pGt_int, pGe_int, pEq_int, pNe_int, pIsN_at, pNotN_at, pIx_lst, pIx_tup, pGcd_int, atL0, atL1, atL2, atL3, atL4, atL5, atL6, atL7, atL8, oNone_at, oSome_at, eSlice_at, pLen_lst, pLen_tup, pInt_int, pInt_bl, pAbs_int, pSum_ints, pMax2_int, pMin2_int, pList_lst, pList_tup, pTuple_lst, pTuple_tup, iSeq_at, gN_at, gT_at, gsN_cons, gsN_nil, wipeS_cons, wipeS_nil,
  dt_vis, dt_bor, dt_fre, sh_vis, sh_bor, sh_fre, slot_vis, slot_fre, od_dt, isNon_non, isNon_int, isNon_lst, isNon_tup, scalar_int, scalar_bl, scalar_non, Option.bind_some, Option.bind_none, Option.map_some, Option.map_none, List.getElem?_cons_zero, List.getElem?_cons_succ, List.set_cons_zero, List.set_cons_succ, List.map_cons, List.map_nil, List.any_cons, List.any_nil, Bool.or_false, Bool.false_or, Bool.false_and, Bool.and_true, Bool.true_and, Bool.not_true, Bool.not_false,
  Option.some.injEq, exists_eq_left', exists_eq_left, true_and, and_true, if_true, if_false, Bool.false_eq_true, ite_true, ite_false, reduceIte, decide_eq_true_eq, decide_eq_false_iff_not, R.vis.injEq, R.fre.injEq, Dt.lst.injEq, Dt.tup.injEq, Dt.int.injEq, Slot.own.injEq, OD.lst.injEq, reduceCtorEq, false_and, exists_false, exists_const, Bool.true_eq_false, false_implies, true_implies, implies_true, forall_const])
theorem sumA_ilst (ns : List Int) : pSumA (ilst ns) = some (.vis (.int ns.sum)) := by
  show (intsOf (ns.map .int)).map _ = _
  rw [intsOf_ints]
  rfl
theorem sumA_itup (ns : List Int) : pSumA (itup ns) = some (.vis (.int ns.sum)) := by
  show (intsOf (ns.map .int)).map _ = _
  rw [intsOf_ints]
  rfl
/-- a name holds a judge as the laws write it -/
def Hol (sl : Slot) (d : Dt) : Prop := sl = .val d ∨ ∃ o, sl = .own o ∧ o.dt = d
theorem Hol.val {d : Dt} : Hol (.val d) d := .inl rfl
theorem Hol.own {ds : List Dt} : Hol (.own (.lst ds)) (.lst ds) := .inr ⟨_, rfl, rfl⟩
theorem Hol.var {env : Sl} {i : Nat} {sl : Slot} {ds : List Dt} (h : env[i]? = some sl) (hh : Hol sl (.lst ds)) : eVar i env = some (.vis (.lst ds)) ∨ eVar i env = some (.bor (.lst ds)) := by
  rcases hh with e | ⟨o, e, e2⟩
  · subst e
    exact .inl (by rw [eVar_at, h])
  · subst e
    cases o with
    | lst xs =>
      cases e2
      exact .inr (by rw [eVar_at, h])
theorem Hol.frz {env : Sl} {i : Nat} {sl : Slot} {d : Dt} (h : env[i]? = some sl) (hh : Hol sl d) : env[i]? = some (.val d) ∨ ∃ o, env[i]? = some (.own o) ∧ o.dt = d := by
  rcases hh with e | ⟨o, e, e2⟩
  · exact .inl (by rw [h, e])
  · exact .inr ⟨o, by rw [h, e], e2⟩
def manys : List Int := [2, 3, 2, 3, 2, 3, 2, 1]
theorem nn_digits {c : Int} {n : Nat} : nn (digitsM c (List.replicate n 60)) 60 := by
  intro x hx
  obtain ⟨i, hi⟩ := List.mem_iff_getElem?.mp hx
  have hl := digitsM_len c (List.replicate n 60)
  have hi2 := (List.getElem?_eq_some_iff.mp hi).1
  refine digitsM_get (fun s hs => by rw [(List.mem_replicate.mp hs).2]; decide) (i := i) (s := 60) ?_ hi
  rw [List.getElem?_replicate, if_pos (by simp at hl; omega)]
structure DrJ (w : Nat) (J : Jd) : Prop where
  wf : J.Wf
  w_ : J.w = w
theorem tree_in {w : Nat} {n : Nd} (hw : w ≤ 16) (h : n.In w ((List.range w).map fun j : Nat => (j : Int))) : DrJ w (.tree w n) := by
  refine ⟨⟨hw, in_ok (ps := (List.range w).map fun j : Nat => (j : Int)) ?_ ?_ (fun _ _ => by simp) h⟩, rfl⟩
  · rw [List.Nodup, List.pairwise_map]
    exact List.nodup_range.imp fun {a b} ne e => ne (by omega)
  · intro p hp
    obtain ⟨j, hj, rfl⟩ := List.mem_map.mp hp
    have := List.mem_range.mp hj
    omega
theorem judge_at {ns : List Int} {at_ w d : Nat} (hat : at_ < 4000000000) (hw : w ≤ 12) (hd : d ≤ 5) : ∃ J : Jd, F__law_judge [ilst ns, .int (at_ : Int), .int (w : Int), .int (d : Int)] = some J.spec ∧ DrJ w J := by
  suffices hs : ∃ r, F__law_judge [ilst ns, .int (at_ : Int), .int (w : Int), .int (d : Int)] = some r ∧ ∃ J : Jd, r = J.spec ∧ DrJ w J by
    obtain ⟨r, h1, J, rfl, h2⟩ := hs
    exact ⟨J, h1, h2⟩
  refine getF_rel dc__law_judge ?_
  show w__law_judge _ [.val (ilst ns), .val (.int at_), .val (.int w), .val (.int d), .non, .non, .non, .non, .non, .non, .non, .non, .non]
  have hp := pow_lim (w := w) (by omega)
  have hp12 : 2 ^ w ≤ 2 ^ 12 := pow2_le hw
  have hp4096 : (2 : Nat) ^ 12 = 4096 := by decide
  -- the kind
  have hpos : ∀ s ∈ ([4, 8, 10, 60, 60] : List Int), 0 < s ∧ s < 18446744073709551616 := by decide
  have g0 := digs_at (c := cellM ns at_) (ns := [4, 8, 10, 60, 60]) ⟨fun s hs => ⟨(hpos s hs).1, bigs64 (hpos s hs).1 (hpos s hs).2⟩, by decide⟩
  have b0 : ∀ (i : Nat) (s d : Int), ([4, 8, 10, 60, 60] : List Int)[i]? = some s → (digitsM (cellM ns at_) [4, 8, 10, 60, 60])[i]? = some d → 0 ≤ d ∧ d < s := fun i s d h1 h2 => digitsM_get (fun s hs => (hpos s hs).1) h1 h2
  have l0 : (digitsM (cellM ns at_) [4, 8, 10, 60, 60]).length = 5 := digitsM_len _ _
  refine q_asg (r := .vis (ilst (digitsM (cellM ns at_) [4, 8, 10, 60, 60]))) ?_ rfl rfl ?_
  · walk_at "pe"
    rw [cell_at (k := (at_ : Int)) (by omega)]
    walk_at "pe"
    show Option.bind (F__law_digits [.int (cellM ns at_), ilst [4, 8, 10, 60, 60]]) _ = _
    rw [g0]
    rfl
  generalize digitsM (cellM ns at_) [4, 8, 10, 60, 60] = D0 at g0 b0 l0
  match D0, l0 with
  | [k0, k1, k2, k3, k4], _ =>
  have w0 := b0 0 4 k0 rfl rfl
  have w1 := b0 1 8 k1 rfl rfl
  have w2 := b0 2 10 k2 rfl rfl
  have w3 := b0 3 60 k3 rfl rfl
  have w4 := b0 4 60 k4 rfl rfl
  -- the row
  refine q_asg (r := .vis (ilst (digitsM (cellM ns ((at_ : Int) + 1)) (List.replicate 63 60)))) ?_ rfl rfl ?_
  · rw [eCall_at, aCons_at, aCons_at, comp_consts (n := 63) (by rfl) (by omega)]
    walk_at "pe"
    rw [cell_at (k := (at_ : Int) + 1) (by omega)]
    walk_at "pe"
    show Option.bind (F__law_digits [.int (cellM ns ((at_ : Int) + 1)), ilst (List.replicate 63 60)]) _ = _
    rw [digs_at ⟨fun s hs => by rw [(List.mem_replicate.mp hs).2]; exact ⟨by decide, bigs64 (by decide) (by decide)⟩, by simp⟩]
    rfl
  have hr : nn (digitsM (cellM ns ((at_ : Int) + 1)) (List.replicate 63 60)) 60 := nn_digits
  have hl : (digitsM (cellM ns ((at_ : Int) + 1)) (List.replicate 63 60)).length = 63 := by rw [digitsM_len]; simp
  generalize digitsM (cellM ns ((at_ : Int) + 1)) (List.replicate 63 60) = row at hr hl
  have rix : ∀ (i : Nat), i < 63 → pIx (ilst row) (.int (i : Int)) = some (.vis (.int (row.getD i 0))) := fun i hi => ix_iseqD (b := false) (by omega)
  -- a table at first
  let bits : List Int := (List.range (2 ^ w)).map fun k => row.getD (k % 63) 0 / (1 + ((k / 63 : Nat) : Int)) % 2
  have hb : b01 bits := by
    intro x hx
    obtain ⟨k, _, rfl⟩ := List.mem_map.mp hx
    have := emod_nn (x := row.getD (k % 63) 0 / (1 + ((k / 63 : Nat) : Int))) (m := 2) (by omega)
    omega
  have hbl : bits.length = 2 ^ w := by simp [bits]
  refine q_asg (r := .fre (.lst [.str "table", .int w, ilst bits])) ?_ rfl rfl ?_
  · have hc : eComp [10] (iRange1 (e2 pShl (eC (.int 1)) (eVar 2))) (gN 10) tYes (e2 pMod (e1 pInt (e2 pDiv (e2 pIx (eVar 5) (e2 pMod (e1 pInt (eVar 10)) (eC (.int 63)))) (e2 pAdd (eC (.int 1)) (e2 pDiv (eVar 10) (eC (.int 63)))))) (eC (.int 2))) [.val (ilst ns), .val (.int at_), .val (.int w), .val (.int d), .val (ilst [k0, k1, k2, k3, k4]), .val (ilst row), .non, .non, .non, .non, .non, .non, .non] = some (.fre (.lst (bits.map .int))) := by
      refine comp_rng (n := 2 ^ w) (by walk_at "pe"; exact shl_one (by omega)) (by omega) fun k hk => ?_
      walk_at "pe"
      rw [pMod_int (by omega)]
      walk_at "pe"
      rw [show (k : Int) % 63 = ((k % 63 : Nat) : Int) by omega, rix _ (Nat.mod_lt _ (by decide))]
      walk_at "pe"
      rw [pDiv_int (by omega) (div64 (by omega) (by omega))]
      walk_at "pe"
      rw [show (k : Int) / 63 = ((k / 63 : Nat) : Int) by omega, pDiv_int (by omega) (div64 (by omega) (by omega))]
      walk_at "pe"
      rw [pMod_int (by omega)]
    show eLst _ [.val (ilst ns), .val (.int at_), .val (.int w), .val (.int d), .val (ilst [k0, k1, k2, k3, k4]), .val (ilst row), .non, .non, .non, .non, .non, .non, .non] = _
    rw [eLst_at, aCons_at, aCons_at, aCons_at, hc]
    walk_at "pe"
    rfl
  refine q_frz rfl rfl ?_
  have kix : ∀ (j : Nat) (x : Int), [k0, k1, k2, k3, k4][j]? = some x → pIx (ilst [k0, k1, k2, k3, k4]) (.int (j : Int)) = some (.vis (.int x)) := fun j x h => ix_iseq (b := false) h
  have ktst : ∀ (E : Sl) (c : Int), E[4]? = some (.val (ilst [k0, k1, k2, k3, k4])) → tVal (e2 pEq (e2 pIx (eVar 4) (eC (.int 0))) (eC (.int c))) E = some (decide (k0 = c)) := fun E c h => by
    rw [tVal_at, e2_at, e2_at, eVar_at, h]
    show (match ((pIx (ilst [k0, k1, k2, k3, k4]) (.int 0)).bind fun a => (eC (.int c) E).bind fun b => pEq a.dt b.dt) with | some (.vis (.bl b)) => some b | _ => none) = _
    rw [show pIx (ilst [k0, k1, k2, k3, k4]) (.int 0) = some (.vis (.int k0)) from kix 0 k0 rfl]
    show (match pEq (.int k0) (.int c) with | some (.vis (.bl b)) => some b | _ => none) = _
    rw [pEq_int]
  -- circuits
  refine q_cut (fun e => ∃ (J : Jd) (sl : Slot), DrJ w J ∧ Hol sl J.spec ∧ e = [.val (ilst ns), .val (.int at_), .val (.int w), .val (.int d), .val (ilst [k0, k1, k2, k3, k4]), .val (ilst row), sl, .non, .non, .non, .non, .non, .non]) ?_ ?_
  · refine s_ifD (ktst _ 1 rfl) (fun _ => ?_) fun _ => s_nil ⟨.table w bits, _, ⟨⟨by show w ≤ 16; omega, hb, hbl⟩, rfl⟩, .val, rfl⟩
    obtain ⟨gs, q1, q2, q3, q4⟩ := gates_in (w := w) (by omega) hl hr
    refine s_asg (r := .fre (.lst [.str "circuit", .int w, .lst (gs.map Gt.d)])) ?_ rfl rfl ⟨.circuit w gs, _, ⟨⟨by show w ≤ 16; omega, q2, q3, by omega⟩, rfl⟩, .own, rfl⟩
    walk_at "pe"
    rw [q1]
    rfl
  rintro e ⟨J1, sl1, hJ1, hs1, rfl⟩
  -- trees
  refine q_cut (fun e => ∃ (J : Jd) (sl : Slot), DrJ w J ∧ Hol sl J.spec ∧ e = [.val (ilst ns), .val (.int at_), .val (.int w), .val (.int d), .val (ilst [k0, k1, k2, k3, k4]), .val (ilst row), sl, .non, .non, .non, .non, .non, .non]) ?_ ?_
  · refine s_ifD (ktst _ 2 rfl) (fun _ => ?_) fun _ => s_nil ⟨J1, _, hJ1, hs1, rfl⟩
    have hnd : needs d ≤ 63 := by
      have : d = 0 ∨ d = 1 ∨ d = 2 ∨ d = 3 ∨ d = 4 ∨ d = 5 := by omega
      rcases this with e | e | e | e | e | e <;> subst e <;> decide
    obtain ⟨n, q1, q2⟩ := node_at (w := w) 8 d ((List.range w).map fun j : Nat => (j : Int)) row 60 (by omega) (by omega) (by
      rw [List.Nodup, List.pairwise_map]
      exact List.nodup_range.imp fun {a b} ne e => ne (by omega)) (by simp; omega) hr (by omega) (by omega)
    refine s_asg (r := .fre (.lst [.str "tree", .int w, n.d])) ?_ rfl rfl ⟨.tree w n, _, tree_in (by omega) q2, .own, rfl⟩
    have hc : eComp [10] (iRange1 (eVar 2)) (gN 10) tYes (eVar 10) [.val (ilst ns), .val (.int at_), .val (.int w), .val (.int d), .val (ilst [k0, k1, k2, k3, k4]), .val (ilst row), sl1, .non, .non, .non, .non, .non, .non] = some (.fre (.lst (((List.range w).map fun j : Nat => (j : Int)).map .int))) := comp_rng (n := w) (by walk_at "pe") (by omega) fun j hj => rfl
    rw [eLst_at, aCons_at, aCons_at, aCons_at, eCall_at, aCons_at, aCons_at, aCons_at, hc]
    walk_at "pe"
    rw [show (Dt.lst (((List.range w).map fun j : Nat => (j : Int)).map .int)) = ilst ((List.range w).map fun j : Nat => (j : Int)) from rfl, q1]
    rfl
  rintro e ⟨J2, sl2, hJ2, hs2, rfl⟩
  -- readers
  refine q_cut (fun e => ∃ (J : Jd) (sl z8 z9 z10 z11 : Slot), DrJ w J ∧ Hol sl J.spec ∧ e = [.val (ilst ns), .val (.int at_), .val (.int w), .val (.int d), .val (ilst [k0, k1, k2, k3, k4]), .val (ilst row), sl, .non, z8, z9, z10, z11, .non]) ?_ ?_
  · refine s_ifD (ktst _ 3 rfl) (fun _ => ?_) fun _ => s_nil ⟨J2, _, _, _, _, _, hJ2, hs2, rfl⟩
    obtain ⟨m, hm, hma⟩ := tab (l := manys) (d := k1) (by omega) (by show _ < (8 : Int); omega)
    have hm3 : 1 ≤ m ∧ m ≤ 3 := by
      simp only [manys, List.mem_cons, List.not_mem_nil, or_false] at hm
      omega
    obtain ⟨mn, rfl⟩ : ∃ mn : Nat, m = (mn : Int) := ⟨m.toNat, by omega⟩
    refine q_asg (r := .vis (.int (mn : Int))) ?_ rfl rfl ?_
    · walk_at "pe"
      rw [show pIx (ilst [k0, k1, k2, k3, k4]) (.int 1) = some (.vis (.int k1)) from kix 1 k1 rfl]
      walk_at "pe"
      rw [show [Dt.int 2, .int 3, .int 2, .int 3, .int 2, .int 3, .int 2, .int 1] = manys.map Dt.int from rfl, hma]
      rfl
    refine q_asg (r := .fre (.lst [])) rfl rfl rfl ?_
    refine q_forRng (lo := 0) (n := w) (fun i e => ∃ (ls : List Ly) (z10 z11 : Slot), ls.length = i ∧ (∀ l ∈ ls, LyOk mn l) ∧ e = [.val (ilst ns), .val (.int at_), .val (.int w), .val (.int d), .val (ilst [k0, k1, k2, k3, k4]), .val (ilst row), sl2, .non, .val (.int mn), .own (.lst (ls.map Ly.d)), z10, z11, .non]) (by rw [rng1 (n := (w : Int)) (by walk_at "pe") (by omega), Int.toNat_natCast]) ⟨[], _, _, rfl, by simp, rfl⟩ ?_ ?_
    · rintro i env hi ⟨ls, z10, z11, hll, hlo, rfl⟩
      refine ⟨_, by walk_at "pe"; rfl, ?_⟩
      rw [show (0 : Int) + (i : Int) = (i : Int) by omega]
      let P : List Int := (List.range (2 * mn)).map fun j => row.getD ((2 * mn * i + j) % 60) 0 % (mn : Int)
      have hP : ∀ x ∈ P, 0 ≤ x ∧ x < (mn : Int) := by
        intro x hx
        obtain ⟨j, _, rfl⟩ := List.mem_map.mp hx
        exact emod_nn (by omega)
      have hPl : P.length = 2 * mn := by simp [P]
      have hmi : mn * i ≤ 3 * 12 := Nat.mul_le_mul (by omega) (by omega)
      refine q_asg (r := .fre (.lst (P.map .int))) ?_ rfl rfl ?_
      · refine comp_rng (n := 2 * mn) ?_ (by omega) fun j hj => ?_
        · walk_at "pe"
          rw [pMul_int (big64 (by decide) (by decide)) (big64 (by omega) (by omega))]
          simp
        · walk_at "pe"
          rw [pMul_int (big64 (by decide) (by decide)) (big64 (by omega) (by omega))]
          walk_at "pe"
          rw [pMul_int (big64 (by omega) (by omega)) (big64 (by omega) (by omega))]
          walk_at "pe"
          have e1 : (2 : Int) * (mn : Int) * (i : Int) + (j : Int) = ((2 * mn * i + j : Nat) : Int) := by simp
          rw [pMod_int (by omega), e1, show ((2 * mn * i + j : Nat) : Int) % 60 = (((2 * mn * i + j) % 60 : Nat) : Int) by omega]
          walk_at "pe"
          rw [rix _ (by omega)]
          walk_at "pe"
          rw [pMod_int (by omega)]
      · refine q_frz rfl rfl ?_
        let l : Ly := ⟨false, (List.range mn).map fun j => (false, P.getD (2 * j) 0, P.getD (2 * j + 1) 0)⟩
        have hlok : LyOk mn l := ⟨by simp [l], fun p hp => by
          obtain ⟨j, hj, rfl⟩ := List.mem_map.mp hp
          have hj := List.mem_range.mp hj
          exact ⟨hP _ (getD_mem (by omega)), hP _ (getD_mem (by omega))⟩⟩
        have hld : l.d = .lst ((List.range mn).map fun j => ilst [P.getD (2 * j) 0, P.getD (2 * j + 1) 0]) := by
          show Dt.lst (List.map prD _) = _
          simp only [l, List.map_map]
          rfl
        refine s_app (d := l.d) rfl (r := .fre (.lst ((List.range mn).map fun j => ilst [P.getD (2 * j) 0, P.getD (2 * j + 1) 0]))) ?_ rfl (by rw [List.length_map]; exact lim_lt (by omega)) hld.symm rfl ⟨ls ++ [l], .val (.int i), .val (ilst P), by rw [List.length_append, hll]; rfl, ?_, by rw [List.map_append]; rfl⟩
        · refine comp_rngD (n := mn) (by walk_at "pe") (by omega) fun j hj => ⟨.fre (.lst [.int (P.getD (2 * j) 0), .int (P.getD (2 * j + 1) 0)]), ?_, rfl, rfl⟩
          have q1 : atL (P.map Dt.int) ((2 * j : Nat) : Int) = some (.int (P.getD (2 * j) 0)) := getD_at (by omega)
          have q2 : atL (P.map Dt.int) ((2 * j + 1 : Nat) : Int) = some (.int (P.getD (2 * j + 1) 0)) := getD_at (by omega)
          walk_at "pe"
          rw [pMul_int (big64 (by decide) (by decide)) (big64 (by omega) (by omega))]
          walk_at "pe"
          rw [show (2 : Int) * (j : Int) + 1 = ((2 * j + 1 : Nat) : Int) by omega, show (2 : Int) * (j : Int) = ((2 * j : Nat) : Int) by omega]
          rw [q1, q2]
          rfl
        · intro x hx
          rcases List.mem_append.mp hx with h | h
          · exact hlo x h
          · rw [List.mem_singleton.mp h]; exact hlok
    · rintro env ⟨ls, z10, z11, hll, hlo, rfl⟩
      refine q_frz (o := .lst (ls.map Ly.d)) rfl rfl ?_
      let acc : List Int := (List.range mn).map fun j => row.getD (62 - j) 0 / 2 % 2
      have hacc : b01 acc := by
        intro x hx
        obtain ⟨k, _, rfl⟩ := List.mem_map.mp hx
        have := emod_nn (x := row.getD (62 - k) 0 / 2) (m := 2) (by omega)
        omega
      have hal : acc.length = mn := by simp [acc]
      refine s_asg (r := .fre (.lst [.str "reader", .int w, .lst (ls.map Ly.d), ilst acc])) ?_ rfl rfl ⟨.reader ls acc, .own (.lst [.str "reader", .int w, .lst (ls.map Ly.d), ilst acc]), _, _, _, _, ⟨⟨by show ls.length ≤ 16; omega, ⟨by omega, by omega, hacc, by rw [hal]; exact hlo, by omega⟩⟩, hll⟩, ?_, rfl⟩
      · have hc : eComp [12] (iRange1 (eVar 8)) (gN 12) tYes (e2 pMod (e1 pInt (e2 pDiv (e2 pIx (eVar 5) (e2 pSub (eC (.int 62)) (eVar 12))) (eC (.int 2)))) (eC (.int 2))) [.val (ilst ns), .val (.int at_), .val (.int w), .val (.int d), .val (ilst [k0, k1, k2, k3, k4]), .val (ilst row), sl2, .non, .val (.int mn), .val (.lst (ls.map Ly.d)), z10, z11, .non] = some (.fre (.lst (acc.map .int))) := by
          refine comp_rng (n := mn) (by walk_at "pe") (by omega) fun j hj => ?_
          walk_at "pe"
          rw [show (62 : Int) - (j : Int) = ((62 - j : Nat) : Int) by omega, rix _ (by omega)]
          walk_at "pe"
          rw [pDiv_int (by omega) (div64 (by omega) (by omega))]
          walk_at "pe"
          rw [pMod_int (by omega)]
        show eLst _ [.val (ilst ns), .val (.int at_), .val (.int w), .val (.int d), .val (ilst [k0, k1, k2, k3, k4]), .val (ilst row), sl2, .non, .val (.int mn), .val (.lst (ls.map Ly.d)), z10, z11, .non] = _
        rw [eLst_at, aCons_at, aCons_at, aCons_at, aCons_at, hc]
        walk_at "pe"
        rfl
      · show Hol _ (Dt.lst [.str "reader", .int (ls.length : Nat), _, _])
        rw [hll]
        exact .own
  rintro e ⟨J3, sl3, z8, z9, z10, z11, hJ3, hs3, rfl⟩
  refine q_frzE (hs3.frz rfl) rfl ?_
  refine q_asg (r := .vis (ilst J3.truth)) ?_ rfl rfl ?_
  · walk_at "pe"
    rw [ltruth_at hJ3.wf]
    rfl
  have t0 : ∃ c, tAnd (tVal (e2 pGt (eVar 2) (eC (.int 0)))) (tAnd (tVal (e2 pGt (e2 pIx (eVar 4) (eC (.int 2))) (eC (.int 0)))) (tOr (tVal (e2 pEq (e1 pSumA (eVar 7)) (eC (.int 0)))) (tVal (e2 pEq (e1 pSumA (eVar 7)) (e1 pLen (eVar 7))))))
      [.val (ilst ns), .val (.int at_), .val (.int w), .val (.int d), .val (ilst [k0, k1, k2, k3, k4]), .val (ilst row), .val J3.spec, .val (ilst J3.truth), z8, z9, z10, z11, .non] = some c ∧ (c = true → 0 < w) := by
    walk_at "pe"
    rw [show pIx (ilst [k0, k1, k2, k3, k4]) (.int 2) = some (.vis (.int k2)) from kix 2 k2 rfl, sumA_ilst, show pLen (ilst J3.truth) = some (.vis (.int J3.truth.length)) from pLen_iseq false _]
    walk_at "pe"
    by_cases q : (0 : Int) < w
    · rw [if_pos q]
      by_cases q2 : 0 < k2
      · rw [if_pos q2]
        by_cases q3 : J3.truth.sum = 0
        · rw [if_pos q3]
          exact ⟨_, rfl, fun _ => by omega⟩
        · rw [if_neg q3]
          exact ⟨_, rfl, fun _ => by omega⟩
      · rw [if_neg q2]
        exact ⟨_, rfl, fun _ => by omega⟩
    · rw [if_neg q]
      exact ⟨false, rfl, fun e => nomatch e⟩
  obtain ⟨c, t1, t2⟩ := t0
  refine q_cut (fun e => ∃ (J : Jd) (sl : Slot), DrJ w J ∧ Hol sl J.spec ∧ e = [.val (ilst ns), .val (.int at_), .val (.int w), .val (.int d), .val (ilst [k0, k1, k2, k3, k4]), .val (ilst row), sl, .val (ilst J3.truth), z8, z9, z10, z11, .non]) ?_ ?_
  · refine s_if t1 (fun hc => ?_) fun _ => s_nil ⟨J3, _, hJ3, .val, rfl⟩
    have hw0 := t2 hc
    obtain ⟨one, h1⟩ : ∃ n : Nat, k3 % (w : Int) = (n : Int) := ⟨(k3 % (w : Int)).toNat, by have := emod_nn (x := k3) (m := (w : Int)) (by omega); omega⟩
    obtain ⟨two, h2⟩ : ∃ n : Nat, k4 % (w : Int) = (n : Int) := ⟨(k4 % (w : Int)).toNat, by have := emod_nn (x := k4) (m := (w : Int)) (by omega); omega⟩
    have h1w : one < w := by have := emod_nn (x := k3) (m := (w : Int)) (by omega); omega
    have h2w : two < w := by have := emod_nn (x := k4) (m := (w : Int)) (by omega); omega
    obtain ⟨J4, q1, q2, q3⟩ := pair_at (kind_K4 J3) (w := w) (by omega) h1w h2w
    refine s_asg (r := .vis J4.spec) ?_ rfl rfl ⟨J4, _, ⟨q2, q3⟩, .val, rfl⟩
    rw [eCall_at, aCons_at, aCons_at, aCons_at, aCons_at]
    walk_at "pe"
    rw [spec_ix0, show pIx (ilst [k0, k1, k2, k3, k4]) (.int 3) = some (.vis (.int k3)) from kix 3 k3 rfl, show pIx (ilst [k0, k1, k2, k3, k4]) (.int 4) = some (.vis (.int k4)) from kix 4 k4 rfl]
    walk_at "pe"
    rw [pMod_int (by omega), pMod_int (by omega), h1, h2]
    walk_at "pe"
    rw [q1]
    rfl
  rintro e ⟨J, sl, hJ, hs, rfl⟩
  exact q_frzE (hs.frz rfl) rfl (s_ret (r := .vis J.spec) rfl rfl rfl ⟨J, rfl, hJ⟩)
end Pyl
end
section
set_option Elab.async false
set_option linter.all false
set_option maxHeartbeats 4000000
namespace Pyl
open PySem
local macro_rules | `(tactic| walk_at "pe") => `(tactic| simp (config := { implicitDefEqProofs := false }) only [eVar_at, eC_at, e1_at, e2_at, aNil_at, aCons_at, eTup_at, eLst_at, plain_nil, plain_cons, eCall_at, eIf_at, aApp_at, aDfl_at, List.cons_append, List.nil_append, eAnd_at, eOr_at, eNot_at, tVal_at, tAnd_at, tOr_at, tNot_at, tYes_at,
  pAdd_int, pSub_int, pNeg_int, pLt_int, pLe_int, pGt_int, pGe_int, pEq_int, pNe_int, pIsN_at, pNotN_at, pIx_lst, pIx_tup, pGcd_int, atL0, atL1, atL2, atL3, atL4, atL5, atL6, atL7, atL8, oNone_at, oSome_at, eSlice_at, pLen_lst, pLen_tup, pInt_int, pInt_bl, pAbs_int, pSum_ints, pMax2_int, pMin2_int, pList_lst, pList_tup, pTuple_lst, pTuple_tup, iSeq_at, gN_at, gT_at, gsN_cons, gsN_nil, wipeS_cons, wipeS_nil,
  dt_vis, dt_bor, dt_fre, sh_vis, sh_bor, sh_fre, slot_vis, slot_fre, od_dt, isNon_non, isNon_int, isNon_lst, isNon_tup, scalar_int, scalar_bl, scalar_non, Option.bind_some, Option.bind_none, Option.map_some, Option.map_none, List.getElem?_cons_zero, List.getElem?_cons_succ, List.set_cons_zero, List.set_cons_succ, List.map_cons, List.map_nil, List.any_cons, List.any_nil, Bool.or_false, Bool.false_or, Bool.false_and, Bool.and_true, Bool.true_and, Bool.not_true, Bool.not_false,
  Option.some.injEq, exists_eq_left', exists_eq_left, true_and, and_true, if_true, if_false, Bool.false_eq_true, ite_true, ite_false, reduceIte, decide_eq_true_eq, decide_eq_false_iff_not, R.vis.injEq, R.fre.injEq, Dt.lst.injEq, Dt.tup.injEq, Dt.int.injEq, Slot.own.injEq, OD.lst.injEq, reduceCtorEq, false_and, exists_false, exists_const, Bool.true_eq_false, false_implies, true_implies, implies_true, forall_const])
/-! ### sums -/
def Sg (n : Nat) (g : Nat → Int) : Int := ((List.range n).map g).sum
theorem Sg_zero (g : Nat → Int) : Sg 0 g = 0 := rfl
theorem Sg_succ (n : Nat) (g : Nat → Int) : Sg (n + 1) g = Sg n g + g n := by
  unfold Sg
  rw [List.range_succ, List.map_append, List.sum_append]
  simp
theorem Sg_add (g h : Nat → Int) : ∀ n, Sg n (fun i => g i + h i) = Sg n g + Sg n h
  | 0 => rfl
  | n + 1 => by rw [Sg_succ, Sg_succ, Sg_succ, Sg_add g h n]; omega
theorem Sg_mul (c : Int) (g : Nat → Int) : ∀ n, Sg n (fun i => g i * c) = Sg n g * c
  | 0 => by rw [Sg_zero, Sg_zero, Int.zero_mul]
  | n + 1 => by rw [Sg_succ, Sg_succ, Sg_mul c g n, Int.add_mul]
theorem Sg_congr {g h : Nat → Int} : ∀ {n : Nat}, (∀ i, i < n → g i = h i) → Sg n g = Sg n h
  | 0, _ => rfl
  | n + 1, e => by rw [Sg_succ, Sg_succ, e n (by omega), Sg_congr fun i hi => e i (by omega)]
theorem Sg_le {g h : Nat → Int} : ∀ {n : Nat}, (∀ i, i < n → g i ≤ h i) → Sg n g ≤ Sg n h
  | 0, _ => Int.le_refl _
  | n + 1, e => by
    rw [Sg_succ, Sg_succ]
    have := e n (by omega)
    have := Sg_le (n := n) fun i hi => e i (show i < n + 1 by omega)
    omega
theorem Sg_nn {g : Nat → Int} {n : Nat} (e : ∀ i, i < n → 0 ≤ g i) : 0 ≤ Sg n g := by
  have := Sg_le (g := fun _ => 0) e
  have h0 : Sg n (fun _ => 0) = 0 := by
    have := Sg_mul 0 (fun _ => 1) n
    simpa using this
  omega
theorem Sg_list (l : List Int) : Sg l.length (fun i => l.getD i 0) = l.sum := by
  unfold Sg
  have e : (List.range l.length).map (fun i => l.getD i 0) = l := by
    refine List.ext_getElem (by simp) fun i h1 h2 => ?_
    rw [List.getElem_map, List.getElem_range, List.getD_eq_getElem?_getD, List.getElem?_eq_getElem h2]
    rfl
  rw [e]
theorem Sg_split (a : Nat) (g : Nat → Int) : ∀ b, Sg (a + b) g = Sg a g + Sg b (fun i => g (a + i))
  | 0 => by rw [Sg_zero, Nat.add_zero, Int.add_zero]
  | b + 1 => by rw [show a + (b + 1) = (a + b) + 1 by omega, Sg_succ, Sg_succ, Sg_split a g b]; omega
theorem Sg_sub (g h : Nat → Int) : ∀ n, Sg n (fun i => g i - h i) = Sg n g - Sg n h
  | 0 => rfl
  | n + 1 => by rw [Sg_succ, Sg_succ, Sg_succ, Sg_sub g h n]; omega
theorem Sg_const (c : Int) : ∀ n, Sg n (fun _ => c) = n * c
  | 0 => by rw [Sg_zero]; simp
  | n + 1 => by
    rw [Sg_succ, Sg_const c n, show ((n + 1 : Nat) : Int) = (n : Int) + 1 by omega, Int.add_mul, Int.one_mul]
/-! ### sums of signs -/
def chi : Nat → Nat → Nat → Int
  | 0, _, _ => 1
  | n + 1, j, k => chi n j k * (if j / 2 ^ n % 2 = 1 ∧ k / 2 ^ n % 2 = 1 then -1 else 1)
theorem chi_succ (n j k : Nat) : chi (n + 1) j k = chi n j k * (if j / 2 ^ n % 2 = 1 ∧ k / 2 ^ n % 2 = 1 then -1 else 1) := rfl
def wal (n : Nat) (f : Nat → Int) (k : Nat) : Int := Sg (2 ^ n) fun x => f x * chi n x k
theorem bit_high (n j a : Nat) : (j + 2 ^ n * (2 * a)) / 2 ^ n % 2 = j / 2 ^ n % 2 := by
  rw [Nat.add_mul_div_left _ _ (Nat.two_pow_pos n)]
  omega
theorem chi_low : ∀ (n j k a : Nat), chi n (j + 2 ^ n * a) k = chi n j k
  | 0, _, _, _ => rfl
  | n + 1, j, k, a => by
    unfold chi
    have e : 2 ^ (n + 1) * a = 2 ^ n * (2 * a) := by rw [Nat.pow_succ, Nat.mul_assoc]
    rw [e, bit_high, chi_low n j k (2 * a)]
theorem chi_comm : ∀ (n j k : Nat), chi n j k = chi n k j
  | 0, _, _ => rfl
  | n + 1, j, k => by
    unfold chi
    rw [chi_comm n j k]
    congr 1
    by_cases h : j / 2 ^ n % 2 = 1 <;> by_cases h2 : k / 2 ^ n % 2 = 1 <;> simp [h, h2]
theorem chi_low2 (n j k a : Nat) : chi n j (k + 2 ^ n * a) = chi n j k := by rw [chi_comm, chi_low, chi_comm]
theorem chi_sgn : ∀ (n j k : Nat), chi n j k = 1 ∨ chi n j k = -1
  | 0, _, _ => .inl rfl
  | n + 1, j, k => by
    unfold chi
    rcases chi_sgn n j k with e | e <;> rw [e] <;> split <;> simp
theorem chi_left {n x k : Nat} (h : x < 2 ^ n) : chi (n + 1) x k = chi n x k := by
  rw [chi_succ, Nat.div_eq_of_lt h]
  simp
theorem chi_right {n x k : Nat} (h : x < 2 ^ n) : chi (n + 1) (2 ^ n + x) k = chi n x k * (if k / 2 ^ n % 2 = 1 then -1 else 1) := by
  rw [chi_succ]
  have e1 : chi n (2 ^ n + x) k = chi n x k := by
    have := chi_low n x k 1
    rwa [Nat.mul_one, Nat.add_comm] at this
  have e2 : (2 ^ n + x) / 2 ^ n = 1 := by
    rw [Nat.add_div_left _ (Nat.two_pow_pos n), Nat.div_eq_of_lt h]
  rw [e1, e2]
  simp
theorem wal_low {n k : Nat} {f : Nat → Int} (h : k < 2 ^ n) : wal (n + 1) f k = wal n (fun x => f x + f (2 ^ n + x)) k := by
  unfold wal
  rw [Nat.pow_succ, Nat.mul_two, Sg_split, ← Sg_add]
  refine Sg_congr fun x hx => ?_
  rw [chi_left hx, chi_right hx, Nat.div_eq_of_lt h, if_neg (by decide), Int.mul_one, Int.add_mul]
theorem wal_high {n k : Nat} {f : Nat → Int} (h : k < 2 ^ n) : wal (n + 1) f (2 ^ n + k) = wal n (fun x => f x - f (2 ^ n + x)) k := by
  unfold wal
  rw [Nat.pow_succ, Nat.mul_two, Sg_split, ← Sg_add]
  refine Sg_congr fun x hx => ?_
  have e : chi n x (2 ^ n + k) = chi n x k := by
    have := chi_low2 n x k 1
    rwa [Nat.mul_one, Nat.add_comm] at this
  rw [chi_left hx, chi_right hx, e, Nat.add_div_left _ (Nat.two_pow_pos n), Nat.div_eq_of_lt h, if_pos (by decide), Int.sub_mul, Int.mul_neg, Int.mul_one, Int.mul_neg]
  rfl
/-- the squares of all sums -/
theorem parseval : ∀ (n : Nat) (f : Nat → Int), Sg (2 ^ n) (fun k => wal n f k * wal n f k) = 2 ^ n * Sg (2 ^ n) (fun x => f x * f x)
  | 0, f => by
    show Sg 1 _ = 1 * Sg 1 _
    rw [Sg_succ, Sg_zero, Sg_succ, Sg_zero]
    have : wal 0 f 0 = f 0 := by
      unfold wal
      show Sg 1 _ = _
      rw [Sg_succ, Sg_zero]
      show 0 + f 0 * 1 = _
      omega
    rw [this]
    omega
  | n + 1, f => by
    have e1 : Sg (2 ^ (n + 1)) (fun k => wal (n + 1) f k * wal (n + 1) f k) = Sg (2 ^ n) (fun k => wal n (fun x => f x + f (2 ^ n + x)) k * wal n (fun x => f x + f (2 ^ n + x)) k) + Sg (2 ^ n) (fun k => wal n (fun x => f x - f (2 ^ n + x)) k * wal n (fun x => f x - f (2 ^ n + x)) k) := by
      rw [Nat.pow_succ, Nat.mul_two, Sg_split]
      congr 1
      · exact Sg_congr fun k hk => by rw [wal_low hk]
      · exact Sg_congr fun k hk => by rw [wal_high hk]
    rw [e1, parseval n, parseval n, ← Int.mul_add, ← Sg_add, Int.pow_succ, Int.mul_assoc]
    congr 1
    rw [Nat.pow_succ, Nat.mul_two, Sg_split, Int.mul_add, Int.mul_comm 2, Int.mul_comm 2, ← Sg_mul, ← Sg_mul, ← Sg_add]
    refine Sg_congr fun x _ => ?_
    generalize f x = a
    generalize f (2 ^ n + x) = b
    simp only [Int.add_mul, Int.mul_add, Int.sub_mul, Int.mul_sub]
    rw [Int.mul_comm b a]
    omega
/-! by steps -/
def stepF (h : Nat) (f : Nat → Int) : Nat → Int := fun k => if k / h % 2 = 0 then f k + f (k + h) else f (k - h) - f k
def iterF : Nat → (Nat → Int) → Nat → Int
  | 0, f => f
  | p + 1, f => stepF (2 ^ p) (iterF p f)
theorem div_pow_succ (k p : Nat) : k / 2 ^ (p + 1) = k / 2 ^ p / 2 := by rw [Nat.pow_succ, Nat.div_div_eq_div_mul]
theorem odd_half {q : Nat} (h : q % 2 = 1) : q / 2 * 2 = q - 1 := by omega
theorem odd_pred {q : Nat} (h : q % 2 = 1) : q = (q - 1).succ := by omega
theorem iterF_at (f : Nat → Int) : ∀ (p k : Nat), iterF p f k = Sg (2 ^ p) fun j => f (k / 2 ^ p * 2 ^ p + j) * chi p j k
  | 0, k => by
    show f k = Sg 1 _
    rw [Sg_succ, Sg_zero]
    show f k = 0 + f (k / 1 * 1 + 0) * 1
    rw [Nat.div_one, Nat.mul_one, Nat.add_zero]
    omega
  | p + 1, k => by
    have hp := Nat.two_pow_pos p
    rw [show 2 ^ (p + 1) = 2 ^ p + 2 ^ p by rw [Nat.pow_succ, Nat.mul_two], Sg_split]
    rw [show (2 ^ p + 2 ^ p) = 2 ^ (p + 1) by rw [Nat.pow_succ, Nat.mul_two], div_pow_succ]
    show (if k / 2 ^ p % 2 = 0 then iterF p f k + iterF p f (k + 2 ^ p) else iterF p f (k - 2 ^ p) - iterF p f k) = _
    by_cases h : k / 2 ^ p % 2 = 0
    · rw [if_pos h, iterF_at f p, iterF_at f p, Nat.add_div_right _ hp]
      congr 1
      · refine Sg_congr fun j hj => ?_
        rw [chi_left hj, show k / 2 ^ p / 2 * 2 ^ (p + 1) = k / 2 ^ p * 2 ^ p by rw [Nat.pow_succ, Nat.mul_comm (2 ^ p) 2, ← Nat.mul_assoc]; congr 1; omega]
      · refine Sg_congr fun j hj => ?_
        rw [chi_right hj, if_neg (by omega), Int.mul_one]
        have e : chi p j (k + 2 ^ p) = chi p j k := by
          have := chi_low2 p j k 1
          rwa [Nat.mul_one] at this
        rw [e, show k / 2 ^ p / 2 * 2 ^ (p + 1) = k / 2 ^ p * 2 ^ p by rw [Nat.pow_succ, Nat.mul_comm (2 ^ p) 2, ← Nat.mul_assoc]; congr 1; omega]
        congr 2
        rw [Nat.succ_mul]
        omega
    · have h1 : k / 2 ^ p % 2 = 1 := by omega
      have hk : 2 ^ p ≤ k := by
        apply Nat.le_of_not_lt
        intro hlt
        rw [Nat.div_eq_of_lt hlt] at h1
        omega
      have hd : (k - 2 ^ p) / 2 ^ p = k / 2 ^ p - 1 := by
        exact (Nat.sub_eq_of_eq_add (Nat.div_eq_sub_div hp hk)).symm
      have ek : ∀ j, chi p j (k - 2 ^ p) = chi p j k := by
        intro j
        have := chi_low2 p j (k - 2 ^ p) 1
        rw [Nat.mul_one, Nat.sub_add_cancel hk] at this
        exact this.symm
      have eb : k / 2 ^ p / 2 * 2 ^ (p + 1) = (k / 2 ^ p - 1) * 2 ^ p := by
        rw [Nat.pow_succ, Nat.mul_comm (2 ^ p) 2, ← Nat.mul_assoc]
        congr 1
        exact odd_half h1
      rw [if_neg h, iterF_at f p, iterF_at f p, hd, eb]
      have e2 : Sg (2 ^ p) (fun j => f ((k / 2 ^ p - 1) * 2 ^ p + (2 ^ p + j)) * chi (p + 1) (2 ^ p + j) k) = - Sg (2 ^ p) (fun j => f (k / 2 ^ p * 2 ^ p + j) * chi p j k) := by
        rw [show - Sg (2 ^ p) (fun j => f (k / 2 ^ p * 2 ^ p + j) * chi p j k) = Sg (2 ^ p) (fun j => f (k / 2 ^ p * 2 ^ p + j) * chi p j k) * (-1) by omega, ← Sg_mul]
        refine Sg_congr fun j hj => ?_
        rw [chi_right hj, if_pos h1, ← Int.mul_assoc]
        congr 3
        have : k / 2 ^ p * 2 ^ p = (k / 2 ^ p - 1) * 2 ^ p + 2 ^ p := by
          rw [← Nat.succ_mul]
          congr 1
          exact odd_pred h1
        omega
      rw [e2]
      have e1 : Sg (2 ^ p) (fun j => f ((k / 2 ^ p - 1) * 2 ^ p + j) * chi p j (k - 2 ^ p)) = Sg (2 ^ p) (fun j => f ((k / 2 ^ p - 1) * 2 ^ p + j) * chi (p + 1) j k) := Sg_congr fun j hj => by
        rw [chi_left hj, show chi p j (k - 2 ^ p) = chi p j k from ek j]
      rw [e1]
      omega
theorem iterF_wal {w k : Nat} (f : Nat → Int) (h : k < 2 ^ w) : iterF w f k = wal w f k := by
  rw [iterF_at, Nat.div_eq_of_lt h]
  unfold wal
  exact Sg_congr fun j _ => by rw [Nat.zero_mul, Nat.zero_add]
theorem iterF_abs {f : Nat → Int} (h : ∀ k, (f k).natAbs ≤ 1) : ∀ p k, (iterF p f k).natAbs ≤ 2 ^ p
  | 0, k => h k
  | p + 1, k => by
    show ((if k / 2 ^ p % 2 = 0 then iterF p f k + iterF p f (k + 2 ^ p) else iterF p f (k - 2 ^ p) - iterF p f k)).natAbs ≤ _
    have h1 := iterF_abs h p k
    have h2 := iterF_abs h p (k + 2 ^ p)
    have h3 := iterF_abs h p (k - 2 ^ p)
    rw [Nat.pow_succ]
    generalize 2 ^ p = P at h1 h2 h3 ⊢
    split <;> omega
/-! as lists -/
def stepL (l : List Int) (h : Nat) : List Int := (List.range l.length).map fun k => if k / h % 2 = 0 then l.getD k 0 + l.getD (k + h) 0 else l.getD (k - h) 0 - l.getD k 0
def iterL : Nat → List Int → List Int
  | 0, l => l
  | p + 1, l => stepL (iterL p l) (2 ^ p)
theorem stepL_len (l : List Int) (h : Nat) : (stepL l h).length = l.length := by unfold stepL; simp
theorem iterL_len (l : List Int) : ∀ p, (iterL p l).length = l.length
  | 0 => rfl
  | p + 1 => (stepL_len _ _).trans (iterL_len l p)
theorem pair_lt {w p k : Nat} (hp : p < w) (hk : k < 2 ^ w) (h : k / 2 ^ p % 2 = 0) : k + 2 ^ p < 2 ^ w := by
  have e : 2 ^ w = 2 ^ p * (2 * 2 ^ (w - p - 1)) := by
    rw [← Nat.pow_succ', ← Nat.pow_add]
    congr 1
    omega
  rw [e] at hk ⊢
  generalize 2 ^ (w - p - 1) = q at hk ⊢
  have h1 : k / 2 ^ p < 2 * q := Nat.div_lt_of_lt_mul hk
  have h2 : k / 2 ^ p + 2 ≤ 2 * q := by omega
  have h3 := Nat.lt_mul_div_succ k (Nat.two_pow_pos p)
  have h4 : 2 ^ p * (k / 2 ^ p + 2) ≤ 2 ^ p * (2 * q) := Nat.mul_le_mul_left _ h2
  rw [Nat.mul_add] at h4
  rw [Nat.mul_add] at h3
  omega
theorem iterL_at {w : Nat} {l : List Int} (hl : l.length = 2 ^ w) : ∀ p k, p ≤ w → k < 2 ^ w → (iterL p l).getD k 0 = iterF p (fun i => l.getD i 0) k
  | 0, _, _, _ => rfl
  | p + 1, k, hp, hk => by
    show (stepL (iterL p l) (2 ^ p)).getD k 0 = stepF (2 ^ p) (iterF p _) k
    unfold stepL stepF
    rw [List.getD_eq_getElem?_getD, List.getElem?_map, List.getElem?_range (by rw [iterL_len, hl]; exact hk)]
    show (if _ then _ else _) = (if _ then _ else _)
    rw [iterL_at hl p k (by omega) hk]
    split
    · rename_i h
      rw [iterL_at hl p _ (by omega) (pair_lt (by omega) hk h)]
    · rw [iterL_at hl p _ (by omega) (Nat.lt_of_le_of_lt (Nat.sub_le _ _) hk)]
def signs (T : List Int) : List Int := T.map fun b => 1 - 2 * b
theorem signs_len (T : List Int) : (signs T).length = T.length := List.length_map _
theorem signs_getD {T : List Int} {i : Nat} (h : i < T.length) : (signs T).getD i 0 = 1 - 2 * T.getD i 0 := by
  unfold signs
  rw [List.getD_eq_getElem?_getD, List.getElem?_map, getD_get h]
  rfl
theorem signs_abs {T : List Int} (h : b01 T) (i : Nat) : ((signs T).getD i 0).natAbs ≤ 1 := by
  by_cases hi : i < T.length
  · rw [signs_getD hi]
    rcases b01_getD (i := i) h with e | e <;> rw [e] <;> decide
  · rw [List.getD_eq_getElem?_getD, List.getElem?_eq_none (by rw [signs_len]; omega)]
    decide
/-- what the laws call the surplus -/
def surp (w : Nat) (T : List Int) : List Int := iterL w (signs T)
theorem surp_len {w : Nat} {T : List Int} (h : T.length = 2 ^ w) : (surp w T).length = 2 ^ w := by unfold surp; rw [iterL_len, signs_len, h]
theorem surp_at {w k : Nat} {T : List Int} (h : T.length = 2 ^ w) (hk : k < 2 ^ w) : (surp w T).getD k 0 = wal w (fun i => (signs T).getD i 0) k := by
  unfold surp
  rw [iterL_at (by rw [signs_len, h]) w k (Nat.le_refl _) hk, iterF_wal _ hk]
theorem iter_abs {w p k : Nat} {T : List Int} (h : T.length = 2 ^ w) (hb : b01 T) (hp : p ≤ w) : ((iterL p (signs T)).getD k 0).natAbs ≤ 2 ^ p := by
  by_cases hk : k < 2 ^ w
  · rw [iterL_at (by rw [signs_len, h]) p k hp hk]
    exact iterF_abs (signs_abs hb) p k
  · rw [List.getD_eq_getElem?_getD, List.getElem?_eq_none (by rw [iterL_len, signs_len]; omega)]
    exact Nat.zero_le _
theorem surp_squares {w : Nat} {T : List Int} (h : T.length = 2 ^ w) (hb : b01 T) : Sg (2 ^ w) (fun k => (surp w T).getD k 0 * (surp w T).getD k 0) = 2 ^ w * 2 ^ w := by
  have e : Sg (2 ^ w) (fun k => (surp w T).getD k 0 * (surp w T).getD k 0) = Sg (2 ^ w) (fun k => wal w (fun i => (signs T).getD i 0) k * wal w (fun i => (signs T).getD i 0) k) := Sg_congr fun k hk => by rw [surp_at h hk]
  rw [e, parseval]
  congr 1
  have e2 : Sg (2 ^ w) (fun x => (signs T).getD x 0 * (signs T).getD x 0) = Sg (2 ^ w) (fun _ => 1) := Sg_congr fun k hk => by
    rw [signs_getD (by omega)]
    rcases b01_getD (i := k) hb with e | e <;> rw [e] <;> rfl
  rw [e2, Sg_const]
  simp
/-! signs by counting -/
theorem bitsM_cons (n w : Nat) : bitsM n (w + 1) = ((n / 2 ^ w % 2 : Nat) : Int) :: bitsM n w := by
  unfold bitsM
  rw [List.range_succ_eq_map, List.map_cons, List.map_map]
  congr 1
  refine List.map_congr_left fun k _ => ?_
  show ((n / 2 ^ (w + 1 - 1 - (k + 1)) % 2 : Nat) : Int) = _
  rw [show w + 1 - 1 - (k + 1) = w - 1 - k by omega]
def par (w x m : Nat) : Int := (bitsM (x &&& m) w).sum % 2
theorem and_bit (x m n : Nat) : (x &&& m) / 2 ^ n % 2 = if x / 2 ^ n % 2 = 1 ∧ m / 2 ^ n % 2 = 1 then 1 else 0 := by
  have h := Nat.testBit_and x m n
  rw [Nat.testBit_eq_decide_div_mod_eq, Nat.testBit_eq_decide_div_mod_eq, Nat.testBit_eq_decide_div_mod_eq] at h
  have h2 : (x &&& m) / 2 ^ n % 2 < 2 := Nat.mod_lt _ (by decide)
  by_cases h3 : x / 2 ^ n % 2 = 1 ∧ m / 2 ^ n % 2 = 1
  · rw [if_pos h3]
    simp [h3.1, h3.2] at h
    exact h
  · rw [if_neg h3]
    have : ¬ (x &&& m) / 2 ^ n % 2 = 1 := by
      intro e
      rw [e] at h
      simp at h
      exact h3 h
    omega
theorem chi_par : ∀ (w x m : Nat), chi w x m = 1 - 2 * par w x m
  | 0, _, _ => rfl
  | w + 1, x, m => by
    have ih := chi_par w x m
    unfold par at ih ⊢
    rw [bitsM_cons, List.sum_cons, and_bit]
    unfold chi
    rw [ih]
    generalize (bitsM (x &&& m) w).sum = s
    split <;> omega
theorem surp_agree {w m : Nat} {T : List Int} (h : T.length = 2 ^ w) (hb : b01 T) (hm : m < 2 ^ w) : (surp w T).getD m 0 = 2 * Sg (2 ^ w) (fun x => if T.getD x 0 = par w x m then 1 else 0) - 2 ^ w := by
  rw [surp_at h hm]
  unfold wal
  have e : Sg (2 ^ w) (fun x => (signs T).getD x 0 * chi w x m) = Sg (2 ^ w) (fun x => (if T.getD x 0 = par w x m then (1 : Int) else 0) * 2 - 1) := Sg_congr fun x hx => by
    rw [signs_getD (by omega), chi_par]
    have hp : par w x m = 0 ∨ par w x m = 1 := by
      unfold par
      omega
    rcases b01_getD (i := x) hb with e | e <;> rcases hp with e2 | e2 <;> rw [e, e2] <;> decide
  rw [e, Sg_sub, Sg_mul, Sg_const]
  simp
  omega
/-! how many -/
theorem filter_count (p : Nat → Bool) : ∀ n, (((List.range n).filter p).length : Int) = Sg n (fun k => if p k then 1 else 0)
  | 0 => rfl
  | n + 1 => by
    rw [List.range_succ, List.filter_append, List.length_append, Sg_succ, ← filter_count p n]
    cases h : p n <;> simp [h]
theorem few_near {w : Nat} {T : List Int} {A B : Int} (h : T.length = 2 ^ w) (hb : b01 T) (hA : 0 < A) (hB : 0 < B) : (((List.range (2 ^ w)).filter fun k => decide (2 ^ (w + 1) * A ≤ (surp w T).getD k 0 * B)).length : Int) ≤ B * B / (4 * A * A) := by
  have hq := surp_squares h hb
  have h4 : 0 < 4 * A * A := Int.mul_pos (by omega) hA
  rw [Int.le_ediv_iff_mul_le h4, filter_count, ← Sg_mul]
  have hP : (0 : Int) < 2 ^ w := Int.pow_pos (by decide)
  -- times 4 ^ w
  have key : Sg (2 ^ w) (fun k => (if decide (2 ^ (w + 1) * A ≤ (surp w T).getD k 0 * B) = true then (1 : Int) else 0) * (4 * A * A) * (2 ^ w * 2 ^ w)) ≤ Sg (2 ^ w) (fun k => (surp w T).getD k 0 * (surp w T).getD k 0 * (B * B)) := by
    refine Sg_le fun k _ => ?_
    generalize (surp w T).getD k 0 = s
    split
    · rename_i hh
      have hh := of_decide_eq_true hh
      rw [Int.pow_succ] at hh
      have hpos : 0 ≤ 2 ^ w * 2 * A := Int.mul_nonneg (by omega) (by omega)
      have := Int.mul_le_mul hh hh hpos (by omega)
      generalize (2 : Int) ^ w = P at *
      have e1 : P * 2 * A * (P * 2 * A) = 1 * (4 * A * A) * (P * P) := by
        rw [show P * 2 * A * (P * 2 * A) = (P * P) * ((2 * A) * (2 * A)) by simp only [Int.mul_assoc, Int.mul_left_comm], show (2 * A) * (2 * A) = 4 * A * A by rw [show (4 : Int) = 2 * 2 by rfl]; simp only [Int.mul_assoc, Int.mul_left_comm], Int.mul_comm, Int.one_mul]
      have e2 : s * B * (s * B) = s * s * (B * B) := by simp only [Int.mul_assoc, Int.mul_left_comm]
      rw [e1, e2] at this
      exact this
    · rw [Int.zero_mul, Int.zero_mul]
      have q1 : 0 ≤ s * s := by
        rcases Int.le_total 0 s with q | q
        · exact Int.mul_nonneg q q
        · have := Int.mul_nonneg (show 0 ≤ -s by omega) (show 0 ≤ -s by omega)
          rwa [Int.neg_mul_neg] at this
      exact Int.mul_nonneg q1 (Int.mul_nonneg (by omega) (by omega))
  rw [Sg_mul (2 ^ w * 2 ^ w), Sg_mul (B * B), hq] at key
  have hPP : (0 : Int) < 2 ^ w * 2 ^ w := Int.mul_pos hP hP
  rw [Int.mul_comm (2 ^ w * 2 ^ w) (B * B)] at key
  exact Int.le_of_mul_le_mul_right key hPP
end Pyl
end
section
set_option Elab.async false
set_option linter.all false
namespace Pyl
open PySem
local macro_rules | `(tactic| walk_at "dc") => `(tactic| repeat' first | exact dc_asg | exact dc_nil | exact dc_ret | exact dc_app | exact dc_put | exact dc_unp | exact dc_pop | exact dc_popD | exact dc_stores | exact dc_asgM | exact dc_putM | exact dc_putR | exact dc_brk | exact dc_cnt | exact dc_retN | exact dc_drop | exact dc_dead | exact dc_asgX | exact dc_retX | exact dc_dropX | exact dc_raise | refine dc_seq ?_ ?_ | refine dc_thenI ?_ ?_ | refine dc_if ?_ ?_ | refine dc_frz ?_ | refine dc_for ?_ | refine dc_while ?_)
/-! _law_near_table(script, at, width): 0 script 1 at 2 width 3 rows 4 shape 5 mask 6 answers 7 flips 8 k 9 number -/
def w__law_near_table : WS := (wSeq (wAsg 3 (e2 pShl (eC (.int 1)) (eVar 2)))
  (wSeq (wAsg 4 (eCall F__law_digits (aCons (eCall F__law_cell (aCons (eVar 0) (aCons (eVar 1) aNil))) (aCons (e2 pAdd (eLst (aCons (eVar 3) (aCons (eC (.int 8)) (aCons (e2 pAdd (eVar 3) (eC (.int 1))) aNil)))) (eComp [8] (iRange1 (eC (.int 16))) (gN 8) tYes (eVar 3))) aNil))))
  (wSeq (wAsg 5 (e2 pIx (eVar 4) (eC (.int 0))))
  (wSeq (wIf (tVal (e2 pEq (e2 pIx (eVar 4) (eC (.int 1))) (eC (.int 3))))
  (wRet (eLst (aCons (eCall F__law_judge (aCons (eVar 0) (aCons (e2 pAdd (eVar 1) (eC (.int 1))) (aCons (eVar 2) (aCons (eC (.int 4)) aNil))))) (aCons (eVar 5) aNil))))
  wNil)
  (wSeq (wAsg 6 (eComp [9] (iRange1 (eVar 3)) (gN 9) tYes (e2 pMod (e1 pSumA (eCall F__law_bits (aCons (e2 pAnd (eVar 9) (eVar 5)) (aCons (eVar 2) aNil)))) (eC (.int 2)))))
  (wSeq (wIf (tOr (tVal (e2 pEq (e2 pIx (eVar 4) (eC (.int 1))) (eC (.int 4)))) (tVal (e2 pEq (e2 pIx (eVar 4) (eC (.int 1))) (eC (.int 5)))))
  (wAsg 6 (eComp [9] (iRange1 (eVar 3)) (gN 9) tYes (e1 pInt (e2 pGt (e1 pSumA (eCall F__law_bits (aCons (eVar 9) (aCons (eVar 2) aNil)))) (e2 pMod (e1 pInt (e2 pIx (eVar 4) (eC (.int 2)))) (e2 pAdd (eVar 2) (eC (.int 1))))))))
  wNil)
  (wSeq (wIf (tVal (e2 pGt (e2 pIx (eVar 4) (eC (.int 1))) (eC (.int 5))))
  (wAsg 6 (eComp [9] (iRange1 (eVar 3)) (gN 9) tYes (e2 pXor (e2 pIx (eVar 6) (eVar 9)) (e1 pInt (e2 pEq (e2 pAnd (eVar 9) (e2 pAdd (e2 pIx (eVar 4) (eC (.int 2))) (eC (.int 1)))) (e2 pAdd (e2 pIx (eVar 4) (eC (.int 2))) (eC (.int 1))))))))
  wNil)
  (wSeq (wAsg 7 (e2 pMod (e1 pInt (e2 pIx (eVar 4) (eC (.int 2)))) (e2 pAdd (eC (.int 1)) (e2 pDiv (eVar 3) (eC (.int 2))))))
  (wSeq (wIf (tOr (tVal (e2 pEq (e2 pIx (eVar 4) (eC (.int 1))) (eC (.int 0)))) (tVal (e2 pGt (e2 pIx (eVar 4) (eC (.int 1))) (eC (.int 3)))))
  (wAsg 7 (e2 pMod (e1 pInt (e2 pIx (eVar 4) (eC (.int 3)))) (e2 pAdd (eC (.int 1)) (e2 pDiv (eVar 3) (eC (.int 8))))))
  wNil)
  (wSeq (wFor (iRange1 (e2 pMin2 (eVar 7) (eC (.int 16)))) (gN 8)
  (wPut 6 (e2 pIx (eVar 4) (e2 pAdd (eC (.int 3)) (eVar 8))) (e2 pSub (eC (.int 1)) (e2 pIx (eVar 6) (e2 pIx (eVar 4) (e2 pAdd (eC (.int 3)) (eVar 8)))))))
  (wFrz 6 (wRet (eLst (aCons (eLst (aCons (eC (.str "table")) (aCons (eVar 2) (aCons (eVar 6) aNil)))) (aCons (eVar 5) aNil)))))))))))))))
theorem dc__law_near_table : DC w__law_near_table := by unfold w__law_near_table; walk_at "dc"
noncomputable def F__law_near_table : FN := getF 10 3 w__law_near_table
theorem len__law_near_table : ∀ ds r, F__law_near_table ds = some r → ds.length = 3 := getF_len
theorem k__law_near_table : Keeps 10 w__law_near_table F__law_near_table := getF_keeps
/-! _law_surplus(truth, width): 0 truth 1 width 2 numbers 3 place 4 half 5 bit 6 k -/
def w__law_surplus : WS := (wSeq (wAsg 2 (eComp [5] (iSeq (eVar 0)) (gN 5) tYes (e2 pSub (eC (.int 1)) (e2 pMul (eC (.int 2)) (eVar 5)))))
  (wFrz 2 (wSeq (wFor (iRange1 (eVar 1)) (gN 3)
  (wSeq (wAsg 4 (e2 pShl (eC (.int 1)) (eVar 3)))
  (wAsg 2 (eComp [6] (iRange1 (e1 pLen (eVar 2))) (gN 6) tYes (eIf (tVal (e2 pEq (e2 pMod (e1 pInt (e2 pDiv (eVar 6) (eVar 4))) (eC (.int 2))) (eC (.int 0)))) (e2 pAdd (e2 pIx (eVar 2) (eVar 6)) (e2 pIx (eVar 2) (e2 pAdd (eVar 6) (eVar 4)))) (e2 pSub (e2 pIx (eVar 2) (e2 pSub (eVar 6) (eVar 4))) (e2 pIx (eVar 2) (eVar 6))))))))
  (wFrz 2 (wRet (eVar 2))))))
theorem dc__law_surplus : DC w__law_surplus := by unfold w__law_surplus; walk_at "dc"
noncomputable def F__law_surplus : FN := getF 7 2 w__law_surplus
theorem len__law_surplus : ∀ ds r, F__law_surplus ds = some r → ds.length = 2 := getF_len
theorem k__law_surplus : Keeps 7 w__law_surplus F__law_surplus := getF_keeps
/-! _law_more(surplus, width, row): 0 surplus 1 width 2 row 3 rows 4 far 5 bottom -/
def w__law_more : WS := (wSeq (wAsg 3 (e2 pShl (eC (.int 1)) (eVar 1)))
  (wSeq (wAsg 4 (e1 pAbs (e2 pIx (eVar 0) (e2 pMod (e1 pInt (e2 pIx (eVar 2) (eC (.int 2)))) (eVar 3)))))
  (wSeq (wIf (tAnd (tVal (e2 pEq (e2 pIx (eVar 2) (eC (.int 0))) (eC (.int 0)))) (tVal (e2 pGt (eVar 4) (eC (.int 0)))))
  (wRet (eLst (aCons (eVar 4) (aCons (e2 pMul (eC (.int 2)) (eVar 3)) aNil))))
  wNil)
  (wSeq (wAsg 5 (e2 pMul (eC (.int 2)) (e2 pAdd (eC (.int 1)) (e2 pIx (eVar 2) (eC (.int 1))))))
  (wRet (eLst (aCons (e2 pAdd (eC (.int 1)) (e2 pMod (e1 pInt (e2 pIx (eVar 2) (eC (.int 2)))) (e2 pDiv (eVar 5) (eC (.int 2))))) (aCons (eVar 5) aNil))))))))
theorem dc__law_more : DC w__law_more := by unfold w__law_more; walk_at "dc"
noncomputable def F__law_more : FN := getF 6 3 w__law_more
theorem len__law_more : ∀ ds r, F__law_more ds = some r → ds.length = 3 := getF_len
theorem k__law_more : Keeps 6 w__law_more F__law_more := getF_keeps
/-! most_near(more): 0 more -/
def w_most_near : WS := (wRet (e2 pDiv (e2 pMul (e2 pIx (eVar 0) (eC (.int 1))) (e2 pIx (eVar 0) (eC (.int 1)))) (e2 pMul (e2 pMul (eC (.int 4)) (e2 pIx (eVar 0) (eC (.int 0)))) (e2 pIx (eVar 0) (eC (.int 0))))))
theorem dc_most_near : DC w_most_near := by unfold w_most_near; walk_at "dc"
noncomputable def F_most_near : FN := getF 1 1 w_most_near
theorem len_most_near : ∀ ds r, F_most_near ds = some r → ds.length = 1 := getF_len
theorem k_most_near : Keeps 1 w_most_near F_most_near := getF_keeps
/-! _law_most_right(more): 0 more 1 handed 2 most -/
def w__law_most_right : WS := (wSeq (wAsg 1 (e1 pList (eVar 0)))
  (wFrz 1 (wSeq (wAsg 2 (eCall F_most_near (aCons (eVar 1) aNil)))
  (wRet (eAnd (e2 pEq (eVar 1) (eVar 0)) (eAnd (eCall F__law_whole (aCons (eVar 2) aNil)) (e2 pEq (eVar 2) (e2 pDiv (e2 pMul (e2 pIx (eVar 0) (eC (.int 1))) (e2 pIx (eVar 0) (eC (.int 1)))) (e2 pMul (e2 pMul (eC (.int 4)) (e2 pIx (eVar 0) (eC (.int 0)))) (e2 pIx (eVar 0) (eC (.int 0))))))))))))
theorem dc__law_most_right : DC w__law_most_right := by unfold w__law_most_right; walk_at "dc"
noncomputable def F__law_most_right : FN := getF 3 1 w__law_most_right
theorem len__law_most_right : ∀ ds r, F__law_most_right ds = some r → ds.length = 1 := getF_len
theorem k__law_most_right : Keeps 3 w__law_most_right F__law_most_right := getF_keeps
/-! _law_sum_agree(truth, width, mask): 0 truth 1 width 2 mask 3 count 4 number -/
def w__law_sum_agree : WS := (wSeq (wAsg 3 (eC (.int 0)))
  (wSeq (wFor (iRange1 (e2 pShl (eC (.int 1)) (eVar 1))) (gN 4)
  (wAsg 3 (e2 pAdd (eVar 3) (e1 pInt (e2 pEq (e2 pIx (eVar 0) (eVar 4)) (e2 pMod (e1 pSumA (eCall F__law_bits (aCons (e2 pAnd (eVar 4) (eVar 2)) (aCons (eVar 1) aNil)))) (eC (.int 2))))))))
  (wRet (eVar 3))))
theorem dc__law_sum_agree : DC w__law_sum_agree := by unfold w__law_sum_agree; walk_at "dc"
noncomputable def F__law_sum_agree : FN := getF 5 3 w__law_sum_agree
theorem len__law_sum_agree : ∀ ds r, F__law_sum_agree ds = some r → ds.length = 3 := getF_len
theorem k__law_sum_agree : Keeps 5 w__law_sum_agree F__law_sum_agree := getF_keeps
/-! turned_step(numbers, half): 0 numbers 1 half 2 result 3 index -/
def w_turned_step : WS := (wSeq (wAsg 2 (eLst aNil))
  (wSeq (wFor (iRange1 (e1 pLen (eVar 0))) (gN 3)
  (wIf (tVal (e2 pEq (e2 pAnd (eVar 3) (eVar 1)) (eC (.int 0))))
  (wApp 2 (e2 pAdd (e2 pIx (eVar 0) (eVar 3)) (e2 pIx (eVar 0) (e2 pAdd (eVar 3) (eVar 1)))))
  (wApp 2 (e2 pSub (e2 pIx (eVar 0) (e2 pSub (eVar 3) (eVar 1))) (e2 pIx (eVar 0) (eVar 3))))))
  (wFrz 2 (wRet (eVar 2)))))
theorem dc_turned_step : DC w_turned_step := by unfold w_turned_step; walk_at "dc"
noncomputable def F_turned_step : FN := getF 4 2 w_turned_step
theorem len_turned_step : ∀ ds r, F_turned_step ds = some r → ds.length = 2 := getF_len
theorem k_turned_step : Keeps 4 w_turned_step F_turned_step := getF_keeps
/-! turned_numbers(values): 0 values 1 numbers 2 half -/
def w_turned_numbers : WS := (wSeq (wAsg 1 (e1 pList (eVar 0)))
  (wFrz 1 (wSeq (wAsg 2 (eC (.int 1)))
  (wSeq (wWhile (tVal (e2 pLt (eVar 2) (e1 pLen (eVar 0))))
  (wSeq (wAsg 1 (eCall F_turned_step (aCons (eVar 1) (aCons (eVar 2) aNil))))
  (wAsg 2 (e2 pMul (eC (.int 2)) (eVar 2)))))
  (wRet (e1 pTuple (eVar 1)))))))
theorem dc_turned_numbers : DC w_turned_numbers := by unfold w_turned_numbers; walk_at "dc"
noncomputable def F_turned_numbers : FN := getF 3 1 w_turned_numbers
theorem len_turned_numbers : ∀ ds r, F_turned_numbers ds = some r → ds.length = 1 := getF_len
theorem k_turned_numbers : Keeps 3 w_turned_numbers F_turned_numbers := getF_keeps
/-! signed_answers(table): 0 table 1 bit -/
def w_signed_answers : WS := (wRet (eComp [1] (iSeq (eMeth [(22, F_Circuit__truth), (23, F_Reader__truth), (24, F_Table__truth), (25, F_Tree__truth)] "truth" (eVar 0) aNil)) (gN 1) tYes (e2 pSub (eC (.int 1)) (e2 pMul (eC (.int 2)) (eVar 1)))))
theorem dc_signed_answers : DC w_signed_answers := by unfold w_signed_answers; walk_at "dc"
noncomputable def F_signed_answers : FN := getF 2 1 w_signed_answers
theorem len_signed_answers : ∀ ds r, F_signed_answers ds = some r → ds.length = 1 := getF_len
theorem k_signed_answers : Keeps 2 w_signed_answers F_signed_answers := getF_keeps
/-! is_near(number, width, more): 0 number 1 width 2 more -/
def w_is_near : WS := (wRet (e2 pGe (e2 pMul (eVar 0) (e2 pIx (eVar 2) (eC (.int 1)))) (e2 pMul (e2 pShl (eC (.int 2)) (eVar 1)) (e2 pIx (eVar 2) (eC (.int 0))))))
theorem dc_is_near : DC w_is_near := by unfold w_is_near; walk_at "dc"
noncomputable def F_is_near : FN := getF 3 3 w_is_near
theorem len_is_near : ∀ ds r, F_is_near ds = some r → ds.length = 3 := getF_len
theorem k_is_near : Keeps 3 w_is_near F_is_near := getF_keeps
/-! near_sums(table, more): 0 table 1 more 2 numbers 3 width 4 found 5 number -/
def w_near_sums : WS := (wSeq (wAsg 2 (eCall F_turned_numbers (aCons (eCall F_signed_answers (aCons (eVar 0) aNil)) aNil)))
  (wSeq (wAsg 3 (eAtt [22, 23, 24, 25] [] "width" (eVar 0)))
  (wSeq (wAsg 4 (eLst aNil))
  (wSeq (wFor (iRange1 (e1 pLen (eVar 2))) (gN 5)
  (wIf (tVal (eCall F_is_near (aCons (e2 pIx (eVar 2) (eVar 5)) (aCons (eVar 3) (aCons (eVar 1) aNil)))))
  (wApp 4 (eTup (aCons (eCall F_row_of (aCons (eVar 5) (aCons (eVar 3) aNil))) (aCons (e2 pDiv (e2 pAdd (e2 pShl (eC (.int 1)) (eVar 3)) (e2 pIx (eVar 2) (eVar 5))) (eC (.int 2))) aNil))))
  wNil))
  (wRet (e1 pTuple (eVar 4)))))))
theorem dc_near_sums : DC w_near_sums := by unfold w_near_sums; walk_at "dc"
noncomputable def F_near_sums : FN := getF 6 2 w_near_sums
theorem len_near_sums : ∀ ds r, F_near_sums ds = some r → ds.length = 2 := getF_len
theorem k_near_sums : Keeps 6 w_near_sums F_near_sums := getF_keeps
/-! _law_is_row(row, width): 0 row 1 width 2 sign -/
def w__law_is_row : WS := (wSeq (wIf (tOr (tNot (tVal (e1 (pIsi "tuple") (eVar 0)))) (tVal (e2 pNe (e1 pLen (eVar 0)) (eVar 1))))
  (wRet (eC (.bl false)))
  wNil)
  (wSeq (wFor (iSeq (eVar 0)) (gN 2)
  (wIf (tOr (tNot (tVal (eCall F__law_whole (aCons (eVar 2) aNil)))) (tOr (tVal (e2 pLt (eVar 2) (eC (.int 0)))) (tVal (e2 pGt (eVar 2) (eC (.int 1))))))
  (wRet (eC (.bl false)))
  wNil))
  (wRet (eC (.bl true)))))
theorem dc__law_is_row : DC w__law_is_row := by unfold w__law_is_row; walk_at "dc"
noncomputable def F__law_is_row : FN := getF 3 2 w__law_is_row
theorem len__law_is_row : ∀ ds r, F__law_is_row ds = some r → ds.length = 2 := getF_len
theorem k__law_is_row : Keeps 3 w__law_is_row F__law_is_row := getF_keeps
/-! _law_near_right(table, surplus, width, more, frozen): 0 table 1 surplus 2 width 3 more 4 frozen 5 due 6 number 7 handed 8 told 9 k -/
def w__law_near_right : WS := (wSeq (wAsg 5 (eLst aNil))
  (wSeq (wFor (iRange1 (e2 pShl (eC (.int 1)) (eVar 2))) (gN 6)
  (wIf (tVal (e2 pGe (e2 pMul (e2 pIx (eVar 1) (eVar 6)) (e2 pIx (eVar 3) (eC (.int 1)))) (e2 pMul (e2 pShl (eC (.int 2)) (eVar 2)) (e2 pIx (eVar 3) (eC (.int 0))))))
  (wApp 5 (eLst (aCons (eCall F__law_bits (aCons (eVar 6) (aCons (eVar 2) aNil))) (aCons (e2 pDiv (e2 pAdd (e2 pIx (eVar 1) (eVar 6)) (e2 pShl (eC (.int 1)) (eVar 2))) (eC (.int 2))) aNil))))
  wNil))
  (wSeq (wAsg 7 (e1 pList (eVar 3)))
  (wFrz 7 (wSeq (wIf (tVal (eVar 4))
  (wAsg 7 (e1 pTuple (eVar 3)))
  wNil)
  (wSeq (wAsg 8 (eCall F_near_sums (aCons (eVar 0) (aCons (eVar 7) aNil))))
  (wSeq (wIf (tOr (tVal (e2 pNe (e1 pList (eVar 7)) (eVar 3))) (tOr (tNot (tVal (e1 (pIsi "tuple") (eVar 8)))) (tVal (e2 pNe (e1 pLen (eVar 8)) (e1 pLen (eVar 5))))))
  (wRet (eC (.bl false)))
  wNil)
  (wSeq (wFor (iRange1 (e1 pLen (eVar 5))) (gN 9)
  (wSeq (wIf (tOr (tNot (tVal (e1 (pIsi "tuple") (e2 pIx (eVar 8) (eVar 9))))) (tOr (tVal (e2 pNe (e1 pLen (e2 pIx (eVar 8) (eVar 9))) (eC (.int 2)))) (tOr (tNot (tVal (eCall F__law_is_row (aCons (e2 pIx (e2 pIx (eVar 8) (eVar 9)) (eC (.int 0))) (aCons (eVar 2) aNil))))) (tNot (tVal (eCall F__law_whole (aCons (e2 pIx (e2 pIx (eVar 8) (eVar 9)) (eC (.int 1))) aNil)))))))
  (wRet (eC (.bl false)))
  wNil)
  (wIf (tOr (tVal (e2 pNe (e2 pIx (e2 pIx (eVar 8) (eVar 9)) (eC (.int 0))) (e2 pIx (e2 pIx (eVar 5) (eVar 9)) (eC (.int 0))))) (tVal (e2 pNe (e2 pIx (e2 pIx (eVar 8) (eVar 9)) (eC (.int 1))) (e2 pIx (e2 pIx (eVar 5) (eVar 9)) (eC (.int 1))))))
  (wRet (eC (.bl false)))
  wNil)))
  (wRet (e2 pLe (e1 pLen (eVar 5)) (e2 pDiv (e2 pMul (e2 pIx (eVar 3) (eC (.int 1))) (e2 pIx (eVar 3) (eC (.int 1)))) (e2 pMul (e2 pMul (eC (.int 4)) (e2 pIx (eVar 3) (eC (.int 0)))) (e2 pIx (eVar 3) (eC (.int 0)))))))))))))))
theorem dc__law_near_right : DC w__law_near_right := by unfold w__law_near_right; walk_at "dc"
noncomputable def F__law_near_right : FN := getF 10 5 w__law_near_right
theorem len__law_near_right : ∀ ds r, F__law_near_right ds = some r → ds.length = 5 := getF_len
theorem k__law_near_right : Keeps 10 w__law_near_right F__law_near_right := getF_keeps
/-! _law_power(base, count): 0 base 1 count 2 result 3 k -/
def w__law_power : WS := (wSeq (wAsg 2 (eC (.int 1)))
  (wSeq (wFor (iRange1 (eVar 1)) (gN 3)
  (wAsg 2 (e2 pMul (eVar 2) (eVar 0))))
  (wRet (eVar 2))))
theorem dc__law_power : DC w__law_power := by unfold w__law_power; walk_at "dc"
noncomputable def F__law_power : FN := getF 4 2 w__law_power
theorem len__law_power : ∀ ds r, F__law_power ds = some r → ds.length = 2 := getF_len
theorem k__law_power : Keeps 4 w__law_power F__law_power := getF_keeps
/-! law(script): 0 script 1 shape 2 width 3 found 4 table 5 truth 6 surplus 7 check 8 first 9 second 10 more 11 wide -/
def w_law_k54 : WS := (wSeq (wAsg 1 (eCall F__law_digits (aCons (eCall F__law_cell (aCons (eVar 0) (aCons (eC (.int 0)) aNil))) (aCons (eLst (aCons (eC (.int 5)) (aCons (eC (.int 12)) (aCons (eC (.int 2)) (aCons (eC (.int 12)) (aCons (eC (.int 256)) (aCons (eC (.int 24)) (aCons (eC (.int 256)) (aCons (eC (.int 32)) aNil))))))))) aNil))))
  (wSeq (wAsg 2 (e2 pAdd (eC (.int 1)) (e2 pIx (eVar 1) (eC (.int 0)))))
  (wSeq (wIf (tVal (e2 pEq (e2 pIx (eVar 1) (eC (.int 1))) (eC (.int 5))))
  (wAsg 2 (e2 pAdd (eC (.int 6)) (e2 pMod (e2 pIx (eVar 1) (eC (.int 4))) (eC (.int 3)))))
  wNil)
  (wSeq (wAsg 3 (eCall F__law_near_table (aCons (eVar 0) (aCons (eC (.int 1)) (aCons (eVar 2) aNil)))))
  (wSeq (wAsg 4 (eCall F__law_build (aCons (e2 pIx (eVar 3) (eC (.int 0))) aNil)))
  (wSeq (wAsg 5 (eCall F__law_truth (aCons (e2 pIx (eVar 3) (eC (.int 0))) aNil)))
  (wSeq (wAsg 6 (eCall F__law_surplus (aCons (eVar 5) (aCons (eVar 2) aNil))))
  (wSeq (wAsg 7 (e2 pMod (e1 pInt (e2 pIx (eVar 1) (eC (.int 4)))) (e2 pShl (eC (.int 1)) (eVar 2))))
  (wSeq (wIf (tVal (e2 pNe (e2 pIx (eVar 6) (eVar 7)) (e2 pSub (e2 pMul (eC (.int 2)) (eCall F__law_sum_agree (aCons (eVar 5) (aCons (eVar 2) (aCons (eVar 7) aNil))))) (e2 pShl (eC (.int 1)) (eVar 2)))))
  (wRet (eC (.bl false)))
  wNil)
  (wSeq (wAsg 8 (eCall F__law_more (aCons (eVar 6) (aCons (eVar 2) (aCons (eSlice (eVar 1) (oSome (eC (.int 2))) oNone) aNil)))))
  (wSeq (wAsg 9 (eCall F__law_more (aCons (eVar 6) (aCons (eVar 2) (aCons (eLst (aCons (eC (.int 1)) (aCons (e2 pIx (eVar 1) (eC (.int 5))) (aCons (e2 pIx (eVar 1) (eC (.int 6))) aNil)))) aNil)))))
  (wSeq (wFor (iSeq (eLst (aCons (eVar 8) (aCons (eVar 9) (aCons (eVar 8) aNil))))) (gN 10)
  (wIf (tOr (tNot (tVal (eCall F__law_near_right (aCons (eVar 4) (aCons (eVar 6) (aCons (eVar 2) (aCons (eVar 10) (aCons (e2 pEq (eVar 10) (eVar 9)) aNil)))))))) (tNot (tVal (eCall F__law_most_right (aCons (eVar 10) aNil)))))
  (wRet (eC (.bl false)))
  wNil))
  (wSeq (wAsg 11 (e2 pAdd (e2 pAdd (e2 pMul (eCall F__law_power (aCons (eC (.int 10)) (aCons (e2 pMod (e2 pIx (eVar 1) (eC (.int 7))) (eC (.int 31))) aNil))) (eC (.int 2))) (eC (.int 1))) (e2 pIx (eVar 1) (eC (.int 6)))))
  (wRet (eCall F__law_most_right (aCons (eLst (aCons (e2 pAdd (eC (.int 1)) (e2 pIx (eVar 1) (eC (.int 5)))) (aCons (e2 pAdd (eVar 11) (e2 pMul (eC (.int 2)) (e2 pIx (eVar 1) (eC (.int 5))))) aNil))) aNil))))))))))))))))
theorem dc_law_k54 : DC w_law_k54 := by unfold w_law_k54; walk_at "dc"
noncomputable def F_law_k54 : FN := autoF 12 w_law_k54 (fun ds r => ds.length = 1 ∧ (fun ds r => ∃ xs ns b, ds = [.lst xs] ∧ intsOf xs = some ns ∧ r = .bl b) ds r)
theorem len_law_k54 : ∀ ds r, F_law_k54 ds = some r → ds.length = 1 := fun ds r h => (auto_spec h).1.1
theorem k_law_k54 : Keeps 12 w_law_k54 F_law_k54 := auto_keeps
end Pyl
end
section
set_option Elab.async false
set_option linter.all false
set_option maxHeartbeats 4000000
namespace Pyl
open PySem
local macro_rules | `(tactic| walk_at "pe") => `(tactic| simp (config := { implicitDefEqProofs := false }) only [eVar_at, eC_at, e1_at, e2_at, aNil_at, aCons_at, eTup_at, eLst_at, plain_nil, plain_cons, eCall_at, eIf_at, aApp_at, aDfl_at, List.cons_append, List.nil_append, eAnd_at, eOr_at, eNot_at, tVal_at, tAnd_at, tOr_at, tNot_at, tYes_at,
  pAdd_int, pSub_int, pNeg_int, pLt_int, pLe_int, pGt_int, pGe_int, pEq_int, pNe_int, pIsN_at, pNotN_at, pIx_lst, pIx_tup, pGcd_int, atL0, atL1, atL2, atL3, atL4, atL5, atL6, atL7, atL8, oNone_at, oSome_at, eSlice_at, pLen_lst, pLen_tup, pInt_int, pInt_bl, pAbs_int, pSum_ints, pMax2_int, pMin2_int, pList_lst, pList_tup, pTuple_lst, pTuple_tup, iSeq_at, gN_at, gT_at, gsN_cons, gsN_nil, wipeS_cons, wipeS_nil,
  dt_vis, dt_bor, dt_fre, sh_vis, sh_bor, sh_fre, slot_vis, slot_fre, od_dt, isNon_non, isNon_int, isNon_lst, isNon_tup, scalar_int, scalar_bl, scalar_non, Option.bind_some, Option.bind_none, Option.map_some, Option.map_none, List.getElem?_cons_zero, List.getElem?_cons_succ, List.set_cons_zero, List.set_cons_succ, List.map_cons, List.map_nil, List.any_cons, List.any_nil, Bool.or_false, Bool.false_or, Bool.false_and, Bool.and_true, Bool.true_and, Bool.not_true, Bool.not_false,
  Option.some.injEq, exists_eq_left', exists_eq_left, true_and, and_true, if_true, if_false, Bool.false_eq_true, ite_true, ite_false, reduceIte, decide_eq_true_eq, decide_eq_false_iff_not, R.vis.injEq, R.fre.injEq, Dt.lst.injEq, Dt.tup.injEq, Dt.int.injEq, Slot.own.injEq, OD.lst.injEq, reduceCtorEq, false_and, exists_false, exists_const, Bool.true_eq_false, false_implies, true_implies, implies_true, forall_const])
/-! k54: what each def gives -/
theorem eqD_itup (a b : List Int) : eqD (itup a) (itup b) = some (decide (a = b)) := by
  have e : ∀ ns : List Int, (itup ns).py = some (.tuple (ns.map .int)) := fun ns => by
    show (Dt.pyL (ns.map .int)).map _ = _
    rw [pyL_ints]
    rfl
  have hs : ∀ ns : List Int, SeqAt.shaped (.tuple (ns.map .int)) = true := fun ns => by
    obtain ⟨h1, h2⟩ := lay_ints ns
    unfold SeqAt.shaped
    rw [show PyData.canLay0 (.tuple (ns.map .int)) = PyData.canLayAll0 (ns.map .int) from rfl, h1]
    have : PyData.depth (.tuple (ns.map .int)) = PyData.depthAll (ns.map .int) + 1 := rfl
    rw [this]
    simp
    omega
  unfold eqD
  rw [e, e]
  show (if SeqAt.shaped (.tuple (a.map .int)) && SeqAt.shaped (.tuple (b.map .int)) then some (PyData.eqv (.tuple (a.map .int)) (.tuple (b.map .int))) else none) = _
  rw [hs, hs]
  show some (PyData.eqvAll (a.map .int) (b.map .int)) = _
  rw [eqv_ints]
theorem pNe_itup (a b : List Int) : pNe (itup a) (itup b) = some (.vis (.bl (!decide (a = b)))) := by unfold pNe; rw [eqD_itup]; rfl
theorem pEq_itup (a b : List Int) : pEq (itup a) (itup b) = some (.vis (.bl (decide (a = b)))) := by unfold pEq; rw [eqD_itup]; rfl
theorem big_nn {x : Int} {n : Nat} (h : x.natAbs ≤ 2 ^ n) (hn : n ≤ 60) : x.natAbs < BIG := by
  have h1 : 2 ^ n ≤ 2 ^ 60 := pow2_le hn
  exact big_of (n := 61) (Nat.lt_of_le_of_lt (Nat.le_trans h h1) (by decide)) (by decide)
theorem power_at {x : Int} {n : Nat} (h0 : 0 ≤ x) (h : x ≤ 100) (hn : n ≤ 100) : F__law_power [.int x, .int (n : Int)] = some (.int (x ^ n)) := by
  have hb : ∀ i, i ≤ n → (x ^ i).natAbs < 2 ^ 800 := fun i hi => lt_bits (pow_bits (k := 7) (by omega) i) (by omega)
  refine getF_eq dc__law_power ?_
  show w__law_power _ [.val (.int x), .val (.int n), .non, .non]
  refine q_asg (r := .vis (.int (x ^ 0))) (by walk_at "pe"; rw [Int.pow_zero]) rfl rfl ?_
  refine q_forRng (lo := 0) (n := n) (fun i e => ∃ z, e = [.val (.int x), .val (.int n), .val (.int (x ^ i)), z]) (by rw [rng1 (n := (n : Int)) rfl (by omega), Int.toNat_natCast]) ⟨_, rfl⟩ ?_ ?_
  · rintro i env hi ⟨z, rfl⟩
    refine ⟨_, by walk_at "pe"; rfl, ?_⟩
    refine s_asg (r := .vis (.int (x ^ (i + 1)))) ?_ rfl rfl ⟨.val (.int (0 + (i : Int))), rfl⟩
    walk_at "pe"
    rw [pMul_int (big_lt (hb i (by omega))) (big_lt (n := 64) (by omega)), Int.pow_succ]
  · rintro env ⟨z, rfl⟩
    exact s_ret (r := .vis (.int (x ^ n))) (by walk_at "pe") rfl rfl rfl
theorem and_pow (k p : Nat) : ((k &&& 2 ^ p : Nat) : Int) = 0 ↔ k / 2 ^ p % 2 = 0 := by
  have h2 : k / 2 ^ p % 2 < 2 := Nat.mod_lt _ (by decide)
  have e : k.testBit p = decide (k / 2 ^ p % 2 = 1) := Nat.testBit_eq_decide_div_mod_eq
  have hb : ∀ i, (k &&& 2 ^ p).testBit i = (k.testBit i && decide (p = i)) := fun i => by rw [Nat.testBit_and, Nat.testBit_two_pow]
  constructor
  · intro h
    have h0 : k &&& 2 ^ p = 0 := by omega
    have := hb p
    rw [h0, Nat.zero_testBit, e] at this
    by_cases q : k / 2 ^ p % 2 = 1
    · rw [q] at this
      simp at this
    · omega
  · intro h
    have h0 : k &&& 2 ^ p = 0 := Nat.eq_of_testBit_eq fun i => by
      rw [hb, Nat.zero_testBit]
      by_cases q : p = i
      · subst q
        rw [e, h]
        rfl
      · simp [q]
    rw [h0]
    rfl
theorem step_at {l : List Int} {p w : Nat} (hl : l.length = 2 ^ w) (hp : p < w) (hw : w ≤ 16) : F_turned_step [ilst l, .int ((2 ^ p : Nat) : Int)] = some (ilst (stepL l (2 ^ p))) := by
  refine getF_eq dc_turned_step ?_
  show w_turned_step _ [.val (ilst l), .val (.int ((2 ^ p : Nat) : Int)), .non, .non]
  have hw2 := pow_lim (w := w) (by omega)
  refine q_asg (r := .fre (.lst [])) rfl rfl rfl ?_
  refine q_forRng (lo := 0) (n := 2 ^ w) (fun i e => ∃ z, e = [.val (ilst l), .val (.int ((2 ^ p : Nat) : Int)), .own (.lst (((stepL l (2 ^ p)).take i).map .int)), z]) (by rw [rng1 (n := ((2 ^ w : Nat) : Int)) (by walk_at "pe"; rw [show pLen (ilst l) = some (.vis (.int l.length)) from pLen_iseq false l, hl]) (by omega), Int.toNat_natCast]) ⟨_, rfl⟩ ?_ ?_
  · rintro i env hi ⟨z, rfl⟩
    refine ⟨_, by walk_at "pe"; rfl, ?_⟩
    rw [show (0 : Int) + (i : Int) = (i : Int) by omega]
    have hget : (stepL l (2 ^ p))[i]? = some (if i / 2 ^ p % 2 = 0 then l.getD i 0 + l.getD (i + 2 ^ p) 0 else l.getD (i - 2 ^ p) 0 - l.getD i 0) := by
      unfold stepL
      rw [List.getElem?_map, List.getElem?_range (by omega)]
      rfl
    have hlen : ((stepL l (2 ^ p)).take i).length ≤ 2000000 := by rw [List.length_take, stepL_len]; omega
    have ix : ∀ j : Nat, j < 2 ^ w → pIx (ilst l) (.int (j : Int)) = some (.vis (.int (l.getD j 0))) := fun j hj => ix_iseqD (b := false) (by omega)
    refine s_ifD (p := i / 2 ^ p % 2 = 0) ?_ (fun h => ?_) fun h => ?_
    · walk_at "pe"
      rw [pAnd_nat]
      walk_at "pe"
      rw [decide_eq_decide.mpr (and_pow i p)]
    · rw [if_pos h] at hget
      refine s_app (d := .int (l.getD i 0 + l.getD (i + 2 ^ p) 0)) rfl (r := .vis (.int (l.getD i 0 + l.getD (i + 2 ^ p) 0))) ?_ rfl (by rw [List.length_map]; exact lim_lt (by omega)) rfl rfl ⟨_, by rw [take_snoc hget, List.map_append]; rfl⟩
      walk_at "pe"
      rw [ix i hi, show (i : Int) + ((2 ^ p : Nat) : Int) = ((i + 2 ^ p : Nat) : Int) by omega, ix _ (pair_lt hp hi h)]
      walk_at "pe"
    · rw [if_neg h] at hget
      refine s_app (d := .int (l.getD (i - 2 ^ p) 0 - l.getD i 0)) rfl (r := .vis (.int (l.getD (i - 2 ^ p) 0 - l.getD i 0))) ?_ rfl (by rw [List.length_map]; exact lim_lt (by omega)) rfl rfl ⟨_, by rw [take_snoc hget, List.map_append]; rfl⟩
      have hk : 2 ^ p ≤ i := by
        apply Nat.le_of_not_lt
        intro hlt
        rw [Nat.div_eq_of_lt hlt] at h
        exact h rfl
      walk_at "pe"
      rw [ix i hi, show (i : Int) - ((2 ^ p : Nat) : Int) = ((i - 2 ^ p : Nat) : Int) by omega, ix _ (Nat.lt_of_le_of_lt (Nat.sub_le _ _) hi)]
      walk_at "pe"
  · rintro env ⟨z, rfl⟩
    rw [List.take_of_length_le (by rw [stepL_len]; omega)]
    exact q_frz rfl rfl (s_ret (r := .vis (ilst (stepL l (2 ^ p)))) rfl rfl rfl rfl)
theorem pow_lt_iff {p w : Nat} : 2 ^ p < 2 ^ w ↔ p < w := Nat.pow_lt_pow_iff_right (by decide)
theorem turned_at {l : List Int} {w : Nat} (hl : l.length = 2 ^ w) (hw : w ≤ 16) : F_turned_numbers [ilst l] = some (itup (iterL w l)) := by
  refine getF_eq dc_turned_numbers ?_
  show w_turned_numbers _ [.val (ilst l), .non, .non]
  have hw2 := pow_lim (w := w) (by omega)
  refine q_asg (r := .fre (.lst (l.map .int))) rfl rfl rfl ?_
  refine q_frz rfl rfl ?_
  refine q_asg (r := .vis (.int ((2 ^ 0 : Nat) : Int))) rfl rfl rfl ?_
  refine q_while (fun m e => ∃ p, m = w - p ∧ p ≤ w ∧ e = [.val (ilst l), .val (ilst (iterL p l)), .val (.int ((2 ^ p : Nat) : Int))]) w ⟨0, rfl, Nat.zero_le _, rfl⟩ ?_
  rintro m env ⟨p, rfl, hp, rfl⟩
  have ht : tVal (e2 pLt (eVar 2) (e1 pLen (eVar 0))) [.val (ilst l), .val (ilst (iterL p l)), .val (.int ((2 ^ p : Nat) : Int))] = some (decide (p < w)) := by
    walk_at "pe"
    rw [show pLen (ilst l) = some (.vis (.int l.length)) from pLen_iseq false l, hl]
    walk_at "pe"
    refine decide_eq_decide.mpr ?_
    rw [← pow_lt_iff]
    omega
  refine ⟨_, ht, fun h => ?_, fun h => ?_⟩
  · have h := of_decide_eq_true h
    refine q_asg (r := .vis (ilst (iterL (p + 1) l))) ?_ rfl rfl ?_
    · walk_at "pe"
      rw [step_at (by rw [iterL_len, hl]) h hw]
      rfl
    · refine s_asg (r := .vis (.int ((2 ^ (p + 1) : Nat) : Int))) ?_ rfl rfl ⟨w - (p + 1), by omega, p + 1, rfl, h, rfl⟩
      have hp2 := pow_lim (w := p) (by omega)
      have hp0 := Nat.two_pow_pos p
      walk_at "pe"
      rw [pMul_int (big64 (by decide) (by decide)) (big64 (by omega) (by omega))]
      rw [Nat.pow_succ]
      congr 3
      omega
  · have h := of_decide_eq_false h
    have : p = w := by omega
    subst this
    exact s_ret (r := .vis (itup (iterL p l))) rfl rfl rfl rfl
theorem signed_at {J : Jd} (h : J.Wf) : F_signed_answers [J.obj] = some (ilst (signs J.truth)) := by
  refine getF_eq dc_signed_answers ?_
  show w_signed_answers _ [.val J.obj, .non]
  have hw := h.wide
  have hw2 := pow_lim (w := J.w) (by omega)
  refine s_ret (r := .fre (.lst ((signs J.truth).map .int))) ?_ rfl rfl rfl
  refine comp_of (xs := J.truth) (u := Dt.int) (f := fun b => 1 - 2 * b) (v := Dt.int) (seq_ints (b := true) (truth_meth h rfl)) (by rw [truth_len]; omega) fun b hb => ⟨_, gN_at, .vis (.int (1 - 2 * b)), ?_, rfl, rfl⟩
  have hb2 := truth_01 h b hb
  walk_at "pe"
  rw [pMul_int (big64 (by decide) (by decide)) (big64 (by omega) (by omega))]
  walk_at "pe"
theorem surplus_at {w : Nat} {T : List Int} (hl : T.length = 2 ^ w) (hb : b01 T) (hw : w ≤ 16) : F__law_surplus [ilst T, .int (w : Int)] = some (ilst (surp w T)) := by
  refine getF_eq dc__law_surplus ?_
  show w__law_surplus _ [.val (ilst T), .val (.int w), .non, .non, .non, .non, .non]
  have hw2 := pow_lim (w := w) (by omega)
  refine q_asg (r := .fre (.lst ((signs T).map .int))) ?_ rfl rfl ?_
  · refine comp_of (xs := T) (u := Dt.int) (f := fun b => 1 - 2 * b) (v := Dt.int) (seq_ints (b := false) rfl) (by omega) fun b hbm => ⟨_, gN_at, .vis (.int (1 - 2 * b)), ?_, rfl, rfl⟩
    have hb2 := hb b hbm
    walk_at "pe"
    rw [pMul_int (big64 (by decide) (by decide)) (big64 (by omega) (by omega))]
    walk_at "pe"
  · refine q_frz rfl rfl ?_
    refine q_forRng (lo := 0) (n := w) (fun i e => ∃ sl z3 z4, Hol sl (ilst (iterL i (signs T))) ∧ e = [.val (ilst T), .val (.int w), sl, z3, z4, .non, .non]) (by rw [rng1 (n := (w : Int)) (by walk_at "pe") (by omega), Int.toNat_natCast]) ⟨_, _, _, .val, rfl⟩ ?_ ?_
    · rintro p env hp ⟨sl, z3, z4, hsl, rfl⟩
      refine ⟨_, by walk_at "pe"; rfl, ?_⟩
      rw [show (0 : Int) + (p : Int) = (p : Int) by omega]
      refine q_asg (r := .vis (.int ((2 ^ p : Nat) : Int))) (by walk_at "pe"; exact shl_one (by omega)) rfl rfl ?_
      have hll : (iterL p (signs T)).length = 2 ^ w := by rw [iterL_len, signs_len, hl]
      have hstep : iterL (p + 1) (signs T) = stepL (iterL p (signs T)) (2 ^ p) := rfl
      generalize iterL p (signs T) = L at hsl hll hstep
      refine s_asg (r := .fre (.lst ((stepL L (2 ^ p)).map .int))) ?_ rfl rfl ⟨.own (.lst ((stepL L (2 ^ p)).map .int)), _, _, by rw [hstep]; exact .own, rfl⟩
      have ix : ∀ j : Nat, j < 2 ^ w → pIx (ilst L) (.int (j : Int)) = some (.vis (.int (L.getD j 0))) := fun j hj => ix_iseqD (b := false) (by omega)
      have hp2 := pow_lim (w := p) (by omega)
      have hp0 := Nat.two_pow_pos p
      have body : ∀ k : Nat, k < 2 ^ w → ∀ R : Sl, eVar 2 R = some (.vis (ilst L)) ∨ eVar 2 R = some (.bor (ilst L)) → eVar 6 R = some (.vis (.int (k : Int))) → eVar 4 R = some (.vis (.int ((2 ^ p : Nat) : Int))) →
          eIf (tVal (e2 pEq (e2 pMod (e1 pInt (e2 pDiv (eVar 6) (eVar 4))) (eC (.int 2))) (eC (.int 0)))) (e2 pAdd (e2 pIx (eVar 2) (eVar 6)) (e2 pIx (eVar 2) (e2 pAdd (eVar 6) (eVar 4)))) (e2 pSub (e2 pIx (eVar 2) (e2 pSub (eVar 6) (eVar 4))) (e2 pIx (eVar 2) (eVar 6))) R = some (.vis (.int (if k / 2 ^ p % 2 = 0 then L.getD k 0 + L.getD (k + 2 ^ p) 0 else L.getD (k - 2 ^ p) 0 - L.getD k 0))) := by
        intro k hk R h2 h6 h4
        have htest : tVal (e2 pEq (e2 pMod (e1 pInt (e2 pDiv (eVar 6) (eVar 4))) (eC (.int 2))) (eC (.int 0))) R = some (decide (k / 2 ^ p % 2 = 0)) := by
          rw [tVal_at, e2_at, e2_at, e1_at, e2_at, h6, h4]
          dsimp only [Option.bind_some, dt_vis]
          rw [pDiv_int (by omega) (div64 (by omega) (by omega))]
          walk_at "pe"
          rw [show (k : Int) / ((2 ^ p : Nat) : Int) = ((k / 2 ^ p : Nat) : Int) by rw [Int.natCast_ediv], pMod_int (by omega)]
          walk_at "pe"
          refine decide_eq_decide.mpr ?_
          generalize k / 2 ^ p = q
          omega
        rw [eIf_at, htest]
        dsimp only [Option.bind_some]
        have hv : ∀ g : EF, (j : Nat) → g R = some (.vis (.int (j : Int))) → j < 2 ^ w → e2 pIx (eVar 2) g R = some (.vis (.int (L.getD j 0))) := fun g j hg hj => by
          rw [e2_at, hg]
          rcases h2 with e | e <;> rw [e] <;> exact ix j hj
        by_cases h : k / 2 ^ p % 2 = 0
        · rw [if_pos (decide_eq_true h), if_pos h, e2_at, hv (eVar 6) k h6 hk, hv (e2 pAdd (eVar 6) (eVar 4)) (k + 2 ^ p) (by rw [e2_at, h6, h4]; rfl) (pair_lt hp hk h)]
          rfl
        · have hk2 : 2 ^ p ≤ k := by
            apply Nat.le_of_not_lt
            intro hlt
            rw [Nat.div_eq_of_lt hlt] at h
            exact h rfl
          rw [if_neg (fun e => h (of_decide_eq_true e)), if_neg h, e2_at, hv (eVar 6) k h6 hk, hv (e2 pSub (eVar 6) (eVar 4)) (k - 2 ^ p) (by rw [e2_at, h6, h4, show ((k - 2 ^ p : Nat) : Int) = (k : Int) - ((2 ^ p : Nat) : Int) by omega]; rfl) (Nat.lt_of_le_of_lt (Nat.sub_le _ _) hk)]
          rfl
      have hlen : e1 pLen (eVar 2) [.val (ilst T), .val (.int w), sl, .val (.int p), .val (.int ((2 ^ p : Nat) : Int)), .non, .non] = some (.vis (.int ((2 ^ w : Nat) : Int))) := by
        rw [e1_at]
        rcases Hol.var (env := [.val (ilst T), .val (.int w), sl, .val (.int p), .val (.int ((2 ^ p : Nat) : Int)), .non, .non]) (i := 2) rfl hsl with e | e <;> rw [e] <;> show pLen (ilst L) = _ <;> rw [← hll] <;> exact pLen_iseq false L
      have := comp_rng (env := [.val (ilst T), .val (.int w), sl, .val (.int p), .val (.int ((2 ^ p : Nat) : Int)), .non, .non]) (k := 6) (n := 2 ^ w) (f := fun k => if k / 2 ^ p % 2 = 0 then L.getD k 0 + L.getD (k + 2 ^ p) 0 else L.getD (k - 2 ^ p) 0 - L.getD k 0) hlen (by omega) fun k hk => body k hk _ (Hol.var (i := 2) rfl hsl) rfl rfl
      refine this.trans ?_
      unfold stepL
      rw [hll]
    · rintro env ⟨sl, z3, z4, hsl, rfl⟩
      exact q_frzE (hsl.frz rfl) rfl (s_ret (r := .vis (ilst (surp w T))) rfl rfl rfl rfl)
theorem par_at {w x m : Nat} {env : Sl} {fx fm fw : EF} (hw : w ≤ 1000) (h1 : fx env = some (.vis (.int (x : Int)))) (h2 : fm env = some (.vis (.int (m : Int)))) (h3 : fw env = some (.vis (.int (w : Int)))) : e2 pMod (e1 pSumA (eCall F__law_bits (aCons (e2 pAnd fx fm) (aCons fw aNil)))) (eC (.int 2)) env = some (.vis (.int (par w x m))) := by
  rw [e2_at, e1_at, eCall_at, aCons_at, aCons_at, e2_at, h1, h2, h3]
  dsimp only [Option.bind_some, dt_vis]
  rw [pAnd_nat]
  walk_at "pe"
  rw [lbits_at hw]
  walk_at "pe"
  rw [sumA_itup]
  walk_at "pe"
  rw [pMod_int (by omega)]
  rfl
theorem agree_at {w m : Nat} {T : List Int} (hl : T.length = 2 ^ w) (hw : w ≤ 16) : F__law_sum_agree [ilst T, .int (w : Int), .int (m : Int)] = some (.int (Sg (2 ^ w) fun x => if T.getD x 0 = par w x m then 1 else 0)) := by
  refine getF_eq dc__law_sum_agree ?_
  show w__law_sum_agree _ [.val (ilst T), .val (.int w), .val (.int m), .non, .non]
  have hw2 := pow_lim (w := w) (by omega)
  refine q_asg (r := .vis (.int (Sg 0 fun x => if T.getD x 0 = par w x m then 1 else 0))) rfl rfl rfl ?_
  refine q_forRng (lo := 0) (n := 2 ^ w) (fun i e => ∃ z, e = [.val (ilst T), .val (.int w), .val (.int m), .val (.int (Sg i fun x => if T.getD x 0 = par w x m then 1 else 0)), z]) (by rw [rng1 (n := ((2 ^ w : Nat) : Int)) (by walk_at "pe"; exact shl_one (by omega)) (by omega), Int.toNat_natCast]) ⟨_, rfl⟩ ?_ ?_
  · rintro i env hi ⟨z, rfl⟩
    refine ⟨_, by walk_at "pe"; rfl, ?_⟩
    rw [show (0 : Int) + (i : Int) = (i : Int) by omega]
    refine s_asg (r := .vis (.int (Sg (i + 1) fun x => if T.getD x 0 = par w x m then 1 else 0))) ?_ rfl rfl ⟨_, rfl⟩
    have ix : pIx (ilst T) (.int (i : Int)) = some (.vis (.int (T.getD i 0))) := ix_iseqD (b := false) (by omega)
    rw [e2_at, e1_at, e2_at, par_at (w := w) (x := i) (m := m) (by omega) rfl rfl rfl]
    walk_at "pe"
    rw [ix]
    walk_at "pe"
    rw [Sg_succ]
  · rintro env ⟨z, rfl⟩
    exact s_ret (r := .vis (.int (Sg (2 ^ w) fun x => if T.getD x 0 = par w x m then 1 else 0))) rfl rfl rfl rfl
end Pyl
end
section
set_option Elab.async false
set_option linter.all false
set_option maxHeartbeats 4000000
namespace Pyl
open PySem
local macro_rules | `(tactic| walk_at "pe") => `(tactic| simp (config := { implicitDefEqProofs := false }) only [eVar_at, eC_at, e1_at, e2_at, aNil_at, aCons_at, eTup_at, eLst_at, plain_nil, plain_cons, eCall_at, eIf_at, aApp_at, aDfl_at, List.cons_append, List.nil_append, eAnd_at, eOr_at, eNot_at, tVal_at, tAnd_at, tOr_at, tNot_at, tYes_at,
  pAdd_int, pSub_int, pNeg_int, pLt_int, pLe_int, pGt_int, pGe_int, pEq_int, pNe_int, pIsN_at, pNotN_at, pIx_lst, pIx_tup, pGcd_int, atL0, atL1, atL2, atL3, atL4, atL5, atL6, atL7, atL8, oNone_at, oSome_at, eSlice_at, pLen_lst, pLen_tup, pInt_int, pInt_bl, pAbs_int, pSum_ints, pMax2_int, pMin2_int, pList_lst, pList_tup, pTuple_lst, pTuple_tup, iSeq_at, gN_at, gT_at, gsN_cons, gsN_nil, wipeS_cons, wipeS_nil,
  dt_vis, dt_bor, dt_fre, sh_vis, sh_bor, sh_fre, slot_vis, slot_fre, od_dt, isNon_non, isNon_int, isNon_lst, isNon_tup, scalar_int, scalar_bl, scalar_non, Option.bind_some, Option.bind_none, Option.map_some, Option.map_none, List.getElem?_cons_zero, List.getElem?_cons_succ, List.set_cons_zero, List.set_cons_succ, List.map_cons, List.map_nil, List.any_cons, List.any_nil, Bool.or_false, Bool.false_or, Bool.false_and, Bool.and_true, Bool.true_and, Bool.not_true, Bool.not_false,
  Option.some.injEq, exists_eq_left', exists_eq_left, true_and, and_true, if_true, if_false, Bool.false_eq_true, ite_true, ite_false, reduceIte, decide_eq_true_eq, decide_eq_false_iff_not, R.vis.injEq, R.fre.injEq, Dt.lst.injEq, Dt.tup.injEq, Dt.int.injEq, Slot.own.injEq, OD.lst.injEq, reduceCtorEq, false_and, exists_false, exists_const, Bool.true_eq_false, false_implies, true_implies, implies_true, forall_const])
/-- digits by their place -/
theorem dig_ix {D : List Int} {i : Nat} (h : i < D.length) : pIx (ilst D) (.int (i : Int)) = some (.vis (.int (D.getD i 0))) := ix_iseqD (b := false) h
theorem natc {x : Int} (h : 0 ≤ x) : ∃ n : Nat, x = (n : Int) := ⟨x.toNat, by omega⟩
theorem xor01 {a b : Int} (ha : a = 0 ∨ a = 1) (hb : b = 0 ∨ b = 1) : ∃ c : Int, pXor (.int a) (.int b) = some (.vis (.int c)) ∧ (c = 0 ∨ c = 1) := by
  rcases ha with e | e <;> rcases hb with e2 | e2 <;> subst e <;> subst e2
  · exact ⟨0, rfl, .inl rfl⟩
  · exact ⟨1, rfl, .inr rfl⟩
  · exact ⟨1, rfl, .inr rfl⟩
  · exact ⟨0, rfl, .inl rfl⟩
theorem par_01 (w x m : Nat) : par w x m = 0 ∨ par w x m = 1 := by unfold par; omega
/-- a comprehension over the rows, each a bit -/
theorem comp_bits {env : Sl} {k n : Nat} {fa fe : EF} (h : fa env = some (.vis (.int (n : Int)))) (hn : n ≤ 4000000) (hf : ∀ j : Nat, j < n → ∃ b : Int, fe ((wipeS env [k]).set k (.val (.int (j : Int)))) = some (.vis (.int b)) ∧ (b = 0 ∨ b = 1)) :
    ∃ A : List Int, eComp [k] (iRange1 fa) (gN k) tYes fe env = some (.fre (.lst (A.map .int))) ∧ A.length = n ∧ b01 A := by
  let f : Nat → Int := fun j => if hj : j < n then Classical.choose (hf j hj) else 0
  have hfs : ∀ j, j < n → fe ((wipeS env [k]).set k (.val (.int (j : Int)))) = some (.vis (.int (f j))) ∧ (f j = 0 ∨ f j = 1) := fun j hj => by
    have e : f j = Classical.choose (hf j hj) := dif_pos hj
    rw [e]
    exact Classical.choose_spec (hf j hj)
  refine ⟨(List.range n).map f, comp_rng h hn fun j hj => (hfs j hj).1, by simp, fun x hx => ?_⟩
  obtain ⟨j, hj, rfl⟩ := List.mem_map.mp hx
  exact (hfs j (List.mem_range.mp hj)).2
theorem near_table_at {ns : List Int} {at_ w : Nat} (hat : at_ < 3000000000) (hw0 : 1 ≤ w) (hw : w ≤ 12) : ∃ (J : Jd) (m : Int), F__law_near_table [ilst ns, .int (at_ : Int), .int (w : Int)] = some (.lst [J.spec, .int m]) ∧ DrJ w J := by
  suffices hs : ∃ r, F__law_near_table [ilst ns, .int (at_ : Int), .int (w : Int)] = some r ∧ ∃ (J : Jd) (m : Int), r = .lst [J.spec, .int m] ∧ DrJ w J by
    obtain ⟨r, h1, J, m, rfl, h2⟩ := hs
    exact ⟨J, m, h1, h2⟩
  refine getF_rel dc__law_near_table ?_
  show w__law_near_table _ [.val (ilst ns), .val (.int at_), .val (.int w), .non, .non, .non, .non, .non, .non, .non]
  have hw2 := pow_lim (w := w) (by omega)
  have hw3 := Nat.two_pow_pos w
  have hw4 : 2 ≤ 2 ^ w := by have := pow2_le hw0; omega
  refine q_asg (r := .vis (.int ((2 ^ w : Nat) : Int))) (by walk_at "pe"; exact shl_one (by omega)) rfl rfl ?_
  generalize hR : 2 ^ w = R at hw2 hw3 hw4 ⊢
  let sizes : List Int := [(R : Int), 8, (R : Int) + 1] ++ List.replicate 16 (R : Int)
  have hsz : ∀ s ∈ sizes, 0 < s ∧ s < 18446744073709551616 := by
    intro s hs
    rcases List.mem_append.mp hs with h | h
    · simp at h
      omega
    · rw [(List.mem_replicate.mp h).2]
      omega
  have hsl : sizes.length = 19 := rfl
  have g0 := digs_at (c := cellM ns at_) (ns := sizes) ⟨fun s hs => ⟨(hsz s hs).1, bigs64 (hsz s hs).1 (hsz s hs).2⟩, by rw [hsl]; decide⟩
  have b0 : ∀ (i : Nat) (s : Int), sizes[i]? = some s → 0 ≤ (digitsM (cellM ns at_) sizes).getD i 0 ∧ (digitsM (cellM ns at_) sizes).getD i 0 < s := fun i s h1 => digitsM_get (fun s hs => (hsz s hs).1) h1 (getD_get (by rw [digitsM_len]; exact (List.getElem?_eq_some_iff.mp h1).1))
  have l0 : (digitsM (cellM ns at_) sizes).length = 19 := digitsM_len _ _
  refine q_asg (r := .vis (ilst (digitsM (cellM ns at_) sizes))) ?_ rfl rfl ?_
  · have hc : eComp [8] (iRange1 (eC (.int 16))) (gN 8) tYes (eVar 3) [.val (ilst ns), .val (.int at_), .val (.int w), .val (.int (R : Int)), .non, .non, .non, .non, .non, .non] = some (.fre (.lst ((List.replicate 16 (R : Int)).map .int))) := by
      rw [comp_rng (n := 16) (f := fun _ => (R : Int)) rfl (by decide) fun j hj => rfl, List.map_const', List.length_range]
    show eCall F__law_digits _ [.val (ilst ns), .val (.int at_), .val (.int w), .val (.int (R : Int)), .non, .non, .non, .non, .non, .non] = _
    rw [eCall_at, aCons_at, aCons_at, e2_at, hc]
    walk_at "pe"
    rw [cell_at (k := (at_ : Int)) (by omega), pAdd_lst (by simp [LIM])]
    walk_at "pe"
    show Option.bind (F__law_digits [.int (cellM ns at_), ilst sizes]) _ = _
    rw [g0]
    rfl
  generalize digitsM (cellM ns at_) sizes = D at g0 b0 l0
  have w0 := b0 0 (R : Int) rfl
  have w1 := b0 1 8 rfl
  have w2 := b0 2 ((R : Int) + 1) rfl
  have wk : ∀ k, k < 16 → 0 ≤ D.getD (3 + k) 0 ∧ D.getD (3 + k) 0 < (R : Int) := fun k hk => b0 (3 + k) (R : Int) (by
    show ([(R : Int), 8, (R : Int) + 1] ++ List.replicate 16 (R : Int))[3 + k]? = _
    rw [List.getElem?_append_right (by simp), List.getElem?_replicate, if_pos (by simp; omega)])
  have i0 : pIx (ilst D) (.int 0) = some (.vis (.int (D.getD 0 0))) := dig_ix (i := 0) (by omega)
  have i1 : pIx (ilst D) (.int 1) = some (.vis (.int (D.getD 1 0))) := dig_ix (i := 1) (by omega)
  have i2 : pIx (ilst D) (.int 2) = some (.vis (.int (D.getD 2 0))) := dig_ix (i := 2) (by omega)
  have i3 : pIx (ilst D) (.int 3) = some (.vis (.int (D.getD 3 0))) := dig_ix (i := 3) (by omega)
  have w3 := wk 0 (by omega)
  obtain ⟨m, hm⟩ := natc w0.1
  refine q_asg (r := .vis (.int (m : Int))) (by walk_at "pe"; rw [i0, hm]) rfl rfl ?_
  refine q_ifD (p := D.getD 1 0 = 3) (by walk_at "pe"; rw [i1]; walk_at "pe") (fun _ => ?_) fun _ => s_nil ?_
  · obtain ⟨J, q1, q2⟩ := judge_at (ns := ns) (at_ := at_ + 1) (w := w) (d := 4) (by omega) (by omega) (by decide)
    refine s_ret (r := .fre (.lst [J.spec, .int (m : Int)])) ?_ rfl rfl ⟨J, m, rfl, q2⟩
    walk_at "pe"
    rw [show (at_ : Int) + 1 = ((at_ + 1 : Nat) : Int) by omega, show (4 : Int) = ((4 : Nat) : Int) from rfl, q1]
    rfl
  -- the answers
  obtain ⟨A0, hA0, hA0l, hA0b⟩ := comp_bits (env := [.val (ilst ns), .val (.int at_), .val (.int w), .val (.int (R : Int)), .val (ilst D), .val (.int (m : Int)), .non, .non, .non, .non]) (k := 9) (n := R) (fa := eVar 3) (fe := e2 pMod (e1 pSumA (eCall F__law_bits (aCons (e2 pAnd (eVar 9) (eVar 5)) (aCons (eVar 2) aNil)))) (eC (.int 2))) rfl (by omega) fun j hj => ⟨par w j m, par_at (by omega) rfl rfl rfl, par_01 _ _ _⟩
  refine q_asg (r := .fre (.lst (A0.map .int))) hA0 rfl rfl ?_
  let M : Sl → Prop := fun e => ∃ A : List Int, A.length = R ∧ b01 A ∧ e = [.val (ilst ns), .val (.int at_), .val (.int w), .val (.int (R : Int)), .val (ilst D), .val (.int (m : Int)), .own (.lst (A.map .int)), .non, .non, .non]
  refine q_cut M ?_ ?_
  · refine s_ifD (p := D.getD 1 0 = 4 ∨ D.getD 1 0 = 5) (by walk_at "pe"; rw [i1]; walk_at "pe"; exact or_test) (fun _ => ?_) fun _ => s_nil ⟨A0, hA0l, hA0b, rfl⟩
    obtain ⟨A, hA, hAl, hAb⟩ := comp_bits (env := [.val (ilst ns), .val (.int at_), .val (.int w), .val (.int (R : Int)), .val (ilst D), .val (.int (m : Int)), .own (.lst (A0.map .int)), .non, .non, .non]) (k := 9) (n := R) (fa := eVar 3) (fe := e1 pInt (e2 pGt (e1 pSumA (eCall F__law_bits (aCons (eVar 9) (aCons (eVar 2) aNil)))) (e2 pMod (e1 pInt (e2 pIx (eVar 4) (eC (.int 2)))) (e2 pAdd (eVar 2) (eC (.int 1)))))) rfl (by omega) fun j hj => by
      walk_at "pe"
      rw [lbits_at (by omega), i2]
      walk_at "pe"
      rw [sumA_itup, pMod_int (by omega)]
      walk_at "pe"
      split <;> simp
    exact s_asg (r := .fre (.lst (A.map .int))) hA rfl rfl ⟨A, hAl, hAb, rfl⟩
  rintro e ⟨A1, hA1l, hA1b, rfl⟩
  refine q_cut M ?_ ?_
  · refine s_ifD (p := D.getD 1 0 > 5) (by walk_at "pe"; rw [i1]; walk_at "pe") (fun _ => ?_) fun _ => s_nil ⟨A1, hA1l, hA1b, rfl⟩
    obtain ⟨c2, hc2⟩ := natc (show 0 ≤ D.getD 2 0 + 1 by omega)
    obtain ⟨A, hA, hAl, hAb⟩ := comp_bits (env := [.val (ilst ns), .val (.int at_), .val (.int w), .val (.int (R : Int)), .val (ilst D), .val (.int (m : Int)), .own (.lst (A1.map .int)), .non, .non, .non]) (k := 9) (n := R) (fa := eVar 3) (fe := e2 pXor (e2 pIx (eVar 6) (eVar 9)) (e1 pInt (e2 pEq (e2 pAnd (eVar 9) (e2 pAdd (e2 pIx (eVar 4) (eC (.int 2))) (eC (.int 1)))) (e2 pAdd (e2 pIx (eVar 4) (eC (.int 2))) (eC (.int 1)))))) rfl (by omega) fun j hj => by
      have ia : atL (A1.map Dt.int) (j : Int) = some (.int (A1.getD j 0)) := getD_at (by omega)
      walk_at "pe"
      rw [ia, i2]
      walk_at "pe"
      rw [hc2, pAnd_nat]
      walk_at "pe"
      exact xor01 (b01_getD hA1b) (by split <;> simp)
    exact s_asg (r := .fre (.lst (A.map .int))) hA rfl rfl ⟨A, hAl, hAb, rfl⟩
  rintro e ⟨A2, hA2l, hA2b, rfl⟩
  -- how many are turned
  have e2m : ∃ fl : Int, D.getD 2 0 % (1 + (R : Int) / 2) = fl := ⟨_, rfl⟩
  obtain ⟨fl, hfl⟩ := e2m
  refine q_asg (r := .vis (.int fl)) ?_ rfl rfl ?_
  · walk_at "pe"
    rw [i2]
    walk_at "pe"
    rw [pDiv_int (by omega) (div64 (by omega) (by omega))]
    walk_at "pe"
    rw [pMod_int (by omega), hfl]
  refine q_cut (fun e => ∃ fl : Int, e = [.val (ilst ns), .val (.int at_), .val (.int w), .val (.int (R : Int)), .val (ilst D), .val (.int (m : Int)), .own (.lst (A2.map .int)), .val (.int fl), .non, .non] ∧ 0 ≤ fl) ?_ ?_
  · have hfl0 : 0 ≤ fl := by rw [← hfl]; exact Int.emod_nonneg _ (by omega)
    refine s_ifD (p := D.getD 1 0 = 0 ∨ D.getD 1 0 > 3) (by walk_at "pe"; rw [i1]; walk_at "pe"; exact or_test) (fun _ => ?_) fun _ => s_nil ⟨fl, rfl, hfl0⟩
    refine s_asg (r := .vis (.int (D.getD 3 0 % (1 + (R : Int) / 8)))) ?_ rfl rfl ⟨_, rfl, Int.emod_nonneg _ (by omega)⟩
    walk_at "pe"
    rw [i3]
    walk_at "pe"
    rw [pDiv_int (by omega) (div64 (by omega) (by omega))]
    walk_at "pe"
    rw [pMod_int (by omega)]
  rintro e ⟨fl2, rfl, hfl0⟩
  obtain ⟨n, hn⟩ := natc (show 0 ≤ (if (16 : Int) < fl2 then 16 else fl2) by split <;> omega)
  have hn16 : n ≤ 16 := by split at hn <;> omega
  refine q_forRng (lo := 0) (n := n) (fun i e => ∃ (A : List Int) (z : Slot), A.length = R ∧ b01 A ∧ e = [.val (ilst ns), .val (.int at_), .val (.int w), .val (.int (R : Int)), .val (ilst D), .val (.int (m : Int)), .own (.lst (A.map .int)), .val (.int fl2), z, .non]) (by rw [rng1 (n := (n : Int)) (by walk_at "pe"; rw [hn]) (by omega), Int.toNat_natCast]) ⟨A2, _, hA2l, hA2b, rfl⟩ ?_ ?_
  · rintro i env hi ⟨A, z, hAl, hAb, rfl⟩
    refine ⟨_, by walk_at "pe"; rfl, ?_⟩
    rw [show (0 : Int) + (i : Int) = (i : Int) by omega]
    have hk := wk i (by omega)
    obtain ⟨t, ht⟩ := natc hk.1
    have ik : pIx (ilst D) (.int (3 + (i : Int))) = some (.vis (.int (t : Int))) := by
      rw [show (3 : Int) + (i : Int) = ((3 + i : Nat) : Int) by omega, ← ht]
      exact dig_ix (by omega)
    have ia : atL (A.map Dt.int) (t : Int) = some (.int (A.getD t 0)) := getD_at (by omega)
    refine s_put (b := A) (v := 1 - A.getD t 0) (j := (t : Int)) rfl ?_ ?_ (by omega) (by omega) rfl ⟨A.set t (1 - A.getD t 0), _, by rw [List.length_set]; exact hAl, ?_, rfl⟩
    · walk_at "pe"
      rw [ik]
      walk_at "pe"
      rw [ia]
      rfl
    · walk_at "pe"
      rw [ik]
    · intro x hx
      rcases List.mem_or_eq_of_mem_set hx with h | h
      · exact hAb x h
      · rw [h]
        have := b01_getD (i := t) hAb
        omega
  · rintro env ⟨A, z, hAl, hAb, rfl⟩
    refine q_frz rfl rfl (s_ret (r := .fre (.lst [(Jd.table w A).spec, .int (m : Int)])) ?_ rfl rfl ⟨.table w A, m, rfl, ⟨by show w ≤ 16; omega, hAb, by rw [hAl, hR]⟩, rfl⟩)
    walk_at "pe"
    rfl
theorem more_at {w : Nat} {S : List Int} {r0 r1 r2 : Int} {t : List Int} (hl : S.length = 2 ^ w) (hw : w ≤ 16) (hS : ∀ k, (S.getD k 0).natAbs ≤ 2 ^ w) (h1 : 0 ≤ r1 ∧ r1 < 1000) (h2 : 0 ≤ r2 ∧ r2 < 100000) :
    ∃ A B : Int, F__law_more [ilst S, .int (w : Int), ilst (r0 :: r1 :: r2 :: t)] = some (ilst [A, B]) ∧ (0 < A ∧ A < 100000000) ∧ 0 < B ∧ B < 100000000 := by
  suffices hs : ∃ r, F__law_more [ilst S, .int (w : Int), ilst (r0 :: r1 :: r2 :: t)] = some r ∧ ∃ A B : Int, r = ilst [A, B] ∧ (0 < A ∧ A < 100000000) ∧ 0 < B ∧ B < 100000000 by
    obtain ⟨r, q1, A, B, rfl, q2⟩ := hs
    exact ⟨A, B, q1, q2⟩
  refine getF_rel dc__law_more ?_
  show w__law_more _ [.val (ilst S), .val (.int w), .val (ilst (r0 :: r1 :: r2 :: t)), .non, .non, .non]
  have hw2 := pow_lim (w := w) (by omega)
  have hw3 := Nat.two_pow_pos w
  refine q_asg (r := .vis (.int ((2 ^ w : Nat) : Int))) (by walk_at "pe"; exact shl_one (by omega)) rfl rfl ?_
  have j0 : pIx (ilst (r0 :: r1 :: r2 :: t)) (.int 0) = some (.vis (.int r0)) := rfl
  have j1 : pIx (ilst (r0 :: r1 :: r2 :: t)) (.int 1) = some (.vis (.int r1)) := rfl
  have j2 : pIx (ilst (r0 :: r1 :: r2 :: t)) (.int 2) = some (.vis (.int r2)) := rfl
  generalize hR : 2 ^ w = R at hw2 hw3 hl hS ⊢
  obtain ⟨q, hq⟩ := natc (show 0 ≤ r2 % (R : Int) from Int.emod_nonneg _ (by omega))
  have hq2 : q < R := by have := Int.emod_lt_of_pos r2 (show (0 : Int) < R by omega); omega
  have hSq := hS q
  refine q_asg (r := .vis (.int (if S.getD q 0 < 0 then -S.getD q 0 else S.getD q 0))) ?_ rfl rfl ?_
  · walk_at "pe"
    rw [j2]
    walk_at "pe"
    rw [pMod_int (by omega), hq]
    walk_at "pe"
    rw [dig_ix (by omega)]
    walk_at "pe"
  have hfar : ∃ far : Int, (if S.getD q 0 < 0 then -S.getD q 0 else S.getD q 0) = far ∧ 0 ≤ far ∧ far ≤ R := ⟨_, rfl, by split <;> omega, by split <;> omega⟩
  obtain ⟨far, e, f0, f1⟩ := hfar
  rw [e]
  refine q_ifD (p := r0 = 0 ∧ far > 0) (by walk_at "pe"; rw [j0]; walk_at "pe"; exact and_test) (fun h => ?_) fun _ => s_nil ?_
  · refine s_ret (r := .fre (.lst [.int far, .int (2 * (R : Int))])) ?_ rfl rfl ⟨far, 2 * (R : Int), rfl, ⟨by omega, by omega⟩, by omega, by omega⟩
    walk_at "pe"
    rw [pMul_int (big64 (by decide) (by decide)) (big64 (by omega) (by omega))]
    walk_at "pe"
  · refine q_asg (r := .vis (.int (2 * (1 + r1)))) ?_ rfl rfl ?_
    · walk_at "pe"
      rw [j1]
      walk_at "pe"
      rw [pMul_int (big64 (by decide) (by decide)) (big64 (by omega) (by omega))]
    · have hm := Int.emod_lt_of_pos r2 (show 0 < 2 * (1 + r1) / 2 by omega)
      have hm0 := Int.emod_nonneg r2 (show 2 * (1 + r1) / 2 ≠ 0 by omega)
      refine s_ret (r := .fre (.lst [.int (1 + r2 % (2 * (1 + r1) / 2)), .int (2 * (1 + r1))])) ?_ rfl rfl ⟨_, _, rfl, ⟨by omega, by omega⟩, by omega, by omega⟩
      walk_at "pe"
      rw [j2]
      walk_at "pe"
      rw [pDiv_int (by omega) (div64 (by omega) (by omega))]
      walk_at "pe"
      rw [pMod_int (by omega)]
      walk_at "pe"
end Pyl
end
section
set_option Elab.async false
set_option linter.all false
set_option maxHeartbeats 8000000
namespace Pyl
open PySem
local macro_rules | `(tactic| walk_at "pe") => `(tactic| simp (config := { implicitDefEqProofs := false }) only [eVar_at, eC_at, e1_at, e2_at, aNil_at, aCons_at, eTup_at, eLst_at, plain_nil, plain_cons, eCall_at, eIf_at, aApp_at, aDfl_at, List.cons_append, List.nil_append, eAnd_at, eOr_at, eNot_at, tVal_at, tAnd_at, tOr_at, tNot_at, tYes_at,
  pAdd_int, pSub_int, pNeg_int, pLt_int, pLe_int, pGt_int, pGe_int, pEq_int, pNe_int, pIsN_at, pNotN_at, pIx_lst, pIx_tup, pGcd_int, atL0, atL1, atL2, atL3, atL4, atL5, atL6, atL7, atL8, oNone_at, oSome_at, eSlice_at, pLen_lst, pLen_tup, pInt_int, pInt_bl, pAbs_int, pSum_ints, pMax2_int, pMin2_int, pList_lst, pList_tup, pTuple_lst, pTuple_tup, iSeq_at, gN_at, gT_at, gsN_cons, gsN_nil, wipeS_cons, wipeS_nil,
  dt_vis, dt_bor, dt_fre, sh_vis, sh_bor, sh_fre, slot_vis, slot_fre, od_dt, isNon_non, isNon_int, isNon_lst, isNon_tup, scalar_int, scalar_bl, scalar_non, Option.bind_some, Option.bind_none, Option.map_some, Option.map_none, List.getElem?_cons_zero, List.getElem?_cons_succ, List.set_cons_zero, List.set_cons_succ, List.map_cons, List.map_nil, List.any_cons, List.any_nil, Bool.or_false, Bool.false_or, Bool.false_and, Bool.and_true, Bool.true_and, Bool.not_true, Bool.not_false,
  Option.some.injEq, exists_eq_left', exists_eq_left, true_and, and_true, if_true, if_false, Bool.false_eq_true, ite_true, ite_false, reduceIte, decide_eq_true_eq, decide_eq_false_iff_not, R.vis.injEq, R.fre.injEq, Dt.lst.injEq, Dt.tup.injEq, Dt.int.injEq, Slot.own.injEq, OD.lst.injEq, reduceCtorEq, false_and, exists_false, exists_const, Bool.true_eq_false, false_implies, true_implies, implies_true, forall_const])
theorem most_near_at {s : Bool} {A B : Int} (hA : 0 < A) (hA2 : A.natAbs < 2 ^ 200) (hB2 : B.natAbs < 2 ^ 200) : F_most_near [iseq s [A, B]] = some (.int (B * B / (4 * A * A))) := by
  refine getF_eq dc_most_near ?_
  show w_most_near _ [.val (iseq s [A, B])]
  have j0 : pIx (iseq s [A, B]) (.int 0) = some (.vis (.int A)) := ix2_0 s A B
  have j1 : pIx (iseq s [A, B]) (.int 1) = some (.vis (.int B)) := ix2_1 s A B
  have h4 : (4 * A).natAbs < 2 ^ 203 := by omega
  have h5 : (4 * A * A).natAbs < 2 ^ 403 := by
    rw [Int.natAbs_mul]
    calc (4 * A).natAbs * A.natAbs < 2 ^ 203 * 2 ^ 200 := Nat.mul_lt_mul'' h4 hA2
      _ = 2 ^ 403 := (Nat.pow_add 2 203 200).symm
  refine s_ret (r := .vis (.int (B * B / (4 * A * A)))) ?_ rfl rfl rfl
  walk_at "pe"
  rw [j0, j1]
  walk_at "pe"
  rw [pMul_int (big_lt hB2) (big_lt hB2), pMul_int (big_lt (n := 64) (by decide)) (big_lt hA2)]
  walk_at "pe"
  rw [pMul_int (big_lt h4) (big_lt hA2)]
  walk_at "pe"
  rw [pDiv_int (Int.mul_pos (by omega) hA) (by rw [DIVB_eq]; exact Nat.lt_of_lt_of_le h5 (Nat.pow_le_pow_right (by decide) (by decide)))]
theorem most_right_at {A B : Int} (hA : 0 < A) (hA2 : A.natAbs < 2 ^ 200) (hB2 : B.natAbs < 2 ^ 200) : F__law_most_right [ilst [A, B]] = some (.bl true) := by
  refine getF_eq dc__law_most_right ?_
  show w__law_most_right _ [.val (ilst [A, B]), .non, .non]
  have j0 : pIx (ilst [A, B]) (.int 0) = some (.vis (.int A)) := ix2_0 false A B
  have j1 : pIx (ilst [A, B]) (.int 1) = some (.vis (.int B)) := ix2_1 false A B
  have h4 : (4 * A).natAbs < 2 ^ 203 := by omega
  have h5 : (4 * A * A).natAbs < 2 ^ 403 := by
    rw [Int.natAbs_mul]
    calc (4 * A).natAbs * A.natAbs < 2 ^ 203 * 2 ^ 200 := Nat.mul_lt_mul'' h4 hA2
      _ = 2 ^ 403 := (Nat.pow_add 2 203 200).symm
  refine q_asg (r := .fre (.lst ([A, B].map .int))) rfl rfl rfl ?_
  refine q_frz rfl rfl ?_
  refine q_asg (r := .vis (.int (B * B / (4 * A * A)))) ?_ rfl rfl ?_
  · walk_at "pe"
    show Option.bind (F_most_near [iseq false [A, B]]) _ = _
    rw [most_near_at hA hA2 hB2]
    rfl
  · refine s_ret (r := .vis (.bl true)) ?_ rfl rfl rfl
    have q1 : e2 pEq (eVar 1) (eVar 0) [.val (ilst [A, B]), .val (ilst [A, B]), .val (.int (B * B / (4 * A * A)))] = some (.vis (.bl true)) := by
      rw [e2_at]
      show pEq (ilst [A, B]) (ilst [A, B]) = _
      rw [pEq_ilst, decide_eq_true rfl]
    show eAnd _ _ [.val (ilst [A, B]), .val (ilst [A, B]), .val (.int (B * B / (4 * A * A)))] = _
    rw [eAnd_at, q1]
    dsimp only
    rw [eAnd_at, eCall_at, aCons_at]
    walk_at "pe"
    rw [lwhole_at]
    walk_at "pe"
    rw [j0, j1]
    walk_at "pe"
    rw [pMul_int (big_lt hB2) (big_lt hB2), pMul_int (big_lt (n := 64) (by decide)) (big_lt hA2)]
    walk_at "pe"
    rw [pMul_int (big_lt h4) (big_lt hA2)]
    walk_at "pe"
    rw [pDiv_int (Int.mul_pos (by omega) hA) (by rw [DIVB_eq]; exact Nat.lt_of_lt_of_le h5 (Nat.pow_le_pow_right (by decide) (by decide)))]
    walk_at "pe"
    simp
/-- near enough -/
def nearB (w : Nat) (A B : Int) (S : List Int) (k : Nat) : Bool := decide (2 ^ (w + 1) * A ≤ S.getD k 0 * B)
def nears (w : Nat) (A B : Int) (S : List Int) (n : Nat) : List Nat := (List.range n).filter (nearB w A B S)
theorem nears_succ (w : Nat) (A B : Int) (S : List Int) (n : Nat) : nears w A B S (n + 1) = nears w A B S n ++ if nearB w A B S n then [n] else [] := by
  unfold nears
  rw [List.range_succ, List.filter_append]
  congr 1
  cases h : nearB w A B S n <;> simp [h]
theorem nears_len (w : Nat) (A B : Int) (S : List Int) (n : Nat) : (nears w A B S n).length ≤ n := by
  have := List.length_filter_le (nearB w A B S) (List.range n)
  rwa [List.length_range] at this
theorem shl_two {w : Nat} (h : w ≤ 20) : pShl (.int 2) (.int (w : Int)) = some (.vis (.int (2 ^ (w + 1)))) := by
  rw [pShl_int (by omega) (by omega) (big64 (by decide) (by decide)), Int.toNat_natCast, Int.pow_succ, Int.mul_comm]
def toldD (w : Nat) (S : List Int) (k : Nat) : Dt := .tup [itup (bitsM k w), .int ((((2 ^ w : Nat) : Int) + S.getD k 0) / 2)]
def dueD (w : Nat) (S : List Int) (k : Nat) : Dt := .lst [itup (bitsM k w), .int ((S.getD k 0 + ((2 ^ w : Nat) : Int)) / 2)]
theorem near_test {w : Nat} {A B s : Int} {env : Sl} {fs fm fw : EF} {b : Bool} (hw : w ≤ 16) (h1 : fs env = some (.vis (.int s))) (h2 : fm env = some (.vis (iseq b [A, B]))) (h3 : fw env = some (.vis (.int (w : Int)))) (hs : s.natAbs ≤ 2 ^ w) (hA : A.natAbs < 2 ^ 60) (hB : B.natAbs < 2 ^ 60) :
    e2 pGe (e2 pMul fs (e2 pIx fm (eC (.int 1)))) (e2 pMul (e2 pShl (eC (.int 2)) fw) (e2 pIx fm (eC (.int 0)))) env = some (.vis (.bl (decide (2 ^ (w + 1) * A ≤ s * B)))) := by
  have hw2 := pow_lim (w := w) (by omega)
  have hw3 : ((2 : Int) ^ (w + 1)).natAbs < 2 ^ 40 := by
    rw [show ((2 : Int) ^ (w + 1)) = ((2 ^ (w + 1) : Nat) : Int) by simp, Int.natAbs_natCast, Nat.pow_succ]
    omega
  have j0 : pIx (iseq b [A, B]) (.int 0) = some (.vis (.int A)) := ix2_0 b A B
  have j1 : pIx (iseq b [A, B]) (.int 1) = some (.vis (.int B)) := ix2_1 b A B
  rw [e2_at, e2_at, e2_at, e2_at, e2_at, e2_at, h1, h2, h3]
  dsimp only [Option.bind_some, dt_vis, eC_at]
  rw [j0, j1, shl_two (by omega)]
  dsimp only [Option.bind_some, dt_vis]
  rw [pMul_int (big_lt (n := 60) (by omega)) (big_lt hB), pMul_int (big_lt hw3) (big_lt hA)]
  rfl
theorem near_sums_at {J : Jd} {A B : Int} {b : Bool} (h : J.Wf) (hA : A.natAbs < 2 ^ 60) (hB : B.natAbs < 2 ^ 60) : F_near_sums [J.obj, iseq b [A, B]] = some (.tup ((nears J.w A B (surp J.w J.truth) (2 ^ J.w)).map (toldD J.w (surp J.w J.truth)))) := by
  refine getF_eq dc_near_sums ?_
  show w_near_sums _ [.val J.obj, .val (iseq b [A, B]), .non, .non, .non, .non]
  have hw := h.wide
  have hw2 := pow_lim (w := J.w) (by omega)
  have hl := truth_len J
  have hb := truth_01 h
  have hs0 : ∀ k, ((surp J.w J.truth).getD k 0).natAbs ≤ 2 ^ J.w := fun k => iter_abs hl hb (Nat.le_refl _)
  have hsl := surp_len hl
  refine q_asg (r := .vis (itup (surp J.w J.truth))) ?_ rfl rfl ?_
  · walk_at "pe"
    rw [signed_at h]
    walk_at "pe"
    rw [turned_at (by rw [signs_len, hl]) hw]
    rfl
  generalize surp J.w J.truth = S at hs0 hsl ⊢
  refine q_asg (r := .vis (.int (J.w : Int))) (width_att rfl) rfl rfl ?_
  refine q_asg (r := .fre (.lst [])) rfl rfl rfl ?_
  refine q_forRng (lo := 0) (n := 2 ^ J.w) (fun i e => ∃ z, e = [.val J.obj, .val (iseq b [A, B]), .val (itup S), .val (.int (J.w : Int)), .own (.lst ((nears J.w A B S i).map (toldD J.w S))), z]) (by rw [rng1 (n := ((2 ^ J.w : Nat) : Int)) (by walk_at "pe"; rw [show pLen (itup S) = some (.vis (.int S.length)) from pLen_iseq true S, hsl]) (by omega), Int.toNat_natCast]) ⟨_, rfl⟩ ?_ ?_
  · rintro i env hi ⟨z, rfl⟩
    refine ⟨_, by walk_at "pe"; rfl, ?_⟩
    rw [show (0 : Int) + (i : Int) = (i : Int) by omega]
    have ix : pIx (itup S) (.int (i : Int)) = some (.vis (.int (S.getD i 0))) := ix_iseqD (b := true) (by omega)
    have hn : F_is_near [.int (S.getD i 0), .int (J.w : Int), iseq b [A, B]] = some (.bl (nearB J.w A B S i)) := by
      refine getF_eq dc_is_near ?_
      show w_is_near _ [.val (.int (S.getD i 0)), .val (.int (J.w : Int)), .val (iseq b [A, B])]
      exact s_ret (r := .vis (.bl (nearB J.w A B S i))) (near_test hw rfl rfl rfl (hs0 i) hA hB) rfl rfl rfl
    have ht : tVal (eCall F_is_near (aCons (e2 pIx (eVar 2) (eVar 5)) (aCons (eVar 3) (aCons (eVar 1) aNil)))) [.val J.obj, .val (iseq b [A, B]), .val (itup S), .val (.int (J.w : Int)), .own (.lst ((nears J.w A B S i).map (toldD J.w S))), .val (.int (i : Int))] = some (nearB J.w A B S i) := by
      walk_at "pe"
      rw [ix]
      walk_at "pe"
      rw [hn]
      rfl
    have hln := nears_len J.w A B S i
    refine s_if ht (fun hc => ?_) fun hc => s_nil ⟨.val (.int (i : Int)), ?_⟩
    · refine s_app (d := toldD J.w S i) rfl (r := .vis (toldD J.w S i)) ?_ rfl (by rw [List.length_map]; exact lim_lt (by omega)) rfl rfl ⟨.val (.int (i : Int)), ?_⟩
      · walk_at "pe"
        rw [row_at (by omega), shl_one (by omega), ix]
        walk_at "pe"
        rw [pDiv_int (by omega) (div64 (by omega) (by omega))]
        walk_at "pe"
        rfl
      · rw [nears_succ, hc, if_pos rfl, List.map_append]
        rfl
    · rw [nears_succ, hc]
      simp
  · rintro env ⟨z, rfl⟩
    exact s_ret (r := .vis (.tup ((nears J.w A B S (2 ^ J.w)).map (toldD J.w S)))) rfl rfl rfl rfl
theorem is_row_at {r : List Int} {w : Nat} (h : b01 r) (hl : r.length = w) : F__law_is_row [itup r, .int (w : Int)] = some (.bl true) := by
  refine getF_eq dc__law_is_row ?_
  show w__law_is_row _ [.val (itup r), .val (.int w), .non]
  refine q_ifD (p := False) ?_ (fun e => e.elim) fun _ => s_nil ?_
  · walk_at "pe"
    rw [show pIsi "tuple" (itup r) = some (.vis (.bl true)) from rfl, show pLen (itup r) = some (.vis (.int r.length)) from pLen_iseq true r, hl]
    walk_at "pe"
    simp
  · refine q_forMap (u := Dt.int) (xs := r) (fun _ e => ∃ z, e = [.val (itup r), .val (.int w), z]) (seq_ints (b := true) rfl) ⟨_, rfl⟩ ?_ ?_
    · rintro i env x hx ⟨z, rfl⟩
      refine ⟨_, by walk_at "pe"; rfl, ?_⟩
      have hx2 := b01_get h hx
      refine s_ifD (p := False) ?_ (fun e => e.elim) fun _ => s_nil ⟨_, rfl⟩
      walk_at "pe"
      rw [lwhole_at]
      walk_at "pe"
      rw [if_neg (show ¬ x < 0 by omega), decide_eq_false (show ¬ 1 < x by omega)]
      rfl
    · rintro env ⟨z, rfl⟩
      exact s_ret (r := .vis (.bl true)) rfl rfl rfl rfl
theorem near_right_at {J : Jd} {A B : Int} {fz : Bool} (h : J.Wf) (hA : 0 < A ∧ A < 100000000) (hB : 0 < B ∧ B < 100000000) : F__law_near_right [J.obj, ilst (surp J.w J.truth), .int (J.w : Int), ilst [A, B], .bl fz] = some (.bl true) := by
  have few := few_near (truth_len J) (truth_01 h) hA.1 hB.1
  refine getF_eq dc__law_near_right ?_
  show w__law_near_right _ [.val J.obj, .val (ilst (surp J.w J.truth)), .val (.int (J.w : Int)), .val (ilst [A, B]), .val (.bl fz), .non, .non, .non, .non, .non]
  have hw := h.wide
  have hw2 := pow_lim (w := J.w) (by omega)
  have hw3 := Nat.two_pow_pos J.w
  have hl := truth_len J
  have hb := truth_01 h
  have hs0 : ∀ k, ((surp J.w J.truth).getD k 0).natAbs ≤ 2 ^ J.w := fun k => iter_abs hl hb (Nat.le_refl _)
  have hsl := surp_len hl
  have hns : ∀ c, F_near_sums [J.obj, iseq c [A, B]] = some (.tup ((nears J.w A B (surp J.w J.truth) (2 ^ J.w)).map (toldD J.w (surp J.w J.truth)))) := fun c => near_sums_at h (by omega) (by omega)
  have few2 : ((nears J.w A B (surp J.w J.truth) (2 ^ J.w)).length : Int) ≤ B * B / (4 * A * A) := few
  generalize surp J.w J.truth = S at hs0 hsl hns few2 ⊢
  refine q_asg (r := .fre (.lst [])) rfl rfl rfl ?_
  refine q_forRng (lo := 0) (n := 2 ^ J.w) (fun i e => ∃ z, e = [.val J.obj, .val (ilst S), .val (.int (J.w : Int)), .val (ilst [A, B]), .val (.bl fz), .own (.lst ((nears J.w A B S i).map (dueD J.w S))), z, .non, .non, .non]) (by rw [rng1 (n := ((2 ^ J.w : Nat) : Int)) (by walk_at "pe"; exact shl_one (by omega)) (by omega), Int.toNat_natCast]) ⟨_, rfl⟩ ?_ ?_
  · rintro i env hi ⟨z, rfl⟩
    refine ⟨_, by walk_at "pe"; rfl, ?_⟩
    rw [show (0 : Int) + (i : Int) = (i : Int) by omega]
    have ix : pIx (ilst S) (.int (i : Int)) = some (.vis (.int (S.getD i 0))) := ix_iseqD (b := false) (by omega)
    have hln := nears_len J.w A B S i
    have hsi := hs0 i
    have htv : tVal (e2 pGe (e2 pMul (e2 pIx (eVar 1) (eVar 6)) (e2 pIx (eVar 3) (eC (.int 1)))) (e2 pMul (e2 pShl (eC (.int 2)) (eVar 2)) (e2 pIx (eVar 3) (eC (.int 0))))) [.val J.obj, .val (ilst S), .val (.int (J.w : Int)), .val (ilst [A, B]), .val (.bl fz), .own (.lst ((nears J.w A B S i).map (dueD J.w S))), .val (.int (i : Int)), .non, .non, .non] = some (nearB J.w A B S i) := by
      rw [tVal_at, near_test (b := false) (s := S.getD i 0) (A := A) (B := B) hw (by walk_at "pe"; exact ix) rfl rfl hsi (by omega) (by omega)]
      rfl
    refine s_if htv (fun hc => ?_) fun hc => s_nil ⟨.val (.int (i : Int)), ?_⟩
    · refine s_app (d := dueD J.w S i) rfl (r := .fre (.lst [itup (bitsM i J.w), .int ((S.getD i 0 + ((2 ^ J.w : Nat) : Int)) / 2)])) ?_ rfl (by rw [List.length_map]; exact lim_lt (by omega)) rfl rfl ⟨.val (.int (i : Int)), ?_⟩
      · walk_at "pe"
        rw [lbits_at (by omega), shl_one (by omega), ix]
        walk_at "pe"
        rw [pDiv_int (by omega) (div64 (by omega) (by omega))]
        walk_at "pe"
      · rw [nears_succ, hc, if_pos rfl, List.map_append]
        rfl
    · rw [nears_succ, hc]
      simp
  · rintro env ⟨z, rfl⟩
    have hln := nears_len J.w A B S (2 ^ J.w)
    have hmem : ∀ k ∈ nears J.w A B S (2 ^ J.w), k < 2 ^ J.w := fun k hk => List.mem_range.mp (List.mem_filter.mp hk).1
    generalize nears J.w A B S (2 ^ J.w) = N at hns few2 hln hmem ⊢
    refine q_asg (r := .fre (.lst ([A, B].map .int))) rfl rfl rfl ?_
    refine q_frz rfl rfl ?_
    refine q_cut (fun e => ∃ c, e = [.val J.obj, .val (ilst S), .val (.int (J.w : Int)), .val (ilst [A, B]), .val (.bl fz), .own (.lst (N.map (dueD J.w S))), z, .val (iseq c [A, B]), .non, .non]) ?_ ?_
    · refine s_if (c := fz) rfl (fun _ => ?_) fun _ => s_nil ⟨false, rfl⟩
      exact s_asg (r := .vis (itup [A, B])) rfl rfl rfl ⟨true, rfl⟩
    rintro e ⟨c, rfl⟩
    refine q_asg (r := .vis (.tup (N.map (toldD J.w S)))) ?_ rfl rfl ?_
    · walk_at "pe"
      rw [hns c]
      rfl
    refine q_ifD (p := False) ?_ (fun e => e.elim) fun _ => s_nil ?_
    · walk_at "pe"
      rw [pList_iseq]
      walk_at "pe"
      rw [show (Dt.lst [.int A, .int B]) = ilst [A, B] from rfl, pNe_ilst, show pIsi "tuple" (.tup (N.map (toldD J.w S))) = some (.vis (.bl true)) from rfl]
      walk_at "pe"
      simp
    refine q_forRng (lo := 0) (n := N.length) (fun _ e => ∃ z9, e = [.val J.obj, .val (ilst S), .val (.int (J.w : Int)), .val (ilst [A, B]), .val (.bl fz), .own (.lst (N.map (dueD J.w S))), z, .val (iseq c [A, B]), .val (.tup (N.map (toldD J.w S))), z9]) (by rw [rng1 (n := (N.length : Int)) (by walk_at "pe"; rw [List.length_map]) (by omega), Int.toNat_natCast]) ⟨_, rfl⟩ ?_ ?_
    · rintro i env hi ⟨z9, rfl⟩
      refine ⟨_, by walk_at "pe"; rfl, ?_⟩
      rw [show (0 : Int) + (i : Int) = (i : Int) by omega]
      have g1 := List.getElem?_eq_getElem hi
      generalize N[i] = k at g1
      have hk := hmem k (List.mem_of_getElem? g1)
      have a1 : atL (N.map (toldD J.w S)) (i : Int) = some (toldD J.w S k) := atL_map g1
      have a2 : atL (N.map (dueD J.w S)) (i : Int) = some (dueD J.w S k) := atL_map g1
      have d1 : toldD J.w S k = .tup [itup (bitsM k J.w), .int ((((2 ^ J.w : Nat) : Int) + S.getD k 0) / 2)] := rfl
      have d2 : dueD J.w S k = .lst [itup (bitsM k J.w), .int ((S.getD k 0 + ((2 ^ J.w : Nat) : Int)) / 2)] := rfl
      refine q_ifD (p := False) ?_ (fun e => e.elim) fun _ => s_nil ?_
      · walk_at "pe"
        rw [a1]
        walk_at "pe"
        rw [d1, pIsi_tup]
        walk_at "pe"
        rw [is_row_at (bitsM_01 _ _) (bitsM_len _ _), lwhole_at]
        walk_at "pe"
        simp
      · refine s_ifD (p := False) ?_ (fun e => e.elim) fun _ => s_nil ⟨_, rfl⟩
        walk_at "pe"
        rw [a1, a2]
        walk_at "pe"
        rw [d1, d2]
        walk_at "pe"
        rw [pNe_itup]
        walk_at "pe"
        rw [Int.add_comm]
        simp
    · rintro env ⟨z9, rfl⟩
      have j0 : pIx (ilst [A, B]) (.int 0) = some (.vis (.int A)) := ix2_0 false A B
      have j1 : pIx (ilst [A, B]) (.int 1) = some (.vis (.int B)) := ix2_1 false A B
      refine s_ret (r := .vis (.bl true)) ?_ rfl rfl rfl
      have h5 : (4 * A * A).natAbs < 2 ^ 60 := by
        rw [Int.natAbs_mul]
        calc (4 * A).natAbs * A.natAbs < 2 ^ 30 * 2 ^ 30 := Nat.mul_lt_mul'' (by omega) (by omega)
          _ = 2 ^ 60 := (Nat.pow_add 2 30 30).symm
      walk_at "pe"
      rw [j0, j1]
      walk_at "pe"
      rw [pMul_int (big64 (by omega) (by omega)) (big64 (by omega) (by omega)), pMul_int (big64 (by decide) (by decide)) (big64 (by omega) (by omega))]
      walk_at "pe"
      rw [pMul_int (big64 (by omega) (by omega)) (big64 (by omega) (by omega))]
      walk_at "pe"
      rw [pDiv_int (Int.mul_pos (by omega) hA.1) (by rw [DIVB_eq]; exact Nat.lt_of_lt_of_le h5 (Nat.pow_le_pow_right (by decide) (by decide)))]
      walk_at "pe"
      rw [List.length_map, decide_eq_true few2]
end Pyl
end
section
set_option Elab.async false
set_option linter.all false
set_option maxHeartbeats 8000000
namespace Pyl
open PySem
local macro_rules | `(tactic| walk_at "pe") => `(tactic| simp (config := { implicitDefEqProofs := false }) only [eVar_at, eC_at, e1_at, e2_at, aNil_at, aCons_at, eTup_at, eLst_at, plain_nil, plain_cons, eCall_at, eIf_at, aApp_at, aDfl_at, List.cons_append, List.nil_append, eAnd_at, eOr_at, eNot_at, tVal_at, tAnd_at, tOr_at, tNot_at, tYes_at,
  pAdd_int, pSub_int, pNeg_int, pLt_int, pLe_int, pGt_int, pGe_int, pEq_int, pNe_int, pIsN_at, pNotN_at, pIx_lst, pIx_tup, pGcd_int, atL0, atL1, atL2, atL3, atL4, atL5, atL6, atL7, atL8, oNone_at, oSome_at, eSlice_at, pLen_lst, pLen_tup, pInt_int, pInt_bl, pAbs_int, pSum_ints, pMax2_int, pMin2_int, pList_lst, pList_tup, pTuple_lst, pTuple_tup, iSeq_at, gN_at, gT_at, gsN_cons, gsN_nil, wipeS_cons, wipeS_nil,
  dt_vis, dt_bor, dt_fre, sh_vis, sh_bor, sh_fre, slot_vis, slot_fre, od_dt, isNon_non, isNon_int, isNon_lst, isNon_tup, scalar_int, scalar_bl, scalar_non, Option.bind_some, Option.bind_none, Option.map_some, Option.map_none, List.getElem?_cons_zero, List.getElem?_cons_succ, List.set_cons_zero, List.set_cons_succ, List.map_cons, List.map_nil, List.any_cons, List.any_nil, Bool.or_false, Bool.false_or, Bool.false_and, Bool.and_true, Bool.true_and, Bool.not_true, Bool.not_false,
  Option.some.injEq, exists_eq_left', exists_eq_left, true_and, and_true, if_true, if_false, Bool.false_eq_true, ite_true, ite_false, reduceIte, decide_eq_true_eq, decide_eq_false_iff_not, R.vis.injEq, R.fre.injEq, Dt.lst.injEq, Dt.tup.injEq, Dt.int.injEq, Slot.own.injEq, OD.lst.injEq, reduceCtorEq, false_and, exists_false, exists_const, Bool.true_eq_false, false_implies, true_implies, implies_true, forall_const])
theorem law_shape : ∀ ds r, F_law_k54 ds = some r → ∃ xs ns b, ds = [.lst xs] ∧ intsOf xs = some ns ∧ r = .bl b := fun ds r h => (auto_spec h).1.2
theorem law_true : ∀ ns : List Int, ns.length ≤ 63 → F_law_k54 [.lst (ns.map .int)] = some (.bl true) := by
  intro ns _
  suffices hw : w_law_k54 (endR (.bl true)) (startE 12 [ilst ns]) by
    obtain ⟨r', h1, h2⟩ := auto_at (n := 12) (w := w_law_k54) (P := fun ds r => ds.length = 1 ∧ (fun ds r => ∃ xs ns b, ds = [.lst xs] ∧ intsOf xs = some ns ∧ r = .bl b) ds r) (ds := [ilst ns]) ⟨.bl true, ⟨rfl, _, ns, true, rfl, intsOf_ints ns, rfl⟩, hw⟩
    have := dc_law_k54.uniq (auto_spec h1).2 hw
    subst this
    exact h1
  show w_law_k54 _ [.val (ilst ns), .non, .non, .non, .non, .non, .non, .non, .non, .non, .non, .non]
  have hpos : ∀ s ∈ ([5, 12, 2, 12, 256, 24, 256, 32] : List Int), 0 < s ∧ s < 18446744073709551616 := by decide
  have g0 := digs_at (c := cellM ns 0) (ns := [5, 12, 2, 12, 256, 24, 256, 32]) ⟨fun s hs => ⟨(hpos s hs).1, bigs64 (hpos s hs).1 (hpos s hs).2⟩, by decide⟩
  have b0 : ∀ (i : Nat) (s d : Int), ([5, 12, 2, 12, 256, 24, 256, 32] : List Int)[i]? = some s → (digitsM (cellM ns 0) [5, 12, 2, 12, 256, 24, 256, 32])[i]? = some d → 0 ≤ d ∧ d < s := fun i s d h1 h2 => digitsM_get (fun s hs => (hpos s hs).1) h1 h2
  have l0 : (digitsM (cellM ns 0) [5, 12, 2, 12, 256, 24, 256, 32]).length = 8 := digitsM_len _ _
  refine q_asg (r := .vis (ilst (digitsM (cellM ns 0) [5, 12, 2, 12, 256, 24, 256, 32]))) ?_ rfl rfl ?_
  · walk_at "pe"
    rw [cell_at (k := 0) (by omega)]
    walk_at "pe"
    show Option.bind (F__law_digits [.int (cellM ns 0), ilst [5, 12, 2, 12, 256, 24, 256, 32]]) _ = _
    rw [g0]
    rfl
  generalize digitsM (cellM ns 0) [5, 12, 2, 12, 256, 24, 256, 32] = D0 at g0 b0 l0
  match D0, l0 with
  | [d0, d1, d2, d3, d4, d5, d6, d7], _ =>
  have w0 := b0 0 5 d0 rfl rfl
  have w1 := b0 1 12 d1 rfl rfl
  have w2 := b0 2 2 d2 rfl rfl
  have w3 := b0 3 12 d3 rfl rfl
  have w4 := b0 4 256 d4 rfl rfl
  have w5 := b0 5 24 d5 rfl rfl
  have w6 := b0 6 256 d6 rfl rfl
  have w7 := b0 7 32 d7 rfl rfl
  have ix : ∀ (j : Nat) (x : Int), [d0, d1, d2, d3, d4, d5, d6, d7][j]? = some x → pIx (ilst [d0, d1, d2, d3, d4, d5, d6, d7]) (.int (j : Int)) = some (.vis (.int x)) := fun j x h => ix_iseq (b := false) h
  have i0 : pIx (ilst [d0, d1, d2, d3, d4, d5, d6, d7]) (.int 0) = some (.vis (.int d0)) := ix 0 d0 rfl
  have i1 : pIx (ilst [d0, d1, d2, d3, d4, d5, d6, d7]) (.int 1) = some (.vis (.int d1)) := ix 1 d1 rfl
  have i4 : pIx (ilst [d0, d1, d2, d3, d4, d5, d6, d7]) (.int 4) = some (.vis (.int d4)) := ix 4 d4 rfl
  have i5 : pIx (ilst [d0, d1, d2, d3, d4, d5, d6, d7]) (.int 5) = some (.vis (.int d5)) := ix 5 d5 rfl
  have i6 : pIx (ilst [d0, d1, d2, d3, d4, d5, d6, d7]) (.int 6) = some (.vis (.int d6)) := ix 6 d6 rfl
  have i7 : pIx (ilst [d0, d1, d2, d3, d4, d5, d6, d7]) (.int 7) = some (.vis (.int d7)) := ix 7 d7 rfl
  generalize hD : ilst [d0, d1, d2, d3, d4, d5, d6, d7] = DD at i0 i1 i4 i5 i6 i7
  refine q_asg (r := .vis (.int (1 + d0))) (by walk_at "pe"; rw [i0]; rfl) rfl rfl ?_
  refine q_ifI (p := d1 = 5) (x := 6 + d4 % 3) (y := 1 + d0) (by walk_at "pe"; rw [i1]; walk_at "pe") (fun _ => by walk_at "pe"; rw [i4]; walk_at "pe"; rw [pMod_int (by omega)]; rfl) rfl ?_
  obtain ⟨w, hwd⟩ := natc (show 0 ≤ (if d1 = 5 then 6 + d4 % 3 else 1 + d0) by split <;> omega)
  have hw1 : 1 ≤ w ∧ w ≤ 8 := by split at hwd <;> omega
  rw [hwd]
  obtain ⟨J, m, hJ, hJw⟩ := near_table_at (ns := ns) (at_ := 1) (w := w) (by decide) hw1.1 (by omega)
  have hwf := hJw.wf
  have hww := hJw.w_
  have hw2 := pow_lim (w := w) (by omega)
  have hw3 := Nat.two_pow_pos w
  refine q_asg (r := .vis (.lst [J.spec, .int m])) (by walk_at "pe"; rw [show (1 : Int) = ((1 : Nat) : Int) from rfl, hJ]; rfl) rfl rfl ?_
  refine q_asg (r := .vis J.obj) (by walk_at "pe"; rw [build_at hwf]; rfl) rfl rfl ?_
  refine q_asg (r := .vis (ilst J.truth)) (by walk_at "pe"; rw [ltruth_at hwf]; rfl) rfl rfl ?_
  have hl : J.truth.length = 2 ^ w := by rw [truth_len, hww]
  have hb := truth_01 hwf
  refine q_asg (r := .vis (ilst (surp w J.truth))) (by walk_at "pe"; rw [surplus_at hl hb (by omega)]; rfl) rfl rfl ?_
  have hs0 : ∀ k, ((surp w J.truth).getD k 0).natAbs ≤ 2 ^ w := fun k => iter_abs hl hb (Nat.le_refl _)
  have hsl := surp_len hl
  obtain ⟨c, hc⟩ := natc (show 0 ≤ d4 % ((2 ^ w : Nat) : Int) from Int.emod_nonneg _ (by omega))
  have hcl : c < 2 ^ w := by have := Int.emod_lt_of_pos d4 (show (0 : Int) < ((2 ^ w : Nat) : Int) by omega); omega
  refine q_asg (r := .vis (.int (c : Int))) ?_ rfl rfl ?_
  · walk_at "pe"
    rw [i4, shl_one (by omega)]
    walk_at "pe"
    rw [pMod_int (by omega), hc]
  have hag := surp_agree hl hb hcl
  have hnr : ∀ (A B : Int) (fz : Bool), (0 < A ∧ A < 100000000) → (0 < B ∧ B < 100000000) → F__law_near_right [J.obj, ilst (surp w J.truth), .int (w : Int), ilst [A, B], .bl fz] = some (.bl true) := fun A B fz h1 h2 => by
    have := near_right_at (fz := fz) hwf h1 h2
    rwa [hww] at this
  have hagr := agree_at (m := c) hl (by omega)
  have hsum : 0 ≤ (Sg (2 ^ w) fun x => if J.truth.getD x 0 = par w x c then (1 : Int) else 0) ∧ (Sg (2 ^ w) fun x => if J.truth.getD x 0 = par w x c then (1 : Int) else 0) ≤ ((2 ^ w : Nat) : Int) := by
    refine ⟨Sg_nn fun i _ => by split <;> decide, ?_⟩
    have := Sg_le (n := 2 ^ w) (g := fun x => if J.truth.getD x 0 = par w x c then (1 : Int) else 0) (h := fun _ => 1) fun i _ => by
      split <;> decide
    rw [Sg_const] at this
    simpa using this
  generalize surp w J.truth = S at hs0 hsl hag hnr ⊢
  refine q_ifD (p := False) ?_ (fun e => e.elim) fun _ => s_nil ?_
  · walk_at "pe"
    rw [dig_ix (by omega), hagr, shl_one (by omega)]
    walk_at "pe"
    rw [pMul_int (big64 (by decide) (by decide)) (big64 (by omega) (by omega))]
    walk_at "pe"
    rw [hag]
    simp
  obtain ⟨A1, B1, hm1, hA1, hB1⟩ := more_at (r0 := d2) (r1 := d3) (r2 := d4) (t := [d5, d6, d7]) hsl (by omega) hs0 (by omega) (by omega)
  obtain ⟨A2, B2, hm2, hA2, hB2⟩ := more_at (r0 := 1) (r1 := d5) (r2 := d6) (t := []) hsl (by omega) hs0 (by omega) (by omega)
  refine q_asg (r := .vis (ilst [A1, B1])) ?_ rfl rfl ?_
  · rw [eCall_at, aCons_at, aCons_at, aCons_at, slice_at (ds := [d0, d1, d2, d3, d4, d5, d6, d7].map .int) (by walk_at "pe"; exact hD.symm ▸ rfl) (oSome_int rfl) rfl]
    walk_at "pe"
    rw [show cutD [Dt.int d0, .int d1, .int d2, .int d3, .int d4, .int d5, .int d6, .int d7] (some 2) none = [d2, d3, d4, d5, d6, d7].map Dt.int from cutD_from (k := 2), show Dt.lst ([d2, d3, d4, d5, d6, d7].map Dt.int) = ilst [d2, d3, d4, d5, d6, d7] from rfl, hm1]
    rfl
  refine q_asg (r := .vis (ilst [A2, B2])) ?_ rfl rfl ?_
  · walk_at "pe"
    rw [i5, i6]
    walk_at "pe"
    rw [show Dt.lst [.int 1, .int d5, .int d6] = ilst [1, d5, d6] from rfl, hm2]
    rfl
  refine q_for (ds := [ilst [A1, B1], ilst [A2, B2], ilst [A1, B1]]) (fun _ e => ∃ z, e = [.val (ilst ns), .val DD, .val (.int (w : Int)), .val (.lst [J.spec, .int m]), .val J.obj, .val (ilst J.truth), .val (ilst S), .val (.int (c : Int)), .val (ilst [A1, B1]), .val (ilst [A2, B2]), z, .non]) (by walk_at "pe") ⟨_, rfl⟩ ?_ ?_
  · rintro i env d hd ⟨z, rfl⟩
    refine ⟨_, by walk_at "pe"; rfl, ?_⟩
    have hd2 : ∃ A B : Int, d = ilst [A, B] ∧ (0 < A ∧ A < 100000000) ∧ 0 < B ∧ B < 100000000 := by
      have := List.mem_of_getElem? hd
      simp only [List.mem_cons, List.not_mem_nil, or_false] at this
      rcases this with e | e | e
      · exact ⟨A1, B1, e, hA1, hB1⟩
      · exact ⟨A2, B2, e, hA2, hB2⟩
      · exact ⟨A1, B1, e, hA1, hB1⟩
    obtain ⟨A, B, rfl, hA, hB⟩ := hd2
    refine s_ifD (p := False) ?_ (fun e => e.elim) fun _ => s_nil ⟨_, rfl⟩
    walk_at "pe"
    rw [pEq_ilst]
    walk_at "pe"
    rw [hnr A B _ hA hB, most_right_at hA.1 (by omega) (by omega)]
    walk_at "pe"
    simp
  · rintro env ⟨z, rfl⟩
    obtain ⟨p, hp⟩ := natc (show 0 ≤ d7 % 31 by omega)
    have hp31 : p ≤ 31 := by omega
    have hpb : ((10 : Int) ^ p).natAbs ≤ 2 ^ 124 := Nat.le_trans (pow_bits (k := 4) (by decide) p) (Nat.pow_le_pow_right (by decide) (by omega))
    have hpp : (0 : Int) ≤ 10 ^ p := Int.pow_nonneg (by decide)
    refine q_asg (r := .vis (.int (10 ^ p * 2 + 1 + d6))) ?_ rfl rfl ?_
    · walk_at "pe"
      rw [i7]
      walk_at "pe"
      rw [pMod_int (by omega), hp]
      walk_at "pe"
      rw [power_at (by decide) (by decide) (by omega)]
      walk_at "pe"
      rw [pMul_int (big_lt (n := 125) (Nat.lt_of_le_of_lt hpb (by decide))) (big64 (by decide) (by decide)), i6]
      walk_at "pe"
    · refine s_ret (r := .vis (.bl true)) ?_ rfl rfl rfl
      walk_at "pe"
      rw [i5]
      walk_at "pe"
      rw [pMul_int (big64 (by decide) (by decide)) (big64 (by omega) (by omega))]
      walk_at "pe"
      rw [show Dt.lst [.int (1 + d5), .int (10 ^ p * 2 + 1 + d6 + 2 * d5)] = ilst [1 + d5, 10 ^ p * 2 + 1 + d6 + 2 * d5] from rfl, most_right_at (by omega) (by omega) ?_]
      · rfl
      · have e : (2 : Nat) ^ 124 < 2 ^ 190 := Nat.pow_lt_pow_right (by decide) (by decide)
        generalize (10 : Int) ^ p = T at hpb hpp ⊢
        have e2 : (2 : Nat) ^ 200 = 1024 * 2 ^ 190 := by rw [show (1024 : Nat) = 2 ^ 10 by decide, ← Nat.pow_add]
        rw [e2]
        generalize (2 : Nat) ^ 190 = P at e ⊢
        generalize (2 : Nat) ^ 124 = Q at e hpb
        omega
end Pyl
end
section
set_option Elab.async false
set_option linter.all false
set_option maxRecDepth 100000
set_option maxHeartbeats 2000000
namespace Pyl
open PySem L2

/-! ### what a value denotes -/
mutual
inductive Den (K : PySem.W.Frag) (cm : Nat → Addr) (G : Hp) : V → Dt → Prop
  | non : Den K cm G .non .non
  | bl (b : Bool) : Den K cm G (.bl b) (.bl b)
  | int (i : Int) : Den K cm G (.int i) (.int i)
  | str (x : Str) : Den K cm G (.str x) (.str x)
  | lst {a : Addr} {vs : List V} {ds : List Dt} : SqL K G a vs → DenL K cm G vs ds → Den K cm G (.ref a) (.lst ds)
  | tup {a : Addr} {vs : List V} {ds : List Dt} : SqT K G a vs → DenL K cm G vs ds → Den K cm G (.ref a) (.tup ds)
  | obj {a dx : Addr} {c : Nat} {fv : List (Str × V)} {fs : List (Str × Dt)} : G a = some (.ins (cm c) dx fv) → DenF K cm G fv fs → Den K cm G (.ref a) (.obj c fs)
  | exn0 {a : Addr} : Den K cm G (.ref a) (.exn a none [])
  | exn {a dd : Addr} {fv : List (Str × V)} {fs : List (Str × Dt)} : G dd = some (.xd fv) → DenF K cm G fv fs → Den K cm G (.ref a) (.exn a (some dd) fs)
inductive DenL (K : PySem.W.Frag) (cm : Nat → Addr) (G : Hp) : List V → List Dt → Prop
  | nil : DenL K cm G [] []
  | cons {v : V} {vs : List V} {d : Dt} {ds : List Dt} : Den K cm G v d → DenL K cm G vs ds → DenL K cm G (v :: vs) (d :: ds)
inductive DenF (K : PySem.W.Frag) (cm : Nat → Addr) (G : Hp) : List (Str × V) → List (Str × Dt) → Prop
  | nil : DenF K cm G [] []
  | cons {x : Str} {v : V} {vs : List (Str × V)} {d : Dt} {ds : List (Str × Dt)} : Den K cm G v d → DenF K cm G vs ds → DenF K cm G ((x, v) :: vs) ((x, d) :: ds)
end

def Exx (H H' : Hp) : Prop := ∀ a o, H a = some o → H' a = some o
theorem Exx.refl (H : Hp) : Exx H H := fun _ _ h => h
theorem Exx.trans {H H1 H2 : Hp} (a : Exx H H1) (b : Exx H1 H2) : Exx H H2 := fun x o h => b x o (a x o h)
theorem Exx.new {H : Hp} {p : Addr} {o : HO} (h : H p = none) : Exx H (upd H p o) := fun a u e => by
  rw [upd_ne (ne_of_none e h)]
  exact e
theorem Exx.rd {H H' : Hp} {a : Addr} {u : HO} (e : Exx H H') (h : Rd H a u) : Rd H' a u := by
  rcases h with h | ⟨o, h⟩
  · exact Or.inl (e a _ h)
  · exact Or.inr ⟨o, e a _ h⟩
theorem Exx.sqL {K : PySem.W.Frag} {H H' : Hp} {a : Addr} {xs : List V} (e : Exx H H') (h : SqL K H a xs) : SqL K H' a xs := by
  rcases h with h | h
  · exact Or.inl (e.rd h)
  · exact Or.inr h
theorem Exx.sqT {K : PySem.W.Frag} {H H' : Hp} {a : Addr} {xs : List V} (e : Exx H H') (h : SqT K H a xs) : SqT K H' a xs := by
  rcases h with h | h
  · exact Or.inl (e.rd h)
  · exact Or.inr h
theorem Exx.back {H H' : Hp} {p : Addr} (e : Exx H H') (h : H' p = none) : H p = none := by
  cases h1 : H p with
  | none => rfl
  | some o =>
    rw [e p o h1] at h
    cases h
section
variable {K : PySem.W.Frag} {cm : Nat → Addr} {G G' : Hp}
mutual
theorem Den.mono (e : Exx G G') : ∀ {v : V} {d : Dt}, Den K cm G v d → Den K cm G' v d
  | _, _, .non => .non
  | _, _, .bl b => .bl b
  | _, _, .int i => .int i
  | _, _, .str x => .str x
  | _, _, .lst h l => .lst (e.sqL h) (DenL.mono e l)
  | _, _, .tup h l => .tup (e.sqT h) (DenL.mono e l)
  | _, _, .obj h l => .obj (e _ _ h) (DenF.mono e l)
  | _, _, .exn0 => .exn0
  | _, _, .exn h l => .exn (e _ _ h) (DenF.mono e l)
theorem DenL.mono (e : Exx G G') : ∀ {vs : List V} {ds : List Dt}, DenL K cm G vs ds → DenL K cm G' vs ds
  | _, _, .nil => .nil
  | _, _, .cons h t => .cons (Den.mono e h) (DenL.mono e t)
theorem DenF.mono (e : Exx G G') : ∀ {vs : List (Str × V)} {ds : List (Str × Dt)}, DenF K cm G vs ds → DenF K cm G' vs ds
  | _, _, .nil => .nil
  | _, _, .cons h t => .cons (Den.mono e h) (DenF.mono e t)
end
theorem DenL.length : ∀ {vs : List V} {ds : List Dt}, DenL K cm G vs ds → vs.length = ds.length
  | _, _, .nil => rfl
  | _, _, .cons _ t => by rw [List.length_cons, List.length_cons, DenL.length t]
theorem DenL.get : ∀ {vs : List V} {ds : List Dt} {i : Nat} {d : Dt}, DenL K cm G vs ds → ds[i]? = some d → ∃ v, vs[i]? = some v ∧ Den K cm G v d
  | _, _, _, _, .nil, e => by simp at e
  | _, _, 0, _, .cons h t, e => by simp at e; subst e; exact ⟨_, rfl, h⟩
  | _, _, i + 1, d, .cons h t, e => by
    obtain ⟨v, h1, h2⟩ := DenL.get (i := i) (d := d) t (by simpa using e)
    exact ⟨v, by simpa using h1, h2⟩
theorem DenL.get' : ∀ {vs : List V} {ds : List Dt} {i : Nat} {v : V}, DenL K cm G vs ds → vs[i]? = some v → ∃ d, ds[i]? = some d ∧ Den K cm G v d
  | _, _, _, _, .nil, e => by simp at e
  | _, _, 0, _, .cons h t, e => by simp at e; subst e; exact ⟨_, rfl, h⟩
  | _, _, i + 1, d, .cons h t, e => by
    obtain ⟨v, h1, h2⟩ := DenL.get' (i := i) (v := d) t (by simpa using e)
    exact ⟨v, by simpa using h1, h2⟩
theorem DenL.append : ∀ {vs ws : List V} {ds es : List Dt}, DenL K cm G vs ds → DenL K cm G ws es → DenL K cm G (vs ++ ws) (ds ++ es)
  | _, _, _, _, .nil, s => s
  | _, _, _, _, .cons h t, s => .cons h (DenL.append t s)
theorem DenL.take : ∀ {vs : List V} {ds : List Dt} (n : Nat), DenL K cm G vs ds → DenL K cm G (vs.take n) (ds.take n)
  | _, _, 0, _ => .nil
  | _, _, n + 1, .nil => .nil
  | _, _, n + 1, .cons h t => .cons h (DenL.take n t)
theorem DenL.drop : ∀ {vs : List V} {ds : List Dt} (n : Nat), DenL K cm G vs ds → DenL K cm G (vs.drop n) (ds.drop n)
  | _, _, 0, r => r
  | _, _, n + 1, .nil => .nil
  | _, _, n + 1, .cons _ t => DenL.drop n t
theorem DenL.set {v : V} {d : Dt} (h : Den K cm G v d) : ∀ {vs : List V} {ds : List Dt} (n : Nat), DenL K cm G vs ds → DenL K cm G (vs.set n v) (ds.set n d)
  | _, _, _, .nil => .nil
  | _, _, 0, .cons _ t => .cons h t
  | _, _, n + 1, .cons q t => .cons q (DenL.set h n t)
theorem DenL.one {v : V} {d : Dt} (h : Den K cm G v d) : DenL K cm G [v] [d] := .cons h .nil
end

/-! ### growth -/
structure Grow (H G H' G' : Hp) : Prop where
  hx : Exx H H'
  gx : Exx G G'
  hid : ∀ a o, H a = some o → G a = none → G' a = none
  sub : Exx G' H'
theorem Grow.refl {H G : Hp} (s : Exx G H) : Grow H G H G := ⟨.refl _, .refl _, fun _ _ _ h => h, s⟩
theorem Grow.trans {H G H1 G1 H2 G2 : Hp} (a : Grow H G H1 G1) (b : Grow H1 G1 H2 G2) : Grow H G H2 G2 :=
  ⟨a.hx.trans b.hx, a.gx.trans b.gx, fun x o h n => b.hid x o (a.hx x o h) (a.hid x o h n), b.sub⟩
/-- a new object, seen by all -/
theorem Grow.new {H G : Hp} {p : Addr} {o : HO} (s : Exx G H) (h : H p = none) : Grow H G (upd H p o) (upd G p o) :=
  ⟨.new h, .new (s.back h), fun a u e n => by rw [upd_ne (ne_of_none e h)]; exact n, fun a u e => by
    by_cases q : a = p
    · subst q; rw [upd_same] at e ⊢; exact e
    · rw [upd_ne q] at e ⊢; exact s a u e⟩
/-- a new object, seen by none -/
theorem Grow.hide {H G : Hp} {p : Addr} {o : HO} (s : Exx G H) (h : H p = none) : Grow H G (upd H p o) G :=
  ⟨.new h, .refl _, fun _ _ _ n => n, fun a u e => by rw [upd_ne (ne_of_none (s a u e) h)]; exact s a u e⟩
/-- what was hidden and new is shown -/
theorem Grow.show {H G H' G' : Hp} {p : Addr} {o : HO} (g : Grow H G H' G') (n : H p = none) (e : H' p = some o) (z : G' p = none) : Grow H G H' (upd G' p o) :=
  ⟨g.hx, fun a u q => by rw [upd_ne (ne_of_none (g.gx a u q) z)]; exact g.gx a u q, fun a u q w => by rw [upd_ne (ne_of_none q n)]; exact g.hid a u q w, fun a u q => by
    by_cases k : a = p
    · subst k; rw [upd_same] at q; cases q; exact e
    · rw [upd_ne k] at q; exact g.sub a u q⟩

/-- a list looked at, that a name of the frame holds -/
def Bor (K : PySem.W.Frag) (cm : Nat → Addr) (H G : Hp) (v : V) (d : Dt) : Prop := ∃ l vs ds, v = .ref l ∧ d = .lst ds ∧ SqL K H l vs ∧ DenL K cm G vs ds
def VR (K : PySem.W.Frag) (cm : Nat → Addr) (H G : Hp) (v : V) (d : Dt) (b : Bool) : Prop := (b = true → Bor K cm H G v d) ∧ (b = false → Den K cm G v d)
def OwnR (K : PySem.W.Frag) (cm : Nat → Addr) (G : Hp) : HO → OD → Prop
  | .lst vs, .lst ds => DenL K cm G vs ds
  | _, _ => False
def RR (K : PySem.W.Frag) (cm : Nat → Addr) (H H' G' : Hp) (v : V) : R → Prop
  | .vis d => Den K cm G' v d
  | .bor d => Bor K cm H' G' v d
  | .fre od => ∃ l o, v = .ref l ∧ H l = none ∧ H' l = some o ∧ G' l = none ∧ OwnR K cm G' o od
section
variable {K : PySem.W.Frag} {cm : Nat → Addr} {H G H' G' : Hp} {v : V} {d : Dt} {b : Bool}
theorem OwnR.mono {o : HO} {od : OD} (e : Exx G G') (h : OwnR K cm G o od) : OwnR K cm G' o od := by
  cases o <;> cases od <;> first | exact DenL.mono e h | exact h
theorem VR.vis (h : Den K cm G v d) : VR K cm H G v d false := ⟨fun e => (nomatch e), fun _ => h⟩
theorem VR.den (h : VR K cm H G v d false) : Den K cm G v d := h.2 rfl
theorem VR.grow (g : Grow H G H' G') (h : VR K cm H G v d b) : VR K cm H' G' v d b := by
  refine ⟨fun e => ?_, fun e => (h.2 e).mono g.gx⟩
  obtain ⟨l, vs, ds, h1, h2, h3, h4⟩ := h.1 e
  exact ⟨l, vs, ds, h1, h2, g.hx.sqL h3, h4.mono g.gx⟩
theorem VR.lst {ds : List Dt} (s : Exx G H) (h : VR K cm H G v (.lst ds) b) : ∃ l vs, v = .ref l ∧ SqL K H l vs ∧ DenL K cm G vs ds := by
  cases b with
  | true =>
    obtain ⟨l, vs, ds', h1, h2, h3, h4⟩ := h.1 rfl
    cases h2
    exact ⟨l, vs, h1, h3, h4⟩
  | false =>
    have q := h.2 rfl
    cases q with
    | lst h1 h2 => exact ⟨_, _, rfl, s.sqL h1, h2⟩
theorem VR.tup {ds : List Dt} (s : Exx G H) (h : VR K cm H G v (.tup ds) b) : ∃ l vs, v = .ref l ∧ SqT K H l vs ∧ SqT K G l vs ∧ DenL K cm G vs ds := by
  cases b with
  | true =>
    obtain ⟨l, vs, ds', h1, h2, h3, h4⟩ := h.1 rfl
    cases h2
  | false =>
    have q := h.2 rfl
    cases q with
    | tup h1 h2 => exact ⟨_, _, rfl, s.sqT h1, h1, h2⟩
theorem VR.int {i : Int} (h : VR K cm H G v (.int i) b) : v = .int i := by
  cases b with
  | true =>
    obtain ⟨l, vs, ds', h1, h2, h3, h4⟩ := h.1 rfl
    cases h2
  | false => cases h.2 rfl; rfl
theorem VR.bl {i : Bool} (h : VR K cm H G v (.bl i) b) : v = .bl i := by
  cases b with
  | true =>
    obtain ⟨l, vs, ds', h1, h2, h3, h4⟩ := h.1 rfl
    cases h2
  | false => cases h.2 rfl; rfl
theorem VR.str {i : Str} (h : VR K cm H G v (.str i) b) : v = .str i := by
  cases b with
  | true =>
    obtain ⟨l, vs, ds', h1, h2, h3, h4⟩ := h.1 rfl
    cases h2
  | false => cases h.2 rfl; rfl
theorem VR.non (h : VR K cm H G v .non b) : v = .non := by
  cases b with
  | true =>
    obtain ⟨l, vs, ds', h1, h2, h3, h4⟩ := h.1 rfl
    cases h2
  | false => cases h.2 rfl; rfl
/-- a result is shown -/
theorem RR.pub {r : R} (g : Grow H G H' G') (h : RR K cm H H' G' v r) : ∃ G2, Grow H G H' G2 ∧ VR K cm H' G2 v r.dt r.sh := by
  cases r with
  | vis d => exact ⟨G', g, .vis h⟩
  | bor d => exact ⟨G', g, ⟨fun _ => h, fun e => (nomatch e)⟩⟩
  | fre od =>
    obtain ⟨l, o, rfl, h1, h2, h3, h4⟩ := h
    cases o <;> cases od <;> first | exact h4.elim | skip
    rename_i vs ds
    exact ⟨_, g.show h1 h2 h3, .vis (.lst (SqL.of upd_same) (DenL.mono (Exx.new h3) h4))⟩
end

/-! ### states -/
/-- a list of lists at l, its lists at as; none of them is seen -/
structure MatR (K : PySem.W.Frag) (cm : Nat → Addr) (H G : Hp) (l : Addr) (as : List Addr) (dss : List (List Dt)) : Prop where
  at_ : H l = some (.lst (as.map V.ref))
  hid : G l = none
  nd : (l :: as).Nodup
  len : as.length = dss.length
  row : ∀ (k : Nat) (a : Addr) (ds : List Dt), as[k]? = some a → dss[k]? = some ds → ∃ vs, H a = some (.lst vs) ∧ G a = none ∧ DenL K cm G vs ds
theorem MatR.mono {K : PySem.W.Frag} {cm : Nat → Addr} {H G H' G' : Hp} {l : Addr} {as : List Addr} {dss : List (List Dt)} (g : Grow H G H' G') (m : MatR K cm H G l as dss) : MatR K cm H' G' l as dss :=
  ⟨g.hx _ _ m.at_, g.hid _ _ m.at_ m.hid, m.nd, m.len, fun k a ds h1 h2 => by
    obtain ⟨vs, k1, k2, k3⟩ := m.row k a ds h1 h2
    exact ⟨vs, g.hx _ _ k1, g.hid _ _ k1 k2, k3.mono g.gx⟩⟩
theorem MatR.get {K : PySem.W.Frag} {cm : Nat → Addr} {H G : Hp} {l : Addr} {as : List Addr} {dss : List (List Dt)} (m : MatR K cm H G l as dss) {a : Addr} (h : a ∈ as) : ∃ (k : Nat) (ds : List Dt) (vs : List V), as[k]? = some a ∧ dss[k]? = some ds ∧ H a = some (.lst vs) ∧ G a = none ∧ DenL K cm G vs ds := by
  obtain ⟨k, hk, e⟩ := List.getElem_of_mem h
  have hk' : k < dss.length := by rw [← m.len]; exact hk
  have h1 : as[k]? = some a := by rw [List.getElem?_eq_getElem hk, e]
  obtain ⟨vs, q1, q2, q3⟩ := m.row k a _ h1 (List.getElem?_eq_getElem hk')
  exact ⟨k, _, vs, h1, List.getElem?_eq_getElem hk', q1, q2, q3⟩
theorem MatR.all {K : PySem.W.Frag} {cm : Nat → Addr} {H G : Hp} {l : Addr} {as : List Addr} {dss : List (List Dt)} (m : MatR K cm H G l as dss) {a : Addr} (h : a ∈ l :: as) : (∃ o, H a = some o) ∧ G a = none := by
  rcases List.mem_cons.mp h with rfl | h
  · exact ⟨⟨_, m.at_⟩, m.hid⟩
  · obtain ⟨k, ds, vs, _, _, q1, q2, _⟩ := m.get h
    exact ⟨⟨_, q1⟩, q2⟩
theorem refs_inj {as bs : List Addr} (h : as.map V.ref = bs.map V.ref) : as = bs := List.map_inj_right (fun _ _ e => by cases e; rfl) |>.mp h
/-- an address that the name number i holds as its own -/
def Held (H : Hp) (σ : L2.St) (env : Sl) (i : Nat) (a : Addr) : Prop := (∃ od, env[i]? = some (.own od) ∧ σ[i]? = some (some (.ref a))) ∨
  (∃ dss l as, env[i]? = some (.mat dss) ∧ σ[i]? = some (some (.ref l)) ∧ H l = some (.lst (as.map V.ref)) ∧ a ∈ l :: as)
structure Rel (K : PySem.W.Frag) (cm : Nat → Addr) (σ : L2.St) (H G : Hp) (env : Sl) : Prop where
  len : σ.length = env.length
  sub : Exx G H
  val : ∀ (i : Nat) (d : Dt), env[i]? = some (.val d) → ∃ v, σ[i]? = some (some v) ∧ Den K cm G v d
  own : ∀ (i : Nat) (od : OD), env[i]? = some (.own od) → ∃ l o, σ[i]? = some (some (.ref l)) ∧ H l = some o ∧ G l = none ∧ OwnR K cm G o od
  mat : ∀ (i : Nat) (dss : List (List Dt)), env[i]? = some (.mat dss) → ∃ l as, σ[i]? = some (some (.ref l)) ∧ MatR K cm H G l as dss
  dist : ∀ (i j : Nat) (a : Addr), Held H σ env i a → Held H σ env j a → i = j
section
variable {K : PySem.W.Frag} {cm : Nat → Addr} {σ : L2.St} {H G H' G' : Hp} {env : Sl}
theorem Rel.held (r : Rel K cm σ H G env) (e : Exx H H') {i : Nat} {a : Addr} (h : Held H' σ env i a) : Held H σ env i a := by
  rcases h with h | ⟨dss, l, as, h1, h2, h3, h4⟩
  · exact .inl h
  · obtain ⟨l', as', k1, k2⟩ := r.mat i dss h1
    rw [h2] at k1
    cases k1
    have q := e _ _ k2.at_
    rw [h3] at q
    have q2 : as = as' := refs_inj (HO.lst.inj (Option.some.inj q))
    subst q2
    exact .inr ⟨dss, l, as, h1, h2, k2.at_, h4⟩
theorem Held.at_ (r : Rel K cm σ H G env) {i : Nat} {a : Addr} (h : Held H σ env i a) : (∃ o, H a = some o) ∧ G a = none := by
  rcases h with ⟨od, h1, h2⟩ | ⟨dss, l, as, h1, h2, h3, h4⟩
  · obtain ⟨l, o, k1, k2, k3, _⟩ := r.own i od h1
    rw [h2] at k1
    cases k1
    exact ⟨⟨_, k2⟩, k3⟩
  · obtain ⟨l', as', k1, k2⟩ := r.mat i dss h1
    rw [h2] at k1
    cases k1
    have q := k2.at_
    rw [h3] at q
    have q2 : as = as' := refs_inj (HO.lst.inj (Option.some.inj q))
    subst q2
    exact k2.all h4
theorem Held.mat (r : Rel K cm σ H G env) {i : Nat} {dss : List (List Dt)} {l a : Addr} {as : List Addr} (h1 : env[i]? = some (.mat dss)) (h2 : σ[i]? = some (some (.ref l))) (m : MatR K cm H G l as dss) (h : a ∈ l :: as) : Held H σ env i a := .inr ⟨dss, l, as, h1, h2, m.at_, h⟩
theorem Rel.grow (r : Rel K cm σ H G env) (g : Grow H G H' G') : Rel K cm σ H' G' env :=
  ⟨r.len, g.sub, fun i d h => by
    obtain ⟨v, h1, h2⟩ := r.val i d h
    exact ⟨v, h1, h2.mono g.gx⟩, fun i od h => by
    obtain ⟨l, o, h1, h2, h3, h4⟩ := r.own i od h
    exact ⟨l, o, h1, g.hx l o h2, g.hid l o h2 h3, h4.mono g.gx⟩, fun i dss h => by
    obtain ⟨l, as, h1, h2⟩ := r.mat i dss h
    exact ⟨l, as, h1, h2.mono g⟩, fun i j a h1 h2 => r.dist i j a (r.held g.hx h1) (r.held g.hx h2)⟩
/-- an address that a name holds as its own -/
def Own (H : Hp) (σ : L2.St) (env : Sl) (a : Addr) : Prop := ∃ i : Nat, Held H σ env i a
end

/-- what code leaves as it was, of the heaps -/
structure FrH (σ : L2.St) (env : Sl) (H G H' G' : Hp) : Prop where
  gx : Exx G G'
  hid : ∀ a o, H a = some o → G a = none → ¬ Own H σ env a → G' a = none
  keep : ∀ a o, H a = some o → ¬ Own H σ env a → H' a = some o
  there : ∀ a o, H a = some o → ∃ o', H' a = some o'
  sub : Exx G' H'
structure Fr (σ : L2.St) (env : Sl) (H G : Hp) (σ' : L2.St) (env' : Sl) (H' G' : Hp) : Prop extends FrH σ env H G H' G' where
  fresh : ∀ a o, H a = some o → ¬ Own H σ env a → ¬ Own H' σ' env' a
  take : ∀ i : Nat, env'[i]? = some .take → env[i]? = some .take ∧ σ'[i]? = σ[i]?
section
variable {K : PySem.W.Frag} {cm : Nat → Addr} {σ σ1 σ2 : L2.St} {H G H1 G1 H2 G2 : Hp} {env env1 env2 : Sl}
theorem Grow.frH (g : Grow H G H1 G1) : FrH σ env H G H1 G1 := ⟨g.gx, fun a o h n _ => g.hid a o h n, fun a o h _ => g.hx a o h, fun a o h => ⟨o, g.hx a o h⟩, g.sub⟩
theorem Rel.fr (r : Rel K cm σ H G env) (g : Grow H G H1 G1) : Fr σ env H G σ env H1 G1 := { g.frH with fresh := fun _ _ _ h ⟨i, q⟩ => h ⟨i, r.held g.hx q⟩, take := fun _ h => ⟨h, rfl⟩ }
theorem Fr.trH (a : Fr σ env H G σ1 env1 H1 G1) (b : FrH σ1 env1 H1 G1 H2 G2) : FrH σ env H G H2 G2 where
  gx := a.gx.trans b.gx
  hid := fun x o h n w => b.hid x o (a.keep x o h w) (a.hid x o h n w) (a.fresh x o h w)
  keep := fun x o h w => b.keep x o (a.keep x o h w) (a.fresh x o h w)
  there := fun x o h => by
    obtain ⟨o1, h1⟩ := a.there x o h
    exact b.there x o1 h1
  sub := b.sub
theorem Fr.trans (a : Fr σ env H G σ1 env1 H1 G1) (b : Fr σ1 env1 H1 G1 σ2 env2 H2 G2) : Fr σ env H G σ2 env2 H2 G2 :=
  { a.trH b.toFrH with
    fresh := fun x o h w => b.fresh x o (a.keep x o h w) (a.fresh x o h w)
    take := fun i h => by
      obtain ⟨h1, e1⟩ := b.take i h
      obtain ⟨h2, e2⟩ := a.take i h1
      exact ⟨h2, e1.trans e2⟩ }
theorem Fr.refl (s : Exx G H) : Fr σ env H G σ env H G := { (Grow.refl s).frH with fresh := fun _ _ _ h => h, take := fun _ h => ⟨h, rfl⟩ }
end

/-! ### the weakest readings -/
section
variable (X : Cx)
def wpE (e : Expr) : TE := fun σ H Q => ∀ pins s, Inv X pins σ H s → wpAny (model X.prog X.w) X.A (eval e X.env) (EP X pins σ Q) X.xe s
def wpT (e : Expr) : TT := fun σ H Q => ∀ pins s, Inv X pins σ H s → wpAny (model X.prog X.w) X.A (isTrue e X.env (eval e X.env)) (TP X pins σ Q) X.xe s
def wpA (es : List Expr) : TA := fun σ H Q => ∀ (pos : Pos) pins s, Inv X pins σ H s → wpAny (model X.prog X.w) X.A (spliced (backTo pos (starEach es X.env))) (AP X pins σ Q) X.xe s
def wpS (st : Stmt) : TS := fun D σ H => ∀ pins s, Inv X pins σ H s → wpAny (model X.prog X.w) X.A (exec st X.env) (SP X pins D) X.xe s
def wpSs (st : List Stmt) : TS := fun D σ H => ∀ pins s, Inv X pins σ H s → wpAny (model X.prog X.w) X.A (execs st X.env) (SP X pins D) X.xe s
def wpI (tg iter : Expr) : TI := fun σ H R => ∀ pins s, Inv X pins σ H s → wpAny (model X.prog X.w) X.A (eval iter X.env) (fun v s1 => wpAny (model X.prog X.w) X.A (pyIter v) (PIE X pins σ tg R) X.xe s1) X.xe s
def wpG (tg : Expr) : TG := fun v σ H Q => ∀ pins s u, Inv X pins σ H s → RelV v u → wpAny (model X.prog X.w) X.A (assign tg X.env u) (fun _ s' => ∃ σ' H', Inv X pins σ' H' s' ∧ Q σ' H') X.xe s
end
section
variable {X : Cx}
theorem pe_w {e : Expr} : PE X e (wpE X e) := ⟨fun pins s σ H Q I h => h pins s I⟩
theorem pt_w {e : Expr} : PT X e (wpT X e) := ⟨fun pins s σ H Q I h => h pins s I⟩
theorem pa_w {es : List Expr} : PA X es (wpA X es) := ⟨fun pos pins s σ H Q I h => h pos pins s I⟩
theorem ps_w {st : Stmt} : PS X st (wpS X st) := ⟨fun pins s σ H Q I h => h pins s I⟩
theorem pss_w {st : List Stmt} : PSs X st (wpSs X st) := ⟨fun pins s σ H Q I h => h pins s I⟩
theorem pi_w {tg iter : Expr} : PI X tg iter (wpI X tg iter) := ⟨fun pins s σ H R I h => h pins s I⟩
theorem pg_w {tg : Expr} : PG X tg (wpG X tg) := ⟨fun pins s σ H v u Q I r h => h pins s u I r⟩
theorem to_e {e : Expr} {t : TE} {σ : L2.St} {H : Hp} {Q : VK} (h : PE X e t) (q : t σ H Q) : wpE X e σ H Q := fun pins s I => h.run pins s σ H Q I q
theorem to_t {e : Expr} {t : TT} {σ : L2.St} {H : Hp} {Q : Bool → Hp → Prop} (h : PT X e t) (q : t σ H Q) : wpT X e σ H Q := fun pins s I => h.run pins s σ H Q I q
theorem to_a {e : List Expr} {t : TA} {σ : L2.St} {H : Hp} {Q : List V → Hp → Prop} (h : PA X e t) (q : t σ H Q) : wpA X e σ H Q := fun pos pins s I => h.run pos pins s σ H Q I q
theorem to_s {st : Stmt} {t : TS} {σ : L2.St} {H : Hp} {D : Ends} (h : PS X st t) (q : t D σ H) : wpS X st D σ H := fun pins s I => h.run pins s σ H D I q
theorem to_ss {st : List Stmt} {t : TS} {σ : L2.St} {H : Hp} {D : Ends} (h : PSs X st t) (q : t D σ H) : wpSs X st D σ H := fun pins s I => h.run pins s σ H D I q
theorem to_i {tg iter : Expr} {t : TI} {σ : L2.St} {H : Hp} {Q : It → Hp → Prop} (h : PI X tg iter t) (q : t σ H Q) : wpI X tg iter σ H Q := fun pins s I => h.run pins s σ H Q I q
end
end Pyl
end
section
set_option Elab.async false
set_option linter.all false
set_option maxRecDepth 100000
set_option maxHeartbeats 2000000
namespace Pyl
open PySem L2

/-- the code of e gives f, of the frame's data -/
structure JE (X : Cx) (cm : Nat → Addr) (e : Expr) (f : EF) : Prop where
  run : ∀ (env : Sl) (r : R) (σ : L2.St) (H G : Hp), f env = some r → Rel X.K cm σ H G env → ∀ Q : VK, (∀ v H' G', Grow H G H' G' → RR X.K cm H H' G' v r → Q v H') → wpE X e σ H Q
structure JT (X : Cx) (cm : Nat → Addr) (e : Expr) (f : TF) : Prop where
  run : ∀ (env : Sl) (b : Bool) (σ : L2.St) (H G : Hp), f env = some b → Rel X.K cm σ H G env → ∀ Q : Bool → Hp → Prop, (∀ H' G', Grow H G H' G' → Q b H') → wpT X e σ H Q
inductive VRs (K : PySem.W.Frag) (cm : Nat → Addr) (H G : Hp) : List V → List (Dt × Bool) → Prop
  | nil : VRs K cm H G [] []
  | cons {v : V} {vs : List V} {d : Dt} {b : Bool} {ds : List (Dt × Bool)} : VR K cm H G v d b → VRs K cm H G vs ds → VRs K cm H G (v :: vs) ((d, b) :: ds)
structure JA (X : Cx) (cm : Nat → Addr) (es : List Expr) (f : AF) : Prop where
  run : ∀ (env : Sl) (r : List (Dt × Bool)) (σ : L2.St) (H G : Hp), f env = some r → Rel X.K cm σ H G env → ∀ Q : List V → Hp → Prop, (∀ vs H' G', Grow H G H' G' → VRs X.K cm H' G' vs r → Q vs H') → wpA X es σ H Q
  len : ∀ (env : Sl) (r : List (Dt × Bool)), f env = some r → r.length = es.length
section
variable {X : Cx} {cm : Nat → Addr} {e a b c : Expr} {f fa fb : EF} {σ : L2.St} {H G : Hp} {env : Sl} {pos : Pos}

theorem JE.pub (h : JE X cm e f) {r : R} (hf : f env = some r) (rel : Rel X.K cm σ H G env) {Q : VK} (q : ∀ v H' G', Grow H G H' G' → VR X.K cm H' G' v r.dt r.sh → Q v H') : wpE X e σ H Q := by
  refine h.run env r σ H G hf rel Q fun v H' G' g rr => ?_
  obtain ⟨G2, g2, vr⟩ := RR.pub g rr
  exact q v H' G2 g2 vr

/-! names, constants -/
theorem je_var {x : Str} (i : Nat) (hN : X.N[i]? = some x := by rfl) (hv : Vis X.env.scope x := by first | exact Or.inl rfl | exact Or.inr (Or.inl rfl) | exact Or.inr (Or.inr rfl)) (hd : (x == ("__debug__" : Str)) = false := by decide)
    (hcd : (x == ("__classdict__" : Str)) = false := by decide) : JE X cm (.Name x pos) (eVar i) := by
  refine ⟨fun env r σ H G hf rel Q q => ?_⟩
  unfold eVar at hf
  split at hf
  · rename_i d hd'
    cases hf
    obtain ⟨v, h1, h2⟩ := rel.val i d hd'
    exact to_e (pe_var hN hv hd hcd) ⟨v, h1, q v H G (.refl rel.sub) h2⟩
  · rename_i ds hd'
    cases hf
    obtain ⟨l, o, h1, h2, h3, h4⟩ := rel.own i _ hd'
    cases o with
    | lst vs => exact to_e (pe_var hN hv hd hcd) ⟨_, h1, q _ H G (.refl rel.sub) ⟨l, vs, ds, rfl, rfl, SqL.of h2, h4⟩⟩
    | _ => exact h4.elim
  · cases hf
theorem je_int {i j} : JE X cm (.Constant (.int i) j pos) (eC (.int i)) := ⟨fun env r σ H G hf rel Q q => by
  cases hf
  exact to_e pe_int (q _ H G (.refl rel.sub) (Den.int i))⟩
theorem je_bl {i j} : JE X cm (.Constant (.bool i) j pos) (eC (.bl i)) := ⟨fun env r σ H G hf rel Q q => by
  cases hf
  exact to_e pe_bl (q _ H G (.refl rel.sub) (Den.bl i))⟩
theorem je_non {j} : JE X cm (.Constant .none j pos) (eC .non) := ⟨fun env r σ H G hf rel Q q => by
  cases hf
  exact to_e pe_non (q _ H G (.refl rel.sub) Den.non)⟩
theorem je_str {i j} : JE X cm (.Constant (.str i) j pos) (eC (.str i)) := ⟨fun env r σ H G hf rel Q q => by
  cases hf
  exact to_e pe_str (q _ H G (.refl rel.sub) (Den.str i))⟩

/-! argument lists -/
theorem ja_nil : JA X cm [] aNil := ⟨fun env r σ H G hf rel Q q => by
  cases hf
  exact to_a pa_nil (q _ H G (.refl rel.sub) .nil), fun env r h => by cases h; rfl⟩
theorem VRs.grow {K : PySem.W.Frag} {H G H' G' : Hp} (g : Grow H G H' G') : ∀ {vs : List V} {ds : List (Dt × Bool)}, VRs K cm H G vs ds → VRs K cm H' G' vs ds
  | _, _, .nil => .nil
  | _, _, .cons h t => .cons (h.grow g) (VRs.grow g t)
theorem ja_cons {es : List Expr} {fr : AF} (ha : JE X cm e fa) (hr : JA X cm es fr) (hs : starEach (e :: es) X.env = (false, eval e X.env) :: starEach es X.env := by rfl) : JA X cm (e :: es) (aCons fa fr) := by
  refine ⟨fun env r σ H G hf rel Q q => ?_, fun env r hf => by
    obtain ⟨ra, h1, hf⟩ := Option.bind_eq_some_iff.mp hf
    obtain ⟨rs, h2, hf⟩ := Option.bind_eq_some_iff.mp hf
    cases hf
    rw [List.length_cons, List.length_cons, hr.len env rs h2]⟩
  obtain ⟨ra, h1, hf⟩ := Option.bind_eq_some_iff.mp hf
  obtain ⟨rs, h2, hf⟩ := Option.bind_eq_some_iff.mp hf
  cases hf
  refine to_a (pa_cons pe_w pa_w hs) ?_
  refine ha.pub h1 rel fun v H1 G1 g1 vr => ?_
  refine hr.run env rs σ H1 G1 h2 (rel.grow g1) _ fun vs H2 G2 g2 vrs => ?_
  exact q _ H2 G2 (g1.trans g2) (.cons (vr.grow g2) vrs)
theorem VRs.plain {K : PySem.W.Frag} {H G : Hp} : ∀ {vs : List V} {rs : List (Dt × Bool)}, VRs K cm H G vs rs → rs.any (·.2) = false → DenL K cm G vs (rs.map (·.1))
  | _, _, .nil, _ => .nil
  | _, _, .cons (b := b) h t, e => by
    rw [List.any_cons, Bool.or_eq_false_iff] at e
    have e1 : b = false := e.1
    subst e1
    exact .cons h.den (VRs.plain t e.2)
theorem plain_some {rs : List (Dt × Bool)} {ds : List Dt} (h : plain rs = some ds) : rs.any (·.2) = false ∧ ds = rs.map (·.1) := by
  unfold Pyl.plain at h
  split at h
  · cases h
  · rename_i hn
    cases h
    exact ⟨by simpa using hn, rfl⟩
theorem VRs.length {K : PySem.W.Frag} {H G : Hp} : ∀ {vs : List V} {rs : List (Dt × Bool)}, VRs K cm H G vs rs → vs.length = rs.length
  | _, _, .nil => rfl
  | _, _, .cons h t => by rw [List.length_cons, List.length_cons, VRs.length t]
theorem je_tup {es : List Expr} {ft : AF} {k : Nat} (h : JA X cm es ft) (hz : es.length ≤ 100000 := by decide) : JE X cm (.Tuple es k pos) (eTup ft) := by
  refine ⟨fun env r σ H G hf rel Q q => ?_⟩
  obtain ⟨rs, h1, hf⟩ := Option.bind_eq_some_iff.mp hf
  obtain ⟨ds, h2, hf⟩ := Option.bind_eq_some_iff.mp hf
  cases hf
  obtain ⟨h3, rfl⟩ := plain_some h2
  refine to_e (pe_tup pa_w) ?_
  refine h.run env rs σ H G h1 rel _ fun vs H1 G1 g1 vrs => ⟨?_, fun p hp => ?_⟩
  · rw [vrs.length, h.len env rs h1]
    exact Nat.le_trans hz (by decide)
  · have n := g1.sub.back hp
    exact q _ _ _ (g1.trans (.new g1.sub hp)) (.tup (SqT.of upd_same) ((vrs.plain h3).mono (.new n)))
theorem je_lst {es : List Expr} {ft : AF} (h : JA X cm es ft) (hz : es.length ≤ 100000 := by decide) : JE X cm (.List es pos) (eLst ft) := by
  refine ⟨fun env r σ H G hf rel Q q => ?_⟩
  obtain ⟨rs, h1, hf⟩ := Option.bind_eq_some_iff.mp hf
  obtain ⟨ds, h2, hf⟩ := Option.bind_eq_some_iff.mp hf
  cases hf
  obtain ⟨h3, rfl⟩ := plain_some h2
  refine to_e (pe_lst pa_w) ?_
  refine h.run env rs σ H G h1 rel _ fun vs H1 G1 g1 vrs => ⟨?_, fun p hp => ?_⟩
  · rw [vrs.length, h.len env rs h1]
    exact Nat.le_trans hz (by decide)
  · have n := g1.sub.back hp
    exact q _ _ _ (g1.trans (.hide g1.sub hp)) ⟨p, _, rfl, g1.hx.back hp, upd_same, n, vrs.plain h3⟩

/-! operations -/
def P2 (X : Cx) (cm : Nat → Addr) (f : Value → Value → Sem Value) (p : Dt → Dt → Option R) : Prop :=
  ∀ (d1 d2 : Dt) (b1 b2 : Bool) (out : R) (v1 v2 : V) (H G : Hp), VR X.K cm H G v1 d1 b1 → VR X.K cm H G v2 d2 b2 → Exx G H → p d1 d2 = some out →
    ∃ r : R2, OpR X f r ∧ ∀ Q : VK, (∀ v H' G', Grow H G H' G' → RR X.K cm H H' G' v out → Q v H') → r v1 v2 H Q
theorem RR.hx {K : PySem.W.Frag} {H H0 H1 G1 : Hp} {v : V} {r : R} (e : Exx H0 H) (h : RR K cm H H1 G1 v r) : RR K cm H0 H1 G1 v r := by
  cases r with
  | vis d => exact h
  | bor d => exact h
  | fre od =>
    obtain ⟨l, o, h1, h2, h3⟩ := h
    exact ⟨l, o, h1, e.back h2, h3⟩
theorem run2 {fop : Value → Value → Sem Value} {p : Dt → Dt → Option R} (ok : P2 X cm fop p) (ha : JE X cm a fa) (hb : JE X cm b fb) {r : R} (hf : e2 p fa fb env = some r) (rel : Rel X.K cm σ H G env) {Q : VK}
    (q : ∀ v H' G', Grow H G H' G' → RR X.K cm H H' G' v r → Q v H') {pins : List (Addr × Obj)} {s : Shared} (I : Inv X pins σ H s) :
    wpAny (model X.prog X.w) X.A (eval a X.env) (fun v s₁ => wpAny (model X.prog X.w) X.A (eval b X.env) (fun u s₂ => wpAny (model X.prog X.w) X.A (fop v u) (EP X pins σ Q) X.xe s₂) X.xe s₁) X.xe s := by
  obtain ⟨ra, h1, hf⟩ := Option.bind_eq_some_iff.mp hf
  obtain ⟨rb, h2, hf⟩ := Option.bind_eq_some_iff.mp hf
  refine bin (ta := wpE X a) (tb := wpE X b) pe_w pe_w I (R := fun x y H2 => ∃ rr : R2, OpR X fop rr ∧ rr x y H2 Q) ?_ fun v u s2 x y H2 I2 rx ry hq => ?_
  · refine ha.pub h1 rel fun v H1 G1 g1 vr => ?_
    refine hb.pub h2 (rel.grow g1) fun w H2 G2 g2 wr => ?_
    obtain ⟨rr, ho, hr⟩ := ok _ _ _ _ _ _ _ H2 G2 (vr.grow g2) wr g2.sub hf
    exact ⟨rr, ho, hr Q fun v' H3 G3 g3 rr3 => q v' H3 G3 ((g1.trans g2).trans g3) (rr3.hx (g1.trans g2).hx)⟩
  · obtain ⟨rr, ho, hr⟩ := hq
    exact ho pins s2 σ H2 x y v u Q I2 rx ry hr
theorem je_bin {op : Operator} {p : Dt → Dt → Option R} (ok : P2 X cm (binaryOp op) p) (ha : JE X cm a fa) (hb : JE X cm b fb) : JE X cm (.BinOp a op b pos) (e2 p fa fb) :=
  ⟨fun env r σ H G hf rel Q q pins s I => wpAny_BinOp (run2 ok ha hb hf rel q I)⟩
theorem je_cmp {op : CmpOp} {p : Dt → Dt → Option R} (ok : P2 X cm (compareOp op) p) (ha : JE X cm a fa) (hb : JE X cm b fb) (hm : behindInMarks op b = false := by first | exact nobehind _ (by decide) (by decide) | rfl) : JE X cm (.Compare a [op] [b] pos) (e2 p fa fb) :=
  ⟨fun env r σ H G hf rel Q q pins s I => wpAny_Compare1 (run2 ok ha hb hf rel q I) hm⟩

theorem p2_int {f : Value → Value → Sem Value} {C : Int → Int → Prop} {g : Int → Int → V} {c : Int → Int → Option Int} (ho : OpR X f (rI C g)) (hc : ∀ i j k, c i j = some k → C i j ∧ g i j = .int k) : P2 X cm f (pIntI c) := by
  intro d1 d2 b1 b2 out v1 v2 H G r1 r2 sub hp
  unfold pIntI at hp
  split at hp
  · rename_i i j
    obtain ⟨k, hk, hp⟩ := Option.map_eq_some_iff.mp hp
    subst hp
    have e1 := r1.int
    have e2 := r2.int
    subst e1 e2
    obtain ⟨h1, h2⟩ := hc i j k hk
    exact ⟨_, ho, fun Q q => ⟨i, j, rfl, rfl, h1, by rw [h2]; exact q _ H G (.refl sub) (Den.int k)⟩⟩
  · cases hp
theorem p2_int0 {f : Value → Value → Sem Value} {g : Int → Int → V} {c : Int → Int → Option Int} (ho : OpR X f (rI0 g)) (hc : ∀ i j k, c i j = some k → g i j = .int k) : P2 X cm f (pIntI c) := by
  intro d1 d2 b1 b2 out v1 v2 H G r1 r2 sub hp
  unfold pIntI at hp
  split at hp
  · rename_i i j
    obtain ⟨k, hk, hp⟩ := Option.map_eq_some_iff.mp hp
    subst hp
    have e1 := r1.int
    have e2 := r2.int
    subst e1 e2
    have h2 := hc i j k hk
    exact ⟨_, ho, fun Q q => ⟨i, j, rfl, rfl, by rw [h2]; exact q _ H G (.refl sub) (Den.int k)⟩⟩
  · cases hp
theorem p2_sub : P2 X cm (binaryOp .Sub) pSub := p2_int0 op_sub fun i j k h => by cases h; rfl
theorem p2_mod : P2 X cm (binaryOp .Mod) pMod := p2_int op_mod fun i j k h => by
  split at h
  · rename_i hj
    cases h
    exact ⟨hj, rfl⟩
  · cases h
theorem log2_of {i : Int} {n : Nat} (h : i.natAbs < 2 ^ n) (h0 : 0 < n) : i.natAbs.log2 < n := PySem.Flt.log2_lt_of h0 h
theorem p2_div : P2 X cm (binaryOp .FloorDiv) pDiv := p2_int op_fdivW fun i j k h => by
  split at h
  · rename_i hj
    cases h
    exact ⟨⟨hj.1, Nat.lt_of_lt_of_le (log2_of (n := 8999) (by rw [← DIVB_eq]; exact hj.2) (by decide)) (by decide)⟩, rfl⟩
  · cases h
theorem p2_pow : P2 X cm (binaryOp .Pow) pPow := p2_int op_pow fun i j k h => by
  split at h
  · rename_i hj
    cases h
    exact ⟨hj, rfl⟩
  · cases h
theorem p2_shr : P2 X cm (binaryOp .RShift) pShr := p2_int op_shr fun i j k h => by
  split at h
  · rename_i hj
    cases h
    exact ⟨hj, rfl⟩
  · cases h
theorem p2_shl : P2 X cm (binaryOp .LShift) pShl := p2_int op_shlW fun i j k h => by
  split at h
  · rename_i hj
    cases h
    refine ⟨⟨hj.1, ?_⟩, rfl⟩
    have h2 := log2_of (n := 400000) (by rw [← BIG_eq]; exact hj.2.2) (by decide)
    have h3 : Builtin.Int.intBits i ≤ i.natAbs.log2 + 1 := by
      unfold Builtin.Int.intBits
      split <;> omega
    have h4 := hj.2.1
    have e : ((2 : Int) ^ 27) = 134217728 := by decide
    rw [e]
    omega
  · cases h
theorem p2_mul : P2 X cm (binaryOp .Mult) pMul := by
  intro d1 d2 b1 b2 out v1 v2 H G r1 r2 sub hp
  unfold pMul at hp
  split at hp
  · rename_i i j
    split at hp
    · rename_i hb
      cases hp
      have e1 := r1.int
      have e2 := r2.int
      subst e1 e2
      exact ⟨_, op_mulW, fun Q q => ⟨i, j, rfl, rfl, wide_mul (a := 400000) (b := 400000) (by rw [← BIG_eq]; exact hb.1) (by rw [← BIG_eq]; exact hb.2) (by decide) (by decide) (by decide), q _ H G (.refl sub) (Den.int _)⟩⟩
    · cases hp
  · cases hp
theorem lim_ok {n : Nat} (h : n ≤ LIM) : n ≤ sizeLine := Nat.le_trans h (by decide)
/-- list + list, any two lists that are read -/
def rCatS (K : PySem.W.Frag) : R2 := fun x y H Q => ∃ l b xs zs, x = .ref l ∧ y = .ref b ∧ SqL K H l xs ∧ SqL K H b zs ∧ xs.length + zs.length ≤ sizeLine ∧ ∀ p, H p = none → Q (.ref p) (upd H p (.lst (xs ++ zs)))
end
end Pyl
end
section
set_option Elab.async false
set_option linter.all false
set_option maxRecDepth 100000
set_option maxHeartbeats 2000000
namespace Pyl
open PySem L2
section
variable {X : Cx} {cm : Nat → Addr} {e a b c : Expr} {f fa fb fc : EF} {σ : L2.St} {H G : Hp} {env : Sl} {pos : Pos}

theorem op_catS : OpR X (binaryOp .Add) (rCatS X.K) := by
  intro pins s σ H x y v u Q I rx ry h
  obtain ⟨l, b, xs, zs, rfl, rfl, hH, hB, hz, q⟩ := h
  cases rx
  cases ry
  obtain ⟨its, r, ⟨⟨cls, dd, data, sl⟩, n, ho, hc, hd, hdat⟩, z⟩ := I.list hH
  obtain ⟨its2, r2, ⟨⟨cls2, dd2, data2, sl2⟩, n2, ho2, hc2, hd2, hdat2⟩, z2⟩ := I.list hB
  simp only at hc hd hdat hc2 hd2 hdat2
  subst hc hdat hc2 hdat2
  have l1 := r.length
  have l2 := r2.length
  refine PySem.concat_meets ⟨_, ho, rfl⟩ ⟨_, ho2, rfl⟩ PySem.noFill_list_add PySem.seq_list_add PySem.F.slot_list_add PySem.F.entry_list_add (PySem.F.args_list_add_2 _ _) (PyProof.Rows.list_addW l b its.toArray its2.toArray n n2 dd dd2 sl sl2 (by rw [List.size_toArray, List.size_toArray]; omega)) ⟨ho, ho2, ?_⟩
  have ea : its.toArray ++ its2.toArray = (its ++ its2).toArray := by simp
  rw [ea]
  exact ⟨.ref _, _, I.lnew (t' := s.toks) (r.append r2) (by rw [List.length_append]; omega), rfl, q _ I.fresh⟩
theorem p2_add : P2 X cm (binaryOp .Add) pAdd := by
  intro d1 d2 b1 b2 out v1 v2 H G r1 r2 sub hp
  unfold pAdd at hp
  split at hp
  · cases hp
    have e1 := r1.int
    have e2 := r2.int
    subst e1 e2
    exact ⟨_, op_add, fun Q q => ⟨_, _, rfl, rfl, q _ H G (.refl sub) (Den.int _)⟩⟩
  · rename_i as bs
    split at hp
    · rename_i hl
      cases hp
      obtain ⟨l1, vs1, rfl, s1, n1⟩ := r1.lst sub
      obtain ⟨l2, vs2, rfl, s2, n2⟩ := r2.lst sub
      refine ⟨_, op_catS, fun Q q => ⟨l1, l2, vs1, vs2, rfl, rfl, s1, s2, ?_, fun p hp => ?_⟩⟩
      · rw [n1.length, n2.length]
        exact lim_ok hl
      · exact q _ _ _ (.hide sub hp) ⟨p, _, rfl, hp, upd_same, sub.back hp, n1.append n2⟩
    · cases hp
  · rename_i as bs
    split at hp
    · rename_i hl
      cases hp
      obtain ⟨l1, vs1, rfl, s1, g1, n1⟩ := r1.tup sub
      obtain ⟨l2, vs2, rfl, s2, g2, n2⟩ := r2.tup sub
      refine ⟨_, op_catA, fun Q q => ⟨l1, l2, vs1, vs2, rfl, rfl, s1, s2, ?_, fun h0 => ?_, fun h0 h1 => ?_, fun h0 h1 p hp => ?_⟩⟩
      · rw [n1.length, n2.length]
        exact lim_ok hl
      · subst h0
        cases n1
        exact q _ _ _ (.refl sub) (Den.tup g2 n2)
      · subst h1
        cases n2
        exact q _ _ _ (.refl sub) (by rw [List.append_nil]; exact Den.tup g1 n1)
      · have n := sub.back hp
        exact q _ _ _ (.new sub hp) (Den.tup (SqT.of upd_same) ((n1.append n2).mono (.new n)))
    · cases hp
  · rename_i x y
    split at hp
    · rename_i hl
      cases hp
      have e1 := r1.str
      have e2 := r2.str
      subst e1 e2
      exact ⟨_, op_add_str, fun Q q => ⟨_, _, rfl, rfl, lim_ok hl, q _ H G (.refl sub) (Den.str _)⟩⟩
    · cases hp
  · cases hp

/-! comparisons -/
theorem p2_cmp {f : Value → Value → Sem Value} {g : Int → Int → Bool} (ho : OpR X f (rI0 fun i j => .bl (g i j))) : P2 X cm f (pCmp g) := by
  intro d1 d2 b1 b2 out v1 v2 H G r1 r2 sub hp
  unfold pCmp at hp
  split at hp
  · cases hp
    have e1 := r1.int
    have e2 := r2.int
    subst e1 e2
    exact ⟨_, ho, fun Q q => ⟨_, _, rfl, rfl, q _ H G (.refl sub) (Den.bl _)⟩⟩
  · cases hp
theorem p2_lt : P2 X cm (compareOp .Lt) pLt := p2_cmp op_lt
theorem p2_le : P2 X cm (compareOp .LtE) pLe := p2_cmp op_le
theorem p2_gt : P2 X cm (compareOp .Gt) pGt := p2_cmp op_gt
theorem p2_ge : P2 X cm (compareOp .GtE) pGe := p2_cmp op_ge
section
variable {K : PySem.W.Frag}
mutual
theorem Den.dp (s : Exx G H) : ∀ {d : Dt} {v : V} {p : PyData}, Den K cm G v d → d.py = some p → Dp K H v p
  | .non, _, _, h, e => by
    cases h
    unfold Dt.py at e
    cases e
    exact .non
  | .bl b, _, _, h, e => by
    cases h
    unfold Dt.py at e
    cases e
    exact .bl b
  | .int i, _, _, h, e => by
    cases h
    unfold Dt.py at e
    cases e
    exact .int i
  | .str x, _, _, h, e => by
    cases h
    unfold Dt.py at e
    cases e
    exact .str x
  | .lst ds, _, _, h, e => by
    cases h with
    | lst h1 h2 =>
      unfold Dt.py at e
      obtain ⟨ps, e1, e2⟩ := Option.map_eq_some_iff.mp e
      subst e2
      exact .lst (s.sqL h1) (DenL.dp s h2 e1)
  | .tup ds, _, _, h, e => by
    cases h with
    | tup h1 h2 =>
      unfold Dt.py at e
      obtain ⟨ps, e1, e2⟩ := Option.map_eq_some_iff.mp e
      subst e2
      exact .tup (s.sqT h1) (DenL.dp s h2 e1)
  | .obj _ _, _, _, h, e => by
    unfold Dt.py at e
    cases e
theorem DenL.dp (s : Exx G H) : ∀ {ds : List Dt} {vs : List V} {ps : List PyData}, DenL K cm G vs ds → Dt.pyL ds = some ps → DpAll K H vs ps
  | [], _, _, h, e => by
    cases h
    unfold Dt.pyL at e
    cases e
    exact .nil
  | d :: ds, _, _, h, e => by
    cases h with
    | cons h1 h2 =>
      unfold Dt.pyL at e
      obtain ⟨p, e1, e⟩ := Option.bind_eq_some_iff.mp e
      obtain ⟨ps, e2, e⟩ := Option.bind_eq_some_iff.mp e
      cases e
      exact .cons (Den.dp s h1 e1) (DenL.dp s h2 e2)
end
theorem VR.dp {d : Dt} {v : V} {b : Bool} {p : PyData} (s : Exx G H) (h : VR K cm H G v d b) (e : d.py = some p) : Dp K H v p := by
  cases b with
  | false => exact h.den.dp s e
  | true =>
    obtain ⟨l, vs, ds, h1, h2, h3, h4⟩ := h.1 rfl
    subst h1 h2
    unfold Dt.py at e
    obtain ⟨ps, e1, e2⟩ := Option.map_eq_some_iff.mp e
    subst e2
    exact .lst h3 (h4.dp s e1)
end
theorem eqD_some {d1 d2 : Dt} {t : Bool} (h : eqD d1 d2 = some t) : ∃ p q, d1.py = some p ∧ d2.py = some q ∧ SeqAt.shaped p = true ∧ SeqAt.shaped q = true ∧ t = PyData.eqv p q := by
  unfold eqD at h
  obtain ⟨p, e1, h⟩ := Option.bind_eq_some_iff.mp h
  obtain ⟨q, e2, h⟩ := Option.bind_eq_some_iff.mp h
  split at h
  · rename_i hs
    cases h
    rw [Bool.and_eq_true] at hs
    exact ⟨p, q, e1, e2, hs.1, hs.2, rfl⟩
  · cases h
theorem p2_eq (hu : X.A.units + 64 < cLine) : P2 X cm (compareOp .Eq) pEq := by
  intro d1 d2 b1 b2 out v1 v2 H G r1 r2 sub hp
  obtain ⟨t, ht, hp⟩ := Option.map_eq_some_iff.mp hp
  subst hp
  obtain ⟨p, q', e1, e2, s1, s2, rfl⟩ := eqD_some ht
  exact ⟨_, op_eqD hu, fun Q q => ⟨p, q', r1.dp sub e1, r2.dp sub e2, s1, s2, q _ H G (.refl sub) (Den.bl _)⟩⟩
theorem p2_ne (hu : X.A.units + 64 < cLine) : P2 X cm (compareOp .NotEq) pNe := by
  intro d1 d2 b1 b2 out v1 v2 H G r1 r2 sub hp
  obtain ⟨t, ht, hp⟩ := Option.map_eq_some_iff.mp hp
  subst hp
  obtain ⟨p, q', e1, e2, s1, s2, rfl⟩ := eqD_some ht
  exact ⟨_, op_neD hu, fun Q q => ⟨p, q', r1.dp sub e1, r2.dp sub e2, s1, s2, q _ H G (.refl sub) (Den.bl _)⟩⟩
theorem VR.isNon {K : PySem.W.Frag} {d : Dt} {v : V} {t : Bool} (h : VR K cm H G v d t) : decide (v = .non) = d.isNon := by
  cases t with
  | true =>
    obtain ⟨l, vs, ds, h1, h2, h3, h4⟩ := h.1 rfl
    subst h1 h2
    rfl
  | false =>
    have q := h.2 rfl
    cases q <;> rfl
theorem je_isN {j pos'} (ha : JE X cm a fa) : JE X cm (.Compare a [.Is] [.Constant .none j pos'] pos) (e1 pIsN fa) := by
  refine ⟨fun env r σ H G hf rel Q q => ?_⟩
  obtain ⟨ra, h1, hf⟩ := Option.bind_eq_some_iff.mp hf
  cases hf
  refine to_e (pe_cmp (pc_isN pe_w) rfl) (ha.pub h1 rel fun v H1 G1 g1 vr => ?_)
  rw [vr.isNon]
  exact q _ H1 G1 g1 (Den.bl _)
theorem je_notN {j pos'} (ha : JE X cm a fa) : JE X cm (.Compare a [.IsNot] [.Constant .none j pos'] pos) (e1 pNotN fa) := by
  refine ⟨fun env r σ H G hf rel Q q => ?_⟩
  obtain ⟨ra, h1, hf⟩ := Option.bind_eq_some_iff.mp hf
  cases hf
  refine to_e (pe_cmp (pc_notN pe_w) rfl) (ha.pub h1 rel fun v H1 G1 g1 vr => ?_)
  rw [vr.isNon]
  exact q _ H1 G1 g1 (Den.bl _)
theorem je_neg (ha : JE X cm a fa) : JE X cm (.UnaryOp .USub a pos) (e1 pNeg fa) := by
  refine ⟨fun env r σ H G hf rel Q q => ?_⟩
  obtain ⟨ra, h1, hf⟩ := Option.bind_eq_some_iff.mp hf
  refine to_e (pe_un un_neg pe_w) (ha.pub h1 rel fun v H1 G1 g1 vr => ?_)
  unfold pNeg at hf
  split at hf
  · rename_i i hi
    cases hf
    rw [hi] at vr
    have e := vr.int
    subst e
    exact ⟨i, rfl, q _ H1 G1 g1 (Den.int _)⟩
  · cases hf

/-! subscripts -/
theorem atL_of {α : Type} {ds : List α} {i : Int} {d : α} (h : atL ds i = some d) : ∃ j : Nat, ds[j]? = some d ∧ ∀ {β : Type} (vs : List β) (v : β), vs.length = ds.length → vs[j]? = some v → atI vs i = some v := by
  unfold atL at h
  split at h
  · rename_i h0
    have hlt : i.toNat < ds.length := (List.getElem?_eq_some_iff.mp h).1
    refine ⟨i.toNat, h, fun vs v hl hv => ?_⟩
    unfold atI ixN
    rw [if_pos h0, if_pos (by omega)]
    exact hv
  · rename_i h0
    split at h
    · rename_i h1
      refine ⟨(i + ds.length).toNat, h, fun vs v hl hv => ?_⟩
      unfold atI ixN
      rw [if_neg h0, if_pos (by omega), hl]
      exact hv
    · cases h
theorem je_ix (ha : JE X cm a fa) (hb : JE X cm b fb) (hs : PlainIx b := by exact fun _ _ => rfl) : JE X cm (.Subscript a b pos) (e2 pIx fa fb) := by
  refine ⟨fun env r σ H G hf rel Q q => ?_⟩
  obtain ⟨ra, h1, hf⟩ := Option.bind_eq_some_iff.mp hf
  obtain ⟨rb, h2, hf⟩ := Option.bind_eq_some_iff.mp hf
  refine to_e (pe_ix ix_seq pe_w pe_w hs) ?_
  refine ha.pub h1 rel fun v H1 G1 g1 vr => hb.pub h2 (rel.grow g1) fun w H2 G2 g2 wr => ?_
  have vr2 := vr.grow g2
  unfold pIx at hf
  split at hf
  · rename_i ds i e1 e2
    obtain ⟨d, hd, hf⟩ := Option.map_eq_some_iff.mp hf
    subst hf
    rw [e1] at vr2
    rw [e2] at wr
    have e := wr.int
    subst e
    obtain ⟨l, vs, rfl, s1, n1⟩ := vr2.lst g2.sub
    obtain ⟨j, hj, k⟩ := atL_of hd
    obtain ⟨u, hu, du⟩ := n1.get hj
    exact .inl ⟨l, vs, i, u, rfl, rfl, s1, k vs u n1.length hu, q _ H2 G2 (g1.trans g2) du⟩
  · rename_i ds i e1 e2
    obtain ⟨d, hd, hf⟩ := Option.map_eq_some_iff.mp hf
    subst hf
    rw [e1] at vr2
    rw [e2] at wr
    have e := wr.int
    subst e
    obtain ⟨l, vs, rfl, s1, _, n1⟩ := vr2.tup g2.sub
    obtain ⟨j, hj, k⟩ := atL_of hd
    obtain ⟨u, hu, du⟩ := n1.get hj
    exact .inr (.inl ⟨l, vs, i, u, rfl, rfl, s1, k vs u n1.length hu, q _ H2 G2 (g1.trans g2) du⟩)
  · rename_i z i e1 e2
    split at hf
    · rename_i hz
      obtain ⟨d, hd, hf⟩ := Option.map_eq_some_iff.mp hf
      subst hf
      rw [e1] at vr2
      rw [e2] at wr
      have e := wr.int
      have e' := vr2.str
      subst e e'
      obtain ⟨j, hj, k⟩ := atL_of hd
      exact .inr (.inr ⟨z, i, d, rfl, rfl, lim_ok hz, k _ _ rfl hj, q _ H2 G2 (g1.trans g2) (Den.str _)⟩)
    · cases hf
  · cases hf
def JO (X : Cx) (cm : Nat → Addr) (e : Option Expr) (f : OF) : Prop := ∀ (env : Sl) (r : Option Int) (σ : L2.St) (H G : Hp), f env = some r → Rel X.K cm σ H G env → ∀ Q : Option Int → Hp → Prop, (∀ H' G', Grow H G H' G' → Q r H') →
  ∀ pins s, Inv X pins σ H s → wpAny (model X.prog X.w) X.A (evalPart e X.env) (fun u s' => ∃ o H', Inv X pins σ H' s' ∧ IsPart u o ∧ Q o H') X.xe s
theorem jo_none : JO X cm none oNone := fun env r σ H G hf rel Q q pins s I => by
  cases hf
  exact po_none.run pins s σ H Q I (q H G (.refl rel.sub))
theorem jo_some (ha : JE X cm a fa) : JO X cm (some a) (oSome fa) := fun env r σ H G hf rel Q q pins s I => by
  unfold oSome at hf
  split at hf
  · rename_i i h1
    cases hf
    refine (po_some pe_w).run pins s σ H Q I (ha.pub h1 rel fun v H1 G1 g1 vr => ?_)
    have e := vr.int
    subst e
    exact ⟨i, rfl, q H1 G1 g1⟩
  · cases hf
def wpO (X : Cx) (e : Option Expr) : TO := fun σ H Q => ∀ pins s, Inv X pins σ H s → wpAny (model X.prog X.w) X.A (evalPart e X.env) (fun u s' => ∃ o H', Inv X pins σ H' s' ∧ IsPart u o ∧ Q o H') X.xe s
theorem po_w {o : Option Expr} : PO X o (wpO X o) := ⟨fun pins s σ H Q I h => h pins s I⟩
theorem sIx_eq (n d : Nat) (o : Option Int) : HT.sIx n d o = sIx n d o := by
  cases o with
  | none => rfl
  | some v =>
    show (if v < 0 then (v + (n : Int)).toNat else min v.toNat n) = if 0 ≤ v then min v.toNat n else (v + n).toNat
    by_cases h : v < 0
    · rw [if_pos h, if_neg (by omega)]
    · rw [if_neg h, if_pos (by omega)]
theorem DenL.cut {K : PySem.W.Frag} {vs : List V} {ds : List Dt} (h : DenL K cm G vs ds) (lo hi : Option Int) : DenL K cm G (cutV vs lo hi) (cutD ds lo hi) := by
  unfold cutV cutD
  rw [h.length, sIx_eq, sIx_eq]
  exact (h.drop _).take _
theorem cutD_all {ds : List Dt} {lo hi : Option Int} (h : sIx ds.length 0 lo = 0 ∧ sIx ds.length ds.length hi = ds.length) : cutD ds lo hi = ds := by
  unfold cutD
  rw [h.1, h.2, List.drop_zero, Nat.sub_zero, List.take_length]
theorem je_slice {lo hi : Option Expr} {ol oh : OF} {p2 : Pos} (ha : JE X cm a fa) (hl : JO X cm lo ol) (hh : JO X cm hi oh) : JE X cm (.Subscript a (.Slice lo hi none p2) pos) (eSlice fa ol oh) := by
  refine ⟨fun env r σ H G hf rel Q q => ?_⟩
  obtain ⟨ra, h1, hf⟩ := Option.bind_eq_some_iff.mp hf
  obtain ⟨il, h2, hf⟩ := Option.bind_eq_some_iff.mp hf
  obtain ⟨ih, h3, hf⟩ := Option.bind_eq_some_iff.mp hf
  refine to_e (pe_slice (SlR.or sl_list sl_tupA) pe_w po_w po_w) ?_
  refine ha.pub h1 rel fun v H1 G1 g1 vr => hl env il σ H1 G1 h2 (rel.grow g1) _ fun H2 G2 g2 => hh env ih σ H2 G2 h3 ((rel.grow g1).grow g2) _ fun H3 G3 g3 => ?_
  have vr3 := (vr.grow g2).grow g3
  have g := (g1.trans g2).trans g3
  split at hf
  · rename_i ds e1
    cases hf
    rw [e1] at vr3
    obtain ⟨l, vs, rfl, s1, n1⟩ := vr3.lst g3.sub
    refine .inl ⟨l, vs, rfl, s1, fun p hp => ?_⟩
    exact q _ _ _ (g.trans (.hide g3.sub hp)) ⟨p, _, rfl, g.hx.back hp, upd_same, g3.sub.back hp, n1.cut _ _⟩
  · rename_i ds e1
    cases hf
    rw [e1] at vr3
    obtain ⟨l, vs, rfl, s1, t1, n1⟩ := vr3.tup g3.sub
    refine .inr ⟨l, vs, rfl, s1, fun hw => ?_, fun hw p hp => ?_⟩
    · rw [n1.length, sIx_eq, sIx_eq] at hw
      refine q _ _ _ g ?_
      show Den _ _ _ _ _
      rw [cutD_all hw]
      exact .tup t1 n1
    · have n := g3.sub.back hp
      exact q _ _ _ (g.trans (.new g3.sub hp)) (Den.tup (SqT.of upd_same) ((n1.cut _ _).mono (.new n)))
  · cases hf
end
end Pyl
end
section
set_option Elab.async false
set_option linter.all false
set_option maxRecDepth 100000
set_option maxHeartbeats 2000000
namespace Pyl
open PySem L2
section
variable {X : Cx} {cm : Nat → Addr} {e a b c : Expr} {f fa fb fc : EF} {σ : L2.St} {H G : Hp} {env : Sl} {pos p : Pos} {x : Str} {id T : String}

/-! built-in functions of one argument, of two -/
def P1 (X : Cx) (cm : Nat → Addr) (f : Value) (pf : Dt → Option R) : Prop := ∃ r : List V → Hp → VK → Prop, CallR X f r ∧
  ∀ (d : Dt) (b : Bool) (out : R) (v : V) (H G : Hp), VR X.K cm H G v d b → Exx G H → pf d = some out → ∀ Q : VK, (∀ v H' G', Grow H G H' G' → RR X.K cm H H' G' v out → Q v H') → r [v] H Q
theorem je_b1 {pf : Dt → Option R} (ok : P1 X cm (.builtin id) pf) (hg : Gl X x) (hm : X.mg x = none) (hv : bootBuiltins x = some (.builtin id)) (ha : JE X cm a fa) (hn : x ≠ "__name__" := by decide) (hdb : (x == ("__debug__" : Str)) = false := by decide)
    (he : starEach [a] X.env = (false, eval a X.env) :: starEach [] X.env := by rfl) (hpl : (backTo pos (starEach [] X.env)).any (·.1) = false := by rfl) : JE X cm (.Call (.Name x p) [a] [] pos) (e1 pf fa) := by
  refine ⟨fun env r σ H G hf rel Q q => ?_⟩
  obtain ⟨ra, h1, hf⟩ := Option.bind_eq_some_iff.mp hf
  obtain ⟨rr, hc, hr⟩ := ok
  refine to_e (pe_callB hc hg hm hv (pa_cons pe_w pa_nil he) hn hdb he hpl) (ha.pub h1 rel fun v H1 G1 g1 vr => ?_)
  exact hr _ _ _ v H1 G1 vr g1.sub hf Q fun v' H2 G2 g2 rr2 => q v' H2 G2 (g1.trans g2) (rr2.hx g1.hx)
theorem je_ty1 {pf : Dt → Option R} (ok : P1 X cm (.type T) pf) (hg : Gl X x) (hm : X.mg x = none) (hv : bootBuiltins x = some (.type T)) (ha : JE X cm a fa) (hn : x ≠ "__name__" := by decide) (hdb : (x == ("__debug__" : Str)) = false := by decide)
    (he : starEach [a] X.env = (false, eval a X.env) :: starEach [] X.env := by rfl) (hpl : (backTo pos (starEach [] X.env)).any (·.1) = false := by rfl) : JE X cm (.Call (.Name x p) [a] [] pos) (e1 pf fa) := by
  refine ⟨fun env r σ H G hf rel Q q => ?_⟩
  obtain ⟨ra, h1, hf⟩ := Option.bind_eq_some_iff.mp hf
  obtain ⟨rr, hc, hr⟩ := ok
  refine to_e (pe_callTy hc hg hm hv (pa_cons pe_w pa_nil he) hn hdb he hpl) (ha.pub h1 rel fun v H1 G1 g1 vr => ?_)
  exact hr _ _ _ v H1 G1 vr g1.sub hf Q fun v' H2 G2 g2 rr2 => q v' H2 G2 (g1.trans g2) (rr2.hx g1.hx)
def P2c (X : Cx) (cm : Nat → Addr) (f : Value) (pf : Dt → Dt → Option R) : Prop := ∃ r : List V → Hp → VK → Prop, CallR X f r ∧
  ∀ (d d2 : Dt) (b b2 : Bool) (out : R) (v v2 : V) (H G : Hp), VR X.K cm H G v d b → VR X.K cm H G v2 d2 b2 → Exx G H → pf d d2 = some out → ∀ Q : VK, (∀ v H' G', Grow H G H' G' → RR X.K cm H H' G' v out → Q v H') → r [v, v2] H Q
theorem je_b2 {pf : Dt → Dt → Option R} (ok : P2c X cm (.builtin id) pf) (hg : Gl X x) (hm : X.mg x = none) (hv : bootBuiltins x = some (.builtin id)) (ha : JE X cm a fa) (hb : JE X cm b fb) (hn : x ≠ "__name__" := by decide) (hdb : (x == ("__debug__" : Str)) = false := by decide)
    (h0 : starEach [b] X.env = (false, eval b X.env) :: starEach [] X.env := by rfl) (he : starEach [a, b] X.env = (false, eval a X.env) :: starEach [b] X.env := by rfl) (hpl : (backTo pos (starEach [b] X.env)).any (·.1) = false := by rfl) : JE X cm (.Call (.Name x p) [a, b] [] pos) (e2 pf fa fb) := by
  refine ⟨fun env r σ H G hf rel Q q => ?_⟩
  obtain ⟨ra, h1, hf⟩ := Option.bind_eq_some_iff.mp hf
  obtain ⟨rb, h2, hf⟩ := Option.bind_eq_some_iff.mp hf
  obtain ⟨rr, hc, hr⟩ := ok
  refine to_e (pe_callB hc hg hm hv (pa_cons pe_w (pa_cons pe_w pa_nil h0) he) hn hdb he hpl) (ha.pub h1 rel fun v H1 G1 g1 vr => hb.pub h2 (rel.grow g1) fun w H2 G2 g2 wr => ?_)
  exact hr _ _ _ _ _ v w H2 G2 (vr.grow g2) wr g2.sub hf Q fun v' H3 G3 g3 rr3 => q v' H3 G3 ((g1.trans g2).trans g3) (rr3.hx (g1.trans g2).hx)

theorem p1_len : P1 X cm (.builtin "len") pLen := ⟨_, call_len, fun d b out v H G vr sub hp Q q => by
  unfold pLen at hp
  split at hp
  · cases hp
    obtain ⟨l, vs, rfl, s1, n1⟩ := vr.lst sub
    exact ⟨_, vs.length, rfl, .inl ⟨vs, s1, rfl⟩, by rw [n1.length]; exact q _ _ _ (.refl sub) (Den.int _)⟩
  · cases hp
    obtain ⟨l, vs, rfl, s1, _, n1⟩ := vr.tup sub
    exact ⟨_, vs.length, rfl, .inr ⟨vs, s1, rfl⟩, by rw [n1.length]; exact q _ _ _ (.refl sub) (Den.int _)⟩
  · cases hp⟩
theorem p1_int : P1 X cm (.type "int") pInt := ⟨_, call_int1, fun d b out v H G vr sub hp Q q => by
  unfold pInt at hp
  split at hp
  · cases hp
    have e := vr.int
    subst e
    exact .inl ⟨_, rfl, q _ _ _ (.refl sub) (Den.int _)⟩
  · cases hp
    have e := vr.bl
    subst e
    exact .inr ⟨_, rfl, q _ _ _ (.refl sub) (Den.int _)⟩
  · cases hp⟩
theorem p1_abs : P1 X cm (.builtin "abs") pAbs := ⟨_, call_abs, fun d b out v H G vr sub hp Q q => by
  unfold pAbs at hp
  split at hp
  · cases hp
    have e := vr.int
    subst e
    exact ⟨_, rfl, q _ _ _ (.refl sub) (Den.int _)⟩
  · cases hp⟩
theorem DenL.ints {K : PySem.W.Frag} : ∀ {ds : List Dt} {vs : List V} {ns : List Int}, DenL K cm G vs ds → intsOf ds = some ns → vs = ns.map V.int
  | [], _, _, h, e => by
    cases h
    unfold intsOf at e
    cases e
    rfl
  | .int i :: ds, _, _, h, e => by
    cases h with
    | cons h1 h2 =>
      unfold intsOf at e
      obtain ⟨ms, e1, e2⟩ := Option.map_eq_some_iff.mp e
      subst e2
      cases h1
      rw [List.map_cons, DenL.ints h2 e1]
  | .non :: _, _, _, _, e => by simp [intsOf] at e
  | .bl _ :: _, _, _, _, e => by simp [intsOf] at e
  | .str _ :: _, _, _, _, e => by simp [intsOf] at e
  | .lst _ :: _, _, _, _, e => by simp [intsOf] at e
  | .tup _ :: _, _, _, _, e => by simp [intsOf] at e
  | .obj _ _ :: _, _, _, _, e => by simp [intsOf] at e
theorem p1_sum (hc : X.calm = true) : P1 X cm (.builtin "sum") pSum := ⟨_, cr_sum hc, fun d b out v H G vr sub hp Q q => by
  unfold pSum at hp
  split at hp
  · obtain ⟨ns, h1, hp⟩ := Option.map_eq_some_iff.mp hp
    subst hp
    obtain ⟨l, vs, rfl, s1, n1⟩ := vr.lst sub
    have e := n1.ints h1
    subst e
    exact ⟨l, ns, rfl, s1, q _ _ _ (.refl sub) (Den.int _)⟩
  · cases hp⟩
theorem p2c_max (hc : X.calm = true) : P2c X cm (.builtin "max") pMax2 := ⟨_, call_max2 hc, fun d d2 b b2 out v v2 H G vr vr2 sub hp Q q => by
  unfold pMax2 at hp
  split at hp
  · cases hp
    have e := vr.int
    have e2 := vr2.int
    subst e e2
    exact ⟨_, _, rfl, q _ _ _ (.refl sub) (Den.int _)⟩
  · cases hp⟩
theorem p2c_min (hc : X.calm = true) : P2c X cm (.builtin "min") pMin2 := ⟨_, call_min2 hc, fun d d2 b b2 out v v2 H G vr vr2 sub hp Q q => by
  unfold pMin2 at hp
  split at hp
  · cases hp
    have e := vr.int
    have e2 := vr2.int
    subst e e2
    exact ⟨_, _, rfl, q _ _ _ (.refl sub) (Den.int _)⟩
  · cases hp⟩
theorem p1_list : P1 X cm (.type "list") pList := ⟨_, call_list_of, fun d b out v H G vr sub hp Q q => by
  unfold pList at hp
  split at hp
  · cases hp
    obtain ⟨l, vs, rfl, s1, n1⟩ := vr.lst sub
    exact ⟨l, vs, rfl, .inl s1, fun m hm => q _ _ _ (.hide sub hm) ⟨m, _, rfl, hm, upd_same, sub.back hm, n1⟩⟩
  · cases hp
    obtain ⟨l, vs, rfl, s1, _, n1⟩ := vr.tup sub
    exact ⟨l, vs, rfl, .inr s1, fun m hm => q _ _ _ (.hide sub hm) ⟨m, _, rfl, hm, upd_same, sub.back hm, n1⟩⟩
  · cases hp⟩
theorem p1_tuple : P1 X cm (.type "tuple") pTuple := ⟨_, call_tuple_of, fun d b out v H G vr sub hp Q q => by
  unfold pTuple at hp
  split at hp
  · cases hp
    obtain ⟨l, vs, rfl, s1, n1⟩ := vr.lst sub
    exact ⟨l, vs, rfl, .inl ⟨s1, fun m hm => q _ _ _ (.new sub hm) (Den.tup (SqT.of upd_same) (n1.mono (.new (sub.back hm))))⟩⟩
  · cases hp
    obtain ⟨l, vs, rfl, s1, t1, n1⟩ := vr.tup sub
    exact ⟨l, vs, rfl, .inr ⟨s1, q _ _ _ (.refl sub) (Den.tup t1 n1)⟩⟩
  · cases hp⟩

/-! isinstance(x, T) -/
theorem TyX.sqL {K : PySem.W.Frag} {l : Addr} {vs : List V} (h : SqL K H l vs) : TyX K H (.ref l) (.type "list") := by
  rcases h with (h | ⟨o, h⟩) | ⟨o, its, n, hk, hc, _⟩
  · exact .base (.lst h)
  · exact .base (.frz h)
  · exact .kList hk hc
theorem TyX.sqT {K : PySem.W.Frag} {l : Addr} {vs : List V} (h : SqT K H l vs) : TyX K H (.ref l) (.type "tuple") := by
  rcases h with (h | ⟨o, h⟩) | ⟨o, its, n, hk, hc, _⟩
  · exact .base (.tup h)
  · exact .fTuple h
  · exact .kTuple hk hc
theorem VR.tyX {K : PySem.W.Frag} {d : Dt} {v : V} {b : Bool} {t : String} (sub : Exx G H) (h : VR K cm H G v d b) (e : d.ty = some t) : TyX K H v (.type t) := by
  cases d with
  | non => cases e; have q := h.non; subst q; exact .base .non
  | bl x => cases e; have q := h.bl; subst q; exact .base (.bl x)
  | int i => cases e; have q := h.int; subst q; exact .base (.int i)
  | str z => cases e; have q := h.str; subst q; exact .base (.str z)
  | lst ds =>
    cases e
    obtain ⟨l, vs, rfl, s1, n1⟩ := h.lst sub
    exact TyX.sqL s1
  | tup ds =>
    cases e
    obtain ⟨l, vs, rfl, s1, _, n1⟩ := h.tup sub
    exact TyX.sqT s1
  | obj c fs => cases e
  | exn _ _ _ => cases e
theorem je_isi {p2 : Pos} (hk : ∀ t ∈ (["NoneType", "bool", "int", "str", "list", "tuple"] : List String), kitB t T = some (t == T || (t == "bool" && T == "int"))) (hg : Gl X "isinstance") (hm : X.mg "isinstance" = none) (hg2 : Gl X x) (hm2 : X.mg x = none)
    (hv2 : bootBuiltins x = some (.type T)) (ha : JE X cm a fa) (hn2 : x ≠ "__name__" := by decide) (hd2 : (x == ("__debug__" : Str)) = false := by decide)
    (h0 : starEach [.Name x p2] X.env = (false, eval (.Name x p2) X.env) :: starEach [] X.env := by rfl) (he : starEach [a, .Name x p2] X.env = (false, eval a X.env) :: starEach [.Name x p2] X.env := by rfl)
    (hpl : (backTo pos (starEach [.Name x p2] X.env)).any (·.1) = false := by rfl) : JE X cm (.Call (.Name "isinstance" p) [a, .Name x p2] [] pos) (e1 (pIsi T) fa) := by
  refine ⟨fun env r σ H G hf rel Q q => ?_⟩
  obtain ⟨ra, h1, hf⟩ := Option.bind_eq_some_iff.mp hf
  obtain ⟨t, ht, hf⟩ := Option.map_eq_some_iff.mp hf
  subst hf
  obtain ⟨ty, hty, ht⟩ := Option.map_eq_some_iff.mp ht
  subst ht
  refine to_e (pe_callB call_isi hg hm (by decide +kernel) (pa_cons pe_w (pa_cons (pe_bltn (v := .ty T) hg2 hm2 hv2 rfl hn2 hd2) pa_nil h0) he) (by decide) (by decide) he hpl) (ha.pub h1 rel fun v H1 G1 g1 vr => ?_)
  refine ⟨v, .ty T, .type ty, .type T, _, rfl, .ty T, vr.tyX g1.sub hty, kit_ty (hk ty ?_), q _ _ _ g1 (Den.bl _)⟩
  generalize ra.dt = d at hty
  cases d <;> cases hty <;> simp

/-! calls -/
theorem VRs.denH {K : PySem.W.Frag} (sub : Exx G H) : ∀ {vs : List V} {rs : List (Dt × Bool)}, VRs K cm H G vs rs → DenL K cm H vs (rs.map (·.1))
  | _, _, .nil => .nil
  | _, _, .cons (b := b) (d := d) h t => by
    refine .cons ?_ (VRs.denH sub t)
    cases b with
    | false => exact h.den.mono sub
    | true =>
      obtain ⟨l, vs, ds, h1, h2, h3, h4⟩ := h.1 rfl
      subst h1 h2
      exact .lst h3 (h4.mono sub)
/-- the promise of a def that keeps F -/
def spP (K : PySem.W.Frag) (cm : Nat → Addr) (F : FN) : Sp := fun vs H Q _ => ∃ (G : Hp) (ds : List Dt) (r : Dt), Exx G H ∧ DenL K cm G vs ds ∧ F ds = some r ∧ ∀ v H' G', Grow H G H' G' → Den K cm G' v r → Q v H'
/-- a def of the module that keeps F -/
structure FnC (P : Program) (w : World) (K : PySem.W.Frag) (mg : Str → Option Value) (base : Heap) (cm : Nat → Addr) (k : Nat) (x : Str) (F : FN) : Prop where
  ex : ∃ (f : Addr) (fd : FuncData) (ps : List Str), FnOk P w K mg base CX0 k f fd ps (spP K cm F) ∧ mg x = some (.ref f) ∧ PySem.W.keepIn K (.ref f) = true ∧ Binds K fd ps []
theorem Dt.scalar_den {K : PySem.W.Frag} {v : V} {d : Dt} {G' : Hp} (h : Den K cm G v d) (s : d.scalar = true) : Den K cm G' v d := by
  cases h <;> first | exact Den.non | exact Den.bl _ | exact Den.int _ | exact Den.str _ | cases s
theorem je_call {es : List Expr} {ft : AF} {F : FN} {k : Nat} (C : FnC X.prog X.w X.K X.mg X.base cm k x F) (hr : Room k X.A) (hg : Gl X x) (ha : JA X cm (e :: es) ft) (hdb : (x == ("__debug__" : Str)) = false := by decide)
    (he : starEach (e :: es) X.env = (false, eval e X.env) :: starEach es X.env := by rfl) (hpl : (backTo pos (starEach es X.env)).any (·.1) = false := by rfl) : JE X cm (.Call (.Name x p) (e :: es) [] pos) (eCall F ft) := by
  refine ⟨fun env r σ H G hf rel Q q => ?_⟩
  obtain ⟨rs, h1, hf⟩ := Option.bind_eq_some_iff.mp hf
  obtain ⟨d, h2, hf⟩ := Option.bind_eq_some_iff.mp hf
  obtain ⟨f, fd, ps, hF, hm, hk, hb⟩ := C.ex
  refine to_e (pe_call hF hr hg hm hk hb .nil pass0 pa_w hdb he hpl) (ha.run env rs σ H G h1 rel _ fun vs H1 G1 g1 vrs => ?_)
  show spP X.K cm F (vs ++ []) H1 Q E0
  rw [List.append_nil]
  by_cases hs : rs.any (·.2) = true
  · split at hf
    · cases hf
    · rename_i hn
      cases hf
      have sc : d.scalar = true := by
        cases hd : d.scalar with
        | true => rfl
        | false => exact absurd (by rw [hs, hd]; rfl) hn
      refine ⟨H1, _, d, .refl _, vrs.denH g1.sub, h2, fun v H' G' g hden => ?_⟩
      exact q v H' G1 (g1.trans ⟨g.hx, .refl _, fun _ _ _ n => n, g1.sub.trans g.hx⟩) (Dt.scalar_den hden sc)
  · have hs' : rs.any (·.2) = false := by simpa using hs
    split at hf
    · rename_i hn
      rw [hs'] at hn
      cases hn
    · cases hf
      exact ⟨G1, _, d, g1.sub, vrs.plain hs', h2, fun v H' G' g hden => q v H' G' (g1.trans g) hden⟩

/-! and, or, not; if .. else -/
theorem je_one {op} (h : JE X cm a fa) : JE X cm (.BoolOp op [a] pos) fa := ⟨fun env r σ H G hf rel Q q => to_e (pe_one pe_w) (h.run env r σ H G hf rel Q q)⟩
theorem je_and {rest : List Expr} (ha : JE X cm a fa) (hb : JE X cm (.BoolOp .And (b :: rest) pos) fb) : JE X cm (.BoolOp .And (a :: b :: rest) pos) (eAnd fa fb) := by
  refine ⟨fun env r σ H G hf rel Q q => ?_⟩
  refine to_e (pe_and pe_w pe_w) ?_
  unfold eAnd at hf
  split at hf
  · rename_i h1
    refine ha.run env _ σ H G h1 rel _ fun v H1 G1 g1 vr => ?_
    cases (show Den _ _ _ _ _ from vr)
    exact ⟨true, rfl, iteT (hb.run env r σ H1 G1 hf (rel.grow g1) Q fun v' H2 G2 g2 r2 => q v' H2 G2 (g1.trans g2) (r2.hx g1.hx))⟩
  · rename_i h1
    cases hf
    refine ha.run env _ σ H G h1 rel _ fun v H1 G1 g1 vr => ?_
    cases (show Den _ _ _ _ _ from vr)
    exact ⟨false, rfl, iteF (q _ H1 G1 g1 (Den.bl _))⟩
  · cases hf
theorem je_or {rest : List Expr} (ha : JE X cm a fa) (hb : JE X cm (.BoolOp .Or (b :: rest) pos) fb) : JE X cm (.BoolOp .Or (a :: b :: rest) pos) (eOr fa fb) := by
  refine ⟨fun env r σ H G hf rel Q q => ?_⟩
  refine to_e (pe_or pe_w pe_w) ?_
  unfold eOr at hf
  split at hf
  · rename_i h1
    cases hf
    refine ha.run env _ σ H G h1 rel _ fun v H1 G1 g1 vr => ?_
    cases (show Den _ _ _ _ _ from vr)
    exact ⟨true, rfl, iteT (q _ H1 G1 g1 (Den.bl _))⟩
  · rename_i h1
    refine ha.run env _ σ H G h1 rel _ fun v H1 G1 g1 vr => ?_
    cases (show Den _ _ _ _ _ from vr)
    exact ⟨false, rfl, iteF (hb.run env r σ H1 G1 hf (rel.grow g1) Q fun v' H2 G2 g2 r2 => q v' H2 G2 (g1.trans g2) (r2.hx g1.hx))⟩
  · cases hf
theorem je_not (ha : JE X cm a fa) : JE X cm (.UnaryOp .Not a pos) (eNot fa) := by
  refine ⟨fun env r σ H G hf rel Q q => ?_⟩
  refine to_e (pe_not pe_w) ?_
  unfold eNot at hf
  split at hf
  · rename_i b h1
    cases hf
    refine ha.run env _ σ H G h1 rel _ fun v H1 G1 g1 vr => ?_
    cases (show Den _ _ _ _ _ from vr)
    exact ⟨b, rfl, q _ H1 G1 g1 (Den.bl _)⟩
  · cases hf
/-! tests -/
structure JW (X : Cx) (cm : Nat → Addr) (e : Expr) (f : TF) : Prop where
  run : ∀ (env : Sl) (b : Bool) (σ : L2.St) (H G : Hp), f env = some b → Rel X.K cm σ H G env → ∀ Q : Bool → Hp → Prop, (∀ H' G', Grow H G H' G' → Q b H') →
    ∀ (whole : Sem Value) pins s, Inv X pins σ H s → wpAny (model X.prog X.w) X.A (isTrue e X.env whole) (TP X pins σ Q) X.xe s
variable {ta tb : TF}
theorem JW.t (h : JW X cm e ta) : JT X cm e ta := ⟨fun env b σ H G hf rel Q q pins s I => h.run env b σ H G hf rel Q q _ pins s I⟩
theorem jt_val (h : JE X cm e f) (he : ∀ whole, isTrue e X.env whole = (do let v ← whole; standAt e.pos; holding [v] (truthy v)) := by intro _; rfl) : JT X cm e (tVal f) := by
  refine ⟨fun env r σ H G hf rel Q q => ?_⟩
  refine to_t (pt_val pe_w he) ?_
  unfold tVal at hf
  split at hf
  · rename_i b h1
    cases hf
    refine h.run env _ σ H G h1 rel _ fun v H1 G1 g1 vr => ?_
    cases (show Den _ _ _ _ _ from vr)
    exact ⟨_, rfl, q H1 G1 g1⟩
  · cases hf
theorem jt_cmp {op : CmpOp} {pf : Dt → Dt → Option R} (ok : P2 X cm (compareOp op) pf) (ha : JE X cm a fa) (hb : JE X cm b fb) (hm : behindInMarks op b = false := by first | exact nobehind _ (by decide) (by decide) | rfl) : JT X cm (.Compare a [op] [b] pos) (tVal (e2 pf fa fb)) := by
  refine ⟨fun env r σ H G hf rel Q q pins s I => ?_⟩
  unfold tVal at hf
  split at hf
  · rename_i b' h1
    cases hf
    refine wpAny_isTrue_Compare1 (thn (run2 (Q := fun v H' => ∃ k, v = .bl k ∧ Q k H') ok ha hb h1 rel (fun v H' G' g vr => ?_) I) fun v s1 h1 => thn h1 fun u s2 h2 => thn h2 fun c s3 ⟨x, H1, I1, r1, q1⟩ => ?_) hm
    · cases (show Den _ _ _ _ _ from vr)
      exact ⟨_, rfl, q H' G' g⟩
    · obtain ⟨d, rfl, q⟩ := q1
      cases r1
      exact wpAny_truthy_bool ⟨H1, I1, q⟩
  · cases hf
theorem jt_isN {j pos'} (ha : JE X cm a fa) : JT X cm (.Compare a [.Is] [.Constant .none j pos'] pos) (tVal (e1 pIsN fa)) := by
  refine ⟨fun env r σ H G hf rel Q q => ?_⟩
  unfold tVal at hf
  split at hf
  · rename_i b' h1
    cases hf
    obtain ⟨ra, h2, h3⟩ := Option.bind_eq_some_iff.mp h1
    refine to_t (pt_cmp (pc_isN pe_w) rfl) (ha.pub h2 rel fun v H1 G1 g1 vr => ⟨_, rfl, ?_⟩)
    rw [vr.isNon]
    cases h3
    exact q _ _ g1
  · cases hf
theorem jt_notN {j pos'} (ha : JE X cm a fa) : JT X cm (.Compare a [.IsNot] [.Constant .none j pos'] pos) (tVal (e1 pNotN fa)) := by
  refine ⟨fun env r σ H G hf rel Q q => ?_⟩
  unfold tVal at hf
  split at hf
  · rename_i b' h1
    cases hf
    obtain ⟨ra, h2, h3⟩ := Option.bind_eq_some_iff.mp h1
    refine to_t (pt_cmp (pc_notN pe_w) rfl) (ha.pub h2 rel fun v H1 G1 g1 vr => ⟨_, rfl, ?_⟩)
    rw [vr.isNon]
    cases h3
    exact q _ _ g1
  · cases hf
theorem jw_and1 (ha : JT X cm a ta) : JW X cm (.BoolOp .And [a] pos) ta := ⟨fun env r σ H G hf rel Q q wh pins s I => (pw_and1 pt_w).run wh pins s σ H Q I (ha.run env r σ H G hf rel Q q)⟩
theorem jw_or1 (ha : JT X cm a ta) : JW X cm (.BoolOp .Or [a] pos) ta := ⟨fun env r σ H G hf rel Q q wh pins s I => (pw_or1 pt_w).run wh pins s σ H Q I (ha.run env r σ H G hf rel Q q)⟩
def wpW (X : Cx) (e : Expr) : TT := fun σ H Q => ∀ (whole : Sem Value) pins s, Inv X pins σ H s → wpAny (model X.prog X.w) X.A (isTrue e X.env whole) (TP X pins σ Q) X.xe s
theorem pw_w {e : Expr} : PW X e (wpW X e) := ⟨fun wh pins s σ H Q I h => h wh pins s I⟩
theorem jw_and {rest : List Expr} (ha : JT X cm a ta) (hb : JW X cm (.BoolOp .And (b :: rest) pos) tb) : JW X cm (.BoolOp .And (a :: b :: rest) pos) (tAnd ta tb) := by
  refine ⟨fun env r σ H G hf rel Q q wh pins s I => ?_⟩
  obtain ⟨t, h1, hf⟩ := Option.bind_eq_some_iff.mp hf
  refine (pw_and pt_w pw_w).run wh pins s σ H Q I (ha.run env t σ H G h1 rel _ fun H1 G1 g1 => ?_)
  cases t with
  | true => exact iteT (hb.run env r σ H1 G1 hf (rel.grow g1) Q fun H2 G2 g2 => q H2 G2 (g1.trans g2))
  | false =>
    cases hf
    exact iteF (q H1 G1 g1)
theorem jw_or {rest : List Expr} (ha : JT X cm a ta) (hb : JW X cm (.BoolOp .Or (b :: rest) pos) tb) : JW X cm (.BoolOp .Or (a :: b :: rest) pos) (tOr ta tb) := by
  refine ⟨fun env r σ H G hf rel Q q wh pins s I => ?_⟩
  obtain ⟨t, h1, hf⟩ := Option.bind_eq_some_iff.mp hf
  refine (pw_or pt_w pw_w).run wh pins s σ H Q I (ha.run env t σ H G h1 rel _ fun H1 G1 g1 => ?_)
  cases t with
  | true =>
    cases hf
    exact iteT (q H1 G1 g1)
  | false => exact iteF (hb.run env r σ H1 G1 hf (rel.grow g1) Q fun H2 G2 g2 => q H2 G2 (g1.trans g2))
theorem jt_not (ha : JT X cm a ta) : JT X cm (.UnaryOp .Not a pos) (tNot ta) := by
  refine ⟨fun env r σ H G hf rel Q q => ?_⟩
  obtain ⟨t, h1, hf⟩ := Option.bind_eq_some_iff.mp hf
  cases hf
  exact to_t (pt_not pt_w) (ha.run env t σ H G h1 rel _ fun H1 G1 g1 => q H1 G1 g1)
theorem je_if (hc : JT X cm c ta) (ha : JE X cm a fa) (hb : JE X cm b fb) : JE X cm (.IfExp c a b pos) (eIf ta fa fb) := by
  refine ⟨fun env r σ H G hf rel Q q => ?_⟩
  obtain ⟨t, h1, hf⟩ := Option.bind_eq_some_iff.mp hf
  refine to_e (pe_ifExp pt_w pe_w pe_w) (hc.run env t σ H G h1 rel _ fun H1 G1 g1 => ?_)
  cases t with
  | true => exact iteT (ha.run env r σ H1 G1 hf (rel.grow g1) Q fun v H2 G2 g2 r2 => q v H2 G2 (g1.trans g2) (r2.hx g1.hx))
  | false => exact iteF (hb.run env r σ H1 G1 hf (rel.grow g1) Q fun v H2 G2 g2 r2 => q v H2 G2 (g1.trans g2) (r2.hx g1.hx))
end
end Pyl
end
section
set_option Elab.async false
set_option linter.all false
set_option maxRecDepth 100000
set_option maxHeartbeats 2000000
namespace Pyl
open PySem L2

/-! ### what is walked -/
/-- the heaps at a turn, behind the making of the iterator at H0, G0; b: what is walked is borrowed -/
structure StK (H0 G0 : Hp) (b : Bool) (H G : Hp) : Prop where
  sub : Exx G H
  gx : Exx G0 G
  hx : b = true → Exx H0 H
structure ItOk (K : PySem.W.Frag) (cm : Nat → Addr) (J : It) (ds : List Dt) (b : Bool) (H0 G0 : Hp) : Prop where
  go : ∀ (i : Nat) (H G : Hp), StK H0 G0 b H G → i < ds.length → J.go i H
  yl : ∀ (i : Nat) (H G : Hp) (v : V) (H' : Hp), StK H0 G0 b H G → i < ds.length → J.yld i H v H' → ∃ (G' : Hp) (d : Dt), ds[i]? = some d ∧ Grow H G H' G' ∧ Den K cm G' v d
  stop : ∀ (i : Nat) (H G : Hp), StK H0 G0 b H G → ds.length ≤ i → J.stop i H
structure JI (X : Cx) (cm : Nat → Addr) (tg iter : Expr) (f : IF) : Prop where
  run : ∀ (env : Sl) (ds : List Dt) (b : Bool) (σ : L2.St) (H G : Hp), f env = some (ds, b) → Rel X.K cm σ H G env → ∀ Q : It → Hp → Prop, (∀ J H' G', Grow H G H' G' → ItOk X.K cm J ds b H' G' → Q J H') → wpI X tg iter σ H Q
section
variable {X : Cx} {cm : Nat → Addr} {e a b c tg iter : Expr} {f fa fb fc : EF} {σ : L2.St} {H G : Hp} {env : Sl} {pos p : Pos}
theorem itl_ok {K : PySem.W.Frag} {l : Addr} {vs : List V} {ds : List Dt} {t : Bool} {H0 G0 : Hp} (h : ∀ H G, StK H0 G0 t H G → SqL K H l vs) (n : DenL K cm G0 vs ds) : ItOk K cm (Itl K l) ds t H0 G0 where
  go := fun i H G s hi => by
    have hi' : i < vs.length := by rw [n.length]; exact hi
    exact ⟨vs, vs[i], h H G s, List.getElem?_eq_getElem hi'⟩
  yl := fun i H G v H' s hi y => by
    obtain ⟨rfl, y⟩ := y
    obtain ⟨d, hd, dn⟩ := n.get' (y vs (h _ _ s))
    exact ⟨G, d, hd, .refl s.sub, dn.mono s.gx⟩
  stop := fun i H G s hi => ⟨vs, h H G s, by rw [n.length]; exact hi⟩
theorem itt_ok {K : PySem.W.Frag} {l : Addr} {vs : List V} {ds : List Dt} {t : Bool} {H0 G0 : Hp} (h : SqT K G0 l vs) (n : DenL K cm G0 vs ds) : ItOk K cm (Itt K l) ds t H0 G0 where
  go := fun i H G s hi => by
    have hi' : i < vs.length := by rw [n.length]; exact hi
    exact ⟨vs, vs[i], s.sub.sqT (s.gx.sqT h), List.getElem?_eq_getElem hi'⟩
  yl := fun i H G v H' s hi y => by
    obtain ⟨rfl, y⟩ := y
    obtain ⟨d, hd, dn⟩ := n.get' (y vs (s.sub.sqT (s.gx.sqT h)))
    exact ⟨G, d, hd, .refl s.sub, dn.mono s.gx⟩
  stop := fun i H G s hi => ⟨vs, s.sub.sqT (s.gx.sqT h), by rw [n.length]; exact hi⟩
theorem rngD_get {lo : Int} {n i : Nat} (h : i < n) : (rngD lo n)[i]? = some (.int (lo + (i : Int))) := by
  unfold rngD
  rw [List.getElem?_map, List.getElem?_range h]
  rfl
theorem rngD_length (lo : Int) (n : Nat) : (rngD lo n).length = n := by
  unfold rngD
  rw [List.length_map, List.length_range]
theorem itr_ok {K : PySem.W.Frag} {lo : Int} {n : Nat} {t : Bool} {H0 G0 : Hp} : ItOk K cm (Itr lo n) (rngD lo n) t H0 G0 where
  go := fun i H G s hi => by
    rw [rngD_length] at hi
    exact hi
  yl := fun i H G v H' s hi y => by
    obtain ⟨rfl, rfl⟩ := y
    rw [rngD_length] at hi
    exact ⟨G, _, rngD_get hi, .refl s.sub, .int _⟩
  stop := fun i H G s hi => by
    rw [rngD_length] at hi
    exact hi
theorem ji_seq (ha : JE X cm iter fa) : JI X cm tg iter (iSeq fa) := by
  refine ⟨fun env ds t σ H G hf rel Q q => ?_⟩
  obtain ⟨ra, h1, hf⟩ := Option.bind_eq_some_iff.mp hf
  split at hf
  · rename_i ds' e1
    cases hf
    refine to_i (pi_list pe_w) (ha.pub h1 rel fun v H1 G1 g1 vr => ?_)
    rw [e1] at vr
    cases hsh : ra.sh with
    | false =>
      rw [hsh] at vr
      cases vr.den with
      | lst s1 n1 => exact ⟨_, rfl, ⟨_, g1.sub.sqL s1⟩, q _ H1 G1 g1 (by rw [hsh]; exact itl_ok (fun H G s => s.sub.sqL (s.gx.sqL s1)) n1)⟩
    | true =>
      rw [hsh] at vr
      obtain ⟨l, vs, ds'', h1, h2, h3, h4⟩ := vr.1 rfl
      subst h1
      cases h2
      exact ⟨_, rfl, ⟨_, h3⟩, q _ H1 G1 g1 (by rw [hsh]; exact itl_ok (fun H G s => (s.hx rfl).sqL h3) h4)⟩
  · rename_i ds' e1
    cases hf
    refine to_i (pi_tup pe_w) (ha.pub h1 rel fun v H1 G1 g1 vr => ?_)
    rw [e1] at vr
    obtain ⟨l, vs, rfl, s1, t1, n1⟩ := vr.tup g1.sub
    exact ⟨_, rfl, ⟨_, s1⟩, q _ H1 G1 g1 (itt_ok t1 n1)⟩
  · cases hf
theorem ji_range1 (hg : Gl X "range") (hm : X.mg "range" = none) (ha : JE X cm a fa) (hs : starEach [a] X.env = [(false, eval a X.env)] := by rfl) (he : starEach [a] X.env = (false, eval a X.env) :: starEach [] X.env := by rfl) :
    JI X cm tg (.Call (.Name "range" p) [a] [] pos) (iRange1 fa) := by
  refine ⟨fun env ds t σ H G hf rel Q q => ?_⟩
  unfold iRange1 at hf
  split at hf
  · rename_i n h1
    split at hf
    · rename_i hn
      cases hf
      refine to_i (pi_range1 hg hm (pa_cons pe_w pa_nil he) hs) (ha.run env _ σ H G h1 rel _ fun v H1 G1 g1 vr => ?_)
      cases (show Den _ _ _ _ _ from vr)
      exact ⟨n, rfl, by omega, by omega, q _ H1 G1 g1 itr_ok⟩
    · cases hf
  · cases hf
theorem ji_range2 (hg : Gl X "range") (hm : X.mg "range" = none) (ha : JE X cm a fa) (hb : JE X cm b fb) (hs : starEach [a, b] X.env = [(false, eval a X.env), (false, eval b X.env)] := by rfl) (hs2 : starEach [b] X.env = [(false, eval b X.env)] := by rfl)
    (he : starEach [a, b] X.env = (false, eval a X.env) :: starEach [b] X.env := by rfl) (he2 : starEach [b] X.env = (false, eval b X.env) :: starEach [] X.env := by rfl) : JI X cm tg (.Call (.Name "range" p) [a, b] [] pos) (iRange2 fa fb) := by
  refine ⟨fun env ds t σ H G hf rel Q q => ?_⟩
  obtain ⟨ra, h1, hf⟩ := Option.bind_eq_some_iff.mp hf
  obtain ⟨rb, h2, hf⟩ := Option.bind_eq_some_iff.mp hf
  split at hf
  · rename_i lo hi e1 e2
    split at hf
    · rename_i hn
      cases hf
      refine to_i (pi_range2 hg hm (pa_cons pe_w (pa_cons pe_w pa_nil he2) he) hs hs2) (ha.pub h1 rel fun v H1 G1 g1 vr => hb.pub h2 (rel.grow g1) fun w H2 G2 g2 wr => ?_)
      rw [e1] at vr
      rw [e2] at wr
      have ev := vr.int
      have ew := wr.int
      subst ev ew
      exact ⟨lo, hi, rfl, ⟨by omega, by omega, by omega, by omega⟩, q _ H2 G2 (g1.trans g2) itr_ok⟩
    · cases hf
  · cases hf

/-! ### targets -/
structure JG (X : Cx) (cm : Nat → Addr) (tg : Expr) (is : List Nat) (g : GF) : Prop where
  run : ∀ (env env' : Sl) (d : Dt) (v : V) (σ : L2.St) (H G : Hp), g d env = some env' → Rel X.K cm σ H G env → Den X.K cm G v d → ∀ Q : L2.St → Hp → Prop,
    (∀ σ', Rel X.K cm σ' H G env' → Fr σ env H G σ' env' H G → (∀ j : Nat, j ∉ is → σ'[j]? = σ[j]?) → σ'.length = σ.length → Q σ' H) → wpG X tg v σ H Q
theorem get_set {α : Type} {l : List α} {i j : Nat} {x y : α} (h : (l.set i x)[j]? = some y) : (i = j ∧ y = x ∧ j < l.length) ∨ (i ≠ j ∧ l[j]? = some y) := by
  by_cases e : i = j
  · subst e
    have hl : i < (l.set i x).length := (List.getElem?_eq_some_iff.mp h).1
    rw [List.length_set] at hl
    rw [List.getElem?_set_self hl] at h
    exact .inl ⟨rfl, (Option.some.inj h).symm, hl⟩
  · rw [List.getElem?_set_ne e] at h
    exact .inr ⟨e, h⟩
/-- what a name with data does not hold -/
theorem Held.setVal {i j : Nat} {x : Option V} {d : Dt} {a : Addr} (h : Held H (σ.set i x) (env.set i (.val d)) j a) : Held H σ env j a := by
  rcases h with ⟨od, h1, h2⟩ | ⟨dss, l, as, h1, h2, h3⟩
  · rcases get_set h1 with ⟨rfl, e, hl⟩ | ⟨ne, h1⟩
    · cases e
    · rw [List.getElem?_set_ne ne] at h2
      exact .inl ⟨od, h1, h2⟩
  · rcases get_set h1 with ⟨rfl, e, hl⟩ | ⟨ne, h1⟩
    · cases e
    · rw [List.getElem?_set_ne ne] at h2
      exact .inr ⟨dss, l, as, h1, h2, h3⟩
/-- a name gets data -/
theorem Rel.setVal {K : PySem.W.Frag} {i : Nat} {v : V} {d : Dt} (r : Rel K cm σ H G env) (h : Den K cm G v d) : Rel K cm (σ.set i (some v)) H G (env.set i (.val d)) where
  len := by rw [List.length_set, List.length_set, r.len]
  sub := r.sub
  val := fun j d' hj => by
    rcases get_set hj with ⟨rfl, e, hl⟩ | ⟨ne, hj⟩
    · cases e
      exact ⟨v, List.getElem?_set_self (by rw [r.len]; exact hl), h⟩
    · obtain ⟨w, h1, h2⟩ := r.val j d' hj
      exact ⟨w, by rw [List.getElem?_set_ne ne]; exact h1, h2⟩
  own := fun j od hj => by
    rcases get_set hj with ⟨rfl, e, hl⟩ | ⟨ne, hj⟩
    · cases e
    · obtain ⟨l, o, h1, h2, h3, h4⟩ := r.own j od hj
      exact ⟨l, o, by rw [List.getElem?_set_ne ne]; exact h1, h2, h3, h4⟩
  mat := fun j dss hj => by
    rcases get_set hj with ⟨rfl, e, hl⟩ | ⟨ne, hj⟩
    · cases e
    · obtain ⟨l, as, h1, h2⟩ := r.mat j dss hj
      exact ⟨l, as, by rw [List.getElem?_set_ne ne]; exact h1, h2⟩
  dist := fun j k a hj hk => r.dist j k a (Held.setVal hj) (Held.setVal hk)
theorem Fr.setVal {i : Nat} {v : V} {d : Dt} (s : Exx G H) : Fr σ env H G (σ.set i (some v)) (env.set i (.val d)) H G where
  gx := .refl _
  hid := fun _ _ _ n _ => n
  keep := fun _ _ h _ => h
  there := fun a o h => ⟨o, h⟩
  sub := s
  fresh := fun a o h n ⟨j, q⟩ => n ⟨j, Held.setVal q⟩
  take := fun j hj => by
    rcases get_set hj with ⟨rfl, e, hl⟩ | ⟨ne, hj⟩
    · cases e
    · exact ⟨hj, List.getElem?_set_ne ne⟩
theorem jg_name {x : Str} (i : Nat) (hN : X.N.Nodup) (hi : X.N[i]? = some x := by rfl) (hx : Loc X.env.scope x := by first | exact Or.inl rfl | exact Or.inr rfl) (hf : X.fn x = true ∨ X.env.scope.names.lookup x = some .local := by first | exact .inl rfl | exact .inr rfl | assumption) : JG X cm (.Name x pos) [i] (gN i) := by
  refine ⟨fun env env' d v σ H G hg rel hd Q q pins s u I r => ?_⟩
  cases hg
  refine (pg_name hN hi hx hf).run pins s σ H v u _ I r ?_
  exact q _ (rel.setVal hd) (.setVal rel.sub) (fun j hj => List.getElem?_set_ne (fun e => hj (by rw [e]; exact List.mem_singleton.mpr rfl))) (List.length_set ..)
end
/-- several names -/
structure JGs (X : Cx) (cm : Nat → Addr) (tgs : List Expr) (is : List Nat) : Prop where
  run : ∀ (env env' : Sl) (ds : List Dt) (vs : List V) (σ : L2.St) (H G : Hp), gsN is ds env = some env' → Rel X.K cm σ H G env → DenL X.K cm G vs ds → ∀ Q : L2.St → Hp → Prop,
    (∀ σ', Rel X.K cm σ' H G env' → Fr σ env H G σ' env' H G → (∀ j : Nat, j ∉ is → σ'[j]? = σ[j]?) → σ'.length = σ.length → Q σ' H) →
    ∀ pins s us, Inv X pins σ H s → Vals vs us → wpAny (model X.prog X.w) X.A (assignInOrder ((assignEach tgs X.env).map (·.2)) us) (fun _ s' => ∃ σ' H', Inv X pins σ' H' s' ∧ Q σ' H') X.xe s
def wpGs (X : Cx) (tgs : List Expr) : TGs := fun vs σ H Q => ∀ pins s us, Inv X pins σ H s → Vals vs us → wpAny (model X.prog X.w) X.A (assignInOrder ((assignEach tgs X.env).map (·.2)) us) (fun _ s' => ∃ σ' H', Inv X pins σ' H' s' ∧ Q σ' H') X.xe s
theorem pgs_w {X : Cx} {tgs : List Expr} : PGs X tgs (wpGs X tgs) := ⟨fun pins s σ H vs us Q I r h => h pins s us I r⟩
section
variable {X : Cx} {cm : Nat → Addr} {pos : Pos}
theorem jgs_nil : JGs X cm [] [] := ⟨fun env env' ds vs σ H G hg rel hd Q q pins s us I r => by
  cases ds with
  | nil =>
    cases hg
    cases hd
    exact pgs_nil.run pins s σ H _ us Q I r ⟨rfl, q σ rel (.refl rel.sub) (fun _ _ => rfl) rfl⟩
  | cons d ds => cases hg⟩
theorem jgs_cons {x : Str} {tgs : List Expr} {is : List Nat} (i : Nat) (hN : X.N.Nodup) (hr : JGs X cm tgs is) (hi : X.N[i]? = some x := by rfl) (hx : Loc X.env.scope x := by first | exact Or.inl rfl | exact Or.inr rfl)
    (hf : X.fn x = true ∨ X.env.scope.names.lookup x = some .local := by first | exact .inl rfl | exact .inr rfl | assumption)
    (hs : (assignEach (.Name x pos :: tgs) X.env).map (·.2) = assign (.Name x pos) X.env :: (assignEach tgs X.env).map (·.2) := by rfl) : JGs X cm (.Name x pos :: tgs) (i :: is) := by
  refine ⟨fun env env' ds vs σ H G hg rel hd Q q pins s us I r => ?_⟩
  cases ds with
  | nil => cases hg
  | cons d ds =>
    cases hd with
    | cons d1 dr =>
      refine (pgs_cons (pg_name hN hi hx hf) pgs_w hs).run pins s σ H _ us Q I r ⟨_, _, rfl, ?_⟩
      refine hr.run _ _ ds _ _ H G hg (rel.setVal d1) dr Q fun σ' rel' fr' same len => ?_
      refine q σ' rel' ((Fr.setVal rel.sub).trans fr') (fun j hj => ?_) (by rw [len, List.length_set])
      have h1 : j ≠ i := fun e => hj (by rw [e]; exact List.mem_cons_self)
      have h2 : j ∉ is := fun e => hj (List.mem_cons_of_mem _ e)
      rw [same j h2, List.getElem?_set_ne h1.symm]
theorem gsN_len : ∀ {is : List Nat} {ds : List Dt} {env env' : Sl}, gsN is ds env = some env' → ds.length = is.length
  | [], [], _, _, _ => rfl
  | i :: is, d :: ds, _, _, h => by
    have h' : gsN is ds _ = _ := h
    rw [List.length_cons, List.length_cons, gsN_len h']
  | [], _ :: _, _, _, h => by cases h
  | _ :: _, [], _, _, h => by cases h
/-- (a, b, ..) = a list of that length -/
def gLst (K : PySem.W.Frag) (n : Nat) (t : TGs) : TG := fun v σ H Q => ∃ a xs, v = .ref a ∧ SqL K H a xs ∧ xs.length = n ∧ t xs σ H Q
theorem pg_lst {es : List Expr} {k : Nat} {t : TGs} {n : Nat} (hc : X.calm = true) (h : PGs X es t) (hn : (assignEach es X.env).length = n) (hst : (assignEach es X.env).findIdx? (·.1) = none) : PG X (.Tuple es k pos) (gLst X.K n t) := by
  refine ⟨fun pins s σ H v u Q I r hw => ?_⟩
  obtain ⟨a, xs, rfl, hq, hl, hw⟩ := hw
  cases r
  obtain ⟨its, rv, p, _⟩ := I.list hq
  have e : (assignEach es X.env).length = its.toArray.size := by rw [hn, ← hl, rv.length, List.size_toArray]
  rw [PyProof.Rows.assign_Tuple]
  refine wpAny_bind (wpAny_standAt ?_)
  unfold PySem.unpack
  rw [e, hst]
  refine wpAny_bind (wpAny_holding (PySem.W.kun_itemsOf (I.ok.hd hc) p.isList fun g up => ?_))
  have I1 : Inv X pins σ H { s with heap := g } := I.kept (t' := s.toks) fun b o z => up b o (Nat.ne_of_lt (Heap.lt_size z)) z
  exact h.run pins _ σ H xs _ Q I1 (by simpa using rv) hw
theorem jg_tup {es : List Expr} {k : Nat} {is : List Nat} (hc : X.calm = true) (h : JGs X cm es is) (hn : (assignEach es X.env).length = is.length := by rfl) (hst : (assignEach es X.env).findIdx? (·.1) = none := by rfl) : JG X cm (.Tuple es k pos) is (gT is) := by
  refine ⟨fun env env' d v σ H G hg rel hd Q q pins s u I r => ?_⟩
  unfold gT at hg
  split at hg
  · rename_i ds
    cases hd with
    | tup h1 h2 =>
      refine (pg_tup hc pgs_w hn hst).run pins s σ H _ u Q I r ⟨_, _, rfl, rel.sub.sqT h1, ?_, ?_⟩
      · rw [h2.length, gsN_len hg]
      · exact h.run env env' ds _ σ H G hg rel h2 Q q
  · rename_i ds
    cases hd with
    | lst h1 h2 =>
      refine (pg_lst hc pgs_w hn hst).run pins s σ H _ u Q I r ⟨_, _, rfl, rel.sub.sqL h1, ?_, ?_⟩
      · rw [h2.length, gsN_len hg]
      · exact h.run env env' ds _ σ H G hg rel h2 Q q
  · cases hg
end
end Pyl
end
section
set_option Elab.async false
set_option linter.all false
set_option maxRecDepth 100000
set_option maxHeartbeats 4000000
/-! zip of two sequences, each a list (kind true) or a tuple (kind false) -/
namespace Pyl
open PySem L2
/-- a sequence of the kind k at an address; its iterator -/
def KSeq (k : Bool) (h : Heap) (l : Addr) (its : Array Value) : Prop := match k with
  | true => h.IsList l its
  | false => h.IsTuple l its
def KIt (k : Bool) (h : Heap) (p l : Addr) (n : Nat) : Prop := match k with
  | true => h.IsListIter p l n
  | false => h.IsTupleIter p l n
def itName (k : Bool) : String := bif k then "list_iterator" else "tuple_iterator"
def itObj (k : Bool) (l : Addr) : Obj := { cls := .type (itName k), data := .fields #[.ref l, .int 0 0] }
theorem KSeq.ex {k : Bool} {h : Heap} {l : Addr} {its : Array Value} (q : KSeq k h l its) : ∃ o, h.get? l = some o ∧ ∀ h2 : Heap, h2.get? l = some o → KSeq k h2 l its := by
  cases k <;> (obtain ⟨o, e, r⟩ := q; exact ⟨o, e, fun h2 e2 => ⟨o, e2, r⟩⟩)
theorem KIt.ex {k : Bool} {h : Heap} {p l : Addr} {n : Nat} (q : KIt k h p l n) : ∃ o, h.get? p = some o ∧ (∀ v, o.data ≠ .cell v) ∧ ∀ h2 : Heap, h2.get? p = some o → KIt k h2 p l n := by
  cases k <;> (obtain ⟨o, e, c, d⟩ := q; exact ⟨o, e, fun v z => (by rw [d] at z; cases z), fun h2 e2 => ⟨o, e2, c, d⟩⟩)
theorem KSeq.to {k : Bool} {h h2 : Heap} {l : Addr} {its : Array Value} (q : KSeq k h l its) (e : ∀ o, h.get? l = some o → h2.get? l = some o) : KSeq k h2 l its := by
  obtain ⟨o, e1, f⟩ := q.ex
  exact f h2 (e o e1)
theorem KIt.to {k : Bool} {h h2 : Heap} {p l : Addr} {n : Nat} (q : KIt k h p l n) (e : ∀ o, h.get? p = some o → h2.get? p = some o) : KIt k h2 p l n := by
  obtain ⟨o, e1, _, f⟩ := q.ex
  exact f h2 (e o e1)
theorem KSeq.lt {k : Bool} {h : Heap} {l : Addr} {its : Array Value} (q : KSeq k h l its) : l < h.objs.size := by
  obtain ⟨o, e, _⟩ := q.ex
  exact Heap.lt_size e
theorem KIt.lt {k : Bool} {h : Heap} {p l : Addr} {n : Nat} (q : KIt k h p l n) : p < h.objs.size := by
  obtain ⟨o, e, _⟩ := q.ex
  exact Heap.lt_size e
section
variable {pg : Program} {wd : World} {ar : Around} {B : Value → Shared → Prop} {t : Shared}
theorem k_next {k : Bool} {p l : Addr} {n : Nat} {its : Array Value} {u : Value} {R : Value → Shared → Prop} (hp : KIt k t.heap p l n) (hl : KSeq k t.heap l its) (hu : its[n]? = some u)
    (hR : ∀ g, KIt k g p l (n + 1) → Heap.SameBut p t.heap g → R u { t with heap := g }) : wpAny (model pg wd) ar (Builtin.SmallTypes.nextOf (.ref p)) R B t := by
  cases k
  · exact RZ.nextOf_tuple_item hp hl hu hR
  · exact wpAny_nextOf_list_item hp hl hu hR
theorem k_last {k : Bool} {p l : Addr} {n : Nat} {its : Array Value} {R : Value → Shared → Prop} (hd : ar.handled = none) (hp : KIt k t.heap p l n) (hl : KSeq k t.heap l its) (hu : its[n]? = none)
    (hB : ∀ g e, Heap.ExtBut p t.heap g → (∃ o, g.get? e = some o ∧ o.cls = .type "StopIteration") → B (.ref e) { t with heap := g }) : wpAny (model pg wd) ar (Builtin.SmallTypes.nextOf (.ref p)) R B t := by
  cases k
  · exact RZ.nextOf_tuple_end hd hp hl hu hB
  · exact wpAny_nextOf_list_end hd hp hl hu hB
theorem k_iter {k : Bool} {l : Addr} {its : Array Value} {R : Value → Shared → Prop} (hl : KSeq k t.heap l its) (hR : R (.ref t.heap.objs.size) { t with heap := t.heap.push (itObj k l) }) : wpAny (model pg wd) ar (pyIter (.ref l)) R B t := by
  cases k
  · exact wpAny_pyIter_tuple hl hR
  · exact wpAny_pyIter_list hl hR

variable {c d : Bool} {q QI QO p1 p2 m1 m2 : Addr} {n : Nat} {us ws : Array Value} {u v f g : Value}
/-- what of a zip's turn stays the same -/
structure ZSt (c d : Bool) (h : Heap) (q QI QO p1 p2 m1 m2 : Addr) (n : Nat) (f : Value) : Prop where
  z : IsZip h q QI QO f
  i : IsPair h QI (.ref p1) (.ref p2)
  o : ∃ a b, IsPair h QO a b
  a : KIt c h p1 m1 n
  b : KIt d h p2 m2 n
theorem k_turn {R : Value → Shared → Prop} (D : ZipApart q QI QO p1 p2 m1 m2) (S : ZSt c d t.heap q QI QO p1 p2 m1 m2 n .none) (hu : KSeq c t.heap m1 us) (hw : KSeq d t.heap m2 ws) (eu : us[n]? = some u) (ew : ws[n]? = some v)
    (hR : ∀ g, ZSt c d g q QI QO p1 p2 m1 m2 (n + 1) (rawInt t.heap.objs.size) → IsPair g t.heap.objs.size u v →
      (∀ a o, a ≠ q → a ≠ QO → a ≠ p1 → a ≠ p2 → t.heap.get? a = some o → g.get? a = some o) → R (.ref t.heap.objs.size) { t with heap := g }) :
    wpAny (model pg wd) ar (Builtin.«zip.__next__» ⟨[.ref q], []⟩) (fun fin t2 => ∃ x, fin = .done (.ret x) ∧ R x t2) B t := by
  obtain ⟨gz, gi, ⟨f, g, go⟩, g1, g2⟩ := S
  show wpAny _ _ (field (.ref q) 2 >>= _) _ _ _
  refine wpAny_bind <| wpAny_field gz rfl (x := .bool false) rfl ?_
  show wpAny _ _ (field (.ref q) 3 >>= _) _ _ _
  refine wpAny_bind <| wpAny_field gz rfl (x := .ref QI) rfl (wpAny_bind (wpAny_seqItems gi rfl ?_))
  show wpAny _ _ (Builtin.SmallTypes.ownedTupleIsFree (.ref q) >>= _) _ _ _
  refine wpAny_bind ?_
  unfold Builtin.SmallTypes.ownedTupleIsFree
  refine wpAny_bind <| wpAny_field gz rfl (x := .none) rfl (wpAny_pure ?_)
  simp only [if_true]
  refine wpAny_bind <| wpAny_rule <| wpAny_bind <| wpAny_field gz rfl (x := .ref QO) rfl ?_
  refine wpAny_bind <| wpAny_setField_rec gz (by simp) fun x1 gz1 e1 => ?_
  replace gz1 : IsZip x1 q QI QO .ellipsis := gz1
  refine wpAny_bind ?_
  simp only [List.zipIdx_cons, List.forIn_cons, List.zipIdx_nil, List.forIn_nil]
  refine wpAny_bind <| wpAny_bind <| wpAny_onRaise ?_
  show wpAny _ _ (Builtin.SmallTypes.nextOf (.ref p1) >>= _) _ _ _
  refine wpAny_bind <| k_next (g1.to fun _ => e1.extBut _ _ D.i1z) (hu.to fun _ => e1.extBut _ _ D.l1z) eu fun x2 g12 e2 => wpAny_pure ?_
  have go2 : IsPair x2 QO f g := e2.extBut _ _ D.TOi1 (e1.extBut _ _ D.TOz go)
  refine wpAny_bind <| wpAny_seqItems go2 rfl <| wpAny_bind <| wpAny_updateSeq_pair go2 fun x3 go3 e3 => ?_
  replace go3 : IsPair x3 QO u g := go3
  refine wpAny_bind <| wpAny_letGo <| wpAny_pure ?_
  refine wpAny_bind <| wpAny_bind <| wpAny_onRaise ?_
  show wpAny _ _ (Builtin.SmallTypes.nextOf (.ref p2) >>= _) _ _ _
  refine wpAny_bind <| k_next (g2.to fun _ z => e3.extBut _ _ D.TOi2.symm (e2.extBut _ _ D.i12.symm (e1.extBut _ _ D.i2z z))) (hw.to fun _ z => e3.extBut _ _ D.l2TO (e2.extBut _ _ D.l2i1 (e1.extBut _ _ D.l2z z))) ew fun x4 g24 e4 => wpAny_pure ?_
  have go4 : IsPair x4 QO u g := e4.extBut _ _ D.TOi2 go3
  refine wpAny_bind <| wpAny_seqItems go4 rfl <| wpAny_bind <| wpAny_updateSeq_pair go4 fun x5 go5 e5 => ?_
  replace go5 : IsPair x5 QO u v := go5
  refine wpAny_bind <| wpAny_letGo <| wpAny_pure <| wpAny_pure ?_
  refine wpAny_bind <| wpAny_seqItems go5 rfl <| wpAny_bind <| wpAny_newTuple ?_
  have ez : x5.objs.size = t.heap.objs.size := by rw [e5.1, e4.1, e3.1, e2.1, e1.1]
  have gz5 : IsZip x5 q QI QO .ellipsis := e5.extBut _ _ D.TOz.symm (e4.extBut _ _ D.i2z.symm (e3.extBut _ _ D.TOz.symm (e2.extBut _ _ D.i1z.symm gz1)))
  have up5 : ∀ a o, a ≠ q → a ≠ QO → a ≠ p1 → a ≠ p2 → t.heap.get? a = some o → x5.get? a = some o := fun a o n1 n2 n3 n4 z =>
    e5.extBut _ _ n2 (e4.extBut _ _ n4 (e3.extBut _ _ n2 (e2.extBut _ _ n3 (e1.extBut _ _ n1 z))))
  have g15 : KIt c x5 p1 m1 (n + 1) := g12.to fun _ z => e5.extBut _ _ D.TOi1.symm (e4.extBut _ _ D.i12 (e3.extBut _ _ D.TOi1.symm z))
  have g25 : KIt d x5 p2 m2 (n + 1) := g24.to fun _ z => e5.extBut _ _ D.TOi2.symm z
  have lq : q < x5.objs.size := Heap.lt_size gz5
  show wpAny _ _ (Builtin.SmallTypes.ownedTupleHandOut (.ref q) (.ref x5.objs.size) >>= _) _ _ _
  refine wpAny_bind (by
    unfold Builtin.SmallTypes.ownedTupleHandOut
    have gz6 : IsZip (x5.push { cls := .type "tuple", data := .seq #[u, v] }) q QI QO .ellipsis := Heap.get?_push_of_some _ gz5
    refine wpAny_bind <| wpAny_setField_rec gz6 (by simp) fun x7 gz7 e7 => ?_
    replace gz7 : IsZip x7 q QI QO (rawInt x5.objs.size) := gz7
    refine wpAny_setField_rec gz7 (by simp) fun x8 gz8 e8 => ?_
    replace gz8 : IsZip x8 q QI QO (rawInt x5.objs.size) := gz8
    have up : ∀ a o, a ≠ q → x5.get? a = some o → x8.get? a = some o := fun a o n1 z => e8.extBut _ _ n1 (e7.extBut _ _ n1 (Heap.get?_push_of_some _ z))
    have gT : IsPair x8 x5.objs.size u v := e8.extBut _ _ (Nat.ne_of_gt lq) (e7.extBut _ _ (Nat.ne_of_gt lq) (Heap.get?_push_size _ rfl))
    rw [ez] at gz8 gT
    refine wpAny_pure ⟨_, rfl, ?_⟩
    show R (.ref x5.objs.size) _
    rw [ez]
    exact hR x8 ⟨gz8, up _ _ D.TIz (up5 _ _ D.TIz D.TITO D.TIi1 D.TIi2 gi), ⟨_, _, up _ _ D.TOz go5⟩, g15.to fun _ => up _ _ D.i1z, g25.to fun _ => up _ _ D.i2z⟩ gT fun a o n1 n2 n3 n4 z => up a o n1 (up5 a o n1 n2 n3 n4 z))
theorem k_stop {R : PySem.Fin → Shared → Prop} (hd : ar.handled = none) (D : ZipApart q QI QO p1 p2 m1 m2) (S : ZSt c d t.heap q QI QO p1 p2 m1 m2 n .none) (hu : KSeq c t.heap m1 us) (hw : KSeq d t.heap m2 ws) (en : us[n]? = none ∨ ws[n]? = none)
    (hB : ∀ g e, (∀ a o, a ≠ q → a ≠ QO → a ≠ p1 → a ≠ p2 → t.heap.get? a = some o → g.get? a = some o) → (∃ o, g.get? e = some o ∧ o.cls = .type "StopIteration") → B (.ref e) { t with heap := g }) :
    wpAny (model pg wd) ar (Builtin.«zip.__next__» ⟨[.ref q], []⟩) R B t := by
  obtain ⟨gz, gi, ⟨f, g, go⟩, g1, g2⟩ := S
  show wpAny _ _ (field (.ref q) 2 >>= _) _ _ _
  refine wpAny_bind <| wpAny_field gz rfl (x := .bool false) rfl ?_
  show wpAny _ _ (field (.ref q) 3 >>= _) _ _ _
  refine wpAny_bind <| wpAny_field gz rfl (x := .ref QI) rfl (wpAny_bind (wpAny_seqItems gi rfl ?_))
  show wpAny _ _ (Builtin.SmallTypes.ownedTupleIsFree (.ref q) >>= _) _ _ _
  refine wpAny_bind ?_
  unfold Builtin.SmallTypes.ownedTupleIsFree
  refine wpAny_bind <| wpAny_field gz rfl (x := .none) rfl (wpAny_pure ?_)
  simp only [if_true]
  refine wpAny_bind <| wpAny_rule <| wpAny_bind <| wpAny_field gz rfl (x := .ref QO) rfl ?_
  refine wpAny_bind <| wpAny_setField_rec gz (by simp) fun x1 gz1 e1 => ?_
  replace gz1 : IsZip x1 q QI QO .ellipsis := gz1
  refine wpAny_bind ?_
  simp only [List.zipIdx_cons, List.forIn_cons, List.zipIdx_nil, List.forIn_nil]
  refine wpAny_bind <| wpAny_bind <| wpAny_onRaise ?_
  show wpAny _ _ (Builtin.SmallTypes.nextOf (.ref p1) >>= _) _ _ _
  have fin : ∀ (y : Heap) (e : Addr), IsZip y q QI QO .ellipsis → (∃ o, y.get? e = some o ∧ o.cls = .type "StopIteration") → (∀ a o, a ≠ q → a ≠ QO → a ≠ p1 → a ≠ p2 → t.heap.get? a = some o → y.get? a = some o) →
      wpAny (model pg wd) ar (setField (.ref q) 0 .none) (fun _ => B (.ref e)) B { t with heap := y } := fun y e zy he k => by
    obtain ⟨oe, w1, w2⟩ := he
    have ne : e ≠ q := fun x => by subst x; rw [zy] at w1; cases w1; simp at w2
    exact wpAny_setField_rec zy (by simp) fun y2 _ ey => hB y2 e (fun a o n1 n2 n3 n4 x => ey.extBut _ _ n1 (k a o n1 n2 n3 n4 x)) ⟨oe, ey.extBut _ _ ne w1, w2⟩
  cases eu : us[n]? with
  | none =>
    refine wpAny_bind <| k_last hd (g1.to fun _ => e1.extBut _ _ D.i1z) (hu.to fun _ => e1.extBut _ _ D.l1z) eu fun x2 e e2 he => ?_
    exact fin x2 e (e2 _ _ D.i1z.symm gz1) he fun a o n1 _ n3 _ x => e2 _ _ n3 (e1.extBut _ _ n1 x)
  | some u =>
    have ew : ws[n]? = none := by
      rcases en with z | z
      · rw [eu] at z; cases z
      · exact z
    refine wpAny_bind <| k_next (g1.to fun _ => e1.extBut _ _ D.i1z) (hu.to fun _ => e1.extBut _ _ D.l1z) eu fun x2 g12 e2 => wpAny_pure ?_
    have go2 : IsPair x2 QO f g := e2.extBut _ _ D.TOi1 (e1.extBut _ _ D.TOz go)
    refine wpAny_bind <| wpAny_seqItems go2 rfl <| wpAny_bind <| wpAny_updateSeq_pair go2 fun x3 go3 e3 => ?_
    refine wpAny_bind <| wpAny_letGo <| wpAny_pure ?_
    refine wpAny_bind <| wpAny_bind <| wpAny_onRaise ?_
    show wpAny _ _ (Builtin.SmallTypes.nextOf (.ref p2) >>= _) _ _ _
    refine wpAny_bind <| k_last hd (g2.to fun _ z => e3.extBut _ _ D.TOi2.symm (e2.extBut _ _ D.i12.symm (e1.extBut _ _ D.i2z z))) (hw.to fun _ z => e3.extBut _ _ D.l2TO (e2.extBut _ _ D.l2i1 (e1.extBut _ _ D.l2z z))) ew fun x4 e e4 he => ?_
    exact fin x4 e (e4 _ _ D.i2z.symm (e3.extBut _ _ D.TOz.symm (e2.extBut _ _ D.i1z.symm gz1))) he fun a o n1 n2 n3 n4 x => e4 _ _ n4 (e3.extBut _ _ n2 (e2.extBut _ _ n3 (e1.extBut _ _ n1 x)))
theorem k_pyNext {R : Option Value → Shared → Prop} (D : ZipApart q QI QO p1 p2 m1 m2) (S : ZSt c d t.heap q QI QO p1 p2 m1 m2 n .none) (hu : KSeq c t.heap m1 us) (hw : KSeq d t.heap m2 ws) (eu : us[n]? = some u) (ew : ws[n]? = some v)
    (hR : ∀ g, ZSt c d g q QI QO p1 p2 m1 m2 (n + 1) (rawInt t.heap.objs.size) → IsPair g t.heap.objs.size u v →
      (∀ a o, a ≠ q → a ≠ QO → a ≠ p1 → a ≠ p2 → t.heap.get? a = some o → g.get? a = some o) → R (some (.ref t.heap.objs.size)) { t with heap := g }) :
    wpAny (model pg wd) ar (pyNext (.ref q)) R B t := by
  have ty : t.TypeIs (.ref q) "zip" := ⟨_, S.z, rfl⟩
  unfold pyNext
  refine wpAny_bind <| wpAny_attempt <| wpAny_callSpecial?_slot (name := Str.ofString "__next__") ty F.slot_zip_next ?_
  exact wpAny_call_entry F.slot_zip_next ty F.entry_zip_next (k_turn D S hu hw eu ew fun g s1 s2 s3 => wpAny_pure (hR g s1 s2 s3)) (F.args_zip_next_1 _)
theorem k_pyStop {R : Option Value → Shared → Prop} (hd : ar.handled = none) (D : ZipApart q QI QO p1 p2 m1 m2) (S : ZSt c d t.heap q QI QO p1 p2 m1 m2 n .none) (hu : KSeq c t.heap m1 us) (hw : KSeq d t.heap m2 ws) (en : us[n]? = none ∨ ws[n]? = none)
    (hR : ∀ g, (∀ a o, a ≠ q → a ≠ QO → a ≠ p1 → a ≠ p2 → t.heap.get? a = some o → g.get? a = some o) → R none { t with heap := g }) : wpAny (model pg wd) ar (pyNext (.ref q)) R B t := by
  have ty : t.TypeIs (.ref q) "zip" := ⟨_, S.z, rfl⟩
  unfold pyNext
  refine wpAny_bind <| wpAny_attempt <| wpAny_callSpecial?_slot (name := Str.ofString "__next__") ty F.slot_zip_next ?_
  refine wpAny_call_entry F.slot_zip_next ty F.entry_zip_next (k_stop hd D S hu hw en fun g e k he => ?_) (F.args_zip_next_1 _)
  obtain ⟨o, e1, e2⟩ := he
  exact wpAny_bind <| wpAny_isInstance (T := "StopIteration") (b := true) ⟨o, e1, e2⟩ isSubtype_stop <| wpAny_pure (hR _ k)
end
/-! the making -/
abbrev zA (c : Bool) (h : Heap) (m1 : Addr) : Heap := h.push (itObj c m1)
abbrev zB (c d : Bool) (h : Heap) (m1 m2 : Addr) : Heap := (zA c h m1).push (itObj d m2)
abbrev zC (c d : Bool) (h : Heap) (m1 m2 : Addr) : Heap := (zB c d h m1 m2).push { cls := .type "tuple", data := .seq #[.ref h.objs.size, .ref (zA c h m1).objs.size] }
abbrev zD (c d : Bool) (h : Heap) (m1 m2 : Addr) : Heap := (zC c d h m1 m2).push { cls := .type "tuple", data := .seq #[.none, .none] }
abbrev zE (c d : Bool) (h : Heap) (m1 m2 : Addr) : Heap := (zD c d h m1 m2).push { cls := .type "zip", data := .fields #[.none, .bool false, .bool false, .ref (zB c d h m1 m2).objs.size, .ref (zC c d h m1 m2).objs.size] }
theorem k_made (c d : Bool) (m1 m2 : Addr) (us ws : Array Value) : Meets (Builtin.«zip.__new__» ⟨[.type "zip", .ref m1, .ref m2], []⟩)
    (fun _ R t => KSeq c t.heap m1 us ∧ KSeq d t.heap m2 ws ∧ R (.ok (.ret (.ref (zD c d t.heap m1 m2).objs.size))) { t with heap := zE c d t.heap m1 m2 }) :=
  .of_wp fun pg wd ar R t z => by
    obtain ⟨hp, g, dd, tk, os⟩ := t
    obtain ⟨z1, z2, z⟩ := z
    have hsub := sub_zip
    have q1 : KSeq c (Shared.heap ⟨hp, g, dd, tk, os⟩) m1 us := z1
    have q2 : KSeq d (Shared.heap ⟨hp.push (itObj c m1), g, dd, tk, os⟩) m2 ws := z2.to fun o e => Heap.get?_push_of_some _ e
    wp_walk using k_iter q1, k_iter q2
    exact ⟨_, rfl, z⟩
theorem itObj_it (k : Bool) {h : Heap} {p l : Addr} (e : h.get? p = some (itObj k l)) : KIt k h p l 0 := by
  cases k <;> exact ⟨_, e, rfl, rfl⟩
section
variable {pg : Program} {wd : World} {ar : Around} {B : Value → Shared → Prop} {t : Shared} {c d : Bool} {us ws : Array Value} {m1 m2 : Addr}
theorem k_zip {R : Value → Shared → Prop} (hu : KSeq c t.heap m1 us) (hw : KSeq d t.heap m2 ws)
    (hR : ∀ g, ZSt c d g (t.heap.objs.size + 4) (t.heap.objs.size + 2) (t.heap.objs.size + 3) t.heap.objs.size (t.heap.objs.size + 1) m1 m2 0 .none →
      (∀ a o, t.heap.get? a = some o → g.get? a = some o) → R (.ref (t.heap.objs.size + 4)) { t with heap := g }) :
    wpAny (model pg wd) ar (call (.type "zip") [.ref m1, .ref m2]) R B t := by
  refine callType_new F.called_zip (by decide) (F.typeCall_zip_2 _ _) (F.newCall_zip_2 _ _) (fun ob => F.args_object_init_3 ob _ _) F.entry_zip_new (k_made c d m1 m2 us ws) ⟨hu, hw, ?_⟩
  have sA : (zA c t.heap m1).objs.size = t.heap.objs.size + 1 := Heap.size_push ..
  have sB : (zB c d t.heap m1 m2).objs.size = t.heap.objs.size + 2 := by rw [Heap.size_push, sA]
  have sC : (zC c d t.heap m1 m2).objs.size = t.heap.objs.size + 3 := by rw [Heap.size_push, sB]
  have sD : (zD c d t.heap m1 m2).objs.size = t.heap.objs.size + 4 := by rw [Heap.size_push, sC]
  have up := fun (h : Heap) (ob : Obj) (a : Addr) (o : Obj) (e : h.get? a = some o) => Heap.get?_push_of_some (h := h) ob e
  have gE : (zE c d t.heap m1 m2).get? (zD c d t.heap m1 m2).objs.size = some _ := Heap.get?_push_size _ rfl
  have gD : (zE c d t.heap m1 m2).get? (zC c d t.heap m1 m2).objs.size = some _ := up _ _ _ _ (Heap.get?_push_size _ rfl)
  have gC : (zE c d t.heap m1 m2).get? (zB c d t.heap m1 m2).objs.size = some _ := up _ _ _ _ (up _ _ _ _ (Heap.get?_push_size _ rfl))
  have gB : (zE c d t.heap m1 m2).get? (zA c t.heap m1).objs.size = some _ := up _ _ _ _ (up _ _ _ _ (up _ _ _ _ (Heap.get?_push_size _ rfl)))
  have gA : (zE c d t.heap m1 m2).get? t.heap.objs.size = some _ := up _ _ _ _ (up _ _ _ _ (up _ _ _ _ (up _ _ _ _ (Heap.get?_push_size _ rfl))))
  show _ ∧ _
  rw [sB, sC, sD] at gE
  rw [sA, sB] at gC
  rw [sC] at gD
  rw [sA] at gB
  rw [sD]
  exact ⟨⟨_, gE, rfl⟩, hR _ ⟨gE, gC, ⟨_, _, gD⟩, itObj_it c gA, itObj_it d gB⟩ fun a o e => up _ _ _ _ (up _ _ _ _ (up _ _ _ _ (up _ _ _ _ (up _ _ _ _ e))))⟩
end
/-! the walk over it -/
def SqK (K : PySem.W.Frag) (k : Bool) (H : Hp) (a : Addr) (vs : List V) : Prop := match k with
  | true => SqL K H a vs
  | false => SqT K H a vs
theorem inv_sq {X : Cx} {pins : List (Addr × Obj)} {σ : L2.St} {H : Hp} {s : Shared} {k : Bool} {a : Addr} {vs : List V} (I : Inv X pins σ H s) (h : SqK X.K k H a vs) : ∃ its : List Value, Vals vs its ∧ KSeq k s.heap a its.toArray := by
  cases k
  · obtain ⟨its, r, p, _⟩ := I.tuple h
    exact ⟨its, r, p⟩
  · obtain ⟨its, r, p, _⟩ := I.list h
    exact ⟨its, r, p.isList⟩
theorem inv_one {X : Cx} {pins : List (Addr × Obj)} {σ : L2.St} {H : Hp} {s : Shared} {k : Bool} {a : Addr} {vs ws : List V} (I : Inv X pins σ H s) (h : SqK X.K k H a vs) (h' : SqK X.K k H a ws) : vs = ws := by
  cases k
  · exact I.tuple_inj h h'
  · exact I.list_inj h h'
def ItK (K : PySem.W.Frag) (c d : Bool) (a b : Addr) : It where
  go := fun i H => ∃ vs ws x y, SqK K c H a vs ∧ SqK K d H b ws ∧ vs[i]? = some x ∧ ws[i]? = some y
  yld := fun i H v H' => ∃ T x y, (v = .ref T ∧ H T = none ∧ H' = upd H T (.tup [x, y])) ∧ (∀ vs, SqK K c H a vs → vs[i]? = some x) ∧ ∀ ws, SqK K d H b ws → ws[i]? = some y
  stop := fun i H => ∃ vs ws, SqK K c H a vs ∧ SqK K d H b ws ∧ (vs.length ≤ i ∨ ws.length ≤ i)
theorem five {q QI QO p1 p2 a : Addr} {P : Addr → Prop} (ha : a ∈ [q, QI, QO, p1, p2]) (h1 : P q) (h2 : P QI) (h3 : P QO) (h4 : P p1) (h5 : P p2) : P a := by
  have e : a = q ∨ a = QI ∨ a = QO ∨ a = p1 ∨ a = p2 := by simpa using ha
  rcases e with e | e | e | e | e <;> (rw [e]; assumption)
theorem k_walk {P : Program} {w : World} {K : PySem.W.Frag} {elts : List Expr} {kk : Nat} {tpos : Pos} {c d : Bool} {a b q QI QO p1 p2 : Addr} (D : ZipApart q QI QO p1 p2 a b) :
    Turn P w K (.Tuple elts kk tpos) (ItK K c d a b) [q, QI, QO, p1, p2] q (fun i h => ZSt c d h q QI QO p1 p2 a b i .none) where
  mem := List.mem_cons_self
  obj := fun i h S x hx => by
    obtain ⟨f, g, go⟩ := S.o
    obtain ⟨o1, e1, f1, _⟩ := S.a.ex
    obtain ⟨o2, e2, f2, _⟩ := S.b.ex
    exact five (P := fun x => ∃ o, h.get? x = some o ∧ ∀ v, o.data ≠ .cell v) hx ⟨_, S.z, fun v z => nomatch z⟩ ⟨_, S.i, fun v z => nomatch z⟩ ⟨_, go, fun v z => nomatch z⟩ ⟨o1, e1, f1⟩ ⟨o2, e2, f2⟩
  keep := fun i h h' S k => by
    obtain ⟨f, g, go⟩ := S.o
    exact ⟨k q (by simp) _ S.z, k QI (by simp) _ S.i, ⟨f, g, k QO (by simp) _ go⟩, S.a.to fun o z => k p1 (by simp) o z, S.b.to fun o z => k p2 (by simp) o z⟩
  item := by
    intro X hP hw hK hc i pins s σ H E I hf S hg
    subst hP hw hK
    obtain ⟨vs, ws, x, y, hv, hw, ex, ey⟩ := hg
    obtain ⟨us1, r1, k1⟩ := inv_sq I hv
    obtain ⟨us2, r2, k2⟩ := inv_sq I hw
    obtain ⟨u, eu, ru⟩ := r1.get ex
    obtain ⟨u2, eu2, ru2⟩ := r2.get ey
    have lz : q < s.heap.objs.size := Heap.lt_size S.z
    refine k_pyNext D S k1 k2 (u := u) (v := u2) (by simpa using eu) (by simpa using eu2) fun g S' gT up => ?_
    refine ⟨_, rfl, wpAny_letOwnedTupleGo_zip (s := { s with heap := g }) S'.z fun g2 z2 sb => ?_⟩
    have gT2 : g2.get? s.heap.objs.size = some { cls := .type "tuple", data := .seq #[u, u2] } := (sb.2 _ (Nat.ne_of_gt lz)).trans gT
    have mk : ObjOk X.prog X.w (upd H s.heap.objs.size (.tup [x, y])) g2 s.heap.objs.size (.tup [x, y]) := ⟨by show 2 ≤ sizeLine; decide, [u, u2], .cons ru (.cons ru2 .nil), ⟨_, gT2, rfl, _, rfl⟩⟩
    have kp : ∀ (a : Addr) o, a ∉ [q, QI, QO, p1, p2] → s.heap.get? a = some o → g2.get? a = some o := fun a o na e =>
      (sb.2 a fun z => na (by simp [z])).trans (up a o (fun z => na (by simp [z])) (fun z => na (by simp [z])) (fun z => na (by simp [z])) (fun z => na (by simp [z])) e)
    have I2 : Inv X pins σ (upd H s.heap.objs.size (.tup [x, y])) { s with heap := g2 } := I.turnedNew (t' := s.toks) (ch := [q, QI, QO, p1, p2]) kp hf (Nat.le_refl _) mk
    have tail : ZSt c d g2 q QI QO p1 p2 a b (i + 1) .none := by
      obtain ⟨f, g, go⟩ := S'.o
      exact ⟨z2, (sb.2 _ D.TIz).trans S'.i, ⟨f, g, (sb.2 _ D.TOz).trans go⟩, S'.a.to fun o z => (sb.2 _ D.i1z).trans z, S'.b.to fun o z => (sb.2 _ D.i2z).trans z⟩
    refine ⟨.ref s.heap.objs.size, _, I2, rfl, ⟨_, x, y, ⟨rfl, I.hok.fresh (Nat.le_refl _), rfl⟩, fun l hl => by rw [inv_one I hl hv]; exact ex, fun l hl => by rw [inv_one I hl hw]; exact ey⟩, tail, fun z hz => ?_⟩
    obtain ⟨f, g, go⟩ := S.o
    have lt : z < s.heap.objs.size := five (P := fun z => z < s.heap.objs.size) hz lz (Heap.lt_size S.i) (Heap.lt_size go) S.a.lt S.b.lt
    rw [upd_ne (Nat.ne_of_lt lt)]
    exact (hf z hz).1
  done := by
    intro X hP hw hK hc i pins s σ H E I hf S hg
    subst hP hw hK
    obtain ⟨vs, ws, hv, hw, en⟩ := hg
    obtain ⟨us1, r1, k1⟩ := inv_sq I hv
    obtain ⟨us2, r2, k2⟩ := inv_sq I hw
    have l1 := r1.length
    have l2 := r2.length
    have he : us1.toArray[i]? = none ∨ us2.toArray[i]? = none := by
      rcases en with z | z
      · exact Or.inl (by simp; omega)
      · exact Or.inr (by simp; omega)
    exact k_pyStop (I.ok.hd hc) D S k1 k2 he fun g up => ⟨rfl, I.turnedL (t' := s.toks) (ch := [q, QI, QO, p1, p2]) (fun a o na e => up a o (fun z => na (by simp [z])) (fun z => na (by simp [z])) (fun z => na (by simp [z])) (fun z => na (by simp [z])) e) hf⟩
  self := fun A i s Q E S h => wpAny_pyIter_zip S.z h
def zipT (K : PySem.W.Frag) (ta : TA) : TI := fun σ H R => ta σ H fun vs H1 => ∃ c d a b xs ys, vs = [.ref a, .ref b] ∧ SqK K c H1 a xs ∧ SqK K d H1 b ys ∧ R (ItK K c d a b) H1
theorem k_over {X : Cx} {e e2 : Expr} {ta : TA} {p pos tpos : Pos} {elts : List Expr} {kk : Nat} (hg : Gl X "zip") (hm : X.mg "zip" = none) (ha : PA X [e, e2] ta)
    (h1 : starEach [e, e2] X.env = (false, eval e X.env) :: starEach [e2] X.env) (h2 : (backTo pos (starEach [e2] X.env)).any (·.1) = false) :
    PI X (.Tuple elts kk tpos) (.Call (.Name "zip" p) [e, e2] [] pos) (zipT X.K ta) := by
  refine ⟨fun pins s σ H R I h => PyProof.Rows.Call_ (ld_blt I hg hm PyProof.Rows.boot_zip (PyProof.Rows.callWith_type1 (thn (ha.run pos pins s σ H _ I h) fun us s1 z => ?_) h1 h2))⟩
  obtain ⟨vs, H1, I1, r1, c, d, a, b, xs, ys, rfl, qx, qy, z⟩ := z
  match us, r1 with
  | [_, _], .cons ra (.cons rb .nil) =>
    cases ra
    cases rb
    obtain ⟨us1, _, k1⟩ := inv_sq I1 qx
    obtain ⟨us2, _, k2⟩ := inv_sq I1 qy
    refine k_zip k1 k2 fun g S up => wpAny_pyIter_zip S.z ?_
    have fr : ∀ i : Nat, FpOk X pins H1 (s1.heap.objs.size + i) := fun i => I1.fpOk (Nat.le_add_right _ _) (I1.hok.fresh (Nat.le_add_right _ _))
    exact ⟨_, _, _, _, H1, rfl, I1.kept (t' := s1.toks) up, k_walk (PySem.W.ktu_apart s1.heap.objs.size a b k1.lt k2.lt), S, fun x hx => five hx (fr 4) (fr 2) (fr 3) (fr 0) (fr 1), z⟩
theorem itk_ok {K : PySem.W.Frag} {cm : Nat → Addr} {c d t : Bool} {a b : Addr} {vs ws : List V} {ds es : List Dt} {H0 G0 : Hp} (h1 : ∀ H G, StK H0 G0 t H G → SqK K c H a vs) (h2 : ∀ H G, StK H0 G0 t H G → SqK K d H b ws) (n1 : DenL K cm G0 vs ds) (n2 : DenL K cm G0 ws es) :
    ItOk K cm (ItK K c d a b) (List.zipWith (fun x y => Dt.tup [x, y]) ds es) t H0 G0 where
  go := fun i H G s hi => by
    rw [List.length_zipWith] at hi
    have i1 : i < vs.length := by rw [n1.length]; omega
    have i2 : i < ws.length := by rw [n2.length]; omega
    exact ⟨vs, ws, vs[i], ws[i], h1 H G s, h2 H G s, List.getElem?_eq_getElem i1, List.getElem?_eq_getElem i2⟩
  yl := fun i H G v H' s hi y => by
    obtain ⟨T, x, y, ⟨rfl, hT, rfl⟩, y1, y2⟩ := y
    obtain ⟨d1, e1, dn1⟩ := n1.get' (y1 vs (h1 _ _ s))
    obtain ⟨d2, e2, dn2⟩ := n2.get' (y2 ws (h2 _ _ s))
    have g := Grow.new (o := .tup [x, y]) s.sub hT
    refine ⟨_, .tup [d1, d2], ?_, g, .tup (SqT.of upd_same) (.cons ((dn1.mono s.gx).mono g.gx) (.one ((dn2.mono s.gx).mono g.gx)))⟩
    rw [List.getElem?_zipWith, e1, e2]
  stop := fun i H G s hi => by
    rw [List.length_zipWith] at hi
    refine ⟨vs, ws, h1 H G s, h2 H G s, ?_⟩
    rw [n1.length, n2.length]
    omega
theorem VR.seq {K : PySem.W.Frag} {cm : Nat → Addr} {H G : Hp} {v : V} {d : Dt} {t : Bool} {ds : List Dt} (s : Exx G H) (r : VR K cm H G v d t) (e : seqOf d = some ds) :
    ∃ c a vs, v = .ref a ∧ DenL K cm G vs ds ∧ SqK K c H a vs ∧ (t = false → SqK K c G a vs) := by
  cases t with
  | false =>
    cases r.2 rfl with
    | lst s1 n1 => cases e; exact ⟨true, _, _, rfl, n1, s.sqL s1, fun _ => s1⟩
    | tup s1 n1 => cases e; exact ⟨false, _, _, rfl, n1, s.sqT s1, fun _ => s1⟩
    | non => cases e
    | bl => cases e
    | int => cases e
    | str => cases e
    | obj => cases e
    | exn0 => cases e
    | exn => cases e
  | true =>
    obtain ⟨l, vs, ds', rfl, rfl, s1, n1⟩ := r.1 rfl
    cases e
    exact ⟨true, l, vs, rfl, n1, s1, fun z => nomatch z⟩
theorem SqK.ex {K : PySem.W.Frag} {c : Bool} {H H' : Hp} {a : Addr} {vs : List V} (e : Exx H H') (h : SqK K c H a vs) : SqK K c H' a vs := by
  cases c
  · exact e.sqT h
  · exact e.sqL h
theorem ji_zip {X : Cx} {cm : Nat → Addr} {a b : Expr} {fa fb : EF} {p pos tpos : Pos} {elts : List Expr} {kk : Nat} (hg : Gl X "zip") (hm : X.mg "zip" = none) (ha : JE X cm a fa) (hb : JE X cm b fb)
    (he : starEach [a, b] X.env = (false, eval a X.env) :: starEach [b] X.env := by rfl) (he2 : starEach [b] X.env = (false, eval b X.env) :: starEach [] X.env := by rfl) (hpl : (backTo pos (starEach [b] X.env)).any (·.1) = false := by rfl) : JI X cm (.Tuple elts kk tpos) (.Call (.Name "zip" p) [a, b] [] pos) (iZip fa fb) := by
  refine ⟨fun env ds t σ H G hf rel Q q => ?_⟩
  obtain ⟨ra, h1, hf⟩ := Option.bind_eq_some_iff.mp hf
  obtain ⟨rb, h2, hf⟩ := Option.bind_eq_some_iff.mp hf
  obtain ⟨xs, e1, hf⟩ := Option.bind_eq_some_iff.mp hf
  obtain ⟨ys, e2, hf⟩ := Option.bind_eq_some_iff.mp hf
  cases hf
  refine to_i (k_over hg hm (pa_cons pe_w (pa_cons pe_w pa_nil he2) he) he hpl) (ha.pub h1 rel fun v H1 G1 g1 vr => hb.pub h2 (rel.grow g1) fun w H2 G2 g2 wr => ?_)
  obtain ⟨c, l1, vs, rfl, n1, s1, t1⟩ := vr.seq g1.sub e1
  obtain ⟨d, l2, ws, rfl, n2, s2, t2⟩ := wr.seq g2.sub e2
  refine ⟨c, d, l1, l2, vs, ws, rfl, s1.ex g2.hx, s2, q _ H2 G2 (g1.trans g2) (itk_ok (fun H G s => ?_) (fun H G s => ?_) (n1.mono g2.gx) n2)⟩
  · cases ht : ra.sh with
    | false => exact ((t1 ht).ex g2.gx).ex (s.gx.trans s.sub)
    | true => exact (s1.ex g2.hx).ex (s.hx (by rw [ht]; rfl))
  · cases ht : rb.sh with
    | false => exact (t2 ht).ex (s.gx.trans s.sub)
    | true => exact s2.ex (s.hx (by rw [ht, Bool.or_true]))
end Pyl
end
section
set_option Elab.async false
set_option linter.all false
set_option maxRecDepth 100000
set_option maxHeartbeats 4000000
namespace Pyl
open PySem L2
/-! ### comprehensions -/
section
variable {X : Cx} {cm : Nat → Addr} {σ : L2.St} {H G : Hp} {env : Sl}
theorem wipeS_length (env : Sl) : ∀ is : List Nat, (wipeS env is).length = env.length
  | [] => rfl
  | i :: is => by unfold wipeS; rw [List.length_set, wipeS_length env is]
theorem wipeS_get {env : Sl} {j : Nat} {s : Slot} : ∀ {is : List Nat}, (wipeS env is)[j]? = some s → s = .non ∨ (env[j]? = some s ∧ j ∉ is)
  | [], h => .inr ⟨h, fun m => by cases m⟩
  | i :: is, h => by
    unfold wipeS at h
    rcases get_set h with ⟨_, e, _⟩ | ⟨ne, h⟩
    · exact .inl e
    · rcases wipeS_get h with e | ⟨e, n⟩
      · exact .inl e
      · refine .inr ⟨e, fun m => ?_⟩
        rcases List.mem_cons.mp m with q | q
        · exact ne q.symm
        · exact n q
theorem wipe_get {σ : L2.St} {j : Nat} : ∀ {is : List Nat}, j ∉ is → (wipe σ is)[j]? = σ[j]?
  | [], _ => rfl
  | i :: is, h => by
    unfold wipe
    rw [List.getElem?_set_ne (fun e => h (by rw [e]; exact List.mem_cons_self)), wipe_get (fun m => h (List.mem_cons_of_mem _ m))]
theorem Held.wipe {is : List Nat} {j : Nat} {a : Addr} (h : Held H (L2.wipe σ is) (wipeS env is) j a) : Held H σ env j a := by
  rcases h with ⟨od, h1, h2⟩ | ⟨dss, l, as, h1, h2, h3⟩
  · rcases wipeS_get h1 with e | ⟨e, n⟩
    · cases e
    · rw [wipe_get n] at h2
      exact .inl ⟨od, e, h2⟩
  · rcases wipeS_get h1 with e | ⟨e, n⟩
    · cases e
    · rw [wipe_get n] at h2
      exact .inr ⟨dss, l, as, e, h2, h3⟩
theorem Rel.wipe {K : PySem.W.Frag} (r : Rel K cm σ H G env) (is : List Nat) : Rel K cm (wipe σ is) H G (wipeS env is) where
  len := by rw [wipe_length, wipeS_length, r.len]
  sub := r.sub
  val := fun j d hj => by
    rcases wipeS_get hj with e | ⟨e, n⟩
    · cases e
    · rw [wipe_get n]
      exact r.val j d e
  own := fun j od hj => by
    rcases wipeS_get hj with e | ⟨e, n⟩
    · cases e
    · rw [wipe_get n]
      exact r.own j od e
  mat := fun j dss hj => by
    rcases wipeS_get hj with e | ⟨e, n⟩
    · cases e
    · rw [wipe_get n]
      exact r.mat j dss e
  dist := fun j k a hj hk => r.dist j k a (Held.wipe hj) (Held.wipe hk)
theorem ext_get {α : Type} {l l' : List α} (hl : l.length = l'.length) (h : ∀ j : Nat, l[j]? = l'[j]?) : l = l' := List.ext_getElem? h
theorem wipe_at {σ : L2.St} {j : Nat} : ∀ {is : List Nat}, j ∈ is → (wipe σ is)[j]? = if j < σ.length then some none else none
  | [], h => by cases h
  | i :: is, h => by
    unfold L2.wipe
    by_cases e : i = j
    · subst e
      by_cases hl : i < σ.length
      · rw [if_pos hl, List.getElem?_set_self (by rw [wipe_length]; exact hl)]
      · rw [if_neg hl, List.getElem?_eq_none (by rw [List.length_set, wipe_length]; omega)]
    · rw [List.getElem?_set_ne e]
      rcases List.mem_cons.mp h with q | q
      · exact absurd q.symm e
      · exact wipe_at q
theorem wipe_eq {σ σ' : L2.St} {is js : List Nat} (hl : σ'.length = σ.length) (hs : ∀ j : Nat, j ∉ js → σ'[j]? = (L2.wipe σ is)[j]?) (sub : ∀ j ∈ js, j ∈ is) : L2.wipe σ' is = L2.wipe σ is := by
  refine List.ext_getElem? fun j => ?_
  by_cases h : j ∈ is
  · rw [wipe_at h, wipe_at h, hl]
  · rw [wipe_get h, hs j (fun m => h (sub j m))]
theorem compL_cons {g : Dt → Option (List Dt)} {d : Dt} {ds out : List Dt} (h : compL g (d :: ds) = some out) : ∃ o r, g d = some o ∧ compL g ds = some r ∧ out = o ++ r := by
  obtain ⟨o, h1, h⟩ := Option.bind_eq_some_iff.mp h
  obtain ⟨r, h2, h⟩ := Option.bind_eq_some_iff.mp h
  cases h
  exact ⟨o, r, h1, h2, rfl⟩
theorem drop_get {α : Type} {l : List α} {i : Nat} {x : α} (h : l[i]? = some x) : l.drop i = x :: l.drop (i + 1) := by
  obtain ⟨hl, e⟩ := List.getElem?_eq_some_iff.mp h
  rw [← e]
  exact List.drop_eq_getElem_cons hl
/-- the tests of a comprehension: none or one -/
structure JTs (X : Cx) (cm : Nat → Addr) (ifs : List Expr) (f : TF) : Prop where
  ex : ∀ (env : Sl) (b : Bool) (σ : L2.St) (H G : Hp), f env = some b → Rel X.K cm σ H G env → ∀ Q : Bool → Hp → Prop, (∀ H' G', Grow H G H' G' → Q b H') → ∃ t : TT, PTs X ifs t ∧ t σ H Q
theorem jts_nil : JTs X cm [] tYes := ⟨fun env b σ H G hf rel Q q => ⟨_, pts_nil, by cases hf; exact q H G (.refl rel.sub)⟩⟩
theorem jts_one {c : Expr} {t : TF} (h : JT X cm c t) : JTs X cm [c] t := ⟨fun env b σ H G hf rel Q q => ⟨_, pts_one pt_w, h.run env b σ H G hf rel Q q⟩⟩
def wpTs (X : Cx) (ifs : List Expr) : TT := fun σ H Q => ∃ t : TT, PTs X ifs t ∧ t σ H Q
theorem pts_w {ifs : List Expr} : PTs X ifs (wpTs X ifs) := ⟨fun pins s σ H Q I h => by
  obtain ⟨t, h1, h2⟩ := h
  exact h1.run pins s σ H Q I h2⟩

/-- the weakest readings in every block -/
def gB (X : Cx) (scope : Scope) (tg : Expr) : TG := fun v σ H Q => ∀ (s : Shared) (H0 : Hp) (C : Addr) (cl : List (Str × Addr)) (fp : List Addr), wpG (X.blk s H0 scope (compEnvC scope cl C X.env) fp) tg v σ H Q
def tB' (X : Cx) (scope : Scope) (ifs : List Expr) : TT := fun σ H Q => ∀ (s : Shared) (H0 : Hp) (C : Addr) (cl : List (Str × Addr)) (fp : List Addr), wpTs (X.blk s H0 scope (compEnvC scope cl C X.env) fp) ifs σ H Q
def eB (X : Cx) (scope : Scope) (elt : Expr) : TE := fun σ H Q => ∀ (s : Shared) (H0 : Hp) (C : Addr) (cl : List (Str × Addr)) (fp : List Addr), wpE (X.blk s H0 scope (compEnvC scope cl C X.env) fp) elt σ H Q
theorem pg_B {scope : Scope} {tg : Expr} {s : Shared} {H0 : Hp} {C : Addr} {cl : List (Str × Addr)} {fp : List Addr} : PG (X.blk s H0 scope (compEnvC scope cl C X.env) fp) tg (gB X scope tg) := ⟨fun pins s1 σ H v u Q I r h => h s H0 C cl fp pins s1 u I r⟩
theorem pt_B {scope : Scope} {ifs : List Expr} {s : Shared} {H0 : Hp} {C : Addr} {cl : List (Str × Addr)} {fp : List Addr} : PTs (X.blk s H0 scope (compEnvC scope cl C X.env) fp) ifs (tB' X scope ifs) := ⟨fun pins s1 σ H Q I h => pts_w.run pins s1 σ H Q I (h s H0 C cl fp)⟩
theorem pe_B {scope : Scope} {elt : Expr} {s : Shared} {H0 : Hp} {C : Addr} {cl : List (Str × Addr)} {fp : List Addr} : PE (X.blk s H0 scope (compEnvC scope cl C X.env) fp) elt (eB X scope elt) := ⟨fun pins s1 σ H Q I h => h s H0 C cl fp pins s1 I⟩
/-- a comprehension's reading: its parts in every block -/
theorem je_comp {elt tg iter : Expr} {ifs : List Expr} {scope : Scope} {own : List (Str × Nat)} {js : List Nat} {fi : IF} {g : GF} {ft : TF} {fe : EF} (hc : X.calm = true) (hN : X.N.Nodup) (hi : JI X cm tg iter fi) (ok : blkC X.N X.env.scope scope own = true)
    (hg : ∀ (s : Shared) (H : Hp) (C : Addr) (cl : List (Str × Addr)) (fp : List Addr), JG (X.blk s H scope (compEnvC scope cl C X.env) fp) cm tg js g) (hj : ∀ j ∈ js, j ∈ own.map (·.2))
    (ht : ∀ (s : Shared) (H : Hp) (C : Addr) (cl : List (Str × Addr)) (fp : List Addr), JTs (X.blk s H scope (compEnvC scope cl C X.env) fp) cm ifs ft)
    (he : ∀ (s : Shared) (H : Hp) (C : Addr) (cl : List (Str × Addr)) (fp : List Addr), JE (X.blk s H scope (compEnvC scope cl C X.env) fp) cm elt fe) (hs : ∀ x, foldedSetIterable iter X.env x = pure x := by intro _; rfl) :
    (∀ (env : Sl) (r : R) (σ : L2.St) (H G : Hp), eComp (own.map (·.2)) fi g ft fe env = some r → Rel X.K cm σ H G env → ∀ Q : VK, (∀ v H' G', Grow H G H' G' → RR X.K cm H H' G' v r → Q v H') →
      tLc (wpI X tg iter) (gB X scope tg) (tB' X scope ifs) (eB X scope elt) (own.map (·.2)) σ H Q) := by
  intro env r σ H G hf rel Q q
  obtain ⟨⟨ds, bb⟩, h1, hf⟩ := Option.bind_eq_some_iff.mp hf
  obtain ⟨out, h2, hf⟩ := Option.bind_eq_some_iff.mp hf
  dsimp only at h2 hf
  split at hf
  case isFalse => cases hf
  rename_i hlen
  cases hf
  refine hi.run env ds bb σ H G h1 rel _ fun J H1 G1 g1 jok => fun D hD => ?_
  have rel1 := rel.grow g1
  have hl := jok
  -- the invariant
  refine ⟨fun i m H' => m = ds.length - i ∧ i ≤ ds.length ∧ ∃ (G' : Hp) (av : List V) (ad ro : List Dt), Exx G' H' ∧ Exx G1 G' ∧ Exx H1 H' ∧ (∀ a o, H1 a = some o → G1 a = none → G' a = none) ∧ H' D = some (.lst av) ∧ G' D = none ∧ DenL X.K cm G' av ad ∧ ad.length ≤ i ∧
    compL (compG env (own.map (·.2)) g ft fe) (ds.drop i) = some ro ∧ out = ad ++ ro, ⟨ds.length, rfl, Nat.zero_le _, G1, [], [], out, (Grow.hide g1.sub hD).sub, .refl _, .new hD, fun _ _ _ n => n, upd_same, g1.sub.back hD, .nil, Nat.le_refl _, by rw [List.drop_zero]; exact h2, rfl⟩, ?_⟩
  rintro i m H' ⟨rfl, hi', G', av, ad, ro, sub, gx, hx, hid, hHD, hGD, den, hal, hro, hout⟩
  have st : StK H1 G1 bb H' G' := ⟨sub, gx, fun _ => hx⟩
  by_cases hlt : i < ds.length
  · refine .inr ⟨jok.go i H' G' st hlt, fun H2 => i + 1 ≤ ds.length ∧ ∃ (G' : Hp) (av : List V) (ad ro : List Dt), Exx G' H2 ∧ Exx G1 G' ∧ Exx H1 H2 ∧ (∀ a o, H1 a = some o → G1 a = none → G' a = none) ∧ H2 D = some (.lst av) ∧ G' D = none ∧ DenL X.K cm G' av ad ∧ ad.length ≤ i + 1 ∧
      compL (compG env (own.map (·.2)) g ft fe) (ds.drop (i + 1)) = some ro ∧ out = ad ++ ro, fun H2 hw => ⟨ds.length - (i + 1), by omega, rfl, hw⟩, fun v H2 hy => ?_⟩
    obtain ⟨G2, d, hd, g2, dn⟩ := jok.yl i H' G' v H2 st hlt hy
    rw [drop_get hd] at hro
    obtain ⟨o, ro', ho, hro', rfl⟩ := compL_cons hro
    obtain ⟨env', hg', ho⟩ := Option.bind_eq_some_iff.mp ho
    obtain ⟨t, ht', ho⟩ := Option.bind_eq_some_iff.mp ho
    have relb : Rel X.K cm (L2.wipe σ (own.map (·.2))) H2 G2 (wipeS env (own.map (·.2))) := by
      refine ((Rel.grow rel1 (H' := H') (G' := G') ⟨hx, gx, hid, sub⟩).grow g2).wipe _
    intro s H0 C cl fp
    refine (hg s H0 C cl fp).run _ env' d v _ H2 G2 hg' relb dn _ fun σ' rel' fr' same len => ⟨wipe_eq (len.trans (wipe_length _ _)) same hj, ?_⟩
    intro s H0 C cl fp
    refine (ht s H0 C cl fp).ex env' t σ' H2 G2 ht' rel' _ fun H3 G3 g3 => ?_
    have g23 := g2.trans g3
    have hx3 := hx.trans g23.hx
    have gx3 := gx.trans g23.gx
    have hid3 : ∀ a o, H1 a = some o → G1 a = none → G3 a = none := fun a o h n => g23.hid a o (hx a o h) (hid a o h n)
    have hD3 := g23.hx D _ hHD
    have gD3 := g23.hid D _ hHD hGD
    cases t with
    | false =>
      cases ho
      exact iteF ⟨hlt, G3, av, ad, ro', g3.sub, gx3, hx3, hid3, hD3, gD3, den.mono g23.gx, by omega, hro', hout⟩
    | true =>
      obtain ⟨re, he', ho⟩ := Option.bind_eq_some_iff.mp ho
      split at ho
      · cases ho
      · rename_i hsh
        cases ho
        refine iteT ?_
        intro s H0 C cl fp
        refine (he s H0 C cl fp).pub he' (rel'.grow g3) fun y H4 G4 g4 vr => ?_
        have hsh' : re.sh = false := by simpa using hsh
        rw [hsh'] at vr
        have g24 := g23.trans g4
        refine ⟨av, g24.hx D _ hHD, ?_, hlt, G4, av ++ [y], ad ++ [re.dt], ro', ?_, gx.trans g24.gx, ?_, fun a o h n => g24.hid a o (hx a o h) (hid a o h n), upd_same, g24.hid D _ hHD hGD, ?_, ?_, hro', ?_⟩
        · rw [den.length]
          exact Nat.lt_of_le_of_lt hal (Nat.lt_of_lt_of_le (Nat.lt_of_lt_of_le hlt hlen) (lim_ok (Nat.le_refl _)))
        · intro a o h
          by_cases e : a = D
          · subst e
            rw [g24.hid _ _ hHD hGD] at h
            cases h
          · rw [upd_ne e]
            exact g4.sub a o h
        · intro a o h
          rw [upd_ne (ne_of_none h hD)]
          exact g24.hx a o (hx a o h)
        · exact (den.mono g24.gx).append (.one vr.den)
        · rw [List.length_append, List.length_singleton]
          omega
        · rw [List.append_assoc]
          exact hout
  · have e : i = ds.length := by omega
    subst e
    refine .inl ⟨jok.stop _ H' G' st (Nat.le_refl _), ?_⟩
    rw [List.drop_length] at hro
    cases hro
    rw [List.append_nil] at hout
    subst hout
    refine q _ H' G' (g1.trans ⟨hx, gx, hid, sub⟩) ⟨D, _, rfl, g1.hx.back hD, hHD, hGD, den⟩
end
end Pyl
end
section
set_option Elab.async false
set_option linter.all false
set_option maxRecDepth 100000
set_option maxHeartbeats 4000000
namespace Pyl
open PySem L2
/-! ### a comprehension as a value -/
section
variable {X : Cx} {cm : Nat → Addr} {elt tg iter : Expr} {ifs : List Expr} {scope : Scope} {pos : Pos} {js : List Nat} {fi : IF} {g : GF} {ft : TF} {fe : EF}
theorem je_lc (own : List (Str × Nat)) (hc : X.calm = true) (hN : X.N.Nodup) (hi : JI X cm tg iter fi) (ok : blkC X.N X.env.scope scope own = true)
    (hg : ∀ (s : Shared) (H : Hp) (C : Addr) (cl : List (Str × Addr)) (fp : List Addr), JG (X.blk s H scope (compEnvC scope cl C X.env) fp) cm tg js g) (hj : ∀ j ∈ js, j ∈ own.map (·.2))
    (ht : ∀ (s : Shared) (H : Hp) (C : Addr) (cl : List (Str × Addr)) (fp : List Addr), JTs (X.blk s H scope (compEnvC scope cl C X.env) fp) cm ifs ft)
    (he : ∀ (s : Shared) (H : Hp) (C : Addr) (cl : List (Str × Addr)) (fp : List Addr), JE (X.blk s H scope (compEnvC scope cl C X.env) fp) cm elt fe) (hs : ∀ x, foldedSetIterable iter X.env x = pure x := by intro _; rfl) :
    JE X cm (.ListComp elt [⟨tg, iter, ifs, 0⟩] scope pos) (eComp (own.map (·.2)) fi g ft fe) :=
  ⟨fun env r σ H G hf rel Q q => to_e (pe_lc hc hN pi_w (blkOk_by ok) (fun _ _ _ _ _ => pg_B) (fun _ _ _ _ _ => pt_B) (fun _ _ _ _ _ => pe_B) hs) (je_comp hc hN hi ok hg hj ht he hs env r σ H G hf rel Q q)⟩
end

/-! ### statements -/
/-- the fields of an error, in its dict -/
def XdR (K : PySem.W.Frag) (cm : Nat → Addr) (G : Hp) (d : Option Addr) (fs : List (Str × Dt)) : Prop := (d = none ∧ fs = []) ∨ ∃ dd fv, d = some dd ∧ G dd = some (.xd fv) ∧ DenF K cm G fv fs
/-- an error that the context takes -/
def exW (X : Cx) : WX := fun cls d σ H => ∀ u s', L2N.XE X (fun c' d' σ' H' => c' = cls ∧ d' = d ∧ σ' = σ ∧ H' = H) u s' → X.xe u s'
theorem takes_exW (X : Cx) : L2N.Takes X (exW X) := fun u s' ⟨a, B, sI, pins, σ, H, cls, d, e, I, nb, up, sky, na, os, ag, w⟩ => w u s' ⟨a, B, sI, pins, σ, H, cls, d, e, I, nb, up, sky, na, os, ag, rfl, rfl, rfl, rfl⟩
theorem exW_of {X : Cx} {W : WX} (t : L2N.Takes X W) {cls : Value} {d : Option Addr} {σ : L2.St} {H : Hp} (w : W cls d σ H) : exW X cls d σ H := fun u s' ⟨a, B, sI, pins, σ', H', cls', d', e, I, nb, up, sky, na, os, ag, e1, e2, e3, e4⟩ => by
  subst e1 e2 e3 e4
  exact t u s' ⟨a, B, sI, pins, σ', H', cls', d', e, I, nb, up, sky, na, os, ag, w⟩
/-- how the ends that are wanted of the heaps follow from those that are wanted of the data -/
structure EndsOk (X : Cx) (cm : Nat → Addr) (σ : L2.St) (env : Sl) (H G : Hp) (D' : En) (D : Ends) : Prop where
  nx : ∀ σ' H' G' env', Rel X.K cm σ' H' G' env' → Fr σ env H G σ' env' H' G' → D'.nx env' → D.nx σ' H'
  rt : ∀ v H' G' d, FrH σ env H G H' G' → Den X.K cm G' v d → D'.rt d → D.rt v H'
  bk : ∀ σ' H' G' env', Rel X.K cm σ' H' G' env' → Fr σ env H G σ' env' H' G' → D'.bk env' → D.bk σ' H'
  ct : ∀ σ' H' G' env', Rel X.K cm σ' H' G' env' → Fr σ env H G σ' env' H' G' → D'.ct env' → D.ct σ' H'
  er : ∀ σ' H' G' env' c fs dd, Rel X.K cm σ' H' G' env' → Fr σ env H G σ' env' H' G' → XdR X.K cm G' dd fs → D'.er c fs env' → exW X (.ref (cm c)) dd σ' H'
structure JS (X : Cx) (cm : Nat → Addr) (st : Stmt) (w : WS) : Prop where
  run : ∀ (env : Sl) (D' : En) (σ : L2.St) (H G : Hp), w D' env → Rel X.K cm σ H G env → ∀ D : Ends, EndsOk X cm σ env H G D' D → wpS X st D σ H
structure JSs (X : Cx) (cm : Nat → Addr) (st : List Stmt) (w : WS) : Prop where
  run : ∀ (env : Sl) (D' : En) (σ : L2.St) (H G : Hp), w D' env → Rel X.K cm σ H G env → ∀ D : Ends, EndsOk X cm σ env H G D' D → wpSs X st D σ H
/-- from a later state on -/
theorem EndsOk.later {X : Cx} {cm : Nat → Addr} {σ σ1 : L2.St} {env env1 : Sl} {H G H1 G1 : Hp} {D' : En} {D : Ends} (o : EndsOk X cm σ env H G D' D) (f : Fr σ env H G σ1 env1 H1 G1) : EndsOk X cm σ1 env1 H1 G1 D' D :=
  ⟨fun σ' H' G' env' r g => o.nx σ' H' G' env' r (f.trans g), fun v H' G' d g => o.rt v H' G' d (f.trH g), fun σ' H' G' env' r g => o.bk σ' H' G' env' r (f.trans g), fun σ' H' G' env' r g => o.ct σ' H' G' env' r (f.trans g), fun σ' H' G' env' c fs dd r g => o.er σ' H' G' env' c fs dd r (f.trans g)⟩
section
variable {X : Cx} {cm : Nat → Addr} {e a b c tg iter : Expr} {f fa fb fc : EF} {σ : L2.St} {H G : Hp} {env : Sl} {pos p : Pos} {st : Stmt} {sts rest body : List Stmt} {w u wb : WS} {x : Str} {t : TF}
theorem jss_nil : JSs X cm [] wNil := ⟨fun env D' σ H G hw rel D o => to_ss pss_nil (o.nx σ H G env rel (.refl rel.sub) hw)⟩
theorem jss_cons (h1 : JS X cm st w) (h2 : JSs X cm rest u) : JSs X cm (st :: rest) (wSeq w u) := by
  refine ⟨fun env D' σ H G hw rel D o => to_ss (pss_cons ps_w pss_w) ?_⟩
  obtain ⟨M, hw, hk⟩ := hw
  refine h1.run env { D' with nx := M } σ H G hw rel _ ⟨fun σ' H' G' env' r g n => ?_, o.rt, o.bk, o.ct, o.er⟩
  exact h2.run env' D' σ' H' G' (hk env' n) r D (o.later g)
theorem jss_one (h1 : JS X cm st w) : JSs X cm [st] w := ⟨fun env D' σ H G hw rel D o => to_ss (pss_one ps_w) (h1.run env D' σ H G hw rel D o)⟩
/-- who holds what, one name changed -/
theorem Held.set {H : Hp} {σ σ' : L2.St} {env : Sl} {i j : Nat} {a : Addr} {s : Slot} (h : Held H σ' (env.set i s) j a) (e : ∀ k : Nat, k ≠ i → σ'[k]? = σ[k]?) : (j = i ∧ Held H σ' (env.set i s) i a) ∨ (j ≠ i ∧ Held H σ env j a) := by
  by_cases q : j = i
  · subst q; exact .inl ⟨rfl, h⟩
  · refine .inr ⟨q, ?_⟩
    rcases h with ⟨od, h1, h2⟩ | ⟨dss, l, as, h1, h2, h3⟩
    · rw [List.getElem?_set_ne (Ne.symm q)] at h1
      rw [e j q] at h2
      exact .inl ⟨od, h1, h2⟩
    · rw [List.getElem?_set_ne (Ne.symm q)] at h1
      rw [e j q] at h2
      exact .inr ⟨dss, l, as, h1, h2, h3⟩
theorem Held.noVal {H : Hp} {σ : L2.St} {env : Sl} {i : Nat} {a : Addr} {d : Dt} (h : Held H σ (env.set i (.val d)) i a) : False := by
  rcases h with ⟨od, h1, h2⟩ | ⟨dss, l, as, h1, h2, h3⟩ <;> rcases get_set h1 with ⟨_, e, _⟩ | ⟨ne, _⟩
  · cases e
  · exact ne rfl
  · cases e
  · exact ne rfl
/-- what a name holds is shown -/
theorem frz_core {K : PySem.W.Frag} {i : Nat} {v : V} {d : Dt} {G' : Hp} (r : Rel K cm σ H G env) (hv : σ[i]? = some (some v)) (gx : Exx G G') (sub : Exx G' H) (hd : Den K cm G' v d) (only : ∀ a, G a = none → G' a ≠ none → Held H σ env i a) :
    Rel K cm σ H G' (env.set i (.val d)) ∧ Fr σ env H G σ (env.set i (.val d)) H G' := by
  have back : ∀ {j : Nat} {a : Addr}, Held H σ (env.set i (.val d)) j a → j ≠ i ∧ Held H σ env j a := fun h => by
    rcases Held.set h (fun _ _ => rfl) with ⟨_, q⟩ | q
    · exact q.noVal.elim
    · exact q
  have non : ∀ {j : Nat} {a : Addr}, j ≠ i → Held H σ env j a → G' a = none := fun {j a} ne h => by
    obtain ⟨_, n⟩ := Held.at_ r h
    cases q : G' a with
    | none => rfl
    | some o => exact absurd (r.dist j i a h (only a n (by rw [q]; exact fun e => by cases e))) ne
  refine ⟨⟨by rw [List.length_set, r.len], sub, fun j d' hj => ?_, fun j od hj => ?_, fun j dss hj => ?_, fun j k a hj hk => r.dist j k a (back hj).2 (back hk).2⟩, ⟨⟨gx, fun a o h n w => ?_, fun _ _ h _ => h, fun a o h => ⟨o, h⟩, sub⟩, fun a o h n ⟨j, q⟩ => n ⟨j, (back q).2⟩, fun j hj => ?_⟩⟩
  · rcases get_set hj with ⟨rfl, q, hl⟩ | ⟨ne, hj⟩
    · cases q
      exact ⟨_, hv, hd⟩
    · obtain ⟨w, k1, k2⟩ := r.val j d' hj
      exact ⟨w, k1, k2.mono gx⟩
  · rcases get_set hj with ⟨rfl, q, hl⟩ | ⟨ne, hj⟩
    · cases q
    · obtain ⟨l', o', k1, k2, k3, k4⟩ := r.own j od hj
      exact ⟨l', o', k1, k2, non (Ne.symm ne) (.inl ⟨od, hj, k1⟩), k4.mono gx⟩
  · rcases get_set hj with ⟨rfl, q, hl⟩ | ⟨ne, hj⟩
    · cases q
    · obtain ⟨l', as, k1, k2⟩ := r.mat j dss hj
      refine ⟨l', as, k1, k2.at_, non (Ne.symm ne) (Held.mat r hj k1 k2 List.mem_cons_self), k2.nd, k2.len, fun k a ds e1 e2 => ?_⟩
      obtain ⟨vs, q1, q2, q3⟩ := k2.row k a ds e1 e2
      exact ⟨vs, q1, non (Ne.symm ne) (Held.mat r hj k1 k2 (List.mem_cons_of_mem _ (List.mem_of_getElem? e1))), q3.mono gx⟩
  · cases q : G' a with
    | none => rfl
    | some o' => exact absurd ⟨i, only a n (by rw [q]; exact fun e => by cases e)⟩ w
  · rcases get_set hj with ⟨rfl, q, hl⟩ | ⟨ne, hj⟩
    · cases q
    · exact ⟨hj, rfl⟩
theorem den_rows {K : PySem.W.Frag} {G : Hp} : ∀ {as : List Addr} {dss : List (List Dt)}, as.length = dss.length → (∀ (k : Nat) (a : Addr) (ds : List Dt), as[k]? = some a → dss[k]? = some ds → ∃ vs, G a = some (.lst vs) ∧ DenL K cm G vs ds) → DenL K cm G (as.map V.ref) (dss.map Dt.lst)
  | [], [], _, _ => .nil
  | a :: as, ds :: dss, e, h => by
    obtain ⟨vs, h1, h2⟩ := h 0 a ds rfl rfl
    exact .cons (.lst (SqL.of h1) h2) (den_rows (by simpa using e) fun k b es q1 q2 => h (k + 1) b es (by simpa using q1) (by simpa using q2))
  | [], _ :: _, e, _ => by cases e
  | _ :: _, [], e, _ => by cases e
open Classical in
/-- the heap G and what stands at these addresses in H -/
noncomputable def withA (G H : Hp) (as : List Addr) : Hp := fun a => if a ∈ as then H a else G a
theorem withA_in {G H : Hp} {as : List Addr} {a : Addr} (h : a ∈ as) : withA G H as a = H a := if_pos h
theorem withA_out {G H : Hp} {as : List Addr} {a : Addr} (h : a ∉ as) : withA G H as a = G a := if_neg h
theorem withA_gx {G H : Hp} {as : List Addr} (n : ∀ a ∈ as, G a = none) : Exx G (withA G H as) := fun a o h => by
  rw [withA_out (fun q => by rw [n a q] at h; cases h)]
  exact h
theorem withA_sub {G H : Hp} {as : List Addr} (s : Exx G H) : Exx (withA G H as) H := fun a o h => by
  by_cases q : a ∈ as
  · rw [withA_in q] at h; exact h
  · rw [withA_out q] at h; exact s a o h
theorem MatR.den {K : PySem.W.Frag} {H G : Hp} {l : Addr} {as : List Addr} {dss : List (List Dt)} (m : MatR K cm H G l as dss) : Den K cm (withA G H (l :: as)) (.ref l) (.lst (dss.map .lst)) := by
  refine .lst (SqL.of (xs := as.map V.ref) ?_) (den_rows m.len fun k a ds e1 e2 => ?_)
  · rw [withA_in List.mem_cons_self]; exact m.at_
  · obtain ⟨vs, q1, q2, q3⟩ := m.row k a ds e1 e2
    refine ⟨vs, ?_, q3.mono (withA_gx fun b hb => (m.all hb).2)⟩
    rw [withA_in (List.mem_cons_of_mem _ (List.mem_of_getElem? e1))]; exact q1
/-- nothing happens but that a name's own list is data from now on -/
theorem Rel.frz {K : PySem.W.Frag} {i : Nat} (r : Rel K cm σ H G env) : ∃ G', Rel K cm σ H G' (frzS i env) ∧ Fr σ env H G σ (frzS i env) H G' := by
  unfold frzS
  split
  case h_3 => exact ⟨G, r, .refl r.sub⟩
  case h_1 od hi =>
    obtain ⟨l, o, h1, h2, h3, h4⟩ := r.own i od hi
    cases o <;> cases od <;> first | exact h4.elim | skip
    rename_i vs ds
    have e : Exx G (upd G l (.lst vs)) := .new h3
    exact ⟨_, frz_core r h1 e (fun a o h => by
      by_cases q : a = l
      · subst q; rw [upd_same] at h; cases h; exact h2
      · rw [upd_ne q] at h; exact r.sub a o h) (.lst (SqL.of upd_same) (DenL.mono e h4)) fun a n h => by
      by_cases q : a = l
      · subst q; exact .inl ⟨_, hi, h1⟩
      · rw [upd_ne q] at h; exact absurd n h⟩
  case h_2 dss hi =>
    obtain ⟨l, as, h1, h2⟩ := r.mat i dss hi
    exact ⟨_, frz_core r h1 (withA_gx fun b hb => (h2.all hb).2) (withA_sub r.sub) h2.den fun a n h => by
      by_cases q : a ∈ l :: as
      · exact Held.mat r hi h1 h2 q
      · rw [withA_out q] at h; exact absurd n h⟩
theorem jss_frz (i : Nat) (h : JSs X cm sts w) : JSs X cm sts (wFrz i w) := by
  refine ⟨fun env D' σ H G hw rel D o => ?_⟩
  obtain ⟨G', rel', fr⟩ := rel.frz (i := i)
  exact h.run _ D' σ H G' hw rel' D (o.later fr)
theorem js_pass : JS X cm (.Pass pos) wNil := ⟨fun env D' σ H G hw rel D o => to_s ps_pass (o.nx σ H G env rel (.refl rel.sub) hw)⟩
theorem js_break : JS X cm (.Break pos) wBrk := ⟨fun env D' σ H G hw rel D o => to_s ps_break (o.bk σ H G env rel (.refl rel.sub) hw)⟩
theorem js_continue : JS X cm (.Continue pos) wCnt := ⟨fun env D' σ H G hw rel D o => to_s ps_continue (o.ct σ H G env rel (.refl rel.sub) hw)⟩
theorem js_ret (he : JE X cm e f) : JS X cm (.Return (some e) pos) (wRet f) := by
  refine ⟨fun env D' σ H G hw rel D o => to_s (ps_ret pe_w) ?_⟩
  obtain ⟨r, h1, h2, h3⟩ := hw
  refine he.pub h1 rel fun v H1 G1 g1 vr => ?_
  rw [h2] at vr
  exact o.rt v H1 G1 _ g1.frH vr.den h3
theorem js_retN : JS X cm (.Return none pos) wRetN := ⟨fun env D' σ H G hw rel D o => to_s ps_retN (o.rt _ H G _ (Grow.refl rel.sub).frH Den.non hw)⟩
theorem js_drop (he : JE X cm e f) (hs : swapsWith e none pos.line X.env = pure false := by rfl) : JS X cm (.Expr e pos) (wDrop f) := by
  refine ⟨fun env D' σ H G hw rel D o => to_s (ps_expr pe_w hs) ?_⟩
  obtain ⟨r, h1, h2⟩ := hw
  refine he.pub h1 rel fun v H1 G1 g1 vr => ?_
  exact o.nx σ H1 G1 env (rel.grow g1) (rel.fr g1) h2
theorem js_if {as bs : List Stmt} {wa : WS} (hc : JT X cm c t) (ha : JSs X cm as wa) (hb : JSs X cm bs wb) : JS X cm (.If c as bs pos) (wIf t wa wb) := by
  refine ⟨fun env D' σ H G hw rel D o => to_s (ps_if pt_w pss_w pss_w) ?_⟩
  obtain ⟨k, h1, h2, h3⟩ := hw
  refine hc.run env k σ H G h1 rel _ fun H1 G1 g1 => ?_
  cases k with
  | true => exact iteT (ha.run env D' σ H1 G1 (h2 rfl) (rel.grow g1) D (o.later (rel.fr g1)))
  | false => exact iteF (hb.run env D' σ H1 G1 (h3 rfl) (rel.grow g1) D (o.later (rel.fr g1)))
/-- a name gets something of its own, at new addresses -/
theorem own_core {K : PySem.W.Frag} {i : Nat} {v : V} {s : Slot} {H1 G1 : Hp} (r : Rel K cm σ H G env) (g : Grow H G H1 G1) (nv : ∀ d, s ≠ .val d) (nt : s ≠ .take) (new : ∀ a, i < env.length → Held H1 (σ.set i (some v)) (env.set i s) i a → H a = none)
    (hown : ∀ od, s = .own od → ∃ l o, v = .ref l ∧ H1 l = some o ∧ G1 l = none ∧ OwnR K cm G1 o od) (hmat : ∀ dss, s = .mat dss → ∃ l as, v = .ref l ∧ MatR K cm H1 G1 l as dss) :
    Rel K cm (σ.set i (some v)) H1 G1 (env.set i s) ∧ Fr σ env H G (σ.set i (some v)) (env.set i s) H1 G1 := by
  have off : ∀ k : Nat, k ≠ i → (σ.set i (some v))[k]? = σ[k]? := fun k h => List.getElem?_set_ne (Ne.symm h)
  have self : ∀ {j : Nat}, j < (env.set i s).length → j = i → (σ.set i (some v))[j]? = some (some v) := fun {j} hl e => by
    subst e
    rw [List.length_set] at hl
    exact List.getElem?_set_self (by rw [r.len]; exact hl)
  have cls : ∀ {j : Nat} {a : Addr}, Held H1 (σ.set i (some v)) (env.set i s) j a → (j = i ∧ H a = none) ∨ (j ≠ i ∧ Held H σ env j a) := fun {j a} h => by
    rcases Held.set h off with ⟨e, q⟩ | ⟨ne, q⟩
    · refine .inl ⟨e, new a ?_ q⟩
      have : i < (env.set i s).length := by
        rcases q with ⟨od, h1, _⟩ | ⟨dss, l, as, h1, _⟩ <;> exact (List.getElem?_eq_some_iff.mp h1).1
      rwa [List.length_set] at this
    · exact .inr ⟨ne, r.held g.hx q⟩
  refine ⟨⟨by rw [List.length_set, List.length_set, r.len], g.sub, fun j d' hj => ?_, fun j od hj => ?_, fun j dss hj => ?_, fun j k a hj hk => ?_⟩, { g.frH with fresh := fun a o h w ⟨j, q⟩ => ?_, take := fun j hj => ?_ }⟩
  · rcases get_set hj with ⟨rfl, e, hl⟩ | ⟨ne, hj⟩
    · exact absurd e.symm (nv d')
    · obtain ⟨w, h1, h2⟩ := r.val j d' hj
      exact ⟨w, by rw [List.getElem?_set_ne ne]; exact h1, h2.mono g.gx⟩
  · rcases get_set hj with ⟨rfl, e, hl⟩ | ⟨ne, hj⟩
    · obtain ⟨l, o, rfl, k1, k2, k3⟩ := hown od e.symm
      exact ⟨l, o, List.getElem?_set_self (by rw [r.len]; exact hl), k1, k2, k3⟩
    · obtain ⟨l, o, h1, h2, h3, h4⟩ := (r.grow g).own j od hj
      exact ⟨l, o, by rw [List.getElem?_set_ne ne]; exact h1, h2, h3, h4⟩
  · rcases get_set hj with ⟨rfl, e, hl⟩ | ⟨ne, hj⟩
    · obtain ⟨l, as, rfl, k1⟩ := hmat dss e.symm
      exact ⟨l, as, List.getElem?_set_self (by rw [r.len]; exact hl), k1⟩
    · obtain ⟨l, as, h1, h2⟩ := (r.grow g).mat j dss hj
      exact ⟨l, as, by rw [List.getElem?_set_ne ne]; exact h1, h2⟩
  · rcases cls hj with ⟨e, n⟩ | ⟨ne, q⟩ <;> rcases cls hk with ⟨e', n'⟩ | ⟨ne', q'⟩
    · exact e.trans e'.symm
    · obtain ⟨⟨o, ho⟩, _⟩ := Held.at_ r q'
      rw [n] at ho; cases ho
    · obtain ⟨⟨o, ho⟩, _⟩ := Held.at_ r q
      rw [n'] at ho; cases ho
    · exact r.dist j k a q q'
  · rcases cls q with ⟨e, n⟩ | ⟨ne, q⟩
    · rw [n] at h; cases h
    · exact w ⟨j, q⟩
  · rcases get_set hj with ⟨rfl, e, hl⟩ | ⟨ne, hj⟩
    · exact absurd e.symm nt
    · exact ⟨hj, List.getElem?_set_ne ne⟩
/-- what an assignment leaves, from the heaps H, G ahead of the expression -/
theorem asg_own {K : PySem.W.Frag} {i : Nat} {l : Addr} {o : HO} {od : OD} {H1 G1 : Hp} (r : Rel K cm σ H G env) (g : Grow H G H1 G1) (n : H l = none) (h1 : H1 l = some o) (h2 : G1 l = none) (h3 : OwnR K cm G1 o od) :
    Rel K cm (σ.set i (some (.ref l))) H1 G1 (env.set i (.own od)) ∧ Fr σ env H G (σ.set i (some (.ref l))) (env.set i (.own od)) H1 G1 := by
  refine own_core r g (fun d e => by cases e) (fun e => by cases e) (fun a hl h => ?_) (fun od' e => ?_) (fun dss e => by cases e)
  · rcases h with ⟨od', _, q⟩ | ⟨dss, l', as, q, _⟩
    · rw [List.getElem?_set_self (by rw [r.len]; exact hl)] at q
      cases q
      exact n
    · rw [List.getElem?_set_self hl] at q
      cases q
  · cases e
    exact ⟨l, o, rfl, h1, h2, h3⟩
theorem asg_mat {K : PySem.W.Frag} {i : Nat} {l : Addr} {as : List Addr} {dss : List (List Dt)} {H1 G1 : Hp} (r : Rel K cm σ H G env) (g : Grow H G H1 G1) (n : ∀ a ∈ l :: as, H a = none) (m : MatR K cm H1 G1 l as dss) :
    Rel K cm (σ.set i (some (.ref l))) H1 G1 (env.set i (.mat dss)) ∧ Fr σ env H G (σ.set i (some (.ref l))) (env.set i (.mat dss)) H1 G1 := by
  refine own_core r g (fun d e => by cases e) (fun e => by cases e) (fun a hl h => ?_) (fun od' e => by cases e) (fun dss' e => ?_)
  · rcases h with ⟨od', q, _⟩ | ⟨dss', l', as', q, q2, q3, q4⟩
    · rw [List.getElem?_set_self hl] at q
      cases q
    · rw [List.getElem?_set_self (by rw [r.len]; exact hl)] at q2
      cases q2
      have z := m.at_
      rw [q3] at z
      have z2 : as' = as := refs_inj (HO.lst.inj (Option.some.inj z))
      subst z2
      exact n a q4
  · cases e
    exact ⟨l, as, rfl, m⟩
theorem asg_nx {i : Nat} {r : R} {v : V} {H1 G1 : Hp} {D' : En} {D : Ends} (rel : Rel X.K cm σ H G env) (g : Grow H G H1 G1) (rr : RR X.K cm H H1 G1 v r) (hs : r.sh = false) (hn : D'.nx (env.set i r.slot)) (o : EndsOk X cm σ env H G D' D) : D.nx (σ.set i (some v)) H1 := by
  cases r with
  | vis d => exact o.nx _ _ _ _ ((rel.grow g).setVal rr) ((rel.fr g).trans (.setVal g.sub)) hn
  | bor d => cases hs
  | fre od =>
    obtain ⟨l, ob, rfl, h1, h2, h3, h4⟩ := rr
    obtain ⟨q1, q2⟩ := asg_own (i := i) rel g h1 h2 h3 h4
    exact o.nx _ _ _ _ q1 q2 hn
theorem js_asg (i : Nat) {pos' : Pos} (hN : X.N.Nodup) (he : JE X cm e f) (hi : X.N[i]? = some x := by rfl) (hx : Loc X.env.scope x := by first | exact Or.inl rfl | exact Or.inr rfl) (hs : swapsWith e (some (.Name x pos')) pos.line X.env = pure false := by rfl)
    (hf : X.fn x = true ∨ X.env.scope.names.lookup x = some .local := by first | exact .inl rfl | exact .inr rfl | assumption) : JS X cm (.Assign [.Name x pos'] e pos) (wAsg i f) := by
  refine ⟨fun env D' σ H G hw rel D o => to_s (ps_set hN hi hx pe_w hs hf) ?_⟩
  obtain ⟨r, h1, h2, h3⟩ := hw
  refine he.run env r σ H G h1 rel _ fun v H1 G1 g1 rr => ?_
  exact asg_nx rel g1 rr h2 h3 o
/-- name = [comprehension] -/
theorem js_asgLc {elt : Expr} {ifs : List Expr} {scope : Scope} {js : List Nat} {fi : IF} {g : GF} {ft : TF} {fe : EF} {py : Pos} (i : Nat) (own : List (Str × Nat)) (hc : X.calm = true) (hN : X.N.Nodup) (hy : X.N[i]? = some x) (hyl : X.env.scope.names.lookup x = some .local)
    (hsw : swapsWith (.ListComp elt [⟨tg, iter, ifs, 0⟩] scope p) (some (.Name x py)) pos.line X.env = pure true) (hi : JI X cm tg iter fi) (ok : blkC X.N X.env.scope scope own = true)
    (hg : ∀ (s : Shared) (H : Hp) (C : Addr) (cl : List (Str × Addr)) (fp : List Addr), JG (X.blk s H scope (compEnvC scope cl C X.env) fp) cm tg js g) (hj : ∀ j ∈ js, j ∈ own.map (·.2))
    (ht : ∀ (s : Shared) (H : Hp) (C : Addr) (cl : List (Str × Addr)) (fp : List Addr), JTs (X.blk s H scope (compEnvC scope cl C X.env) fp) cm ifs ft)
    (he : ∀ (s : Shared) (H : Hp) (C : Addr) (cl : List (Str × Addr)) (fp : List Addr), JE (X.blk s H scope (compEnvC scope cl C X.env) fp) cm elt fe) (hs : ∀ x, foldedSetIterable iter X.env x = pure x := by intro _; rfl) :
    JS X cm (.Assign [.Name x py] (.ListComp elt [⟨tg, iter, ifs, 0⟩] scope p) pos) (wAsg i (eComp (own.map (·.2)) fi g ft fe)) := by
  refine ⟨fun env D' σ H G hw rel D o => to_s (ps_setLc hc hN hy hyl hsw pi_w (blkOk_by ok) (fun _ _ _ _ _ => pg_B) (fun _ _ _ _ _ => pt_B) (fun _ _ _ _ _ => pe_B) hs) ?_⟩
  obtain ⟨r, h1, h2, h3⟩ := hw
  refine je_comp hc hN hi ok hg hj ht he hs env r σ H G h1 rel _ fun v H1 G1 g1 rr => ?_
  exact asg_nx rel g1 rr h2 h3 o
/-- a, b = e, e a tuple -/
theorem js_unp {es : List Expr} {k : Nat} {is : List Nat} {pt : Pos} (hc : X.calm = true) (he : JE X cm e f) (hg : JGs X cm es is) (hn : (assignEach es X.env).length = is.length := by rfl) (hst : (assignEach es X.env).findIdx? (·.1) = none := by rfl)
    (hs : swapsWithSole [.Tuple es k pt] e pos.line X.env = pure false := by rfl) (hw : swappedStores [.Tuple es k pt] e X.env = pure none := by rfl) (h1 : (assignEach [.Tuple es k pt] X.env).map (·.2) = [assign (.Tuple es k pt) X.env] := by rfl) :
    JS X cm (.Assign [.Tuple es k pt] e pos) (wUnp is f) := by
  refine ⟨fun env D' σ H G hww rel D o => to_s (ps_asg pe_w pg_w hs hw h1) ?_⟩
  obtain ⟨d, env', k1, k2, k3⟩ := hww
  refine he.run env _ σ H G k1 rel _ fun v H1 G1 g1 rr => ?_
  refine (jg_tup hc hg hn hst).run env env' d v σ H1 G1 k2 (rel.grow g1) rr _ fun σ' rel' fr' _ _ => ?_
  exact o.nx _ _ _ _ rel' ((rel.fr g1).trans fr') k3
/-- what a name holds as its own is changed -/
theorem upd_core {K : PySem.W.Frag} {i : Nat} {v : V} {s : Slot} {H1 G1 H2 : Hp} (r : Rel K cm σ H G env) (g : Grow H G H1 G1) (hl : σ[i]? = some (some v)) (nv : ∀ d, s ≠ .val d) (nt : s ≠ .take) (keep : ∀ a o, H1 a = some o → ¬ Held H σ env i a → H2 a = some o) (there : ∀ a o, H1 a = some o → ∃ o', H2 a = some o')
    (mine : ∀ a, i < env.length → Held H2 σ (env.set i s) i a → Held H σ env i a ∨ H a = none)
    (hown : ∀ od, s = .own od → ∃ l o, v = .ref l ∧ H2 l = some o ∧ G1 l = none ∧ OwnR K cm G1 o od) (hmat : ∀ dss, s = .mat dss → ∃ l as, v = .ref l ∧ MatR K cm H2 G1 l as dss) :
    Rel K cm σ H2 G1 (env.set i s) ∧ Fr σ env H G σ (env.set i s) H2 G1 := by
  have r1 := r.grow g
  have gn : ∀ a, Held H σ env i a → G1 a = none := fun a h => by
    obtain ⟨⟨o, h1⟩, h2⟩ := Held.at_ r h
    exact g.hid a o h1 h2
  have sub : Exx G1 H2 := fun a u e => keep a u (g.sub a u e) fun h => by
    rw [gn a h] at e; cases e
  -- other names hold what they held
  have other : ∀ {j : Nat} {a : Addr}, j ≠ i → Held H2 σ env j a → Held H σ env j a := fun {j a} ne h => by
    rcases h with h | ⟨dss, l, as, h1, h2, h3, h4⟩
    · exact .inl h
    · obtain ⟨l', as', k1, k2⟩ := r.mat j dss h1
      rw [h2] at k1
      cases k1
      have hj : Held H σ env j l := Held.mat r h1 h2 k2 List.mem_cons_self
      have q := keep l _ (g.hx _ _ k2.at_) fun w => ne (r.dist j i l hj w)
      rw [h3] at q
      have q2 : as = as' := refs_inj (HO.lst.inj (Option.some.inj q))
      subst q2
      exact Held.mat r h1 h2 k2 h4
  have cls : ∀ {j : Nat} {a : Addr}, Held H2 σ (env.set i s) j a → (j = i ∧ (Held H σ env i a ∨ H a = none)) ∨ (j ≠ i ∧ Held H σ env j a) := fun {j a} h => by
    rcases Held.set h (fun _ _ => rfl) with ⟨e, q⟩ | ⟨ne, q⟩
    · refine .inl ⟨e, mine a ?_ q⟩
      have : i < (env.set i s).length := by
        rcases q with ⟨od, h1, _⟩ | ⟨dss, l, as, h1, _⟩ <;> exact (List.getElem?_eq_some_iff.mp h1).1
      rwa [List.length_set] at this
    · exact .inr ⟨ne, other ne q⟩
  refine ⟨⟨by rw [List.length_set]; exact r.len, sub, fun j d' hj => ?_, fun j od1 hj => ?_, fun j dss hj => ?_, fun j k a hj hk => ?_⟩, ⟨⟨g.gx, fun a u h n _ => g.hid a u h n, fun a u h w => ?_, fun a u h => there a u (g.hx a u h), sub⟩, fun a u h w ⟨j, q⟩ => ?_, fun j hj => ?_⟩⟩
  · rcases get_set hj with ⟨rfl, e, _⟩ | ⟨ne, hj⟩
    · exact absurd e.symm (nv d')
    · exact r1.val j d' hj
  · rcases get_set hj with ⟨rfl, e, _⟩ | ⟨ne, hj⟩
    · obtain ⟨l, o, rfl, k1, k2, k3⟩ := hown od1 e.symm
      exact ⟨l, o, hl, k1, k2, k3⟩
    · obtain ⟨l', u, k1, k2, k3, k4⟩ := r1.own j od1 hj
      exact ⟨l', u, k1, keep l' u k2 (fun w => ne (r.dist _ _ _ w (.inl ⟨od1, hj, k1⟩))), k3, k4⟩
  · rcases get_set hj with ⟨rfl, e, _⟩ | ⟨ne, hj⟩
    · obtain ⟨l, as, rfl, k1⟩ := hmat dss e.symm
      exact ⟨l, as, hl, k1⟩
    · obtain ⟨l', as, k1, k2⟩ := r.mat j dss hj
      have k3 := k2.mono g
      have away : ∀ a ∈ l' :: as, ¬ Held H σ env i a := fun a ha w => ne (r.dist _ _ _ w (Held.mat r hj k1 k2 ha))
      refine ⟨l', as, k1, keep l' _ k3.at_ (away _ List.mem_cons_self), k3.hid, k3.nd, k3.len, fun k a ds e1 e2 => ?_⟩
      obtain ⟨vs, q1, q2, q3⟩ := k3.row k a ds e1 e2
      exact ⟨vs, keep a _ q1 (away _ (List.mem_cons_of_mem _ (List.mem_of_getElem? e1))), q2, q3⟩
  · rcases cls hj with ⟨e, n⟩ | ⟨ne, q⟩ <;> rcases cls hk with ⟨e', n'⟩ | ⟨ne', q'⟩
    · exact e.trans e'.symm
    · rcases n with n | n
      · exact absurd (r.dist _ _ _ n q').symm ne'
      · obtain ⟨⟨o, ho⟩, _⟩ := Held.at_ r q'
        rw [n] at ho; cases ho
    · rcases n' with n | n
      · exact absurd (r.dist _ _ _ n q).symm ne
      · obtain ⟨⟨o, ho⟩, _⟩ := Held.at_ r q
        rw [n] at ho; cases ho
    · exact r.dist j k a q q'
  · exact keep a u (g.hx a u h) fun q => w ⟨i, q⟩
  · rcases cls q with ⟨e, n | n⟩ | ⟨ne, q⟩
    · exact w ⟨i, n⟩
    · rw [n] at h; cases h
    · exact w ⟨j, q⟩
  · rcases get_set hj with ⟨rfl, e, _⟩ | ⟨ne, hj⟩
    · exact absurd e.symm nt
    · exact ⟨hj, rfl⟩
theorem own_upd {K : PySem.W.Frag} {i : Nat} {l : Addr} {o o' : HO} {od od' : OD} {H1 G1 : Hp} (r : Rel K cm σ H G env) (g : Grow H G H1 G1) (hi : env[i]? = some (.own od)) (hl : σ[i]? = some (some (.ref l))) (h1 : H l = some o) (h2 : G l = none) (h3 : OwnR K cm G1 o' od') :
    Rel K cm σ (upd H1 l o') G1 (env.set i (.own od')) ∧ Fr σ env H G σ (env.set i (.own od')) (upd H1 l o') G1 := by
  have hh : Held H σ env i l := .inl ⟨od, hi, hl⟩
  refine upd_core r g hl (fun d e => by cases e) (fun e => by cases e) (fun a u h n => ?_) (fun a u h => ?_) (fun a hlt h => ?_) (fun od1 e => ?_) (fun dss e => by cases e)
  · rw [upd_ne (fun q => n (by rw [q]; exact hh))]; exact h
  · by_cases q : a = l
    · exact ⟨o', by rw [q]; exact upd_same⟩
    · exact ⟨u, by rw [upd_ne q]; exact h⟩
  · rcases h with ⟨od1, _, q⟩ | ⟨dss, l', as, q, _⟩
    · rw [hl] at q; cases q; exact .inl hh
    · rw [List.getElem?_set_self hlt] at q; cases q
  · cases e
    exact ⟨l, o', rfl, upd_same, g.hid l o h1 h2, h3⟩
/-- the lists of a list of lists are changed -/
theorem mat_upd {K : PySem.W.Frag} {i : Nat} {l : Addr} {as as' : List Addr} {dss dss' : List (List Dt)} {H1 G1 H2 : Hp} (r : Rel K cm σ H G env) (g : Grow H G H1 G1) (hi : env[i]? = some (.mat dss)) (hl : σ[i]? = some (some (.ref l))) (m : MatR K cm H G l as dss)
    (keep : ∀ a o, H1 a = some o → a ∉ l :: as → H2 a = some o) (there : ∀ a o, H1 a = some o → ∃ o', H2 a = some o') (m' : MatR K cm H2 G1 l as' dss') (new : ∀ a ∈ as', a ∈ as ∨ H a = none) :
    Rel K cm σ H2 G1 (env.set i (.mat dss')) ∧ Fr σ env H G σ (env.set i (.mat dss')) H2 G1 := by
  refine upd_core r g hl (fun d e => by cases e) (fun e => by cases e) (fun a u h n => keep a u h fun q => n (Held.mat r hi hl m q)) there (fun a hlt h => ?_) (fun od1 e => by cases e) (fun dss e => ?_)
  · rcases h with ⟨od1, q, _⟩ | ⟨dss1, l', as1, q, q2, q3, q4⟩
    · rw [List.getElem?_set_self hlt] at q; cases q
    · rw [hl] at q2
      cases q2
      have z := m'.at_
      rw [q3] at z
      have z2 : as1 = as' := refs_inj (HO.lst.inj (Option.some.inj z))
      subst z2
      rcases List.mem_cons.mp q4 with rfl | q4
      · exact .inl (Held.mat r hi hl m List.mem_cons_self)
      · rcases new a q4 with q | q
        · exact .inl (Held.mat r hi hl m (List.mem_cons_of_mem _ q))
        · exact .inr q
  · cases e
    exact ⟨l, as', rfl, m'⟩
/-- xs.append(e), xs a list of one's own -/
theorem js_app (i : Nat) {p1 p2 p3 : Pos} (he : JE X cm e f) (hN : X.N[i]? = some x := by rfl) (hv : Vis X.env.scope x := by first | exact Or.inl rfl | exact Or.inr (Or.inl rfl) | exact Or.inr (Or.inr rfl)) (hd : (x == ("__debug__" : Str)) = false := by decide)
    (hcd : (x == ("__classdict__" : Str)) = false := by decide) (hst : starEach [e] X.env = (false, eval e X.env) :: starEach [] X.env := by rfl)
    (hbm : ∀ {t : TE}, PE X (.Name x p3) t → ∀ {u : TA}, PA X [e] u → PE X (.Call (.Attribute (.Name x p3) "append" p2) [e] [] p1) (tBM X.K "list" rAppend t u) := by intro t h u h2; exact pe_bm PySem.F.plainAttrs_list PySem.F.slot_list_append PySem.F.type_list_append mt_append h h2)
    (hs : swapsWith (.Call (.Attribute (.Name x p3) "append" p2) [e] [] p1) none pos.line X.env = pure false := by rfl) : JS X cm (.Expr (.Call (.Attribute (.Name x p3) "append" p2) [e] [] p1) pos) (wApp i f) := by
  refine ⟨fun env D' σ H G hw rel D o => to_s (ps_expr (hbm (pe_var hN hv hd hcd) (pa_cons pe_w pa_nil hst)) hs) ?_⟩
  obtain ⟨ds, r, h1, h2, h3, h4, h5⟩ := hw
  obtain ⟨l, ob, k1, k2, k3, k4⟩ := rel.own i _ h1
  cases ob <;> first | exact k4.elim | skip
  rename_i vs
  have k4 : DenL X.K cm G vs ds := k4
  refine ⟨_, k1, .inl ⟨rfl, _, SqL.of k2⟩, he.pub h2 rel fun v H1 G1 g1 vr => ?_⟩
  rw [h3] at vr
  refine ⟨l, vs, v, rfl, rfl, g1.hx l _ k2, ?_, ?_⟩
  · rw [k4.length]
    exact Nat.lt_of_lt_of_le h4 (lim_ok (Nat.le_refl _))
  · obtain ⟨q1, q2⟩ := own_upd (o' := .lst (vs ++ [v])) (od' := .lst (ds ++ [r.dt])) rel g1 h1 k1 k2 k3 ((k4.mono g1.gx).append (.one vr.den))
    exact o.nx _ _ _ _ q1 q2 h5
/-- xs[k] = e, xs a list of one's own -/
theorem js_put (i : Nat) {k : Expr} {fk : EF} {p2 p3 : Pos} (he : JE X cm e f) (hk : JE X cm k fk) (hN : X.N[i]? = some x := by rfl) (hv : Vis X.env.scope x := by first | exact Or.inl rfl | exact Or.inr (Or.inl rfl) | exact Or.inr (Or.inr rfl)) (hd : (x == ("__debug__" : Str)) = false := by decide)
    (hcd : (x == ("__classdict__" : Str)) = false := by decide)
    (ha : ∀ v, assign (.Subscript (.Name x p3) k p2) X.env v = (do
      let ov ← holding [v] (eval (.Name x p3) X.env)
      let iv ← holding [v, ov] (eval k X.env)
      standAt p2
      holding [v, ov, iv] (setItem ov iv v)
      release [v, ov, iv] []) := by intro _; rfl)
    (hs : swapsWithSole [.Subscript (.Name x p3) k p2] e pos.line X.env = pure false := by rfl) (hw : swappedStores [.Subscript (.Name x p3) k p2] e X.env = pure none := by rfl) (h1 : (assignEach [.Subscript (.Name x p3) k p2] X.env).map (·.2) = [assign (.Subscript (.Name x p3) k p2) X.env] := by rfl) :
    JS X cm (.Assign [.Subscript (.Name x p3) k p2] e pos) (wPut i fk f) := by
  refine ⟨fun env D' σ H G hww rel D o => to_s (ps_asg pe_w (pg_sub (pe_var hN hv hd hcd) pe_w set_list ha) hs hw h1) ?_⟩
  obtain ⟨ds, r, j, h1, h2, h3, h4, h5, h6, h7⟩ := hww
  refine he.pub h2 rel fun v H1 G1 g1 vr => ?_
  rw [h3] at vr
  obtain ⟨l, ob, k1, k2, k3, k4⟩ := rel.own i _ h1
  cases ob <;> first | exact k4.elim | skip
  rename_i vs
  have k4 : DenL X.K cm G vs ds := k4
  refine ⟨_, k1, hk.run env _ σ H1 G1 h4 (rel.grow g1) _ fun kv H2 G2 g2 kr => ?_⟩
  cases (show Den _ _ _ _ _ from kr)
  have g := g1.trans g2
  refine ⟨l, vs, j, (if 0 ≤ j then j else j + ds.length).toNat, rfl, rfl, g.hx l _ k2, ?_, ?_⟩
  · unfold ixN
    rw [k4.length]
    by_cases h0 : 0 ≤ j
    · rw [if_pos h0, if_pos h6, if_pos h0]
    · rw [if_neg h0, if_pos h5, if_neg h0]
  · obtain ⟨q1, q2⟩ := own_upd (o' := .lst (vs.set (if 0 ≤ j then j else j + ds.length).toNat v)) (od' := .lst (ds.set (if 0 ≤ j then j else j + ds.length).toNat r.dt)) rel g h1 k1 k2 k3 (DenL.set (vr.den.mono g2.gx) _ (k4.mono g.gx))
    exact o.nx _ _ _ _ q1 q2 h7
/-! loops -/
theorem js_for {is : List Nat} {fi : IF} {g : GF} (hp : PassesOwn (model X.prog X.w) X.A X.env X.xe) (hc : X.calm = true) (hi : JI X cm tg iter fi) (hg : JG X cm tg is g) (hb : JSs X cm body wb) (hs : ∀ x, foldedSetIterable iter X.env x = pure x := by intro _; rfl) :
    JS X cm (.For tg iter body [] pos) (wFor fi g wb) := by
  refine ⟨fun env D' σ H G hw rel D o => to_s (ps_for hp hc pi_w pg_w pss_w hs) ?_⟩
  obtain ⟨ds, h1, I, i0, hturn, hend⟩ := hw
  refine hi.run env ds false σ H G h1 rel _ fun J H1 G1 g1 jok => ?_
  refine ⟨fun i m σ' H' => m = ds.length - i ∧ i ≤ ds.length ∧ ∃ G' env', Rel X.K cm σ' H' G' env' ∧ Fr σ env H1 G1 σ' env' H' G' ∧ I i env', ⟨ds.length, rfl, Nat.zero_le _, G1, env, rel.grow g1, .refl g1.sub, i0⟩, ?_⟩
  rintro i m σ' H' ⟨rfl, hi', G', env', rel', fr', inv⟩
  have st : StK H1 G1 false H' G' := ⟨rel'.sub, fr'.gx, fun e => (nomatch e)⟩
  by_cases hlt : i < ds.length
  · refine .inr ⟨jok.go i H' G' st hlt, fun σ2 H2 => ∃ G2 env2, Rel X.K cm σ2 H2 G2 env2 ∧ Fr σ env H1 G1 σ2 env2 H2 G2 ∧ I (i + 1) env2, fun σ2 H2 hw => ⟨ds.length - (i + 1), by omega, rfl, hlt, hw⟩, fun v H2 hy => ?_⟩
    obtain ⟨G2, d, hd, g2, dn⟩ := jok.yl i H' G' v H2 st hlt hy
    obtain ⟨env2, hg2, hb2⟩ := hturn i env' d hd inv
    refine hg.run env' env2 d v σ' H2 G2 hg2 (rel'.grow g2) dn _ fun σ3 rel3 fr3 _ _ => ?_
    have fr13 := (fr'.trans (rel'.fr g2)).trans fr3
    have fr0 := (rel.fr g1).trans fr13
    exact hb.run env2 _ σ3 H2 G2 hb2 rel3 _ ⟨fun σ4 H4 G4 env4 r4 f4 n4 => ⟨G4, env4, r4, fr13.trans f4, n4⟩, (o.later fr0).rt, (o.later fr0).nx, fun σ4 H4 G4 env4 r4 f4 n4 => ⟨G4, env4, r4, fr13.trans f4, n4⟩, (o.later fr0).er⟩
  · have e : i = ds.length := by omega
    subst e
    exact .inl ⟨jok.stop _ H' G' st (Nat.le_refl _), o.nx σ' H' G' env' rel' ((rel.fr g1).trans fr') (hend env' inv)⟩
theorem js_while (hp : PassesOwn (model X.prog X.w) X.A X.env X.xe) (hc : JT X cm c t) (hb : JSs X cm body wb) : JS X cm (.While c body [] pos) (wWhile t wb) := by
  refine ⟨fun env D' σ H G hw rel D o => to_s (ps_while hp pt_w pss_w) ?_⟩
  obtain ⟨I, ⟨m0, i0⟩, hturn⟩ := hw
  refine ⟨fun m σ' H' => ∃ G' env', Rel X.K cm σ' H' G' env' ∧ Fr σ env H G σ' env' H' G' ∧ I m env', ⟨m0, G, env, rel, .refl rel.sub, i0⟩, ?_⟩
  rintro m σ' H' ⟨G', env', rel', fr', inv⟩
  obtain ⟨k, h1, h2, h3⟩ := hturn m env' inv
  refine hc.run env' k σ' H' G' h1 rel' _ fun H1 G1 g1 => ?_
  have fr1 := fr'.trans (rel'.fr g1)
  cases k with
  | true =>
    refine iteT ⟨fun σ2 H2 => ∃ m', m' < m ∧ ∃ G2 env2, Rel X.K cm σ2 H2 G2 env2 ∧ Fr σ env H G σ2 env2 H2 G2 ∧ I m' env2, fun σ2 H2 ⟨m', hm, q⟩ => ⟨m', hm, q⟩, ?_⟩
    exact hb.run env' _ σ' H1 G1 (h2 rfl) (rel'.grow g1) _ ⟨fun σ4 H4 G4 env4 r4 f4 ⟨m', hm, n4⟩ => ⟨m', hm, G4, env4, r4, fr1.trans f4, n4⟩, (o.later fr1).rt, (o.later fr1).nx, fun σ4 H4 G4 env4 r4 f4 ⟨m', hm, n4⟩ => ⟨m', hm, G4, env4, r4, fr1.trans f4, n4⟩, (o.later fr1).er⟩
  | false => exact iteF (o.nx σ' H1 G1 env' (rel'.grow g1) fr1 (h3 rfl))
end
end Pyl
end
section
set_option Elab.async false
set_option linter.all false
set_option maxRecDepth 100000
set_option maxHeartbeats 4000000
namespace Pyl
open PySem L2
theorem start_get {N : List Str} {vs : List V} {i : Nat} {v : V} (h : vs[i]? = some v) : (start N vs)[i]? = some (some v) := by
  unfold L2.start
  have hl : i < vs.length := (List.getElem?_eq_some_iff.mp h).1
  rw [List.getElem?_append_left (by simpa using hl), List.getElem?_map, h]
  rfl
theorem startE_get {n : Nat} {ds : List Dt} {i : Nat} {s : Slot} (h : (startE n ds)[i]? = some s) : (∃ d, ds[i]? = some d ∧ s = .val d) ∨ s = .non := by
  unfold startE at h
  by_cases hl : i < ds.length
  · rw [List.getElem?_append_left (by simpa using hl), List.getElem?_map, List.getElem?_eq_getElem hl] at h
    cases h
    exact .inl ⟨_, List.getElem?_eq_getElem hl, rfl⟩
  · rw [List.getElem?_append_right (by simpa using hl), List.getElem?_replicate] at h
    split at h
    · cases h
      exact .inr rfl
    · cases h
theorem no_held {H : Hp} {σ : L2.St} {n i : Nat} {ds : List Dt} {a : Addr} (h : Held H σ (startE n ds) i a) : False := by
  rcases h with ⟨od, hi, _⟩ | ⟨dss, l, as, hi, _⟩ <;> rcases startE_get hi with ⟨d', h1, e⟩ | e <;> cases e
theorem rel_start {K : PySem.W.Frag} {cm : Nat → Addr} {N : List Str} {vs : List V} {ds : List Dt} {H G : Hp} (s : Exx G H) (h : DenL K cm G vs ds) : Rel K cm (start N vs) H G (startE N.length ds) where
  len := by
    unfold L2.start startE
    rw [List.length_append, List.length_append, List.length_map, List.length_map, List.length_replicate, List.length_replicate, h.length]
  sub := s
  val := fun i d hi => by
    rcases startE_get hi with ⟨d', h1, e⟩ | e
    · cases e
      obtain ⟨v, h2, h3⟩ := h.get h1
      exact ⟨v, start_get h2, h3⟩
    · cases e
  own := fun i od hi => by
    rcases startE_get hi with ⟨d', h1, e⟩ | e <;> cases e
  mat := fun i dss hi => by
    rcases startE_get hi with ⟨d', h1, e⟩ | e <;> cases e
  dist := fun i j a hi hj => (no_held hi).elim
theorem no_own {H : Hp} {σ : L2.St} {n : Nat} {ds : List Dt} {a : Addr} : ¬ Own H σ (startE n ds) a := fun ⟨i, h⟩ => no_held h
theorem FrH.grow {σ : L2.St} {n : Nat} {ds : List Dt} {H G H' G' : Hp} (f : FrH σ (startE n ds) H G H' G') : Grow H G H' G' := ⟨fun a o h => f.keep a o h no_own, f.gx, fun a o h n => f.hid a o h n no_own, f.sub⟩
section
variable {P : Program} {w : World} {K : PySem.W.Frag} {mg : Str → Option Value} {base : Heap} {cm : Nat → Addr}
/-- the context of a def's body in which nothing is raised -/
abbrev cxN (P : Program) (w : World) (K : PySem.W.Frag) (mg : Str → Option Value) (base : Heap) (N : List Str) (qual : Str) (st : Stmt) (f : Addr) (cdv : Value) (A : Around) (outer : List Env) (s : Shared) (H : Hp) (E : XK) : Cx := (cxOf CX0 P w K mg base N qual (defScope st) f cdv A outer s H E).nox
theorem fn_ok {x qual : Str} {st : Stmt} {f : Addr} {fd : FuncData} {N ps : List Str} {k : Nat} {F : FN} (Fu : Fun K x qual st f fd) (S : FnScope N ps (defScope st)) (hlen : ∀ ds r, F ds = some r → ds.length = ps.length) (wd : WS) (hk : Keeps N.length wd F)
    (hb : ∀ (cdv : Value) (A : Around) (outer : List Env) (s : Shared) (H : Hp) (E : XK), Room k (A.deeper (PyProof.Rows.envOfC qual (defScope st) s.heap.objs.size f cdv)) → JSs (cxN P w K mg base N qual st f cdv A outer s H E) cm (defBody st) wd) :
    FnOk P w K mg base CX0 (k + 1) f fd ps (spP K cm F) := by
  refine Fu.ok S (fun vs H Q E h => ?_) (fun cdv A outer s H vs Q E hr h => ⟨_, pss_w, ?_⟩)
  · obtain ⟨G, ds, r, _, h2, h3, _⟩ := h
    rw [h2.length]
    exact hlen ds r h3
  · obtain ⟨G, ds, r, h1, h2, h3, h4⟩ := h
    refine (hb cdv A outer s H E hr).run (startE N.length ds) _ (start N vs) H G (hk ds r h3) (rel_start h1 h2) _ ⟨fun σ' H' G' env' rel fr e => ?_, fun v H' G' d fr den e => ?_, fun _ _ _ _ _ _ z => z.elim, fun _ _ _ _ _ _ z => z.elim, fun _ _ _ _ _ _ _ _ _ _ z => z.elim⟩
    · have e : r = .non := e
      subst e
      exact h4 _ H' G' fr.toFrH.grow Den.non
    · have e : d = r := e
      subst e
      exact h4 v H' G' fr.grow den
/-- a def of the text as it stands behind the top -/
theorem fnC_mk {x : Str} {st : Stmt} {f : Addr} {fd : FuncData} {ps : List Str} {k : Nat} {F : FN} (Fu : Fun K x x st f fd) (hm : mg x = some (.ref f)) (hb : Binds K fd ps []) (ok : FnOk P w K mg base CX0 k f fd ps (spP K cm F)) : FnC P w K mg base cm k x F :=
  ⟨f, fd, ps, ok, hm, Fu.kp, hb⟩
theorem blk_by (N : List Str) (sc : Scope) {scope : Scope} {own : List (Str × Nat)} (h : blkC N sc scope own = true) : blkC N sc scope own = true := h
/-- the law: of every script True -/
def lawF (g : List Int → Bool) : FN := fun ds => match ds with
  | [.lst xs] => (intsOf xs).bind fun ns => if ns.length ≤ 63 then some (.bl (g ns)) else none
  | _ => none
theorem intsOf_map : ∀ ns : List Int, intsOf (ns.map Dt.int) = some ns
  | [] => rfl
  | n :: ns => by
    rw [List.map_cons]
    unfold intsOf
    rw [intsOf_map ns]
    rfl
theorem denL_ints {G : Hp} : ∀ ns : List Int, DenL K cm G (ns.map V.int) (ns.map Dt.int)
  | [] => .nil
  | n :: ns => .cons (.int n) (denL_ints ns)
/-- what the promise of the law asks of a script -/
theorem law_sp {F : FN} {H : Hp} {a : Addr} {ns : List Int} (hF : ∀ ns : List Int, ns.length ≤ 63 → F [.lst (ns.map .int)] = some (.bl true)) (hl : ns.length ≤ 63) (hS : SqL K H a (ns.map V.int)) : spP K cm F [.ref a] H (fun v _ => v = .bl true) fun _ _ _ => False :=
  ⟨H, _, _, .refl H, .one (.lst hS (denL_ints ns)), hF ns hl, fun v H' G' _ den => by cases den; rfl⟩
end
end Pyl
end
section
set_option Elab.async false
set_option linter.all false
set_option maxRecDepth 100000
set_option maxHeartbeats 2000000
namespace Pyl
open PySem L2
section
variable {X : Cx} {cm : Nat → Addr} {a b c : Expr} {fa fb fc : EF} {σ : L2.St} {H G : Hp} {env : Sl} {pos p : Pos} {st : Stmt} {x : Str}
theorem js_dead : JS X cm st wDead := ⟨fun env D' σ H G hw rel D o => hw.elim⟩
/-- whatever rule fits -/
def rAny (X : Cx) (f : Value → Value → Sem Value) : R2 := fun x y H Q => ∃ rr : R2, OpR X f rr ∧ rr x y H Q
theorem op_any {f : Value → Value → Sem Value} : OpR X f (rAny X f) := by
  intro pins s σ H x y v u Q I rx ry q
  obtain ⟨rr, ho, hr⟩ := q
  exact ho pins s σ H x y v u Q I rx ry hr
theorem p2_any {f : Value → Value → Sem Value} {pf : Dt → Dt → Option R} (ok : P2 X cm f pf) {d1 d2 : Dt} {b1 b2 : Bool} {out : R} {v1 v2 : V} (r1 : VR X.K cm H G v1 d1 b1) (r2 : VR X.K cm H G v2 d2 b2) (s : Exx G H) (e : pf d1 d2 = some out) {Q : VK}
    (q : ∀ v H' G', Grow H G H' G' → RR X.K cm H H' G' v out → Q v H') : rAny X f v1 v2 H Q := by
  obtain ⟨rr, ho, hr⟩ := ok _ _ _ _ _ _ _ H G r1 r2 s e
  exact ⟨rr, ho, hr Q q⟩
theorem chain_ok {f f' : Value → Value → Sem Value} {pf qf : Dt → Dt → Option R} (ok : P2 X cm f pf) (ok' : P2 X cm f' qf) (ha : JE X cm a fa) (hb : JE X cm b fb) (hc : JE X cm c fc) {r : R} (hf : eChain pf qf fa fb fc env = some r) (rel : Rel X.K cm σ H G env) {Q : VK}
    (q : ∀ v H' G', Grow H G H' G' → RR X.K cm H H' G' v r → Q v H') : tChain (rAny X f) (rAny X f') (wpE X a) (wpE X b) (wpE X c) σ H Q := by
  obtain ⟨ra, h1, hf⟩ := Option.bind_eq_some_iff.mp hf
  obtain ⟨rb, h2, hf⟩ := Option.bind_eq_some_iff.mp hf
  refine ha.pub h1 rel fun v H1 G1 g1 vr => hb.pub h2 (rel.grow g1) fun w H2 G2 g2 wr => ?_
  have g12 := g1.trans g2
  split at hf
  · rename_i e
    obtain ⟨rc, h3, hf⟩ := Option.bind_eq_some_iff.mp hf
    refine p2_any ok (vr.grow g2) wr g2.sub e fun z H3 G3 g3 zr => ?_
    cases (show Den _ _ _ _ _ from zr)
    refine ⟨true, rfl, ?_⟩
    rw [if_pos rfl]
    refine hc.pub h3 (rel.grow (g12.trans g3)) fun u H4 G4 g4 ur => ?_
    have g14 := (g12.trans g3).trans g4
    exact p2_any ok' (wr.grow (g3.trans g4)) ur g4.sub hf fun z' H5 G5 g5 zr' => q z' H5 G5 (g14.trans g5) (zr'.hx g14.hx)
  · rename_i e
    cases hf
    refine p2_any ok (vr.grow g2) wr g2.sub e fun z H3 G3 g3 zr => ?_
    cases (show Den _ _ _ _ _ from zr)
    refine ⟨false, rfl, ?_⟩
    rw [if_neg Bool.false_ne_true]
    exact q _ H3 G3 (g12.trans g3) (Den.bl _)
  · cases hf
theorem je_chain {op op' : CmpOp} {pf qf : Dt → Dt → Option R} (ok : P2 X cm (compareOp op) pf) (ok' : P2 X cm (compareOp op') qf) (ha : JE X cm a fa) (hb : JE X cm b fb) (hc : JE X cm c fc)
    (hm : lastMarks [op, op'] [b, c] = false := by with_unfolding_all rfl) : JE X cm (.Compare a [op, op'] [b, c] pos) (eChain pf qf fa fb fc) :=
  ⟨fun env r σ H G hf rel Q q => to_e (pe_chain op_any op_any pe_w pe_w pe_w hm) (chain_ok ok ok' ha hb hc hf rel q)⟩
theorem jt_chain {op op' : CmpOp} {pf qf : Dt → Dt → Option R} (ok : P2 X cm (compareOp op) pf) (ok' : P2 X cm (compareOp op') qf) (ha : JE X cm a fa) (hb : JE X cm b fb) (hc : JE X cm c fc)
    (hm : lastMarks [op, op'] [b, c] = false := by with_unfolding_all rfl) : JT X cm (.Compare a [op, op'] [b, c] pos) (tVal (eChain pf qf fa fb fc)) := by
  refine ⟨fun env r σ H G hf rel Q q pins s I => ?_⟩
  unfold tVal at hf
  split at hf
  · rename_i b' h1
    cases hf
    refine (pt_chain op_any op_any pe_w pe_w pe_w hm).run pins s σ H _ I (chain_ok ok ok' ha hb hc h1 rel fun v H' G' g vr => ?_)
    cases (show Den _ _ _ _ _ from vr)
    exact ⟨_, rfl, q H' G' g⟩
  · cases hf
/-! math.gcd, math.comb -/
theorem je_f2 {id : String} {pf : Dt → Dt → Option R} (ok : P2c X cm (.builtin id) pf) (hg : Gl X x) (hm : X.mg x = some (.builtin id)) (ha : JE X cm a fa) (hb : JE X cm b fb) (hdb : (x == ("__debug__" : Str)) = false := by decide)
    (h0 : starEach [b] X.env = (false, eval b X.env) :: starEach [] X.env := by rfl) (he : starEach [a, b] X.env = (false, eval a X.env) :: starEach [b] X.env := by rfl) (hpl : (backTo pos (starEach [b] X.env)).any (·.1) = false := by rfl) : JE X cm (.Call (.Name x p) [a, b] [] pos) (e2 pf fa fb) := by
  refine ⟨fun env r σ H G hf rel Q q => ?_⟩
  obtain ⟨ra, h1, hf⟩ := Option.bind_eq_some_iff.mp hf
  obtain ⟨rb, h2, hf⟩ := Option.bind_eq_some_iff.mp hf
  obtain ⟨rr, hc, hr⟩ := ok
  refine to_e (pe_callBfun hc hg hm (pa_cons pe_w (pa_cons pe_w pa_nil h0) he) hdb he hpl) (ha.pub h1 rel fun v H1 G1 g1 vr => hb.pub h2 (rel.grow g1) fun w H2 G2 g2 wr => ?_)
  exact hr _ _ _ _ _ v w H2 G2 (vr.grow g2) wr g2.sub hf Q fun v' H3 G3 g3 rr3 => q v' H3 G3 ((g1.trans g2).trans g3) (rr3.hx (g1.trans g2).hx)
theorem p2c_gcd : P2c X cm (.builtin "math.gcd") pGcd := ⟨_, cr_gcd, fun d d2 b b2 out v v2 H G vr vr2 sub hp Q q => by
  unfold pGcd at hp
  split at hp
  · cases hp
    have e := vr.int
    have e2 := vr2.int
    subst e e2
    exact ⟨_, _, rfl, q _ _ _ (.refl sub) (Den.int _)⟩
  · cases hp⟩
theorem fp_up (n : Int) : ∀ k : Nat, Builtin.Math.fallingProduct (n + 1) (k + 1) = (n + 1) * Builtin.Math.fallingProduct n k
  | 0 => by rw [PySem.W.mc_fp_one, PySem.W.mc_fp_zero, Int.mul_one]
  | k + 1 => by
    rw [PySem.W.mc_fp_succ (n + 1) (k + 1), fp_up n k, PySem.W.mc_fp_succ n k, Int.mul_assoc]
    congr 2
    omega
theorem fp_choose : ∀ n k : Nat, Builtin.Math.fallingProduct n k = chooseN n k * Builtin.Math.fallingProduct k k
  | n, 0 => by unfold chooseN; rfl
  | 0, k + 1 => by
    unfold chooseN
    rw [PySem.W.mc_fp_succ]
    have h : ∀ j : Nat, Builtin.Math.fallingProduct ((0 : Nat) : Int) (j + 1) = 0 := fun j => by
      induction j with
      | zero => rfl
      | succ j ih => rw [PySem.W.mc_fp_succ, ih, Int.zero_mul]
    rw [← PySem.W.mc_fp_succ, h k]
    exact (Int.zero_mul _).symm
  | n + 1, k + 1 => by
    have h1 := fp_choose n k
    have h2 := fp_choose n (k + 1)
    rw [PySem.W.mc_fp_succ] at h2
    have e1 : Builtin.Math.fallingProduct (((n + 1 : Nat)) : Int) (k + 1) = ((n : Int) + 1) * Builtin.Math.fallingProduct n k := fp_up n k
    have e2 : Builtin.Math.fallingProduct (((k + 1 : Nat)) : Int) (k + 1) = ((k : Int) + 1) * Builtin.Math.fallingProduct k k := fp_up k k
    rw [e1]
    show _ = ((chooseN n k + chooseN n (k + 1) : Nat) : Int) * _
    generalize Builtin.Math.fallingProduct (((k + 1 : Nat)) : Int) (k + 1) = z at *
    generalize Builtin.Math.fallingProduct (n : Int) k = y at *
    have e3 : (chooseN n k : Int) * z = ((k : Int) + 1) * y := by
      rw [h1, e2, Int.mul_left_comm]
    rw [Int.natCast_add, Int.add_mul (chooseN n k : Int), ← h2, e3, Int.mul_comm y, ← Int.add_mul]
    congr 1
    omega
theorem choose_zero (n : Nat) : chooseN n 0 = 1 := by unfold chooseN; rfl
theorem choose_above : ∀ {n k : Nat}, n < k → chooseN n k = 0
  | 0, k + 1, _ => by unfold chooseN; rfl
  | n + 1, k + 1, h => by
    unfold chooseN
    rw [choose_above (n := n) (k := k) (by omega), choose_above (n := n) (k := k + 1) (by omega)]
theorem choose_self : ∀ n : Nat, chooseN n n = 1
  | 0 => by unfold chooseN; rfl
  | n + 1 => by
    unfold chooseN
    rw [choose_self n, choose_above (Nat.lt_succ_self n)]
theorem choose_symm : ∀ n a b : Nat, a + b = n → chooseN n a = chooseN n b
  | n, 0, b, h => by
    rw [Nat.zero_add] at h
    subst h
    rw [choose_zero, choose_self]
  | n, a + 1, 0, h => by
    rw [Nat.add_zero] at h
    subst h
    rw [choose_zero, choose_self]
  | n + 1, a + 1, b + 1, h => by
    show chooseN n a + chooseN n (a + 1) = chooseN n b + chooseN n (b + 1)
    rw [choose_symm n a (b + 1) (by omega), choose_symm n (a + 1) b (by omega)]
    omega
theorem comb_choose (n k : Nat) : PySem.W.mcComb n k = chooseN n k := by
  by_cases h : k ≤ n
  · have hd : ∀ m : Nat, m ≤ n → Builtin.Math.fallingProduct n m / Builtin.Math.fallingProduct m m = chooseN n m := fun m hm => by
      have hp := PySem.W.mc_fp_pos (n := m) m (Int.le_refl _)
      rw [fp_choose n m]
      exact Int.mul_ediv_cancel _ (by omega)
    rcases Nat.le_total k (n - k) with h2 | h2
    · rw [PySem.W.mcComb_at (m := k) (by omega) (by omega) (by omega), Int.toNat_natCast]
      exact hd k h
    · rw [PySem.W.mcComb_at (m := ((n - k : Nat) : Int)) (by omega) (by omega) (by omega), Int.toNat_natCast, hd (n - k) (Nat.sub_le _ _), choose_symm n (n - k) k (by omega)]
  · rw [PySem.W.mcComb_above (by omega), choose_above (by omega)]
    rfl
def rComb : List V → Hp → VK → Prop := fun vs H Q => ∃ a b : Int, vs = [.int a, .int b] ∧ (0 ≤ a ∧ a ≤ 9000 ∧ 0 ≤ b) ∧ Q (.int (chooseN a.toNat b.toNat : Nat)) H
theorem cr_comb : CallR X (.builtin "math.comb") rComb := by
  intro pins s σ H vs us Q I r h
  obtain ⟨a, b, rfl, ⟨h1, h2, h3⟩, q⟩ := h
  obtain ⟨t, u, rfl⟩ := Vals.int2 r
  obtain ⟨a, rfl⟩ : ∃ z : Nat, a = z := ⟨a.toNat, by omega⟩
  obtain ⟨b, rfl⟩ : ∃ z : Nat, b = z := ⟨b.toNat, by omega⟩
  rw [Int.toNat_natCast, Int.toNat_natCast, ← comb_choose] at q
  exact PySem.W.mc_comb h1 h3 (by omega) (Or.inr (by omega)) fun _ => ⟨.int _, H, I.tok _, ⟨_, rfl⟩, q⟩
theorem p2c_comb : P2c X cm (.builtin "math.comb") pComb := ⟨_, cr_comb, fun d d2 b b2 out v v2 H G vr vr2 sub hp Q q => by
  unfold pComb at hp
  split at hp
  · split at hp
    · rename_i hk
      cases hp
      have e := vr.int
      have e2 := vr2.int
      subst e e2
      exact ⟨_, _, rfl, hk, q _ _ _ (.refl sub) (Den.int _)⟩
    · cases hp
  · cases hp⟩
theorem je_gcd (hg : Gl X "gcd") (hm : X.mg "gcd" = some (.builtin "math.gcd")) (ha : JE X cm a fa) (hb : JE X cm b fb)
    (h0 : starEach [b] X.env = (false, eval b X.env) :: starEach [] X.env := by rfl) (he : starEach [a, b] X.env = (false, eval a X.env) :: starEach [b] X.env := by rfl) (hpl : (backTo pos (starEach [b] X.env)).any (·.1) = false := by rfl) : JE X cm (.Call (.Name "gcd" p) [a, b] [] pos) (e2 pGcd fa fb) := je_f2 p2c_gcd hg hm ha hb (by decide) h0 he hpl
theorem je_comb (hg : Gl X "comb") (hm : X.mg "comb" = some (.builtin "math.comb")) (ha : JE X cm a fa) (hb : JE X cm b fb)
    (h0 : starEach [b] X.env = (false, eval b X.env) :: starEach [] X.env := by rfl) (he : starEach [a, b] X.env = (false, eval a X.env) :: starEach [b] X.env := by rfl) (hpl : (backTo pos (starEach [b] X.env)).any (·.1) = false := by rfl) : JE X cm (.Call (.Name "comb" p) [a, b] [] pos) (e2 pComb fa fb) := je_f2 p2c_comb hg hm ha hb (by decide) h0 he hpl
/-! a global name of an int -/
theorem je_gint {i : Int} {k : Tok} (hg : Gl X x) (hm : X.mg x = some (.int i k)) (hd : (x == ("__debug__" : Str)) = false := by decide) : JE X cm (.Name x p) (eC (.int i)) := ⟨fun env r σ H G hf rel Q q => by
  cases hf
  exact to_e (pe_glob hg hm (v := .int i) ⟨_, rfl⟩ hd) (q _ H G (.refl rel.sub) (Den.int i))⟩
/-! range with a step -/
theorem stepD_length (a c : Int) (n : Nat) : (stepD a c n).length = n := by
  unfold stepD
  rw [List.length_map, List.length_range]
theorem itc_ok {K : PySem.W.Frag} {lo c : Int} {n : Nat} {t : Bool} {H0 G0 : Hp} : ItOk K cm (Itc lo c n) (stepD lo c n) t H0 G0 where
  go := fun i H G s hi => by
    rw [stepD_length] at hi
    exact hi
  yl := fun i H G v H' s hi y => by
    obtain ⟨rfl, rfl⟩ := y
    rw [stepD_length] at hi
    refine ⟨G, .int (lo + (i : Int) * c), ?_, .refl s.sub, .int _⟩
    unfold stepD
    rw [List.getElem?_map, List.getElem?_range hi]
    rfl
  stop := fun i H G s hi => by
    rw [stepD_length] at hi
    exact hi
theorem rgc_of {i j k : Int} (hk : (0 < k ∧ k < 1073741824) ∨ k = -1) (hi : -1099511627776 ≤ i ∧ i ≤ 1099511627776) (hj : -1099511627776 ≤ j ∧ j ≤ 1099511627776) : RgC i j k (stepN i j k) := by
  rcases hk with ⟨h0, h1⟩ | rfl
  · have hs : Builtin.Range.rangeSize i j k = (stepN i j k : Nat) ∧ (stepN i j k : Int) ≤ 2199023255552 := by
      unfold Builtin.Range.rangeSize stepN
      rw [if_pos h0, if_pos h0]
      split
      · have h2 : (j - i - 1) / k ≤ j - i - 1 := Int.ediv_le_self _ (by omega)
        have h3 : 0 ≤ (j - i - 1) / k := Int.ediv_nonneg (by omega) (by omega)
        omega
      · omega
    refine ⟨by omega, by omega, ?_, hs.1⟩
    unfold Builtin.Range.small
    rw [hs.1]
    generalize stepN i j k = n at *
    have h4 : k > 0 := h0
    rw [if_pos h4]
    simp only [Builtin.Range.rangeFitsLong, Bool.and_eq_true, Bool.or_eq_true, decide_eq_true_eq, beq_iff_eq]
    omega
  · have e : stepN i j (-1) = (i - j).toNat := by
      unfold stepN
      rw [if_neg (by decide)]
    rw [e]
    exact RgC.neg (by omega) (by omega) (by omega) (by omega)
theorem ji_range3 {tg : Expr} (hg : Gl X "range") (hm : X.mg "range" = none) (ha : JE X cm a fa) (hb : JE X cm b fb) (hc : JE X cm c fc) (hs : starEach [a, b, c] X.env = (false, eval a X.env) :: starEach [b, c] X.env := by rfl) (hpl : (backTo pos (starEach [b, c] X.env)).any (·.1) = false := by rfl)
    (he2 : starEach [b, c] X.env = (false, eval b X.env) :: starEach [c] X.env := by rfl) (he3 : starEach [c] X.env = (false, eval c X.env) :: starEach [] X.env := by rfl) : JI X cm tg (.Call (.Name "range" p) [a, b, c] [] pos) (iRange3 fa fb fc) := by
  refine ⟨fun env ds t σ H G hf rel Q q => ?_⟩
  obtain ⟨ra, h1, hf⟩ := Option.bind_eq_some_iff.mp hf
  obtain ⟨rb, h2, hf⟩ := Option.bind_eq_some_iff.mp hf
  obtain ⟨rc, h3, hf⟩ := Option.bind_eq_some_iff.mp hf
  split at hf
  · rename_i i j k e1 e2 e3
    split at hf
    · rename_i hn
      cases hf
      refine to_i (pi_range3 hg hm (pa_cons pe_w (pa_cons pe_w (pa_cons pe_w pa_nil he3) he2) hs) hs hpl) (ha.pub h1 rel fun v H1 G1 g1 vr => hb.pub h2 (rel.grow g1) fun w H2 G2 g2 wr => hc.pub h3 (rel.grow (g1.trans g2)) fun u H3 G3 g3 ur => ?_)
      rw [e1] at vr
      rw [e2] at wr
      rw [e3] at ur
      have ev := vr.int
      have ew := wr.int
      have eu := ur.int
      subst ev ew eu
      exact ⟨i, j, k, _, rfl, rgc_of hn.1 hn.2.1 hn.2.2, q _ H3 G3 ((g1.trans g2).trans g3) itc_ok⟩
    · cases hf
  · cases hf
/-! max, min of a list of ints -/
theorem foldmax (ns : List Int) : ∀ n : Int, (ns.foldl (fun m x => if x > m then x else m) n) ∈ n :: ns ∧ ∀ y ∈ n :: ns, y ≤ ns.foldl (fun m x => if x > m then x else m) n := by
  induction ns with
  | nil => exact fun n => ⟨List.mem_cons_self, fun y hy => by rw [List.mem_singleton.mp hy]; exact Int.le_refl _⟩
  | cons a ns ih =>
    intro n
    obtain ⟨h1, h2⟩ := ih (if a > n then a else n)
    rw [List.foldl_cons]
    refine ⟨?_, fun y hy => ?_⟩
    · rcases List.mem_cons.mp h1 with e | e
      · rw [e]
        split
        · exact List.mem_cons_of_mem _ List.mem_cons_self
        · exact List.mem_cons_self
      · exact List.mem_cons_of_mem _ (List.mem_cons_of_mem _ e)
    · have h0 := h2 _ List.mem_cons_self
      rcases List.mem_cons.mp hy with e | e
      · subst e
        exact Int.le_trans (show y ≤ if a > y then a else y by split <;> omega) h0
      · rcases List.mem_cons.mp e with e | e
        · subst e
          exact Int.le_trans (show y ≤ if y > n then y else n by split <;> omega) h0
        · exact h2 y (List.mem_cons_of_mem _ e)
theorem foldmin (ns : List Int) : ∀ n : Int, (ns.foldl (fun m x => if x < m then x else m) n) ∈ n :: ns ∧ ∀ y ∈ n :: ns, ns.foldl (fun m x => if x < m then x else m) n ≤ y := by
  induction ns with
  | nil => exact fun n => ⟨List.mem_cons_self, fun y hy => by rw [List.mem_singleton.mp hy]; exact Int.le_refl _⟩
  | cons a ns ih =>
    intro n
    obtain ⟨h1, h2⟩ := ih (if a < n then a else n)
    rw [List.foldl_cons]
    refine ⟨?_, fun y hy => ?_⟩
    · rcases List.mem_cons.mp h1 with e | e
      · rw [e]
        split
        · exact List.mem_cons_of_mem _ List.mem_cons_self
        · exact List.mem_cons_self
      · exact List.mem_cons_of_mem _ (List.mem_cons_of_mem _ e)
    · have h0 := h2 _ List.mem_cons_self
      rcases List.mem_cons.mp hy with e | e
      · subst e
        exact Int.le_trans h0 (show (if a < y then a else y) ≤ y by split <;> omega)
      · rcases List.mem_cons.mp e with e | e
        · subst e
          exact Int.le_trans h0 (show (if y < n then y else n) ≤ y by split <;> omega)
        · exact h2 y (List.mem_cons_of_mem _ e)
theorem VR.lstI {v : V} {b : Bool} {ds : List Dt} {ns : List Int} (sub : Exx G H) (vr : VR X.K cm H G v (.lst ds) b) (e : intsOf ds = some ns) : ∃ l, v = .ref l ∧ SqL X.K H l (ns.map V.int) := by
  cases b with
  | true =>
    obtain ⟨l, vs, ds', h1, h2, h3, h4⟩ := vr.1 rfl
    cases h2
    rw [DenL.ints h4 e] at h3
    exact ⟨l, h1, h3⟩
  | false =>
    cases vr.2 rfl with
    | lst h3 h4 =>
      rw [DenL.ints h4 e] at h3
      exact ⟨_, rfl, sub.sqL h3⟩
theorem p1_max (hc : X.calm = true) : P1 X cm (.builtin "max") pMaxL := ⟨_, cr_max hc, fun d b out v H G vr sub hp Q q => by
  unfold pMaxL at hp
  split at hp
  · rename_i ds
    obtain ⟨ns, e, hp⟩ := Option.bind_eq_some_iff.mp hp
    split at hp
    · cases hp
    · rename_i n ns
      cases hp
      obtain ⟨l, rfl, h⟩ := vr.lstI sub e
      obtain ⟨f1, f2⟩ := foldmax ns n
      refine ⟨l, n :: ns, rfl, h, by simp, fun m h1 h2 => ?_⟩
      have em : m = ns.foldl (fun m x => if x > m then x else m) n := Int.le_antisymm (f2 m h1) (h2 _ f1)
      rw [em]
      exact q _ _ _ (.refl sub) (Den.int _)
  · cases hp⟩
theorem p1_min (hc : X.calm = true) : P1 X cm (.builtin "min") pMinL := ⟨_, cr_min hc, fun d b out v H G vr sub hp Q q => by
  unfold pMinL at hp
  split at hp
  · rename_i ds
    obtain ⟨ns, e, hp⟩ := Option.bind_eq_some_iff.mp hp
    split at hp
    · cases hp
    · rename_i n ns
      cases hp
      obtain ⟨l, rfl, h⟩ := vr.lstI sub e
      obtain ⟨f1, f2⟩ := foldmin ns n
      refine ⟨l, n :: ns, rfl, h, by simp, fun m h1 h2 => ?_⟩
      have em : m = ns.foldl (fun m x => if x < m then x else m) n := Int.le_antisymm (h2 _ f1) (f2 m h1)
      rw [em]
      exact q _ _ _ (.refl sub) (Den.int _)
  · cases hp⟩
/-! an int among ints -/
theorem inV_ints (i : Int) (ns : List Int) : inV (.int i) (ns.map V.int) = decide (i ∈ ns) := by
  unfold inV
  rw [List.any_map]
  rw [Bool.eq_iff_iff, List.any_eq_true, decide_eq_true_iff]
  constructor
  · rintro ⟨y, hy, e⟩
    have e2 : y = i := by simpa [eqV] using e
    rw [← e2]
    exact hy
  · intro h
    exact ⟨i, h, by simp [eqV]⟩
theorem flat_ints (ns : List Int) : (ns.map V.int).all flatV = true := by
  rw [List.all_eq_true]
  intro x hx
  obtain ⟨n, _, rfl⟩ := List.mem_map.mp hx
  rfl
theorem in_some {d1 d2 : Dt} {t b1 b2 : Bool} {v1 v2 : V} (h : inInts d1 d2 = some t) (r1 : VR X.K cm H G v1 d1 b1) (r2 : VR X.K cm H G v2 d2 b2) (sub : Exx G H) :
    ∃ (i : Int) (ns : List Int) (p : Addr), v1 = .int i ∧ v2 = .ref p ∧ (SqL X.K H p (ns.map V.int) ∨ SqT X.K H p (ns.map V.int)) ∧ t = decide (i ∈ ns) := by
  unfold inInts at h
  split at h
  · obtain ⟨ns, e, rfl⟩ := Option.map_eq_some_iff.mp h
    obtain ⟨l, rfl, hq⟩ := r2.lstI sub e
    exact ⟨_, ns, l, r1.int, rfl, Or.inl hq, rfl⟩
  · obtain ⟨ns, e, rfl⟩ := Option.map_eq_some_iff.mp h
    obtain ⟨l, vs, rfl, s1, t1, n1⟩ := r2.tup sub
    rw [DenL.ints n1 e] at s1
    exact ⟨_, ns, l, r1.int, rfl, Or.inr s1, rfl⟩
  · cases h
theorem p2_in : P2 X cm (compareOp .In) pIn := by
  intro d1 d2 b1 b2 out v1 v2 H G r1 r2 sub hp
  unfold pIn at hp
  obtain ⟨t, h1, rfl⟩ := Option.map_eq_some_iff.mp hp
  obtain ⟨i, ns, p, rfl, rfl, hq, rfl⟩ := in_some h1 r1 r2 sub
  refine ⟨_, op_in_seq, fun Q q => ⟨p, _, rfl, hq, rfl, flat_ints ns, ?_⟩⟩
  rw [inV_ints]
  exact q _ _ _ (.refl sub) (Den.bl _)
theorem p2_notin : P2 X cm (compareOp .NotIn) pNotIn := by
  intro d1 d2 b1 b2 out v1 v2 H G r1 r2 sub hp
  unfold pNotIn at hp
  obtain ⟨t, h1, rfl⟩ := Option.map_eq_some_iff.mp hp
  obtain ⟨i, ns, p, rfl, rfl, hq, rfl⟩ := in_some h1 r1 r2 sub
  refine ⟨_, op_notIn_seq, fun Q q => ⟨p, _, rfl, hq, rfl, flat_ints ns, ?_⟩⟩
  rw [inV_ints]
  exact q _ _ _ (.refl sub) (Den.bl _)
/-! bits of ints that are not below 0 -/
theorem and_nn {x y : Int} (hx : 0 ≤ x) (hy : 0 ≤ y) : Builtin.bitAnd x y = ((x.toNat &&& y.toNat : Nat) : Int) := by
  unfold Builtin.bitAnd
  rw [decide_eq_true hx, decide_eq_true hy]
theorem p2_xor : P2 X cm (binaryOp .BitXor) pXor := p2_int0 op_xor fun i j k h => by
  split at h
  · rename_i hk
    cases h
    rw [Bits.bitXor_pp hk.1 hk.2]
  · cases h
theorem p2_and : P2 X cm (binaryOp .BitAnd) pAnd := p2_int0 op_and fun i j k h => by
  split at h
  · rename_i hk
    cases h
    rw [and_nn hk.1 hk.2]
  · cases h
theorem p2_or : P2 X cm (binaryOp .BitOr) pOr := p2_int0 op_or fun i j k h => by
  split at h
  · rename_i hk
    cases h
    rw [bitOr_nn hk.1 hk.2]
  · cases h
end
end Pyl
end
section
set_option Elab.async false
set_option linter.all false
set_option maxRecDepth 100000
set_option maxHeartbeats 2000000
namespace Pyl
open PySem L2
/-! ### only looked at -/
section
variable {X : Cx} {cm : Nat → Addr} {e a b c tg iter : Expr} {f fa fb fc fe fk : EF} {σ : L2.St} {H G : Hp} {env : Sl} {pos p : Pos} {x : Str} {m : MF} {es : List Expr}
theorem frzAll_get {env : Sl} {i : Nat} {s : Slot} (h : (frzAll env)[i]? = some s) : ∃ s', env[i]? = some s' ∧ s = s'.frz := by
  unfold frzAll at h
  rw [List.getElem?_map] at h
  obtain ⟨s', h1, h2⟩ := Option.map_eq_some_iff.mp h
  exact ⟨s', h1, h2.symm⟩
theorem Rel.look {K : PySem.W.Frag} (r : Rel K cm σ H G env) : Rel K cm σ H H (frzAll env) where
  len := by unfold frzAll; rw [List.length_map, r.len]
  sub := .refl _
  val := fun i d hi => by
    obtain ⟨s, h1, h2⟩ := frzAll_get hi
    cases s with
    | val d' =>
      cases h2
      obtain ⟨v, k1, k2⟩ := r.val i d h1
      exact ⟨v, k1, k2.mono r.sub⟩
    | own od =>
      cases h2
      obtain ⟨l, o, k1, k2, k3, k4⟩ := r.own i od h1
      cases o <;> cases od <;> first | exact k4.elim | skip
      exact ⟨_, k1, .lst (SqL.of k2) (DenL.mono r.sub k4)⟩
    | mat dss =>
      cases h2
      obtain ⟨l, as, k1, k2⟩ := r.mat i dss h1
      refine ⟨_, k1, .lst (SqL.of k2.at_) (den_rows k2.len fun k a ds e1 e2 => ?_)⟩
      obtain ⟨vs, q1, q2, q3⟩ := k2.row k a ds e1 e2
      exact ⟨vs, q1, q3.mono r.sub⟩
    | non => cases h2
    | take => cases h2
  own := fun i od hi => by
    obtain ⟨s, h1, h2⟩ := frzAll_get hi
    cases s <;> cases h2
  mat := fun i dss hi => by
    obtain ⟨s, h1, h2⟩ := frzAll_get hi
    cases s <;> cases h2
  dist := fun i j a hi hj => by
    rcases hi with ⟨od, hi, _⟩ | ⟨dss, l, as, hi, _⟩ <;> obtain ⟨s, h1, h2⟩ := frzAll_get hi <;> cases s <;> cases h2
theorem scalars_den {K : PySem.W.Frag} {G G' : Hp} : ∀ {vs : List V} {ds : List Dt}, DenL K cm G vs ds → ds.all Dt.scalar = true → DenL K cm G' vs ds
  | _, _, .nil, _ => .nil
  | _, _, .cons h t, s => by
    rw [List.all_cons, Bool.and_eq_true] at s
    exact .cons (Dt.scalar_den h s.1) (scalars_den t s.2)
theorem look_grow {H G H' G' : Hp} (s : Exx G H) (g : Grow H H H' G') : Grow H G H' G := ⟨g.hx, .refl _, fun _ _ _ n => n, s.trans g.hx⟩
theorem je_look (h : JE X cm e f) : JE X cm e (eLook f) := by
  refine ⟨fun env r σ H G hf rel Q q => ?_⟩
  unfold eLook at hf
  split at hf
  · rename_i d h1
    split at hf
    case isFalse => cases hf
    rename_i sc
    cases hf
    exact h.run _ _ σ H H h1 rel.look Q fun v H' G' g rr => q v H' G (look_grow rel.sub g) (Dt.scalar_den rr sc)
  · rename_i ds h1
    split at hf
    case isFalse => cases hf
    rename_i sc
    cases hf
    refine h.run _ _ σ H H h1 rel.look Q fun v H' G' g rr => q v H' G (look_grow rel.sub g) ?_
    obtain ⟨l, o, e1, e2, e3, e4, e5⟩ := rr
    cases o <;> first | exact e5.elim | skip
    exact ⟨l, _, e1, e2, e3, rel.sub.back e2, scalars_den e5 sc⟩
  · cases hf
theorem jt_look {t : TF} (h : JT X cm e t) : JT X cm e (tLook t) :=
  ⟨fun env b σ H G hf rel Q q => h.run _ _ σ H H hf rel.look Q fun H' G' g => q H' G (look_grow rel.sub g)⟩

/-! ### lists of lists of one's own -/
structure JM (X : Cx) (cm : Nat → Addr) (e : Expr) (m : MF) : Prop where
  run : ∀ (env : Sl) (dss : List (List Dt)) (σ : L2.St) (H G : Hp), m env = some dss → Rel X.K cm σ H G env → ∀ Q : VK, (∀ l as H' G', Grow H G H' G' → (∀ a ∈ l :: as, H a = none) → MatR X.K cm H' G' l as dss → Q (.ref l) H') → wpE X e σ H Q
theorem js_asgM (i : Nat) {pos' : Pos} (hN : X.N.Nodup) (he : JM X cm e m) (hi : X.N[i]? = some x := by rfl) (hx : Loc X.env.scope x := by first | exact Or.inl rfl | exact Or.inr rfl) (hs : swapsWith e (some (.Name x pos')) pos.line X.env = pure false := by rfl)
    (hf : X.fn x = true ∨ X.env.scope.names.lookup x = some .local := by first | exact .inl rfl | exact .inr rfl | assumption) : JS X cm (.Assign [.Name x pos'] e pos) (wAsgM i m) := by
  refine ⟨fun env D' σ H G hw rel D o => to_s (ps_set hN hi hx pe_w hs hf) ?_⟩
  obtain ⟨dss, h1, h2⟩ := hw
  refine he.run env dss σ H G h1 rel _ fun l as H1 G1 g1 new mr => ?_
  obtain ⟨q1, q2⟩ := asg_mat (i := i) rel g1 new mr
  exact o.nx _ _ _ _ q1 q2 h2
/-- rows side by side -/
structure RowsR (K : PySem.W.Frag) (cm : Nat → Addr) (H G : Hp) (as : List Addr) (dss : List (List Dt)) : Prop where
  nd : as.Nodup
  len : as.length = dss.length
  row : ∀ (k : Nat) (a : Addr) (ds : List Dt), as[k]? = some a → dss[k]? = some ds → ∃ vs, H a = some (.lst vs) ∧ G a = none ∧ DenL K cm G vs ds
structure JMs (X : Cx) (cm : Nat → Addr) (es : List Expr) (m : MF) : Prop where
  run : ∀ (env : Sl) (dss : List (List Dt)) (σ : L2.St) (H G : Hp), m env = some dss → Rel X.K cm σ H G env → ∀ Q : List V → Hp → Prop, (∀ as H' G', Grow H G H' G' → (∀ a ∈ as, H a = none) → RowsR X.K cm H' G' as dss → Q (as.map V.ref) H') → wpA X es σ H Q
  len : ∀ (env : Sl) (dss : List (List Dt)), m env = some dss → dss.length = es.length
theorem jms_nil : JMs X cm [] mNil := ⟨fun env dss σ H G hf rel Q q => by
  cases hf
  exact to_a pa_nil (q [] H G (.refl rel.sub) (fun a h => by cases h) ⟨.nil, rfl, fun k a ds h => by simp at h⟩), fun env dss h => by cases h; rfl⟩
theorem freL_some {r : Option R} {ds : List Dt} (h : freL r = some ds) : r = some (.fre (.lst ds)) := by
  unfold freL at h
  split at h
  · cases h; rfl
  · cases h
theorem jms_cons (ha : JE X cm e fe) (hr : JMs X cm es m) (hs : starEach (e :: es) X.env = (false, eval e X.env) :: starEach es X.env := by rfl) : JMs X cm (e :: es) (mCons fe m) := by
  refine ⟨fun env dss σ H G hf rel Q q => ?_, fun env dss hf => ?_⟩
  · obtain ⟨ds, h1, hf⟩ := Option.bind_eq_some_iff.mp hf
    obtain ⟨rs, h2, hf⟩ := Option.bind_eq_some_iff.mp hf
    cases hf
    refine to_a (pa_cons pe_w pa_w hs) ?_
    refine ha.run env _ σ H G (freL_some h1) rel _ fun v H1 G1 g1 rr => ?_
    obtain ⟨l, o, rfl, e2, e3, e4, e5⟩ := rr
    cases o <;> first | exact e5.elim | skip
    rename_i vs
    refine hr.run env rs σ H1 G1 h2 (rel.grow g1) _ fun as H2 G2 g2 new rows => ?_
    refine q (l :: as) H2 G2 (g1.trans g2) (fun a h => ?_) ⟨?_, ?_, fun k a ds' h1 h2 => ?_⟩
    · rcases List.mem_cons.mp h with rfl | h
      · exact e2
      · exact g1.hx.back (new a h)
    · exact List.nodup_cons.mpr ⟨fun h => (by rw [new l h] at e3; cases e3), rows.nd⟩
    · rw [List.length_cons, List.length_cons, rows.len]
    · cases k with
      | zero =>
        cases h1
        cases h2
        exact ⟨vs, g2.hx _ _ e3, g2.hid _ _ e3 e4, DenL.mono g2.gx e5⟩
      | succ k => exact rows.row k a ds' (by simpa using h1) (by simpa using h2)
  · obtain ⟨ds, h1, hf⟩ := Option.bind_eq_some_iff.mp hf
    obtain ⟨rs, h2, hf⟩ := Option.bind_eq_some_iff.mp hf
    cases hf
    rw [List.length_cons, List.length_cons, hr.len env rs h2]
theorem jm_lst (h : JMs X cm es m) (hz : es.length ≤ 100000 := by decide) : JM X cm (.List es pos) m := by
  refine ⟨fun env dss σ H G hf rel Q q => ?_⟩
  refine to_e (pe_lst pa_w) ?_
  refine h.run env dss σ H G hf rel _ fun as H1 G1 g1 new rows => ⟨?_, fun p hp => ?_⟩
  · rw [List.length_map, rows.len, h.len env dss hf]
    exact Nat.le_trans hz (by decide)
  · have n := g1.sub.back hp
    have hin : ∀ a ∈ as, ∃ vs, H1 a = some (.lst vs) := fun a h => by
      obtain ⟨k, hk, e⟩ := List.getElem_of_mem h
      have hk' : k < dss.length := by rw [← rows.len]; exact hk
      obtain ⟨vs, q1, _⟩ := rows.row k a _ (by rw [List.getElem?_eq_getElem hk, e]) (List.getElem?_eq_getElem hk')
      exact ⟨vs, q1⟩
    have pn : p ∉ as := fun h => by
      obtain ⟨vs, q1⟩ := hin p h
      rw [hp] at q1; cases q1
    refine q p as _ G1 (g1.trans (.hide g1.sub hp)) (fun a h => ?_) ⟨upd_same, n, List.nodup_cons.mpr ⟨pn, rows.nd⟩, rows.len, fun k a ds h1 h2 => ?_⟩
    · rcases List.mem_cons.mp h with rfl | h
      · exact g1.hx.back hp
      · exact new a h
    · obtain ⟨vs, q1, q2, q3⟩ := rows.row k a ds h1 h2
      exact ⟨vs, by rw [upd_ne (fun e => pn (by rw [← e]; exact List.mem_of_getElem? h1))]; exact q1, q2, q3⟩
theorem compM_cons {g : Dt → Option (List Dt)} {d : Dt} {ds : List Dt} {out : List (List Dt)} (h : compM g (d :: ds) = some out) : ∃ o r, g d = some o ∧ compM g ds = some r ∧ out = o :: r := by
  obtain ⟨o, h1, h⟩ := Option.bind_eq_some_iff.mp h
  obtain ⟨r, h2, h⟩ := Option.bind_eq_some_iff.mp h
  cases h
  exact ⟨o, r, h1, h2, rfl⟩
theorem compM_len {g : Dt → Option (List Dt)} : ∀ {ds : List Dt} {out : List (List Dt)}, compM g ds = some out → out.length = ds.length
  | [], _, h => by cases h; rfl
  | d :: ds, _, h => by
    obtain ⟨o, r, _, h2, rfl⟩ := compM_cons h
    rw [List.length_cons, List.length_cons, compM_len h2]
/-- a comprehension of new lists -/
theorem jm_lc {elt : Expr} {scope : Scope} {js : List Nat} {fi : IF} {g : GF} {fe : EF} (own : List (Str × Nat)) (hc : X.calm = true) (hN : X.N.Nodup) (hi : JI X cm tg iter fi) (ok : blkC X.N X.env.scope scope own = true)
    (hg : ∀ (s : Shared) (H : Hp) (C : Addr) (cl : List (Str × Addr)) (fp : List Addr), JG (X.blk s H scope (compEnvC scope cl C X.env) fp) cm tg js g) (hj : ∀ j ∈ js, j ∈ own.map (·.2))
    (ht : ∀ (s : Shared) (H : Hp) (C : Addr) (cl : List (Str × Addr)) (fp : List Addr), JTs (X.blk s H scope (compEnvC scope cl C X.env) fp) cm [] tYes)
    (he : ∀ (s : Shared) (H : Hp) (C : Addr) (cl : List (Str × Addr)) (fp : List Addr), JE (X.blk s H scope (compEnvC scope cl C X.env) fp) cm elt fe) (hs : ∀ x, foldedSetIterable iter X.env x = pure x := by intro _; rfl) :
    JM X cm (.ListComp elt [⟨tg, iter, [], 0⟩] scope pos) (mComp (own.map (·.2)) fi g fe) := by
  refine ⟨fun env dss σ H G hf rel Q q => to_e (pe_lc hc hN pi_w (blkOk_by ok) (fun _ _ _ _ _ => pg_B) (fun _ _ _ _ _ => pt_B) (fun _ _ _ _ _ => pe_B) hs) ?_⟩
  obtain ⟨⟨ds, bb⟩, h1, hf⟩ := Option.bind_eq_some_iff.mp hf
  dsimp only at hf
  split at hf
  case isFalse => cases hf
  rename_i hlen
  refine hi.run env ds bb σ H G h1 rel _ fun J H1 G1 g1 jok => fun D hD => ?_
  have rel1 := rel.grow g1
  generalize hgo : (fun d => (g d (wipeS env (own.map (·.2)))).bind fun env' => freL (fe env')) = go at hf
  refine ⟨fun i m H' => m = ds.length - i ∧ i ≤ ds.length ∧ ∃ (G' : Hp) (as : List Addr) (ad ro : List (List Dt)), Exx G' H' ∧ Exx G1 G' ∧ Exx H1 H' ∧ (∀ a o, H1 a = some o → G1 a = none → G' a = none) ∧ MatR X.K cm H' G' D as ad ∧ (∀ a ∈ as, H1 a = none) ∧ ad.length = i ∧
    compM go (ds.drop i) = some ro ∧ dss = ad ++ ro, ⟨ds.length, rfl, Nat.zero_le _, G1, [], [], dss, (Grow.hide g1.sub hD).sub, .refl _, .new hD, fun _ _ _ n => n, ⟨upd_same, g1.sub.back hD, List.nodup_cons.mpr ⟨fun h => (by cases h), List.nodup_nil⟩, rfl, fun k a ds h => (by simp at h)⟩, fun a h => (by cases h), rfl, (by rw [List.drop_zero]; exact hf), rfl⟩, ?_⟩
  rintro i m H' ⟨rfl, hi', G', as, ad, ro, sub, gx, hx, hid, mat, new, hal, hro, hout⟩
  have st : StK H1 G1 bb H' G' := ⟨sub, gx, fun _ => hx⟩
  by_cases hlt : i < ds.length
  · refine .inr ⟨jok.go i H' G' st hlt, fun H2 => i + 1 ≤ ds.length ∧ ∃ (G' : Hp) (as : List Addr) (ad ro : List (List Dt)), Exx G' H2 ∧ Exx G1 G' ∧ Exx H1 H2 ∧ (∀ a o, H1 a = some o → G1 a = none → G' a = none) ∧ MatR X.K cm H2 G' D as ad ∧ (∀ a ∈ as, H1 a = none) ∧ ad.length = i + 1 ∧
      compM go (ds.drop (i + 1)) = some ro ∧ dss = ad ++ ro, fun H2 hw => ⟨ds.length - (i + 1), by omega, rfl, hw⟩, fun v H2 hy => ?_⟩
    obtain ⟨G2, d, hd, g2, dn⟩ := jok.yl i H' G' v H2 st hlt hy
    rw [drop_get hd] at hro
    obtain ⟨o, ro', ho, hro', rfl⟩ := compM_cons hro
    rw [← hgo] at ho
    obtain ⟨env', hg', ho⟩ := Option.bind_eq_some_iff.mp ho
    have relb : Rel X.K cm (L2.wipe σ (own.map (·.2))) H2 G2 (wipeS env (own.map (·.2))) := by
      refine ((Rel.grow rel1 (H' := H') (G' := G') ⟨hx, gx, hid, sub⟩).grow g2).wipe _
    intro s H0 C cl fp
    refine (hg s H0 C cl fp).run _ env' d v _ H2 G2 hg' relb dn _ fun σ' rel' fr' same len => ⟨wipe_eq (len.trans (wipe_length _ _)) same hj, ?_⟩
    intro s H0 C cl fp
    refine (ht s H0 C cl fp).ex env' true σ' H2 G2 rfl rel' _ fun H3 G3 g3 => ?_
    have g23 := g2.trans g3
    refine iteT ?_
    intro s H0 C cl fp
    refine (he s H0 C cl fp).run env' _ σ' H3 G3 (freL_some ho) (rel'.grow g3) _ fun y H4 G4 g4 rr => ?_
    obtain ⟨l, ob, rfl, e2, e3, e4, e5⟩ := rr
    cases ob <;> first | exact e5.elim | skip
    rename_i vs
    have g24 := g23.trans g4
    have mat3 := mat.mono g23
    have mat4 := mat3.mono g4
    have lD : l ≠ D := fun e => by
      subst e
      rw [mat3.at_] at e2; cases e2
    have las : l ∉ as := fun h => by
      obtain ⟨⟨o, ho⟩, _⟩ := mat3.all (List.mem_cons_of_mem _ h)
      rw [ho] at e2; cases e2
    refine ⟨_, mat4.at_, ?_, hlt, G4, as ++ [l], ad ++ [o], ro', ?_, gx.trans g24.gx, ?_, fun a o h n => g24.hid a o (hx a o h) (hid a o h n), ⟨?_, mat4.hid, ?_, ?_, fun k a ds' h1 h2 => ?_⟩, fun a h => ?_, ?_, hro', ?_⟩
    · rw [List.length_map, mat4.len]
      exact Nat.lt_of_le_of_lt (Nat.le_of_eq hal) (Nat.lt_of_lt_of_le (Nat.lt_of_lt_of_le hlt hlen) (lim_ok (Nat.le_refl _)))
    · intro a o h
      by_cases e : a = D
      · subst e
        rw [mat4.hid] at h
        cases h
      · rw [upd_ne e]
        exact g4.sub a o h
    · intro a o h
      rw [upd_ne (ne_of_none h hD)]
      exact g24.hx a o (hx a o h)
    · rw [upd_same, List.map_append]
      rfl
    · have nd := List.nodup_cons.mp mat.nd
      refine List.nodup_cons.mpr ⟨fun h => ?_, List.nodup_append.mpr ⟨nd.2, List.nodup_cons.mpr ⟨fun h => (by cases h), List.nodup_nil⟩, fun a h1 b h2 => ?_⟩⟩
      · rcases List.mem_append.mp h with h | h
        · exact nd.1 h
        · exact lD (List.mem_singleton.mp h).symm
      · rw [List.mem_singleton.mp h2]
        exact fun e => las (by rw [← e]; exact h1)
    · rw [List.length_append, List.length_append, mat4.len]
      rfl
    · have hak : k < as.length + 1 := by
        have := (List.getElem?_eq_some_iff.mp h1).1
        rwa [List.length_append, List.length_singleton] at this
      by_cases hk : k < as.length
      · rw [List.getElem?_append_left hk] at h1
        rw [List.getElem?_append_left (by rw [← mat4.len]; exact hk)] at h2
        obtain ⟨vs', q1, q2, q3⟩ := mat4.row k a ds' h1 h2
        refine ⟨vs', ?_, q2, q3⟩
        rw [upd_ne (fun e => (List.nodup_cons.mp mat.nd).1 (by rw [← e]; exact List.mem_of_getElem? h1))]
        exact q1
      · have hk : k = as.length := by omega
        subst hk
        rw [List.getElem?_append_right (Nat.le_refl _), Nat.sub_self] at h1
        rw [mat4.len, List.getElem?_append_right (Nat.le_refl _), Nat.sub_self] at h2
        cases h1
        cases h2
        exact ⟨vs, by rw [upd_ne lD]; exact e3, e4, e5⟩
    · rcases List.mem_append.mp h with h | h
      · exact new a h
      · rw [List.mem_singleton.mp h]
        exact hx.back (g23.hx.back e2)
    · rw [List.length_append, List.length_singleton, hal]
    · rw [List.append_assoc]
      exact hout
  · have e : i = ds.length := by omega
    subst e
    refine .inl ⟨jok.stop _ H' G' st (Nat.le_refl _), ?_⟩
    rw [List.drop_length] at hro
    cases hro
    rw [List.append_nil] at hout
    subst hout
    refine q D as H' G' (g1.trans ⟨hx, gx, hid, sub⟩) (fun a h => ?_) mat
    rcases List.mem_cons.mp h with rfl | h
    · exact g1.hx.back hD
    · exact g1.hx.back (new a h)

/-! ### stores -/
theorem nrm_at {α : Type} {ds : List α} {i : Int} {d : α} (h : atL ds i = some d) : ds[nrm ds.length i]? = some d ∧ ∀ {β : Type} (vs : List β) (v : β), vs.length = ds.length → vs[nrm ds.length i]? = some v → atI vs i = some v := by
  unfold atL at h
  unfold nrm
  split at h
  · rename_i h0
    have hlt : i.toNat < ds.length := (List.getElem?_eq_some_iff.mp h).1
    rw [if_pos h0]
    refine ⟨h, fun vs v hl hv => ?_⟩
    unfold atI ixN
    rw [if_pos h0, if_pos (by omega)]
    exact hv
  · rename_i h0
    split at h
    · rename_i h1
      rw [if_neg h0]
      refine ⟨h, fun vs v hl hv => ?_⟩
      unfold atI ixN
      rw [if_neg h0, if_pos (by omega), hl]
      exact hv
    · cases h
theorem nrm_ixN {n : Nat} {j : Int} (h1 : -(n : Int) ≤ j) (h2 : j < n) : ixN n j = some (nrm n j) := by
  unfold ixN nrm
  by_cases h0 : 0 ≤ j
  · rw [if_pos h0, if_pos h2, if_pos h0]
  · rw [if_neg h0, if_pos h1, if_neg h0]
/-- xss[a][b] = e -/
theorem js_putM (i : Nat) {ka kb : Expr} {fka fkb : EF} {p2 p3 p4 : Pos} (he : JE X cm e f) (hka : JE X cm ka fka) (hkb : JE X cm kb fkb) (hN : X.N[i]? = some x := by rfl) (hv : Vis X.env.scope x := by first | exact Or.inl rfl | exact Or.inr (Or.inl rfl) | exact Or.inr (Or.inr rfl)) (hd : (x == ("__debug__" : Str)) = false := by decide)
    (hcd : (x == ("__classdict__" : Str)) = false := by decide) (hpa : PlainIx ka := by exact fun _ _ => rfl)
    (ha : ∀ v, assign (.Subscript (.Subscript (.Name x p3) ka p4) kb p2) X.env v = (do
      let ov ← holding [v] (eval (.Subscript (.Name x p3) ka p4) X.env)
      let iv ← holding [v, ov] (eval kb X.env)
      standAt p2
      holding [v, ov, iv] (setItem ov iv v)
      release [v, ov, iv] []) := by intro _; rfl)
    (hs : swapsWithSole [.Subscript (.Subscript (.Name x p3) ka p4) kb p2] e pos.line X.env = pure false := by rfl) (hw : swappedStores [.Subscript (.Subscript (.Name x p3) ka p4) kb p2] e X.env = pure none := by rfl) (h1 : (assignEach [.Subscript (.Subscript (.Name x p3) ka p4) kb p2] X.env).map (·.2) = [assign (.Subscript (.Subscript (.Name x p3) ka p4) kb p2) X.env] := by rfl) :
    JS X cm (.Assign [.Subscript (.Subscript (.Name x p3) ka p4) kb p2] e pos) (wPutM i fka fkb f) := by
  refine ⟨fun env D' σ H G hww rel D o => to_s (ps_asg pe_w (pg_sub (pe_ix ix_seq (pe_var hN hv hd hcd) pe_w hpa) pe_w set_list ha) hs hw h1) ?_⟩
  obtain ⟨dss, r, ai, bi, ds, h1, h2, h3, h4, h5, h6, h7, h8, h9⟩ := hww
  refine he.pub h2 rel fun v H1 G1 g1 vr => ?_
  rw [h3] at vr
  obtain ⟨l, as, k1, k2⟩ := rel.mat i _ h1
  refine ⟨_, k1, hka.run env _ σ H1 G1 h4 (rel.grow g1) _ fun kv H2 G2 g2 kr => ?_⟩
  cases (show Den _ _ _ _ _ from kr)
  obtain ⟨n1, n2⟩ := nrm_at h5
  have hk : nrm dss.length ai < as.length := by rw [k2.len]; exact (List.getElem?_eq_some_iff.mp n1).1
  have ek : as[nrm dss.length ai]? = some as[nrm dss.length ai] := List.getElem?_eq_getElem hk
  generalize as[nrm dss.length ai] = ak at ek
  refine .inl ⟨l, as.map V.ref, ai, .ref ak, rfl, rfl, SqL.of ((g1.trans g2).hx _ _ k2.at_), n2 _ _ (by rw [List.length_map, k2.len]) (by rw [List.getElem?_map, ek]; rfl), ?_⟩
  refine hkb.run env _ σ H2 G2 h6 ((rel.grow g1).grow g2) _ fun kv H3 G3 g3 kr => ?_
  cases (show Den _ _ _ _ _ from kr)
  have g := (g1.trans g2).trans g3
  have m3 := k2.mono g
  obtain ⟨vs, q1, q2, q3⟩ := m3.row _ _ _ ek n1
  refine ⟨ak, vs, bi, nrm ds.length bi, rfl, rfl, q1, by rw [q3.length]; exact nrm_ixN h7 h8, ?_⟩
  have mem : ak ∈ as := List.mem_of_getElem? ek
  have ne : l ≠ ak := fun e => (List.nodup_cons.mp k2.nd).1 (by rw [e]; exact mem)
  obtain ⟨z1, z2⟩ := mat_upd (as' := as) (dss' := dss.set (nrm dss.length ai) (ds.set (nrm ds.length bi) r.dt)) (H2 := upd H3 ak (.lst (vs.set (nrm ds.length bi) v))) rel g h1 k1 k2 (fun a u h n => by
      rw [upd_ne (fun e => n (by rw [e]; exact List.mem_cons_of_mem _ mem))]; exact h) (fun a u h => by
      by_cases e : a = ak
      · exact ⟨_, by rw [e]; exact upd_same⟩
      · exact ⟨u, by rw [upd_ne e]; exact h⟩) ⟨by rw [upd_ne ne]; exact m3.at_, m3.hid, m3.nd, by rw [List.length_set]; exact m3.len, fun k a ds' e1 e2 => by
      by_cases e : k = nrm dss.length ai
      · subst e
        rw [ek] at e1
        cases e1
        rw [List.getElem?_set_self (by have q := hk; rw [k2.len] at q; exact q)] at e2
        cases e2
        exact ⟨_, upd_same, q2, DenL.set (vr.den.mono (g2.trans g3).gx) _ q3⟩
      · rw [List.getElem?_set_ne (Ne.symm e)] at e2
        obtain ⟨vs', w1, w2, w3⟩ := m3.row k a ds' e1 e2
        have na : a ≠ ak := fun z => by
          subst z
          have nd := (List.nodup_cons.mp k2.nd).2
          exact e ((List.getElem?_inj (List.getElem?_eq_some_iff.mp e1).1 nd).mp (e1.trans ek.symm))
        exact ⟨vs', by rw [upd_ne na]; exact w1, w2, w3⟩⟩ (fun a h => .inl h)
  exact o.nx _ _ _ _ z1 z2 h9
/-- xss[k] = e, e a new list -/
theorem js_putR (i : Nat) {k : Expr} {p2 p3 : Pos} (he : JE X cm e f) (hk : JE X cm k fk) (hN : X.N[i]? = some x := by rfl) (hv : Vis X.env.scope x := by first | exact Or.inl rfl | exact Or.inr (Or.inl rfl) | exact Or.inr (Or.inr rfl)) (hd : (x == ("__debug__" : Str)) = false := by decide)
    (hcd : (x == ("__classdict__" : Str)) = false := by decide)
    (ha : ∀ v, assign (.Subscript (.Name x p3) k p2) X.env v = (do
      let ov ← holding [v] (eval (.Name x p3) X.env)
      let iv ← holding [v, ov] (eval k X.env)
      standAt p2
      holding [v, ov, iv] (setItem ov iv v)
      release [v, ov, iv] []) := by intro _; rfl)
    (hs : swapsWithSole [.Subscript (.Name x p3) k p2] e pos.line X.env = pure false := by rfl) (hw : swappedStores [.Subscript (.Name x p3) k p2] e X.env = pure none := by rfl) (h1 : (assignEach [.Subscript (.Name x p3) k p2] X.env).map (·.2) = [assign (.Subscript (.Name x p3) k p2) X.env] := by rfl) :
    JS X cm (.Assign [.Subscript (.Name x p3) k p2] e pos) (wPutR i fk f) := by
  refine ⟨fun env D' σ H G hww rel D o => to_s (ps_asg pe_w (pg_sub (pe_var hN hv hd hcd) pe_w set_list ha) hs hw h1) ?_⟩
  obtain ⟨dss, ds, j, h1, h2, h4, h5, h6, h7⟩ := hww
  refine he.run env _ σ H G h2 rel _ fun v H1 G1 g1 rr => ?_
  obtain ⟨ln, ob, rfl, e2, e3, e4, e5⟩ := rr
  cases ob <;> first | exact e5.elim | skip
  rename_i vs
  obtain ⟨l, as, k1, k2⟩ := rel.mat i _ h1
  refine ⟨_, k1, hk.run env _ σ H1 G1 h4 (rel.grow g1) _ fun kv H2 G2 g2 kr => ?_⟩
  cases (show Den _ _ _ _ _ from kr)
  have g := g1.trans g2
  have m2 := k2.mono g
  have e3' := g2.hx _ _ e3
  have e4' := g2.hid _ _ e3 e4
  have nm : ln ∉ l :: as := fun h => by
    obtain ⟨⟨o, ho⟩, _⟩ := k2.all h
    rw [e2] at ho; cases ho
  have hjl : nrm dss.length j < dss.length := by
    unfold nrm
    split <;> omega
  refine ⟨l, as.map V.ref, j, nrm dss.length j, rfl, rfl, m2.at_, by rw [List.length_map, k2.len]; exact nrm_ixN h5 h6, ?_⟩
  suffices key : Rel X.K cm σ (upd H2 l (.lst ((as.map V.ref).set (nrm dss.length j) (.ref ln)))) G2 (env.set i (.mat (dss.set (nrm dss.length j) ds))) ∧ Fr σ env H G σ (env.set i (.mat (dss.set (nrm dss.length j) ds))) (upd H2 l (.lst ((as.map V.ref).set (nrm dss.length j) (.ref ln)))) G2 from o.nx _ _ _ _ key.1 key.2 h7
  refine mat_upd (as' := as.set (nrm dss.length j) ln) (dss' := dss.set (nrm dss.length j) ds) (H2 := upd H2 l (.lst ((as.map V.ref).set (nrm dss.length j) (.ref ln)))) rel g h1 k1 k2 (fun a u h n => by
      rw [upd_ne (fun e => n (by rw [e]; exact List.mem_cons_self))]; exact h) (fun a u h => by
      by_cases e : a = l
      · exact ⟨_, by rw [e]; exact upd_same⟩
      · exact ⟨u, by rw [upd_ne e]; exact h⟩) ⟨by rw [upd_same, List.map_set], m2.hid, ?_, by rw [List.length_set, List.length_set]; exact m2.len, fun k a ds' e1 e2' => ?_⟩ (fun a h => ?_)
  · have nd := List.nodup_cons.mp k2.nd
    refine List.nodup_cons.mpr ⟨fun h => ?_, ?_⟩
    · rcases List.mem_or_eq_of_mem_set h with h | h
      · exact nd.1 h
      · exact nm (by rw [← h]; exact List.mem_cons_self)
    · have pw := List.pairwise_iff_getElem.mp nd.2
      refine List.pairwise_iff_getElem.mpr fun p q hp hq hpq e => ?_
      rw [List.length_set] at hp hq
      rw [List.getElem_set, List.getElem_set] at e
      split at e
      · split at e
        · omega
        · exact nm (List.mem_cons_of_mem _ (by rw [e]; exact List.getElem_mem hq))
      · split at e
        · exact nm (List.mem_cons_of_mem _ (by rw [← e]; exact List.getElem_mem hp))
        · exact pw p q hp hq hpq e
  · by_cases e : k = nrm dss.length j
    · subst e
      rw [List.getElem?_set_self (by rw [k2.len]; exact hjl)] at e1
      cases e1
      rw [List.getElem?_set_self hjl] at e2'
      cases e2'
      exact ⟨vs, by rw [upd_ne (fun e => nm (by rw [e]; exact List.mem_cons_self))]; exact e3', e4', DenL.mono g2.gx e5⟩
    · rw [List.getElem?_set_ne (Ne.symm e)] at e1 e2'
      obtain ⟨vs', w1, w2, w3⟩ := m2.row k a ds' e1 e2'
      exact ⟨vs', by rw [upd_ne (fun z => (List.nodup_cons.mp k2.nd).1 (by rw [← z]; exact List.mem_of_getElem? e1))]; exact w1, w2, w3⟩
  · rcases List.mem_or_eq_of_mem_set h with h | h
    · exact .inl h
    · exact .inr (by rw [h]; exact e2)
end
end Pyl
end
section
set_option Elab.async false
set_option linter.all false
set_option maxRecDepth 100000
set_option maxHeartbeats 2000000
namespace Pyl
open PySem L2
section
variable {X : Cx} {cm : Nat → Addr} {e a b c : Expr} {f fa fb fc : EF} {σ : L2.St} {H G : Hp} {env : Sl} {pos p : Pos} {x : Str}
/-! lcm -/
theorem lcm_small {n : Nat} (h : n < LCMB) : n.log2 ≤ 13000 := Nat.le_of_lt (PySem.Flt.log2_lt_of (by decide) (by rw [← LCMB_eq]; exact h))
def rLcm : List V → Hp → VK → Prop := fun vs H Q => ∃ a b : Int, vs = [.int a, .int b] ∧ a.natAbs < LCMB ∧ b.natAbs < LCMB ∧ Q (.int ((Nat.lcm a.natAbs b.natAbs : Nat) : Int)) H
theorem cr_lcm : CallR X (.builtin "math.lcm") rLcm := by
  intro pins s σ H vs us Q I r h
  obtain ⟨a, b, rfl, ha, hb, q⟩ := h
  obtain ⟨t, u, rfl⟩ := Vals.int2 r
  have h1 : ¬(max 1 a.natAbs).log2 / 30 + 1 > 450 := by
    have : max 1 a.natAbs < LCMB := by
      have : 1 < LCMB := by rw [LCMB_eq]; exact Nat.one_lt_two_pow (by decide)
      omega
    have := lcm_small this
    omega
  have h2 : ¬(max a.natAbs b.natAbs).log2 / 30 + 1 > 450 := by
    have : max a.natAbs b.natAbs < LCMB := by omega
    have := lcm_small this
    omega
  have hsz : ((((Nat.lcm 1 a.natAbs).lcm b.natAbs : Nat) : Int)).natAbs.log2 < bitsLine := by
    rw [PySem.W.mc_lcm_one]
    have q1 : a.natAbs.lcm b.natAbs ≤ a.natAbs * b.natAbs := PySem.W.mc_lcm_le _ _
    have q2 : a.natAbs * b.natAbs < 2 ^ 26000 := by
      rw [LCMB_eq] at ha hb
      calc a.natAbs * b.natAbs < 2 ^ 13000 * 2 ^ 13000 := Nat.mul_lt_mul'' ha hb
        _ = 2 ^ 26000 := (Nat.pow_add 2 13000 13000).symm
    have q3 : (a.natAbs.lcm b.natAbs).log2 < 26000 := PySem.Flt.log2_lt_of (by decide) (Nat.lt_of_le_of_lt q1 q2)
    have q4 : 26000 ≤ bitsLine := by decide
    show (a.natAbs.lcm b.natAbs).log2 < bitsLine
    omega
  have g := PySem.W.mg_run_lcm a t b u h1 h2 hsz
  rw [PySem.W.mc_lcm_one] at g
  exact call_function_meets PySem.W.MGF.kind_lcm PySem.W.MGF.plain_lcm PySem.W.MGF.entry_lcm (PySem.W.MGF.args_lcm _ _) g.meets ⟨.int _, H, I.tok _, ⟨_, rfl⟩, q⟩
theorem p2c_lcm : P2c X cm (.builtin "math.lcm") pLcm := ⟨_, cr_lcm, fun d d2 b b2 out v v2 H G vr vr2 sub hp Q q => by
  unfold pLcm at hp
  split at hp
  · split at hp
    · rename_i hs
      cases hp
      have e := vr.int
      have e2 := vr2.int
      subst e e2
      exact ⟨_, _, rfl, hs.1, hs.2, q _ _ _ (.refl sub) (Den.int _)⟩
    · cases hp
  · cases hp⟩
theorem je_lcm (hg : Gl X "lcm") (hm : X.mg "lcm" = some (.builtin "math.lcm")) (ha : JE X cm a fa) (hb : JE X cm b fb)
    (h0 : starEach [b] X.env = (false, eval b X.env) :: starEach [] X.env := by rfl) (he : starEach [a, b] X.env = (false, eval a X.env) :: starEach [b] X.env := by rfl) (hpl : (backTo pos (starEach [b] X.env)).any (·.1) = false := by rfl) : JE X cm (.Call (.Name "lcm" p) [a, b] [] pos) (e2 pLcm fa fb) := je_f2 p2c_lcm hg hm ha hb (by decide) h0 he hpl

/-! sorted -/
/-- lists of two ints: what stands there, side by side -/
def rSortLP (K : PySem.W.Frag) : List V → Hp → VK → Prop := fun vs H Q => ∃ (a : Addr) (xs : List V) (ps : List (Int × Int)), vs = [V.ref a] ∧ SqL K H a xs ∧ xs.length = ps.length ∧
  (∀ (i : Nat) (v : V) (q : Int × Int), xs[i]? = some v → ps[i]? = some q → Dp K H v (.list [.int q.1, .int q.2])) ∧
  ∀ (ys : List V) (qs : List (Int × Int)) (m : Addr), ys.length = qs.length → (ys.zip qs).Perm (xs.zip ps) → qs.Pairwise (fun p q => lexLe p q = true) → H m = none → Q (.ref m) (upd H m (.lst ys))
/-- at a value stands a list of two ints -/
def IsLP (h : Heap) (u : Value) (q : Int × Int) : Prop := ∃ as, Reads h u (.list [.int q.1, .int q.2]) as
theorem IsLP.uniq {h : Heap} {u : Value} {p q : Int × Int} (a : IsLP h u p) (b : IsLP h u q) : p = q := by
  obtain ⟨as, a⟩ := a
  obtain ⟨bs, b⟩ := b
  have e := PySem.W.alike_unique (.list [.int p.1, .int p.2]) (.list [.int q.1, .int q.2]) u as bs (by simp [PySem.W.alike, PySem.W.alikeAll]) a b
  have e1 : p.1 = q.1 := by simp at e; exact e.1
  have e2 : p.2 = q.2 := by simp at e; exact e.2
  exact Prod.ext e1 e2
open Classical in
noncomputable def lpAt (h : Heap) (u : Value) : Int × Int := if e : ∃ q, IsLP h u q then Classical.choose e else (0, 0)
theorem lpAt_is {h : Heap} {u : Value} {q : Int × Int} (e : IsLP h u q) : lpAt h u = q := by
  unfold lpAt
  rw [dif_pos ⟨q, e⟩]
  exact (Classical.choose_spec (⟨q, e⟩ : ∃ q, IsLP h u q)).uniq e
theorem lexLe_of {p q : Int × Int} (h : SrtO.lexB q p = false) : lexLe p q = true := by
  have := SrtO.lexB_no.mp h
  unfold lexLe
  by_cases e : p.1 = q.1
  · rw [if_pos e]; exact decide_eq_true (by omega)
  · rw [if_neg e]; exact decide_eq_true (by omega)

theorem IsLP.keeps {h h' : Heap} {u : Value} {q : Int × Int} (k : ∀ b o, h.get? b = some o → h'.get? b = some o) (a : IsLP h u q) : IsLP h' u q := by
  obtain ⟨as, a⟩ := a
  exact ⟨as, PyProof.Rows.Reads.keeps k a⟩
theorem lp_depth (p : Int × Int) : (PyData.list [.int p.1, .int p.2]).depth ≤ 2 := by
  simp [PyData.depth, PyData.depthAll]
theorem lp_lt (p q : Int × Int) : PySem.W.dataLt (.list [.int p.1, .int p.2]) (.list [.int q.1, .int q.2]) = SrtO.lexB p q := by
  rw [PySem.W.dataLt_list]
  unfold SrtO.lexB
  by_cases e : p.1 = q.1
  · rw [if_pos e, PySem.W.dataLt_all_yes (by simp [PySem.W.alike]) (by rw [e]; simp [PyData.eqv])]
    by_cases e2 : p.2 = q.2
    · rw [PySem.W.dataLt_all_yes (by simp [PySem.W.alike]) (by rw [e2]; simp [PyData.eqv]), e2]
      simp only [PyProof.Rows.lex_irrefl, decide_eq_false (Int.lt_irrefl _)]
    · rw [PySem.W.dataLt_all_no (by simp [PySem.W.alike]) (by simp [PyData.eqv, e2]), PySem.W.dataLt_int]
  · rw [if_neg e, PySem.W.dataLt_all_no (by simp [PySem.W.alike]) (by simp [PyData.eqv, e]), PySem.W.dataLt_int]
theorem cr_sortLP (hu : X.A.units + 64 < cLine) : CallR X (.builtin "sorted") (rSortLP X.K) := by
  intro pins s σ H vs us Q I r h
  obtain ⟨a, xs, ps, rfl, hs, hl, hx, q⟩ := h
  obtain ⟨its, rv, hli, hz⟩ := I.list hs
  rw [Vals.ref1 r]
  have li : its.length = ps.length := by rw [← rv.length, hl]
  have isat : ∀ (i : Nat) (u : Value) (p : Int × Int), its[i]? = some u → ps[i]? = some p → IsLP s.heap u p := fun i u p e1 e2 => by
    have hi : i < xs.length := by rw [hl]; exact (List.getElem?_eq_some_iff.mp e2).1
    obtain ⟨u', h1, h2⟩ := Vals.get rv (List.getElem?_eq_getElem hi)
    rw [e1] at h1
    cases h1
    exact Dp.reads I _ _ u (hx i _ p (List.getElem?_eq_getElem hi) e2) h2
  have ismem : ∀ u ∈ its, IsLP s.heap u (lpAt s.heap u) := fun u hm => by
    obtain ⟨i, hi, e⟩ := List.getElem_of_mem hm
    have z := isat i u _ (by rw [List.getElem?_eq_getElem hi, e]) (List.getElem?_eq_getElem (by rw [← li]; exact hi))
    rw [lpAt_is z]
    exact z
  refine SrtO.sorted_ord (SrtO.swo_lex (lpAt s.heap)) hli.isList (by rw [← rv.length]; exact hz) (fun h2 h₁ a' ha kk => ?_) fun out h1 h2 => ?_
  · intro h' keep
    have up : ∀ b o, s.heap.get? b = some o → h'.get? b = some o := fun b o e => keep b o (kk b o e).1 (kk b o e).2
    have is' : ∀ u ∈ its, IsLP h' u (lpAt s.heap u) := fun u hm => (ismem u hm).keeps up
    refine ⟨PyProof.Rows.oneType', fun Q E hq => PySem.W.kas_kind (T := .type "list") h2 (fun v hv => ?_) (by decide) (by decide) hq, fun p q hp hq => ?_⟩
    · obtain ⟨as, ra⟩ := is' v hv
      exact PySem.W.looks_reads ra
    · obtain ⟨as, ra⟩ := is' _ hp
      obtain ⟨bs, rb⟩ := is' _ hq
      rw [PyProof.Rows.keyLt'_oneType]
      refine PySem.W.oneLt_alike (fun _ xs e => by cases e) ra rb (by simp [PySem.W.alike, PySem.W.alikeAll]) (fun e => by cases e) ?_ ⟨rfl, ?_⟩
      · have d1 := lp_depth (lpAt s.heap p.1)
        have d2 := Nat.min_le_left (PyData.list [.int (lpAt s.heap p.1).1, .int (lpAt s.heap p.1).2]).depth (PyData.list [.int (lpAt s.heap q.1).1, .int (lpAt s.heap q.1).2]).depth
        have u2 : X.A.in1.in1.units = X.A.units + 1 + 1 := rfl
        rw [u2]
        omega
      · exact lp_lt _ _
  · have isref : ∀ u ∈ its, ∃ a, u = Value.ref a := fun u hm => by
      obtain ⟨as, ra⟩ := ismem u hm
      cases ra
      exact ⟨_, rfl⟩
    have e1 : xs = its.map backV := (refs_back rv fun x m => by
      obtain ⟨i, hi, e⟩ := List.getElem_of_mem m
      have hi2 : i < its.length := by rw [← rv.length]; exact hi
      obtain ⟨u, k1, k2⟩ := Vals.get (i := i) (x := x) rv (by rw [List.getElem?_eq_getElem hi, e])
      obtain ⟨b, rfl⟩ := isref u (List.mem_of_getElem? k1)
      cases x <;> first | exact ⟨_, rfl⟩ | (revert k2; simp [RelV])).1
    have e2 : ps = its.map (lpAt s.heap) := by
      refine List.ext_getElem? fun i => ?_
      rw [List.getElem?_map]
      cases hp : ps[i]? with
      | none =>
        rw [List.getElem?_eq_none (by rw [li]; exact List.getElem?_eq_none_iff.mp hp)]
        rfl
      | some p =>
        have hi : i < its.length := by rw [li]; exact (List.getElem?_eq_some_iff.mp hp).1
        rw [List.getElem?_eq_getElem hi]
        exact congrArg some (lpAt_is (isat i _ p (List.getElem?_eq_getElem hi) hp)).symm
    have h3 : ∀ u ∈ out, ∃ a, u = Value.ref a := fun u hu => isref u (h2.perm.mem_iff.mp hu)
    obtain ⟨ep, he'⟩ := PyProof.Rows.sortedAll_at s.heap its out.toArray
    have hlen : (out.map backV).length ≤ sizeLine := by
      rw [List.length_map, h2.perm.length_eq, ← rv.length]
      exact hz
    refine ⟨.ref _, upd H (s.heap.objs.size + 1) (.lst (out.map backV)), I.laid (t' := s.toks) (fun _ _ => PyProof.Rows.sortedAll_old) (Nat.le_succ _) ⟨hlen, out, ep, vals_back h3, he'⟩, rfl, q (out.map backV) (out.map (lpAt s.heap)) _ (by rw [List.length_map, List.length_map]) ?_ ?_ (I.hok.fresh (Nat.le_succ _))⟩
    · rw [e1, e2, List.zip_map', List.zip_map']
      exact h2.perm.map _
    · exact List.pairwise_map.mpr (h1.imp fun {x y} z => lexLe_of z)

theorem lexLe_trans (a b c : Int × Int) (h1 : lexLe a b = true) (h2 : lexLe b c = true) : lexLe a c = true := by
  unfold lexLe at *
  split at h1 <;> split at h2 <;> split <;> simp_all <;> omega
theorem lexLe_total (a b : Int × Int) : (lexLe a b || lexLe b a) = true := by
  unfold lexLe
  by_cases e : a.1 = b.1
  · rw [if_pos e, if_pos e.symm, Bool.or_eq_true, decide_eq_true_eq, decide_eq_true_eq]; omega
  · rw [if_neg e, if_neg (fun z => e z.symm), Bool.or_eq_true, decide_eq_true_eq, decide_eq_true_eq]; omega
theorem lexLe_anti (a b : Int × Int) (h1 : lexLe a b = true) (h2 : lexLe b a = true) : a = b := by
  unfold lexLe at *
  by_cases e : a.1 = b.1
  · rw [if_pos e, decide_eq_true_eq] at h1
    rw [if_pos e.symm, decide_eq_true_eq] at h2
    exact Prod.ext e (by omega)
  · rw [if_neg e, decide_eq_true_eq] at h1
    rw [if_neg (fun z => e z.symm), decide_eq_true_eq] at h2
    omega
theorem ints_sort {ns ms : List Int} (h1 : ms.Perm ns) (h2 : ms.Pairwise (· ≤ ·)) : ms = ns.mergeSort fun a b => decide (a ≤ b) := by
  have h3 : (ns.mergeSort fun a b => decide (a ≤ b)).Pairwise (· ≤ ·) := (List.pairwise_mergeSort (le := fun a b : Int => decide (a ≤ b)) (fun a b c x y => by
    rw [decide_eq_true_eq] at *; omega) (fun a b => by rw [Bool.or_eq_true, decide_eq_true_eq, decide_eq_true_eq]; omega) ns).imp fun {a b} z => of_decide_eq_true z
  exact List.Perm.eq_of_pairwise (fun a b _ _ x y => Int.le_antisymm x y) h2 h3 (h1.trans (List.mergeSort_perm ns _).symm)
theorem pairs_sort {ns ms : List (Int × Int)} (h1 : ms.Perm ns) (h2 : ms.Pairwise (fun p q => lexLe p q = true)) : ms = ns.mergeSort lexLe :=
  List.Perm.eq_of_pairwise (fun a b _ _ x y => lexLe_anti a b x y) h2 (List.pairwise_mergeSort lexLe_trans lexLe_total ns) (h1.trans (List.mergeSort_perm ns _).symm)
theorem intPairs_some : ∀ {ds : List Dt} {ps : List (Int × Int)}, intPairs ds = some ps → ds = ps.map pairD
  | [], _, h => by cases h; rfl
  | .lst [.int a, .int b] :: ds, ps, h => by
    unfold intPairs at h
    obtain ⟨r, h1, h2⟩ := Option.map_eq_some_iff.mp h
    subst h2
    rw [intPairs_some h1]
    rfl
  | .non :: _, _, h => by simp [intPairs] at h
  | .bl _ :: _, _, h => by simp [intPairs] at h
  | .int _ :: _, _, h => by simp [intPairs] at h
  | .str _ :: _, _, h => by simp [intPairs] at h
  | .tup _ :: _, _, h => by simp [intPairs] at h
  | .obj _ _ :: _, _, h => by simp [intPairs] at h
  | .lst [] :: _, _, h => by simp [intPairs] at h
  | .lst [_] :: _, _, h => by simp [intPairs] at h
  | .lst (_ :: _ :: _ :: _) :: _, _, h => by simp [intPairs] at h
  | .lst [.non, _] :: _, _, h => by simp [intPairs] at h
  | .lst [.bl _, _] :: _, _, h => by simp [intPairs] at h
  | .lst [.str _, _] :: _, _, h => by simp [intPairs] at h
  | .lst [.lst _, _] :: _, _, h => by simp [intPairs] at h
  | .lst [.tup _, _] :: _, _, h => by simp [intPairs] at h
  | .lst [.obj _ _, _] :: _, _, h => by simp [intPairs] at h
  | .lst [.int _, .non] :: _, _, h => by simp [intPairs] at h
  | .lst [.int _, .bl _] :: _, _, h => by simp [intPairs] at h
  | .lst [.int _, .str _] :: _, _, h => by simp [intPairs] at h
  | .lst [.int _, .lst _] :: _, _, h => by simp [intPairs] at h
  | .lst [.int _, .tup _] :: _, _, h => by simp [intPairs] at h
  | .lst [.int _, .obj _ _] :: _, _, h => by simp [intPairs] at h
theorem denL_zip {K : PySem.W.Frag} {G : Hp} {β : Type} {f : β → Dt} : ∀ {vs : List V} {ps : List β}, vs.length = ps.length → (∀ z ∈ vs.zip ps, Den K cm G z.1 (f z.2)) → DenL K cm G vs (ps.map f)
  | [], [], _, _ => .nil
  | v :: vs, p :: ps, e, h => .cons (h (v, p) List.mem_cons_self) (denL_zip (by simpa using e) fun z hz => h z (List.mem_cons_of_mem _ hz))
  | [], _ :: _, e, _ => by cases e
  | _ :: _, [], e, _ => by cases e
theorem zip_den {K : PySem.W.Frag} {G : Hp} {β : Type} {f : β → Dt} : ∀ {vs : List V} {ps : List β}, DenL K cm G vs (ps.map f) → ∀ z ∈ vs.zip ps, Den K cm G z.1 (f z.2)
  | [], _, _, z, h => by simp at h
  | v :: vs, [], h, _, _ => by cases h
  | v :: vs, p :: ps, h, z, m => by
    cases h with
    | cons h1 h2 =>
      rcases List.mem_cons.mp (show z ∈ (v, p) :: vs.zip ps from m) with rfl | m
      · exact h1
      · exact zip_den h2 z m
theorem p1_sorted (hu : X.A.units + 64 < cLine) : P1 X cm (.builtin "sorted") pSorted := by
  refine ⟨fun vs H Q => rSortedI X.K vs H Q ∨ rSortLP X.K vs H Q, fun pins s σ H vs us Q I r h => ?_, fun d b out v H G vr sub hp Q q => ?_⟩
  · rcases h with h | h
    · exact cr_sortedI pins s σ H vs us Q I r h
    · exact cr_sortLP hu pins s σ H vs us Q I r h
  · unfold pSorted at hp
    split at hp
    · rename_i ds
      split at hp
      · rename_i ns h1
        cases hp
        obtain ⟨l, rfl, s1⟩ := vr.lstI sub h1
        refine .inl ⟨l, ns, rfl, s1, fun ns' m h2 h3 hm => ?_⟩
        rw [ints_sort h2 h3]
        exact q _ _ _ (.hide sub hm) ⟨m, _, rfl, hm, upd_same, sub.back hm, denL_ints _⟩
      · obtain ⟨ps, h1, hp⟩ := Option.map_eq_some_iff.mp hp
        subst hp
        obtain ⟨l, vs, rfl, s1, n1⟩ := vr.lst sub
        have e := intPairs_some h1
        subst e
        have hl : vs.length = ps.length := by rw [n1.length, List.length_map]
        have zd := zip_den n1
        refine .inr ⟨l, vs, ps, rfl, s1, hl, fun i v p e1 e2 => ?_, fun ys qs m h2 h3 h4 hm => ?_⟩
        · have hz : (v, p) ∈ vs.zip ps := by
            refine List.mem_of_getElem? (i := i) ?_
            rw [List.getElem?_zip_eq_some]
            exact ⟨e1, e2⟩
          exact (zd _ hz).dp sub (by simp [pairD, Dt.py, Dt.pyL])
        · have pp : qs.Perm ps := by
            have z := h3.map Prod.snd
            rwa [List.map_snd_zip (by omega), List.map_snd_zip (by omega)] at z
          have e := pairs_sort pp h4
          refine q _ _ _ (.hide sub hm) ⟨m, _, rfl, hm, upd_same, sub.back hm, ?_⟩
          rw [← e]
          exact denL_zip h2 fun z hz => zd z (h3.mem_iff.mp hz)
    · cases hp

/-! ### keywords, defaults -/
structure JK (X : Cx) (cm : Nat → Addr) (kws : List Keyword) (f : AF) : Prop where
  run : ∀ (env : Sl) (r : List (Dt × Bool)) (σ : L2.St) (H G : Hp), f env = some r → Rel X.K cm σ H G env → ∀ Q : List V → Hp → Prop, (∀ vs H' G', Grow H G H' G' → VRs X.K cm H' G' vs r → Q vs H') → ∃ t, PK X kws t ∧ t σ H Q
  len : ∀ (env : Sl) (r : List (Dt × Bool)), f env = some r → r.length = kws.length
theorem jk_nil : JK X cm [] aNil := ⟨fun env r σ H G hf rel Q q => by
  cases hf
  exact ⟨_, pk_nil, q [] H G (.refl rel.sub) .nil⟩, fun env r h => by cases h; rfl⟩
def wpK (X : Cx) (kws : List Keyword) : TA := fun σ H Q => ∃ t, PK X kws t ∧ t σ H Q
theorem pk_w {kws : List Keyword} : PK X kws (wpK X kws) := ⟨fun pos pins s σ H Q I ⟨t, h1, h2⟩ => h1.run pos pins s σ H Q I h2⟩
theorem jk_cons {kws : List Keyword} {fr : AF} {nm : Option Str} {kp : Pos} (ha : JE X cm e fa) (hr : JK X cm kws fr) : JK X cm (⟨nm, e, kp⟩ :: kws) (aCons fa fr) := by
  refine ⟨fun env r σ H G hf rel Q q => ⟨_, pk_cons pe_w pk_w, ?_⟩, fun env r hf => by
    obtain ⟨ra, h1, hf⟩ := Option.bind_eq_some_iff.mp hf
    obtain ⟨rs, h2, hf⟩ := Option.bind_eq_some_iff.mp hf
    cases hf
    rw [List.length_cons, List.length_cons, hr.len env rs h2]⟩
  obtain ⟨ra, h1, hf⟩ := Option.bind_eq_some_iff.mp hf
  obtain ⟨rs, h2, hf⟩ := Option.bind_eq_some_iff.mp hf
  cases hf
  refine ha.pub h1 rel fun v H1 G1 g1 vr => ?_
  refine hr.run env rs σ H1 G1 h2 (rel.grow g1) _ fun vs H2 G2 g2 vrs => ?_
  exact q _ H2 G2 (g1.trans g2) (.cons (vr.grow g2) vrs)
theorem VRs.append {K : PySem.W.Frag} {H G : Hp} : ∀ {vs ws : List V} {rs qs : List (Dt × Bool)}, VRs K cm H G vs rs → VRs K cm H G ws qs → VRs K cm H G (vs ++ ws) (rs ++ qs)
  | _, _, _, _, .nil, s => s
  | _, _, _, _, .cons h t, s => .cons h (VRs.append t s)
/-- a call's answer, of arguments that may be borrowed -/
theorem call_end {K : PySem.W.Frag} {F : FN} {vs : List V} {rs : List (Dt × Bool)} {r : R} {H G H1 G1 : Hp} (g1 : Grow H G H1 G1) (vrs : VRs K cm H1 G1 vs rs) (hf : ((F (rs.map (·.1))).bind fun d => if rs.any (·.2) && !d.scalar then none else some (.vis d)) = some r) {Q : VK} {E : XK}
    (q : ∀ v H' G', Grow H G H' G' → RR K cm H H' G' v r → Q v H') : spP K cm F vs H1 Q E := by
  obtain ⟨d, h2, hf⟩ := Option.bind_eq_some_iff.mp hf
  by_cases hs : rs.any (·.2) = true
  · split at hf
    · cases hf
    · rename_i hn
      cases hf
      have sc : d.scalar = true := by
        cases hd : d.scalar with
        | true => rfl
        | false => exact absurd (by rw [hs, hd]; rfl) hn
      refine ⟨H1, _, d, .refl _, vrs.denH g1.sub, h2, fun v H' G' g hden => ?_⟩
      exact q v H' G1 (g1.trans ⟨g.hx, .refl _, fun _ _ _ n => n, g1.sub.trans g.hx⟩) (Dt.scalar_den hden sc)
  · have hs' : rs.any (·.2) = false := by simpa using hs
    split at hf
    · rename_i hn
      rw [hs'] at hn
      cases hn
    · cases hf
      exact ⟨G1, _, d, g1.sub, vrs.plain hs', h2, fun v H' G' g hden => q v H' G' (g1.trans g) hden⟩
/-- a def of the module that keeps F, with n positional arguments and the keywords ks behind them -/
structure FnK (P : Program) (w : World) (K : PySem.W.Frag) (mg : Str → Option Value) (base : Heap) (cm : Nat → Addr) (k : Nat) (x : Str) (n : Nat) (ks : List Str) (F : FN) : Prop where
  ex : ∃ (f : Addr) (fd : FuncData) (ps : List Str) (g : List Value → List Value → List Value), FnOk P w K mg base CX0 k f fd ps (spP K cm F) ∧ mg x = some (.ref f) ∧ PySem.W.keepIn K (.ref f) = true ∧ KBn K fd ps n ks g (fun vs zs => vs ++ zs)
theorem je_callK {es : List Expr} {ft fk : AF} {F : FN} {k : Nat} {ks : List Str} {kws : List Keyword} (C : FnK X.prog X.w X.K X.mg X.base cm k x (es.length + 1) ks F) (hr : Room k X.A) (hg : Gl X x) (ha : JA X cm (e :: es) ft) (hk : JK X cm kws fk)
    (hall : (backToKw pos (keywordEach kws X.env)).all (·.1.isSome) = true := by rfl) (hks : (backToKw pos (keywordEach kws X.env)).filterMap (·.1) = ks := by rfl) (hln : ks.length = kws.length := by rfl) (hdb : (x == ("__debug__" : Str)) = false := by decide)
    (he : starEach (e :: es) X.env = (false, eval e X.env) :: starEach es X.env := by rfl)
    (hpl : ((backTo pos (starEach (e :: es) X.env)).any (·.1) || (backToKw pos (keywordEach kws X.env)).any (·.1.isNone)) = false := by rfl) : JE X cm (.Call (.Name x p) (e :: es) kws pos) (eCall F (aApp ft fk)) := by
  refine ⟨fun env r σ H G hf rel Q q => ?_⟩
  obtain ⟨rs, h1, hf⟩ := Option.bind_eq_some_iff.mp hf
  obtain ⟨ra, h2, h1⟩ := Option.bind_eq_some_iff.mp h1
  obtain ⟨rk, h3, h1⟩ := Option.bind_eq_some_iff.mp h1
  cases h1
  obtain ⟨f, fd, ps, g, hF, hm, hkp, hb⟩ := C.ex
  refine to_e (pe_callN hF hr hg hm hkp hb pass0 pa_w pk_w hall hks hdb he hpl) (ha.run env ra σ H G h2 rel _ fun vs H1 G1 g1 vrs => hk.run env rk σ H1 G1 h3 (rel.grow g1) _ fun zs H2 G2 g2 zrs => ⟨?_, ?_, ?_⟩)
  · rw [vrs.length, ha.len env ra h2]; rfl
  · rw [zrs.length, hk.len env rk h3, hln]
  · exact call_end (g1.trans g2) ((vrs.grow g2).append zrs) hf q
/-- a def of the module that keeps F; the arguments that lack at the call are dd -/
structure FnD (P : Program) (w : World) (K : PySem.W.Frag) (mg : Str → Option Value) (base : Heap) (cm : Nat → Addr) (k : Nat) (x : Str) (dd : List Dt) (F : FN) : Prop where
  ex : ∃ (f : Addr) (fd : FuncData) (ps : List Str) (dvs : List V) (ds : List Value), FnOk P w K mg base CX0 k f fd ps (spP K cm F) ∧ mg x = some (.ref f) ∧ PySem.W.keepIn K (.ref f) = true ∧ Binds K fd ps ds ∧ Vals dvs ds ∧ ∀ G, DenL K cm G dvs dd
theorem vrs_dfl {K : PySem.W.Frag} {H G : Hp} : ∀ {vs : List V} {dd : List Dt}, DenL K cm G vs dd → VRs K cm H G vs (dd.map fun d => (d, false))
  | _, _, .nil => .nil
  | _, _, .cons h t => .cons (.vis h) (vrs_dfl t)
theorem je_callD {es : List Expr} {ft : AF} {F : FN} {k : Nat} {dd : List Dt} (C : FnD X.prog X.w X.K X.mg X.base cm k x dd F) (hr : Room k X.A) (hg : Gl X x) (ha : JA X cm (e :: es) ft) (hdb : (x == ("__debug__" : Str)) = false := by decide)
    (he : starEach (e :: es) X.env = (false, eval e X.env) :: starEach es X.env := by rfl) (hpl : (backTo pos (starEach es X.env)).any (·.1) = false := by rfl) : JE X cm (.Call (.Name x p) (e :: es) [] pos) (eCall F (aApp ft (aDfl dd))) := by
  refine ⟨fun env r σ H G hf rel Q q => ?_⟩
  obtain ⟨rs, h1, hf⟩ := Option.bind_eq_some_iff.mp hf
  obtain ⟨ra, h2, h1⟩ := Option.bind_eq_some_iff.mp h1
  obtain ⟨rk, h3, h1⟩ := Option.bind_eq_some_iff.mp h1
  cases h1
  cases h3
  obtain ⟨f, fd, ps, dvs, ds, hF, hm, hkp, hb, hv, hd⟩ := C.ex
  refine to_e (pe_call hF hr hg hm hkp hb hv pass0 pa_w hdb he hpl) (ha.run env ra σ H G h2 rel _ fun vs H1 G1 g1 vrs => ?_)
  exact call_end g1 (vrs.append (vrs_dfl (hd G1))) hf q
end
end Pyl
end
section
set_option Elab.async false
set_option linter.all false
set_option maxRecDepth 100000
set_option maxHeartbeats 2000000
namespace Pyl
open PySem L2
/-! ### what the written part says of a class -/
structure InsK (K : PySem.W.Frag) (C : Addr) : Prop where
  cls : Cls K C
  c1 : PySem.W.findIn K (.ref C) "__class__" = some (some (.builtin "object.__class__"))
  c2 : PySem.W.specialIn K (.builtin "object.__class__") "__get__" = some (some (.builtin "getset_descriptor.__get__"))
  c3 : PySem.W.takesIn K (.builtin "object.__class__") = some true
  c4 : PySem.W.mroIn K C (.type "object") = some true
def insB (K : PySem.W.Frag) (C : Addr) : Bool := (PySem.W.plainGet K C Str.empty && PySem.W.hasDictIn K C && PySem.W.plainOver K C && decide (PySem.W.findIn K (.ref C) "__setattr__" = some (some (.builtin "object.__setattr__")))) &&
  (decide (PySem.W.findIn K (.ref C) "__class__" = some (some (.builtin "object.__class__"))) && decide (PySem.W.specialIn K (.builtin "object.__class__") "__get__" = some (some (.builtin "getset_descriptor.__get__"))) && decide (PySem.W.takesIn K (.builtin "object.__class__") = some true) && decide (PySem.W.mroIn K C (.type "object") = some true))
theorem insB_ok {K : PySem.W.Frag} {C : Addr} (h : insB K C = true) : InsK K C := by
  unfold insB at h
  simp only [Bool.and_eq_true, decide_eq_true_eq] at h
  obtain ⟨⟨⟨⟨h1, h2⟩, h3⟩, h4⟩, ⟨⟨h5, h6⟩, h7⟩, h8⟩ := h
  exact ⟨⟨h1, h2, h3, h4⟩, h5, h6, h7, h8⟩
/-- of an exception's class -/
structure ExcK (K : PySem.W.Frag) (C : Addr) : Prop where
  xf : XfC K C
  cl : (PySem.W.clsIn K C).isSome = true
  c1 : PySem.W.findIn K (.ref C) "__class__" = some (some (.builtin "object.__class__"))
  c2 : PySem.W.specialIn K (.builtin "object.__class__") "__get__" = some (some (.builtin "getset_descriptor.__get__"))
  c3 : PySem.W.takesIn K (.builtin "object.__class__") = some true
  c4 : PySem.W.mroIn K C (.type "object") = some true
  oex : OexC K C
/-- the shape of an own exception class's object -/
def oexB (K : PySem.W.Frag) (C : Addr) : Bool := match K.lookup C with
  | some ⟨.type "type", _, .cls cd, sl⟩ => (match cd.mro, sl.toList with
    | .ref C' :: bm, [_, _, _, _, some (.builtin n), _] => C' == C && n == "ValueError.__new__" && cd.hasDict && !cd.hasDel && PySem.HandSPX.refsVE bm
    | _, _ => false)
  | _ => false
theorem oexB_ok {K : PySem.W.Frag} {C : Addr} (h : oexB K C = true) : ∃ nm q N bs bm sn sub ab col dd k0 k1 k2 k3 k5, K.lookup C = some (excClassObj nm q C N bs bm true sn sub ab col dd k0 k1 k2 k3 k5 "ValueError.__new__") ∧ PySem.HandSPX.refsVE bm = true := by
  unfold oexB at h
  split at h
  · rename_i dd cd sl ho
    split at h
    · rename_i C' bm k0 k1 k2 k3 n k5 hm hs
      simp only [Bool.and_eq_true, beq_iff_eq, Bool.not_eq_true'] at h
      obtain ⟨⟨⟨⟨e1, e2⟩, hd⟩, hdel⟩, hr⟩ := h
      obtain ⟨nm, bs, mro, ns, qn, hdc, sn, sub, ab, col, del⟩ := cd
      dsimp only at hm hdel hd
      obtain ⟨l⟩ := sl
      dsimp only at hs
      subst e1 e2 hm hdel hd hs
      exact ⟨nm, qn, ns, bs, bm, sn, sub, ab, col, dd, k0, k1, k2, k3, k5, ho, hr⟩
    · cases h
  · cases h
def excB (K : PySem.W.Frag) (C : Addr) : Bool := (xfB K C && (PySem.W.clsIn K C).isSome && oexB K C && decide (PySem.W.findIn K (.ref C) "__setattr__" = some (some (.builtin "object.__setattr__"))) && decide (PySem.W.typeIn K (.ref C) = some (.type "type")) && PySem.W.keepIn K (.ref C)) &&
  (decide (PySem.W.findIn K (.ref C) "__class__" = some (some (.builtin "object.__class__"))) && decide (PySem.W.specialIn K (.builtin "object.__class__") "__get__" = some (some (.builtin "getset_descriptor.__get__"))) && decide (PySem.W.takesIn K (.builtin "object.__class__") = some true) && decide (PySem.W.mroIn K C (.type "object") = some true))
theorem excB_ok {K : PySem.W.Frag} {C : Addr} (h : excB K C = true) : ExcK K C := by
  unfold excB at h
  simp only [Bool.and_eq_true, decide_eq_true_eq] at h
  obtain ⟨⟨⟨⟨⟨⟨h1, h2⟩, h3⟩, h4⟩, h5⟩, h6⟩, ⟨⟨h7, h8⟩, h9⟩, h10⟩ := h
  have x := xfB_ok h1
  exact ⟨x, h2, h7, h8, h9, h10, ⟨oexB_ok h3, h4, x.exC, h5, h6⟩⟩

/-! ### instances: made, their fields, their class -/
section
variable {X : Cx} {cm : Nat → Addr} {e : Expr} {fe : EF} {pos p : Pos}
theorem DenF.lookup {K : PySem.W.Frag} {G : Hp} {f : Str} {d : Dt} : ∀ {fv : List (Str × V)} {fs : List (Str × Dt)}, DenF K cm G fv fs → fs.lookup f = some d → ∃ v, fv.lookup f = some v ∧ Den K cm G v d
  | _, _, .nil, h => by cases h
  | _, _, .cons (x := x) (v := v) (d := d') h t, e => by
    rw [List.lookup_cons] at e ⊢
    cases q : f == x with
    | true =>
      rw [q] at e
      cases e
      exact ⟨v, rfl, h⟩
    | false =>
      rw [q] at e
      exact DenF.lookup t e
theorem DenF.zip {K : PySem.W.Frag} {G : Hp} : ∀ {ns : List Str} {vs : List V} {ds : List Dt}, DenL K cm G vs ds → DenF K cm G (ns.zip vs) (ns.zip ds)
  | [], _, _, _ => by simpa using DenF.nil
  | _ :: _, _, _, .nil => .nil
  | _ :: _, _, _, .cons h t => .cons h (DenF.zip t)
theorem DenF.append {K : PySem.W.Frag} {G : Hp} : ∀ {vs ws : List (Str × V)} {ds es : List (Str × Dt)}, DenF K cm G vs ds → DenF K cm G ws es → DenF K cm G (vs ++ ws) (ds ++ es)
  | _, _, _, _, .nil, s => s
  | _, _, _, _, .cons h t, s => .cons h (DenF.append t s)
theorem DenF.reverse {K : PySem.W.Frag} {G : Hp} : ∀ {vs : List (Str × V)} {ds : List (Str × Dt)}, DenF K cm G vs ds → DenF K cm G vs.reverse ds.reverse
  | _, _, .nil => .nil
  | _, _, .cons h t => by
    rw [List.reverse_cons, List.reverse_cons]
    exact (DenF.reverse t).append (.cons h .nil)
theorem je_fld {cs : List Nat} {f : Str} (hcs : ∀ c ∈ cs, Cls X.K (cm c) ∧ NoAttr X.K (cm c) f) (he : JE X cm e fe) (hb : attributeBase e f X.env (eval e X.env) = eval e X.env := by rfl) : JE X cm (.Attribute e f pos) (eFld cs f fe) := by
  refine ⟨fun env r σ H G hf rel Q q => to_e (pe_fld pe_w hb) ?_⟩
  unfold eFld at hf
  split at hf
  · rename_i c fs h1
    split at hf
    · rename_i hc
      obtain ⟨d, h2, h3⟩ := Option.map_eq_some_iff.mp hf
      subst h3
      refine he.run env _ σ H G h1 rel _ fun v H1 G1 g1 rr => ?_
      cases (show Den X.K cm G1 v (.obj c fs) from rr) with
      | obj ha hd =>
        obtain ⟨y, hy, hden⟩ := hd.lookup h2
        exact ⟨_, _, _, _, y, rfl, g1.sub _ _ ha, (hcs c hc).1, (hcs c hc).2, hy, q y H1 G1 g1 hden⟩
    · cases hf
  · cases hf
theorem je_isC {x : Str} {p2 : Pos} {cs : List Nat} {c : Nat} (hcs : ∀ c' ∈ cs, InsK X.K (cm c') ∧ PySem.W.kitOne X.K (.ref (cm c')) (.ref (cm c)) = some (c' == c)) (hty : ∀ t ∈ (["NoneType", "bool", "int", "str", "list", "tuple"] : List String), PySem.W.kitOne X.K (.type t) (.ref (cm c)) = some false)
    (hg : Gl X "isinstance") (hm : X.mg "isinstance" = none) (hg2 : Gl X x) (hm2 : X.mg x = some (.ref (cm c))) (he : JE X cm e fe) (hd2 : (x == ("__debug__" : Str)) = false := by decide)
    (h0 : starEach [.Name x p2] X.env = (false, eval (.Name x p2) X.env) :: starEach [] X.env := by rfl) (hst : starEach [e, .Name x p2] X.env = (false, eval e X.env) :: starEach [.Name x p2] X.env := by rfl)
    (hpl : (backTo pos (starEach [.Name x p2] X.env)).any (·.1) = false := by rfl) : JE X cm (.Call (.Name "isinstance" p) [e, .Name x p2] [] pos) (eIsC cs c fe) := by
  refine ⟨fun env r σ H G hf rel Q q => ?_⟩
  obtain ⟨ra, h1, hf⟩ := Option.bind_eq_some_iff.mp hf
  refine to_e (pe_callB call_isi hg hm (by decide +kernel) (pa_cons pe_w (pa_cons (pe_glob (v := .ref (cm c)) hg2 hm2 rfl hd2) pa_nil h0) hst) (by decide) (by decide) hst hpl) (he.pub h1 rel fun v H1 G1 g1 vr => ?_)
  have other : ∀ {d : Dt} {t : String}, VR X.K cm H1 G1 v d ra.sh → d.ty = some t → r = .vis (.bl false) → rIsi X.K [v, V.ref (cm c)] H1 Q := fun {d t} vr ht e => by
    subst e
    refine ⟨v, .ref (cm c), .type t, .ref (cm c), false, rfl, .own _, vr.tyX g1.sub ht, hty t ?_, q _ _ _ g1 (Den.bl _)⟩
    cases d <;> cases ht <;> simp
  cases hd : ra.dt with
  | obj c' fs =>
    rw [hd] at hf vr
    dsimp only at hf
    split at hf
    · rename_i hc
      cases hf
      have hsh : ra.sh = false := by
        cases hs : ra.sh with
        | false => rfl
        | true =>
          rw [hs] at vr
          obtain ⟨l, vs, ds, _, h2, _⟩ := vr.1 rfl
          cases h2
      rw [hsh] at vr
      obtain ⟨k1, k2⟩ := hcs c' hc
      cases vr.den with
      | obj ha hdn => exact ⟨_, .ref (cm c), .ref (cm c'), .ref (cm c), _, rfl, .own _, .base (.ins (g1.sub _ _ ha) k1.cls k1.c1 k1.c2 k1.c3 k1.c4), k2, q _ _ _ g1 (Den.bl _)⟩
    · cases hf
  | exn a d fs => rw [hd] at hf; cases hf
  | non => rw [hd] at hf vr; cases hf; exact other (t := "NoneType") vr rfl rfl
  | bl b => rw [hd] at hf vr; cases hf; exact other (t := "bool") vr rfl rfl
  | int i => rw [hd] at hf vr; cases hf; exact other (t := "int") vr rfl rfl
  | str z => rw [hd] at hf vr; cases hf; exact other (t := "str") vr rfl rfl
  | lst ds => rw [hd] at hf vr; cases hf; exact other (t := "list") vr rfl rfl
  | tup ds => rw [hd] at hf vr; cases hf; exact other (t := "tuple") vr rfl rfl

/-! an __init__ that stores its arguments -/
def putAll : List (Nat × Str) → List V → List (Str × V) → List (Str × V)
  | (_, f) :: r, y :: ys, fs => putAll r ys (putF f y fs)
  | _, _, fs => fs
theorem putF_new {f : Str} {y : V} : ∀ {fs : List (Str × V)}, f ∉ fs.map (·.1) → putF f y fs = fs ++ [(f, y)]
  | [], _ => rfl
  | (g, x) :: r, h => by
    have h1 : g ≠ f := fun e => h (by rw [List.map_cons, e]; exact List.mem_cons_self)
    unfold putF
    rw [if_neg h1, putF_new (fs := r) (fun m => h (by rw [List.map_cons]; exact List.mem_cons_of_mem _ m))]
    rfl
theorem putAll_zip : ∀ {r : List (Nat × Str)} {ys : List V} {fs : List (Str × V)}, r.length = ys.length → (fs.map (·.1) ++ r.map (·.2)).Nodup → putAll r ys fs = fs ++ (r.map (·.2)).zip ys
  | [], [], fs, _, _ => by simp [putAll]
  | (i, f) :: r, y :: ys, fs, hl, hn => by
    have hn' : f ∉ fs.map (·.1) := fun m => by
      rw [List.map_cons] at hn
      exact (List.nodup_append.mp hn).2.2 f m f List.mem_cons_self rfl
    show putAll r ys (putF f y fs) = _
    rw [putF_new hn', putAll_zip (r := r) (by simpa using hl) (by
      rw [List.map_append, List.append_assoc]
      exact hn), List.append_assoc]
    rfl
  | [], _ :: _, _, h, _ => by cases h
  | _ :: _, [], _, h, _ => by cases h
/-- self.f = the i-th name, one behind another -/
def tInits (C : Addr) : List (Nat × Str) → TS
  | [] => fun D σ H => D.nx σ H
  | (i, f) :: r => fun D σ H => ∃ y a dx fs, σ[i]? = some (some y) ∧ σ[0]? = some (some (.ref a)) ∧ H a = some (.ins C dx fs) ∧ fs.length < 1000 ∧ tInits C r D σ (upd H a (.ins C dx (putF f y fs)))
theorem pss_inits {C : Addr} (c : Cls X.K C) : ∀ {l : List (Nat × Str)} {sts : List Stmt}, l.length = sts.length → (∀ (j : Nat) (z : Nat × Str) (st : Stmt), l[j]? = some z → sts[j]? = some st → PS X st (sFld X.K (tVar 0) (tVar z.1) z.2) ∧ NoAttr X.K C z.2) → PSs X sts (tInits C l)
  | [], [], _, _ => pss_nil
  | (i, f) :: r, st :: sts, hl, h => by
    obtain ⟨h1, h2⟩ := h 0 (i, f) st rfl rfl
    have ih := pss_inits (l := r) (sts := sts) c (by simpa using hl) fun j z st' e1 e2 => h (j + 1) z st' (by simpa using e1) (by simpa using e2)
    refine ⟨fun pins s σ H D I ht => (pss_cons h1 ih).run pins s σ H D I ?_⟩
    obtain ⟨y, a, dx, fs, k1, k2, k3, k4, k5⟩ := ht
    exact ⟨y, k1, .ref a, k2, a, C, dx, fs, rfl, k3, c, h2, k4, k5⟩
  | [], _ :: _, h, _ => by cases h
  | _ :: _, [], h, _ => by cases h
theorem tInits_of {C a dx : Addr} {D : Ends} {σ : L2.St} (h0 : σ[0]? = some (some (.ref a))) : ∀ {l : List (Nat × Str)} {ys : List V} {fs : List (Str × V)} {H : Hp}, l.length = ys.length → (∀ (j : Nat) (z : Nat × Str) (y : V), l[j]? = some z → ys[j]? = some y → σ[z.1]? = some (some y)) → H a = some (.ins C dx fs) → fs.length + l.length < 1000 →
    (∀ H', H' = upd H a (.ins C dx (putAll l ys fs)) → D.nx σ H') → tInits C l D σ H
  | [], [], fs, H, _, _, ha, _, q => q H (by
    funext b
    by_cases e : b = a
    · rw [e, upd_same]; exact ha
    · rw [upd_ne e])
  | (i, f) :: r, y :: ys, fs, H, hl, hz, ha, hs, q => by
    refine ⟨y, a, dx, fs, hz 0 (i, f) y rfl rfl, h0, ha, by rw [List.length_cons] at hs; omega, ?_⟩
    refine tInits_of h0 (by simpa using hl) (fun j z y' e1 e2 => hz (j + 1) z y' (by simpa using e1) (by simpa using e2)) upd_same (by
      have := length_putF f y fs
      rw [List.length_cons] at hs
      omega) fun H' e => q H' ?_
    rw [e, upd_upd]
    rfl
  | [], _ :: _, _, _, h, _, _, _, _ => by cases h
  | _ :: _, [], _, _, h, _, _, _, _ => by cases h
end
section
variable {P : Program} {w : World} {K : PySem.W.Frag} {mg : Str → Option Value} {base : Heap} {cm : Nat → Addr}
/-- the promise of an __init__ that stores its arguments under the names ns -/
def spI (C : Addr) (ns : List Str) : Sp := fun vs H Q _ => ∃ a dx ws, vs = .ref a :: ws ∧ ws.length = ns.length ∧ H a = some (.ins C dx []) ∧ Q .non (upd H a (.ins C dx (ns.zip ws)))
theorem start_at {N : List Str} {vs : List V} {i : Nat} {v : V} (h : vs[i]? = some v) : (start N vs)[i]? = some (some v) := start_get h
/-- l: the parameters' places, in their order, with the names under which they are stored -/
theorem init_ok {x qual : Str} {st : Stmt} {f : Addr} {fd : FuncData} {N ps : List Str} {k : Nat} {C : Addr} (Fu : Fun K x qual st f fd) (S : FnScope N ps (defScope st)) (ns : List Str) (c : Cls K C) (hn : ns.Nodup) (hl : ps.length = ns.length + 1) (hs : ns.length < 1000)
    (hb : ∀ (cdv : Value) (A : Around) (outer : List Env) (s : Shared) (H : Hp) (E : XK), (defBody st).length = ns.length ∧ ∀ (j : Nat) (g : Str) (b : Stmt), ns[j]? = some g → (defBody st)[j]? = some b →
      PS (cxN P w K mg base N qual st f cdv A outer s H E) b (sFld K (tVar 0) (tVar (j + 1)) g) ∧ NoAttr K C g) :
    FnOk P w K mg base CX0 (k + 1) f fd ps (spI C ns) := by
  refine Fu.ok S (fun vs H Q E h => ?_) (fun cdv A outer s H vs Q E hr h => ?_)
  · obtain ⟨a, dx, ws, rfl, h1, _⟩ := h
    rw [List.length_cons, h1, hl]
  · obtain ⟨a, dx, ws, rfl, h1, h2, h3⟩ := h
    obtain ⟨b1, b2⟩ := hb cdv A outer s H E
    have hll : ((List.range ns.length).map (· + 1)).zip ns = (ns.zipIdx 1).map fun z => (z.2, z.1) := by
      refine List.ext_getElem? fun j => ?_
      rw [List.getElem?_map, List.getElem?_zipIdx]
      by_cases hj : j < ns.length
      · rw [List.getElem?_zip_eq_some (z := (j + 1, ns[j])) |>.mpr ⟨by rw [List.getElem?_map, List.getElem?_range hj]; rfl, List.getElem?_eq_getElem hj⟩, List.getElem?_eq_getElem hj]
        simp [Nat.add_comm]
      · rw [List.getElem?_eq_none (l := ns) (by omega), List.getElem?_eq_none (by simp; omega)]
        rfl
    have at_ : ∀ (j : Nat) (z : Nat × Str), (((List.range ns.length).map (· + 1)).zip ns)[j]? = some z → z.1 = j + 1 ∧ ns[j]? = some z.2 := fun j z e => by
      obtain ⟨e1, e2⟩ := List.getElem?_zip_eq_some.mp e
      rw [List.getElem?_map] at e1
      obtain ⟨y, e3, e4⟩ := Option.map_eq_some_iff.mp e1
      have hy : j < ns.length := by
        have := (List.getElem?_eq_some_iff.mp e2).1
        exact this
      rw [List.getElem?_range hy] at e3
      cases e3
      exact ⟨e4.symm, e2⟩
    have lz : (((List.range ns.length).map (· + 1)).zip ns).length = ns.length := by simp
    have ln : (((List.range ns.length).map (· + 1)).zip ns).map (·.2) = ns := List.map_snd_zip (by simp)
    refine ⟨_, pss_inits (C := C) c (l := ((List.range ns.length).map (· + 1)).zip ns) (by rw [lz, b1]) fun j z b e1 e2 => ?_, ?_⟩
    · obtain ⟨q1, q2⟩ := at_ j z e1
      rw [q1]
      exact b2 j z.2 b q2 e2
    · refine tInits_of (a := a) (dx := dx) (fs := []) (ys := ws) (start_at rfl) (by rw [lz, h1]) (fun j z y e1 e2 => ?_) h2 (by rw [lz]; simpa using hs) fun H' e => ?_
      · obtain ⟨q1, q2⟩ := at_ j z e1
        rw [q1]
        exact start_at (by simpa using e2)
      · rw [putAll_zip (by rw [lz, h1]) (by rw [ln]; simpa using hn), ln, List.nil_append] at e
        rw [e]
        exact h3
/-- a class of the module whose __init__ stores its arguments under the names ns -/
structure MkC (P : Program) (w : World) (K : PySem.W.Frag) (mg : Str → Option Value) (base : Heap) (cm : Nat → Addr) (k : Nat) (x : Str) (c : Nat) (ns : List Str) : Prop where
  ex : ∃ (f : Addr) (fd : FuncData) (ps : List Str), Mk K (cm c) f ∧ FnOk P w K mg base CX0 k f fd ps (spI (cm c) ns) ∧ mg x = some (.ref (cm c)) ∧ Binds K fd ps []
variable {X : Cx} {e : Expr} {pos p : Pos} {x : Str}
theorem je_make {es : List Expr} {ft : AF} {k c : Nat} {ns : List Str} (C : MkC X.prog X.w X.K X.mg X.base cm k x c ns) (hr : Room (k + 1) X.A) (hg : Gl X x) (ha : JA X cm (e :: es) ft) (hdb : (x == ("__debug__" : Str)) = false := by decide)
    (he : starEach (e :: es) X.env = (false, eval e X.env) :: starEach es X.env := by rfl) (hpl : (backTo pos (starEach es X.env)).any (·.1) = false := by rfl) : JE X cm (.Call (.Name x p) (e :: es) [] pos) (eMake c ns ft) := by
  refine ⟨fun env r σ H G hf rel Q q => ?_⟩
  obtain ⟨rs, h1, hf⟩ := Option.bind_eq_some_iff.mp hf
  obtain ⟨ds, h2, hf⟩ := Option.bind_eq_some_iff.mp hf
  split at hf
  case isFalse => cases hf
  rename_i hln
  cases hf
  obtain ⟨h3, rfl⟩ := plain_some h2
  obtain ⟨f, fd, ps, M, F, hm, hb⟩ := C.ex
  refine to_e (pe_make M F hr hg hm hb .nil pass0 pa_w hdb he hpl) (ha.run env rs σ H G h1 rel _ fun vs H1 G1 g1 vrs => fun a dx na nd ne => ?_)
  have hd := vrs.plain h3
  refine ⟨a, dx, vs, by rw [List.append_nil], by rw [hd.length, hln], upd_same, rfl, ?_⟩
  have g2 : Grow H1 G1 (upd H1 dx (.own a)) G1 := .hide g1.sub nd
  have na2 : (upd H1 dx (.own a)) a = none := by rw [upd_ne (Ne.symm ne)]; exact na
  have g3 := g2.trans (Grow.new (o := .ins (cm c) dx (ns.zip vs)) g2.sub na2)
  rw [upd_upd]
  exact q _ _ _ (g1.trans g3) (Den.obj upd_same (DenF.zip (hd.mono g3.gx)))
end
end Pyl
end
section
set_option Elab.async false
set_option linter.all false
set_option maxRecDepth 100000
set_option maxHeartbeats 2000000
namespace Pyl
open PySem L2
/-! ### defs that may raise -/
section
variable {P : Program} {w : World} {K : PySem.W.Frag} {mg : Str → Option Value} {base : Heap} {cm : Nat → Addr}
def spX (K : PySem.W.Frag) (cm : Nat → Addr) (F : FX) : Sp := fun vs H Q E => ∃ (G : Hp) (ds : List Dt) (o : Xr), Exx G H ∧ DenL K cm G vs ds ∧ F ds = some o ∧ (∀ d, o = .ok d → ∀ v H' G', Grow H G H' G' → Den K cm G' v d → Q v H') ∧
  ∀ c fs, o = .er c fs → ∀ dd H' G', Grow H G H' G' → XdR K cm G' dd fs → E (.ref (cm c)) dd H'
/-- the context of the body of a def that may raise -/
abbrev cxX (P : Program) (w : World) (K : PySem.W.Frag) (mg : Str → Option Value) (base : Heap) (N : List Str) (qual : Str) (st : Stmt) (f : Addr) (cdv : Value) (A : Around) (outer : List Env) (s : Shared) (H : Hp) (E : XK) : Cx := cxOf (L2N.CX P w) P w K mg base N qual (defScope st) f cdv A outer s H E
theorem okXN {x qual : Str} {st : Stmt} {f : Addr} {fd : FuncData} {N ps : List Str} {k : Nat} {sp : Sp} (Fu : Fun K x qual st f fd) (S : FnScope N ps (defScope st)) (len : ∀ vs H Q E, sp vs H Q E → vs.length = ps.length)
    (hb : ∀ (cdv : Value) (A : Around) (outer : List Env) (s : Shared) (H : Hp) (vs : List V) (Q : VK) (E : XK), Room k (A.deeper (PyProof.Rows.envOfC qual (defScope st) s.heap.objs.size f cdv)) → sp vs H Q E →
      ∃ t, PSs (cxX P w K mg base N qual st f cdv A outer s H E) (defBody st) t ∧ t { nx := fun _ H' => Q .non H', rt := Q } (start N vs) H) : FnOk P w K mg base (L2N.CX P w) (k + 1) f fd ps sp := by
  obtain ⟨oc, od, kV, doc, pm, an, cdv, ct, osl, hfd, lk, hcd⟩ := Fu.ex
  subst hfd
  exact fn_of lk hcd S len fun A outer s H vs Q E hr hsp => hb cdv A outer s H vs Q E hr hsp
theorem fnx_ok {x qual : Str} {st : Stmt} {f : Addr} {fd : FuncData} {N ps : List Str} {k : Nat} {F : FX} (Fu : Fun K x qual st f fd) (S : FnScope N ps (defScope st)) (hlen : ∀ ds o, F ds = some o → ds.length = ps.length) (wd : WS) (hk : KeepsX N.length wd F)
    (hb : ∀ (cdv : Value) (A : Around) (outer : List Env) (s : Shared) (H : Hp) (E : XK), Room k (A.deeper (PyProof.Rows.envOfC qual (defScope st) s.heap.objs.size f cdv)) → PassesOwn (model P w) (cxX P w K mg base N qual st f cdv A outer s H E).A (cxX P w K mg base N qual st f cdv A outer s H E).env (cxX P w K mg base N qual st f cdv A outer s H E).xe →
      JSs (cxX P w K mg base N qual st f cdv A outer s H E) cm (defBody st) wd) :
    FnOk P w K mg base (L2N.CX P w) (k + 1) f fd ps (spX K cm F) := by
  refine okXN Fu S (fun vs H Q E h => ?_) (fun cdv A outer s H vs Q E hr h => ⟨_, pss_w, ?_⟩)
  · obtain ⟨G, ds, o, _, h2, h3, _⟩ := h
    rw [h2.length]
    exact hlen ds o h3
  · obtain ⟨G, ds, o, h1, h2, h3, h4, h5⟩ := h
    refine (hb cdv A outer s H E hr (passes_of rfl)).run (startE N.length ds) _ (start N vs) H G (hk ds o h3) (rel_start h1 h2) _ ⟨fun σ' H' G' env' rel fr e => ?_, fun v H' G' d fr den e => ?_, fun _ _ _ _ _ _ z => z.elim, fun _ _ _ _ _ _ z => z.elim, fun σ' H' G' env' c fs dd rel fr xd e => ?_⟩
    · exact h4 _ e _ H' G' fr.toFrH.grow Den.non
    · exact h4 _ e v H' G' fr.grow den
    · exact exW_of (L2N.takes_of (E := E) rfl rfl rfl rfl) (h5 c fs e dd H' G' fr.toFrH.grow xd)
/-- a def of the module that may raise; its arguments are written -/
structure FnX (P : Program) (w : World) (K : PySem.W.Frag) (mg : Str → Option Value) (base : Heap) (cm : Nat → Addr) (k : Nat) (x : Str) (F : FX) : Prop where
  ex : ∃ (f : Addr) (fd : FuncData) (ps : List Str), FnOk P w K mg base (L2N.CX P w) k f fd ps (spX K cm F) ∧ mg x = some (.ref f) ∧ PySem.W.keepIn K (.ref f) = true ∧ Binds K fd ps []
/-- .. n written, the keywords ks behind them -/
structure FnXK (P : Program) (w : World) (K : PySem.W.Frag) (mg : Str → Option Value) (base : Heap) (cm : Nat → Addr) (k : Nat) (x : Str) (n : Nat) (ks : List Str) (F : FX) : Prop where
  ex : ∃ (f : Addr) (fd : FuncData) (ps : List Str) (g : List Value → List Value → List Value), FnOk P w K mg base (L2N.CX P w) k f fd ps (spX K cm F) ∧ mg x = some (.ref f) ∧ PySem.W.keepIn K (.ref f) = true ∧ KBn K fd ps n ks g (fun vs zs => vs ++ zs)
/-- .. those that lack at the call are dd -/
structure FnXD (P : Program) (w : World) (K : PySem.W.Frag) (mg : Str → Option Value) (base : Heap) (cm : Nat → Addr) (k : Nat) (x : Str) (dd : List Dt) (F : FX) : Prop where
  ex : ∃ (f : Addr) (fd : FuncData) (ps : List Str) (dvs : List V) (ds : List Value), FnOk P w K mg base (L2N.CX P w) k f fd ps (spX K cm F) ∧ mg x = some (.ref f) ∧ PySem.W.keepIn K (.ref f) = true ∧ Binds K fd ps ds ∧ Vals dvs ds ∧ ∀ G, DenL K cm G dvs dd
/-- it raises nothing where nothing is told of it -/
theorem calm_ok {f : Addr} {fd : FuncData} {ps : List Str} {k : Nat} {F : FX} (h : FnOk P w K mg base (L2N.CX P w) k f fd ps (spX K cm F)) : FnOk P w K mg base CX0 k f fd ps (spP K cm (okF F)) := by
  have h2 : ∀ vs H Q E, spP K cm (okF F) vs H Q E → spX K cm F vs H Q (fun _ _ _ => False) := fun vs H Q E ⟨G, ds, r, g1, g2, g3, g4⟩ => by
    unfold okF at g3
    split at g3
    · rename_i d hd
      cases g3
      exact ⟨G, ds, .ok _, g1, g2, hd, fun d' e => (by cases e; exact g4), fun c fs e => (by cases e)⟩
    · cases g3
  refine ⟨fun vs H Q E q => h.len vs H Q _ (h2 vs H Q E q), fun A outer s H args us vs Q E hr he hb hv hs => codeAny_mono (h.run A outer s H args us vs Q _ hr he hb hv (h2 vs H Q E hs)) fun r s' hq => ?_⟩
  cases r with
  | ok fl => cases fl <;> exact hq
  | error e =>
    obtain ⟨_, _, _, _, _, _, _, _, _, _, _, _, z⟩ := (show L2N.CX P w outer H s (fun _ _ _ => False) e s' from hq)
    exact z.elim
theorem FnX.calm {k : Nat} {x : Str} {F : FX} (C : FnX P w K mg base cm k x F) : FnC P w K mg base cm k x (okF F) := by
  obtain ⟨f, fd, ps, h, hm, hk, hb⟩ := C.ex
  exact ⟨f, fd, ps, calm_ok h, hm, hk, hb⟩
end
/-! ### a call that may raise -/
structure JX (X : Cx) (cm : Nat → Addr) (e : Expr) (f : XF) : Prop where
  run : ∀ (env : Sl) (o : Xr) (σ : L2.St) (H G : Hp), f env = some o → Rel X.K cm σ H G env → ∀ Q : VK, (∀ d, o = .ok d → ∀ v H' G', Grow H G H' G' → Den X.K cm G' v d → Q v H') →
    (∀ c fs, o = .er c fs → ∀ dd H' G', Grow H G H' G' → XdR X.K cm G' dd fs → exW X (.ref (cm c)) dd σ H') → wpE X e σ H Q
section
variable {X : Cx} {cm : Nat → Addr} {e a b c : Expr} {f fa fb fc : EF} {σ : L2.St} {H G : Hp} {env : Sl} {pos p : Pos} {x : Str}
/-- a call's end, of arguments that may be borrowed -/
theorem callx_end {F : FX} {vs : List V} {rs : List (Dt × Bool)} {o : Xr} {H G H1 G1 : Hp} (g1 : Grow H G H1 G1) (vrs : VRs X.K cm H1 G1 vs rs) (hf : ((F (rs.map (·.1))).bind fun o => if rs.any (·.2) && !o.scalar then none else some o) = some o) {Q : VK}
    (q : ∀ d, o = .ok d → ∀ v H' G', Grow H G H' G' → Den X.K cm G' v d → Q v H') (qe : ∀ c fs, o = .er c fs → ∀ dd H' G', Grow H G H' G' → XdR X.K cm G' dd fs → exW X (.ref (cm c)) dd σ H') : spX X.K cm F vs H1 Q (L2.WE (exW X) σ) := by
  obtain ⟨o', h2, hf⟩ := Option.bind_eq_some_iff.mp hf
  by_cases hs : rs.any (·.2) = true
  · split at hf
    · cases hf
    · rename_i hn
      cases hf
      have sc : o.scalar = true := by
        cases hd : o.scalar with
        | true => rfl
        | false => exact absurd (by rw [hs, hd]; rfl) hn
      refine ⟨H1, _, o, .refl _, vrs.denH g1.sub, h2, fun d e v H' G' g hden => ?_, fun c fs e dd H' G' g xd => ?_⟩
      · subst e
        exact q d rfl v H' G1 (g1.trans ⟨g.hx, .refl _, fun _ _ _ n => n, g1.sub.trans g.hx⟩) (Dt.scalar_den hden sc)
      · subst e
        cases sc
  · have hs' : rs.any (·.2) = false := by simpa using hs
    split at hf
    · rename_i hn
      rw [hs'] at hn
      cases hn
    · cases hf
      exact ⟨G1, _, o, g1.sub, vrs.plain hs', h2, fun d e v H' G' g hden => q d e v H' G' (g1.trans g) hden, fun c fs e dd H' G' g xd => qe c fs e dd H' G' (g1.trans g) xd⟩
theorem jx_call {es : List Expr} {ft : AF} {F : FX} {k : Nat} (C : FnX X.prog X.w X.K X.mg X.base cm k x F) (hr : Room k X.A) (hg : Gl X x) (ha : JA X cm (e :: es) ft) (hdb : (x == ("__debug__" : Str)) = false := by decide)
    (he : starEach (e :: es) X.env = (false, eval e X.env) :: starEach es X.env := by rfl) (hpl : (backTo pos (starEach es X.env)).any (·.1) = false := by rfl) : JX X cm (.Call (.Name x p) (e :: es) [] pos) (xCall F ft) := by
  refine ⟨fun env o σ H G hf rel Q q qe => ?_⟩
  obtain ⟨rs, h1, hf⟩ := Option.bind_eq_some_iff.mp hf
  obtain ⟨f, fd, ps, hF, hm, hkp, hb⟩ := C.ex
  refine to_e (pe_callS (E := L2.WE (exW X)) hF hr hg hm hkp hb (fun σ => L2N.passAt (takes_exW X) σ) pa_w hdb he hpl) (ha.run env rs σ H G h1 rel _ fun vs H1 G1 g1 vrs => ?_)
  exact callx_end g1 vrs hf q qe
/-- the defaults of a call that may raise -/
theorem jx_callD {es : List Expr} {ft : AF} {F : FX} {k : Nat} {dd : List Dt} (C : FnXD X.prog X.w X.K X.mg X.base cm k x dd F) (hr : Room k X.A) (hg : Gl X x) (ha : JA X cm (e :: es) ft) (hdb : (x == ("__debug__" : Str)) = false := by decide)
    (he : starEach (e :: es) X.env = (false, eval e X.env) :: starEach es X.env := by rfl) (hpl : (backTo pos (starEach es X.env)).any (·.1) = false := by rfl) : JX X cm (.Call (.Name x p) (e :: es) [] pos) (xCall F (aApp ft (aDfl dd))) := by
  refine ⟨fun env o σ H G hf rel Q q qe => ?_⟩
  obtain ⟨rs, h1, hf⟩ := Option.bind_eq_some_iff.mp hf
  obtain ⟨ra, h2, h1⟩ := Option.bind_eq_some_iff.mp h1
  obtain ⟨rk, h3, h1⟩ := Option.bind_eq_some_iff.mp h1
  cases h1
  cases h3
  obtain ⟨f, fd, ps, dvs, ds, hF, hm, hkp, hb, hv, hd⟩ := C.ex
  intro pins s I
  refine wpAny_Call_Name_kw (ld_glob I hg hm ?_ hdb)
  refine PySem.W.callWith_K (h₀ := X.base) I.ok.mod.kin hkp (thn (ha.run env ra σ H G h2 rel (fun vs H1 => spX X.K cm F (vs ++ dvs) H1 Q (L2.WE (exW X) σ)) (fun vs H1 G1 g1 vrs => callx_end g1 (vrs.append (vrs_dfl (hd G1))) hf q qe) pos pins s I) fun us s1 ⟨vs, H1, I1, r1, z⟩ => ⟨I1.kIn, ?_⟩) he hpl
  have r2 := r1.append hv
  have hl : (us ++ ds).length = ps.length := r2.length.symm.trans (hF.len _ _ _ _ z)
  refine wpAny_call (codeAny_mono (hF.run X.A X.stack s1 H1 ⟨us, []⟩ (us ++ ds) (vs ++ dvs) Q _ hr I1.env0 (hb s1 us I1.kIn hl) r2 z) fun r s' hq => ?_)
  match r, hq with
  | .error u, hq => exact L2N.passAt (takes_exW X) σ pins H1 s1 u s' I1 hq
  | .ok (.ret u), hq => exact I1.after hq
theorem jx_callK {es : List Expr} {ft fk : AF} {F : FX} {k : Nat} {ks : List Str} {kws : List Keyword} (C : FnXK X.prog X.w X.K X.mg X.base cm k x (es.length + 1) ks F) (hr : Room k X.A) (hg : Gl X x) (ha : JA X cm (e :: es) ft) (hk : JK X cm kws fk)
    (hall : (backToKw pos (keywordEach kws X.env)).all (·.1.isSome) = true := by rfl) (hks : (backToKw pos (keywordEach kws X.env)).filterMap (·.1) = ks := by rfl) (hln : ks.length = kws.length := by rfl) (hdb : (x == ("__debug__" : Str)) = false := by decide)
    (he : starEach (e :: es) X.env = (false, eval e X.env) :: starEach es X.env := by rfl)
    (hpl : ((backTo pos (starEach (e :: es) X.env)).any (·.1) || (backToKw pos (keywordEach kws X.env)).any (·.1.isNone)) = false := by rfl) : JX X cm (.Call (.Name x p) (e :: es) kws pos) (xCall F (aApp ft fk)) := by
  refine ⟨fun env o σ H G hf rel Q q qe => ?_⟩
  obtain ⟨rs, h1, hf⟩ := Option.bind_eq_some_iff.mp hf
  obtain ⟨ra, h2, h1⟩ := Option.bind_eq_some_iff.mp h1
  obtain ⟨rk, h3, h1⟩ := Option.bind_eq_some_iff.mp h1
  cases h1
  obtain ⟨f, fd, ps, g, hF, hm, hkp, hb⟩ := C.ex
  intro pins s I
  refine wpAny_Call_Name_kw (ld_glob I hg hm ?_ hdb)
  refine PySem.W.callWith_KW (h₀ := X.base) I.ok.mod.kin hkp hall (thn (ha.run env ra σ H G h2 rel (fun vs H1 => wpK X kws σ H1 fun zs H2 => vs.length = es.length + 1 ∧ zs.length = ks.length ∧ spX X.K cm F (vs ++ zs) H2 Q (L2.WE (exW X) σ)) (fun vs H1 G1 g1 vrs => hk.run env rk σ H1 G1 h3 (rel.grow g1) _ fun zs H2 G2 g2 zrs =>
    ⟨by rw [vrs.length, ha.len env ra h2]; rfl, by rw [zrs.length, hk.len env rk h3, hln], callx_end (g1.trans g2) ((vrs.grow g2).append zrs) hf q qe⟩) pos pins s I) fun us s1 ⟨vs, H1, I1, r1, z⟩ => ?_) hpl he
  refine thn (pk_w.run pos pins s1 σ H1 _ I1 z) fun ws s2 ⟨zs, H2, I2, rz, l1, l2, z2⟩ => ⟨I2.kIn, ?_⟩
  rw [hks]
  refine wpAny_call (codeAny_mono (hF.run X.A X.stack s2 H2 ⟨us, ks.zip ws⟩ (g us ws) (vs ++ zs) Q _ hr I2.env0 (hb.to s2 us ws I2.kIn (r1.length.symm.trans l1) (rz.length.symm.trans l2)) (hb.rel r1 rz) z2) fun r s' hq => ?_)
  match r, hq with
  | .error u, hq => exact L2N.passAt (takes_exW X) σ pins H2 s2 u s' I2 hq
  | .ok (.ret u), hq => exact I2.after hq
theorem js_asgX {fx : XF} (i : Nat) {pos' : Pos} (hN : X.N.Nodup) (he : JX X cm e fx) (hi : X.N[i]? = some x := by rfl) (hx : Loc X.env.scope x := by first | exact Or.inl rfl | exact Or.inr rfl) (hs : swapsWith e (some (.Name x pos')) pos.line X.env = pure false := by rfl)
    (hf : X.fn x = true ∨ X.env.scope.names.lookup x = some .local := by first | exact .inl rfl | exact .inr rfl | assumption) : JS X cm (.Assign [.Name x pos'] e pos) (wAsgX i fx) := by
  refine ⟨fun env D' σ H G hw rel D o => to_s (ps_set hN hi hx pe_w hs hf) ?_⟩
  obtain ⟨r, h1, h2, h3⟩ := hw
  exact he.run env r σ H G h1 rel _ (fun d e v H1 G1 g1 hd => o.nx _ _ _ _ ((rel.grow g1).setVal hd) ((rel.fr g1).trans (.setVal g1.sub)) (h2 d e)) fun c fs e dd H' G' g xd => o.er σ H' G' env c fs dd (rel.grow g) (rel.fr g) xd (h3 c fs e)
theorem js_retX {fx : XF} (he : JX X cm e fx) : JS X cm (.Return (some e) pos) (wRetX fx) := by
  refine ⟨fun env D' σ H G hw rel D o => to_s (ps_ret pe_w) ?_⟩
  obtain ⟨r, h1, h2, h3⟩ := hw
  exact he.run env r σ H G h1 rel _ (fun d e v H1 G1 g1 hd => o.rt v H1 G1 d g1.frH hd (h2 d e)) fun c fs e dd H' G' g xd => o.er σ H' G' env c fs dd (rel.grow g) (rel.fr g) xd (h3 c fs e)
theorem js_dropX {fx : XF} (he : JX X cm e fx) (hs : swapsWith e none pos.line X.env = pure false := by rfl) : JS X cm (.Expr e pos) (wDropX fx) := by
  refine ⟨fun env D' σ H G hw rel D o => to_s (ps_expr pe_w hs) ?_⟩
  obtain ⟨r, h1, h2, h3⟩ := hw
  exact he.run env r σ H G h1 rel _ (fun d e v H1 G1 g1 hd => o.nx _ _ _ _ (rel.grow g1) (rel.fr g1) (h2 d e)) fun c fs e dd H' G' g xd => o.er σ H' G' env c fs dd (rel.grow g) (rel.fr g) xd (h3 c fs e)
end
end Pyl
end
section
set_option Elab.async false
set_option linter.all false
set_option maxRecDepth 100000
set_option maxHeartbeats 2000000
namespace Pyl
open PySem L2
/-! ### an error's __init__ that stores its arguments -/
section
variable {X : Cx}
def tOsts (C : Addr) : List (Nat × Str) → TS
  | [] => fun D σ H => D.nx σ H
  | (i, f) :: r => fun D σ H => ∃ y a, σ[i]? = some (some y) ∧ σ[0]? = some (some (.ref a)) ∧ ((H a = some (exo a C none) ∧ ∀ dx, H dx = none → dx ≠ a → tOsts C r D σ (upd (upd H dx (exd dx [(f, y)])) a (exo a C (some dx)))) ∨
      ∃ dx fs, H a = some (exo a C (some dx)) ∧ H dx = some (exd dx fs) ∧ fs.length ≤ 900 ∧ tOsts C r D σ (upd H dx (exd dx ((f, y) :: fs))))
theorem pss_osts {C : Addr} (T : OexC X.K C) : ∀ {l : List (Nat × Str)} {sts : List Stmt}, l.length = sts.length → (∀ (j : Nat) (z : Nat × Str) (st : Stmt), l[j]? = some z → sts[j]? = some st → PS X st (tOst X.K z.2 (tVar 0) (tVar z.1)) ∧ NoAttr X.K C z.2) → PSs X sts (tOsts C l)
  | [], [], _, _ => pss_nil
  | (i, f) :: r, st :: sts, hl, h => by
    obtain ⟨h1, h2⟩ := h 0 (i, f) st rfl rfl
    have ih := pss_osts (l := r) (sts := sts) T (by simpa using hl) fun j z st' e1 e2 => h (j + 1) z st' (by simpa using e1) (by simpa using e2)
    refine ⟨fun pins s σ H D I ht => (pss_cons h1 ih).run pins s σ H D I ?_⟩
    obtain ⟨y, a, k1, k2, k3⟩ := ht
    exact ⟨y, k1, .ref a, k2, a, C, rfl, T, h2, k3⟩
  | [], _ :: _, h, _ => by cases h
  | _ :: _, [], h, _ => by cases h
theorem tOsts_of {C a dx : Addr} {D : Ends} {σ : L2.St} (h0 : σ[0]? = some (some (.ref a))) (ne : dx ≠ a) : ∀ {l : List (Nat × Str)} {ys : List V} {fs : List (Str × V)} {H : Hp}, l.length = ys.length → (∀ (j : Nat) (z : Nat × Str) (y : V), l[j]? = some z → ys[j]? = some y → σ[z.1]? = some (some y)) →
    H a = some (exo a C (some dx)) → H dx = some (exd dx fs) → fs.length + l.length ≤ 900 → (∀ H', H' = upd H dx (exd dx (((l.map (·.2)).zip ys).reverse ++ fs)) → D.nx σ H') → tOsts C l D σ H
  | [], [], fs, H, _, _, ha, hd, _, q => q H (by
    funext b
    by_cases e : b = dx
    · rw [e, upd_same]; exact hd
    · rw [upd_ne e])
  | (i, f) :: r, y :: ys, fs, H, hl, hz, ha, hd, hs, q => by
    rw [List.length_cons] at hs
    refine ⟨y, a, hz 0 (i, f) y rfl rfl, h0, .inr ⟨dx, fs, ha, hd, by omega, ?_⟩⟩
    refine tOsts_of h0 ne (by simpa using hl) (fun j z y' e1 e2 => hz (j + 1) z y' (by simpa using e1) (by simpa using e2)) (by rw [upd_ne (Ne.symm ne)]; exact ha) upd_same (by rw [List.length_cons]; omega) fun H' e => q H' ?_
    rw [e, upd_upd, List.map_cons, List.zip_cons_cons, List.reverse_cons, List.append_assoc]
    rfl
  | [], _ :: _, _, _, h, _, _, _, _, _ => by cases h
  | _ :: _, [], _, _, h, _, _, _, _, _ => by cases h
end
/-- the promise of an error's __init__ that stores its arguments under the names ns -/
def spE (C : Addr) (ns : List Str) : Sp := fun vs H Q _ => ∃ a ws, vs = .ref a :: ws ∧ ws.length = ns.length ∧ H a = some (exo a C none) ∧ ∀ dx, H dx = none → dx ≠ a → ∀ H', H' = upd (upd H dx (exd dx (ns.zip ws).reverse)) a (exo a C (some dx)) → Q .non H'
section
variable {P : Program} {w : World} {K : PySem.W.Frag} {mg : Str → Option Value} {base : Heap} {cm : Nat → Addr}
theorem einit_ok {x qual : Str} {st : Stmt} {f : Addr} {fd : FuncData} {N ps : List Str} {k : Nat} {C : Addr} (Fu : Fun K x qual st f fd) (S : FnScope N ps (defScope st)) (n : Str) (ns : List Str) (T : OexC K C) (hl : ps.length = ns.length + 2) (hs : ns.length < 800)
    (hb : ∀ (cdv : Value) (A : Around) (outer : List Env) (s : Shared) (H : Hp) (E : XK), (defBody st).length = ns.length + 1 ∧ ∀ (j : Nat) (g : Str) (b : Stmt), (n :: ns)[j]? = some g → (defBody st)[j]? = some b →
      PS (cxN P w K mg base N qual st f cdv A outer s H E) b (tOst K g (tVar 0) (tVar (j + 1))) ∧ NoAttr K C g) :
    FnOk P w K mg base CX0 (k + 1) f fd ps (spE C (n :: ns)) := by
  refine Fu.ok S (fun vs H Q E h => ?_) (fun cdv A outer s H vs Q E hr h => ?_)
  · obtain ⟨a, ws, rfl, h1, _⟩ := h
    rw [List.length_cons, h1, hl, List.length_cons]
  · obtain ⟨a, ws, rfl, h1, h2, h3⟩ := h
    obtain ⟨b1, b2⟩ := hb cdv A outer s H E
    have at_ : ∀ (j : Nat) (z : Nat × Str), (((List.range (ns.length + 1)).map (· + 1)).zip (n :: ns))[j]? = some z → z.1 = j + 1 ∧ (n :: ns)[j]? = some z.2 := fun j z e => by
      obtain ⟨e1, e2⟩ := List.getElem?_zip_eq_some.mp e
      rw [List.getElem?_map] at e1
      obtain ⟨y, e3, e4⟩ := Option.map_eq_some_iff.mp e1
      have hy : j < ns.length + 1 := (List.getElem?_eq_some_iff.mp e2).1
      rw [List.getElem?_range hy] at e3
      cases e3
      exact ⟨e4.symm, e2⟩
    have lz : (((List.range (ns.length + 1)).map (· + 1)).zip (n :: ns)).length = ns.length + 1 := by simp
    refine ⟨_, pss_osts (C := C) T (l := ((List.range (ns.length + 1)).map (· + 1)).zip (n :: ns)) (by rw [lz, b1]) fun j z b e1 e2 => ?_, ?_⟩
    · obtain ⟨q1, q2⟩ := at_ j z e1
      rw [q1]
      exact b2 j z.2 b q2 e2
    · cases ws with
      | nil => cases h1
      | cons y ys =>
        have hys : ys.length = ns.length := by simpa using h1
        have hln : (((List.range (ns.length + 1)).map (· + 1)).zip (n :: ns)) = (1, n) :: ((((List.range ns.length).map (· + 2))).zip ns) := by
          rw [List.range_succ_eq_map, List.map_cons, List.zip_cons_cons, List.map_map]
          rfl
        have lz2 : ((((List.range ns.length).map (· + 2))).zip ns).length = ns.length := by simp
        have ln2 : ((((List.range ns.length).map (· + 2))).zip ns).map (·.2) = ns := List.map_snd_zip (by simp)
        rw [hln]
        refine ⟨y, a, start_at rfl, start_at rfl, .inl ⟨h2, fun dx nd ne => ?_⟩⟩
        refine tOsts_of (start_at rfl) ne (fs := [(n, y)]) (ys := ys) (by rw [lz2, hys]) (fun j z y' e1 e2 => ?_) upd_same (by rw [upd_ne ne, upd_same]) (by rw [lz2]; simp; omega) fun H' e => ?_
        · obtain ⟨q1, q2⟩ := at_ (j + 1) z (by rw [hln]; simpa using e1)
          rw [q1]
          exact start_at (by simpa using e2)
        · refine h3 dx nd ne H' ?_
          rw [e, ln2, List.zip_cons_cons, List.reverse_cons]
          funext b
          by_cases eb : b = dx
          · subst eb
            rw [upd_same, upd_ne ne, upd_same]
          · rw [upd_ne eb]
            by_cases ea : b = a
            · subst ea; rw [upd_same, upd_same]
            · rw [upd_ne ea, upd_ne ea, upd_ne eb, upd_ne eb]
/-- an own error class whose __init__ stores its arguments under the names ns -/
structure ErrC (P : Program) (w : World) (K : PySem.W.Frag) (mg : Str → Option Value) (base : Heap) (cm : Nat → Addr) (k : Nat) (x : Str) (c : Nat) (ns : List Str) : Prop where
  ex : ∃ (f : Addr) (fd : FuncData) (ps : List Str), OexC K (cm c) ∧ PySem.W.findIn K (.ref (cm c)) "__init__" = some (some (.ref f)) ∧ PySem.W.typeIn K (.ref f) = some (.type "function") ∧ FnOk P w K mg base CX0 k f fd ps (spE (cm c) ns) ∧ mg x = some (.ref (cm c)) ∧ Binds K fd ps []
end
/-! ### raise -/
section
variable {X : Cx} {cm : Nat → Addr} {e : Expr} {es : List Expr} {ta : TA} {p pc pos : Pos} {x : Str}
theorem pmkN {C fI : Addr} {k : Nat} {fd : FuncData} {ps : List Str} {sp : Sp} (T : OexC X.K C) (iC : PySem.W.findIn X.K (.ref C) "__init__" = some (some (.ref fI))) (tI : PySem.W.typeIn X.K (.ref fI) = some (.type "function")) (F1 : FnOk X.prog X.w X.K X.mg X.base CX0 k fI fd ps sp) (hr : Room (k + 1) X.A) (hb : Binds X.K fd ps [])
    (hg : Gl X x) (hm : X.mg x = some (.ref C)) (ha : PA X (e :: es) ta) (hdb : (x == ("__debug__" : Str)) = false) (he : starEach (e :: es) X.env = (false, eval e X.env) :: starEach es X.env) (hpl : (backTo pos (starEach es X.env)).any (·.1) = false) : L2N.PMk X (.Call (.Name x p) (e :: es) [] pos) (tMkO C sp [] ta) := by
  rintro pins s σ H Q I h
  have hT := T.cls
  obtain ⟨_, _, _, _, bm, _, _, _, _, _, _, _, _, _, _, hC, hbm⟩ := hT
  refine wpAny_Call_Name_kw (ld_glob I hg hm ?_ hdb); refine PySem.W.callWith_K (h₀ := X.base) I.ok.mod.kin T.kC (thn (ha.run pos pins s σ H _ I h) ?_) he hpl
  rintro us ⟨hp, g, dr, tk, os⟩ ⟨vs, H1, I1, r1, hz, q1⟩
  refine ⟨I1.kIn, show wpAny _ _ (call (.ref C) us) _ _ _ from ?_⟩
  generalize ea : hp.objs.size + 1 = a
  have hsz : hp.objs.size ≤ a := by omega
  have hn : H1 a = none := I1.hok.fresh hsz
  have hq := q1 a hn
  rw [List.append_nil] at hq
  generalize eh : (hp.push (PySem.W.kdv_tup us)).push (PySem.HandSPX.excO C hp.objs.size) = h1
  have kk : ∀ b o, hp.get? b = some o → h1.get? b = some o := by
    rintro b o e
    rw [← eh]
    exact Heap.get?_push_of_some _ (Heap.get?_push_of_some _ e)
  have hget : h1.get? a = some (PySem.HandSPX.excO C hp.objs.size) := by rw [← eh, ← ea]; heap_get
  have I2 : Inv X pins σ (upd H1 a (exo a C none)) ⟨h1, g, dr, tk, os⟩ := I1.laid (t' := tk) kk hsz (exo_ok hget)
  have r2 : Vals (V.ref a :: vs) (Value.ref a :: us) := .cons rfl r1
  have hl : (Value.ref a :: us).length = ps.length := r2.length.symm.trans (F1.len _ _ _ _ hq)
  have hb2 := hb _ (Value.ref a :: us) I2.kIn (by rw [List.append_nil]; exact hl)
  rw [List.append_nil] at hb2
  have hus : us.length ≤ sizeLine := by rw [← Paired.length r1]; exact Nat.le_of_lt (small1000 hz)
  have run := F1.run _ X.stack _ _ ⟨Value.ref a :: us, []⟩ (Value.ref a :: us) _ _ (fun _ _ _ => False) (hr.make C us []) (I2.env0.make C us []) hb2 r2 hq
  subst ea eh
  refine wpAny_call (PySem.HandSPX.call_own F.excBase_ValueError (fun Y => PySem.HandSPX.refsVE_contains Y bm hbm) (I1.kIn _ _ hC) (PySem.W.looks_findIn I1.kIn iC) (fun self => PySem.W.bind_fn I1.kIn self tI) hus (codeAny_mono run ?_))
  rintro r ⟨h2, g2, d2, t2, os'⟩ hq'
  match r, hq' with
  | .ok (.ret u), hq' =>
    obtain ⟨v, H2, os2, bare2, un2, hok2, rv, ev, d, fs, ea, ed, hd1, q2⟩ := hq'
    subst ev
    obtain ⟨t0, G, J, kG, ge, hoe, na⟩ := mk_end0 (d2 := d2) (t2 := t2) I1 hsz kk un2 hok2 os2 bare2 ea ed hd1
    exact ⟨rv, _, _, _, ⟨G, g2, d2, t2, os'⟩, _, .ref C, some d, rfl, J, kG, ge, hoe, ⟨rfl, rfl, fun vs e => by cases e; rfl⟩, rfl, rfl, na, rfl, bare2, raises_own T.exC T.tyC, q2⟩
theorem js_raise {ft : AF} {k c : Nat} {ns : List Str} (C : ErrC X.prog X.w X.K X.mg X.base cm k x c ns) (hc : X.calm = true) (hr : Room (k + 1) X.A) (hg : Gl X x) (ha : JA X cm (e :: es) ft) (hz : es.length < 900 := by decide) (hdb : (x == ("__debug__" : Str)) = false := by decide)
    (he : starEach (e :: es) X.env = (false, eval e X.env) :: starEach es X.env := by rfl) (hpl : (backTo pc (starEach es X.env)).any (·.1) = false := by rfl) : JS X cm (.Raise (some (.Call (.Name x p) (e :: es) [] pc)) none pos) (wRaise c ns ft) := by
  obtain ⟨f, fd, ps, T, iC, tI, F1, hm, hb⟩ := C.ex
  refine ⟨fun env D' σ H G hw rel D o => to_s (L2N.ps_raise hc (takes_exW X) (pmkN T iC tI F1 hr hb hg hm pa_w hdb he hpl)) ?_⟩
  obtain ⟨rs, ds, h1, h2, h3, h4⟩ := hw
  refine ha.run env rs σ H G h1 rel _ fun vs H1 G1 g1 vrs => ?_
  obtain ⟨hp, rfl⟩ := plain_some h2
  have hd := vrs.plain hp
  have hvl : vs.length = ns.length := by rw [hd.length, h3]
  refine ⟨?_, fun a na => ⟨a, vs, by rw [List.append_nil], hvl, upd_same, fun dx nd ne H' eH => ⟨rfl, dx, (ns.zip vs).reverse, ?_, ?_, ?_, ?_⟩⟩⟩
  · have e1 := vrs.length
    have e2 := ha.len env rs h1
    rw [List.length_cons] at e2
    omega
  · rw [eH, upd_same]
  · rw [eH, upd_ne ne, upd_same]
  · rw [upd_ne ne] at nd
    exact nd
  · rw [upd_ne ne] at nd
    have hH : upd (del H' a) dx (.xd (ns.zip vs).reverse) = upd H1 dx (.xd (ns.zip vs).reverse) := by
      funext b
      by_cases eb : b = dx
      · rw [eb, upd_same, upd_same]
      · rw [upd_ne eb, upd_ne eb]
        by_cases ea : b = a
        · rw [ea, del_same, na]
        · rw [del_ne ea, eH, upd_ne ea, upd_ne eb, upd_ne ea]
    rw [hH]
    have g2 := Grow.new (o := .xd (ns.zip vs).reverse) g1.sub nd
    exact o.er σ _ _ env c _ (some dx) (rel.grow (g1.trans g2)) (rel.fr (g1.trans g2)) (.inr ⟨dx, _, rfl, upd_same, (DenF.zip (hd.mono g2.gx)).reverse⟩) h4
end
end Pyl
end
section
set_option Elab.async false
set_option linter.all false
set_option maxRecDepth 100000
set_option maxHeartbeats 2000000
namespace Pyl
open PySem L2
/-! ### try: .. except C as e: .. -/
section
variable {X : Cx} {cm : Nat → Addr} {σ : L2.St} {H G : Hp} {env : Sl}
theorem Rel.unset {K : PySem.W.Frag} {i : Nat} (r : Rel K cm σ H G env) : Rel K cm (σ.set i none) H G (env.set i .non) := r.wipe [i]
theorem Fr.unset {i : Nat} (s : Exx G H) : Fr σ env H G (σ.set i none) (env.set i .non) H G where
  gx := .refl _
  hid := fun _ _ _ n _ => n
  keep := fun _ _ h _ => h
  there := fun _ o h => ⟨o, h⟩
  sub := s
  fresh := fun a o h n ⟨j, q⟩ => n ⟨j, Held.wipe (is := [i]) q⟩
  take := fun j hj => by
    rcases get_set hj with ⟨_, e, _⟩ | ⟨ne, hj⟩
    · cases e
    · exact ⟨hj, List.getElem?_set_ne ne⟩
theorem js_try {body suite : List Stmt} {b₀ : Stmt} {x n : Str} {cv : Value} {np pos pos' : Pos} {wb : WS} {ws : Nat → Nat → Option Nat → WS} (i : Nat) (cs : List Nat) (hs : X.stack = X.env :: X.outer) (hf : X.env.frame = some X.env.locals) (hN : X.N.Nodup) (hc : Names X x cv)
    (hcs : ∀ c ∈ cs, PySem.W.exmOne X.K (.ref (cm c)) cv = some true) (hb : ∀ (pn : List (Addr × Obj)) (xe : Value → Shared → Prop), PassesOwn (model X.prog X.w) X.A X.env xe → JSs (X.tr pn xe) cm body wb)
    (hsu : ∀ c ∈ cs, ∀ (a : Addr) (d : Option Addr) (oe : Obj) (pn : List (Addr × Obj)), L2N.Zn (.ref (cm c)) d oe → (∃ vs, oe.data = .fields vs) → JSs (X.suite a ((a, oe) :: pn)) cm (b₀ :: suite) (ws c a d))
    (hi : X.N[i]? = some n := by rfl) (hln : X.env.kindOf n = some .local := by rfl) : JS X cm (.Try body [.ExceptHandler (some (.Name x np)) (some n) (b₀ :: suite) pos'] [] [] pos) (wTry i cs wb ws) := by
  refine ⟨fun env D' σ H G hw rel D o => to_s (L2N.ps_try_as (tb := fun W D σ H => ∀ pn xe, L2N.Takes (X.tr pn xe) W → PassesOwn (model X.prog X.w) X.A X.env xe → wpSs (X.tr pn xe) body D σ H)
    (ts := fun a cls d D σ H => ∀ oe pn, L2N.Zn cls d oe → (∃ vs, oe.data = .fields vs) → wpSs (X.suite a ((a, oe) :: pn)) (b₀ :: suite) D σ H) hs hf hN hi hln hc (takes_exW X)
    (fun W pn xe tk ps => ⟨fun pins s σ H D I h => h pn xe tk ps pins s I⟩) (fun a oe cls d pn hz hd => ⟨fun pins s σ H D I h => h oe pn hz hd pins s I⟩)) ?_⟩
  intro pn xe tk ps
  refine (hb pn xe ps).run env _ σ H G hw rel D ⟨o.nx, o.rt, o.bk, o.ct, fun σ' H' G' env' c fs dd rel' fr' xd hD => exW_of tk ⟨true, hcs c hD.1, fun _ a na oe pn' hz hd => ?_, fun e => nomatch e⟩⟩
  have hden : Den X.K cm G' (.ref a) (.exn a dd fs) := by
    rcases xd with ⟨e1, e2⟩ | ⟨x, fv, e1, e2, e3⟩
    · subst e1 e2; exact .exn0
    · subst e1; exact .exn e2 e3
  have rel2 := rel'.setVal (i := i) hden
  have fr2 : Fr σ env H G (σ'.set i (some (.ref a))) (env'.set i (.val (.exn a dd fs))) H' G' := fr'.trans (.setVal rel'.sub)
  refine (hsu c hD.1 a dd oe pn' hz hd).run _ _ _ H' G' (hD.2 a dd) rel2 _ ⟨fun σ3 H3 G3 env3 r3 f3 q => ?_, fun v H3 G3 d f3 hv q => ?_, fun σ3 H3 G3 env3 r3 f3 q => ?_, fun σ3 H3 G3 env3 r3 f3 q => ?_, fun _ _ _ _ _ _ _ _ _ _ q => q.elim⟩
  · exact o.nx _ H3 G3 _ r3.unset ((fr2.trans f3).trans (.unset r3.sub)) q
  · exact o.rt v H3 G3 d (fr2.trH f3) hv q
  · exact o.bk _ H3 G3 _ r3.unset ((fr2.trans f3).trans (.unset r3.sub)) q
  · exact o.ct _ H3 G3 _ r3.unset ((fr2.trans f3).trans (.unset r3.sub)) q
theorem hot_suite {a : Addr} {oe : Obj} {pn : List (Addr × Obj)} {cls : Value} {d : Option Addr} (hz : L2N.Zn cls d oe) (hd : ∃ vs, oe.data = .fields vs) : L2H.HotC (X.suite a ((a, oe) :: pn)) := by
  obtain ⟨vs, hv⟩ := hd
  exact ⟨(a, oe), ⟨rfl, vs, hv, hz.2.2 vs hv⟩, List.mem_cons_self⟩
end
theorem _root_.L2H.RoomH.units {k : Nat} {A : Around} (r : L2H.RoomH k A) : A.units + 64 < cLine := by have := r.un; omega
/-! ### defs called in an except suite -/
section
variable {P : Program} {w : World} {K : PySem.W.Frag} {mg : Str → Option Value} {base : Heap} {cm : Nat → Addr}
abbrev cxHN (P : Program) (w : World) (K : PySem.W.Frag) (mg : Str → Option Value) (base : Heap) (N : List Str) (qual : Str) (st : Stmt) (f : Addr) (cdv : Value) (A : Around) (outer : List Env) (s : Shared) (H : Hp) (E : XK) (p : Addr × Obj) : Cx := (L2H.cxH CX0 P w K mg base N qual (defScope st) f cdv A outer s H E p).nox
theorem fnh_ok {x qual : Str} {st : Stmt} {f : Addr} {fd : FuncData} {N ps : List Str} {k : Nat} {F : FN} (Fu : Fun K x qual st f fd) (S : FnScope N ps (defScope st)) (hlen : ∀ ds r, F ds = some r → ds.length = ps.length) (wd : WS) (hk : Keeps N.length wd F)
    (hb : ∀ (cdv : Value) (A : Around) (outer : List Env) (s : Shared) (H : Hp) (E : XK) (p : Addr × Obj), L2H.RoomH k (A.deeper (PyProof.Rows.envOfC qual (defScope st) s.heap.objs.size f cdv)) → JSs (cxHN P w K mg base N qual st f cdv A outer s H E p) cm (defBody st) wd) :
    L2H.FnH P w K mg base CX0 (k + 1) f fd ps (spP K cm F) := by
  obtain ⟨oc, od, kV, doc, pm, an, cdv, ct, osl, hfd, lk, hcd⟩ := Fu.ex
  subst hfd
  refine L2H.fn_ofH lk hcd S (fun vs H Q E h => ?_) fun A outer s H vs Q E p hot hr h => ⟨_, PSs.nox pss_w, ?_⟩
  · obtain ⟨G, ds, r, _, h2, h3, _⟩ := h
    rw [h2.length]
    exact hlen ds r h3
  · obtain ⟨G, ds, r, h1, h2, h3, h4⟩ := h
    refine (hb cdv A outer s H E p hr).run (startE N.length ds) _ (start N vs) H G (hk ds r h3) (rel_start h1 h2) _ ⟨fun σ' H' G' env' rel fr e => ?_, fun v H' G' d fr den e => ?_, fun _ _ _ _ _ _ z => z.elim, fun _ _ _ _ _ _ z => z.elim, fun _ _ _ _ _ _ _ _ _ _ z => z.elim⟩
    · have e : r = .non := e
      subst e
      exact h4 _ H' G' fr.toFrH.grow Den.non
    · have e : d = r := e
      subst e
      exact h4 v H' G' fr.grow den
structure FnHC (P : Program) (w : World) (K : PySem.W.Frag) (mg : Str → Option Value) (base : Heap) (cm : Nat → Addr) (k : Nat) (x : Str) (F : FN) : Prop where
  ex : ∃ (f : Addr) (fd : FuncData) (ps : List Str), L2H.FnH P w K mg base CX0 k f fd ps (spP K cm F) ∧ mg x = some (.ref f) ∧ PySem.W.keepIn K (.ref f) = true ∧ Binds K fd ps []
variable {X : Cx} {e : Expr} {pos p : Pos} {x : Str}
theorem je_callH {es : List Expr} {ft : AF} {F : FN} {k : Nat} (C : FnHC X.prog X.w X.K X.mg X.base cm k x F) (hr : L2H.RoomH k X.A) (hc : L2H.HotC X) (hg : Gl X x) (ha : JA X cm (e :: es) ft) (hdb : (x == ("__debug__" : Str)) = false := by decide)
    (he : starEach (e :: es) X.env = (false, eval e X.env) :: starEach es X.env := by rfl) (hpl : (backTo pos (starEach es X.env)).any (·.1) = false := by rfl) : JE X cm (.Call (.Name x p) (e :: es) [] pos) (eCall F ft) := by
  refine ⟨fun env r σ H G hf rel Q q => ?_⟩
  obtain ⟨rs, h1, hf⟩ := Option.bind_eq_some_iff.mp hf
  obtain ⟨f, fd, ps, hF, hm, hkp, hb⟩ := C.ex
  refine to_e (L2H.pe_callH (E := fun _ _ _ _ => False) hF hr hc hg hm hkp hb (fun _ _ _ _ _ _ _ z => z.elim) pa_w hdb he hpl) (ha.run env rs σ H G h1 rel _ fun vs H1 G1 g1 vrs => ?_)
  exact call_end g1 vrs hf q
end
/-! ### a caught error looked at -/
section
variable {X : Cx} {cm : Nat → Addr} {e : Expr} {fe : EF} {a : Addr} {oe : Obj} {pn : List (Addr × Obj)} {c : Nat} {d : Option Addr} {pos p : Pos} {x : Str}
theorem je_xf {f : Str} (T : ExcK X.K (cm c)) (hno : NoAttr X.K (cm c) f) (hz : L2N.Zn (.ref (cm c)) d oe) (hd : ∃ vs, oe.data = .fields vs) (he : JE (X.suite a ((a, oe) :: pn)) cm e fe) (hb : attributeBase e f X.env (eval e X.env) = eval e X.env := by rfl) :
    JE (X.suite a ((a, oe) :: pn)) cm (.Attribute e f pos) (eXf a d f fe) := by
  refine ⟨fun env r σ H G hf rel Q q => to_e (pe_xf T.xf hno hz.zc hd pe_w hb) ?_⟩
  unfold eXf at hf
  split at hf
  · rename_i a' d' fs h1
    split at hf
    · rename_i hc
      obtain ⟨e1, e2⟩ := hc
      subst e1 e2
      obtain ⟨dt, h2, h3⟩ := Option.map_eq_some_iff.mp hf
      subst h3
      refine he.run env _ σ H G h1 rel _ fun v H1 G1 g1 rr => ?_
      cases (show Den X.K cm G1 v (.exn a' d' fs) from rr) with
      | exn0 => cases h2
      | exn ha hdn =>
        obtain ⟨y, hy, hden⟩ := hdn.lookup h2
        exact ⟨rfl, rfl, _, _, y, rfl, g1.sub _ _ ha, hy, q y H1 G1 g1 hden⟩
    · cases hf
  · cases hf
/-- the caught error, as isinstance wants it -/
theorem exc_at {pins : List (Addr × Obj)} {σ : L2.St} {H : Hp} {s : Shared} {D : Addr} (I : Inv (X.suite a ((a, oe) :: pn)) pins σ H s) (hz : L2N.Zn (.ref D) d oe) (hf : ∃ vs, oe.data = .fields vs) (hd : d = none ∨ ∃ dd fv, d = some dd ∧ H dd = some (.xd fv)) :
    ∃ od, PySem.W.InstAt s.heap a oe D od := by
  obtain ⟨hget, _⟩ := I.pin (a, oe) (List.mem_append.mpr (.inl List.mem_cons_self))
  obtain ⟨vs, hv⟩ := hf
  obtain ⟨h1, h2, _⟩ := hz
  rcases hd with e | ⟨dd, fv, e, hdd⟩
  · exact ⟨none, hget, h1, by unfold PySem.W.notCls; rw [hv] <;> rfl, by rw [h2, e]; trivial⟩
  · obtain ⟨mA, hns, _⟩ := (show ObjOk X.prog X.w H s.heap dd (.xd fv) from I.hok dd _ hdd)
    obtain ⟨od, _, _, ho, _⟩ := hns
    exact ⟨some od, hget, h1, by unfold PySem.W.notCls; rw [hv] <;> rfl, by rw [h2, e]; exact ho⟩
def rXis (K : PySem.W.Frag) (D a : Addr) (d : Option Addr) : List V → Hp → VK → Prop := fun xs H Q => ∃ (v : V) (cv : Value) (b : Bool), xs = [.ref a, v] ∧ ClsV v cv ∧ PySem.W.kitOne K (.ref D) cv = some b ∧ (d = none ∨ ∃ dd fv, d = some dd ∧ H dd = some (.xd fv)) ∧ Q (.bl b) H
def rXisT (K : PySem.W.Frag) (D a : Addr) (d : Option Addr) : List V → Hp → VK → Prop := fun xs H Q => ∃ (tp : Addr) (vs : List V) (us : List Value) (b : Bool), xs = [.ref a, .ref tp] ∧ H tp = some (.tup vs) ∧ PySem.Paired ClsV vs us ∧ PySem.W.kitAny K (.ref D) us = some b ∧
  (d = none ∨ ∃ dd fv, d = some dd ∧ H dd = some (.xd fv)) ∧ Q (.bl b) H
theorem cr_xis {D : Addr} (T : ExcK X.K D) (hz : L2N.Zn (.ref D) d oe) (hf : ∃ vs, oe.data = .fields vs) : CallR (X.suite a ((a, oe) :: pn)) (.builtin "isinstance") (rXis X.K D a d) := by
  rintro pins s σ H xs us Q I r ⟨v, cv, b, rfl, hcl, e, hd, q⟩
  obtain ⟨u1, u2, rfl, r1, r2⟩ := vals2 r
  have e2 := hcl.eq r2
  subst e2
  cases (show u1 = Value.ref a from r1)
  obtain ⟨od, J⟩ := exc_at I hz hf hd
  exact PySem.W.kia_one (PySem.W.kitx_exc T.cl T.xf.ga T.xf.gg T.xf.exC T.c1 T.c2 T.c3 T.c4) I.kIn J e (fun z => nomatch z) fun tk => ⟨.bl b, H, I.tok tk, rfl, q⟩
theorem cr_xisT {D : Addr} (T : ExcK X.K D) (hz : L2N.Zn (.ref D) d oe) (hf : ∃ vs, oe.data = .fields vs) : CallR (X.suite a ((a, oe) :: pn)) (.builtin "isinstance") (rXisT X.K D a d) := by
  rintro pins s σ H xs us Q I r ⟨tp, vs, ws, b, rfl, hT, hcl, e, hd, q⟩
  obtain ⟨u1, u2, rfl, r1, r2⟩ := vals2 r
  cases (show u2 = Value.ref tp from r2)
  cases (show u1 = Value.ref a from r1)
  obtain ⟨od, J⟩ := exc_at I hz hf hd
  obtain ⟨_, its, rv, o, g1, g2, n, g3⟩ := (show ObjOk X.prog X.w H s.heap tp (.tup vs) from I.hok tp _ hT)
  have e3 := ClsV.all hcl rv
  subst e3
  obtain ⟨oc, od', dt, sl⟩ := o
  simp only at g2 g3
  subst g2 g3
  exact PySem.W.kia_tup (PySem.W.kitx_exc T.cl T.xf.ga T.xf.gg T.xf.exC T.c1 T.c2 T.c3 T.c4) I.kIn J g1 e (fun z => nomatch z) fun tk => ⟨.bl b, H, I.tok tk, rfl, q⟩
/-- a class by its name -/
structure JCl (X : Cx) (e : Expr) (v : V) (u : Value) : Prop where
  pe : PE X e (tC v)
  cl : ClsV v u
theorem jcl_own {C : Addr} (hg : Gl X x) (hm : X.mg x = some (.ref C)) (hd : (x == ("__debug__" : Str)) = false := by decide) : JCl X (.Name x p) (.ref C) (.ref C) := ⟨pe_glob (v := .ref C) hg hm rfl hd, .own C⟩
theorem jcl_ty {T : String} (hg : Gl X x) (hm : X.mg x = none) (hv : bootBuiltins x = some (.type T)) (hn : x ≠ "__name__" := by decide) (hd : (x == ("__debug__" : Str)) = false := by decide) : JCl X (.Name x p) (.ty T) (.type T) := ⟨pe_bltn (v := .ty T) hg hm hv rfl hn hd, .ty T⟩
structure JCls (X : Cx) (es : List Expr) (vs : List V) (us : List Value) : Prop where
  pa : PA X es (fun _ H Q => Q vs H)
  cl : PySem.Paired ClsV vs us
  len : vs.length = es.length
theorem jcls_nil : JCls X [] [] [] := ⟨⟨fun pos pins s σ H Q I h => pa_nil.run pos pins s σ H Q I h⟩, .nil, rfl⟩
theorem jcls_cons {es : List Expr} {v : V} {u : Value} {vs : List V} {us : List Value} (h : JCl X e v u) (t : JCls X es vs us) (hs : starEach (e :: es) X.env = (false, eval e X.env) :: starEach es X.env := by rfl) : JCls X (e :: es) (v :: vs) (u :: us) :=
  ⟨⟨fun pos pins s σ H Q I hq => (pa_cons h.pe t.pa hs).run pos pins s σ H Q I hq⟩, .cons h.cl t.cl, by rw [List.length_cons, List.length_cons, t.len]⟩
theorem xd_of {K : PySem.W.Frag} {G H : Hp} {v : V} {a' : Addr} {d' : Option Addr} {fs : List (Str × Dt)} (h : Den K cm G v (.exn a' d' fs)) (s : Exx G H) : v = .ref a' ∧ (d' = none ∨ ∃ dd fv, d' = some dd ∧ H dd = some (.xd fv)) := by
  cases h with
  | exn0 => exact ⟨rfl, .inl rfl⟩
  | exn ha _ => exact ⟨rfl, .inr ⟨_, _, rfl, s _ _ ha⟩⟩
theorem je_xis {ce : Expr} {v : V} {u : Value} {b : Bool} (T : ExcK X.K (cm c)) (hz : L2N.Zn (.ref (cm c)) d oe) (hf : ∃ vs, oe.data = .fields vs) (jc : JCl (X.suite a ((a, oe) :: pn)) ce v u) (hk : PySem.W.kitOne X.K (.ref (cm c)) u = some b)
    (hg : Gl X "isinstance") (hm : X.mg "isinstance" = none) (he : JE (X.suite a ((a, oe) :: pn)) cm e fe) (h0 : starEach [ce] X.env = (false, eval ce X.env) :: starEach [] X.env := by rfl) (hst : starEach [e, ce] X.env = (false, eval e X.env) :: starEach [ce] X.env := by rfl)
    (hpl : (backTo pos (starEach [ce] X.env)).any (·.1) = false := by rfl) : JE (X.suite a ((a, oe) :: pn)) cm (.Call (.Name "isinstance" p) [e, ce] [] pos) (eXis a d b fe) := by
  refine ⟨fun env r σ H G hr rel Q q => ?_⟩
  unfold eXis at hr
  split at hr
  case h_2 => cases hr
  rename_i a' d' fs h1
  split at hr
  case isFalse => cases hr
  rename_i hc
  obtain ⟨e1, e2⟩ := hc
  cases hr
  subst e1 e2
  refine to_e (pe_callB (cr_xis T hz hf) hg hm (by decide +kernel) (pa_cons pe_w (pa_cons jc.pe pa_nil h0) hst) (by decide) (by decide) hst hpl) (he.run env _ σ H G h1 rel _ fun y H1 G1 g1 rr => ?_)
  obtain ⟨rfl, hd⟩ := xd_of (show Den X.K cm G1 y _ from rr) g1.sub
  exact ⟨v, u, b, rfl, jc.cl, hk, hd, q _ _ _ g1 (Den.bl b)⟩
theorem je_xisT {es : List Expr} {k : Nat} {pt : Pos} {vs : List V} {us : List Value} {b : Bool} (T : ExcK X.K (cm c)) (hz : L2N.Zn (.ref (cm c)) d oe) (hf : ∃ vs, oe.data = .fields vs) (jc : JCls (X.suite a ((a, oe) :: pn)) es vs us) (hk : PySem.W.kitAny X.K (.ref (cm c)) us = some b)
    (hg : Gl X "isinstance") (hm : X.mg "isinstance" = none) (he : JE (X.suite a ((a, oe) :: pn)) cm e fe) (hzz : es.length ≤ 100000 := by decide) (h0 : starEach [.Tuple es k pt] X.env = (false, eval (.Tuple es k pt) X.env) :: starEach [] X.env := by rfl) (hst : starEach [e, .Tuple es k pt] X.env = (false, eval e X.env) :: starEach [.Tuple es k pt] X.env := by rfl)
    (hpl : (backTo pos (starEach [.Tuple es k pt] X.env)).any (·.1) = false := by rfl) : JE (X.suite a ((a, oe) :: pn)) cm (.Call (.Name "isinstance" p) [e, .Tuple es k pt] [] pos) (eXis a d b fe) := by
  refine ⟨fun env r σ H G hr rel Q q => ?_⟩
  unfold eXis at hr
  split at hr
  case h_2 => cases hr
  rename_i a' d' fs h1
  split at hr
  case isFalse => cases hr
  rename_i hc
  obtain ⟨e1, e2⟩ := hc
  cases hr
  subst e1 e2
  refine to_e (pe_callB (cr_xisT T hz hf) hg hm (by decide +kernel) (pa_cons pe_w (pa_cons (pe_tup jc.pa) pa_nil h0) hst) (by decide) (by decide) hst hpl) (he.run env _ σ H G h1 rel _ fun y H1 G1 g1 rr => ?_)
  obtain ⟨rfl, hd⟩ := xd_of (show Den X.K cm G1 y _ from rr) g1.sub
  refine ⟨by rw [jc.len]; exact Nat.le_trans hzz (by decide), fun tp hp => ?_⟩
  have g2 := Grow.new (o := .tup vs) g1.sub hp
  refine ⟨tp, vs, us, b, rfl, upd_same, jc.cl, hk, ?_, q _ _ _ (g1.trans g2) (Den.bl b)⟩
  rcases hd with e | ⟨dd, fv, e1, e2⟩
  · exact .inl e
  · exact .inr ⟨dd, fv, e1, g2.hx _ _ e2⟩
end
end Pyl
end
section
set_option Elab.async false
set_option linter.all false
set_option maxRecDepth 100000
set_option maxHeartbeats 2000000
namespace Pyl
open PySem L2
/-! ### what gen.py's texts lean on -/
inductive Inits (X : Cx) (C : Addr) : Nat → List Str → List Stmt → Prop
  | nil {j : Nat} : Inits X C j [] []
  | cons {j : Nat} {g : Str} {b : Stmt} {gs : List Str} {bs : List Stmt} (h : PS X b (sFld X.K (tVar 0) (tVar j) g)) (n : NoAttr X.K C g) (t : Inits X C (j + 1) gs bs) : Inits X C j (g :: gs) (b :: bs)
theorem Inits.at {X : Cx} {C : Addr} : ∀ {j : Nat} {gs : List Str} {bs : List Stmt}, Inits X C j gs bs → bs.length = gs.length ∧ ∀ (i : Nat) (g : Str) (b : Stmt), gs[i]? = some g → bs[i]? = some b → PS X b (sFld X.K (tVar 0) (tVar (j + i)) g) ∧ NoAttr X.K C g
  | _, _, _, .nil => ⟨rfl, fun i g b e => by simp at e⟩
  | j, _, _, .cons h n t => by
    obtain ⟨h1, h2⟩ := Inits.at t
    refine ⟨by rw [List.length_cons, List.length_cons, h1], fun i g b e1 e2 => ?_⟩
    cases i with
    | zero => cases e1; cases e2; exact ⟨h, n⟩
    | succ i =>
      have := h2 i g b (by simpa using e1) (by simpa using e2)
      rw [show j + (i + 1) = j + 1 + i by omega]
      exact this
inductive EInits (X : Cx) (C : Addr) : Nat → List Str → List Stmt → Prop
  | nil {j : Nat} : EInits X C j [] []
  | cons {j : Nat} {g : Str} {b : Stmt} {gs : List Str} {bs : List Stmt} (h : PS X b (tOst X.K g (tVar 0) (tVar j))) (n : NoAttr X.K C g) (t : EInits X C (j + 1) gs bs) : EInits X C j (g :: gs) (b :: bs)
theorem EInits.at {X : Cx} {C : Addr} : ∀ {j : Nat} {gs : List Str} {bs : List Stmt}, EInits X C j gs bs → bs.length = gs.length ∧ ∀ (i : Nat) (g : Str) (b : Stmt), gs[i]? = some g → bs[i]? = some b → PS X b (tOst X.K g (tVar 0) (tVar (j + i))) ∧ NoAttr X.K C g
  | _, _, _, .nil => ⟨rfl, fun i g b e => by simp at e⟩
  | j, _, _, .cons h n t => by
    obtain ⟨h1, h2⟩ := EInits.at t
    refine ⟨by rw [List.length_cons, List.length_cons, h1], fun i g b e1 e2 => ?_⟩
    cases i with
    | zero => cases e1; cases e2; exact ⟨h, n⟩
    | succ i =>
      have := h2 i g b (by simpa using e1) (by simpa using e2)
      rw [show j + (i + 1) = j + 1 + i by omega]
      exact this
section
variable {P : Program} {w : World} {K : PySem.W.Frag} {mg : Str → Option Value} {base : Heap} {cm : Nat → Addr}
theorem init_ok' {x qual : Str} {st : Stmt} {f : Addr} {fd : FuncData} {N ps : List Str} {k : Nat} {C : Addr} (Fu : Fun K x qual st f fd) (S : FnScope N ps (defScope st)) (ns : List Str) (c : Cls K C) (hn : ns.Nodup) (hl : ps.length = ns.length + 1) (hs : ns.length < 1000)
    (hb : ∀ (cdv : Value) (A : Around) (outer : List Env) (s : Shared) (H : Hp) (E : XK), Inits (cxN P w K mg base N qual st f cdv A outer s H E) C 1 ns (defBody st)) : FnOk P w K mg base CX0 (k + 1) f fd ps (spI C ns) :=
  init_ok Fu S ns c hn hl hs fun cdv A outer s H E => by
    obtain ⟨h1, h2⟩ := (hb cdv A outer s H E).at
    exact ⟨h1, fun j g b e1 e2 => by rw [Nat.add_comm]; exact h2 j g b e1 e2⟩
theorem einit_ok' {x qual : Str} {st : Stmt} {f : Addr} {fd : FuncData} {N ps : List Str} {k : Nat} {C : Addr} (Fu : Fun K x qual st f fd) (S : FnScope N ps (defScope st)) (n : Str) (ns : List Str) (T : OexC K C) (hl : ps.length = ns.length + 2) (hs : ns.length < 800)
    (hb : ∀ (cdv : Value) (A : Around) (outer : List Env) (s : Shared) (H : Hp) (E : XK), EInits (cxN P w K mg base N qual st f cdv A outer s H E) C 1 (n :: ns) (defBody st)) : FnOk P w K mg base CX0 (k + 1) f fd ps (spE C (n :: ns)) :=
  einit_ok Fu S n ns T hl hs fun cdv A outer s H E => by
    obtain ⟨h1, h2⟩ := (hb cdv A outer s H E).at
    exact ⟨h1, fun j g b e1 e2 => by rw [Nat.add_comm]; exact h2 j g b e1 e2⟩
/-- no built-in's instance is one of this class -/
def tyB (K : PySem.W.Frag) (C : Addr) : Bool := (["NoneType", "bool", "int", "str", "list", "tuple"] : List String).all fun t => decide (PySem.W.kitOne K (.type t) (.ref C) = some false)
theorem tyB_ok {C : Addr} (h : tyB K C = true) : ∀ t ∈ (["NoneType", "bool", "int", "str", "list", "tuple"] : List String), PySem.W.kitOne K (.type t) (.ref C) = some false := fun t ht => of_decide_eq_true (List.all_eq_true.mp h t ht)
theorem den_ints {G : Hp} : ∀ {vs : List V} {ds : List Dt} {ns : List Int}, DenL K cm G vs ds → intsOf ds = some ns → ds = ns.map .int ∧ vs = ns.map V.int
  | _, _, _, .nil, e => by cases e; exact ⟨rfl, rfl⟩
  | _, _, ns, .cons (d := d) h t, e => by
    cases d with
    | int i =>
      unfold intsOf at e
      obtain ⟨ms, h1, h2⟩ := Option.map_eq_some_iff.mp e
      subst h2
      obtain ⟨e1, e2⟩ := den_ints t h1
      cases h
      rw [e1, e2]
      exact ⟨rfl, rfl⟩
    | _ => simp [intsOf] at e
theorem law_imp {cm cm' : Nat → Addr} {F : FN} (hF : ∀ ds r, F ds = some r → ∃ xs ns b, ds = [.lst xs] ∧ intsOf xs = some ns ∧ r = .bl b) {vs : List V} {H : Hp} {Q : VK} {E : XK} (h : spP K cm' F vs H Q E) : spP K cm F vs H Q E := by
  obtain ⟨G, ds, r, h1, h2, h3, h4⟩ := h
  obtain ⟨xs, ns, b, rfl, h5, rfl⟩ := hF ds r h3
  refine ⟨G, _, _, h1, ?_, h3, fun v H' G' g hd => h4 v H' G' g (by cases hd; exact .bl _)⟩
  cases h2 with
  | cons q t =>
    cases t
    cases q with
    | lst s1 n1 =>
      obtain ⟨e1, e2⟩ := den_ints n1 h5
      rw [e1]
      rw [e2] at s1
      exact .cons (.lst s1 (denL_ints ns)) .nil
end
end Pyl
end
section
set_option Elab.async false
set_option linter.all false
set_option maxRecDepth 100000
set_option maxHeartbeats 2000000
namespace Pyl
open PySem L2
/-! ### methods, properties, operators of own classes -/
section
variable {P : Program} {w : World} {K : PySem.W.Frag} {mg : Str → Option Value} {base : Heap} {cm : Nat → Addr}
/-- of every class in the table -/
def MsC (Q : Nat → FN → Prop) (ms : MT) : Prop := ∀ c F, ms.lookup c = some F → Q c F
theorem msc_nil {Q : Nat → FN → Prop} : MsC Q [] := fun c F h => by cases h
theorem msc_cons {Q : Nat → FN → Prop} {c : Nat} {F : FN} {ms : MT} (h : Q c F) (t : MsC Q ms) : MsC Q ((c, F) :: ms) := fun c' F' e => by
  rw [List.lookup_cons] at e
  by_cases q : c' = c
  · subst q
    rw [beq_self_eq_true] at e
    cases e
    exact h
  · have : (c' == c) = false := by simpa using q
    rw [this] at e
    exact t c' F' e
/-- the method m of the class number c keeps F (self first) -/
structure MethC (P : Program) (w : World) (K : PySem.W.Frag) (mg : Str → Option Value) (base : Heap) (cm : Nat → Addr) (k : Nat) (m : Str) (c : Nat) (F : FN) : Prop where
  ex : ∃ (f : Addr) (fd : FuncData) (ps : List Str), Cls K (cm c) ∧ Meth K (cm c) m f ∧ FnOk P w K mg base CX0 k f fd ps (spP K cm F) ∧ Binds K fd ps []
theorem MethC.mono {j k : Nat} {m : Str} {c : Nat} {F : FN} (h : MethC P w K mg base cm j m c F) (l : j ≤ k) : MethC P w K mg base cm k m c F := by
  obtain ⟨f, fd, ps, h1, h2, h3, h4⟩ := h.ex
  exact ⟨f, fd, ps, h1, h2, h3.mono l, h4⟩
structure PropC (P : Program) (w : World) (K : PySem.W.Frag) (mg : Str → Option Value) (base : Heap) (cm : Nat → Addr) (k : Nat) (m : Str) (c : Nat) (F : FN) : Prop where
  ex : ∃ (p g : Addr) (fd : FuncData) (ps : List Str), Cls K (cm c) ∧ PropOf K (cm c) m p g ∧ FnOk P w K mg base CX0 k g fd ps (spP K cm F) ∧ Binds K fd ps []
theorem PropC.mono {j k : Nat} {m : Str} {c : Nat} {F : FN} (h : PropC P w K mg base cm j m c F) (l : j ≤ k) : PropC P w K mg base cm k m c F := by
  obtain ⟨p, f, fd, ps, h1, h2, h3, h4⟩ := h.ex
  exact ⟨p, f, fd, ps, h1, h2, h3.mono l, h4⟩
/-- a special method -/
structure SpecC (P : Program) (w : World) (K : PySem.W.Frag) (mg : Str → Option Value) (base : Heap) (cm : Nat → Addr) (k : Nat) (m : Str) (c : Nat) (F : FN) : Prop where
  ex : ∃ (f : Addr) (fd : FuncData) (ps : List Str), Cls K (cm c) ∧ PySem.W.findIn K (.ref (cm c)) m = some (some (.ref f)) ∧ PySem.W.isFn K (.ref f) = true ∧ PySem.W.fnIn K f = true ∧ FnOk P w K mg base CX0 k f fd ps (spP K cm F) ∧ Binds K fd ps []
theorem SpecC.mono {j k : Nat} {m : Str} {c : Nat} {F : FN} (h : SpecC P w K mg base cm j m c F) (l : j ≤ k) : SpecC P w K mg base cm k m c F := by
  obtain ⟨f, fd, ps, h1, h2, h3, h4, h5, h6⟩ := h.ex
  exact ⟨f, fd, ps, h1, h2, h3, h4, h5.mono l, h6⟩
theorem DenF.none {G : Hp} {f : Str} : ∀ {fv : List (Str × V)} {fs : List (Str × Dt)}, DenF K cm G fv fs → fs.lookup f = none → fv.lookup f = none
  | _, _, .nil, _ => rfl
  | _, _, .cons (x := x) h t, e => by
    rw [List.lookup_cons] at e ⊢
    cases q : f == x with
    | true =>
      rw [q] at e
      cases e
    | false =>
      rw [q] at e
      exact DenF.none t e
end
section
variable {X : Cx} {cm : Nat → Addr} {e o : Expr} {es : List Expr} {fe fa fb : EF} {ft : AF} {pos p apos : Pos} {m : Str} {ms : MT} {k : Nat}
/-- a call's end: its arguments may be borrowed -/
theorem meth_end {F : FN} {vs : List V} {rs : List (Dt × Bool)} {r : R} {H G H1 G1 : Hp} {E : XK} (g1 : Grow H G H1 G1) (vrs : VRs X.K cm H1 G1 vs rs) (hf : ((F (rs.map (·.1))).bind fun d => if rs.any (·.2) && !d.scalar then none else some (R.vis d)) = some r) {Q : VK}
    (q : ∀ v H' G', Grow H G H' G' → RR X.K cm H H' G' v r → Q v H') : spP X.K cm F vs H1 Q E := by
  obtain ⟨d, h2, hf⟩ := Option.bind_eq_some_iff.mp hf
  by_cases hs : rs.any (·.2) = true
  · split at hf
    · cases hf
    · rename_i hn
      cases hf
      have sc : d.scalar = true := by
        cases hd : d.scalar with
        | true => rfl
        | false => exact absurd (by rw [hs, hd]; rfl) hn
      refine ⟨H1, _, d, .refl _, vrs.denH g1.sub, h2, fun v H' G' g hden => ?_⟩
      exact q v H' G1 (g1.trans ⟨g.hx, .refl _, fun _ _ _ n => n, g1.sub.trans g.hx⟩) (Dt.scalar_den hden sc)
  · have hs' : rs.any (·.2) = false := by simpa using hs
    split at hf
    · rename_i hn
      rw [hs'] at hn
      cases hn
    · cases hf
      exact ⟨G1, _, d, g1.sub, vrs.plain hs', h2, fun v H' G' g hden => q v H' G' (g1.trans g) hden⟩
/-- self ahead of the arguments -/
theorem call_endS {F : FN} {vs : List V} {rs : List (Dt × Bool)} {r : R} {H G H1 G1 : Hp} {E : XK} {v0 : V} {d0 : Dt} (g1 : Grow H G H1 G1) (h0 : Den X.K cm G1 v0 d0) (vrs : VRs X.K cm H1 G1 vs rs)
    (hf : ((F (d0 :: rs.map (·.1))).bind fun d => if rs.any (·.2) && !d.scalar then none else some (R.vis d)) = some r) {Q : VK}
    (q : ∀ v H' G', Grow H G H' G' → RR X.K cm H H' G' v r → Q v H') : spP X.K cm F (v0 :: vs) H1 Q E := by
  refine meth_end (rs := (d0, false) :: rs) (r := r) g1 (.cons (.vis h0) vrs) ?_ q
  rw [List.map_cons, List.any_cons, Bool.false_or]
  exact hf
theorem je_meth {pl : Sem Bool} (hms : MsC (MethC X.prog X.w X.K X.mg X.base cm k m) ms) (hr : Room k X.A) (ho : JE X cm o fe) (ha : JA X cm (e :: es) ft)
    (hst : starEach (e :: es) X.env = (false, eval e X.env) :: starEach es X.env := by rfl) (hpl : (backTo pos (starEach es X.env)).any (·.1) = false := by rfl)
    (ht : eval (.Call (.Attribute o m apos) (e :: es) [] pos) X.env = (do
      let ov ← eval o X.env
      standAt apos.atName
      let (f, first) ← holding [ov] (getMethod ov m pl)
      callWith pos f first (backTo pos (starEach (e :: es) X.env)) (backToKw pos (keywordEach [] X.env))) := by rfl) : JE X cm (.Call (.Attribute o m apos) (e :: es) [] pos) (eMeth ms m fe ft) := by
  refine ⟨fun env r σ H G hf rel Q q => ?_⟩
  unfold eMeth at hf
  split at hf
  case h_2 => cases hf
  rename_i c fs h1
  obtain ⟨F, h2, hf⟩ := Option.bind_eq_some_iff.mp hf
  split at hf
  case isFalse => cases hf
  rename_i hn
  obtain ⟨rs, h3, hf⟩ := Option.bind_eq_some_iff.mp hf
  obtain ⟨f, fd, ps, hc, hm, hF, hb⟩ := (hms c F h2).ex
  refine to_e (pe_meth pe_w hc hm hF hr hb .nil pass0 pa_w hst hpl ht) (ho.run env _ σ H G h1 rel _ fun v H1 G1 g1 rr => ?_)
  have rr : Den X.K cm G1 v (.obj c fs) := rr
  cases rr with
  | obj hat hd =>
    refine ⟨_, _, _, rfl, g1.sub _ _ hat, hd.none hn, ha.run env rs σ H1 G1 h3 (rel.grow g1) _ fun vs H2 G2 g2 vrs => ?_⟩
    rw [List.append_nil]
    exact call_endS (E := E0) (g1.trans g2) ((Den.obj hat hd).mono g2.gx) vrs hf q
theorem je_meth0 {pl : Sem Bool} (hms : MsC (MethC X.prog X.w X.K X.mg X.base cm k m) ms) (hr : Room k X.A) (ho : JE X cm o fe)
    (ht : eval (.Call (.Attribute o m apos) [] [] pos) X.env = (do
      let ov ← eval o X.env
      standAt apos.atName
      let (f, first) ← holding [ov] (getMethod ov m pl)
      callWith pos f first (backTo pos (starEach [] X.env)) (backToKw pos (keywordEach [] X.env))) := by rfl) : JE X cm (.Call (.Attribute o m apos) [] [] pos) (eMeth ms m fe aNil) := by
  refine ⟨fun env r σ H G hf rel Q q => ?_⟩
  unfold eMeth at hf
  split at hf
  case h_2 => cases hf
  rename_i c fs h1
  obtain ⟨F, h2, hf⟩ := Option.bind_eq_some_iff.mp hf
  split at hf
  case isFalse => cases hf
  rename_i hn
  obtain ⟨rs, h3, hf⟩ := Option.bind_eq_some_iff.mp hf
  cases h3
  obtain ⟨f, fd, ps, hc, hm, hF, hb⟩ := (hms c F h2).ex
  refine to_e (pe_meth0 pe_w hc hm hF hr hb .nil pass0 ht) (ho.run env _ σ H G h1 rel _ fun v H1 G1 g1 rr => ?_)
  have rr : Den X.K cm G1 v (.obj c fs) := rr
  cases rr with
  | obj hat hd => exact ⟨_, _, _, rfl, g1.sub _ _ hat, hd.none hn, call_endS (E := E0) (rs := []) g1 (Den.obj hat hd) .nil hf q⟩
theorem je_callO (hms : MsC (SpecC X.prog X.w X.K X.mg X.base cm k "__call__") ms) (hr : Room k X.A) (ho : JE X cm o fe) (ha : JA X cm (e :: es) ft)
    (ht : eval (.Call o (e :: es) [] pos) X.env = (do callWith pos (← eval o X.env) [] (backTo pos (starEach (e :: es) X.env)) (backToKw pos (keywordEach [] X.env))) := by rfl)
    (he : starEach (e :: es) X.env = (false, eval e X.env) :: starEach es X.env := by rfl) (hpl : (backTo pos (starEach es X.env)).any (·.1) = false := by rfl) : JE X cm (.Call o (e :: es) [] pos) (eCallO ms fe ft) := by
  refine ⟨fun env r σ H G hf rel Q q => ?_⟩
  unfold eCallO at hf
  split at hf
  case h_2 => cases hf
  rename_i c fs h1
  obtain ⟨F, h2, hf⟩ := Option.bind_eq_some_iff.mp hf
  obtain ⟨rs, h3, hf⟩ := Option.bind_eq_some_iff.mp hf
  obtain ⟨f, fd, ps, hc, hs1, hs2, hs3, hF, hb⟩ := (hms c F h2).ex
  refine to_e (StX.pe_callO pe_w ⟨hs1, hs2, hs3⟩ (hF.raw hb .nil) hr pass0 pa_w ht he hpl) (ho.run env _ σ H G h1 rel _ fun v H1 G1 g1 rr => ?_)
  have rr : Den X.K cm G1 v (.obj c fs) := rr
  cases rr with
  | obj hat hd =>
    refine ⟨_, rfl, ha.run env rs σ H1 G1 h3 (rel.grow g1) _ fun vs H2 G2 g2 vrs => ⟨.inr ⟨_, _, g2.sub _ _ (g2.gx _ _ hat)⟩, ?_⟩⟩
    show spP X.K cm F ((_ :: vs) ++ []) H2 Q E0
    rw [List.append_nil]
    exact call_endS (E := E0) (g1.trans g2) ((Den.obj hat hd).mono g2.gx) vrs hf q
theorem je_att {cs : List Nat} {f : Str} (hcs : ∀ c ∈ cs, Cls X.K (cm c) ∧ NoAttr X.K (cm c) f) (hms : MsC (PropC X.prog X.w X.K X.mg X.base cm k f) ms) (hr : Room (k + 1) X.A) (he : JE X cm e fe)
    (hb : attributeBase e f X.env (eval e X.env) = eval e X.env := by rfl) : JE X cm (.Attribute e f pos) (eAtt cs ms f fe) := by
  refine ⟨fun env r σ H G hf rel Q q => ?_⟩
  unfold eAtt at hf
  split at hf
  case h_2 => cases hf
  rename_i c fs h1
  split at hf
  · rename_i F h2
    obtain ⟨d, h3, rfl⟩ := Option.map_eq_some_iff.mp hf
    obtain ⟨p, g, fd, ps, hc, hp, hF, hbb⟩ := (hms c F h2).ex
    refine to_e (pe_prop pe_w hc hp hF hr hbb .nil pass0 hb) (he.run env _ σ H G h1 rel _ fun v H1 G1 g1 rr => ?_)
    have rr : Den X.K cm G1 v (.obj c fs) := rr
    cases rr with
    | obj hat hd => exact ⟨_, _, _, rfl, g1.sub _ _ hat, call_endS (E := E0) (rs := []) (r := .vis d) g1 (Den.obj hat hd) .nil (by rw [List.map_nil, h3]; rfl) q⟩
  · split at hf
    · rename_i hc
      obtain ⟨d, h2, h3⟩ := Option.map_eq_some_iff.mp hf
      subst h3
      refine to_e (pe_fld pe_w hb) (he.run env _ σ H G h1 rel _ fun v H1 G1 g1 rr => ?_)
      cases (show Den X.K cm G1 v (.obj c fs) from rr) with
      | obj hat hd =>
        obtain ⟨y, hy, hden⟩ := hd.lookup h2
        exact ⟨_, _, _, _, y, rfl, g1.sub _ _ hat, (hcs c hc).1, (hcs c hc).2, hy, q y H1 G1 g1 hden⟩
    · cases hf
end
end Pyl
end
section
set_option Elab.async false
set_option linter.all false
set_option maxRecDepth 100000
set_option maxHeartbeats 2000000
namespace Pyl
open PySem L2
section
variable {prog : Program} {w : World} {A : Around} {E : Value → Shared → Prop} {s : Shared} {K : PySem.W.Frag} {x C f : Addr} {ox : Obj} {od : Option Obj}
theorem special_fn {name : Str} {args : List Value} {Q : Option Value → Shared → Prop} (X : K.In s.heap) (I : PySem.W.InstAt s.heap x ox C od) (hs : PySem.W.findIn K (.ref C) name = some (some (.ref f))) (hf : PySem.W.isFn K (.ref f) = true)
    (h : wpAny (model prog w) A (call (.ref f) (.ref x :: args)) (fun v => Q (some v)) E s) : wpAny (model prog w) A (callSpecial? (.ref x) name args) Q E s := by
  unfold callSpecial? specialOf
  refine wpAny_bind (wpAny_bind (I.type.here ((PySem.W.looks_findIn X hs).here ?_)))
  refine wpAny_holding (wpAny_bind ((PySem.W.bind_fn X _ (beq_iff_eq.mp hf)).here ?_))
  exact wpAny_bind (wpAny_mono h (fun v s' h' => wpAny_pure h') fun _ _ h' => h')
end
section
variable {X : Cx} {cm : Nat → Addr} {e a b : Expr} {fe fa fb : EF} {pos : Pos} {ms : MT} {k : Nat}
theorem p2_is : P2 X cm (compareOp .Is) pIs := by
  intro d1 d2 b1 b2 out v1 v2 H G r1 r2 sub hp
  unfold pIs at hp
  split at hp
  case h_2 => cases hp
  rename_i p q
  cases hp
  have e1 := r1.bl
  have e2 := r2.bl
  subst e1 e2
  exact ⟨rIsB, op_isBl, fun Q q' => ⟨p, q, rfl, rfl, q' _ H G (.refl sub) (Den.bl _)⟩⟩
theorem VR.obj {K : PySem.W.Frag} {H G : Hp} {v : V} {c : Nat} {fs : List (Str × Dt)} {b : Bool} (h : VR K cm H G v (.obj c fs) b) : ∃ (a dx : Addr) (fv : List (Str × V)), v = .ref a ∧ G a = some (.ins (cm c) dx fv) ∧ Den K cm G v (.obj c fs) := by
  cases b with
  | true =>
    obtain ⟨l, vs, ds', h1, h2, h3, h4⟩ := h.1 rfl
    cases h2
  | false =>
    have q := h.2 rfl
    cases q with
    | obj hat hd => exact ⟨_, _, _, rfl, hat, .obj hat hd⟩
theorem relV_ni {v : V} (h : RelV v .notImplemented) : False := by
  cases v <;> first
    | cases (show Value.notImplemented = _ from h)
    | (obtain ⟨t, h⟩ := (show ∃ t, Value.notImplemented = _ from h); cases h)
theorem p2_eqO (hms : MsC (SpecC X.prog X.w X.K X.mg X.base cm k "__eq__") ms) (hr : Room k X.A) (hu : X.A.units + 64 < cLine) : P2 X cm (compareOp .Eq) (pEqO ms) := by
  intro d1 d2 b1 b2 out v1 v2 H G r1 r2 sub hp
  unfold pEqO at hp
  split at hp
  · rename_i c fs c' gs
    split at hp
    case isFalse => cases hp
    rename_i hc
    subst hc
    obtain ⟨F, h2, hp⟩ := Option.bind_eq_some_iff.mp hp
    obtain ⟨d, h3, hp⟩ := Option.map_eq_some_iff.mp hp
    subst hp
    obtain ⟨a, dx, fv, rfl, ha, da⟩ := r1.obj
    obtain ⟨b, dy, gv, rfl, hb, db⟩ := r2.obj
    obtain ⟨f, fd, ps, hcl, hs1, hs2, hs3, hF, hbb⟩ := (hms c' F h2).ex
    refine ⟨fun x y H0 Q => x = .ref a ∧ y = .ref b ∧ H0 a = some (.ins (cm c') dx fv) ∧ H0 b = some (.ins (cm c') dy gv) ∧ spP X.K cm F ([.ref a, .ref b] ++ []) H0 Q E0, ?_, fun Q q => ⟨rfl, rfl, sub _ _ ha, sub _ _ hb, ?_⟩⟩
    · intro pins s σ H0 x y v u Q I rx ry ⟨e1, e2, ha, hb, hsp⟩
      subst e1 e2
      cases rx
      cases ry
      obtain ⟨mA, J, _⟩ := ins_get I.hok ha
      obtain ⟨mB, J', _⟩ := ins_get I.hok hb
      obtain ⟨od, J, _⟩ := J.look
      obtain ⟨od', J', _⟩ := J'.look
      obtain ⟨m, hFr⟩ := I.fr
      show wpAny (model X.prog X.w) X.A (richCompare .Eq _ _) (EP X pins σ Q) X.xe s
      refine PySem.W.cmp_K (op := .Eq) (tb := .ref (cm c')) (by omega) hFr I.ok.mod.kin J J'.type (by simp [PySem.W.notFirst]) hs1 hs2 ?_
      refine thn (run_fn (us := [.ref a, .ref b]) (vs := [.ref a, .ref b]) hF hr hbb .nil pass0 I (.cons rfl (.cons rfl .nil)) hsp) fun v s' h => ?_
      unfold PySem.W.CmpBack
      split
      · obtain ⟨z, _, _, rz, _⟩ := h
        exact relV_ni rz
      · exact h
    · exact ⟨G, [.obj c' fs, .obj c' gs], d, sub, .cons da (.cons db .nil), h3, fun v H' G' g den => q v H' G' g den⟩
  · exact p2_eq hu d1 d2 b1 b2 out v1 v2 H G r1 r2 sub hp
theorem je_invO (hms : MsC (SpecC X.prog X.w X.K X.mg X.base cm k "__invert__") ms) (hr : Room k X.A) (he : JE X cm e fe) : JE X cm (.UnaryOp .Invert e pos) (e1 (pInvO ms) fe) := by
  refine ⟨fun env r σ H G hf rel Q q => ?_⟩
  obtain ⟨ra, h1, hf⟩ := Option.bind_eq_some_iff.mp hf
  unfold pInvO at hf
  split at hf
  case h_2 => cases hf
  rename_i c fs hd
  obtain ⟨F, h2, hf⟩ := Option.bind_eq_some_iff.mp hf
  obtain ⟨d, h3, hf⟩ := Option.map_eq_some_iff.mp hf
  subst hf
  obtain ⟨f, fd, ps, hcl, hs1, hs2, hs3, hF, hbb⟩ := (hms c F h2).ex
  have un : UnR X (unaryOp .Invert) (fun x H0 Q => ∃ a dx fv, x = .ref a ∧ H0 a = some (.ins (cm c) dx fv) ∧ spP X.K cm F ([.ref a] ++ []) H0 Q E0) := by
    intro pins s σ H0 x v Q I rx ⟨a, dx, fv, e, ha, hsp⟩
    subst e
    cases rx
    obtain ⟨mA, J, _⟩ := ins_get I.hok ha
    obtain ⟨od, J, _⟩ := J.look
    unfold unaryOp
    refine wpAny_holding ?_
    simp only []
    refine wpAny_bind (special_fn (f := f) I.kIn J hs1 hs2 ?_)
    exact thn (run_fn (us := [.ref a]) (vs := [.ref a]) hF hr hbb .nil pass0 I (.cons rfl .nil) hsp) fun v s' h => wpAny_pure h
  refine to_e (pe_un un pe_w) (he.pub h1 rel fun v H1 G1 g1 vr => ?_)
  rw [hd] at vr
  obtain ⟨a, dx, fv, rfl, ha, da⟩ := vr.obj
  exact ⟨a, dx, fv, rfl, g1.sub _ _ ha, G1, [.obj c fs], d, g1.sub, .cons da .nil, h3, fun v H' G' g den => q v H' G' (g1.trans g) den⟩
end
end Pyl
end
section
set_option Elab.async false
set_option linter.all false
set_option maxRecDepth 100000
set_option maxHeartbeats 2000000
namespace Pyl
open PySem L2
/-! ### an __init__ that computes: its last statements store -/
section
variable {K : PySem.W.Frag} {cm : Nat → Addr} {σ : L2.St} {H G : Hp} {env : Sl}
theorem Held.take {i j : Nat} {a : Addr} (h : Held H σ (env.set i .take) j a) : Held H σ env j a := by
  rcases Held.set h (fun _ _ => rfl) with ⟨_, q⟩ | ⟨_, q⟩
  · rcases q with ⟨od, h1, h2⟩ | ⟨dss, l, as, h1, h2, h3⟩ <;> rcases get_set h1 with ⟨_, e, _⟩ | ⟨ne, _⟩
    · cases e
    · exact absurd rfl ne
    · cases e
    · exact absurd rfl ne
  · exact q
/-- self, under way: hidden, no name's own -/
structure SelfAt (C : Addr) (σ : L2.St) (H G : Hp) (env : Sl) (a dx : Addr) (fs : List (Str × V)) : Prop where
  nm : σ[0]? = some (some (.ref a))
  tk : env[0]? = some .take
  at_ : H a = some (.ins C dx fs)
  hid : G a = none
  no : ¬ Own H σ env a
theorem SelfAt.fr {C : Addr} {a dx : Addr} {fs : List (Str × V)} {σ' : L2.St} {env' : Sl} {H' G' : Hp} (s : SelfAt C σ H G env a dx fs) (f : Fr σ env H G σ' env' H' G') (tk : env'[0]? = some .take) : SelfAt C σ' H' G' env' a dx fs :=
  ⟨(f.take 0 tk).2.trans s.nm, tk, f.keep a _ s.at_ s.no, f.hid a _ s.at_ s.hid s.no, f.fresh a _ s.at_ s.no⟩
theorem Held.upd {i : Nat} {a b : Addr} {o : HO} (r : Rel K cm σ H G env) (no : ¬ Own H σ env a) (h : Held (upd H a o) σ env i b) : Held H σ env i b := by
  rcases h with h | ⟨dss, l, as, h1, h2, h3, h4⟩
  · exact .inl h
  · obtain ⟨l', as', k1, k2⟩ := r.mat i dss h1
    rw [h2] at k1
    cases k1
    have ne : l ≠ a := fun e => no ⟨i, by rw [← e]; exact Held.mat r h1 h2 k2 List.mem_cons_self⟩
    rw [upd_ne ne] at h3
    exact .inr ⟨dss, l, as, h1, h2, h3, h4⟩
/-- what no name owns and none sees is changed -/
theorem Rel.updSelf {a : Addr} {o o' : HO} (r : Rel K cm σ H G env) (h : H a = some o') (n : G a = none) (no : ¬ Own H σ env a) : Rel K cm σ (upd H a o) G env := by
  have ne : ∀ {b : Addr} {u : HO}, G b = some u → b ≠ a := fun q e => by rw [e, n] at q; cases q
  refine ⟨r.len, fun b u q => by rw [upd_ne (ne q)]; exact r.sub b u q, r.val, fun i od hi => ?_, fun i dss hi => ?_, fun i j b hi hj => r.dist i j b (Held.upd r no hi) (Held.upd r no hj)⟩
  · obtain ⟨l, u, k1, k2, k3, k4⟩ := r.own i od hi
    have : l ≠ a := fun e => no ⟨i, by rw [← e]; exact .inl ⟨od, hi, k1⟩⟩
    exact ⟨l, u, k1, by rw [upd_ne this]; exact k2, k3, k4⟩
  · obtain ⟨l, as, k1, k2⟩ := r.mat i dss hi
    have nm : ∀ b ∈ l :: as, b ≠ a := fun b hb e => no ⟨i, by rw [← e]; exact Held.mat r hi k1 k2 hb⟩
    refine ⟨l, as, k1, by rw [upd_ne (nm l List.mem_cons_self)]; exact k2.at_, k2.hid, k2.nd, k2.len, fun k b ds e1 e2 => ?_⟩
    obtain ⟨vs, q1, q2, q3⟩ := k2.row k b ds e1 e2
    exact ⟨vs, by rw [upd_ne (nm b (List.mem_cons_of_mem _ (List.mem_of_getElem? e1)))]; exact q1, q2, q3⟩
end
section
variable {X : Cx} {cm : Nat → Addr} {e : Expr} {es : List Expr} {f : EF} {fa : AF} {st : Stmt} {sts : List Stmt} {w u : WS}
/-- the stores at the end: self.f = e, one behind another -/
structure JStore (X : Cx) (cm : Nat → Addr) (C : Addr) (ns : List Str) (sts : List Stmt) (fa : AF) : Prop where
  len : ∀ env rs, fa env = some rs → rs.length = ns.length
  run : ∀ (env : Sl) (rs : List (Dt × Bool)) (σ : L2.St) (H G : Hp) (a dx : Addr) (fs : List (Str × V)), fa env = some rs → rs.any (·.2) = false → Rel X.K cm σ H G env → SelfAt C σ H G env a dx fs → (fs.map (·.1) ++ ns).Nodup → fs.length + ns.length < 1000 →
    ∀ D : Ends, (∀ vs H' G', Grow (upd H a (.ins C dx [])) G (upd H' a (.ins C dx [])) G' → G' a = none → DenL X.K cm G' vs (rs.map (·.1)) → H' a = some (.ins C dx (fs ++ ns.zip vs)) → D.nx σ H') → wpSs X sts D σ H
theorem jstore_nil {C : Addr} : JStore X cm C [] [] aNil := by
  refine ⟨fun env rs h => by cases h; rfl, fun env rs σ H G a dx fs hf _ rel s _ _ D q => to_ss pss_nil ?_⟩
  cases hf
  refine q [] H G ?_ s.hid .nil (by rw [List.zip_nil_left, List.append_nil]; exact s.at_)
  exact .refl fun b u k => by
    have : b ≠ a := fun e => by rw [e, s.hid] at k; cases k
    rw [upd_ne this]
    exact rel.sub b u k
theorem grow_upd {K : PySem.W.Frag} {H G H' G' : Hp} {a : Addr} {o o' : HO} (g : Grow H G H' G') (h : H a = some o') (n : G a = none) : Grow (upd H a o) G (upd H' a o) G' := by
  have n' := g.hid a _ h n
  refine ⟨fun b u k => ?_, g.gx, fun b u k m => ?_, fun b u k => ?_⟩
  · by_cases e : b = a
    · subst e
      rw [upd_same] at k ⊢
      exact k
    · rw [upd_ne e] at k ⊢
      exact g.hx b u k
  · by_cases e : b = a
    · subst e
      exact n'
    · rw [upd_ne e] at k
      exact g.hid b u k m
  · have e : b ≠ a := fun e => by rw [e, n'] at k; cases k
    rw [upd_ne e]
    exact g.sub b u k
theorem jstore_cons {C : Addr} {g : Str} {ns : List Str} {p1 p2 pos : Pos} (c : Cls X.K C) (n : NoAttr X.K C g) (he : JE X cm e f) (t : JStore X cm C ns sts fa) (hN : X.N[0]? = some ("self" : Str) := by rfl)
    (hv : Vis X.env.scope "self" := by first | exact Or.inl rfl | exact Or.inr (Or.inl rfl) | exact Or.inr (Or.inr rfl)) (hs : swapsWith e (some (.Attribute (.Name "self" p1) g p2)) pos.line X.env = pure false := by rfl) : JStore X cm C (g :: ns) (.Assign [.Attribute (.Name "self" p1) g p2] e pos :: sts) (aCons f fa) := by
  refine ⟨fun env rs h => ?_, fun env rs σ H G a dx fs hf hpl rel s hn hl D q => ?_⟩
  · obtain ⟨ra, h1, h⟩ := Option.bind_eq_some_iff.mp h
    obtain ⟨r, h2, h⟩ := Option.bind_eq_some_iff.mp h
    cases h
    rw [List.length_cons, List.length_cons, t.len env r h2]
  obtain ⟨ra, h1, hf⟩ := Option.bind_eq_some_iff.mp hf
  obtain ⟨r, h2, hf⟩ := Option.bind_eq_some_iff.mp hf
  cases hf
  rw [List.any_cons, Bool.or_eq_false_iff] at hpl
  refine to_ss (pss_cons (ps_fld (pe_var (i := 0) hN hv) pe_w hs) pss_w) ?_
  refine he.pub h1 rel fun v H1 G1 g1 vr => ?_
  have hsh : ra.sh = false := hpl.1
  rw [hsh] at vr
  have s1 : SelfAt C σ H1 G1 env a dx fs := s.fr (rel.fr g1) s.tk
  have hg : g ∉ fs.map (·.1) := fun m => (List.nodup_append.mp hn).2.2 g m g List.mem_cons_self rfl
  refine ⟨.ref a, s.nm, a, C, dx, fs, rfl, s1.at_, c, n, by rw [List.length_cons] at hl; omega, ?_⟩
  rw [putF_new hg]
  have rel2 := (rel.grow g1).updSelf (o := .ins C dx (fs ++ [(g, v)])) s1.at_ s1.hid s1.no
  have no2 : ¬ Own (upd H1 a (.ins C dx (fs ++ [(g, v)]))) σ env a := fun ⟨i, h⟩ => s1.no ⟨i, Held.upd (rel.grow g1) s1.no h⟩
  refine t.run env r σ _ G1 a dx (fs ++ [(g, v)]) h2 hpl.2 rel2 ⟨s.nm, s.tk, upd_same, s1.hid, no2⟩ (by
    rw [List.map_append, List.append_assoc]
    exact hn) (by rw [List.length_append, List.length_singleton]; rw [List.length_cons] at hl; omega) D fun vs H' G' g2 n' dl hat => ?_
  rw [upd_upd] at g2
  refine q (v :: vs) H' G' ((grow_upd (K := X.K) g1 s.at_ s.hid).trans g2) n' (.cons (vr.den.mono g2.gx) dl) ?_
  rw [List.append_assoc] at hat
  exact hat
/-- what is wanted at the end of an __init__ that began with H0, G0 -/
def EndI (X : Cx) (cm : Nat → Addr) (C a dx : Addr) (ns : List Str) (H0 G0 : Hp) (D' : En) (D : Ends) : Prop :=
  ∀ σ' vs ds H' G', Grow H0 G0 (upd H' a (.ins C dx [])) G' → G' a = none → DenL X.K cm G' vs ds → ds.length = ns.length → D'.rt (.tup ds) → H' a = some (.ins C dx (ns.zip vs)) → D.nx σ' H'
/-- the body of an __init__ that began with env0 -/
structure JInit (X : Cx) (cm : Nat → Addr) (C : Addr) (ns : List Str) (sts : List Stmt) (w : WS) : Prop where
  run : ∀ (env0 : Sl) (σ0 : L2.St) (H0 G0 : Hp) (a dx : Addr) (env : Sl) (D' : En) (σ : L2.St) (H G : Hp), w D' env → Rel X.K cm σ H G env → SelfAt C σ0 H0 G0 env0 a dx [] → (∀ b, ¬ Own H0 σ0 env0 b) → Exx G0 H0 → Fr σ0 env0 H0 G0 σ env H G → ∀ D : Ends, EndI X cm C a dx ns H0 G0 D' D →
    (∀ σ' H' G' env' c fs dd, Rel X.K cm σ' H' G' env' → Fr σ0 env0 H0 G0 σ' env' H' G' → XdR X.K cm G' dd fs → D'.er c fs env' → exW X (.ref (cm c)) dd σ' H') →
    (∀ e, ¬ D'.bk e) → (∀ e, ¬ D'.ct e) → wpSs X sts D σ H
/-- the stores of an __init__ -/
theorem jinit_stores {C : Addr} {ns : List Str} (t : JStore X cm C ns sts fa) (hn : ns.Nodup) (hl : ns.length < 1000) : JInit X cm C ns sts (wStores fa) := by
  refine ⟨fun env0 σ0 H0 G0 a dx env D' σ H G hw rel s no sub0 f D q _ _ _ => ?_⟩
  obtain ⟨tk, r, h1, h2, h3⟩ := hw
  obtain ⟨rs, k1, h1⟩ := Option.bind_eq_some_iff.mp h1
  obtain ⟨ds, k2, h1⟩ := Option.bind_eq_some_iff.mp h1
  cases h1
  obtain ⟨k3, rfl⟩ := plain_some k2
  have s1 := s.fr f tk
  have e0 : upd H a (.ins C dx []) = H := funext fun b => by
    by_cases e : b = a
    · subst e; rw [upd_same]; exact s1.at_.symm
    · rw [upd_ne e]
  have g0 : Grow H0 G0 H G := ⟨fun b u k => f.keep b u k (no b), f.gx, fun b u k n => f.hid b u k n (no b), f.sub⟩
  refine t.run env rs σ H G a dx [] k1 k3 rel s1 (by simpa using hn) (by simpa using hl) D fun vs H' G' g n' dl hat => ?_
  rw [e0] at g
  exact q σ vs (rs.map fun x : Dt × Bool => x.1) H' G' (g0.trans g) n' dl (by rw [List.length_map, t.len env rs k1]) h3 (by simpa using hat)
theorem jinit_cons {C : Addr} {ns : List Str} (h : JS X cm st w) (t : JInit X cm C ns sts u) : JInit X cm C ns (st :: sts) (wThenI w u) := by
  refine ⟨fun env0 σ0 H0 G0 a dx env D' σ H G hw rel s no sub0 f D q qe qb qc => to_ss (pss_cons ps_w pss_w) ?_⟩
  obtain ⟨M, h1, h2⟩ := hw
  refine h.run env _ σ H G h1 rel _ ⟨fun σ' H' G' env' r g n => ?_, fun _ _ _ _ _ _ z => z.elim, fun _ _ _ _ _ _ z => (qb _ z).elim, fun _ _ _ _ _ _ z => (qc _ z).elim, fun σ' H' G' env' c fs dd r g xd z => qe σ' H' G' env' c fs dd r (f.trans g) xd z⟩
  exact t.run env0 σ0 H0 G0 a dx env' D' σ' H' G' (h2 env' n) r s no sub0 (f.trans g) D q qe qb qc
/-- a name's own object is data from now on -/
theorem jinit_frz {C : Addr} {ns : List Str} (i : Nat) (t : JInit X cm C ns sts u) : JInit X cm C ns sts (wFrz i u) := by
  refine ⟨fun env0 σ0 H0 G0 a dx env D' σ H G hw rel s no sub0 f D q qe qb qc => ?_⟩
  obtain ⟨G', r, g⟩ := rel.frz (i := i)
  exact t.run env0 σ0 H0 G0 a dx _ D' σ H G' hw r s no sub0 (f.trans g) D q qe qb qc
end
section
variable {P : Program} {w : World} {K : PySem.W.Frag} {mg : Str → Option Value} {base : Heap} {cm : Nat → Addr}
/-- the promise of an __init__: F, of None and the arguments, gives what it stores under the names ns -/
def spJ (K : PySem.W.Frag) (cm : Nat → Addr) (C : Addr) (ns : List Str) (F : FN) : Sp := fun vs H Q _ => ∃ a dx ws G ds vals, vs = .ref a :: ws ∧ H a = some (.ins C dx []) ∧ G a = none ∧ Exx G H ∧ DenL K cm G ws ds ∧ F (.non :: ds) = some (.tup vals) ∧ vals.length = ns.length ∧
  ∀ us H' G', Grow H G (upd H' a (.ins C dx [])) G' → G' a = none → DenL K cm G' us vals → H' a = some (.ins C dx (ns.zip us)) → Q .non H'
theorem no_ownI {H : Hp} {σ : L2.St} {n : Nat} {ds : List Dt} {a : Addr} : ¬ Own H σ ((startE n ds).set 0 .take) a := fun ⟨i, h⟩ => no_held (Held.take h)
theorem rel_startI {N : List Str} {v : V} {vs : List V} {ds : List Dt} {H G : Hp} (s : Exx G H) (h : DenL K cm G vs ds) : Rel K cm (start N (v :: vs)) H G ((startE N.length (.non :: ds)).set 0 .take) := by
  have r : Rel K cm (start N (.non :: vs)) H G (startE N.length (.non :: ds)) := rel_start s (.cons .non h)
  have eq : ∀ {j : Nat}, j ≠ 0 → (start N (v :: vs))[j]? = (start N (V.non :: vs))[j]? := fun {j} ne => by
    unfold L2.start
    rw [List.map_cons, List.map_cons, List.cons_append, List.cons_append]
    obtain ⟨j, rfl⟩ : ∃ k, j = k + 1 := ⟨j - 1, by omega⟩
    simp
  have hl : (start N (v :: vs)).length = (start N (V.non :: vs)).length := by simp [L2.start]
  refine ⟨by rw [hl, r.len, List.length_set], s, fun i d hi => ?_, fun i od hi => ?_, fun i dss hi => ?_, fun i j a hi hj => (no_held (Held.take hi)).elim⟩ <;> rcases get_set hi with ⟨_, e, _⟩ | ⟨ne, hi⟩
  · cases e
  · obtain ⟨x, h1, h2⟩ := r.val i d hi
    exact ⟨x, by rw [eq (Ne.symm ne)]; exact h1, h2⟩
  · cases e
  · rcases startE_get hi with ⟨d', h1, e⟩ | e <;> cases e
  · cases e
  · rcases startE_get hi with ⟨d', h1, e⟩ | e <;> cases e
theorem initF_ok {x qual : Str} {st : Stmt} {f : Addr} {fd : FuncData} {N ps : List Str} {k : Nat} {F : FN} {C : Addr} {ns : List Str} (Fu : Fun K x qual st f fd) (S : FnScope N ps (defScope st)) (hlen : ∀ ds r, F ds = some r → ds.length = ps.length) (wd : WS) (hk : Keeps N.length (wSelf wd) F)
    (hb : ∀ (cdv : Value) (A : Around) (outer : List Env) (s : Shared) (H : Hp) (E : XK), Room k (A.deeper (PyProof.Rows.envOfC qual (defScope st) s.heap.objs.size f cdv)) → JInit (cxN P w K mg base N qual st f cdv A outer s H E) cm C ns (defBody st) wd) :
    FnOk P w K mg base CX0 (k + 1) f fd ps (spJ K cm C ns F) := by
  refine Fu.ok S (fun vs H Q E h => ?_) (fun cdv A outer s H vs Q E hr h => ⟨_, pss_w, ?_⟩)
  · obtain ⟨a, dx, ws, G, ds, vals, rfl, _, _, _, h2, h3, _⟩ := h
    have := hlen _ _ h3
    rw [List.length_cons, h2.length, ← this, List.length_cons]
  · obtain ⟨a, dx, ws, G, ds, vals, rfl, h0, hG, h1, h2, h3, hl, h4⟩ := h
    have hpos : 0 < (startE N.length (Dt.non :: ds)).length := by unfold startE; simp
    refine (hb cdv A outer s H E hr).run _ (start N (.ref a :: ws)) H G a dx ((startE N.length (.non :: ds)).set 0 .take) _ (start N (.ref a :: ws)) H G (hk _ _ h3) (rel_startI h1 h2) ⟨start_get rfl, List.getElem?_set_self hpos, h0, hG, no_ownI⟩ (fun b => no_ownI) h1 (.refl h1) _
      (fun σ' us es H' G' g n dl le e hat => ?_) (fun _ _ _ _ _ _ _ _ _ _ z => z.elim) (fun _ z => z) (fun _ z => z)
    have e : Dt.tup es = .tup vals := e
    cases e
    exact h4 us H' G' g n dl hat
/-- a class of the module by its __init__ -/
structure MkF (P : Program) (w : World) (K : PySem.W.Frag) (mg : Str → Option Value) (base : Heap) (cm : Nat → Addr) (k : Nat) (x : Str) (c : Nat) (ns : List Str) (F : FN) : Prop where
  ex : ∃ (f : Addr) (fd : FuncData) (ps : List Str), Mk K (cm c) f ∧ FnOk P w K mg base CX0 k f fd ps (spJ K cm (cm c) ns F) ∧ mg x = some (.ref (cm c)) ∧ Binds K fd ps []
variable {X : Cx} {e : Expr} {pos p : Pos} {x : Str}
theorem je_makeF {es : List Expr} {ft : AF} {k c : Nat} {ns : List Str} {F : FN} (C : MkF X.prog X.w X.K X.mg X.base cm k x c ns F) (hr : Room (k + 1) X.A) (hg : Gl X x) (ha : JA X cm (e :: es) ft) (hdb : (x == ("__debug__" : Str)) = false := by decide)
    (he : starEach (e :: es) X.env = (false, eval e X.env) :: starEach es X.env := by rfl) (hpl : (backTo pos (starEach es X.env)).any (·.1) = false := by rfl) : JE X cm (.Call (.Name x p) (e :: es) [] pos) (eMakeF c ns F ft) := by
  refine ⟨fun env r σ H G hf rel Q q => ?_⟩
  obtain ⟨rs, h1, hf⟩ := Option.bind_eq_some_iff.mp hf
  obtain ⟨ds, h2, hf⟩ := Option.bind_eq_some_iff.mp hf
  split at hf
  case h_2 => cases hf
  rename_i vals h5
  split at hf
  case isFalse => cases hf
  rename_i hln
  cases hf
  obtain ⟨h3, rfl⟩ := plain_some h2
  obtain ⟨f, fd, ps, M, hF, hm, hb⟩ := C.ex
  refine to_e (pe_make M hF hr hg hm hb .nil pass0 pa_w hdb he hpl) (ha.run env rs σ H G h1 rel _ fun vs H1 G1 g1 vrs => fun a dx na nd ne => ?_)
  have hd := vrs.plain h3
  have nGa := g1.sub.back na
  have na2 : (upd H1 dx (.own a)) a = none := by rw [upd_ne (Ne.symm ne)]; exact na
  have gh : Grow H1 G1 (upd (upd H1 dx (.own a)) a (.ins (cm c) dx [])) G1 := (Grow.hide g1.sub nd).trans (.hide (Grow.hide g1.sub nd).sub na2)
  refine ⟨a, dx, vs, G1, _, vals, by rw [List.append_nil], upd_same, nGa, gh.sub, hd, h5, hln, fun us H' G' g n dl hat => ⟨rfl, ?_⟩⟩
  have g2 := gh.trans g
  have gx : Exx G' (upd G' a (.ins (cm c) dx (ns.zip us))) := .new n
  refine q _ H' (upd G' a (.ins (cm c) dx (ns.zip us))) (g1.trans ⟨fun b u k => ?_, g2.gx.trans gx, fun b u k m => ?_, fun b u k => ?_⟩) (Den.obj upd_same (DenF.zip (dl.mono gx)))
  · have nb : b ≠ a := ne_of_none k na
    have := g2.hx b u k
    rw [upd_ne nb] at this
    exact this
  · rw [upd_ne (ne_of_none k na)]
    exact g2.hid b u k m
  · by_cases e : b = a
    · subst e
      rw [upd_same] at k
      cases k
      exact hat
    · rw [upd_ne e] at k
      have := g2.sub b u k
      rw [upd_ne e] at this
      exact this
end
end Pyl
end
section
set_option Elab.async false
set_option linter.all false
set_option maxRecDepth 100000
set_option maxHeartbeats 4000000
namespace Pyl
open PySem L2
section
variable {X : Cx} {cm : Nat → Addr} {tg iter elt e : Expr} {f fa : EF} {pos p : Pos} {x : Str}
theorem DenL.dropLast {K : PySem.W.Frag} {G : Hp} {vs : List V} {ds : List Dt} (h : DenL K cm G vs ds) : DenL K cm G vs.dropLast ds.dropLast := by
  rw [List.dropLast_eq_take, List.dropLast_eq_take, h.length]
  exact h.take _
/-- tg = xs.pop(), xs a list of one's own -/
theorem js_pop (j : Nat) {is : List Nat} {g : GF} {p1 p2 p3 : Pos} (hg : JG X cm tg is g) (hN : X.N[j]? = some x := by rfl) (hv : Vis X.env.scope x := by first | exact Or.inl rfl | exact Or.inr (Or.inl rfl) | exact Or.inr (Or.inr rfl)) (hd : (x == ("__debug__" : Str)) = false := by decide)
    (hcd : (x == ("__classdict__" : Str)) = false := by decide)
    (hbm : ∀ {t : TE}, PE X (.Name x p3) t → PE X (.Call (.Attribute (.Name x p3) "pop" p2) [] [] p1) (tBM0 X.K "list" rPop t) := by intro t h; exact pe_bm0 PySem.F.plainAttrs_list PySem.F.slot_list_pop PySem.F.type_list_pop mt_pop h)
    (hs : swapsWithSole [tg] (.Call (.Attribute (.Name x p3) "pop" p2) [] [] p1) pos.line X.env = pure false := by rfl) (hw : swappedStores [tg] (.Call (.Attribute (.Name x p3) "pop" p2) [] [] p1) X.env = pure none := by rfl) (h1 : (assignEach [tg] X.env).map (·.2) = [assign tg X.env] := by rfl) :
    JS X cm (.Assign [tg] (.Call (.Attribute (.Name x p3) "pop" p2) [] [] p1) pos) (wPop j g) := by
  refine ⟨fun env D' σ H G hww rel D o => to_s (ps_asg (hbm (pe_var hN hv hd hcd)) pg_w hs hw h1) ?_⟩
  obtain ⟨ds, d, env', h1, h2, h3, h4⟩ := hww
  obtain ⟨l, ob, k1, k2, k3, k4⟩ := rel.own j _ h1
  cases ob <;> first | exact k4.elim | skip
  rename_i vs
  have k4 : DenL X.K cm G vs ds := k4
  obtain ⟨v, hv1, hv2⟩ := k4.get h2
  refine ⟨_, k1, .inl ⟨rfl, _, SqL.of k2⟩, l, vs, v, rfl, rfl, k2, by rw [k4.length]; exact hv1, ?_⟩
  obtain ⟨q1, q2⟩ := own_upd (o' := .lst vs.dropLast) (od' := .lst ds.dropLast) rel (.refl rel.sub) h1 k1 k2 k3 k4.dropLast
  exact hg.run _ env' d v σ _ G h3 q1 hv2 _ fun σ' rel' fr' _ _ => o.nx _ _ _ _ rel' (q2.trans fr') h4
/-- xs.pop() -/
theorem js_popD (j : Nat) {p1 p2 p3 : Pos} (hN : X.N[j]? = some x := by rfl) (hv : Vis X.env.scope x := by first | exact Or.inl rfl | exact Or.inr (Or.inl rfl) | exact Or.inr (Or.inr rfl)) (hd : (x == ("__debug__" : Str)) = false := by decide)
    (hcd : (x == ("__classdict__" : Str)) = false := by decide)
    (hbm : ∀ {t : TE}, PE X (.Name x p3) t → PE X (.Call (.Attribute (.Name x p3) "pop" p2) [] [] p1) (tBM0 X.K "list" rPop t) := by intro t h; exact pe_bm0 PySem.F.plainAttrs_list PySem.F.slot_list_pop PySem.F.type_list_pop mt_pop h)
    (hs : swapsWith (.Call (.Attribute (.Name x p3) "pop" p2) [] [] p1) none pos.line X.env = pure false := by rfl) :
    JS X cm (.Expr (.Call (.Attribute (.Name x p3) "pop" p2) [] [] p1) pos) (wPopD j) := by
  refine ⟨fun env D' σ H G hww rel D o => to_s (ps_expr (hbm (pe_var hN hv hd hcd)) hs) ?_⟩
  obtain ⟨ds, d, h1, h2, h4⟩ := hww
  obtain ⟨l, ob, k1, k2, k3, k4⟩ := rel.own j _ h1
  cases ob <;> first | exact k4.elim | skip
  rename_i vs
  have k4 : DenL X.K cm G vs ds := k4
  obtain ⟨v, hv1, hv2⟩ := k4.get h2
  refine ⟨_, k1, .inl ⟨rfl, _, SqL.of k2⟩, l, vs, v, rfl, rfl, k2, by rw [k4.length]; exact hv1, ?_⟩
  obtain ⟨q1, q2⟩ := own_upd (o' := .lst vs.dropLast) (od' := .lst ds.dropLast) rel (.refl rel.sub) h1 k1 k2 k3 k4.dropLast
  exact o.nx _ _ _ _ q1 q2 h4
/-! isinstance of a tuple of built-in types -/
theorem kitAny_ty {K : PySem.W.Frag} {t : String} : ∀ {Ts : List String}, (Ts.all fun T => kitB t T == some (t == T || (t == "bool" && T == "int"))) = true → PySem.W.kitAny K (.type t) (Ts.map Value.type) = some (Ts.any fun T => t == T || (t == "bool" && T == "int"))
  | [], _ => kitAny_nil
  | T :: Ts, h => by
    rw [List.all_cons, Bool.and_eq_true] at h
    refine kitAny_cons (kit_ty (beq_iff_eq.mp h.1)) (fun e => ?_) fun e => ?_
    · rw [List.any_cons, e, Bool.false_or]
      exact kitAny_ty h.2
    · rw [List.any_cons, e, Bool.true_or]
theorem je_isiT {es : List Expr} {k : Nat} {pt : Pos} {vs : List V} {us : List Value} (Ts : List String) (jc : JCls X es vs us) (hu : us = Ts.map Value.type) (hk : ((["NoneType", "bool", "int", "str", "list", "tuple"] : List String).all fun t => Ts.all fun T => kitB t T == some (t == T || (t == "bool" && T == "int"))) = true)
    (hg : Gl X "isinstance") (hm : X.mg "isinstance" = none) (he : JE X cm e fa) (hzz : es.length ≤ 100000 := by decide) (h0 : starEach [.Tuple es k pt] X.env = (false, eval (.Tuple es k pt) X.env) :: starEach [] X.env := by rfl) (hst : starEach [e, .Tuple es k pt] X.env = (false, eval e X.env) :: starEach [.Tuple es k pt] X.env := by rfl)
    (hpl : (backTo pos (starEach [.Tuple es k pt] X.env)).any (·.1) = false := by rfl) : JE X cm (.Call (.Name "isinstance" p) [e, .Tuple es k pt] [] pos) (e1 (pIsiT Ts) fa) := by
  refine ⟨fun env r σ H G hf rel Q q => ?_⟩
  obtain ⟨ra, h1, hf⟩ := Option.bind_eq_some_iff.mp hf
  obtain ⟨ty, hty, ht⟩ := Option.map_eq_some_iff.mp hf
  subst ht
  refine to_e (pe_callB call_isiT hg hm (by decide +kernel) (pa_cons pe_w (pa_cons (pe_tup jc.pa) pa_nil h0) hst) (by decide) (by decide) hst hpl) (he.pub h1 rel fun v H1 G1 g1 vr => ?_)
  refine ⟨by rw [jc.len]; exact Nat.le_trans hzz (by decide), fun tp hp => ?_⟩
  have g2 := Grow.new (o := .tup vs) g1.sub hp
  refine ⟨v, tp, vs, .type ty, us, _, rfl, upd_same, jc.cl, ((vr.grow g2).tyX g2.sub hty), ?_, q _ _ _ (g1.trans g2) (Den.bl _)⟩
  rw [hu]
  refine kitAny_ty (List.all_eq_true.mp hk ty ?_)
  generalize ra.dt = d at hty
  cases d <;> cases hty <;> simp
end
/-! ### two clauses -/
section
variable {X : Cx} {cm : Nat → Addr}
def iB (X : Cx) (scope : Scope) (tg iter : Expr) : TI := fun σ H R => ∀ (s : Shared) (H0 : Hp) (C : Addr) (cl : List (Str × Addr)) (fp : List Addr), wpI (X.blk s H0 scope (compEnvC scope cl C X.env) fp) tg iter σ H R
theorem pi_B {scope : Scope} {tg iter : Expr} {s : Shared} {H0 : Hp} {C : Addr} {cl : List (Str × Addr)} {fp : List Addr} : PI (X.blk s H0 scope (compEnvC scope cl C X.env) fp) tg iter (iB X scope tg iter) := ⟨fun pins s1 σ H Q I h => h s H0 C cl fp pins s1 I⟩
theorem rel_but {K : PySem.W.Frag} {σ : L2.St} {H G H' G' : Hp} {env : Sl} {D : Addr} {o o' : HO} (r : Rel K cm σ H G env) (no : ¬ Own H σ env D) (h : H D = some o) (gx : Exx G G') (hid : ∀ a u, H a = some u → G a = none → G' a = none) (sub : Exx G' H')
    (hx : ∀ a u, a ≠ D → H a = some u → H' a = some u) (h' : H' D = some o') (n' : G' D = none) : Rel K cm σ H' G' env := by
  have e1 : Exx H (upd H' D o) := fun a u k => by
    by_cases e : a = D
    · subst e
      rw [upd_same, ← k]
      exact h.symm
    · rw [upd_ne e]
      exact hx a u e k
  have g : Grow H G (upd H' D o) G' := ⟨e1, gx, hid, fun a u k => by
    have : a ≠ D := fun e => by rw [e, n'] at k; cases k
    rw [upd_ne this]
    exact sub a u k⟩
  have r2 := (r.grow g).updSelf (o := o') (a := D) (o' := o) upd_same n' fun ⟨i, k⟩ => no ⟨i, r.held e1 k⟩
  rw [upd_upd] at r2
  have e2 : upd H' D o' = H' := funext fun b => by
    by_cases e : b = D
    · subst e; rw [upd_same]; exact h'.symm
    · rw [upd_ne e]
  rw [e2] at r2
  exact r2
theorem je_comp2 {elt tg iter tg1 iter1 : Expr} {ifs ifs1 : List Expr} {scope : Scope} {js js1 : List Nat} {fi fj : IF} {g h : GF} {ft fu : TF} {fe : EF} (own own1 : List (Str × Nat)) (hc : X.calm = true) (hN : X.N.Nodup) (hi : JI X cm tg iter fi) (ok : blkC X.N X.env.scope scope own = true) (ho : ∀ i ∈ own1.map (·.2), i ∈ own.map (·.2))
    (hg : ∀ (s : Shared) (H : Hp) (C : Addr) (cl : List (Str × Addr)) (fp : List Addr), JG (X.blk s H scope (compEnvC scope cl C X.env) fp) cm tg js g) (hj : ∀ j ∈ js, j ∈ own.map (·.2))
    (ht : ∀ (s : Shared) (H : Hp) (C : Addr) (cl : List (Str × Addr)) (fp : List Addr), JTs (X.blk s H scope (compEnvC scope cl C X.env) fp) cm ifs ft)
    (hi1 : ∀ (s : Shared) (H : Hp) (C : Addr) (cl : List (Str × Addr)) (fp : List Addr), JI (X.blk s H scope (compEnvC scope cl C X.env) fp) cm tg1 iter1 fj)
    (hg1 : ∀ (s : Shared) (H : Hp) (C : Addr) (cl : List (Str × Addr)) (fp : List Addr), JG (X.blk s H scope (compEnvC scope cl C X.env) fp) cm tg1 js1 h) (hj1 : ∀ j ∈ js1, j ∈ own1.map (·.2))
    (ht1 : ∀ (s : Shared) (H : Hp) (C : Addr) (cl : List (Str × Addr)) (fp : List Addr), JTs (X.blk s H scope (compEnvC scope cl C X.env) fp) cm ifs1 fu)
    (he : ∀ (s : Shared) (H : Hp) (C : Addr) (cl : List (Str × Addr)) (fp : List Addr), JE (X.blk s H scope (compEnvC scope cl C X.env) fp) cm elt fe) (hs : ∀ x, foldedSetIterable iter X.env x = pure x := by intro _; rfl) (hs1 : ∀ env x, foldedSetIterable iter1 env x = pure x := by intro _ _; rfl) :
    (∀ (env : Sl) (r : R) (σ : L2.St) (H G : Hp), eComp2 (own.map (·.2)) (own1.map (·.2)) fi g ft fj h fu fe env = some r → Rel X.K cm σ H G env → ∀ Q : VK, (∀ v H' G', Grow H G H' G' → RR X.K cm H H' G' v r → Q v H') →
      tLc2 (wpI X tg iter) (gB X scope tg) (tB' X scope ifs) (iB X scope tg1 iter1) (gB X scope tg1) (tB' X scope ifs1) (eB X scope elt) (own.map (·.2)) (own1.map (·.2)) σ H Q) := by
  intro env r σ H G hf rel Q q
  obtain ⟨⟨ds, bb⟩, h1, hf⟩ := Option.bind_eq_some_iff.mp hf
  obtain ⟨out, h2, hf⟩ := Option.bind_eq_some_iff.mp hf
  dsimp only at h2 hf
  split at hf
  case isFalse => cases hf
  rename_i hlen
  cases hf
  refine hi.run env ds bb σ H G h1 rel _ fun J H1 G1 g1 jok => fun D hD => ?_
  have rel1 := rel.grow g1
  refine ⟨fun i m H' => m = ds.length - i ∧ i ≤ ds.length ∧ ∃ (G' : Hp) (av : List V) (ad ro : List Dt), Exx G' H' ∧ Exx G1 G' ∧ Exx H1 H' ∧ (∀ a o, H1 a = some o → G1 a = none → G' a = none) ∧ H' D = some (.lst av) ∧ G' D = none ∧ DenL X.K cm G' av ad ∧
    compL (comp2G env (own.map (·.2)) (own1.map (·.2)) g ft fj h fu fe) (ds.drop i) = some ro ∧ out = ad ++ ro, ⟨ds.length, rfl, Nat.zero_le _, G1, [], [], out, (Grow.hide g1.sub hD).sub, .refl _, .new hD, fun _ _ _ n => n, upd_same, g1.sub.back hD, .nil, by rw [List.drop_zero]; exact h2, rfl⟩, ?_⟩
  rintro i m H' ⟨rfl, hi', G', av, ad, ro, sub, gx, hx, hid, hHD, hGD, den, hro, hout⟩
  have st : StK H1 G1 bb H' G' := ⟨sub, gx, fun _ => hx⟩
  by_cases hlt : i < ds.length
  · refine .inr ⟨jok.go i H' G' st hlt, fun H2 => i + 1 ≤ ds.length ∧ ∃ (G' : Hp) (av : List V) (ad ro : List Dt), Exx G' H2 ∧ Exx G1 G' ∧ Exx H1 H2 ∧ (∀ a o, H1 a = some o → G1 a = none → G' a = none) ∧ H2 D = some (.lst av) ∧ G' D = none ∧ DenL X.K cm G' av ad ∧
      compL (comp2G env (own.map (·.2)) (own1.map (·.2)) g ft fj h fu fe) (ds.drop (i + 1)) = some ro ∧ out = ad ++ ro, fun H2 hw => ⟨ds.length - (i + 1), by omega, rfl, hw⟩, fun v H2 hy => ?_⟩
    obtain ⟨G2, d, hd, g2, dn⟩ := jok.yl i H' G' v H2 st hlt hy
    rw [drop_get hd] at hro
    obtain ⟨o, ro', ho', hro', rfl⟩ := compL_cons hro
    obtain ⟨env', hg', ho'⟩ := Option.bind_eq_some_iff.mp ho'
    obtain ⟨t, ht', ho'⟩ := Option.bind_eq_some_iff.mp ho'
    have relb : Rel X.K cm (L2.wipe σ (own.map (·.2))) H2 G2 (wipeS env (own.map (·.2))) := by
      refine ((Rel.grow rel1 (H' := H') (G' := G') ⟨hx, gx, hid, sub⟩).grow g2).wipe _
    intro s H0 C cl fp
    refine (hg s H0 C cl fp).run _ env' d v _ H2 G2 hg' relb dn _ fun σ' rel' fr' same len => ⟨wipe_eq (len.trans (wipe_length _ _)) same hj, ?_⟩
    intro s H0 C cl fp
    refine (ht s H0 C cl fp).ex env' t σ' H2 G2 ht' rel' _ fun H3 G3 g3 => ?_
    have g23 := g2.trans g3
    have hx3 := hx.trans g23.hx
    have gx3 := gx.trans g23.gx
    have hid3 : ∀ a o, H1 a = some o → G1 a = none → G3 a = none := fun a o h n => g23.hid a o (hx a o h) (hid a o h n)
    have hD3 := g23.hx D _ hHD
    have gD3 := g23.hid D _ hHD hGD
    cases t with
    | false =>
      cases ho'
      exact iteF ⟨hlt, G3, av, ad, ro', g3.sub, gx3, hx3, hid3, hD3, gD3, den.mono g23.gx, hro', hout⟩
    | true =>
      obtain ⟨⟨es, b1⟩, hes, ho'⟩ := Option.bind_eq_some_iff.mp ho'
      dsimp only at ho'
      cases b1 with
      | true => cases ho'
      | false =>
      rw [if_neg (by decide)] at ho'
      refine iteT ?_
      intro s H0 C cl fp
      have rel3 : Rel X.K cm σ' H3 G3 env' := rel'.grow g3
      refine (hi1 s H0 C cl fp).run env' es false σ' H3 G3 hes rel3 _ fun J1 H4 G4 g4 jok1 => ?_
      have g24 := g23.trans g4
      have hx4 := hx.trans g24.hx
      have gx4 := gx.trans g24.gx
      have hid4 : ∀ a o, H1 a = some o → G1 a = none → G4 a = none := fun a o h n => g24.hid a o (hx a o h) (hid a o h n)
      have rel4 : Rel X.K cm σ' H4 G4 env' := rel3.grow g4
      have noB : ¬ Own H2 (L2.wipe σ (own.map (·.2))) (wipeS env (own.map (·.2))) D := fun ⟨i, k⟩ => by
        have k1 : Held H2 σ env i D := Held.wipe k
        have k2 : Held H1 σ env i D := rel1.held (hx.trans g2.hx) k1
        obtain ⟨⟨o, k3⟩, _⟩ := Held.at_ rel1 k2
        rw [hD] at k3
        cases k3
      have no2 : ¬ Own H2 σ' env' D := fr'.fresh D _ (g2.hx D _ hHD) noB
      have no4 : ¬ Own H4 σ' env' D := fun ⟨i, k⟩ => no2 ⟨i, rel'.held (g3.hx.trans g4.hx) k⟩
      -- the inner loop keeps: grown from H4, G4 but for D
      refine ⟨fun j m H5 => m = es.length - j ∧ j ≤ es.length ∧ ∃ (G5 : Hp) (av : List V) (ad ri : List Dt), Exx G5 H5 ∧ Exx G4 G5 ∧ (∀ a o, a ≠ D → H4 a = some o → H5 a = some o) ∧ (∀ a o, H4 a = some o → G4 a = none → G5 a = none) ∧ H5 D = some (.lst av) ∧ G5 D = none ∧ DenL X.K cm G5 av ad ∧
        compL (compG env' (own1.map (·.2)) h fu fe) (es.drop j) = some ri ∧ out = ad ++ ri ++ ro', ⟨es.length, rfl, Nat.zero_le _, G4, av, ad, o, g4.sub, .refl _, fun _ _ _ k => k, fun _ _ _ n => n, g4.hx D _ hD3, g4.hid D _ hD3 gD3, den.mono g24.gx, by rw [List.drop_zero]; exact ho', by rw [List.append_assoc]; exact hout⟩, ?_⟩
      rintro j m H5 ⟨rfl, hj', G5, bv, bd, ri, sub5, gx5, hx5, hid5, hHD5, hGD5, den5, hri, hout5⟩
      have st5 : StK H4 G4 false H5 G5 := ⟨sub5, gx5, fun z => nomatch z⟩
      have hx15 : Exx H1 H5 := fun a u k => hx5 a u (ne_of_none k hD) (hx4 a u k)
      have gx15 := gx4.trans gx5
      have hid15 : ∀ a o, H1 a = some o → G1 a = none → G5 a = none := fun a o k n => hid5 a o (hx4 a o k) (hid4 a o k n)
      by_cases hlt5 : j < es.length
      · refine .inr ⟨jok1.go j H5 G5 st5 hlt5, fun H6 => j + 1 ≤ es.length ∧ ∃ (G5 : Hp) (av : List V) (ad ri : List Dt), Exx G5 H6 ∧ Exx G4 G5 ∧ (∀ a o, a ≠ D → H4 a = some o → H6 a = some o) ∧ (∀ a o, H4 a = some o → G4 a = none → G5 a = none) ∧ H6 D = some (.lst av) ∧ G5 D = none ∧ DenL X.K cm G5 av ad ∧
          compL (compG env' (own1.map (·.2)) h fu fe) (es.drop (j + 1)) = some ri ∧ out = ad ++ ri ++ ro', fun H6 hw => ⟨es.length - (j + 1), by omega, rfl, hw⟩, fun v1 H6 hy1 => ?_⟩
        obtain ⟨G6, d1, hd1, g6, dn1⟩ := jok1.yl j H5 G5 v1 H6 st5 hlt5 hy1
        rw [drop_get hd1] at hri
        obtain ⟨o1, ri', hoo, hri', rfl⟩ := compL_cons hri
        obtain ⟨env1, hg1', hoo⟩ := Option.bind_eq_some_iff.mp hoo
        obtain ⟨t1, ht1', hoo⟩ := Option.bind_eq_some_iff.mp hoo
        have rel5 : Rel X.K cm σ' H5 G5 env' := rel_but rel4 no4 (g4.hx D _ hD3) gx5 hid5 sub5 hx5 hHD5 hGD5
        have g45 := g6
        have relb1 : Rel X.K cm (L2.wipe σ' (own1.map (·.2))) H6 G6 (wipeS env' (own1.map (·.2))) := (rel5.grow g6).wipe _
        intro s H0 C cl fp
        refine (hg1 s H0 C cl fp).run _ env1 d1 v1 _ H6 G6 hg1' relb1 dn1 _ fun σ1 rel1' fr1' same1 len1 => ⟨wipe_eq (len1.trans (wipe_length _ _)) same1 hj1, ?_⟩
        intro s H0 C cl fp
        refine (ht1 s H0 C cl fp).ex env1 t1 σ1 H6 G6 ht1' rel1' _ fun H7 G7 g7 => ?_
        have g67 := g6.trans g7
        have hx7 : ∀ a o, a ≠ D → H4 a = some o → H7 a = some o := fun a o ne k => g67.hx a o (hx5 a o ne k)
        have gx7 := gx5.trans g67.gx
        have hid7 : ∀ a o, H4 a = some o → G4 a = none → G7 a = none := fun a o k n => by
          by_cases e : a = D
          · subst e
            exact g67.hid a _ hHD5 hGD5
          · exact g67.hid a o (hx5 a o e k) (hid5 a o k n)
        have hD7 := g67.hx D _ hHD5
        have gD7 := g67.hid D _ hHD5 hGD5
        cases t1 with
        | false =>
          cases hoo
          exact iteF ⟨hlt5, G7, bv, bd, ri', g7.sub, gx7, hx7, hid7, hD7, gD7, den5.mono g67.gx, hri', hout5⟩
        | true =>
          obtain ⟨re, hre, hoo⟩ := Option.bind_eq_some_iff.mp hoo
          split at hoo
          · cases hoo
          · rename_i hsh
            cases hoo
            refine iteT ?_
            intro s H0 C cl fp
            refine (he s H0 C cl fp).pub hre (rel1'.grow g7) fun y H8 G8 g8 vr => ?_
            have hsh' : re.sh = false := by simpa using hsh
            rw [hsh'] at vr
            have g68 := g67.trans g8
            have hD8 := g68.hx D _ hHD5
            have gD8 := g68.hid D _ hHD5 hGD5
            refine ⟨bv, hD8, ?_, hlt5, G8, bv ++ [y], bd ++ [re.dt], ri', ?_, gx5.trans g68.gx, ?_, ?_, upd_same, gD8, (den5.mono g68.gx).append (.one vr.den), hri', ?_⟩
            · rw [den5.length]
              have : bd.length < out.length := by rw [hout5]; simp
              exact Nat.lt_of_lt_of_le (Nat.lt_of_lt_of_le this hlen) (lim_ok (Nat.le_refl _))
            · intro a o k
              by_cases e : a = D
              · subst e
                rw [gD8] at k
                cases k
              · rw [upd_ne e]
                exact g8.sub a o k
            · intro a o ne k
              rw [upd_ne ne]
              exact g68.hx a o (hx5 a o ne k)
            · intro a o k n
              by_cases e : a = D
              · subst e
                exact gD8
              · exact g68.hid a o (hx5 a o e k) (hid5 a o k n)
            · rw [hout5]
              simp
      · have e : j = es.length := by omega
        subst e
        refine .inl ⟨jok1.stop _ H5 G5 st5 (Nat.le_refl _), ?_⟩
        rw [List.drop_length] at hri
        cases hri
        rw [List.append_nil] at hout5
        exact ⟨hlt, G5, bv, bd, ro', sub5, gx15, hx15, hid15, hHD5, hGD5, den5, hro', hout5⟩
  · have e : i = ds.length := by omega
    subst e
    refine .inl ⟨jok.stop _ H' G' st (Nat.le_refl _), ?_⟩
    rw [List.drop_length] at hro
    cases hro
    rw [List.append_nil] at hout
    subst hout
    refine q _ H' G' (g1.trans ⟨hx, gx, hid, sub⟩) ⟨D, _, rfl, g1.hx.back hD, hHD, hGD, den⟩
theorem je_lc2 {elt tg iter tg1 iter1 : Expr} {ifs ifs1 : List Expr} {scope : Scope} {pos : Pos} {js js1 : List Nat} {fi fj : IF} {g h : GF} {ft fu : TF} {fe : EF} (own own1 : List (Str × Nat)) (hc : X.calm = true) (hN : X.N.Nodup) (hi : JI X cm tg iter fi) (ok : blkC X.N X.env.scope scope own = true) (ho : ∀ i ∈ own1.map (·.2), i ∈ own.map (·.2))
    (hg : ∀ (s : Shared) (H : Hp) (C : Addr) (cl : List (Str × Addr)) (fp : List Addr), JG (X.blk s H scope (compEnvC scope cl C X.env) fp) cm tg js g) (hj : ∀ j ∈ js, j ∈ own.map (·.2))
    (ht : ∀ (s : Shared) (H : Hp) (C : Addr) (cl : List (Str × Addr)) (fp : List Addr), JTs (X.blk s H scope (compEnvC scope cl C X.env) fp) cm ifs ft)
    (hi1 : ∀ (s : Shared) (H : Hp) (C : Addr) (cl : List (Str × Addr)) (fp : List Addr), JI (X.blk s H scope (compEnvC scope cl C X.env) fp) cm tg1 iter1 fj)
    (hg1 : ∀ (s : Shared) (H : Hp) (C : Addr) (cl : List (Str × Addr)) (fp : List Addr), JG (X.blk s H scope (compEnvC scope cl C X.env) fp) cm tg1 js1 h) (hj1 : ∀ j ∈ js1, j ∈ own1.map (·.2))
    (ht1 : ∀ (s : Shared) (H : Hp) (C : Addr) (cl : List (Str × Addr)) (fp : List Addr), JTs (X.blk s H scope (compEnvC scope cl C X.env) fp) cm ifs1 fu)
    (he : ∀ (s : Shared) (H : Hp) (C : Addr) (cl : List (Str × Addr)) (fp : List Addr), JE (X.blk s H scope (compEnvC scope cl C X.env) fp) cm elt fe) (hs : ∀ x, foldedSetIterable iter X.env x = pure x := by intro _; rfl) (hs1 : ∀ env x, foldedSetIterable iter1 env x = pure x := by intro _ _; rfl) :
    JE X cm (.ListComp elt [⟨tg, iter, ifs, 0⟩, ⟨tg1, iter1, ifs1, 0⟩] scope pos) (eComp2 (own.map (·.2)) (own1.map (·.2)) fi g ft fj h fu fe) := by
  refine ⟨fun env r σ H G hf rel Q q => to_e (pe_lc2 (vs1 := own1.map (·.2)) hc hN pi_w (blkOk_by ok) ho (fun _ _ _ _ _ => pg_B) (fun _ _ _ _ _ => pt_B) (fun _ _ _ _ _ => pi_B) (fun _ _ _ _ _ => pg_B) (fun _ _ _ _ _ => pt_B) (fun _ _ _ _ _ => pe_B) hs hs1) (je_comp2 own own1 hc hN hi ok ho hg hj ht hi1 hg1 hj1 ht1 he hs hs1 env r σ H G hf rel Q q)⟩
/-- name = [two clauses] -/
theorem js_asgLc2 {x : Str} {pos1 py : Pos} {elt tg iter tg1 iter1 : Expr} {ifs ifs1 : List Expr} {scope : Scope} {pos : Pos} {js js1 : List Nat} {fi fj : IF} {g h : GF} {ft fu : TF} {fe : EF} (i : Nat) (own own1 : List (Str × Nat)) (hc : X.calm = true) (hN : X.N.Nodup) (hy : X.N[i]? = some x) (hyl : X.env.scope.names.lookup x = some .local) (hsw : swapsWith (.ListComp elt [⟨tg, iter, ifs, 0⟩, ⟨tg1, iter1, ifs1, 0⟩] scope pos) (some (.Name x py)) pos1.line X.env = pure true) (hi : JI X cm tg iter fi) (ok : blkC X.N X.env.scope scope own = true) (ho : ∀ i ∈ own1.map (·.2), i ∈ own.map (·.2))
    (hg : ∀ (s : Shared) (H : Hp) (C : Addr) (cl : List (Str × Addr)) (fp : List Addr), JG (X.blk s H scope (compEnvC scope cl C X.env) fp) cm tg js g) (hj : ∀ j ∈ js, j ∈ own.map (·.2))
    (ht : ∀ (s : Shared) (H : Hp) (C : Addr) (cl : List (Str × Addr)) (fp : List Addr), JTs (X.blk s H scope (compEnvC scope cl C X.env) fp) cm ifs ft)
    (hi1 : ∀ (s : Shared) (H : Hp) (C : Addr) (cl : List (Str × Addr)) (fp : List Addr), JI (X.blk s H scope (compEnvC scope cl C X.env) fp) cm tg1 iter1 fj)
    (hg1 : ∀ (s : Shared) (H : Hp) (C : Addr) (cl : List (Str × Addr)) (fp : List Addr), JG (X.blk s H scope (compEnvC scope cl C X.env) fp) cm tg1 js1 h) (hj1 : ∀ j ∈ js1, j ∈ own1.map (·.2))
    (ht1 : ∀ (s : Shared) (H : Hp) (C : Addr) (cl : List (Str × Addr)) (fp : List Addr), JTs (X.blk s H scope (compEnvC scope cl C X.env) fp) cm ifs1 fu)
    (he : ∀ (s : Shared) (H : Hp) (C : Addr) (cl : List (Str × Addr)) (fp : List Addr), JE (X.blk s H scope (compEnvC scope cl C X.env) fp) cm elt fe) (hs : ∀ x, foldedSetIterable iter X.env x = pure x := by intro _; rfl) (hs1 : ∀ env x, foldedSetIterable iter1 env x = pure x := by intro _ _; rfl) :
    JS X cm (.Assign [.Name x py] (.ListComp elt [⟨tg, iter, ifs, 0⟩, ⟨tg1, iter1, ifs1, 0⟩] scope pos) pos1) (wAsg i (eComp2 (own.map (·.2)) (own1.map (·.2)) fi g ft fj h fu fe)) := by
  refine ⟨fun env D' σ H G hw rel D o => to_s (ps_setLc2 (vs1 := own1.map (·.2)) hc hN hy hyl hsw pi_w (blkOk_by ok) ho (fun _ _ _ _ _ => pg_B) (fun _ _ _ _ _ => pt_B) (fun _ _ _ _ _ => pi_B) (fun _ _ _ _ _ => pg_B) (fun _ _ _ _ _ => pt_B) (fun _ _ _ _ _ => pe_B) hs hs1) ?_⟩
  obtain ⟨r, h1, h2, h3⟩ := hw
  refine je_comp2 own own1 hc hN hi ok ho hg hj ht hi1 hg1 hj1 ht1 he hs hs1 env r σ H G h1 rel _ fun v H1 G1 g1 rr => ?_
  exact asg_nx rel g1 rr h2 h3 o
end
end Pyl
end
section
set_option Elab.async false
set_option linter.all false
set_option maxRecDepth 100000
set_option maxHeartbeats 2000000
namespace Pyl
open PySem L2
/-! ### sum of a tuple or a list -/
def rSumT (K : PySem.W.Frag) : List V → Hp → VK → Prop := fun vs H Q => ∃ (a : Addr) (ns : List Int), vs = [V.ref a] ∧ (SqL K H a (ns.map V.int) ∨ SqT K H a (ns.map V.int)) ∧ Q (.int ns.sum) H
section
variable {X : Cx} {cm : Nat → Addr}
theorem cr_sumT (hc : X.calm = true) : CallR X (.builtin "sum") (rSumT X.K) := by
  intro pins s σ H vs us Q I r h
  obtain ⟨a, ns, rfl, hs | hs, q⟩ := h
  · obtain ⟨its, rv, hl, _⟩ := I.list hs
    rw [Vals.ref1 r]
    exact sum_raw (I.ok.hd hc) hl.isList rv.ints fun h' tk t' hk => ⟨.int _, H, I.kept hk, ⟨_, rfl⟩, q⟩
  · obtain ⟨its, rv, hl, _⟩ := I.tuple hs
    rw [Vals.ref1 r]
    have hi := rv.ints
    obtain ⟨xs, hx⟩ := hi.allInts.items
    have hn : numsOf its.toArray.toList = ns := by rw [show its.toArray.toList = its from rfl]; exact hi.numsOf
    obtain ⟨o, e1, e2, n, e3⟩ := hl
    have ht : s.heap.IsTuple a its.toArray := ⟨o, e1, e2, n, e3⟩
    rw [hx] at ht hn
    rw [nums_intItems] at hn
    refine PySem.W.ktm_sumG (I.ok.hd hc) ht fun h' tk t' hk => ?_
    have := (⟨.int _, H, I.kept hk, ⟨_, rfl⟩, q⟩ : EP X pins σ Q (.int ns.sum t') { s with heap := h', toks := tk })
    rw [preSum_eq, List.take_of_length_le (by simp), hn]
    exact this
theorem DenL.ints' {K : PySem.W.Frag} {G : Hp} : ∀ {vs : List V} {ds : List Dt} {ns : List Int}, DenL K cm G vs ds → intsOf ds = some ns → vs = ns.map V.int := fun h e => (den_ints h e).2
theorem p1_sumT (hc : X.calm = true) : P1 X cm (.builtin "sum") pSumA := ⟨_, cr_sumT hc, fun d b out v H G vr sub hp Q q => by
  unfold pSumA at hp
  split at hp
  · obtain ⟨ns, h1, hp⟩ := Option.map_eq_some_iff.mp hp
    subst hp
    obtain ⟨l, vs, rfl, s1, n1⟩ := vr.lst sub
    have e := n1.ints' h1
    subst e
    exact ⟨l, ns, rfl, .inl s1, q _ _ _ (.refl sub) (Den.int _)⟩
  · obtain ⟨ns, h1, hp⟩ := Option.map_eq_some_iff.mp hp
    subst hp
    obtain ⟨l, vs, rfl, s1, _, n1⟩ := vr.tup sub
    have e := n1.ints' h1
    subst e
    exact ⟨l, ns, rfl, .inr s1, q _ _ _ (.refl sub) (Den.int _)⟩
  · cases hp⟩
end
section
variable {P : Program} {w : World} {K : PySem.W.Frag} {mg : Str → Option Value} {base : Heap} {cm : Nat → Addr}
/-- a def of which nothing is promised -/
theorem fn_none {f : Addr} {fd : FuncData} {ps : List Str} {k : Nat} {F : FN} (h : ∀ ds, F ds = none) : FnOk P w K mg base CX0 k f fd ps (spP K cm F) where
  len := by
    intro vs H Q E hs
    obtain ⟨_, ds, _, _, _, e, _⟩ := hs
    rw [h] at e
    cases e
  run := by
    intro A outer s H args us vs Q E hr he hb hv hs
    obtain ⟨_, ds, _, _, _, e, _⟩ := hs
    rw [h] at e
    cases e
theorem MsC.meth {j k : Nat} {m : Str} {ms : MT} (h : MsC (MethC P w K mg base cm j m) ms) (l : j ≤ k) : MsC (MethC P w K mg base cm k m) ms := fun c F e => (h c F e).mono l
end
end Pyl
end
section
set_option Elab.async false
set_option linter.all false
set_option maxRecDepth 100000
set_option maxHeartbeats 4000000
set_option pp.maxSteps 300
namespace Pyl
open PySem L2
def topS (i : Nat) : Stmt := PySem.Challenge.pw_fooledortold_k54_near_sums_whole.main.body.getD i (.Pass ⟨0, 0, 0, 0⟩)
abbrev s__law_digits : Stmt := topS 56
abbrev s__law_cell : Stmt := topS 55
abbrev s__law_whole : Stmt := topS 54
abbrev s__law_leaf : Stmt := topS 61
abbrev s__law_number : Stmt := topS 59
abbrev s__law_answer : Stmt := topS 62
abbrev s__law_bits : Stmt := topS 58
abbrev s__law_truth : Stmt := topS 63
abbrev s__law_pair_judge : Stmt := topS 66
abbrev s__law_gates : Stmt := topS 65
abbrev s__law_node : Stmt := topS 64
abbrev s__law_judge : Stmt := topS 67
abbrev s__law_near_table : Stmt := topS 70
abbrev s_is_whole : Stmt := topS 9
abbrev s_is_bit : Stmt := topS 10
abbrev s_is_bits : Stmt := topS 11
abbrev s_is_layer : Stmt := topS 35
abbrev s_check_reader : Stmt := topS 36
abbrev s_Reader____init__ : Stmt := inClass (topS 37) 0
abbrev s_Table____init__ : Stmt := inClass (topS 41) 0
abbrev s_is_gate : Stmt := topS 28
abbrev s_check_gates : Stmt := topS 29
abbrev s_Circuit____init__ : Stmt := inClass (topS 31) 0
abbrev s_is_look : Stmt := topS 43
abbrev s_bad_path : Stmt := topS 44
abbrev s_joined_node : Stmt := topS 46
abbrev s_parts_of : Stmt := topS 45
abbrev s_Tree____init__ : Stmt := inClass (topS 52) 0
abbrev s__law_build : Stmt := topS 68
abbrev s__law_surplus : Stmt := topS 71
abbrev s__law_more : Stmt := topS 72
abbrev s_most_near : Stmt := topS 21
abbrev s__law_most_right : Stmt := topS 74
abbrev s__law_sum_agree : Stmt := topS 69
abbrev s_turned_step : Stmt := topS 15
abbrev s_turned_numbers : Stmt := topS 16
abbrev s_Reader__truth : Stmt := inClass (topS 37) 4
abbrev s_Table__truth : Stmt := inClass (topS 41) 2
abbrev s_number_of : Stmt := topS 13
abbrev s_Circuit____call__ : Stmt := inClass (topS 31) 3
abbrev s_row_of : Stmt := topS 12
abbrev s_Circuit__truth : Stmt := inClass (topS 31) 4
abbrev s_leaf_of : Stmt := topS 47
abbrev s_Tree__truth : Stmt := inClass (topS 52) 4
abbrev s_signed_answers : Stmt := topS 18
abbrev s_is_near : Stmt := topS 19
abbrev s_near_sums : Stmt := topS 20
abbrev s__law_is_row : Stmt := topS 60
abbrev s__law_near_right : Stmt := topS 73
abbrev s__law_power : Stmt := topS 57
abbrev s_law : Stmt := topS 75
section
variable {P : Program} {w : World} {K : PySem.W.Frag} {mg : Str → Option Value} {base : Heap} {cm : Nat → Addr} {f : Addr} {fd : FuncData}
theorem sc__law_digits : FnScope ["cell", "sizes", "row", "rest", "seed", "k", "size", "twice"] ["cell", "sizes"] (defScope s__law_digits) := ⟨rfl, rfl, rfl, by decide +kernel, rfl, by decide +kernel, by decide +kernel⟩
theorem ok__law_digits (Fu : Fun K "_law_digits" "_law_digits" s__law_digits f fd) (m_int : mg "int" = none) (m_len : mg "len" = none) (m_range : mg "range" = none)  : FnOk P w K mg base CX0 1 f fd ["cell", "sizes"] (spP K cm F__law_digits) :=
  have scN := sc__law_digits
  fn_ok Fu scN len__law_digits w__law_digits k__law_digits fun cdv A outer s H E hr =>
  (jss_cons (js_asg 2 scN.nd (je_lst ja_nil))
  (jss_cons (js_asg 3 scN.nd (je_ty1 p1_int (by rfl) m_int (by decide +kernel) (je_var 0)))
  (jss_cons (js_if (jt_cmp p2_ge (je_var 3) (je_bin p2_pow je_int je_int))
  (jss_cons (js_asg 3 scN.nd (je_bin p2_sub (je_var 3) (je_bin p2_pow je_int je_int)))
  (jss_cons (js_for PassesOwn.never rfl (ji_seq (je_var 1)) (jg_name 6 scN.nd)
  (jss_cons (js_app 2 (je_bin p2_mod (je_ty1 p1_int (by rfl) m_int (by decide +kernel) (je_var 3)) (je_var 6)))
  (jss_one (js_asg 3 scN.nd (je_bin p2_div (je_ty1 p1_int (by rfl) m_int (by decide +kernel) (je_var 3)) (je_var 6))))))
  (jss_frz 2 (jss_one (js_ret (je_var 2))))))
  jss_nil)
  (jss_cons (js_asg 4 scN.nd (je_bin p2_mod (je_ty1 p1_int (by rfl) m_int (by decide +kernel) (je_var 3)) je_int))
  (jss_cons (js_for PassesOwn.never rfl (ji_range1 (by rfl) m_range (je_b1 p1_len (by rfl) m_len (by decide +kernel) (je_var 1))) (jg_name 5 scN.nd)
  (jss_cons (js_asg 4 scN.nd (je_bin p2_mod (je_ty1 p1_int (by rfl) m_int (by decide +kernel) (je_bin p2_add (je_bin p2_add (je_bin p2_mul (je_var 4) je_int) (je_bin p2_mul je_int (je_var 5))) je_int)) je_int))
  (jss_cons (js_asg 7 scN.nd (je_bin p2_mod (je_ty1 p1_int (by rfl) m_int (by decide +kernel) (je_bin p2_mul (je_var 4) (je_bin p2_add (je_bin p2_div (je_var 4) je_int) je_int))) je_int))
  (jss_one (js_app 2 (je_bin p2_mod (je_bin p2_div (je_var 7) je_int) (je_ix (je_var 1) (je_var 5))))))))
  (jss_frz 2 (jss_one (js_ret (je_var 2)))))))))
theorem sc__law_cell : FnScope ["script", "k", "seed", "cell"] ["script", "k"] (defScope s__law_cell) := ⟨rfl, rfl, rfl, by decide +kernel, rfl, by decide +kernel, by decide +kernel⟩
theorem ok__law_cell (Fu : Fun K "_law_cell" "_law_cell" s__law_cell f fd) (m_int : mg "int" = none) (m_len : mg "len" = none)  : FnOk P w K mg base CX0 1 f fd ["script", "k"] (spP K cm F__law_cell) :=
  have scN := sc__law_cell
  fn_ok Fu scN len__law_cell w__law_cell k__law_cell fun cdv A outer s H E hr =>
  (jss_cons (js_if (jt_cmp p2_lt (je_var 1) (je_b1 p1_len (by rfl) m_len (by decide +kernel) (je_var 0)))
  (jss_one (js_ret (je_ix (je_var 0) (je_var 1))))
  jss_nil)
  (jss_cons (js_asg 2 scN.nd je_int)
  (jss_cons (js_for PassesOwn.never rfl (ji_seq (je_var 0)) (jg_name 3 scN.nd)
  (jss_one (js_asg 2 scN.nd (je_bin p2_mod (je_ty1 p1_int (by rfl) m_int (by decide +kernel) (je_bin p2_add (je_bin p2_mul (je_var 2) je_int) (je_bin p2_mod (je_ty1 p1_int (by rfl) m_int (by decide +kernel) (je_var 3)) je_int))) je_int))))
  (jss_one (js_ret (je_bin p2_mod (je_ty1 p1_int (by rfl) m_int (by decide +kernel) (je_bin p2_mul (je_bin p2_mul (je_bin p2_add (je_var 2) je_int) (je_bin p2_add (je_var 1) je_int)) je_int)) je_int))))))
theorem sc__law_whole : FnScope ["value"] ["value"] (defScope s__law_whole) := ⟨rfl, rfl, rfl, by decide +kernel, rfl, by decide +kernel, by decide +kernel⟩
theorem ok__law_whole (Fu : Fun K "_law_whole" "_law_whole" s__law_whole f fd) (m_bool : mg "bool" = none) (m_int : mg "int" = none) (m_isinstance : mg "isinstance" = none)  : FnOk P w K mg base CX0 1 f fd ["value"] (spP K cm F__law_whole) :=
  have scN := sc__law_whole
  fn_ok Fu scN len__law_whole w__law_whole k__law_whole fun cdv A outer s H E hr =>
  (jss_one (js_ret (je_and (je_isi (T := "int") (by decide +kernel) (by rfl) m_isinstance (by rfl) m_int (by decide +kernel) (je_var 0)) (je_one (je_not (je_isi (T := "bool") (by decide +kernel) (by rfl) m_isinstance (by rfl) m_bool (by decide +kernel) (je_var 0)))))))
theorem sc__law_leaf : FnScope ["node", "row", "here", "k"] ["node", "row"] (defScope s__law_leaf) := ⟨rfl, rfl, rfl, by decide +kernel, rfl, by decide +kernel, by decide +kernel⟩
theorem ok__law_leaf (Fu : Fun K "_law_leaf" "_law_leaf" s__law_leaf f fd) (m_range : mg "range" = none) (c__law_whole : FnC P w K mg base cm 1 "_law_whole" F__law_whole) : FnOk P w K mg base CX0 2 f fd ["node", "row"] (spP K cm F__law_leaf) :=
  have scN := sc__law_leaf
  fn_ok Fu scN len__law_leaf w__law_leaf k__law_leaf fun cdv A outer s H E hr =>
  (jss_cons (js_asg 2 scN.nd (je_var 0))
  (jss_cons (js_for PassesOwn.never rfl (ji_range1 (by rfl) m_range je_int) (jg_name 3 scN.nd)
  (jss_cons (js_if (jt_val (je_call c__law_whole (hr.mono (by decide)) (by rfl) (ja_cons (je_var 2) ja_nil)))
  (jss_one js_break)
  jss_nil)
  (jss_one (js_asg 2 scN.nd (je_ix (je_var 2) (je_bin p2_add je_int (je_ix (je_var 1) (je_ix (je_var 2) je_int))))))))
  (jss_one (js_ret (je_var 2)))))
theorem sc__law_number : FnScope ["row", "number", "sign"] ["row"] (defScope s__law_number) := ⟨rfl, rfl, rfl, by decide +kernel, rfl, by decide +kernel, by decide +kernel⟩
theorem ok__law_number (Fu : Fun K "_law_number" "_law_number" s__law_number f fd)   : FnOk P w K mg base CX0 1 f fd ["row"] (spP K cm F__law_number) :=
  have scN := sc__law_number
  fn_ok Fu scN len__law_number w__law_number k__law_number fun cdv A outer s H E hr =>
  (jss_cons (js_asg 1 scN.nd je_int)
  (jss_cons (js_for PassesOwn.never rfl (ji_seq (je_var 0)) (jg_name 2 scN.nd)
  (jss_one (js_asg 1 scN.nd (je_bin p2_add (je_bin p2_mul je_int (je_var 1)) (je_var 2)))))
  (jss_one (js_ret (je_var 1)))))
theorem sc__law_answer : FnScope ["spec", "row", "values", "gate", "standing", "k", "wire"] ["spec", "row"] (defScope s__law_answer) := ⟨rfl, rfl, rfl, by decide +kernel, rfl, by decide +kernel, by decide +kernel⟩
theorem ok__law_answer (Fu : Fun K "_law_answer" "_law_answer" s__law_answer f fd) (m_len : mg "len" = none) (m_list : mg "list" = none) (m_range : mg "range" = none) (c__law_number : FnC P w K mg base cm 1 "_law_number" F__law_number) (c__law_leaf : FnC P w K mg base cm 2 "_law_leaf" F__law_leaf) : FnOk P w K mg base CX0 3 f fd ["spec", "row"] (spP K cm F__law_answer) :=
  have scN := sc__law_answer
  fn_ok Fu scN len__law_answer w__law_answer k__law_answer fun cdv A outer s H E hr =>
  (jss_cons (js_if (jt_cmp (p2_eq hr.units) (je_ix (je_var 0) je_int) je_str)
  (jss_one (js_ret (je_ix (je_ix (je_var 0) je_int) (je_call c__law_number (hr.mono (by decide)) (by rfl) (ja_cons (je_var 1) ja_nil)))))
  jss_nil)
  (jss_cons (js_if (jt_cmp (p2_eq hr.units) (je_ix (je_var 0) je_int) je_str)
  (jss_one (js_ret (je_call c__law_leaf (hr.mono (by decide)) (by rfl) (ja_cons (je_ix (je_var 0) je_int) (ja_cons (je_var 1) ja_nil)))))
  jss_nil)
  (jss_cons (js_if (jt_cmp (p2_eq hr.units) (je_ix (je_var 0) je_int) je_str)
  (jss_cons (js_asg 4 scN.nd je_int)
  (jss_cons (js_for PassesOwn.never rfl (ji_range1 (by rfl) m_range (je_b1 p1_len (by rfl) m_len (by decide +kernel) (je_var 1))) (jg_name 5 scN.nd)
  (jss_one (js_asg 4 scN.nd (je_ix (je_ix (je_ix (je_ix (je_var 0) je_int) (je_var 5)) (je_var 4)) (je_ix (je_var 1) (je_var 5))))))
  (jss_one (js_ret (je_ix (je_ix (je_var 0) je_int) (je_var 4))))))
  jss_nil)
  (jss_cons (js_asg 2 scN.nd (je_ty1 p1_list (by rfl) m_list (by decide +kernel) (je_var 1)))
  (jss_cons (js_for PassesOwn.never rfl (ji_seq (je_ix (je_var 0) je_int)) (jg_name 3 scN.nd)
  (jss_one (js_app 2 (je_ix (je_ix (je_var 3) je_int) (je_call c__law_number (hr.mono (by decide)) (by rfl) (ja_cons (je_lc [("wire", 6)] rfl scN.nd (ji_seq (je_ix (je_var 3) je_int)) (blk_by ["spec", "row", "values", "gate", "standing", "k", "wire"] (defScope s__law_answer) (by decide +kernel)) (fun _ _ _ _ _ => (jg_name 6 scN.nd)) (by decide) (fun _ _ _ _ _ => jts_nil) (fun _ _ _ _ _ => (je_ix (je_var 2) (je_var 6)))) ja_nil))))))
  (jss_one (js_ret (je_ix (je_var 2) (je_neg je_int)))))))))
theorem sc__law_bits : FnScope ["number", "width", "k"] ["number", "width"] (defScope s__law_bits) := ⟨rfl, rfl, rfl, by decide +kernel, rfl, by decide +kernel, by decide +kernel⟩
theorem ok__law_bits (Fu : Fun K "_law_bits" "_law_bits" s__law_bits f fd) (m_int : mg "int" = none) (m_range : mg "range" = none) (m_tuple : mg "tuple" = none)  : FnOk P w K mg base CX0 1 f fd ["number", "width"] (spP K cm F__law_bits) :=
  have scN := sc__law_bits
  fn_ok Fu scN len__law_bits w__law_bits k__law_bits fun cdv A outer s H E hr =>
  (jss_one (js_ret (je_ty1 p1_tuple (by rfl) m_tuple (by decide +kernel) (je_lc [("k", 2)] rfl scN.nd (ji_range1 (by rfl) m_range (je_var 1)) (blk_by ["number", "width", "k"] (defScope s__law_bits) (by decide +kernel)) (fun _ _ _ _ _ => (jg_name 2 scN.nd)) (by decide) (fun _ _ _ _ _ => jts_nil) (fun _ _ _ _ _ => (je_bin p2_mod (je_ty1 p1_int (by rfl) m_int (by decide +kernel) (je_bin p2_shr (je_var 0) (je_bin p2_sub (je_bin p2_sub (je_var 1) je_int) (je_var 2)))) je_int))))))
theorem sc__law_truth : FnScope ["spec", "number"] ["spec"] (defScope s__law_truth) := ⟨rfl, rfl, rfl, by decide +kernel, rfl, by decide +kernel, by decide +kernel⟩
theorem ok__law_truth (Fu : Fun K "_law_truth" "_law_truth" s__law_truth f fd) (m_range : mg "range" = none) (c__law_answer : FnC P w K mg base cm 3 "_law_answer" F__law_answer) (c__law_bits : FnC P w K mg base cm 1 "_law_bits" F__law_bits) : FnOk P w K mg base CX0 4 f fd ["spec"] (spP K cm F__law_truth) :=
  have scN := sc__law_truth
  fn_ok Fu scN len__law_truth w__law_truth k__law_truth fun cdv A outer s H E hr =>
  (jss_one (js_ret (je_lc [("number", 1)] rfl scN.nd (ji_range1 (by rfl) m_range (je_bin p2_shl je_int (je_ix (je_var 0) je_int))) (blk_by ["spec", "number"] (defScope s__law_truth) (by decide +kernel)) (fun _ _ _ _ _ => (jg_name 1 scN.nd)) (by decide) (fun _ _ _ _ _ => jts_nil) (fun _ _ _ _ _ => (je_call c__law_answer (hr.mono (by decide)) (by rfl) (ja_cons (je_var 0) (ja_cons (je_call c__law_bits (hr.mono (by decide)) (by rfl) (ja_cons (je_var 1) (ja_cons (je_ix (je_var 0) je_int) ja_nil))) ja_nil)))))))
theorem sc__law_pair_judge : FnScope ["kind", "width", "one", "two", "sums", "layers", "number", "k"] ["kind", "width", "one", "two"] (defScope s__law_pair_judge) := ⟨rfl, rfl, rfl, by decide +kernel, rfl, by decide +kernel, by decide +kernel⟩
theorem ok__law_pair_judge (Fu : Fun K "_law_pair_judge" "_law_pair_judge" s__law_pair_judge f fd) (m_int : mg "int" = none) (m_range : mg "range" = none) (c__law_bits : FnC P w K mg base cm 1 "_law_bits" F__law_bits) : FnOk P w K mg base CX0 2 f fd ["kind", "width", "one", "two"] (spP K cm F__law_pair_judge) :=
  have scN := sc__law_pair_judge
  fn_ok Fu scN len__law_pair_judge w__law_pair_judge k__law_pair_judge fun cdv A outer s H E hr =>
  (jss_cons (js_asgLc 4 [("number", 6)] rfl scN.nd rfl rfl (sw_true rfl rfl rfl (by decide +kernel)) (ji_range1 (by rfl) m_range (je_bin p2_shl je_int (je_var 1))) (blk_by ["kind", "width", "one", "two", "sums", "layers", "number", "k"] (defScope s__law_pair_judge) (by decide +kernel)) (fun _ _ _ _ _ => (jg_name 6 scN.nd)) (by decide) (fun _ _ _ _ _ => jts_nil) (fun _ _ _ _ _ => (je_ty1 p1_int (by rfl) m_int (by decide +kernel) (je_cmp (p2_ne hr.units) (je_ix (je_call c__law_bits (hr.mono (by decide)) (by rfl) (ja_cons (je_var 6) (ja_cons (je_var 1) ja_nil))) (je_var 2)) (je_ix (je_call c__law_bits (hr.mono (by decide)) (by rfl) (ja_cons (je_var 6) (ja_cons (je_var 1) ja_nil))) (je_var 3))))))
  (jss_frz 4 (jss_cons (js_if (jt_cmp (p2_eq hr.units) (je_var 2) (je_var 3))
  (jss_one (js_asgLc 4 [("number", 6)] rfl scN.nd rfl rfl (sw_true rfl rfl rfl (by decide +kernel)) (ji_range1 (by rfl) m_range (je_bin p2_shl je_int (je_var 1))) (blk_by ["kind", "width", "one", "two", "sums", "layers", "number", "k"] (defScope s__law_pair_judge) (by decide +kernel)) (fun _ _ _ _ _ => (jg_name 6 scN.nd)) (by decide) (fun _ _ _ _ _ => jts_nil) (fun _ _ _ _ _ => (je_ix (je_call c__law_bits (hr.mono (by decide)) (by rfl) (ja_cons (je_var 6) (ja_cons (je_var 1) ja_nil))) (je_var 2)))))
  jss_nil)
  (jss_cons (js_if (jt_cmp (p2_eq hr.units) (je_var 0) je_str)
  (jss_frz 4 (jss_one (js_ret (je_lst (ja_cons je_str (ja_cons (je_var 1) (ja_cons (je_var 4) ja_nil)))))))
  jss_nil)
  (jss_cons (js_if (JW.t (jw_and (jt_cmp (p2_eq hr.units) (je_var 0) je_str) (jw_and1 (jt_cmp (p2_eq hr.units) (je_var 2) (je_var 3)))))
  (jss_one (js_ret (je_lst (ja_cons je_str (ja_cons (je_var 1) (ja_cons (je_lst (ja_cons (je_var 2) (ja_cons je_int (ja_cons je_int ja_nil)))) ja_nil))))))
  jss_nil)
  (jss_cons (js_if (jt_cmp (p2_eq hr.units) (je_var 0) je_str)
  (jss_one (js_ret (je_lst (ja_cons je_str (ja_cons (je_var 1) (ja_cons (je_lst (ja_cons (je_var 2) (ja_cons (je_lst (ja_cons (je_var 3) (ja_cons je_int (ja_cons je_int ja_nil)))) (ja_cons (je_lst (ja_cons (je_var 3) (ja_cons je_int (ja_cons je_int ja_nil)))) ja_nil)))) ja_nil))))))
  jss_nil)
  (jss_cons (js_if (JW.t (jw_and (jt_cmp (p2_eq hr.units) (je_var 0) je_str) (jw_and1 (jt_cmp (p2_eq hr.units) (je_var 2) (je_var 3)))))
  (jss_one (js_ret (je_lst (ja_cons je_str (ja_cons (je_var 1) (ja_cons (je_lst (ja_cons (je_lst (ja_cons (je_lst (ja_cons (je_var 2) ja_nil)) (ja_cons (je_lst (ja_cons je_int (ja_cons je_int ja_nil))) ja_nil))) ja_nil)) ja_nil))))))
  jss_nil)
  (jss_cons (js_if (jt_cmp (p2_eq hr.units) (je_var 0) je_str)
  (jss_one (js_ret (je_lst (ja_cons je_str (ja_cons (je_var 1) (ja_cons (je_lst (ja_cons (je_lst (ja_cons (je_lst (ja_cons (je_var 2) (ja_cons (je_var 3) ja_nil))) (ja_cons (je_lst (ja_cons je_int (ja_cons je_int (ja_cons je_int (ja_cons je_int ja_nil))))) ja_nil))) ja_nil)) ja_nil))))))
  jss_nil)
  (jss_cons (js_asgLc 5 [("k", 7)] rfl scN.nd rfl rfl (sw_true rfl rfl rfl (by decide +kernel)) (ji_range1 (by rfl) m_range (je_var 1)) (blk_by ["kind", "width", "one", "two", "sums", "layers", "number", "k"] (defScope s__law_pair_judge) (by decide +kernel)) (fun _ _ _ _ _ => (jg_name 7 scN.nd)) (by decide) (fun _ _ _ _ _ => jts_nil) (fun _ _ _ _ _ => (je_lst (ja_cons (je_lst (ja_cons je_int (ja_cons je_int ja_nil))) (ja_cons (je_lst (ja_cons je_int (ja_cons je_int ja_nil))) ja_nil)))))
  (jss_cons (js_put 5 (je_lst (ja_cons (je_lst (ja_cons je_int (ja_cons je_int ja_nil))) (ja_cons (je_lst (ja_cons je_int (ja_cons je_int ja_nil))) ja_nil))) (je_var 2))
  (jss_cons (js_put 5 (je_lst (ja_cons (je_lst (ja_cons je_int (ja_cons je_int ja_nil))) (ja_cons (je_lst (ja_cons je_int (ja_cons je_int ja_nil))) ja_nil))) (je_var 3))
  (jss_frz 5 (jss_one (js_ret (je_lst (ja_cons je_str (ja_cons (je_var 1) (ja_cons (je_var 5) (ja_cons (je_lst (ja_cons je_int (ja_cons je_int ja_nil))) ja_nil)))))))))))))))))))
theorem sc__law_gates : FnScope ["width", "row", "gates", "k", "part", "many", "wires", "word", "j"] ["width", "row"] (defScope s__law_gates) := ⟨rfl, rfl, rfl, by decide +kernel, rfl, by decide +kernel, by decide +kernel⟩
theorem ok__law_gates (Fu : Fun K "_law_gates" "_law_gates" s__law_gates f fd) (m_int : mg "int" = none) (m_range : mg "range" = none)  : FnOk P w K mg base CX0 1 f fd ["width", "row"] (spP K cm F__law_gates) :=
  have scN := sc__law_gates
  fn_ok Fu scN len__law_gates w__law_gates k__law_gates fun cdv A outer s H E hr =>
  (jss_cons (js_asg 2 scN.nd (je_lst ja_nil))
  (jss_cons (js_for PassesOwn.never rfl (ji_range1 (by rfl) m_range (je_bin p2_add je_int (je_bin p2_mod (je_ix (je_var 1) je_int) je_int))) (jg_name 3 scN.nd)
  (jss_cons (js_asg 4 scN.nd (je_slice (je_var 1) (jo_some (je_bin p2_add je_int (je_bin p2_mul je_int (je_var 3)))) (jo_some (je_bin p2_add je_int (je_bin p2_mul je_int (je_var 3))))))
  (jss_frz 4 (jss_cons (js_asg 5 scN.nd (je_ix (je_lst (ja_cons je_int (ja_cons je_int (ja_cons je_int (ja_cons je_int (ja_cons je_int (ja_cons je_int (ja_cons je_int (ja_cons je_int ja_nil))))))))) (je_bin p2_mod (je_ty1 p1_int (by rfl) m_int (by decide +kernel) (je_ix (je_var 4) je_int)) je_int)))
  (jss_cons (js_if (jt_cmp (p2_eq hr.units) (je_bin p2_add (je_var 0) (je_var 3)) je_int)
  (jss_one (js_asg 5 scN.nd je_int))
  jss_nil)
  (jss_cons (js_asgLc 6 [("j", 8)] rfl scN.nd rfl rfl (sw_true rfl rfl rfl (by decide +kernel)) (ji_range1 (by rfl) m_range (je_var 5)) (blk_by ["width", "row", "gates", "k", "part", "many", "wires", "word", "j"] (defScope s__law_gates) (by decide +kernel)) (fun _ _ _ _ _ => (jg_name 8 scN.nd)) (by decide) (fun _ _ _ _ _ => jts_nil) (fun _ _ _ _ _ => (je_bin p2_mod (je_ty1 p1_int (by rfl) m_int (by decide +kernel) (je_ix (je_var 4) (je_bin p2_add je_int (je_var 8)))) (je_bin p2_add (je_var 0) (je_var 3)))))
  (jss_cons (js_if (JW.t (jw_and (jt_cmp p2_gt (je_var 3) je_int) (jw_and1 (jt_cmp p2_gt (je_var 5) je_int))))
  (jss_one (js_put 6 (je_bin p2_sub (je_bin p2_add (je_var 0) (je_var 3)) je_int) je_int))
  jss_nil)
  (jss_cons (js_asg 7 scN.nd (je_bin p2_add (je_ix (je_var 4) je_int) (je_bin p2_mul je_int (je_ix (je_var 4) je_int))))
  (jss_frz 6 (jss_one (js_app 2 (je_lst (ja_cons (je_var 6) (ja_cons (je_lc [("j", 8)] rfl scN.nd (ji_range1 (by rfl) m_range (je_bin p2_shl je_int (je_var 5))) (blk_by ["width", "row", "gates", "k", "part", "many", "wires", "word", "j"] (defScope s__law_gates) (by decide +kernel)) (fun _ _ _ _ _ => (jg_name 8 scN.nd)) (by decide) (fun _ _ _ _ _ => jts_nil) (fun _ _ _ _ _ => (je_bin p2_mod (je_ty1 p1_int (by rfl) m_int (by decide +kernel) (je_bin p2_shr (je_var 7) (je_var 8))) je_int))) ja_nil))))))))))))))
  (jss_frz 2 (jss_one (js_ret (je_var 2))))))
theorem sc__law_node : FnScope ["places", "row", "depth", "at", "rest", "half"] ["places", "row", "depth"] (defScope s__law_node) := ⟨rfl, rfl, rfl, by decide +kernel, rfl, by decide +kernel, by decide +kernel⟩
theorem ok__law_node (Fu : Fun K "_law_node" "_law_node" s__law_node f fd) (m_int : mg "int" = none) (m_len : mg "len" = none)  (mf : mg "_law_node" = some (.ref f)) (bf : Binds K fd ["places", "row", "depth"] []) : ∀ i, FnOk P w K mg base CX0 (1 + i) f fd ["places", "row", "depth"] (spP K cm (F__law_node i))
  | 0 => fn_none fun _ => rfl
  | i + 1 => by
    have scN := sc__law_node
    have c__law_node : FnC P w K mg base cm (1 + i) "_law_node" (F__law_node i) := ⟨f, fd, _, ok__law_node Fu m_int m_len mf bf i, mf, Fu.kp, bf⟩
    exact fn_ok (k := 1 + i) Fu scN (recF_len (n := 6) (k := 3) (w := w__law_node) (i + 1)) (w__law_node (F__law_node i)) getF_keeps fun cdv A outer s H E hr =>
  (jss_cons (js_if (JW.t (jw_or (jt_cmp (p2_eq hr.units) (je_var 2) je_int) (jw_or (jt_cmp (p2_eq hr.units) (je_b1 p1_len (by rfl) m_len (by decide +kernel) (je_var 0)) je_int) (jw_or1 (jt_cmp p2_lt (je_ix (je_var 1) je_int) je_int)))))
  (jss_one (js_ret (je_bin p2_mod (je_ty1 p1_int (by rfl) m_int (by decide +kernel) (je_ix (je_var 1) je_int)) je_int)))
  jss_nil)
  (jss_cons (js_asg 3 scN.nd (je_bin p2_mod (je_ty1 p1_int (by rfl) m_int (by decide +kernel) (je_bin p2_div (je_ix (je_var 1) je_int) je_int)) (je_b1 p1_len (by rfl) m_len (by decide +kernel) (je_var 0))))
  (jss_cons (js_asg 4 scN.nd (je_bin p2_add (je_slice (je_var 0) jo_none (jo_some (je_var 3))) (je_slice (je_var 0) (jo_some (je_bin p2_add (je_var 3) je_int)) jo_none)))
  (jss_frz 4 (jss_cons (js_asg 5 scN.nd (je_bin p2_div (je_bin p2_sub (je_b1 p1_len (by rfl) m_len (by decide +kernel) (je_var 1)) je_int) je_int))
  (jss_one (js_ret (je_lst (ja_cons (je_ix (je_var 0) (je_var 3)) (ja_cons (je_call c__law_node (hr.mono (by omega)) (by rfl) (ja_cons (je_var 4) (ja_cons (je_slice (je_var 1) (jo_some je_int) (jo_some (je_bin p2_add je_int (je_var 5)))) (ja_cons (je_bin p2_sub (je_var 2) je_int) ja_nil)))) (ja_cons (je_call c__law_node (hr.mono (by omega)) (by rfl) (ja_cons (je_var 4) (ja_cons (je_slice (je_var 1) (jo_some (je_bin p2_add je_int (je_var 5))) (jo_some (je_bin p2_add je_int (je_bin p2_mul je_int (je_var 5))))) (ja_cons (je_bin p2_sub (je_var 2) je_int) ja_nil)))) ja_nil)))))))))))
theorem sc__law_judge : FnScope ["script", "at", "width", "depth", "kind", "row", "spec", "truth", "many", "layers", "k", "part", "j"] ["script", "at", "width", "depth"] (defScope s__law_judge) := ⟨rfl, rfl, rfl, by decide +kernel, rfl, by decide +kernel, by decide +kernel⟩
theorem ok__law_judge (Fu : Fun K "_law_judge" "_law_judge" s__law_judge f fd) (m_int : mg "int" = none) (m_len : mg "len" = none) (m_range : mg "range" = none) (m_sum : mg "sum" = none) (c__law_digits : FnC P w K mg base cm 1 "_law_digits" F__law_digits) (c__law_cell : FnC P w K mg base cm 1 "_law_cell" F__law_cell) (c__law_gates : FnC P w K mg base cm 1 "_law_gates" F__law_gates) (c__law_node : FnC P w K mg base cm 9 "_law_node" (F__law_node 8)) (c__law_truth : FnC P w K mg base cm 4 "_law_truth" F__law_truth) (c__law_pair_judge : FnC P w K mg base cm 2 "_law_pair_judge" F__law_pair_judge) : FnOk P w K mg base CX0 10 f fd ["script", "at", "width", "depth"] (spP K cm F__law_judge) :=
  have scN := sc__law_judge
  fn_ok Fu scN len__law_judge w__law_judge k__law_judge fun cdv A outer s H E hr =>
  (jss_cons (js_asg 4 scN.nd (je_call c__law_digits (hr.mono (by decide)) (by rfl) (ja_cons (je_call c__law_cell (hr.mono (by decide)) (by rfl) (ja_cons (je_var 0) (ja_cons (je_var 1) ja_nil))) (ja_cons (je_lst (ja_cons je_int (ja_cons je_int (ja_cons je_int (ja_cons je_int (ja_cons je_int ja_nil)))))) ja_nil))))
  (jss_cons (js_asg 5 scN.nd (je_call c__law_digits (hr.mono (by decide)) (by rfl) (ja_cons (je_call c__law_cell (hr.mono (by decide)) (by rfl) (ja_cons (je_var 0) (ja_cons (je_bin p2_add (je_var 1) je_int) ja_nil))) (ja_cons (je_lc [("k", 10)] rfl scN.nd (ji_range1 (by rfl) m_range je_int) (blk_by ["script", "at", "width", "depth", "kind", "row", "spec", "truth", "many", "layers", "k", "part", "j"] (defScope s__law_judge) (by decide +kernel)) (fun _ _ _ _ _ => (jg_name 10 scN.nd)) (by decide) (fun _ _ _ _ _ => jts_nil) (fun _ _ _ _ _ => je_int)) ja_nil))))
  (jss_cons (js_asg 6 scN.nd (je_lst (ja_cons je_str (ja_cons (je_var 2) (ja_cons (je_lc [("k", 10)] rfl scN.nd (ji_range1 (by rfl) m_range (je_bin p2_shl je_int (je_var 2))) (blk_by ["script", "at", "width", "depth", "kind", "row", "spec", "truth", "many", "layers", "k", "part", "j"] (defScope s__law_judge) (by decide +kernel)) (fun _ _ _ _ _ => (jg_name 10 scN.nd)) (by decide) (fun _ _ _ _ _ => jts_nil) (fun _ _ _ _ _ => (je_bin p2_mod (je_ty1 p1_int (by rfl) m_int (by decide +kernel) (je_bin p2_div (je_ix (je_var 5) (je_bin p2_mod (je_ty1 p1_int (by rfl) m_int (by decide +kernel) (je_var 10)) je_int)) (je_bin p2_add je_int (je_bin p2_div (je_var 10) je_int)))) je_int))) ja_nil)))))
  (jss_frz 6 (jss_cons (js_if (jt_cmp (p2_eq hr.units) (je_ix (je_var 4) je_int) je_int)
  (jss_one (js_asg 6 scN.nd (je_lst (ja_cons je_str (ja_cons (je_var 2) (ja_cons (je_call c__law_gates (hr.mono (by decide)) (by rfl) (ja_cons (je_var 2) (ja_cons (je_var 5) ja_nil))) ja_nil))))))
  jss_nil)
  (jss_cons (js_if (jt_cmp (p2_eq hr.units) (je_ix (je_var 4) je_int) je_int)
  (jss_one (js_asg 6 scN.nd (je_lst (ja_cons je_str (ja_cons (je_var 2) (ja_cons (je_call c__law_node (hr.mono (by decide)) (by rfl) (ja_cons (je_lc [("k", 10)] rfl scN.nd (ji_range1 (by rfl) m_range (je_var 2)) (blk_by ["script", "at", "width", "depth", "kind", "row", "spec", "truth", "many", "layers", "k", "part", "j"] (defScope s__law_judge) (by decide +kernel)) (fun _ _ _ _ _ => (jg_name 10 scN.nd)) (by decide) (fun _ _ _ _ _ => jts_nil) (fun _ _ _ _ _ => (je_var 10))) (ja_cons (je_var 5) (ja_cons (je_var 3) ja_nil)))) ja_nil))))))
  jss_nil)
  (jss_cons (js_if (jt_cmp (p2_eq hr.units) (je_ix (je_var 4) je_int) je_int)
  (jss_cons (js_asg 8 scN.nd (je_ix (je_lst (ja_cons je_int (ja_cons je_int (ja_cons je_int (ja_cons je_int (ja_cons je_int (ja_cons je_int (ja_cons je_int (ja_cons je_int ja_nil))))))))) (je_ix (je_var 4) je_int)))
  (jss_cons (js_asg 9 scN.nd (je_lst ja_nil))
  (jss_cons (js_for PassesOwn.never rfl (ji_range1 (by rfl) m_range (je_var 2)) (jg_name 10 scN.nd)
  (jss_cons (js_asg 11 scN.nd (je_lc [("j", 12)] rfl scN.nd (ji_range1 (by rfl) m_range (je_bin p2_mul je_int (je_var 8))) (blk_by ["script", "at", "width", "depth", "kind", "row", "spec", "truth", "many", "layers", "k", "part", "j"] (defScope s__law_judge) (by decide +kernel)) (fun _ _ _ _ _ => (jg_name 12 scN.nd)) (by decide) (fun _ _ _ _ _ => jts_nil) (fun _ _ _ _ _ => (je_bin p2_mod (je_ty1 p1_int (by rfl) m_int (by decide +kernel) (je_ix (je_var 5) (je_bin p2_mod (je_ty1 p1_int (by rfl) m_int (by decide +kernel) (je_bin p2_add (je_bin p2_mul (je_bin p2_mul je_int (je_var 8)) (je_var 10)) (je_var 12))) je_int))) (je_var 8)))))
  (jss_frz 11 (jss_one (js_app 9 (je_lc [("j", 12)] rfl scN.nd (ji_range1 (by rfl) m_range (je_var 8)) (blk_by ["script", "at", "width", "depth", "kind", "row", "spec", "truth", "many", "layers", "k", "part", "j"] (defScope s__law_judge) (by decide +kernel)) (fun _ _ _ _ _ => (jg_name 12 scN.nd)) (by decide) (fun _ _ _ _ _ => jts_nil) (fun _ _ _ _ _ => (je_lst (ja_cons (je_ix (je_var 11) (je_bin p2_mul je_int (je_var 12))) (ja_cons (je_ix (je_var 11) (je_bin p2_add (je_bin p2_mul je_int (je_var 12)) je_int)) ja_nil))))))))))
  (jss_frz 9 (jss_one (js_asg 6 scN.nd (je_lst (ja_cons je_str (ja_cons (je_var 2) (ja_cons (je_var 9) (ja_cons (je_lc [("j", 12)] rfl scN.nd (ji_range1 (by rfl) m_range (je_var 8)) (blk_by ["script", "at", "width", "depth", "kind", "row", "spec", "truth", "many", "layers", "k", "part", "j"] (defScope s__law_judge) (by decide +kernel)) (fun _ _ _ _ _ => (jg_name 12 scN.nd)) (by decide) (fun _ _ _ _ _ => jts_nil) (fun _ _ _ _ _ => (je_bin p2_mod (je_ty1 p1_int (by rfl) m_int (by decide +kernel) (je_bin p2_div (je_ix (je_var 5) (je_bin p2_sub je_int (je_var 12))) je_int)) je_int))) ja_nil)))))))))))
  jss_nil)
  (jss_frz 6 (jss_cons (js_asg 7 scN.nd (je_call c__law_truth (hr.mono (by decide)) (by rfl) (ja_cons (je_var 6) ja_nil)))
  (jss_cons (js_if (JW.t (jw_and (jt_cmp p2_gt (je_var 2) je_int) (jw_and (jt_cmp p2_gt (je_ix (je_var 4) je_int) je_int) (jw_and1 (JW.t (jw_or (jt_cmp (p2_eq hr.units) (je_b1 (p1_sumT rfl) (by rfl) m_sum (by decide +kernel) (je_var 7)) je_int) (jw_or1 (jt_cmp (p2_eq hr.units) (je_b1 (p1_sumT rfl) (by rfl) m_sum (by decide +kernel) (je_var 7)) (je_b1 p1_len (by rfl) m_len (by decide +kernel) (je_var 7))))))))))
  (jss_one (js_asg 6 scN.nd (je_call c__law_pair_judge (hr.mono (by decide)) (by rfl) (ja_cons (je_ix (je_var 6) je_int) (ja_cons (je_var 2) (ja_cons (je_bin p2_mod (je_ty1 p1_int (by rfl) m_int (by decide +kernel) (je_ix (je_var 4) je_int)) (je_var 2)) (ja_cons (je_bin p2_mod (je_ty1 p1_int (by rfl) m_int (by decide +kernel) (je_ix (je_var 4) je_int)) (je_var 2)) ja_nil)))))))
  jss_nil)
  (jss_frz 6 (jss_one (js_ret (je_var 6))))))))))))))
theorem sc__law_near_table : FnScope ["script", "at", "width", "rows", "shape", "mask", "answers", "flips", "k", "number"] ["script", "at", "width"] (defScope s__law_near_table) := ⟨rfl, rfl, rfl, by decide +kernel, rfl, by decide +kernel, by decide +kernel⟩
theorem ok__law_near_table (Fu : Fun K "_law_near_table" "_law_near_table" s__law_near_table f fd) (m_int : mg "int" = none) (m_min : mg "min" = none) (m_range : mg "range" = none) (m_sum : mg "sum" = none) (c__law_digits : FnC P w K mg base cm 1 "_law_digits" F__law_digits) (c__law_cell : FnC P w K mg base cm 1 "_law_cell" F__law_cell) (c__law_judge : FnC P w K mg base cm 10 "_law_judge" F__law_judge) (c__law_bits : FnC P w K mg base cm 1 "_law_bits" F__law_bits) : FnOk P w K mg base CX0 11 f fd ["script", "at", "width"] (spP K cm F__law_near_table) :=
  have scN := sc__law_near_table
  fn_ok Fu scN len__law_near_table w__law_near_table k__law_near_table fun cdv A outer s H E hr =>
  (jss_cons (js_asg 3 scN.nd (je_bin p2_shl je_int (je_var 2)))
  (jss_cons (js_asg 4 scN.nd (je_call c__law_digits (hr.mono (by decide)) (by rfl) (ja_cons (je_call c__law_cell (hr.mono (by decide)) (by rfl) (ja_cons (je_var 0) (ja_cons (je_var 1) ja_nil))) (ja_cons (je_bin p2_add (je_lst (ja_cons (je_var 3) (ja_cons je_int (ja_cons (je_bin p2_add (je_var 3) je_int) ja_nil)))) (je_lc [("k", 8)] rfl scN.nd (ji_range1 (by rfl) m_range je_int) (blk_by ["script", "at", "width", "rows", "shape", "mask", "answers", "flips", "k", "number"] (defScope s__law_near_table) (by decide +kernel)) (fun _ _ _ _ _ => (jg_name 8 scN.nd)) (by decide) (fun _ _ _ _ _ => jts_nil) (fun _ _ _ _ _ => (je_var 3)))) ja_nil))))
  (jss_cons (js_asg 5 scN.nd (je_ix (je_var 4) je_int))
  (jss_cons (js_if (jt_cmp (p2_eq hr.units) (je_ix (je_var 4) je_int) je_int)
  (jss_one (js_ret (je_lst (ja_cons (je_call c__law_judge (hr.mono (by decide)) (by rfl) (ja_cons (je_var 0) (ja_cons (je_bin p2_add (je_var 1) je_int) (ja_cons (je_var 2) (ja_cons je_int ja_nil))))) (ja_cons (je_var 5) ja_nil)))))
  jss_nil)
  (jss_cons (js_asg 6 scN.nd (je_lc [("number", 9)] rfl scN.nd (ji_range1 (by rfl) m_range (je_var 3)) (blk_by ["script", "at", "width", "rows", "shape", "mask", "answers", "flips", "k", "number"] (defScope s__law_near_table) (by decide +kernel)) (fun _ _ _ _ _ => (jg_name 9 scN.nd)) (by decide) (fun _ _ _ _ _ => jts_nil) (fun _ _ _ _ _ => (je_bin p2_mod (je_b1 (p1_sumT rfl) (by rfl) m_sum (by decide +kernel) (je_call c__law_bits (hr.mono (by decide)) (by rfl) (ja_cons (je_bin p2_and (je_var 9) (je_var 5)) (ja_cons (je_var 2) ja_nil)))) je_int))))
  (jss_cons (js_if (JW.t (jw_or (jt_cmp (p2_eq hr.units) (je_ix (je_var 4) je_int) je_int) (jw_or1 (jt_cmp (p2_eq hr.units) (je_ix (je_var 4) je_int) je_int))))
  (jss_one (js_asg 6 scN.nd (je_lc [("number", 9)] rfl scN.nd (ji_range1 (by rfl) m_range (je_var 3)) (blk_by ["script", "at", "width", "rows", "shape", "mask", "answers", "flips", "k", "number"] (defScope s__law_near_table) (by decide +kernel)) (fun _ _ _ _ _ => (jg_name 9 scN.nd)) (by decide) (fun _ _ _ _ _ => jts_nil) (fun _ _ _ _ _ => (je_ty1 p1_int (by rfl) m_int (by decide +kernel) (je_cmp p2_gt (je_b1 (p1_sumT rfl) (by rfl) m_sum (by decide +kernel) (je_call c__law_bits (hr.mono (by decide)) (by rfl) (ja_cons (je_var 9) (ja_cons (je_var 2) ja_nil)))) (je_bin p2_mod (je_ty1 p1_int (by rfl) m_int (by decide +kernel) (je_ix (je_var 4) je_int)) (je_bin p2_add (je_var 2) je_int))))))))
  jss_nil)
  (jss_cons (js_if (jt_cmp p2_gt (je_ix (je_var 4) je_int) je_int)
  (jss_one (js_asg 6 scN.nd (je_lc [("number", 9)] rfl scN.nd (ji_range1 (by rfl) m_range (je_var 3)) (blk_by ["script", "at", "width", "rows", "shape", "mask", "answers", "flips", "k", "number"] (defScope s__law_near_table) (by decide +kernel)) (fun _ _ _ _ _ => (jg_name 9 scN.nd)) (by decide) (fun _ _ _ _ _ => jts_nil) (fun _ _ _ _ _ => (je_bin p2_xor (je_ix (je_var 6) (je_var 9)) (je_ty1 p1_int (by rfl) m_int (by decide +kernel) (je_cmp (p2_eq hr.units) (je_bin p2_and (je_var 9) (je_bin p2_add (je_ix (je_var 4) je_int) je_int)) (je_bin p2_add (je_ix (je_var 4) je_int) je_int))))))))
  jss_nil)
  (jss_cons (js_asg 7 scN.nd (je_bin p2_mod (je_ty1 p1_int (by rfl) m_int (by decide +kernel) (je_ix (je_var 4) je_int)) (je_bin p2_add je_int (je_bin p2_div (je_var 3) je_int))))
  (jss_cons (js_if (JW.t (jw_or (jt_cmp (p2_eq hr.units) (je_ix (je_var 4) je_int) je_int) (jw_or1 (jt_cmp p2_gt (je_ix (je_var 4) je_int) je_int))))
  (jss_one (js_asg 7 scN.nd (je_bin p2_mod (je_ty1 p1_int (by rfl) m_int (by decide +kernel) (je_ix (je_var 4) je_int)) (je_bin p2_add je_int (je_bin p2_div (je_var 3) je_int)))))
  jss_nil)
  (jss_cons (js_for PassesOwn.never rfl (ji_range1 (by rfl) m_range (je_b2 (p2c_min rfl) (by rfl) m_min (by decide +kernel) (je_var 7) je_int)) (jg_name 8 scN.nd)
  (jss_one (js_put 6 (je_bin p2_sub je_int (je_ix (je_var 6) (je_ix (je_var 4) (je_bin p2_add je_int (je_var 8))))) (je_ix (je_var 4) (je_bin p2_add je_int (je_var 8))))))
  (jss_frz 6 (jss_one (js_ret (je_lst (ja_cons (je_lst (ja_cons je_str (ja_cons (je_var 2) (ja_cons (je_var 6) ja_nil)))) (ja_cons (je_var 5) ja_nil))))))))))))))))
theorem sc_is_whole : FnScope ["value"] ["value"] (defScope s_is_whole) := ⟨rfl, rfl, rfl, by decide +kernel, rfl, by decide +kernel, by decide +kernel⟩
theorem ok_is_whole (Fu : Fun K "is_whole" "is_whole" s_is_whole f fd) (m_bool : mg "bool" = none) (m_int : mg "int" = none) (m_isinstance : mg "isinstance" = none)  : FnOk P w K mg base CX0 1 f fd ["value"] (spP K cm F_is_whole) :=
  have scN := sc_is_whole
  fn_ok Fu scN len_is_whole w_is_whole k_is_whole fun cdv A outer s H E hr =>
  (jss_one (js_ret (je_and (je_isi (T := "int") (by decide +kernel) (by rfl) m_isinstance (by rfl) m_int (by decide +kernel) (je_var 0)) (je_one (je_not (je_isi (T := "bool") (by decide +kernel) (by rfl) m_isinstance (by rfl) m_bool (by decide +kernel) (je_var 0)))))))
theorem sc_is_bit : FnScope ["value"] ["value"] (defScope s_is_bit) := ⟨rfl, rfl, rfl, by decide +kernel, rfl, by decide +kernel, by decide +kernel⟩
theorem ok_is_bit (Fu : Fun K "is_bit" "is_bit" s_is_bit f fd)  (c_is_whole : FnC P w K mg base cm 1 "is_whole" F_is_whole) : FnOk P w K mg base CX0 2 f fd ["value"] (spP K cm F_is_bit) :=
  have scN := sc_is_bit
  fn_ok Fu scN len_is_bit w_is_bit k_is_bit fun cdv A outer s H E hr =>
  (jss_one (js_ret (je_and (je_call c_is_whole (hr.mono (by decide)) (by rfl) (ja_cons (je_var 0) ja_nil)) (je_one (je_chain p2_le p2_le je_int (je_var 0) je_int)))))
theorem sc_is_bits : FnScope ["values", "count", "value"] ["values", "count"] (defScope s_is_bits) := ⟨rfl, rfl, rfl, by decide +kernel, rfl, by decide +kernel, by decide +kernel⟩
theorem ok_is_bits (Fu : Fun K "is_bits" "is_bits" s_is_bits f fd) (m_len : mg "len" = none) (c_is_bit : FnC P w K mg base cm 2 "is_bit" F_is_bit) : FnOk P w K mg base CX0 3 f fd ["values", "count"] (spP K cm F_is_bits) :=
  have scN := sc_is_bits
  fn_ok Fu scN len_is_bits w_is_bits k_is_bits fun cdv A outer s H E hr =>
  (jss_cons (js_if (jt_cmp (p2_ne hr.units) (je_b1 p1_len (by rfl) m_len (by decide +kernel) (je_var 0)) (je_var 1))
  (jss_one (js_ret je_bl))
  jss_nil)
  (jss_cons (js_for PassesOwn.never rfl (ji_seq (je_var 0)) (jg_name 2 scN.nd)
  (jss_one (js_if (jt_not (jt_val (je_call c_is_bit (hr.mono (by decide)) (by rfl) (ja_cons (je_var 2) ja_nil))))
  (jss_one (js_ret je_bl))
  jss_nil)))
  (jss_one (js_ret je_bl))))
theorem sc_is_layer : FnScope ["layer", "standings", "pair", "standing"] ["layer", "standings"] (defScope s_is_layer) := ⟨rfl, rfl, rfl, by decide +kernel, rfl, by decide +kernel, by decide +kernel⟩
theorem ok_is_layer (Fu : Fun K "is_layer" "is_layer" s_is_layer f fd) (m_len : mg "len" = none) (c_is_whole : FnC P w K mg base cm 1 "is_whole" F_is_whole) : FnOk P w K mg base CX0 2 f fd ["layer", "standings"] (spP K cm F_is_layer) :=
  have scN := sc_is_layer
  fn_ok Fu scN len_is_layer w_is_layer k_is_layer fun cdv A outer s H E hr =>
  (jss_cons (js_if (jt_cmp (p2_ne hr.units) (je_b1 p1_len (by rfl) m_len (by decide +kernel) (je_var 0)) (je_var 1))
  (jss_one (js_ret je_bl))
  jss_nil)
  (jss_cons (js_for PassesOwn.never rfl (ji_seq (je_var 0)) (jg_name 2 scN.nd)
  (jss_cons (js_if (jt_cmp (p2_ne hr.units) (je_b1 p1_len (by rfl) m_len (by decide +kernel) (je_var 2)) je_int)
  (jss_one (js_ret je_bl))
  jss_nil)
  (jss_one (js_for PassesOwn.never rfl (ji_seq (je_var 2)) (jg_name 3 scN.nd)
  (jss_one (js_if (JW.t (jw_or (jt_not (jt_val (je_call c_is_whole (hr.mono (by decide)) (by rfl) (ja_cons (je_var 3) ja_nil)))) (jw_or1 (jt_not (jt_chain p2_le p2_lt je_int (je_var 3) (je_var 1))))))
  (jss_one (js_ret je_bl))
  jss_nil))))))
  (jss_one (js_ret je_bl))))
theorem sc_check_reader : FnScope ["layers", "accepts", "standings", "index"] ["layers", "accepts"] (defScope s_check_reader) := ⟨rfl, rfl, rfl, by decide +kernel, rfl, by decide +kernel, by decide +kernel⟩
theorem ok_check_reader (Fu : Fun K "check_reader" "check_reader" s_check_reader f fd) {t_MOST_STANDINGS : Tok} (m_MOST_STANDINGS : mg "MOST_STANDINGS" = some (.int 64 t_MOST_STANDINGS)) (m_len : mg "len" = none) (m_range : mg "range" = none) (c_is_bits : FnC P w K mg base cm 3 "is_bits" F_is_bits) (c_is_layer : FnC P w K mg base cm 2 "is_layer" F_is_layer) : FnOk P w K mg base CX0 4 f fd ["layers", "accepts"] (spP K cm F_check_reader) :=
  have scN := sc_check_reader
  fn_ok Fu scN len_check_reader w_check_reader k_check_reader fun cdv A outer s H E hr =>
  (jss_cons (js_asg 2 scN.nd (je_b1 p1_len (by rfl) m_len (by decide +kernel) (je_var 1)))
  (jss_cons (js_if (JW.t (jw_or (jt_cmp (p2_eq hr.units) (je_var 2) je_int) (jw_or (jt_cmp p2_gt (je_var 2) (je_gint (by rfl) m_MOST_STANDINGS)) (jw_or1 (jt_not (jt_val (je_call c_is_bits (hr.mono (by decide)) (by rfl) (ja_cons (je_var 1) (ja_cons (je_var 2) ja_nil)))))))))
  (jss_one js_dead)
  jss_nil)
  (jss_one (js_for PassesOwn.never rfl (ji_range1 (by rfl) m_range (je_b1 p1_len (by rfl) m_len (by decide +kernel) (je_var 0))) (jg_name 3 scN.nd)
  (jss_one (js_if (jt_not (jt_val (je_call c_is_layer (hr.mono (by decide)) (by rfl) (ja_cons (je_ix (je_var 0) (je_var 3)) (ja_cons (je_var 2) ja_nil)))))
  (jss_one js_dead)
  jss_nil))))))
theorem sc_Reader____init__ : FnScope ["self", "layers", "accepts", "layer", "pair"] ["self", "layers", "accepts"] (defScope s_Reader____init__) := ⟨rfl, rfl, rfl, by decide +kernel, rfl, by decide +kernel, by decide +kernel⟩
theorem ok_Reader____init__ (Fu : Fun K "__init__" "Reader.__init__" s_Reader____init__ f fd) (m_len : mg "len" = none) (m_tuple : mg "tuple" = none) (ik_Reader : InsK K (cm 23)) (c_check_reader : FnC P w K mg base cm 4 "check_reader" F_check_reader) (no_Reader_accepts : NoAttr K (cm 23) "accepts") (no_Reader_layers : NoAttr K (cm 23) "layers") (no_Reader_width : NoAttr K (cm 23) "width") : FnOk P w K mg base CX0 5 f fd ["self", "layers", "accepts"] (spJ K cm (cm 23) ["width", "layers", "accepts"] F_Reader____init__) :=
  have scN := sc_Reader____init__
  initF_ok Fu scN len_Reader____init__ wi_Reader____init__ k_Reader____init__ fun cdv A outer s H E hr =>
  (jinit_cons (js_drop (je_call c_check_reader (hr.mono (by decide)) (by rfl) (ja_cons (je_var 1) (ja_cons (je_var 2) ja_nil))))
  (jinit_stores (jstore_cons ik_Reader.cls no_Reader_width (je_b1 p1_len (by rfl) m_len (by decide +kernel) (je_var 1)) (jstore_cons ik_Reader.cls no_Reader_layers (je_ty1 p1_tuple (by rfl) m_tuple (by decide +kernel) (je_lc [("layer", 3)] rfl scN.nd (ji_seq (je_var 1)) (blk_by ["self", "layers", "accepts", "layer", "pair"] (defScope s_Reader____init__) (by decide +kernel)) (fun _ _ _ _ _ => (jg_name 3 scN.nd)) (by decide) (fun _ _ _ _ _ => jts_nil) (fun _ _ _ _ _ => (je_ty1 p1_tuple (by rfl) m_tuple (by decide +kernel) (je_lc [("pair", 4)] rfl scN.nd (ji_seq (je_var 3)) (blk_by ["self", "layers", "accepts", "layer", "pair"] (relS _ (defScope s_Reader____init__)) (by decide +kernel)) (fun _ _ _ _ _ => (jg_name 4 scN.nd)) (by decide) (fun _ _ _ _ _ => jts_nil) (fun _ _ _ _ _ => (je_ty1 p1_tuple (by rfl) m_tuple (by decide +kernel) (je_var 4)))))))) (jstore_cons ik_Reader.cls no_Reader_accepts (je_ty1 p1_tuple (by rfl) m_tuple (by decide +kernel) (je_var 2)) jstore_nil))) (by decide) (by decide)))
theorem sc_Table____init__ : FnScope ["self", "width", "bits"] ["self", "width", "bits"] (defScope s_Table____init__) := ⟨rfl, rfl, rfl, by decide +kernel, rfl, by decide +kernel, by decide +kernel⟩
theorem ok_Table____init__ (Fu : Fun K "__init__" "Table.__init__" s_Table____init__ f fd) (m_tuple : mg "tuple" = none) (ik_Table : InsK K (cm 24)) (c_is_bits : FnC P w K mg base cm 3 "is_bits" F_is_bits) (no_Table_bits : NoAttr K (cm 24) "bits") (no_Table_width : NoAttr K (cm 24) "width") : FnOk P w K mg base CX0 4 f fd ["self", "width", "bits"] (spJ K cm (cm 24) ["width", "bits"] F_Table____init__) :=
  have scN := sc_Table____init__
  initF_ok Fu scN len_Table____init__ wi_Table____init__ k_Table____init__ fun cdv A outer s H E hr =>
  (jinit_cons (js_if (jt_not (jt_val (je_call c_is_bits (hr.mono (by decide)) (by rfl) (ja_cons (je_var 2) (ja_cons (je_bin p2_shl je_int (je_var 1)) ja_nil)))))
  (jss_one js_dead)
  jss_nil)
  (jinit_stores (jstore_cons ik_Table.cls no_Table_width (je_var 1) (jstore_cons ik_Table.cls no_Table_bits (je_ty1 p1_tuple (by rfl) m_tuple (by decide +kernel) (je_var 2)) jstore_nil)) (by decide) (by decide)))
theorem sc_is_gate : FnScope ["gate", "wires_before", "wire", "wires", "bits"] ["gate", "wires_before"] (defScope s_is_gate) := ⟨rfl, rfl, rfl, by decide +kernel, rfl, by decide +kernel, by decide +kernel⟩
theorem ok_is_gate (Fu : Fun K "is_gate" "is_gate" s_is_gate f fd) {t_MOST_WIRES : Tok} (m_MOST_WIRES : mg "MOST_WIRES" = some (.int 8 t_MOST_WIRES)) (m_len : mg "len" = none) (c_is_whole : FnC P w K mg base cm 1 "is_whole" F_is_whole) (c_is_bits : FnC P w K mg base cm 3 "is_bits" F_is_bits) : FnOk P w K mg base CX0 4 f fd ["gate", "wires_before"] (spP K cm F_is_gate) :=
  have scN := sc_is_gate
  fn_ok Fu scN len_is_gate w_is_gate k_is_gate fun cdv A outer s H E hr =>
  (jss_cons (js_unp rfl (je_var 0) (jgs_cons 3 scN.nd (jgs_cons 4 scN.nd jgs_nil)))
  (jss_cons (js_if (jt_cmp p2_gt (je_b1 p1_len (by rfl) m_len (by decide +kernel) (je_var 3)) (je_gint (by rfl) m_MOST_WIRES))
  (jss_one (js_ret je_bl))
  jss_nil)
  (jss_cons (js_for PassesOwn.never rfl (ji_seq (je_var 3)) (jg_name 2 scN.nd)
  (jss_one (js_if (JW.t (jw_or (jt_not (jt_val (je_call c_is_whole (hr.mono (by decide)) (by rfl) (ja_cons (je_var 2) ja_nil)))) (jw_or1 (jt_not (jt_chain p2_le p2_lt je_int (je_var 2) (je_var 1))))))
  (jss_one (js_ret je_bl))
  jss_nil)))
  (jss_one (js_ret (je_call c_is_bits (hr.mono (by decide)) (by rfl) (ja_cons (je_var 4) (ja_cons (je_bin p2_shl je_int (je_b1 p1_len (by rfl) m_len (by decide +kernel) (je_var 3))) ja_nil))))))))
theorem sc_check_gates : FnScope ["width", "gates", "index"] ["width", "gates"] (defScope s_check_gates) := ⟨rfl, rfl, rfl, by decide +kernel, rfl, by decide +kernel, by decide +kernel⟩
theorem ok_check_gates (Fu : Fun K "check_gates" "check_gates" s_check_gates f fd) (m_len : mg "len" = none) (m_range : mg "range" = none) (c_is_gate : FnC P w K mg base cm 4 "is_gate" F_is_gate) : FnOk P w K mg base CX0 5 f fd ["width", "gates"] (spP K cm F_check_gates) :=
  have scN := sc_check_gates
  fn_ok Fu scN len_check_gates w_check_gates k_check_gates fun cdv A outer s H E hr =>
  (jss_cons (js_if (jt_cmp (p2_eq hr.units) (je_b1 p1_len (by rfl) m_len (by decide +kernel) (je_var 1)) je_int)
  (jss_one js_dead)
  jss_nil)
  (jss_one (js_for PassesOwn.never rfl (ji_range1 (by rfl) m_range (je_b1 p1_len (by rfl) m_len (by decide +kernel) (je_var 1))) (jg_name 2 scN.nd)
  (jss_one (js_if (jt_not (jt_val (je_call c_is_gate (hr.mono (by decide)) (by rfl) (ja_cons (je_ix (je_var 1) (je_var 2)) (ja_cons (je_bin p2_add (je_var 0) (je_var 2)) ja_nil)))))
  (jss_one js_dead)
  jss_nil)))))
theorem sc_Circuit____init__ : FnScope ["self", "width", "gates", "wires", "bits"] ["self", "width", "gates"] (defScope s_Circuit____init__) := ⟨rfl, rfl, rfl, by decide +kernel, rfl, by decide +kernel, by decide +kernel⟩
theorem ok_Circuit____init__ (Fu : Fun K "__init__" "Circuit.__init__" s_Circuit____init__ f fd) (m_tuple : mg "tuple" = none) (ik_Circuit : InsK K (cm 22)) (c_check_gates : FnC P w K mg base cm 5 "check_gates" F_check_gates) (no_Circuit_gates : NoAttr K (cm 22) "gates") (no_Circuit_width : NoAttr K (cm 22) "width") : FnOk P w K mg base CX0 6 f fd ["self", "width", "gates"] (spJ K cm (cm 22) ["width", "gates"] F_Circuit____init__) :=
  have scN := sc_Circuit____init__
  initF_ok Fu scN len_Circuit____init__ wi_Circuit____init__ k_Circuit____init__ fun cdv A outer s H E hr =>
  (jinit_cons (js_drop (je_call c_check_gates (hr.mono (by decide)) (by rfl) (ja_cons (je_var 1) (ja_cons (je_var 2) ja_nil))))
  (jinit_stores (jstore_cons ik_Circuit.cls no_Circuit_width (je_var 1) (jstore_cons ik_Circuit.cls no_Circuit_gates (je_ty1 p1_tuple (by rfl) m_tuple (by decide +kernel) (je_lc [("wires", 3), ("bits", 4)] rfl scN.nd (ji_seq (je_var 2)) (blk_by ["self", "width", "gates", "wires", "bits"] (defScope s_Circuit____init__) (by decide +kernel)) (fun _ _ _ _ _ => (jg_tup rfl (jgs_cons 3 scN.nd (jgs_cons 4 scN.nd jgs_nil)))) (by decide) (fun _ _ _ _ _ => jts_nil) (fun _ _ _ _ _ => (je_tup (ja_cons (je_ty1 p1_tuple (by rfl) m_tuple (by decide +kernel) (je_var 3)) (ja_cons (je_ty1 p1_tuple (by rfl) m_tuple (by decide +kernel) (je_var 4)) ja_nil)))))) jstore_nil)) (by decide) (by decide)))
theorem sc_is_look : FnScope ["node", "width", "above", "place"] ["node", "width", "above"] (defScope s_is_look) := ⟨rfl, rfl, rfl, by decide +kernel, rfl, by decide +kernel, by decide +kernel⟩
theorem ok_is_look (Fu : Fun K "is_look" "is_look" s_is_look f fd) (m_isinstance : mg "isinstance" = none) (m_len : mg "len" = none) (m_list : mg "list" = none) (m_tuple : mg "tuple" = none) (c_is_whole : FnC P w K mg base cm 1 "is_whole" F_is_whole) : FnOk P w K mg base CX0 2 f fd ["node", "width", "above"] (spP K cm F_is_look) :=
  have scN := sc_is_look
  fn_ok Fu scN len_is_look w_is_look k_is_look fun cdv A outer s H E hr =>
  (jss_cons (js_if (JW.t (jw_or (jt_not (jt_val (je_isiT ["list", "tuple"] (jcls_cons (jcl_ty (by rfl) m_list (by decide +kernel)) (jcls_cons (jcl_ty (by rfl) m_tuple (by decide +kernel)) jcls_nil)) rfl (by decide +kernel) (by rfl) m_isinstance (je_var 0)))) (jw_or1 (jt_cmp (p2_ne hr.units) (je_b1 p1_len (by rfl) m_len (by decide +kernel) (je_var 0)) je_int))))
  (jss_one (js_ret je_bl))
  jss_nil)
  (jss_cons (js_asg 3 scN.nd (je_ix (je_var 0) je_int))
  (jss_one (js_ret (je_and (je_call c_is_whole (hr.mono (by decide)) (by rfl) (ja_cons (je_var 3) ja_nil)) (je_and (je_chain p2_le p2_lt je_int (je_var 3) (je_var 1)) (je_one (je_cmp p2_notin (je_var 3) (je_var 2) (by rfl)))))))))
theorem sc_bad_path : FnScope ["node", "width", "waiting", "here", "path", "above", "below"] ["node", "width"] (defScope s_bad_path) := ⟨rfl, rfl, rfl, by decide +kernel, rfl, by decide +kernel, by decide +kernel⟩
theorem ok_bad_path (Fu : Fun K "bad_path" "bad_path" s_bad_path f fd) (m_len : mg "len" = none) (c_is_bit : FnC P w K mg base cm 2 "is_bit" F_is_bit) (c_is_look : FnC P w K mg base cm 2 "is_look" F_is_look) : FnOk P w K mg base CX0 3 f fd ["node", "width"] (spP K cm F_bad_path) :=
  have scN := sc_bad_path
  fn_ok Fu scN len_bad_path w_bad_path k_bad_path fun cdv A outer s H E hr =>
  (jss_cons (js_asg 2 scN.nd (je_lst (ja_cons (je_tup (ja_cons (je_var 0) (ja_cons (je_tup ja_nil) (ja_cons (je_tup ja_nil) ja_nil)))) ja_nil)))
  (jss_cons (js_while PassesOwn.never (jt_cmp p2_gt (je_b1 p1_len (by rfl) m_len (by decide +kernel) (je_var 2)) je_int)
  (jss_cons (js_pop 2 (jg_tup rfl (jgs_cons 3 scN.nd (jgs_cons 4 scN.nd (jgs_cons 5 scN.nd jgs_nil)))))
  (jss_one (js_if (jt_not (jt_val (je_call c_is_bit (hr.mono (by decide)) (by rfl) (ja_cons (je_var 3) ja_nil))))
  (jss_cons (js_if (jt_not (jt_val (je_call c_is_look (hr.mono (by decide)) (by rfl) (ja_cons (je_var 3) (ja_cons (je_var 1) (ja_cons (je_var 5) ja_nil))))))
  (jss_one (js_ret (je_var 4)))
  jss_nil)
  (jss_cons (js_asg 6 scN.nd (je_bin p2_add (je_var 5) (je_tup (ja_cons (je_ix (je_var 3) je_int) ja_nil))))
  (jss_cons (js_app 2 (je_tup (ja_cons (je_ix (je_var 3) je_int) (ja_cons (je_bin p2_add (je_var 4) (je_tup (ja_cons je_int ja_nil))) (ja_cons (je_var 6) ja_nil)))))
  (jss_one (js_app 2 (je_tup (ja_cons (je_ix (je_var 3) je_int) (ja_cons (je_bin p2_add (je_var 4) (je_tup (ja_cons je_int ja_nil))) (ja_cons (je_var 6) ja_nil)))))))))
  jss_nil))))
  (jss_one (js_ret je_non))))
theorem sc_joined_node : FnScope ["parts", "ready", "index", "part", "zero_side", "one_side"] ["parts"] (defScope s_joined_node) := ⟨rfl, rfl, rfl, by decide +kernel, rfl, by decide +kernel, by decide +kernel⟩
theorem ok_joined_node (Fu : Fun K "joined_node" "joined_node" s_joined_node f fd) (m_len : mg "len" = none) (m_range : mg "range" = none) (c_is_bit : FnC P w K mg base cm 2 "is_bit" F_is_bit) : FnOk P w K mg base CX0 3 f fd ["parts"] (spP K cm F_joined_node) :=
  have scN := sc_joined_node
  fn_ok Fu scN len_joined_node w_joined_node k_joined_node fun cdv A outer s H E hr =>
  (jss_cons (js_asg 1 scN.nd (je_lst ja_nil))
  (jss_cons (js_for PassesOwn.never rfl (ji_range1 (by rfl) m_range (je_b1 p1_len (by rfl) m_len (by decide +kernel) (je_var 0))) (jg_name 2 scN.nd)
  (jss_cons (js_asg 3 scN.nd (je_ix (je_var 0) (je_bin p2_sub (je_bin p2_sub (je_b1 p1_len (by rfl) m_len (by decide +kernel) (je_var 0)) je_int) (je_var 2))))
  (jss_one (js_if (jt_val (je_call c_is_bit (hr.mono (by decide)) (by rfl) (ja_cons (je_var 3) ja_nil)))
  (jss_one (js_app 1 (je_var 3)))
  (jss_cons (js_pop 1 (jg_name 4 scN.nd))
  (jss_cons (js_pop 1 (jg_name 5 scN.nd))
  (jss_one (js_app 1 (je_tup (ja_cons (je_ix (je_var 3) je_int) (ja_cons (je_var 4) (ja_cons (je_var 5) ja_nil))))))))))))
  (jss_one (js_ret (je_ix (je_var 1) je_int)))))
theorem sc_parts_of : FnScope ["node", "found", "waiting", "here"] ["node"] (defScope s_parts_of) := ⟨rfl, rfl, rfl, by decide +kernel, rfl, by decide +kernel, by decide +kernel⟩
theorem ok_parts_of (Fu : Fun K "parts_of" "parts_of" s_parts_of f fd) (m_len : mg "len" = none) (c_is_bit : FnC P w K mg base cm 2 "is_bit" F_is_bit) : FnOk P w K mg base CX0 3 f fd ["node"] (spP K cm F_parts_of) :=
  have scN := sc_parts_of
  fn_ok Fu scN len_parts_of w_parts_of k_parts_of fun cdv A outer s H E hr =>
  (jss_cons (js_asg 1 scN.nd (je_lst ja_nil))
  (jss_cons (js_asg 2 scN.nd (je_lst (ja_cons (je_var 0) ja_nil)))
  (jss_cons (js_while PassesOwn.never (jt_cmp p2_gt (je_b1 p1_len (by rfl) m_len (by decide +kernel) (je_var 2)) je_int)
  (jss_cons (js_pop 2 (jg_name 3 scN.nd))
  (jss_cons (js_app 1 (je_var 3))
  (jss_one (js_if (jt_not (jt_val (je_call c_is_bit (hr.mono (by decide)) (by rfl) (ja_cons (je_var 3) ja_nil))))
  (jss_cons (js_app 2 (je_ix (je_var 3) je_int))
  (jss_one (js_app 2 (je_ix (je_var 3) je_int))))
  jss_nil)))))
  (jss_frz 1 (jss_one (js_ret (je_var 1)))))))
theorem sc_Tree____init__ : FnScope ["self", "width", "node", "path"] ["self", "width", "node"] (defScope s_Tree____init__) := ⟨rfl, rfl, rfl, by decide +kernel, rfl, by decide +kernel, by decide +kernel⟩
theorem ok_Tree____init__ (Fu : Fun K "__init__" "Tree.__init__" s_Tree____init__ f fd)  (ik_Tree : InsK K (cm 25)) (c_bad_path : FnC P w K mg base cm 3 "bad_path" F_bad_path) (c_joined_node : FnC P w K mg base cm 3 "joined_node" F_joined_node) (c_parts_of : FnC P w K mg base cm 3 "parts_of" F_parts_of) (no_Tree_node : NoAttr K (cm 25) "node") (no_Tree_width : NoAttr K (cm 25) "width") : FnOk P w K mg base CX0 4 f fd ["self", "width", "node"] (spJ K cm (cm 25) ["width", "node"] F_Tree____init__) :=
  have scN := sc_Tree____init__
  initF_ok Fu scN len_Tree____init__ wi_Tree____init__ k_Tree____init__ fun cdv A outer s H E hr =>
  (jinit_cons (js_asg 3 scN.nd (je_call c_bad_path (hr.mono (by decide)) (by rfl) (ja_cons (je_var 2) (ja_cons (je_var 1) ja_nil))))
  (jinit_cons (js_if (jt_notN (je_var 3))
  (jss_one js_dead)
  jss_nil)
  (jinit_stores (jstore_cons ik_Tree.cls no_Tree_width (je_var 1) (jstore_cons ik_Tree.cls no_Tree_node (je_call c_joined_node (hr.mono (by decide)) (by rfl) (ja_cons (je_call c_parts_of (hr.mono (by decide)) (by rfl) (ja_cons (je_var 2) ja_nil)) ja_nil)) jstore_nil)) (by decide) (by decide))))
theorem sc__law_build : FnScope ["spec", "layer", "gate", "pair"] ["spec"] (defScope s__law_build) := ⟨rfl, rfl, rfl, by decide +kernel, rfl, by decide +kernel, by decide +kernel⟩
theorem ok__law_build (Fu : Fun K "_law_build" "_law_build" s__law_build f fd) (m_list : mg "list" = none) (mf_Table : MkF P w K mg base cm 4 "Table" 24 ["width", "bits"] F_Table____init__) (mf_Circuit : MkF P w K mg base cm 6 "Circuit" 22 ["width", "gates"] F_Circuit____init__) (mf_Tree : MkF P w K mg base cm 4 "Tree" 25 ["width", "node"] F_Tree____init__) (mf_Reader : MkF P w K mg base cm 5 "Reader" 23 ["width", "layers", "accepts"] F_Reader____init__) : FnOk P w K mg base CX0 8 f fd ["spec"] (spP K cm F__law_build) :=
  have scN := sc__law_build
  fn_ok Fu scN len__law_build w__law_build k__law_build fun cdv A outer s H E hr =>
  (jss_cons (js_if (jt_cmp (p2_eq hr.units) (je_ix (je_var 0) je_int) je_str)
  (jss_one (js_ret (je_makeF mf_Table (hr.mono (by decide)) (by rfl) (ja_cons (je_ix (je_var 0) je_int) (ja_cons (je_ty1 p1_list (by rfl) m_list (by decide +kernel) (je_ix (je_var 0) je_int)) ja_nil)))))
  jss_nil)
  (jss_cons (js_if (jt_cmp (p2_eq hr.units) (je_ix (je_var 0) je_int) je_str)
  (jss_one (js_ret (je_makeF mf_Circuit (hr.mono (by decide)) (by rfl) (ja_cons (je_ix (je_var 0) je_int) (ja_cons (je_lc [("gate", 2)] rfl scN.nd (ji_seq (je_ix (je_var 0) je_int)) (blk_by ["spec", "layer", "gate", "pair"] (defScope s__law_build) (by decide +kernel)) (fun _ _ _ _ _ => (jg_name 2 scN.nd)) (by decide) (fun _ _ _ _ _ => jts_nil) (fun _ _ _ _ _ => (je_lst (ja_cons (je_ty1 p1_list (by rfl) m_list (by decide +kernel) (je_ix (je_var 2) je_int)) (ja_cons (je_ty1 p1_list (by rfl) m_list (by decide +kernel) (je_ix (je_var 2) je_int)) ja_nil))))) ja_nil)))))
  jss_nil)
  (jss_cons (js_if (jt_cmp (p2_eq hr.units) (je_ix (je_var 0) je_int) je_str)
  (jss_one (js_ret (je_makeF mf_Tree (hr.mono (by decide)) (by rfl) (ja_cons (je_ix (je_var 0) je_int) (ja_cons (je_ix (je_var 0) je_int) ja_nil)))))
  jss_nil)
  (jss_one (js_ret (je_makeF mf_Reader (hr.mono (by decide)) (by rfl) (ja_cons (je_lc [("layer", 1)] rfl scN.nd (ji_seq (je_ix (je_var 0) je_int)) (blk_by ["spec", "layer", "gate", "pair"] (defScope s__law_build) (by decide +kernel)) (fun _ _ _ _ _ => (jg_name 1 scN.nd)) (by decide) (fun _ _ _ _ _ => jts_nil) (fun _ _ _ _ _ => (je_lc [("pair", 3)] rfl scN.nd (ji_seq (je_var 1)) (blk_by ["spec", "layer", "gate", "pair"] (relS _ (defScope s__law_build)) (by decide +kernel)) (fun _ _ _ _ _ => (jg_name 3 scN.nd)) (by decide) (fun _ _ _ _ _ => jts_nil) (fun _ _ _ _ _ => (je_ty1 p1_list (by rfl) m_list (by decide +kernel) (je_var 3)))))) (ja_cons (je_ty1 p1_list (by rfl) m_list (by decide +kernel) (je_ix (je_var 0) je_int)) ja_nil))))))))
theorem sc__law_surplus : FnScope ["truth", "width", "numbers", "place", "half", "bit", "k"] ["truth", "width"] (defScope s__law_surplus) := ⟨rfl, rfl, rfl, by decide +kernel, rfl, by decide +kernel, by decide +kernel⟩
theorem ok__law_surplus (Fu : Fun K "_law_surplus" "_law_surplus" s__law_surplus f fd) (m_int : mg "int" = none) (m_len : mg "len" = none) (m_range : mg "range" = none)  : FnOk P w K mg base CX0 1 f fd ["truth", "width"] (spP K cm F__law_surplus) :=
  have scN := sc__law_surplus
  fn_ok Fu scN len__law_surplus w__law_surplus k__law_surplus fun cdv A outer s H E hr =>
  (jss_cons (js_asg 2 scN.nd (je_lc [("bit", 5)] rfl scN.nd (ji_seq (je_var 0)) (blk_by ["truth", "width", "numbers", "place", "half", "bit", "k"] (defScope s__law_surplus) (by decide +kernel)) (fun _ _ _ _ _ => (jg_name 5 scN.nd)) (by decide) (fun _ _ _ _ _ => jts_nil) (fun _ _ _ _ _ => (je_bin p2_sub je_int (je_bin p2_mul je_int (je_var 5))))))
  (jss_frz 2 (jss_cons (js_for PassesOwn.never rfl (ji_range1 (by rfl) m_range (je_var 1)) (jg_name 3 scN.nd)
  (jss_cons (js_asg 4 scN.nd (je_bin p2_shl je_int (je_var 3)))
  (jss_one (js_asg 2 scN.nd (je_lc [("k", 6)] rfl scN.nd (ji_range1 (by rfl) m_range (je_b1 p1_len (by rfl) m_len (by decide +kernel) (je_var 2))) (blk_by ["truth", "width", "numbers", "place", "half", "bit", "k"] (defScope s__law_surplus) (by decide +kernel)) (fun _ _ _ _ _ => (jg_name 6 scN.nd)) (by decide) (fun _ _ _ _ _ => jts_nil) (fun _ _ _ _ _ => (je_if (jt_cmp (p2_eq hr.units) (je_bin p2_mod (je_ty1 p1_int (by rfl) m_int (by decide +kernel) (je_bin p2_div (je_var 6) (je_var 4))) je_int) je_int) (je_bin p2_add (je_ix (je_var 2) (je_var 6)) (je_ix (je_var 2) (je_bin p2_add (je_var 6) (je_var 4)))) (je_bin p2_sub (je_ix (je_var 2) (je_bin p2_sub (je_var 6) (je_var 4))) (je_ix (je_var 2) (je_var 6))))))))))
  (jss_frz 2 (jss_one (js_ret (je_var 2)))))))
theorem sc__law_more : FnScope ["surplus", "width", "row", "rows", "far", "bottom"] ["surplus", "width", "row"] (defScope s__law_more) := ⟨rfl, rfl, rfl, by decide +kernel, rfl, by decide +kernel, by decide +kernel⟩
theorem ok__law_more (Fu : Fun K "_law_more" "_law_more" s__law_more f fd) (m_abs : mg "abs" = none) (m_int : mg "int" = none)  : FnOk P w K mg base CX0 1 f fd ["surplus", "width", "row"] (spP K cm F__law_more) :=
  have scN := sc__law_more
  fn_ok Fu scN len__law_more w__law_more k__law_more fun cdv A outer s H E hr =>
  (jss_cons (js_asg 3 scN.nd (je_bin p2_shl je_int (je_var 1)))
  (jss_cons (js_asg 4 scN.nd (je_b1 p1_abs (by rfl) m_abs (by decide +kernel) (je_ix (je_var 0) (je_bin p2_mod (je_ty1 p1_int (by rfl) m_int (by decide +kernel) (je_ix (je_var 2) je_int)) (je_var 3)))))
  (jss_cons (js_if (JW.t (jw_and (jt_cmp (p2_eq hr.units) (je_ix (je_var 2) je_int) je_int) (jw_and1 (jt_cmp p2_gt (je_var 4) je_int))))
  (jss_one (js_ret (je_lst (ja_cons (je_var 4) (ja_cons (je_bin p2_mul je_int (je_var 3)) ja_nil)))))
  jss_nil)
  (jss_cons (js_asg 5 scN.nd (je_bin p2_mul je_int (je_bin p2_add je_int (je_ix (je_var 2) je_int))))
  (jss_one (js_ret (je_lst (ja_cons (je_bin p2_add je_int (je_bin p2_mod (je_ty1 p1_int (by rfl) m_int (by decide +kernel) (je_ix (je_var 2) je_int)) (je_bin p2_div (je_var 5) je_int))) (ja_cons (je_var 5) ja_nil)))))))))
theorem sc_most_near : FnScope ["more"] ["more"] (defScope s_most_near) := ⟨rfl, rfl, rfl, by decide +kernel, rfl, by decide +kernel, by decide +kernel⟩
theorem ok_most_near (Fu : Fun K "most_near" "most_near" s_most_near f fd)   : FnOk P w K mg base CX0 1 f fd ["more"] (spP K cm F_most_near) :=
  have scN := sc_most_near
  fn_ok Fu scN len_most_near w_most_near k_most_near fun cdv A outer s H E hr =>
  (jss_one (js_ret (je_bin p2_div (je_bin p2_mul (je_ix (je_var 0) je_int) (je_ix (je_var 0) je_int)) (je_bin p2_mul (je_bin p2_mul je_int (je_ix (je_var 0) je_int)) (je_ix (je_var 0) je_int)))))
theorem sc__law_most_right : FnScope ["more", "handed", "most"] ["more"] (defScope s__law_most_right) := ⟨rfl, rfl, rfl, by decide +kernel, rfl, by decide +kernel, by decide +kernel⟩
theorem ok__law_most_right (Fu : Fun K "_law_most_right" "_law_most_right" s__law_most_right f fd) (m_list : mg "list" = none) (c_most_near : FnC P w K mg base cm 1 "most_near" F_most_near) (c__law_whole : FnC P w K mg base cm 1 "_law_whole" F__law_whole) : FnOk P w K mg base CX0 2 f fd ["more"] (spP K cm F__law_most_right) :=
  have scN := sc__law_most_right
  fn_ok Fu scN len__law_most_right w__law_most_right k__law_most_right fun cdv A outer s H E hr =>
  (jss_cons (js_asg 1 scN.nd (je_ty1 p1_list (by rfl) m_list (by decide +kernel) (je_var 0)))
  (jss_frz 1 (jss_cons (js_asg 2 scN.nd (je_call c_most_near (hr.mono (by decide)) (by rfl) (ja_cons (je_var 1) ja_nil)))
  (jss_one (js_ret (je_and (je_cmp (p2_eq hr.units) (je_var 1) (je_var 0)) (je_and (je_call c__law_whole (hr.mono (by decide)) (by rfl) (ja_cons (je_var 2) ja_nil)) (je_one (je_cmp (p2_eq hr.units) (je_var 2) (je_bin p2_div (je_bin p2_mul (je_ix (je_var 0) je_int) (je_ix (je_var 0) je_int)) (je_bin p2_mul (je_bin p2_mul je_int (je_ix (je_var 0) je_int)) (je_ix (je_var 0) je_int))))))))))))
theorem sc__law_sum_agree : FnScope ["truth", "width", "mask", "count", "number"] ["truth", "width", "mask"] (defScope s__law_sum_agree) := ⟨rfl, rfl, rfl, by decide +kernel, rfl, by decide +kernel, by decide +kernel⟩
theorem ok__law_sum_agree (Fu : Fun K "_law_sum_agree" "_law_sum_agree" s__law_sum_agree f fd) (m_int : mg "int" = none) (m_range : mg "range" = none) (m_sum : mg "sum" = none) (c__law_bits : FnC P w K mg base cm 1 "_law_bits" F__law_bits) : FnOk P w K mg base CX0 2 f fd ["truth", "width", "mask"] (spP K cm F__law_sum_agree) :=
  have scN := sc__law_sum_agree
  fn_ok Fu scN len__law_sum_agree w__law_sum_agree k__law_sum_agree fun cdv A outer s H E hr =>
  (jss_cons (js_asg 3 scN.nd je_int)
  (jss_cons (js_for PassesOwn.never rfl (ji_range1 (by rfl) m_range (je_bin p2_shl je_int (je_var 1))) (jg_name 4 scN.nd)
  (jss_one (js_asg 3 scN.nd (je_bin p2_add (je_var 3) (je_ty1 p1_int (by rfl) m_int (by decide +kernel) (je_cmp (p2_eq hr.units) (je_ix (je_var 0) (je_var 4)) (je_bin p2_mod (je_b1 (p1_sumT rfl) (by rfl) m_sum (by decide +kernel) (je_call c__law_bits (hr.mono (by decide)) (by rfl) (ja_cons (je_bin p2_and (je_var 4) (je_var 2)) (ja_cons (je_var 1) ja_nil)))) je_int)))))))
  (jss_one (js_ret (je_var 3)))))
theorem sc_turned_step : FnScope ["numbers", "half", "result", "index"] ["numbers", "half"] (defScope s_turned_step) := ⟨rfl, rfl, rfl, by decide +kernel, rfl, by decide +kernel, by decide +kernel⟩
theorem ok_turned_step (Fu : Fun K "turned_step" "turned_step" s_turned_step f fd) (m_len : mg "len" = none) (m_range : mg "range" = none)  : FnOk P w K mg base CX0 1 f fd ["numbers", "half"] (spP K cm F_turned_step) :=
  have scN := sc_turned_step
  fn_ok Fu scN len_turned_step w_turned_step k_turned_step fun cdv A outer s H E hr =>
  (jss_cons (js_asg 2 scN.nd (je_lst ja_nil))
  (jss_cons (js_for PassesOwn.never rfl (ji_range1 (by rfl) m_range (je_b1 p1_len (by rfl) m_len (by decide +kernel) (je_var 0))) (jg_name 3 scN.nd)
  (jss_one (js_if (jt_cmp (p2_eq hr.units) (je_bin p2_and (je_var 3) (je_var 1)) je_int)
  (jss_one (js_app 2 (je_bin p2_add (je_ix (je_var 0) (je_var 3)) (je_ix (je_var 0) (je_bin p2_add (je_var 3) (je_var 1))))))
  (jss_one (js_app 2 (je_bin p2_sub (je_ix (je_var 0) (je_bin p2_sub (je_var 3) (je_var 1))) (je_ix (je_var 0) (je_var 3))))))))
  (jss_frz 2 (jss_one (js_ret (je_var 2))))))
theorem sc_turned_numbers : FnScope ["values", "numbers", "half"] ["values"] (defScope s_turned_numbers) := ⟨rfl, rfl, rfl, by decide +kernel, rfl, by decide +kernel, by decide +kernel⟩
theorem ok_turned_numbers (Fu : Fun K "turned_numbers" "turned_numbers" s_turned_numbers f fd) (m_len : mg "len" = none) (m_list : mg "list" = none) (m_tuple : mg "tuple" = none) (c_turned_step : FnC P w K mg base cm 1 "turned_step" F_turned_step) : FnOk P w K mg base CX0 2 f fd ["values"] (spP K cm F_turned_numbers) :=
  have scN := sc_turned_numbers
  fn_ok Fu scN len_turned_numbers w_turned_numbers k_turned_numbers fun cdv A outer s H E hr =>
  (jss_cons (js_asg 1 scN.nd (je_ty1 p1_list (by rfl) m_list (by decide +kernel) (je_var 0)))
  (jss_frz 1 (jss_cons (js_asg 2 scN.nd je_int)
  (jss_cons (js_while PassesOwn.never (jt_cmp p2_lt (je_var 2) (je_b1 p1_len (by rfl) m_len (by decide +kernel) (je_var 0)))
  (jss_cons (js_asg 1 scN.nd (je_call c_turned_step (hr.mono (by decide)) (by rfl) (ja_cons (je_var 1) (ja_cons (je_var 2) ja_nil))))
  (jss_one (js_asg 2 scN.nd (je_bin p2_mul je_int (je_var 2))))))
  (jss_one (js_ret (je_ty1 p1_tuple (by rfl) m_tuple (by decide +kernel) (je_var 1))))))))
theorem sc_Reader__truth : FnScope ["self", "reached", "layer", "standing", "sign"] ["self"] (defScope s_Reader__truth) := ⟨rfl, rfl, rfl, by decide +kernel, rfl, by decide +kernel, by decide +kernel⟩
theorem ok_Reader__truth (Fu : Fun K "truth" "Reader.truth" s_Reader__truth f fd) (m_range : mg "range" = none) (m_tuple : mg "tuple" = none) (ik_Reader : InsK K (cm 23)) (no_Reader_layers : NoAttr K (cm 23) "layers") (no_Reader_accepts : NoAttr K (cm 23) "accepts") : FnOk P w K mg base CX0 2 f fd ["self"] (spP K cm F_Reader__truth) :=
  have scN := sc_Reader__truth
  fn_ok Fu scN len_Reader__truth w_Reader__truth k_Reader__truth fun cdv A outer s H E hr =>
  (jss_cons (js_asg 1 scN.nd (je_lst (ja_cons je_int ja_nil)))
  (jss_frz 1 (jss_cons (js_for PassesOwn.never rfl (ji_seq (je_att (cs := [23]) (fun c hc => by simp only [List.mem_cons, List.not_mem_nil, or_false] at hc; rcases hc with rfl <;> first | exact ⟨ik_Reader.cls, no_Reader_layers⟩) (k := 0) msc_nil (hr.mono (by decide)) (je_var 0))) (jg_name 2 scN.nd)
  (jss_one (js_asgLc2 1 [("standing", 3), ("sign", 4)] [("sign", 4)] rfl scN.nd rfl rfl (sw_true rfl rfl rfl (by decide +kernel)) (ji_seq (je_var 1)) (blk_by ["self", "reached", "layer", "standing", "sign"] (defScope s_Reader__truth) (by decide +kernel)) (by decide) (fun _ _ _ _ _ => (jg_name 3 scN.nd)) (by decide) (fun _ _ _ _ _ => jts_nil) (fun _ _ _ _ _ => (ji_range1 (by rfl) m_range je_int)) (fun _ _ _ _ _ => (jg_name 4 scN.nd)) (by decide) (fun _ _ _ _ _ => jts_nil) (fun _ _ _ _ _ => (je_ix (je_ix (je_var 2) (je_var 3)) (je_var 4))))))
  (jss_one (js_ret (je_ty1 p1_tuple (by rfl) m_tuple (by decide +kernel) (je_lc [("standing", 3)] rfl scN.nd (ji_seq (je_var 1)) (blk_by ["self", "reached", "layer", "standing", "sign"] (defScope s_Reader__truth) (by decide +kernel)) (fun _ _ _ _ _ => (jg_name 3 scN.nd)) (by decide) (fun _ _ _ _ _ => jts_nil) (fun _ _ _ _ _ => (je_ix (je_att (cs := [23]) (fun c hc => by simp only [List.mem_cons, List.not_mem_nil, or_false] at hc; rcases hc with rfl <;> first | exact ⟨ik_Reader.cls, no_Reader_accepts⟩) (k := 0) msc_nil (hr.mono (by decide)) (je_var 0)) (je_var 3))))))))))
theorem sc_Table__truth : FnScope ["self"] ["self"] (defScope s_Table__truth) := ⟨rfl, rfl, rfl, by decide +kernel, rfl, by decide +kernel, by decide +kernel⟩
theorem ok_Table__truth (Fu : Fun K "truth" "Table.truth" s_Table__truth f fd)  (ik_Table : InsK K (cm 24)) (no_Table_bits : NoAttr K (cm 24) "bits") : FnOk P w K mg base CX0 2 f fd ["self"] (spP K cm F_Table__truth) :=
  have scN := sc_Table__truth
  fn_ok Fu scN len_Table__truth w_Table__truth k_Table__truth fun cdv A outer s H E hr =>
  (jss_one (js_ret (je_att (cs := [24]) (fun c hc => by simp only [List.mem_cons, List.not_mem_nil, or_false] at hc; rcases hc with rfl <;> first | exact ⟨ik_Table.cls, no_Table_bits⟩) (k := 0) msc_nil (hr.mono (by decide)) (je_var 0))))
theorem sc_number_of : FnScope ["row", "number", "sign"] ["row"] (defScope s_number_of) := ⟨rfl, rfl, rfl, by decide +kernel, rfl, by decide +kernel, by decide +kernel⟩
theorem ok_number_of (Fu : Fun K "number_of" "number_of" s_number_of f fd)   : FnOk P w K mg base CX0 1 f fd ["row"] (spP K cm F_number_of) :=
  have scN := sc_number_of
  fn_ok Fu scN len_number_of w_number_of k_number_of fun cdv A outer s H E hr =>
  (jss_cons (js_asg 1 scN.nd je_int)
  (jss_cons (js_for PassesOwn.never rfl (ji_seq (je_var 0)) (jg_name 2 scN.nd)
  (jss_one (js_asg 1 scN.nd (je_bin p2_add (je_bin p2_mul je_int (je_var 1)) (je_var 2)))))
  (jss_one (js_ret (je_var 1)))))
theorem sc_Circuit____call__ : FnScope ["self", "row", "values", "wires", "bits", "wire"] ["self", "row"] (defScope s_Circuit____call__) := ⟨rfl, rfl, rfl, by decide +kernel, rfl, by decide +kernel, by decide +kernel⟩
theorem ok_Circuit____call__ (Fu : Fun K "__call__" "Circuit.__call__" s_Circuit____call__ f fd) (m_list : mg "list" = none) (c_number_of : FnC P w K mg base cm 1 "number_of" F_number_of) (ik_Circuit : InsK K (cm 22)) (no_Circuit_gates : NoAttr K (cm 22) "gates") : FnOk P w K mg base CX0 2 f fd ["self", "row"] (spP K cm F_Circuit____call__) :=
  have scN := sc_Circuit____call__
  fn_ok Fu scN len_Circuit____call__ w_Circuit____call__ k_Circuit____call__ fun cdv A outer s H E hr =>
  (jss_cons (js_asg 2 scN.nd (je_ty1 p1_list (by rfl) m_list (by decide +kernel) (je_var 1)))
  (jss_cons (js_for PassesOwn.never rfl (ji_seq (je_att (cs := [22]) (fun c hc => by simp only [List.mem_cons, List.not_mem_nil, or_false] at hc; rcases hc with rfl <;> first | exact ⟨ik_Circuit.cls, no_Circuit_gates⟩) (k := 0) msc_nil (hr.mono (by decide)) (je_var 0))) (jg_tup rfl (jgs_cons 3 scN.nd (jgs_cons 4 scN.nd jgs_nil)))
  (jss_one (js_app 2 (je_ix (je_var 4) (je_call c_number_of (hr.mono (by decide)) (by rfl) (ja_cons (je_lc [("wire", 5)] rfl scN.nd (ji_seq (je_var 3)) (blk_by ["self", "row", "values", "wires", "bits", "wire"] (defScope s_Circuit____call__) (by decide +kernel)) (fun _ _ _ _ _ => (jg_name 5 scN.nd)) (by decide) (fun _ _ _ _ _ => jts_nil) (fun _ _ _ _ _ => (je_ix (je_var 2) (je_var 5)))) ja_nil))))))
  (jss_one (js_ret (je_ix (je_var 2) (je_neg je_int))))))
theorem sc_row_of : FnScope ["number", "width", "place"] ["number", "width"] (defScope s_row_of) := ⟨rfl, rfl, rfl, by decide +kernel, rfl, by decide +kernel, by decide +kernel⟩
theorem ok_row_of (Fu : Fun K "row_of" "row_of" s_row_of f fd) (m_range : mg "range" = none) (m_tuple : mg "tuple" = none)  : FnOk P w K mg base CX0 1 f fd ["number", "width"] (spP K cm F_row_of) :=
  have scN := sc_row_of
  fn_ok Fu scN len_row_of w_row_of k_row_of fun cdv A outer s H E hr =>
  (jss_one (js_ret (je_ty1 p1_tuple (by rfl) m_tuple (by decide +kernel) (je_lc [("place", 2)] rfl scN.nd (ji_range1 (by rfl) m_range (je_var 1)) (blk_by ["number", "width", "place"] (defScope s_row_of) (by decide +kernel)) (fun _ _ _ _ _ => (jg_name 2 scN.nd)) (by decide) (fun _ _ _ _ _ => jts_nil) (fun _ _ _ _ _ => (je_bin p2_and (je_bin p2_shr (je_var 0) (je_bin p2_sub (je_bin p2_sub (je_var 1) je_int) (je_var 2))) je_int))))))
theorem sc_Circuit__truth : FnScope ["self", "number"] ["self"] (defScope s_Circuit__truth) := ⟨rfl, rfl, rfl, by decide +kernel, rfl, by decide +kernel, by decide +kernel⟩
theorem ok_Circuit__truth (Fu : Fun K "truth" "Circuit.truth" s_Circuit__truth f fd) (m_range : mg "range" = none) (m_tuple : mg "tuple" = none) (ik_Circuit : InsK K (cm 22)) (no_Circuit_width : NoAttr K (cm 22) "width") (c_row_of : FnC P w K mg base cm 1 "row_of" F_row_of) (so_call_22 : MsC (SpecC P w K mg base cm 2 "__call__") [(22, F_Circuit____call__)]) : FnOk P w K mg base CX0 3 f fd ["self"] (spP K cm F_Circuit__truth) :=
  have scN := sc_Circuit__truth
  fn_ok Fu scN len_Circuit__truth w_Circuit__truth k_Circuit__truth fun cdv A outer s H E hr =>
  (jss_one (js_ret (je_ty1 p1_tuple (by rfl) m_tuple (by decide +kernel) (je_lc [("number", 1)] rfl scN.nd (ji_range1 (by rfl) m_range (je_bin p2_shl je_int (je_att (cs := [22]) (fun c hc => by simp only [List.mem_cons, List.not_mem_nil, or_false] at hc; rcases hc with rfl <;> first | exact ⟨ik_Circuit.cls, no_Circuit_width⟩) (k := 0) msc_nil (hr.mono (by decide)) (je_var 0)))) (blk_by ["self", "number"] (defScope s_Circuit__truth) (by decide +kernel)) (fun _ _ _ _ _ => (jg_name 1 scN.nd)) (by decide) (fun _ _ _ _ _ => jts_nil) (fun _ _ _ _ _ => (je_callO so_call_22 (hr.mono (by decide)) (je_var 0) (ja_cons (je_call c_row_of (hr.mono (by decide)) (by rfl) (ja_cons (je_var 1) (ja_cons (je_att (cs := [22]) (fun c hc => by simp only [List.mem_cons, List.not_mem_nil, or_false] at hc; rcases hc with rfl <;> first | exact ⟨ik_Circuit.cls, no_Circuit_width⟩) (k := 0) msc_nil (hr.mono (by decide)) (je_var 0)) ja_nil))) ja_nil)))))))
theorem sc_leaf_of : FnScope ["node", "row", "here"] ["node", "row"] (defScope s_leaf_of) := ⟨rfl, rfl, rfl, by decide +kernel, rfl, by decide +kernel, by decide +kernel⟩
theorem ok_leaf_of (Fu : Fun K "leaf_of" "leaf_of" s_leaf_of f fd) (m_isinstance : mg "isinstance" = none) (m_tuple : mg "tuple" = none)  : FnOk P w K mg base CX0 1 f fd ["node", "row"] (spP K cm F_leaf_of) :=
  have scN := sc_leaf_of
  fn_ok Fu scN len_leaf_of w_leaf_of k_leaf_of fun cdv A outer s H E hr =>
  (jss_cons (js_asg 2 scN.nd (je_var 0))
  (jss_cons (js_while PassesOwn.never (jt_val (je_isi (T := "tuple") (by decide +kernel) (by rfl) m_isinstance (by rfl) m_tuple (by decide +kernel) (je_var 2)))
  (jss_one (js_asg 2 scN.nd (je_ix (je_var 2) (je_bin p2_add je_int (je_ix (je_var 1) (je_ix (je_var 2) je_int)))))))
  (jss_one (js_ret (je_var 2)))))
theorem sc_Tree__truth : FnScope ["self", "number"] ["self"] (defScope s_Tree__truth) := ⟨rfl, rfl, rfl, by decide +kernel, rfl, by decide +kernel, by decide +kernel⟩
theorem ok_Tree__truth (Fu : Fun K "truth" "Tree.truth" s_Tree__truth f fd) (m_range : mg "range" = none) (m_tuple : mg "tuple" = none) (ik_Tree : InsK K (cm 25)) (no_Tree_width : NoAttr K (cm 25) "width") (c_leaf_of : FnC P w K mg base cm 1 "leaf_of" F_leaf_of) (no_Tree_node : NoAttr K (cm 25) "node") (c_row_of : FnC P w K mg base cm 1 "row_of" F_row_of) : FnOk P w K mg base CX0 2 f fd ["self"] (spP K cm F_Tree__truth) :=
  have scN := sc_Tree__truth
  fn_ok Fu scN len_Tree__truth w_Tree__truth k_Tree__truth fun cdv A outer s H E hr =>
  (jss_one (js_ret (je_ty1 p1_tuple (by rfl) m_tuple (by decide +kernel) (je_lc [("number", 1)] rfl scN.nd (ji_range1 (by rfl) m_range (je_bin p2_shl je_int (je_att (cs := [25]) (fun c hc => by simp only [List.mem_cons, List.not_mem_nil, or_false] at hc; rcases hc with rfl <;> first | exact ⟨ik_Tree.cls, no_Tree_width⟩) (k := 0) msc_nil (hr.mono (by decide)) (je_var 0)))) (blk_by ["self", "number"] (defScope s_Tree__truth) (by decide +kernel)) (fun _ _ _ _ _ => (jg_name 1 scN.nd)) (by decide) (fun _ _ _ _ _ => jts_nil) (fun _ _ _ _ _ => (je_call c_leaf_of (hr.mono (by decide)) (by rfl) (ja_cons (je_att (cs := [25]) (fun c hc => by simp only [List.mem_cons, List.not_mem_nil, or_false] at hc; rcases hc with rfl <;> first | exact ⟨ik_Tree.cls, no_Tree_node⟩) (k := 0) msc_nil (hr.mono (by decide)) (je_var 0)) (ja_cons (je_call c_row_of (hr.mono (by decide)) (by rfl) (ja_cons (je_var 1) (ja_cons (je_att (cs := [25]) (fun c hc => by simp only [List.mem_cons, List.not_mem_nil, or_false] at hc; rcases hc with rfl <;> first | exact ⟨ik_Tree.cls, no_Tree_width⟩) (k := 0) msc_nil (hr.mono (by decide)) (je_var 0)) ja_nil))) ja_nil))))))))
theorem sc_signed_answers : FnScope ["table", "bit"] ["table"] (defScope s_signed_answers) := ⟨rfl, rfl, rfl, by decide +kernel, rfl, by decide +kernel, by decide +kernel⟩
theorem ok_signed_answers (Fu : Fun K "signed_answers" "signed_answers" s_signed_answers f fd)  (ms_truth_22_23_24_25 : MsC (MethC P w K mg base cm 3 "truth") [(22, F_Circuit__truth), (23, F_Reader__truth), (24, F_Table__truth), (25, F_Tree__truth)]) : FnOk P w K mg base CX0 4 f fd ["table"] (spP K cm F_signed_answers) :=
  have scN := sc_signed_answers
  fn_ok Fu scN len_signed_answers w_signed_answers k_signed_answers fun cdv A outer s H E hr =>
  (jss_one (js_ret (je_lc [("bit", 1)] rfl scN.nd (ji_seq (je_meth0 ms_truth_22_23_24_25 (hr.mono (by decide)) (je_var 0))) (blk_by ["table", "bit"] (defScope s_signed_answers) (by decide +kernel)) (fun _ _ _ _ _ => (jg_name 1 scN.nd)) (by decide) (fun _ _ _ _ _ => jts_nil) (fun _ _ _ _ _ => (je_bin p2_sub je_int (je_bin p2_mul je_int (je_var 1)))))))
theorem sc_is_near : FnScope ["number", "width", "more"] ["number", "width", "more"] (defScope s_is_near) := ⟨rfl, rfl, rfl, by decide +kernel, rfl, by decide +kernel, by decide +kernel⟩
theorem ok_is_near (Fu : Fun K "is_near" "is_near" s_is_near f fd)   : FnOk P w K mg base CX0 1 f fd ["number", "width", "more"] (spP K cm F_is_near) :=
  have scN := sc_is_near
  fn_ok Fu scN len_is_near w_is_near k_is_near fun cdv A outer s H E hr =>
  (jss_one (js_ret (je_cmp p2_ge (je_bin p2_mul (je_var 0) (je_ix (je_var 2) je_int)) (je_bin p2_mul (je_bin p2_shl je_int (je_var 1)) (je_ix (je_var 2) je_int)))))
theorem sc_near_sums : FnScope ["table", "more", "numbers", "width", "found", "number"] ["table", "more"] (defScope s_near_sums) := ⟨rfl, rfl, rfl, by decide +kernel, rfl, by decide +kernel, by decide +kernel⟩
theorem ok_near_sums (Fu : Fun K "near_sums" "near_sums" s_near_sums f fd) (m_len : mg "len" = none) (m_range : mg "range" = none) (m_tuple : mg "tuple" = none) (c_turned_numbers : FnC P w K mg base cm 2 "turned_numbers" F_turned_numbers) (c_signed_answers : FnC P w K mg base cm 4 "signed_answers" F_signed_answers) (ik_Circuit : InsK K (cm 22)) (no_Circuit_width : NoAttr K (cm 22) "width") (ik_Reader : InsK K (cm 23)) (no_Reader_width : NoAttr K (cm 23) "width") (ik_Table : InsK K (cm 24)) (no_Table_width : NoAttr K (cm 24) "width") (ik_Tree : InsK K (cm 25)) (no_Tree_width : NoAttr K (cm 25) "width") (c_is_near : FnC P w K mg base cm 1 "is_near" F_is_near) (c_row_of : FnC P w K mg base cm 1 "row_of" F_row_of) : FnOk P w K mg base CX0 5 f fd ["table", "more"] (spP K cm F_near_sums) :=
  have scN := sc_near_sums
  fn_ok Fu scN len_near_sums w_near_sums k_near_sums fun cdv A outer s H E hr =>
  (jss_cons (js_asg 2 scN.nd (je_call c_turned_numbers (hr.mono (by decide)) (by rfl) (ja_cons (je_call c_signed_answers (hr.mono (by decide)) (by rfl) (ja_cons (je_var 0) ja_nil)) ja_nil)))
  (jss_cons (js_asg 3 scN.nd (je_att (cs := [22, 23, 24, 25]) (fun c hc => by simp only [List.mem_cons, List.not_mem_nil, or_false] at hc; rcases hc with rfl | rfl | rfl | rfl <;> first | exact ⟨ik_Circuit.cls, no_Circuit_width⟩ | exact ⟨ik_Reader.cls, no_Reader_width⟩ | exact ⟨ik_Table.cls, no_Table_width⟩ | exact ⟨ik_Tree.cls, no_Tree_width⟩) (k := 0) msc_nil (hr.mono (by decide)) (je_var 0)))
  (jss_cons (js_asg 4 scN.nd (je_lst ja_nil))
  (jss_cons (js_for PassesOwn.never rfl (ji_range1 (by rfl) m_range (je_b1 p1_len (by rfl) m_len (by decide +kernel) (je_var 2))) (jg_name 5 scN.nd)
  (jss_one (js_if (jt_val (je_call c_is_near (hr.mono (by decide)) (by rfl) (ja_cons (je_ix (je_var 2) (je_var 5)) (ja_cons (je_var 3) (ja_cons (je_var 1) ja_nil)))))
  (jss_one (js_app 4 (je_tup (ja_cons (je_call c_row_of (hr.mono (by decide)) (by rfl) (ja_cons (je_var 5) (ja_cons (je_var 3) ja_nil))) (ja_cons (je_bin p2_div (je_bin p2_add (je_bin p2_shl je_int (je_var 3)) (je_ix (je_var 2) (je_var 5))) je_int) ja_nil)))))
  jss_nil)))
  (jss_one (js_ret (je_ty1 p1_tuple (by rfl) m_tuple (by decide +kernel) (je_var 4))))))))
theorem sc__law_is_row : FnScope ["row", "width", "sign"] ["row", "width"] (defScope s__law_is_row) := ⟨rfl, rfl, rfl, by decide +kernel, rfl, by decide +kernel, by decide +kernel⟩
theorem ok__law_is_row (Fu : Fun K "_law_is_row" "_law_is_row" s__law_is_row f fd) (m_isinstance : mg "isinstance" = none) (m_len : mg "len" = none) (m_tuple : mg "tuple" = none) (c__law_whole : FnC P w K mg base cm 1 "_law_whole" F__law_whole) : FnOk P w K mg base CX0 2 f fd ["row", "width"] (spP K cm F__law_is_row) :=
  have scN := sc__law_is_row
  fn_ok Fu scN len__law_is_row w__law_is_row k__law_is_row fun cdv A outer s H E hr =>
  (jss_cons (js_if (JW.t (jw_or (jt_not (jt_val (je_isi (T := "tuple") (by decide +kernel) (by rfl) m_isinstance (by rfl) m_tuple (by decide +kernel) (je_var 0)))) (jw_or1 (jt_cmp (p2_ne hr.units) (je_b1 p1_len (by rfl) m_len (by decide +kernel) (je_var 0)) (je_var 1)))))
  (jss_one (js_ret je_bl))
  jss_nil)
  (jss_cons (js_for PassesOwn.never rfl (ji_seq (je_var 0)) (jg_name 2 scN.nd)
  (jss_one (js_if (JW.t (jw_or (jt_not (jt_val (je_call c__law_whole (hr.mono (by decide)) (by rfl) (ja_cons (je_var 2) ja_nil)))) (jw_or (jt_cmp p2_lt (je_var 2) je_int) (jw_or1 (jt_cmp p2_gt (je_var 2) je_int)))))
  (jss_one (js_ret je_bl))
  jss_nil)))
  (jss_one (js_ret je_bl))))
theorem sc__law_near_right : FnScope ["table", "surplus", "width", "more", "frozen", "due", "number", "handed", "told", "k"] ["table", "surplus", "width", "more", "frozen"] (defScope s__law_near_right) := ⟨rfl, rfl, rfl, by decide +kernel, rfl, by decide +kernel, by decide +kernel⟩
theorem ok__law_near_right (Fu : Fun K "_law_near_right" "_law_near_right" s__law_near_right f fd) (m_isinstance : mg "isinstance" = none) (m_len : mg "len" = none) (m_list : mg "list" = none) (m_range : mg "range" = none) (m_tuple : mg "tuple" = none) (c__law_bits : FnC P w K mg base cm 1 "_law_bits" F__law_bits) (c_near_sums : FnC P w K mg base cm 5 "near_sums" F_near_sums) (c__law_whole : FnC P w K mg base cm 1 "_law_whole" F__law_whole) (c__law_is_row : FnC P w K mg base cm 2 "_law_is_row" F__law_is_row) : FnOk P w K mg base CX0 6 f fd ["table", "surplus", "width", "more", "frozen"] (spP K cm F__law_near_right) :=
  have scN := sc__law_near_right
  fn_ok Fu scN len__law_near_right w__law_near_right k__law_near_right fun cdv A outer s H E hr =>
  (jss_cons (js_asg 5 scN.nd (je_lst ja_nil))
  (jss_cons (js_for PassesOwn.never rfl (ji_range1 (by rfl) m_range (je_bin p2_shl je_int (je_var 2))) (jg_name 6 scN.nd)
  (jss_one (js_if (jt_cmp p2_ge (je_bin p2_mul (je_ix (je_var 1) (je_var 6)) (je_ix (je_var 3) je_int)) (je_bin p2_mul (je_bin p2_shl je_int (je_var 2)) (je_ix (je_var 3) je_int)))
  (jss_one (js_app 5 (je_lst (ja_cons (je_call c__law_bits (hr.mono (by decide)) (by rfl) (ja_cons (je_var 6) (ja_cons (je_var 2) ja_nil))) (ja_cons (je_bin p2_div (je_bin p2_add (je_ix (je_var 1) (je_var 6)) (je_bin p2_shl je_int (je_var 2))) je_int) ja_nil)))))
  jss_nil)))
  (jss_cons (js_asg 7 scN.nd (je_ty1 p1_list (by rfl) m_list (by decide +kernel) (je_var 3)))
  (jss_frz 7 (jss_cons (js_if (jt_val (je_var 4))
  (jss_one (js_asg 7 scN.nd (je_ty1 p1_tuple (by rfl) m_tuple (by decide +kernel) (je_var 3))))
  jss_nil)
  (jss_cons (js_asg 8 scN.nd (je_call c_near_sums (hr.mono (by decide)) (by rfl) (ja_cons (je_var 0) (ja_cons (je_var 7) ja_nil))))
  (jss_cons (js_if (JW.t (jw_or (jt_cmp (p2_ne hr.units) (je_ty1 p1_list (by rfl) m_list (by decide +kernel) (je_var 7)) (je_var 3)) (jw_or (jt_not (jt_val (je_isi (T := "tuple") (by decide +kernel) (by rfl) m_isinstance (by rfl) m_tuple (by decide +kernel) (je_var 8)))) (jw_or1 (jt_cmp (p2_ne hr.units) (je_b1 p1_len (by rfl) m_len (by decide +kernel) (je_var 8)) (je_b1 p1_len (by rfl) m_len (by decide +kernel) (je_var 5)))))))
  (jss_one (js_ret je_bl))
  jss_nil)
  (jss_cons (js_for PassesOwn.never rfl (ji_range1 (by rfl) m_range (je_b1 p1_len (by rfl) m_len (by decide +kernel) (je_var 5))) (jg_name 9 scN.nd)
  (jss_cons (js_if (JW.t (jw_or (jt_not (jt_val (je_isi (T := "tuple") (by decide +kernel) (by rfl) m_isinstance (by rfl) m_tuple (by decide +kernel) (je_ix (je_var 8) (je_var 9))))) (jw_or (jt_cmp (p2_ne hr.units) (je_b1 p1_len (by rfl) m_len (by decide +kernel) (je_ix (je_var 8) (je_var 9))) je_int) (jw_or (jt_not (jt_val (je_call c__law_is_row (hr.mono (by decide)) (by rfl) (ja_cons (je_ix (je_ix (je_var 8) (je_var 9)) je_int) (ja_cons (je_var 2) ja_nil))))) (jw_or1 (jt_not (jt_val (je_call c__law_whole (hr.mono (by decide)) (by rfl) (ja_cons (je_ix (je_ix (je_var 8) (je_var 9)) je_int) ja_nil)))))))))
  (jss_one (js_ret je_bl))
  jss_nil)
  (jss_one (js_if (JW.t (jw_or (jt_cmp (p2_ne hr.units) (je_ix (je_ix (je_var 8) (je_var 9)) je_int) (je_ix (je_ix (je_var 5) (je_var 9)) je_int)) (jw_or1 (jt_cmp (p2_ne hr.units) (je_ix (je_ix (je_var 8) (je_var 9)) je_int) (je_ix (je_ix (je_var 5) (je_var 9)) je_int)))))
  (jss_one (js_ret je_bl))
  jss_nil))))
  (jss_one (js_ret (je_cmp p2_le (je_b1 p1_len (by rfl) m_len (by decide +kernel) (je_var 5)) (je_bin p2_div (je_bin p2_mul (je_ix (je_var 3) je_int) (je_ix (je_var 3) je_int)) (je_bin p2_mul (je_bin p2_mul je_int (je_ix (je_var 3) je_int)) (je_ix (je_var 3) je_int))))))))))))))
theorem sc__law_power : FnScope ["base", "count", "result", "k"] ["base", "count"] (defScope s__law_power) := ⟨rfl, rfl, rfl, by decide +kernel, rfl, by decide +kernel, by decide +kernel⟩
theorem ok__law_power (Fu : Fun K "_law_power" "_law_power" s__law_power f fd) (m_range : mg "range" = none)  : FnOk P w K mg base CX0 1 f fd ["base", "count"] (spP K cm F__law_power) :=
  have scN := sc__law_power
  fn_ok Fu scN len__law_power w__law_power k__law_power fun cdv A outer s H E hr =>
  (jss_cons (js_asg 2 scN.nd je_int)
  (jss_cons (js_for PassesOwn.never rfl (ji_range1 (by rfl) m_range (je_var 1)) (jg_name 3 scN.nd)
  (jss_one (js_asg 2 scN.nd (je_bin p2_mul (je_var 2) (je_var 0)))))
  (jss_one (js_ret (je_var 2)))))
theorem sc_law : FnScope ["script", "shape", "width", "found", "table", "truth", "surplus", "check", "first", "second", "more", "wide"] ["script"] (defScope s_law) := ⟨rfl, rfl, rfl, by decide +kernel, rfl, by decide +kernel, by decide +kernel⟩
theorem ok_law (Fu : Fun K "law" "law" s_law f fd) (m_int : mg "int" = none) (c__law_digits : FnC P w K mg base cm 1 "_law_digits" F__law_digits) (c__law_cell : FnC P w K mg base cm 1 "_law_cell" F__law_cell) (c__law_near_table : FnC P w K mg base cm 11 "_law_near_table" F__law_near_table) (c__law_build : FnC P w K mg base cm 8 "_law_build" F__law_build) (c__law_truth : FnC P w K mg base cm 4 "_law_truth" F__law_truth) (c__law_surplus : FnC P w K mg base cm 1 "_law_surplus" F__law_surplus) (c__law_sum_agree : FnC P w K mg base cm 2 "_law_sum_agree" F__law_sum_agree) (c__law_more : FnC P w K mg base cm 1 "_law_more" F__law_more) (c__law_most_right : FnC P w K mg base cm 2 "_law_most_right" F__law_most_right) (c__law_near_right : FnC P w K mg base cm 6 "_law_near_right" F__law_near_right) (c__law_power : FnC P w K mg base cm 1 "_law_power" F__law_power) : FnOk P w K mg base CX0 12 f fd ["script"] (spP K cm F_law_k54) :=
  have scN := sc_law
  fn_ok Fu scN len_law_k54 w_law_k54 k_law_k54 fun cdv A outer s H E hr =>
  (jss_cons (js_asg 1 scN.nd (je_call c__law_digits (hr.mono (by decide)) (by rfl) (ja_cons (je_call c__law_cell (hr.mono (by decide)) (by rfl) (ja_cons (je_var 0) (ja_cons je_int ja_nil))) (ja_cons (je_lst (ja_cons je_int (ja_cons je_int (ja_cons je_int (ja_cons je_int (ja_cons je_int (ja_cons je_int (ja_cons je_int (ja_cons je_int ja_nil))))))))) ja_nil))))
  (jss_cons (js_asg 2 scN.nd (je_bin p2_add je_int (je_ix (je_var 1) je_int)))
  (jss_cons (js_if (jt_cmp (p2_eq hr.units) (je_ix (je_var 1) je_int) je_int)
  (jss_one (js_asg 2 scN.nd (je_bin p2_add je_int (je_bin p2_mod (je_ix (je_var 1) je_int) je_int))))
  jss_nil)
  (jss_cons (js_asg 3 scN.nd (je_call c__law_near_table (hr.mono (by decide)) (by rfl) (ja_cons (je_var 0) (ja_cons je_int (ja_cons (je_var 2) ja_nil)))))
  (jss_cons (js_asg 4 scN.nd (je_call c__law_build (hr.mono (by decide)) (by rfl) (ja_cons (je_ix (je_var 3) je_int) ja_nil)))
  (jss_cons (js_asg 5 scN.nd (je_call c__law_truth (hr.mono (by decide)) (by rfl) (ja_cons (je_ix (je_var 3) je_int) ja_nil)))
  (jss_cons (js_asg 6 scN.nd (je_call c__law_surplus (hr.mono (by decide)) (by rfl) (ja_cons (je_var 5) (ja_cons (je_var 2) ja_nil))))
  (jss_cons (js_asg 7 scN.nd (je_bin p2_mod (je_ty1 p1_int (by rfl) m_int (by decide +kernel) (je_ix (je_var 1) je_int)) (je_bin p2_shl je_int (je_var 2))))
  (jss_cons (js_if (jt_cmp (p2_ne hr.units) (je_ix (je_var 6) (je_var 7)) (je_bin p2_sub (je_bin p2_mul je_int (je_call c__law_sum_agree (hr.mono (by decide)) (by rfl) (ja_cons (je_var 5) (ja_cons (je_var 2) (ja_cons (je_var 7) ja_nil))))) (je_bin p2_shl je_int (je_var 2))))
  (jss_one (js_ret je_bl))
  jss_nil)
  (jss_cons (js_asg 8 scN.nd (je_call c__law_more (hr.mono (by decide)) (by rfl) (ja_cons (je_var 6) (ja_cons (je_var 2) (ja_cons (je_slice (je_var 1) (jo_some je_int) jo_none) ja_nil)))))
  (jss_cons (js_asg 9 scN.nd (je_call c__law_more (hr.mono (by decide)) (by rfl) (ja_cons (je_var 6) (ja_cons (je_var 2) (ja_cons (je_lst (ja_cons je_int (ja_cons (je_ix (je_var 1) je_int) (ja_cons (je_ix (je_var 1) je_int) ja_nil)))) ja_nil)))))
  (jss_cons (js_for PassesOwn.never rfl (ji_seq (je_lst (ja_cons (je_var 8) (ja_cons (je_var 9) (ja_cons (je_var 8) ja_nil))))) (jg_name 10 scN.nd)
  (jss_one (js_if (JW.t (jw_or (jt_not (jt_val (je_call c__law_near_right (hr.mono (by decide)) (by rfl) (ja_cons (je_var 4) (ja_cons (je_var 6) (ja_cons (je_var 2) (ja_cons (je_var 10) (ja_cons (je_cmp (p2_eq hr.units) (je_var 10) (je_var 9)) ja_nil)))))))) (jw_or1 (jt_not (jt_val (je_call c__law_most_right (hr.mono (by decide)) (by rfl) (ja_cons (je_var 10) ja_nil)))))))
  (jss_one (js_ret je_bl))
  jss_nil)))
  (jss_cons (js_asg 11 scN.nd (je_bin p2_add (je_bin p2_add (je_bin p2_mul (je_call c__law_power (hr.mono (by decide)) (by rfl) (ja_cons je_int (ja_cons (je_bin p2_mod (je_ix (je_var 1) je_int) je_int) ja_nil))) je_int) je_int) (je_ix (je_var 1) je_int)))
  (jss_one (js_ret (je_call c__law_most_right (hr.mono (by decide)) (by rfl) (ja_cons (je_lst (ja_cons (je_bin p2_add je_int (je_ix (je_var 1) je_int)) (ja_cons (je_bin p2_add (je_var 11) (je_bin p2_mul je_int (je_ix (je_var 1) je_int))) ja_nil))) ja_nil)))))))))))))))))
end
theorem all_mk {l : PySem.W.OpenLaw} {w : World} {K : PySem.W.Frag} {h : Heap} {mg : Str → Option Value} {fa : Addr} (X : K.In h) (G : h.Ns mainGlobals mg) (hfa : mg "law" = some (.ref fa))
  {f1 f2 f3 f4 f5 f6 f7 f8 f9 f10 f11 f12 f13 f14 f15 f16 f17 f18 f19 f20 f21 f22 f23 f24 f25 f26 f27 f28 f29 f30 f31 f32 f33 f34 f35 f36 f37 f38 f39 f40 f41 f42 f43 f44 f45 f46 f47 f48 f49 f50 f51 : Addr} {od1 an1 od2 an2 od3 an3 od4 an4 od5 an5 od6 an6 od7 an7 od8 an8 od9 an9 od10 an10 od11 an11 od12 an12 od13 an13 od14 an14 od15 an15 od16 an16 od17 an17 od18 an18 od19 an19 od20 an20 od21 an21 od22 an22 od23 an23 od24 an24 od25 an25 od26 an26 od27 an27 od28 an28 od29 an29 od30 an30 od31 an31 od32 an32 od33 an33 od34 an34 od35 an35 od36 an36 od37 an37 od38 an38 od39 an39 od40 an40 od41 an41 od42 an42 od43 an43 od44 an44 od45 an45 od46 an46 od47 an47 od48 an48 od49 an49 od50 an50 od51 an51 : Option Addr} {sl1 sl2 sl3 sl4 sl5 sl6 sl7 sl8 sl9 sl10 sl11 sl12 sl13 sl14 sl15 sl16 sl17 sl18 sl19 sl20 sl21 sl22 sl23 sl24 sl25 sl26 sl27 sl28 sl29 sl30 sl31 sl32 sl33 sl34 sl35 sl36 sl37 sl38 sl39 sl40 sl41 sl42 sl43 sl44 sl45 sl46 sl47 sl48 sl49 sl50 sl51 : Array (Option Value)} {oc1 dc1 pm1 cd1 ct1 kV1 oc2 dc2 pm2 cd2 ct2 kV2 oc3 dc3 pm3 cd3 ct3 kV3 oc4 dc4 pm4 cd4 ct4 kV4 oc5 dc5 pm5 cd5 ct5 kV5 oc6 dc6 pm6 cd6 ct6 kV6 oc7 dc7 pm7 cd7 ct7 kV7 oc8 dc8 pm8 cd8 ct8 kV8 oc9 dc9 pm9 cd9 ct9 kV9 oc10 dc10 pm10 cd10 ct10 kV10 oc11 dc11 pm11 cd11 ct11 kV11 oc12 dc12 pm12 cd12 ct12 kV12 oc13 dc13 pm13 cd13 ct13 kV13 oc14 dc14 pm14 cd14 ct14 kV14 oc15 dc15 pm15 cd15 ct15 kV15 oc16 dc16 pm16 cd16 ct16 kV16 oc17 dc17 pm17 cd17 ct17 kV17 oc18 dc18 pm18 cd18 ct18 kV18 oc19 dc19 pm19 cd19 ct19 kV19 oc20 dc20 pm20 cd20 ct20 kV20 oc21 dc21 pm21 cd21 ct21 kV21 oc22 dc22 pm22 cd22 ct22 kV22 oc23 dc23 pm23 cd23 ct23 kV23 oc24 dc24 pm24 cd24 ct24 kV24 oc25 dc25 pm25 cd25 ct25 kV25 oc26 dc26 pm26 cd26 ct26 kV26 oc27 dc27 pm27 cd27 ct27 kV27 oc28 dc28 pm28 cd28 ct28 kV28 oc29 dc29 pm29 cd29 ct29 kV29 oc30 dc30 pm30 cd30 ct30 kV30 oc31 dc31 pm31 cd31 ct31 kV31 oc32 dc32 pm32 cd32 ct32 kV32 oc33 dc33 pm33 cd33 ct33 kV33 oc34 dc34 pm34 cd34 ct34 kV34 oc35 dc35 pm35 cd35 ct35 kV35 oc36 dc36 pm36 cd36 ct36 kV36 oc37 dc37 pm37 cd37 ct37 kV37 oc38 dc38 pm38 cd38 ct38 kV38 oc39 dc39 pm39 cd39 ct39 kV39 oc40 dc40 pm40 cd40 ct40 kV40 oc41 dc41 pm41 cd41 ct41 kV41 oc42 dc42 pm42 cd42 ct42 kV42 oc43 dc43 pm43 cd43 ct43 kV43 oc44 dc44 pm44 cd44 ct44 kV44 oc45 dc45 pm45 cd45 ct45 kV45 oc46 dc46 pm46 cd46 ct46 kV46 oc47 dc47 pm47 cd47 ct47 kV47 oc48 dc48 pm48 cd48 ct48 kV48 oc49 dc49 pm49 cd49 ct49 kV49 oc50 dc50 pm50 cd50 ct50 kV50 oc51 dc51 pm51 cd51 ct51 kV51 : Value}
  {C_Circuit C_Reader C_Table C_Tree : Addr}
  (z_Circuit : PySem.W.nsIn K mainGlobals "Circuit" = some (some (.ref C_Circuit)))
  (z_Reader : PySem.W.nsIn K mainGlobals "Reader" = some (some (.ref C_Reader)))
  (z_Table : PySem.W.nsIn K mainGlobals "Table" = some (some (.ref C_Table)))
  (z_Tree : PySem.W.nsIn K mainGlobals "Tree" = some (some (.ref C_Tree)))
  (mi1_Circuit : PySem.W.makesIn K C_Circuit = true) (mi3_Circuit : PySem.W.keepIn K (.ref C_Circuit) = true)
  (mi1_Reader : PySem.W.makesIn K C_Reader = true) (mi3_Reader : PySem.W.keepIn K (.ref C_Reader) = true)
  (mi1_Table : PySem.W.makesIn K C_Table = true) (mi3_Table : PySem.W.keepIn K (.ref C_Table) = true)
  (mi1_Tree : PySem.W.makesIn K C_Tree = true) (mi3_Tree : PySem.W.keepIn K (.ref C_Tree) = true)
  (q_ik_Reader : insB K C_Reader = true)
  (q_no_Reader_accepts : PySem.W.findIn K (.ref C_Reader) "accepts" = some none)
  (q_no_Reader_layers : PySem.W.findIn K (.ref C_Reader) "layers" = some none)
  (q_no_Reader_width : PySem.W.findIn K (.ref C_Reader) "width" = some none)
  (q_ik_Table : insB K C_Table = true)
  (q_no_Table_bits : PySem.W.findIn K (.ref C_Table) "bits" = some none)
  (q_no_Table_width : PySem.W.findIn K (.ref C_Table) "width" = some none)
  (q_ik_Circuit : insB K C_Circuit = true)
  (q_no_Circuit_gates : PySem.W.findIn K (.ref C_Circuit) "gates" = some none)
  (q_no_Circuit_width : PySem.W.findIn K (.ref C_Circuit) "width" = some none)
  (q_ik_Tree : insB K C_Tree = true)
  (q_no_Tree_node : PySem.W.findIn K (.ref C_Tree) "node" = some none)
  (q_no_Tree_width : PySem.W.findIn K (.ref C_Tree) "width" = some none)
  (a1 : PySem.W.nsIn K mainGlobals "_law_digits" = some (some (.ref f1))) (l1 : K.lookup f1 = some ⟨oc1, od1, .func (PySem.W.fnOf "_law_digits" "_law_digits" (defArgs s__law_digits) (defBody s__law_digits) (defScope s__law_digits) .none kV1 dc1 pm1 an1 cd1 ct1), sl1⟩) (c1 : PySem.W.codeIn K cd1 "_law_digits" = true) (k1 : PySem.W.keepIn K (.ref f1) = true)
  (a2 : PySem.W.nsIn K mainGlobals "_law_cell" = some (some (.ref f2))) (l2 : K.lookup f2 = some ⟨oc2, od2, .func (PySem.W.fnOf "_law_cell" "_law_cell" (defArgs s__law_cell) (defBody s__law_cell) (defScope s__law_cell) .none kV2 dc2 pm2 an2 cd2 ct2), sl2⟩) (c2 : PySem.W.codeIn K cd2 "_law_cell" = true) (k2 : PySem.W.keepIn K (.ref f2) = true)
  (a3 : PySem.W.nsIn K mainGlobals "_law_whole" = some (some (.ref f3))) (l3 : K.lookup f3 = some ⟨oc3, od3, .func (PySem.W.fnOf "_law_whole" "_law_whole" (defArgs s__law_whole) (defBody s__law_whole) (defScope s__law_whole) .none kV3 dc3 pm3 an3 cd3 ct3), sl3⟩) (c3 : PySem.W.codeIn K cd3 "_law_whole" = true) (k3 : PySem.W.keepIn K (.ref f3) = true)
  (a4 : PySem.W.nsIn K mainGlobals "_law_leaf" = some (some (.ref f4))) (l4 : K.lookup f4 = some ⟨oc4, od4, .func (PySem.W.fnOf "_law_leaf" "_law_leaf" (defArgs s__law_leaf) (defBody s__law_leaf) (defScope s__law_leaf) .none kV4 dc4 pm4 an4 cd4 ct4), sl4⟩) (c4 : PySem.W.codeIn K cd4 "_law_leaf" = true) (k4 : PySem.W.keepIn K (.ref f4) = true)
  (a5 : PySem.W.nsIn K mainGlobals "_law_number" = some (some (.ref f5))) (l5 : K.lookup f5 = some ⟨oc5, od5, .func (PySem.W.fnOf "_law_number" "_law_number" (defArgs s__law_number) (defBody s__law_number) (defScope s__law_number) .none kV5 dc5 pm5 an5 cd5 ct5), sl5⟩) (c5 : PySem.W.codeIn K cd5 "_law_number" = true) (k5 : PySem.W.keepIn K (.ref f5) = true)
  (a6 : PySem.W.nsIn K mainGlobals "_law_answer" = some (some (.ref f6))) (l6 : K.lookup f6 = some ⟨oc6, od6, .func (PySem.W.fnOf "_law_answer" "_law_answer" (defArgs s__law_answer) (defBody s__law_answer) (defScope s__law_answer) .none kV6 dc6 pm6 an6 cd6 ct6), sl6⟩) (c6 : PySem.W.codeIn K cd6 "_law_answer" = true) (k6 : PySem.W.keepIn K (.ref f6) = true)
  (a7 : PySem.W.nsIn K mainGlobals "_law_bits" = some (some (.ref f7))) (l7 : K.lookup f7 = some ⟨oc7, od7, .func (PySem.W.fnOf "_law_bits" "_law_bits" (defArgs s__law_bits) (defBody s__law_bits) (defScope s__law_bits) .none kV7 dc7 pm7 an7 cd7 ct7), sl7⟩) (c7 : PySem.W.codeIn K cd7 "_law_bits" = true) (k7 : PySem.W.keepIn K (.ref f7) = true)
  (a8 : PySem.W.nsIn K mainGlobals "_law_truth" = some (some (.ref f8))) (l8 : K.lookup f8 = some ⟨oc8, od8, .func (PySem.W.fnOf "_law_truth" "_law_truth" (defArgs s__law_truth) (defBody s__law_truth) (defScope s__law_truth) .none kV8 dc8 pm8 an8 cd8 ct8), sl8⟩) (c8 : PySem.W.codeIn K cd8 "_law_truth" = true) (k8 : PySem.W.keepIn K (.ref f8) = true)
  (a9 : PySem.W.nsIn K mainGlobals "_law_pair_judge" = some (some (.ref f9))) (l9 : K.lookup f9 = some ⟨oc9, od9, .func (PySem.W.fnOf "_law_pair_judge" "_law_pair_judge" (defArgs s__law_pair_judge) (defBody s__law_pair_judge) (defScope s__law_pair_judge) .none kV9 dc9 pm9 an9 cd9 ct9), sl9⟩) (c9 : PySem.W.codeIn K cd9 "_law_pair_judge" = true) (k9 : PySem.W.keepIn K (.ref f9) = true)
  (a10 : PySem.W.nsIn K mainGlobals "_law_gates" = some (some (.ref f10))) (l10 : K.lookup f10 = some ⟨oc10, od10, .func (PySem.W.fnOf "_law_gates" "_law_gates" (defArgs s__law_gates) (defBody s__law_gates) (defScope s__law_gates) .none kV10 dc10 pm10 an10 cd10 ct10), sl10⟩) (c10 : PySem.W.codeIn K cd10 "_law_gates" = true) (k10 : PySem.W.keepIn K (.ref f10) = true)
  (a11 : PySem.W.nsIn K mainGlobals "_law_node" = some (some (.ref f11))) (l11 : K.lookup f11 = some ⟨oc11, od11, .func (PySem.W.fnOf "_law_node" "_law_node" (defArgs s__law_node) (defBody s__law_node) (defScope s__law_node) .none kV11 dc11 pm11 an11 cd11 ct11), sl11⟩) (c11 : PySem.W.codeIn K cd11 "_law_node" = true) (k11 : PySem.W.keepIn K (.ref f11) = true)
  (a12 : PySem.W.nsIn K mainGlobals "_law_judge" = some (some (.ref f12))) (l12 : K.lookup f12 = some ⟨oc12, od12, .func (PySem.W.fnOf "_law_judge" "_law_judge" (defArgs s__law_judge) (defBody s__law_judge) (defScope s__law_judge) .none kV12 dc12 pm12 an12 cd12 ct12), sl12⟩) (c12 : PySem.W.codeIn K cd12 "_law_judge" = true) (k12 : PySem.W.keepIn K (.ref f12) = true)
  (a13 : PySem.W.nsIn K mainGlobals "_law_near_table" = some (some (.ref f13))) (l13 : K.lookup f13 = some ⟨oc13, od13, .func (PySem.W.fnOf "_law_near_table" "_law_near_table" (defArgs s__law_near_table) (defBody s__law_near_table) (defScope s__law_near_table) .none kV13 dc13 pm13 an13 cd13 ct13), sl13⟩) (c13 : PySem.W.codeIn K cd13 "_law_near_table" = true) (k13 : PySem.W.keepIn K (.ref f13) = true)
  (a14 : PySem.W.nsIn K mainGlobals "is_whole" = some (some (.ref f14))) (l14 : K.lookup f14 = some ⟨oc14, od14, .func (PySem.W.fnOf "is_whole" "is_whole" (defArgs s_is_whole) (defBody s_is_whole) (defScope s_is_whole) .none kV14 dc14 pm14 an14 cd14 ct14), sl14⟩) (c14 : PySem.W.codeIn K cd14 "is_whole" = true) (k14 : PySem.W.keepIn K (.ref f14) = true)
  (a15 : PySem.W.nsIn K mainGlobals "is_bit" = some (some (.ref f15))) (l15 : K.lookup f15 = some ⟨oc15, od15, .func (PySem.W.fnOf "is_bit" "is_bit" (defArgs s_is_bit) (defBody s_is_bit) (defScope s_is_bit) .none kV15 dc15 pm15 an15 cd15 ct15), sl15⟩) (c15 : PySem.W.codeIn K cd15 "is_bit" = true) (k15 : PySem.W.keepIn K (.ref f15) = true)
  (a16 : PySem.W.nsIn K mainGlobals "is_bits" = some (some (.ref f16))) (l16 : K.lookup f16 = some ⟨oc16, od16, .func (PySem.W.fnOf "is_bits" "is_bits" (defArgs s_is_bits) (defBody s_is_bits) (defScope s_is_bits) .none kV16 dc16 pm16 an16 cd16 ct16), sl16⟩) (c16 : PySem.W.codeIn K cd16 "is_bits" = true) (k16 : PySem.W.keepIn K (.ref f16) = true)
  (a17 : PySem.W.nsIn K mainGlobals "is_layer" = some (some (.ref f17))) (l17 : K.lookup f17 = some ⟨oc17, od17, .func (PySem.W.fnOf "is_layer" "is_layer" (defArgs s_is_layer) (defBody s_is_layer) (defScope s_is_layer) .none kV17 dc17 pm17 an17 cd17 ct17), sl17⟩) (c17 : PySem.W.codeIn K cd17 "is_layer" = true) (k17 : PySem.W.keepIn K (.ref f17) = true)
  (a18 : PySem.W.nsIn K mainGlobals "check_reader" = some (some (.ref f18))) (l18 : K.lookup f18 = some ⟨oc18, od18, .func (PySem.W.fnOf "check_reader" "check_reader" (defArgs s_check_reader) (defBody s_check_reader) (defScope s_check_reader) .none kV18 dc18 pm18 an18 cd18 ct18), sl18⟩) (c18 : PySem.W.codeIn K cd18 "check_reader" = true) (k18 : PySem.W.keepIn K (.ref f18) = true)
  (a19 : PySem.W.findIn K (.ref C_Reader) "__init__" = some (some (.ref f19))) (g19 : PySem.W.isFn K (.ref f19) = true) (t19 : PySem.W.fnIn K f19 = true) (l19 : K.lookup f19 = some ⟨oc19, od19, .func (PySem.W.fnOf "__init__" "Reader.__init__" (defArgs s_Reader____init__) (defBody s_Reader____init__) (defScope s_Reader____init__) .none kV19 dc19 pm19 an19 cd19 ct19), sl19⟩) (c19 : PySem.W.codeIn K cd19 "Reader.__init__" = true) (k19 : PySem.W.keepIn K (.ref f19) = true)
  (a20 : PySem.W.findIn K (.ref C_Table) "__init__" = some (some (.ref f20))) (g20 : PySem.W.isFn K (.ref f20) = true) (t20 : PySem.W.fnIn K f20 = true) (l20 : K.lookup f20 = some ⟨oc20, od20, .func (PySem.W.fnOf "__init__" "Table.__init__" (defArgs s_Table____init__) (defBody s_Table____init__) (defScope s_Table____init__) .none kV20 dc20 pm20 an20 cd20 ct20), sl20⟩) (c20 : PySem.W.codeIn K cd20 "Table.__init__" = true) (k20 : PySem.W.keepIn K (.ref f20) = true)
  (a21 : PySem.W.nsIn K mainGlobals "is_gate" = some (some (.ref f21))) (l21 : K.lookup f21 = some ⟨oc21, od21, .func (PySem.W.fnOf "is_gate" "is_gate" (defArgs s_is_gate) (defBody s_is_gate) (defScope s_is_gate) .none kV21 dc21 pm21 an21 cd21 ct21), sl21⟩) (c21 : PySem.W.codeIn K cd21 "is_gate" = true) (k21 : PySem.W.keepIn K (.ref f21) = true)
  (a22 : PySem.W.nsIn K mainGlobals "check_gates" = some (some (.ref f22))) (l22 : K.lookup f22 = some ⟨oc22, od22, .func (PySem.W.fnOf "check_gates" "check_gates" (defArgs s_check_gates) (defBody s_check_gates) (defScope s_check_gates) .none kV22 dc22 pm22 an22 cd22 ct22), sl22⟩) (c22 : PySem.W.codeIn K cd22 "check_gates" = true) (k22 : PySem.W.keepIn K (.ref f22) = true)
  (a23 : PySem.W.findIn K (.ref C_Circuit) "__init__" = some (some (.ref f23))) (g23 : PySem.W.isFn K (.ref f23) = true) (t23 : PySem.W.fnIn K f23 = true) (l23 : K.lookup f23 = some ⟨oc23, od23, .func (PySem.W.fnOf "__init__" "Circuit.__init__" (defArgs s_Circuit____init__) (defBody s_Circuit____init__) (defScope s_Circuit____init__) .none kV23 dc23 pm23 an23 cd23 ct23), sl23⟩) (c23 : PySem.W.codeIn K cd23 "Circuit.__init__" = true) (k23 : PySem.W.keepIn K (.ref f23) = true)
  (a24 : PySem.W.nsIn K mainGlobals "is_look" = some (some (.ref f24))) (l24 : K.lookup f24 = some ⟨oc24, od24, .func (PySem.W.fnOf "is_look" "is_look" (defArgs s_is_look) (defBody s_is_look) (defScope s_is_look) .none kV24 dc24 pm24 an24 cd24 ct24), sl24⟩) (c24 : PySem.W.codeIn K cd24 "is_look" = true) (k24 : PySem.W.keepIn K (.ref f24) = true)
  (a25 : PySem.W.nsIn K mainGlobals "bad_path" = some (some (.ref f25))) (l25 : K.lookup f25 = some ⟨oc25, od25, .func (PySem.W.fnOf "bad_path" "bad_path" (defArgs s_bad_path) (defBody s_bad_path) (defScope s_bad_path) .none kV25 dc25 pm25 an25 cd25 ct25), sl25⟩) (c25 : PySem.W.codeIn K cd25 "bad_path" = true) (k25 : PySem.W.keepIn K (.ref f25) = true)
  (a26 : PySem.W.nsIn K mainGlobals "joined_node" = some (some (.ref f26))) (l26 : K.lookup f26 = some ⟨oc26, od26, .func (PySem.W.fnOf "joined_node" "joined_node" (defArgs s_joined_node) (defBody s_joined_node) (defScope s_joined_node) .none kV26 dc26 pm26 an26 cd26 ct26), sl26⟩) (c26 : PySem.W.codeIn K cd26 "joined_node" = true) (k26 : PySem.W.keepIn K (.ref f26) = true)
  (a27 : PySem.W.nsIn K mainGlobals "parts_of" = some (some (.ref f27))) (l27 : K.lookup f27 = some ⟨oc27, od27, .func (PySem.W.fnOf "parts_of" "parts_of" (defArgs s_parts_of) (defBody s_parts_of) (defScope s_parts_of) .none kV27 dc27 pm27 an27 cd27 ct27), sl27⟩) (c27 : PySem.W.codeIn K cd27 "parts_of" = true) (k27 : PySem.W.keepIn K (.ref f27) = true)
  (a28 : PySem.W.findIn K (.ref C_Tree) "__init__" = some (some (.ref f28))) (g28 : PySem.W.isFn K (.ref f28) = true) (t28 : PySem.W.fnIn K f28 = true) (l28 : K.lookup f28 = some ⟨oc28, od28, .func (PySem.W.fnOf "__init__" "Tree.__init__" (defArgs s_Tree____init__) (defBody s_Tree____init__) (defScope s_Tree____init__) .none kV28 dc28 pm28 an28 cd28 ct28), sl28⟩) (c28 : PySem.W.codeIn K cd28 "Tree.__init__" = true) (k28 : PySem.W.keepIn K (.ref f28) = true)
  (a29 : PySem.W.nsIn K mainGlobals "_law_build" = some (some (.ref f29))) (l29 : K.lookup f29 = some ⟨oc29, od29, .func (PySem.W.fnOf "_law_build" "_law_build" (defArgs s__law_build) (defBody s__law_build) (defScope s__law_build) .none kV29 dc29 pm29 an29 cd29 ct29), sl29⟩) (c29 : PySem.W.codeIn K cd29 "_law_build" = true) (k29 : PySem.W.keepIn K (.ref f29) = true)
  (a30 : PySem.W.nsIn K mainGlobals "_law_surplus" = some (some (.ref f30))) (l30 : K.lookup f30 = some ⟨oc30, od30, .func (PySem.W.fnOf "_law_surplus" "_law_surplus" (defArgs s__law_surplus) (defBody s__law_surplus) (defScope s__law_surplus) .none kV30 dc30 pm30 an30 cd30 ct30), sl30⟩) (c30 : PySem.W.codeIn K cd30 "_law_surplus" = true) (k30 : PySem.W.keepIn K (.ref f30) = true)
  (a31 : PySem.W.nsIn K mainGlobals "_law_more" = some (some (.ref f31))) (l31 : K.lookup f31 = some ⟨oc31, od31, .func (PySem.W.fnOf "_law_more" "_law_more" (defArgs s__law_more) (defBody s__law_more) (defScope s__law_more) .none kV31 dc31 pm31 an31 cd31 ct31), sl31⟩) (c31 : PySem.W.codeIn K cd31 "_law_more" = true) (k31 : PySem.W.keepIn K (.ref f31) = true)
  (a32 : PySem.W.nsIn K mainGlobals "most_near" = some (some (.ref f32))) (l32 : K.lookup f32 = some ⟨oc32, od32, .func (PySem.W.fnOf "most_near" "most_near" (defArgs s_most_near) (defBody s_most_near) (defScope s_most_near) .none kV32 dc32 pm32 an32 cd32 ct32), sl32⟩) (c32 : PySem.W.codeIn K cd32 "most_near" = true) (k32 : PySem.W.keepIn K (.ref f32) = true)
  (a33 : PySem.W.nsIn K mainGlobals "_law_most_right" = some (some (.ref f33))) (l33 : K.lookup f33 = some ⟨oc33, od33, .func (PySem.W.fnOf "_law_most_right" "_law_most_right" (defArgs s__law_most_right) (defBody s__law_most_right) (defScope s__law_most_right) .none kV33 dc33 pm33 an33 cd33 ct33), sl33⟩) (c33 : PySem.W.codeIn K cd33 "_law_most_right" = true) (k33 : PySem.W.keepIn K (.ref f33) = true)
  (a34 : PySem.W.nsIn K mainGlobals "_law_sum_agree" = some (some (.ref f34))) (l34 : K.lookup f34 = some ⟨oc34, od34, .func (PySem.W.fnOf "_law_sum_agree" "_law_sum_agree" (defArgs s__law_sum_agree) (defBody s__law_sum_agree) (defScope s__law_sum_agree) .none kV34 dc34 pm34 an34 cd34 ct34), sl34⟩) (c34 : PySem.W.codeIn K cd34 "_law_sum_agree" = true) (k34 : PySem.W.keepIn K (.ref f34) = true)
  (a35 : PySem.W.nsIn K mainGlobals "turned_step" = some (some (.ref f35))) (l35 : K.lookup f35 = some ⟨oc35, od35, .func (PySem.W.fnOf "turned_step" "turned_step" (defArgs s_turned_step) (defBody s_turned_step) (defScope s_turned_step) .none kV35 dc35 pm35 an35 cd35 ct35), sl35⟩) (c35 : PySem.W.codeIn K cd35 "turned_step" = true) (k35 : PySem.W.keepIn K (.ref f35) = true)
  (a36 : PySem.W.nsIn K mainGlobals "turned_numbers" = some (some (.ref f36))) (l36 : K.lookup f36 = some ⟨oc36, od36, .func (PySem.W.fnOf "turned_numbers" "turned_numbers" (defArgs s_turned_numbers) (defBody s_turned_numbers) (defScope s_turned_numbers) .none kV36 dc36 pm36 an36 cd36 ct36), sl36⟩) (c36 : PySem.W.codeIn K cd36 "turned_numbers" = true) (k36 : PySem.W.keepIn K (.ref f36) = true)
  (a37 : PySem.W.findIn K (.ref C_Reader) "truth" = some (some (.ref f37))) (g37 : PySem.W.isFn K (.ref f37) = true) (t37 : PySem.W.fnIn K f37 = true) (l37 : K.lookup f37 = some ⟨oc37, od37, .func (PySem.W.fnOf "truth" "Reader.truth" (defArgs s_Reader__truth) (defBody s_Reader__truth) (defScope s_Reader__truth) .none kV37 dc37 pm37 an37 cd37 ct37), sl37⟩) (c37 : PySem.W.codeIn K cd37 "Reader.truth" = true) (k37 : PySem.W.keepIn K (.ref f37) = true)
  (a38 : PySem.W.findIn K (.ref C_Table) "truth" = some (some (.ref f38))) (g38 : PySem.W.isFn K (.ref f38) = true) (t38 : PySem.W.fnIn K f38 = true) (l38 : K.lookup f38 = some ⟨oc38, od38, .func (PySem.W.fnOf "truth" "Table.truth" (defArgs s_Table__truth) (defBody s_Table__truth) (defScope s_Table__truth) .none kV38 dc38 pm38 an38 cd38 ct38), sl38⟩) (c38 : PySem.W.codeIn K cd38 "Table.truth" = true) (k38 : PySem.W.keepIn K (.ref f38) = true)
  (a39 : PySem.W.nsIn K mainGlobals "number_of" = some (some (.ref f39))) (l39 : K.lookup f39 = some ⟨oc39, od39, .func (PySem.W.fnOf "number_of" "number_of" (defArgs s_number_of) (defBody s_number_of) (defScope s_number_of) .none kV39 dc39 pm39 an39 cd39 ct39), sl39⟩) (c39 : PySem.W.codeIn K cd39 "number_of" = true) (k39 : PySem.W.keepIn K (.ref f39) = true)
  (a40 : PySem.W.findIn K (.ref C_Circuit) "__call__" = some (some (.ref f40))) (g40 : PySem.W.isFn K (.ref f40) = true) (t40 : PySem.W.fnIn K f40 = true) (l40 : K.lookup f40 = some ⟨oc40, od40, .func (PySem.W.fnOf "__call__" "Circuit.__call__" (defArgs s_Circuit____call__) (defBody s_Circuit____call__) (defScope s_Circuit____call__) .none kV40 dc40 pm40 an40 cd40 ct40), sl40⟩) (c40 : PySem.W.codeIn K cd40 "Circuit.__call__" = true) (k40 : PySem.W.keepIn K (.ref f40) = true)
  (a41 : PySem.W.nsIn K mainGlobals "row_of" = some (some (.ref f41))) (l41 : K.lookup f41 = some ⟨oc41, od41, .func (PySem.W.fnOf "row_of" "row_of" (defArgs s_row_of) (defBody s_row_of) (defScope s_row_of) .none kV41 dc41 pm41 an41 cd41 ct41), sl41⟩) (c41 : PySem.W.codeIn K cd41 "row_of" = true) (k41 : PySem.W.keepIn K (.ref f41) = true)
  (a42 : PySem.W.findIn K (.ref C_Circuit) "truth" = some (some (.ref f42))) (g42 : PySem.W.isFn K (.ref f42) = true) (t42 : PySem.W.fnIn K f42 = true) (l42 : K.lookup f42 = some ⟨oc42, od42, .func (PySem.W.fnOf "truth" "Circuit.truth" (defArgs s_Circuit__truth) (defBody s_Circuit__truth) (defScope s_Circuit__truth) .none kV42 dc42 pm42 an42 cd42 ct42), sl42⟩) (c42 : PySem.W.codeIn K cd42 "Circuit.truth" = true) (k42 : PySem.W.keepIn K (.ref f42) = true)
  (a43 : PySem.W.nsIn K mainGlobals "leaf_of" = some (some (.ref f43))) (l43 : K.lookup f43 = some ⟨oc43, od43, .func (PySem.W.fnOf "leaf_of" "leaf_of" (defArgs s_leaf_of) (defBody s_leaf_of) (defScope s_leaf_of) .none kV43 dc43 pm43 an43 cd43 ct43), sl43⟩) (c43 : PySem.W.codeIn K cd43 "leaf_of" = true) (k43 : PySem.W.keepIn K (.ref f43) = true)
  (a44 : PySem.W.findIn K (.ref C_Tree) "truth" = some (some (.ref f44))) (g44 : PySem.W.isFn K (.ref f44) = true) (t44 : PySem.W.fnIn K f44 = true) (l44 : K.lookup f44 = some ⟨oc44, od44, .func (PySem.W.fnOf "truth" "Tree.truth" (defArgs s_Tree__truth) (defBody s_Tree__truth) (defScope s_Tree__truth) .none kV44 dc44 pm44 an44 cd44 ct44), sl44⟩) (c44 : PySem.W.codeIn K cd44 "Tree.truth" = true) (k44 : PySem.W.keepIn K (.ref f44) = true)
  (a45 : PySem.W.nsIn K mainGlobals "signed_answers" = some (some (.ref f45))) (l45 : K.lookup f45 = some ⟨oc45, od45, .func (PySem.W.fnOf "signed_answers" "signed_answers" (defArgs s_signed_answers) (defBody s_signed_answers) (defScope s_signed_answers) .none kV45 dc45 pm45 an45 cd45 ct45), sl45⟩) (c45 : PySem.W.codeIn K cd45 "signed_answers" = true) (k45 : PySem.W.keepIn K (.ref f45) = true)
  (a46 : PySem.W.nsIn K mainGlobals "is_near" = some (some (.ref f46))) (l46 : K.lookup f46 = some ⟨oc46, od46, .func (PySem.W.fnOf "is_near" "is_near" (defArgs s_is_near) (defBody s_is_near) (defScope s_is_near) .none kV46 dc46 pm46 an46 cd46 ct46), sl46⟩) (c46 : PySem.W.codeIn K cd46 "is_near" = true) (k46 : PySem.W.keepIn K (.ref f46) = true)
  (a47 : PySem.W.nsIn K mainGlobals "near_sums" = some (some (.ref f47))) (l47 : K.lookup f47 = some ⟨oc47, od47, .func (PySem.W.fnOf "near_sums" "near_sums" (defArgs s_near_sums) (defBody s_near_sums) (defScope s_near_sums) .none kV47 dc47 pm47 an47 cd47 ct47), sl47⟩) (c47 : PySem.W.codeIn K cd47 "near_sums" = true) (k47 : PySem.W.keepIn K (.ref f47) = true)
  (a48 : PySem.W.nsIn K mainGlobals "_law_is_row" = some (some (.ref f48))) (l48 : K.lookup f48 = some ⟨oc48, od48, .func (PySem.W.fnOf "_law_is_row" "_law_is_row" (defArgs s__law_is_row) (defBody s__law_is_row) (defScope s__law_is_row) .none kV48 dc48 pm48 an48 cd48 ct48), sl48⟩) (c48 : PySem.W.codeIn K cd48 "_law_is_row" = true) (k48 : PySem.W.keepIn K (.ref f48) = true)
  (a49 : PySem.W.nsIn K mainGlobals "_law_near_right" = some (some (.ref f49))) (l49 : K.lookup f49 = some ⟨oc49, od49, .func (PySem.W.fnOf "_law_near_right" "_law_near_right" (defArgs s__law_near_right) (defBody s__law_near_right) (defScope s__law_near_right) .none kV49 dc49 pm49 an49 cd49 ct49), sl49⟩) (c49 : PySem.W.codeIn K cd49 "_law_near_right" = true) (k49 : PySem.W.keepIn K (.ref f49) = true)
  (a50 : PySem.W.nsIn K mainGlobals "_law_power" = some (some (.ref f50))) (l50 : K.lookup f50 = some ⟨oc50, od50, .func (PySem.W.fnOf "_law_power" "_law_power" (defArgs s__law_power) (defBody s__law_power) (defScope s__law_power) .none kV50 dc50 pm50 an50 cd50 ct50), sl50⟩) (c50 : PySem.W.codeIn K cd50 "_law_power" = true) (k50 : PySem.W.keepIn K (.ref f50) = true)
  (a51 : PySem.W.nsIn K mainGlobals "law" = some (some (.ref f51))) (l51 : K.lookup f51 = some ⟨oc51, od51, .func (PySem.W.fnOf "law" "law" (defArgs s_law) (defBody s_law) (defScope s_law) .none kV51 dc51 pm51 an51 cd51 ct51), sl51⟩) (c51 : PySem.W.codeIn K cd51 "law" = true) (k51 : PySem.W.keepIn K (.ref f51) = true)
  {t_MOST_STANDINGS : Tok} (z_MOST_STANDINGS : PySem.W.nsIn K mainGlobals "MOST_STANDINGS" = some (some (.int 64 t_MOST_STANDINGS)))
  {t_MOST_WIRES : Tok} (z_MOST_WIRES : PySem.W.nsIn K mainGlobals "MOST_WIRES" = some (some (.int 8 t_MOST_WIRES)))
  (z_abs : PySem.W.nsIn K mainGlobals "abs" = some none)
  (z_bool : PySem.W.nsIn K mainGlobals "bool" = some none)
  (z_int : PySem.W.nsIn K mainGlobals "int" = some none)
  (z_isinstance : PySem.W.nsIn K mainGlobals "isinstance" = some none)
  (z_len : PySem.W.nsIn K mainGlobals "len" = some none)
  (z_list : PySem.W.nsIn K mainGlobals "list" = some none)
  (z_min : PySem.W.nsIn K mainGlobals "min" = some none)
  (z_range : PySem.W.nsIn K mainGlobals "range" = some none)
  (z_sum : PySem.W.nsIn K mainGlobals "sum" = some none)
  (z_tuple : PySem.W.nsIn K mainGlobals "tuple" = some none)
  : ∃ fd : FuncData, (∀ (s : Shared) (v : Value), BindsTo s fd ⟨[v], []⟩ [("script", v)]) ∧ ∀ base : Heap, K.In base → base.Ns mainGlobals mg → FnOk l.prog w K mg base CX0 12 fa fd ["script"] (spP K (fun _ => 0) F_law_k54) := by
  have e := hfa.symm.trans (PySem.W.mg_of X G a51)
  cases e
  have m_MOST_STANDINGS := PySem.W.mg_of X G z_MOST_STANDINGS
  have m_MOST_WIRES := PySem.W.mg_of X G z_MOST_WIRES
  have m_abs := PySem.W.mg_none_of X G z_abs
  have m_bool := PySem.W.mg_none_of X G z_bool
  have m_int := PySem.W.mg_none_of X G z_int
  have m_isinstance := PySem.W.mg_none_of X G z_isinstance
  have m_len := PySem.W.mg_none_of X G z_len
  have m_list := PySem.W.mg_none_of X G z_list
  have m_min := PySem.W.mg_none_of X G z_min
  have m_range := PySem.W.mg_none_of X G z_range
  have m_sum := PySem.W.mg_none_of X G z_sum
  have m_tuple := PySem.W.mg_none_of X G z_tuple
  have m_Circuit := PySem.W.mg_of X G z_Circuit
  have m_Reader := PySem.W.mg_of X G z_Reader
  have m_Table := PySem.W.mg_of X G z_Table
  have m_Tree := PySem.W.mg_of X G z_Tree
  generalize hcm : ((fun n => [0, 0, 0, 0, 0, 0, 0, 0, 0, 0, 0, 0, 0, 0, 0, 0, 0, 0, 0, 0, 0, 0, C_Circuit, C_Reader, C_Table, C_Tree, 0, 0, 0, 0, 0, 0, 0, 0, 0, 0, 0, 0, 0, 0, 0].getD n 0) : Nat → Addr) = cm
  have hc_Circuit : C_Circuit = cm 22 := by rw [← hcm]; rfl
  have hc_Reader : C_Reader = cm 23 := by rw [← hcm]; rfl
  have hc_Table : C_Table = cm 24 := by rw [← hcm]; rfl
  have hc_Tree : C_Tree = cm 25 := by rw [← hcm]; rfl
  clear hcm
  subst hc_Circuit
  subst hc_Reader
  subst hc_Table
  subst hc_Tree
  have ik_Reader := insB_ok q_ik_Reader
  have no_Reader_accepts : NoAttr K (cm 23) "accepts" := q_no_Reader_accepts
  have no_Reader_layers : NoAttr K (cm 23) "layers" := q_no_Reader_layers
  have no_Reader_width : NoAttr K (cm 23) "width" := q_no_Reader_width
  have ik_Table := insB_ok q_ik_Table
  have no_Table_bits : NoAttr K (cm 24) "bits" := q_no_Table_bits
  have no_Table_width : NoAttr K (cm 24) "width" := q_no_Table_width
  have ik_Circuit := insB_ok q_ik_Circuit
  have no_Circuit_gates : NoAttr K (cm 22) "gates" := q_no_Circuit_gates
  have no_Circuit_width : NoAttr K (cm 22) "width" := q_no_Circuit_width
  have ik_Tree := insB_ok q_ik_Tree
  have no_Tree_node : NoAttr K (cm 25) "node" := q_no_Tree_node
  have no_Tree_width : NoAttr K (cm 25) "width" := q_no_Tree_width
  have F1 := fun_mk (st := s__law_digits) l1 c1 k1
  have b1 := F1.binds (ps := ["cell", "sizes"]) fun _ _ _ _ _ _ us hl => match us, hl with | [_, _], _ => rfl
  have F2 := fun_mk (st := s__law_cell) l2 c2 k2
  have b2 := F2.binds (ps := ["script", "k"]) fun _ _ _ _ _ _ us hl => match us, hl with | [_, _], _ => rfl
  have F3 := fun_mk (st := s__law_whole) l3 c3 k3
  have b3 := F3.binds (ps := ["value"]) fun _ _ _ _ _ _ us hl => match us, hl with | [_], _ => rfl
  have F4 := fun_mk (st := s__law_leaf) l4 c4 k4
  have b4 := F4.binds (ps := ["node", "row"]) fun _ _ _ _ _ _ us hl => match us, hl with | [_, _], _ => rfl
  have F5 := fun_mk (st := s__law_number) l5 c5 k5
  have b5 := F5.binds (ps := ["row"]) fun _ _ _ _ _ _ us hl => match us, hl with | [_], _ => rfl
  have F6 := fun_mk (st := s__law_answer) l6 c6 k6
  have b6 := F6.binds (ps := ["spec", "row"]) fun _ _ _ _ _ _ us hl => match us, hl with | [_, _], _ => rfl
  have F7 := fun_mk (st := s__law_bits) l7 c7 k7
  have b7 := F7.binds (ps := ["number", "width"]) fun _ _ _ _ _ _ us hl => match us, hl with | [_, _], _ => rfl
  have F8 := fun_mk (st := s__law_truth) l8 c8 k8
  have b8 := F8.binds (ps := ["spec"]) fun _ _ _ _ _ _ us hl => match us, hl with | [_], _ => rfl
  have F9 := fun_mk (st := s__law_pair_judge) l9 c9 k9
  have b9 := F9.binds (ps := ["kind", "width", "one", "two"]) fun _ _ _ _ _ _ us hl => match us, hl with | [_, _, _, _], _ => rfl
  have F10 := fun_mk (st := s__law_gates) l10 c10 k10
  have b10 := F10.binds (ps := ["width", "row"]) fun _ _ _ _ _ _ us hl => match us, hl with | [_, _], _ => rfl
  have F11 := fun_mk (st := s__law_node) l11 c11 k11
  have b11 := F11.binds (ps := ["places", "row", "depth"]) fun _ _ _ _ _ _ us hl => match us, hl with | [_, _, _], _ => rfl
  have F12 := fun_mk (st := s__law_judge) l12 c12 k12
  have b12 := F12.binds (ps := ["script", "at", "width", "depth"]) fun _ _ _ _ _ _ us hl => match us, hl with | [_, _, _, _], _ => rfl
  have F13 := fun_mk (st := s__law_near_table) l13 c13 k13
  have b13 := F13.binds (ps := ["script", "at", "width"]) fun _ _ _ _ _ _ us hl => match us, hl with | [_, _, _], _ => rfl
  have F14 := fun_mk (st := s_is_whole) l14 c14 k14
  have b14 := F14.binds (ps := ["value"]) fun _ _ _ _ _ _ us hl => match us, hl with | [_], _ => rfl
  have F15 := fun_mk (st := s_is_bit) l15 c15 k15
  have b15 := F15.binds (ps := ["value"]) fun _ _ _ _ _ _ us hl => match us, hl with | [_], _ => rfl
  have F16 := fun_mk (st := s_is_bits) l16 c16 k16
  have b16 := F16.binds (ps := ["values", "count"]) fun _ _ _ _ _ _ us hl => match us, hl with | [_, _], _ => rfl
  have F17 := fun_mk (st := s_is_layer) l17 c17 k17
  have b17 := F17.binds (ps := ["layer", "standings"]) fun _ _ _ _ _ _ us hl => match us, hl with | [_, _], _ => rfl
  have F18 := fun_mk (st := s_check_reader) l18 c18 k18
  have b18 := F18.binds (ps := ["layers", "accepts"]) fun _ _ _ _ _ _ us hl => match us, hl with | [_, _], _ => rfl
  have F19 := fun_mk (st := s_Reader____init__) l19 c19 k19
  have b19 := F19.binds (ps := ["self", "layers", "accepts"]) fun _ _ _ _ _ _ us hl => match us, hl with | [_, _, _], _ => rfl
  have F20 := fun_mk (st := s_Table____init__) l20 c20 k20
  have b20 := F20.binds (ps := ["self", "width", "bits"]) fun _ _ _ _ _ _ us hl => match us, hl with | [_, _, _], _ => rfl
  have F21 := fun_mk (st := s_is_gate) l21 c21 k21
  have b21 := F21.binds (ps := ["gate", "wires_before"]) fun _ _ _ _ _ _ us hl => match us, hl with | [_, _], _ => rfl
  have F22 := fun_mk (st := s_check_gates) l22 c22 k22
  have b22 := F22.binds (ps := ["width", "gates"]) fun _ _ _ _ _ _ us hl => match us, hl with | [_, _], _ => rfl
  have F23 := fun_mk (st := s_Circuit____init__) l23 c23 k23
  have b23 := F23.binds (ps := ["self", "width", "gates"]) fun _ _ _ _ _ _ us hl => match us, hl with | [_, _, _], _ => rfl
  have F24 := fun_mk (st := s_is_look) l24 c24 k24
  have b24 := F24.binds (ps := ["node", "width", "above"]) fun _ _ _ _ _ _ us hl => match us, hl with | [_, _, _], _ => rfl
  have F25 := fun_mk (st := s_bad_path) l25 c25 k25
  have b25 := F25.binds (ps := ["node", "width"]) fun _ _ _ _ _ _ us hl => match us, hl with | [_, _], _ => rfl
  have F26 := fun_mk (st := s_joined_node) l26 c26 k26
  have b26 := F26.binds (ps := ["parts"]) fun _ _ _ _ _ _ us hl => match us, hl with | [_], _ => rfl
  have F27 := fun_mk (st := s_parts_of) l27 c27 k27
  have b27 := F27.binds (ps := ["node"]) fun _ _ _ _ _ _ us hl => match us, hl with | [_], _ => rfl
  have F28 := fun_mk (st := s_Tree____init__) l28 c28 k28
  have b28 := F28.binds (ps := ["self", "width", "node"]) fun _ _ _ _ _ _ us hl => match us, hl with | [_, _, _], _ => rfl
  have F29 := fun_mk (st := s__law_build) l29 c29 k29
  have b29 := F29.binds (ps := ["spec"]) fun _ _ _ _ _ _ us hl => match us, hl with | [_], _ => rfl
  have F30 := fun_mk (st := s__law_surplus) l30 c30 k30
  have b30 := F30.binds (ps := ["truth", "width"]) fun _ _ _ _ _ _ us hl => match us, hl with | [_, _], _ => rfl
  have F31 := fun_mk (st := s__law_more) l31 c31 k31
  have b31 := F31.binds (ps := ["surplus", "width", "row"]) fun _ _ _ _ _ _ us hl => match us, hl with | [_, _, _], _ => rfl
  have F32 := fun_mk (st := s_most_near) l32 c32 k32
  have b32 := F32.binds (ps := ["more"]) fun _ _ _ _ _ _ us hl => match us, hl with | [_], _ => rfl
  have F33 := fun_mk (st := s__law_most_right) l33 c33 k33
  have b33 := F33.binds (ps := ["more"]) fun _ _ _ _ _ _ us hl => match us, hl with | [_], _ => rfl
  have F34 := fun_mk (st := s__law_sum_agree) l34 c34 k34
  have b34 := F34.binds (ps := ["truth", "width", "mask"]) fun _ _ _ _ _ _ us hl => match us, hl with | [_, _, _], _ => rfl
  have F35 := fun_mk (st := s_turned_step) l35 c35 k35
  have b35 := F35.binds (ps := ["numbers", "half"]) fun _ _ _ _ _ _ us hl => match us, hl with | [_, _], _ => rfl
  have F36 := fun_mk (st := s_turned_numbers) l36 c36 k36
  have b36 := F36.binds (ps := ["values"]) fun _ _ _ _ _ _ us hl => match us, hl with | [_], _ => rfl
  have F37 := fun_mk (st := s_Reader__truth) l37 c37 k37
  have b37 := F37.binds (ps := ["self"]) fun _ _ _ _ _ _ us hl => match us, hl with | [_], _ => rfl
  have F38 := fun_mk (st := s_Table__truth) l38 c38 k38
  have b38 := F38.binds (ps := ["self"]) fun _ _ _ _ _ _ us hl => match us, hl with | [_], _ => rfl
  have F39 := fun_mk (st := s_number_of) l39 c39 k39
  have b39 := F39.binds (ps := ["row"]) fun _ _ _ _ _ _ us hl => match us, hl with | [_], _ => rfl
  have F40 := fun_mk (st := s_Circuit____call__) l40 c40 k40
  have b40 := F40.binds (ps := ["self", "row"]) fun _ _ _ _ _ _ us hl => match us, hl with | [_, _], _ => rfl
  have F41 := fun_mk (st := s_row_of) l41 c41 k41
  have b41 := F41.binds (ps := ["number", "width"]) fun _ _ _ _ _ _ us hl => match us, hl with | [_, _], _ => rfl
  have F42 := fun_mk (st := s_Circuit__truth) l42 c42 k42
  have b42 := F42.binds (ps := ["self"]) fun _ _ _ _ _ _ us hl => match us, hl with | [_], _ => rfl
  have F43 := fun_mk (st := s_leaf_of) l43 c43 k43
  have b43 := F43.binds (ps := ["node", "row"]) fun _ _ _ _ _ _ us hl => match us, hl with | [_, _], _ => rfl
  have F44 := fun_mk (st := s_Tree__truth) l44 c44 k44
  have b44 := F44.binds (ps := ["self"]) fun _ _ _ _ _ _ us hl => match us, hl with | [_], _ => rfl
  have F45 := fun_mk (st := s_signed_answers) l45 c45 k45
  have b45 := F45.binds (ps := ["table"]) fun _ _ _ _ _ _ us hl => match us, hl with | [_], _ => rfl
  have F46 := fun_mk (st := s_is_near) l46 c46 k46
  have b46 := F46.binds (ps := ["number", "width", "more"]) fun _ _ _ _ _ _ us hl => match us, hl with | [_, _, _], _ => rfl
  have F47 := fun_mk (st := s_near_sums) l47 c47 k47
  have b47 := F47.binds (ps := ["table", "more"]) fun _ _ _ _ _ _ us hl => match us, hl with | [_, _], _ => rfl
  have F48 := fun_mk (st := s__law_is_row) l48 c48 k48
  have b48 := F48.binds (ps := ["row", "width"]) fun _ _ _ _ _ _ us hl => match us, hl with | [_, _], _ => rfl
  have F49 := fun_mk (st := s__law_near_right) l49 c49 k49
  have b49 := F49.binds (ps := ["table", "surplus", "width", "more", "frozen"]) fun _ _ _ _ _ _ us hl => match us, hl with | [_, _, _, _, _], _ => rfl
  have F50 := fun_mk (st := s__law_power) l50 c50 k50
  have b50 := F50.binds (ps := ["base", "count"]) fun _ _ _ _ _ _ us hl => match us, hl with | [_, _], _ => rfl
  have F51 := fun_mk (st := s_law) l51 c51 k51
  refine ⟨PySem.W.fnOf "law" "law" (defArgs s_law) (defBody s_law) (defScope s_law) .none kV51 dc51 pm51 an51 cd51 ct51, fun s v => .of_eq rfl, fun base _ _ => ?_⟩
  have c__law_digits : FnC l.prog w K mg base cm 1 "_law_digits" F__law_digits := fnC_mk F1 (PySem.W.mg_of X G a1) b1 (ok__law_digits F1 m_int m_len m_range )
  have c__law_cell : FnC l.prog w K mg base cm 1 "_law_cell" F__law_cell := fnC_mk F2 (PySem.W.mg_of X G a2) b2 (ok__law_cell F2 m_int m_len )
  have c__law_whole : FnC l.prog w K mg base cm 1 "_law_whole" F__law_whole := fnC_mk F3 (PySem.W.mg_of X G a3) b3 (ok__law_whole F3 m_bool m_int m_isinstance )
  have c__law_leaf : FnC l.prog w K mg base cm 2 "_law_leaf" F__law_leaf := fnC_mk F4 (PySem.W.mg_of X G a4) b4 (ok__law_leaf F4 m_range c__law_whole)
  have c__law_number : FnC l.prog w K mg base cm 1 "_law_number" F__law_number := fnC_mk F5 (PySem.W.mg_of X G a5) b5 (ok__law_number F5  )
  have c__law_answer : FnC l.prog w K mg base cm 3 "_law_answer" F__law_answer := fnC_mk F6 (PySem.W.mg_of X G a6) b6 (ok__law_answer F6 m_len m_list m_range c__law_number c__law_leaf)
  have c__law_bits : FnC l.prog w K mg base cm 1 "_law_bits" F__law_bits := fnC_mk F7 (PySem.W.mg_of X G a7) b7 (ok__law_bits F7 m_int m_range m_tuple )
  have c__law_truth : FnC l.prog w K mg base cm 4 "_law_truth" F__law_truth := fnC_mk F8 (PySem.W.mg_of X G a8) b8 (ok__law_truth F8 m_range c__law_answer c__law_bits)
  have c__law_pair_judge : FnC l.prog w K mg base cm 2 "_law_pair_judge" F__law_pair_judge := fnC_mk F9 (PySem.W.mg_of X G a9) b9 (ok__law_pair_judge F9 m_int m_range c__law_bits)
  have c__law_gates : FnC l.prog w K mg base cm 1 "_law_gates" F__law_gates := fnC_mk F10 (PySem.W.mg_of X G a10) b10 (ok__law_gates F10 m_int m_range )
  have c__law_node : FnC l.prog w K mg base cm 9 "_law_node" (F__law_node 8) := fnC_mk F11 (PySem.W.mg_of X G a11) b11 (ok__law_node F11 m_int m_len  (PySem.W.mg_of X G a11) b11 8)
  have c__law_judge : FnC l.prog w K mg base cm 10 "_law_judge" F__law_judge := fnC_mk F12 (PySem.W.mg_of X G a12) b12 (ok__law_judge F12 m_int m_len m_range m_sum c__law_digits c__law_cell c__law_gates c__law_node c__law_truth c__law_pair_judge)
  have c__law_near_table : FnC l.prog w K mg base cm 11 "_law_near_table" F__law_near_table := fnC_mk F13 (PySem.W.mg_of X G a13) b13 (ok__law_near_table F13 m_int m_min m_range m_sum c__law_digits c__law_cell c__law_judge c__law_bits)
  have c_is_whole : FnC l.prog w K mg base cm 1 "is_whole" F_is_whole := fnC_mk F14 (PySem.W.mg_of X G a14) b14 (ok_is_whole F14 m_bool m_int m_isinstance )
  have c_is_bit : FnC l.prog w K mg base cm 2 "is_bit" F_is_bit := fnC_mk F15 (PySem.W.mg_of X G a15) b15 (ok_is_bit F15  c_is_whole)
  have c_is_bits : FnC l.prog w K mg base cm 3 "is_bits" F_is_bits := fnC_mk F16 (PySem.W.mg_of X G a16) b16 (ok_is_bits F16 m_len c_is_bit)
  have c_is_layer : FnC l.prog w K mg base cm 2 "is_layer" F_is_layer := fnC_mk F17 (PySem.W.mg_of X G a17) b17 (ok_is_layer F17 m_len c_is_whole)
  have c_check_reader : FnC l.prog w K mg base cm 4 "check_reader" F_check_reader := fnC_mk F18 (PySem.W.mg_of X G a18) b18 (ok_check_reader F18 m_MOST_STANDINGS m_len m_range c_is_bits c_is_layer)
  have mf_Reader : MkF l.prog w K mg base cm 5 "Reader" 23 ["width", "layers", "accepts"] F_Reader____init__ := ⟨f19, _, _, ⟨mi1_Reader, a19, g19, mi3_Reader⟩, ok_Reader____init__ F19 m_len m_tuple ik_Reader c_check_reader no_Reader_accepts no_Reader_layers no_Reader_width, m_Reader, b19⟩
  have mf_Table : MkF l.prog w K mg base cm 4 "Table" 24 ["width", "bits"] F_Table____init__ := ⟨f20, _, _, ⟨mi1_Table, a20, g20, mi3_Table⟩, ok_Table____init__ F20 m_tuple ik_Table c_is_bits no_Table_bits no_Table_width, m_Table, b20⟩
  have c_is_gate : FnC l.prog w K mg base cm 4 "is_gate" F_is_gate := fnC_mk F21 (PySem.W.mg_of X G a21) b21 (ok_is_gate F21 m_MOST_WIRES m_len c_is_whole c_is_bits)
  have c_check_gates : FnC l.prog w K mg base cm 5 "check_gates" F_check_gates := fnC_mk F22 (PySem.W.mg_of X G a22) b22 (ok_check_gates F22 m_len m_range c_is_gate)
  have mf_Circuit : MkF l.prog w K mg base cm 6 "Circuit" 22 ["width", "gates"] F_Circuit____init__ := ⟨f23, _, _, ⟨mi1_Circuit, a23, g23, mi3_Circuit⟩, ok_Circuit____init__ F23 m_tuple ik_Circuit c_check_gates no_Circuit_gates no_Circuit_width, m_Circuit, b23⟩
  have c_is_look : FnC l.prog w K mg base cm 2 "is_look" F_is_look := fnC_mk F24 (PySem.W.mg_of X G a24) b24 (ok_is_look F24 m_isinstance m_len m_list m_tuple c_is_whole)
  have c_bad_path : FnC l.prog w K mg base cm 3 "bad_path" F_bad_path := fnC_mk F25 (PySem.W.mg_of X G a25) b25 (ok_bad_path F25 m_len c_is_bit c_is_look)
  have c_joined_node : FnC l.prog w K mg base cm 3 "joined_node" F_joined_node := fnC_mk F26 (PySem.W.mg_of X G a26) b26 (ok_joined_node F26 m_len m_range c_is_bit)
  have c_parts_of : FnC l.prog w K mg base cm 3 "parts_of" F_parts_of := fnC_mk F27 (PySem.W.mg_of X G a27) b27 (ok_parts_of F27 m_len c_is_bit)
  have mf_Tree : MkF l.prog w K mg base cm 4 "Tree" 25 ["width", "node"] F_Tree____init__ := ⟨f28, _, _, ⟨mi1_Tree, a28, g28, mi3_Tree⟩, ok_Tree____init__ F28  ik_Tree c_bad_path c_joined_node c_parts_of no_Tree_node no_Tree_width, m_Tree, b28⟩
  have c__law_build : FnC l.prog w K mg base cm 8 "_law_build" F__law_build := fnC_mk F29 (PySem.W.mg_of X G a29) b29 (ok__law_build F29 m_list mf_Table mf_Circuit mf_Tree mf_Reader)
  have c__law_surplus : FnC l.prog w K mg base cm 1 "_law_surplus" F__law_surplus := fnC_mk F30 (PySem.W.mg_of X G a30) b30 (ok__law_surplus F30 m_int m_len m_range )
  have c__law_more : FnC l.prog w K mg base cm 1 "_law_more" F__law_more := fnC_mk F31 (PySem.W.mg_of X G a31) b31 (ok__law_more F31 m_abs m_int )
  have c_most_near : FnC l.prog w K mg base cm 1 "most_near" F_most_near := fnC_mk F32 (PySem.W.mg_of X G a32) b32 (ok_most_near F32  )
  have c__law_most_right : FnC l.prog w K mg base cm 2 "_law_most_right" F__law_most_right := fnC_mk F33 (PySem.W.mg_of X G a33) b33 (ok__law_most_right F33 m_list c_most_near c__law_whole)
  have c__law_sum_agree : FnC l.prog w K mg base cm 2 "_law_sum_agree" F__law_sum_agree := fnC_mk F34 (PySem.W.mg_of X G a34) b34 (ok__law_sum_agree F34 m_int m_range m_sum c__law_bits)
  have c_turned_step : FnC l.prog w K mg base cm 1 "turned_step" F_turned_step := fnC_mk F35 (PySem.W.mg_of X G a35) b35 (ok_turned_step F35 m_len m_range )
  have c_turned_numbers : FnC l.prog w K mg base cm 2 "turned_numbers" F_turned_numbers := fnC_mk F36 (PySem.W.mg_of X G a36) b36 (ok_turned_numbers F36 m_len m_list m_tuple c_turned_step)
  have o_37 : MethC l.prog w K mg base cm 2 "truth" 23 F_Reader__truth := ⟨f37, _, _, ik_Reader.cls, ⟨a37, g37, k37⟩, ok_Reader__truth F37 m_range m_tuple ik_Reader no_Reader_layers no_Reader_accepts, b37⟩
  have o_38 : MethC l.prog w K mg base cm 2 "truth" 24 F_Table__truth := ⟨f38, _, _, ik_Table.cls, ⟨a38, g38, k38⟩, ok_Table__truth F38  ik_Table no_Table_bits, b38⟩
  have c_number_of : FnC l.prog w K mg base cm 1 "number_of" F_number_of := fnC_mk F39 (PySem.W.mg_of X G a39) b39 (ok_number_of F39  )
  have o_40 : SpecC l.prog w K mg base cm 2 "__call__" 22 F_Circuit____call__ := ⟨f40, _, _, ik_Circuit.cls, a40, g40, t40, ok_Circuit____call__ F40 m_list c_number_of ik_Circuit no_Circuit_gates, b40⟩
  have c_row_of : FnC l.prog w K mg base cm 1 "row_of" F_row_of := fnC_mk F41 (PySem.W.mg_of X G a41) b41 (ok_row_of F41 m_range m_tuple )
  have so_call_22 : MsC (SpecC l.prog w K mg base cm 2 "__call__") [(22, F_Circuit____call__)] := (msc_cons (SpecC.mono o_40 (by decide)) msc_nil)
  have o_42 : MethC l.prog w K mg base cm 3 "truth" 22 F_Circuit__truth := ⟨f42, _, _, ik_Circuit.cls, ⟨a42, g42, k42⟩, ok_Circuit__truth F42 m_range m_tuple ik_Circuit no_Circuit_width c_row_of so_call_22, b42⟩
  have c_leaf_of : FnC l.prog w K mg base cm 1 "leaf_of" F_leaf_of := fnC_mk F43 (PySem.W.mg_of X G a43) b43 (ok_leaf_of F43 m_isinstance m_tuple )
  have o_44 : MethC l.prog w K mg base cm 2 "truth" 25 F_Tree__truth := ⟨f44, _, _, ik_Tree.cls, ⟨a44, g44, k44⟩, ok_Tree__truth F44 m_range m_tuple ik_Tree no_Tree_width c_leaf_of no_Tree_node c_row_of, b44⟩
  have ms_truth_22_23_24_25 : MsC (MethC l.prog w K mg base cm 3 "truth") [(22, F_Circuit__truth), (23, F_Reader__truth), (24, F_Table__truth), (25, F_Tree__truth)] := (msc_cons (MethC.mono o_42 (by decide)) (msc_cons (MethC.mono o_37 (by decide)) (msc_cons (MethC.mono o_38 (by decide)) (msc_cons (MethC.mono o_44 (by decide)) msc_nil))))
  have c_signed_answers : FnC l.prog w K mg base cm 4 "signed_answers" F_signed_answers := fnC_mk F45 (PySem.W.mg_of X G a45) b45 (ok_signed_answers F45  ms_truth_22_23_24_25)
  have c_is_near : FnC l.prog w K mg base cm 1 "is_near" F_is_near := fnC_mk F46 (PySem.W.mg_of X G a46) b46 (ok_is_near F46  )
  have c_near_sums : FnC l.prog w K mg base cm 5 "near_sums" F_near_sums := fnC_mk F47 (PySem.W.mg_of X G a47) b47 (ok_near_sums F47 m_len m_range m_tuple c_turned_numbers c_signed_answers ik_Circuit no_Circuit_width ik_Reader no_Reader_width ik_Table no_Table_width ik_Tree no_Tree_width c_is_near c_row_of)
  have c__law_is_row : FnC l.prog w K mg base cm 2 "_law_is_row" F__law_is_row := fnC_mk F48 (PySem.W.mg_of X G a48) b48 (ok__law_is_row F48 m_isinstance m_len m_tuple c__law_whole)
  have c__law_near_right : FnC l.prog w K mg base cm 6 "_law_near_right" F__law_near_right := fnC_mk F49 (PySem.W.mg_of X G a49) b49 (ok__law_near_right F49 m_isinstance m_len m_list m_range m_tuple c__law_bits c_near_sums c__law_whole c__law_is_row)
  have c__law_power : FnC l.prog w K mg base cm 1 "_law_power" F__law_power := fnC_mk F50 (PySem.W.mg_of X G a50) b50 (ok__law_power F50 m_range )
  exact (ok_law (cm := cm) F51 m_int c__law_digits c__law_cell c__law_near_table c__law_build c__law_truth c__law_surplus c__law_sum_agree c__law_more c__law_most_right c__law_near_right c__law_power).imp fun vs H Q E => law_imp law_shape
end Pyl
open PySem PySem.W PyProof.Rows
set_option maxHeartbeats 0 in
theorem PySem.Challenge.cw_fooledortold_k54_near_sums_whole_holds : PySem.Challenge.rw_fooledortold_k54_near_sums_whole.Holds := by
  w_on; o_law; k_head; (case hw => w_witness2)
  k_fill
  refine L2.walk_of (l := PySem.Challenge.rw_fooledortold_k54_near_sums_whole) (n := 63) (k := 12) (x := "script") (CX := fun _ => L2.CX0) (sp := fun w => Pyl.spP _ (fun _ => 0) Pyl.F_law_k54) rfl (by decide) rfl ⟨rfl, by decide, by decide⟩ (fun w h Y => PySem.W.kIn_of Y) ?F (fun _ _ a ns hl _ hS => Pyl.law_sp Pyl.law_true hl hS) (fun _ _ _ _ _ h => h)
  case F =>
    intro w mg fa h KX G hmg
    refine' Pyl.all_mk KX G hmg ?z_Circuit ?z_Reader ?z_Table ?z_Tree ?mi1_Circuit ?mi3_Circuit ?mi1_Reader ?mi3_Reader ?mi1_Table ?mi3_Table ?mi1_Tree ?mi3_Tree ?q_ik_Reader ?q_no_Reader_accepts ?q_no_Reader_layers ?q_no_Reader_width ?q_ik_Table ?q_no_Table_bits ?q_no_Table_width ?q_ik_Circuit ?q_no_Circuit_gates ?q_no_Circuit_width ?q_ik_Tree ?q_no_Tree_node ?q_no_Tree_width ?a1 ?l1 ?c1 ?k1 ?a2 ?l2 ?c2 ?k2 ?a3 ?l3 ?c3 ?k3 ?a4 ?l4 ?c4 ?k4 ?a5 ?l5 ?c5 ?k5 ?a6 ?l6 ?c6 ?k6 ?a7 ?l7 ?c7 ?k7 ?a8 ?l8 ?c8 ?k8 ?a9 ?l9 ?c9 ?k9 ?a10 ?l10 ?c10 ?k10 ?a11 ?l11 ?c11 ?k11 ?a12 ?l12 ?c12 ?k12 ?a13 ?l13 ?c13 ?k13 ?a14 ?l14 ?c14 ?k14 ?a15 ?l15 ?c15 ?k15 ?a16 ?l16 ?c16 ?k16 ?a17 ?l17 ?c17 ?k17 ?a18 ?l18 ?c18 ?k18 ?a19 ?g19 ?t19 ?l19 ?c19 ?k19 ?a20 ?g20 ?t20 ?l20 ?c20 ?k20 ?a21 ?l21 ?c21 ?k21 ?a22 ?l22 ?c22 ?k22 ?a23 ?g23 ?t23 ?l23 ?c23 ?k23 ?a24 ?l24 ?c24 ?k24 ?a25 ?l25 ?c25 ?k25 ?a26 ?l26 ?c26 ?k26 ?a27 ?l27 ?c27 ?k27 ?a28 ?g28 ?t28 ?l28 ?c28 ?k28 ?a29 ?l29 ?c29 ?k29 ?a30 ?l30 ?c30 ?k30 ?a31 ?l31 ?c31 ?k31 ?a32 ?l32 ?c32 ?k32 ?a33 ?l33 ?c33 ?k33 ?a34 ?l34 ?c34 ?k34 ?a35 ?l35 ?c35 ?k35 ?a36 ?l36 ?c36 ?k36 ?a37 ?g37 ?t37 ?l37 ?c37 ?k37 ?a38 ?g38 ?t38 ?l38 ?c38 ?k38 ?a39 ?l39 ?c39 ?k39 ?a40 ?g40 ?t40 ?l40 ?c40 ?k40 ?a41 ?l41 ?c41 ?k41 ?a42 ?g42 ?t42 ?l42 ?c42 ?k42 ?a43 ?l43 ?c43 ?k43 ?a44 ?g44 ?t44 ?l44 ?c44 ?k44 ?a45 ?l45 ?c45 ?k45 ?a46 ?l46 ?c46 ?k46 ?a47 ?l47 ?c47 ?k47 ?a48 ?l48 ?c48 ?k48 ?a49 ?l49 ?c49 ?k49 ?a50 ?l50 ?c50 ?k50 ?a51 ?l51 ?c51 ?k51 ?z_MOST_STANDINGS ?z_MOST_WIRES ?z_abs ?z_bool ?z_int ?z_isinstance ?z_len ?z_list ?z_min ?z_range ?z_sum ?z_tuple
    (case z_Circuit => k_is)
    (case z_Reader => k_is)
    (case z_Table => k_is)
    (case z_Tree => k_is)
    (case mi1_Circuit => first | k_is | kit_is | kernel_rfl)
    (case mi3_Circuit => first | k_is | kit_is | kernel_rfl)
    (case mi1_Reader => first | k_is | kit_is | kernel_rfl)
    (case mi3_Reader => first | k_is | kit_is | kernel_rfl)
    (case mi1_Table => first | k_is | kit_is | kernel_rfl)
    (case mi3_Table => first | k_is | kit_is | kernel_rfl)
    (case mi1_Tree => first | k_is | kit_is | kernel_rfl)
    (case mi3_Tree => first | k_is | kit_is | kernel_rfl)
    (case q_ik_Reader => first | k_is | kit_is | kernel_rfl)
    (case q_no_Reader_accepts => first | k_is | kit_is | kernel_rfl)
    (case q_no_Reader_layers => first | k_is | kit_is | kernel_rfl)
    (case q_no_Reader_width => first | k_is | kit_is | kernel_rfl)
    (case q_ik_Table => first | k_is | kit_is | kernel_rfl)
    (case q_no_Table_bits => first | k_is | kit_is | kernel_rfl)
    (case q_no_Table_width => first | k_is | kit_is | kernel_rfl)
    (case q_ik_Circuit => first | k_is | kit_is | kernel_rfl)
    (case q_no_Circuit_gates => first | k_is | kit_is | kernel_rfl)
    (case q_no_Circuit_width => first | k_is | kit_is | kernel_rfl)
    (case q_ik_Tree => first | k_is | kit_is | kernel_rfl)
    (case q_no_Tree_node => first | k_is | kit_is | kernel_rfl)
    (case q_no_Tree_width => first | k_is | kit_is | kernel_rfl)
    (case a1 => k_is)
    (case l1 => k_is)
    (case c1 => k_is)
    (case k1 => k_is)
    (case a2 => k_is)
    (case l2 => k_is)
    (case c2 => k_is)
    (case k2 => k_is)
    (case a3 => k_is)
    (case l3 => k_is)
    (case c3 => k_is)
    (case k3 => k_is)
    (case a4 => k_is)
    (case l4 => k_is)
    (case c4 => k_is)
    (case k4 => k_is)
    (case a5 => k_is)
    (case l5 => k_is)
    (case c5 => k_is)
    (case k5 => k_is)
    (case a6 => k_is)
    (case l6 => k_is)
    (case c6 => k_is)
    (case k6 => k_is)
    (case a7 => k_is)
    (case l7 => k_is)
    (case c7 => k_is)
    (case k7 => k_is)
    (case a8 => k_is)
    (case l8 => k_is)
    (case c8 => k_is)
    (case k8 => k_is)
    (case a9 => k_is)
    (case l9 => k_is)
    (case c9 => k_is)
    (case k9 => k_is)
    (case a10 => k_is)
    (case l10 => k_is)
    (case c10 => k_is)
    (case k10 => k_is)
    (case a11 => k_is)
    (case l11 => k_is)
    (case c11 => k_is)
    (case k11 => k_is)
    (case a12 => k_is)
    (case l12 => k_is)
    (case c12 => k_is)
    (case k12 => k_is)
    (case a13 => k_is)
    (case l13 => k_is)
    (case c13 => k_is)
    (case k13 => k_is)
    (case a14 => k_is)
    (case l14 => k_is)
    (case c14 => k_is)
    (case k14 => k_is)
    (case a15 => k_is)
    (case l15 => k_is)
    (case c15 => k_is)
    (case k15 => k_is)
    (case a16 => k_is)
    (case l16 => k_is)
    (case c16 => k_is)
    (case k16 => k_is)
    (case a17 => k_is)
    (case l17 => k_is)
    (case c17 => k_is)
    (case k17 => k_is)
    (case a18 => k_is)
    (case l18 => k_is)
    (case c18 => k_is)
    (case k18 => k_is)
    (case a19 => k_is)
    (case g19 => first | k_is | kit_is | kernel_rfl)
    (case t19 => first | k_is | kit_is | kernel_rfl)
    (case l19 => k_is)
    (case c19 => k_is)
    (case k19 => k_is)
    (case a20 => k_is)
    (case g20 => first | k_is | kit_is | kernel_rfl)
    (case t20 => first | k_is | kit_is | kernel_rfl)
    (case l20 => k_is)
    (case c20 => k_is)
    (case k20 => k_is)
    (case a21 => k_is)
    (case l21 => k_is)
    (case c21 => k_is)
    (case k21 => k_is)
    (case a22 => k_is)
    (case l22 => k_is)
    (case c22 => k_is)
    (case k22 => k_is)
    (case a23 => k_is)
    (case g23 => first | k_is | kit_is | kernel_rfl)
    (case t23 => first | k_is | kit_is | kernel_rfl)
    (case l23 => k_is)
    (case c23 => k_is)
    (case k23 => k_is)
    (case a24 => k_is)
    (case l24 => k_is)
    (case c24 => k_is)
    (case k24 => k_is)
    (case a25 => k_is)
    (case l25 => k_is)
    (case c25 => k_is)
    (case k25 => k_is)
    (case a26 => k_is)
    (case l26 => k_is)
    (case c26 => k_is)
    (case k26 => k_is)
    (case a27 => k_is)
    (case l27 => k_is)
    (case c27 => k_is)
    (case k27 => k_is)
    (case a28 => k_is)
    (case g28 => first | k_is | kit_is | kernel_rfl)
    (case t28 => first | k_is | kit_is | kernel_rfl)
    (case l28 => k_is)
    (case c28 => k_is)
    (case k28 => k_is)
    (case a29 => k_is)
    (case l29 => k_is)
    (case c29 => k_is)
    (case k29 => k_is)
    (case a30 => k_is)
    (case l30 => k_is)
    (case c30 => k_is)
    (case k30 => k_is)
    (case a31 => k_is)
    (case l31 => k_is)
    (case c31 => k_is)
    (case k31 => k_is)
    (case a32 => k_is)
    (case l32 => k_is)
    (case c32 => k_is)
    (case k32 => k_is)
    (case a33 => k_is)
    (case l33 => k_is)
    (case c33 => k_is)
    (case k33 => k_is)
    (case a34 => k_is)
    (case l34 => k_is)
    (case c34 => k_is)
    (case k34 => k_is)
    (case a35 => k_is)
    (case l35 => k_is)
    (case c35 => k_is)
    (case k35 => k_is)
    (case a36 => k_is)
    (case l36 => k_is)
    (case c36 => k_is)
    (case k36 => k_is)
    (case a37 => k_is)
    (case g37 => first | k_is | kit_is | kernel_rfl)
    (case t37 => first | k_is | kit_is | kernel_rfl)
    (case l37 => k_is)
    (case c37 => k_is)
    (case k37 => k_is)
    (case a38 => k_is)
    (case g38 => first | k_is | kit_is | kernel_rfl)
    (case t38 => first | k_is | kit_is | kernel_rfl)
    (case l38 => k_is)
    (case c38 => k_is)
    (case k38 => k_is)
    (case a39 => k_is)
    (case l39 => k_is)
    (case c39 => k_is)
    (case k39 => k_is)
    (case a40 => k_is)
    (case g40 => first | k_is | kit_is | kernel_rfl)
    (case t40 => first | k_is | kit_is | kernel_rfl)
    (case l40 => k_is)
    (case c40 => k_is)
    (case k40 => k_is)
    (case a41 => k_is)
    (case l41 => k_is)
    (case c41 => k_is)
    (case k41 => k_is)
    (case a42 => k_is)
    (case g42 => first | k_is | kit_is | kernel_rfl)
    (case t42 => first | k_is | kit_is | kernel_rfl)
    (case l42 => k_is)
    (case c42 => k_is)
    (case k42 => k_is)
    (case a43 => k_is)
    (case l43 => k_is)
    (case c43 => k_is)
    (case k43 => k_is)
    (case a44 => k_is)
    (case g44 => first | k_is | kit_is | kernel_rfl)
    (case t44 => first | k_is | kit_is | kernel_rfl)
    (case l44 => k_is)
    (case c44 => k_is)
    (case k44 => k_is)
    (case a45 => k_is)
    (case l45 => k_is)
    (case c45 => k_is)
    (case k45 => k_is)
    (case a46 => k_is)
    (case l46 => k_is)
    (case c46 => k_is)
    (case k46 => k_is)
    (case a47 => k_is)
    (case l47 => k_is)
    (case c47 => k_is)
    (case k47 => k_is)
    (case a48 => k_is)
    (case l48 => k_is)
    (case c48 => k_is)
    (case k48 => k_is)
    (case a49 => k_is)
    (case l49 => k_is)
    (case c49 => k_is)
    (case k49 => k_is)
    (case a50 => k_is)
    (case l50 => k_is)
    (case c50 => k_is)
    (case k50 => k_is)
    (case a51 => k_is)
    (case l51 => k_is)
    (case c51 => k_is)
    (case k51 => k_is)
    (case z_MOST_STANDINGS => k_is)
    (case z_MOST_WIRES => k_is)
    (case z_abs => k_is)
    (case z_bool => k_is)
    (case z_int => k_is)
    (case z_isinstance => k_is)
    (case z_len => k_is)
    (case z_list => k_is)
    (case z_min => k_is)
    (case z_range => k_is)
    (case z_sum => k_is)
    (case z_tuple => k_is)
end
