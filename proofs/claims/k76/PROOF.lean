import PyProof.Rows.All
import Wide.All
import OpenK.AllK
import Wide.FinOn
import PySem.PyData
import PyProof.P3Statements
import PyProof.EqLayable
import PyProof.Rows.Walk
import HandS.ForMost
import HandS.Zip
import HandS.IsInst
import HandS.Wide
import HandS.WideBits
import HandS.TupAny
import KE.KUnpack
import HandS.Gcd
import KE.KMathGC
import HandS.Text
import HandS.Defaults
import HandS.MakeKwOnly
import HandS.HeadHook2
import HandS.SortInts
import KE.SortCalls
import PySem.Challenge.RW_fooledortold_k76_values_judged
section
set_option Elab.async false
set_option linter.all false
namespace Pyl
open PySem

/-- data: what a value denotes, without a heap. obj: an instance of the own class number c, by its attributes -/
inductive Dt where
  | non | bl (b : Bool) | int (i : Int) | str (x : Str) | lst (ds : List Dt) | tup (ds : List Dt) | obj (c : Nat) (fs : List (Str × Dt))

/-- an object that one name of the frame alone holds -/
inductive OD where
  | lst (ds : List Dt)
/-- what a name of the frame holds: nothing known | data | an object of its own | an object of its own that a loop walks just now | a list of its own of lists of its own -/
inductive Slot where
  | non | val (d : Dt) | own (o : OD) | take | mat (dss : List (List Dt))
abbrev Sl := List Slot
/-- what an expression gives: data | an object that a name holds, looked at | a new object -/
inductive R where
  | vis (d : Dt) | bor (d : Dt) | fre (o : OD)
def OD.dt : OD → Dt
  | .lst ds => .lst ds
def R.dt : R → Dt
  | .vis d => d
  | .bor d => d
  | .fre o => o.dt
def R.sh : R → Bool
  | .bor _ => true
  | _ => false

/-! ### expressions -/
abbrev EF := Sl → Option R
abbrev TF := Sl → Option Bool
abbrev AF := Sl → Option (List (Dt × Bool))
def eVar (i : Nat) : EF := fun env => match env[i]? with
  | some (.val d) => some (.vis d)
  | some (.own (.lst ds)) => some (.bor (.lst ds))
  | _ => none
def eC (d : Dt) : EF := fun _ => some (.vis d)
/-- an operation of one, of two data, the answer a scalar or a new object -/
def e1 (p : Dt → Option R) (fa : EF) : EF := fun env => (fa env).bind fun a => p a.dt
def e2 (p : Dt → Dt → Option R) (fa fb : EF) : EF := fun env => (fa env).bind fun a => (fb env).bind fun b => p a.dt b.dt
def aNil : AF := fun _ => some []
def aCons (fa : EF) (fr : AF) : AF := fun env => (fa env).bind fun a => (fr env).bind fun r => some ((a.dt, a.sh) :: r)
/-- all data, none of them borrowed -/
def plain (rs : List (Dt × Bool)) : Option (List Dt) := if rs.any (·.2) then none else some (rs.map (·.1))
def eTup (fa : AF) : EF := fun env => (fa env).bind fun rs => (plain rs).bind fun ds => some (.vis (.tup ds))
def eLst (fa : AF) : EF := fun env => (fa env).bind fun rs => (plain rs).bind fun ds => some (.fre (.lst ds))
def Dt.scalar : Dt → Bool
  | .non | .bl _ | .int _ | .str _ => true
  | _ => false
abbrev FN := List Dt → Option Dt
def eCall (F : FN) (fa : AF) : EF := fun env => (fa env).bind fun rs => (F (rs.map (·.1))).bind fun d => if rs.any (·.2) && !d.scalar then none else some (.vis d)
/-- arguments and keywords -/
def aApp (fa fb : AF) : AF := fun env => (fa env).bind fun a => (fb env).bind fun b => some (a ++ b)
/-- arguments that lack at a call -/
def aDfl (dd : List Dt) : AF := fun _ => some (dd.map fun d => (d, false))
def eIf (ft : TF) (fa fb : EF) : EF := fun env => (ft env).bind fun t => if t then fa env else fb env
/-- and, or, not as values (bools) -/
def eAnd (fa fb : EF) : EF := fun env => match fa env with
  | some (.vis (.bl true)) => fb env
  | some (.vis (.bl false)) => some (.vis (.bl false))
  | _ => none
def eOr (fa fb : EF) : EF := fun env => match fa env with
  | some (.vis (.bl true)) => some (.vis (.bl true))
  | some (.vis (.bl false)) => fb env
  | _ => none
def eNot (fa : EF) : EF := fun env => match fa env with
  | some (.vis (.bl b)) => some (.vis (.bl (!b)))
  | _ => none
/-! ### tests -/
def tVal (fa : EF) : TF := fun env => match fa env with
  | some (.vis (.bl b)) => some b
  | _ => none
def tAnd (a b : TF) : TF := fun env => (a env).bind fun t => if t then b env else some false
def tOr (a b : TF) : TF := fun env => (a env).bind fun t => if t then some true else b env
def tNot (a : TF) : TF := fun env => (a env).bind fun t => some (!t)

/-! ### operations on data -/
def LIM : Nat := 4194304
@[irreducible] def BIG : Nat := 2 ^ 400000
@[irreducible] def DIVB : Nat := 2 ^ 8999
theorem BIG_eq : BIG = 2 ^ 400000 := by unfold BIG; rfl
theorem DIVB_eq : DIVB = 2 ^ 8999 := by unfold DIVB; rfl
def pIntI (c : Int → Int → Option Int) : Dt → Dt → Option R
  | .int i, .int j => (c i j).map fun k => .vis (.int k)
  | _, _ => none
def pAdd : Dt → Dt → Option R
  | .int i, .int j => some (.vis (.int (i + j)))
  | .lst a, .lst b => if a.length + b.length ≤ LIM then some (.fre (.lst (a ++ b))) else none
  | .tup a, .tup b => if a.length + b.length ≤ LIM then some (.vis (.tup (a ++ b))) else none
  | .str a, .str b => if a.length + b.length ≤ LIM then some (.vis (.str (a ++ b))) else none
  | _, _ => none
def pSub : Dt → Dt → Option R := pIntI fun i j => some (i - j)
def pMul : Dt → Dt → Option R
  | .int i, .int j => if i.natAbs < BIG ∧ j.natAbs < BIG then some (.vis (.int (i * j))) else none
  | _, _ => none
def pDiv : Dt → Dt → Option R := pIntI fun i j => if 0 < j ∧ j.natAbs < DIVB then some (i / j) else none
def pMod : Dt → Dt → Option R := pIntI fun i j => if 0 < j then some (i % j) else none
/-- of ints that are not below 0 -/
def pXor : Dt → Dt → Option R := pIntI fun i j => if 0 ≤ i ∧ 0 ≤ j then some ((i.toNat ^^^ j.toNat : Nat) : Int) else none
def pAnd : Dt → Dt → Option R := pIntI fun i j => if 0 ≤ i ∧ 0 ≤ j then some ((i.toNat &&& j.toNat : Nat) : Int) else none
def pOr : Dt → Dt → Option R := pIntI fun i j => if 0 ≤ i ∧ 0 ≤ j then some ((i.toNat ||| j.toNat : Nat) : Int) else none
def pPow : Dt → Dt → Option R := pIntI fun i j => if 0 ≤ j ∧ j ≤ 1000000 ∧ i.natAbs < 2 ^ 64 then some (i ^ j.toNat) else none
def pShl : Dt → Dt → Option R := pIntI fun i j => if 0 ≤ j ∧ j ≤ 100000 ∧ i.natAbs < BIG then some (i * 2 ^ j.toNat) else none
def pShr : Dt → Dt → Option R := pIntI fun i j => if 0 ≤ j then some (i / 2 ^ j.toNat) else none
def pNeg : Dt → Option R
  | .int i => some (.vis (.int (-i)))
  | _ => none
def pCmp (c : Int → Int → Bool) : Dt → Dt → Option R
  | .int i, .int j => some (.vis (.bl (c i j)))
  | _, _ => none
def pLt := pCmp fun i j => decide (i < j)
def pLe := pCmp fun i j => decide (i ≤ j)
def pGt := pCmp fun i j => decide (j < i)
def pGe := pCmp fun i j => decide (j ≤ i)
mutual
def Dt.py : Dt → Option PyData
  | .non => some .none
  | .bl b => some (.bool b)
  | .int i => some (.int i)
  | .str x => some (.str x)
  | .lst ds => (Dt.pyL ds).map .list
  | .tup ds => (Dt.pyL ds).map .tuple
  | .obj _ _ => none
def Dt.pyL : List Dt → Option (List PyData)
  | [] => some []
  | d :: ds => (Dt.py d).bind fun p => (Dt.pyL ds).bind fun r => some (p :: r)
end
/-- == of data -/
def eqD (a b : Dt) : Option Bool := (a.py).bind fun p => (b.py).bind fun q => if SeqAt.shaped p && SeqAt.shaped q then some (PyData.eqv p q) else none
def pEq (a b : Dt) : Option R := (eqD a b).map fun t => .vis (.bl t)
def pNe (a b : Dt) : Option R := (eqD a b).map fun t => .vis (.bl (!t))
def Dt.isNon : Dt → Bool
  | .non => true
  | _ => false
def pIsN (a : Dt) : Option R := some (.vis (.bl a.isNon))
def pNotN (a : Dt) : Option R := some (.vis (.bl (!a.isNon)))
def atL {α : Type} (ds : List α) (i : Int) : Option α := if 0 ≤ i then ds[i.toNat]? else if -(ds.length : Int) ≤ i then ds[(i + ds.length).toNat]? else none
def pIx : Dt → Dt → Option R
  | .lst ds, .int i => (atL ds i).map .vis
  | .tup ds, .int i => (atL ds i).map .vis
  | .str z, .int i => if z.length ≤ LIM then (atL z.cps.toList i).map fun c => .vis (.str ⟨#[c]⟩) else none
  | _, _ => none
/-- the bounds of a slice, as the interpreter makes them -/
def sIx (n : Nat) (dflt : Nat) : Option Int → Nat
  | none => dflt
  | some i => if 0 ≤ i then min i.toNat n else (i + n).toNat
def cutD (ds : List Dt) (lo hi : Option Int) : List Dt := (ds.drop (sIx ds.length 0 lo)).take (sIx ds.length ds.length hi - sIx ds.length 0 lo)
abbrev OF := Sl → Option (Option Int)
def oNone : OF := fun _ => some none
def oSome (fa : EF) : OF := fun env => match fa env with
  | some (.vis (.int i)) => some (some i)
  | _ => none
def eSlice (fa : EF) (lo hi : OF) : EF := fun env => (fa env).bind fun a => (lo env).bind fun l => (hi env).bind fun h => match a.dt with
  | .lst ds => some (.fre (.lst (cutD ds l h)))
  | .tup ds => some (.vis (.tup (cutD ds l h)))
  | _ => none
/-! built-in functions -/
def pLen : Dt → Option R
  | .lst ds => some (.vis (.int ds.length))
  | .tup ds => some (.vis (.int ds.length))
  | _ => none
def pInt : Dt → Option R
  | .int i => some (.vis (.int i))
  | .bl b => some (.vis (.int (if b then 1 else 0)))
  | _ => none
def pAbs : Dt → Option R
  | .int i => some (.vis (.int (if i < 0 then -i else i)))
  | _ => none
def intsOf : List Dt → Option (List Int)
  | [] => some []
  | .int i :: ds => (intsOf ds).map (i :: ·)
  | _ => none
def pSum : Dt → Option R
  | .lst ds => (intsOf ds).map fun ns => .vis (.int ns.sum)
  | _ => none
def pMaxL : Dt → Option R
  | .lst ds => (intsOf ds).bind fun ns => match ns with
    | [] => none
    | n :: ns => some (.vis (.int (ns.foldl (fun m x => if x > m then x else m) n)))
  | _ => none
def pMinL : Dt → Option R
  | .lst ds => (intsOf ds).bind fun ns => match ns with
    | [] => none
    | n :: ns => some (.vis (.int (ns.foldl (fun m x => if x < m then x else m) n)))
  | _ => none
/-- an int among ints -/
def inInts : Dt → Dt → Option Bool
  | .int i, .lst ds => (intsOf ds).map fun ns => decide (i ∈ ns)
  | .int i, .tup ds => (intsOf ds).map fun ns => decide (i ∈ ns)
  | _, _ => none
def pIn (a b : Dt) : Option R := (inInts a b).map fun t => .vis (.bl t)
def pNotIn (a b : Dt) : Option R := (inInts a b).map fun t => .vis (.bl (!t))
def pMax2 : Dt → Dt → Option R
  | .int i, .int j => some (.vis (.int (if j > i then j else i)))
  | _, _ => none
def pMin2 : Dt → Dt → Option R
  | .int i, .int j => some (.vis (.int (if j < i then j else i)))
  | _, _ => none
def chooseN : Nat → Nat → Nat
  | _, 0 => 1
  | 0, _ + 1 => 0
  | n + 1, k + 1 => chooseN n k + chooseN n (k + 1)
def pGcd : Dt → Dt → Option R
  | .int i, .int j => some (.vis (.int (Nat.gcd i.natAbs j.natAbs : Nat)))
  | _, _ => none
def pComb : Dt → Dt → Option R
  | .int i, .int j => if 0 ≤ i ∧ i ≤ 9000 ∧ 0 ≤ j then some (.vis (.int (chooseN i.toNat j.toNat : Nat))) else none
  | _, _ => none
@[irreducible] def LCMB : Nat := 2 ^ 13000
theorem LCMB_eq : LCMB = 2 ^ 13000 := by unfold LCMB; rfl
def pLcm : Dt → Dt → Option R
  | .int i, .int j => if i.natAbs < LCMB ∧ j.natAbs < LCMB then some (.vis (.int (Nat.lcm i.natAbs j.natAbs : Nat))) else none
  | _, _ => none
/-- a list of lists of two ints -/
def intPairs : List Dt → Option (List (Int × Int))
  | [] => some []
  | .lst [.int a, .int b] :: ds => (intPairs ds).map ((a, b) :: ·)
  | _ => none
def lexLe (p q : Int × Int) : Bool := if p.1 = q.1 then decide (p.2 ≤ q.2) else decide (p.1 < q.1)
def pairD (p : Int × Int) : Dt := .lst [.int p.1, .int p.2]
def pSorted : Dt → Option R
  | .lst ds => match intsOf ds with
    | some ns => some (.fre (.lst ((ns.mergeSort fun a b => decide (a ≤ b)).map .int)))
    | none => (intPairs ds).map fun ps => .fre (.lst ((ps.mergeSort lexLe).map pairD))
  | _ => none
/-- a op b op' c -/
def eChain (p q : Dt → Dt → Option R) (fa fb fc : EF) : EF := fun env => (fa env).bind fun a => (fb env).bind fun b => match p a.dt b.dt with
  | some (.vis (.bl true)) => (fc env).bind fun c => q b.dt c.dt
  | some (.vis (.bl false)) => some (.vis (.bl false))
  | _ => none
def pList : Dt → Option R
  | .lst ds => some (.fre (.lst ds))
  | .tup ds => some (.fre (.lst ds))
  | _ => none
def pTuple : Dt → Option R
  | .lst ds => some (.vis (.tup ds))
  | .tup ds => some (.vis (.tup ds))
  | _ => none
/-- isinstance(x, T), T a built-in type by its name -/
def Dt.ty : Dt → Option String
  | .non => some "NoneType"
  | .bl _ => some "bool"
  | .int _ => some "int"
  | .str _ => some "str"
  | .lst _ => some "list"
  | .tup _ => some "tuple"
  | .obj _ _ => none
def isTy (T : String) (d : Dt) : Option Bool := d.ty.map fun t => t == T || (t == "bool" && T == "int")
def pIsi (T : String) (d : Dt) : Option R := (isTy T d).map fun b => .vis (.bl b)

/-! ### what a loop or a comprehension walks -/
abbrev IF := Sl → Option (List Dt × Bool)
def iSeq (fa : EF) : IF := fun env => (fa env).bind fun a => match a.dt with
  | .lst ds => some (ds, a.sh)
  | .tup ds => some (ds, a.sh)
  | _ => none
def rngD (lo : Int) (n : Nat) : List Dt := (List.range n).map fun i : Nat => .int (lo + (i : Int))
def iRange1 (fa : EF) : IF := fun env => match fa env with
  | some (.vis (.int n)) => if n < 4611686018427387904 ∧ -4611686018427387904 ≤ n then some (rngD 0 n.toNat, false) else none
  | _ => none
def iRange2 (fa fb : EF) : IF := fun env => (fa env).bind fun a => (fb env).bind fun b => match a.dt, b.dt with
  | .int lo, .int hi => if -4611686018427387904 ≤ lo ∧ lo < 4611686018427387904 ∧ -4611686018427387904 ≤ hi ∧ hi < 4611686018427387904 then some (rngD lo (hi - lo).toNat, false) else none
  | _, _ => none
/-- how many numbers range(a, b, c) has, c above 0 or -1 -/
def stepN (a b c : Int) : Nat := if 0 < c then (if a < b then ((b - a - 1) / c + 1).toNat else 0) else (a - b).toNat
def stepD (a c : Int) (n : Nat) : List Dt := (List.range n).map fun k : Nat => .int (a + (k : Int) * c)
def iRange3 (fa fb fc : EF) : IF := fun env => (fa env).bind fun a => (fb env).bind fun b => (fc env).bind fun c => match a.dt, b.dt, c.dt with
  | .int i, .int j, .int k => if ((0 < k ∧ k < 1073741824) ∨ k = -1) ∧ (-1099511627776 ≤ i ∧ i ≤ 1099511627776) ∧ -1099511627776 ≤ j ∧ j ≤ 1099511627776 then some (stepD i k (stepN i j k), false) else none
  | _, _, _ => none
def seqOf : Dt → Option (List Dt)
  | .lst ds => some ds
  | .tup ds => some ds
  | _ => none
def iZip (fa fb : EF) : IF := fun env => (fa env).bind fun a => (fb env).bind fun b => (seqOf a.dt).bind fun xs => (seqOf b.dt).bind fun ys =>
  some (List.zipWith (fun x y => Dt.tup [x, y]) xs ys, a.sh || b.sh)
/-- targets -/
abbrev GF := Dt → Sl → Option Sl
def gN (i : Nat) : GF := fun d env => some (env.set i (.val d))
def gsN : List Nat → List Dt → Sl → Option Sl
  | [], [], env => some env
  | i :: is, d :: ds, env => gsN is ds (env.set i (.val d))
  | _, _, _ => none
def gT (is : List Nat) : GF := fun d env => match d with
  | .tup ds => gsN is ds env
  | .lst ds => gsN is ds env
  | _ => none
def wipeS (env : Sl) : List Nat → Sl
  | [] => env
  | i :: is => (wipeS env is).set i .non
/-- one turn of a comprehension -/
def compG (env : Sl) (own : List Nat) (g : GF) (t : TF) (e : EF) (d : Dt) : Option (List Dt) := (g d (wipeS env own)).bind fun env' => (t env').bind fun b => if b then (e env').bind fun r => if r.sh then none else some [r.dt] else some []
def compL (g : Dt → Option (List Dt)) : List Dt → Option (List Dt)
  | [] => some []
  | d :: ds => (g d).bind fun o => (compL g ds).bind fun r => some (o ++ r)
def tYes : TF := fun _ => some true
def eComp (own : List Nat) (i : IF) (g : GF) (t : TF) (e : EF) : EF := fun env => (i env).bind fun ds => (compL (compG env own g t e) ds.1).bind fun out => if ds.1.length ≤ LIM then some (.fre (.lst out)) else none

/-! ### statements -/
structure En where
  nx : Sl → Prop
  rt : Dt → Prop
  bk : Sl → Prop
  ct : Sl → Prop
abbrev WS := En → Sl → Prop
def wNil : WS := fun D env => D.nx env
def wSeq (a b : WS) : WS := fun D env => ∃ M : Sl → Prop, a { D with nx := M } env ∧ ∀ e, M e → b D e
def R.slot : R → Slot
  | .vis d => .val d
  | .fre o => .own o
  | .bor _ => .non
def wAsg (i : Nat) (e : EF) : WS := fun D env => ∃ r, e env = some r ∧ r.sh = false ∧ D.nx (env.set i r.slot)
def wUnp (is : List Nat) (e : EF) : WS := fun D env => ∃ d env', e env = some (.vis d) ∧ gT is d env = some env' ∧ D.nx env'
def wRet (e : EF) : WS := fun D env => ∃ r, e env = some r ∧ r.sh = false ∧ D.rt r.dt
def wRetN : WS := fun D _ => D.rt .non
def wIf (t : TF) (a b : WS) : WS := fun D env => ∃ c, t env = some c ∧ ((c = true → a D env) ∧ (c = false → b D env))
def wDrop (e : EF) : WS := fun D env => ∃ r, e env = some r ∧ D.nx env
def wApp (i : Nat) (e : EF) : WS := fun D env => ∃ ds r, env[i]? = some (.own (.lst ds)) ∧ e env = some r ∧ r.sh = false ∧ ds.length < LIM ∧ D.nx (env.set i (.own (.lst (ds ++ [r.dt]))))
/-- xs[k] = e -/
def wPut (i : Nat) (k e : EF) : WS := fun D env => ∃ ds r j, env[i]? = some (.own (.lst ds)) ∧ e env = some r ∧ r.sh = false ∧ k env = some (.vis (.int j)) ∧ -(ds.length : Int) ≤ j ∧ j < ds.length ∧ D.nx (env.set i (.own (.lst (ds.set (if 0 ≤ j then j else j + ds.length).toNat r.dt))))
/-- never come to -/
def wDead : WS := fun _ _ => False
def wBrk : WS := fun D env => D.bk env
def wCnt : WS := fun D env => D.ct env
def wFor (fi : IF) (g : GF) (b : WS) : WS := fun D env => ∃ ds, fi env = some (ds, false) ∧ ∃ I : Nat → Sl → Prop, I 0 env ∧
  (∀ i env d, ds[i]? = some d → I i env → ∃ env', g d env = some env' ∧ b { D with nx := I (i + 1), bk := D.nx, ct := I (i + 1) } env') ∧ ∀ env, I ds.length env → D.nx env
/-- over a list of one's own, that the body leaves alone -/
def wForO (k : Nat) (g : GF) (b : WS) : WS := fun D env => ∃ ds, env[k]? = some (.own (.lst ds)) ∧ ∃ I : Nat → Sl → Prop, I 0 (env.set k .take) ∧
  (∀ i env d, ds[i]? = some d → I i env → ∃ env', g d env = some env' ∧ b { D with nx := I (i + 1), bk := fun e => e[k]? = some .take ∧ D.nx (e.set k (.own (.lst ds))), ct := I (i + 1) } env') ∧
  ∀ env, I ds.length env → env[k]? = some .take ∧ D.nx (env.set k (.own (.lst ds)))
def wWhile (t : TF) (b : WS) : WS := fun D env => ∃ I : Nat → Sl → Prop, (∃ m, I m env) ∧ ∀ m env, I m env → ∃ c, t env = some c ∧
  ((c = true → b { D with nx := fun e => ∃ m', m' < m ∧ I m' e, bk := D.nx, ct := fun e => ∃ m', m' < m ∧ I m' e } env) ∧ (c = false → D.nx env))
/-- what a name holds is from now on data -/
def frzS (i : Nat) (env : Sl) : Sl := match env[i]? with
  | some (.own o) => env.set i (.val o.dt)
  | some (.mat dss) => env.set i (.val (.lst (dss.map .lst)))
  | _ => env
/-- all that the frame's names hold as data -/
def Slot.frz : Slot → Slot
  | .own o => .val o.dt
  | .mat dss => .val (.lst (dss.map .lst))
  | s => s
def frzAll (env : Sl) : Sl := env.map Slot.frz
/-- an expression that only looks at what the names hold, the answer a scalar or a new list of scalars -/
def eLook (fe : EF) : EF := fun env => match fe (frzAll env) with
  | some (.vis d) => if d.scalar then some (.vis d) else none
  | some (.fre (.lst ds)) => if ds.all Dt.scalar then some (.fre (.lst ds)) else none
  | _ => none
def tLook (ft : TF) : TF := fun env => ft (frzAll env)
/-- lists of lists, all of them new -/
abbrev MF := Sl → Option (List (List Dt))
def freL : Option R → Option (List Dt)
  | some (.fre (.lst ds)) => some ds
  | _ => none
def mNil : MF := fun _ => some []
def mCons (fe : EF) (m : MF) : MF := fun env => (freL (fe env)).bind fun ds => (m env).bind fun r => some (ds :: r)
def compM (g : Dt → Option (List Dt)) : List Dt → Option (List (List Dt))
  | [] => some []
  | d :: ds => (g d).bind fun o => (compM g ds).bind fun r => some (o :: r)
def mComp (own : List Nat) (i : IF) (g : GF) (e : EF) : MF := fun env => (i env).bind fun ds => if ds.1.length ≤ LIM then compM (fun d => (g d (wipeS env own)).bind fun env' => freL (e env')) ds.1 else none
def wAsgM (i : Nat) (m : MF) : WS := fun D env => ∃ dss, m env = some dss ∧ D.nx (env.set i (.mat dss))
def nrm (n : Nat) (j : Int) : Nat := (if 0 ≤ j then j else j + n).toNat
/-- xss[a][b] = e -/
def wPutM (i : Nat) (ka kb e : EF) : WS := fun D env => ∃ dss r a b ds, env[i]? = some (.mat dss) ∧ e env = some r ∧ r.sh = false ∧ ka env = some (.vis (.int a)) ∧ atL dss a = some ds ∧ kb env = some (.vis (.int b)) ∧ -(ds.length : Int) ≤ b ∧ b < ds.length ∧
  D.nx (env.set i (.mat (dss.set (nrm dss.length a) (ds.set (nrm ds.length b) r.dt))))
/-- xss[k] = e, e a new list -/
def wPutR (i : Nat) (k e : EF) : WS := fun D env => ∃ dss ds j, env[i]? = some (.mat dss) ∧ e env = some (.fre (.lst ds)) ∧ k env = some (.vis (.int j)) ∧ -(dss.length : Int) ≤ j ∧ j < dss.length ∧ D.nx (env.set i (.mat (dss.set (nrm dss.length j) ds)))
def wFrz (i : Nat) (a : WS) : WS := fun D env => a D (frzS i env)
def startE (n : Nat) (ds : List Dt) : Sl := ds.map .val ++ List.replicate (n - ds.length) .non
/-- a def keeps the function F -/
def Keeps (n : Nat) (w : WS) (F : FN) : Prop := ∀ ds r, F ds = some r → w ⟨fun _ => r = .non, fun d => d = r, fun _ => False, fun _ => False⟩ (startE n ds)
end Pyl
end
section
set_option Elab.async false
set_option linter.all false
namespace Pyl
open PySem
/-! ### one step at a time: all by what the words mean -/
section
variable {env : Sl} {D : En} {a b : WS} {fa fb : EF} {ft fu : TF} {i : Nat} {d e : Dt} {x y : Int} {ds es : List Dt}
theorem wNil_at : wNil D env = D.nx env := rfl
theorem q_go (h : a { D with nx := b D } env) : wSeq a b D env := ⟨b D, h, fun _ h => h⟩
theorem wAsg_at : wAsg i fa D env = ∃ r, fa env = some r ∧ r.sh = false ∧ D.nx (env.set i r.slot) := rfl
theorem wUnp_at {is : List Nat} : wUnp is fa D env = ∃ d env', fa env = some (.vis d) ∧ gT is d env = some env' ∧ D.nx env' := rfl
theorem wRet_at : wRet fa D env = ∃ r, fa env = some r ∧ r.sh = false ∧ D.rt r.dt := rfl
theorem wRetN_at : wRetN D env = D.rt .non := rfl
theorem wIf_at : wIf ft a b D env = ∃ c, ft env = some c ∧ ((c = true → a D env) ∧ (c = false → b D env)) := rfl
theorem wDrop_at : wDrop fa D env = ∃ r, fa env = some r ∧ D.nx env := rfl
theorem wApp_at : wApp i fa D env = ∃ ds r, env[i]? = some (.own (.lst ds)) ∧ fa env = some r ∧ r.sh = false ∧ ds.length < LIM ∧ D.nx (env.set i (.own (.lst (ds ++ [r.dt])))) := rfl
theorem wPut_at : wPut i fb fa D env = ∃ ds r j, env[i]? = some (.own (.lst ds)) ∧ fa env = some r ∧ r.sh = false ∧ fb env = some (.vis (.int j)) ∧ -(ds.length : Int) ≤ j ∧ j < ds.length ∧ D.nx (env.set i (.own (.lst (ds.set (if 0 ≤ j then j else j + ds.length).toNat r.dt)))) := rfl
theorem wBrk_at : wBrk D env = D.bk env := rfl
theorem wCnt_at : wCnt D env = D.ct env := rfl
theorem wFrz_at : wFrz i a D env = a D (frzS i env) := rfl
theorem frzS_own {o : OD} (h : env[i]? = some (.own o)) : frzS i env = env.set i (.val o.dt) := by unfold frzS; rw [h]
theorem frzS_val (h : env[i]? = some (.val d)) : frzS i env = env := by unfold frzS; rw [h]
theorem frzS_at : frzS i env = match env[i]? with
  | some (.own o) => env.set i (.val o.dt)
  | some (.mat dss) => env.set i (.val (.lst (dss.map .lst)))
  | _ => env := rfl
theorem eVar_at : eVar i env = match env[i]? with
  | some (.val d) => some (.vis d)
  | some (.own (.lst ds)) => some (.bor (.lst ds))
  | _ => none := rfl
theorem eC_at : eC d env = some (.vis d) := rfl
theorem e1_at {p : Dt → Option R} : e1 p fa env = (fa env).bind fun a => p a.dt := rfl
theorem e2_at {p : Dt → Dt → Option R} : e2 p fa fb env = (fa env).bind fun a => (fb env).bind fun b => p a.dt b.dt := rfl
theorem aNil_at : aNil env = some [] := rfl
theorem aCons_at {fr : AF} : aCons fa fr env = (fa env).bind fun a => (fr env).bind fun r => some ((a.dt, a.sh) :: r) := rfl
theorem eTup_at {fr : AF} : eTup fr env = (fr env).bind fun rs => (plain rs).bind fun ds => some (.vis (.tup ds)) := rfl
theorem eLst_at {fr : AF} : eLst fr env = (fr env).bind fun rs => (plain rs).bind fun ds => some (.fre (.lst ds)) := rfl
theorem plain_nil : plain [] = some [] := rfl
theorem plain_cons {rs : List (Dt × Bool)} : plain ((d, false) :: rs) = (plain rs).map (d :: ·) := by
  unfold plain
  rw [List.any_cons, Bool.false_or, List.map_cons]
  split <;> rfl
theorem eCall_at {F : FN} {fr : AF} : eCall F fr env = (fr env).bind fun rs => (F (rs.map (·.1))).bind fun d => if rs.any (·.2) && !d.scalar then none else some (.vis d) := rfl
theorem eIf_at : eIf ft fa fb env = (ft env).bind fun t => if t then fa env else fb env := rfl
theorem eAnd_at : eAnd fa fb env = match fa env with
  | some (.vis (.bl true)) => fb env
  | some (.vis (.bl false)) => some (.vis (.bl false))
  | _ => none := rfl
theorem eOr_at : eOr fa fb env = match fa env with
  | some (.vis (.bl true)) => some (.vis (.bl true))
  | some (.vis (.bl false)) => fb env
  | _ => none := rfl
theorem eNot_at : eNot fa env = match fa env with
  | some (.vis (.bl b)) => some (.vis (.bl (!b)))
  | _ => none := rfl
theorem tVal_at : tVal fa env = match fa env with
  | some (.vis (.bl b)) => some b
  | _ => none := rfl
theorem tAnd_at : tAnd ft fu env = (ft env).bind fun t => if t then fu env else some false := rfl
theorem tOr_at : tOr ft fu env = (ft env).bind fun t => if t then some true else fu env := rfl
theorem tNot_at : tNot ft env = (ft env).bind fun t => some (!t) := rfl
theorem tYes_at : tYes env = some true := rfl
theorem pAdd_int : pAdd (.int x) (.int y) = some (.vis (.int (x + y))) := rfl
theorem pAdd_lst (h : ds.length + es.length ≤ LIM) : pAdd (.lst ds) (.lst es) = some (.fre (.lst (ds ++ es))) := if_pos h
theorem pAdd_tup (h : ds.length + es.length ≤ LIM) : pAdd (.tup ds) (.tup es) = some (.vis (.tup (ds ++ es))) := if_pos h
theorem pSub_int : pSub (.int x) (.int y) = some (.vis (.int (x - y))) := rfl
theorem pMul_int (h1 : x.natAbs < BIG) (h2 : y.natAbs < BIG) : pMul (.int x) (.int y) = some (.vis (.int (x * y))) := if_pos ⟨h1, h2⟩
theorem pDiv_int (h1 : 0 < y) (h2 : y.natAbs < DIVB) : pDiv (.int x) (.int y) = some (.vis (.int (x / y))) := by
  show (if 0 < y ∧ y.natAbs < DIVB then some (x / y) else none).map _ = _
  rw [if_pos ⟨h1, h2⟩]
  rfl
theorem pMod_int (h1 : 0 < y) : pMod (.int x) (.int y) = some (.vis (.int (x % y))) := by
  show (if 0 < y then some (x % y) else none).map _ = _
  rw [if_pos h1]
  rfl
theorem pPow_int (h1 : 0 ≤ y) (h2 : y ≤ 1000000) (h3 : x.natAbs < 2 ^ 64) : pPow (.int x) (.int y) = some (.vis (.int (x ^ y.toNat))) := by
  show (if 0 ≤ y ∧ y ≤ 1000000 ∧ x.natAbs < 2 ^ 64 then some (x ^ y.toNat) else none).map _ = _
  rw [if_pos ⟨h1, h2, h3⟩]
  rfl
theorem pShl_int (h1 : 0 ≤ y) (h2 : y ≤ 100000) (h3 : x.natAbs < BIG) : pShl (.int x) (.int y) = some (.vis (.int (x * 2 ^ y.toNat))) := by
  show (if 0 ≤ y ∧ y ≤ 100000 ∧ x.natAbs < BIG then some (x * 2 ^ y.toNat) else none).map _ = _
  rw [if_pos ⟨h1, h2, h3⟩]
  rfl
theorem pShr_int (h1 : 0 ≤ y) : pShr (.int x) (.int y) = some (.vis (.int (x / 2 ^ y.toNat))) := by
  show (if 0 ≤ y then some (x / 2 ^ y.toNat) else none).map _ = _
  rw [if_pos h1]
  rfl
theorem pXor_nat {n k : Nat} : pXor (.int (n : Int)) (.int (k : Int)) = some (.vis (.int ((n ^^^ k : Nat) : Int))) := by
  unfold pXor pIntI
  dsimp only
  rw [if_pos ⟨Int.natCast_nonneg n, Int.natCast_nonneg k⟩, Int.toNat_natCast, Int.toNat_natCast]
  rfl
theorem pAnd_nat {n k : Nat} : pAnd (.int (n : Int)) (.int (k : Int)) = some (.vis (.int ((n &&& k : Nat) : Int))) := by
  unfold pAnd pIntI
  dsimp only
  rw [if_pos ⟨Int.natCast_nonneg n, Int.natCast_nonneg k⟩, Int.toNat_natCast, Int.toNat_natCast]
  rfl
theorem pOr_nat {n k : Nat} : pOr (.int (n : Int)) (.int (k : Int)) = some (.vis (.int ((n ||| k : Nat) : Int))) := by
  unfold pOr pIntI
  dsimp only
  rw [if_pos ⟨Int.natCast_nonneg n, Int.natCast_nonneg k⟩, Int.toNat_natCast, Int.toNat_natCast]
  rfl
theorem pNeg_int : pNeg (.int x) = some (.vis (.int (-x))) := rfl
theorem pLt_int : pLt (.int x) (.int y) = some (.vis (.bl (decide (x < y)))) := rfl
theorem pLe_int : pLe (.int x) (.int y) = some (.vis (.bl (decide (x ≤ y)))) := rfl
theorem pGt_int : pGt (.int x) (.int y) = some (.vis (.bl (decide (y < x)))) := rfl
theorem pGe_int : pGe (.int x) (.int y) = some (.vis (.bl (decide (y ≤ x)))) := rfl
theorem shaped_int (x : Int) : SeqAt.shaped (.int x) = true := rfl
theorem eqD_int : eqD (.int x) (.int y) = some (decide (x = y)) := by
  show (if SeqAt.shaped (.int x) && SeqAt.shaped (.int y) then some (PyData.eqv (.int x) (.int y)) else none) = _
  rw [shaped_int, shaped_int]
  show some (x == y) = _
  by_cases h : x = y <;> simp [h]
theorem pEq_int : pEq (.int x) (.int y) = some (.vis (.bl (decide (x = y)))) := by unfold pEq; rw [eqD_int]; rfl
theorem pNe_int : pNe (.int x) (.int y) = some (.vis (.bl (!decide (x = y)))) := by unfold pNe; rw [eqD_int]; rfl
theorem pIsN_at : pIsN d = some (.vis (.bl d.isNon)) := rfl
theorem pNotN_at : pNotN d = some (.vis (.bl (!d.isNon))) := rfl
theorem pIx_lst : pIx (.lst ds) (.int x) = (atL ds x).map .vis := rfl
theorem pIx_tup : pIx (.tup ds) (.int x) = (atL ds x).map .vis := rfl
theorem atL_nat {α : Type} {l : List α} {n : Nat} : atL l (n : Int) = l[n]? := by
  unfold atL
  rw [if_pos (Int.natCast_nonneg n), Int.toNat_natCast]
theorem atL_of_get {α : Type} {l : List α} {z : Int} {v : α} (h0 : 0 ≤ z) (h : l[z.toNat]? = some v) : atL l z = some v := by
  unfold atL
  rw [if_pos h0, h]
theorem atL_zero {α : Type} {a : α} {l : List α} : atL (a :: l) 0 = some a := rfl
theorem atL_last {α : Type} {a : α} {l : List α} : atL (l ++ [a]) (-1) = some a := by
  unfold atL
  rw [if_neg (by decide), if_pos (by rw [List.length_append, List.length_singleton]; omega)]
  rw [show (-1 + ((l ++ [a]).length : Int)).toNat = l.length by rw [List.length_append, List.length_singleton]; omega]
  rw [List.getElem?_append_right (Nat.le_refl _), Nat.sub_self]
  rfl
theorem oNone_at : oNone env = some none := rfl
theorem oSome_at : oSome fa env = match fa env with
  | some (.vis (.int i)) => some (some i)
  | _ => none := rfl
theorem eSlice_at {lo hi : OF} : eSlice fa lo hi env = (fa env).bind fun a => (lo env).bind fun l => (hi env).bind fun h => match a.dt with
  | .lst ds => some (.fre (.lst (cutD ds l h)))
  | .tup ds => some (.vis (.tup (cutD ds l h)))
  | _ => none := rfl
theorem pLen_lst : pLen (.lst ds) = some (.vis (.int ds.length)) := rfl
theorem pLen_tup : pLen (.tup ds) = some (.vis (.int ds.length)) := rfl
theorem pInt_int : pInt (.int x) = some (.vis (.int x)) := rfl
theorem pInt_bl {t : Bool} : pInt (.bl t) = some (.vis (.int (if t then 1 else 0))) := rfl
theorem pAbs_int : pAbs (.int x) = some (.vis (.int (if x < 0 then -x else x))) := rfl
theorem pSum_lst {ns : List Int} (h : intsOf ds = some ns) : pSum (.lst ds) = some (.vis (.int ns.sum)) := by
  show (intsOf ds).map _ = _
  rw [h]
  rfl
theorem intsOf_ints : ∀ ns : List Int, intsOf (ns.map Dt.int) = some ns
  | [] => rfl
  | n :: ns => by
    rw [List.map_cons]
    unfold intsOf
    rw [intsOf_ints ns]
    rfl
theorem pSum_ints {ns : List Int} : pSum (.lst (ns.map .int)) = some (.vis (.int ns.sum)) := pSum_lst (intsOf_ints ns)
theorem pMax2_int : pMax2 (.int x) (.int y) = some (.vis (.int (if y > x then y else x))) := rfl
theorem pMin2_int : pMin2 (.int x) (.int y) = some (.vis (.int (if y < x then y else x))) := rfl
theorem pList_lst : pList (.lst ds) = some (.fre (.lst ds)) := rfl
theorem pList_tup : pList (.tup ds) = some (.fre (.lst ds)) := rfl
theorem pTuple_lst : pTuple (.lst ds) = some (.vis (.tup ds)) := rfl
theorem pTuple_tup : pTuple (.tup ds) = some (.vis (.tup ds)) := rfl
theorem iSeq_at : iSeq fa env = (fa env).bind fun a => match a.dt with
  | .lst ds => some (ds, a.sh)
  | .tup ds => some (ds, a.sh)
  | _ => none := rfl
theorem iRange1_at : iRange1 fa env = match fa env with
  | some (.vis (.int n)) => if n < 4611686018427387904 ∧ -4611686018427387904 ≤ n then some (rngD 0 n.toNat, false) else none
  | _ => none := rfl
theorem eChain_at {p q : Dt → Dt → Option R} {fc : EF} : eChain p q fa fb fc env = (fa env).bind fun a => (fb env).bind fun b => match p a.dt b.dt with
  | some (.vis (.bl true)) => (fc env).bind fun c => q b.dt c.dt
  | some (.vis (.bl false)) => some (.vis (.bl false))
  | _ => none := rfl
theorem pGcd_int : pGcd (.int x) (.int y) = some (.vis (.int (Nat.gcd x.natAbs y.natAbs : Nat))) := rfl
theorem pComb_nat {n k : Nat} (h : n ≤ 9000) : pComb (.int (n : Int)) (.int (k : Int)) = some (.vis (.int (chooseN n k : Nat))) := by
  show (if 0 ≤ (n : Int) ∧ (n : Int) ≤ 9000 ∧ 0 ≤ (k : Int) then some (R.vis (.int (chooseN (n : Int).toNat (k : Int).toNat : Nat))) else none) = _
  rw [if_pos ⟨by omega, by omega, by omega⟩, Int.toNat_natCast, Int.toNat_natCast]
/-- a chain of two comparisons of ints -/
theorem chain_le {fc : EF} {z : Int} (h1 : fa env = some (.vis (.int x))) (h2 : fb env = some (.vis (.int y))) (h3 : fc env = some (.vis (.int z))) : eChain pLe pLe fa fb fc env = some (.vis (.bl (decide (x ≤ y ∧ y ≤ z)))) := by
  rw [eChain_at, h1, h2, h3]
  show (match pLe (.int x) (.int y) with
    | some (.vis (.bl true)) => pLe (.int y) (.int z)
    | some (.vis (.bl false)) => some (.vis (.bl false))
    | _ => none) = _
  rw [pLe_int, pLe_int]
  by_cases h : x ≤ y <;> simp [h]
theorem rng1 {n : Int} (h : fa env = some (.vis (.int n))) (h1 : n < 4611686018427387904) (h2 : -4611686018427387904 ≤ n := by omega) : iRange1 fa env = some (rngD 0 n.toNat, false) := by
  rw [iRange1_at, h]
  exact if_pos ⟨h1, h2⟩
theorem rng2 {lo hi : Int} (h : fa env = some (.vis (.int lo))) (h' : fb env = some (.vis (.int hi))) (h1 : -4611686018427387904 ≤ lo ∧ lo < 4611686018427387904 ∧ -4611686018427387904 ≤ hi ∧ hi < 4611686018427387904 := by omega) : iRange2 fa fb env = some (rngD lo (hi - lo).toNat, false) := by
  show (fa env).bind _ = _
  rw [h]
  show (fb env).bind _ = _
  rw [h']
  exact if_pos h1
theorem rng3 {fc : EF} {i j k : Int} {n : Nat} (h1 : fa env = some (.vis (.int i))) (h2 : fb env = some (.vis (.int j))) (h3 : fc env = some (.vis (.int k))) (hn : stepN i j k = n) (hk : (0 < k ∧ k < 1073741824) ∨ k = -1) (hb : (-1099511627776 ≤ i ∧ i ≤ 1099511627776) ∧ -1099511627776 ≤ j ∧ j ≤ 1099511627776 := by omega) : iRange3 fa fb fc env = some (stepD i k n, false) := by
  show (fa env).bind _ = _
  rw [h1]
  show (fb env).bind _ = _
  rw [h2]
  show (fc env).bind _ = _
  rw [h3, ← hn]
  exact if_pos ⟨hk, hb⟩
theorem stepD_len (a c : Int) (n : Nat) : (stepD a c n).length = n := by
  unfold stepD
  rw [List.length_map, List.length_range]
theorem stepD_at {a c : Int} {n j : Nat} {v : Dt} (h : (stepD a c n)[j]? = some v) : j < n ∧ v = .int (a + (j : Int) * c) := by
  unfold stepD at h
  rw [List.getElem?_map] at h
  cases hj : (List.range n)[j]? with
  | none => rw [hj] at h; cases h
  | some k =>
    rw [hj] at h
    have hl := (List.getElem?_eq_some_iff.mp hj).1
    rw [List.length_range] at hl
    rw [List.getElem?_range hl] at hj
    cases hj
    cases h
    exact ⟨hl, rfl⟩
theorem rngD_at {lo : Int} {n j : Nat} {v : Dt} (h : (rngD lo n)[j]? = some v) : j < n ∧ v = .int (lo + (j : Int)) := by
  unfold rngD at h
  rw [List.getElem?_map] at h
  cases hj : (List.range n)[j]? with
  | none => rw [hj] at h; cases h
  | some k =>
    rw [hj] at h
    have hl := (List.getElem?_eq_some_iff.mp hj).1
    rw [List.length_range] at hl
    rw [List.getElem?_range hl] at hj
    cases hj
    cases h
    exact ⟨hl, rfl⟩
theorem rngD_len (lo : Int) (n : Nat) : (rngD lo n).length = n := by
  unfold rngD
  rw [List.length_map, List.length_range]
theorem gN_at : gN i d env = some (env.set i (.val d)) := rfl
theorem gT_at {is : List Nat} : gT is (.tup ds) env = gsN is ds env := rfl
theorem gT_lst {is : List Nat} : gT is (.lst ds) env = gsN is ds env := rfl
theorem gsN_cons {is : List Nat} : gsN (i :: is) (d :: ds) env = gsN is ds (env.set i (.val d)) := rfl
theorem gsN_nil : gsN [] [] env = some env := rfl
theorem wipeS_cons {is : List Nat} : wipeS env (i :: is) = (wipeS env is).set i .non := rfl
theorem wipeS_nil : wipeS env [] = env := rfl
theorem compG_at {own : List Nat} {g : GF} : compG env own g ft fa d = (g d (wipeS env own)).bind fun env' => (ft env').bind fun b => if b then (fa env').bind fun r => if r.sh then none else some [r.dt] else some [] := rfl
theorem eComp_of {own : List Nat} {fi : IF} {g : GF} {s : Bool} {out : List Dt} (h : fi env = some (ds, s)) (hl : ds.length ≤ LIM) (hc : compL (compG env own g ft fa) ds = some out) : eComp own fi g ft fa env = some (.fre (.lst out)) := by
  show (fi env).bind _ = _
  rw [h]
  show (compL _ ds).bind _ = _
  rw [hc]
  exact if_pos hl
end
/-! ### comprehensions -/
theorem compL_flat {g : Dt → Option (List Dt)} {k : Dt → List Dt} : ∀ {ds : List Dt}, (∀ d ∈ ds, g d = some (k d)) → compL g ds = some (ds.flatMap k)
  | [], _ => rfl
  | d :: ds, h => by
    show (g d).bind _ = _
    rw [h d List.mem_cons_self]
    show (compL g ds).bind _ = _
    rw [compL_flat fun e he => h e (List.mem_cons_of_mem _ he), List.flatMap_cons]
    rfl
/-- the items typed, each gives one item -/
theorem compL_map {α β : Type} {g : Dt → Option (List Dt)} {u : α → Dt} {v : β → Dt} {f : α → β} : ∀ {xs : List α}, (∀ x ∈ xs, g (u x) = some [v (f x)]) → compL g (xs.map u) = some ((xs.map f).map v)
  | [], _ => rfl
  | x :: xs, h => by
    rw [List.map_cons, List.map_cons, List.map_cons]
    show (g (u x)).bind _ = _
    rw [h x List.mem_cons_self]
    show (compL g (xs.map u)).bind _ = _
    rw [compL_map fun y hy => h y (List.mem_cons_of_mem _ hy)]
    rfl
theorem compL_filter {α β : Type} {g : Dt → Option (List Dt)} {u : α → Dt} {v : β → Dt} {p : α → Bool} {f : α → β} : ∀ {xs : List α}, (∀ x ∈ xs, g (u x) = some (if p x then [v (f x)] else [])) → compL g (xs.map u) = some (((xs.filter p).map f).map v)
  | [], _ => rfl
  | x :: xs, h => by
    rw [List.map_cons]
    show (g (u x)).bind _ = _
    rw [h x List.mem_cons_self]
    show (compL g (xs.map u)).bind _ = _
    rw [compL_filter fun y hy => h y (List.mem_cons_of_mem _ hy), List.filter_cons]
    cases p x <;> rfl
/-- by places -/
theorem compL_ix {g : Dt → Option (List Dt)} : ∀ {ds out : List Dt}, ds.length = out.length → (∀ (i : Nat) d o, ds[i]? = some d → out[i]? = some o → g d = some [o]) → compL g ds = some out
  | [], [], _, _ => rfl
  | [], _ :: _, h, _ => by cases h
  | _ :: _, [], h, _ => by cases h
  | d :: ds, o :: out, hl, h => by
    show (g d).bind _ = _
    rw [h 0 d o rfl rfl]
    show (compL g ds).bind _ = _
    rw [compL_ix (by simpa using hl) fun i d' o' h1 h2 => h (i + 1) d' o' h1 h2]
    rfl
/-! ### functions told by what they give -/
/-- the end in which just r is returned -/
def endR (r : Dt) : En := ⟨fun _ => r = .non, fun d => d = r, fun _ => False, fun _ => False⟩
open Classical in
noncomputable def autoF (n : Nat) (w : WS) (P : List Dt → Dt → Prop) : FN := fun ds => if h : ∃ r, P ds r ∧ w (endR r) (startE n ds) then some (choose h) else none
theorem auto_spec {n : Nat} {w : WS} {P : List Dt → Dt → Prop} {ds : List Dt} {r : Dt} (h : autoF n w P ds = some r) : P ds r ∧ w (endR r) (startE n ds) := by
  unfold autoF at h
  split at h
  · rename_i hk
    cases h
    exact Classical.choose_spec hk
  · cases h
theorem auto_keeps {n : Nat} {w : WS} {P : List Dt → Dt → Prop} : Keeps n w (autoF n w P) := fun ds r h => (auto_spec h).2
theorem auto_at {n : Nat} {w : WS} {P : List Dt → Dt → Prop} {ds : List Dt} (h : ∃ r, P ds r ∧ w (endR r) (startE n ds)) : ∃ r, autoF n w P ds = some r ∧ P ds r := by
  unfold autoF
  rw [dif_pos h]
  exact ⟨_, rfl, (Classical.choose_spec h).1⟩
/-! ### loops -/
theorem wFor_of {fi : IF} {g : GF} {b : WS} {D : En} {env : Sl} {ds : List Dt} (I : Nat → Sl → Prop) (h : fi env = some (ds, false)) (h0 : I 0 env)
    (hs : ∀ i env d, ds[i]? = some d → I i env → ∃ env', g d env = some env' ∧ b { D with nx := I (i + 1), bk := D.nx, ct := I (i + 1) } env') (hd : ∀ env, I ds.length env → D.nx env) : wFor fi g b D env := ⟨ds, h, I, h0, hs, hd⟩
/-- over typed items -/
theorem wFor_map {α : Type} {u : α → Dt} {xs : List α} {fi : IF} {g : GF} {b : WS} {D : En} {env : Sl} (I : Nat → Sl → Prop) (h : fi env = some (xs.map u, false)) (h0 : I 0 env)
    (hs : ∀ i env x, xs[i]? = some x → I i env → ∃ env', g (u x) env = some env' ∧ b { D with nx := I (i + 1), bk := D.nx, ct := I (i + 1) } env') (hd : ∀ env, I xs.length env → D.nx env) : wFor fi g b D env := by
  refine ⟨_, h, I, h0, fun i env d hi inv => ?_, fun env inv => hd env (by rw [List.length_map] at inv; exact inv)⟩
  rw [List.getElem?_map] at hi
  cases hx : xs[i]? with
  | none => rw [hx] at hi; cases hi
  | some x =>
    rw [hx] at hi
    cases hi
    exact hs i env x hx inv
theorem wFor_rng {lo : Int} {n : Nat} {fi : IF} {g : GF} {b : WS} {D : En} {env : Sl} (I : Nat → Sl → Prop) (h : fi env = some (rngD lo n, false)) (h0 : I 0 env)
    (hs : ∀ i env, i < n → I i env → ∃ env', g (.int (lo + (i : Int))) env = some env' ∧ b { D with nx := I (i + 1), bk := D.nx, ct := I (i + 1) } env') (hd : ∀ env, I n env → D.nx env) : wFor fi g b D env := by
  refine ⟨_, h, I, h0, fun i env d hi inv => ?_, fun env inv => hd env (by rw [rngD_len] at inv; exact inv)⟩
  obtain ⟨hl, rfl⟩ := rngD_at hi
  exact hs i env hl inv
theorem wWhile_of {t : TF} {b : WS} {D : En} {env : Sl} (I : Nat → Sl → Prop) (m : Nat) (h0 : I m env)
    (hs : ∀ m env, I m env → ∃ c, t env = some c ∧ ((c = true → b { D with nx := fun e => ∃ m', m' < m ∧ I m' e, bk := D.nx, ct := fun e => ∃ m', m' < m ∧ I m' e } env) ∧ (c = false → D.nx env))) : wWhile t b D env := ⟨I, ⟨m, h0⟩, hs⟩
/-! ### sizes -/
theorem big_of {x : Int} {n : Nat} (h : x.natAbs < 2 ^ n) (hn : n ≤ 400000) : x.natAbs < BIG := by
  rw [BIG_eq]
  exact Nat.lt_of_lt_of_le h (Nat.pow_le_pow_right (by decide) hn)
theorem big64 {x : Int} (h1 : -18446744073709551616 < x) (h2 : x < 18446744073709551616) : x.natAbs < BIG := big_of (n := 64) (by omega) (by decide)
theorem div64 {x : Int} (h0 : 0 < x) (h2 : x < 18446744073709551616) : x.natAbs < DIVB := by
  rw [DIVB_eq]
  exact Nat.lt_of_lt_of_le (show x.natAbs < 2 ^ 64 by omega) (Nat.pow_le_pow_right (by decide) (by decide))
theorem lim_of {n : Nat} (h : n ≤ 4000000) : n ≤ LIM := Nat.le_trans h (by decide)
theorem lim_lt {n : Nat} (h : n < 4000000) : n < LIM := Nat.lt_of_lt_of_le h (by decide)
/-! ### results -/
theorem dt_vis {d : Dt} : (R.vis d).dt = d := rfl
theorem dt_bor {d : Dt} : (R.bor d).dt = d := rfl
theorem dt_fre {ds : List Dt} : (R.fre (.lst ds)).dt = .lst ds := rfl
theorem sh_vis {d : Dt} : (R.vis d).sh = false := rfl
theorem sh_bor {d : Dt} : (R.bor d).sh = true := rfl
theorem sh_fre {o : OD} : (R.fre o).sh = false := rfl
theorem slot_vis {d : Dt} : (R.vis d).slot = .val d := rfl
theorem slot_fre {o : OD} : (R.fre o).slot = .own o := rfl
theorem od_dt {ds : List Dt} : (OD.lst ds).dt = .lst ds := rfl
theorem isNon_non : Dt.non.isNon = true := rfl
theorem isNon_int {i : Int} : (Dt.int i).isNon = false := rfl
theorem isNon_lst {ds : List Dt} : (Dt.lst ds).isNon = false := rfl
theorem isNon_tup {ds : List Dt} : (Dt.tup ds).isNon = false := rfl
theorem scalar_int {i : Int} : (Dt.int i).scalar = true := rfl
theorem scalar_bl {i : Bool} : (Dt.bl i).scalar = true := rfl
theorem scalar_non : Dt.non.scalar = true := rfl
/-! ### a statement and the rest -/
section
variable {env env' : Sl} {D : En} {a b rest : WS} {fa fb : EF} {ft fu : TF} {i : Nat} {r : R} {ds : List Dt} {c : Bool}
theorem q_asg (h : fa env = some r) (hs : r.sh = false) (he : env.set i r.slot = env') (k : rest D env') : wSeq (wAsg i fa) rest D env := q_go ⟨r, h, hs, by rw [he]; exact k⟩
theorem s_asg (h : fa env = some r) (hs : r.sh = false) (he : env.set i r.slot = env') (k : D.nx env') : wAsg i fa D env := ⟨r, h, hs, by rw [he]; exact k⟩
theorem s_ret {d : Dt} (h : fa env = some r) (hs : r.sh = false) (hd : r.dt = d) (k : D.rt d) : wRet fa D env := ⟨r, h, hs, by rw [hd]; exact k⟩
theorem q_ret {d : Dt} (h : fa env = some r) (hs : r.sh = false) (hd : r.dt = d) (k : D.rt d) : wSeq (wRet fa) rest D env := q_go ⟨r, h, hs, by rw [hd]; exact k⟩
theorem q_if (h : ft env = some c) (h1 : c = true → a { D with nx := rest D } env) (h2 : c = false → b { D with nx := rest D } env) : wSeq (wIf ft a b) rest D env := q_go ⟨c, h, h1, h2⟩
theorem s_if (h : ft env = some c) (h1 : c = true → a D env) (h2 : c = false → b D env) : wIf ft a b D env := ⟨c, h, h1, h2⟩
/-- by a test of Lean's -/
theorem q_ifD {p : Prop} [Decidable p] (h : ft env = some (decide p)) (h1 : p → a { D with nx := rest D } env) (h2 : ¬ p → b { D with nx := rest D } env) : wSeq (wIf ft a b) rest D env := q_go ⟨_, h, fun e => h1 (of_decide_eq_true e), fun e => h2 (of_decide_eq_false e)⟩
theorem s_ifD {p : Prop} [Decidable p] (h : ft env = some (decide p)) (h1 : p → a D env) (h2 : ¬ p → b D env) : wIf ft a b D env := ⟨_, h, fun e => h1 (of_decide_eq_true e), fun e => h2 (of_decide_eq_false e)⟩
/-- if c: x = e, x known: told by one value -/
theorem q_ifAsg {p : Prop} [Decidable p] {d d1 : Dt} (h : ft env = some (decide p)) (h1 : p → fa env = some (.vis d1)) (h2 : ¬ p → env[i]? = some (.val d)) (k : ∀ d2, d2 = (if p then d1 else d) → rest D (env.set i (.val d2))) : wSeq (wIf ft (wAsg i fa) wNil) rest D env := by
  refine q_ifD h (fun hp => ⟨_, h1 hp, rfl, k d1 (if_pos hp).symm⟩) (fun hp => ?_)
  have q := k d (if_neg hp).symm
  have e : env.set i (.val d) = env := by
    have z := h2 hp
    obtain ⟨hl, hz⟩ := List.getElem?_eq_some_iff.mp z
    rw [← hz, List.set_getElem_self]
  rw [e] at q
  exact q
/-- if c: x = e, of ints: one value -/
theorem q_ifI {p : Prop} [Decidable p] {x y : Int} (h : ft env = some (decide p)) (h1 : p → fa env = some (.vis (.int x))) (h2 : env[i]? = some (.val (.int y))) (k : rest D (env.set i (.val (.int (if p then x else y))))) : wSeq (wIf ft (wAsg i fa) wNil) rest D env :=
  q_ifAsg (d := .int y) (d1 := .int x) h h1 (fun _ => h2) fun d2 e => by
    have e2 : d2 = .int (if p then x else y) := by
      rw [e]
      split <;> rfl
    rw [e2]
    exact k
theorem q_unp {is : List Nat} {d : Dt} (h : fa env = some (.vis d)) (he : gT is d env = some env') (k : rest D env') : wSeq (wUnp is fa) rest D env := q_go ⟨d, env', h, he, k⟩
theorem q_app {d : Dt} (h0 : env[i]? = some (.own (.lst ds))) (h : fa env = some r) (hs : r.sh = false) (hl : ds.length < LIM) (hd : r.dt = d) (he : env.set i (.own (.lst (ds ++ [d]))) = env') (k : rest D env') : wSeq (wApp i fa) rest D env := q_go ⟨ds, r, h0, h, hs, hl, by rw [hd, he]; exact k⟩
theorem s_app {d : Dt} (h0 : env[i]? = some (.own (.lst ds))) (h : fa env = some r) (hs : r.sh = false) (hl : ds.length < LIM) (hd : r.dt = d) (he : env.set i (.own (.lst (ds ++ [d]))) = env') (k : D.nx env') : wApp i fa D env := ⟨ds, r, h0, h, hs, hl, by rw [hd, he]; exact k⟩
theorem q_nil (k : rest D env) : wSeq wNil rest D env := q_go k
theorem s_nil (k : D.nx env) : wNil D env := k
theorem q_frz {o : OD} (h : env[i]? = some (.own o)) (he : env.set i (.val o.dt) = env') (k : a D env') : wFrz i a D env := by
  show a D (frzS i env)
  rw [frzS_own h, he]
  exact k
theorem q_frz0 {d : Dt} (h : env[i]? = some (.val d)) (k : a D env) : wFrz i a D env := by
  show a D (frzS i env)
  rw [frzS_val h]
  exact k
theorem q_cut (M : Sl → Prop) (h : a { D with nx := M } env) (k : ∀ e, M e → rest D e) : wSeq a rest D env := ⟨M, h, k⟩
theorem q_forMap {α : Type} {u : α → Dt} {xs : List α} {fi : IF} {g : GF} (I : Nat → Sl → Prop) (h : fi env = some (xs.map u, false)) (h0 : I 0 env)
    (hs : ∀ i env x, xs[i]? = some x → I i env → ∃ env', g (u x) env = some env' ∧ b { D with nx := I (i + 1), bk := rest D, ct := I (i + 1) } env') (hd : ∀ env, I xs.length env → rest D env) : wSeq (wFor fi g b) rest D env :=
  q_go <| wFor_map (D := { D with nx := rest D }) I h h0 hs hd
theorem q_forRng {lo : Int} {n : Nat} {fi : IF} {g : GF} (I : Nat → Sl → Prop) (h : fi env = some (rngD lo n, false)) (h0 : I 0 env)
    (hs : ∀ i env, i < n → I i env → ∃ env', g (.int (lo + (i : Int))) env = some env' ∧ b { D with nx := I (i + 1), bk := rest D, ct := I (i + 1) } env') (hd : ∀ env, I n env → rest D env) : wSeq (wFor fi g b) rest D env :=
  q_go <| wFor_rng (D := { D with nx := rest D }) I h h0 hs hd
theorem q_for {fi : IF} {g : GF} (I : Nat → Sl → Prop) (h : fi env = some (ds, false)) (h0 : I 0 env)
    (hs : ∀ i env d, ds[i]? = some d → I i env → ∃ env', g d env = some env' ∧ b { D with nx := I (i + 1), bk := rest D, ct := I (i + 1) } env') (hd : ∀ env, I ds.length env → rest D env) : wSeq (wFor fi g b) rest D env :=
  q_go <| wFor_of (D := { D with nx := rest D }) I h h0 hs hd
theorem q_forStep {lo c : Int} {n : Nat} {fi : IF} {g : GF} (I : Nat → Sl → Prop) (h : fi env = some (stepD lo c n, false)) (h0 : I 0 env)
    (hs : ∀ i env, i < n → I i env → ∃ env', g (.int (lo + (i : Int) * c)) env = some env' ∧ b { D with nx := I (i + 1), bk := rest D, ct := I (i + 1) } env') (hd : ∀ env, I n env → rest D env) : wSeq (wFor fi g b) rest D env := by
  refine q_go ⟨_, h, I, h0, fun i env d hi inv => ?_, fun env inv => hd env (by rw [stepD_len] at inv; exact inv)⟩
  obtain ⟨hl, rfl⟩ := stepD_at hi
  exact hs i env hl inv
theorem q_while (I : Nat → Sl → Prop) (m : Nat) (h0 : I m env)
    (hs : ∀ m env, I m env → ∃ c, ft env = some c ∧ ((c = true → b { D with nx := fun e => ∃ m', m' < m ∧ I m' e, bk := rest D, ct := fun e => ∃ m', m' < m ∧ I m' e } env) ∧ (c = false → rest D env))) : wSeq (wWhile ft b) rest D env :=
  q_go <| wWhile_of (D := { D with nx := rest D }) I m h0 hs
end

/-! ### lists of lists, looks, keywords, sorted -/
section
variable {env env' : Sl} {D : En} {rest : WS} {fa fb fc fe : EF} {ft : TF} {i : Nat} {a b : AF}
theorem aApp_at : aApp a b env = (a env).bind fun x => (b env).bind fun y => some (x ++ y) := rfl
theorem aDfl_at {dd : List Dt} : aDfl dd env = some (dd.map fun d => (d, false)) := rfl
theorem eLook_vis {d : Dt} (h : fe (frzAll env) = some (.vis d)) (hs : d.scalar = true) : eLook fe env = some (.vis d) := by
  unfold eLook
  rw [h]
  exact if_pos hs
theorem eLook_int {x : Int} (h : fe (frzAll env) = some (.vis (.int x))) : eLook fe env = some (.vis (.int x)) := eLook_vis h rfl
theorem ints_scalar (ns : List Int) : (ns.map Dt.int).all Dt.scalar = true := by
  rw [List.all_map, List.all_eq_true]
  intro x _
  rfl
theorem eLook_ints {ns : List Int} (h : fe (frzAll env) = some (.fre (.lst (ns.map .int)))) : eLook fe env = some (.fre (.lst (ns.map .int))) := by
  unfold eLook
  rw [h]
  exact if_pos (ints_scalar ns)
theorem tLook_at : tLook ft env = ft (frzAll env) := rfl
theorem frzAll_cons {s : Slot} : frzAll (s :: env) = s.frz :: frzAll env := rfl
theorem frzAll_nil : frzAll [] = [] := rfl
theorem frz_val {d : Dt} : (Slot.val d).frz = .val d := rfl
theorem frz_own {o : OD} : (Slot.own o).frz = .val o.dt := rfl
theorem frz_mat {m : List (List Dt)} : (Slot.mat m).frz = .val (.lst (m.map .lst)) := rfl
theorem frz_non : Slot.non.frz = .non := rfl
theorem pLcm_int {x y : Int} (h1 : x.natAbs < LCMB) (h2 : y.natAbs < LCMB) : pLcm (.int x) (.int y) = some (.vis (.int (Nat.lcm x.natAbs y.natAbs : Nat))) := if_pos ⟨h1, h2⟩
theorem lcm_of {x : Int} {n : Nat} (h : x.natAbs < 2 ^ n) (hn : n ≤ 13000) : x.natAbs < LCMB := by
  rw [LCMB_eq]
  exact Nat.lt_of_lt_of_le h (Nat.pow_le_pow_right (by decide) hn)
theorem pSorted_ints {ns : List Int} : pSorted (.lst (ns.map .int)) = some (.fre (.lst ((ns.mergeSort fun a b => decide (a ≤ b)).map .int))) := by
  unfold pSorted
  dsimp only
  rw [intsOf_ints]
theorem intPairs_pairs : ∀ ps : List (Int × Int), intPairs (ps.map pairD) = some ps
  | [] => rfl
  | p :: ps => by
    show (intPairs (ps.map pairD)).map _ = _
    rw [intPairs_pairs ps]
    rfl
theorem pSorted_pairs {ps : List (Int × Int)} (h : ps ≠ []) : pSorted (.lst (ps.map pairD)) = some (.fre (.lst ((ps.mergeSort lexLe).map pairD))) := by
  have e : intsOf (ps.map pairD) = none := by
    cases ps with
    | nil => exact absurd rfl h
    | cons p ps => rfl
  unfold pSorted
  dsimp only
  rw [e]
  show (intPairs (ps.map pairD)).map _ = _
  rw [intPairs_pairs]
  rfl
theorem q_asgM {m : MF} {dss : List (List Dt)} (h : m env = some dss) (he : env.set i (.mat dss) = env') (k : rest D env') : wSeq (wAsgM i m) rest D env := q_go ⟨dss, h, by rw [he]; exact k⟩
theorem s_asgM {m : MF} {dss : List (List Dt)} (h : m env = some dss) (he : env.set i (.mat dss) = env') (k : D.nx env') : wAsgM i m D env := ⟨dss, h, by rw [he]; exact k⟩
/-- a list of lists of ints that a name holds -/
def mat (m : List (List Int)) : Slot := .mat (m.map fun r => r.map .int)
theorem frz_matI {m : List (List Int)} : (mat m).frz = .val (.lst (m.map fun r => .lst (r.map .int))) := by
  show Slot.val (.lst ((m.map fun r => r.map Dt.int).map .lst)) = _
  rw [List.map_map]
  rfl
theorem s_putM {m : List (List Int)} {x a b : Int} {r : List Int} (h0 : env[i]? = some (mat m)) (h : fc env = some (.vis (.int x))) (ha : fa env = some (.vis (.int a))) (hr : atL m a = some r) (hb : fb env = some (.vis (.int b))) (b0 : 0 ≤ b) (b1 : b < r.length)
    (he : env.set i (mat (m.set (nrm m.length a) (r.set b.toNat x))) = env') (k : D.nx env') : wPutM i fa fb fc D env := by
  have hr' : atL (m.map fun r => r.map Dt.int) a = some (r.map .int) := by
    unfold atL at hr ⊢
    rw [List.length_map]
    split at hr
    · rename_i h
      rw [if_pos h, List.getElem?_map, hr]; rfl
    · rename_i h
      rw [if_neg h]
      split at hr
      · rename_i h2
        rw [if_pos h2, List.getElem?_map, hr]; rfl
      · cases hr
  refine ⟨_, .vis (.int x), a, b, r.map .int, h0, h, rfl, ha, hr', hb, by rw [List.length_map]; omega, by rw [List.length_map]; exact b1, ?_⟩
  have e : (m.map fun r => r.map Dt.int).set (nrm (m.map fun r => r.map Dt.int).length a) ((r.map Dt.int).set (nrm (r.map Dt.int).length b) (R.vis (.int x)).dt) = (m.set (nrm m.length a) (r.set b.toNat x)).map fun r => r.map .int := by
    rw [List.length_map, List.map_set, List.map_set]
    have : nrm (r.map Dt.int).length b = b.toNat := by unfold nrm; rw [if_pos b0]
    rw [this]
    rfl
  rw [e]
  show D.nx (env.set i (mat _))
  rw [he]
  exact k
theorem q_putR {m : List (List Int)} {j : Int} {r : List Int} (h0 : env[i]? = some (mat m)) (h : fe env = some (.fre (.lst (r.map .int)))) (hk : fa env = some (.vis (.int j))) (j0 : 0 ≤ j) (j1 : j < m.length) (he : env.set i (mat (m.set j.toNat r)) = env') (k : rest D env') : wSeq (wPutR i fa fe) rest D env := by
  refine q_go ⟨_, r.map .int, j, h0, h, hk, by rw [List.length_map]; omega, by rw [List.length_map]; exact j1, ?_⟩
  have e : (m.map fun r => r.map Dt.int).set (nrm (m.map fun r => r.map Dt.int).length j) (r.map .int) = (m.set j.toNat r).map fun r => r.map .int := by
    rw [List.map_set]
    have : nrm (m.map fun r => r.map Dt.int).length j = j.toNat := by unfold nrm; rw [if_pos j0]
    rw [this]
  rw [e]
  show rest D (env.set i (mat _))
  rw [he]
  exact k
theorem q_frzM {m : List (List Int)} {w : WS} (h : env[i]? = some (mat m)) (he : env.set i (.val (.lst (m.map fun r => .lst (r.map .int)))) = env') (k : w D env') : wFrz i w D env := by
  show w D (frzS i env)
  unfold frzS
  rw [h]
  show w D (env.set i (.val (.lst ((m.map fun r => r.map Dt.int).map .lst))))
  rw [List.map_map]
  show w D (env.set i (.val (.lst (m.map fun r => .lst (r.map .int)))))
  rw [he]
  exact k
/-- a list of lists made by places -/
theorem mComp_ix {own : List Nat} {fi : IF} {g : GF} {ds : List Dt} {s : Bool} {m : List (List Int)} (h : fi env = some (ds, s)) (hl : ds.length ≤ LIM) (hm : ds.length = m.length)
    (hc : ∀ (j : Nat) d r, ds[j]? = some d → m[j]? = some r → ∃ env', g d (wipeS env own) = some env' ∧ fe env' = some (.fre (.lst (r.map .int)))) : mComp own fi g fe env = some (m.map fun r => r.map .int) := by
  show (fi env).bind _ = _
  rw [h]
  show (if ds.length ≤ LIM then _ else _) = _
  rw [if_pos hl]
  clear h hl
  induction ds generalizing m with
  | nil =>
    cases m with
    | nil => rfl
    | cons r m => cases hm
  | cons d ds ih =>
    cases m with
    | nil => cases hm
    | cons r m =>
      obtain ⟨env', h1, h2⟩ := hc 0 d r rfl rfl
      unfold compM
      rw [h1]
      show (freL (fe env')).bind _ = _
      rw [h2]
      show (compM _ ds).bind _ = _
      rw [ih (by simpa using hm) fun j d' r' e1 e2 => hc (j + 1) d' r' (by simpa using e1) (by simpa using e2)]
      rfl
end
end Pyl
end
section
set_option Elab.async false
set_option linter.all false
namespace Pyl
open PySem
/-! ### one end: what is promised of all ends is promised of one -/
inductive Out where
  | nx (e : Sl) | rt (d : Dt) | bk (e : Sl) | ct (e : Sl)
def Out.ok (D : En) : Out → Prop
  | .nx e => D.nx e
  | .rt d => D.rt d
  | .bk e => D.bk e
  | .ct e => D.ct e
def One (o : Out) : En := ⟨fun e => o = .nx e, fun d => o = .rt d, fun e => o = .bk e, fun e => o = .ct e⟩
/-- D' asks no more than D -/
structure Le (D D' : En) : Prop where
  nx : ∀ e, D.nx e → D'.nx e
  rt : ∀ d, D.rt d → D'.rt d
  bk : ∀ e, D.bk e → D'.bk e
  ct : ∀ e, D.ct e → D'.ct e
theorem One.le {D : En} {o : Out} (h : o.ok D) : Le (One o) D := by
  refine ⟨fun e q => ?_, fun e q => ?_, fun e q => ?_, fun e q => ?_⟩ <;> (have q : o = _ := q; subst q; exact h)
structure Det (w : WS) : Prop where
  mono : ∀ (D D' : En) (env : Sl), Le D D' → w D env → w D' env
  one : ∀ (D : En) (env : Sl), w D env → ∃ o : Out, o.ok D ∧ w (One o) env
theorem det_nil : Det wNil := ⟨fun D D' env h q => h.nx env q, fun D env q => ⟨.nx env, q, rfl⟩⟩
theorem det_dead : Det wDead := ⟨fun D D' env h q => q.elim, fun D env q => q.elim⟩
theorem det_brk : Det wBrk := ⟨fun D D' env h q => h.bk env q, fun D env q => ⟨.bk env, q, rfl⟩⟩
theorem det_cnt : Det wCnt := ⟨fun D D' env h q => h.ct env q, fun D env q => ⟨.ct env, q, rfl⟩⟩
theorem det_seq {a b : WS} (ha : Det a) (hb : Det b) : Det (wSeq a b) := by
  refine ⟨fun D D' env h q => ?_, fun D env q => ?_⟩
  · obtain ⟨M, h1, h2⟩ := q
    exact ⟨M, ha.mono { D with nx := M } { D' with nx := M } env ⟨fun e z => z, h.rt, h.bk, h.ct⟩ h1, fun e he => hb.mono D D' e h (h2 e he)⟩
  · obtain ⟨M, h1, h2⟩ := q
    obtain ⟨o, ho, h3⟩ := ha.one _ env h1
    cases o with
    | nx e =>
      obtain ⟨o2, ho2, h4⟩ := hb.one D e (h2 e ho)
      exact ⟨o2, ho2, fun e' => e' = e, ha.mono _ _ env (One.le (D := { One o2 with nx := fun e' => e' = e }) (o := .nx e) (show e = e from rfl)) h3, fun e' he => by rw [he]; exact h4⟩
    | rt d => exact ⟨.rt d, ho, fun _ => False, ha.mono _ _ env (One.le (D := { One (.rt d) with nx := fun _ => False }) (o := .rt d) (show Out.rt d = Out.rt d from rfl)) h3, fun e' he => he.elim⟩
    | bk e => exact ⟨.bk e, ho, fun _ => False, ha.mono _ _ env (One.le (D := { One (.bk e) with nx := fun _ => False }) (o := .bk e) (show Out.bk e = Out.bk e from rfl)) h3, fun e' he => he.elim⟩
    | ct e => exact ⟨.ct e, ho, fun _ => False, ha.mono _ _ env (One.le (D := { One (.ct e) with nx := fun _ => False }) (o := .ct e) (show Out.ct e = Out.ct e from rfl)) h3, fun e' he => he.elim⟩
theorem det_asg {i : Nat} {f : EF} : Det (wAsg i f) := ⟨fun D D' env h ⟨r, h1, h2, h3⟩ => ⟨r, h1, h2, h.nx _ h3⟩, fun D env ⟨r, h1, h2, h3⟩ => ⟨.nx _, h3, r, h1, h2, rfl⟩⟩
theorem det_unp {is : List Nat} {f : EF} : Det (wUnp is f) := ⟨fun D D' env h ⟨d, e, h1, h2, h3⟩ => ⟨d, e, h1, h2, h.nx _ h3⟩, fun D env ⟨d, e, h1, h2, h3⟩ => ⟨.nx _, h3, d, e, h1, h2, rfl⟩⟩
theorem det_ret {f : EF} : Det (wRet f) := ⟨fun D D' env h ⟨r, h1, h2, h3⟩ => ⟨r, h1, h2, h.rt _ h3⟩, fun D env ⟨r, h1, h2, h3⟩ => ⟨.rt _, h3, r, h1, h2, rfl⟩⟩
theorem det_retN : Det wRetN := ⟨fun D D' env h q => h.rt _ q, fun D env q => ⟨.rt .non, q, rfl⟩⟩
theorem det_drop {f : EF} : Det (wDrop f) := ⟨fun D D' env h ⟨r, h1, h2⟩ => ⟨r, h1, h.nx _ h2⟩, fun D env ⟨r, h1, h2⟩ => ⟨.nx _, h2, r, h1, rfl⟩⟩
theorem det_app {i : Nat} {f : EF} : Det (wApp i f) := ⟨fun D D' env h ⟨ds, r, h1, h2, h3, h4, h5⟩ => ⟨ds, r, h1, h2, h3, h4, h.nx _ h5⟩, fun D env ⟨ds, r, h1, h2, h3, h4, h5⟩ => ⟨.nx _, h5, ds, r, h1, h2, h3, h4, rfl⟩⟩
theorem det_put {i : Nat} {k f : EF} : Det (wPut i k f) := ⟨fun D D' env h ⟨ds, r, j, h1, h2, h3, h4, h5, h6, h7⟩ => ⟨ds, r, j, h1, h2, h3, h4, h5, h6, h.nx _ h7⟩, fun D env ⟨ds, r, j, h1, h2, h3, h4, h5, h6, h7⟩ => ⟨.nx _, h7, ds, r, j, h1, h2, h3, h4, h5, h6, rfl⟩⟩
theorem det_asgM {i : Nat} {m : MF} : Det (wAsgM i m) := ⟨fun D D' env h ⟨ds, h1, h2⟩ => ⟨ds, h1, h.nx _ h2⟩, fun D env ⟨ds, h1, h2⟩ => ⟨.nx _, h2, ds, h1, rfl⟩⟩
theorem det_putM {i : Nat} {ka kb f : EF} : Det (wPutM i ka kb f) := ⟨fun D D' env h ⟨dss, r, a, b, ds, h1, h2, h3, h4, h5, h6, h7, h8, h9⟩ => ⟨dss, r, a, b, ds, h1, h2, h3, h4, h5, h6, h7, h8, h.nx _ h9⟩,
  fun D env ⟨dss, r, a, b, ds, h1, h2, h3, h4, h5, h6, h7, h8, h9⟩ => ⟨.nx _, h9, dss, r, a, b, ds, h1, h2, h3, h4, h5, h6, h7, h8, rfl⟩⟩
theorem det_putR {i : Nat} {k f : EF} : Det (wPutR i k f) := ⟨fun D D' env h ⟨dss, ds, j, h1, h2, h3, h4, h5, h6⟩ => ⟨dss, ds, j, h1, h2, h3, h4, h5, h.nx _ h6⟩, fun D env ⟨dss, ds, j, h1, h2, h3, h4, h5, h6⟩ => ⟨.nx _, h6, dss, ds, j, h1, h2, h3, h4, h5, rfl⟩⟩
theorem det_frz {i : Nat} {a : WS} (h : Det a) : Det (wFrz i a) := ⟨fun D D' env l q => h.mono D D' _ l q, fun D env q => h.one D _ q⟩
theorem det_if {t : TF} {a b : WS} (ha : Det a) (hb : Det b) : Det (wIf t a b) := by
  refine ⟨fun D D' env h ⟨c, h1, h2, h3⟩ => ⟨c, h1, fun e => ha.mono D D' env h (h2 e), fun e => hb.mono D D' env h (h3 e)⟩, fun D env ⟨c, h1, h2, h3⟩ => ?_⟩
  cases c with
  | true =>
    obtain ⟨o, ho, h4⟩ := ha.one D env (h2 rfl)
    exact ⟨o, ho, true, h1, fun _ => h4, fun e => (by cases e)⟩
  | false =>
    obtain ⟨o, ho, h4⟩ := hb.one D env (h3 rfl)
    exact ⟨o, ho, false, h1, fun e => (by cases e), fun _ => h4⟩
/-- a loop from its i-th turn on -/
def ForFrom (ds : List Dt) (g : GF) (b : WS) (i : Nat) (D : En) (env : Sl) : Prop := ∃ I : Nat → Sl → Prop, I i env ∧
  (∀ i env d, ds[i]? = some d → I i env → ∃ env', g d env = some env' ∧ b { D with nx := I (i + 1), bk := D.nx, ct := I (i + 1) } env') ∧ ∀ env, I ds.length env → D.nx env
theorem forFrom_one {ds : List Dt} {g : GF} {b : WS} (hb : Det b) {D : En} {I : Nat → Sl → Prop} (hs : ∀ i env d, ds[i]? = some d → I i env → ∃ env', g d env = some env' ∧ b { D with nx := I (i + 1), bk := D.nx, ct := I (i + 1) } env')
    (he : ∀ env, I ds.length env → D.nx env) : ∀ (k i : Nat) (env : Sl), i + k = ds.length → I i env → ∃ o : Out, o.ok D ∧ ForFrom ds g b i (One o) env := by
  intro k
  induction k with
  | zero =>
    intro i env hik hI
    have e : i = ds.length := by omega
    subst e
    refine ⟨.nx env, he env hI, fun j e => j = ds.length ∧ e = env, ⟨rfl, rfl⟩, fun j e d hj hJ => ?_, fun e hJ => by rw [hJ.2]; rfl⟩
    rw [hJ.1, List.getElem?_eq_none (Nat.le_refl _)] at hj
    cases hj
  | succ k ih =>
    intro i env hik hI
    have hg : ds[i]? = some ds[i] := List.getElem?_eq_getElem (by omega)
    obtain ⟨env', h1, h2⟩ := hs i env ds[i] hg hI
    obtain ⟨o1, ho1, h3⟩ := hb.one _ env' h2
    have next : ∀ e1, I (i + 1) e1 → (o1 = .nx e1 ∨ o1 = .ct e1) → ∃ o : Out, o.ok D ∧ ForFrom ds g b i (One o) env := fun e1 hI1 hor => by
      obtain ⟨o, ho, J, j0, js, je⟩ := ih (i + 1) e1 (by omega) hI1
      refine ⟨o, ho, fun j e => (j = i ∧ e = env) ∨ (i < j ∧ J j e), .inl ⟨rfl, rfl⟩, fun j e d hj hJ => ?_, fun e hJ => ?_⟩
      · rcases hJ with ⟨rfl, rfl⟩ | ⟨hl, hJ⟩
        · rw [hg] at hj
          cases hj
          refine ⟨env', h1, hb.mono _ _ env' (One.le ?_) h3⟩
          rcases hor with rfl | rfl
          · exact .inr ⟨Nat.lt_succ_self _, j0⟩
          · exact .inr ⟨Nat.lt_succ_self _, j0⟩
        · obtain ⟨e', q1, q2⟩ := js j e d hj hJ
          refine ⟨e', q1, hb.mono _ _ e' ?_ q2⟩
          exact ⟨fun z q => .inr ⟨by omega, q⟩, fun _ q => q, fun _ q => q, fun z q => .inr ⟨by omega, q⟩⟩
      · rcases hJ with ⟨e2, rfl⟩ | ⟨_, hJ⟩
        · omega
        · exact je e hJ
    have last : ∀ o : Out, o.ok D → Le (One o1) { One o with nx := fun _ => False, bk := (One o).nx, ct := fun _ => False } → ∃ o : Out, o.ok D ∧ ForFrom ds g b i (One o) env := fun o ho hl => by
      refine ⟨o, ho, fun j e => j = i ∧ e = env, ⟨rfl, rfl⟩, fun j e d hj hJ => ?_, fun e hJ => ?_⟩
      · obtain ⟨rfl, rfl⟩ := hJ
        rw [hg] at hj
        cases hj
        exact ⟨env', h1, hb.mono _ _ env' ⟨fun z q => (hl.nx z q).elim, hl.rt, hl.bk, fun z q => (hl.ct z q).elim⟩ h3⟩
      · have := hJ.1
        omega
    cases o1 with
    | nx e1 => exact next e1 ho1 (.inl rfl)
    | ct e1 => exact next e1 ho1 (.inr rfl)
    | bk e1 => exact last (.nx e1) ho1 ⟨fun z q => (by cases q), fun z q => (by cases q), fun z q => (by cases q; rfl), fun z q => (by cases q)⟩
    | rt d => exact last (.rt d) ho1 ⟨fun z q => (by cases q), fun z q => (by cases q; rfl), fun z q => (by cases q), fun z q => (by cases q)⟩
theorem det_for {fi : IF} {g : GF} {b : WS} (hb : Det b) : Det (wFor fi g b) := by
  refine ⟨fun D D' env h ⟨ds, h1, I, i0, hs, he⟩ => ⟨ds, h1, I, i0, fun i e d hd hI => ?_, fun e hI => h.nx e (he e hI)⟩, fun D env ⟨ds, h1, I, i0, hs, he⟩ => ?_⟩
  · obtain ⟨e', q1, q2⟩ := hs i e d hd hI
    exact ⟨e', q1, hb.mono { D with nx := I (i + 1), bk := D.nx, ct := I (i + 1) } _ e' ⟨fun _ q => q, h.rt, h.nx, fun _ q => q⟩ q2⟩
  · obtain ⟨o, ho, J, j0, js, je⟩ := forFrom_one hb hs he ds.length 0 env (Nat.zero_add _) i0
    exact ⟨o, ho, ds, h1, J, j0, js, je⟩
theorem while_one {t : TF} {b : WS} (hb : Det b) {D : En} {I : Nat → Sl → Prop} (hs : ∀ m env, I m env → ∃ c, t env = some c ∧ ((c = true → b { D with nx := fun e => ∃ m', m' < m ∧ I m' e, bk := D.nx, ct := fun e => ∃ m', m' < m ∧ I m' e } env) ∧ (c = false → D.nx env))) :
    ∀ (m : Nat) (env : Sl), I m env → ∃ o : Out, o.ok D ∧ ∃ J : Nat → Sl → Prop, J m env ∧ (∀ k e, J k e → k ≤ m) ∧ ∀ k e, J k e → ∃ c, t e = some c ∧ ((c = true → b { One o with nx := fun e => ∃ m', m' < k ∧ J m' e, bk := (One o).nx, ct := fun e => ∃ m', m' < k ∧ J m' e } e) ∧ (c = false → (One o).nx e)) := by
  intro m
  induction m using Nat.strongRecOn with
  | ind m ih =>
    intro env hI
    obtain ⟨c, h1, h2, h3⟩ := hs m env hI
    cases c with
    | false => exact ⟨.nx env, h3 rfl, fun k e => k = m ∧ e = env, ⟨rfl, rfl⟩, fun k e hJ => Nat.le_of_eq hJ.1, fun k e hJ => ⟨false, (by rw [hJ.2]; exact h1), fun q => (by cases q), fun _ => (by rw [hJ.2]; rfl)⟩⟩
    | true =>
      obtain ⟨o1, ho1, h4⟩ := hb.one _ env (h2 rfl)
      have next : ∀ e1, (∃ m', m' < m ∧ I m' e1) → (o1 = .nx e1 ∨ o1 = .ct e1) → ∃ o : Out, o.ok D ∧ ∃ J : Nat → Sl → Prop, J m env ∧ (∀ k e, J k e → k ≤ m) ∧ ∀ k e, J k e → ∃ c, t e = some c ∧ ((c = true → b { One o with nx := fun e => ∃ m', m' < k ∧ J m' e, bk := (One o).nx, ct := fun e => ∃ m', m' < k ∧ J m' e } e) ∧ (c = false → (One o).nx e)) := fun e1 ⟨m', hm, hI1⟩ hor => by
        obtain ⟨o, ho, J, j0, jl, js⟩ := ih m' hm e1 hI1
        refine ⟨o, ho, fun k e => (k = m ∧ e = env) ∨ (k < m ∧ J k e), .inl ⟨rfl, rfl⟩, fun k e hJ => ?_, fun k e hJ => ?_⟩
        · rcases hJ with ⟨rfl, _⟩ | ⟨h, _⟩ <;> omega
        · rcases hJ with ⟨rfl, rfl⟩ | ⟨hl, hJ⟩
          · refine ⟨true, h1, fun _ => hb.mono _ _ e (One.le ?_) h4, fun q => (by cases q)⟩
            rcases hor with rfl | rfl
            · exact ⟨m', hm, .inr ⟨hm, j0⟩⟩
            · exact ⟨m', hm, .inr ⟨hm, j0⟩⟩
          · obtain ⟨c, q1, q2, q3⟩ := js k e hJ
            refine ⟨c, q1, fun hc => hb.mono _ _ e ?_ (q2 hc), q3⟩
            exact ⟨fun z ⟨m2, a, q⟩ => ⟨m2, a, .inr ⟨by omega, q⟩⟩, fun _ q => q, fun _ q => q, fun z ⟨m2, a, q⟩ => ⟨m2, a, .inr ⟨by omega, q⟩⟩⟩
      have last : ∀ o : Out, o.ok D → Le (One o1) { One o with nx := fun _ => False, bk := (One o).nx, ct := fun _ => False } → ∃ o : Out, o.ok D ∧ ∃ J : Nat → Sl → Prop, J m env ∧ (∀ k e, J k e → k ≤ m) ∧ ∀ k e, J k e → ∃ c, t e = some c ∧ ((c = true → b { One o with nx := fun e => ∃ m', m' < k ∧ J m' e, bk := (One o).nx, ct := fun e => ∃ m', m' < k ∧ J m' e } e) ∧ (c = false → (One o).nx e)) := fun o ho hl => by
        refine ⟨o, ho, fun k e => k = m ∧ e = env, ⟨rfl, rfl⟩, fun k e hJ => Nat.le_of_eq hJ.1, fun k e hJ => ?_⟩
        obtain ⟨rfl, rfl⟩ := hJ
        exact ⟨true, h1, fun _ => hb.mono _ _ e ⟨fun z q => (hl.nx z q).elim, hl.rt, hl.bk, fun z q => (hl.ct z q).elim⟩ h4, fun q => (by cases q)⟩
      cases o1 with
      | nx e1 => exact next e1 ho1 (.inl rfl)
      | ct e1 => exact next e1 ho1 (.inr rfl)
      | bk e1 => exact last (.nx e1) ho1 ⟨fun z q => (by cases q), fun z q => (by cases q), fun z q => (by cases q; rfl), fun z q => (by cases q)⟩
      | rt d => exact last (.rt d) ho1 ⟨fun z q => (by cases q), fun z q => (by cases q; rfl), fun z q => (by cases q), fun z q => (by cases q)⟩
theorem det_while {t : TF} {b : WS} (hb : Det b) : Det (wWhile t b) := by
  refine ⟨fun D D' env h ⟨I, i0, hs⟩ => ⟨I, i0, fun m e hI => ?_⟩, fun D env ⟨I, ⟨m, i0⟩, hs⟩ => ?_⟩
  · obtain ⟨c, h1, h2, h3⟩ := hs m e hI
    exact ⟨c, h1, fun hc => hb.mono { D with nx := fun e => ∃ m', m' < m ∧ I m' e, bk := D.nx, ct := fun e => ∃ m', m' < m ∧ I m' e } _ e ⟨fun _ q => q, h.rt, h.nx, fun _ q => q⟩ (h2 hc), fun hc => h.nx e (h3 hc)⟩
  · obtain ⟨o, ho, J, j0, _, js⟩ := while_one hb hs m env i0
    exact ⟨o, ho, J, ⟨m, j0⟩, js⟩
/-- the ends of a def, told by what is wanted of its answer -/
def endP (P : Dt → Prop) : En := ⟨fun _ => P .non, P, fun _ => False, fun _ => False⟩
theorem auto_rel {n : Nat} {w : WS} {P : List Dt → Dt → Prop} {ds : List Dt} (hd : Det w) (h : w (endP (P ds)) (startE n ds)) : ∃ r, autoF n w P ds = some r ∧ P ds r := by
  obtain ⟨o, ho, h2⟩ := hd.one _ _ h
  cases o with
  | nx e => exact auto_at ⟨.non, ho, hd.mono _ _ _ (One.le (D := endR .non) (o := .nx e) (show Dt.non = Dt.non from rfl)) h2⟩
  | rt d => exact auto_at ⟨d, ho, hd.mono _ _ _ (One.le (D := endR d) (o := .rt d) (show d = d from rfl)) h2⟩
  | bk e => exact ho.elim
  | ct e => exact ho.elim
end Pyl
end
section
set_option Elab.async false
set_option linter.all false
set_option maxHeartbeats 1000000
namespace Pyl
open PySem
/-! ### the helpers that every law has -/
local macro_rules | `(tactic| walk_at "pe") => `(tactic| simp (config := { implicitDefEqProofs := false }) only [eVar_at, eC_at, e1_at, e2_at, aNil_at, aCons_at, eTup_at, eLst_at, plain_nil, plain_cons, eCall_at, eIf_at, eAnd_at, eOr_at, eNot_at, tVal_at, tAnd_at, tOr_at, tNot_at, tYes_at,
  pAdd_int, pSub_int, pNeg_int, pLt_int, pLe_int, pGt_int, pGe_int, pEq_int, pNe_int, pIsN_at, pNotN_at, pIx_lst, pIx_tup, oNone_at, oSome_at, eSlice_at, pLen_lst, pLen_tup, pInt_int, pInt_bl, pAbs_int, pSum_ints, pMax2_int, pMin2_int, pList_lst, pList_tup, pTuple_lst, pTuple_tup, iSeq_at, gN_at, gT_at, gsN_cons, gsN_nil, wipeS_cons, wipeS_nil,
  dt_vis, dt_bor, dt_fre, sh_vis, sh_bor, sh_fre, slot_vis, slot_fre, od_dt, isNon_non, isNon_int, isNon_lst, isNon_tup, scalar_int, scalar_bl, scalar_non, Option.bind_some, Option.bind_none, Option.map_some, Option.map_none, List.getElem?_cons_zero, List.getElem?_cons_succ, List.set_cons_zero, List.set_cons_succ, List.map_cons, List.map_nil, List.any_cons, List.any_nil, Bool.or_false, Bool.false_or, Bool.false_and, Bool.and_true, Bool.true_and, Bool.not_true, Bool.not_false,
  Option.some.injEq, exists_eq_left', exists_eq_left, true_and, and_true, if_true, if_false, Bool.false_eq_true, ite_true, ite_false, reduceIte, decide_eq_true_eq, decide_eq_false_iff_not, R.vis.injEq, R.fre.injEq, Dt.lst.injEq, Dt.tup.injEq, Dt.int.injEq, Slot.own.injEq, OD.lst.injEq, reduceCtorEq, false_and, exists_false, exists_const, Bool.true_eq_false, false_implies, true_implies, implies_true, forall_const])
/-- isinstance(value, int) and not a bool -/
def wholeD : Dt → Option Bool
  | .obj _ _ => none
  | .int _ => some true
  | _ => some false
def F_whole : FN := fun ds => match ds with
  | [d] => (wholeD d).map .bl
  | _ => none
def cw_whole : WS := (wRet (eAnd (e1 (pIsi "int") (eVar 0)) (eNot (e1 (pIsi "bool") (eVar 0)))))
theorem k_whole : Keeps 1 cw_whole F_whole := by
  intro ds r h
  match ds, h with
  | [d], h =>
    cases d <;> first | (cases h; done) | (cases h; exact ⟨_, rfl, rfl, rfl⟩)
def seedM (ns : List Int) : Int := ns.foldl (fun s n => (s * 31 + n % 1000003) % 1000003) 17
def cellM (ns : List Int) (k : Int) : Int := if k < ns.length then ns.getD k.toNat 0 else ((seedM ns + 7) * (k + 3) * 69621) % 2147483647
def F_cell : FN := fun ds => match ds with
  | [.lst xs, .int k] => (intsOf xs).bind fun ns => if 0 ≤ k ∧ k < 4294967296 then some (.int (cellM ns k)) else none
  | _ => none
def cw_cell : WS := (wSeq (wIf (tVal (e2 pLt (eVar 1) (e1 pLen (eVar 0)))) (wRet (e2 pIx (eVar 0) (eVar 1))) wNil)
  (wSeq (wAsg 2 (eC (.int 17)))
  (wSeq (wFor (iSeq (eVar 0)) (gN 3) (wAsg 2 (e2 pMod (e1 pInt (e2 pAdd (e2 pMul (eVar 2) (eC (.int 31))) (e2 pMod (e1 pInt (eVar 3)) (eC (.int 1000003))))) (eC (.int 1000003)))))
  (wRet (e2 pMod (e1 pInt (e2 pMul (e2 pMul (e2 pAdd (eVar 2) (eC (.int 7))) (e2 pAdd (eVar 1) (eC (.int 3)))) (eC (.int 69621)))) (eC (.int 2147483647)))))))
theorem intsOf_some : ∀ {ds : List Dt} {ns : List Int}, intsOf ds = some ns → ds = ns.map .int
  | [], _, h => by cases h; rfl
  | .int i :: ds, _, h => by
    unfold intsOf at h
    obtain ⟨ms, h1, h2⟩ := Option.map_eq_some_iff.mp h
    subst h2
    rw [intsOf_some h1]
    rfl
  | .non :: _, _, e => by simp [intsOf] at e
  | .bl _ :: _, _, e => by simp [intsOf] at e
  | .str _ :: _, _, e => by simp [intsOf] at e
  | .lst _ :: _, _, e => by simp [intsOf] at e
  | .tup _ :: _, _, e => by simp [intsOf] at e
  | .obj _ _ :: _, _, e => by simp [intsOf] at e
theorem seed_bound (ns : List Int) (i : Nat) : 0 ≤ seedM (ns.take i) ∧ seedM (ns.take i) < 1000003 := by
  have h : ∀ (ns : List Int) (s : Int), 0 ≤ s ∧ s < 1000003 → 0 ≤ ns.foldl (fun s n => (s * 31 + n % 1000003) % 1000003) s ∧ ns.foldl (fun s n => (s * 31 + n % 1000003) % 1000003) s < 1000003 := by
    intro ns
    induction ns with
    | nil => exact fun s h => h
    | cons n ns ih => exact fun s h => ih _ ⟨Int.emod_nonneg _ (by decide), Int.emod_lt_of_pos _ (by decide)⟩
  exact h _ 17 (by decide)
theorem foldl_take {α β : Type} {f : β → α → β} {l : List α} {i : Nat} {x : α} {s : β} (h : l[i]? = some x) : (l.take (i + 1)).foldl f s = f ((l.take i).foldl f s) x := by
  rw [List.take_add_one, h, List.foldl_append]
  rfl
theorem k_cell : Keeps 4 cw_cell F_cell := by
  intro ds r h
  match ds, h with
  | [.lst xs, .int k], h =>
    obtain ⟨ns, h1, h⟩ := Option.bind_eq_some_iff.mp h
    split at h
    case isFalse => cases h
    rename_i hk
    cases h
    rw [intsOf_some h1]
    show cw_cell _ [.val (.lst (ns.map .int)), .val (.int k), .non, .non]
    have hsz : (List.map Dt.int ns).length = ns.length := List.length_map _
    refine q_ifD (p := k < (ns.length : Int)) (by walk_at "pe"; rw [hsz]) (fun hlt => ?_) fun hge => ?_
    · have hg : atL (ns.map Dt.int) k = some (.int (cellM ns k)) := by
        refine atL_of_get hk.1 ?_
        unfold cellM
        rw [if_pos hlt, List.getElem?_map, List.getD_eq_getElem?_getD, List.getElem?_eq_getElem (by omega)]
        rfl
      exact s_ret (r := .vis _) (by walk_at "pe"; rw [hg]; rfl) rfl rfl rfl
    · refine q_asg (r := .vis _) (by walk_at "pe"; rfl) rfl rfl ?_
      refine q_forMap (u := Dt.int) (xs := ns) (fun i e => ∃ z, e = [.val (.lst (ns.map .int)), .val (.int k), .val (.int (seedM (ns.take i))), z]) (by walk_at "pe") ⟨_, rfl⟩ ?_ ?_
      · rintro i env x hx ⟨z, rfl⟩
        refine ⟨_, by walk_at "pe"; rfl, ?_⟩
        have hb := seed_bound ns i
        refine s_asg (r := .vis (.int (seedM (ns.take (i + 1))))) ?_ rfl rfl ⟨_, rfl⟩
        walk_at "pe"
        rw [pMul_int (big64 (by omega) (by omega)) (big64 (by decide) (by decide)), pMod_int (by decide)]
        walk_at "pe"
        rw [pMod_int (by decide)]
        unfold seedM
        rw [foldl_take hx]
      · rintro env ⟨z, rfl⟩
        have hb := seed_bound ns ns.length
        rw [List.take_length] at hb ⊢
        refine s_ret (r := .vis (.int (cellM ns k))) ?_ rfl rfl rfl
        walk_at "pe"
        rw [pMul_int (big64 (by omega) (by omega)) (big64 (by omega) (by omega))]
        walk_at "pe"
        rw [pMul_int (big_of (n := 100) ?_ (by decide)) (big64 (by decide) (by decide))]
        · walk_at "pe"
          rw [pMod_int (by decide)]
          unfold cellM
          rw [if_neg hge]
        · have h1 : (seedM ns + 7) * (k + 3) < 1000010 * (k + 3) + 1 := by
            have := Int.mul_le_mul_of_nonneg_right (show seedM ns + 7 ≤ 1000010 by omega) (show (0 : Int) ≤ k + 3 by omega)
            omega
          have h2 : 0 ≤ (seedM ns + 7) * (k + 3) := Int.mul_nonneg (by omega) (by omega)
          omega
/-! the digits of a cell -/
def digA : Int → List Int → List Int
  | _, [] => []
  | r, s :: ss => r % s :: digA (r / s) ss
def stepB (seed : Int) (k : Nat) : Int := (seed * 48271 + 974711 * (k : Int) + 12345) % 2147483647
def takeB (seed : Int) : Int := (seed * (seed / 65537 + 3)) % 2147483629
def digB : Int → Nat → List Int → List Int
  | _, _, [] => []
  | seed, k, s :: ss => takeB (stepB seed k) / 19 % s :: digB (stepB seed k) (k + 1) ss
def digitsM (cell : Int) (sizes : List Int) : List Int := if 1000000000000000000 ≤ cell then digA (cell - 1000000000000000000) sizes else digB (cell % 2147483629) 0 sizes
def sizeOk (sizes : List Int) : Prop := (∀ s ∈ sizes, 0 < s ∧ s < 18446744073709551616) ∧ sizes.length ≤ 100000
instance (sizes : List Int) : Decidable (sizeOk sizes) := by unfold sizeOk; exact inferInstance
def F_digits : FN := fun ds => match ds with
  | [.int c, .lst xs] => (intsOf xs).bind fun ns => if sizeOk ns then some (.lst ((digitsM c ns).map .int)) else none
  | _ => none
theorem digA_len : ∀ (ss : List Int) (r : Int), (digA r ss).length = ss.length
  | [], _ => rfl
  | s :: ss, r => by
    show (digA (r / s) ss).length + 1 = _
    rw [digA_len ss]
    rfl
theorem digB_len : ∀ (ss : List Int) (r : Int) (k : Nat), (digB r k ss).length = ss.length
  | [], _, _ => rfl
  | s :: ss, r, k => by
    show (digB _ (k + 1) ss).length + 1 = _
    rw [digB_len ss]
    rfl
theorem digitsM_len (c : Int) (ss : List Int) : (digitsM c ss).length = ss.length := by
  unfold digitsM
  split
  · exact digA_len _ _
  · exact digB_len _ _ _
theorem digA_get : ∀ {ss : List Int} {r : Int} {i : Nat} {s d : Int}, (∀ s ∈ ss, 0 < s) → ss[i]? = some s → (digA r ss)[i]? = some d → 0 ≤ d ∧ d < s
  | [], _, _, _, _, _, h, _ => by simp at h
  | s' :: ss, r, 0, s, d, hp, h, h2 => by
    cases h
    have e : r % s' = d := Option.some.inj h2
    have := hp s' List.mem_cons_self
    rw [← e]
    exact ⟨Int.emod_nonneg _ (by omega), Int.emod_lt_of_pos _ this⟩
  | s' :: ss, r, i + 1, s, d, hp, h, h2 => digA_get (i := i) (fun x hx => hp x (List.mem_cons_of_mem _ hx)) h h2
theorem digB_get : ∀ {ss : List Int} {r : Int} {k i : Nat} {s d : Int}, (∀ s ∈ ss, 0 < s) → ss[i]? = some s → (digB r k ss)[i]? = some d → 0 ≤ d ∧ d < s
  | [], _, _, _, _, _, _, h, _ => by simp at h
  | s' :: ss, r, k, 0, s, d, hp, h, h2 => by
    cases h
    have e : takeB (stepB r k) / 19 % s' = d := Option.some.inj h2
    have := hp s' List.mem_cons_self
    rw [← e]
    exact ⟨Int.emod_nonneg _ (by omega), Int.emod_lt_of_pos _ this⟩
  | s' :: ss, r, k, i + 1, s, d, hp, h, h2 => digB_get (i := i) (fun x hx => hp x (List.mem_cons_of_mem _ hx)) h h2
theorem digitsM_get {c : Int} {ss : List Int} {i : Nat} {s d : Int} (hp : ∀ s ∈ ss, 0 < s) (h : ss[i]? = some s) (h2 : (digitsM c ss)[i]? = some d) : 0 ≤ d ∧ d < s := by
  unfold digitsM at h2
  split at h2
  · exact digA_get hp h h2
  · exact digB_get hp h h2
def cw_digits : WS := (wSeq (wAsg 2 (eLst aNil))
  (wSeq (wAsg 3 (e1 pInt (eVar 0)))
  (wSeq (wIf (tVal (e2 pGe (eVar 3) (e2 pPow (eC (.int 10)) (eC (.int 18)))))
  (wSeq (wAsg 3 (e2 pSub (eVar 3) (e2 pPow (eC (.int 10)) (eC (.int 18)))))
  (wSeq (wFor (iSeq (eVar 1)) (gN 6)
  (wSeq (wApp 2 (e2 pMod (e1 pInt (eVar 3)) (eVar 6)))
  (wAsg 3 (e2 pDiv (e1 pInt (eVar 3)) (eVar 6)))))
  (wFrz 2 (wRet (eVar 2)))))
  wNil)
  (wSeq (wAsg 4 (e2 pMod (e1 pInt (eVar 3)) (eC (.int 2147483629))))
  (wSeq (wFor (iRange1 (e1 pLen (eVar 1))) (gN 5)
  (wSeq (wAsg 4 (e2 pMod (e1 pInt (e2 pAdd (e2 pAdd (e2 pMul (eVar 4) (eC (.int 48271))) (e2 pMul (eC (.int 974711)) (eVar 5))) (eC (.int 12345)))) (eC (.int 2147483647))))
  (wSeq (wAsg 7 (e2 pMod (e1 pInt (e2 pMul (eVar 4) (e2 pAdd (e2 pDiv (eVar 4) (eC (.int 65537))) (eC (.int 3))))) (eC (.int 2147483629))))
  (wApp 2 (e2 pMod (e2 pDiv (eVar 7) (eC (.int 19))) (e2 pIx (eVar 1) (eVar 5)))))))
  (wFrz 2 (wRet (eVar 2))))))))
theorem pow18 : pPow (.int 10) (.int 18) = some (.vis (.int 1000000000000000000)) := by
  rw [pPow_int (by decide) (by decide) (by decide)]
  rfl
theorem drop_cons_get {α : Type} {l : List α} {i : Nat} {x : α} (h : l[i]? = some x) : l.drop i = x :: l.drop (i + 1) := by
  obtain ⟨hl, e⟩ := List.getElem?_eq_some_iff.mp h
  rw [← e]
  exact List.drop_eq_getElem_cons hl
theorem k_digits : Keeps 8 cw_digits F_digits := by
  intro ds r h
  match ds, h with
  | [.int c, .lst xs], h =>
    obtain ⟨ns, h1, h⟩ := Option.bind_eq_some_iff.mp h
    split at h
    case isFalse => cases h
    rename_i hk
    cases h
    rw [intsOf_some h1]
    obtain ⟨hp, hlen⟩ := hk
    have hsz : (List.map Dt.int ns).length = ns.length := List.length_map _
    show cw_digits _ [.val (.int c), .val (.lst (ns.map .int)), .non, .non, .non, .non, .non, .non]
    refine q_asg (r := .fre (.lst [])) (by walk_at "pe") rfl rfl ?_
    refine q_asg (r := .vis (.int c)) (by walk_at "pe") rfl rfl ?_
    refine q_ifD (p := 1000000000000000000 ≤ c) (by walk_at "pe"; rw [pow18]; walk_at "pe") (fun hge => ?_) fun hlt => ?_
    · refine q_asg (r := .vis (.int (c - 1000000000000000000))) (by walk_at "pe"; rw [pow18]; walk_at "pe") rfl rfl ?_
      refine q_forMap (u := Dt.int) (xs := ns) (fun i e => ∃ z acc rest, e = [.val (.int c), .val (.lst (ns.map .int)), .own (.lst (acc.map .int)), .val (.int rest), .non, .non, z, .non] ∧ acc.length = i ∧ acc ++ digA rest (ns.drop i) = digitsM c ns) (by walk_at "pe") ⟨_, [], c - 1000000000000000000, rfl, rfl, ?_⟩ ?_ ?_
      · unfold digitsM
        rw [if_pos hge]
        rfl
      · rintro i env x hx ⟨z, acc, rest, rfl, hl, he⟩
        have hx2 := hp x (List.mem_of_getElem? hx)
        have hi := (List.getElem?_eq_some_iff.mp hx).1
        refine ⟨_, by walk_at "pe"; rfl, ?_⟩
        refine q_app (d := .int (rest % x)) rfl (r := .vis _) (by walk_at "pe"; rw [pMod_int hx2.1]) rfl (by rw [List.length_map]; exact lim_lt (by omega)) rfl rfl ?_
        refine s_asg (r := .vis (.int (rest / x))) (by walk_at "pe"; rw [pDiv_int hx2.1 (div64 hx2.1 hx2.2)]) rfl rfl ⟨.val (.int x), acc ++ [rest % x], rest / x, ?_, ?_, ?_⟩
        · rw [List.map_append]
          rfl
        · rw [List.length_append, hl]
          rfl
        · rw [List.append_assoc, ← he, drop_cons_get hx]
          rfl
      · rintro env ⟨z, acc, rest, rfl, hl, he⟩
        rw [List.drop_length] at he
        have he : acc = digitsM c ns := by rw [← he]; exact (List.append_nil _).symm
        subst he
        exact q_frz rfl rfl (s_ret (r := .vis _) (by walk_at "pe") rfl rfl rfl)
    · refine s_nil ?_
      refine q_asg (r := .vis (.int (c % 2147483629))) (by walk_at "pe"; rw [pMod_int (by decide)]) rfl rfl ?_
      refine q_forRng (lo := 0) (n := ns.length) (fun i e => ∃ z z7 acc seed, e = [.val (.int c), .val (.lst (ns.map .int)), .own (.lst (acc.map .int)), .val (.int c), .val (.int seed), z, .non, z7] ∧ acc.length = i ∧ 0 ≤ seed ∧ seed < 2147483647 ∧ acc ++ digB seed i (ns.drop i) = digitsM c ns)
        (by rw [rng1 (n := (ns.length : Int)) (by walk_at "pe"; rw [hsz]) (by omega)]; rw [Int.toNat_natCast]) ⟨_, _, [], c % 2147483629, rfl, rfl, Int.emod_nonneg _ (by decide), ?_, ?_⟩ ?_ ?_
      · have := Int.emod_lt_of_pos c (show (0 : Int) < 2147483629 by decide)
        omega
      · unfold digitsM
        rw [if_neg hlt]
        rfl
      · rintro i env hi ⟨z, z7, acc, seed, rfl, hl, hs0, hs1, he⟩
        have hg : ns[i]? = some ns[i] := List.getElem?_eq_getElem hi
        have hx2 := hp ns[i] (List.mem_of_getElem? hg)
        have hb0 : 0 ≤ stepB seed i := Int.emod_nonneg _ (by decide)
        have hb1 : stepB seed i < 2147483647 := Int.emod_lt_of_pos _ (by decide)
        refine ⟨_, by walk_at "pe"; rfl, ?_⟩
        refine q_asg (r := .vis (.int (stepB seed i))) ?_ rfl rfl ?_
        · walk_at "pe"
          rw [pMul_int (big64 (by omega) (by omega)) (big64 (by decide) (by decide)), pMul_int (big64 (by decide) (by decide)) (big64 (by omega) (by omega))]
          walk_at "pe"
          rw [pMod_int (by decide)]
          unfold stepB
          rw [Int.zero_add]
        have hq0 : 0 ≤ stepB seed i / 65537 := Int.ediv_nonneg hb0 (by decide)
        have hq1 : stepB seed i / 65537 < 40000 := by omega
        refine q_asg (r := .vis (.int (takeB (stepB seed i)))) ?_ rfl rfl ?_
        · walk_at "pe"
          rw [pDiv_int (by decide) (div64 (by decide) (by decide))]
          walk_at "pe"
          rw [pMul_int (big64 (by omega) (by omega)) (big64 (by omega) (by omega))]
          walk_at "pe"
          rw [pMod_int (by decide)]
          rfl
        refine s_app (d := .int (takeB (stepB seed i) / 19 % ns[i])) rfl (r := .vis _) ?_ rfl (by rw [List.length_map]; exact lim_lt (by omega)) rfl rfl ⟨.val (.int (0 + (i : Int))), .val (.int (takeB (stepB seed i))), acc ++ [takeB (stepB seed i) / 19 % ns[i]], stepB seed i, ?_, ?_, hb0, hb1, ?_⟩
        · walk_at "pe"
          rw [pDiv_int (by decide) (div64 (by decide) (by decide)), Int.zero_add, atL_nat, List.getElem?_map, hg]
          walk_at "pe"
          rw [pMod_int hx2.1]
        · rw [List.map_append]
          rfl
        · rw [List.length_append, hl]
          rfl
        · rw [List.append_assoc, ← he, drop_cons_get hg]
          rfl
      · rintro env ⟨z, z7, acc, seed, rfl, hl, hs0, hs1, he⟩
        rw [List.drop_length] at he
        have he : acc = digitsM c ns := by rw [← he]; exact (List.append_nil _).symm
        subst he
        exact q_frz rfl rfl (s_ret (r := .vis _) (by walk_at "pe") rfl rfl rfl)
/-! lists of ints as data, and back -/
def ilst (ns : List Int) : Dt := .lst (ns.map .int)
def itup (ns : List Int) : Dt := .tup (ns.map .int)
def imat (m : List (List Int)) : Dt := .lst (m.map ilst)
/-- as a list, as a tuple -/
def iseq (b : Bool) (ns : List Int) : Dt := bif b then itup ns else ilst ns
def imatS (b : Bool) (m : List (List Int)) : Dt := bif b then .tup (m.map itup) else imat m
def Dt.toI : Dt → Int
  | .int i => i
  | _ => 0
def Dt.items : Dt → List Dt
  | .lst ds => ds
  | .tup ds => ds
  | _ => []
def Dt.toIs (d : Dt) : List Int := d.items.map Dt.toI
def Dt.toM (d : Dt) : List (List Int) := d.items.map Dt.toIs
theorem map_toI (ns : List Int) : (ns.map Dt.int).map Dt.toI = ns := by
  rw [List.map_map]
  exact List.map_id _
theorem toIs_ilst (ns : List Int) : (ilst ns).toIs = ns := map_toI ns
theorem toIs_itup (ns : List Int) : (itup ns).toIs = ns := map_toI ns
theorem toIs_iseq (b : Bool) (ns : List Int) : (iseq b ns).toIs = ns := by cases b <;> exact map_toI ns
theorem toM_imat (m : List (List Int)) : (imat m).toM = m := by
  show (m.map ilst).map Dt.toIs = m
  rw [List.map_map, show Dt.toIs ∘ ilst = id from funext toIs_ilst]
  exact List.map_id _
theorem toM_imatS (b : Bool) (m : List (List Int)) : (imatS b m).toM = m := by
  cases b
  · exact toM_imat m
  · show (m.map itup).map Dt.toIs = m
    rw [List.map_map, show Dt.toIs ∘ itup = id from funext toIs_itup]
    exact List.map_id _
theorem seqOf_iseq (b : Bool) (ns : List Int) : seqOf (iseq b ns) = some (ns.map .int) := by cases b <;> rfl
theorem seqOf_imatS (b : Bool) (m : List (List Int)) : seqOf (imatS b m) = some (m.map (iseq b)) := by cases b <;> rfl
theorem pLen_iseq (b : Bool) (ns : List Int) : pLen (iseq b ns) = some (.vis (.int ns.length)) := by
  cases b
  · show some (R.vis (.int ((ns.map Dt.int).length : Nat))) = _
    rw [List.length_map]
  · show some (R.vis (.int ((ns.map Dt.int).length : Nat))) = _
    rw [List.length_map]
theorem pIx_iseq {b : Bool} {ns : List Int} {i : Int} {x : Int} (h0 : 0 ≤ i) (h : ns[i.toNat]? = some x) : pIx (iseq b ns) (.int i) = some (.vis (.int x)) := by
  have e : (ns.map Dt.int)[i.toNat]? = some (.int x) := by
    rw [List.getElem?_map, h]
    rfl
  cases b
  · show (atL (ns.map Dt.int) i).map R.vis = _
    rw [atL_of_get h0 e]
    rfl
  · show (atL (ns.map Dt.int) i).map R.vis = _
    rw [atL_of_get h0 e]
    rfl
theorem pIx_imatS {b : Bool} {m : List (List Int)} {i : Int} {x : List Int} (h0 : 0 ≤ i) (h : m[i.toNat]? = some x) : pIx (imatS b m) (.int i) = some (.vis (iseq b x)) := by
  cases b
  · have e : (m.map ilst)[i.toNat]? = some (ilst x) := by
      rw [List.getElem?_map, h]
      rfl
    show (atL (m.map ilst) i).map R.vis = _
    rw [atL_of_get h0 e]
    rfl
  · have e : (m.map itup)[i.toNat]? = some (itup x) := by
      rw [List.getElem?_map, h]
      rfl
    show (atL (m.map itup) i).map R.vis = _
    rw [atL_of_get h0 e]
    rfl
theorem zipWith_tup {α β : Type} (u : α → Dt) (v : β → Dt) : ∀ (xs : List α) (ys : List β), List.zipWith (fun x y => Dt.tup [x, y]) (xs.map u) (ys.map v) = (xs.zip ys).map fun p => Dt.tup [u p.1, v p.2]
  | [], _ => rfl
  | _ :: _, [] => rfl
  | x :: xs, y :: ys => by
    rw [List.map_cons, List.map_cons, List.zipWith_cons_cons, List.zip_cons_cons, List.map_cons, zipWith_tup u v xs ys]
theorem cutD_map {α : Type} (u : α → Dt) (xs : List α) {lo hi : Option Int} : cutD (xs.map u) lo hi = ((xs.drop (sIx xs.length 0 lo)).take (sIx xs.length xs.length hi - sIx xs.length 0 lo)).map u := by
  unfold cutD
  rw [List.length_map, List.map_take, List.map_drop]
theorem sIx_nat {n d k : Nat} (h : k ≤ n) : sIx n d (some (k : Int)) = k := by
  unfold sIx
  show (if 0 ≤ (k : Int) then min (k : Int).toNat n else ((k : Int) + (n : Int)).toNat) = k
  rw [if_pos (Int.natCast_nonneg k), Int.toNat_natCast, Nat.min_eq_left h]
theorem cut_nat {α : Type} (u : α → Dt) {xs : List α} {a k : Nat} (h : a + k ≤ xs.length) : cutD (xs.map u) (some (a : Int)) (some ((a : Int) + (k : Int))) = ((xs.drop a).take k).map u := by
  rw [cutD_map, sIx_nat (by omega), show ((a : Int) + (k : Int)) = ((a + k : Nat) : Int) by omega, sIx_nat h, Nat.add_sub_cancel_left]
theorem cutD_from {ds : List Dt} {k : Nat} : cutD ds (some (k : Int)) none = ds.drop k := by
  unfold cutD
  have h1 : sIx ds.length 0 (some (k : Int)) = min k ds.length := by
    show (if 0 ≤ (k : Int) then min (k : Int).toNat ds.length else ((k : Int) + (ds.length : Int)).toNat) = _
    rw [if_pos (Int.natCast_nonneg k), Int.toNat_natCast]
  rw [h1]
  show (ds.drop _).take (ds.length - _) = _
  rw [List.take_of_length_le (by rw [List.length_drop]; omega)]
  rcases Nat.le_total k ds.length with h | h
  · rw [Nat.min_eq_left h]
  · rw [Nat.min_eq_right h, List.drop_eq_nil_of_le h, List.drop_length]
theorem cutD_to {ds : List Dt} {k : Nat} : cutD ds none (some (k : Int)) = ds.take k := by
  unfold cutD
  have h1 : sIx ds.length ds.length (some (k : Int)) = min k ds.length := by
    show (if 0 ≤ (k : Int) then min (k : Int).toNat ds.length else ((k : Int) + (ds.length : Int)).toNat) = _
    rw [if_pos (Int.natCast_nonneg k), Int.toNat_natCast]
  rw [h1]
  show (ds.drop 0).take (min k ds.length - 0) = _
  rw [List.drop_zero, Nat.sub_zero]
  rcases Nat.le_total k ds.length with h | h
  · rw [Nat.min_eq_left h]
  · rw [Nat.min_eq_right h, List.take_length, List.take_of_length_le h]
theorem cutD_from1 {ds : List Dt} : cutD ds (some 1) none = ds.drop 1 := cutD_from (k := 1)
theorem sum_bounds {B : Int} : ∀ {l : List Int}, (∀ x ∈ l, 0 ≤ x ∧ x ≤ B) → 0 ≤ l.sum ∧ l.sum ≤ B * l.length
  | [], _ => ⟨Int.le_refl _, by simp⟩
  | x :: l, h => by
    have h1 := h x List.mem_cons_self
    have h2 := sum_bounds (l := l) fun y hy => h y (List.mem_cons_of_mem _ hy)
    rw [List.sum_cons, List.length_cons]
    refine ⟨by omega, ?_⟩
    rw [Int.natCast_add, Int.mul_add]
    omega
/-- digits as they are taken: the sizes given -/
theorem F_digits_at {c : Int} {ns : List Int} (h : sizeOk ns) : F_digits [.int c, ilst ns] = some (ilst (digitsM c ns)) := by
  show (intsOf (ns.map .int)).bind _ = _
  rw [intsOf_ints]
  exact if_pos h
theorem F_cell_at {ns : List Int} {k : Int} (h : 0 ≤ k ∧ k < 4294967296) : F_cell [ilst ns, .int k] = some (.int (cellM ns k)) := by
  show (intsOf (ns.map .int)).bind _ = _
  rw [intsOf_ints]
  exact if_pos h
/-! == of lists of ints -/
theorem pyL_ints : ∀ ns : List Int, Dt.pyL (ns.map .int) = some (ns.map .int)
  | [] => rfl
  | n :: ns => by
    rw [List.map_cons]
    unfold Dt.pyL
    rw [pyL_ints ns]
    rfl
theorem py_ilst (ns : List Int) : (ilst ns).py = some (.list (ns.map .int)) := by
  unfold ilst Dt.py
  rw [pyL_ints]
  rfl
theorem pyL_mat : ∀ m : List (List Int), Dt.pyL (m.map ilst) = some (m.map fun r => .list (r.map .int))
  | [] => rfl
  | n :: m => by
    rw [List.map_cons]
    unfold Dt.pyL
    rw [pyL_mat m, py_ilst]
    rfl
theorem py_imat (m : List (List Int)) : (imat m).py = some (.list (m.map fun r => .list (r.map .int))) := by
  unfold imat Dt.py
  rw [pyL_mat]
  rfl
theorem lay_ints : ∀ ns : List Int, PyData.canLayAll0 (ns.map .int) = true ∧ PyData.depthAll (ns.map .int) ≤ 1
  | [] => ⟨rfl, Nat.zero_le _⟩
  | n :: ns => by
    have h := lay_ints ns
    rw [List.map_cons]
    exact ⟨by simp [PyData.canLayAll0, PyData.canLay0, h.1], by simp only [PyData.depthAll, PyData.depth]; omega⟩
theorem lay_mat : ∀ m : List (List Int), PyData.canLayAll0 (m.map fun r => .list (r.map .int)) = true ∧ PyData.depthAll (m.map fun r => .list (r.map .int)) ≤ 3
  | [] => ⟨rfl, Nat.zero_le _⟩
  | n :: ns => by
    have h := lay_mat ns
    have h1 := lay_ints n
    rw [List.map_cons]
    exact ⟨by simp [PyData.canLayAll0, PyData.canLay0, h.1, h1.1], by simp only [PyData.depthAll, PyData.depth]; omega⟩
theorem eqv_ints : ∀ a b : List Int, PyData.eqvAll (a.map .int) (b.map .int) = decide (a = b)
  | [], [] => rfl
  | [], _ :: _ => by simp [PyData.eqvAll]
  | _ :: _, [] => by simp [PyData.eqvAll]
  | x :: a, y :: b => by
    rw [List.map_cons, List.map_cons]
    simp only [PyData.eqvAll, PyData.eqv, eqv_ints a b, List.cons.injEq]
    by_cases h : x = y <;> by_cases h2 : a = b <;> simp [h, h2]
theorem eqv_mat : ∀ a b : List (List Int), PyData.eqvAll (a.map fun r => .list (r.map .int)) (b.map fun r => .list (r.map .int)) = decide (a = b)
  | [], [] => rfl
  | [], _ :: _ => by simp [PyData.eqvAll]
  | _ :: _, [] => by simp [PyData.eqvAll]
  | x :: a, y :: b => by
    rw [List.map_cons, List.map_cons]
    simp only [PyData.eqvAll, PyData.eqv, eqv_mat a b, eqv_ints x y, List.cons.injEq]
    by_cases h : x = y <;> by_cases h2 : a = b <;> simp [h, h2]
theorem eqD_ilst (a b : List Int) : eqD (ilst a) (ilst b) = some (decide (a = b)) := by
  have h1 := lay_ints a
  have h2 := lay_ints b
  unfold eqD
  rw [py_ilst, py_ilst]
  show (if SeqAt.shaped (.list (a.map .int)) && SeqAt.shaped (.list (b.map .int)) then some (PyData.eqv _ _) else none) = _
  rw [if_pos]
  · simp only [PyData.eqv, eqv_ints]
  · simp only [SeqAt.shaped, PyData.canLay0, PyData.depth, h1.1, h2.1, Bool.and_eq_true, decide_eq_true_eq, true_and, Bool.true_and]
    exact ⟨decide_eq_true (by omega), decide_eq_true (by omega)⟩
theorem eqD_imat (a b : List (List Int)) : eqD (imat a) (imat b) = some (decide (a = b)) := by
  have h1 := lay_mat a
  have h2 := lay_mat b
  unfold eqD
  rw [py_imat, py_imat]
  show (if SeqAt.shaped (.list (a.map fun r => .list (r.map .int))) && SeqAt.shaped (.list (b.map fun r => .list (r.map .int))) then some (PyData.eqv _ _) else none) = _
  rw [if_pos]
  · simp only [PyData.eqv, eqv_mat]
  · simp only [SeqAt.shaped, PyData.canLay0, PyData.depth, h1.1, h2.1, Bool.and_eq_true, decide_eq_true_eq, true_and, Bool.true_and]
    exact ⟨decide_eq_true (by omega), decide_eq_true (by omega)⟩
theorem pEq_ilst (a b : List Int) : pEq (ilst a) (ilst b) = some (.vis (.bl (decide (a = b)))) := by unfold pEq; rw [eqD_ilst]; rfl
theorem pNe_ilst (a b : List Int) : pNe (ilst a) (ilst b) = some (.vis (.bl (!decide (a = b)))) := by unfold pNe; rw [eqD_ilst]; rfl
theorem pEq_imat (a b : List (List Int)) : pEq (imat a) (imat b) = some (.vis (.bl (decide (a = b)))) := by unfold pEq; rw [eqD_imat]; rfl
theorem pNe_imat (a b : List (List Int)) : pNe (imat a) (imat b) = some (.vis (.bl (!decide (a = b)))) := by unfold pNe; rw [eqD_imat]; rfl
/-! all digits at once; tables -/
def Below : List Int → List Int → Prop
  | [], [] => True
  | d :: ds, s :: ss => (0 ≤ d ∧ d < s) ∧ Below ds ss
  | _, _ => False
theorem below_of : ∀ {ds ss : List Int}, ds.length = ss.length → (∀ (i : Nat) s d, ss[i]? = some s → ds[i]? = some d → 0 ≤ d ∧ d < s) → Below ds ss
  | [], [], _, _ => trivial
  | [], _ :: _, h, _ => by cases h
  | _ :: _, [], h, _ => by cases h
  | d :: ds, s :: ss, h, g => ⟨g 0 s d rfl rfl, below_of (by simpa using h) fun i s' d' h1 h2 => g (i + 1) s' d' h1 h2⟩
theorem digits_below {c : Int} {ss : List Int} (hp : ∀ s ∈ ss, 0 < s) : Below (digitsM c ss) ss := below_of (digitsM_len c ss) fun i s d h1 h2 => digitsM_get hp h1 h2
theorem tab {l : List Int} {d : Int} (h0 : 0 ≤ d) (h : d < l.length) : ∃ v, v ∈ l ∧ atL (l.map Dt.int) d = some (.int v) := by
  have hl : d.toNat < l.length := by omega
  refine ⟨l[d.toNat], List.getElem_mem hl, atL_of_get h0 ?_⟩
  rw [List.getElem?_map, List.getElem?_eq_getElem hl]
  rfl
section
variable {α : Type} {a b c d e f g h i j k l m : α} {t : List α}
theorem atL0 : atL (a :: t) 0 = some a := rfl
theorem atL1 : atL (a :: b :: t) 1 = some b := rfl
theorem atL2 : atL (a :: b :: c :: t) 2 = some c := rfl
theorem atL3 : atL (a :: b :: c :: d :: t) 3 = some d := rfl
theorem atL4 : atL (a :: b :: c :: d :: e :: t) 4 = some e := rfl
theorem atL5 : atL (a :: b :: c :: d :: e :: f :: t) 5 = some f := rfl
theorem atL6 : atL (a :: b :: c :: d :: e :: f :: g :: t) 6 = some g := rfl
theorem atL7 : atL (a :: b :: c :: d :: e :: f :: g :: h :: t) 7 = some h := rfl
theorem atL8 : atL (a :: b :: c :: d :: e :: f :: g :: h :: i :: t) 8 = some i := rfl
theorem atL9 : atL (a :: b :: c :: d :: e :: f :: g :: h :: i :: j :: t) 9 = some j := rfl
theorem atL10 : atL (a :: b :: c :: d :: e :: f :: g :: h :: i :: j :: k :: t) 10 = some k := rfl
theorem atL11 : atL (a :: b :: c :: d :: e :: f :: g :: h :: i :: j :: k :: l :: t) 11 = some l := rfl
theorem atL12 : atL (a :: b :: c :: d :: e :: f :: g :: h :: i :: j :: k :: l :: m :: t) 12 = some m := rfl
end
theorem map_ilst (ns : List Int) : Dt.lst (ns.map .int) = ilst ns := rfl
theorem pAdd_ilst {a b : List Int} (h : a.length + b.length ≤ 4000000) : pAdd (ilst a) (ilst b) = some (.fre (.lst ((a ++ b).map .int))) := by
  unfold ilst
  rw [pAdd_lst (by rw [List.length_map, List.length_map]; exact lim_of h), List.map_append]
end Pyl
end
section
set_option Elab.async false
set_option linter.all false
set_option maxHeartbeats 1000000
namespace Pyl
open PySem
/-! tails: what their functions compute, for every law that needs them -/
local macro_rules | `(tactic| walk_at "pe") => `(tactic| simp (config := { implicitDefEqProofs := false }) only [eVar_at, eC_at, e1_at, e2_at, aNil_at, aCons_at, eTup_at, eLst_at, plain_nil, plain_cons, eCall_at, eIf_at, eAnd_at, eOr_at, eNot_at, tVal_at, tAnd_at, tOr_at, tNot_at, tYes_at,
  pAdd_int, pSub_int, pNeg_int, pLt_int, pLe_int, pGt_int, pGe_int, pEq_int, pNe_int, pIsN_at, pNotN_at, pIx_lst, pIx_tup, pGcd_int, atL0, atL1, atL2, atL3, atL4, atL5, atL6, atL7, atL8, oNone_at, oSome_at, eSlice_at, pLen_lst, pLen_tup, pInt_int, pInt_bl, pAbs_int, pSum_ints, pMax2_int, pMin2_int, pList_lst, pList_tup, pTuple_lst, pTuple_tup, iSeq_at, gN_at, gT_at, gsN_cons, gsN_nil, wipeS_cons, wipeS_nil,
  dt_vis, dt_bor, dt_fre, sh_vis, sh_bor, sh_fre, slot_vis, slot_fre, od_dt, isNon_non, isNon_int, isNon_lst, isNon_tup, scalar_int, scalar_bl, scalar_non, Option.bind_some, Option.bind_none, Option.map_some, Option.map_none, List.getElem?_cons_zero, List.getElem?_cons_succ, List.set_cons_zero, List.set_cons_succ, List.map_cons, List.map_nil, List.any_cons, List.any_nil, Bool.or_false, Bool.false_or, Bool.false_and, Bool.and_true, Bool.true_and, Bool.not_true, Bool.not_false,
  Option.some.injEq, exists_eq_left', exists_eq_left, true_and, and_true, if_true, if_false, Bool.false_eq_true, ite_true, ite_false, reduceIte, decide_eq_true_eq, decide_eq_false_iff_not, R.vis.injEq, R.fre.injEq, Dt.lst.injEq, Dt.tup.injEq, Dt.int.injEq, Slot.own.injEq, OD.lst.injEq, reduceCtorEq, false_and, exists_false, exists_const, Bool.true_eq_false, false_implies, true_implies, implies_true, forall_const])
def termM (t m : Int) (n j : Nat) : Int := (chooseN n j : Int) * t ^ j * m ^ (n - j)
def tailS (t m : Int) (n l : Nat) : Int := (((List.range (n + 1)).drop l).map (termM t m n)).sum
def gcdI (a b : Int) : Int := (Nat.gcd a.natAbs b.natAbs : Nat)
def lowT (t b : Int) : Int := t / gcdI t b
def lowB (t b : Int) : Int := b / gcdI t b
def powsM (x : Int) (n : Nat) : List Int := (List.range (n + 1)).map (x ^ ·)
open Classical in
noncomputable def F_lowest : FN := fun ds => match ds with
  | [.int t, .int b] => if 0 < b ∧ b.natAbs < 2 ^ 8000 then some (.tup [.int (lowT t b), .int (lowB t b)]) else none
  | _ => none
open Classical in
noncomputable def F_powers_of : FN := fun ds => match ds with
  | [.int x, .int n] => if 0 ≤ n ∧ n ≤ 1000 ∧ x.natAbs < 2 ^ 20 then some (ilst (powsM x n.toNat)) else none
  | _ => none
open Classical in
noncomputable def F_ways_of : FN := fun ds => match ds with
  | [hp, mp, .int n, .int j] => if (hp = ilst hp.toIs ∧ mp = ilst mp.toIs) ∧ (0 ≤ j ∧ j ≤ n ∧ n ≤ 1000) ∧ (hp.toIs.length = n + 1 ∧ mp.toIs.length = n + 1) ∧ (∀ x ∈ hp.toIs, x.natAbs < 2 ^ 21000) ∧ ∀ x ∈ mp.toIs, x.natAbs < 2 ^ 21000 then
      some (.int ((chooseN n.toNat j.toNat : Int) * hp.toIs.getD j.toNat 0 * mp.toIs.getD (n - j).toNat 0)) else none
  | _ => none
/-- what is handed as a share: top and bottom -/
structure OkSh (T B : Int) : Prop where
  t0 : 0 ≤ T
  tb : T ≤ B
  b0 : 0 < B
  b1 : B ≤ 999999
open Classical in
noncomputable def F_tail : FN := fun ds => match ds with
  | [.int n, sh, .int l] => if (∃ b T B, sh = iseq b [T, B] ∧ OkSh T B) ∧ 0 ≤ n ∧ n ≤ 200 ∧ 0 ≤ l ∧ l ≤ n + 1 then
      (let t := lowT (sh.toIs.getD 0 0) (sh.toIs.getD 1 0); let b := lowB (sh.toIs.getD 0 0) (sh.toIs.getD 1 0); let s := tailS t (b - t) n.toNat l.toNat; let w := b ^ n.toNat
       some (.tup [.int (lowT s w), .int (lowB s w)])) else none
  | _ => none
def cw_lowest : WS := (wSeq (wIf (tVal (e2 pEq (eVar 1) (eC (.int 0))))
  wDead
  wNil)
  (wSeq (wAsg 2 (e2 pGcd (eVar 0) (eVar 1)))
  (wSeq (wIf (tVal (e2 pLt (eVar 1) (eC (.int 0))))
  (wAsg 2 (e1 pNeg (eVar 2)))
  wNil)
  (wRet (eTup (aCons (e2 pDiv (eVar 0) (eVar 2)) (aCons (e2 pDiv (eVar 1) (eVar 2)) aNil)))))))
def cw_powers_of : WS := (wSeq (wAsg 2 (eLst (aCons (eC (.int 1)) aNil)))
  (wSeq (wFor (iRange1 (eVar 1)) (gN 3)
  (wApp 2 (e2 pMul (e2 pIx (eVar 2) (e1 pNeg (eC (.int 1)))) (eVar 0))))
  (wFrz 2 (wRet (eVar 2)))))
def cw_ways_of : WS := (wRet (e2 pMul (e2 pMul (e2 pComb (eVar 2) (eVar 3)) (e2 pIx (eVar 0) (eVar 3))) (e2 pIx (eVar 1) (e2 pSub (eVar 2) (eVar 3)))))
def cw_tail : WS := (wSeq (wUnp [7, 8] (eCall F_lowest (aCons (e2 pIx (eVar 1) (eC (.int 0))) (aCons (e2 pIx (eVar 1) (eC (.int 1))) aNil))))
  (wSeq (wAsg 3 (eCall F_powers_of (aCons (eVar 7) (aCons (eVar 0) aNil))))
  (wSeq (wAsg 4 (eCall F_powers_of (aCons (e2 pSub (eVar 8) (eVar 7)) (aCons (eVar 0) aNil))))
  (wSeq (wAsg 5 (eC (.int 0)))
  (wSeq (wFor (iRange2 (eVar 2) (e2 pAdd (eVar 0) (eC (.int 1)))) (gN 6)
  (wAsg 5 (e2 pAdd (eVar 5) (eCall F_ways_of (aCons (eVar 3) (aCons (eVar 4) (aCons (eVar 0) (aCons (eVar 6) aNil))))))))
  (wRet (eCall F_lowest (aCons (eVar 5) (aCons (e2 pIx (eCall F_powers_of (aCons (eVar 8) (aCons (eVar 0) aNil))) (eVar 0)) aNil)))))))))
/-! sizes of powers -/
theorem pow_bits {x : Int} {k : Nat} (h : x.natAbs ≤ 2 ^ k) (i : Nat) : (x ^ i).natAbs ≤ 2 ^ (k * i) := by
  rw [Int.natAbs_pow, Nat.pow_mul]
  exact Nat.pow_le_pow_left h i
theorem mul_bits {x y : Int} {a b : Nat} (hx : x.natAbs ≤ 2 ^ a) (hy : y.natAbs ≤ 2 ^ b) : (x * y).natAbs ≤ 2 ^ (a + b) := by
  rw [Int.natAbs_mul, Nat.pow_add]
  exact Nat.mul_le_mul hx hy
theorem lt_bits {x a b : Nat} (h : x ≤ 2 ^ a) (hab : a < b) : x < 2 ^ b := Nat.lt_of_le_of_lt h (Nat.pow_lt_pow_right (by decide) hab)
theorem choose_le : ∀ n k : Nat, chooseN n k ≤ 2 ^ n
  | n, 0 => by
    unfold chooseN
    exact Nat.pow_pos (by decide)
  | 0, k + 1 => by
    unfold chooseN
    exact Nat.zero_le _
  | n + 1, k + 1 => by
    have h1 := choose_le n k
    have h2 := choose_le n (k + 1)
    show chooseN n k + chooseN n (k + 1) ≤ _
    rw [Nat.pow_succ]
    omega
theorem ch_zero (n : Nat) : chooseN n 0 = 1 := by unfold chooseN; rfl
theorem ch_above : ∀ {n k : Nat}, n < k → chooseN n k = 0
  | 0, k + 1, _ => by unfold chooseN; rfl
  | n + 1, k + 1, h => by
    unfold chooseN
    rw [ch_above (n := n) (k := k) (by omega), ch_above (n := n) (k := k + 1) (by omega)]
theorem term_bits {t m : Int} {n j : Nat} (ht : t.natAbs ≤ 2 ^ 20) (hm : m.natAbs ≤ 2 ^ 20) (hj : j ≤ n) : (termM t m n j).natAbs ≤ 2 ^ (21 * n) := by
  have h1 : ((chooseN n j : Int)).natAbs ≤ 2 ^ n := by
    rw [Int.natAbs_natCast]
    exact choose_le n j
  have h := mul_bits (mul_bits h1 (pow_bits ht j)) (pow_bits hm (n - j))
  rw [show 21 * n = n + 20 * j + 20 * (n - j) by omega]
  exact h
theorem natAbs_sum {B : Nat} : ∀ {l : List Int}, (∀ x ∈ l, x.natAbs ≤ B) → l.sum.natAbs ≤ B * l.length
  | [], _ => by simp
  | x :: l, h => by
    have h1 := h x List.mem_cons_self
    have h2 := natAbs_sum (l := l) fun y hy => h y (List.mem_cons_of_mem _ hy)
    rw [List.sum_cons, List.length_cons, Nat.mul_add, Nat.mul_one]
    have := Int.natAbs_add_le x l.sum
    omega
theorem tail_bits {t m : Int} {n : Nat} (ht : t.natAbs ≤ 2 ^ 20) (hm : m.natAbs ≤ 2 ^ 20) (hn : n ≤ 200) (l : Nat) : (tailS t m n l).natAbs < 2 ^ 4400 := by
  have h := natAbs_sum (B := 2 ^ (21 * n)) (l := ((List.range (n + 1)).drop l).map (termM t m n)) fun x hx => by
    obtain ⟨j, hj, rfl⟩ := List.mem_map.mp hx
    have := List.mem_range.mp (List.mem_of_mem_drop hj)
    exact term_bits ht hm (by omega)
  have hl : (((List.range (n + 1)).drop l).map (termM t m n)).length ≤ 2 ^ 8 := by
    rw [List.length_map, List.length_drop, List.length_range]
    omega
  refine Nat.lt_of_le_of_lt (Nat.le_trans h (Nat.mul_le_mul_left _ hl)) ?_
  rw [← Nat.pow_add]
  exact Nat.pow_lt_pow_right (by decide) (by omega)
/-! scaling -/
theorem term_scale {c t m : Int} {n j : Nat} (hj : j ≤ n) : termM (c * t) (c * m) n j = c ^ n * termM t m n j := by
  unfold termM
  have e : c ^ n = c ^ j * c ^ (n - j) := by rw [← Int.pow_add]; congr 1; omega
  rw [Int.mul_pow, Int.mul_pow, e]
  ac_rfl
theorem tail_scale {c t m : Int} {n l : Nat} : tailS (c * t) (c * m) n l = c ^ n * tailS t m n l := by
  unfold tailS
  have e : ((List.range (n + 1)).drop l).map (termM (c * t) (c * m) n) = ((List.range (n + 1)).drop l).map fun j => c ^ n * termM t m n j :=
    List.map_congr_left fun j hj => term_scale (by have := List.mem_range.mp (List.mem_of_mem_drop hj); omega)
  rw [e]
  generalize (List.range (n + 1)).drop l = L
  induction L with
  | nil => exact (Int.mul_zero _).symm
  | cons x L ih => rw [List.map_cons, List.map_cons, List.sum_cons, List.sum_cons, ih, Int.mul_add]
theorem gcd_pos {a b : Int} (hb : 0 < b) : 0 < gcdI a b := by
  unfold gcdI
  have := Nat.gcd_pos_of_pos_right a.natAbs (show 0 < b.natAbs by omega)
  omega
theorem gcd_top (a b : Int) : gcdI a b * lowT a b = a := Int.mul_ediv_cancel' (Int.ofNat_dvd_left.mpr (Nat.gcd_dvd_left _ _))
theorem gcd_bot (a b : Int) : gcdI a b * lowB a b = b := Int.mul_ediv_cancel' (Int.ofNat_dvd_left.mpr (Nat.gcd_dvd_right _ _))
theorem low_pos {a b : Int} (hb : 0 < b) : 0 < lowB a b := by
  have h := gcd_bot a b
  have hg := gcd_pos (a := a) hb
  rcases Int.lt_or_le 0 (lowB a b) with h2 | h2
  · exact h2
  · have := Int.mul_nonpos_of_nonneg_of_nonpos (Int.le_of_lt hg) h2
    omega
theorem low_abs {a b : Int} (hb : 0 < b) : (lowT a b).natAbs ≤ a.natAbs ∧ (lowB a b).natAbs ≤ b.natAbs := by
  have hg := gcd_pos (a := a) hb
  have h1 := congrArg Int.natAbs (gcd_top a b)
  have h2 := congrArg Int.natAbs (gcd_bot a b)
  rw [Int.natAbs_mul] at h1 h2
  have hg2 : 0 < (gcdI a b).natAbs := by omega
  exact ⟨by rw [← h1]; exact Nat.le_mul_of_pos_left _ hg2, by rw [← h2]; exact Nat.le_mul_of_pos_left _ hg2⟩
theorem low_gcd {a b : Int} (hb : 0 < b) : gcdI (lowT a b) (lowB a b) = 1 := by
  have hp : 0 < Nat.gcd a.natAbs b.natAbs := Nat.gcd_pos_of_pos_right _ (by omega)
  have h1 := congrArg Int.natAbs (gcd_top a b)
  have h2 := congrArg Int.natAbs (gcd_bot a b)
  rw [Int.natAbs_mul] at h1 h2
  have e : (gcdI a b).natAbs = Nat.gcd a.natAbs b.natAbs := Int.natAbs_natCast _
  rw [e] at h1 h2
  have h : Nat.gcd a.natAbs b.natAbs * Nat.gcd (lowT a b).natAbs (lowB a b).natAbs = Nat.gcd a.natAbs b.natAbs * 1 := by
    rw [← Nat.gcd_mul_left, h1, h2, Nat.mul_one]
  unfold gcdI
  rw [Nat.eq_of_mul_eq_mul_left hp h]
  rfl
/-- what a share's chance is does not turn on how the share is handed -/
theorem told_ok {T B f : Int} {n l : Nat} (hT : 0 ≤ T) (hB : 0 < B) (hf : 0 < f) :
    let t := lowT (T * f) (B * f); let b := lowB (T * f) (B * f); let s := tailS t (b - t) n l
    lowT s (b ^ n) * B ^ n = tailS T (B - T) n l * lowB s (b ^ n) := by
  intro t b s
  have hBf : 0 < B * f := Int.mul_pos hB hf
  have hb : 0 < b := low_pos hBf
  have hbn : 0 < b ^ n := Int.pow_pos hb
  have hg : 0 < gcdI (T * f) (B * f) := gcd_pos hBf
  have e1 : gcdI (T * f) (B * f) * t = T * f := gcd_top _ _
  have e2 : gcdI (T * f) (B * f) * b = B * f := gcd_bot _ _
  generalize gcdI (T * f) (B * f) = g at *
  have e3 : g ^ n * s = f ^ n * tailS T (B - T) n l := by
    rw [← tail_scale, ← tail_scale, e1, Int.mul_sub, e1, e2, Int.mul_comm T, Int.mul_comm B, Int.mul_sub]
  have e4 : g ^ n * b ^ n = f ^ n * B ^ n := by rw [← Int.mul_pow, ← Int.mul_pow, e2, Int.mul_comm B]
  have hgn : 0 < g ^ n := Int.pow_pos hg
  have hfn : 0 < f ^ n := Int.pow_pos hf
  have hG : 0 < gcdI s (b ^ n) := gcd_pos hbn
  have e5 := gcd_top s (b ^ n)
  have e6 := gcd_bot s (b ^ n)
  generalize tailS T (B - T) n l = S at *
  have e7 : s * B ^ n = S * b ^ n := by
    have h : (g ^ n * f ^ n) * (s * B ^ n) = (g ^ n * f ^ n) * (S * b ^ n) := by
      calc (g ^ n * f ^ n) * (s * B ^ n) = (g ^ n * s) * (f ^ n * B ^ n) := by ac_rfl
        _ = (f ^ n * S) * (g ^ n * b ^ n) := by rw [e3, e4]
        _ = (g ^ n * f ^ n) * (S * b ^ n) := by ac_rfl
    exact Int.eq_of_mul_eq_mul_left (Int.ne_of_gt (Int.mul_pos hgn hfn)) h
  refine Int.eq_of_mul_eq_mul_left (Int.ne_of_gt hG) ?_
  calc gcdI s (b ^ n) * (lowT s (b ^ n) * B ^ n) = (gcdI s (b ^ n) * lowT s (b ^ n)) * B ^ n := by ac_rfl
    _ = S * b ^ n := by rw [e5, e7]
    _ = S * (gcdI s (b ^ n) * lowB s (b ^ n)) := by rw [e6]
    _ = gcdI s (b ^ n) * (S * lowB s (b ^ n)) := by ac_rfl
theorem lenk_lowest : ∀ (ds : List Dt) (r : Dt), F_lowest ds = some r → ds.length = 2 := by
  intro ds r h
  match ds, h with
  | [.int _, .int _], _ => rfl
theorem big_lt {x : Int} {n : Nat} (h : x.natAbs < 2 ^ n) (hn : n ≤ 400000 := by decide) : x.natAbs < BIG := big_of h hn
theorem gcd_le {a b : Int} (hb : 0 < b) : (gcdI a b).natAbs ≤ b.natAbs := by
  unfold gcdI
  rw [Int.natAbs_natCast]
  exact Nat.gcd_le_right _ (by omega)
theorem kk_lowest : Keeps 3 cw_lowest F_lowest := by
  intro ds r h
  match ds, h with
  | [.int t, .int b], h =>
    simp only [F_lowest] at h
    split at h
    case isFalse => cases h
    rename_i hk
    cases h
    have hg := gcd_pos (a := t) hk.1
    have hgl : (gcdI t b).natAbs < DIVB := by
      rw [DIVB_eq]
      exact Nat.lt_of_le_of_lt (gcd_le hk.1) (Nat.lt_trans hk.2 (Nat.pow_lt_pow_right (by decide) (by decide)))
    show cw_lowest _ [.val (.int t), .val (.int b), .non]
    refine q_ifD (p := b = 0) (by walk_at "pe") (fun e => absurd e (by omega)) fun _ => s_nil ?_
    refine q_asg (r := .vis (.int (gcdI t b))) (by walk_at "pe"; rfl) rfl rfl ?_
    refine q_ifD (p := b < 0) (by walk_at "pe") (fun e => absurd e (by omega)) fun _ => s_nil ?_
    exact s_ret (r := .vis (.tup [.int (lowT t b), .int (lowB t b)])) (by walk_at "pe"; rw [pDiv_int hg hgl, pDiv_int hg hgl]; walk_at "pe"; rfl) rfl rfl rfl
theorem low_at {t b : Int} (h : 0 < b) (h2 : b.natAbs < 2 ^ 8000) : F_lowest [.int t, .int b] = some (.tup [.int (lowT t b), .int (lowB t b)]) := if_pos ⟨h, h2⟩
theorem lenk_powers_of : ∀ (ds : List Dt) (r : Dt), F_powers_of ds = some r → ds.length = 2 := by
  intro ds r h
  match ds, h with
  | [.int _, .int _], _ => rfl
theorem pows_snoc (x : Int) (n : Nat) : (powsM x n).map Dt.int = ((List.range n).map (x ^ ·)).map Dt.int ++ [.int (x ^ n)] := by
  unfold powsM
  rw [List.range_succ, List.map_append, List.map_append]
  rfl
theorem pows_succ (x : Int) (n : Nat) : powsM x (n + 1) = powsM x n ++ [x ^ n * x] := by
  unfold powsM
  rw [List.range_succ, List.map_append, List.map_cons, List.map_nil, Int.pow_succ]
theorem pows_zero (x : Int) : powsM x 0 = [1] := by
  show [x ^ 0] = [1]
  rw [Int.pow_zero]
theorem pows_len (x : Int) (n : Nat) : (powsM x n).length = n + 1 := by
  unfold powsM
  rw [List.length_map, List.length_range]
theorem pows_get {x : Int} {n i : Nat} (h : i ≤ n) : (powsM x n)[i]? = some (x ^ i) := by
  unfold powsM
  rw [List.getElem?_map, List.getElem?_range (by omega)]
  rfl
theorem kk_powers_of : Keeps 4 cw_powers_of F_powers_of := by
  intro ds r h
  match ds, h with
  | [.int x, .int n], h =>
    simp only [F_powers_of] at h
    split at h
    case isFalse => cases h
    rename_i hk
    cases h
    obtain ⟨n, rfl⟩ : ∃ k : Nat, n = k := ⟨n.toNat, by omega⟩
    rw [Int.toNat_natCast]
    show cw_powers_of _ [.val (.int x), .val (.int n), .non, .non]
    refine q_asg (r := .fre (.lst ((powsM x 0).map .int))) (by walk_at "pe"; rw [pows_zero]; rfl) rfl rfl ?_
    refine q_forRng (lo := 0) (n := n) (fun i e => ∃ z, e = [.val (.int x), .val (.int n), .own (.lst ((powsM x i).map .int)), z]) (by rw [rng1 (n := (n : Int)) rfl (by omega), Int.toNat_natCast]) ⟨_, rfl⟩ ?_ ?_
    · rintro i env hi ⟨z, rfl⟩
      refine ⟨_, by walk_at "pe"; rfl, ?_⟩
      refine s_app (d := .int (x ^ i * x)) rfl (r := .vis (.int (x ^ i * x))) ?_ rfl (by rw [List.length_map, pows_len]; exact lim_lt (by omega)) rfl rfl ⟨.val (.int (0 + (i : Int))), ?_⟩
      · walk_at "pe"
        rw [pows_snoc, atL_last]
        walk_at "pe"
        have hx : x.natAbs ≤ 2 ^ 20 := by omega
        rw [pMul_int (big_lt (n := 20 * i + 1) (lt_bits (pow_bits hx i) (by omega)) (by omega)) (big_lt (n := 20) hk.2.2)]
      · rw [pows_succ, List.map_append]
        rfl
    · rintro env ⟨z, rfl⟩
      exact q_frz rfl rfl (s_ret (r := .vis (ilst (powsM x n))) (by walk_at "pe"; rfl) rfl rfl rfl)
theorem pows_at {x : Int} {n : Nat} (h : n ≤ 1000) (h2 : x.natAbs < 2 ^ 20) : F_powers_of [.int x, .int (n : Int)] = some (ilst (powsM x n)) := by
  show (if 0 ≤ (n : Int) ∧ (n : Int) ≤ 1000 ∧ x.natAbs < 2 ^ 20 then some (ilst (powsM x (n : Int).toNat)) else none) = _
  rw [if_pos ⟨by omega, by omega, h2⟩, Int.toNat_natCast]
theorem lenk_ways_of : ∀ (ds : List Dt) (r : Dt), F_ways_of ds = some r → ds.length = 4 := by
  intro ds r h
  match ds, h with
  | [_, _, .int _, .int _], _ => rfl
theorem kk_ways_of : Keeps 4 cw_ways_of F_ways_of := by
  intro ds r h
  match ds, h with
  | [hp, mp, .int n, .int j], h =>
    simp only [F_ways_of] at h
    split at h
    case isFalse => cases h
    rename_i hk
    obtain ⟨⟨e1, e2⟩, ⟨j0, jn, n1⟩, ⟨l1, l2⟩, b1, b2⟩ := hk
    cases h
    generalize hp.toIs = xs at *
    generalize mp.toIs = ys at *
    subst e1 e2
    obtain ⟨n, rfl⟩ : ∃ k : Nat, n = k := ⟨n.toNat, by omega⟩
    obtain ⟨j, rfl⟩ : ∃ k : Nat, j = k := ⟨j.toNat, by omega⟩
    rw [Int.toNat_natCast, Int.toNat_natCast, show ((n : Int) - (j : Int)).toNat = n - j by omega]
    have g1 : xs[j]? = some (xs.getD j 0) := by
      rw [List.getD_eq_getElem?_getD, List.getElem?_eq_getElem (by omega)]
      rfl
    have g2 : ys[n - j]? = some (ys.getD (n - j) 0) := by
      rw [List.getD_eq_getElem?_getD, List.getElem?_eq_getElem (by omega)]
      rfl
    have z1 := b1 _ (List.mem_of_getElem? g1)
    have z2 := b2 _ (List.mem_of_getElem? g2)
    generalize xs.getD j 0 = x at *
    generalize ys.getD (n - j) 0 = y at *
    have hc : ((chooseN n j : Int)).natAbs ≤ 2 ^ n := by
      rw [Int.natAbs_natCast]
      exact choose_le n j
    show cw_ways_of _ [.val (ilst xs), .val (ilst ys), .val (.int n), .val (.int j)]
    refine s_ret (r := .vis (.int ((chooseN n j : Int) * x * y))) ?_ rfl rfl rfl
    walk_at "pe"
    rw [pComb_nat (by omega), show pIx (ilst xs) (.int (j : Int)) = _ from pIx_iseq (b := false) (Int.natCast_nonneg j) (by rw [Int.toNat_natCast]; exact g1)]
    walk_at "pe"
    rw [pMul_int (big_lt (n := n + 1) (lt_bits hc (by omega)) (by omega)) (big_lt z1), show ((n : Int) - (j : Int)) = ((n - j : Nat) : Int) by omega, show pIx (ilst ys) (.int ((n - j : Nat) : Int)) = _ from pIx_iseq (b := false) (Int.natCast_nonneg _) (by rw [Int.toNat_natCast]; exact g2)]
    walk_at "pe"
    rw [pMul_int (big_lt (n := n + 21000 + 1) (lt_bits (mul_bits hc (Nat.le_of_lt z1)) (by omega)) (by omega)) (big_lt z2)]
theorem ways_at {t m : Int} {n j : Nat} (hj : j ≤ n) (hn : n ≤ 1000) (ht : t.natAbs < 2 ^ 20) (hm : m.natAbs < 2 ^ 20) : F_ways_of [ilst (powsM t n), ilst (powsM m n), .int (n : Int), .int (j : Int)] = some (.int (termM t m n j)) := by
  have hb : ∀ (x : Int), x.natAbs < 2 ^ 20 → ∀ y ∈ powsM x n, y.natAbs < 2 ^ 21000 := fun x hx y hy => by
    obtain ⟨i, hi, rfl⟩ := List.mem_map.mp hy
    have := List.mem_range.mp hi
    exact lt_bits (pow_bits (Nat.le_of_lt hx) i) (by omega)
  simp only [F_ways_of]
  rw [toIs_ilst, toIs_ilst, if_pos]
  · rw [Int.toNat_natCast, Int.toNat_natCast, show ((n : Int) - (j : Int)).toNat = n - j by omega, List.getD_eq_getElem?_getD, List.getD_eq_getElem?_getD, pows_get hj, pows_get (Nat.sub_le n j)]
    rfl
  · exact ⟨⟨rfl, rfl⟩, ⟨by omega, by omega, by omega⟩, ⟨by rw [pows_len]; omega, by rw [pows_len]; omega⟩, hb t ht, hb m hm⟩
theorem lenk_tail : ∀ (ds : List Dt) (r : Dt), F_tail ds = some r → ds.length = 3 := by
  intro ds r h
  match ds, h with
  | [.int _, _, .int _], _ => rfl
theorem sum_take_succ {l : List Int} {i : Nat} {x : Int} (h : l[i]? = some x) : (l.take (i + 1)).sum = (l.take i).sum + x := by
  rw [List.take_add_one, h, List.sum_append]
  simp
theorem sh_bits {T B : Int} (ok : OkSh T B) : (lowT T B).natAbs < 2 ^ 20 ∧ (lowB T B).natAbs < 2 ^ 20 ∧ (lowB T B - lowT T B).natAbs < 2 ^ 20 ∧ 0 < lowB T B := by
  have h := low_abs (a := T) ok.b0
  have hp := low_pos (a := T) ok.b0
  have h1 := ok.t0
  have h2 := ok.tb
  have h3 := ok.b1
  have hg := gcd_pos (a := T) ok.b0
  have ht : 0 ≤ lowT T B := Int.ediv_nonneg h1 (Int.le_of_lt hg)
  omega
theorem kk_tail : Keeps 9 cw_tail F_tail := by
  intro ds r h
  match ds, h with
  | [.int n, sh, .int l], h =>
    simp only [F_tail] at h
    split at h
    case isFalse => cases h
    rename_i hk
    obtain ⟨⟨b, T, B, rfl, ok⟩, n0, n1, l0, l1⟩ := hk
    cases h
    obtain ⟨n, rfl⟩ : ∃ k : Nat, n = k := ⟨n.toNat, by omega⟩
    obtain ⟨l, rfl⟩ : ∃ k : Nat, l = k := ⟨l.toNat, by omega⟩
    rw [toIs_iseq, Int.toNat_natCast, Int.toNat_natCast]
    show cw_tail ⟨_, fun d => d = .tup [.int (lowT (tailS (lowT T B) (lowB T B - lowT T B) n l) (lowB T B ^ n)), .int (lowB (tailS (lowT T B) (lowB T B - lowT T B) n l) (lowB T B ^ n))], _, _⟩ [.val (.int n), .val (iseq b [T, B]), .val (.int l), .non, .non, .non, .non, .non, .non]
    have i0 : pIx (iseq b [T, B]) (.int 0) = some (.vis (.int T)) := pIx_iseq (by decide) rfl
    have i1 : pIx (iseq b [T, B]) (.int 1) = some (.vis (.int B)) := pIx_iseq (by decide) rfl
    have hlow : F_lowest [.int T, .int B] = some (.tup [.int (lowT T B), .int (lowB T B)]) := low_at ok.b0 (Nat.lt_of_lt_of_le (show B.natAbs < 2 ^ 20 by have := ok.b1; have := ok.b0; omega) (Nat.pow_le_pow_right (by decide) (by decide)))
    obtain ⟨z1, z2, z3, z4⟩ := sh_bits ok
    generalize lowT T B = t at *
    generalize lowB T B = c at *
    have hcn : 0 < c ^ n := Int.pow_pos z4
    have hcb : (c ^ n).natAbs < 2 ^ 8000 := lt_bits (pow_bits (Nat.le_of_lt z2) n) (by omega)
    refine q_unp (d := .tup [.int t, .int c]) (by walk_at "pe"; rw [i0, i1]; walk_at "pe"; rw [hlow]; walk_at "pe") rfl ?_
    refine q_asg (r := .vis (ilst (powsM t n))) (by walk_at "pe"; rw [pows_at (by omega) z1]; walk_at "pe") rfl rfl ?_
    refine q_asg (r := .vis (ilst (powsM (c - t) n))) (by walk_at "pe"; rw [pows_at (by omega) z3]; walk_at "pe") rfl rfl ?_
    refine q_asg (r := .vis (.int 0)) (by walk_at "pe") rfl rfl ?_
    generalize hts : ((List.range (n + 1)).drop l).map (termM t (c - t) n) = ts
    have htl : ts.length = n + 1 - l := by rw [← hts, List.length_map, List.length_drop, List.length_range]
    refine q_forRng (lo := (l : Int)) (n := n + 1 - l) (fun i e => ∃ z, e = [.val (.int n), .val (iseq b [T, B]), .val (.int l), .val (ilst (powsM t n)), .val (ilst (powsM (c - t) n)), .val (.int ((ts.take i).sum)), z, .val (.int t), .val (.int c)])
      (by rw [rng2 (lo := (l : Int)) (hi := (n : Int) + 1) rfl (by walk_at "pe"), show ((n : Int) + 1 - (l : Int)).toNat = n + 1 - l by omega]) ⟨_, rfl⟩ ?_ ?_
    · rintro i env hi ⟨z, rfl⟩
      refine ⟨_, by walk_at "pe"; rfl, ?_⟩
      have hg : ts[i]? = some (termM t (c - t) n (l + i)) := by
        rw [← hts, List.getElem?_map, List.getElem?_drop, List.getElem?_range (by omega)]
        rfl
      refine s_asg (r := .vis (.int ((ts.take (i + 1)).sum))) ?_ rfl rfl ⟨_, rfl⟩
      walk_at "pe"
      rw [show ((l : Int) + (i : Int)) = ((l + i : Nat) : Int) by omega, ways_at (by omega) (by omega) z1 z3]
      walk_at "pe"
      rw [sum_take_succ hg]
    · rintro env ⟨z, rfl⟩
      rw [← htl, List.take_length]
      refine s_ret (r := .vis _) ?_ rfl rfl rfl
      walk_at "pe"
      rw [pows_at (by omega) z2]
      walk_at "pe"
      rw [show pIx (ilst (powsM c n)) (.int (n : Int)) = _ from pIx_iseq (b := false) (Int.natCast_nonneg n) (by rw [Int.toNat_natCast]; exact pows_get (Nat.le_refl n))]
      walk_at "pe"
      rw [low_at hcn hcb]
      walk_at "pe"
      rw [← hts]
      rfl
theorem tail_at {b : Bool} {T B : Int} {n l : Nat} (ok : OkSh T B) (hn : n ≤ 200) (hl : l ≤ n + 1) :
    F_tail [.int (n : Int), iseq b [T, B], .int (l : Int)] = some (.tup [.int (lowT (tailS (lowT T B) (lowB T B - lowT T B) n l) (lowB T B ^ n)), .int (lowB (tailS (lowT T B) (lowB T B - lowT T B) n l) (lowB T B ^ n))]) := by
  simp only [F_tail]
  rw [toIs_iseq, if_pos ⟨⟨b, T, B, rfl, ok⟩, by omega, by omega, by omega, by omega⟩, Int.toNat_natCast, Int.toNat_natCast]
  rfl
def rowW (t m : Int) (n : Nat) : List Int := (List.range (n + 1)).map (termM t m n)
theorem rowW_len (t m : Int) (n : Nat) : (rowW t m n).length = n + 1 := by
  unfold rowW
  rw [List.length_map, List.length_range]
theorem rowW_get {t m : Int} {n j : Nat} (h : j ≤ n) : (rowW t m n)[j]? = some (termM t m n j) := by
  unfold rowW
  rw [List.getElem?_map, List.getElem?_range (by omega)]
  rfl
theorem term_above {t m : Int} {n j : Nat} (h : n < j) : termM t m n j = 0 := by
  unfold termM
  rw [ch_above h, Int.natCast_zero, Int.zero_mul, Int.zero_mul]
theorem term_zero {t m : Int} {n : Nat} : termM t m (n + 1) 0 = m * termM t m n 0 := by
  unfold termM
  rw [ch_zero, ch_zero, Nat.sub_zero, Nat.sub_zero, Int.pow_succ, Int.pow_zero]
  simp only [Int.natCast_one, Int.one_mul, Int.mul_one]
  exact Int.mul_comm _ _
theorem term_succ {t m : Int} {n j : Nat} (h : j ≤ n) : termM t m (n + 1) (j + 1) = m * termM t m n (j + 1) + t * termM t m n j := by
  unfold termM
  show ((chooseN n j + chooseN n (j + 1) : Nat) : Int) * t ^ (j + 1) * m ^ (n + 1 - (j + 1)) = _
  rw [Nat.add_sub_add_right, Int.natCast_add, Int.add_mul, Int.add_mul]
  rcases Nat.lt_or_ge j n with h2 | h2
  · have e : n - j = (n - (j + 1)) + 1 := by omega
    rw [e, Int.pow_succ m, Int.pow_succ t]
    rw [Int.add_comm]
    congr 1 <;> ac_rfl
  · have e : j = n := by omega
    subst e
    rw [ch_above (Nat.lt_succ_self j), Int.natCast_zero, Int.zero_mul, Int.zero_mul, Int.zero_mul, Int.mul_zero, Int.add_zero, Int.zero_add, Int.pow_succ]
    ac_rfl
theorem rowW_drop (t m : Int) (n l : Nat) : ((rowW t m n).drop l).sum = tailS t m n l := by
  unfold rowW tailS
  rw [List.map_drop]
end Pyl
end
section
set_option Elab.async false
set_option linter.all false
set_option maxHeartbeats 1000000
namespace Pyl
open PySem
/-! shares: plus, times, sum_of, compare; the law's own gcd; digits of great sizes -/
local macro_rules | `(tactic| walk_at "pe") => `(tactic| simp (config := { implicitDefEqProofs := false }) only [eVar_at, eC_at, e1_at, e2_at, aNil_at, aCons_at, eTup_at, eLst_at, plain_nil, plain_cons, eCall_at, eIf_at, eAnd_at, eOr_at, eNot_at, tVal_at, tAnd_at, tOr_at, tNot_at, tYes_at,
  pAdd_int, pSub_int, pNeg_int, pLt_int, pLe_int, pGt_int, pGe_int, pEq_int, pNe_int, pIsN_at, pNotN_at, pIx_lst, pIx_tup, pGcd_int, atL0, atL1, atL2, atL3, atL4, atL5, atL6, atL7, atL8, oNone_at, oSome_at, eSlice_at, pLen_lst, pLen_tup, pInt_int, pInt_bl, pAbs_int, pSum_ints, pMax2_int, pMin2_int, pList_lst, pList_tup, pTuple_lst, pTuple_tup, iSeq_at, gN_at, gT_at, gsN_cons, gsN_nil, wipeS_cons, wipeS_nil,
  dt_vis, dt_bor, dt_fre, sh_vis, sh_bor, sh_fre, slot_vis, slot_fre, od_dt, isNon_non, isNon_int, isNon_lst, isNon_tup, scalar_int, scalar_bl, scalar_non, Option.bind_some, Option.bind_none, Option.map_some, Option.map_none, List.getElem?_cons_zero, List.getElem?_cons_succ, List.set_cons_zero, List.set_cons_succ, List.map_cons, List.map_nil, List.any_cons, List.any_nil, Bool.or_false, Bool.false_or, Bool.false_and, Bool.and_true, Bool.true_and, Bool.not_true, Bool.not_false,
  Option.some.injEq, exists_eq_left', exists_eq_left, true_and, and_true, if_true, if_false, Bool.false_eq_true, ite_true, ite_false, reduceIte, decide_eq_true_eq, decide_eq_false_iff_not, R.vis.injEq, R.fre.injEq, Dt.lst.injEq, Dt.tup.injEq, Dt.int.injEq, Slot.own.injEq, OD.lst.injEq, reduceCtorEq, false_and, exists_false, exists_const, Bool.true_eq_false, false_implies, true_implies, implies_true, forall_const])

@[irreducible] def BIGS : Nat := 2 ^ 8000
theorem BIGS_eq : BIGS = 2 ^ 8000 := by unfold BIGS; rfl
theorem divW {x : Int} (h0 : 0 < x) (h : x.natAbs < BIGS) : x.natAbs < DIVB := by
  rw [DIVB_eq]
  rw [BIGS_eq] at h
  exact Nat.lt_of_lt_of_le h (Nat.pow_le_pow_right (by decide) (by decide))
theorem bigs_of {x : Int} {n : Nat} (h : x.natAbs < 2 ^ n) (hn : n ≤ 8000) : x.natAbs < BIGS := by
  rw [BIGS_eq]
  exact Nat.lt_of_lt_of_le h (Nat.pow_le_pow_right (by decide) hn)
theorem bigs64 {x : Int} (h0 : 0 < x) (h2 : x < 18446744073709551616) : x.natAbs < BIGS := bigs_of (n := 64) (by omega) (by decide)
def sizeOkW (sizes : List Int) : Prop := (∀ s ∈ sizes, 0 < s ∧ s.natAbs < BIGS) ∧ sizes.length ≤ 100000
open Classical in
noncomputable def F_digitsW : FN := fun ds => match ds with
  | [.int c, .lst xs] => (intsOf xs).bind fun ns => if sizeOkW ns then some (.lst ((digitsM c ns).map .int)) else none
  | _ => none
theorem F_digitsW_at {c : Int} {ns : List Int} (h : sizeOkW ns) : F_digitsW [.int c, ilst ns] = some (ilst (digitsM c ns)) := by
  show (intsOf (ns.map .int)).bind _ = _
  rw [intsOf_ints]
  exact if_pos h
theorem len_digitsW : ∀ (ds : List Dt) (r : Dt), F_digitsW ds = some r → ds.length = 2 := by
  intro ds r h
  match ds, h with
  | [.int _, .lst _], _ => rfl
theorem k_digitsW : Keeps 8 cw_digits F_digitsW := by
  intro ds r h
  match ds, h with
  | [.int c, .lst xs], h =>
    obtain ⟨ns, h1, h⟩ := Option.bind_eq_some_iff.mp h
    split at h
    case isFalse => cases h
    rename_i hk
    cases h
    rw [intsOf_some h1]
    obtain ⟨hp, hlen⟩ := hk
    have hsz : (List.map Dt.int ns).length = ns.length := List.length_map _
    show cw_digits _ [.val (.int c), .val (.lst (ns.map .int)), .non, .non, .non, .non, .non, .non]
    refine q_asg (r := .fre (.lst [])) (by walk_at "pe") rfl rfl ?_
    refine q_asg (r := .vis (.int c)) (by walk_at "pe") rfl rfl ?_
    refine q_ifD (p := 1000000000000000000 ≤ c) (by walk_at "pe"; rw [pow18]; walk_at "pe") (fun hge => ?_) fun hlt => ?_
    · refine q_asg (r := .vis (.int (c - 1000000000000000000))) (by walk_at "pe"; rw [pow18]; walk_at "pe") rfl rfl ?_
      refine q_forMap (u := Dt.int) (xs := ns) (fun i e => ∃ z acc rest, e = [.val (.int c), .val (.lst (ns.map .int)), .own (.lst (acc.map .int)), .val (.int rest), .non, .non, z, .non] ∧ acc.length = i ∧ acc ++ digA rest (ns.drop i) = digitsM c ns) (by walk_at "pe") ⟨_, [], c - 1000000000000000000, rfl, rfl, ?_⟩ ?_ ?_
      · unfold digitsM
        rw [if_pos hge]
        rfl
      · rintro i env x hx ⟨z, acc, rest, rfl, hl, he⟩
        have hx2 := hp x (List.mem_of_getElem? hx)
        have hi := (List.getElem?_eq_some_iff.mp hx).1
        refine ⟨_, by walk_at "pe"; rfl, ?_⟩
        refine q_app (d := .int (rest % x)) rfl (r := .vis _) (by walk_at "pe"; rw [pMod_int hx2.1]) rfl (by rw [List.length_map]; exact lim_lt (by omega)) rfl rfl ?_
        refine s_asg (r := .vis (.int (rest / x))) (by walk_at "pe"; rw [pDiv_int hx2.1 (divW hx2.1 hx2.2)]) rfl rfl ⟨.val (.int x), acc ++ [rest % x], rest / x, ?_, ?_, ?_⟩
        · rw [List.map_append]
          rfl
        · rw [List.length_append, hl]
          rfl
        · rw [List.append_assoc, ← he, drop_cons_get hx]
          rfl
      · rintro env ⟨z, acc, rest, rfl, hl, he⟩
        rw [List.drop_length] at he
        have he : acc = digitsM c ns := by rw [← he]; exact (List.append_nil _).symm
        subst he
        exact q_frz rfl rfl (s_ret (r := .vis _) (by walk_at "pe") rfl rfl rfl)
    · refine s_nil ?_
      refine q_asg (r := .vis (.int (c % 2147483629))) (by walk_at "pe"; rw [pMod_int (by decide)]) rfl rfl ?_
      refine q_forRng (lo := 0) (n := ns.length) (fun i e => ∃ z z7 acc seed, e = [.val (.int c), .val (.lst (ns.map .int)), .own (.lst (acc.map .int)), .val (.int c), .val (.int seed), z, .non, z7] ∧ acc.length = i ∧ 0 ≤ seed ∧ seed < 2147483647 ∧ acc ++ digB seed i (ns.drop i) = digitsM c ns)
        (by rw [rng1 (n := (ns.length : Int)) (by walk_at "pe"; rw [hsz]) (by omega)]; rw [Int.toNat_natCast]) ⟨_, _, [], c % 2147483629, rfl, rfl, Int.emod_nonneg _ (by decide), ?_, ?_⟩ ?_ ?_
      · have := Int.emod_lt_of_pos c (show (0 : Int) < 2147483629 by decide)
        omega
      · unfold digitsM
        rw [if_neg hlt]
        rfl
      · rintro i env hi ⟨z, z7, acc, seed, rfl, hl, hs0, hs1, he⟩
        have hg : ns[i]? = some ns[i] := List.getElem?_eq_getElem hi
        have hx2 := hp ns[i] (List.mem_of_getElem? hg)
        have hb0 : 0 ≤ stepB seed i := Int.emod_nonneg _ (by decide)
        have hb1 : stepB seed i < 2147483647 := Int.emod_lt_of_pos _ (by decide)
        refine ⟨_, by walk_at "pe"; rfl, ?_⟩
        refine q_asg (r := .vis (.int (stepB seed i))) ?_ rfl rfl ?_
        · walk_at "pe"
          rw [pMul_int (big64 (by omega) (by omega)) (big64 (by decide) (by decide)), pMul_int (big64 (by decide) (by decide)) (big64 (by omega) (by omega))]
          walk_at "pe"
          rw [pMod_int (by decide)]
          unfold stepB
          rw [Int.zero_add]
        have hq0 : 0 ≤ stepB seed i / 65537 := Int.ediv_nonneg hb0 (by decide)
        have hq1 : stepB seed i / 65537 < 40000 := by omega
        refine q_asg (r := .vis (.int (takeB (stepB seed i)))) ?_ rfl rfl ?_
        · walk_at "pe"
          rw [pDiv_int (by decide) (div64 (by decide) (by decide))]
          walk_at "pe"
          rw [pMul_int (big64 (by omega) (by omega)) (big64 (by omega) (by omega))]
          walk_at "pe"
          rw [pMod_int (by decide)]
          rfl
        refine s_app (d := .int (takeB (stepB seed i) / 19 % ns[i])) rfl (r := .vis _) ?_ rfl (by rw [List.length_map]; exact lim_lt (by omega)) rfl rfl ⟨.val (.int (0 + (i : Int))), .val (.int (takeB (stepB seed i))), acc ++ [takeB (stepB seed i) / 19 % ns[i]], stepB seed i, ?_, ?_, hb0, hb1, ?_⟩
        · walk_at "pe"
          rw [pDiv_int (by decide) (div64 (by decide) (by decide)), Int.zero_add, atL_nat, List.getElem?_map, hg]
          walk_at "pe"
          rw [pMod_int hx2.1]
        · rw [List.map_append]
          rfl
        · rw [List.length_append, hl]
          rfl
        · rw [List.append_assoc, ← he, drop_cons_get hg]
          rfl
      · rintro env ⟨z, z7, acc, seed, rfl, hl, hs0, hs1, he⟩
        rw [List.drop_length] at he
        have he : acc = digitsM c ns := by rw [← he]; exact (List.append_nil _).symm
        subst he
        exact q_frz rfl rfl (s_ret (r := .vis _) (by walk_at "pe") rfl rfl rfl)
theorem half_step {l r : Nat} (h : r ≤ l) (hr : 0 < r) : 2 * (r * (l % r)) ≤ l * r := by
  have h1 := Nat.mod_lt l hr
  have h2 : l % r + r ≤ l := by
    have := Nat.div_add_mod l r
    have h3 : 1 ≤ l / r := Nat.div_pos h hr
    have h4 : r * 1 ≤ r * (l / r) := Nat.mul_le_mul_left r h3
    omega
  have h3 : 2 * (l % r) ≤ l := by omega
  calc 2 * (r * (l % r)) = r * (2 * (l % r)) := by ac_rfl
    _ ≤ r * l := Nat.mul_le_mul_left r h3
    _ = l * r := Nat.mul_comm r l

/-! the law's own gcd: N turns at most -/
def cw_gcdN (N : Nat) : WS := (wSeq (wAsg 2 (e1 pAbs (eVar 0)))
  (wSeq (wAsg 3 (e1 pAbs (eVar 1)))
  (wSeq (wFor (iRange1 (eC (.int N))) (gN 4)
  (wSeq (wIf (tVal (e2 pEq (eVar 3) (eC (.int 0))))
  wBrk
  wNil)
  (wSeq (wAsg 5 (e2 pMod (e1 pInt (eVar 2)) (eVar 3)))
  (wSeq (wAsg 2 (eVar 3))
  (wAsg 3 (eVar 5))))))
  (wRet (eVar 2)))))
def F_gcdN (N : Nat) : FN := fun ds => match ds with
  | [.int a, .int b] => if a.natAbs * b.natAbs < 2 ^ (N - 2) ∧ 2 ≤ N ∧ N < 1000000 then some (.int (gcdI a b)) else none
  | _ => none
theorem gcdN_shape {N : Nat} {ds : List Dt} {r : Dt} (h : F_gcdN N ds = some r) : ∃ a b, ds = [.int a, .int b] ∧ (a.natAbs * b.natAbs < 2 ^ (N - 2) ∧ 2 ≤ N ∧ N < 1000000) ∧ r = .int (gcdI a b) := by
  unfold F_gcdN at h
  split at h
  · split at h
    · rename_i hk
      exact ⟨_, _, rfl, hk, (Option.some.inj h).symm⟩
    · cases h
  · cases h
theorem len_gcdN {N : Nat} : ∀ (ds : List Dt) (r : Dt), F_gcdN N ds = some r → ds.length = 2 := by
  intro ds r h
  obtain ⟨a, b, rfl, _⟩ := gcdN_shape h
  rfl
theorem kk_gcdN (N : Nat) : Keeps 6 (cw_gcdN N) (F_gcdN N) := by
  intro ds r h
  obtain ⟨a, b, rfl, ⟨hk, hN2, hN⟩, rfl⟩ := gcdN_shape h
  have habs : ∀ x : Int, (if x < 0 then -x else x) = (x.natAbs : Int) := fun x => by split <;> omega
  show cw_gcdN N _ [.val (.int a), .val (.int b), .non, .non, .non, .non]
  refine q_asg (r := .vis (.int (a.natAbs : Int))) (by walk_at "pe"; rw [habs]) rfl rfl ?_
  refine q_asg (r := .vis (.int (b.natAbs : Int))) (by walk_at "pe"; rw [habs]) rfl rfl ?_
  have hgcd : gcdI a b = (Nat.gcd a.natAbs b.natAbs : Nat) := rfl
  rw [hgcd]
  have hP : a.natAbs * b.natAbs < 2 ^ (N - 2) := hk
  generalize hE : N - 2 = E at hP
  generalize a.natAbs = x at *
  generalize b.natAbs = y at *
  generalize hg : Nat.gcd x y = g
  refine q_forRng (lo := 0) (n := N) (fun i e => ∃ (l r : Nat) (z1 z2 : Slot), e = [.val (.int a), .val (.int b), .val (.int (l : Int)), .val (.int (r : Int)), z1, z2] ∧ Nat.gcd l r = g ∧ (i = 0 ∨ (r ≤ l ∧ l * r * 2 ^ (i - 1) < 2 ^ E)) ∧ (i = 0 → l * r < 2 ^ E)) (by rw [rng1 (n := (N : Int)) rfl (by omega)]; rfl) ⟨x, y, _, _, rfl, hg, Or.inl rfl, fun _ => hP⟩ ?_ ?_
  · rintro i env hi ⟨l, r, z1, z2, rfl, hgl, hor, hz⟩
    refine ⟨_, by walk_at "pe"; rfl, ?_⟩
    refine q_ifD (p := (r : Int) = 0) (by walk_at "pe") (fun e => ?_) fun hr => s_nil ?_
    · show wRet _ _ _
      have e2 : r = 0 := by omega
      subst e2
      rw [Nat.gcd_zero_right] at hgl
      subst hgl
      exact s_ret (r := .vis (.int (l : Int))) (by walk_at "pe") rfl rfl rfl
    · have hr0 : 0 < r := by omega
      refine q_asg (r := .vis (.int ((l % r : Nat) : Int))) (by walk_at "pe"; rw [pMod_int (by omega), Int.natCast_emod]) rfl rfl ?_
      refine q_asg (r := .vis (.int (r : Int))) (by walk_at "pe") rfl rfl ?_
      refine s_asg (r := .vis (.int ((l % r : Nat) : Int))) (by walk_at "pe") rfl rfl ⟨r, l % r, _, _, rfl, ?_, Or.inr ⟨Nat.le_of_lt (Nat.mod_lt l hr0), ?_⟩, fun e => absurd e (by omega)⟩
      · rw [Nat.gcd_comm l r, Nat.gcd_rec r l, Nat.gcd_comm] at hgl
        exact hgl
      · rw [Nat.add_sub_cancel]
        rcases hor with e | ⟨hle, hlt⟩
        · subst e
          rw [Nat.pow_zero, Nat.mul_one]
          rcases Nat.lt_or_ge l r with h | h
          · rw [Nat.mod_eq_of_lt h, Nat.mul_comm]
            exact hz rfl
          · have := half_step h hr0
            have := hz rfl
            omega
        · by_cases e : i = 0
          · subst e
            have := half_step hle hr0
            rw [Nat.pow_zero, Nat.mul_one]
            have := hz rfl
            omega
          · obtain ⟨j, rfl⟩ : ∃ j, i = j + 1 := ⟨i - 1, by omega⟩
            rw [Nat.add_sub_cancel] at hlt
            refine Nat.lt_of_le_of_lt ?_ hlt
            rw [Nat.pow_succ, ← Nat.mul_assoc, Nat.mul_right_comm, Nat.mul_comm _ 2]
            exact Nat.mul_le_mul_right _ (half_step hle hr0)
  · rintro env ⟨l, r, z1, z2, rfl, hgl, hor, hz⟩
    have hr : r = 0 := by
      rcases hor with e | ⟨hle, hlt⟩
      · exact absurd e (by omega)
      · rcases Nat.eq_zero_or_pos r with h | h
        · exact h
        · have hl : 0 < l * r := Nat.mul_pos (by omega) h
          have h3 : 1 * 2 ^ (N - 1) ≤ l * r * 2 ^ (N - 1) := Nat.mul_le_mul_right _ hl
          have h4 : 2 ^ E ≤ 2 ^ (N - 1) := Nat.pow_le_pow_right (by decide) (by omega)
          rw [Nat.one_mul] at h3
          exact absurd (Nat.lt_of_lt_of_le hlt (Nat.le_trans h4 h3)) (Nat.lt_irrefl _)
    subst hr
    rw [Nat.gcd_zero_right] at hgl
    subst hgl
    exact s_ret (r := .vis (.int (l : Int))) (by walk_at "pe") rfl rfl rfl

theorem gcdN_at {N : Nat} {a b : Int} (h : a.natAbs * b.natAbs < 2 ^ (N - 2)) (h2 : 2 ≤ N := by decide) (h3 : N < 1000000 := by decide) : F_gcdN N [.int a, .int b] = some (.int (gcdI a b)) := if_pos ⟨h, h2, h3⟩
def cw_is_share (N : Nat) : WS := (wSeq (wIf (tOr (tNot (tVal (e1 (pIsi "tuple") (eVar 0)))) (tVal (e2 pNe (e1 pLen (eVar 0)) (eC (.int 2)))))
  (wRet (eC (.bl false)))
  wNil)
  (wSeq (wIf (tOr (tNot (tVal (eCall F_whole (aCons (e2 pIx (eVar 0) (eC (.int 0))) aNil)))) (tOr (tNot (tVal (eCall F_whole (aCons (e2 pIx (eVar 0) (eC (.int 1))) aNil)))) (tVal (e2 pLt (e2 pIx (eVar 0) (eC (.int 1))) (eC (.int 1))))))
  (wRet (eC (.bl false)))
  wNil)
  (wRet (e2 pEq (eCall (F_gcdN N) (aCons (e2 pIx (eVar 0) (eC (.int 0))) (aCons (e2 pIx (eVar 0) (eC (.int 1))) aNil))) (eC (.int 1))))))
def shT (a b : Int) : Dt := .tup [.int a, .int b]
def F_is_shareN (N : Nat) : FN := fun ds => match ds with
  | [.tup [.int a, .int b]] => if 0 < b ∧ a.natAbs * b.natAbs < 2 ^ (N - 2) ∧ 2 ≤ N ∧ N < 1000000 then some (.bl (decide (gcdI a b = 1))) else none
  | _ => none
theorem shareN_shape {N : Nat} {ds : List Dt} {r : Dt} (h : F_is_shareN N ds = some r) : ∃ a b, ds = [.tup [.int a, .int b]] ∧ (0 < b ∧ a.natAbs * b.natAbs < 2 ^ (N - 2) ∧ 2 ≤ N ∧ N < 1000000) ∧ r = .bl (decide (gcdI a b = 1)) := by
  unfold F_is_shareN at h
  split at h
  · split at h
    · rename_i hk
      exact ⟨_, _, rfl, hk, (Option.some.inj h).symm⟩
    · cases h
  · cases h
theorem len_is_shareN {N : Nat} : ∀ (ds : List Dt) (r : Dt), F_is_shareN N ds = some r → ds.length = 1 := by
  intro ds r h
  obtain ⟨a, b, rfl, _⟩ := shareN_shape h
  rfl
theorem pIsi_tup (ds : List Dt) : pIsi "tuple" (.tup ds) = some (.vis (.bl true)) := rfl
theorem whole_int (i : Int) : F_whole [.int i] = some (.bl true) := rfl
theorem kk_is_shareN (N : Nat) : Keeps 1 (cw_is_share N) (F_is_shareN N) := by
  intro ds r h
  obtain ⟨a, b, rfl, ⟨h1, h2, h3, h4⟩, rfl⟩ := shareN_shape h
  show cw_is_share N _ [.val (.tup [.int a, .int b])]
  refine q_if (c := false) (by walk_at "pe"; rw [pIsi_tup]; walk_at "pe"; rfl) (fun e => by cases e) fun _ => s_nil ?_
  refine q_if (c := false) (by walk_at "pe"; rw [whole_int, whole_int]; walk_at "pe"; simp; omega) (fun e => by cases e) fun _ => s_nil ?_
  exact s_ret (r := .vis (.bl (decide (gcdI a b = 1)))) (by walk_at "pe"; rw [gcdN_at h2 h3 h4]; walk_at "pe") rfl rfl rfl
def cw_exactly (N : Nat) : WS := (wRet (eAnd (eCall (F_is_shareN N) (aCons (eVar 0) aNil)) (e2 pEq (e2 pMul (e2 pIx (eVar 0) (eC (.int 0))) (eVar 2)) (e2 pMul (eVar 1) (e2 pIx (eVar 0) (eC (.int 1)))))))
/-- told exactly: the answer is yes -/
structure Exact (N : Nat) (a b t w : Int) : Prop where
  b0 : 0 < b
  sz : a.natAbs * b.natAbs < 2 ^ (N - 2)
  n2 : 2 ≤ N
  n3 : N < 1000000
  ba : a.natAbs < BIG
  bb : b.natAbs < BIG
  bt : t.natAbs < BIG
  bw : w.natAbs < BIG
  eq : a * w = t * b
  g1 : gcdI a b = 1
open Classical in
noncomputable def F_exactlyN (N : Nat) : FN := fun ds => match ds with
  | [.tup [.int a, .int b], .int t, .int w] => if Exact N a b t w then some (.bl true) else none
  | _ => none
theorem exactN_shape {N : Nat} {ds : List Dt} {r : Dt} (h : F_exactlyN N ds = some r) : ∃ a b t w, ds = [.tup [.int a, .int b], .int t, .int w] ∧ Exact N a b t w ∧ r = .bl true := by
  unfold F_exactlyN at h
  split at h
  · split at h
    · rename_i hk
      exact ⟨_, _, _, _, rfl, hk, (Option.some.inj h).symm⟩
    · cases h
  · cases h
theorem len_exactlyN {N : Nat} : ∀ (ds : List Dt) (r : Dt), F_exactlyN N ds = some r → ds.length = 3 := by
  intro ds r h
  obtain ⟨a, b, t, w, rfl, _⟩ := exactN_shape h
  rfl
theorem kk_exactlyN (N : Nat) : Keeps 3 (cw_exactly N) (F_exactlyN N) := by
  intro ds r h
  obtain ⟨a, b, t, w, rfl, ok, rfl⟩ := exactN_shape h
  show cw_exactly N _ [.val (.tup [.int a, .int b]), .val (.int t), .val (.int w)]
  have h1 : F_is_shareN N [.tup [.int a, .int b]] = some (.bl true) := by
    show (if _ then _ else _) = _
    rw [if_pos ⟨ok.b0, ok.sz, ok.n2, ok.n3⟩, decide_eq_true ok.g1]
  refine s_ret (r := .vis (.bl true)) ?_ rfl rfl rfl
  walk_at "pe"
  rw [h1]
  walk_at "pe"
  rw [pMul_int ok.ba ok.bw, pMul_int ok.bt ok.bb]
  walk_at "pe"
  rw [decide_eq_true ok.eq]
/-! shares in lowest terms -/
def lowD (t b : Int) : Dt := .tup [.int (lowT t b), .int (lowB t b)]
theorem low_cross {a b : Int} (hb : 0 < b) : lowT a b * b = a * lowB a b := by
  have h1 := gcd_top a b
  have h2 := gcd_bot a b
  have hg := gcd_pos (a := a) hb
  refine Int.eq_of_mul_eq_mul_left (Int.ne_of_gt hg) ?_
  calc gcdI a b * (lowT a b * b) = (gcdI a b * lowT a b) * b := by ac_rfl
    _ = a * b := by rw [h1]
    _ = a * (gcdI a b * lowB a b) := by rw [h2]
    _ = gcdI a b * (a * lowB a b) := by ac_rfl
theorem low1 {a b : Int} (hb : 0 < b) : gcdI (lowT a b) (lowB a b) = 1 := by
  have hg := gcd_pos (a := a) hb
  have h1 := congrArg Int.natAbs (gcd_top a b)
  have h2 := congrArg Int.natAbs (gcd_bot a b)
  rw [Int.natAbs_mul] at h1 h2
  have e : (gcdI a b).natAbs = Nat.gcd a.natAbs b.natAbs := Int.natAbs_natCast _
  rw [e] at h1 h2
  have hp : 0 < Nat.gcd a.natAbs b.natAbs := Nat.gcd_pos_of_pos_right _ (by omega)
  have h : Nat.gcd a.natAbs b.natAbs * Nat.gcd (lowT a b).natAbs (lowB a b).natAbs = Nat.gcd a.natAbs b.natAbs * 1 := by
    rw [← Nat.gcd_mul_left, h1, h2, Nat.mul_one]
  unfold gcdI
  rw [Nat.eq_of_mul_eq_mul_left hp h]
  rfl
/-- the lowest terms are one -/
theorem low_uniq {a b c d : Int} (hb : 0 < b) (hd : 0 < d) (g1 : gcdI a b = 1) (g2 : gcdI c d = 1) (h : a * d = c * b) : a = c ∧ b = d := by
  have n1 : Nat.gcd a.natAbs b.natAbs = 1 := by unfold gcdI at g1; omega
  have n2 : Nat.gcd c.natAbs d.natAbs = 1 := by unfold gcdI at g2; omega
  have hn := congrArg Int.natAbs h
  rw [Int.natAbs_mul, Int.natAbs_mul] at hn
  have d1 : b.natAbs ∣ d.natAbs := by
    have : b.natAbs ∣ a.natAbs * d.natAbs := by rw [hn]; exact Nat.dvd_mul_left _ _
    exact Nat.Coprime.dvd_of_dvd_mul_left (Nat.Coprime.symm n1) this
  have d2 : d.natAbs ∣ b.natAbs := by
    have : d.natAbs ∣ c.natAbs * b.natAbs := by rw [← hn]; exact Nat.dvd_mul_left _ _
    exact Nat.Coprime.dvd_of_dvd_mul_left (Nat.Coprime.symm n2) this
  have e : b.natAbs = d.natAbs := Nat.dvd_antisymm d1 d2
  have e2 : b = d := by omega
  subst e2
  exact ⟨Int.eq_of_mul_eq_mul_right (by omega) h, rfl⟩
theorem low_same {a b c d : Int} (hb : 0 < b) (hd : 0 < d) (h : a * d = c * b) : lowT a b = lowT c d ∧ lowB a b = lowB c d := by
  refine low_uniq (low_pos hb) (low_pos hd) (low1 hb) (low1 hd) ?_
  have h1 := low_cross (a := a) hb
  have h2 := low_cross (a := c) hd
  have p1 := low_pos (a := a) hb
  have hbd : b * d ≠ 0 := Int.ne_of_gt (Int.mul_pos hb hd)
  refine Int.eq_of_mul_eq_mul_left hbd ?_
  calc b * d * (lowT a b * lowB c d) = (lowT a b * b) * (lowB c d * d) := by ac_rfl
    _ = (a * lowB a b) * (lowB c d * d) := by rw [h1]
    _ = (a * d) * (lowB a b * lowB c d) := by ac_rfl
    _ = (c * b) * (lowB a b * lowB c d) := by rw [h]
    _ = (c * lowB c d) * (lowB a b * b) := by ac_rfl
    _ = (lowT c d * d) * (lowB a b * b) := by rw [h2]
    _ = b * d * (lowT c d * lowB a b) := by ac_rfl
theorem lowD_same {a b c d : Int} (hb : 0 < b) (hd : 0 < d) (h : a * d = c * b) : lowD a b = lowD c d := by
  obtain ⟨h1, h2⟩ := low_same hb hd h
  unfold lowD
  rw [h1, h2]
/-- a list or tuple of top and bottom, not too great -/
structure ShOk (k : Nat) (a b : Int) : Prop where
  b0 : 0 < b
  sb : b.natAbs < 2 ^ k
  sa : a.natAbs < 2 ^ k
theorem ShOk.mono {k m : Nat} {a b : Int} (h : ShOk k a b) (hm : k ≤ m) : ShOk m a b := ⟨h.b0, Nat.lt_of_lt_of_le h.sb (Nat.pow_le_pow_right (by decide) hm), Nat.lt_of_lt_of_le h.sa (Nat.pow_le_pow_right (by decide) hm)⟩
theorem ShOk.low {k : Nat} {a b : Int} (h : ShOk k a b) : ShOk k (lowT a b) (lowB a b) := by
  obtain ⟨h1, h2⟩ := low_abs (a := a) h.b0
  exact ⟨low_pos h.b0, Nat.lt_of_le_of_lt h2 h.sb, Nat.lt_of_le_of_lt h1 h.sa⟩
theorem ShOk.mul {k m : Nat} {a b c d : Int} (h : ShOk k a b) (h2 : ShOk m c d) : ShOk (k + m) (a * c) (b * d) := by
  refine ⟨Int.mul_pos h.b0 h2.b0, ?_, ?_⟩
  · rw [Int.natAbs_mul, Nat.pow_add]; exact Nat.mul_lt_mul'' h.sb h2.sb
  · rw [Int.natAbs_mul, Nat.pow_add]; exact Nat.mul_lt_mul'' h.sa h2.sa
def topD (d : Dt) : Int := d.toIs.getD 0 0
def botD (d : Dt) : Int := d.toIs.getD 1 0
theorem topD_iseq (s : Bool) (a b : Int) : topD (iseq s [a, b]) = a := by unfold topD; rw [toIs_iseq]; rfl
theorem botD_iseq (s : Bool) (a b : Int) : botD (iseq s [a, b]) = b := by unfold botD; rw [toIs_iseq]; rfl
def IsSh (d : Dt) : Prop := ∃ s a b, d = iseq s [a, b] ∧ ShOk 3900 a b
theorem isSh_low {a b : Int} (h : ShOk 3900 a b) : IsSh (lowD a b) := ⟨true, lowT a b, lowB a b, rfl, h.low⟩
open Classical in
noncomputable def F_plus : FN := fun ds => match ds with
  | [x, y] => if IsSh x ∧ IsSh y then some (lowD (topD x * botD y + topD y * botD x) (botD x * botD y)) else none
  | _ => none
open Classical in
noncomputable def F_times : FN := fun ds => match ds with
  | [x, y] => if IsSh x ∧ IsSh y then some (lowD (topD x * topD y) (botD x * botD y)) else none
  | _ => none
open Classical in
noncomputable def F_compare : FN := fun ds => match ds with
  | [x, y] => if IsSh x ∧ IsSh y then some (.int ((if topD y * botD x < topD x * botD y then 1 else 0) - (if topD x * botD y < topD y * botD x then 1 else 0))) else none
  | _ => none
def cw_plus : WS := (wRet (eCall F_lowest (aCons (e2 pAdd (e2 pMul (e2 pIx (eVar 0) (eC (.int 0))) (e2 pIx (eVar 1) (eC (.int 1)))) (e2 pMul (e2 pIx (eVar 1) (eC (.int 0))) (e2 pIx (eVar 0) (eC (.int 1))))) (aCons (e2 pMul (e2 pIx (eVar 0) (eC (.int 1))) (e2 pIx (eVar 1) (eC (.int 1)))) aNil))))
def cw_times : WS := (wRet (eCall F_lowest (aCons (e2 pMul (e2 pIx (eVar 0) (eC (.int 0))) (e2 pIx (eVar 1) (eC (.int 0)))) (aCons (e2 pMul (e2 pIx (eVar 0) (eC (.int 1))) (e2 pIx (eVar 1) (eC (.int 1)))) aNil))))
def cw_compare : WS := (wSeq (wAsg 2 (e2 pMul (e2 pIx (eVar 0) (eC (.int 0))) (e2 pIx (eVar 1) (eC (.int 1)))))
  (wSeq (wAsg 3 (e2 pMul (e2 pIx (eVar 1) (eC (.int 0))) (e2 pIx (eVar 0) (eC (.int 1)))))
  (wRet (e2 pSub (e1 pInt (e2 pGt (eVar 2) (eVar 3))) (e1 pInt (e2 pLt (eVar 2) (eVar 3)))))))
theorem len2_of {F : FN} (h : ∀ ds r, F ds = some r → ∃ x y, ds = [x, y]) : ∀ (ds : List Dt) (r : Dt), F ds = some r → ds.length = 2 := fun ds r e => by
  obtain ⟨x, y, rfl⟩ := h ds r e
  rfl
theorem lenk_plus : ∀ (ds : List Dt) (r : Dt), F_plus ds = some r → ds.length = 2 := by
  intro ds r h
  match ds, h with
  | [_, _], _ => rfl
theorem lenk_times : ∀ (ds : List Dt) (r : Dt), F_times ds = some r → ds.length = 2 := by
  intro ds r h
  match ds, h with
  | [_, _], _ => rfl
theorem lenk_compare : ∀ (ds : List Dt) (r : Dt), F_compare ds = some r → ds.length = 2 := by
  intro ds r h
  match ds, h with
  | [_, _], _ => rfl
theorem ix2_0 (s : Bool) (a b : Int) : pIx (iseq s [a, b]) (.int 0) = some (.vis (.int a)) := by cases s <;> rfl
theorem ix2_1 (s : Bool) (a b : Int) : pIx (iseq s [a, b]) (.int 1) = some (.vis (.int b)) := by cases s <;> rfl
theorem big39 {x : Int} (h : x.natAbs < 2 ^ 3900) : x.natAbs < BIG := big_of h (by decide)
theorem kk_plus : Keeps 2 cw_plus F_plus := by
  intro ds r h
  match ds, h with
  | [x, y], h =>
    simp only [F_plus] at h
    split at h
    case isFalse => cases h
    rename_i hk
    cases h
    obtain ⟨⟨s, a, b, rfl, h1⟩, s', c, d, rfl, h2⟩ := hk
    rw [topD_iseq, topD_iseq, botD_iseq, botD_iseq]
    show cw_plus _ [.val (iseq s [a, b]), .val (iseq s' [c, d])]
    refine s_ret (r := .vis (lowD (a * d + c * b) (b * d))) ?_ rfl rfl rfl
    walk_at "pe"
    rw [ix2_0, ix2_1, ix2_0, ix2_1]
    walk_at "pe"
    rw [pMul_int (big39 h1.sa) (big39 h2.sb), pMul_int (big39 h2.sa) (big39 h1.sb), pMul_int (big39 h1.sb) (big39 h2.sb)]
    walk_at "pe"
    have h3 := h1.mul h2
    rw [low_at h3.b0 (Nat.lt_of_lt_of_le h3.sb (Nat.pow_le_pow_right (by decide) (by decide)))]
    rfl
theorem kk_times : Keeps 2 cw_times F_times := by
  intro ds r h
  match ds, h with
  | [x, y], h =>
    simp only [F_times] at h
    split at h
    case isFalse => cases h
    rename_i hk
    cases h
    obtain ⟨⟨s, a, b, rfl, h1⟩, s', c, d, rfl, h2⟩ := hk
    rw [topD_iseq, topD_iseq, botD_iseq, botD_iseq]
    show cw_times _ [.val (iseq s [a, b]), .val (iseq s' [c, d])]
    refine s_ret (r := .vis (lowD (a * c) (b * d))) ?_ rfl rfl rfl
    walk_at "pe"
    rw [ix2_0, ix2_1, ix2_0, ix2_1]
    walk_at "pe"
    rw [pMul_int (big39 h1.sa) (big39 h2.sa), pMul_int (big39 h1.sb) (big39 h2.sb)]
    walk_at "pe"
    have h3 := h1.mul h2
    rw [low_at h3.b0 (Nat.lt_of_lt_of_le h3.sb (Nat.pow_le_pow_right (by decide) (by decide)))]
    rfl
theorem kk_compare : Keeps 4 cw_compare F_compare := by
  intro ds r h
  match ds, h with
  | [x, y], h =>
    simp only [F_compare] at h
    split at h
    case isFalse => cases h
    rename_i hk
    cases h
    obtain ⟨⟨s, a, b, rfl, h1⟩, s', c, d, rfl, h2⟩ := hk
    rw [topD_iseq, topD_iseq, botD_iseq, botD_iseq]
    show cw_compare _ [.val (iseq s [a, b]), .val (iseq s' [c, d]), .non, .non]
    refine q_asg (r := .vis (.int (a * d))) (by walk_at "pe"; rw [ix2_0, ix2_1]; walk_at "pe"; rw [pMul_int (big39 h1.sa) (big39 h2.sb)]) rfl rfl ?_
    refine q_asg (r := .vis (.int (c * b))) (by walk_at "pe"; rw [ix2_0, ix2_1]; walk_at "pe"; rw [pMul_int (big39 h2.sa) (big39 h1.sb)]) rfl rfl ?_
    generalize a * d = u
    generalize c * b = v
    refine s_ret (r := .vis (.int ((if v < u then 1 else 0) - (if u < v then 1 else 0)))) ?_ rfl rfl rfl
    walk_at "pe"
theorem plus_at {s s' : Bool} {a b c d : Int} (h1 : ShOk 3900 a b) (h2 : ShOk 3900 c d) : F_plus [iseq s [a, b], iseq s' [c, d]] = some (lowD (a * d + c * b) (b * d)) := by
  simp only [F_plus]
  rw [if_pos ⟨⟨s, a, b, rfl, h1⟩, s', c, d, rfl, h2⟩, topD_iseq, topD_iseq, botD_iseq, botD_iseq]
theorem times_at {s s' : Bool} {a b c d : Int} (h1 : ShOk 3900 a b) (h2 : ShOk 3900 c d) : F_times [iseq s [a, b], iseq s' [c, d]] = some (lowD (a * c) (b * d)) := by
  simp only [F_times]
  rw [if_pos ⟨⟨s, a, b, rfl, h1⟩, s', c, d, rfl, h2⟩, topD_iseq, topD_iseq, botD_iseq, botD_iseq]
theorem compare_at {s s' : Bool} {a b c d : Int} (h1 : ShOk 3900 a b) (h2 : ShOk 3900 c d) : F_compare [iseq s [a, b], iseq s' [c, d]] = some (.int ((if c * b < a * d then 1 else 0) - (if a * d < c * b then 1 else 0))) := by
  simp only [F_compare]
  rw [if_pos ⟨⟨s, a, b, rfl, h1⟩, s', c, d, rfl, h2⟩, topD_iseq, topD_iseq, botD_iseq, botD_iseq]
/-! sums of shares -/
def shD (s : Bool) (L : List (Int × Int)) : List Dt := L.map fun e => iseq s [e.1, e.2]
def toL (d : Dt) : List (Int × Int) := d.items.map fun x => (topD x, botD x)
def seqD (c : Bool) (ds : List Dt) : Dt := bif c then .tup ds else .lst ds
theorem items_seqD (c : Bool) (ds : List Dt) : (seqD c ds).items = ds := by cases c <;> rfl
theorem toL_sh (c s : Bool) (L : List (Int × Int)) : toL (seqD c (shD s L)) = L := by
  unfold toL shD
  rw [items_seqD, List.map_map]
  have : ((fun x => (topD x, botD x)) ∘ fun e : Int × Int => iseq s [e.1, e.2]) = id := funext fun e => by
    show (topD (iseq s [e.1, e.2]), botD (iseq s [e.1, e.2])) = e
    rw [topD_iseq, botD_iseq]
  rw [this, List.map_id]

/-- L tells the numbers Ps over B -/
inductive Rep (B : Int) : List (Int × Int) → List Int → Prop
  | nil : Rep B [] []
  | cons {e : Int × Int} {P : Int} {L : List (Int × Int)} {Ps : List Int} : e.1 * B = P * e.2 → Rep B L Ps → Rep B (e :: L) (P :: Ps)
structure OkRep (L : List (Int × Int)) (B : Int) (Ps : List Int) : Prop where
  rep : Rep B L Ps
  b0 : 0 < B
  sb : B.natAbs < 2 ^ 1900
  sh : ∀ e ∈ L, ShOk 1900 e.1 e.2
  sp : (Ps.map Int.natAbs).sum < 2 ^ 1900
def plusP (r e : Int × Int) : Int × Int := (lowT (r.1 * e.2 + e.1 * r.2) (r.2 * e.2), lowB (r.1 * e.2 + e.1 * r.2) (r.2 * e.2))
def sumL (L : List (Int × Int)) : Int × Int := L.foldl plusP (0, 1)
theorem natAbs_sumP : ∀ l : List Int, l.sum.natAbs ≤ (l.map Int.natAbs).sum
  | [] => Nat.le_refl _
  | x :: l => by
    rw [List.sum_cons, List.map_cons, List.sum_cons]
    have h1 := natAbs_sumP l
    have h2 := Int.natAbs_add_le x l.sum
    omega
theorem Rep.len {B : Int} : ∀ {L : List (Int × Int)} {Ps : List Int}, Rep B L Ps → L.length = Ps.length
  | _, _, .nil => rfl
  | _, _, .cons _ h => by rw [List.length_cons, List.length_cons, h.len]
theorem Rep.get {B : Int} : ∀ {L : List (Int × Int)} {Ps : List Int} {i : Nat} {e : Int × Int} {P : Int}, Rep B L Ps → L[i]? = some e → Ps[i]? = some P → e.1 * B = P * e.2
  | _, _, _, _, _, .nil, h, _ => by simp at h
  | _, _, 0, _, _, .cons h _, h1, h2 => by cases h1; cases h2; exact h
  | _, _, i + 1, _, _, .cons _ h, h1, h2 => h.get (i := i) (by simpa using h1) (by simpa using h2)
theorem Rep.of {B : Int} : ∀ {L : List (Int × Int)} {Ps : List Int}, L.length = Ps.length → (∀ (i : Nat) (e : Int × Int) (P : Int), L[i]? = some e → Ps[i]? = some P → e.1 * B = P * e.2) → Rep B L Ps
  | [], [], _, _ => .nil
  | e :: L, P :: Ps, hl, h => .cons (h 0 e P rfl rfl) (Rep.of (by simpa using hl) fun i e' P' h1 h2 => h (i + 1) e' P' (by simpa using h1) (by simpa using h2))
  | [], _ :: _, hl, _ => by cases hl
  | _ :: _, [], hl, _ => by cases hl
theorem low01 {B : Int} (hB : 0 < B) : lowT 0 B = 0 ∧ lowB 0 B = 1 := by
  obtain ⟨h1, h2⟩ := low_same (a := 0) (b := B) (c := 0) (d := 1) hB (by decide) (by simp)
  rw [h1, h2]
  exact ⟨by decide, by decide⟩
theorem plusP_low {S B : Int} {e : Int × Int} {P : Int} (hB : 0 < B) (he : 0 < e.2) (h : e.1 * B = P * e.2) : plusP (lowT S B, lowB S B) e = (lowT (S + P) B, lowB (S + P) B) := by
  have c := low_cross (a := S) hB
  have p := low_pos (a := S) hB
  obtain ⟨h1, h2⟩ := low_same (a := lowT S B * e.2 + e.1 * lowB S B) (b := lowB S B * e.2) (c := S + P) (d := B) (Int.mul_pos p he) hB (by
    calc (lowT S B * e.2 + e.1 * lowB S B) * B = (lowT S B * B) * e.2 + (e.1 * B) * lowB S B := by rw [Int.add_mul]; congr 1 <;> ac_rfl
      _ = (S * lowB S B) * e.2 + (P * e.2) * lowB S B := by rw [c, h]
      _ = (S + P) * (lowB S B * e.2) := by rw [Int.add_mul]; congr 1 <;> ac_rfl)
  unfold plusP
  rw [h1, h2]
theorem sumL_from {B : Int} (hB : 0 < B) : ∀ {L : List (Int × Int)} {Ps : List Int} (S : Int), Rep B L Ps → (∀ e ∈ L, 0 < e.2) → L.foldl plusP (lowT S B, lowB S B) = (lowT (S + Ps.sum) B, lowB (S + Ps.sum) B)
  | _, _, S, .nil, _ => by rw [List.sum_nil, Int.add_zero]; rfl
  | e :: L, P :: Ps, S, .cons h t, hp => by
    rw [List.foldl_cons, plusP_low hB (hp e List.mem_cons_self) h, sumL_from hB (S + P) t fun e' he' => hp e' (List.mem_cons_of_mem _ he'), List.sum_cons, Int.add_assoc]
theorem sumL_eq {L : List (Int × Int)} {B : Int} {Ps : List Int} (ok : OkRep L B Ps) : sumL L = (lowT Ps.sum B, lowB Ps.sum B) := by
  have h := sumL_from ok.b0 0 ok.rep fun e he => (ok.sh e he).b0
  obtain ⟨h1, h2⟩ := low01 ok.b0
  rw [h1, h2, Int.zero_add] at h
  exact h
def pD (e : Int × Int) : Dt := .tup [.int e.1, .int e.2]
open Classical in
noncomputable def F_sum_of : FN := fun ds => match ds with
  | [x] => if (∃ s, x = .lst (shD s (toL x))) ∧ ∃ B Ps, OkRep (toL x) B Ps then some (pD (sumL (toL x))) else none
  | _ => none
def cw_sum_of : WS := (wSeq (wAsg 1 (eTup (aCons (eC (.int 0)) (aCons (eC (.int 1)) aNil))))
  (wSeq (wFor (iSeq (eVar 0)) (gN 2)
  (wAsg 1 (eCall F_plus (aCons (eVar 1) (aCons (eVar 2) aNil)))))
  (wRet (eVar 1))))
theorem lenk_sum_of : ∀ (ds : List Dt) (r : Dt), F_sum_of ds = some r → ds.length = 1 := by
  intro ds r h
  match ds, h with
  | [_], _ => rfl
theorem OkRep.take {L : List (Int × Int)} {B : Int} {Ps : List Int} (ok : OkRep L B Ps) (i : Nat) : OkRep (L.take i) B (Ps.take i) := by
  refine ⟨?_, ok.b0, ok.sb, fun e he => ok.sh e (List.mem_of_mem_take he), ?_⟩
  · refine Rep.of (by rw [List.length_take, List.length_take, ok.rep.len]) fun j e P h1 h2 => ?_
    rw [List.getElem?_take] at h1 h2
    split at h1
    · rename_i hj
      rw [if_pos hj] at h2
      exact ok.rep.get h1 h2
    · cases h1
  · refine Nat.lt_of_le_of_lt ?_ ok.sp
    have e : (Ps.map Int.natAbs).sum = ((Ps.take i).map Int.natAbs).sum + ((Ps.drop i).map Int.natAbs).sum := by
      rw [← List.sum_append, ← List.map_append, List.take_append_drop]
    omega
theorem OkRep.shOk {L : List (Int × Int)} {B : Int} {Ps : List Int} (ok : OkRep L B Ps) : ShOk 1900 Ps.sum B := ⟨ok.b0, ok.sb, Nat.lt_of_le_of_lt (natAbs_sumP Ps) ok.sp⟩
theorem kk_sum_of : Keeps 3 cw_sum_of F_sum_of := by
  intro ds r h
  match ds, h with
  | [x], h =>
    simp only [F_sum_of] at h
    split at h
    case isFalse => cases h
    rename_i hk
    cases h
    obtain ⟨⟨s, hx⟩, B, Ps, ok⟩ := hk
    generalize hL : toL x = L at *
    subst hx
    show cw_sum_of _ [.val (.lst (shD s L)), .non, .non]
    refine q_asg (r := .vis (pD (0, 1))) (by walk_at "pe"; rfl) rfl rfl ?_
    refine q_forMap (u := fun e => iseq s [e.1, e.2]) (xs := L) (fun i e => ∃ z, e = [.val (.lst (shD s L)), .val (pD (sumL (L.take i))), z]) (by walk_at "pe"; rfl) ⟨_, rfl⟩ ?_ ?_
    · rintro i env e he ⟨z, rfl⟩
      refine ⟨_, by walk_at "pe"; rfl, ?_⟩
      have ok1 := (ok.take i)
      have es := sumL_eq ok1
      have hsum : sumL (L.take (i + 1)) = plusP (sumL (L.take i)) e := foldl_take he
      refine s_asg (r := .vis (pD (sumL (L.take (i + 1))))) ?_ rfl rfl ⟨_, rfl⟩
      have hp := plus_at (s := true) (s' := s) (a := (sumL (L.take i)).1) (b := (sumL (L.take i)).2) (c := e.1) (d := e.2) (by rw [es]; exact (ok1.shOk.mono (by decide)).low) ((ok.sh e (List.mem_of_getElem? he)).mono (by decide))
      walk_at "pe"
      rw [show F_plus [pD (sumL (L.take i)), iseq s [e.1, e.2]] = _ from hp]
      walk_at "pe"
      rw [hsum]
      rfl
    · rintro env ⟨z, rfl⟩
      rw [List.take_length]
      exact s_ret (r := .vis (pD (sumL L))) (by walk_at "pe") rfl rfl rfl
theorem sum_of_at {s : Bool} {L : List (Int × Int)} {B : Int} {Ps : List Int} (ok : OkRep L B Ps) : F_sum_of [.lst (shD s L)] = some (lowD Ps.sum B) := by
  have e : toL (.lst (shD s L)) = L := toL_sh false s L
  simp only [F_sum_of]
  rw [e, if_pos ⟨⟨s, rfl⟩, B, Ps, ok⟩, sumL_eq ok]
  rfl
end Pyl
end
section
set_option linter.all false
namespace Pyl
open PySem
/-! k76: what its functions compute -/
def dot (a b : List Int) : Int := (List.zipWith (· * ·) a b).sum
/-- greedy: as much as b0 at each place, of what is left -/
def mn (left b0 : Int) : Int := if b0 < left then b0 else left
def fillP (b0 : Int) : Int → Nat → List Int
  | _, 0 => []
  | left, n + 1 => mn left b0 :: fillP b0 (left - mn left b0) n
def sortI (l : List Int) : List Int := l.mergeSort fun a b => decide (a ≤ b)
def maxI (l : List Int) : Int := l.foldl (fun m x => if x > m then x else m) 0
/-- the shares at the places with bit 1 -/
def selL (L : List (Int × Int)) (row : List Int) : List (Int × Int) := ((L.zip row).filter fun z => decide (z.2 = 1)).map (·.1)
def gtP (a b : Int × Int) : Bool := decide (b.1 * a.2 < a.1 * b.2)
def bestP (best : Int × Int) (L : List (Int × Int)) (row : List Int) : Int × Int := if gtP (sumL (selL L row)) best then sumL (selL L row) else best
def lotV (M : List (List Int)) (L : List (Int × Int)) : Int × Int := M.foldl (fun best row => bestP best L row) (0, 1)
def botL (L : List (Int × Int)) : Int := L.foldl (fun b e => ((Nat.lcm b.natAbs e.2.natAbs : Nat) : Int)) 1
def numsL (L : List (Int × Int)) : List Int := L.map fun e => e.1 * (botL L / e.2)
def addR (s : List Int) (p : Int) (row : List Int) : List Int := List.zipWith (fun a b => a + p * b) s row
def rightsF (P : List Int) (M : List (List Int)) : List Int := (P.zip M).foldl (fun s z => addR s z.1 z.2) ((M.headD []).map fun _ => 0)
/-- rows of n bits -/
def Bits (n : Nat) (M : List (List Int)) : Prop := ∀ row ∈ M, row.length = n ∧ ∀ b ∈ row, 0 ≤ b ∧ b ≤ 1
structure OkLot (M : List (List Int)) (L : List (Int × Int)) : Prop where
  rep : ∃ B Ps, OkRep L B Ps ∧ ∀ P ∈ Ps, 0 ≤ P
  bits : Bits L.length M
  few : L.length ≤ 100
open Classical in
noncomputable def F_lot_value : FN := fun ds => match ds with
  | [m, lot] => if (∃ s, m = .lst (m.toM.map (iseq s))) ∧ (∃ s, lot = .lst (shD s (toL lot))) ∧ OkLot m.toM (toL lot) then some (pD (lotV m.toM (toL lot))) else none
  | _ => none
structure OkMix (L : List (Int × Int)) : Prop where
  div : ∃ N : Int, 0 < N ∧ N.natAbs < 2 ^ 1000 ∧ ∀ e ∈ L, 0 < e.2 ∧ e.2 ∣ N ∧ e.1.natAbs < 2 ^ 1000
  some : L ≠ []
  few : L.length ≤ 100
open Classical in
noncomputable def F_common_numbers : FN := fun ds => match ds with
  | [x] => if (∃ s, x = .tup (shD s (toL x))) ∧ OkMix (toL x) then some (.tup [ilst (numsL (toL x)), .int (botL (toL x))]) else none
  | _ => none
structure OkM (M : List (List Int)) (L : List (Int × Int)) : Prop where
  mix : OkMix L
  len : M.length = L.length
  bits : ∃ n : Nat, 0 < n ∧ n ≤ 100 ∧ Bits n M
open Classical in
noncomputable def F_right_numbers : FN := fun ds => match ds with
  | [m, x] => if (∃ s, m = .tup (m.toM.map (iseq s))) ∧ (∃ s, x = .tup (shD s (toL x))) ∧ OkM m.toM (toL x) then some (.tup [ilst (rightsF (numsL (toL x)) m.toM), .int (botL (toL x))]) else none
  | _ => none
/-- a bound is none or a share -/
structure OkB (b0 b1 : Int) : Prop where
  p0 : 0 < b0
  p1 : 0 < b1
  s0 : b0.natAbs < 2 ^ 700
  s1 : b1.natAbs < 2 ^ 700
/-- the least value: top and bottom -/
def leastT (S : List Int) (bound : Option (Int × Int)) : Int := match bound with
  | none => (sortI S).getD 0 0
  | some b => dot (fillP b.1 b.2 S.length) (sortI S)
def leastB (B : Int) (bound : Option (Int × Int)) : Int := match bound with
  | none => B
  | some b => b.2 * B
def mixR (M : List (List Int)) (L : List (Int × Int)) (bound : Option (Int × Int)) : Dt := lowD (leastT (rightsF (numsL L) M) bound) (leastB (botL L) bound)
def bdD (s : Bool) : Option (Int × Int) → Dt
  | none => .non
  | some b => iseq s [b.1, b.2]
def toB : Dt → Option (Int × Int)
  | .non => none
  | d => some (topD d, botD d)
def OkBo (b : Option (Int × Int)) : Prop := ∀ q, b = some q → OkB q.1 q.2
open Classical in
noncomputable def F_mix_value : FN := fun ds => match ds with
  | [m, x, b] => if (∃ s, m = .tup (m.toM.map (iseq s))) ∧ (∃ s, x = .tup (shD s (toL x))) ∧ OkM m.toM (toL x) ∧ (∃ s, b = bdD s (toB b)) ∧ OkBo (toB b) then some (mixR m.toM (toL x) (toB b)) else none
  | _ => none
def F__law_whole : FN := F_whole
def F__law_cell : FN := F_cell
noncomputable def F__law_digits : FN := F_digitsW
def F__law_gcd : FN := F_gcdN 4000
def F__law_is_share : FN := F_is_shareN 4000
noncomputable def F__law_exactly : FN := F_exactlyN 4000
open Classical in
noncomputable def F__law_least : FN := fun ds => match ds with
  | [x, .int B, b] => if x = ilst x.toIs ∧ x.toIs ≠ [] ∧ x.toIs.length ≤ 100 ∧ (∀ y ∈ x.toIs, y.natAbs < 2 ^ 1900) ∧ B.natAbs < 2 ^ 1900 ∧ b = bdD false (toB b) ∧ OkBo (toB b) then some (ilst [leastT x.toIs (toB b), leastB B (toB b)]) else none
  | _ => none
def cw_bound : WS := (wSeq (wAsg 3 (e2 pShl (eC (.int 1)) (eC (.int 20))))
  (wSeq (wIf (tVal (e2 pLt (eVar 2) (eC (.int 9))))
  (wAsg 3 (e2 pShl (eC (.int 1)) (eC (.int 100))))
  wNil)
  (wSeq (wIf (tVal (e2 pLt (eVar 2) (eC (.int 4))))
  (wAsg 3 (e2 pShl (eC (.int 1)) (eC (.int 640))))
  wNil)
  (wSeq (wAsg 4 (eCall F__law_digits (aCons (eCall F__law_cell (aCons (eVar 0) (aCons (eVar 1) aNil))) (aCons (eLst (aCons (eC (.int 8)) (aCons (eC (.int 16)) (aCons (eC (.int 12)) (aCons (eVar 3) (aCons (eVar 3) aNil)))))) aNil))))
  (wSeq (wIf (tVal (e2 pLt (e2 pIx (eVar 4) (eC (.int 0))) (eC (.int 3))))
  (wRet (eC .non))
  wNil)
  (wSeq (wIf (tVal (e2 pEq (e2 pIx (eVar 4) (eC (.int 0))) (eC (.int 3))))
  (wRet (eLst (aCons (e2 pAdd (eC (.int 1)) (e2 pIx (eVar 4) (eC (.int 2)))) (aCons (e2 pMul (e2 pAdd (eC (.int 1)) (e2 pIx (eVar 4) (eC (.int 2)))) (eVar 2)) aNil))))
  wNil)
  (wSeq (wIf (tVal (e2 pEq (e2 pIx (eVar 4) (eC (.int 0))) (eC (.int 4))))
  (wRet (eLst (aCons (e2 pAdd (eC (.int 1)) (e2 pIx (eVar 4) (eC (.int 2)))) (aCons (e2 pMul (e2 pAdd (eC (.int 1)) (e2 pIx (eVar 4) (eC (.int 2)))) (e2 pAdd (eC (.int 1)) (e2 pMod (e1 pInt (e2 pIx (eVar 4) (eC (.int 1)))) (eVar 2)))) aNil))))
  wNil)
  (wSeq (wAsg 5 (e2 pAdd (eC (.int 1)) (e2 pIx (eVar 4) (eC (.int 3)))))
  (wSeq (wAsg 6 (eVar 5))
  (wSeq (wIf (tVal (e2 pEq (e2 pIx (eVar 4) (eC (.int 0))) (eC (.int 6))))
  (wSeq (wAsg 5 (e2 pAdd (eC (.int 2)) (e2 pIx (eVar 4) (eC (.int 1)))))
  (wAsg 6 (e2 pDiv (eVar 5) (eC (.int 3)))))
  wNil)
  (wSeq (wIf (tVal (e2 pEq (e2 pIx (eVar 4) (eC (.int 0))) (eC (.int 7))))
  (wSeq (wAsg 5 (e2 pSub (eVar 3) (e2 pIx (eVar 4) (eC (.int 3)))))
  (wAsg 6 (e2 pDiv (eVar 5) (eC (.int 4)))))
  wNil)
  (wRet (eLst (aCons (e2 pAdd (e2 pDiv (e2 pSub (e2 pAdd (eVar 5) (eVar 2)) (eC (.int 1))) (eVar 2)) (e2 pMod (e1 pInt (e2 pIx (eVar 4) (eC (.int 4)))) (e2 pAdd (eC (.int 1)) (eVar 6)))) (aCons (eVar 5) aNil)))))))))))))))
structure BoundOk (n : Int) (b : Option (Int × Int)) : Prop where
  ok : OkBo b
  cap : ∀ q, b = some q → q.2 ≤ n * q.1
noncomputable def F__law_bound : FN := autoF 7 cw_bound fun ds r => ∃ a b n, ds = [a, b, .int n] ∧ ∃ q, r = bdD false q ∧ BoundOk n q
def cw_payoffs : WS := (wSeq (wAsg 5 (eCall F__law_digits (aCons (eCall F__law_cell (aCons (eVar 0) (aCons (eVar 1) aNil))) (aCons (eComp [7] (iRange1 (e2 pMul (eVar 2) (eVar 3))) (gN 7) tYes (eC (.int 12))) aNil))))
  (wSeq (wAsgM 6 (mComp [8] (iRange1 (eVar 2)) (gN 8) (eComp [9] (iRange1 (eVar 3)) (gN 9) tYes (e1 pInt (e2 pLt (e2 pIx (eVar 5) (e2 pAdd (e2 pMul (eVar 3) (eVar 8)) (eVar 9))) (e2 pAdd (eC (.int 3)) (e2 pIx (eVar 4) (eC (.int 3)))))))))
  (wSeq (wIf (tVal (e2 pLt (e2 pIx (eVar 4) (eC (.int 4))) (eC (.int 2))))
  (wAsgM 6 (mComp [8] (iRange1 (eVar 2)) (gN 8) (eLook (eComp [9] (iRange1 (eVar 3)) (gN 9) tYes (e2 pIx (e2 pIx (eVar 6) (eC (.int 0))) (e2 pMod (e1 pInt (e2 pAdd (eVar 9) (eVar 8))) (eVar 3)))))))
  wNil)
  (wSeq (wIf (tVal (e2 pEq (e2 pIx (eVar 4) (eC (.int 4))) (eC (.int 2))))
  (wSeq (wPutR 6 (e2 pMod (e1 pInt (e2 pIx (eVar 4) (eC (.int 5)))) (eVar 2)) (eLook (e1 pList (e2 pIx (eVar 6) (e2 pMod (e1 pInt (e2 pIx (eVar 4) (eC (.int 6)))) (eVar 2))))))
  (wFor (iRange1 (eVar 2)) (gN 8)
  (wPutM 6 (eVar 8) (e2 pMod (e1 pInt (e2 pIx (eVar 4) (eC (.int 7)))) (eVar 3)) (eLook (e2 pIx (e2 pIx (eVar 6) (eVar 8)) (e2 pMod (e1 pInt (e2 pIx (eVar 4) (eC (.int 8)))) (eVar 3)))))))
  wNil)
  (wSeq (wIf (tOr (tVal (e2 pEq (e2 pIx (eVar 4) (eC (.int 4))) (eC (.int 3)))) (tOr (tVal (e2 pEq (eVar 2) (eC (.int 1)))) (tVal (e2 pEq (eVar 3) (eC (.int 1))))))
  (wFrz 6 (wRet (eVar 6)))
  wNil)
  (wSeq (wFor (iRange1 (eC (.int 2))) (gN 7)
  (wSeq (wFor (iRange1 (eVar 2)) (gN 8)
  (wIf (tLook (tVal (e2 pEq (e1 pSum (e2 pIx (eVar 6) (eVar 8))) (eVar 3))))
  (wPutM 6 (eVar 8) (e2 pMod (e1 pInt (e2 pAdd (e2 pAdd (eVar 8) (e2 pIx (eVar 4) (eC (.int 7)))) (eVar 7))) (eVar 3)) (eC (.int 0)))
  wNil))
  (wFor (iRange1 (eVar 3)) (gN 9)
  (wIf (tLook (tVal (e2 pEq (e1 pSum (eComp [10] (iSeq (eVar 6)) (gN 10) tYes (e2 pIx (eVar 10) (eVar 9)))) (eC (.int 0)))))
  (wPutM 6 (e2 pMod (e1 pInt (e2 pAdd (e2 pAdd (eVar 9) (e2 pIx (eVar 4) (eC (.int 5)))) (eVar 7))) (eVar 2)) (eVar 9) (eC (.int 1)))
  wNil))))
  (wFrz 6 (wRet (eVar 6)))))))))
noncomputable def F__law_payoffs : FN := autoF 11 cw_payoffs fun ds r => ∃ a b p q sh, ds = [a, b, .int p, .int q, sh] ∧ ∃ M, r = imat M ∧ (M.length : Int) = p ∧ ∃ n : Nat, (n : Int) = q ∧ Bits n M
def cw_drawn : WS := (wSeq (wAsg 3 (e2 pShl (eC (.int 1)) (eC (.int 640))))
  (wSeq (wAsg 4 (eCall F__law_digits (aCons (eCall F__law_cell (aCons (eVar 0) (aCons (eVar 1) aNil))) (aCons (e2 pAdd (e2 pAdd (eLst (aCons (eC (.int 8)) (aCons (eC (.int 3)) (aCons (eC (.int 24)) aNil)))) (eComp [8] (iRange1 (eVar 2)) (gN 8) tYes (eVar 3))) (eComp [8] (iRange1 (eVar 2)) (gN 8) tYes (eC (.int 12)))) aNil))))
  (wSeq (wAsg 5 (eComp [8] (iRange1 (eVar 2)) (gN 8) tYes (e2 pMod (e1 pInt (e2 pIx (eVar 4) (e2 pAdd (eC (.int 3)) (eVar 8)))) (eC (.int 4)))))
  (wSeq (wIf (tOr (tVal (e2 pEq (e2 pIx (eVar 4) (eC (.int 0))) (eC (.int 3)))) (tVal (e2 pEq (e2 pIx (eVar 4) (eC (.int 0))) (eC (.int 4)))))
  (wAsg 5 (eComp [8] (iRange1 (eVar 2)) (gN 8) tYes (e2 pMod (e1 pInt (e2 pIx (eVar 4) (e2 pAdd (eC (.int 3)) (eVar 8)))) (eC (.int 60)))))
  wNil)
  (wSeq (wIf (tVal (e2 pEq (e2 pIx (eVar 4) (eC (.int 0))) (eC (.int 5))))
  (wAsg 5 (eComp [8] (iRange1 (eVar 2)) (gN 8) tYes (e2 pIx (eVar 4) (e2 pAdd (eC (.int 3)) (eVar 8)))))
  wNil)
  (wSeq (wIf (tVal (e2 pEq (e2 pIx (eVar 4) (eC (.int 0))) (eC (.int 6))))
  (wAsg 5 (eComp [8] (iRange1 (eVar 2)) (gN 8) tYes (e2 pSub (eVar 3) (e2 pIx (eVar 4) (e2 pAdd (eC (.int 3)) (eVar 8))))))
  wNil)
  (wSeq (wIf (tVal (e2 pEq (e2 pIx (eVar 4) (eC (.int 0))) (eC (.int 7))))
  (wAsg 5 (eComp [8] (iRange1 (eVar 2)) (gN 8) tYes (eC (.int 0))))
  wNil)
  (wSeq (wIf (tVal (e2 pEq (e1 pSum (eVar 5)) (eC (.int 0))))
  (wPut 5 (e2 pMod (e1 pInt (e2 pIx (eVar 4) (eC (.int 2)))) (eVar 2)) (eC (.int 1)))
  wNil)
  (wSeq (wAsg 6 (e1 pSum (eVar 5)))
  (wSeq (wAsg 7 (eLst aNil))
  (wSeq (wFor (iRange1 (eVar 2)) (gN 8)
  (wSeq (wAsg 9 (e2 pAdd (eC (.int 1)) (e2 pIx (eVar 4) (e2 pAdd (e2 pAdd (eC (.int 3)) (eVar 2)) (eVar 8)))))
  (wSeq (wApp 7 (eLst (aCons (e2 pMul (e2 pIx (eVar 5) (eVar 8)) (eVar 9)) (aCons (e2 pMul (eVar 6) (eVar 9)) aNil))))
  (wIf (tVal (e2 pEq (e2 pIx (eVar 4) (eC (.int 1))) (eC (.int 0))))
  (wSeq (wAsg 10 (eCall F__law_gcd (aCons (e2 pIx (eVar 5) (eVar 8)) (aCons (eVar 6) aNil))))
  (wPut 7 (eVar 8) (eLst (aCons (e2 pDiv (e2 pIx (eVar 5) (eVar 8)) (eVar 10)) (aCons (e2 pDiv (eVar 6) (eVar 10)) aNil)))))
  wNil))))
  (wFrz 7 (wFrz 5 (wRet (eLst (aCons (eVar 5) (aCons (eVar 6) (aCons (eVar 7) aNil))))))))))))))))))
def KF : Int := 479001600
structure Drawn (n : Nat) (parts : List Int) (total : Int) (L : List (Int × Int)) : Prop where
  len : parts.length = n
  nn : ∀ x ∈ parts, 0 ≤ x
  sum : parts.sum = total
  t0 : 0 < total
  tb : total.natAbs < 2 ^ 650
  rep : Rep total L parts
  div : ∀ e ∈ L, 0 < e.2 ∧ e.2 ∣ total * KF ∧ e.1.natAbs < 2 ^ 700 ∧ e.2.natAbs < 2 ^ 700
noncomputable def F__law_drawn : FN := autoF 11 cw_drawn fun ds r => ∃ a b n, ds = [a, b, .int n] ∧ ∃ parts total L, r = .lst [ilst parts, .int total, .lst (shD false L)] ∧ Drawn n.toNat parts total L
def cw_filled : WS := (wSeq (wAsg 2 (eComp [5] (iSeq (eVar 0)) (gN 5) tYes (eC (.int 0))))
  (wSeq (wAsg 3 (e2 pIx (eVar 1) (eC (.int 1))))
  (wSeq (wFor (iSeq (eVar 0)) (gN 4)
  (wSeq (wPut 2 (eVar 4) (e2 pMin2 (eVar 3) (e2 pIx (eVar 1) (eC (.int 0)))))
  (wAsg 3 (e2 pSub (eVar 3) (e2 pIx (eVar 2) (eVar 4))))))
  (wFrz 2 (wRet (eVar 2))))))
structure Filled (n : Nat) (b0 b1 : Int) (f : List Int) : Prop where
  len : f.length = n
  rng : ∀ x ∈ f, 0 ≤ x ∧ x ≤ b0
  sum : f.sum = b1
noncomputable def F__law_filled : FN := autoF 6 cw_filled fun ds r => ∃ n x b0 b1, ds = [.lst x, ilst [b0, b1]] ∧ x.length = n ∧ ∃ f, r = ilst f ∧ Filled n b0 b1 f
open Classical in
noncomputable def F__law_lot_told : FN := fun ds => match ds with
  | [m, x, .int way] => if m = imat m.toM ∧ x = .lst (shD false (toL x)) ∧ OkLot m.toM (toL x) ∧ m.toM.length ≤ 100 then some (pD (lotV m.toM (toL x))) else none
  | _ => none
open Classical in
noncomputable def F__law_mix_told : FN := fun ds => match ds with
  | [m, x, b, .int way] => if m = imat m.toM ∧ x = .lst (shD false (toL x)) ∧ OkM m.toM (toL x) ∧ b = bdD false (toB b) ∧ OkBo (toB b) then some (mixR m.toM (toL x) (toB b)) else none
  | _ => none
open Classical in
noncomputable def F__law_most_right : FN := fun ds => match ds with
  | [m, x] => if m = imat m.toM ∧ x = ilst x.toIs ∧ m.toM ≠ [] ∧ m.toM.length ≤ 100 ∧ x.toIs.length ≤ 100 ∧ Bits x.toIs.length m.toM ∧ ∀ y ∈ x.toIs, 0 ≤ y ∧ y.natAbs < 2 ^ 1900 then some (.int (maxI (m.toM.map (dot x.toIs)))) else none
  | _ => none
def F_law : FN := fun ds => match ds with
  | [.lst xs] => (intsOf xs).bind fun ns => if ns.length ≤ 63 then some (.bl true) else none
  | _ => none
end Pyl
end
section
set_option Elab.async false
set_option linter.all false
set_option maxHeartbeats 1000000
namespace Pyl
open PySem
/-! sums of products -/
theorem dot_nil (b : List Int) : dot [] b = 0 := rfl
theorem dot_nil' (a : List Int) : dot a [] = 0 := by cases a <;> rfl
theorem dot_cons (x y : Int) (a b : List Int) : dot (x :: a) (y :: b) = x * y + dot a b := by
  show (x * y :: List.zipWith (· * ·) a b).sum = _
  rw [List.sum_cons]
  rfl
theorem perm_sum {a b : List Int} (h : a.Perm b) : a.sum = b.sum := by
  induction h with
  | nil => rfl
  | cons x _ ih => rw [List.sum_cons, List.sum_cons, ih]
  | swap x y l => rw [List.sum_cons, List.sum_cons, List.sum_cons, List.sum_cons]; omega
  | trans _ _ h1 h2 => exact h1.trans h2
theorem dot_add : ∀ a b c : List Int, a.length = c.length → b.length = c.length → dot (List.zipWith (· + ·) a b) c = dot a c + dot b c
  | [], [], [], _, _ => rfl
  | x :: a, y :: b, z :: c, h1, h2 => by
    rw [List.zipWith_cons_cons, dot_cons, dot_cons, dot_cons, dot_add a b c (by simpa using h1) (by simpa using h2), Int.add_mul]
    omega
  | [], _ :: _, [], _, h => by cases h
  | [], _ :: _, _ :: _, h, _ => by cases h
  | _ :: _, _, [], h, _ => by cases h
  | _ :: _, [], _ :: _, _, h => by cases h
  | [], [], _ :: _, h, _ => by cases h
theorem dot_scale (k : Int) : ∀ a b : List Int, dot (a.map (· * k)) b = dot a b * k
  | [], b => by show (0 : Int) = 0 * k; rw [Int.zero_mul]
  | x :: a, [] => by rw [dot_nil', dot_nil', Int.zero_mul]
  | x :: a, y :: b => by
    rw [List.map_cons, dot_cons, dot_cons, dot_scale k a b, Int.add_mul]
    congr 1
    ac_rfl
theorem dot_comm : ∀ a b : List Int, dot a b = dot b a
  | [], b => by rw [dot_nil, dot_nil']
  | x :: a, [] => by rw [dot_nil, dot_nil']
  | x :: a, y :: b => by rw [dot_cons, dot_cons, dot_comm a b, Int.mul_comm]
theorem dot_nn : ∀ {a b : List Int}, (∀ x ∈ a, 0 ≤ x) → (∀ y ∈ b, 0 ≤ y) → 0 ≤ dot a b
  | [], b, _, _ => by rw [dot_nil]; exact Int.le_refl _
  | x :: a, [], _, _ => by rw [dot_nil']; exact Int.le_refl _
  | x :: a, y :: b, h1, h2 => by
    rw [dot_cons]
    exact Int.add_nonneg (Int.mul_nonneg (h1 x List.mem_cons_self) (h2 y List.mem_cons_self)) (dot_nn (fun z hz => h1 z (List.mem_cons_of_mem _ hz)) fun z hz => h2 z (List.mem_cons_of_mem _ hz))
/-! the greatest -/
theorem maxI_from (l : List Int) : ∀ m : Int, m ≤ l.foldl (fun m x => if x > m then x else m) m ∧ (∀ x ∈ l, x ≤ l.foldl (fun m x => if x > m then x else m) m) ∧ (l.foldl (fun m x => if x > m then x else m) m = m ∨ l.foldl (fun m x => if x > m then x else m) m ∈ l) := by
  induction l with
  | nil => exact fun m => ⟨Int.le_refl _, fun x h => by (cases h), .inl rfl⟩
  | cons y l ih =>
    intro m
    rw [List.foldl_cons]
    obtain ⟨h1, h2, h3⟩ := ih (if y > m then y else m)
    have hs : m ≤ (if y > m then y else m) ∧ y ≤ (if y > m then y else m) := by split <;> omega
    refine ⟨Int.le_trans hs.1 h1, fun x hx => ?_, ?_⟩
    · rcases List.mem_cons.mp hx with rfl | hx
      · exact Int.le_trans hs.2 h1
      · exact h2 x hx
    · rcases h3 with h3 | h3
      · rw [h3]
        split
        · exact .inr List.mem_cons_self
        · exact .inl rfl
      · exact .inr (List.mem_cons_of_mem _ h3)
theorem maxI_le {l : List Int} {x : Int} (h : x ∈ l) : x ≤ maxI l := (maxI_from l 0).2.1 x h
theorem maxI_nn (l : List Int) : 0 ≤ maxI l := (maxI_from l 0).1
theorem maxI_cons {x : Int} (l : List Int) (h : 0 ≤ x) : maxI (x :: l) = l.foldl (fun m y => if y > m then y else m) x := by
  unfold maxI
  rw [List.foldl_cons]
  by_cases e : x > 0
  · rw [if_pos e]
  · rw [if_neg e, show x = 0 by omega]
theorem maxI_snoc (l : List Int) (x : Int) : maxI (l ++ [x]) = if x > maxI l then x else maxI l := by
  unfold maxI
  rw [List.foldl_append]
  rfl
/-- two lists that stand to each other as two numbers above 0 -/
inductive Prp (B C : Int) : List Int → List Int → Prop
  | nil : Prp B C [] []
  | cons {x y : Int} {a b : List Int} : x * C = y * B → Prp B C a b → Prp B C (x :: a) (y :: b)
theorem Prp.len {B C : Int} : ∀ {a b : List Int}, Prp B C a b → a.length = b.length
  | _, _, .nil => rfl
  | _, _, .cons _ h => by rw [List.length_cons, List.length_cons, h.len]
theorem Prp.of {B C : Int} : ∀ {a b : List Int}, a.length = b.length → (∀ (i : Nat) (x y : Int), a[i]? = some x → b[i]? = some y → x * C = y * B) → Prp B C a b
  | [], [], _, _ => .nil
  | x :: a, y :: b, hl, h => .cons (h 0 x y rfl rfl) (Prp.of (by simpa using hl) fun i x' y' h1 h2 => h (i + 1) x' y' (by simpa using h1) (by simpa using h2))
  | [], _ :: _, hl, _ => by cases hl
  | _ :: _, [], hl, _ => by cases hl
theorem Prp.map {B C : Int} {a b : List Int} (h : Prp B C a b) : a.map (· * C) = b.map (· * B) := by
  induction h with
  | nil => rfl
  | cons h _ ih => rw [List.map_cons, List.map_cons, ih, h]
theorem Prp.back {B C : Int} : ∀ {a b : List Int}, a.map (· * C) = b.map (· * B) → Prp B C a b
  | [], [], _ => .nil
  | x :: a, y :: b, h => by
    rw [List.map_cons, List.map_cons] at h
    obtain ⟨h1, h2⟩ := List.cons.inj h
    exact .cons h1 (Prp.back h2)
  | [], _ :: _, h => by cases h
  | _ :: _, [], h => by cases h
theorem Prp.dot {B C : Int} {a b : List Int} (h : Prp B C a b) (c : List Int) : dot a c * C = dot b c * B := by
  rw [← dot_scale, ← dot_scale, h.map]
theorem Prp.dot' {B C : Int} {a b : List Int} (h : Prp B C a b) (c : List Int) : Pyl.dot c a * C = Pyl.dot c b * B := by
  rw [dot_comm c a, dot_comm c b, h.dot]
theorem Prp.max {B C : Int} (hB : 0 < B) (hC : 0 < C) {a b : List Int} (h : Prp B C a b) : ∀ m n : Int, m * C = n * B → a.foldl (fun m x => if x > m then x else m) m * C = b.foldl (fun m x => if x > m then x else m) n * B := by
  induction h with
  | nil => exact fun m n e => e
  | @cons x y a b h _ ih =>
    intro m n e
    rw [List.foldl_cons, List.foldl_cons]
    refine ih _ _ ?_
    have hc : x > m ↔ y > n := by
      constructor
      · intro q
        have := Int.mul_lt_mul_of_pos_right q hC
        rw [h, e] at this
        exact Int.lt_of_mul_lt_mul_right this (Int.le_of_lt hB)
      · intro q
        have := Int.mul_lt_mul_of_pos_right q hB
        rw [← h, ← e] at this
        exact Int.lt_of_mul_lt_mul_right this (Int.le_of_lt hC)
    by_cases q : x > m
    · rw [if_pos q, if_pos (hc.mp q)]; exact h
    · rw [if_neg q, if_neg (fun z => q (hc.mpr z))]; exact e
theorem Prp.maxI {B C : Int} (hB : 0 < B) (hC : 0 < C) {a b : List Int} (h : Prp B C a b) : maxI a * C = maxI b * B := h.max hB hC 0 0 (by rw [Int.zero_mul, Int.zero_mul])
/-! sorted -/
theorem sortI_perm (l : List Int) : (sortI l).Perm l := List.mergeSort_perm l _
theorem sortI_len (l : List Int) : (sortI l).length = l.length := (sortI_perm l).length_eq
theorem sortI_pw (l : List Int) : (sortI l).Pairwise (· ≤ ·) := (List.pairwise_mergeSort (le := fun a b : Int => decide (a ≤ b)) (fun a b c x y => by
  rw [decide_eq_true_eq] at *; omega) (fun a b => by rw [Bool.or_eq_true, decide_eq_true_eq, decide_eq_true_eq]; omega) l).imp fun {a b} z => of_decide_eq_true z
theorem sortI_uniq {a b : List Int} (h : a.Perm b) (hp : a.Pairwise (· ≤ ·)) : a = sortI b :=
  List.Perm.eq_of_pairwise (fun a b _ _ x y => Int.le_antisymm x y) hp (sortI_pw b) (h.trans (sortI_perm b).symm)
theorem sortI_scale {k : Int} (hk : 0 < k) (l : List Int) : sortI (l.map (· * k)) = (sortI l).map (· * k) :=
  (sortI_uniq ((sortI_perm l).map _) (List.pairwise_map.mpr ((sortI_pw l).imp fun {a b} h => Int.mul_le_mul_of_nonneg_right h (Int.le_of_lt hk)))).symm
theorem Prp.sort {B C : Int} (hB : 0 < B) (hC : 0 < C) {a b : List Int} (h : Prp B C a b) : Prp B C (sortI a) (sortI b) :=
  .back (by rw [← sortI_scale hC, ← sortI_scale hB, h.map])
theorem Prp.head {B C : Int} {a b : List Int} (h : Prp B C a b) : a.getD 0 0 * C = b.getD 0 0 * B := by
  cases h with
  | nil => show (0 : Int) * C = 0 * B; rw [Int.zero_mul, Int.zero_mul]
  | cons h _ => exact h
theorem Prp.least {B C : Int} (hB : 0 < B) (hC : 0 < C) {a b : List Int} (h : Prp B C a b) (bo : Option (Int × Int)) : leastT a bo * C = leastT b bo * B := by
  cases bo with
  | none => exact (h.sort hB hC).head
  | some q =>
    unfold leastT
    dsimp only
    rw [h.len, (h.sort hB hC).dot']
/-! the greedy parts -/
theorem mn_eq (l b : Int) : (if l < b then l else b) = mn l b := by
  unfold mn
  by_cases h : l < b
  · rw [if_pos h, if_neg (by omega)]
  · rw [if_neg h]
    by_cases e : b < l
    · rw [if_pos e]
    · rw [if_neg e]; omega
theorem mn_rng {l b : Int} (hl : 0 ≤ l) (hb : 0 ≤ b) : 0 ≤ mn l b ∧ mn l b ≤ b ∧ mn l b ≤ l := by
  unfold mn
  split <;> omega
theorem fillP_len (b0 : Int) : ∀ (n : Nat) (left : Int), (fillP b0 left n).length = n
  | 0, _ => rfl
  | n + 1, left => by
    unfold fillP
    rw [List.length_cons, fillP_len b0 n]
theorem fillP_rng {b0 : Int} (hb : 0 ≤ b0) : ∀ (n : Nat) {left : Int}, 0 ≤ left → ∀ x ∈ fillP b0 left n, 0 ≤ x ∧ x ≤ b0
  | 0, _, _, x, h => by cases h
  | n + 1, left, hl, x, h => by
    obtain ⟨m1, m2, m3⟩ := mn_rng hl hb
    unfold fillP at h
    rcases List.mem_cons.mp h with rfl | h
    · exact ⟨m1, m2⟩
    · exact fillP_rng hb n (by omega) x h
theorem fillP_zero {b0 : Int} (hb : 0 ≤ b0) : ∀ n : Nat, ∀ x ∈ fillP b0 0 n, x = 0
  | 0, x, h => by cases h
  | n + 1, x, h => by
    have m : mn 0 b0 = 0 := by unfold mn; split <;> omega
    unfold fillP at h
    rw [m] at h
    rcases List.mem_cons.mp h with rfl | h
    · rfl
    · exact fillP_zero hb n x h
theorem fillP_sum {b0 : Int} (hb : 0 ≤ b0) : ∀ (n : Nat) {left : Int}, 0 ≤ left → left ≤ (n : Int) * b0 → (fillP b0 left n).sum = left
  | 0, left, h1, h2 => by
    have : left = 0 := by simp at h2; omega
    subst this
    rfl
  | n + 1, left, h1, h2 => by
    obtain ⟨m1, m2, m3⟩ := mn_rng h1 hb
    unfold fillP
    rw [List.sum_cons, fillP_sum hb n (by omega) ?_]
    · omega
    · have e : ((n + 1 : Nat) : Int) * b0 = (n : Int) * b0 + b0 := by rw [Int.natCast_add, Int.add_mul]; simp
      rw [e] at h2
      have h3 : 0 ≤ (n : Int) * b0 := Int.mul_nonneg (Int.natCast_nonneg n) hb
      unfold mn
      split <;> omega
/-- a threshold: below it all is taken, above it nothing -/
theorem fillP_thr {b0 : Int} (hb : 0 ≤ b0) : ∀ (l : List Int) {left : Int}, 0 ≤ left → l.Pairwise (· ≤ ·) → ∃ t : Int, (∀ x, l.head? = some x → x ≤ t) ∧ ∀ (i : Nat) (x f : Int), l[i]? = some x → (fillP b0 left l.length)[i]? = some f → (x < t → f = b0) ∧ (t < x → f = 0)
  | [], left, _, _ => ⟨0, fun x h => by (cases h), fun i x f h => by simp at h⟩
  | y :: l, left, hl, hp => by
    have hp' := List.pairwise_cons.mp hp
    obtain ⟨m1, m2, m3⟩ := mn_rng hl hb
    by_cases hc : left ≤ b0
    · refine ⟨y, fun x h => by cases h; exact Int.le_refl _, fun i x f h1 h2 => ?_⟩
      have e0 : mn left b0 = left := by unfold mn; split <;> omega
      have h2 : (mn left b0 :: fillP b0 (left - mn left b0) l.length)[i]? = some f := h2
      rw [e0, Int.sub_self] at h2
      cases i with
      | zero =>
        cases h1
        exact ⟨fun h => absurd h (Int.lt_irrefl _), fun h => absurd h (Int.lt_irrefl _)⟩
      | succ i =>
        have h1 : l[i]? = some x := h1
        have h2 : (fillP b0 0 l.length)[i]? = some f := h2
        have hx := hp'.1 x (List.mem_of_getElem? h1)
        exact ⟨fun h => absurd h (by omega), fun _ => fillP_zero hb _ f (List.mem_of_getElem? h2)⟩
    · have e0 : mn left b0 = b0 := by unfold mn; split <;> omega
      obtain ⟨t, t1, t2⟩ := fillP_thr hb l (left := left - b0) (by omega) hp'.2
      refine ⟨if y ≤ t then t else y, fun x h => by cases h; split <;> omega, fun i x f h1 h2 => ?_⟩
      have h2 : (mn left b0 :: fillP b0 (left - mn left b0) l.length)[i]? = some f := h2
      rw [e0] at h2
      cases i with
      | zero =>
        cases h1
        cases h2
        exact ⟨fun _ => rfl, fun h => by split at h <;> omega⟩
      | succ i =>
        have h1 : l[i]? = some x := h1
        have h2 : (fillP b0 (left - b0) l.length)[i]? = some f := h2
        obtain ⟨q1, q2⟩ := t2 i x f h1 h2
        have hx := hp'.1 x (List.mem_of_getElem? h1)
        by_cases hy : y ≤ t
        · rw [if_pos hy]; exact ⟨q1, q2⟩
        · rw [if_neg hy]
          exact ⟨fun h => absurd h (by omega), fun h => q2 (by omega)⟩
/-- the law's own closed form -/
theorem fillP_closed {b0 : Int} (hb : 0 < b0) : ∀ (l : List Int) {left : Int}, 0 ≤ left →
    dot (fillP b0 left l.length) l = (l.take (left / b0).toNat).sum * b0 + (if (left / b0).toNat < l.length then l.getD (left / b0).toNat 0 * (left - left / b0 * b0) else 0)
  | [], left, hl => by simp [dot, fillP]
  | x :: l, left, hl => by
    show dot (mn left b0 :: fillP b0 (left - mn left b0) l.length) (x :: l) = _
    rw [dot_cons]
    by_cases hc : left < b0
    · have e0 : mn left b0 = left := by unfold mn; split <;> omega
      have e1 : left / b0 = 0 := Int.ediv_eq_zero_of_lt hl hc
      rw [e0, e1, Int.sub_self]
      have ez : dot (fillP b0 0 l.length) l = 0 := by
        have : fillP b0 0 l.length = (fillP b0 0 l.length).map (· * 0) := by
          refine List.ext_getElem? fun i => ?_
          rw [List.getElem?_map]
          cases h : (fillP b0 0 l.length)[i]? with
          | none => rfl
          | some f => rw [fillP_zero (Int.le_of_lt hb) _ f (List.mem_of_getElem? h)]; rfl
        rw [this, dot_scale, Int.mul_zero]
      rw [ez]
      simp
      exact Int.mul_comm _ _
    · have e0 : mn left b0 = b0 := by unfold mn; split <;> omega
      rw [e0, fillP_closed hb l (left := left - b0) (by omega)]
      have hd : left / b0 = (left - b0) / b0 + 1 := by
        have := Int.add_mul_ediv_right (left - b0) 1 (Int.ne_of_gt hb)
        rw [Int.one_mul, Int.sub_add_cancel] at this
        exact this
      have hd0 : 0 ≤ (left - b0) / b0 := Int.ediv_nonneg (by omega) (Int.le_of_lt hb)
      rw [hd]
      generalize (left - b0) / b0 = k at *
      obtain ⟨n, rfl⟩ := Int.eq_ofNat_of_zero_le hd0
      rw [show ((n : Int) + 1).toNat = n + 1 by omega, Int.toNat_natCast]
      rw [List.take_succ_cons, List.sum_cons, List.length_cons, Int.add_mul, Int.add_mul, Int.one_mul]
      have e3 : left - ((n : Int) * b0 + b0) = left - b0 - (n : Int) * b0 := by omega
      rw [e3]
      simp only [Nat.succ_lt_succ_iff, List.getD_cons_succ]
      rw [Int.mul_comm b0 x]
      omega
/-- by places: what a feasible way gives is not less -/
theorem dot_thr {b0 t : Int} : ∀ {f l : List Int}, f.length = l.length → (∀ x ∈ f, 0 ≤ x ∧ x ≤ b0) → b0 * (l.map fun x => if x < t then x - t else 0).sum + t * f.sum ≤ dot f l
  | [], [], _, _ => by simp [dot]
  | f :: fs, x :: l, hl, h => by
    have ih := dot_thr (b0 := b0) (t := t) (f := fs) (l := l) (by simpa using hl) fun y hy => h y (List.mem_cons_of_mem _ hy)
    obtain ⟨h1, h2⟩ := h f List.mem_cons_self
    rw [List.map_cons, List.sum_cons, List.sum_cons, dot_cons, Int.mul_add, Int.mul_add]
    have key : b0 * (if x < t then x - t else 0) + t * f ≤ f * x := by
      by_cases hx : x < t
      · rw [if_pos hx]
        have : 0 ≤ (b0 - f) * (t - x) := Int.mul_nonneg (by omega) (by omega)
        rw [Int.sub_mul, Int.mul_sub, Int.mul_sub] at this
        rw [Int.mul_sub]
        have e1 : t * f = f * t := Int.mul_comm _ _
        omega
      · rw [if_neg hx]
        have : 0 ≤ f * (x - t) := Int.mul_nonneg h1 (by omega)
        rw [Int.mul_sub] at this
        have e1 : t * f = f * t := Int.mul_comm _ _
        omega
    omega
theorem dot_thr_eq {b0 t : Int} : ∀ {f l : List Int}, f.length = l.length → (∀ (i : Nat) (x y : Int), l[i]? = some x → f[i]? = some y → (x < t → y = b0) ∧ (t < x → y = 0)) → b0 * (l.map fun x => if x < t then x - t else 0).sum + t * f.sum = dot f l
  | [], [], _, _ => by simp [dot]
  | f :: fs, x :: l, hl, h => by
    have ih := dot_thr_eq (b0 := b0) (t := t) (f := fs) (l := l) (by simpa using hl) fun i x' y' h1 h2 => h (i + 1) x' y' (by simpa using h1) (by simpa using h2)
    obtain ⟨h1, h2⟩ := h 0 x f rfl rfl
    rw [List.map_cons, List.sum_cons, List.sum_cons, dot_cons, Int.mul_add, Int.mul_add, ← ih]
    have key : b0 * (if x < t then x - t else 0) + t * f = f * x := by
      by_cases hx : x < t
      · rw [if_pos hx, h1 hx, Int.mul_sub, Int.mul_comm t b0]
        omega
      · rw [if_neg hx]
        by_cases hy : t < x
        · rw [h2 hy]; simp
        · have : x = t := by omega
          subst this
          rw [Int.mul_zero, Int.zero_add, Int.mul_comm]
    omega
theorem least_feasible {b0 b1 : Int} {R f : List Int} (hb : 0 < b0) (h1 : 0 ≤ b1) (hcap : b1 ≤ (R.length : Int) * b0) (hl : f.length = R.length) (hf : ∀ x ∈ f, 0 ≤ x ∧ x ≤ b0) (hs : f.sum = b1) : dot (fillP b0 b1 R.length) (sortI R) ≤ dot f R := by
  obtain ⟨t, _, ht⟩ := fillP_thr (Int.le_of_lt hb) (sortI R) h1 (sortI_pw R)
  rw [sortI_len] at ht
  have e1 := dot_thr_eq (f := fillP b0 b1 R.length) (l := sortI R) (by rw [fillP_len, sortI_len]) ht
  have e2 := dot_thr (b0 := b0) (t := t) hl hf
  rw [fillP_sum (Int.le_of_lt hb) R.length h1 hcap] at e1
  rw [hs] at e2
  have e3 : ((sortI R).map fun x => if x < t then x - t else 0).sum = (R.map fun x => if x < t then x - t else 0).sum := perm_sum ((sortI_perm R).map _)
  rw [← e1, e3]
  exact e2

/-! lots -/
def selP (Ps row : List Int) : List Int := ((Ps.zip row).filter fun z => decide (z.2 = 1)).map (·.1)
theorem sel_ok {B : Int} : ∀ {L : List (Int × Int)} {Ps row : List Int}, Rep B L Ps → row.length = L.length → (∀ b ∈ row, 0 ≤ b ∧ b ≤ 1) →
    Rep B (selL L row) (selP Ps row) ∧ (selP Ps row).sum = dot Ps row ∧ (∀ e ∈ selL L row, e ∈ L) ∧ ((selP Ps row).map Int.natAbs).sum ≤ (Ps.map Int.natAbs).sum
  | [], [], [], _, _, _ => ⟨.nil, rfl, fun e h => by (cases h), Nat.le_refl _⟩
  | e :: L, P :: Ps, b :: row, .cons h t, hl, hb => by
    obtain ⟨h1, h2, h3, h4⟩ := sel_ok t (by simpa using hl) fun x hx => hb x (List.mem_cons_of_mem _ hx)
    obtain ⟨b1, b2⟩ := hb b List.mem_cons_self
    by_cases e1 : b = 1
    · subst e1
      have s1 : selL (e :: L) (1 :: row) = e :: selL L row := by unfold selL; rw [List.zip_cons_cons, List.filter_cons_of_pos (by rfl), List.map_cons]
      have s2 : selP (P :: Ps) (1 :: row) = P :: selP Ps row := by unfold selP; rw [List.zip_cons_cons, List.filter_cons_of_pos (by rfl), List.map_cons]
      rw [s1, s2, dot_cons, List.sum_cons, h2, Int.mul_one]
      refine ⟨.cons h h1, rfl, fun x hx => ?_, ?_⟩
      · rcases List.mem_cons.mp hx with rfl | hx
        · exact List.mem_cons_self
        · exact List.mem_cons_of_mem _ (h3 x hx)
      · rw [List.map_cons, List.map_cons, List.sum_cons, List.sum_cons]; omega
    · have e0 : b = 0 := by omega
      subst e0
      have s1 : selL (e :: L) (0 :: row) = selL L row := by unfold selL; rw [List.zip_cons_cons, List.filter_cons_of_neg (by simp)]
      have s2 : selP (P :: Ps) (0 :: row) = selP Ps row := by unfold selP; rw [List.zip_cons_cons, List.filter_cons_of_neg (by simp)]
      rw [s1, s2, dot_cons, h2, Int.mul_zero, Int.zero_add]
      refine ⟨h1, rfl, fun x hx => List.mem_cons_of_mem _ (h3 x hx), ?_⟩
      rw [List.map_cons, List.sum_cons]; omega
  | [], [], _ :: _, _, hl, _ => by cases hl
  | _ :: _, _ :: _, [], _, hl, _ => by cases hl
theorem OkRep.sel {B : Int} {L : List (Int × Int)} {Ps row : List Int} (ok : OkRep L B Ps) (hl : row.length = L.length) (hb : ∀ b ∈ row, 0 ≤ b ∧ b ≤ 1) : OkRep (selL L row) B (selP Ps row) := by
  obtain ⟨h1, h2, h3, h4⟩ := sel_ok ok.rep hl hb
  exact ⟨h1, ok.b0, ok.sb, fun e he => ok.sh e (h3 e he), Nat.lt_of_le_of_lt h4 ok.sp⟩
theorem low_lt {x y B : Int} (hB : 0 < B) : lowT y B * lowB x B < lowT x B * lowB y B ↔ y < x := by
  have cx := low_cross (a := x) hB
  have cy := low_cross (a := y) hB
  have px := low_pos (a := x) hB
  have py := low_pos (a := y) hB
  have pp : 0 < lowB x B * lowB y B := Int.mul_pos px py
  have e1 : lowT y B * lowB x B * B = y * (lowB x B * lowB y B) := by
    calc lowT y B * lowB x B * B = (lowT y B * B) * lowB x B := by ac_rfl
      _ = y * lowB y B * lowB x B := by rw [cy]
      _ = _ := by ac_rfl
  have e2 : lowT x B * lowB y B * B = x * (lowB x B * lowB y B) := by
    calc lowT x B * lowB y B * B = (lowT x B * B) * lowB y B := by ac_rfl
      _ = x * lowB x B * lowB y B := by rw [cx]
      _ = _ := by ac_rfl
  constructor
  · intro h
    have h2 := Int.mul_lt_mul_of_pos_right h hB
    rw [e1, e2] at h2
    exact Int.lt_of_mul_lt_mul_right h2 (Int.le_of_lt pp)
  · intro h
    have h2 := Int.mul_lt_mul_of_pos_right h pp
    rw [← e1, ← e2] at h2
    exact Int.lt_of_mul_lt_mul_right h2 (Int.le_of_lt hB)
theorem bestP_eq {B m : Int} {L : List (Int × Int)} {Ps row : List Int} (ok : OkRep L B Ps) (hl : row.length = L.length) (hb : ∀ b ∈ row, 0 ≤ b ∧ b ≤ 1) :
    bestP (lowT m B, lowB m B) L row = (lowT (if dot Ps row > m then dot Ps row else m) B, lowB (if dot Ps row > m then dot Ps row else m) B) := by
  obtain ⟨h1, h2, h3, h4⟩ := sel_ok ok.rep hl hb
  have e := sumL_eq (ok.sel hl hb)
  rw [h2] at e
  unfold bestP gtP
  rw [e]
  dsimp only
  by_cases c : dot Ps row > m
  · rw [if_pos (decide_eq_true ((low_lt ok.b0).mpr c)), if_pos c]
  · rw [if_neg (by rw [decide_eq_true_eq, low_lt ok.b0]; exact c), if_neg c]
theorem lotV_from {B : Int} {L : List (Int × Int)} {Ps : List Int} (ok : OkRep L B Ps) : ∀ {M : List (List Int)} (m : Int), Bits L.length M →
    M.foldl (fun best row => bestP best L row) (lowT m B, lowB m B) = (lowT ((M.map (dot Ps)).foldl (fun m x => if x > m then x else m) m) B, lowB ((M.map (dot Ps)).foldl (fun m x => if x > m then x else m) m) B)
  | [], m, _ => rfl
  | row :: M, m, h => by
    rw [List.foldl_cons, List.map_cons, List.foldl_cons, bestP_eq ok (h row List.mem_cons_self).1 (h row List.mem_cons_self).2]
    exact lotV_from ok _ fun r hr => h r (List.mem_cons_of_mem _ hr)
theorem lotV_eq {B : Int} {L : List (Int × Int)} {Ps : List Int} (ok : OkRep L B Ps) {M : List (List Int)} (h : Bits L.length M) : lotV M L = (lowT (maxI (M.map (dot Ps))) B, lowB (maxI (M.map (dot Ps))) B) := by
  have e := lotV_from ok 0 h
  obtain ⟨h1, h2⟩ := low01 ok.b0
  rw [h1, h2] at e
  exact e
theorem lotV_ok {B : Int} {L : List (Int × Int)} {Ps : List Int} (ok : OkRep L B Ps) (nn : ∀ P ∈ Ps, 0 ≤ P) {M : List (List Int)} (h : Bits L.length M) : ShOk 1900 (lotV M L).1 (lotV M L).2 := by
  rw [lotV_eq ok h]
  refine ShOk.low ⟨ok.b0, ok.sb, ?_⟩
  rcases (maxI_from (M.map (dot Ps)) 0).2.2 with e | e
  · show (maxI (M.map (dot Ps))).natAbs < _
    unfold maxI
    rw [e]
    exact Nat.pow_pos (by decide)
  · obtain ⟨row, hr, e2⟩ := List.mem_map.mp e
    obtain ⟨h1, h2⟩ := h row hr
    show (maxI (M.map (dot Ps))).natAbs < _
    unfold maxI
    rw [← e2]
    have q := sel_ok ok.rep h1 h2
    rw [← q.2.1]
    exact Nat.lt_of_le_of_lt (natAbs_sumP _) (Nat.lt_of_le_of_lt q.2.2.2 ok.sp)
/-! common bottoms -/
theorem lcm_facts {b q : Int} (hb : 0 < b) (hq : 0 < q) : 0 < ((Nat.lcm b.natAbs q.natAbs : Nat) : Int) ∧ b ∣ ((Nat.lcm b.natAbs q.natAbs : Nat) : Int) ∧ q ∣ ((Nat.lcm b.natAbs q.natAbs : Nat) : Int) ∧ ∀ N : Int, b ∣ N → q ∣ N → ((Nat.lcm b.natAbs q.natAbs : Nat) : Int) ∣ N := by
  refine ⟨?_, ?_, ?_, fun N h1 h2 => ?_⟩
  · have := Nat.lcm_pos (Int.natAbs_pos.mpr (Int.ne_of_gt hb)) (Int.natAbs_pos.mpr (Int.ne_of_gt hq))
    omega
  · exact Int.natAbs_dvd_natAbs.mp (Nat.dvd_lcm_left b.natAbs q.natAbs)
  · exact Int.natAbs_dvd_natAbs.mp (Nat.dvd_lcm_right b.natAbs q.natAbs)
  · exact Int.natAbs_dvd_natAbs.mp (Nat.lcm_dvd (Int.natAbs_dvd_natAbs.mpr h1) (Int.natAbs_dvd_natAbs.mpr h2))
theorem botL_from : ∀ {L : List (Int × Int)} {b : Int}, 0 < b → (∀ e ∈ L, 0 < e.2) → 0 < L.foldl (fun b e => ((Nat.lcm b.natAbs e.2.natAbs : Nat) : Int)) b ∧ b ∣ L.foldl (fun b e => ((Nat.lcm b.natAbs e.2.natAbs : Nat) : Int)) b ∧
    (∀ e ∈ L, e.2 ∣ L.foldl (fun b e => ((Nat.lcm b.natAbs e.2.natAbs : Nat) : Int)) b) ∧ ∀ N : Int, b ∣ N → (∀ e ∈ L, e.2 ∣ N) → L.foldl (fun b e => ((Nat.lcm b.natAbs e.2.natAbs : Nat) : Int)) b ∣ N
  | [], b, hb, _ => ⟨hb, Int.dvd_refl _, fun e h => by (cases h), fun N h _ => h⟩
  | x :: L, b, hb, h => by
    obtain ⟨l1, l2, l3, l4⟩ := lcm_facts hb (h x List.mem_cons_self)
    obtain ⟨i1, i2, i3, i4⟩ := botL_from (L := L) l1 fun e he => h e (List.mem_cons_of_mem _ he)
    rw [List.foldl_cons]
    refine ⟨i1, Int.dvd_trans l2 i2, fun e he => ?_, fun N h1 h2 => i4 N (l4 N h1 (h2 x List.mem_cons_self)) fun e he => h2 e (List.mem_cons_of_mem _ he)⟩
    rcases List.mem_cons.mp he with rfl | he
    · exact Int.dvd_trans l3 i2
    · exact i3 e he
theorem botL_ok {L : List (Int × Int)} (h : ∀ e ∈ L, 0 < e.2) : 0 < botL L ∧ (∀ e ∈ L, e.2 ∣ botL L) ∧ ∀ N : Int, (∀ e ∈ L, e.2 ∣ N) → botL L ∣ N := by
  obtain ⟨i1, _, i3, i4⟩ := botL_from (L := L) (b := 1) (by decide) h
  exact ⟨i1, i3, fun N h2 => i4 N (Int.one_dvd N) h2⟩
theorem nums_rep {L : List (Int × Int)} (h : ∀ e ∈ L, 0 < e.2) : Rep (botL L) L (numsL L) := by
  have hd := (botL_ok h).2.1
  refine Rep.of (by unfold numsL; rw [List.length_map]) fun i e P h1 h2 => ?_
  unfold numsL at h2
  rw [List.getElem?_map, h1] at h2
  cases h2
  rw [Int.mul_assoc, Int.ediv_mul_cancel (hd e (List.mem_of_getElem? h1))]
theorem Rep.prp {B C : Int} : ∀ {L : List (Int × Int)} {P Q : List Int}, Rep B L P → Rep C L Q → (∀ e ∈ L, 0 < e.2) → Prp B C P Q
  | _, _, _, .nil, .nil, _ => .nil
  | e :: L, x :: P, y :: Q, .cons h1 t1, .cons h2 t2, hp => by
    refine .cons ?_ (Rep.prp t1 t2 fun z hz => hp z (List.mem_cons_of_mem _ hz))
    refine Int.eq_of_mul_eq_mul_right (Int.ne_of_gt (hp e List.mem_cons_self)) ?_
    calc x * C * e.2 = (x * e.2) * C := by ac_rfl
      _ = e.1 * B * C := by rw [h1]
      _ = (e.1 * C) * B := by ac_rfl
      _ = y * B * e.2 := by rw [h2]; ac_rfl
theorem Rep.prpB {B C : Int} {L : List (Int × Int)} {P Q : List Int} (h1 : Rep B L P) (h2 : Rep C L Q) (hp : ∀ e ∈ L, 0 < e.2) : Prp B C P Q := h1.prp h2 hp
/-! right numbers -/
theorem addR_prp {B C : Int} {p q : Int} (hp : p * C = q * B) : ∀ {s t row : List Int}, Prp B C s t → Prp B C (addR s p row) (addR t q row)
  | _, _, _, .nil => .nil
  | x :: s, y :: t, [], .cons _ _ => .nil
  | x :: s, y :: t, r :: row, .cons h1 h2 => by
    show Prp B C ((x + p * r) :: addR s p row) ((y + q * r) :: addR t q row)
    refine .cons ?_ (addR_prp hp h2)
    rw [Int.add_mul, Int.add_mul, h1]
    congr 1
    calc p * r * C = (p * C) * r := by ac_rfl
      _ = q * r * B := by rw [hp]; ac_rfl
theorem rights_from_prp {B C : Int} : ∀ {M : List (List Int)} {P Q s t : List Int}, Prp B C P Q → Prp B C s t → Prp B C ((P.zip M).foldl (fun s z => addR s z.1 z.2) s) ((Q.zip M).foldl (fun s z => addR s z.1 z.2) t)
  | M, _, _, s, t, .nil, h => by simpa using h
  | [], _ :: _, _ :: _, s, t, .cons _ _, h => by simpa using h
  | row :: M, p :: P, q :: Q, s, t, .cons h1 h2, h => by
    rw [List.zip_cons_cons, List.zip_cons_cons, List.foldl_cons, List.foldl_cons]
    exact rights_from_prp h2 (addR_prp h1 h)
theorem zeros_prp {B C : Int} (l : List Int) : Prp B C (l.map fun _ => 0) (l.map fun _ => 0) := by
  induction l with
  | nil => exact .nil
  | cons x l ih => exact .cons (by rw [Int.zero_mul, Int.zero_mul]) ih
theorem rights_prp {B C : Int} {M : List (List Int)} {P Q : List Int} (h : Prp B C P Q) : Prp B C (rightsF P M) (rightsF Q M) := rights_from_prp h (zeros_prp _)
theorem addR_len {p : Int} {s row : List Int} (h : s.length = row.length) : (addR s p row).length = s.length := by
  unfold addR
  rw [List.length_zipWith]; omega
theorem rights_from_get {n j : Nat} (hj : j < n) : ∀ {M : List (List Int)} {P s : List Int}, P.length = M.length → (∀ row ∈ M, row.length = n) → s.length = n →
    ((P.zip M).foldl (fun s z => addR s z.1 z.2) s).length = n ∧ ((P.zip M).foldl (fun s z => addR s z.1 z.2) s).getD j 0 = s.getD j 0 + dot P (M.map fun row => row.getD j 0)
  | [], [], s, _, _, hs => ⟨hs, by rw [List.zip_nil_left, List.foldl_nil, List.map_nil, dot_nil, Int.add_zero]⟩
  | row :: M, p :: P, s, hl, h, hs => by
    have hr := h row List.mem_cons_self
    have hl2 : (addR s p row).length = n := by rw [addR_len (by omega)]; exact hs
    obtain ⟨i1, i2⟩ := rights_from_get hj (M := M) (P := P) (s := addR s p row) (by simpa using hl) (fun r hr => h r (List.mem_cons_of_mem _ hr)) hl2
    rw [List.zip_cons_cons, List.foldl_cons]
    refine ⟨i1, ?_⟩
    rw [i2, List.map_cons, dot_cons]
    have e : (addR s p row).getD j 0 = s.getD j 0 + p * row.getD j 0 := by
      unfold addR
      rw [List.getD_eq_getElem?_getD, List.getElem?_zipWith, List.getElem?_eq_getElem (by omega), List.getElem?_eq_getElem (by omega)]
      rw [List.getD_eq_getElem?_getD, List.getD_eq_getElem?_getD, List.getElem?_eq_getElem (by omega), List.getElem?_eq_getElem (by omega)]
      rfl
    rw [e]
    omega
  | [], _ :: _, _, hl, _, _ => by cases hl
  | _ :: _, [], _, hl, _, _ => by cases hl
theorem head_len {n : Nat} {M : List (List Int)} (h : ∀ row ∈ M, row.length = n) (hne : M ≠ []) : (M.headD []).length = n := by
  cases M with
  | nil => exact absurd rfl hne
  | cons r M => exact h r List.mem_cons_self
theorem rights_len {n : Nat} {M : List (List Int)} {P : List Int} (hl : P.length = M.length) (h : ∀ row ∈ M, row.length = n) (hne : M ≠ []) (hn : 0 < n) : (rightsF P M).length = n :=
  (rights_from_get (j := 0) hn hl h (by rw [List.length_map, head_len h hne])).1
theorem rights_get {n j : Nat} {M : List (List Int)} {P : List Int} (hl : P.length = M.length) (h : ∀ row ∈ M, row.length = n) (hne : M ≠ []) (hj : j < n) : (rightsF P M).getD j 0 = dot P (M.map fun row => row.getD j 0) := by
  have e := (rights_from_get hj hl h (s := (M.headD []).map fun _ => 0) (by rw [List.length_map, head_len h hne])).2
  rw [show ((M.headD []).map fun _ => (0 : Int)).getD j 0 = 0 by
    rw [List.getD_eq_getElem?_getD, List.getElem?_map]
    cases (M.headD [])[j]? <;> rfl] at e
  rw [Int.zero_add] at e
  exact e
theorem dot_le {G : Int} : ∀ {P x : List Int}, (∀ p ∈ P, 0 ≤ p) → P.length = x.length → (∀ y ∈ x, y ≤ G) → dot P x ≤ P.sum * G
  | [], [], _, _, _ => by rw [dot_nil, List.sum_nil, Int.zero_mul]; exact Int.le_refl _
  | p :: P, y :: x, h1, h2, h3 => by
    have ih := dot_le (P := P) (x := x) (fun z hz => h1 z (List.mem_cons_of_mem _ hz)) (by simpa using h2) fun z hz => h3 z (List.mem_cons_of_mem _ hz)
    rw [dot_cons, List.sum_cons, Int.add_mul]
    have := Int.mul_le_mul_of_nonneg_left (h3 y List.mem_cons_self) (h1 p List.mem_cons_self)
    omega
  | [], _ :: _, _, h, _ => by cases h
  | _ :: _, [], _, h, _ => by cases h
theorem dot_one_sub : ∀ {P x : List Int}, P.length = x.length → dot P (x.map (1 - ·)) = P.sum - dot P x
  | [], [], _ => rfl
  | p :: P, y :: x, h => by
    rw [List.map_cons, dot_cons, dot_cons, List.sum_cons, dot_one_sub (by simpa using h), Int.mul_sub, Int.mul_one]
    omega
  | [], _ :: _, h => by cases h
  | _ :: _, [], h => by cases h
theorem dot_addR {p : Int} : ∀ {s row f : List Int}, s.length = row.length → row.length = f.length → dot (addR s p row) f = dot s f + p * dot row f
  | [], [], [], _, _ => by show (0 : Int) = 0 + p * 0; rw [Int.mul_zero]; rfl
  | x :: s, r :: row, g :: f, h1, h2 => by
    show dot ((x + p * r) :: addR s p row) (g :: f) = _
    rw [dot_cons, dot_cons, dot_cons, dot_addR (by simpa using h1) (by simpa using h2), Int.add_mul, Int.mul_add]
    have : p * r * g = p * (r * g) := Int.mul_assoc _ _ _
    omega
  | [], [], _ :: _, _, h => by cases h
  | [], _ :: _, _, h, _ => by cases h
  | _ :: _, [], _, h, _ => by cases h
  | _ :: _, _ :: _, [], _, h => by cases h
theorem rights_from_dot {n : Nat} {f : List Int} (hf : f.length = n) : ∀ {M : List (List Int)} {P s : List Int}, P.length = M.length → (∀ row ∈ M, row.length = n) → s.length = n →
    dot ((P.zip M).foldl (fun s z => addR s z.1 z.2) s) f = dot s f + dot P (M.map fun row => dot row f)
  | [], [], s, _, _, _ => by rw [List.zip_nil_left, List.foldl_nil, List.map_nil, dot_nil, Int.add_zero]
  | row :: M, p :: P, s, hl, h, hs => by
    have hr := h row List.mem_cons_self
    rw [List.zip_cons_cons, List.foldl_cons]
    show dot ((P.zip M).foldl (fun s z => addR s z.1 z.2) (addR s p row)) f = _
    rw [rights_from_dot hf (by simpa using hl) (fun r hr => h r (List.mem_cons_of_mem _ hr)) (by rw [addR_len (by omega)]; exact hs), dot_addR (by omega) (by omega), List.map_cons, dot_cons]
    omega
  | [], _ :: _, _, hl, _, _ => by cases hl
  | _ :: _, [], _, hl, _, _ => by cases hl
theorem zeros_dot (l f : List Int) : dot (l.map fun _ => 0) f = 0 := by
  have : (l.map fun _ => (0 : Int)) = (l.map fun _ => (0 : Int)).map (· * 0) := by
    rw [List.map_map]; rfl
  rw [this, dot_scale, Int.mul_zero]
theorem rights_dot {n : Nat} {f : List Int} {M : List (List Int)} {P : List Int} (hf : f.length = n) (hl : P.length = M.length) (h : ∀ row ∈ M, row.length = n) (hne : M ≠ []) : dot (rightsF P M) f = dot P (M.map fun row => dot row f) := by
  have e := rights_from_dot hf hl h (s := (M.headD []).map fun _ => 0) (by rw [List.length_map, head_len h hne])
  rw [zeros_dot, Int.zero_add] at e
  exact e
end Pyl
end
section
set_option linter.all false
namespace Pyl
open PySem
/-! lowest(top, bottom): 0 top 1 bottom 2 common -/
def w_lowest : WS := (wSeq (wIf (tVal (e2 pEq (eVar 1) (eC (.int 0))))
  wDead
  wNil)
  (wSeq (wAsg 2 (e2 pGcd (eVar 0) (eVar 1)))
  (wSeq (wIf (tVal (e2 pLt (eVar 1) (eC (.int 0))))
  (wAsg 2 (e1 pNeg (eVar 2)))
  wNil)
  (wRet (eTup (aCons (e2 pDiv (eVar 0) (eVar 2)) (aCons (e2 pDiv (eVar 1) (eVar 2)) aNil)))))))
/-! plus(one, two): 0 one 1 two -/
def w_plus : WS := (wRet (eCall F_lowest (aCons (e2 pAdd (e2 pMul (e2 pIx (eVar 0) (eC (.int 0))) (e2 pIx (eVar 1) (eC (.int 1)))) (e2 pMul (e2 pIx (eVar 1) (eC (.int 0))) (e2 pIx (eVar 0) (eC (.int 1))))) (aCons (e2 pMul (e2 pIx (eVar 0) (eC (.int 1))) (e2 pIx (eVar 1) (eC (.int 1)))) aNil))))
/-! times(one, two): 0 one 1 two -/
def w_times : WS := (wRet (eCall F_lowest (aCons (e2 pMul (e2 pIx (eVar 0) (eC (.int 0))) (e2 pIx (eVar 1) (eC (.int 0)))) (aCons (e2 pMul (e2 pIx (eVar 0) (eC (.int 1))) (e2 pIx (eVar 1) (eC (.int 1)))) aNil))))
/-! sum_of(shares): 0 shares 1 result 2 share -/
def w_sum_of : WS := (wSeq (wAsg 1 (eTup (aCons (eC (.int 0)) (aCons (eC (.int 1)) aNil))))
  (wSeq (wFor (iSeq (eVar 0)) (gN 2)
  (wAsg 1 (eCall F_plus (aCons (eVar 1) (aCons (eVar 2) aNil)))))
  (wRet (eVar 1))))
/-! compare(one, two): 0 one 1 two 2 left 3 right -/
def w_compare : WS := (wSeq (wAsg 2 (e2 pMul (e2 pIx (eVar 0) (eC (.int 0))) (e2 pIx (eVar 1) (eC (.int 1)))))
  (wSeq (wAsg 3 (e2 pMul (e2 pIx (eVar 1) (eC (.int 0))) (e2 pIx (eVar 0) (eC (.int 1)))))
  (wRet (e2 pSub (e1 pInt (e2 pGt (eVar 2) (eVar 3))) (e1 pInt (e2 pLt (eVar 2) (eVar 3)))))))
/-! lot_value(payoffs, lot): 0 payoffs 1 lot 2 best 3 bits 4 share 5 part 6 bit -/
def w_lot_value : WS := (wSeq (wAsg 2 (eTup (aCons (eC (.int 0)) (aCons (eC (.int 1)) aNil))))
  (wSeq (wFor (iSeq (eVar 0)) (gN 3)
  (wSeq (wAsg 4 (eCall F_sum_of (aCons (eComp [5, 6] (iZip (eVar 1) (eVar 3)) (gT [5, 6]) (tVal (e2 pEq (eVar 6) (eC (.int 1)))) (eVar 5)) aNil)))
  (wIf (tVal (e2 pGt (eCall F_compare (aCons (eVar 4) (aCons (eVar 2) aNil))) (eC (.int 0))))
  (wAsg 2 (eVar 4))
  wNil)))
  (wRet (eVar 2))))
/-! common_numbers(shares): 0 shares 1 bottom 2 share -/
def w_common_numbers : WS := (wSeq (wAsg 1 (eC (.int 1)))
  (wSeq (wFor (iSeq (eVar 0)) (gN 2)
  (wAsg 1 (e2 pLcm (eVar 1) (e2 pIx (eVar 2) (eC (.int 1))))))
  (wRet (eTup (aCons (eComp [2] (iSeq (eVar 0)) (gN 2) tYes (e2 pMul (e2 pIx (eVar 2) (eC (.int 0))) (e2 pDiv (eVar 1) (e2 pIx (eVar 2) (eC (.int 1)))))) (aCons (eVar 1) aNil))))))
/-! right_numbers(payoffs, mix): 0 payoffs 1 mix 2 sums 3 parts 4 bottom 5 part 6 bits 7 _ 8 number 9 bit -/
def w_right_numbers : WS := (wSeq (wUnp [3, 4] (eCall F_common_numbers (aCons (eVar 1) aNil)))
  (wSeq (wAsg 2 (eComp [7] (iSeq (e2 pIx (eVar 0) (eC (.int 0)))) (gN 7) tYes (eC (.int 0))))
  (wFrz 2 (wSeq (wFor (iZip (eVar 3) (eVar 0)) (gT [5, 6])
  (wAsg 2 (eComp [8, 9] (iZip (eVar 2) (eVar 6)) (gT [8, 9]) tYes (e2 pAdd (eVar 8) (e2 pMul (eVar 5) (eVar 9))))))
  (wFrz 2 (wRet (eTup (aCons (eVar 2) (aCons (eVar 4) aNil)))))))))
/-! mix_value(payoffs, mix, most): 0 payoffs 1 mix 2 most 3 ordered 4 result 5 left 6 number 7 sums 8 bottom 9 part -/
def w_mix_value : WS := (wSeq (wUnp [7, 8] (eCall F_right_numbers (aCons (eVar 0) (aCons (eVar 1) aNil))))
  (wSeq (wAsg 3 (e1 pSorted (eVar 7)))
  (wFrz 3 (wSeq (wIf (tVal (e1 pIsN (eVar 2)))
  (wRet (eCall F_lowest (aCons (e2 pIx (eVar 3) (eC (.int 0))) (aCons (eVar 8) aNil))))
  wNil)
  (wSeq (wAsg 4 (eTup (aCons (eC (.int 0)) (aCons (eC (.int 1)) aNil))))
  (wSeq (wAsg 5 (eTup (aCons (eC (.int 1)) (aCons (eC (.int 1)) aNil))))
  (wSeq (wFor (iSeq (eVar 3)) (gN 6)
  (wSeq (wAsg 9 (eIf (tVal (e2 pLt (eCall F_compare (aCons (eVar 5) (aCons (eVar 2) aNil))) (eC (.int 0)))) (eVar 5) (eVar 2)))
  (wSeq (wAsg 4 (eCall F_plus (aCons (eVar 4) (aCons (eCall F_times (aCons (eVar 9) (aCons (eTup (aCons (eVar 6) (aCons (eVar 8) aNil))) aNil))) aNil))))
  (wAsg 5 (eCall F_plus (aCons (eVar 5) (aCons (eTup (aCons (e1 pNeg (e2 pIx (eVar 9) (eC (.int 0)))) (aCons (e2 pIx (eVar 9) (eC (.int 1))) aNil))) aNil)))))))
  (wRet (eVar 4)))))))))
/-! _law_whole(value): 0 value -/
def w__law_whole : WS := (wRet (eAnd (e1 (pIsi "int") (eVar 0)) (eNot (e1 (pIsi "bool") (eVar 0)))))
/-! _law_cell(script, k): 0 script 1 k 2 seed 3 cell -/
def w__law_cell : WS := (wSeq (wIf (tVal (e2 pLt (eVar 1) (e1 pLen (eVar 0))))
  (wRet (e2 pIx (eVar 0) (eVar 1)))
  wNil)
  (wSeq (wAsg 2 (eC (.int 17)))
  (wSeq (wFor (iSeq (eVar 0)) (gN 3)
  (wAsg 2 (e2 pMod (e1 pInt (e2 pAdd (e2 pMul (eVar 2) (eC (.int 31))) (e2 pMod (e1 pInt (eVar 3)) (eC (.int 1000003))))) (eC (.int 1000003)))))
  (wRet (e2 pMod (e1 pInt (e2 pMul (e2 pMul (e2 pAdd (eVar 2) (eC (.int 7))) (e2 pAdd (eVar 1) (eC (.int 3)))) (eC (.int 69621)))) (eC (.int 2147483647)))))))
/-! _law_digits(cell, sizes): 0 cell 1 sizes 2 row 3 rest 4 seed 5 k 6 size 7 twice -/
def w__law_digits : WS := (wSeq (wAsg 2 (eLst aNil))
  (wSeq (wAsg 3 (e1 pInt (eVar 0)))
  (wSeq (wIf (tVal (e2 pGe (eVar 3) (e2 pPow (eC (.int 10)) (eC (.int 18)))))
  (wSeq (wAsg 3 (e2 pSub (eVar 3) (e2 pPow (eC (.int 10)) (eC (.int 18)))))
  (wSeq (wFor (iSeq (eVar 1)) (gN 6)
  (wSeq (wApp 2 (e2 pMod (e1 pInt (eVar 3)) (eVar 6)))
  (wAsg 3 (e2 pDiv (e1 pInt (eVar 3)) (eVar 6)))))
  (wFrz 2 (wRet (eVar 2)))))
  wNil)
  (wSeq (wAsg 4 (e2 pMod (e1 pInt (eVar 3)) (eC (.int 2147483629))))
  (wSeq (wFor (iRange1 (e1 pLen (eVar 1))) (gN 5)
  (wSeq (wAsg 4 (e2 pMod (e1 pInt (e2 pAdd (e2 pAdd (e2 pMul (eVar 4) (eC (.int 48271))) (e2 pMul (eC (.int 974711)) (eVar 5))) (eC (.int 12345)))) (eC (.int 2147483647))))
  (wSeq (wAsg 7 (e2 pMod (e1 pInt (e2 pMul (eVar 4) (e2 pAdd (e2 pDiv (eVar 4) (eC (.int 65537))) (eC (.int 3))))) (eC (.int 2147483629))))
  (wApp 2 (e2 pMod (e2 pDiv (eVar 7) (eC (.int 19))) (e2 pIx (eVar 1) (eVar 5)))))))
  (wFrz 2 (wRet (eVar 2))))))))
/-! _law_gcd(one, two): 0 one 1 two 2 left 3 right 4 k 5 rest -/
def w__law_gcd : WS := (wSeq (wAsg 2 (e1 pAbs (eVar 0)))
  (wSeq (wAsg 3 (e1 pAbs (eVar 1)))
  (wSeq (wFor (iRange1 (eC (.int 4000))) (gN 4)
  (wSeq (wIf (tVal (e2 pEq (eVar 3) (eC (.int 0))))
  wBrk
  wNil)
  (wSeq (wAsg 5 (e2 pMod (e1 pInt (eVar 2)) (eVar 3)))
  (wSeq (wAsg 2 (eVar 3))
  (wAsg 3 (eVar 5))))))
  (wRet (eVar 2)))))
/-! _law_is_share(share): 0 share -/
def w__law_is_share : WS := (wSeq (wIf (tOr (tNot (tVal (e1 (pIsi "tuple") (eVar 0)))) (tVal (e2 pNe (e1 pLen (eVar 0)) (eC (.int 2)))))
  (wRet (eC (.bl false)))
  wNil)
  (wSeq (wIf (tOr (tNot (tVal (eCall F__law_whole (aCons (e2 pIx (eVar 0) (eC (.int 0))) aNil)))) (tOr (tNot (tVal (eCall F__law_whole (aCons (e2 pIx (eVar 0) (eC (.int 1))) aNil)))) (tVal (e2 pLt (e2 pIx (eVar 0) (eC (.int 1))) (eC (.int 1))))))
  (wRet (eC (.bl false)))
  wNil)
  (wRet (e2 pEq (eCall F__law_gcd (aCons (e2 pIx (eVar 0) (eC (.int 0))) (aCons (e2 pIx (eVar 0) (eC (.int 1))) aNil))) (eC (.int 1))))))
/-! _law_exactly(told, top, bottom): 0 told 1 top 2 bottom -/
def w__law_exactly : WS := (wRet (eAnd (eCall F__law_is_share (aCons (eVar 0) aNil)) (e2 pEq (e2 pMul (e2 pIx (eVar 0) (eC (.int 0))) (eVar 2)) (e2 pMul (eVar 1) (e2 pIx (eVar 0) (eC (.int 1)))))))
/-! _law_least(numbers, bottom, bound): 0 numbers 1 bottom 2 bound 3 ordered 4 full 5 top -/
def w__law_least : WS := (wSeq (wAsg 3 (e1 pSorted (eVar 0)))
  (wFrz 3 (wSeq (wIf (tVal (e1 pIsN (eVar 2)))
  (wRet (eLst (aCons (e2 pIx (eVar 3) (eC (.int 0))) (aCons (eVar 1) aNil))))
  wNil)
  (wSeq (wAsg 4 (e2 pDiv (e2 pIx (eVar 2) (eC (.int 1))) (e2 pIx (eVar 2) (eC (.int 0)))))
  (wSeq (wAsg 5 (e2 pMul (e1 pSum (eSlice (eVar 3) oNone (oSome (eVar 4)))) (e2 pIx (eVar 2) (eC (.int 0)))))
  (wSeq (wIf (tVal (e2 pLt (eVar 4) (e1 pLen (eVar 3))))
  (wAsg 5 (e2 pAdd (eVar 5) (e2 pMul (e2 pIx (eVar 3) (eVar 4)) (e2 pSub (e2 pIx (eVar 2) (eC (.int 1))) (e2 pMul (eVar 4) (e2 pIx (eVar 2) (eC (.int 0))))))))
  wNil)
  (wRet (eLst (aCons (eVar 5) (aCons (e2 pMul (e2 pIx (eVar 2) (eC (.int 1))) (eVar 1)) aNil))))))))))
/-! _law_bound(script, at, places): 0 script 1 at 2 places 3 limit 4 digits 5 bottom 6 spread -/
def w__law_bound : WS := (wSeq (wAsg 3 (e2 pShl (eC (.int 1)) (eC (.int 20))))
  (wSeq (wIf (tVal (e2 pLt (eVar 2) (eC (.int 9))))
  (wAsg 3 (e2 pShl (eC (.int 1)) (eC (.int 100))))
  wNil)
  (wSeq (wIf (tVal (e2 pLt (eVar 2) (eC (.int 4))))
  (wAsg 3 (e2 pShl (eC (.int 1)) (eC (.int 640))))
  wNil)
  (wSeq (wAsg 4 (eCall F__law_digits (aCons (eCall F__law_cell (aCons (eVar 0) (aCons (eVar 1) aNil))) (aCons (eLst (aCons (eC (.int 8)) (aCons (eC (.int 16)) (aCons (eC (.int 12)) (aCons (eVar 3) (aCons (eVar 3) aNil)))))) aNil))))
  (wSeq (wIf (tVal (e2 pLt (e2 pIx (eVar 4) (eC (.int 0))) (eC (.int 3))))
  (wRet (eC .non))
  wNil)
  (wSeq (wIf (tVal (e2 pEq (e2 pIx (eVar 4) (eC (.int 0))) (eC (.int 3))))
  (wRet (eLst (aCons (e2 pAdd (eC (.int 1)) (e2 pIx (eVar 4) (eC (.int 2)))) (aCons (e2 pMul (e2 pAdd (eC (.int 1)) (e2 pIx (eVar 4) (eC (.int 2)))) (eVar 2)) aNil))))
  wNil)
  (wSeq (wIf (tVal (e2 pEq (e2 pIx (eVar 4) (eC (.int 0))) (eC (.int 4))))
  (wRet (eLst (aCons (e2 pAdd (eC (.int 1)) (e2 pIx (eVar 4) (eC (.int 2)))) (aCons (e2 pMul (e2 pAdd (eC (.int 1)) (e2 pIx (eVar 4) (eC (.int 2)))) (e2 pAdd (eC (.int 1)) (e2 pMod (e1 pInt (e2 pIx (eVar 4) (eC (.int 1)))) (eVar 2)))) aNil))))
  wNil)
  (wSeq (wAsg 5 (e2 pAdd (eC (.int 1)) (e2 pIx (eVar 4) (eC (.int 3)))))
  (wSeq (wAsg 6 (eVar 5))
  (wSeq (wIf (tVal (e2 pEq (e2 pIx (eVar 4) (eC (.int 0))) (eC (.int 6))))
  (wSeq (wAsg 5 (e2 pAdd (eC (.int 2)) (e2 pIx (eVar 4) (eC (.int 1)))))
  (wAsg 6 (e2 pDiv (eVar 5) (eC (.int 3)))))
  wNil)
  (wSeq (wIf (tVal (e2 pEq (e2 pIx (eVar 4) (eC (.int 0))) (eC (.int 7))))
  (wSeq (wAsg 5 (e2 pSub (eVar 3) (e2 pIx (eVar 4) (eC (.int 3)))))
  (wAsg 6 (e2 pDiv (eVar 5) (eC (.int 4)))))
  wNil)
  (wRet (eLst (aCons (e2 pAdd (e2 pDiv (e2 pSub (e2 pAdd (eVar 5) (eVar 2)) (eC (.int 1))) (eVar 2)) (e2 pMod (e1 pInt (e2 pIx (eVar 4) (eC (.int 4)))) (e2 pAdd (eC (.int 1)) (eVar 6)))) (aCons (eVar 5) aNil)))))))))))))))
/-! _law_payoffs(script, at, programs, places, shape): 0 script 1 at 2 programs 3 places 4 shape 5 digits 6 rows 7 k 8 i 9 j 10 bits -/
def w__law_payoffs : WS := (wSeq (wAsg 5 (eCall F__law_digits (aCons (eCall F__law_cell (aCons (eVar 0) (aCons (eVar 1) aNil))) (aCons (eComp [7] (iRange1 (e2 pMul (eVar 2) (eVar 3))) (gN 7) tYes (eC (.int 12))) aNil))))
  (wSeq (wAsgM 6 (mComp [8] (iRange1 (eVar 2)) (gN 8) (eComp [9] (iRange1 (eVar 3)) (gN 9) tYes (e1 pInt (e2 pLt (e2 pIx (eVar 5) (e2 pAdd (e2 pMul (eVar 3) (eVar 8)) (eVar 9))) (e2 pAdd (eC (.int 3)) (e2 pIx (eVar 4) (eC (.int 3)))))))))
  (wSeq (wIf (tVal (e2 pLt (e2 pIx (eVar 4) (eC (.int 4))) (eC (.int 2))))
  (wAsgM 6 (mComp [8] (iRange1 (eVar 2)) (gN 8) (eLook (eComp [9] (iRange1 (eVar 3)) (gN 9) tYes (e2 pIx (e2 pIx (eVar 6) (eC (.int 0))) (e2 pMod (e1 pInt (e2 pAdd (eVar 9) (eVar 8))) (eVar 3)))))))
  wNil)
  (wSeq (wIf (tVal (e2 pEq (e2 pIx (eVar 4) (eC (.int 4))) (eC (.int 2))))
  (wSeq (wPutR 6 (e2 pMod (e1 pInt (e2 pIx (eVar 4) (eC (.int 5)))) (eVar 2)) (eLook (e1 pList (e2 pIx (eVar 6) (e2 pMod (e1 pInt (e2 pIx (eVar 4) (eC (.int 6)))) (eVar 2))))))
  (wFor (iRange1 (eVar 2)) (gN 8)
  (wPutM 6 (eVar 8) (e2 pMod (e1 pInt (e2 pIx (eVar 4) (eC (.int 7)))) (eVar 3)) (eLook (e2 pIx (e2 pIx (eVar 6) (eVar 8)) (e2 pMod (e1 pInt (e2 pIx (eVar 4) (eC (.int 8)))) (eVar 3)))))))
  wNil)
  (wSeq (wIf (tOr (tVal (e2 pEq (e2 pIx (eVar 4) (eC (.int 4))) (eC (.int 3)))) (tOr (tVal (e2 pEq (eVar 2) (eC (.int 1)))) (tVal (e2 pEq (eVar 3) (eC (.int 1))))))
  (wFrz 6 (wRet (eVar 6)))
  wNil)
  (wSeq (wFor (iRange1 (eC (.int 2))) (gN 7)
  (wSeq (wFor (iRange1 (eVar 2)) (gN 8)
  (wIf (tLook (tVal (e2 pEq (e1 pSum (e2 pIx (eVar 6) (eVar 8))) (eVar 3))))
  (wPutM 6 (eVar 8) (e2 pMod (e1 pInt (e2 pAdd (e2 pAdd (eVar 8) (e2 pIx (eVar 4) (eC (.int 7)))) (eVar 7))) (eVar 3)) (eC (.int 0)))
  wNil))
  (wFor (iRange1 (eVar 3)) (gN 9)
  (wIf (tLook (tVal (e2 pEq (e1 pSum (eComp [10] (iSeq (eVar 6)) (gN 10) tYes (e2 pIx (eVar 10) (eVar 9)))) (eC (.int 0)))))
  (wPutM 6 (e2 pMod (e1 pInt (e2 pAdd (e2 pAdd (eVar 9) (e2 pIx (eVar 4) (eC (.int 5)))) (eVar 7))) (eVar 2)) (eVar 9) (eC (.int 1)))
  wNil))))
  (wFrz 6 (wRet (eVar 6)))))))))
/-! _law_drawn(script, at, count): 0 script 1 at 2 count 3 limit 4 digits 5 parts 6 total 7 shares 8 k 9 times_k 10 common_k -/
def w__law_drawn : WS := (wSeq (wAsg 3 (e2 pShl (eC (.int 1)) (eC (.int 640))))
  (wSeq (wAsg 4 (eCall F__law_digits (aCons (eCall F__law_cell (aCons (eVar 0) (aCons (eVar 1) aNil))) (aCons (e2 pAdd (e2 pAdd (eLst (aCons (eC (.int 8)) (aCons (eC (.int 3)) (aCons (eC (.int 24)) aNil)))) (eComp [8] (iRange1 (eVar 2)) (gN 8) tYes (eVar 3))) (eComp [8] (iRange1 (eVar 2)) (gN 8) tYes (eC (.int 12)))) aNil))))
  (wSeq (wAsg 5 (eComp [8] (iRange1 (eVar 2)) (gN 8) tYes (e2 pMod (e1 pInt (e2 pIx (eVar 4) (e2 pAdd (eC (.int 3)) (eVar 8)))) (eC (.int 4)))))
  (wSeq (wIf (tOr (tVal (e2 pEq (e2 pIx (eVar 4) (eC (.int 0))) (eC (.int 3)))) (tVal (e2 pEq (e2 pIx (eVar 4) (eC (.int 0))) (eC (.int 4)))))
  (wAsg 5 (eComp [8] (iRange1 (eVar 2)) (gN 8) tYes (e2 pMod (e1 pInt (e2 pIx (eVar 4) (e2 pAdd (eC (.int 3)) (eVar 8)))) (eC (.int 60)))))
  wNil)
  (wSeq (wIf (tVal (e2 pEq (e2 pIx (eVar 4) (eC (.int 0))) (eC (.int 5))))
  (wAsg 5 (eComp [8] (iRange1 (eVar 2)) (gN 8) tYes (e2 pIx (eVar 4) (e2 pAdd (eC (.int 3)) (eVar 8)))))
  wNil)
  (wSeq (wIf (tVal (e2 pEq (e2 pIx (eVar 4) (eC (.int 0))) (eC (.int 6))))
  (wAsg 5 (eComp [8] (iRange1 (eVar 2)) (gN 8) tYes (e2 pSub (eVar 3) (e2 pIx (eVar 4) (e2 pAdd (eC (.int 3)) (eVar 8))))))
  wNil)
  (wSeq (wIf (tVal (e2 pEq (e2 pIx (eVar 4) (eC (.int 0))) (eC (.int 7))))
  (wAsg 5 (eComp [8] (iRange1 (eVar 2)) (gN 8) tYes (eC (.int 0))))
  wNil)
  (wSeq (wIf (tVal (e2 pEq (e1 pSum (eVar 5)) (eC (.int 0))))
  (wPut 5 (e2 pMod (e1 pInt (e2 pIx (eVar 4) (eC (.int 2)))) (eVar 2)) (eC (.int 1)))
  wNil)
  (wSeq (wAsg 6 (e1 pSum (eVar 5)))
  (wSeq (wAsg 7 (eLst aNil))
  (wSeq (wFor (iRange1 (eVar 2)) (gN 8)
  (wSeq (wAsg 9 (e2 pAdd (eC (.int 1)) (e2 pIx (eVar 4) (e2 pAdd (e2 pAdd (eC (.int 3)) (eVar 2)) (eVar 8)))))
  (wSeq (wApp 7 (eLst (aCons (e2 pMul (e2 pIx (eVar 5) (eVar 8)) (eVar 9)) (aCons (e2 pMul (eVar 6) (eVar 9)) aNil))))
  (wIf (tVal (e2 pEq (e2 pIx (eVar 4) (eC (.int 1))) (eC (.int 0))))
  (wSeq (wAsg 10 (eCall F__law_gcd (aCons (e2 pIx (eVar 5) (eVar 8)) (aCons (eVar 6) aNil))))
  (wPut 7 (eVar 8) (eLst (aCons (e2 pDiv (e2 pIx (eVar 5) (eVar 8)) (eVar 10)) (aCons (e2 pDiv (eVar 6) (eVar 10)) aNil)))))
  wNil))))
  (wFrz 7 (wFrz 5 (wRet (eLst (aCons (eVar 5) (aCons (eVar 6) (aCons (eVar 7) aNil))))))))))))))))))
/-! _law_filled(places_in_order, bound): 0 places_in_order 1 bound 2 parts 3 left 4 place 5 k -/
def w__law_filled : WS := (wSeq (wAsg 2 (eComp [5] (iSeq (eVar 0)) (gN 5) tYes (eC (.int 0))))
  (wSeq (wAsg 3 (e2 pIx (eVar 1) (eC (.int 1))))
  (wSeq (wFor (iSeq (eVar 0)) (gN 4)
  (wSeq (wPut 2 (eVar 4) (e2 pMin2 (eVar 3) (e2 pIx (eVar 1) (eC (.int 0)))))
  (wAsg 3 (e2 pSub (eVar 3) (e2 pIx (eVar 2) (eVar 4))))))
  (wFrz 2 (wRet (eVar 2))))))
/-! _law_lot_told(payoffs, shares, way): 0 payoffs 1 shares 2 way 3 handed 4 given 5 told 6 bits 7 pair -/
def w__law_lot_told : WS := (wSeq (wAsg 3 (eComp [6] (iSeq (eVar 0)) (gN 6) tYes (e1 pList (eVar 6))))
  (wFrz 3 (wSeq (wAsg 4 (eComp [7] (iSeq (eVar 1)) (gN 7) tYes (e1 pList (eVar 7))))
  (wFrz 4 (wSeq (wIf (tVal (e2 pEq (e2 pMod (e1 pInt (eVar 2)) (eC (.int 2))) (eC (.int 1))))
  (wSeq (wAsg 3 (eComp [6] (iSeq (eVar 0)) (gN 6) tYes (e1 pTuple (eVar 6))))
  (wFrz 3 (wAsg 4 (eComp [7] (iSeq (eVar 1)) (gN 7) tYes (e1 pTuple (eVar 7))))))
  wNil)
  (wFrz 4 (wSeq (wAsg 5 (eCall F_lot_value (aCons (eVar 3) (aCons (eVar 4) aNil))))
  (wSeq (wIf (tOr (tVal (e2 pNe (eComp [6] (iSeq (eVar 3)) (gN 6) tYes (e1 pList (eVar 6))) (eVar 0))) (tVal (e2 pNe (eComp [7] (iSeq (eVar 4)) (gN 7) tYes (e1 pList (eVar 7))) (eVar 1))))
  (wRet (eC .non))
  wNil)
  (wRet (eVar 5))))))))))
/-! _law_mix_told(payoffs, shares, bound, way): 0 payoffs 1 shares 2 bound 3 way 4 handed 5 given 6 told 7 limit 8 bits 9 pair -/
def w__law_mix_told : WS := (wSeq (wAsg 4 (e1 pTuple (eComp [8] (iSeq (eVar 0)) (gN 8) tYes (e1 pList (eVar 8)))))
  (wSeq (wAsg 5 (e1 pTuple (eComp [9] (iSeq (eVar 1)) (gN 9) tYes (e1 pList (eVar 9)))))
  (wSeq (wIf (tVal (e2 pEq (e2 pMod (e1 pInt (eVar 3)) (eC (.int 2))) (eC (.int 1))))
  (wSeq (wAsg 4 (e1 pTuple (eComp [8] (iSeq (eVar 0)) (gN 8) tYes (e1 pTuple (eVar 8)))))
  (wAsg 5 (e1 pTuple (eComp [9] (iSeq (eVar 1)) (gN 9) tYes (e1 pTuple (eVar 9))))))
  wNil)
  (wSeq (wIf (tAnd (tVal (e1 pIsN (eVar 2))) (tVal (e2 pLt (eVar 3) (eC (.int 2)))))
  (wAsg 6 (eCall F_mix_value (aApp (aCons (eVar 4) (aCons (eVar 5) aNil)) (aDfl [.non]))))
  (wIf (tVal (e1 pIsN (eVar 2)))
  (wAsg 6 (eCall F_mix_value (aApp (aCons (eVar 4) (aCons (eVar 5) aNil)) (aCons (eC .non) aNil))))
  (wSeq (wAsg 7 (e1 pList (eVar 2)))
  (wFrz 7 (wSeq (wIf (tVal (e2 pGt (eVar 3) (eC (.int 1))))
  (wAsg 7 (e1 pTuple (eVar 2)))
  wNil)
  (wSeq (wAsg 6 (eCall F_mix_value (aApp (aCons (eVar 4) (aCons (eVar 5) aNil)) (aCons (eVar 7) aNil))))
  (wIf (tVal (e2 pNe (e1 pList (eVar 7)) (eVar 2)))
  (wRet (eC .non))
  wNil)))))))
  (wSeq (wIf (tOr (tVal (e2 pNe (eComp [8] (iSeq (eVar 4)) (gN 8) tYes (e1 pList (eVar 8))) (eVar 0))) (tVal (e2 pNe (eComp [9] (iSeq (eVar 5)) (gN 9) tYes (e1 pList (eVar 9))) (eVar 1))))
  (wRet (eC .non))
  wNil)
  (wRet (eVar 6)))))))
/-! _law_most_right(payoffs, parts): 0 payoffs 1 parts 2 bits 3 j -/
def w__law_most_right : WS := (wRet (e1 pMaxL (eComp [2] (iSeq (eVar 0)) (gN 2) tYes (e1 pSum (eComp [3] (iRange1 (e1 pLen (eVar 2))) (gN 3) tYes (e2 pMul (e2 pIx (eVar 1) (eVar 3)) (e2 pIx (eVar 2) (eVar 3))))))))
/-! law(script): 0 script 1 shape 2 programs 3 places 4 payoffs 5 mix 6 lot 7 bound 8 keys 9 filled 10 bottom 11 way 12 rights 13 least 14 told 15 shares 16 greatest_told 17 turned 18 least_turned 19 middle 20 j 21 part 22 bits 23 k 24 pair 25 bit 26 i -/
def w_law : WS := (wSeq (wAsg 1 (eCall F__law_digits (aCons (eCall F__law_cell (aCons (eVar 0) (aCons (eC (.int 0)) aNil))) (aCons (eLst (aCons (eC (.int 16)) (aCons (eC (.int 24)) (aCons (eC (.int 16)) (aCons (eC (.int 7)) (aCons (eC (.int 8)) (aCons (eC (.int 24)) (aCons (eC (.int 24)) (aCons (eC (.int 16)) (aCons (eC (.int 16)) (aCons (eC (.int 4)) aNil))))))))))) aNil))))
  (wSeq (wAsg 2 (e2 pAdd (eC (.int 2)) (e2 pMod (e1 pInt (e2 pIx (eVar 1) (eC (.int 1)))) (eC (.int 6)))))
  (wSeq (wAsg 3 (e2 pAdd (eC (.int 2)) (e2 pMod (e1 pInt (e2 pIx (eVar 1) (eC (.int 2)))) (eC (.int 6)))))
  (wSeq (wIf (tVal (e2 pLt (e2 pIx (eVar 1) (eC (.int 0))) (eC (.int 2))))
  (wSeq (wAsg 2 (e2 pAdd (eC (.int 1)) (e2 pIx (eVar 1) (eC (.int 1)))))
  (wAsg 3 (e2 pAdd (eC (.int 1)) (e2 pIx (eVar 1) (eC (.int 2))))))
  wNil)
  (wSeq (wIf (tVal (e2 pEq (e2 pIx (eVar 1) (eC (.int 0))) (eC (.int 2))))
  (wSeq (wAsg 2 (e2 pAdd (eC (.int 1)) (e2 pMod (e1 pInt (e2 pIx (eVar 1) (eC (.int 1)))) (eC (.int 3)))))
  (wAsg 3 (e2 pAdd (eC (.int 1)) (e2 pMod (e1 pInt (e2 pIx (eVar 1) (eC (.int 2)))) (eC (.int 3))))))
  wNil)
  (wSeq (wAsg 4 (eCall F__law_payoffs (aCons (eVar 0) (aCons (eC (.int 1)) (aCons (eVar 2) (aCons (eVar 3) (aCons (eVar 1) aNil)))))))
  (wSeq (wAsg 5 (eCall F__law_drawn (aCons (eVar 0) (aCons (eC (.int 2)) (aCons (eVar 2) aNil)))))
  (wSeq (wAsg 6 (eCall F__law_drawn (aCons (eVar 0) (aCons (eC (.int 3)) (aCons (eVar 3) aNil)))))
  (wSeq (wAsg 7 (eCall F__law_bound (aCons (eVar 0) (aCons (eC (.int 4)) (aCons (eVar 3) aNil)))))
  (wSeq (wAsg 8 (eCall F__law_digits (aCons (eCall F__law_cell (aCons (eVar 0) (aCons (eC (.int 5)) aNil))) (aCons (eComp [23] (iRange1 (eVar 3)) (gN 23) tYes (eC (.int 60))) aNil))))
  (wSeq (wAsg 9 (eCall F__law_filled (aCons (eComp [24] (iSeq (e1 pSorted (eComp [23] (iRange1 (eVar 3)) (gN 23) tYes (eLst (aCons (e2 pIx (eVar 8) (eVar 23)) (aCons (eVar 23) aNil)))))) (gN 24) tYes (e2 pIx (eVar 24) (eC (.int 1)))) (aCons (eLst (aCons (eC (.int 1)) (aCons (eC (.int 1)) aNil))) aNil))))
  (wSeq (wAsg 10 (eC (.int 1)))
  (wSeq (wIf (tVal (e1 pNotN (eVar 7)))
  (wSeq (wAsg 10 (e2 pIx (eVar 7) (eC (.int 1))))
  (wAsg 9 (eCall F__law_filled (aCons (eComp [24] (iSeq (e1 pSorted (eComp [23] (iRange1 (eVar 3)) (gN 23) tYes (eLst (aCons (e2 pIx (eVar 8) (eVar 23)) (aCons (eVar 23) aNil)))))) (gN 24) tYes (e2 pIx (eVar 24) (eC (.int 1)))) (aCons (eVar 7) aNil)))))
  wNil)
  (wSeq (wAsg 11 (e2 pIx (eVar 1) (eC (.int 9))))
  (wSeq (wIf (tNot (tVal (eCall F__law_exactly (aCons (eCall F__law_lot_told (aCons (eVar 4) (aCons (e2 pIx (eVar 6) (eC (.int 2))) (aCons (eVar 11) aNil)))) (aCons (eCall F__law_most_right (aCons (eVar 4) (aCons (e2 pIx (eVar 6) (eC (.int 0))) aNil))) (aCons (e2 pIx (eVar 6) (eC (.int 1))) aNil))))))
  (wRet (eC (.bl false)))
  wNil)
  (wSeq (wAsg 12 (eComp [20] (iRange1 (eVar 3)) (gN 20) tYes (e1 pSum (eComp [26] (iRange1 (eVar 2)) (gN 26) tYes (e2 pMul (e2 pIx (e2 pIx (eVar 5) (eC (.int 0))) (eVar 26)) (e2 pIx (e2 pIx (eVar 4) (eVar 26)) (eVar 20)))))))
  (wFrz 12 (wSeq (wAsg 13 (eCall F__law_least (aCons (eVar 12) (aCons (e2 pIx (eVar 5) (eC (.int 1))) (aCons (eVar 7) aNil)))))
  (wSeq (wAsg 14 (eCall F__law_mix_told (aCons (eVar 4) (aCons (e2 pIx (eVar 5) (eC (.int 2))) (aCons (eVar 7) (aCons (eVar 11) aNil))))))
  (wSeq (wIf (tNot (tVal (eCall F__law_exactly (aCons (eVar 14) (aCons (e2 pIx (eVar 13) (eC (.int 0))) (aCons (e2 pIx (eVar 13) (eC (.int 1))) aNil))))))
  (wRet (eC (.bl false)))
  wNil)
  (wSeq (wIf (tNot (tVal (eCall F__law_exactly (aCons (eCall F__law_mix_told (aCons (eVar 4) (aCons (e2 pIx (eVar 5) (eC (.int 2))) (aCons (eC .non) (aCons (e2 pSub (eC (.int 3)) (eVar 11)) aNil))))) (aCons (e1 pMinL (eVar 12)) (aCons (e2 pIx (eVar 5) (eC (.int 1))) aNil))))))
  (wRet (eC (.bl false)))
  wNil)
  (wSeq (wAsg 15 (eComp [21] (iSeq (eVar 9)) (gN 21) tYes (eLst (aCons (eVar 21) (aCons (eVar 10) aNil)))))
  (wFrz 15 (wSeq (wAsg 16 (eCall F__law_lot_told (aCons (eVar 4) (aCons (eVar 15) (aCons (e2 pSub (eC (.int 1)) (e2 pMod (e1 pInt (eVar 11)) (eC (.int 2)))) aNil)))))
  (wSeq (wIf (tNot (tVal (eCall F__law_exactly (aCons (eVar 16) (aCons (eCall F__law_most_right (aCons (eVar 4) (aCons (eVar 9) aNil))) (aCons (eVar 10) aNil))))))
  (wRet (eC (.bl false)))
  wNil)
  (wSeq (wAsg 17 (eComp [22] (iSeq (eVar 4)) (gN 22) tYes (eComp [25] (iSeq (eVar 22)) (gN 25) tYes (e2 pSub (eC (.int 1)) (eVar 25)))))
  (wFrz 17 (wSeq (wIf (tNot (tVal (eCall F__law_exactly (aCons (eCall F__law_lot_told (aCons (eVar 17) (aCons (e2 pIx (eVar 6) (eC (.int 2))) (aCons (eVar 11) aNil)))) (aCons (eCall F__law_most_right (aCons (eVar 17) (aCons (e2 pIx (eVar 6) (eC (.int 0))) aNil))) (aCons (e2 pIx (eVar 6) (eC (.int 1))) aNil))))))
  (wRet (eC (.bl false)))
  wNil)
  (wSeq (wAsg 18 (eCall F__law_least (aCons (eComp [21] (iSeq (eVar 12)) (gN 21) tYes (e2 pSub (e2 pIx (eVar 5) (eC (.int 1))) (eVar 21))) (aCons (e2 pIx (eVar 5) (eC (.int 1))) (aCons (eVar 7) aNil)))))
  (wSeq (wIf (tNot (tVal (eCall F__law_exactly (aCons (eCall F__law_mix_told (aCons (eVar 17) (aCons (e2 pIx (eVar 5) (eC (.int 2))) (aCons (eVar 7) (aCons (eVar 11) aNil))))) (aCons (e2 pIx (eVar 18) (eC (.int 0))) (aCons (e2 pIx (eVar 18) (eC (.int 1))) aNil))))))
  (wRet (eC (.bl false)))
  wNil)
  (wSeq (wAsg 19 (e1 pSum (eComp [20] (iRange1 (eVar 3)) (gN 20) tYes (e2 pMul (e2 pIx (eVar 12) (eVar 20)) (e2 pIx (eVar 9) (eVar 20))))))
  (wSeq (wIf (tOr (tVal (e2 pGt (e2 pMul (e2 pMul (e2 pIx (eVar 14) (eC (.int 0))) (e2 pIx (eVar 5) (eC (.int 1)))) (eVar 10)) (e2 pMul (eVar 19) (e2 pIx (eVar 14) (eC (.int 1)))))) (tVal (e2 pGt (e2 pMul (eVar 19) (e2 pIx (eVar 16) (eC (.int 1)))) (e2 pMul (e2 pMul (e2 pIx (eVar 16) (eC (.int 0))) (e2 pIx (eVar 5) (eC (.int 1)))) (eVar 10)))))
  (wRet (eC (.bl false)))
  wNil)
  (wRet (eCall F__law_exactly (aCons (eCall F__law_mix_told (aCons (eVar 4) (aCons (e2 pIx (eVar 5) (eC (.int 2))) (aCons (eVar 7) (aCons (eVar 11) aNil))))) (aCons (e2 pIx (eVar 13) (eC (.int 0))) (aCons (e2 pIx (eVar 13) (eC (.int 1))) aNil)))))))))))))))))))))))))))))))))))))
end Pyl
end
section
set_option Elab.async false
set_option linter.all false
set_option maxHeartbeats 1000000
namespace Pyl
open PySem
local macro_rules | `(tactic| walk_at "pe") => `(tactic| simp (config := { implicitDefEqProofs := false }) only [eVar_at, eC_at, e1_at, e2_at, aNil_at, aCons_at, eTup_at, eLst_at, plain_nil, plain_cons, eCall_at, eIf_at, aApp_at, aDfl_at, List.cons_append, List.nil_append, eAnd_at, eOr_at, eNot_at, tVal_at, tAnd_at, tOr_at, tNot_at, tYes_at,
  pAdd_int, pSub_int, pNeg_int, pLt_int, pLe_int, pGt_int, pGe_int, pEq_int, pNe_int, pIsN_at, pNotN_at, pIx_lst, pIx_tup, pGcd_int, atL0, atL1, atL2, atL3, atL4, atL5, atL6, atL7, atL8, oNone_at, oSome_at, eSlice_at, pLen_lst, pLen_tup, pInt_int, pInt_bl, pAbs_int, pSum_ints, pMax2_int, pMin2_int, pList_lst, pList_tup, pTuple_lst, pTuple_tup, iSeq_at, gN_at, gT_at, gsN_cons, gsN_nil, wipeS_cons, wipeS_nil,
  dt_vis, dt_bor, dt_fre, sh_vis, sh_bor, sh_fre, slot_vis, slot_fre, od_dt, isNon_non, isNon_int, isNon_lst, isNon_tup, scalar_int, scalar_bl, scalar_non, Option.bind_some, Option.bind_none, Option.map_some, Option.map_none, List.getElem?_cons_zero, List.getElem?_cons_succ, List.set_cons_zero, List.set_cons_succ, List.map_cons, List.map_nil, List.any_cons, List.any_nil, Bool.or_false, Bool.false_or, Bool.false_and, Bool.and_true, Bool.true_and, Bool.not_true, Bool.not_false,
  Option.some.injEq, exists_eq_left', exists_eq_left, true_and, and_true, if_true, if_false, Bool.false_eq_true, ite_true, ite_false, reduceIte, decide_eq_true_eq, decide_eq_false_iff_not, R.vis.injEq, R.fre.injEq, Dt.lst.injEq, Dt.tup.injEq, Dt.int.injEq, Slot.own.injEq, OD.lst.injEq, reduceCtorEq, false_and, exists_false, exists_const, Bool.true_eq_false, false_implies, true_implies, implies_true, forall_const])

theorem len_lowest : ∀ (ds : List Dt) (r : Dt), F_lowest ds = some r → ds.length = 2 := lenk_lowest
theorem k_lowest : Keeps 3 w_lowest F_lowest := kk_lowest
theorem len_plus : ∀ (ds : List Dt) (r : Dt), F_plus ds = some r → ds.length = 2 := lenk_plus
theorem k_plus : Keeps 2 w_plus F_plus := kk_plus
theorem len_times : ∀ (ds : List Dt) (r : Dt), F_times ds = some r → ds.length = 2 := lenk_times
theorem k_times : Keeps 2 w_times F_times := kk_times
theorem len_sum_of : ∀ (ds : List Dt) (r : Dt), F_sum_of ds = some r → ds.length = 1 := lenk_sum_of
theorem k_sum_of : Keeps 3 w_sum_of F_sum_of := kk_sum_of
theorem len_compare : ∀ (ds : List Dt) (r : Dt), F_compare ds = some r → ds.length = 2 := lenk_compare
theorem k_compare : Keeps 4 w_compare F_compare := kk_compare
theorem len__law_whole : ∀ (ds : List Dt) (r : Dt), F__law_whole ds = some r → ds.length = 1 := by
  intro ds r h
  match ds, h with
  | [f], _ => rfl
theorem k__law_whole : Keeps 1 w__law_whole F__law_whole := k_whole
theorem len__law_cell : ∀ (ds : List Dt) (r : Dt), F__law_cell ds = some r → ds.length = 2 := by
  intro ds r h
  match ds, h with
  | [.lst _, .int _], _ => rfl
theorem k__law_cell : Keeps 4 w__law_cell F__law_cell := k_cell
theorem len__law_digits : ∀ (ds : List Dt) (r : Dt), F__law_digits ds = some r → ds.length = 2 := len_digitsW
theorem k__law_digits : Keeps 8 w__law_digits F__law_digits := k_digitsW
theorem len__law_gcd : ∀ (ds : List Dt) (r : Dt), F__law_gcd ds = some r → ds.length = 2 := len_gcdN
theorem k__law_gcd : Keeps 6 w__law_gcd F__law_gcd := kk_gcdN 4000
theorem len__law_is_share : ∀ (ds : List Dt) (r : Dt), F__law_is_share ds = some r → ds.length = 1 := len_is_shareN
theorem k__law_is_share : Keeps 1 w__law_is_share F__law_is_share := kk_is_shareN 4000
theorem len__law_exactly : ∀ (ds : List Dt) (r : Dt), F__law_exactly ds = some r → ds.length = 3 := len_exactlyN
theorem k__law_exactly : Keeps 3 w__law_exactly F__law_exactly := kk_exactlyN 4000
/-! lot_value -/
theorem len_lot_value : ∀ (ds : List Dt) (r : Dt), F_lot_value ds = some r → ds.length = 2 := by
  intro ds r h
  match ds, h with
  | [_, _], _ => rfl
theorem toM_lst (s : Bool) (M : List (List Int)) : (Dt.lst (M.map (iseq s))).toM = M := by
  unfold Dt.toM Dt.items
  rw [List.map_map]
  have : (Dt.toIs ∘ iseq s) = id := funext fun r => toIs_iseq s r
  rw [this, List.map_id]
theorem toM_tup (s : Bool) (M : List (List Int)) : (Dt.tup (M.map (iseq s))).toM = M := toM_lst s M
theorem zip_sel {s' : Bool} {L : List (Int × Int)} {row : List Int} {env : Sl} {i j : Nat} (hij : i ≠ j) (hi : i < env.length) (hj : j < env.length) (hb : ∀ b ∈ row, 0 ≤ b ∧ b ≤ 1) :
    compL (compG env [i, j] (gT [i, j]) (tVal (e2 pEq (eVar j) (eC (.int 1)))) (eVar i)) (List.zipWith (fun x y => Dt.tup [x, y]) (shD s' L) (row.map .int)) = some (shD s' (selL L row)) := by
  have e1 : List.zipWith (fun x y => Dt.tup [x, y]) (shD s' L) (row.map .int) = (L.zip row).map fun z => Dt.tup [iseq s' [z.1.1, z.1.2], .int z.2] := zipWith_tup _ _ _ _
  rw [e1]
  unfold selL shD
  refine compL_filter (u := fun z : (Int × Int) × Int => Dt.tup [iseq s' [z.1.1, z.1.2], .int z.2]) (p := fun z => decide (z.2 = 1)) (f := fun z => z.1) (v := fun e : Int × Int => iseq s' [e.1, e.2]) fun z hz => ?_
  generalize hA : iseq s' [z.1.1, z.1.2] = A
  have hl : (wipeS env [i, j]).length = env.length := by rw [wipeS_cons, wipeS_cons, wipeS_nil, List.length_set, List.length_set]
  have g1 : (((wipeS env [i, j]).set i (.val A)).set j (.val (.int z.2)))[j]? = some (.val (.int z.2)) := List.getElem?_set_self (by rw [List.length_set, hl]; exact hj)
  have g2 : (((wipeS env [i, j]).set i (.val A)).set j (.val (.int z.2)))[i]? = some (.val A) := by
    rw [List.getElem?_set_ne (Ne.symm hij)]
    exact List.getElem?_set_self (by rw [hl]; exact hi)
  rw [compG_at]
  show ((tVal (e2 pEq (eVar j) (eC (.int 1))) (((wipeS env [i, j]).set i (.val A)).set j (.val (.int z.2)))).bind fun b => if b then ((eVar i) (((wipeS env [i, j]).set i (.val A)).set j (.val (.int z.2)))).bind fun r => if r.sh then none else some [r.dt] else some []) = _
  rw [tVal_at, e2_at, eVar_at, g1, eVar_at, g2]
  dsimp only [Option.bind_some, dt_vis, eC_at]
  rw [pEq_int]
  dsimp only [Option.bind_some]
  by_cases h : z.2 = 1
  · rw [decide_eq_true h]; rfl
  · rw [decide_eq_false h]; rfl
theorem gt_int {a b : Int} : decide (0 < (if a < b then (1 : Int) else 0) - (if b < a then 1 else 0)) = decide (a < b) := by
  by_cases h : a < b
  · rw [if_pos h, if_neg (by omega), decide_eq_true h]; rfl
  · rw [if_neg h, decide_eq_false h]
    split <;> rfl
theorem lt_int0 {a b : Int} : decide ((if a < b then (1 : Int) else 0) - (if b < a then 1 else 0) < 0) = decide (b < a) := by
  by_cases h : b < a
  · rw [if_pos h, if_neg (by omega), decide_eq_true h]; rfl
  · rw [if_neg h, decide_eq_false h]
    split <;> rfl
theorem k_lot_value : Keeps 7 w_lot_value F_lot_value := by
  intro ds r h
  match ds, h with
  | [m, x], h =>
    simp only [F_lot_value] at h
    split at h
    case isFalse => cases h
    rename_i hk
    cases h
    obtain ⟨⟨s, hm⟩, ⟨s', hx⟩, ⟨⟨B, Ps, ok, nn⟩, bits, few⟩⟩ := hk
    generalize hM : m.toM = M at *
    generalize hL : toL x = L at *
    subst hm hx
    show w_lot_value _ [.val (.lst (M.map (iseq s))), .val (.lst (shD s' L)), .non, .non, .non, .non, .non]
    refine q_asg (r := .vis (pD (0, 1))) (by walk_at "pe"; rfl) rfl rfl ?_
    refine q_forMap (u := iseq s) (xs := M) (fun i e => ∃ z3 z4, e = [.val (.lst (M.map (iseq s))), .val (.lst (shD s' L)), .val (pD (lotV (M.take i) L)), z3, z4, .non, .non]) (by walk_at "pe") ⟨_, _, rfl⟩ ?_ ?_
    · rintro i env row hrow ⟨z3, z4, rfl⟩
      refine ⟨_, by walk_at "pe"; rfl, ?_⟩
      obtain ⟨hl, hb⟩ := bits row (List.mem_of_getElem? hrow)
      have bits1 : Bits L.length (M.take i) := fun r hr => bits r (List.mem_of_mem_take hr)
      have eb := lotV_ok ok nn bits1
      have oks := ok.sel hl hb
      have es := sumL_eq oks
      have hso : F_sum_of [.lst (shD s' (selL L row))] = some (pD (sumL (selL L row))) := by
        rw [sum_of_at oks, es]
        rfl
      have hnext : lotV (M.take (i + 1)) L = bestP (lotV (M.take i) L) L row := foldl_take hrow
      have hsh : ShOk 1900 (sumL (selL L row)).1 (sumL (selL L row)).2 := by rw [es]; exact oks.shOk.low
      show (wSeq _ _) _ [.val (.lst (M.map (iseq s))), .val (.lst (shD s' L)), .val (pD (lotV (M.take i) L)), .val (iseq s row), z4, .non, .non]
      refine q_asg (r := .vis (pD (sumL (selL L row)))) ?_ rfl rfl ?_
      · rw [eCall_at, aCons_at, eComp_of (ds := List.zipWith (fun x y => Dt.tup [x, y]) (shD s' L) (row.map .int)) (s := false) ?_ ?_ (zip_sel (by decide) (by show 5 < 7; decide) (by show 6 < 7; decide) hb)]
        · walk_at "pe"
          rw [hso]
          walk_at "pe"
        · show (some (R.vis (.lst (shD s' L)))).bind _ = _
          show ((some (R.vis (iseq s row))).bind fun b => _) = _
          show ((seqOf (iseq s row)).bind fun ys => _) = _
          rw [seqOf_iseq]
          rfl
        · rw [List.length_zipWith, List.length_map, hl]
          have : (shD s' L).length = L.length := List.length_map _
          rw [this, Nat.min_self]
          exact lim_of (by omega)
      generalize hS : sumL (selL L row) = S at *
      generalize hBst : lotV (M.take i) L = V at *
      have hc := compare_at (s := true) (s' := true) (hsh.mono (m := 3900) (by decide)) (eb.mono (m := 3900) (by decide))
      refine s_ifD (p := V.1 * S.2 < S.1 * V.2) ?_ (fun hp => ?_) fun hp => ?_
      · walk_at "pe"
        rw [show F_compare [pD S, pD V] = _ from hc]
        walk_at "pe"
        rw [gt_int]
      · have e : lotV (M.take (i + 1)) L = S := by
          rw [hnext]
          unfold bestP gtP
          rw [hS, if_pos (decide_eq_true hp)]
        exact s_asg (r := .vis (pD S)) (by walk_at "pe") rfl rfl ⟨.val (iseq s row), .val (pD S), by rw [e]; rfl⟩
      · have e : lotV (M.take (i + 1)) L = V := by
          rw [hnext]
          unfold bestP gtP
          rw [hS, if_neg (by rw [decide_eq_true_eq]; exact hp)]
        exact s_nil ⟨.val (iseq s row), .val (pD S), by rw [e]; rfl⟩
    · rintro env ⟨z3, z4, rfl⟩
      rw [List.take_length]
      exact s_ret (r := .vis (pD (lotV M L))) (by walk_at "pe") rfl rfl rfl

/-! common_numbers -/
theorem len_common_numbers : ∀ (ds : List Dt) (r : Dt), F_common_numbers ds = some r → ds.length = 1 := by
  intro ds r h
  match ds, h with
  | [_], _ => rfl
theorem dvd_abs {a N : Int} {k : Nat} (h : a ∣ N) (hN : 0 < N) (hb : N.natAbs < 2 ^ k) : a.natAbs < 2 ^ k :=
  Nat.lt_of_le_of_lt (Nat.le_of_dvd (Int.natAbs_pos.mpr (Int.ne_of_gt hN)) (Int.natAbs_dvd_natAbs.mpr h)) hb
structure BotOk (L : List (Int × Int)) : Prop where
  p : 0 < botL L
  s : (botL L).natAbs < 2 ^ 1000
  q : ∀ e ∈ L, 0 < e.2 ∧ e.2.natAbs < 2 ^ 1000 ∧ e.1.natAbs < 2 ^ 1000
theorem botOk {L : List (Int × Int)} (ok : OkMix L) : BotOk L := by
  obtain ⟨N, h1, h2, h3⟩ := ok.div
  obtain ⟨b1, b2, b3⟩ := botL_ok (L := L) fun e he => (h3 e he).1
  refine ⟨b1, dvd_abs (b3 N fun e he => (h3 e he).2.1) h1 h2, fun e he => ⟨(h3 e he).1, dvd_abs (h3 e he).2.1 h1 h2, (h3 e he).2.2⟩⟩
theorem OkMix.take {L : List (Int × Int)} (ok : OkMix L) (i : Nat) : (botL (L.take i)).natAbs < 2 ^ 1000 := by
  obtain ⟨N, h1, h2, h3⟩ := ok.div
  obtain ⟨b1, b2, b3⟩ := botL_ok (L := L.take i) fun e he => (h3 e (List.mem_of_mem_take he)).1
  exact dvd_abs (b3 N fun e he => (h3 e (List.mem_of_mem_take he)).2.1) h1 h2
theorem toL_tup (s : Bool) (L : List (Int × Int)) : toL (.tup (shD s L)) = L := toL_sh true s L
theorem toL_lst (s : Bool) (L : List (Int × Int)) : toL (.lst (shD s L)) = L := toL_sh false s L
theorem div1000 {x : Int} (h : x.natAbs < 2 ^ 1000) : x.natAbs < DIVB := by
  rw [DIVB_eq]
  exact Nat.lt_trans h (Nat.pow_lt_pow_right (by decide) (by decide))
theorem k_common_numbers : Keeps 3 w_common_numbers F_common_numbers := by
  intro ds r h
  match ds, h with
  | [x], h =>
    simp only [F_common_numbers] at h
    split at h
    case isFalse => cases h
    rename_i hk
    cases h
    obtain ⟨⟨s, hx⟩, ok⟩ := hk
    generalize hL : toL x = L at *
    subst hx
    have bo := botOk ok
    show w_common_numbers _ [.val (.tup (shD s L)), .non, .non]
    refine q_asg (r := .vis (.int 1)) (by walk_at "pe") rfl rfl ?_
    refine q_forMap (u := fun e : Int × Int => iseq s [e.1, e.2]) (xs := L) (fun i e => ∃ z, e = [.val (.tup (shD s L)), .val (.int (botL (L.take i))), z]) (by walk_at "pe"; rfl) ⟨_, rfl⟩ ?_ ?_
    · rintro i env e he ⟨z, rfl⟩
      refine ⟨_, by walk_at "pe"; rfl, ?_⟩
      have hn : botL (L.take (i + 1)) = ((Nat.lcm (botL (L.take i)).natAbs e.2.natAbs : Nat) : Int) := foldl_take (f := fun (b : Int) (e : Int × Int) => ((Nat.lcm b.natAbs e.2.natAbs : Nat) : Int)) he
      have hq := bo.q e (List.mem_of_getElem? he)
      refine s_asg (r := .vis (.int (botL (L.take (i + 1))))) ?_ rfl rfl ⟨_, rfl⟩
      walk_at "pe"
      rw [ix2_1]
      walk_at "pe"
      rw [pLcm_int (lcm_of (ok.take i) (by decide)) (lcm_of hq.2.1 (by decide)), hn]
    · rintro env ⟨z, rfl⟩
      rw [List.take_length]
      refine s_ret (r := .vis (.tup [ilst (numsL L), .int (botL L)])) ?_ rfl rfl rfl
      rw [eTup_at, aCons_at, eComp_of (ds := shD s L) (s := false) (out := (numsL L).map .int) (by walk_at "pe") (by unfold shD; rw [List.length_map]; exact lim_of (by have := ok.few; omega))]
      · walk_at "pe"
        rfl
      · unfold shD numsL
        refine compL_map (f := fun e : Int × Int => e.1 * (botL L / e.2)) (v := Dt.int) fun e he => ?_
        have hq := bo.q e he
        rw [compG_at]
        walk_at "pe"
        rw [ix2_0, ix2_1]
        walk_at "pe"
        rw [pDiv_int hq.1 (div1000 hq.2.1)]
        walk_at "pe"
        rw [pMul_int (big_lt hq.2.2) (big_lt (n := 1000) (Nat.lt_of_le_of_lt (Int.natAbs_ediv_le_natAbs _ _) bo.s))]
        walk_at "pe"
theorem common_at {s : Bool} {L : List (Int × Int)} (ok : OkMix L) : F_common_numbers [.tup (shD s L)] = some (.tup [ilst (numsL L), .int (botL L)]) := by
  simp only [F_common_numbers]
  rw [toL_tup, if_pos ⟨⟨s, rfl⟩, ok⟩]
/-! right_numbers -/
theorem len_right_numbers : ∀ (ds : List Dt) (r : Dt), F_right_numbers ds = some r → ds.length = 2 := by
  intro ds r h
  match ds, h with
  | [_, _], _ => rfl
theorem nums_len (L : List (Int × Int)) : (numsL L).length = L.length := by unfold numsL; rw [List.length_map]
theorem nums_abs {L : List (Int × Int)} (bo : BotOk L) : ∀ x ∈ numsL L, x.natAbs < 2 ^ 2000 := by
  intro x hx
  unfold numsL at hx
  obtain ⟨e, he, rfl⟩ := List.mem_map.mp hx
  have h1 := (bo.q e he).2.2
  have h2 : (botL L / e.2).natAbs < 2 ^ 1000 := Nat.lt_of_le_of_lt (Int.natAbs_ediv_le_natAbs _ _) bo.s
  rw [Int.natAbs_mul, show (2000 : Nat) = 1000 + 1000 from rfl, Nat.pow_add]
  exact Nat.mul_lt_mul'' h1 h2
theorem rows_ne {M : List (List Int)} {L : List (Int × Int)} (ok : OkM M L) : M ≠ [] := fun e => by
  have h := ok.len
  rw [e] at h
  exact ok.mix.some (List.length_eq_zero_iff.mp h.symm)
theorem k_right_numbers : Keeps 10 w_right_numbers F_right_numbers := by
  intro ds r h
  match ds, h with
  | [m, x], h =>
    simp only [F_right_numbers] at h
    split at h
    case isFalse => cases h
    rename_i hk
    cases h
    obtain ⟨⟨s, hm⟩, ⟨s', hx⟩, ok⟩ := hk
    generalize hM : m.toM = M at *
    generalize hL : toL x = L at *
    subst hm hx
    have bo := botOk ok.mix
    have hne := rows_ne ok
    obtain ⟨n, n0, n1, hbits⟩ := ok.bits
    have hhl := head_len (fun r hr => (hbits r hr).1) hne
    have hab := nums_abs bo
    have hnl := nums_len L
    have hcm := common_at (s := s') ok.mix
    have hzs : (((M.headD []).map fun _ => (0 : Int))).length = n := by rw [List.length_map, hhl]
    unfold rightsF
    generalize numsL L = N at *
    generalize botL L = B at *
    generalize hX : Dt.tup (shD s' L) = X at *
    have hml : N.length = M.length := by rw [hnl, ok.len]
    have hfew := ok.mix.few
    show w_right_numbers _ [.val (.tup (M.map (iseq s))), .val X, .non, .non, .non, .non, .non, .non, .non, .non]
    refine q_unp (d := .tup [ilst N, .int B]) (by walk_at "pe"; rw [hcm]; walk_at "pe") rfl ?_
    show (wSeq _ _) _ [.val (.tup (M.map (iseq s))), .val X, .non, .val (ilst N), .val (.int B), .non, .non, .non, .non, .non]
    have hrow0 : pIx (.tup (M.map (iseq s))) (.int 0) = some (.vis (iseq s (M.headD []))) := by
      cases M with
      | nil => exact absurd rfl hne
      | cons r M => rfl
    refine q_asg (r := .fre (.lst (((M.headD []).map fun _ => (0 : Int)).map .int))) ?_ rfl rfl ?_
    · refine eComp_of (ds := (M.headD []).map .int) (s := false) ?_ (by rw [List.length_map, hhl]; exact lim_of (by omega)) (compL_map (f := fun _ => (0 : Int)) fun y hy => by rw [compG_at]; walk_at "pe")
      show ((e2 pIx (eVar 0) (eC (.int 0)) _).bind _) = _
      rw [e2_at]
      show ((pIx (.tup (M.map (iseq s))) (.int 0)).bind _) = _
      rw [hrow0]
      cases s <;> rfl
    refine q_frz rfl rfl ?_
    generalize hZ : ((M.headD []).map fun _ => (0 : Int)) = Z at *
    show (wSeq _ _) _ [.val (.tup (M.map (iseq s))), .val X, .val (ilst Z), .val (ilst N), .val (.int B), .non, .non, .non, .non, .non]
    refine q_forMap (u := fun z : Int × List Int => Dt.tup [.int z.1, iseq s z.2]) (xs := N.zip M) (fun i e => ∃ sl z5 z6, e = [.val (.tup (M.map (iseq s))), .val X, sl, .val (ilst N), .val (.int B), z5, z6, .non, .non, .non] ∧
      (sl = .val (ilst (((N.zip M).take i).foldl (fun s z => addR s z.1 z.2) Z)) ∨ sl = .own (.lst ((((N.zip M).take i).foldl (fun s z => addR s z.1 z.2) Z).map .int))) ∧ (((N.zip M).take i).foldl (fun s z => addR s z.1 z.2) Z).length = n) ?_ ⟨_, _, _, rfl, Or.inl rfl, hzs⟩ ?_ ?_
    · show ((some (R.vis (ilst N))).bind fun a => (some (R.vis (.tup (M.map (iseq s))))).bind fun b => (seqOf a.dt).bind fun xs => (seqOf b.dt).bind fun ys => some (List.zipWith (fun x y => Dt.tup [x, y]) xs ys, a.sh || b.sh)) = _
      show some (List.zipWith (fun x y => Dt.tup [x, y]) (N.map Dt.int) (M.map (iseq s)), false) = _
      rw [zipWith_tup]
    · rintro i env z hz ⟨sl, z5, z6, rfl, hsl, hlen⟩
      refine ⟨_, by walk_at "pe"; rfl, ?_⟩
      have hmem := List.of_mem_zip (List.mem_of_getElem? hz)
      have hrow := hbits z.2 hmem.2
      have hnext : ((N.zip M).take (i + 1)).foldl (fun s z => addR s z.1 z.2) Z = addR (((N.zip M).take i).foldl (fun s z => addR s z.1 z.2) Z) z.1 z.2 := foldl_take (f := fun s (z : Int × List Int) => addR s z.1 z.2) hz
      rw [hnext]
      generalize ((N.zip M).take i).foldl (fun s z => addR s z.1 z.2) Z = S at *
      have hal : (addR S z.1 z.2).length = n := by rw [addR_len (by omega)]; exact hlen
      refine s_asg (r := .fre (.lst ((addR S z.1 z.2).map .int))) ?_ rfl rfl ⟨_, _, _, rfl, Or.inr rfl, hal⟩
      have hcomp : compL (compG [.val (.tup (M.map (iseq s))), .val X, sl, .val (ilst N), .val (.int B), .val (.int z.1), .val (iseq s z.2), .non, .non, .non] [8, 9] (gT [8, 9]) tYes (e2 pAdd (eVar 8) (e2 pMul (eVar 5) (eVar 9)))) (List.zipWith (fun x y => Dt.tup [x, y]) (S.map .int) (z.2.map .int)) = some ((addR S z.1 z.2).map .int) := by
        rw [zipWith_tup]
        have e3 : addR S z.1 z.2 = (S.zip z.2).map fun w => w.1 + z.1 * w.2 := by
          unfold addR
          rw [List.zip_eq_zipWith, List.map_zipWith]
        rw [e3]
        refine compL_map (u := fun w : Int × Int => Dt.tup [.int w.1, .int w.2]) (f := fun w : Int × Int => w.1 + z.1 * w.2) fun w hw => ?_
        have hb := hrow.2 w.2 (List.of_mem_zip hw).2
        rw [compG_at]
        walk_at "pe"
        rw [pMul_int (big_lt (hab z.1 hmem.1)) (big64 (by omega) (by omega))]
        walk_at "pe"
      refine eComp_of (s := match sl with | .own _ => true | _ => false) ?_ ?_ hcomp
      · rcases hsl with rfl | rfl
        · show ((seqOf (ilst S)).bind fun xs => (seqOf (iseq s z.2)).bind fun ys => some (List.zipWith (fun x y => Dt.tup [x, y]) xs ys, false || false)) = _
          rw [seqOf_iseq]
          rfl
        · show ((seqOf (ilst S)).bind fun xs => (seqOf (iseq s z.2)).bind fun ys => some (List.zipWith (fun x y => Dt.tup [x, y]) xs ys, true || false)) = _
          rw [seqOf_iseq]
          rfl
      · rw [List.length_zipWith, List.length_map, List.length_map, hlen, hrow.1, Nat.min_self]
        exact lim_of (by omega)
    · rintro env ⟨sl, z5, z6, rfl, hsl, hlen⟩
      rw [List.take_length] at hsl hlen
      generalize (N.zip M).foldl (fun s z => addR s z.1 z.2) Z = S at *
      have fin : (wRet (eTup (aCons (eVar 2) (aCons (eVar 4) aNil)))) (endR (.tup [ilst S, .int B])) [.val (.tup (M.map (iseq s))), .val X, .val (ilst S), .val (ilst N), .val (.int B), z5, z6, .non, .non, .non] := s_ret (r := .vis (.tup [ilst S, .int B])) (by walk_at "pe") rfl rfl rfl
      rcases hsl with rfl | rfl
      · exact q_frz0 rfl fin
      · exact q_frz rfl rfl fin
theorem right_at {s s' : Bool} {M : List (List Int)} {L : List (Int × Int)} (ok : OkM M L) : F_right_numbers [.tup (M.map (iseq s)), .tup (shD s' L)] = some (.tup [ilst (rightsF (numsL L) M), .int (botL L)]) := by
  simp only [F_right_numbers]
  rw [toL_tup, toM_tup, if_pos ⟨⟨s, rfl⟩, ⟨s', rfl⟩, ok⟩]
end Pyl
end
section
set_option Elab.async false
set_option linter.all false
set_option maxHeartbeats 1000000
namespace Pyl
open PySem
local macro_rules | `(tactic| walk_at "pe") => `(tactic| simp (config := { implicitDefEqProofs := false }) only [eVar_at, eC_at, e1_at, e2_at, aNil_at, aCons_at, eTup_at, eLst_at, plain_nil, plain_cons, eCall_at, eIf_at, aApp_at, aDfl_at, List.cons_append, List.nil_append, eAnd_at, eOr_at, eNot_at, tVal_at, tAnd_at, tOr_at, tNot_at, tYes_at,
  pAdd_int, pSub_int, pNeg_int, pLt_int, pLe_int, pGt_int, pGe_int, pEq_int, pNe_int, pIsN_at, pNotN_at, pIx_lst, pIx_tup, pGcd_int, atL0, atL1, atL2, atL3, atL4, atL5, atL6, atL7, atL8, oNone_at, oSome_at, eSlice_at, pLen_lst, pLen_tup, pInt_int, pInt_bl, pAbs_int, pSum_ints, pMax2_int, pMin2_int, pList_lst, pList_tup, pTuple_lst, pTuple_tup, iSeq_at, gN_at, gT_at, gsN_cons, gsN_nil, wipeS_cons, wipeS_nil,
  dt_vis, dt_bor, dt_fre, sh_vis, sh_bor, sh_fre, slot_vis, slot_fre, od_dt, isNon_non, isNon_int, isNon_lst, isNon_tup, scalar_int, scalar_bl, scalar_non, Option.bind_some, Option.bind_none, Option.map_some, Option.map_none, List.getElem?_cons_zero, List.getElem?_cons_succ, List.set_cons_zero, List.set_cons_succ, List.map_cons, List.map_nil, List.any_cons, List.any_nil, Bool.or_false, Bool.false_or, Bool.false_and, Bool.and_true, Bool.true_and, Bool.not_true, Bool.not_false,
  Option.some.injEq, exists_eq_left', exists_eq_left, true_and, and_true, if_true, if_false, Bool.false_eq_true, ite_true, ite_false, reduceIte, decide_eq_true_eq, decide_eq_false_iff_not, R.vis.injEq, R.fre.injEq, Dt.lst.injEq, Dt.tup.injEq, Dt.int.injEq, Slot.own.injEq, OD.lst.injEq, reduceCtorEq, false_and, exists_false, exists_const, Bool.true_eq_false, false_implies, true_implies, implies_true, forall_const])

/-! mix_value -/
theorem len_mix_value : ∀ (ds : List Dt) (r : Dt), F_mix_value ds = some r → ds.length = 3 := by
  intro ds r h
  match ds, h with
  | [_, _, _], _ => rfl
theorem sortI_mem {l : List Int} {x : Int} (h : x ∈ sortI l) : x ∈ l := (sortI_perm l).mem_iff.mp h
/-- the bound of what right_numbers gives -/
theorem rights_from_abs : ∀ {M : List (List Int)} {P s : List Int} {k : Nat} {c : Nat}, (∀ p ∈ P, p.natAbs < 2 ^ k) → (∀ row ∈ M, ∀ b ∈ row, 0 ≤ b ∧ b ≤ 1) → (∀ x ∈ s, x.natAbs ≤ c * 2 ^ k) → ∀ x ∈ (P.zip M).foldl (fun s z => addR s z.1 z.2) s, x.natAbs ≤ (c + M.length) * 2 ^ k
  | [], P, s, k, c, _, _, hs, x, hx => by
    rw [List.zip_nil_right, List.foldl_nil] at hx
    exact hs x hx
  | row :: M, [], s, k, c, _, _, hs, x, hx => by
    rw [List.zip_nil_left, List.foldl_nil] at hx
    exact Nat.le_trans (hs x hx) (Nat.mul_le_mul_right _ (Nat.le_add_right _ _))
  | row :: M, p :: P, s, k, c, hp, hb, hs, x, hx => by
    rw [List.zip_cons_cons, List.foldl_cons] at hx
    have h := rights_from_abs (M := M) (P := P) (s := addR s p row) (k := k) (c := c + 1) (fun q hq => hp q (List.mem_cons_of_mem _ hq)) (fun r hr => hb r (List.mem_cons_of_mem _ hr)) (fun y hy => by
      unfold addR at hy
      obtain ⟨i, hi, e⟩ := List.getElem_of_mem hy
      rw [List.length_zipWith] at hi
      rw [List.getElem_zipWith] at e
      have h1 := hs _ (List.getElem_mem (l := s) (n := i) (by omega))
      have h2 := hb row List.mem_cons_self _ (List.getElem_mem (l := row) (n := i) (by omega))
      have h3 := hp p List.mem_cons_self
      generalize s[i]'(by omega) = u at *
      generalize row[i]'(by omega) = v at *
      have h4 : (p * v).natAbs ≤ p.natAbs := by
        have : v = 0 ∨ v = 1 := by omega
        rcases this with rfl | rfl
        · rw [Int.mul_zero]; exact Nat.zero_le _
        · rw [Int.mul_one]; exact Nat.le_refl _
      have h5 := Int.natAbs_add_le u (p * v)
      rw [← e, Nat.add_mul]
      omega) x hx
    rw [List.length_cons]
    have e : c + 1 + M.length = c + (M.length + 1) := by omega
    rw [e] at h
    exact h
theorem rights_abs {M : List (List Int)} {L : List (Int × Int)} (ok : OkM M L) : ∀ x ∈ rightsF (numsL L) M, x.natAbs < 2 ^ 2010 := by
  intro x hx
  obtain ⟨n, n0, n1, hb⟩ := ok.bits
  have h := rights_from_abs (c := 0) (nums_abs (botOk ok.mix)) (fun r hr => (hb r hr).2) (s := (M.headD []).map fun _ => 0) (fun y hy => by
    obtain ⟨z, _, rfl⟩ := List.mem_map.mp hy
    exact Nat.zero_le _) x hx
  refine Nat.lt_of_le_of_lt h ?_
  have h1 : M.length ≤ 100 := by rw [ok.len]; exact ok.mix.few
  rw [Nat.zero_add]
  calc M.length * 2 ^ 2000 ≤ 100 * 2 ^ 2000 := Nat.mul_le_mul_right _ h1
    _ < 2 ^ 10 * 2 ^ 2000 := Nat.mul_lt_mul_of_pos_right (by decide) (Nat.pow_pos (by decide))
    _ = 2 ^ 2010 := (Nat.pow_add 2 10 2000).symm
/-- a part of a lot -/
structure PartOk (d : Dt) (m b1 : Int) : Prop where
  ex : ∃ s p q, d = iseq s [p, q] ∧ ShOk 700 p q ∧ p * b1 = m * q
theorem isNon_iseq (s : Bool) (l : List Int) : (iseq s l).isNon = false := by cases s <;> rfl
theorem getD0_of {l : List Int} (h : l ≠ []) : atL (l.map Dt.int) 0 = some (.int (l.getD 0 0)) := by
  cases l with
  | nil => exact absurd rfl h
  | cons x l => rfl
theorem shOk_of {k : Nat} {a b : Int} (h : 0 < b) (h1 : b.natAbs < 2 ^ k) (h2 : a.natAbs < 2 ^ k) : ShOk k a b := ⟨h, h1, h2⟩
theorem mix_core {s s' : Bool} {M : List (List Int)} {L : List (Int × Int)} (ok : OkM M L) {sb : Bool} {b0 b1 : Int} (hb : OkB b0 b1) {S : List Int} {B : Int} (hS : S = rightsF (numsL L) M) (hB : B = botL L) (hSne : S ≠ []) (hSl : S.length ≤ 100) :
    w_mix_value (endR (lowD (dot (fillP b0 b1 S.length) (sortI S)) (b1 * B))) [.val (.tup (M.map (iseq s))), .val (.tup (shD s' L)), .val (iseq sb [b0, b1]), .non, .non, .non, .non, .non, .non, .non] := by
  have hr := right_at (s := s) (s' := s') ok
  have hSa := rights_abs ok
  have bo := botOk ok.mix
  rw [← hS] at hr hSa
  rw [← hB] at hr
  have hB0 : 0 < B := by rw [hB]; exact bo.p
  have hB1 : B.natAbs < 2 ^ 1000 := by rw [hB]; exact bo.s
  generalize hX : Dt.tup (M.map (iseq s)) = X at *
  generalize hY : Dt.tup (shD s' L) = Y at *
  refine q_unp (d := .tup [ilst S, .int B]) (by walk_at "pe"; rw [hr]; walk_at "pe") rfl ?_
  show (wSeq _ _) _ [.val X, .val Y, .val (iseq sb [b0, b1]), .non, .non, .non, .non, .val (ilst S), .val (.int B), .non]
  refine q_asg (r := .fre (.lst ((sortI S).map .int))) (by walk_at "pe"; exact pSorted_ints) rfl rfl ?_
  refine q_frz rfl rfl ?_
  show (wSeq _ _) _ [.val X, .val Y, .val (iseq sb [b0, b1]), .val (ilst (sortI S)), .non, .non, .non, .val (ilst S), .val (.int B), .non]
  refine q_if (c := false) (by walk_at "pe"; rw [isNon_iseq]) (fun e => by cases e) fun _ => s_nil ?_
  refine q_asg (r := .vis (pD (0, 1))) (by walk_at "pe"; rfl) rfl rfl ?_
  refine q_asg (r := .vis (pD (1, 1))) (by walk_at "pe"; rfl) rfl rfl ?_
  have hsl : (sortI S).length = S.length := sortI_len S
  have hsa : ∀ x ∈ sortI S, x.natAbs < 2 ^ 2010 := fun x hx => hSa x (sortI_mem hx)
  generalize hT : dot (fillP b0 b1 S.length) (sortI S) = T
  rw [← hsl] at hT hSl
  generalize sortI S = Z at *
  have hb1B : 0 < b1 * B := Int.mul_pos hb.p1 hB0
  have hbb : (b1 * B).natAbs < 2 ^ 1700 := by
    rw [Int.natAbs_mul, show (1700 : Nat) = 700 + 1000 from rfl, Nat.pow_add]
    exact Nat.mul_lt_mul'' hb.s1 hB1
  refine q_forMap (u := Dt.int) (xs := Z) (fun i e => ∃ (acc left : Int) (z6 z9 : Slot), e = [.val X, .val Y, .val (iseq sb [b0, b1]), .val (ilst Z), .val (lowD acc (b1 * B)), .val (lowD left b1), z6, .val (ilst S), .val (.int B), z9] ∧
    0 ≤ left ∧ left ≤ b1 ∧ acc.natAbs ≤ i * 2 ^ 2710 ∧ acc + dot (fillP b0 left (Z.length - i)) (Z.drop i) = T) (by walk_at "pe"; rfl) ⟨0, b1, .non, .non, ?_, Int.le_of_lt hb.p1, Int.le_refl _, by simp, ?_⟩ ?_ ?_
  · have e1 : lowD 0 (b1 * B) = pD (0, 1) := by
      obtain ⟨h1, h2⟩ := low01 hb1B
      unfold lowD pD
      rw [h1, h2]
    have e2 : lowD b1 b1 = pD (1, 1) := lowD_same (c := 1) (d := 1) hb.p1 (by decide) (by omega) |>.trans (by unfold lowD pD; rw [show lowT 1 1 = 1 by decide, show lowB 1 1 = 1 by decide])
    rw [e1, e2]
    rfl
  · rw [Int.zero_add, Nat.sub_zero, List.drop_zero]
    exact hT
  · rintro i env x hx ⟨acc, left, z6, z9, rfl, l0, l1, hacc, hinv⟩
    have hi := (List.getElem?_eq_some_iff.mp hx).1
    have hxa := hsa x (List.mem_of_getElem? hx)
    refine ⟨_, by walk_at "pe"; rfl, ?_⟩
    show (wSeq _ _) _ [.val X, .val Y, .val (iseq sb [b0, b1]), .val (ilst Z), .val (lowD acc (b1 * B)), .val (lowD left b1), .val (.int x), .val (ilst S), .val (.int B), z9]
    have hleft : ShOk 700 left b1 := ⟨hb.p1, hb.s1, by have := hb.s1; omega⟩
    have hmost : ShOk 700 b0 b1 := ⟨hb.p1, hb.s1, hb.s0⟩
    have hcmp := compare_at (s := true) (s' := sb) (hleft.low.mono (m := 3900) (by decide)) (hmost.mono (m := 3900) (by decide))
    have hpart : ∃ d, PartOk d (mn left b0) b1 ∧ d = if left < b0 then lowD left b1 else iseq sb [b0, b1] := by
      refine ⟨_, ⟨?_⟩, rfl⟩
      rw [← mn_eq]
      by_cases h : left < b0
      · rw [if_pos h, if_pos h]
        exact ⟨true, _, _, rfl, hleft.low, low_cross hb.p1⟩
      · rw [if_neg h, if_neg h]
        exact ⟨sb, _, _, rfl, hmost, rfl⟩
    obtain ⟨d, ⟨sd, p, q, hd, hpq, hpv⟩, hd2⟩ := hpart
    have hc : lowT left b1 * b1 < b0 * lowB left b1 ↔ left < b0 := by
      rw [low_cross hb.p1]
      constructor
      · intro h
        exact Int.lt_of_mul_lt_mul_right h (Int.le_of_lt (low_pos hb.p1))
      · intro h
        exact Int.mul_lt_mul_of_pos_right h (low_pos hb.p1)
    refine q_asg (r := .vis d) ?_ rfl rfl ?_
    · have ht : tVal (e2 pLt (eCall F_compare (aCons (eVar 5) (aCons (eVar 2) aNil))) (eC (.int 0))) [.val X, .val Y, .val (iseq sb [b0, b1]), .val (ilst Z), .val (lowD acc (b1 * B)), .val (lowD left b1), .val (.int x), .val (ilst S), .val (.int B), z9] = some (decide (left < b0)) := by
        walk_at "pe"
        rw [show F_compare [lowD left b1, iseq sb [b0, b1]] = _ from hcmp]
        walk_at "pe"
        rw [lt_int0]
        exact decide_eq_decide.mpr hc
      rw [eIf_at, ht]
      walk_at "pe"
      rw [hd2]
      by_cases h : left < b0
      · rw [if_pos h, if_pos h]
      · rw [if_neg h, if_neg h]
    rw [hd]
    show (wSeq _ _) _ [.val X, .val Y, .val (iseq sb [b0, b1]), .val (ilst Z), .val (lowD acc (b1 * B)), .val (lowD left b1), .val (.int x), .val (ilst S), .val (.int B), .val (iseq sd [p, q])]
    obtain ⟨m1, m2, m3⟩ := mn_rng l0 (Int.le_of_lt hb.p0)
    generalize hm : mn left b0 = mm at *
    -- part times number over bottom
    have hxB : ShOk 2010 x B := ⟨hB0, Nat.lt_trans hB1 (Nat.pow_lt_pow_right (by decide) (by decide)), hxa⟩
    have htm := times_at (s := sd) (s' := true) (hpq.mono (m := 3900) (by decide)) (hxB.mono (m := 3900) (by decide))
    have hpx : lowD (p * x) (q * B) = lowD (mm * x) (b1 * B) := lowD_same (Int.mul_pos hpq.b0 hB0) hb1B (by
      calc p * x * (b1 * B) = (p * b1) * (x * B) := by ac_rfl
        _ = (mm * q) * (x * B) := by rw [hpv]
        _ = mm * x * (q * B) := by ac_rfl)
    rw [hpx] at htm
    have hmx : (mm * x).natAbs < 2 ^ 2710 := by
      rw [Int.natAbs_mul, show (2710 : Nat) = 700 + 2010 from rfl, Nat.pow_add]
      exact Nat.mul_lt_mul'' (by have := hb.s0; omega) hxa
    have okx : ShOk 3900 (mm * x) (b1 * B) := ⟨hb1B, Nat.lt_trans hbb (Nat.pow_lt_pow_right (by decide) (by decide)), Nat.lt_trans hmx (Nat.pow_lt_pow_right (by decide) (by decide))⟩
    have hacc2 : acc.natAbs < 2 ^ 2720 := by
      refine Nat.lt_of_le_of_lt hacc ?_
      calc i * 2 ^ 2710 ≤ 100 * 2 ^ 2710 := Nat.mul_le_mul_right _ (by omega)
        _ < 2 ^ 10 * 2 ^ 2710 := Nat.mul_lt_mul_of_pos_right (by decide) (Nat.pow_pos (by decide))
        _ = 2 ^ 2720 := (Nat.pow_add 2 10 2710).symm
    have oka : ShOk 3900 acc (b1 * B) := ⟨hb1B, Nat.lt_trans hbb (Nat.pow_lt_pow_right (by decide) (by decide)), Nat.lt_trans hacc2 (Nat.pow_lt_pow_right (by decide) (by decide))⟩
    have hpl := plus_at (s := true) (s' := true) oka.low okx.low
    have hsum : lowD (lowT acc (b1 * B) * lowB (mm * x) (b1 * B) + lowT (mm * x) (b1 * B) * lowB acc (b1 * B)) (lowB acc (b1 * B) * lowB (mm * x) (b1 * B)) = lowD (acc + mm * x) (b1 * B) := by
      have h := plusP_low (S := acc) (P := mm * x) (e := (lowT (mm * x) (b1 * B), lowB (mm * x) (b1 * B))) hb1B (low_pos hb1B) (low_cross hb1B)
      unfold plusP at h
      unfold lowD
      injection h with h1 h2
      rw [h1, h2]
    rw [hsum] at hpl
    refine q_asg (r := .vis (lowD (acc + mm * x) (b1 * B))) ?_ rfl rfl ?_
    · walk_at "pe"
      rw [show F_times [iseq sd [p, q], .tup [.int x, .int B]] = _ from htm]
      walk_at "pe"
      rw [show F_plus [lowD acc (b1 * B), lowD (mm * x) (b1 * B)] = _ from hpl]
      walk_at "pe"
    have hneg : ShOk 3900 (-p) q := ⟨hpq.b0, (hpq.mono (m := 3900) (by decide)).sb, by rw [Int.natAbs_neg]; exact (hpq.mono (m := 3900) (by decide)).sa⟩
    have hpl2 := plus_at (s := true) (s' := true) (hleft.low.mono (m := 3900) (by decide)) hneg
    have hsum2 : lowD (lowT left b1 * q + -p * lowB left b1) (lowB left b1 * q) = lowD (left - mm) b1 := by
      have h := plusP_low (S := left) (P := -mm) (e := (-p, q)) hb.p1 hpq.b0 (by
        show -p * b1 = -mm * q
        rw [Int.neg_mul, Int.neg_mul, hpv])
      unfold plusP at h
      unfold lowD
      injection h with h1 h2
      rw [Int.sub_eq_add_neg]
      rw [← h1, ← h2]
    rw [hsum2] at hpl2
    refine s_asg (r := .vis (lowD (left - mm) b1)) ?_ rfl rfl ⟨acc + mm * x, left - mm, _, _, rfl, by omega, by omega, ?_, ?_⟩
    · walk_at "pe"
      rw [ix2_0, ix2_1]
      walk_at "pe"
      rw [show F_plus [lowD left b1, .tup [.int (-p), .int q]] = _ from hpl2]
      walk_at "pe"
    · have := Int.natAbs_add_le acc (mm * x)
      rw [Nat.add_mul, Nat.one_mul]
      omega
    · rw [← hinv, drop_cons_get hx]
      have e : Z.length - i = (Z.length - (i + 1)) + 1 := by omega
      rw [e]
      show _ = acc + dot (mn left b0 :: fillP b0 (left - mn left b0) (Z.length - (i + 1))) (x :: Z.drop (i + 1))
      rw [hm, dot_cons]
      omega
  · rintro env ⟨acc, left, z6, z9, rfl, l0, l1, hacc, hinv⟩
    rw [Nat.sub_self, List.drop_length] at hinv
    have e : acc = T := by
      rw [← hinv]
      show acc = acc + 0
      omega
    subst e
    exact s_ret (r := .vis (lowD acc (b1 * B))) (by walk_at "pe") rfl rfl rfl
theorem k_mix_value : Keeps 10 w_mix_value F_mix_value := by
  intro ds r h
  match ds, h with
  | [m, x, b], h =>
    simp only [F_mix_value] at h
    split at h
    case isFalse => cases h
    rename_i hk
    cases h
    obtain ⟨⟨s, hm⟩, ⟨s', hx⟩, ok, ⟨sb, hb⟩, okb⟩ := hk
    generalize hM : m.toM = M at *
    generalize hL : toL x = L at *
    generalize hQ : toB b = Q at *
    subst hm hx hb
    obtain ⟨n, n0, n1, hbits⟩ := ok.bits
    have hne := rows_ne ok
    have hlen : (rightsF (numsL L) M).length = n := rights_len (by rw [nums_len, ok.len]) (fun r hr => (hbits r hr).1) hne n0
    have hSne : rightsF (numsL L) M ≠ [] := fun e => by
      rw [e] at hlen
      simp at hlen
      omega
    cases Q with
    | some q => exact mix_core ok (okb q rfl) rfl rfl hSne (by rw [hlen]; exact n1)
    | none =>
      have hr := right_at (s := s) (s' := s') ok
      have bo := botOk ok.mix
      unfold mixR leastT leastB
      dsimp only
      generalize rightsF (numsL L) M = S at *
      have hB0 := bo.p
      have hB1 := bo.s
      generalize botL L = B at *
      show w_mix_value _ [.val (.tup (M.map (iseq s))), .val (.tup (shD s' L)), .val .non, .non, .non, .non, .non, .non, .non, .non]
      generalize hX : Dt.tup (M.map (iseq s)) = X at *
      generalize hY : Dt.tup (shD s' L) = Y at *
      refine q_unp (d := .tup [ilst S, .int B]) (by walk_at "pe"; rw [hr]; walk_at "pe") rfl ?_
      show (wSeq _ _) _ [.val X, .val Y, .val .non, .non, .non, .non, .non, .val (ilst S), .val (.int B), .non]
      refine q_asg (r := .fre (.lst ((sortI S).map .int))) (by walk_at "pe"; exact pSorted_ints) rfl rfl ?_
      refine q_frz rfl rfl ?_
      have hz : sortI S ≠ [] := fun e => by
        have := sortI_len S
        rw [e] at this
        exact hSne (List.length_eq_zero_iff.mp this.symm)
      refine q_if (c := true) (by walk_at "pe") (fun _ => ?_) fun e => by cases e
      refine s_ret (r := .vis (lowD ((sortI S).getD 0 0) B)) ?_ rfl rfl rfl
      walk_at "pe"
      rw [getD0_of hz]
      walk_at "pe"
      rw [low_at hB0 (Nat.lt_trans hB1 (Nat.pow_lt_pow_right (by decide) (by decide)))]
      rfl
theorem toB_bd (s : Bool) (q : Option (Int × Int)) : toB (bdD s q) = q := by
  cases q with
  | none => rfl
  | some q =>
    show toB (iseq s [q.1, q.2]) = _
    have h1 := topD_iseq s q.1 q.2
    have h2 := botD_iseq s q.1 q.2
    have e : toB (iseq s [q.1, q.2]) = some (topD (iseq s [q.1, q.2]), botD (iseq s [q.1, q.2])) := by cases s <;> rfl
    rw [e, h1, h2]
theorem mix_at {s s' sb : Bool} {M : List (List Int)} {L : List (Int × Int)} {q : Option (Int × Int)} (ok : OkM M L) (okb : OkBo q) : F_mix_value [.tup (M.map (iseq s)), .tup (shD s' L), bdD sb q] = some (mixR M L q) := by
  simp only [F_mix_value]
  rw [toL_tup, toM_tup, toB_bd, if_pos ⟨⟨s, rfl⟩, ⟨s', rfl⟩, ok, ⟨sb, rfl⟩, okb⟩]
/-! least -/
theorem len__law_least : ∀ (ds : List Dt) (r : Dt), F__law_least ds = some r → ds.length = 3 := by
  intro ds r h
  match ds, h with
  | [_, .int _, _], _ => rfl
theorem abs_sum_le {l : List Int} {k : Nat} (h : ∀ x ∈ l, x.natAbs < 2 ^ k) : l.sum.natAbs ≤ l.length * 2 ^ k := by
  induction l with
  | nil => simp
  | cons x l ih =>
    have h1 := h x List.mem_cons_self
    have h2 := ih fun y hy => h y (List.mem_cons_of_mem _ hy)
    rw [List.sum_cons, List.length_cons, Nat.add_mul]
    have := Int.natAbs_add_le x l.sum
    omega
theorem div700 {x : Int} (h : x.natAbs < 2 ^ 700) : x.natAbs < DIVB := by
  rw [DIVB_eq]
  exact Nat.lt_trans h (Nat.pow_lt_pow_right (by decide) (by decide))
theorem cutD_toI {ds : List Dt} {k : Int} (h : 0 ≤ k) : cutD ds none (some k) = ds.take k.toNat := by
  obtain ⟨n, rfl⟩ := Int.eq_ofNat_of_zero_le h
  rw [Int.toNat_natCast]
  exact cutD_to
theorem k__law_least : Keeps 6 w__law_least F__law_least := by
  intro ds r h
  match ds, h with
  | [x, .int B, b], h =>
    simp only [F__law_least] at h
    split at h
    case isFalse => cases h
    rename_i hk
    cases h
    obtain ⟨hx, hne, hfew, hab, hB, hb, okb⟩ := hk
    generalize hS : x.toIs = S at *
    generalize hQ : toB b = Q at *
    subst hx hb
    have hz : sortI S ≠ [] := fun e => by
      have := sortI_len S
      rw [e] at this
      exact hne (List.length_eq_zero_iff.mp this.symm)
    cases Q with
    | none =>
      show w__law_least _ [.val (ilst S), .val (.int B), .val .non, .non, .non, .non]
      refine q_asg (r := .fre (.lst ((sortI S).map .int))) (by walk_at "pe"; exact pSorted_ints) rfl rfl ?_
      refine q_frz rfl rfl ?_
      refine q_if (c := true) (by walk_at "pe") (fun _ => ?_) fun e => by cases e
      refine s_ret (r := .fre (.lst ([leastT S none, leastB B none].map .int))) ?_ rfl rfl rfl
      walk_at "pe"
      rw [getD0_of hz]
      walk_at "pe"
      rfl
    | some q =>
      obtain ⟨b0, b1⟩ := q
      obtain ⟨p0, p1, s0, s1⟩ := okb (b0, b1) rfl
      dsimp only at p0 p1 s0 s1
      show w__law_least _ [.val (ilst S), .val (.int B), .val (.lst [.int b0, .int b1]), .non, .non, .non]
      refine q_asg (r := .fre (.lst ((sortI S).map .int))) (by walk_at "pe"; exact pSorted_ints) rfl rfl ?_
      refine q_frz rfl rfl ?_
      show (wSeq _ _) _ [.val (ilst S), .val (.int B), .val (.lst [.int b0, .int b1]), .val (ilst (sortI S)), .non, .non]
      have hcl := fillP_closed p0 (sortI S) (left := b1) (Int.le_of_lt p1)
      have hsa : ∀ x ∈ sortI S, x.natAbs < 2 ^ 1900 := fun x hx => hab x (sortI_mem hx)
      have hsl : (sortI S).length ≤ 100 := by rw [sortI_len]; exact hfew
      have eL : leastT S (some (b0, b1)) = dot (fillP b0 b1 (sortI S).length) (sortI S) := by unfold leastT; rw [sortI_len]
      have eB : leastB B (some (b0, b1)) = b1 * B := rfl
      rw [eL, eB, hcl]
      generalize sortI S = Z at *
      have hq0 : 0 ≤ b1 / b0 := Int.ediv_nonneg (Int.le_of_lt p1) (Int.le_of_lt p0)
      have hq1 : (b1 / b0).natAbs < 2 ^ 700 := Nat.lt_of_le_of_lt (Int.natAbs_ediv_le_natAbs _ _) s1
      have hsum : (Z.take (b1 / b0).toNat).sum.natAbs < 2 ^ 1910 := by
        have h1 := abs_sum_le (l := Z.take (b1 / b0).toNat) (k := 1900) fun x hx => hsa x (List.mem_of_mem_take hx)
        refine Nat.lt_of_le_of_lt h1 ?_
        calc (Z.take (b1 / b0).toNat).length * 2 ^ 1900 ≤ 100 * 2 ^ 1900 := Nat.mul_le_mul_right _ (by rw [List.length_take]; omega)
          _ < 2 ^ 10 * 2 ^ 1900 := Nat.mul_lt_mul_of_pos_right (by decide) (Nat.pow_pos (by decide))
          _ = 2 ^ 1910 := (Nat.pow_add 2 10 1900).symm
      refine q_if (c := false) (by walk_at "pe") (fun e => by cases e) fun _ => s_nil ?_
      refine q_asg (r := .vis (.int (b1 / b0))) (by walk_at "pe"; rw [pDiv_int p0 (div700 s0)]) rfl rfl ?_
      refine q_asg (r := .vis (.int ((Z.take (b1 / b0).toNat).sum * b0))) ?_ rfl rfl ?_
      · show (e2 pMul (e1 pSum (eSlice (eVar 3) oNone (oSome (eVar 4)))) (e2 pIx (eVar 2) (eC (.int 0)))) [.val (ilst S), .val (.int B), .val (.lst [.int b0, .int b1]), .val (.lst (Z.map .int)), .val (.int (b1 / b0)), .non] = _
        walk_at "pe"
        rw [cutD_toI hq0, ← List.map_take, pSum_ints]
        walk_at "pe"
        rw [pMul_int (big_lt hsum) (big_lt s0)]
      have hlt : ((b1 / b0).toNat < Z.length) ↔ b1 / b0 < (Z.length : Int) := by omega
      refine q_ifI (p := (b1 / b0).toNat < Z.length) (x := (Z.take (b1 / b0).toNat).sum * b0 + Z.getD (b1 / b0).toNat 0 * (b1 - b1 / b0 * b0)) (y := (Z.take (b1 / b0).toNat).sum * b0) ?_ (fun hp => ?_) rfl ?_
      · show (tVal (e2 pLt (eVar 4) (e1 pLen (eVar 3)))) [.val (ilst S), .val (.int B), .val (.lst [.int b0, .int b1]), .val (.lst (Z.map .int)), .val (.int (b1 / b0)), .val (.int _)] = _
        walk_at "pe"
        rw [List.length_map]
        exact decide_eq_decide.mpr hlt.symm
      · have hg : atL (Z.map Dt.int) (b1 / b0) = some (.int (Z.getD (b1 / b0).toNat 0)) := by
          refine atL_of_get hq0 ?_
          rw [List.getElem?_map, List.getElem?_eq_getElem hp, List.getD_eq_getElem?_getD, List.getElem?_eq_getElem hp]
          rfl
        have hz0 : (Z.getD (b1 / b0).toNat 0).natAbs < 2 ^ 1900 := by
          rw [List.getD_eq_getElem?_getD, List.getElem?_eq_getElem hp]
          exact hsa _ (List.getElem_mem hp)
        have hm : (b1 / b0 * b0).natAbs < 2 ^ 1400 := by
          rw [Int.natAbs_mul, show (1400 : Nat) = 700 + 700 from rfl, Nat.pow_add]
          exact Nat.mul_lt_mul'' hq1 s0
        have hd : (b1 - b1 / b0 * b0).natAbs < 2 ^ 700 := by
          have h1 := Int.emod_nonneg b1 (Int.ne_of_gt p0)
          have h2 := Int.emod_lt_of_pos b1 p0
          have h3 := Int.emod_add_mul_ediv b1 b0
          rw [Int.mul_comm b0] at h3
          have : b1 - b1 / b0 * b0 = b1 % b0 := by omega
          rw [this]
          omega
        show (e2 pAdd (eVar 5) (e2 pMul (e2 pIx (eVar 3) (eVar 4)) (e2 pSub (e2 pIx (eVar 2) (eC (.int 1))) (e2 pMul (eVar 4) (e2 pIx (eVar 2) (eC (.int 0))))))) [.val (ilst S), .val (.int B), .val (.lst [.int b0, .int b1]), .val (.lst (Z.map .int)), .val (.int (b1 / b0)), .val (.int _)] = _
        walk_at "pe"
        rw [hg]
        walk_at "pe"
        rw [pMul_int (big_lt hq1) (big_lt s0)]
        walk_at "pe"
        rw [pMul_int (big_lt hz0) (big_lt hd)]
        walk_at "pe"
      · generalize hV : (if (b1 / b0).toNat < Z.length then (Z.take (b1 / b0).toNat).sum * b0 + Z.getD (b1 / b0).toNat 0 * (b1 - b1 / b0 * b0) else (Z.take (b1 / b0).toNat).sum * b0) = V
        have e : (Z.take (b1 / b0).toNat).sum * b0 + (if (b1 / b0).toNat < Z.length then Z.getD (b1 / b0).toNat 0 * (b1 - b1 / b0 * b0) else 0) = V := by
          rw [← hV]
          split
          · rfl
          · rw [Int.add_zero]
        rw [e]
        refine s_ret (r := .fre (.lst [.int V, .int (b1 * B)])) ?_ rfl rfl rfl
        walk_at "pe"
        rw [pMul_int (big_lt s1) (big_lt hB)]
        walk_at "pe"
theorem least_at {S : List Int} {B : Int} {q : Option (Int × Int)} (h1 : S ≠ []) (h2 : S.length ≤ 100) (h3 : ∀ y ∈ S, y.natAbs < 2 ^ 1900) (h4 : B.natAbs < 2 ^ 1900) (h5 : OkBo q) : F__law_least [ilst S, .int B, bdD false q] = some (ilst [leastT S q, leastB B q]) := by
  simp only [F__law_least]
  rw [toIs_ilst, toB_bd, if_pos ⟨rfl, h1, h2, h3, h4, rfl, h5⟩]
end Pyl
end
section
set_option Elab.async false
set_option linter.all false
set_option maxHeartbeats 1000000
namespace Pyl
open PySem
local macro_rules | `(tactic| walk_at "pe") => `(tactic| simp (config := { implicitDefEqProofs := false }) only [eVar_at, eC_at, e1_at, e2_at, aNil_at, aCons_at, eTup_at, eLst_at, plain_nil, plain_cons, eCall_at, eIf_at, aApp_at, aDfl_at, List.cons_append, List.nil_append, eAnd_at, eOr_at, eNot_at, tVal_at, tAnd_at, tOr_at, tNot_at, tYes_at,
  pAdd_int, pSub_int, pNeg_int, pLt_int, pLe_int, pGt_int, pGe_int, pEq_int, pNe_int, pIsN_at, pNotN_at, pIx_lst, pIx_tup, pGcd_int, atL0, atL1, atL2, atL3, atL4, atL5, atL6, atL7, atL8, oNone_at, oSome_at, eSlice_at, pLen_lst, pLen_tup, pInt_int, pInt_bl, pAbs_int, pSum_ints, pMax2_int, pMin2_int, pList_lst, pList_tup, pTuple_lst, pTuple_tup, iSeq_at, gN_at, gT_at, gsN_cons, gsN_nil, wipeS_cons, wipeS_nil,
  dt_vis, dt_bor, dt_fre, sh_vis, sh_bor, sh_fre, slot_vis, slot_fre, od_dt, isNon_non, isNon_int, isNon_lst, isNon_tup, scalar_int, scalar_bl, scalar_non, Option.bind_some, Option.bind_none, Option.map_some, Option.map_none, List.getElem?_cons_zero, List.getElem?_cons_succ, List.set_cons_zero, List.set_cons_succ, List.map_cons, List.map_nil, List.any_cons, List.any_nil, Bool.or_false, Bool.false_or, Bool.false_and, Bool.and_true, Bool.true_and, Bool.not_true, Bool.not_false,
  Option.some.injEq, exists_eq_left', exists_eq_left, true_and, and_true, if_true, if_false, Bool.false_eq_true, ite_true, ite_false, reduceIte, decide_eq_true_eq, decide_eq_false_iff_not, R.vis.injEq, R.fre.injEq, Dt.lst.injEq, Dt.tup.injEq, Dt.int.injEq, Slot.own.injEq, OD.lst.injEq, reduceCtorEq, false_and, exists_false, exists_const, Bool.true_eq_false, false_implies, true_implies, implies_true, forall_const])

/-! comprehensions -/
theorem comp_rng {env : Sl} {k n : Nat} {fa fe : EF} {f : Nat → Int} (h : fa env = some (.vis (.int (n : Int)))) (hn : n ≤ 4000000) (hf : ∀ j : Nat, j < n → fe ((wipeS env [k]).set k (.val (.int (j : Int)))) = some (.vis (.int (f j)))) :
    eComp [k] (iRange1 fa) (gN k) tYes fe env = some (.fre (.lst (((List.range n).map f).map .int))) := by
  refine eComp_of (ds := rngD 0 n) (s := false) (by rw [rng1 (n := (n : Int)) h (by omega), Int.toNat_natCast]) (by rw [rngD_len]; exact lim_of hn) ?_
  have e : rngD 0 n = (List.range n).map fun j : Nat => Dt.int ((j : Int)) := by
    unfold rngD
    refine List.map_congr_left fun j _ => ?_
    rw [Int.zero_add]
  rw [e]
  refine compL_map (u := fun j : Nat => Dt.int (j : Int)) (f := f) (v := Dt.int) fun j hj => ?_
  rw [compG_at, gN_at]
  show ((fe ((wipeS env [k]).set k (.val (.int (j : Int))))).bind _) = _
  rw [hf j (List.mem_range.mp hj)]
  rfl
theorem comp_consts {env : Sl} {k n : Nat} {fa : EF} {x : Int} (h : fa env = some (.vis (.int (n : Int)))) (hn : n ≤ 4000000) : eComp [k] (iRange1 fa) (gN k) tYes (eC (.int x)) env = some (.fre (.lst ((List.replicate n x).map .int))) := by
  rw [comp_rng (f := fun _ => x) h hn fun j hj => rfl]
  have : (List.range n).map (fun _ => x) = List.replicate n x := by
    rw [List.map_const', List.length_range]
  rw [this]
theorem comp_lists {env : Sl} {i : Nat} {b : Bool} {m : List (List Int)} (hi : i < env.length) : compL (compG env [i] (gN i) tYes (e1 pList (eVar i))) (m.map (iseq b)) = some (m.map ilst) := by
  refine (compL_map (f := fun r : List Int => r) (v := ilst) fun r _ => ?_).trans (by rw [List.map_id'])
  have e : (((wipeS env [i]).set i (.val (iseq b r)))[i]?) = some (.val (iseq b r)) := List.getElem?_set_self (by rw [wipeS_cons, wipeS_nil, List.length_set]; exact hi)
  show ((e1 pList (eVar i) ((wipeS env [i]).set i (.val (iseq b r)))).bind fun r => if r.sh then none else some [r.dt]) = _
  rw [e1_at, eVar_at, e]
  cases b <;> rfl
theorem comp_tups {env : Sl} {i : Nat} {b : Bool} {m : List (List Int)} (hi : i < env.length) : compL (compG env [i] (gN i) tYes (e1 pTuple (eVar i))) (m.map (iseq b)) = some (m.map itup) := by
  refine compL_map (f := fun r : List Int => r) (v := itup) (fun r _ => ?_) |>.trans (by rw [List.map_id'])
  have e : (((wipeS env [i]).set i (.val (iseq b r)))[i]?) = some (.val (iseq b r)) := List.getElem?_set_self (by rw [wipeS_cons, wipeS_nil, List.length_set]; exact hi)
  show ((e1 pTuple (eVar i) ((wipeS env [i]).set i (.val (iseq b r)))).bind fun r => if r.sh then none else some [r.dt]) = _
  rw [e1_at, eVar_at, e]
  cases b <;> rfl
/-- shares as rows -/
def rowsL (L : List (Int × Int)) : List (List Int) := L.map fun e => [e.1, e.2]
theorem shD_rows (s : Bool) (L : List (Int × Int)) : shD s L = (rowsL L).map (iseq s) := by
  unfold shD rowsL
  rw [List.map_map]
  rfl
theorem rowsL_len (L : List (Int × Int)) : (rowsL L).length = L.length := by unfold rowsL; rw [List.length_map]
/-- lists of them, tuples of them -/
theorem asLists {env : Sl} {i k : Nat} {b c : Bool} {m : List (List Int)} (hi : i < env.length) (he : env[k]? = some (.val (seqD c (m.map (iseq b))))) (hm : m.length ≤ 4000000) : eComp [i] (iSeq (eVar k)) (gN i) tYes (e1 pList (eVar i)) env = some (.fre (.lst (m.map ilst))) := by
  refine eComp_of (ds := m.map (iseq b)) (s := false) ?_ (by rw [List.length_map]; exact lim_of hm) (comp_lists hi)
  rw [iSeq_at, eVar_at, he]
  cases c <;> rfl
theorem asTups {env : Sl} {i k : Nat} {b c : Bool} {m : List (List Int)} (hi : i < env.length) (he : env[k]? = some (.val (seqD c (m.map (iseq b))))) (hm : m.length ≤ 4000000) : eComp [i] (iSeq (eVar k)) (gN i) tYes (e1 pTuple (eVar i)) env = some (.fre (.lst (m.map itup))) := by
  refine eComp_of (ds := m.map (iseq b)) (s := false) ?_ (by rw [List.length_map]; exact lim_of hm) (comp_tups hi)
  rw [iSeq_at, eVar_at, he]
  cases c <;> rfl
/-! lot_told -/
theorem len__law_lot_told : ∀ (ds : List Dt) (r : Dt), F__law_lot_told ds = some r → ds.length = 3 := by
  intro ds r h
  match ds, h with
  | [_, _, .int _], _ => rfl
theorem lot_at {s s' : Bool} {M : List (List Int)} {L : List (Int × Int)} (ok : OkLot M L) : F_lot_value [.lst (M.map (iseq s)), .lst (shD s' L)] = some (pD (lotV M L)) := by
  simp only [F_lot_value]
  rw [toM_lst, toL_lst, if_pos ⟨⟨s, rfl⟩, ⟨s', rfl⟩, ok⟩]
theorem k__law_lot_told : Keeps 8 w__law_lot_told F__law_lot_told := by
  intro ds r h
  match ds, h with
  | [m, x, .int way], h =>
    simp only [F__law_lot_told] at h
    split at h
    case isFalse => cases h
    rename_i hk
    cases h
    obtain ⟨hm, hx, ok, hfew⟩ := hk
    generalize hM : m.toM = M at *
    generalize hL : toL x = L at *
    subst hm hx
    have hrl := rowsL_len L
    have hLf := ok.few
    have hlot := fun s s' => lot_at (s := s) (s' := s') ok
    generalize hR : pD (lotV M L) = R at *
    show w__law_lot_told _ [.val (imat M), .val (.lst (shD false L)), .val (.int way), .non, .non, .non, .non, .non]
    simp only [shD_rows] at *
    generalize rowsL L = N at *
    refine q_asg (r := .fre (.lst (M.map ilst))) (asLists (b := false) (c := false) (by simp) rfl (by omega)) rfl rfl ?_
    refine q_frz rfl rfl ?_
    refine q_asg (r := .fre (.lst (N.map ilst))) (asLists (b := false) (c := false) (by simp) rfl (by omega)) rfl rfl ?_
    refine q_frz rfl rfl ?_
    show (wSeq _ _) _ [.val (imat M), .val (.lst (N.map ilst)), .val (.int way), .val (.lst (M.map (iseq false))), .val (.lst (N.map (iseq false))), .non, .non, .non]
    refine q_cut (fun e => ∃ s s' z4, e = [.val (imat M), .val (.lst (N.map ilst)), .val (.int way), .val (.lst (M.map (iseq s))), z4, .non, .non, .non] ∧ (z4 = .val (.lst (N.map (iseq s'))) ∨ z4 = .own (.lst (N.map (iseq s'))))) ?_ ?_
    · refine s_ifD (p := way % 2 = 1) (by walk_at "pe"; rw [pMod_int (by decide)]; walk_at "pe") (fun _ => ?_) fun _ => s_nil ⟨false, false, _, rfl, Or.inl rfl⟩
      refine q_asg (r := .fre (.lst (M.map itup))) (asTups (b := false) (c := false) (by simp) rfl (by omega)) rfl rfl ?_
      refine q_frz rfl rfl ?_
      exact s_asg (r := .fre (.lst (N.map itup))) (asTups (b := false) (c := false) (by simp) rfl (by omega)) rfl rfl ⟨true, true, _, rfl, Or.inr rfl⟩
    · rintro e ⟨s, s', z4, rfl, hz4⟩
      have main : (wSeq (wAsg 5 (eCall F_lot_value (aCons (eVar 3) (aCons (eVar 4) aNil))))
          (wSeq (wIf (tOr (tVal (e2 pNe (eComp [6] (iSeq (eVar 3)) (gN 6) tYes (e1 pList (eVar 6))) (eVar 0))) (tVal (e2 pNe (eComp [7] (iSeq (eVar 4)) (gN 7) tYes (e1 pList (eVar 7))) (eVar 1))))
          (wRet (eC .non))
          wNil)
          (wRet (eVar 5)))) (endR R) [.val (imat M), .val (.lst (N.map ilst)), .val (.int way), .val (.lst (M.map (iseq s))), .val (.lst (N.map (iseq s'))), .non, .non, .non] := by
        refine q_asg (r := .vis R) (by walk_at "pe"; rw [hlot s s']; walk_at "pe") rfl rfl ?_
        refine q_if (c := false) ?_ (fun e => by cases e) fun _ => s_nil ?_
        · rw [tOr_at, tVal_at, tVal_at, e2_at, e2_at, asLists (b := s) (c := false) (by simp) rfl (by omega), asLists (b := s') (c := false) (by simp) rfl (by omega)]
          walk_at "pe"
          rw [show pNe (.lst (M.map ilst)) (imat M) = _ from pNe_imat M M, show pNe (.lst (N.map ilst)) (.lst (N.map ilst)) = _ from pNe_imat N N]
          simp
        · exact s_ret (r := .vis R) (by walk_at "pe") rfl rfl rfl
      rcases hz4 with rfl | rfl
      · exact q_frz0 rfl main
      · exact q_frz rfl rfl main
theorem told_at {M : List (List Int)} {L : List (Int × Int)} {way : Int} (ok : OkLot M L) (h : M.length ≤ 100) : F__law_lot_told [imat M, .lst (shD false L), .int way] = some (pD (lotV M L)) := by
  simp only [F__law_lot_told]
  rw [toM_imat, toL_lst, if_pos ⟨rfl, rfl, ok, h⟩]
/-! mix_told -/
theorem len__law_mix_told : ∀ (ds : List Dt) (r : Dt), F__law_mix_told ds = some r → ds.length = 4 := by
  intro ds r h
  match ds, h with
  | [_, _, _, .int _], _ => rfl
theorem k__law_mix_told : Keeps 10 w__law_mix_told F__law_mix_told := by
  intro ds r h
  match ds, h with
  | [m, x, b, .int way], h =>
    simp only [F__law_mix_told] at h
    split at h
    case isFalse => cases h
    rename_i hk
    cases h
    obtain ⟨hm, hx, ok, hb, okb⟩ := hk
    generalize hM : m.toM = M at *
    generalize hL : toL x = L at *
    generalize hQ : toB b = Q at *
    subst hm hx hb
    have hrl := rowsL_len L
    have hLf := ok.mix.few
    have hMl := ok.len
    have hmix := fun s s' sb => mix_at (s := s) (s' := s') (sb := sb) ok okb
    generalize hR : mixR M L Q = R at *
    show w__law_mix_told _ [.val (imat M), .val (.lst (shD false L)), .val (bdD false Q), .val (.int way), .non, .non, .non, .non, .non, .non]
    simp only [shD_rows] at *
    generalize rowsL L = N at *
    generalize hB : bdD false Q = Bd
    refine q_asg (r := .vis (.tup (M.map ilst))) (by rw [e1_at, asLists (b := false) (c := false) (by simp) rfl (by omega)]; rfl) rfl rfl ?_
    refine q_asg (r := .vis (.tup (N.map ilst))) (by rw [e1_at, asLists (b := false) (c := false) (by simp) rfl (by omega)]; rfl) rfl rfl ?_
    refine q_cut (fun e => ∃ s s', e = [.val (imat M), .val (.lst (N.map ilst)), .val Bd, .val (.int way), .val (.tup (M.map (iseq s))), .val (.tup (N.map (iseq s'))), .non, .non, .non, .non]) ?_ ?_
    · refine s_ifD (p := way % 2 = 1) (by walk_at "pe"; rw [pMod_int (by decide)]; walk_at "pe") (fun _ => ?_) fun _ => s_nil ⟨false, false, rfl⟩
      refine q_asg (r := .vis (.tup (M.map itup))) (by rw [e1_at, asTups (b := false) (c := false) (by simp) rfl (by omega)]; rfl) rfl rfl ?_
      exact s_asg (r := .vis (.tup (N.map itup))) (by rw [e1_at, asTups (b := false) (c := false) (by simp) rfl (by omega)]; rfl) rfl rfl ⟨true, true, rfl⟩
    · rintro e ⟨s, s', rfl⟩
      have fin : ∀ z7, (wSeq (wIf (tOr (tVal (e2 pNe (eComp [8] (iSeq (eVar 4)) (gN 8) tYes (e1 pList (eVar 8))) (eVar 0))) (tVal (e2 pNe (eComp [9] (iSeq (eVar 5)) (gN 9) tYes (e1 pList (eVar 9))) (eVar 1))))
          (wRet (eC .non))
          wNil)
          (wRet (eVar 6))) (endR R) [.val (imat M), .val (.lst (N.map ilst)), .val Bd, .val (.int way), .val (.tup (M.map (iseq s))), .val (.tup (N.map (iseq s'))), .val R, z7, .non, .non] := fun z7 => by
        refine q_if (c := false) ?_ (fun e => by cases e) fun _ => s_nil ?_
        · rw [tOr_at, tVal_at, tVal_at, e2_at, e2_at, asLists (b := s) (c := true) (by simp) rfl (by omega), asLists (b := s') (c := true) (by simp) rfl (by omega)]
          walk_at "pe"
          rw [show pNe (.lst (M.map ilst)) (imat M) = _ from pNe_imat M M, show pNe (.lst (N.map ilst)) (.lst (N.map ilst)) = _ from pNe_imat N N]
          simp
        · exact s_ret (r := .vis R) (by walk_at "pe") rfl rfl rfl
      refine q_cut (fun e => ∃ z7, e = [.val (imat M), .val (.lst (N.map ilst)), .val Bd, .val (.int way), .val (.tup (M.map (iseq s))), .val (.tup (N.map (iseq s'))), .val R, z7, .non, .non]) ?_ ?_
      · cases Q with
        | none =>
          subst hB
          refine s_ifD (p := way < 2) (by rw [tAnd_at, tVal_at]; show (some true).bind _ = _; walk_at "pe") (fun _ => ?_) fun _ => ?_
          · exact s_asg (r := .vis R) (by walk_at "pe"; rw [show F_mix_value [.tup (M.map (iseq s)), .tup (N.map (iseq s')), .non] = _ from hmix s s' false]; walk_at "pe") rfl rfl ⟨_, rfl⟩
          · refine s_if (c := true) rfl (fun _ => ?_) fun e => by cases e
            exact s_asg (r := .vis R) (by walk_at "pe"; rw [show F_mix_value [.tup (M.map (iseq s)), .tup (N.map (iseq s')), .non] = _ from hmix s s' false]; walk_at "pe") rfl rfl ⟨_, rfl⟩
        | some q =>
          obtain ⟨b0, b1⟩ := q
          subst hB
          refine s_if (c := false) (by rw [tAnd_at, tVal_at]; rfl) (fun e => by cases e) fun _ => ?_
          refine s_if (c := false) rfl (fun e => by cases e) fun _ => ?_
          refine q_asg (r := .fre (.lst [.int b0, .int b1])) (by show (e1 pList (eVar 2)) [.val (imat M), .val (.lst (N.map ilst)), .val (.lst [.int b0, .int b1]), .val (.int way), .val (.tup (M.map (iseq s))), .val (.tup (N.map (iseq s'))), .non, .non, .non, .non] = _; walk_at "pe") rfl rfl ?_
          refine q_frz rfl rfl ?_
          refine q_cut (fun e => ∃ sb, e = [.val (imat M), .val (.lst (N.map ilst)), .val (ilst [b0, b1]), .val (.int way), .val (.tup (M.map (iseq s))), .val (.tup (N.map (iseq s'))), .non, .val (iseq sb [b0, b1]), .non, .non]) ?_ ?_
          · refine s_ifD (p := 1 < way) (by show (tVal (e2 pGt (eVar 3) (eC (.int 1)))) [.val (imat M), .val (.lst (N.map ilst)), .val (.lst [.int b0, .int b1]), .val (.int way), .val (.tup (M.map (iseq s))), .val (.tup (N.map (iseq s'))), .non, .val (.lst [.int b0, .int b1]), .non, .non] = _; walk_at "pe") (fun _ => ?_) fun _ => s_nil ⟨false, rfl⟩
            exact s_asg (r := .vis (itup [b0, b1])) rfl rfl rfl ⟨true, rfl⟩
          · rintro e ⟨sb, rfl⟩
            refine q_asg (r := .vis R) (by walk_at "pe"; rw [show F_mix_value [.tup (M.map (iseq s)), .tup (N.map (iseq s')), iseq sb [b0, b1]] = _ from hmix s s' sb]; walk_at "pe") rfl rfl ?_
            refine s_if (c := false) ?_ (fun e => by cases e) fun _ => s_nil ⟨_, rfl⟩
            have e1 : pList (iseq sb [b0, b1]) = some (.fre (.lst ([b0, b1].map .int))) := by cases sb <;> rfl
            walk_at "pe"
            rw [e1]
            walk_at "pe"
            rw [show pNe (.lst [.int b0, .int b1]) (ilst [b0, b1]) = _ from pNe_ilst [b0, b1] [b0, b1]]
            simp
      · rintro e ⟨z7, rfl⟩
        exact fin z7
theorem mixt_at {M : List (List Int)} {L : List (Int × Int)} {way : Int} {q : Option (Int × Int)} (ok : OkM M L) (okb : OkBo q) : F__law_mix_told [imat M, .lst (shD false L), bdD false q, .int way] = some (mixR M L q) := by
  simp only [F__law_mix_told]
  rw [toM_imat, toL_lst, toB_bd, if_pos ⟨rfl, rfl, ok, rfl, okb⟩]
/-! most_right -/
theorem len__law_most_right : ∀ (ds : List Dt) (r : Dt), F__law_most_right ds = some r → ds.length = 2 := by
  intro ds r h
  match ds, h with
  | [_, _], _ => rfl
theorem sum_getD : ∀ (x row : List Int), row.length = x.length → ((List.range row.length).map fun j => x.getD j 0 * row.getD j 0).sum = dot x row
  | [], [], _ => rfl
  | a :: x, b :: row, h => by
    rw [List.length_cons, List.range_succ_eq_map, List.map_cons, List.map_map, List.sum_cons, dot_cons]
    have ih := sum_getD x row (by simpa using h)
    have e : ((List.range row.length).map ((fun j => (a :: x).getD j 0 * (b :: row).getD j 0) ∘ Nat.succ)) = (List.range row.length).map fun j => x.getD j 0 * row.getD j 0 := List.map_congr_left fun j _ => rfl
    rw [e, ih]
    rfl
  | [], _ :: _, h => by cases h
  | _ :: _, [], h => by cases h
theorem getD_at {l : List Int} {j : Nat} (h : j < l.length) : atL (l.map Dt.int) (j : Int) = some (.int (l.getD j 0)) := by
  rw [atL_nat, List.getElem?_map, List.getElem?_eq_getElem h, List.getD_eq_getElem?_getD, List.getElem?_eq_getElem h]
  rfl
theorem getD_mem {l : List Int} {j : Nat} (h : j < l.length) : l.getD j 0 ∈ l := by
  rw [List.getD_eq_getElem?_getD, List.getElem?_eq_getElem h]
  exact List.getElem_mem h
theorem k__law_most_right : Keeps 4 w__law_most_right F__law_most_right := by
  intro ds r h
  match ds, h with
  | [m, x], h =>
    simp only [F__law_most_right] at h
    split at h
    case isFalse => cases h
    rename_i hk
    cases h
    obtain ⟨hm, hx, hne, hfew, hxl, bits, hab⟩ := hk
    generalize hM : m.toM = M at *
    generalize hX : x.toIs = X at *
    subst hm hx
    show w__law_most_right _ [.val (imat M), .val (ilst X), .non, .non]
    have hin : ∀ row ∈ M, (e1 pSum (eComp [3] (iRange1 (e1 pLen (eVar 2))) (gN 3) tYes (e2 pMul (e2 pIx (eVar 1) (eVar 3)) (e2 pIx (eVar 2) (eVar 3))))) [.val (imat M), .val (ilst X), .val (ilst row), .non] = some (.vis (.int (dot X row))) := fun row hrow => by
      obtain ⟨h1, h2⟩ := bits row hrow
      generalize imat M = MM
      show (e1 pSum (eComp [3] (iRange1 (e1 pLen (eVar 2))) (gN 3) tYes (e2 pMul (e2 pIx (eVar 1) (eVar 3)) (e2 pIx (eVar 2) (eVar 3))))) [.val MM, .val (.lst (X.map .int)), .val (.lst (row.map .int)), .non] = _
      rw [e1_at, comp_rng (n := row.length) (f := fun j => X.getD j 0 * row.getD j 0) (by walk_at "pe"; rw [List.length_map]) (by omega) fun j hj => ?_]
      · dsimp only [Option.bind_some, dt_fre]
        rw [pSum_ints, sum_getD X row h1]
      · have hb := h2 _ (getD_mem hj)
        have ha := hab _ (getD_mem (l := X) (j := j) (by omega))
        walk_at "pe"
        rw [getD_at (by omega), getD_at hj]
        walk_at "pe"
        rw [pMul_int (big_lt ha.2) (big64 (by omega) (by omega))]
    have hc : eComp [2] (iSeq (eVar 0)) (gN 2) tYes (e1 pSum (eComp [3] (iRange1 (e1 pLen (eVar 2))) (gN 3) tYes (e2 pMul (e2 pIx (eVar 1) (eVar 3)) (e2 pIx (eVar 2) (eVar 3))))) [.val (imat M), .val (ilst X), .non, .non] = some (.fre (.lst ((M.map (dot X)).map .int))) := by
      refine eComp_of (ds := M.map ilst) (s := false) rfl (by rw [List.length_map]; exact lim_of (by omega)) (compL_map (f := dot X) (v := Dt.int) fun row hrow => ?_)
      have hi := hin row hrow
      rw [compG_at, gN_at]
      simp (config := { implicitDefEqProofs := false }) only [wipeS_cons, wipeS_nil, List.set_cons_succ, List.set_cons_zero, Option.bind_some, tYes_at, if_true]
      rw [hi]
      rfl
    refine s_ret (r := .vis (.int (maxI (M.map (dot X))))) ?_ rfl rfl rfl
    rw [e1_at, hc]
    show pMaxL (.lst ((M.map (dot X)).map .int)) = _
    unfold pMaxL
    dsimp only
    rw [intsOf_ints]
    cases M with
    | nil => exact absurd rfl hne
    | cons row M =>
      rw [List.map_cons]
      show some (R.vis (.int ((M.map (dot X)).foldl (fun m x => if x > m then x else m) (dot X row)))) = _
      rw [maxI_cons]
      exact dot_nn (fun y hy => (hab y hy).1) fun b hb => ((bits row List.mem_cons_self).2 b hb).1
theorem most_at {M : List (List Int)} {X : List Int} (h1 : M ≠ []) (h2 : M.length ≤ 100) (h3 : X.length ≤ 100) (h4 : Bits X.length M) (h5 : ∀ y ∈ X, 0 ≤ y ∧ y.natAbs < 2 ^ 1900) : F__law_most_right [imat M, ilst X] = some (.int (maxI (M.map (dot X)))) := by
  simp only [F__law_most_right]
  rw [toM_imat, toIs_ilst, if_pos ⟨rfl, rfl, h1, h2, h3, h4, h5⟩]
end Pyl
end
section
set_option Elab.async false
set_option linter.all false
set_option maxHeartbeats 1000000
namespace Pyl
open PySem
local macro_rules | `(tactic| walk_at "pe") => `(tactic| simp (config := { implicitDefEqProofs := false }) only [eVar_at, eC_at, e1_at, e2_at, aNil_at, aCons_at, eTup_at, eLst_at, plain_nil, plain_cons, eCall_at, eIf_at, aApp_at, aDfl_at, List.cons_append, List.nil_append, eAnd_at, eOr_at, eNot_at, tVal_at, tAnd_at, tOr_at, tNot_at, tYes_at,
  pAdd_int, pSub_int, pNeg_int, pLt_int, pLe_int, pGt_int, pGe_int, pEq_int, pNe_int, pIsN_at, pNotN_at, pIx_lst, pIx_tup, pGcd_int, atL0, atL1, atL2, atL3, atL4, atL5, atL6, atL7, atL8, oNone_at, oSome_at, eSlice_at, pLen_lst, pLen_tup, pInt_int, pInt_bl, pAbs_int, pSum_ints, pMax2_int, pMin2_int, pList_lst, pList_tup, pTuple_lst, pTuple_tup, iSeq_at, gN_at, gT_at, gsN_cons, gsN_nil, wipeS_cons, wipeS_nil,
  dt_vis, dt_bor, dt_fre, sh_vis, sh_bor, sh_fre, slot_vis, slot_fre, od_dt, isNon_non, isNon_int, isNon_lst, isNon_tup, scalar_int, scalar_bl, scalar_non, Option.bind_some, Option.bind_none, Option.map_some, Option.map_none, List.getElem?_cons_zero, List.getElem?_cons_succ, List.set_cons_zero, List.set_cons_succ, List.map_cons, List.map_nil, List.any_cons, List.any_nil, Bool.or_false, Bool.false_or, Bool.false_and, Bool.and_true, Bool.true_and, Bool.not_true, Bool.not_false,
  Option.some.injEq, exists_eq_left', exists_eq_left, true_and, and_true, if_true, if_false, Bool.false_eq_true, ite_true, ite_false, reduceIte, decide_eq_true_eq, decide_eq_false_iff_not, R.vis.injEq, R.fre.injEq, Dt.lst.injEq, Dt.tup.injEq, Dt.int.injEq, Slot.own.injEq, OD.lst.injEq, reduceCtorEq, false_and, exists_false, exists_const, Bool.true_eq_false, false_implies, true_implies, implies_true, forall_const])

/-! powers of two, told by their names -/
@[irreducible] def pw (k : Nat) : Int := 2 ^ k
theorem pw_pos (k : Nat) : 0 < pw k := by unfold pw; exact Int.pow_pos (by decide)
theorem pw_abs (k : Nat) : (pw k).natAbs = 2 ^ k := by unfold pw; rw [Int.natAbs_pow]; rfl
theorem pw_lt {a b : Nat} (h : a < b) : pw a < pw b := by
  have h1 := pw_abs a
  have h2 := pw_abs b
  have h3 := pw_pos a
  have h4 := pw_pos b
  have h5 : (2 : Nat) ^ a < 2 ^ b := Nat.pow_lt_pow_right (by decide) h
  omega
theorem pw_bits {x : Int} {k : Nat} (h0 : 0 ≤ x) (h : x < pw k) : x.natAbs < 2 ^ k := by
  have h1 := pw_abs k
  have h2 := pw_pos k
  omega
theorem pw_succ (k : Nat) : pw (k + 1) = pw k * 2 := by unfold pw; rw [Int.pow_succ]
theorem shl_pw {k : Nat} (h : k ≤ 100000) : pShl (.int 1) (.int (k : Int)) = some (.vis (.int (pw k))) := by
  rw [pShl_int (Int.natCast_nonneg k) (by omega) (big64 (by decide) (by decide)), Int.toNat_natCast, Int.one_mul]
  unfold pw
  rfl
theorem pw_big {x : Int} {k : Nat} (h0 : 0 ≤ x) (h : x < pw k) (hk : k ≤ 400000 := by decide) : x.natAbs < BIG := big_of (pw_bits h0 h) hk
/-! bound -/
theorem len__law_bound : ∀ (ds : List Dt) (r : Dt), F__law_bound ds = some r → ds.length = 3 := fun ds r h => by
  obtain ⟨a, b, n, rfl, _⟩ := (auto_spec h).1
  rfl
theorem k__law_bound : Keeps 7 w__law_bound F__law_bound := auto_keeps
theorem digs5 {c lim : Int} (h0 : 0 < lim) (h1 : lim ≤ pw 640) : F__law_digits [.int c, .lst [.int 8, .int 16, .int 12, .int lim, .int lim]] = some (ilst (digitsM c [8, 16, 12, lim, lim])) := by
  have hl : lim.natAbs < BIGS := bigs_of (n := 641) (pw_bits (Int.le_of_lt h0) (by have := pw_lt (a := 640) (b := 641) (by decide); omega)) (by decide)
  refine F_digitsW_at (ns := [8, 16, 12, lim, lim]) ⟨fun s hs => ?_, (by show 5 ≤ 100000; decide)⟩
  rcases List.mem_cons.mp hs with rfl | hs
  · exact ⟨by decide, bigs64 (by decide) (by decide)⟩
  rcases List.mem_cons.mp hs with rfl | hs
  · exact ⟨by decide, bigs64 (by decide) (by decide)⟩
  rcases List.mem_cons.mp hs with rfl | hs
  · exact ⟨by decide, bigs64 (by decide) (by decide)⟩
  rcases List.mem_cons.mp hs with rfl | hs
  · exact ⟨h0, hl⟩
  rcases List.mem_cons.mp hs with rfl | hs
  · exact ⟨h0, hl⟩
  cases hs
theorem boundOk_of {n b0 b1 : Int} (h0 : 0 < b0) (h1 : 0 < b1) (h2 : b0 < pw 700) (h3 : b1 < pw 700) (h4 : b1 ≤ n * b0) : BoundOk n (some (b0, b1)) :=
  ⟨fun q e => (by cases e; exact ⟨h0, h1, pw_bits (Int.le_of_lt h0) h2, pw_bits (Int.le_of_lt h1) h3⟩), fun q e => (by cases e; exact h4)⟩
theorem boundOk_none {n : Int} : BoundOk n none := ⟨fun q e => (by cases e), fun q e => (by cases e)⟩
theorem emod_bounds (x : Int) {m : Int} (h : 0 < m) : 0 ≤ x % m ∧ x % m < m := ⟨Int.emod_nonneg x (by omega), Int.emod_lt_of_pos x h⟩
theorem bound_at {ns : List Int} {n k : Int} (hk : 0 ≤ k ∧ k < 4294967296) (n0 : 1 ≤ n) (n1 : n ≤ 100) : ∃ q, F__law_bound [ilst ns, .int k, .int n] = some (bdD false q) ∧ BoundOk n q := by
  have main : ∃ r, (∃ a b m, ([ilst ns, .int k, .int n] : List Dt) = [a, b, .int m] ∧ ∃ q, r = bdD false q ∧ BoundOk m q) ∧ cw_bound (endR r) (startE 7 [ilst ns, .int k, .int n]) := by
    have hcell := F_cell_at (ns := ns) hk
    obtain ⟨lim, hlim, hwalk⟩ : ∃ lim : Int, (0 < lim ∧ lim ≤ pw 640) ∧ lim = (if n < 4 then pw 640 else if n < 9 then pw 100 else pw 20) := by
      refine ⟨_, ?_, rfl⟩
      have h1 := pw_lt (a := 100) (b := 640) (by decide)
      have h2 := pw_lt (a := 20) (b := 640) (by decide)
      have h3 := pw_pos 640
      have h4 := pw_pos 100
      have h5 := pw_pos 20
      split
      · omega
      · split <;> omega
    have hdig := digs5 (c := cellM ns k) hlim.1 hlim.2
    have hb := digits_below (c := cellM ns k) (ss := [8, 16, 12, lim, lim]) (fun s hs => by
      rcases List.mem_cons.mp hs with rfl | hs
      · decide
      rcases List.mem_cons.mp hs with rfl | hs
      · decide
      rcases List.mem_cons.mp hs with rfl | hs
      · decide
      rcases List.mem_cons.mp hs with rfl | hs
      · exact hlim.1
      rcases List.mem_cons.mp hs with rfl | hs
      · exact hlim.1
      cases hs)
    generalize cellM ns k = c at *
    match hd : digitsM c [8, 16, 12, lim, lim], hb with
    | [d0, d1, d2, d3, d4], ⟨b0, b1, b2, b3, b4, _⟩ =>
    rw [hd] at hdig
    have hp := pw_pos 640
    have hPW : pw 642 = pw 640 * 2 * 2 := by rw [pw_succ, pw_succ]
    have h7 := pw_lt (a := 642) (b := 700) (by decide)
    obtain ⟨l0, l1⟩ := hlim
    have mk : ∀ r, (∀ D : En, D.rt r → w__law_bound D (startE 7 [ilst ns, .int k, .int n])) → (∃ q, r = bdD false q ∧ BoundOk n q) → ∃ r, (∃ a b m, ([ilst ns, .int k, .int n] : List Dt) = [a, b, .int m] ∧ ∃ q, r = bdD false q ∧ BoundOk m q) ∧ cw_bound (endR r) (startE 7 [ilst ns, .int k, .int n]) := fun r h1 h2 => ⟨r, ⟨_, _, n, rfl, h2⟩, h1 _ rfl⟩
    -- the head
    have head : ∀ (D : En) (r : Dt) (rest : WS), rest D [.val (ilst ns), .val (.int k), .val (.int n), .val (.int lim), .val (.lst [.int d0, .int d1, .int d2, .int d3, .int d4]), .non, .non] →
        (wSeq (wAsg 3 (e2 pShl (eC (.int 1)) (eC (.int 20))))
          (wSeq (wIf (tVal (e2 pLt (eVar 2) (eC (.int 9)))) (wAsg 3 (e2 pShl (eC (.int 1)) (eC (.int 100)))) wNil)
          (wSeq (wIf (tVal (e2 pLt (eVar 2) (eC (.int 4)))) (wAsg 3 (e2 pShl (eC (.int 1)) (eC (.int 640)))) wNil)
          (wSeq (wAsg 4 (eCall F__law_digits (aCons (eCall F__law_cell (aCons (eVar 0) (aCons (eVar 1) aNil))) (aCons (eLst (aCons (eC (.int 8)) (aCons (eC (.int 16)) (aCons (eC (.int 12)) (aCons (eVar 3) (aCons (eVar 3) aNil)))))) aNil)))) rest)))) D
          [.val (ilst ns), .val (.int k), .val (.int n), .non, .non, .non, .non] := fun D r rest hr => by
      refine q_asg (r := .vis (.int (pw 20))) (by walk_at "pe"; exact shl_pw (k := 20) (by decide)) rfl rfl ?_
      refine q_ifI (p := n < 9) (x := pw 100) (y := pw 20) (by walk_at "pe") (fun _ => by walk_at "pe"; exact shl_pw (k := 100) (by decide)) rfl ?_
      refine q_ifI (p := n < 4) (x := pw 640) (y := if n < 9 then pw 100 else pw 20) (by walk_at "pe") (fun _ => by walk_at "pe"; exact shl_pw (k := 640) (by decide)) rfl ?_
      rw [← hwalk]
      refine q_asg (r := .vis (.lst [.int d0, .int d1, .int d2, .int d3, .int d4])) ?_ rfl rfl hr
      walk_at "pe"
      rw [show F__law_cell [ilst ns, .int k] = _ from hcell]
      walk_at "pe"
      rw [hdig]
      rfl
    by_cases c0 : d0 < 3
    · refine mk .non (fun D hD => head D .non _ ?_) ⟨none, rfl, boundOk_none⟩
      refine q_ifD (p := d0 < 3) (by walk_at "pe") (fun _ => ?_) fun h => absurd c0 h
      exact s_ret (r := .vis .non) rfl rfl rfl hD
    by_cases c3 : d0 = 3
    · refine mk (ilst [1 + d2, (1 + d2) * n]) (fun D hD => head D .non _ ?_) ⟨some (1 + d2, (1 + d2) * n), rfl, ?_⟩
      · refine q_ifD (p := d0 < 3) (by walk_at "pe") (fun h => absurd h c0) fun _ => s_nil ?_
        refine q_ifD (p := d0 = 3) (by walk_at "pe") (fun _ => ?_) fun h => absurd c3 h
        exact s_ret (r := .fre (.lst [.int (1 + d2), .int ((1 + d2) * n)])) (by walk_at "pe"; rw [pMul_int (big64 (by omega) (by omega)) (big64 (by omega) (by omega))]; walk_at "pe") rfl rfl hD
      · have e : 0 < (1 + d2) * n := Int.mul_pos (by omega) (by omega)
        have e2 : (1 + d2) * n ≤ 13 * 100 := Int.mul_le_mul (by omega) n1 (by omega) (by decide)
        have q0 := pw_lt (a := 20) (b := 700) (by decide)
        have q1 : pw 20 = 1048576 := by unfold pw; decide
        exact boundOk_of (by omega) e (by omega) (by omega) (by rw [Int.mul_comm]; exact Int.le_refl _)
    by_cases c4 : d0 = 4
    · obtain ⟨m1, m2⟩ := emod_bounds d1 (show 0 < n by omega)
      generalize hm : d1 % n = m at *
      have e : 0 < (1 + d2) * (1 + m) := Int.mul_pos (by omega) (by omega)
      have e2 : (1 + d2) * (1 + m) ≤ 13 * 100 := Int.mul_le_mul (by omega) (by omega) (by omega) (by decide)
      have e3 : (1 + d2) * (1 + m) ≤ n * (1 + d2) := by
        rw [Int.mul_comm n]
        exact Int.mul_le_mul_of_nonneg_left (by omega) (by omega)
      refine mk (ilst [1 + d2, (1 + d2) * (1 + m)]) (fun D hD => head D .non _ ?_) ⟨some (1 + d2, (1 + d2) * (1 + m)), rfl, ?_⟩
      · refine q_ifD (p := d0 < 3) (by walk_at "pe") (fun h => absurd h c0) fun _ => s_nil ?_
        refine q_ifD (p := d0 = 3) (by walk_at "pe") (fun h => absurd h c3) fun _ => s_nil ?_
        refine q_ifD (p := d0 = 4) (by walk_at "pe") (fun _ => ?_) fun h => absurd c4 h
        exact s_ret (r := .fre (.lst [.int (1 + d2), .int ((1 + d2) * (1 + m))])) (by walk_at "pe"; rw [pMod_int (by omega), hm]; walk_at "pe"; rw [pMul_int (big64 (by omega) (by omega)) (big64 (by omega) (by omega))]; walk_at "pe") rfl rfl hD
      · have q0 := pw_lt (a := 20) (b := 700) (by decide)
        have q1 : pw 20 = 1048576 := by unfold pw; decide
        exact boundOk_of (by omega) e (by omega) (by omega) e3
    -- the others
    obtain ⟨B6, hB6⟩ : ∃ B6, B6 = if d0 = 6 then 2 + d1 else 1 + d3 := ⟨_, rfl⟩
    obtain ⟨S6, hS6⟩ : ∃ S6, S6 = if d0 = 6 then (2 + d1) / 3 else 1 + d3 := ⟨_, rfl⟩
    obtain ⟨B7, hB7⟩ : ∃ B7, B7 = if d0 = 7 then lim - d3 else B6 := ⟨_, rfl⟩
    obtain ⟨S7, hS7⟩ : ∃ S7, S7 = if d0 = 7 then (lim - d3) / 4 else S6 := ⟨_, rfl⟩
    have q0 := pw_lt (a := 20) (b := 640) (by decide)
    have q1 : pw 20 = 1048576 := by unfold pw; decide
    have kB6 : 1 ≤ B6 ∧ B6 ≤ pw 640 := by rw [hB6]; split <;> omega
    have kS6 : 0 ≤ S6 ∧ S6 ≤ pw 640 := by rw [hS6]; split <;> omega
    have kB7 : 1 ≤ B7 ∧ B7 ≤ pw 640 := by rw [hB7]; split <;> omega
    have kS7 : 0 ≤ S7 ∧ S7 ≤ pw 640 := by rw [hS7]; split <;> omega
    obtain ⟨Q, hQ⟩ : ∃ Q, Q = (B7 + n - 1) / n := ⟨_, rfl⟩
    have kQ := Int.lt_ediv_add_one_mul_self (B7 + n - 1) (show 0 < n by omega)
    have kQ1 : Q ≤ B7 + n - 1 := by rw [hQ]; exact Int.ediv_le_self _ (by omega)
    rw [← hQ, Int.add_mul, Int.one_mul] at kQ
    have kQ0 : 0 < Q := by
      rcases Int.lt_or_le 0 Q with h | h
      · exact h
      · have := Int.mul_nonpos_of_nonpos_of_nonneg h (show 0 ≤ n by omega)
        omega
    obtain ⟨E, hE⟩ : ∃ E, E = d4 % (1 + S7) := ⟨_, rfl⟩
    have kE := emod_bounds d4 (show 0 < 1 + S7 by omega)
    rw [← hE] at kE
    refine mk (ilst [Q + E, B7]) (fun D hD => head D .non _ ?_) ⟨some (Q + E, B7), rfl, ?_⟩
    · refine q_ifD (p := d0 < 3) (by walk_at "pe") (fun h => absurd h c0) fun _ => s_nil ?_
      refine q_ifD (p := d0 = 3) (by walk_at "pe") (fun h => absurd h c3) fun _ => s_nil ?_
      refine q_ifD (p := d0 = 4) (by walk_at "pe") (fun h => absurd h c4) fun _ => s_nil ?_
      refine q_asg (r := .vis (.int (1 + d3))) (by walk_at "pe") rfl rfl ?_
      refine q_asg (r := .vis (.int (1 + d3))) (by walk_at "pe") rfl rfl ?_
      refine q_cut (fun e => e = [.val (ilst ns), .val (.int k), .val (.int n), .val (.int lim), .val (.lst [.int d0, .int d1, .int d2, .int d3, .int d4]), .val (.int B6), .val (.int S6)]) ?_ ?_
      · refine s_ifD (p := d0 = 6) (by walk_at "pe") (fun h => ?_) fun h => s_nil ?_
        · refine q_asg (r := .vis (.int (2 + d1))) (by walk_at "pe") rfl rfl ?_
          refine s_asg (r := .vis (.int ((2 + d1) / 3))) (by walk_at "pe"; rw [pDiv_int (by decide) (div64 (by decide) (by decide))]) rfl rfl ?_
          rw [hB6, hS6, if_pos h, if_pos h]
          rfl
        · rw [hB6, hS6, if_neg h, if_neg h]
          rfl
      · rintro e rfl
        refine q_cut (fun e => e = [.val (ilst ns), .val (.int k), .val (.int n), .val (.int lim), .val (.lst [.int d0, .int d1, .int d2, .int d3, .int d4]), .val (.int B7), .val (.int S7)]) ?_ ?_
        · refine s_ifD (p := d0 = 7) (by walk_at "pe") (fun h => ?_) fun h => s_nil ?_
          · refine q_asg (r := .vis (.int (lim - d3))) (by walk_at "pe") rfl rfl ?_
            refine s_asg (r := .vis (.int ((lim - d3) / 4))) (by walk_at "pe"; rw [pDiv_int (by decide) (div64 (by decide) (by decide))]) rfl rfl ?_
            rw [hB7, hS7, if_pos h, if_pos h]
            rfl
          · rw [hB7, hS7, if_neg h, if_neg h]
        · rintro e rfl
          refine s_ret (r := .fre (.lst [.int (Q + E), .int B7])) ?_ rfl rfl hD
          walk_at "pe"
          rw [pDiv_int (by omega) (div64 (by omega) (by omega))]
          walk_at "pe"
          rw [pMod_int (by omega), ← hQ, ← hE]
          walk_at "pe"
    · have hBn : B7 ≤ n * (Q + E) := by
        have h1 : n * Q ≤ n * (Q + E) := Int.mul_le_mul_of_nonneg_left (by omega) (by omega)
        rw [Int.mul_comm n Q] at h1
        omega
      exact boundOk_of (by omega) (by omega) (by omega) (by omega) hBn
  obtain ⟨r, h1, a, b, m, h2, q, rfl, h3⟩ := auto_at (n := 7) (w := cw_bound) (P := fun ds r => ∃ a b n, ds = [a, b, .int n] ∧ ∃ q, r = bdD false q ∧ BoundOk n q) (ds := [ilst ns, .int k, .int n]) main
  cases h2
  exact ⟨q, h1, h3⟩
end Pyl
end
section
set_option Elab.async false
set_option linter.all false
set_option maxHeartbeats 1000000
namespace Pyl
open PySem
local macro_rules | `(tactic| walk_at "pe") => `(tactic| simp (config := { implicitDefEqProofs := false }) only [eVar_at, eC_at, e1_at, e2_at, aNil_at, aCons_at, eTup_at, eLst_at, plain_nil, plain_cons, eCall_at, eIf_at, aApp_at, aDfl_at, List.cons_append, List.nil_append, eAnd_at, eOr_at, eNot_at, tVal_at, tAnd_at, tOr_at, tNot_at, tYes_at,
  pAdd_int, pSub_int, pNeg_int, pLt_int, pLe_int, pGt_int, pGe_int, pEq_int, pNe_int, pIsN_at, pNotN_at, pIx_lst, pIx_tup, pGcd_int, atL0, atL1, atL2, atL3, atL4, atL5, atL6, atL7, atL8, oNone_at, oSome_at, eSlice_at, pLen_lst, pLen_tup, pInt_int, pInt_bl, pAbs_int, pSum_ints, pMax2_int, pMin2_int, pList_lst, pList_tup, pTuple_lst, pTuple_tup, iSeq_at, gN_at, gT_at, gsN_cons, gsN_nil, wipeS_cons, wipeS_nil,
  dt_vis, dt_bor, dt_fre, sh_vis, sh_bor, sh_fre, slot_vis, slot_fre, od_dt, isNon_non, isNon_int, isNon_lst, isNon_tup, scalar_int, scalar_bl, scalar_non, Option.bind_some, Option.bind_none, Option.map_some, Option.map_none, List.getElem?_cons_zero, List.getElem?_cons_succ, List.set_cons_zero, List.set_cons_succ, List.map_cons, List.map_nil, List.any_cons, List.any_nil, Bool.or_false, Bool.false_or, Bool.false_and, Bool.and_true, Bool.true_and, Bool.not_true, Bool.not_false,
  Option.some.injEq, exists_eq_left', exists_eq_left, true_and, and_true, if_true, if_false, Bool.false_eq_true, ite_true, ite_false, reduceIte, decide_eq_true_eq, decide_eq_false_iff_not, R.vis.injEq, R.fre.injEq, Dt.lst.injEq, Dt.tup.injEq, Dt.int.injEq, Slot.own.injEq, OD.lst.injEq, reduceCtorEq, false_and, exists_false, exists_const, Bool.true_eq_false, false_implies, true_implies, implies_true, forall_const])

local macro_rules | `(tactic| walk_at "det") => `(tactic| repeat' first | exact det_asg | exact det_nil | exact det_ret | exact det_app | exact det_put | exact det_unp | exact det_asgM | exact det_putM | exact det_putR | exact det_brk | exact det_cnt | exact det_retN | exact det_drop | exact det_dead | refine det_seq ?_ ?_ | refine det_if ?_ ?_ | refine det_frz ?_ | refine det_for ?_ | refine det_while ?_)
/-! filled -/
theorem len__law_filled : ∀ (ds : List Dt) (r : Dt), F__law_filled ds = some r → ds.length = 2 := fun ds r h => by
  obtain ⟨n, x, b0, b1, rfl, _⟩ := (auto_spec h).1
  rfl
theorem k__law_filled : Keeps 6 w__law_filled F__law_filled := auto_keeps
theorem s_put {env env' : Sl} {D : En} {fa fb : EF} {i : Nat} {b : List Int} {v j : Int} (h0 : env[i]? = some (.own (.lst (b.map .int)))) (h : fa env = some (.vis (.int v))) (hk : fb env = some (.vis (.int j))) (j0 : 0 ≤ j) (j1 : j < b.length)
    (he : env.set i (.own (.lst ((b.set j.toNat v).map .int))) = env') (k : D.nx env') : wPut i fb fa D env := by
  refine ⟨b.map .int, .vis (.int v), j, h0, h, rfl, hk, by rw [List.length_map]; omega, by rw [List.length_map]; exact j1, ?_⟩
  rw [if_pos j0]
  have e : (b.map Dt.int).set j.toNat (R.vis (.int v)).dt = (b.set j.toNat v).map .int := by
    rw [List.map_set]
    rfl
  rw [e, he]
  exact k
theorem set_sum : ∀ {l : List Int} {j : Nat} {x : Int}, j < l.length → (l.set j x).sum = l.sum - l.getD j 0 + x
  | a :: l, 0, x, _ => by
    show (x :: l).sum = _
    rw [List.sum_cons, List.sum_cons]
    show _ = a + l.sum - a + x
    omega
  | a :: l, j + 1, x, h => by
    show (a :: l.set j x).sum = _
    rw [List.sum_cons, List.sum_cons, set_sum (l := l) (j := j) (by simpa using h)]
    show _ = a + l.sum - l.getD j 0 + x
    omega
theorem set_getD {l : List Int} {i j : Nat} {x : Int} (h : i ≠ j) : (l.set i x).getD j 0 = l.getD j 0 := by
  rw [List.getD_eq_getElem?_getD, List.getD_eq_getElem?_getD, List.getElem?_set_ne h]
theorem set_getD_self {l : List Int} {i : Nat} {x : Int} (h : i < l.length) : (l.set i x).getD i 0 = x := by
  rw [List.getD_eq_getElem?_getD, List.getElem?_set_self h]
  rfl
theorem zero_sum : ∀ n : Nat, (List.replicate n (0 : Int)).sum = 0
  | 0 => rfl
  | n + 1 => by rw [List.replicate_succ, List.sum_cons, zero_sum n]; rfl
theorem filled_at {O : List Int} {b0 b1 : Int} (hnd : O.Nodup) (ho : ∀ o ∈ O, 0 ≤ o ∧ o < (O.length : Int)) (hl : O.length ≤ 1000) (p0 : 0 < b0) (p1 : 0 ≤ b1) (hcap : b1 ≤ (O.length : Int) * b0) :
    ∃ f, F__law_filled [ilst O, ilst [b0, b1]] = some (ilst f) ∧ Filled O.length b0 b1 f := by
  have main : ∃ r, (∃ n x c0 c1, ([ilst O, ilst [b0, b1]] : List Dt) = [.lst x, ilst [c0, c1]] ∧ x.length = n ∧ ∃ f, r = ilst f ∧ Filled n c0 c1 f) ∧ cw_filled (endR r) (startE 6 [ilst O, ilst [b0, b1]]) := by
    suffices h : ∃ f, Filled O.length b0 b1 f ∧ cw_filled (endR (ilst f)) (startE 6 [ilst O, ilst [b0, b1]]) by
      obtain ⟨f, h1, h2⟩ := h
      exact ⟨ilst f, ⟨O.length, O.map .int, b0, b1, rfl, List.length_map _, f, rfl, h1⟩, h2⟩
    -- what is filled, told by a loop of Lean's
    let step : List Int × Int → Int → List Int × Int := fun s o => (s.1.set o.toNat (mn s.2 b0), s.2 - mn s.2 b0)
    let st : Nat → List Int × Int := fun i => (O.take i).foldl step (List.replicate O.length 0, b1)
    have inv : ∀ i, i ≤ O.length → (st i).1.length = O.length ∧ (∀ x ∈ (st i).1, 0 ≤ x ∧ x ≤ b0) ∧ (st i).1.sum + (st i).2 = b1 ∧ 0 ≤ (st i).2 ∧ (st i).2 ≤ ((O.length - i : Nat) : Int) * b0 ∧ ∀ j o, i ≤ j → O[j]? = some o → (st i).1.getD o.toNat 0 = 0 := by
      intro i
      induction i with
      | zero =>
        intro _
        have e : st 0 = (List.replicate O.length 0, b1) := rfl
        rw [e]
        refine ⟨List.length_replicate, fun x hx => ?_, ?_, p1, hcap, fun j o _ h => ?_⟩
        · rw [(List.mem_replicate.mp hx).2]; omega
        · show (List.replicate O.length 0).sum + b1 = b1
          have : (List.replicate O.length (0 : Int)).sum = 0 := by exact zero_sum _
          omega
        · rw [List.getD_eq_getElem?_getD, List.getElem?_replicate]
          split <;> rfl
      | succ i ih =>
        intro hi
        obtain ⟨i1, i2, i3, i4, i5, i6⟩ := ih (by omega)
        have hg : O[i]? = some O[i] := List.getElem?_eq_getElem (by omega)
        have es : st (i + 1) = step (st i) O[i] := foldl_take hg
        have hoi := ho O[i] (List.mem_of_getElem? hg)
        have hz := i6 i O[i] (Nat.le_refl _) hg
        obtain ⟨m1, m2, m3⟩ := mn_rng i4 (Int.le_of_lt p0)
        have hlt : O[i].toNat < (st i).1.length := by rw [i1]; omega
        rw [es]
        refine ⟨?_, fun x hx => ?_, ?_, ?_, ?_, fun j o hj h => ?_⟩
        · show ((st i).1.set _ _).length = _
          rw [List.length_set]; exact i1
        · rcases List.mem_or_eq_of_mem_set hx with h | h
          · exact i2 x h
          · rw [h]; exact ⟨m1, m2⟩
        · show ((st i).1.set O[i].toNat (mn (st i).2 b0)).sum + ((st i).2 - mn (st i).2 b0) = b1
          rw [set_sum hlt, hz]; omega
        · show 0 ≤ (st i).2 - mn (st i).2 b0
          omega
        · show (st i).2 - mn (st i).2 b0 ≤ _
          have e1 : O.length - i = (O.length - (i + 1)) + 1 := by omega
          rw [e1, Int.natCast_add, Int.add_mul] at i5
          have h3 : 0 ≤ ((O.length - (i + 1) : Nat) : Int) * b0 := Int.mul_nonneg (Int.natCast_nonneg _) (Int.le_of_lt p0)
          simp only [Int.natCast_one, Int.one_mul] at i5
          unfold mn
          split <;> omega
        · show ((st i).1.set O[i].toNat _).getD o.toNat 0 = 0
          have ne : O[i] ≠ o := fun e => by
            have h2 := (List.getElem?_inj (i := i) (j := j) (by omega) hnd).mp (by rw [hg, h, e])
            omega
          have ho2 := ho o (List.mem_of_getElem? h)
          rw [set_getD (by omega)]
          exact i6 j o (by omega) h
    obtain ⟨f1, f2, f3, f4, f5, f6⟩ := inv O.length (Nat.le_refl _)
    have hfin : (st O.length).2 = 0 := by
      rw [Nat.sub_self] at f5
      simp at f5
      omega
    refine ⟨(st O.length).1, ⟨f1, f2, by rw [hfin] at f3; omega⟩, ?_⟩
    show cw_filled _ [.val (ilst O), .val (.lst [.int b0, .int b1]), .non, .non, .non, .non]
    refine q_asg (r := .fre (.lst ((List.replicate O.length (0 : Int)).map .int))) ?_ rfl rfl ?_
    · refine eComp_of (ds := O.map .int) (s := false) rfl (by rw [List.length_map]; exact lim_of (by omega)) ?_
      have e : List.replicate O.length (0 : Int) = O.map fun _ => 0 := by rw [List.map_const']
      rw [e]
      exact compL_map (f := fun _ => (0 : Int)) fun y hy => by rw [compG_at]; walk_at "pe"
    refine q_asg (r := .vis (.int b1)) (by walk_at "pe") rfl rfl ?_
    refine q_forMap (u := Dt.int) (xs := O) (fun i e => ∃ z4, e = [.val (ilst O), .val (.lst [.int b0, .int b1]), .own (.lst ((st i).1.map .int)), .val (.int (st i).2), z4, .non]) rfl ⟨_, rfl⟩ ?_ ?_
    · rintro i env o hoo ⟨z4, rfl⟩
      refine ⟨_, by walk_at "pe"; rfl, ?_⟩
      have hi := (List.getElem?_eq_some_iff.mp hoo).1
      obtain ⟨i1, i2, i3, i4, i5, i6⟩ := inv i (by omega)
      have hoi := ho o (List.mem_of_getElem? hoo)
      have es : st (i + 1) = step (st i) o := foldl_take hoo
      rw [es]
      generalize st i = S at *
      show (wSeq _ _) _ [.val (ilst O), .val (.lst [.int b0, .int b1]), .own (.lst (S.1.map .int)), .val (.int S.2), .val (.int o), .non]
      refine q_go (s_put (b := S.1) (v := mn S.2 b0) (j := o) rfl (by walk_at "pe"; rfl) (by walk_at "pe") hoi.1 (by rw [i1]; exact hoi.2) rfl ?_)
      show (wAsg _ _) _ [.val (ilst O), .val (.lst [.int b0, .int b1]), .own (.lst ((S.1.set o.toNat (mn S.2 b0)).map .int)), .val (.int S.2), .val (.int o), .non]
      refine s_asg (r := .vis (.int (S.2 - mn S.2 b0))) ?_ rfl rfl ⟨_, rfl⟩
      have hlt : o.toNat < (S.1.set o.toNat (mn S.2 b0)).length := by rw [List.length_set, i1]; omega
      have hg : atL ((S.1.set o.toNat (mn S.2 b0)).map Dt.int) o = some (.int (mn S.2 b0)) := by
        have h1 := getD_at hlt
        rw [set_getD_self (by rw [i1]; omega)] at h1
        have e2 : ((o.toNat : Nat) : Int) = o := by omega
        rw [e2] at h1
        exact h1
      walk_at "pe"
      rw [hg]
      walk_at "pe"
    · rintro env ⟨z4, rfl⟩
      exact q_frz rfl rfl (s_ret (r := .vis (ilst (st O.length).1)) (by walk_at "pe"; rfl) rfl rfl rfl)
  obtain ⟨r, h1, n, x, c0, c1, h2, h3, f, rfl, h4⟩ := auto_at (n := 6) (w := cw_filled) (P := fun ds r => ∃ n x b0 b1, ds = [.lst x, ilst [b0, b1]] ∧ x.length = n ∧ ∃ f, r = ilst f ∧ Filled n b0 b1 f) (ds := [ilst O, ilst [b0, b1]]) main
  cases h2
  rw [List.length_map] at h3
  subst h3
  exact ⟨f, h1, h4⟩
/-! payoffs -/
theorem len__law_payoffs : ∀ (ds : List Dt) (r : Dt), F__law_payoffs ds = some r → ds.length = 5 := fun ds r h => by
  obtain ⟨a, b, p, q, sh, rfl, _⟩ := (auto_spec h).1
  rfl
theorem k__law_payoffs : Keeps 11 w__law_payoffs F__law_payoffs := auto_keeps
def Good (p q : Nat) (M : List (List Int)) : Prop := M.length = p ∧ Bits q M
theorem good_of {p q : Nat} {f : Nat → Nat → Int} (h : ∀ i j, i < p → j < q → 0 ≤ f i j ∧ f i j ≤ 1) : Good p q ((List.range p).map fun i => (List.range q).map fun j => f i j) := by
  refine ⟨by rw [List.length_map, List.length_range], fun row hr => ?_⟩
  obtain ⟨i, hi, rfl⟩ := List.mem_map.mp hr
  refine ⟨by rw [List.length_map, List.length_range], fun b hb => ?_⟩
  obtain ⟨j, hj, rfl⟩ := List.mem_map.mp hb
  exact h i j (List.mem_range.mp hi) (List.mem_range.mp hj)
theorem good_row {p q i : Nat} {M : List (List Int)} (h : Good p q M) (hi : i < p) : ∃ r, M[i]? = some r ∧ r.length = q ∧ ∀ b ∈ r, 0 ≤ b ∧ b ≤ 1 := by
  have hl : i < M.length := by rw [h.1]; exact hi
  exact ⟨M[i], List.getElem?_eq_getElem hl, h.2 _ (List.getElem_mem hl)⟩
theorem good_set {p q i : Nat} {M : List (List Int)} {r : List Int} (h : Good p q M) (hr : r.length = q ∧ ∀ b ∈ r, 0 ≤ b ∧ b ≤ 1) : Good p q (M.set i r) := by
  refine ⟨by rw [List.length_set]; exact h.1, fun row hm => ?_⟩
  rcases List.mem_or_eq_of_mem_set hm with h1 | h1
  · exact h.2 row h1
  · rw [h1]; exact hr
theorem row_set {q j : Nat} {r : List Int} {x : Int} (h : r.length = q ∧ ∀ b ∈ r, 0 ≤ b ∧ b ≤ 1) (hx : 0 ≤ x ∧ x ≤ 1) : (r.set j x).length = q ∧ ∀ b ∈ r.set j x, 0 ≤ b ∧ b ≤ 1 := by
  refine ⟨by rw [List.length_set]; exact h.1, fun b hb => ?_⟩
  rcases List.mem_or_eq_of_mem_set hb with h1 | h1
  · exact h.2 b h1
  · rw [h1]; exact hx
theorem nrm_nat (n i : Nat) : nrm n (i : Int) = i := by unfold nrm; rw [if_pos (Int.natCast_nonneg i), Int.toNat_natCast]
/-- the data of a list of lists that is only looked at -/
theorem lookM {M : List (List Int)} {a : Int} {r : List Int} (h0 : 0 ≤ a) (h : M[a.toNat]? = some r) : pIx (.lst (M.map fun r => .lst (r.map .int))) (.int a) = some (.vis (.lst (r.map .int))) := by
  rw [pIx_lst, atL_of_get (v := Dt.lst (r.map .int)) h0 (by rw [List.getElem?_map, h]; rfl)]
  rfl
theorem payoffs_at {ns : List Int} {k : Int} {p q : Nat} {D : List Int} (hk : 0 ≤ k ∧ k < 4294967296) (p0 : 0 < p) (q0 : 0 < q) (hp : p ≤ 100) (hq : q ≤ 100) (hD : D.length = 10) (hDb : ∀ x ∈ D, 0 ≤ x ∧ x ≤ 1000) :
    ∃ M, F__law_payoffs [ilst ns, .int k, .int (p : Int), .int (q : Int), ilst D] = some (imat M) ∧ Good p q M := by
  match D, hD with
  | [d0, d1, d2, d3, d4, d5, d6, d7, d8, d9], _ =>
  have e0 := hDb d3 (by simp)
  have e4 := hDb d4 (by simp)
  have e5 := hDb d5 (by simp)
  have e6 := hDb d6 (by simp)
  have e7 := hDb d7 (by simp)
  have e8 := hDb d8 (by simp)
  clear hDb
  have hcell := F_cell_at (ns := ns) hk
  have main : cw_payoffs (endP fun r => ∃ a b p' q' sh, ([ilst ns, .int k, .int (p : Int), .int (q : Int), ilst [d0, d1, d2, d3, d4, d5, d6, d7, d8, d9]] : List Dt) = [a, b, .int p', .int q', sh] ∧ ∃ M, r = imat M ∧ (M.length : Int) = p' ∧ ∃ n : Nat, (n : Int) = q' ∧ Bits n M)
      (startE 11 [ilst ns, .int k, .int (p : Int), .int (q : Int), ilst [d0, d1, d2, d3, d4, d5, d6, d7, d8, d9]]) := by
    obtain ⟨P, hP⟩ : ∃ P : Dt → Prop, P = fun r => ∃ a b p' q' sh, ([ilst ns, .int k, .int (p : Int), .int (q : Int), ilst [d0, d1, d2, d3, d4, d5, d6, d7, d8, d9]] : List Dt) = [a, b, .int p', .int q', sh] ∧ ∃ M, r = imat M ∧ (M.length : Int) = p' ∧ ∃ n : Nat, (n : Int) = q' ∧ Bits n M := ⟨_, rfl⟩
    rw [← hP]
    have hend : ∀ M, Good p q M → P (imat M) := fun M h => by
      rw [hP]
      exact ⟨_, _, _, _, _, rfl, M, rfl, by rw [h.1], q, rfl, h.2⟩
    clear hP
    generalize hS : ilst ns = S at *
    show cw_payoffs _ [.val S, .val (.int k), .val (.int (p : Int)), .val (.int (q : Int)), .val (.lst [.int d0, .int d1, .int d2, .int d3, .int d4, .int d5, .int d6, .int d7, .int d8, .int d9]), .non, .non, .non, .non, .non, .non]
    generalize cellM ns k = c at *
    have hpq : p * q ≤ 100 * 100 := Nat.mul_le_mul hp hq
    have hmul : (p : Int) * (q : Int) = ((p * q : Nat) : Int) := (Int.natCast_mul p q).symm
    have hdig : F__law_digits [.int c, .lst ((List.replicate (p * q) (12 : Int)).map .int)] = some (ilst (digitsM c (List.replicate (p * q) 12))) := F_digitsW_at (ns := List.replicate (p * q) 12) ⟨fun s hs => by
      rw [(List.mem_replicate.mp hs).2]
      exact ⟨by decide, bigs64 (by decide) (by decide)⟩, by rw [List.length_replicate]; omega⟩
    have hGl : (digitsM c (List.replicate (p * q) 12)).length = p * q := by rw [digitsM_len, List.length_replicate]
    refine q_asg (r := .vis (ilst (digitsM c (List.replicate (p * q) 12)))) ?_ rfl rfl ?_
    · rw [eCall_at, aCons_at, aCons_at, comp_consts (n := p * q) (by walk_at "pe"; rw [pMul_int (big64 (by omega) (by omega)) (big64 (by omega) (by omega)), hmul]) (by omega)]
      walk_at "pe"
      rw [show F__law_cell [S, .int k] = _ from hcell]
      walk_at "pe"
      rw [hdig]
      walk_at "pe"
    generalize digitsM c (List.replicate (p * q) 12) = G at *
    clear hdig hcell
    have hix : ∀ i j, i < p → j < q → q * i + j < p * q := fun i j h1 h2 => by
      have h3 : q * (i + 1) ≤ q * p := Nat.mul_le_mul_left q h1
      rw [Nat.mul_succ] at h3
      rw [Nat.mul_comm p q]
      omega
    have hb01 : ∀ (p : Prop) [Decidable p], 0 ≤ (if p then (1 : Int) else 0) ∧ (if p then (1 : Int) else 0) ≤ 1 := fun p _ => by split <;> decide
    -- the first rows
    refine q_asgM (dss := ((List.range p).map fun i => (List.range q).map fun j => if G.getD (q * i + j) 0 < 3 + d3 then (1 : Int) else 0).map fun r => r.map .int) ?_ rfl ?_
    · refine mComp_ix (ds := rngD 0 p) (s := false) (by rw [rng1 (n := (p : Int)) (by walk_at "pe") (by omega), Int.toNat_natCast]) (by rw [rngD_len]; exact lim_of (by omega)) (by rw [rngD_len, List.length_map, List.length_range]) fun i d r h1 h2 => ?_
      obtain ⟨hi, rfl⟩ := rngD_at h1
      rw [List.getElem?_map, List.getElem?_range hi] at h2
      cases h2
      rw [Int.zero_add]
      refine ⟨_, rfl, ?_⟩
      show eComp [9] _ _ _ _ [.val S, .val (.int k), .val (.int (p : Int)), .val (.int (q : Int)), .val (.lst [.int d0, .int d1, .int d2, .int d3, .int d4, .int d5, .int d6, .int d7, .int d8, .int d9]), .val (.lst (G.map .int)), .non, .non, .val (.int (i : Int)), .non, .non] = _
      refine comp_rng (n := q) (by walk_at "pe") (by omega) fun j hj => ?_
      have e : (q : Int) * (i : Int) + (j : Int) = ((q * i + j : Nat) : Int) := by rw [Int.natCast_add, Int.natCast_mul]
      have hl := hix i j hi hj
      walk_at "pe"
      rw [pMul_int (big64 (by omega) (by omega)) (big64 (by omega) (by omega))]
      walk_at "pe"
      rw [e, getD_at (by rw [hGl]; exact hl)]
      walk_at "pe"
    have hgood0 : Good p q ((List.range p).map fun i => (List.range q).map fun j => if G.getD (q * i + j) 0 < 3 + d3 then (1 : Int) else 0) := good_of fun i j _ _ => hb01 _
    generalize ((List.range p).map fun i => (List.range q).map fun j => if G.getD (q * i + j) 0 < 3 + d3 then (1 : Int) else 0) = M0 at *
    generalize hSH : Dt.lst [.int d0, .int d1, .int d2, .int d3, .int d4, .int d5, .int d6, .int d7, .int d8, .int d9] = SH at *
    have s4 : pIx SH (.int 4) = some (.vis (.int d4)) := by rw [← hSH]; rfl
    have s5 : pIx SH (.int 5) = some (.vis (.int d5)) := by rw [← hSH]; rfl
    have s6 : pIx SH (.int 6) = some (.vis (.int d6)) := by rw [← hSH]; rfl
    have s7 : pIx SH (.int 7) = some (.vis (.int d7)) := by rw [← hSH]; rfl
    have s8 : pIx SH (.int 8) = some (.vis (.int d8)) := by rw [← hSH]; rfl
    clear hSH
    refine q_cut (fun e => ∃ M, Good p q M ∧ e = [.val S, .val (.int k), .val (.int (p : Int)), .val (.int (q : Int)), .val SH, .val (ilst G), mat M, .non, .non, .non, .non]) ?_ ?_
    · refine s_ifD (p := d4 < 2) (by walk_at "pe"; rw [s4]; walk_at "pe") (fun _ => ?_) fun _ => s_nil ⟨M0, hgood0, rfl⟩
      obtain ⟨r0, hr0, hr1, hr2⟩ := good_row hgood0 p0
      refine s_asgM (dss := ((List.range p).map fun i => (List.range q).map fun j => r0.getD ((j + i) % q) 0).map fun r => r.map .int) ?_ rfl ⟨_, good_of fun i j _ _ => hr2 _ (getD_mem (by rw [hr1]; exact Nat.mod_lt _ q0)), rfl⟩
      refine mComp_ix (ds := rngD 0 p) (s := false) (by rw [rng1 (n := (p : Int)) (by walk_at "pe") (by omega), Int.toNat_natCast]) (by rw [rngD_len]; exact lim_of (by omega)) (by rw [rngD_len, List.length_map, List.length_range]) fun i d r h1 h2 => ?_
      obtain ⟨hi, rfl⟩ := rngD_at h1
      rw [List.getElem?_map, List.getElem?_range hi] at h2
      cases h2
      rw [Int.zero_add]
      refine ⟨_, rfl, ?_⟩
      refine eLook_ints ?_
      show eComp [9] _ _ _ _ [.val S, .val (.int k), .val (.int (p : Int)), .val (.int (q : Int)), .val SH, .val (ilst G), (mat M0).frz, .non, .val (.int (i : Int)), .non, .non] = _
      rw [frz_matI]
      refine comp_rng (n := q) (by walk_at "pe") (by omega) fun j hj => ?_
      have hm : ((j : Int) + (i : Int)) % (q : Int) = (((j + i) % q : Nat) : Int) := by rw [Int.natCast_emod, Int.natCast_add]
      have hrow := lookM (M := M0) (a := 0) (Int.le_refl _) hr0
      generalize (Dt.lst (M0.map fun r => .lst (r.map .int))) = LM at *
      walk_at "pe"
      rw [hrow]
      walk_at "pe"
      rw [pMod_int (by omega), hm]
      walk_at "pe"
      rw [getD_at (by rw [hr1]; exact Nat.mod_lt _ q0)]
      walk_at "pe"
    rintro e ⟨M1, hgood1, rfl⟩
    clear hgood0
    -- one row as another, one place as another
    refine q_cut (fun e => ∃ M z8, Good p q M ∧ e = [.val S, .val (.int k), .val (.int (p : Int)), .val (.int (q : Int)), .val SH, .val (ilst G), mat M, .non, z8, .non, .non]) ?_ ?_
    · refine s_ifD (p := d4 = 2) (by walk_at "pe"; rw [s4]; walk_at "pe") (fun _ => ?_) fun _ => s_nil ⟨M1, .non, hgood1, rfl⟩
      have m5 := emod_bounds d5 (show 0 < (p : Int) by omega)
      have m6 := emod_bounds d6 (show 0 < (p : Int) by omega)
      have m7 := emod_bounds d7 (show 0 < (q : Int) by omega)
      have m8 := emod_bounds d8 (show 0 < (q : Int) by omega)
      obtain ⟨r6, h6, hr6⟩ := good_row hgood1 (i := (d6 % (p : Int)).toNat) (by omega)
      refine q_putR (m := M1) (j := d5 % (p : Int)) (r := r6) rfl ?_ ?_ m5.1 (by rw [hgood1.1]; exact m5.2) rfl ?_
      · refine eLook_ints ?_
        show (e1 pList _) [.val S, .val (.int k), .val (.int (p : Int)), .val (.int (q : Int)), .val SH, .val (ilst G), (mat M1).frz, .non, .non, .non, .non] = _
        rw [frz_matI]
        have hrow := lookM (M := M1) m6.1 h6
        generalize (Dt.lst (M1.map fun r => .lst (r.map .int))) = LM at *
        walk_at "pe"
        rw [s6]
        walk_at "pe"
        rw [pMod_int (by omega)]
        walk_at "pe"
        rw [hrow]
        walk_at "pe"
      · walk_at "pe"
        rw [s5]
        walk_at "pe"
        rw [pMod_int (by omega)]
      have hgood2 := good_set (i := (d5 % (p : Int)).toNat) hgood1 hr6
      generalize M1.set (d5 % (p : Int)).toNat r6 = M2 at *
      show (wFor _ _ _) _ [.val S, .val (.int k), .val (.int (p : Int)), .val (.int (q : Int)), .val SH, .val (ilst G), mat M2, .non, .non, .non, .non]
      refine wFor_rng (lo := 0) (n := p) (fun i e => ∃ M z8, Good p q M ∧ e = [.val S, .val (.int k), .val (.int (p : Int)), .val (.int (q : Int)), .val SH, .val (ilst G), mat M, .non, z8, .non, .non]) (by rw [rng1 (n := (p : Int)) (by walk_at "pe") (by omega), Int.toNat_natCast]) ⟨M2, .non, hgood2, rfl⟩ ?_ fun e h => h
      rintro i e hi ⟨M, z8, hg, rfl⟩
      refine ⟨_, by walk_at "pe"; rfl, ?_⟩
      rw [Int.zero_add]
      show (wPutM _ _ _ _) _ [.val S, .val (.int k), .val (.int (p : Int)), .val (.int (q : Int)), .val SH, .val (ilst G), mat M, .non, .val (.int (i : Int)), .non, .non]
      obtain ⟨r, hr, hrg⟩ := good_row hg hi
      have hx := hrg.2 _ (getD_mem (l := r) (j := (d8 % (q : Int)).toNat) (by rw [hrg.1]; omega))
      have e8 : (((d8 % (q : Int)).toNat : Nat) : Int) = d8 % (q : Int) := by omega
      refine s_putM (m := M) (x := r.getD (d8 % (q : Int)).toNat 0) (a := (i : Int)) (b := d7 % (q : Int)) (r := r) rfl ?_ (by walk_at "pe") (by rw [atL_nat]; exact hr) ?_ m7.1 (by rw [hrg.1]; exact m7.2) rfl ⟨_, _, good_set (i := nrm M.length (i : Int)) hg (row_set hrg hx), rfl⟩
      · refine eLook_int ?_
        show (e2 pIx _ _) [.val S, .val (.int k), .val (.int (p : Int)), .val (.int (q : Int)), .val SH, .val (ilst G), (mat M).frz, .non, .val (.int (i : Int)), .non, .non] = _
        rw [frz_matI]
        have hrow := lookM (M := M) (a := (i : Int)) (Int.natCast_nonneg i) (by rw [Int.toNat_natCast]; exact hr)
        generalize (Dt.lst (M.map fun r => .lst (r.map .int))) = LM at *
        walk_at "pe"
        rw [hrow]
        walk_at "pe"
        rw [s8]
        walk_at "pe"
        rw [pMod_int (by omega), ← e8]
        walk_at "pe"
        rw [getD_at (by rw [hrg.1]; omega)]
        walk_at "pe"
        rw [Int.toNat_natCast]
      · walk_at "pe"
        rw [s7]
        walk_at "pe"
        rw [pMod_int (by omega)]
    rintro e ⟨M3, z8, hgood3, rfl⟩
    have fin : ∀ M z7 z8 z9, Good p q M → (wFrz 6 (wRet (eVar 6))) (endP P) [.val S, .val (.int k), .val (.int (p : Int)), .val (.int (q : Int)), .val SH, .val (ilst G), mat M, z7, z8, z9, .non] := fun M z7 z8 z9 hg =>
      q_frzM rfl rfl (s_ret (r := .vis (imat M)) (by walk_at "pe"; rfl) rfl rfl (hend M hg))
    refine q_ifD (p := d4 = 3 ∨ (p : Int) = 1 ∨ (q : Int) = 1) ?_ (fun _ => fin M3 _ _ _ hgood3) fun _ => s_nil ?_
    · walk_at "pe"
      rw [s4]
      walk_at "pe"
      by_cases h1 : d4 = 3 <;> by_cases h2 : (p : Int) = 1 <;> simp [h1, h2]
    -- twice: no row full, no place empty
    refine q_forRng (lo := 0) (n := 2) (fun i e => ∃ M z7 z8 z9, Good p q M ∧ e = [.val S, .val (.int k), .val (.int (p : Int)), .val (.int (q : Int)), .val SH, .val (ilst G), mat M, z7, z8, z9, .non]) (by rw [rng1 (n := 2) rfl (by decide)]; rfl) ⟨M3, _, _, _, hgood3, rfl⟩ ?_ ?_
    · rintro t e ht ⟨M, z7, z8, z9, hg, rfl⟩
      refine ⟨_, by walk_at "pe"; rfl, ?_⟩
      rw [Int.zero_add]
      refine q_forRng (lo := 0) (n := p) (fun i e => ∃ M z8 z9, Good p q M ∧ e = [.val S, .val (.int k), .val (.int (p : Int)), .val (.int (q : Int)), .val SH, .val (ilst G), mat M, .val (.int (t : Int)), z8, z9, .non]) (by rw [rng1 (n := (p : Int)) (by walk_at "pe") (by omega), Int.toNat_natCast]) ⟨M, _, _, hg, rfl⟩ ?_ ?_
      · rintro i e hi ⟨M, z8, z9, hg, rfl⟩
        refine ⟨_, by walk_at "pe"; rfl, ?_⟩
        rw [Int.zero_add]
        show (wIf _ _ _) _ [.val S, .val (.int k), .val (.int (p : Int)), .val (.int (q : Int)), .val SH, .val (ilst G), mat M, .val (.int (t : Int)), .val (.int (i : Int)), z9, .non]
        obtain ⟨r, hr, hrg⟩ := good_row hg hi
        refine s_ifD (p := r.sum = (q : Int)) ?_ (fun _ => ?_) fun _ => s_nil ⟨M, _, _, hg, rfl⟩
        · rw [tLook_at]
          show tVal _ [.val S, .val (.int k), .val (.int (p : Int)), .val (.int (q : Int)), .val SH, .val (ilst G), (mat M).frz, .val (.int (t : Int)), .val (.int (i : Int)), z9.frz, .non] = _
          rw [frz_matI]
          have hrow := lookM (M := M) (a := (i : Int)) (Int.natCast_nonneg i) (by rw [Int.toNat_natCast]; exact hr)
          generalize (Dt.lst (M.map fun r => .lst (r.map .int))) = LM at *
          walk_at "pe"
          rw [hrow]
          walk_at "pe"
        · have mi := emod_bounds ((i : Int) + d7 + (t : Int)) (show 0 < (q : Int) by omega)
          refine s_putM (m := M) (x := 0) (a := (i : Int)) (b := ((i : Int) + d7 + (t : Int)) % (q : Int)) (r := r) rfl (by walk_at "pe") (by walk_at "pe") (by rw [atL_nat]; exact hr) ?_ mi.1 (by rw [hrg.1]; exact mi.2) rfl ⟨_, _, _, good_set (i := nrm M.length (i : Int)) hg (row_set hrg (by decide)), rfl⟩
          walk_at "pe"
          rw [s7]
          walk_at "pe"
          rw [pMod_int (by omega)]
      · rintro e ⟨M, z8, z9, hg, rfl⟩
        refine wFor_rng (lo := 0) (n := q) (fun i e => ∃ M z9, Good p q M ∧ e = [.val S, .val (.int k), .val (.int (p : Int)), .val (.int (q : Int)), .val SH, .val (ilst G), mat M, .val (.int (t : Int)), z8, z9, .non]) (by rw [rng1 (n := (q : Int)) (by walk_at "pe") (by omega), Int.toNat_natCast]) ⟨M, _, hg, rfl⟩ ?_ fun e ⟨M, z9, hg, h⟩ => ⟨M, _, _, _, hg, h⟩
        rintro j e hj ⟨M, z9, hg, rfl⟩
        refine ⟨_, by walk_at "pe"; rfl, ?_⟩
        rw [Int.zero_add]
        show (wIf _ _ _) _ [.val S, .val (.int k), .val (.int (p : Int)), .val (.int (q : Int)), .val SH, .val (ilst G), mat M, .val (.int (t : Int)), z8, .val (.int (j : Int)), .non]
        refine s_ifD (p := (M.map fun r => r.getD j 0).sum = 0) ?_ (fun _ => ?_) fun _ => s_nil ⟨M, _, hg, rfl⟩
        · rw [tLook_at]
          show tVal (e2 pEq (e1 pSum _) _) [.val S, .val (.int k), .val (.int (p : Int)), .val (.int (q : Int)), .val SH, .val (ilst G), (mat M).frz, .val (.int (t : Int)), z8.frz, .val (.int (j : Int)), .non] = _
          rw [frz_matI]
          have hcomp : eComp [10] (iSeq (eVar 6)) (gN 10) tYes (e2 pIx (eVar 10) (eVar 9)) [.val S, .val (.int k), .val (.int (p : Int)), .val (.int (q : Int)), .val SH, .val (ilst G), .val (.lst (M.map fun r => .lst (r.map .int))), .val (.int (t : Int)), z8.frz, .val (.int (j : Int)), .non] = some (.fre (.lst ((M.map fun r => r.getD j 0).map .int))) := by
            refine eComp_of (ds := M.map fun r => .lst (r.map .int)) (s := false) rfl (by rw [List.length_map, hg.1]; exact lim_of (by omega)) (compL_map (f := fun r : List Int => r.getD j 0) (v := Dt.int) fun r hr => ?_)
            have hl := (hg.2 r hr).1
            generalize (Dt.lst (M.map fun r => .lst (r.map .int))) = LM
            rw [compG_at]
            walk_at "pe"
            rw [getD_at (by omega)]
            walk_at "pe"
          rw [tVal_at, e2_at, e1_at, hcomp]
          walk_at "pe"
        · have mi := emod_bounds ((j : Int) + d5 + (t : Int)) (show 0 < (p : Int) by omega)
          obtain ⟨r, hr, hrg⟩ := good_row hg (i := (((j : Int) + d5 + (t : Int)) % (p : Int)).toNat) (by omega)
          refine s_putM (m := M) (x := 1) (a := ((j : Int) + d5 + (t : Int)) % (p : Int)) (b := (j : Int)) (r := r) rfl (by walk_at "pe") ?_ (atL_of_get mi.1 hr) (by walk_at "pe") (Int.natCast_nonneg j) (by rw [hrg.1]; omega) rfl ⟨_, _, good_set (i := nrm M.length (((j : Int) + d5 + (t : Int)) % (p : Int))) hg (row_set hrg (by decide)), rfl⟩
          walk_at "pe"
          rw [s5]
          walk_at "pe"
          rw [pMod_int (by omega)]
    · rintro e ⟨M, z7, z8, z9, hg, rfl⟩
      exact fin M _ _ _ hg
  obtain ⟨r, h1, a, b, p', q', sh, h2, M, rfl, h3, n, h4, h5⟩ := auto_rel (n := 11) (w := cw_payoffs) (P := fun ds r => ∃ a b p q sh, ds = [a, b, .int p, .int q, sh] ∧ ∃ M, r = imat M ∧ (M.length : Int) = p ∧ ∃ n : Nat, (n : Int) = q ∧ Bits n M) (by unfold cw_payoffs; walk_at "det") main
  cases h2
  have e1 : M.length = p := by omega
  have e2 : n = q := by omega
  subst e2
  exact ⟨M, h1, e1, h5⟩
end Pyl
end
section
set_option Elab.async false
set_option linter.all false
set_option maxHeartbeats 1000000
namespace Pyl
open PySem
local macro_rules | `(tactic| walk_at "pe") => `(tactic| simp (config := { implicitDefEqProofs := false }) only [eVar_at, eC_at, e1_at, e2_at, aNil_at, aCons_at, eTup_at, eLst_at, plain_nil, plain_cons, eCall_at, eIf_at, aApp_at, aDfl_at, List.cons_append, List.nil_append, eAnd_at, eOr_at, eNot_at, tVal_at, tAnd_at, tOr_at, tNot_at, tYes_at,
  pAdd_int, pSub_int, pNeg_int, pLt_int, pLe_int, pGt_int, pGe_int, pEq_int, pNe_int, pIsN_at, pNotN_at, pIx_lst, pIx_tup, pGcd_int, atL0, atL1, atL2, atL3, atL4, atL5, atL6, atL7, atL8, oNone_at, oSome_at, eSlice_at, pLen_lst, pLen_tup, pInt_int, pInt_bl, pAbs_int, pSum_ints, pMax2_int, pMin2_int, pList_lst, pList_tup, pTuple_lst, pTuple_tup, iSeq_at, gN_at, gT_at, gsN_cons, gsN_nil, wipeS_cons, wipeS_nil,
  dt_vis, dt_bor, dt_fre, sh_vis, sh_bor, sh_fre, slot_vis, slot_fre, od_dt, isNon_non, isNon_int, isNon_lst, isNon_tup, scalar_int, scalar_bl, scalar_non, Option.bind_some, Option.bind_none, Option.map_some, Option.map_none, List.getElem?_cons_zero, List.getElem?_cons_succ, List.set_cons_zero, List.set_cons_succ, List.map_cons, List.map_nil, List.any_cons, List.any_nil, Bool.or_false, Bool.false_or, Bool.false_and, Bool.and_true, Bool.true_and, Bool.not_true, Bool.not_false,
  Option.some.injEq, exists_eq_left', exists_eq_left, true_and, and_true, if_true, if_false, Bool.false_eq_true, ite_true, ite_false, reduceIte, decide_eq_true_eq, decide_eq_false_iff_not, R.vis.injEq, R.fre.injEq, Dt.lst.injEq, Dt.tup.injEq, Dt.int.injEq, Slot.own.injEq, OD.lst.injEq, reduceCtorEq, false_and, exists_false, exists_const, Bool.true_eq_false, false_implies, true_implies, implies_true, forall_const])
local macro_rules | `(tactic| walk_at "det") => `(tactic| repeat' first | exact det_asg | exact det_nil | exact det_ret | exact det_app | exact det_put | exact det_unp | exact det_asgM | exact det_putM | exact det_putR | exact det_brk | exact det_cnt | exact det_retN | exact det_drop | exact det_dead | refine det_seq ?_ ?_ | refine det_if ?_ ?_ | refine det_frz ?_ | refine det_for ?_ | refine det_while ?_)

/-! drawn -/
theorem len__law_drawn : ∀ (ds : List Dt) (r : Dt), F__law_drawn ds = some r → ds.length = 3 := fun ds r h => by
  obtain ⟨a, b, n, rfl, _⟩ := (auto_spec h).1
  rfl
theorem k__law_drawn : Keeps 11 w__law_drawn F__law_drawn := auto_keeps
theorem dvd_KF {t : Int} (h0 : 1 ≤ t) (h1 : t ≤ 12) : t ∣ KF := by
  have : t = 1 ∨ t = 2 ∨ t = 3 ∨ t = 4 ∨ t = 5 ∨ t = 6 ∨ t = 7 ∨ t = 8 ∨ t = 9 ∨ t = 10 ∨ t = 11 ∨ t = 12 := by omega
  rcases this with rfl | rfl | rfl | rfl | rfl | rfl | rfl | rfl | rfl | rfl | rfl | rfl <;> decide
/-- what is drawn for the parts -/
def PartsOk (n : Nat) (P : List Int) : Prop := P.length = n ∧ ∀ x ∈ P, 0 ≤ x ∧ x ≤ pw 640
theorem parts_rng {n : Nat} {f : Nat → Int} (h : ∀ k, k < n → 0 ≤ f k ∧ f k ≤ pw 640) : PartsOk n ((List.range n).map f) := by
  refine ⟨by rw [List.length_map, List.length_range], fun x hx => ?_⟩
  obtain ⟨k, hk, rfl⟩ := List.mem_map.mp hx
  exact h k (List.mem_range.mp hk)
theorem sum_nn {l : List Int} (h : ∀ x ∈ l, 0 ≤ x) : 0 ≤ l.sum := by
  induction l with
  | nil => exact Int.le_refl _
  | cons x l ih =>
    rw [List.sum_cons]
    exact Int.add_nonneg (h x List.mem_cons_self) (ih fun y hy => h y (List.mem_cons_of_mem _ hy))
theorem sum_le {B : Int} {l : List Int} (h : ∀ x ∈ l, x ≤ B) : l.sum ≤ (l.length : Int) * B := by
  induction l with
  | nil => simp
  | cons x l ih =>
    have h1 := h x List.mem_cons_self
    have h2 := ih fun y hy => h y (List.mem_cons_of_mem _ hy)
    rw [List.sum_cons, List.length_cons, Int.natCast_add, Int.add_mul]
    simp only [Int.natCast_one, Int.one_mul]
    omega
theorem mem_le_sum {l : List Int} (h : ∀ x ∈ l, 0 ≤ x) {x : Int} (hx : x ∈ l) : x ≤ l.sum := by
  induction l with
  | nil => cases hx
  | cons y l ih =>
    rw [List.sum_cons]
    have h2 := sum_nn fun z hz => h z (List.mem_cons_of_mem y hz)
    have h1 := h y List.mem_cons_self
    rcases List.mem_cons.mp hx with rfl | hx
    · omega
    · have := ih (fun z hz => h z (List.mem_cons_of_mem _ hz)) hx
      omega
structure DivOk (total : Int) (e : Int × Int) : Prop where
  p : 0 < e.2
  d : e.2 ∣ total * KF
  s1 : e.1.natAbs < 2 ^ 700
  s2 : e.2.natAbs < 2 ^ 700
theorem getD_get {l : List Int} {i : Nat} (h : i < l.length) : l[i]? = some (l.getD i 0) := by
  rw [List.getD_eq_getElem?_getD, List.getElem?_eq_getElem h]
  rfl
theorem drawn_at {ns : List Int} {k : Int} {n : Nat} (hk : 0 ≤ k ∧ k < 4294967296) (n0 : 0 < n) (hn : n ≤ 100) :
    ∃ parts total L, F__law_drawn [ilst ns, .int k, .int (n : Int)] = some (.lst [ilst parts, .int total, .lst (shD false L)]) ∧ Drawn n parts total L := by
  have hcell := F_cell_at (ns := ns) hk
  have main : cw_drawn (endP fun r => ∃ a b m, ([ilst ns, .int k, .int (n : Int)] : List Dt) = [a, b, .int m] ∧ ∃ parts total L, r = .lst [ilst parts, .int total, .lst (shD false L)] ∧ Drawn m.toNat parts total L) (startE 11 [ilst ns, .int k, .int (n : Int)]) := by
    obtain ⟨P, hP⟩ : ∃ P : Dt → Prop, P = fun r => ∃ a b m, ([ilst ns, .int k, .int (n : Int)] : List Dt) = [a, b, .int m] ∧ ∃ parts total L, r = .lst [ilst parts, .int total, .lst (shD false L)] ∧ Drawn m.toNat parts total L := ⟨_, rfl⟩
    rw [← hP]
    have hend : ∀ parts total L, Drawn n parts total L → P (.lst [ilst parts, .int total, .lst (shD false L)]) := fun parts total L h => by
      rw [hP]
      exact ⟨_, _, _, rfl, parts, total, L, rfl, by rw [Int.toNat_natCast]; exact h⟩
    clear hP
    generalize hS : ilst ns = S at *
    show cw_drawn _ [.val S, .val (.int k), .val (.int (n : Int)), .non, .non, .non, .non, .non, .non, .non, .non]
    generalize cellM ns k = c at *
    refine q_asg (r := .vis (.int (pw 640))) (by walk_at "pe"; exact shl_pw (k := 640) (by decide)) rfl rfl ?_
    have hp0 := pw_pos 640
    generalize hss : [8, 3, 24] ++ List.replicate n (pw 640) ++ List.replicate n (12 : Int) = ss
    have hssl : ss.length = 3 + 2 * n := by rw [← hss, List.length_append, List.length_append, List.length_replicate, List.length_replicate]; simp <;> omega
    have hss2 : sizeOkW ss := by
      refine ⟨fun s hs => ?_, by omega⟩
      rw [← hss] at hs
      have hpb : (pw 640).natAbs < BIGS := bigs_of (n := 641) (pw_bits (Int.le_of_lt hp0) (pw_lt (by decide))) (by decide)
      rcases List.mem_append.mp hs with hs | hs
      · rcases List.mem_append.mp hs with hs | hs
        · rcases List.mem_cons.mp hs with rfl | hs
          · exact ⟨by decide, bigs64 (by decide) (by decide)⟩
          rcases List.mem_cons.mp hs with rfl | hs
          · exact ⟨by decide, bigs64 (by decide) (by decide)⟩
          rcases List.mem_cons.mp hs with rfl | hs
          · exact ⟨by decide, bigs64 (by decide) (by decide)⟩
          cases hs
        · rw [(List.mem_replicate.mp hs).2]
          exact ⟨hp0, hpb⟩
      · rw [(List.mem_replicate.mp hs).2]
        exact ⟨by decide, bigs64 (by decide) (by decide)⟩
    have hss3 : ∀ i, i < n → ss[3 + i]? = some (pw 640) := fun i hi => by
      rw [← hss, List.getElem?_append_left (by rw [List.length_append, List.length_replicate]; simp <;> omega), List.getElem?_append_right (by simp), List.getElem?_replicate, if_pos (by simp <;> omega)]
    have hss4 : ∀ i, i < n → ss[3 + n + i]? = some 12 := fun i hi => by
      rw [← hss, List.getElem?_append_right (by rw [List.length_append, List.length_replicate]; simp <;> omega), List.getElem?_replicate, if_pos (by rw [List.length_append, List.length_replicate]; simp <;> omega)]
    have hdig : F__law_digits [.int c, .lst (ss.map .int)] = some (ilst (digitsM c ss)) := F_digitsW_at hss2
    have hDl : (digitsM c ss).length = 3 + 2 * n := by rw [digitsM_len, hssl]
    have hpos : ∀ s ∈ ss, 0 < s := fun s hs => (hss2.1 s hs).1
    have hD : ∀ i s, ss[i]? = some s → 0 ≤ (digitsM c ss).getD i 0 ∧ (digitsM c ss).getD i 0 < s := fun i s h => digitsM_get hpos h (getD_get (by rw [hDl, ← hssl]; exact (List.getElem?_eq_some_iff.mp h).1))
    have hD0 := hD 0 8 (by rw [← hss]; rfl)
    have hD1 := hD 1 3 (by rw [← hss]; rfl)
    have hD2 := hD 2 24 (by rw [← hss]; rfl)
    have hD3 : ∀ i, i < n → 0 ≤ (digitsM c ss).getD (3 + i) 0 ∧ (digitsM c ss).getD (3 + i) 0 < pw 640 := fun i hi => hD _ _ (hss3 i hi)
    have hD4 : ∀ i, i < n → 0 ≤ (digitsM c ss).getD (3 + n + i) 0 ∧ (digitsM c ss).getD (3 + n + i) 0 < 12 := fun i hi => hD _ _ (hss4 i hi)
    refine q_asg (r := .vis (ilst (digitsM c ss))) ?_ rfl rfl ?_
    · rw [eCall_at, aCons_at, aCons_at, e2_at, e2_at, comp_rng (n := n) (f := fun _ => pw 640) (by walk_at "pe") (by omega) (fun j _ => by walk_at "pe"), comp_consts (n := n) (by walk_at "pe") (by omega)]
      walk_at "pe"
      rw [show F__law_cell [S, .int k] = _ from hcell]
      walk_at "pe"
      rw [pAdd_lst (lim_of (by simp <;> omega))]
      walk_at "pe"
      rw [pAdd_lst (lim_of (by simp <;> omega))]
      walk_at "pe"
      have e : (.int 8 :: .int 3 :: .int 24 :: (List.map Dt.int ((List.range n).map fun _ => pw 640) ++ List.map Dt.int (List.replicate n 12)) : List Dt) = ss.map .int := by
        rw [← hss, List.map_append, List.map_append, List.map_const', List.length_range]
        rfl
      rw [e, hdig]
      walk_at "pe"
    generalize digitsM c ss = D at *
    clear hss hss2 hss3 hss4 hpos hD hdig hcell hssl
    have x0 : pIx (ilst D) (.int 0) = some (.vis (.int (D.getD 0 0))) := pIx_iseq (b := false) (by decide) (getD_get (by omega))
    have x1 : pIx (ilst D) (.int 1) = some (.vis (.int (D.getD 1 0))) := pIx_iseq (b := false) (by decide) (getD_get (by omega))
    have x2 : pIx (ilst D) (.int 2) = some (.vis (.int (D.getD 2 0))) := pIx_iseq (b := false) (by decide) (getD_get (by omega))
    have x3 : ∀ j, j < n → pIx (ilst D) (.int (3 + (j : Int))) = some (.vis (.int (D.getD (3 + j) 0))) := fun j hj => pIx_iseq (b := false) (by omega) (by rw [show (3 + (j : Int)).toNat = 3 + j by omega]; exact getD_get (by omega))
    have x4 : ∀ j, j < n → pIx (ilst D) (.int (3 + (n : Int) + (j : Int))) = some (.vis (.int (D.getD (3 + n + j) 0))) := fun j hj => pIx_iseq (b := false) (by omega) (by rw [show (3 + (n : Int) + (j : Int)).toNat = 3 + n + j by omega]; exact getD_get (by omega))
    generalize hDD : ilst D = DD at *
    have h60 : (60 : Int) ≤ pw 640 := by
      have := pw_lt (a := 20) (b := 640) (by decide)
      have q1 : pw 20 = 1048576 := by unfold pw; decide
      omega
    -- the parts
    refine q_asg (r := .fre (.lst (((List.range n).map fun k => D.getD (3 + k) 0 % 4).map .int))) (comp_rng (n := n) (by walk_at "pe") (by omega) fun j hj => by walk_at "pe"; rw [x3 j hj]; walk_at "pe"; rw [pMod_int (by decide)]) rfl rfl ?_
    have good0 : PartsOk n ((List.range n).map fun k => D.getD (3 + k) 0 % 4) := parts_rng fun k _ => by
      have := emod_bounds (D.getD (3 + k) 0) (show (0 : Int) < 4 by decide)
      omega
    generalize ((List.range n).map fun k => D.getD (3 + k) 0 % 4) = P0 at *
    refine q_cut (fun e => ∃ Ps, PartsOk n Ps ∧ e = [.val S, .val (.int k), .val (.int (n : Int)), .val (.int (pw 640)), .val DD, .own (.lst (Ps.map .int)), .non, .non, .non, .non, .non]) ?_ ?_
    · refine s_ifD (p := D.getD 0 0 = 3 ∨ D.getD 0 0 = 4) ?_ (fun _ => ?_) fun _ => s_nil ⟨P0, good0, rfl⟩
      · walk_at "pe"
        rw [x0]
        walk_at "pe"
        generalize D.getD 0 0 = d0
        by_cases h1 : d0 = 3 <;> simp [h1]
      · refine s_asg (r := .fre (.lst (((List.range n).map fun k => D.getD (3 + k) 0 % 60).map .int))) (comp_rng (n := n) (by walk_at "pe") (by omega) fun j hj => by walk_at "pe"; rw [x3 j hj]; walk_at "pe"; rw [pMod_int (by decide)]) rfl rfl ⟨_, parts_rng fun k _ => ?_, rfl⟩
        have := emod_bounds (D.getD (3 + k) 0) (show (0 : Int) < 60 by decide)
        omega
    rintro e ⟨P1, good1, rfl⟩
    clear good0
    refine q_cut (fun e => ∃ Ps, PartsOk n Ps ∧ e = [.val S, .val (.int k), .val (.int (n : Int)), .val (.int (pw 640)), .val DD, .own (.lst (Ps.map .int)), .non, .non, .non, .non, .non]) ?_ ?_
    · refine s_ifD (p := D.getD 0 0 = 5) (by walk_at "pe"; rw [x0]; walk_at "pe") (fun _ => ?_) fun _ => s_nil ⟨P1, good1, rfl⟩
      refine s_asg (r := .fre (.lst (((List.range n).map fun k => D.getD (3 + k) 0).map .int))) (comp_rng (n := n) (by walk_at "pe") (by omega) fun j hj => by walk_at "pe"; rw [x3 j hj]) rfl rfl ⟨_, parts_rng fun k hk => ?_, rfl⟩
      have := hD3 k hk
      omega
    rintro e ⟨P2, good2, rfl⟩
    clear good1
    refine q_cut (fun e => ∃ Ps, PartsOk n Ps ∧ e = [.val S, .val (.int k), .val (.int (n : Int)), .val (.int (pw 640)), .val DD, .own (.lst (Ps.map .int)), .non, .non, .non, .non, .non]) ?_ ?_
    · refine s_ifD (p := D.getD 0 0 = 6) (by walk_at "pe"; rw [x0]; walk_at "pe") (fun _ => ?_) fun _ => s_nil ⟨P2, good2, rfl⟩
      refine s_asg (r := .fre (.lst (((List.range n).map fun k => pw 640 - D.getD (3 + k) 0).map .int))) (comp_rng (n := n) (by walk_at "pe") (by omega) fun j hj => by walk_at "pe"; rw [x3 j hj]; walk_at "pe") rfl rfl ⟨_, parts_rng fun k hk => ?_, rfl⟩
      have := hD3 k hk
      omega
    rintro e ⟨P3, good3, rfl⟩
    clear good2
    refine q_cut (fun e => ∃ Ps, PartsOk n Ps ∧ e = [.val S, .val (.int k), .val (.int (n : Int)), .val (.int (pw 640)), .val DD, .own (.lst (Ps.map .int)), .non, .non, .non, .non, .non]) ?_ ?_
    · refine s_ifD (p := D.getD 0 0 = 7) (by walk_at "pe"; rw [x0]; walk_at "pe") (fun _ => ?_) fun _ => s_nil ⟨P3, good3, rfl⟩
      exact s_asg (r := .fre (.lst (((List.range n).map fun k => (0 : Int)).map .int))) (comp_rng (n := n) (f := fun _ => 0) (by walk_at "pe") (by omega) fun j hj => by walk_at "pe") rfl rfl ⟨_, parts_rng fun k hk => ⟨Int.le_refl _, Int.le_of_lt hp0⟩, rfl⟩
    rintro e ⟨P4, good4, rfl⟩
    clear good3
    refine q_cut (fun e => ∃ Ps, PartsOk n Ps ∧ 0 < Ps.sum ∧ e = [.val S, .val (.int k), .val (.int (n : Int)), .val (.int (pw 640)), .val DD, .own (.lst (Ps.map .int)), .non, .non, .non, .non, .non]) ?_ ?_
    · refine s_ifD (p := P4.sum = 0) (by walk_at "pe") (fun hz => ?_) fun hz => s_nil ⟨P4, good4, ?_, rfl⟩
      · have m2 := emod_bounds (D.getD 2 0) (show 0 < (n : Int) by omega)
        have hlt : (D.getD 2 0 % (n : Int)).toNat < P4.length := by rw [good4.1]; omega
        refine s_put (b := P4) (v := 1) (j := D.getD 2 0 % (n : Int)) rfl (by walk_at "pe") (by walk_at "pe"; rw [x2]; walk_at "pe"; rw [pMod_int (by omega)]) m2.1 (by rw [good4.1]; exact m2.2) rfl ⟨_, ⟨by rw [List.length_set]; exact good4.1, fun x hx => ?_⟩, ?_, rfl⟩
        · rcases List.mem_or_eq_of_mem_set hx with h | h
          · exact good4.2 x h
          · rw [h]; omega
        · rw [set_sum hlt, hz]
          have h1 := getD_mem hlt
          have h2 := mem_le_sum (fun x hx => (good4.2 x hx).1) h1
          omega
      · have := sum_nn fun x hx => (good4.2 x hx).1
        omega
    rintro e ⟨Ps, good, hsum, rfl⟩
    clear good4
    have hPn : ∀ x ∈ Ps, 0 ≤ x := fun x hx => (good.2 x hx).1
    obtain ⟨T, hT⟩ : ∃ T, T = Ps.sum := ⟨_, rfl⟩
    rw [← hT] at hsum
    have hTb : T < pw 647 := by
      have h1 := sum_le fun x hx => (good.2 x hx).2
      rw [good.1] at h1
      have h2 : (n : Int) * pw 640 ≤ 100 * pw 640 := Int.mul_le_mul_of_nonneg_right (by omega) (Int.le_of_lt hp0)
      have h3 : pw 647 = pw 640 * 2 * 2 * 2 * 2 * 2 * 2 * 2 := by rw [pw_succ, pw_succ, pw_succ, pw_succ, pw_succ, pw_succ, pw_succ]
      omega
    have hTa : T.natAbs < 2 ^ 647 := pw_bits (Int.le_of_lt hsum) hTb
    refine q_asg (r := .vis (.int T)) (by walk_at "pe"; rw [hT]) rfl rfl ?_
    refine q_asg (r := .fre (.lst [])) (by walk_at "pe") rfl rfl ?_
    refine q_forRng (lo := 0) (n := n) (fun i e => ∃ L z8 z9 z10, e = [.val S, .val (.int k), .val (.int (n : Int)), .val (.int (pw 640)), .val DD, .own (.lst (Ps.map .int)), .val (.int T), .own (.lst (shD false L)), z8, z9, z10] ∧ L.length = i ∧ Rep T L (Ps.take i) ∧ ∀ e ∈ L, DivOk T e)
      (by rw [rng1 (n := (n : Int)) (by walk_at "pe") (by omega), Int.toNat_natCast]) ⟨[], _, _, _, rfl, rfl, .nil, fun e h => by cases h⟩ ?_ ?_
    · rintro i e hi ⟨L, z8, z9, z10, rfl, hL, hrep, hdiv⟩
      refine ⟨_, by walk_at "pe"; rfl, ?_⟩
      rw [Int.zero_add]
      show (wSeq _ _) _ [.val S, .val (.int k), .val (.int (n : Int)), .val (.int (pw 640)), .val DD, .own (.lst (Ps.map .int)), .val (.int T), .own (.lst (shD false L)), .val (.int (i : Int)), z9, z10]
      have ht := hD4 i hi
      refine q_asg (r := .vis (.int (1 + D.getD (3 + n + i) 0))) (by walk_at "pe"; rw [x4 i hi]; walk_at "pe") rfl rfl ?_
      obtain ⟨t, htt⟩ : ∃ t, t = 1 + D.getD (3 + n + i) 0 := ⟨_, rfl⟩
      rw [← htt]
      have t0 : 1 ≤ t := by omega
      have t1 : t ≤ 12 := by omega
      have hil : i < Ps.length := by rw [good.1]; exact hi
      have hpg := getD_at hil
      have hpm := getD_mem hil
      have hpb := good.2 _ hpm
      have hpT : Ps.getD i 0 ≤ T := by rw [hT]; exact mem_le_sum hPn hpm
      have htake : Ps.take (i + 1) = Ps.take i ++ [Ps.getD i 0] := by
        rw [List.take_add_one, getD_get hil]
        rfl
      rw [htake]
      generalize Ps.getD i 0 = p at *
      have hpa : p.natAbs < 2 ^ 647 := by omega
      have h20 : ∀ x : Int, x.natAbs < 2 ^ 647 → (x * t).natAbs < 2 ^ 700 := fun x hx => by
        rw [Int.natAbs_mul]
        calc x.natAbs * t.natAbs ≤ x.natAbs * 16 := Nat.mul_le_mul_left _ (by omega)
          _ < 2 ^ 647 * 16 := Nat.mul_lt_mul_of_pos_right hx (by decide)
          _ = 2 ^ 651 := by rw [show (16 : Nat) = 2 ^ 4 from rfl, ← Nat.pow_add]
          _ < 2 ^ 700 := Nat.pow_lt_pow_right (by decide) (by decide)
      have hTt : 0 < T * t := Int.mul_pos hsum (by omega)
      refine q_app (d := ilst [p * t, T * t]) (r := .fre (.lst [.int (p * t), .int (T * t)])) rfl ?_ rfl (by unfold shD; rw [List.length_map, hL]; exact lim_lt (by omega)) rfl rfl ?_
      · walk_at "pe"
        rw [hpg]
        walk_at "pe"
        rw [pMul_int (big_lt hpa) (big64 (by omega) (by omega)), pMul_int (big_lt hTa) (big64 (by omega) (by omega))]
        walk_at "pe"
      have e1 : shD false L ++ [ilst [p * t, T * t]] = shD false (L ++ [(p * t, T * t)]) := by
        unfold shD
        rw [List.map_append]
        rfl
      rw [e1]
      have okd : DivOk T (p * t, T * t) := ⟨hTt, Int.mul_dvd_mul (Int.dvd_refl T) (dvd_KF t0 t1), h20 p hpa, h20 T hTa⟩
      have snoc : ∀ {A : List (Int × Int)} {B : List Int} {e : Int × Int} {q : Int}, Rep T A B → e.1 * T = q * e.2 → Rep T (A ++ [e]) (B ++ [q]) := by
        intro A B e q h1 h2
        induction h1 with
        | nil => exact .cons h2 .nil
        | cons h _ ih => exact .cons h ih
      have okr : Rep T (L ++ [(p * t, T * t)]) (Ps.take i ++ [p]) := snoc hrep (by show p * t * T = p * (T * t); ac_rfl)
      have all : ∀ {e : Int × Int}, DivOk T e → ∀ x ∈ L ++ [e], DivOk T x := fun {e} he x hx => by
        rcases List.mem_append.mp hx with h | h
        · exact hdiv x h
        · rw [List.mem_singleton.mp h]; exact he
      show (wIf _ _ _) _ [.val S, .val (.int k), .val (.int (n : Int)), .val (.int (pw 640)), .val DD, .own (.lst (Ps.map .int)), .val (.int T), .own (.lst (shD false (L ++ [(p * t, T * t)]))), .val (.int (i : Int)), .val (.int t), z10]
      refine s_ifD (p := D.getD 1 0 = 0) (by walk_at "pe"; rw [x1]; walk_at "pe") (fun _ => ?_) fun _ => s_nil ⟨L ++ [(p * t, T * t)], _, _, _, rfl, by rw [List.length_append, List.length_singleton, hL], okr, all okd⟩
      have hg := gcd_pos (a := p) hsum
      have hgb : (gcdI p T).natAbs < 2 ^ 700 := Nat.lt_of_le_of_lt (gcd_le hsum) (Nat.lt_trans hTa (Nat.pow_lt_pow_right (by decide) (by decide)))
      have hgt := gcd_top p T
      have hgB := gcd_bot p T
      have hprod : p.natAbs * T.natAbs < 2 ^ (4000 - 2) := by
        refine Nat.lt_trans (Nat.mul_lt_mul'' hpa hTa) ?_
        rw [← Nat.pow_add]
        exact Nat.pow_lt_pow_right (by decide) (by decide)
      have hcall : F__law_gcd [.int p, .int T] = some (.int (gcdI p T)) := gcdN_at hprod
      refine q_asg (r := .vis (.int (gcdI p T))) (by walk_at "pe"; rw [hpg]; walk_at "pe"; rw [hcall]; walk_at "pe") rfl rfl ?_
      have hlow := low_abs (a := p) hsum
      have okd2 : DivOk T (lowT p T, lowB p T) := by
        refine ⟨low_pos hsum, ?_, Nat.lt_of_le_of_lt hlow.1 (Nat.lt_trans hpa (Nat.pow_lt_pow_right (by decide) (by decide))), Nat.lt_of_le_of_lt hlow.2 (Nat.lt_trans hTa (Nat.pow_lt_pow_right (by decide) (by decide)))⟩
        show lowB p T ∣ T * KF
        exact Int.dvd_trans ⟨gcdI p T, by rw [Int.mul_comm]; exact hgB.symm⟩ (Int.dvd_mul_right T KF)
      have okr2 : Rep T (L ++ [(lowT p T, lowB p T)]) (Ps.take i ++ [p]) := snoc hrep (low_cross hsum)
      refine ⟨shD false (L ++ [(p * t, T * t)]), .fre (.lst [.int (lowT p T), .int (lowB p T)]), (i : Int), rfl, ?_, rfl, by walk_at "pe", by omega, ?_, L ++ [(lowT p T, lowB p T)], .val (.int (i : Int)), .val (.int t), .val (.int (gcdI p T)), ?_, by rw [List.length_append, List.length_singleton, hL], okr2, all okd2⟩
      · walk_at "pe"
        rw [hpg]
        walk_at "pe"
        rw [pDiv_int hg (div700 hgb), pDiv_int hg (div700 hgb)]
        walk_at "pe"
        rfl
      · unfold shD
        rw [List.length_map, List.length_append, List.length_singleton, hL]
        omega
      · have e2 : (shD false (L ++ [(p * t, T * t)])).set (if 0 ≤ (i : Int) then (i : Int) else (i : Int) + ((shD false (L ++ [(p * t, T * t)])).length : Int)).toNat (R.fre (.lst [.int (lowT p T), .int (lowB p T)])).dt = shD false (L ++ [(lowT p T, lowB p T)]) := by
          rw [if_pos (Int.natCast_nonneg i), Int.toNat_natCast]
          unfold shD
          rw [List.map_append, List.map_append]
          have hl2 : (L.map fun e : Int × Int => iseq false [e.1, e.2]).length = i := by rw [List.length_map, hL]
          rw [List.set_append_right _ _ (by rw [hl2]; exact Nat.le_refl _), hl2, Nat.sub_self]
          rfl
        rw [e2]
        rfl
    · rintro e ⟨L, z8, z9, z10, rfl, hL, hrep, hdiv⟩
      refine q_frz rfl rfl (q_frz rfl rfl ?_)
      refine s_ret (r := .fre (.lst [ilst Ps, .int T, .lst (shD false L)])) (by walk_at "pe"; rfl) rfl rfl ?_
      rw [← good.1, List.take_length] at hrep
      exact hend Ps T L ⟨good.1, hPn, hT.symm, hsum, Nat.lt_trans hTa (Nat.pow_lt_pow_right (by decide) (by decide)), hrep, fun e he => ⟨(hdiv e he).p, (hdiv e he).d, (hdiv e he).s1, (hdiv e he).s2⟩⟩
  obtain ⟨r, h1, a, b, m, h2, parts, total, L, rfl, h3⟩ := auto_rel (n := 11) (w := cw_drawn) (P := fun ds r => ∃ a b n, ds = [a, b, .int n] ∧ ∃ parts total L, r = .lst [ilst parts, .int total, .lst (shD false L)] ∧ Drawn n.toNat parts total L) (by unfold cw_drawn; walk_at "det") main
  cases h2
  rw [Int.toNat_natCast] at h3
  exact ⟨parts, total, L, h1, h3⟩
end Pyl
end
section
set_option Elab.async false
set_option linter.all false
set_option maxHeartbeats 2000000
namespace Pyl
open PySem
local macro_rules | `(tactic| walk_at "pe") => `(tactic| simp (config := { implicitDefEqProofs := false }) only [eVar_at, eC_at, e1_at, e2_at, aNil_at, aCons_at, eTup_at, eLst_at, plain_nil, plain_cons, eCall_at, eIf_at, aApp_at, aDfl_at, List.cons_append, List.nil_append, eAnd_at, eOr_at, eNot_at, tVal_at, tAnd_at, tOr_at, tNot_at, tYes_at,
  pAdd_int, pSub_int, pNeg_int, pLt_int, pLe_int, pGt_int, pGe_int, pEq_int, pNe_int, pIsN_at, pNotN_at, pIx_lst, pIx_tup, pGcd_int, atL0, atL1, atL2, atL3, atL4, atL5, atL6, atL7, atL8, oNone_at, oSome_at, eSlice_at, pLen_lst, pLen_tup, pInt_int, pInt_bl, pAbs_int, pSum_ints, pMax2_int, pMin2_int, pList_lst, pList_tup, pTuple_lst, pTuple_tup, iSeq_at, gN_at, gT_at, gsN_cons, gsN_nil, wipeS_cons, wipeS_nil,
  dt_vis, dt_bor, dt_fre, sh_vis, sh_bor, sh_fre, slot_vis, slot_fre, od_dt, isNon_non, isNon_int, isNon_lst, isNon_tup, scalar_int, scalar_bl, scalar_non, Option.bind_some, Option.bind_none, Option.map_some, Option.map_none, List.getElem?_cons_zero, List.getElem?_cons_succ, List.set_cons_zero, List.set_cons_succ, List.map_cons, List.map_nil, List.any_cons, List.any_nil, Bool.or_false, Bool.false_or, Bool.false_and, Bool.and_true, Bool.true_and, Bool.not_true, Bool.not_false,
  Option.some.injEq, exists_eq_left', exists_eq_left, true_and, and_true, if_true, if_false, Bool.false_eq_true, ite_true, ite_false, reduceIte, decide_eq_true_eq, decide_eq_false_iff_not, R.vis.injEq, R.fre.injEq, Dt.lst.injEq, Dt.tup.injEq, Dt.int.injEq, Slot.own.injEq, OD.lst.injEq, reduceCtorEq, false_and, exists_false, exists_const, Bool.true_eq_false, false_implies, true_implies, implies_true, forall_const])

/-! the law -/
theorem exact_low {G T : Int} (hT : 0 < T) (h1 : G.natAbs < 2 ^ 1900) (h2 : T.natAbs < 2 ^ 1900) : F__law_exactly [lowD G T, .int G, .int T] = some (.bl true) := by
  obtain ⟨l1, l2⟩ := low_abs (a := G) hT
  have ex : Exact 4000 (lowT G T) (lowB G T) G T := ⟨low_pos hT, by
    refine Nat.lt_trans (Nat.mul_lt_mul'' (Nat.lt_of_le_of_lt l1 h1) (Nat.lt_of_le_of_lt l2 h2)) ?_
    rw [← Nat.pow_add]
    exact Nat.pow_lt_pow_right (by decide) (by decide), by decide, by decide, big_lt (Nat.lt_of_le_of_lt l1 h1), big_lt (Nat.lt_of_le_of_lt l2 h2), big_lt h1, big_lt h2, low_cross hT, low1 hT⟩
  unfold F__law_exactly F_exactlyN lowD
  exact if_pos ex
theorem exact_same {a b G T : Int} (hb : 0 < b) (hT : 0 < T) (he : a * T = G * b) (h1 : G.natAbs < 2 ^ 1900) (h2 : T.natAbs < 2 ^ 1900) : F__law_exactly [lowD a b, .int G, .int T] = some (.bl true) := by
  rw [lowD_same hb hT he]
  exact exact_low hT h1 h2
theorem okRep_of {n : Nat} {parts : List Int} {T : Int} {L : List (Int × Int)} (d : Drawn n parts T L) : OkRep L T parts := by
  have h7 : (2 : Nat) ^ 700 ≤ 2 ^ 1900 := Nat.pow_le_pow_right (by decide) (by decide)
  refine ⟨d.rep, d.t0, Nat.lt_trans d.tb (Nat.pow_lt_pow_right (by decide) (by decide)), fun e he => ⟨(d.div e he).1, Nat.lt_of_lt_of_le (d.div e he).2.2.2 h7, Nat.lt_of_lt_of_le (d.div e he).2.2.1 h7⟩, ?_⟩
  have e : ((parts.map Int.natAbs).sum : Int) = parts.sum := by
    have : ∀ l : List Int, (∀ x ∈ l, 0 ≤ x) → ((l.map Int.natAbs).sum : Int) = l.sum := fun l => by
      induction l with
      | nil => exact fun _ => rfl
      | cons x l ih =>
        intro h
        rw [List.map_cons, List.sum_cons, List.sum_cons, Int.natCast_add, ih fun y hy => h y (List.mem_cons_of_mem _ hy)]
        have := h x List.mem_cons_self
        omega
    exact this parts d.nn
  rw [d.sum] at e
  have := d.tb
  have h8 : (2 : Nat) ^ 650 < 2 ^ 1900 := Nat.pow_lt_pow_right (by decide) (by decide)
  have := d.t0
  omega
theorem drawn_len {n : Nat} {parts : List Int} {T : Int} {L : List (Int × Int)} (d : Drawn n parts T L) : L.length = n := by rw [d.rep.len, d.len]
theorem okMix_of {n : Nat} {parts : List Int} {T : Int} {L : List (Int × Int)} (d : Drawn n parts T L) (h0 : 0 < n) (h1 : n ≤ 100) : OkMix L := by
  have h7 : (2 : Nat) ^ 700 ≤ 2 ^ 1000 := Nat.pow_le_pow_right (by decide) (by decide)
  have hKF : 0 < KF := by decide
  refine ⟨⟨T * KF, Int.mul_pos d.t0 hKF, ?_, fun e he => ⟨(d.div e he).1, (d.div e he).2.1, Nat.lt_of_lt_of_le (d.div e he).2.2.1 h7⟩⟩, fun e => ?_, by rw [drawn_len d]; exact h1⟩
  · rw [Int.natAbs_mul]
    have h2 : KF.natAbs < 2 ^ 30 := by decide
    refine Nat.lt_trans (Nat.mul_lt_mul'' d.tb h2) ?_
    rw [← Nat.pow_add]
    exact Nat.pow_lt_pow_right (by decide) (by decide)
  · have := drawn_len d
    rw [e] at this
    simp at this
    omega
/-- the rights and what is told of the least -/
theorem mix_eq {n : Nat} {parts : List Int} {T : Int} {L : List (Int × Int)} (d : Drawn n parts T L) (hn : 0 < n) (hn1 : n ≤ 100) {M : List (List Int)} (bo : Option (Int × Int)) (okb : OkBo bo) :
    mixR M L bo = lowD (leastT (rightsF parts M) bo) (leastB T bo) := by
  have ok := okMix_of d hn hn1
  have bk := botOk ok
  have hp : ∀ e ∈ L, 0 < e.2 := fun e he => (d.div e he).1
  have pr := rights_prp (M := M) ((nums_rep hp).prp d.rep hp)
  have le := pr.least bk.p d.t0 bo
  unfold mixR
  cases bo with
  | none => exact lowD_same bk.p d.t0 le
  | some b =>
    have hb := okb b rfl
    refine lowD_same (Int.mul_pos hb.p1 bk.p) (Int.mul_pos hb.p1 d.t0) ?_
    show leastT (rightsF (numsL L) M) (some b) * (b.2 * T) = leastT (rightsF parts M) (some b) * (b.2 * botL L)
    calc leastT (rightsF (numsL L) M) (some b) * (b.2 * T) = b.2 * (leastT (rightsF (numsL L) M) (some b) * T) := by ac_rfl
      _ = b.2 * (leastT (rightsF parts M) (some b) * botL L) := by rw [le]
      _ = _ := by ac_rfl
def bq : Option (Int × Int) → Int × Int
  | none => (1, 1)
  | some b => b
theorem least_none {S : List Int} (h : S ≠ []) : leastT S none = leastT S (some (1, 1)) := by
  unfold leastT
  dsimp only
  have hz : sortI S ≠ [] := fun e => by
    have := sortI_len S
    rw [e] at this
    exact h (List.length_eq_zero_iff.mp this.symm)
  rw [← sortI_len S]
  generalize sortI S = Z at *
  cases Z with
  | nil => exact absurd rfl hz
  | cons x Z =>
    show x = dot (mn 1 1 :: fillP 1 (1 - mn 1 1) Z.length) (x :: Z)
    rw [dot_cons]
    have e : mn 1 1 = 1 := by unfold mn; decide
    rw [e]
    have ez : dot (fillP 1 (1 - 1) Z.length) Z = 0 := by
      have : fillP 1 (1 - 1) Z.length = (fillP 1 (1 - 1) Z.length).map (· * 0) := by
        refine List.ext_getElem? fun i => ?_
        rw [List.getElem?_map]
        cases h : (fillP 1 (1 - 1) Z.length)[i]? with
        | none => rfl
        | some f => rw [fillP_zero (by decide) _ f (List.mem_of_getElem? h)]; rfl
      rw [this, dot_scale, Int.mul_zero]
    rw [ez]
    omega
theorem least_bq {S : List Int} (h : S ≠ []) (bo : Option (Int × Int)) (B : Int) : leastT S bo = dot (fillP (bq bo).1 (bq bo).2 S.length) (sortI S) ∧ leastB B bo = (bq bo).2 * B := by
  cases bo with
  | none => exact ⟨least_none h, by show B = 1 * B; omega⟩
  | some b => exact ⟨rfl, rfl⟩
structure BQ (n : Nat) (b : Int × Int) : Prop where
  ok : OkB b.1 b.2
  cap : b.2 ≤ (n : Int) * b.1
theorem bq_ok {n : Nat} (hn : 0 < n) {bo : Option (Int × Int)} (h : BoundOk (n : Int) bo) : BQ n (bq bo) := by
  cases bo with
  | none => exact ⟨⟨by decide, by decide, by show (1 : Int).natAbs < 2 ^ 700; exact Nat.one_lt_two_pow (by decide), by show (1 : Int).natAbs < 2 ^ 700; exact Nat.one_lt_two_pow (by decide)⟩, by show (1 : Int) ≤ (n : Int) * 1; omega⟩
  | some b => exact ⟨h.ok b rfl, h.cap b rfl⟩
/-- the sizes of what is told -/
theorem least_size {n : Nat} {T : Int} {S : List Int} {b : Int × Int} (hb : BQ n b) (hn : S.length = n) (hS : ∀ x ∈ S, 0 ≤ x ∧ x ≤ T) : 0 ≤ dot (fillP b.1 b.2 S.length) (sortI S) ∧ dot (fillP b.1 b.2 S.length) (sortI S) ≤ b.2 * T := by
  have f1 := fillP_rng (Int.le_of_lt hb.ok.p0) S.length (Int.le_of_lt hb.ok.p1)
  have f2 := fillP_sum (Int.le_of_lt hb.ok.p0) S.length (left := b.2) (Int.le_of_lt hb.ok.p1) (by rw [hn]; exact hb.cap)
  refine ⟨dot_nn (fun x hx => (f1 x hx).1) fun x hx => (hS x (sortI_mem hx)).1, ?_⟩
  have h := dot_le (G := T) (fun x hx => (f1 x hx).1) (by rw [fillP_len, sortI_len]) fun y hy => (hS y (sortI_mem hy)).2
  rw [f2] at h
  exact h
theorem rights_rng {p q : Nat} {parts M T} (hl : parts.length = p) (hnn : ∀ x ∈ parts, (0 : Int) ≤ x) (hs : parts.sum = T) (hM : Good p q M) (hp : 0 < p) (hq : 0 < q) : (rightsF parts M).length = q ∧ ∀ x ∈ rightsF parts M, 0 ≤ x ∧ x ≤ T := by
  have hne : M ≠ [] := fun e => by
    have := hM.1
    rw [e] at this
    simp at this
    omega
  have hrows : ∀ row ∈ M, row.length = q := fun r hr => (hM.2 r hr).1
  have hlen := rights_len (P := parts) (by rw [hl, hM.1]) hrows hne hq
  refine ⟨hlen, fun x hx => ?_⟩
  obtain ⟨j, hj, e⟩ := List.getElem_of_mem hx
  have hj2 : j < q := by rw [← hlen]; exact hj
  have hg := rights_get (P := parts) (by rw [hl, hM.1]) hrows hne hj2
  rw [List.getD_eq_getElem?_getD, List.getElem?_eq_getElem hj, e] at hg
  have hcol : ∀ y ∈ M.map fun row => row.getD j 0, 0 ≤ y ∧ y ≤ 1 := fun y hy => by
    obtain ⟨row, hr, rfl⟩ := List.mem_map.mp hy
    exact (hM.2 row hr).2 _ (getD_mem (by rw [hrows row hr]; exact hj2))
  have h2 := dot_nn hnn fun y hy => (hcol y hy).1
  have h3 := dot_le (G := 1) hnn (by rw [List.length_map, hl, hM.1]) fun y hy => (hcol y hy).2
  have : x = dot parts (M.map fun row => row.getD j 0) := hg
  omega
/-- the turned payoffs -/
def turnM (M : List (List Int)) : List (List Int) := M.map fun r => r.map (1 - ·)
theorem turn_good {p q : Nat} {M : List (List Int)} (h : Good p q M) : Good p q (turnM M) := by
  refine ⟨by unfold turnM; rw [List.length_map]; exact h.1, fun row hr => ?_⟩
  obtain ⟨r, hr', rfl⟩ := List.mem_map.mp hr
  obtain ⟨h1, h2⟩ := h.2 r hr'
  refine ⟨by rw [List.length_map]; exact h1, fun b hb => ?_⟩
  obtain ⟨x, hx, rfl⟩ := List.mem_map.mp hb
  have := h2 x hx
  omega
theorem turn_rights {p q : Nat} {parts M T} (hl : parts.length = p) (hs : parts.sum = T) (hM : Good p q M) (hp : 0 < p) (hq : 0 < q) : rightsF parts (turnM M) = (rightsF parts M).map (T - ·) := by
  have hT := turn_good hM
  have ne : ∀ {A : List (List Int)}, Good p q A → A ≠ [] := fun {A} hA e => by
    have := hA.1
    rw [e] at this
    simp at this
    omega
  have l1 := rights_len (P := parts) (M := M) (by rw [hl, hM.1]) (fun r hr => (hM.2 r hr).1) (ne hM) hq
  have l2 := rights_len (P := parts) (M := turnM M) (by rw [hl, hT.1]) (fun r hr => (hT.2 r hr).1) (ne hT) hq
  refine List.ext_getElem (by rw [List.length_map, l1, l2]) fun j h1 h2 => ?_
  have hj : j < q := by rw [← l2]; exact h1
  have g1 := rights_get (P := parts) (M := M) (by rw [hl, hM.1]) (fun r hr => (hM.2 r hr).1) (ne hM) hj
  have g2 := rights_get (P := parts) (M := turnM M) (by rw [hl, hT.1]) (fun r hr => (hT.2 r hr).1) (ne hT) hj
  rw [List.getD_eq_getElem?_getD, List.getElem?_eq_getElem (by rw [l1]; exact hj)] at g1
  rw [List.getD_eq_getElem?_getD, List.getElem?_eq_getElem h1] at g2
  have g1 : (rightsF parts M)[j] = _ := g1
  have g2 : (rightsF parts (turnM M))[j] = _ := g2
  rw [List.getElem_map, g1, g2]
  have e : (turnM M).map (fun row => row.getD j 0) = (M.map fun row => row.getD j 0).map (1 - ·) := by
    unfold turnM
    rw [List.map_map, List.map_map]
    refine List.map_congr_left fun r hr => ?_
    show (r.map (1 - ·)).getD j 0 = 1 - r.getD j 0
    have hl := (hM.2 r hr).1
    rw [List.getD_eq_getElem?_getD, List.getElem?_map, List.getD_eq_getElem?_getD, List.getElem?_eq_getElem (by omega)]
    rfl
  rw [e, dot_one_sub (by rw [List.length_map, hl, hM.1]), hs]
theorem foldmin_eq {R : List Int} (h : R ≠ []) : pMinL (ilst R) = some (.vis (.int ((sortI R).getD 0 0))) := by
  have key : ∀ (l : List Int) (m : Int), l.foldl (fun m x => if x < m then x else m) m ≤ m ∧ (∀ x ∈ l, l.foldl (fun m x => if x < m then x else m) m ≤ x) ∧ (l.foldl (fun m x => if x < m then x else m) m = m ∨ l.foldl (fun m x => if x < m then x else m) m ∈ l) := by
    intro l
    induction l with
    | nil => exact fun m => ⟨Int.le_refl _, fun x h => (by cases h), .inl rfl⟩
    | cons y l ih =>
      intro m
      rw [List.foldl_cons]
      obtain ⟨h1, h2, h3⟩ := ih (if y < m then y else m)
      have hs : (if y < m then y else m) ≤ m ∧ (if y < m then y else m) ≤ y := by split <;> omega
      refine ⟨Int.le_trans h1 hs.1, fun x hx => ?_, ?_⟩
      · rcases List.mem_cons.mp hx with rfl | hx
        · exact Int.le_trans h1 hs.2
        · exact h2 x hx
      · rcases h3 with h3 | h3
        · rw [h3]
          split
          · exact .inr List.mem_cons_self
          · exact .inl rfl
        · exact .inr (List.mem_cons_of_mem _ h3)
  show pMinL (.lst (R.map .int)) = _
  unfold pMinL
  dsimp only
  rw [intsOf_ints]
  have hz : sortI R ≠ [] := fun e => by
    have := sortI_len R
    rw [e] at this
    exact h (List.length_eq_zero_iff.mp this.symm)
  have hp := sortI_perm R
  have hw := sortI_pw R
  cases R with
  | nil => exact absurd rfl h
  | cons n ns =>
    show some (R.vis (.int (ns.foldl (fun m x => if x < m then x else m) n))) = _
    obtain ⟨k1, k2, k3⟩ := key ns n
    generalize sortI (n :: ns) = Z at *
    cases Z with
    | nil => exact absurd rfl hz
    | cons z Z =>
      have h1 : z ∈ n :: ns := hp.mem_iff.mp List.mem_cons_self
      have h2 : ∀ x ∈ n :: ns, z ≤ x := fun x hx => by
        rcases List.mem_cons.mp (hp.mem_iff.mpr hx) with rfl | hx
        · exact Int.le_refl _
        · exact (List.pairwise_cons.mp hw).1 x hx
      have h3 : ns.foldl (fun m x => if x < m then x else m) n ∈ n :: ns := by
        rcases k3 with e | e
        · rw [e]; exact List.mem_cons_self
        · exact List.mem_cons_of_mem _ e
      have h4 : ns.foldl (fun m x => if x < m then x else m) n ≤ z := by
        rcases List.mem_cons.mp h1 with rfl | h1
        · exact k1
        · exact k2 z h1
      have h5 := h2 _ h3
      have e : ns.foldl (fun m x => if x < m then x else m) n = z := by omega
      rw [e]
      rfl
theorem maxI_bound {l : List Int} {T : Int} (h0 : 0 ≤ T) (h : ∀ x ∈ l, x ≤ T) : 0 ≤ maxI l ∧ maxI l ≤ T := by
  refine ⟨maxI_nn l, ?_⟩
  rcases (maxI_from l 0).2.2 with e | e
  · show maxI l ≤ T
    unfold maxI
    rw [e]
    exact h0
  · exact h _ e
theorem lots_bound {q : Nat} {M : List (List Int)} {X : List Int} {T : Int} (hX : ∀ y ∈ X, 0 ≤ y) (hl : X.length = q) (hs : X.sum = T) (hM : Bits q M) : 0 ≤ maxI (M.map (dot X)) ∧ maxI (M.map (dot X)) ≤ T := by
  have h0 : 0 ≤ T := by rw [← hs]; exact sum_nn hX
  refine maxI_bound h0 fun x hx => ?_
  obtain ⟨row, hr, rfl⟩ := List.mem_map.mp hx
  obtain ⟨h1, h2⟩ := hM row hr
  have h3 := dot_le (G := 1) hX (by rw [hl, h1]) fun y hy => (h2 y hy).2
  rw [hs] at h3
  omega
/-- the order of the places: a way to put them -/
theorem order_ok (K : List Int) (q : Nat) : (((((List.range q).map fun j => (K.getD j 0, (j : Int))).mergeSort lexLe).map (·.2)).length = q) ∧ ((((List.range q).map fun j => (K.getD j 0, (j : Int))).mergeSort lexLe).map (·.2)).Nodup ∧ ∀ o ∈ (((List.range q).map fun j => (K.getD j 0, (j : Int))).mergeSort lexLe).map (·.2), 0 ≤ o ∧ o < (q : Int) := by
  have hp : ((((List.range q).map fun j => (K.getD j 0, (j : Int))).mergeSort lexLe).map (·.2)).Perm ((List.range q).map fun j : Nat => (j : Int)) := by
    have h := (List.mergeSort_perm ((List.range q).map fun j => (K.getD j 0, (j : Int))) lexLe).map (·.2)
    rw [List.map_map] at h
    exact h
  refine ⟨by rw [hp.length_eq, List.length_map, List.length_range], ?_, fun o ho => ?_⟩
  · refine hp.nodup_iff.mpr ?_
    exact List.pairwise_map.mpr (List.Pairwise.imp (fun {a b} h e => h (Int.ofNat.inj e)) (List.nodup_range (n := q)))
  · obtain ⟨j, hj, rfl⟩ := List.mem_map.mp (hp.mem_iff.mp ho)
    have := List.mem_range.mp hj
    omega
theorem len_law : ∀ (ds : List Dt) (r : Dt), F_law ds = some r → ds.length = 1 := by
  intro ds r h
  match ds, h with
  | [.lst _], _ => rfl
theorem law_true : ∀ ns : List Int, ns.length ≤ 63 → F_law [.lst (ns.map .int)] = some (.bl true) := by
  intro ns h
  show (intsOf (ns.map .int)).bind _ = _
  rw [intsOf_ints]
  exact if_pos h
end Pyl
end
section
set_option Elab.async false
set_option linter.all false
set_option maxHeartbeats 4000000
namespace Pyl
open PySem
local macro_rules | `(tactic| walk_at "pe") => `(tactic| simp (config := { implicitDefEqProofs := false }) only [eVar_at, eC_at, e1_at, e2_at, aNil_at, aCons_at, eTup_at, eLst_at, plain_nil, plain_cons, eCall_at, eIf_at, aApp_at, aDfl_at, List.cons_append, List.nil_append, eAnd_at, eOr_at, eNot_at, tVal_at, tAnd_at, tOr_at, tNot_at, tYes_at,
  pAdd_int, pSub_int, pNeg_int, pLt_int, pLe_int, pGt_int, pGe_int, pEq_int, pNe_int, pIsN_at, pNotN_at, pIx_lst, pIx_tup, pGcd_int, atL0, atL1, atL2, atL3, atL4, atL5, atL6, atL7, atL8, oNone_at, oSome_at, eSlice_at, pLen_lst, pLen_tup, pInt_int, pInt_bl, pAbs_int, pSum_ints, pMax2_int, pMin2_int, pList_lst, pList_tup, pTuple_lst, pTuple_tup, iSeq_at, gN_at, gT_at, gsN_cons, gsN_nil, wipeS_cons, wipeS_nil,
  dt_vis, dt_bor, dt_fre, sh_vis, sh_bor, sh_fre, slot_vis, slot_fre, od_dt, isNon_non, isNon_int, isNon_lst, isNon_tup, scalar_int, scalar_bl, scalar_non, Option.bind_some, Option.bind_none, Option.map_some, Option.map_none, List.getElem?_cons_zero, List.getElem?_cons_succ, List.set_cons_zero, List.set_cons_succ, List.map_cons, List.map_nil, List.any_cons, List.any_nil, Bool.or_false, Bool.false_or, Bool.false_and, Bool.and_true, Bool.true_and, Bool.not_true, Bool.not_false,
  Option.some.injEq, exists_eq_left', exists_eq_left, true_and, and_true, if_true, if_false, Bool.false_eq_true, ite_true, ite_false, reduceIte, decide_eq_true_eq, decide_eq_false_iff_not, R.vis.injEq, R.fre.injEq, Dt.lst.injEq, Dt.tup.injEq, Dt.int.injEq, Slot.own.injEq, OD.lst.injEq, reduceCtorEq, false_and, exists_false, exists_const, Bool.true_eq_false, false_implies, true_implies, implies_true, forall_const])

theorem dig_k {ns ss : List Int} {k : Int} (hk : 0 ≤ k ∧ k < 4294967296) (hs : ∀ s ∈ ss, 0 < s ∧ s < 18446744073709551616) (hl : ss.length ≤ 100000) : ∃ D, F__law_cell [ilst ns, .int k] = some (.int (cellM ns k)) ∧ F__law_digits [.int (cellM ns k), .lst (ss.map .int)] = some (ilst D) ∧ D.length = ss.length ∧ ∀ i s, ss[i]? = some s → 0 ≤ D.getD i 0 ∧ D.getD i 0 < s :=
  ⟨digitsM (cellM ns k) ss, F_cell_at hk, F_digitsW_at ⟨fun s h => ⟨(hs s h).1, bigs64 (hs s h).1 (hs s h).2⟩, hl⟩, digitsM_len _ _, fun i s h => digitsM_get (fun s h => (hs s h).1) h (getD_get (by rw [digitsM_len]; exact (List.getElem?_eq_some_iff.mp h).1))⟩
theorem k_law : Keeps 27 w_law F_law := by
  intro ds r h
  match ds, h with
  | [.lst xs], h =>
    obtain ⟨ns, h1, h⟩ := Option.bind_eq_some_iff.mp h
    split at h
    case isFalse => cases h
    cases h
    rw [intsOf_some h1]
    obtain ⟨D0, c0, g0, l0, b0⟩ := dig_k (ns := ns) (k := 0) (ss := [16, 24, 16, 7, 8, 24, 24, 16, 16, 4]) (by decide) (by decide) (by decide)
    match D0, l0 with
    | [d0, d1, d2, d3, d4, d5, d6, d7, d8, d9], _ =>
    have w0 := b0 0 16 rfl
    have w1 := b0 1 24 rfl
    have w2 := b0 2 16 rfl
    have w3 := b0 3 7 rfl
    have w4 := b0 4 8 rfl
    have w5 := b0 5 24 rfl
    have w6 := b0 6 24 rfl
    have w7 := b0 7 16 rfl
    have w8 := b0 8 16 rfl
    have w9 := b0 9 4 rfl
    clear b0
    simp only [List.getD_cons_zero, List.getD_cons_succ] at w0 w1 w2 w3 w4 w5 w6 w7 w8 w9
    show w_law (endR (.bl true)) [.val (ilst ns), .non, .non, .non, .non, .non, .non, .non, .non, .non, .non, .non, .non, .non, .non, .non, .non, .non, .non, .non, .non, .non, .non, .non, .non, .non, .non]
    have hpay := fun p q => payoffs_at (ns := ns) (k := 1) (p := p) (q := q) (D := [d0, d1, d2, d3, d4, d5, d6, d7, d8, d9]) (by decide)
    have hdr2 := fun n => drawn_at (ns := ns) (k := 2) (n := n) (by decide)
    have hdr3 := fun n => drawn_at (ns := ns) (k := 3) (n := n) (by decide)
    have hbd := fun n => bound_at (ns := ns) (n := n) (k := 4) (by decide)
    have hkeys := fun n => dig_k (ns := ns) (k := 5) (ss := List.replicate n 60) (by decide)
    generalize cellM ns 0 = cc0 at *
    generalize cellM ns 5 = cc5 at *
    generalize hSS : ilst ns = SS at *
    clear hSS h1
    refine q_asg (r := .vis (ilst [d0, d1, d2, d3, d4, d5, d6, d7, d8, d9])) (by walk_at "pe"; rw [c0]; walk_at "pe"; rw [show F__law_digits [.int cc0, .lst [.int 16, .int 24, .int 16, .int 7, .int 8, .int 24, .int 24, .int 16, .int 16, .int 4]] = _ from g0]; walk_at "pe") rfl rfl ?_
    have x0 : pIx (ilst [d0, d1, d2, d3, d4, d5, d6, d7, d8, d9]) (.int 0) = some (.vis (.int d0)) := rfl
    have x1 : pIx (ilst [d0, d1, d2, d3, d4, d5, d6, d7, d8, d9]) (.int 1) = some (.vis (.int d1)) := rfl
    have x2 : pIx (ilst [d0, d1, d2, d3, d4, d5, d6, d7, d8, d9]) (.int 2) = some (.vis (.int d2)) := rfl
    have x9 : pIx (ilst [d0, d1, d2, d3, d4, d5, d6, d7, d8, d9]) (.int 9) = some (.vis (.int d9)) := rfl
    generalize hSH : ilst [d0, d1, d2, d3, d4, d5, d6, d7, d8, d9] = SH at *
    have hpay2 := fun p q a b c d => hpay p q a b c d rfl (fun x hx => by simp at hx; rcases hx with rfl | rfl | rfl | rfl | rfl | rfl | rfl | rfl | rfl | rfl <;> omega)
    clear hSH hpay
    -- programs, places
    refine q_asg (r := .vis (.int (2 + d1 % 6))) (by walk_at "pe"; rw [x1]; walk_at "pe"; rw [pMod_int (by decide)]; walk_at "pe") rfl rfl ?_
    refine q_asg (r := .vis (.int (2 + d2 % 6))) (by walk_at "pe"; rw [x2]; walk_at "pe"; rw [pMod_int (by decide)]; walk_at "pe") rfl rfl ?_
    refine q_cut (fun e => ∃ p q : Int, (1 ≤ p ∧ p ≤ 24 ∧ 1 ≤ q ∧ q ≤ 16) ∧ e = [.val SS, .val SH, .val (.int p), .val (.int q), .non, .non, .non, .non, .non, .non, .non, .non, .non, .non, .non, .non, .non, .non, .non, .non, .non, .non, .non, .non, .non, .non, .non]) ?_ ?_
    · refine s_ifD (p := d0 < 2) (by walk_at "pe"; rw [x0]; walk_at "pe") (fun _ => ?_) fun _ => s_nil ⟨_, _, by omega, rfl⟩
      refine q_asg (r := .vis (.int (1 + d1))) (by walk_at "pe"; rw [x1]; walk_at "pe") rfl rfl ?_
      exact s_asg (r := .vis (.int (1 + d2))) (by walk_at "pe"; rw [x2]; walk_at "pe") rfl rfl ⟨_, _, by omega, rfl⟩
    rintro e ⟨p', q', hpq', rfl⟩
    refine q_cut (fun e => ∃ p q : Nat, (1 ≤ p ∧ p ≤ 24 ∧ 1 ≤ q ∧ q ≤ 16) ∧ e = [.val SS, .val SH, .val (.int (p : Int)), .val (.int (q : Int)), .non, .non, .non, .non, .non, .non, .non, .non, .non, .non, .non, .non, .non, .non, .non, .non, .non, .non, .non, .non, .non, .non, .non]) ?_ ?_
    · refine s_ifD (p := d0 = 2) (by walk_at "pe"; rw [x0]; walk_at "pe") (fun _ => ?_) fun _ => s_nil ?_
      · refine q_asg (r := .vis (.int (1 + d1 % 3))) (by walk_at "pe"; rw [x1]; walk_at "pe"; rw [pMod_int (by decide)]; walk_at "pe") rfl rfl ?_
        refine s_asg (r := .vis (.int (1 + d2 % 3))) (by walk_at "pe"; rw [x2]; walk_at "pe"; rw [pMod_int (by decide)]; walk_at "pe") rfl rfl ?_
        obtain ⟨u, hu⟩ := Int.eq_ofNat_of_zero_le (show 0 ≤ 1 + d1 % 3 by omega)
        obtain ⟨v, hv⟩ := Int.eq_ofNat_of_zero_le (show 0 ≤ 1 + d2 % 3 by omega)
        rw [hu, hv]
        exact ⟨u, v, by omega, rfl⟩
      · obtain ⟨u, rfl⟩ := Int.eq_ofNat_of_zero_le (show 0 ≤ p' by omega)
        obtain ⟨v, rfl⟩ := Int.eq_ofNat_of_zero_le (show 0 ≤ q' by omega)
        exact ⟨u, v, by omega, rfl⟩
    rintro e ⟨p, q, ⟨p1, p2, q1, q2⟩, rfl⟩
    obtain ⟨M, hM, gM⟩ := hpay2 p q (by omega) (by omega) (by omega) (by omega)
    obtain ⟨P, T, L, hL, dL⟩ := hdr2 p (by omega) (by omega)
    obtain ⟨P3, T3, L3, hL3, dL3⟩ := hdr3 q (by omega) (by omega)
    obtain ⟨bo, hB, okB⟩ := hbd (q : Int) (by omega) (by omega)
    obtain ⟨K, ck, gk, lk, bk⟩ := hkeys q (fun s hs => by rw [(List.mem_replicate.mp hs).2]; decide) (by rw [List.length_replicate]; omega)
    rw [List.length_replicate] at lk
    clear hpay2 hdr2 hdr3 hbd hkeys
    have okBo := okB.ok
    have hbq := bq_ok (n := q) (by omega) okB
    -- what follows of them
    have okR3 := okRep_of dL3
    have okRL := okRep_of dL
    have mixL := okMix_of dL (by omega) (by omega)
    have lenL := drawn_len dL
    have lenL3 := drawn_len dL3
    have tM := turn_good gM
    have okM1 : OkM M L := ⟨mixL, by rw [gM.1, lenL], q, by omega, by omega, gM.2⟩
    have okM2 : OkM (turnM M) L := ⟨mixL, by rw [tM.1, lenL], q, by omega, by omega, tM.2⟩
    have okl1 : OkLot M L3 := ⟨⟨T3, P3, okR3, dL3.nn⟩, by rw [lenL3]; exact gM.2, by rw [lenL3]; omega⟩
    have okl2 : OkLot (turnM M) L3 := ⟨⟨T3, P3, okR3, dL3.nn⟩, by rw [lenL3]; exact tM.2, by rw [lenL3]; omega⟩
    have hMne : M ≠ [] := fun e => by have := gM.1; rw [e] at this; simp at this; omega
    have htne : turnM M ≠ [] := fun e => by have := tM.1; rw [e] at this; simp at this; omega
    have hP3 : ∀ y ∈ P3, 0 ≤ y ∧ y.natAbs < 2 ^ 1900 := fun y hy => ⟨dL3.nn y hy, by
      have h1 := mem_le_sum dL3.nn hy
      rw [dL3.sum] at h1
      have h2 := okR3.sb
      have h3 := dL3.nn y hy
      omega⟩
    have hRr := rights_rng dL.len dL.nn dL.sum gM (by omega) (by omega)
    have hRt := turn_rights dL.len dL.sum gM (by omega) (by omega)
    have hRt2 := rights_rng dL.len dL.nn dL.sum tM (by omega) (by omega)
    have hmix1 := mix_eq dL (by omega) (by omega) (M := M) bo okBo
    have hmix0 := mix_eq dL (by omega) (by omega) (M := M) none (fun q e => by cases e)
    have hmix2 := mix_eq dL (by omega) (by omega) (M := turnM M) bo okBo
    obtain ⟨hRl, hRb⟩ := hRr
    have hRne : rightsF P M ≠ [] := fun e => by rw [e] at hRl; simp at hRl; omega
    have hTt : (2 : Nat) ^ 650 < 2 ^ 1900 := Nat.pow_lt_pow_right (by decide) (by decide)
    have hT0 := dL.t0
    have hTb := dL.tb
    have hTn : T.natAbs < 2 ^ 1900 := by omega
    have hT3n : T3.natAbs < 2 ^ 1900 := okR3.sb
    obtain ⟨kb0, kb1, kb2, kb3⟩ := hbq.ok
    have hcap := hbq.cap
    generalize hbb : bq bo = bb at *
    obtain ⟨B0, B1⟩ := bb
    dsimp only at kb0 kb1 kb2 kb3 hcap
    have h700 : (2 : Nat) ^ 700 < 2 ^ 1900 := Nat.pow_lt_pow_right (by decide) (by decide)
    have hB1T : (B1 * T).natAbs < 2 ^ 1350 := by
      rw [Int.natAbs_mul, show (1350 : Nat) = 700 + 650 from rfl, Nat.pow_add]
      exact Nat.mul_lt_mul'' kb3 hTb
    have h1350 : (2 : Nat) ^ 1350 < 2 ^ 1900 := Nat.pow_lt_pow_right (by decide) (by decide)
    have hB1T0 : 0 < B1 * T := Int.mul_pos kb1 hT0
    -- the least, of any rights
    have leastOk : ∀ S : List Int, S.length = q → (∀ x ∈ S, 0 ≤ x ∧ x ≤ T) → leastT S bo = dot (fillP B0 B1 q) (sortI S) ∧ leastB T bo = B1 * T ∧ 0 ≤ leastT S bo ∧ leastT S bo ≤ B1 * T ∧ F__law_exactly [lowD (leastT S bo) (leastB T bo), .int (leastT S bo), .int (leastB T bo)] = some (.bl true) := fun S hl hb => by
      have hne : S ≠ [] := fun e => by rw [e] at hl; simp at hl; omega
      obtain ⟨h1, h2⟩ := least_bq hne bo T
      rw [hbb] at h1 h2
      have h3 := least_size hbq hl hb
      rw [← h1] at h3
      dsimp only at h1 h2 h3
      refine ⟨by rw [h1, hl], h2, h3.1, h3.2, ?_⟩
      rw [h2]
      exact exact_low hB1T0 (by omega) (by omega)
    -- the steps
    refine q_asg (r := .vis (imat M)) (by walk_at "pe"; rw [show F__law_payoffs [SS, .int 1, .int (p : Int), .int (q : Int), SH] = _ from hM]; walk_at "pe") rfl rfl ?_
    refine q_asg (r := .vis (.lst [ilst P, .int T, .lst (shD false L)])) (by walk_at "pe"; rw [show F__law_drawn [SS, .int 2, .int (p : Int)] = _ from hL]; walk_at "pe") rfl rfl ?_
    refine q_asg (r := .vis (.lst [ilst P3, .int T3, .lst (shD false L3)])) (by walk_at "pe"; rw [show F__law_drawn [SS, .int 3, .int (q : Int)] = _ from hL3]; walk_at "pe") rfl rfl ?_
    refine q_asg (r := .vis (bdD false bo)) (by walk_at "pe"; rw [show F__law_bound [SS, .int 4, .int (q : Int)] = _ from hB]; walk_at "pe") rfl rfl ?_
    refine q_asg (r := .vis (ilst K)) ?_ rfl rfl ?_
    · rw [eCall_at, aCons_at, aCons_at, comp_consts (n := q) (by walk_at "pe") (by omega)]
      walk_at "pe"
      rw [ck]
      walk_at "pe"
      rw [gk]
      walk_at "pe"
    have mx0 : pIx (.lst [ilst P, .int T, .lst (shD false L)]) (.int 0) = some (.vis (ilst P)) := rfl
    have mx1 : pIx (.lst [ilst P, .int T, .lst (shD false L)]) (.int 1) = some (.vis (.int T)) := rfl
    have mx2 : pIx (.lst [ilst P, .int T, .lst (shD false L)]) (.int 2) = some (.vis (.lst (shD false L))) := rfl
    have lx0 : pIx (.lst [ilst P3, .int T3, .lst (shD false L3)]) (.int 0) = some (.vis (ilst P3)) := rfl
    have lx1 : pIx (.lst [ilst P3, .int T3, .lst (shD false L3)]) (.int 1) = some (.vis (.int T3)) := rfl
    have lx2 : pIx (.lst [ilst P3, .int T3, .lst (shD false L3)]) (.int 2) = some (.vis (.lst (shD false L3))) := rfl
    generalize hMX : Dt.lst [ilst P, .int T, .lst (shD false L)] = MX at *
    generalize hLX : Dt.lst [ilst P3, .int T3, .lst (shD false L3)] = LX at *
    show (wSeq _ _) _ [.val SS, .val SH, .val (.int (p : Int)), .val (.int (q : Int)), .val (imat M), .val MX, .val LX, .val (bdD false bo), .val (ilst K), .non, .non, .non, .non, .non, .non, .non, .non, .non, .non, .non, .non, .non, .non, .non, .non, .non, .non]
    obtain ⟨o1, o2, o3⟩ := order_ok K q
    have hO : ∀ z9 z10, eComp [24] (iSeq (e1 pSorted (eComp [23] (iRange1 (eVar 3)) (gN 23) tYes (eLst (aCons (e2 pIx (eVar 8) (eVar 23)) (aCons (eVar 23) aNil)))))) (gN 24) tYes (e2 pIx (eVar 24) (eC (.int 1)))
        [.val SS, .val SH, .val (.int (p : Int)), .val (.int (q : Int)), .val (imat M), .val MX, .val LX, .val (bdD false bo), .val (ilst K), z9, z10, .non, .non, .non, .non, .non, .non, .non, .non, .non, .non, .non, .non, .non, .non, .non, .non] = some (.fre (.lst (((((List.range q).map fun j => (K.getD j 0, (j : Int))).mergeSort lexLe).map (·.2)).map .int))) := fun z9 z10 => by
      generalize imat M = MM
      generalize bdD false bo = BD
      have inner : eComp [23] (iRange1 (eVar 3)) (gN 23) tYes (eLst (aCons (e2 pIx (eVar 8) (eVar 23)) (aCons (eVar 23) aNil))) [.val SS, .val SH, .val (.int (p : Int)), .val (.int (q : Int)), .val MM, .val MX, .val LX, .val BD, .val (ilst K), z9, z10, .non, .non, .non, .non, .non, .non, .non, .non, .non, .non, .non, .non, .non, .non, .non, .non] = some (.fre (.lst (((List.range q).map fun j => (K.getD j 0, (j : Int))).map pairD))) := by
        refine eComp_of (ds := rngD 0 q) (s := false) (by rw [rng1 (n := (q : Int)) (by walk_at "pe") (by omega), Int.toNat_natCast]) (by rw [rngD_len]; exact lim_of (by omega)) ?_
        have e : rngD 0 q = (List.range q).map fun j : Nat => Dt.int ((j : Int)) := by
          unfold rngD
          refine List.map_congr_left fun j _ => ?_
          rw [Int.zero_add]
        rw [e]
        refine compL_map (u := fun j : Nat => Dt.int (j : Int)) (f := fun j => (K.getD j 0, (j : Int))) (v := pairD) fun j hj => ?_
        have hj2 := List.mem_range.mp hj
        rw [compG_at]
        walk_at "pe"
        rw [show pIx (ilst K) (.int (j : Int)) = _ from pIx_iseq (b := false) (Int.natCast_nonneg j) (by rw [Int.toNat_natCast]; exact getD_get (by omega))]
        walk_at "pe"
        rfl
      have hne : ((List.range q).map fun j => (K.getD j 0, (j : Int))) ≠ [] := fun e => by
        have := congrArg List.length e
        simp at this
        omega
      refine eComp_of (ds := (((List.range q).map fun j => (K.getD j 0, (j : Int))).mergeSort lexLe).map pairD) (s := false) ?_ (by rw [List.length_map]; rw [List.length_map] at o1; rw [o1]; exact lim_of (by omega)) ?_
      · rw [iSeq_at, e1_at, inner]
        dsimp only [Option.bind_some, dt_fre]
        rw [pSorted_pairs hne]
        rfl
      · refine compL_map (f := fun e : Int × Int => e.2) (v := Dt.int) fun e _ => ?_
        rw [compG_at]
        unfold pairD
        walk_at "pe"
    generalize hOO : (((List.range q).map fun j => (K.getD j 0, (j : Int))).mergeSort lexLe).map (·.2) = O at *
    obtain ⟨f1, hf1, _⟩ := filled_at (O := O) (b0 := 1) (b1 := 1) o2 (fun o ho => by rw [o1]; exact o3 o ho) (by omega) (by decide) (by decide) (by rw [o1]; omega)
    obtain ⟨f2, hf2, ff2⟩ := filled_at (O := O) (b0 := B0) (b1 := B1) o2 (fun o ho => by rw [o1]; exact o3 o ho) (by omega) kb0 (Int.le_of_lt kb1) (by rw [o1]; exact hcap)
    rw [o1] at ff2
    refine q_asg (r := .vis (ilst f1)) ?_ rfl rfl ?_
    · rw [eCall_at, aCons_at, hO]
      walk_at "pe"
      rw [show F__law_filled [.lst (O.map .int), .lst [.int 1, .int 1]] = _ from hf1]
      walk_at "pe"
    refine q_asg (r := .vis (.int 1)) (by walk_at "pe") rfl rfl ?_
    refine q_cut (fun e => e = [.val SS, .val SH, .val (.int (p : Int)), .val (.int (q : Int)), .val (imat M), .val MX, .val LX, .val (bdD false bo), .val (ilst K), .val (ilst f2), .val (.int B1), .non, .non, .non, .non, .non, .non, .non, .non, .non, .non, .non, .non, .non, .non, .non, .non]) ?_ ?_
    · cases bo with
      | none =>
        have eb : (1, 1) = (B0, B1) := hbb
        injection eb with eb0 eb1
        subst eb0 eb1
        rw [hf1] at hf2
        refine s_if (c := false) rfl (fun e => by cases e) fun _ => s_nil ?_
        have e3 : ilst f1 = ilst f2 := Option.some.inj hf2
        show [_, _, _, _, _, _, _, _, _, Slot.val (ilst f1), _, _, _, _, _, _, _, _, _, _, _, _, _, _, _, _, _] = _
        rw [e3]
        rfl
      | some b =>
        obtain ⟨b0, b1⟩ := b
        have eb : (b0, b1) = (B0, B1) := hbb
        injection eb with eb0 eb1
        subst eb0 eb1
        refine s_if (c := true) rfl (fun _ => ?_) fun e => by cases e
        refine q_asg (r := .vis (.int b1)) (by show (e2 pIx (eVar 7) _) [.val SS, .val SH, .val (.int (p : Int)), .val (.int (q : Int)), .val (imat M), .val MX, .val LX, .val (.lst [.int b0, .int b1]), .val (ilst K), .val (ilst f1), .val (.int 1), .non, .non, .non, .non, .non, .non, .non, .non, .non, .non, .non, .non, .non, .non, .non, .non] = _; walk_at "pe") rfl rfl ?_
        refine s_asg (r := .vis (ilst f2)) ?_ rfl rfl rfl
        show (eCall F__law_filled _) [.val SS, .val SH, .val (.int (p : Int)), .val (.int (q : Int)), .val (imat M), .val MX, .val LX, .val (bdD false (some (b0, b1))), .val (ilst K), .val (ilst f1), .val (.int b1), .non, .non, .non, .non, .non, .non, .non, .non, .non, .non, .non, .non, .non, .non, .non, .non] = _
        rw [eCall_at, aCons_at, hO]
        walk_at "pe"
        rw [show F__law_filled [.lst (O.map .int), bdD false (some (b0, b1))] = _ from hf2]
        walk_at "pe"
    rintro e rfl
    clear hO hf1 hf2 hOO o1 o2 o3 ck gk bk
    -- the bound's data: nothing but a name from here on
    have hlt1 := told_at (way := d9) okl1 (by rw [gM.1]; omega)
    have hlt2 := told_at (way := d9) okl2 (by rw [tM.1]; omega)
    have hmt1 := mixt_at (way := d9) okM1 okBo
    have hmt0 := mixt_at (way := 3 - d9) (q := none) okM1 (fun q e => by cases e)
    have hmt2 := mixt_at (way := d9) okM2 okBo
    rw [hmix1] at hmt1
    rw [hmix0] at hmt0
    rw [hmix2] at hmt2
    -- the lot of the shares that are filled
    have hfnn : ∀ y ∈ f2, 0 ≤ y := fun y hy => (ff2.rng y hy).1
    have hfab : ∀ y ∈ f2, 0 ≤ y ∧ y.natAbs < 2 ^ 1900 := fun y hy => ⟨hfnn y hy, by have := ff2.rng y hy; omega⟩
    have repF : Rep B1 (f2.map fun x => (x, B1)) f2 := by
      have : ∀ l : List Int, Rep B1 (l.map fun x => (x, B1)) l := fun l => by
        induction l with
        | nil => exact .nil
        | cons x l ih => exact .cons rfl ih
      exact this f2
    have okF : OkRep (f2.map fun x => (x, B1)) B1 f2 := by
      refine ⟨repF, kb1, by omega, fun e he => ?_, ?_⟩
      · obtain ⟨x, hx, rfl⟩ := List.mem_map.mp he
        exact ⟨kb1, by show B1.natAbs < _; omega, (hfab x hx).2⟩
      · have e : ((f2.map Int.natAbs).sum : Int) = f2.sum := by
          have : ∀ l : List Int, (∀ x ∈ l, 0 ≤ x) → ((l.map Int.natAbs).sum : Int) = l.sum := fun l => by
            induction l with
            | nil => exact fun _ => rfl
            | cons x l ih =>
              intro h
              rw [List.map_cons, List.sum_cons, List.sum_cons, Int.natCast_add, ih fun y hy => h y (List.mem_cons_of_mem _ hy)]
              have := h x List.mem_cons_self
              omega
          exact this f2 hfnn
        rw [ff2.sum] at e
        omega
    have lenF : (f2.map fun x => (x, B1)).length = q := by rw [List.length_map, ff2.len]
    have oklF : OkLot M (f2.map fun x => (x, B1)) := ⟨⟨B1, f2, okF, hfnn⟩, by rw [lenF]; exact gM.2, by rw [lenF]; omega⟩
    have hltF := fun way => told_at (way := way) oklF (by rw [gM.1]; omega)
    have hv1 : pD (lotV M L3) = lowD (maxI (M.map (dot P3))) T3 := by rw [lotV_eq okR3 (by rw [lenL3]; exact gM.2)]; rfl
    have hv2 : pD (lotV (turnM M) L3) = lowD (maxI ((turnM M).map (dot P3))) T3 := by rw [lotV_eq okR3 (by rw [lenL3]; exact tM.2)]; rfl
    have hvF : pD (lotV M (f2.map fun x => (x, B1))) = lowD (maxI (M.map (dot f2))) B1 := by rw [lotV_eq okF (by rw [lenF]; exact gM.2)]; rfl
    rw [hv1] at hlt1
    rw [hv2] at hlt2
    rw [hvF] at hltF
    have hb1 := lots_bound dL3.nn dL3.len dL3.sum gM.2
    have hb2 := lots_bound dL3.nn dL3.len dL3.sum tM.2
    have hbF := lots_bound hfnn ff2.len ff2.sum gM.2
    have hmr1 := most_at hMne (by rw [gM.1]; omega) (by rw [dL3.len]; omega) (by rw [dL3.len]; exact gM.2) hP3
    have hmr2 := most_at htne (by rw [tM.1]; omega) (by rw [dL3.len]; omega) (by rw [dL3.len]; exact tM.2) hP3
    have hmrF := most_at hMne (by rw [gM.1]; omega) (by rw [ff2.len]; omega) (by rw [ff2.len]; exact gM.2) hfab
    have hex1 := exact_low (G := maxI (M.map (dot P3))) (T := T3) dL3.t0 (by omega) hT3n
    have hex2 := exact_low (G := maxI ((turnM M).map (dot P3))) (T := T3) dL3.t0 (by omega) hT3n
    have hexF := exact_low (G := maxI (M.map (dot f2))) (T := B1) kb1 (by omega) (by omega)
    obtain ⟨hl1, hl2, hl3, hl4, hl5⟩ := leastOk _ hRl hRb
    obtain ⟨ht1, ht2, ht3, ht4, ht5⟩ := leastOk _ hRt2.1 hRt2.2
    have hfl1 := least_at (B := T) (q := bo) hRne (by omega) (fun y hy => by have := hRb y hy; omega) hTn okBo
    have hRtne : rightsF P (turnM M) ≠ [] := fun e => by have := hRt2.1; rw [e] at this; simp at this; omega
    have hfl2 := least_at (B := T) (q := bo) hRtne (by omega) (fun y hy => by have := hRt2.2 y hy; omega) hTn okBo
    rw [hRt] at hfl2
    have hmin := foldmin_eq hRne
    have hex0 : F__law_exactly [lowD (leastT (rightsF P M) none) (leastB T none), .int ((sortI (rightsF P M)).getD 0 0), .int T] = some (.bl true) := by
      have hz : sortI (rightsF P M) ≠ [] := fun e => by
        have := sortI_len (rightsF P M)
        rw [e] at this
        exact hRne (List.length_eq_zero_iff.mp this.symm)
      have hm : (sortI (rightsF P M)).getD 0 0 ∈ rightsF P M := by
        generalize hZ : sortI (rightsF P M) = Z at *
        cases Z with
        | nil => exact absurd rfl hz
        | cons z Z => exact sortI_mem (by rw [hZ]; exact List.mem_cons_self)
      have := hRb _ hm
      exact exact_low (G := (sortI (rightsF P M)).getD 0 0) hT0 (by omega) hTn
    -- the middle between them
    have hmid1 : leastT (rightsF P M) bo ≤ dot (rightsF P M) f2 := by
      rw [hl1, dot_comm (rightsF P M) f2, ← hRl]
      exact least_feasible kb0 (Int.le_of_lt kb1) (by rw [hRl]; exact hcap) (by rw [ff2.len, hRl]) ff2.rng ff2.sum
    have hmid2 : dot (rightsF P M) f2 ≤ T * maxI (M.map (dot f2)) := by
      rw [rights_dot (n := q) ff2.len (by rw [dL.len, gM.1]) (fun r hr => (gM.2 r hr).1) hMne, ← dL.sum]
      refine dot_le dL.nn (by rw [List.length_map, dL.len, gM.1]) fun y hy => ?_
      obtain ⟨row, hr, rfl⟩ := List.mem_map.mp hy
      rw [dot_comm]
      exact maxI_le (List.mem_map.mpr ⟨row, hr, rfl⟩)
    have hmid0 : 0 ≤ dot (rightsF P M) f2 := dot_nn (fun x hx => (hRb x hx).1) hfnn
    have hmidb : dot (rightsF P M) f2 ≤ T * B1 := by
      have : T * maxI (M.map (dot f2)) ≤ T * B1 := Int.mul_le_mul_of_nonneg_left hbF.2 (Int.le_of_lt hT0)
      omega
    -- the right numbers as the law reckons them
    have hPi : ∀ i, i < p → pIx (ilst P) (.int (i : Int)) = some (.vis (.int (P.getD i 0))) := fun i hi => pIx_iseq (b := false) (Int.natCast_nonneg i) (by rw [Int.toNat_natCast]; exact getD_get (by rw [dL.len]; exact hi))
    have hPb : ∀ i, i < p → (P.getD i 0).natAbs < 2 ^ 1900 := fun i hi => by
      have h1 := getD_mem (l := P) (j := i) (by rw [dL.len]; exact hi)
      have h2 := dL.nn _ h1
      have h3 := mem_le_sum dL.nn h1
      rw [dL.sum] at h3
      omega
    have hMi : ∀ i, i < p → ∃ r, pIx (imat M) (.int (i : Int)) = some (.vis (ilst r)) ∧ M[i]? = some r ∧ r.length = q ∧ ∀ b ∈ r, 0 ≤ b ∧ b ≤ 1 := fun i hi => by
      obtain ⟨r, hr, h1, h2⟩ := good_row gM hi
      exact ⟨r, pIx_imatS (b := false) (Int.natCast_nonneg i) (by rw [Int.toNat_natCast]; exact hr), hr, h1, h2⟩
    generalize hR : rightsF P M = R at *
    have hRj : ∀ j, j < q → ((List.range p).map fun i => P.getD i 0 * (M.getD i []).getD j 0).sum = R.getD j 0 := fun j hj => by
      have hg := rights_get (P := P) (M := M) (by rw [dL.len, gM.1]) (fun r hr => (gM.2 r hr).1) hMne hj
      rw [hR] at hg
      rw [hg, ← sum_getD P (M.map fun row => row.getD j 0) (by rw [List.length_map, gM.1, dL.len]), List.length_map, gM.1]
      congr 1
      refine List.map_congr_left fun i hi => ?_
      have hi2 : i < M.length := by rw [gM.1]; exact List.mem_range.mp hi
      congr 1
      simp [List.getD_eq_getElem?_getD, List.getElem?_map, List.getElem?_eq_getElem hi2]
    generalize hMM : imat M = MM at *
    generalize hBD : bdD false bo = BD at *
    have hturn : ∀ z9 z10 z11 z12 z13 z14 z15 z16, eComp [22] (iSeq (eVar 4)) (gN 22) tYes (eComp [25] (iSeq (eVar 22)) (gN 25) tYes (e2 pSub (eC (.int 1)) (eVar 25)))
        [.val SS, .val SH, .val (.int (p : Int)), .val (.int (q : Int)), .val MM, .val MX, .val LX, .val BD, .val (ilst K), z9, z10, z11, z12, z13, z14, z15, z16, .non, .non, .non, .non, .non, .non, .non, .non, .non, .non] = some (.fre (.lst ((turnM M).map ilst))) := fun z9 z10 z11 z12 z13 z14 z15 z16 => by
      refine eComp_of (ds := M.map ilst) (s := false) (by rw [← hMM]; rfl) (by rw [List.length_map, gM.1]; exact lim_of (by omega)) ?_
      unfold turnM
      refine compL_map (f := fun r : List Int => r.map (1 - ·)) (v := ilst) fun r hr => ?_
      have hl := (gM.2 r hr).1
      have inner : eComp [25] (iSeq (eVar 22)) (gN 25) tYes (e2 pSub (eC (.int 1)) (eVar 25)) [.val SS, .val SH, .val (.int (p : Int)), .val (.int (q : Int)), .val MM, .val MX, .val LX, .val BD, .val (ilst K), z9, z10, z11, z12, z13, z14, z15, z16, .non, .non, .non, .non, .non, .val (ilst r), .non, .non, .non, .non] = some (.fre (.lst ((r.map (1 - ·)).map .int))) := by
        refine eComp_of (ds := r.map .int) (s := false) rfl (by rw [List.length_map]; exact lim_of (by omega)) (compL_map (f := fun x : Int => 1 - x) (v := Dt.int) fun x hx => ?_)
        generalize ilst r = RR
        rw [compG_at]
        walk_at "pe"
      rw [compG_at, gN_at]
      simp (config := { implicitDefEqProofs := false }) only [wipeS_cons, wipeS_nil, List.set_cons_succ, List.set_cons_zero, Option.bind_some, tYes_at, if_true]
      rw [inner]
      rfl
    generalize hPP : ilst P = PP at *
    refine q_asg (r := .vis (.int d9)) (by walk_at "pe"; rw [x9]) rfl rfl ?_
    refine q_if (c := false) ?_ (fun e => by cases e) fun _ => s_nil ?_
    · walk_at "pe"
      rw [lx2, lx0, lx1]
      walk_at "pe"
      rw [hlt1, hmr1]
      walk_at "pe"
      rw [hex1]
      walk_at "pe"
    refine q_asg (r := .fre (.lst (R.map .int))) ?_ rfl rfl ?_
    · rw [comp_rng (n := q) (f := fun j => R.getD j 0) (by walk_at "pe") (by omega) fun j hj => ?_]
      · congr 3
        refine congrArg (List.map Dt.int) (List.ext_getElem (by rw [List.length_map, List.length_range, hRl]) fun j h1 h2 => ?_)
        rw [List.getElem_map, List.getElem_range, List.getD_eq_getElem?_getD, List.getElem?_eq_getElem h2]
        rfl
      · rw [e1_at, comp_rng (n := p) (f := fun i => P.getD i 0 * (M.getD i []).getD j 0) (by walk_at "pe") (by omega) fun i hi => ?_]
        · dsimp only [Option.bind_some, dt_fre]
          rw [pSum_ints, hRj j hj]
        · obtain ⟨r, hr1, hr2, hr3, hr4⟩ := hMi i hi
          have hbit := hr4 _ (getD_mem (l := r) (j := j) (by rw [hr3]; exact hj))
          have hMg : M.getD i [] = r := by rw [List.getD_eq_getElem?_getD, hr2]; rfl
          walk_at "pe"
          rw [mx0]
          walk_at "pe"
          rw [hPi i hi, hr1]
          walk_at "pe"
          rw [show pIx (ilst r) (.int (j : Int)) = _ from pIx_iseq (b := false) (Int.natCast_nonneg j) (by rw [Int.toNat_natCast]; exact getD_get (by rw [hr3]; exact hj))]
          walk_at "pe"
          rw [pMul_int (big_lt (hPb i hi)) (big64 (by omega) (by omega)), hMg]
    refine q_frz rfl rfl ?_
    show (wSeq _ _) _ [.val SS, .val SH, .val (.int (p : Int)), .val (.int (q : Int)), .val MM, .val MX, .val LX, .val BD, .val (ilst K), .val (ilst f2), .val (.int B1), .val (.int d9), .val (ilst R), .non, .non, .non, .non, .non, .non, .non, .non, .non, .non, .non, .non, .non, .non]
    refine q_asg (r := .vis (.lst [.int (leastT R bo), .int (leastB T bo)])) (by walk_at "pe"; rw [mx1]; walk_at "pe"; rw [hfl1]; rfl) rfl rfl ?_
    refine q_asg (r := .vis (lowD (leastT R bo) (leastB T bo))) (by walk_at "pe"; rw [mx2]; walk_at "pe"; rw [hmt1]; walk_at "pe") rfl rfl ?_
    refine q_if (c := false) ?_ (fun e => by cases e) fun _ => s_nil ?_
    · walk_at "pe"
      rw [hl5]
      walk_at "pe"
    refine q_if (c := false) ?_ (fun e => by cases e) fun _ => s_nil ?_
    · walk_at "pe"
      rw [mx2, mx1]
      walk_at "pe"
      rw [show F__law_mix_told [MM, .lst (shD false L), .non, .int (3 - d9)] = _ from hmt0, hmin]
      walk_at "pe"
      rw [hex0]
      walk_at "pe"
    refine q_asg (r := .fre (.lst (shD false (f2.map fun x => (x, B1))))) ?_ rfl rfl ?_
    · refine eComp_of (ds := f2.map .int) (s := false) rfl (by rw [List.length_map, ff2.len]; exact lim_of (by omega)) ?_
      unfold shD
      rw [List.map_map]
      refine (compL_map (f := fun x : Int => x) (v := fun x : Int => ilst [x, B1]) fun x hx => ?_).trans (by rw [List.map_id']; rfl)
      generalize ilst f2 = FF
      generalize ilst R = RR
      generalize lowD (leastT R bo) (leastB T bo) = LL
      rw [compG_at]
      walk_at "pe"
      rfl
    refine q_frz rfl rfl ?_
    generalize hFS : shD false (f2.map fun x => (x, B1)) = FS at *
    show (wSeq _ _) _ [.val SS, .val SH, .val (.int (p : Int)), .val (.int (q : Int)), .val MM, .val MX, .val LX, .val BD, .val (ilst K), .val (ilst f2), .val (.int B1), .val (.int d9), .val (ilst R), .val (.lst [.int (leastT R bo), .int (leastB T bo)]), .val (lowD (leastT R bo) (leastB T bo)), .val (.lst FS), .non, .non, .non, .non, .non, .non, .non, .non, .non, .non, .non]
    refine q_asg (r := .vis (lowD (maxI (M.map (dot f2))) B1)) (by walk_at "pe"; rw [pMod_int (by decide)]; walk_at "pe"; rw [hltF]; walk_at "pe") rfl rfl ?_
    refine q_if (c := false) ?_ (fun e => by cases e) fun _ => s_nil ?_
    · walk_at "pe"
      rw [hmrF]
      walk_at "pe"
      rw [hexF]
      walk_at "pe"
    refine q_asg (r := .fre (.lst ((turnM M).map ilst))) (hturn _ _ _ _ _ _ _ _) rfl rfl ?_
    refine q_frz rfl rfl ?_
    have htm : Dt.lst ((turnM M).map ilst) = imat (turnM M) := rfl
    show (wSeq _ _) _ [.val SS, .val SH, .val (.int (p : Int)), .val (.int (q : Int)), .val MM, .val MX, .val LX, .val BD, .val (ilst K), .val (ilst f2), .val (.int B1), .val (.int d9), .val (ilst R), .val (.lst [.int (leastT R bo), .int (leastB T bo)]), .val (lowD (leastT R bo) (leastB T bo)), .val (.lst FS), .val (lowD (maxI (M.map (dot f2))) B1), .val (imat (turnM M)), .non, .non, .non, .non, .non, .non, .non, .non, .non]
    generalize hTM : imat (turnM M) = TM at *
    refine q_if (c := false) ?_ (fun e => by cases e) fun _ => s_nil ?_
    · walk_at "pe"
      rw [lx2, lx0, lx1]
      walk_at "pe"
      rw [hlt2, hmr2]
      walk_at "pe"
      rw [hex2]
      walk_at "pe"
    refine q_asg (r := .vis (.lst [.int (leastT (R.map (T - ·)) bo), .int (leastB T bo)])) ?_ rfl rfl ?_
    · rw [eCall_at, aCons_at, eComp_of (ds := R.map .int) (s := false) (out := (R.map (T - ·)).map .int) rfl (by rw [List.length_map, hRl]; exact lim_of (by omega)) (compL_map (f := fun x : Int => T - x) (v := Dt.int) fun x hx => ?_)]
      · walk_at "pe"
        rw [mx1]
        walk_at "pe"
        rw [show F__law_least [.lst ((R.map (T - ·)).map .int), .int T, BD] = _ from hfl2]
        rfl
      · generalize ilst R = RR
        generalize ilst f2 = FF
        rw [compG_at]
        walk_at "pe"
        rw [mx1]
        walk_at "pe"
    rw [hRt] at ht5 hmt2
    refine q_if (c := false) ?_ (fun e => by cases e) fun _ => s_nil ?_
    · walk_at "pe"
      rw [mx2]
      walk_at "pe"
      rw [hmt2]
      walk_at "pe"
      rw [ht5]
      walk_at "pe"
    refine q_asg (r := .vis (.int (dot R f2))) ?_ rfl rfl ?_
    · rw [e1_at, comp_rng (n := q) (f := fun j => R.getD j 0 * f2.getD j 0) (by walk_at "pe") (by omega) fun j hj => ?_]
      · dsimp only [Option.bind_some, dt_fre]
        have := sum_getD R f2 (by rw [ff2.len, hRl])
        rw [ff2.len] at this
        rw [pSum_ints, this]
      · have hr1 := hRb _ (getD_mem (l := R) (j := j) (by rw [hRl]; exact hj))
        have hr2 := hfab _ (getD_mem (l := f2) (j := j) (by rw [ff2.len]; exact hj))
        have g1 : pIx (ilst R) (.int (j : Int)) = some (.vis (.int (R.getD j 0))) := pIx_iseq (b := false) (Int.natCast_nonneg j) (by rw [Int.toNat_natCast]; exact getD_get (by rw [hRl]; exact hj))
        have g2 : pIx (ilst f2) (.int (j : Int)) = some (.vis (.int (f2.getD j 0))) := pIx_iseq (b := false) (Int.natCast_nonneg j) (by rw [Int.toNat_natCast]; exact getD_get (by rw [ff2.len]; exact hj))
        generalize ilst R = RR at *
        generalize ilst f2 = FF at *
        walk_at "pe"
        rw [g1, g2]
        walk_at "pe"
        rw [pMul_int (big_lt (n := 1900) (by omega)) (big_lt hr2.2)]
    -- the last comparison
    have tp := low_pos (a := leastT R bo) (b := leastB T bo) (by rw [hl2]; exact hB1T0)
    have tc := low_cross (a := leastT R bo) (b := leastB T bo) (by rw [hl2]; exact hB1T0)
    have ta := low_abs (a := leastT R bo) (b := leastB T bo) (by rw [hl2]; exact hB1T0)
    have gp := low_pos (a := maxI (M.map (dot f2))) kb1
    have gc := low_cross (a := maxI (M.map (dot f2))) kb1
    have ga := low_abs (a := maxI (M.map (dot f2))) kb1
    have hmb : (T * B1).natAbs < 2 ^ 1350 := by rw [Int.mul_comm]; exact hB1T
    rw [hl2] at tc ta tp
    refine q_if (c := false) ?_ (fun e => by cases e) fun _ => s_nil ?_
    · rw [hl2]
      have hta : (lowT (leastT R bo) (B1 * T)).natAbs < 2 ^ 1900 := Nat.lt_of_le_of_lt ta.1 (by omega)
      have htb : (lowB (leastT R bo) (B1 * T)).natAbs < 2 ^ 1900 := Nat.lt_of_le_of_lt ta.2 (by omega)
      have hga : (lowT (maxI (M.map (dot f2))) B1).natAbs < 2 ^ 1900 := Nat.lt_of_le_of_lt ga.1 (by omega)
      have hgb : (lowB (maxI (M.map (dot f2))) B1).natAbs < 2 ^ 1900 := Nat.lt_of_le_of_lt ga.2 (by omega)
      have hm1 : (dot R f2).natAbs < 2 ^ 1900 := by omega
      unfold lowD
      generalize hG : maxI (M.map (dot f2)) = G at *
      generalize hLt : leastT R bo = Lt at *
      generalize hmd : dot R f2 = md at *
      have ineq1 : lowT Lt (B1 * T) * T * B1 ≤ md * lowB Lt (B1 * T) := by
        calc lowT Lt (B1 * T) * T * B1 = lowT Lt (B1 * T) * (B1 * T) := by ac_rfl
          _ = Lt * lowB Lt (B1 * T) := tc
          _ ≤ md * lowB Lt (B1 * T) := Int.mul_le_mul_of_nonneg_right hmid1 (Int.le_of_lt tp)
      have ineq2 : md * lowB G B1 ≤ lowT G B1 * T * B1 := by
        calc md * lowB G B1 ≤ (T * G) * lowB G B1 := Int.mul_le_mul_of_nonneg_right hmid2 (Int.le_of_lt gp)
          _ = T * (G * lowB G B1) := by ac_rfl
          _ = T * (lowT G B1 * B1) := by rw [gc]
          _ = lowT G B1 * T * B1 := by ac_rfl
      have s1 : (lowT Lt (B1 * T) * T).natAbs < 2 ^ 3800 := by
        rw [Int.natAbs_mul, show (3800 : Nat) = 1900 + 1900 from rfl, Nat.pow_add]
        exact Nat.mul_lt_mul'' hta hTn
      have s2 : (lowT G B1 * T).natAbs < 2 ^ 3800 := by
        rw [Int.natAbs_mul, show (3800 : Nat) = 1900 + 1900 from rfl, Nat.pow_add]
        exact Nat.mul_lt_mul'' hga hTn
      walk_at "pe"
      rw [mx1]
      walk_at "pe"
      rw [pMul_int (big_lt hta) (big_lt hTn), pMul_int (big_lt hm1) (big_lt htb), pMul_int (big_lt hm1) (big_lt hgb), pMul_int (big_lt hga) (big_lt hTn)]
      walk_at "pe"
      rw [pMul_int (big_lt s1) (big_lt (n := 1900) (by omega)), pMul_int (big_lt s2) (big_lt (n := 1900) (by omega))]
      walk_at "pe"
      rw [decide_eq_false (by omega), if_neg (by omega)]
    refine s_ret (r := .vis (.bl true)) ?_ rfl rfl rfl
    walk_at "pe"
    rw [mx2]
    walk_at "pe"
    rw [hmt1]
    walk_at "pe"
    rw [hl5]
    walk_at "pe"
end Pyl
end
section
set_option Elab.async false
set_option linter.all false
set_option maxRecDepth 100000
set_option maxHeartbeats 2000000
namespace Pyl
open PySem L2

/-! ### what a value denotes -/
mutual
inductive Den (K : PySem.W.Frag) (cm : Nat → Addr) (G : Hp) : V → Dt → Prop
  | non : Den K cm G .non .non
  | bl (b : Bool) : Den K cm G (.bl b) (.bl b)
  | int (i : Int) : Den K cm G (.int i) (.int i)
  | str (x : Str) : Den K cm G (.str x) (.str x)
  | lst {a : Addr} {vs : List V} {ds : List Dt} : SqL K G a vs → DenL K cm G vs ds → Den K cm G (.ref a) (.lst ds)
  | tup {a : Addr} {vs : List V} {ds : List Dt} : SqT K G a vs → DenL K cm G vs ds → Den K cm G (.ref a) (.tup ds)
  | obj {a dx : Addr} {c : Nat} {fv : List (Str × V)} {fs : List (Str × Dt)} : G a = some (.ins (cm c) dx fv) → DenF K cm G fv fs → Den K cm G (.ref a) (.obj c fs)
inductive DenL (K : PySem.W.Frag) (cm : Nat → Addr) (G : Hp) : List V → List Dt → Prop
  | nil : DenL K cm G [] []
  | cons {v : V} {vs : List V} {d : Dt} {ds : List Dt} : Den K cm G v d → DenL K cm G vs ds → DenL K cm G (v :: vs) (d :: ds)
inductive DenF (K : PySem.W.Frag) (cm : Nat → Addr) (G : Hp) : List (Str × V) → List (Str × Dt) → Prop
  | nil : DenF K cm G [] []
  | cons {x : Str} {v : V} {vs : List (Str × V)} {d : Dt} {ds : List (Str × Dt)} : Den K cm G v d → DenF K cm G vs ds → DenF K cm G ((x, v) :: vs) ((x, d) :: ds)
end

def Exx (H H' : Hp) : Prop := ∀ a o, H a = some o → H' a = some o
theorem Exx.refl (H : Hp) : Exx H H := fun _ _ h => h
theorem Exx.trans {H H1 H2 : Hp} (a : Exx H H1) (b : Exx H1 H2) : Exx H H2 := fun x o h => b x o (a x o h)
theorem Exx.new {H : Hp} {p : Addr} {o : HO} (h : H p = none) : Exx H (upd H p o) := fun a u e => by
  rw [upd_ne (ne_of_none e h)]
  exact e
theorem Exx.rd {H H' : Hp} {a : Addr} {u : HO} (e : Exx H H') (h : Rd H a u) : Rd H' a u := by
  rcases h with h | ⟨o, h⟩
  · exact Or.inl (e a _ h)
  · exact Or.inr ⟨o, e a _ h⟩
theorem Exx.sqL {K : PySem.W.Frag} {H H' : Hp} {a : Addr} {xs : List V} (e : Exx H H') (h : SqL K H a xs) : SqL K H' a xs := by
  rcases h with h | h
  · exact Or.inl (e.rd h)
  · exact Or.inr h
theorem Exx.sqT {K : PySem.W.Frag} {H H' : Hp} {a : Addr} {xs : List V} (e : Exx H H') (h : SqT K H a xs) : SqT K H' a xs := by
  rcases h with h | h
  · exact Or.inl (e.rd h)
  · exact Or.inr h
theorem Exx.back {H H' : Hp} {p : Addr} (e : Exx H H') (h : H' p = none) : H p = none := by
  cases h1 : H p with
  | none => rfl
  | some o =>
    rw [e p o h1] at h
    cases h
section
variable {K : PySem.W.Frag} {cm : Nat → Addr} {G G' : Hp}
mutual
theorem Den.mono (e : Exx G G') : ∀ {v : V} {d : Dt}, Den K cm G v d → Den K cm G' v d
  | _, _, .non => .non
  | _, _, .bl b => .bl b
  | _, _, .int i => .int i
  | _, _, .str x => .str x
  | _, _, .lst h l => .lst (e.sqL h) (DenL.mono e l)
  | _, _, .tup h l => .tup (e.sqT h) (DenL.mono e l)
  | _, _, .obj h l => .obj (e _ _ h) (DenF.mono e l)
theorem DenL.mono (e : Exx G G') : ∀ {vs : List V} {ds : List Dt}, DenL K cm G vs ds → DenL K cm G' vs ds
  | _, _, .nil => .nil
  | _, _, .cons h t => .cons (Den.mono e h) (DenL.mono e t)
theorem DenF.mono (e : Exx G G') : ∀ {vs : List (Str × V)} {ds : List (Str × Dt)}, DenF K cm G vs ds → DenF K cm G' vs ds
  | _, _, .nil => .nil
  | _, _, .cons h t => .cons (Den.mono e h) (DenF.mono e t)
end
theorem DenL.length : ∀ {vs : List V} {ds : List Dt}, DenL K cm G vs ds → vs.length = ds.length
  | _, _, .nil => rfl
  | _, _, .cons _ t => by rw [List.length_cons, List.length_cons, DenL.length t]
theorem DenL.get : ∀ {vs : List V} {ds : List Dt} {i : Nat} {d : Dt}, DenL K cm G vs ds → ds[i]? = some d → ∃ v, vs[i]? = some v ∧ Den K cm G v d
  | _, _, _, _, .nil, e => by simp at e
  | _, _, 0, _, .cons h t, e => by simp at e; subst e; exact ⟨_, rfl, h⟩
  | _, _, i + 1, d, .cons h t, e => by
    obtain ⟨v, h1, h2⟩ := DenL.get (i := i) (d := d) t (by simpa using e)
    exact ⟨v, by simpa using h1, h2⟩
theorem DenL.get' : ∀ {vs : List V} {ds : List Dt} {i : Nat} {v : V}, DenL K cm G vs ds → vs[i]? = some v → ∃ d, ds[i]? = some d ∧ Den K cm G v d
  | _, _, _, _, .nil, e => by simp at e
  | _, _, 0, _, .cons h t, e => by simp at e; subst e; exact ⟨_, rfl, h⟩
  | _, _, i + 1, d, .cons h t, e => by
    obtain ⟨v, h1, h2⟩ := DenL.get' (i := i) (v := d) t (by simpa using e)
    exact ⟨v, by simpa using h1, h2⟩
theorem DenL.append : ∀ {vs ws : List V} {ds es : List Dt}, DenL K cm G vs ds → DenL K cm G ws es → DenL K cm G (vs ++ ws) (ds ++ es)
  | _, _, _, _, .nil, s => s
  | _, _, _, _, .cons h t, s => .cons h (DenL.append t s)
theorem DenL.take : ∀ {vs : List V} {ds : List Dt} (n : Nat), DenL K cm G vs ds → DenL K cm G (vs.take n) (ds.take n)
  | _, _, 0, _ => .nil
  | _, _, n + 1, .nil => .nil
  | _, _, n + 1, .cons h t => .cons h (DenL.take n t)
theorem DenL.drop : ∀ {vs : List V} {ds : List Dt} (n : Nat), DenL K cm G vs ds → DenL K cm G (vs.drop n) (ds.drop n)
  | _, _, 0, r => r
  | _, _, n + 1, .nil => .nil
  | _, _, n + 1, .cons _ t => DenL.drop n t
theorem DenL.set {v : V} {d : Dt} (h : Den K cm G v d) : ∀ {vs : List V} {ds : List Dt} (n : Nat), DenL K cm G vs ds → DenL K cm G (vs.set n v) (ds.set n d)
  | _, _, _, .nil => .nil
  | _, _, 0, .cons _ t => .cons h t
  | _, _, n + 1, .cons q t => .cons q (DenL.set h n t)
theorem DenL.one {v : V} {d : Dt} (h : Den K cm G v d) : DenL K cm G [v] [d] := .cons h .nil
end

/-! ### growth -/
structure Grow (H G H' G' : Hp) : Prop where
  hx : Exx H H'
  gx : Exx G G'
  hid : ∀ a o, H a = some o → G a = none → G' a = none
  sub : Exx G' H'
theorem Grow.refl {H G : Hp} (s : Exx G H) : Grow H G H G := ⟨.refl _, .refl _, fun _ _ _ h => h, s⟩
theorem Grow.trans {H G H1 G1 H2 G2 : Hp} (a : Grow H G H1 G1) (b : Grow H1 G1 H2 G2) : Grow H G H2 G2 :=
  ⟨a.hx.trans b.hx, a.gx.trans b.gx, fun x o h n => b.hid x o (a.hx x o h) (a.hid x o h n), b.sub⟩
/-- a new object, seen by all -/
theorem Grow.new {H G : Hp} {p : Addr} {o : HO} (s : Exx G H) (h : H p = none) : Grow H G (upd H p o) (upd G p o) :=
  ⟨.new h, .new (s.back h), fun a u e n => by rw [upd_ne (ne_of_none e h)]; exact n, fun a u e => by
    by_cases q : a = p
    · subst q; rw [upd_same] at e ⊢; exact e
    · rw [upd_ne q] at e ⊢; exact s a u e⟩
/-- a new object, seen by none -/
theorem Grow.hide {H G : Hp} {p : Addr} {o : HO} (s : Exx G H) (h : H p = none) : Grow H G (upd H p o) G :=
  ⟨.new h, .refl _, fun _ _ _ n => n, fun a u e => by rw [upd_ne (ne_of_none (s a u e) h)]; exact s a u e⟩
/-- what was hidden and new is shown -/
theorem Grow.show {H G H' G' : Hp} {p : Addr} {o : HO} (g : Grow H G H' G') (n : H p = none) (e : H' p = some o) (z : G' p = none) : Grow H G H' (upd G' p o) :=
  ⟨g.hx, fun a u q => by rw [upd_ne (ne_of_none (g.gx a u q) z)]; exact g.gx a u q, fun a u q w => by rw [upd_ne (ne_of_none q n)]; exact g.hid a u q w, fun a u q => by
    by_cases k : a = p
    · subst k; rw [upd_same] at q; cases q; exact e
    · rw [upd_ne k] at q; exact g.sub a u q⟩

/-- a list looked at, that a name of the frame holds -/
def Bor (K : PySem.W.Frag) (cm : Nat → Addr) (H G : Hp) (v : V) (d : Dt) : Prop := ∃ l vs ds, v = .ref l ∧ d = .lst ds ∧ SqL K H l vs ∧ DenL K cm G vs ds
def VR (K : PySem.W.Frag) (cm : Nat → Addr) (H G : Hp) (v : V) (d : Dt) (b : Bool) : Prop := (b = true → Bor K cm H G v d) ∧ (b = false → Den K cm G v d)
def OwnR (K : PySem.W.Frag) (cm : Nat → Addr) (G : Hp) : HO → OD → Prop
  | .lst vs, .lst ds => DenL K cm G vs ds
  | _, _ => False
def RR (K : PySem.W.Frag) (cm : Nat → Addr) (H H' G' : Hp) (v : V) : R → Prop
  | .vis d => Den K cm G' v d
  | .bor d => Bor K cm H' G' v d
  | .fre od => ∃ l o, v = .ref l ∧ H l = none ∧ H' l = some o ∧ G' l = none ∧ OwnR K cm G' o od
section
variable {K : PySem.W.Frag} {cm : Nat → Addr} {H G H' G' : Hp} {v : V} {d : Dt} {b : Bool}
theorem OwnR.mono {o : HO} {od : OD} (e : Exx G G') (h : OwnR K cm G o od) : OwnR K cm G' o od := by
  cases o <;> cases od <;> first | exact DenL.mono e h | exact h
theorem VR.vis (h : Den K cm G v d) : VR K cm H G v d false := ⟨fun e => (nomatch e), fun _ => h⟩
theorem VR.den (h : VR K cm H G v d false) : Den K cm G v d := h.2 rfl
theorem VR.grow (g : Grow H G H' G') (h : VR K cm H G v d b) : VR K cm H' G' v d b := by
  refine ⟨fun e => ?_, fun e => (h.2 e).mono g.gx⟩
  obtain ⟨l, vs, ds, h1, h2, h3, h4⟩ := h.1 e
  exact ⟨l, vs, ds, h1, h2, g.hx.sqL h3, h4.mono g.gx⟩
theorem VR.lst {ds : List Dt} (s : Exx G H) (h : VR K cm H G v (.lst ds) b) : ∃ l vs, v = .ref l ∧ SqL K H l vs ∧ DenL K cm G vs ds := by
  cases b with
  | true =>
    obtain ⟨l, vs, ds', h1, h2, h3, h4⟩ := h.1 rfl
    cases h2
    exact ⟨l, vs, h1, h3, h4⟩
  | false =>
    have q := h.2 rfl
    cases q with
    | lst h1 h2 => exact ⟨_, _, rfl, s.sqL h1, h2⟩
theorem VR.tup {ds : List Dt} (s : Exx G H) (h : VR K cm H G v (.tup ds) b) : ∃ l vs, v = .ref l ∧ SqT K H l vs ∧ SqT K G l vs ∧ DenL K cm G vs ds := by
  cases b with
  | true =>
    obtain ⟨l, vs, ds', h1, h2, h3, h4⟩ := h.1 rfl
    cases h2
  | false =>
    have q := h.2 rfl
    cases q with
    | tup h1 h2 => exact ⟨_, _, rfl, s.sqT h1, h1, h2⟩
theorem VR.int {i : Int} (h : VR K cm H G v (.int i) b) : v = .int i := by
  cases b with
  | true =>
    obtain ⟨l, vs, ds', h1, h2, h3, h4⟩ := h.1 rfl
    cases h2
  | false => cases h.2 rfl; rfl
theorem VR.bl {i : Bool} (h : VR K cm H G v (.bl i) b) : v = .bl i := by
  cases b with
  | true =>
    obtain ⟨l, vs, ds', h1, h2, h3, h4⟩ := h.1 rfl
    cases h2
  | false => cases h.2 rfl; rfl
theorem VR.str {i : Str} (h : VR K cm H G v (.str i) b) : v = .str i := by
  cases b with
  | true =>
    obtain ⟨l, vs, ds', h1, h2, h3, h4⟩ := h.1 rfl
    cases h2
  | false => cases h.2 rfl; rfl
theorem VR.non (h : VR K cm H G v .non b) : v = .non := by
  cases b with
  | true =>
    obtain ⟨l, vs, ds', h1, h2, h3, h4⟩ := h.1 rfl
    cases h2
  | false => cases h.2 rfl; rfl
/-- a result is shown -/
theorem RR.pub {r : R} (g : Grow H G H' G') (h : RR K cm H H' G' v r) : ∃ G2, Grow H G H' G2 ∧ VR K cm H' G2 v r.dt r.sh := by
  cases r with
  | vis d => exact ⟨G', g, .vis h⟩
  | bor d => exact ⟨G', g, ⟨fun _ => h, fun e => (nomatch e)⟩⟩
  | fre od =>
    obtain ⟨l, o, rfl, h1, h2, h3, h4⟩ := h
    cases o <;> cases od <;> first | exact h4.elim | skip
    rename_i vs ds
    exact ⟨_, g.show h1 h2 h3, .vis (.lst (SqL.of upd_same) (DenL.mono (Exx.new h3) h4))⟩
end

/-! ### states -/
/-- a list of lists at l, its lists at as; none of them is seen -/
structure MatR (K : PySem.W.Frag) (cm : Nat → Addr) (H G : Hp) (l : Addr) (as : List Addr) (dss : List (List Dt)) : Prop where
  at_ : H l = some (.lst (as.map V.ref))
  hid : G l = none
  nd : (l :: as).Nodup
  len : as.length = dss.length
  row : ∀ (k : Nat) (a : Addr) (ds : List Dt), as[k]? = some a → dss[k]? = some ds → ∃ vs, H a = some (.lst vs) ∧ G a = none ∧ DenL K cm G vs ds
theorem MatR.mono {K : PySem.W.Frag} {cm : Nat → Addr} {H G H' G' : Hp} {l : Addr} {as : List Addr} {dss : List (List Dt)} (g : Grow H G H' G') (m : MatR K cm H G l as dss) : MatR K cm H' G' l as dss :=
  ⟨g.hx _ _ m.at_, g.hid _ _ m.at_ m.hid, m.nd, m.len, fun k a ds h1 h2 => by
    obtain ⟨vs, k1, k2, k3⟩ := m.row k a ds h1 h2
    exact ⟨vs, g.hx _ _ k1, g.hid _ _ k1 k2, k3.mono g.gx⟩⟩
theorem MatR.get {K : PySem.W.Frag} {cm : Nat → Addr} {H G : Hp} {l : Addr} {as : List Addr} {dss : List (List Dt)} (m : MatR K cm H G l as dss) {a : Addr} (h : a ∈ as) : ∃ (k : Nat) (ds : List Dt) (vs : List V), as[k]? = some a ∧ dss[k]? = some ds ∧ H a = some (.lst vs) ∧ G a = none ∧ DenL K cm G vs ds := by
  obtain ⟨k, hk, e⟩ := List.getElem_of_mem h
  have hk' : k < dss.length := by rw [← m.len]; exact hk
  have h1 : as[k]? = some a := by rw [List.getElem?_eq_getElem hk, e]
  obtain ⟨vs, q1, q2, q3⟩ := m.row k a _ h1 (List.getElem?_eq_getElem hk')
  exact ⟨k, _, vs, h1, List.getElem?_eq_getElem hk', q1, q2, q3⟩
theorem MatR.all {K : PySem.W.Frag} {cm : Nat → Addr} {H G : Hp} {l : Addr} {as : List Addr} {dss : List (List Dt)} (m : MatR K cm H G l as dss) {a : Addr} (h : a ∈ l :: as) : (∃ o, H a = some o) ∧ G a = none := by
  rcases List.mem_cons.mp h with rfl | h
  · exact ⟨⟨_, m.at_⟩, m.hid⟩
  · obtain ⟨k, ds, vs, _, _, q1, q2, _⟩ := m.get h
    exact ⟨⟨_, q1⟩, q2⟩
theorem refs_inj {as bs : List Addr} (h : as.map V.ref = bs.map V.ref) : as = bs := List.map_inj_right (fun _ _ e => by cases e; rfl) |>.mp h
/-- an address that the name number i holds as its own -/
def Held (H : Hp) (σ : L2.St) (env : Sl) (i : Nat) (a : Addr) : Prop := (∃ od, env[i]? = some (.own od) ∧ σ[i]? = some (some (.ref a))) ∨
  (∃ dss l as, env[i]? = some (.mat dss) ∧ σ[i]? = some (some (.ref l)) ∧ H l = some (.lst (as.map V.ref)) ∧ a ∈ l :: as)
structure Rel (K : PySem.W.Frag) (cm : Nat → Addr) (σ : L2.St) (H G : Hp) (env : Sl) : Prop where
  len : σ.length = env.length
  sub : Exx G H
  val : ∀ (i : Nat) (d : Dt), env[i]? = some (.val d) → ∃ v, σ[i]? = some (some v) ∧ Den K cm G v d
  own : ∀ (i : Nat) (od : OD), env[i]? = some (.own od) → ∃ l o, σ[i]? = some (some (.ref l)) ∧ H l = some o ∧ G l = none ∧ OwnR K cm G o od
  mat : ∀ (i : Nat) (dss : List (List Dt)), env[i]? = some (.mat dss) → ∃ l as, σ[i]? = some (some (.ref l)) ∧ MatR K cm H G l as dss
  dist : ∀ (i j : Nat) (a : Addr), Held H σ env i a → Held H σ env j a → i = j
section
variable {K : PySem.W.Frag} {cm : Nat → Addr} {σ : L2.St} {H G H' G' : Hp} {env : Sl}
theorem Rel.held (r : Rel K cm σ H G env) (e : Exx H H') {i : Nat} {a : Addr} (h : Held H' σ env i a) : Held H σ env i a := by
  rcases h with h | ⟨dss, l, as, h1, h2, h3, h4⟩
  · exact .inl h
  · obtain ⟨l', as', k1, k2⟩ := r.mat i dss h1
    rw [h2] at k1
    cases k1
    have q := e _ _ k2.at_
    rw [h3] at q
    have q2 : as = as' := refs_inj (HO.lst.inj (Option.some.inj q))
    subst q2
    exact .inr ⟨dss, l, as, h1, h2, k2.at_, h4⟩
theorem Held.at_ (r : Rel K cm σ H G env) {i : Nat} {a : Addr} (h : Held H σ env i a) : (∃ o, H a = some o) ∧ G a = none := by
  rcases h with ⟨od, h1, h2⟩ | ⟨dss, l, as, h1, h2, h3, h4⟩
  · obtain ⟨l, o, k1, k2, k3, _⟩ := r.own i od h1
    rw [h2] at k1
    cases k1
    exact ⟨⟨_, k2⟩, k3⟩
  · obtain ⟨l', as', k1, k2⟩ := r.mat i dss h1
    rw [h2] at k1
    cases k1
    have q := k2.at_
    rw [h3] at q
    have q2 : as = as' := refs_inj (HO.lst.inj (Option.some.inj q))
    subst q2
    exact k2.all h4
theorem Held.mat (r : Rel K cm σ H G env) {i : Nat} {dss : List (List Dt)} {l a : Addr} {as : List Addr} (h1 : env[i]? = some (.mat dss)) (h2 : σ[i]? = some (some (.ref l))) (m : MatR K cm H G l as dss) (h : a ∈ l :: as) : Held H σ env i a := .inr ⟨dss, l, as, h1, h2, m.at_, h⟩
theorem Rel.grow (r : Rel K cm σ H G env) (g : Grow H G H' G') : Rel K cm σ H' G' env :=
  ⟨r.len, g.sub, fun i d h => by
    obtain ⟨v, h1, h2⟩ := r.val i d h
    exact ⟨v, h1, h2.mono g.gx⟩, fun i od h => by
    obtain ⟨l, o, h1, h2, h3, h4⟩ := r.own i od h
    exact ⟨l, o, h1, g.hx l o h2, g.hid l o h2 h3, h4.mono g.gx⟩, fun i dss h => by
    obtain ⟨l, as, h1, h2⟩ := r.mat i dss h
    exact ⟨l, as, h1, h2.mono g⟩, fun i j a h1 h2 => r.dist i j a (r.held g.hx h1) (r.held g.hx h2)⟩
/-- an address that a name holds as its own -/
def Own (H : Hp) (σ : L2.St) (env : Sl) (a : Addr) : Prop := ∃ i : Nat, Held H σ env i a
end

/-- what code leaves as it was, of the heaps -/
structure FrH (σ : L2.St) (env : Sl) (H G H' G' : Hp) : Prop where
  gx : Exx G G'
  hid : ∀ a o, H a = some o → G a = none → ¬ Own H σ env a → G' a = none
  keep : ∀ a o, H a = some o → ¬ Own H σ env a → H' a = some o
  there : ∀ a o, H a = some o → ∃ o', H' a = some o'
  sub : Exx G' H'
structure Fr (σ : L2.St) (env : Sl) (H G : Hp) (σ' : L2.St) (env' : Sl) (H' G' : Hp) : Prop extends FrH σ env H G H' G' where
  fresh : ∀ a o, H a = some o → ¬ Own H σ env a → ¬ Own H' σ' env' a
  take : ∀ i : Nat, env'[i]? = some .take → env[i]? = some .take ∧ σ'[i]? = σ[i]?
section
variable {K : PySem.W.Frag} {cm : Nat → Addr} {σ σ1 σ2 : L2.St} {H G H1 G1 H2 G2 : Hp} {env env1 env2 : Sl}
theorem Grow.frH (g : Grow H G H1 G1) : FrH σ env H G H1 G1 := ⟨g.gx, fun a o h n _ => g.hid a o h n, fun a o h _ => g.hx a o h, fun a o h => ⟨o, g.hx a o h⟩, g.sub⟩
theorem Rel.fr (r : Rel K cm σ H G env) (g : Grow H G H1 G1) : Fr σ env H G σ env H1 G1 := { g.frH with fresh := fun _ _ _ h ⟨i, q⟩ => h ⟨i, r.held g.hx q⟩, take := fun _ h => ⟨h, rfl⟩ }
theorem Fr.trH (a : Fr σ env H G σ1 env1 H1 G1) (b : FrH σ1 env1 H1 G1 H2 G2) : FrH σ env H G H2 G2 where
  gx := a.gx.trans b.gx
  hid := fun x o h n w => b.hid x o (a.keep x o h w) (a.hid x o h n w) (a.fresh x o h w)
  keep := fun x o h w => b.keep x o (a.keep x o h w) (a.fresh x o h w)
  there := fun x o h => by
    obtain ⟨o1, h1⟩ := a.there x o h
    exact b.there x o1 h1
  sub := b.sub
theorem Fr.trans (a : Fr σ env H G σ1 env1 H1 G1) (b : Fr σ1 env1 H1 G1 σ2 env2 H2 G2) : Fr σ env H G σ2 env2 H2 G2 :=
  { a.trH b.toFrH with
    fresh := fun x o h w => b.fresh x o (a.keep x o h w) (a.fresh x o h w)
    take := fun i h => by
      obtain ⟨h1, e1⟩ := b.take i h
      obtain ⟨h2, e2⟩ := a.take i h1
      exact ⟨h2, e1.trans e2⟩ }
theorem Fr.refl (s : Exx G H) : Fr σ env H G σ env H G := { (Grow.refl s).frH with fresh := fun _ _ _ h => h, take := fun _ h => ⟨h, rfl⟩ }
end

/-! ### the weakest readings -/
section
variable (X : Cx)
def wpE (e : Expr) : TE := fun σ H Q => ∀ pins s, Inv X pins σ H s → wpAny (model X.prog X.w) X.A (eval e X.env) (EP X pins σ Q) X.xe s
def wpT (e : Expr) : TT := fun σ H Q => ∀ pins s, Inv X pins σ H s → wpAny (model X.prog X.w) X.A (isTrue e X.env (eval e X.env)) (TP X pins σ Q) X.xe s
def wpA (es : List Expr) : TA := fun σ H Q => ∀ (pos : Pos) pins s, Inv X pins σ H s → wpAny (model X.prog X.w) X.A (spliced (backTo pos (starEach es X.env))) (AP X pins σ Q) X.xe s
def wpS (st : Stmt) : TS := fun D σ H => ∀ pins s, Inv X pins σ H s → wpAny (model X.prog X.w) X.A (exec st X.env) (SP X pins D) X.xe s
def wpSs (st : List Stmt) : TS := fun D σ H => ∀ pins s, Inv X pins σ H s → wpAny (model X.prog X.w) X.A (execs st X.env) (SP X pins D) X.xe s
def wpI (tg iter : Expr) : TI := fun σ H R => ∀ pins s, Inv X pins σ H s → wpAny (model X.prog X.w) X.A (eval iter X.env) (fun v s1 => wpAny (model X.prog X.w) X.A (pyIter v) (PIE X pins σ tg R) X.xe s1) X.xe s
def wpG (tg : Expr) : TG := fun v σ H Q => ∀ pins s u, Inv X pins σ H s → RelV v u → wpAny (model X.prog X.w) X.A (assign tg X.env u) (fun _ s' => ∃ σ' H', Inv X pins σ' H' s' ∧ Q σ' H') X.xe s
end
section
variable {X : Cx}
theorem pe_w {e : Expr} : PE X e (wpE X e) := ⟨fun pins s σ H Q I h => h pins s I⟩
theorem pt_w {e : Expr} : PT X e (wpT X e) := ⟨fun pins s σ H Q I h => h pins s I⟩
theorem pa_w {es : List Expr} : PA X es (wpA X es) := ⟨fun pos pins s σ H Q I h => h pos pins s I⟩
theorem ps_w {st : Stmt} : PS X st (wpS X st) := ⟨fun pins s σ H Q I h => h pins s I⟩
theorem pss_w {st : List Stmt} : PSs X st (wpSs X st) := ⟨fun pins s σ H Q I h => h pins s I⟩
theorem pi_w {tg iter : Expr} : PI X tg iter (wpI X tg iter) := ⟨fun pins s σ H R I h => h pins s I⟩
theorem pg_w {tg : Expr} : PG X tg (wpG X tg) := ⟨fun pins s σ H v u Q I r h => h pins s u I r⟩
theorem to_e {e : Expr} {t : TE} {σ : L2.St} {H : Hp} {Q : VK} (h : PE X e t) (q : t σ H Q) : wpE X e σ H Q := fun pins s I => h.run pins s σ H Q I q
theorem to_t {e : Expr} {t : TT} {σ : L2.St} {H : Hp} {Q : Bool → Hp → Prop} (h : PT X e t) (q : t σ H Q) : wpT X e σ H Q := fun pins s I => h.run pins s σ H Q I q
theorem to_a {e : List Expr} {t : TA} {σ : L2.St} {H : Hp} {Q : List V → Hp → Prop} (h : PA X e t) (q : t σ H Q) : wpA X e σ H Q := fun pos pins s I => h.run pos pins s σ H Q I q
theorem to_s {st : Stmt} {t : TS} {σ : L2.St} {H : Hp} {D : Ends} (h : PS X st t) (q : t D σ H) : wpS X st D σ H := fun pins s I => h.run pins s σ H D I q
theorem to_ss {st : List Stmt} {t : TS} {σ : L2.St} {H : Hp} {D : Ends} (h : PSs X st t) (q : t D σ H) : wpSs X st D σ H := fun pins s I => h.run pins s σ H D I q
theorem to_i {tg iter : Expr} {t : TI} {σ : L2.St} {H : Hp} {Q : It → Hp → Prop} (h : PI X tg iter t) (q : t σ H Q) : wpI X tg iter σ H Q := fun pins s I => h.run pins s σ H Q I q
end
end Pyl
end
section
set_option Elab.async false
set_option linter.all false
set_option maxRecDepth 100000
set_option maxHeartbeats 2000000
namespace Pyl
open PySem L2

/-- the code of e gives f, of the frame's data -/
structure JE (X : Cx) (cm : Nat → Addr) (e : Expr) (f : EF) : Prop where
  run : ∀ (env : Sl) (r : R) (σ : L2.St) (H G : Hp), f env = some r → Rel X.K cm σ H G env → ∀ Q : VK, (∀ v H' G', Grow H G H' G' → RR X.K cm H H' G' v r → Q v H') → wpE X e σ H Q
structure JT (X : Cx) (cm : Nat → Addr) (e : Expr) (f : TF) : Prop where
  run : ∀ (env : Sl) (b : Bool) (σ : L2.St) (H G : Hp), f env = some b → Rel X.K cm σ H G env → ∀ Q : Bool → Hp → Prop, (∀ H' G', Grow H G H' G' → Q b H') → wpT X e σ H Q
inductive VRs (K : PySem.W.Frag) (cm : Nat → Addr) (H G : Hp) : List V → List (Dt × Bool) → Prop
  | nil : VRs K cm H G [] []
  | cons {v : V} {vs : List V} {d : Dt} {b : Bool} {ds : List (Dt × Bool)} : VR K cm H G v d b → VRs K cm H G vs ds → VRs K cm H G (v :: vs) ((d, b) :: ds)
structure JA (X : Cx) (cm : Nat → Addr) (es : List Expr) (f : AF) : Prop where
  run : ∀ (env : Sl) (r : List (Dt × Bool)) (σ : L2.St) (H G : Hp), f env = some r → Rel X.K cm σ H G env → ∀ Q : List V → Hp → Prop, (∀ vs H' G', Grow H G H' G' → VRs X.K cm H' G' vs r → Q vs H') → wpA X es σ H Q
  len : ∀ (env : Sl) (r : List (Dt × Bool)), f env = some r → r.length = es.length
section
variable {X : Cx} {cm : Nat → Addr} {e a b c : Expr} {f fa fb : EF} {σ : L2.St} {H G : Hp} {env : Sl} {pos : Pos}

theorem JE.pub (h : JE X cm e f) {r : R} (hf : f env = some r) (rel : Rel X.K cm σ H G env) {Q : VK} (q : ∀ v H' G', Grow H G H' G' → VR X.K cm H' G' v r.dt r.sh → Q v H') : wpE X e σ H Q := by
  refine h.run env r σ H G hf rel Q fun v H' G' g rr => ?_
  obtain ⟨G2, g2, vr⟩ := RR.pub g rr
  exact q v H' G2 g2 vr

/-! names, constants -/
theorem je_var {x : Str} (i : Nat) (hN : X.N[i]? = some x := by rfl) (hv : Vis X.env.scope x := by first | exact Or.inl rfl | exact Or.inr (Or.inl rfl) | exact Or.inr (Or.inr rfl)) (hd : (x == ("__debug__" : Str)) = false := by decide)
    (hcd : (x == ("__classdict__" : Str)) = false := by decide) : JE X cm (.Name x pos) (eVar i) := by
  refine ⟨fun env r σ H G hf rel Q q => ?_⟩
  unfold eVar at hf
  split at hf
  · rename_i d hd'
    cases hf
    obtain ⟨v, h1, h2⟩ := rel.val i d hd'
    exact to_e (pe_var hN hv hd hcd) ⟨v, h1, q v H G (.refl rel.sub) h2⟩
  · rename_i ds hd'
    cases hf
    obtain ⟨l, o, h1, h2, h3, h4⟩ := rel.own i _ hd'
    cases o with
    | lst vs => exact to_e (pe_var hN hv hd hcd) ⟨_, h1, q _ H G (.refl rel.sub) ⟨l, vs, ds, rfl, rfl, SqL.of h2, h4⟩⟩
    | _ => exact h4.elim
  · cases hf
theorem je_int {i j} : JE X cm (.Constant (.int i) j pos) (eC (.int i)) := ⟨fun env r σ H G hf rel Q q => by
  cases hf
  exact to_e pe_int (q _ H G (.refl rel.sub) (Den.int i))⟩
theorem je_bl {i j} : JE X cm (.Constant (.bool i) j pos) (eC (.bl i)) := ⟨fun env r σ H G hf rel Q q => by
  cases hf
  exact to_e pe_bl (q _ H G (.refl rel.sub) (Den.bl i))⟩
theorem je_non {j} : JE X cm (.Constant .none j pos) (eC .non) := ⟨fun env r σ H G hf rel Q q => by
  cases hf
  exact to_e pe_non (q _ H G (.refl rel.sub) Den.non)⟩
theorem je_str {i j} : JE X cm (.Constant (.str i) j pos) (eC (.str i)) := ⟨fun env r σ H G hf rel Q q => by
  cases hf
  exact to_e pe_str (q _ H G (.refl rel.sub) (Den.str i))⟩

/-! argument lists -/
theorem ja_nil : JA X cm [] aNil := ⟨fun env r σ H G hf rel Q q => by
  cases hf
  exact to_a pa_nil (q _ H G (.refl rel.sub) .nil), fun env r h => by cases h; rfl⟩
theorem VRs.grow {K : PySem.W.Frag} {H G H' G' : Hp} (g : Grow H G H' G') : ∀ {vs : List V} {ds : List (Dt × Bool)}, VRs K cm H G vs ds → VRs K cm H' G' vs ds
  | _, _, .nil => .nil
  | _, _, .cons h t => .cons (h.grow g) (VRs.grow g t)
theorem ja_cons {es : List Expr} {fr : AF} (ha : JE X cm e fa) (hr : JA X cm es fr) (hs : starEach (e :: es) X.env = (false, eval e X.env) :: starEach es X.env := by rfl) : JA X cm (e :: es) (aCons fa fr) := by
  refine ⟨fun env r σ H G hf rel Q q => ?_, fun env r hf => by
    obtain ⟨ra, h1, hf⟩ := Option.bind_eq_some_iff.mp hf
    obtain ⟨rs, h2, hf⟩ := Option.bind_eq_some_iff.mp hf
    cases hf
    rw [List.length_cons, List.length_cons, hr.len env rs h2]⟩
  obtain ⟨ra, h1, hf⟩ := Option.bind_eq_some_iff.mp hf
  obtain ⟨rs, h2, hf⟩ := Option.bind_eq_some_iff.mp hf
  cases hf
  refine to_a (pa_cons pe_w pa_w hs) ?_
  refine ha.pub h1 rel fun v H1 G1 g1 vr => ?_
  refine hr.run env rs σ H1 G1 h2 (rel.grow g1) _ fun vs H2 G2 g2 vrs => ?_
  exact q _ H2 G2 (g1.trans g2) (.cons (vr.grow g2) vrs)
theorem VRs.plain {K : PySem.W.Frag} {H G : Hp} : ∀ {vs : List V} {rs : List (Dt × Bool)}, VRs K cm H G vs rs → rs.any (·.2) = false → DenL K cm G vs (rs.map (·.1))
  | _, _, .nil, _ => .nil
  | _, _, .cons (b := b) h t, e => by
    rw [List.any_cons, Bool.or_eq_false_iff] at e
    have e1 : b = false := e.1
    subst e1
    exact .cons h.den (VRs.plain t e.2)
theorem plain_some {rs : List (Dt × Bool)} {ds : List Dt} (h : plain rs = some ds) : rs.any (·.2) = false ∧ ds = rs.map (·.1) := by
  unfold Pyl.plain at h
  split at h
  · cases h
  · rename_i hn
    cases h
    exact ⟨by simpa using hn, rfl⟩
theorem VRs.length {K : PySem.W.Frag} {H G : Hp} : ∀ {vs : List V} {rs : List (Dt × Bool)}, VRs K cm H G vs rs → vs.length = rs.length
  | _, _, .nil => rfl
  | _, _, .cons h t => by rw [List.length_cons, List.length_cons, VRs.length t]
theorem je_tup {es : List Expr} {ft : AF} {k : Nat} (h : JA X cm es ft) (hz : es.length ≤ 100000 := by decide) : JE X cm (.Tuple es k pos) (eTup ft) := by
  refine ⟨fun env r σ H G hf rel Q q => ?_⟩
  obtain ⟨rs, h1, hf⟩ := Option.bind_eq_some_iff.mp hf
  obtain ⟨ds, h2, hf⟩ := Option.bind_eq_some_iff.mp hf
  cases hf
  obtain ⟨h3, rfl⟩ := plain_some h2
  refine to_e (pe_tup pa_w) ?_
  refine h.run env rs σ H G h1 rel _ fun vs H1 G1 g1 vrs => ⟨?_, fun p hp => ?_⟩
  · rw [vrs.length, h.len env rs h1]
    exact Nat.le_trans hz (by decide)
  · have n := g1.sub.back hp
    exact q _ _ _ (g1.trans (.new g1.sub hp)) (.tup (SqT.of upd_same) ((vrs.plain h3).mono (.new n)))
theorem je_lst {es : List Expr} {ft : AF} (h : JA X cm es ft) (hz : es.length ≤ 100000 := by decide) : JE X cm (.List es pos) (eLst ft) := by
  refine ⟨fun env r σ H G hf rel Q q => ?_⟩
  obtain ⟨rs, h1, hf⟩ := Option.bind_eq_some_iff.mp hf
  obtain ⟨ds, h2, hf⟩ := Option.bind_eq_some_iff.mp hf
  cases hf
  obtain ⟨h3, rfl⟩ := plain_some h2
  refine to_e (pe_lst pa_w) ?_
  refine h.run env rs σ H G h1 rel _ fun vs H1 G1 g1 vrs => ⟨?_, fun p hp => ?_⟩
  · rw [vrs.length, h.len env rs h1]
    exact Nat.le_trans hz (by decide)
  · have n := g1.sub.back hp
    exact q _ _ _ (g1.trans (.hide g1.sub hp)) ⟨p, _, rfl, g1.hx.back hp, upd_same, n, vrs.plain h3⟩

/-! operations -/
def P2 (X : Cx) (cm : Nat → Addr) (f : Value → Value → Sem Value) (p : Dt → Dt → Option R) : Prop :=
  ∀ (d1 d2 : Dt) (b1 b2 : Bool) (out : R) (v1 v2 : V) (H G : Hp), VR X.K cm H G v1 d1 b1 → VR X.K cm H G v2 d2 b2 → Exx G H → p d1 d2 = some out →
    ∃ r : R2, OpR X f r ∧ ∀ Q : VK, (∀ v H' G', Grow H G H' G' → RR X.K cm H H' G' v out → Q v H') → r v1 v2 H Q
theorem RR.hx {K : PySem.W.Frag} {H H0 H1 G1 : Hp} {v : V} {r : R} (e : Exx H0 H) (h : RR K cm H H1 G1 v r) : RR K cm H0 H1 G1 v r := by
  cases r with
  | vis d => exact h
  | bor d => exact h
  | fre od =>
    obtain ⟨l, o, h1, h2, h3⟩ := h
    exact ⟨l, o, h1, e.back h2, h3⟩
theorem run2 {fop : Value → Value → Sem Value} {p : Dt → Dt → Option R} (ok : P2 X cm fop p) (ha : JE X cm a fa) (hb : JE X cm b fb) {r : R} (hf : e2 p fa fb env = some r) (rel : Rel X.K cm σ H G env) {Q : VK}
    (q : ∀ v H' G', Grow H G H' G' → RR X.K cm H H' G' v r → Q v H') {pins : List (Addr × Obj)} {s : Shared} (I : Inv X pins σ H s) :
    wpAny (model X.prog X.w) X.A (eval a X.env) (fun v s₁ => wpAny (model X.prog X.w) X.A (eval b X.env) (fun u s₂ => wpAny (model X.prog X.w) X.A (fop v u) (EP X pins σ Q) X.xe s₂) X.xe s₁) X.xe s := by
  obtain ⟨ra, h1, hf⟩ := Option.bind_eq_some_iff.mp hf
  obtain ⟨rb, h2, hf⟩ := Option.bind_eq_some_iff.mp hf
  refine bin (ta := wpE X a) (tb := wpE X b) pe_w pe_w I (R := fun x y H2 => ∃ rr : R2, OpR X fop rr ∧ rr x y H2 Q) ?_ fun v u s2 x y H2 I2 rx ry hq => ?_
  · refine ha.pub h1 rel fun v H1 G1 g1 vr => ?_
    refine hb.pub h2 (rel.grow g1) fun w H2 G2 g2 wr => ?_
    obtain ⟨rr, ho, hr⟩ := ok _ _ _ _ _ _ _ H2 G2 (vr.grow g2) wr g2.sub hf
    exact ⟨rr, ho, hr Q fun v' H3 G3 g3 rr3 => q v' H3 G3 ((g1.trans g2).trans g3) (rr3.hx (g1.trans g2).hx)⟩
  · obtain ⟨rr, ho, hr⟩ := hq
    exact ho pins s2 σ H2 x y v u Q I2 rx ry hr
theorem je_bin {op : Operator} {p : Dt → Dt → Option R} (ok : P2 X cm (binaryOp op) p) (ha : JE X cm a fa) (hb : JE X cm b fb) : JE X cm (.BinOp a op b pos) (e2 p fa fb) :=
  ⟨fun env r σ H G hf rel Q q pins s I => wpAny_BinOp (run2 ok ha hb hf rel q I)⟩
theorem je_cmp {op : CmpOp} {p : Dt → Dt → Option R} (ok : P2 X cm (compareOp op) p) (ha : JE X cm a fa) (hb : JE X cm b fb) (hm : behindInMarks op b = false := by first | exact nobehind _ (by decide) (by decide) | rfl) : JE X cm (.Compare a [op] [b] pos) (e2 p fa fb) :=
  ⟨fun env r σ H G hf rel Q q pins s I => wpAny_Compare1 (run2 ok ha hb hf rel q I) hm⟩

theorem p2_int {f : Value → Value → Sem Value} {C : Int → Int → Prop} {g : Int → Int → V} {c : Int → Int → Option Int} (ho : OpR X f (rI C g)) (hc : ∀ i j k, c i j = some k → C i j ∧ g i j = .int k) : P2 X cm f (pIntI c) := by
  intro d1 d2 b1 b2 out v1 v2 H G r1 r2 sub hp
  unfold pIntI at hp
  split at hp
  · rename_i i j
    obtain ⟨k, hk, hp⟩ := Option.map_eq_some_iff.mp hp
    subst hp
    have e1 := r1.int
    have e2 := r2.int
    subst e1 e2
    obtain ⟨h1, h2⟩ := hc i j k hk
    exact ⟨_, ho, fun Q q => ⟨i, j, rfl, rfl, h1, by rw [h2]; exact q _ H G (.refl sub) (Den.int k)⟩⟩
  · cases hp
theorem p2_int0 {f : Value → Value → Sem Value} {g : Int → Int → V} {c : Int → Int → Option Int} (ho : OpR X f (rI0 g)) (hc : ∀ i j k, c i j = some k → g i j = .int k) : P2 X cm f (pIntI c) := by
  intro d1 d2 b1 b2 out v1 v2 H G r1 r2 sub hp
  unfold pIntI at hp
  split at hp
  · rename_i i j
    obtain ⟨k, hk, hp⟩ := Option.map_eq_some_iff.mp hp
    subst hp
    have e1 := r1.int
    have e2 := r2.int
    subst e1 e2
    have h2 := hc i j k hk
    exact ⟨_, ho, fun Q q => ⟨i, j, rfl, rfl, by rw [h2]; exact q _ H G (.refl sub) (Den.int k)⟩⟩
  · cases hp
theorem p2_sub : P2 X cm (binaryOp .Sub) pSub := p2_int0 op_sub fun i j k h => by cases h; rfl
theorem p2_mod : P2 X cm (binaryOp .Mod) pMod := p2_int op_mod fun i j k h => by
  split at h
  · rename_i hj
    cases h
    exact ⟨hj, rfl⟩
  · cases h
theorem log2_of {i : Int} {n : Nat} (h : i.natAbs < 2 ^ n) (h0 : 0 < n) : i.natAbs.log2 < n := PySem.Flt.log2_lt_of h0 h
theorem p2_div : P2 X cm (binaryOp .FloorDiv) pDiv := p2_int op_fdivW fun i j k h => by
  split at h
  · rename_i hj
    cases h
    exact ⟨⟨hj.1, Nat.lt_of_lt_of_le (log2_of (n := 8999) (by rw [← DIVB_eq]; exact hj.2) (by decide)) (by decide)⟩, rfl⟩
  · cases h
theorem p2_pow : P2 X cm (binaryOp .Pow) pPow := p2_int op_pow fun i j k h => by
  split at h
  · rename_i hj
    cases h
    exact ⟨hj, rfl⟩
  · cases h
theorem p2_shr : P2 X cm (binaryOp .RShift) pShr := p2_int op_shr fun i j k h => by
  split at h
  · rename_i hj
    cases h
    exact ⟨hj, rfl⟩
  · cases h
theorem p2_shl : P2 X cm (binaryOp .LShift) pShl := p2_int op_shlW fun i j k h => by
  split at h
  · rename_i hj
    cases h
    refine ⟨⟨hj.1, ?_⟩, rfl⟩
    have h2 := log2_of (n := 400000) (by rw [← BIG_eq]; exact hj.2.2) (by decide)
    have h3 : Builtin.Int.intBits i ≤ i.natAbs.log2 + 1 := by
      unfold Builtin.Int.intBits
      split <;> omega
    have h4 := hj.2.1
    have e : ((2 : Int) ^ 27) = 134217728 := by decide
    rw [e]
    omega
  · cases h
theorem p2_mul : P2 X cm (binaryOp .Mult) pMul := by
  intro d1 d2 b1 b2 out v1 v2 H G r1 r2 sub hp
  unfold pMul at hp
  split at hp
  · rename_i i j
    split at hp
    · rename_i hb
      cases hp
      have e1 := r1.int
      have e2 := r2.int
      subst e1 e2
      exact ⟨_, op_mulW, fun Q q => ⟨i, j, rfl, rfl, wide_mul (a := 400000) (b := 400000) (by rw [← BIG_eq]; exact hb.1) (by rw [← BIG_eq]; exact hb.2) (by decide) (by decide) (by decide), q _ H G (.refl sub) (Den.int _)⟩⟩
    · cases hp
  · cases hp
theorem lim_ok {n : Nat} (h : n ≤ LIM) : n ≤ sizeLine := Nat.le_trans h (by decide)
/-- list + list, any two lists that are read -/
def rCatS (K : PySem.W.Frag) : R2 := fun x y H Q => ∃ l b xs zs, x = .ref l ∧ y = .ref b ∧ SqL K H l xs ∧ SqL K H b zs ∧ xs.length + zs.length ≤ sizeLine ∧ ∀ p, H p = none → Q (.ref p) (upd H p (.lst (xs ++ zs)))
end
end Pyl
end
section
set_option Elab.async false
set_option linter.all false
set_option maxRecDepth 100000
set_option maxHeartbeats 2000000
namespace Pyl
open PySem L2
section
variable {X : Cx} {cm : Nat → Addr} {e a b c : Expr} {f fa fb fc : EF} {σ : L2.St} {H G : Hp} {env : Sl} {pos : Pos}

theorem op_catS : OpR X (binaryOp .Add) (rCatS X.K) := by
  intro pins s σ H x y v u Q I rx ry h
  obtain ⟨l, b, xs, zs, rfl, rfl, hH, hB, hz, q⟩ := h
  cases rx
  cases ry
  obtain ⟨its, r, ⟨⟨cls, dd, data, sl⟩, n, ho, hc, hd, hdat⟩, z⟩ := I.list hH
  obtain ⟨its2, r2, ⟨⟨cls2, dd2, data2, sl2⟩, n2, ho2, hc2, hd2, hdat2⟩, z2⟩ := I.list hB
  simp only at hc hd hdat hc2 hd2 hdat2
  subst hc hdat hc2 hdat2
  have l1 := r.length
  have l2 := r2.length
  refine PySem.concat_meets ⟨_, ho, rfl⟩ ⟨_, ho2, rfl⟩ PySem.noFill_list_add PySem.seq_list_add PySem.F.slot_list_add PySem.F.entry_list_add (PySem.F.args_list_add_2 _ _) (PyProof.Rows.list_addW l b its.toArray its2.toArray n n2 dd dd2 sl sl2 (by rw [List.size_toArray, List.size_toArray]; omega)) ⟨ho, ho2, ?_⟩
  have ea : its.toArray ++ its2.toArray = (its ++ its2).toArray := by simp
  rw [ea]
  exact ⟨.ref _, _, I.lnew (t' := s.toks) (r.append r2) (by rw [List.length_append]; omega), rfl, q _ I.fresh⟩
theorem p2_add : P2 X cm (binaryOp .Add) pAdd := by
  intro d1 d2 b1 b2 out v1 v2 H G r1 r2 sub hp
  unfold pAdd at hp
  split at hp
  · cases hp
    have e1 := r1.int
    have e2 := r2.int
    subst e1 e2
    exact ⟨_, op_add, fun Q q => ⟨_, _, rfl, rfl, q _ H G (.refl sub) (Den.int _)⟩⟩
  · rename_i as bs
    split at hp
    · rename_i hl
      cases hp
      obtain ⟨l1, vs1, rfl, s1, n1⟩ := r1.lst sub
      obtain ⟨l2, vs2, rfl, s2, n2⟩ := r2.lst sub
      refine ⟨_, op_catS, fun Q q => ⟨l1, l2, vs1, vs2, rfl, rfl, s1, s2, ?_, fun p hp => ?_⟩⟩
      · rw [n1.length, n2.length]
        exact lim_ok hl
      · exact q _ _ _ (.hide sub hp) ⟨p, _, rfl, hp, upd_same, sub.back hp, n1.append n2⟩
    · cases hp
  · rename_i as bs
    split at hp
    · rename_i hl
      cases hp
      obtain ⟨l1, vs1, rfl, s1, g1, n1⟩ := r1.tup sub
      obtain ⟨l2, vs2, rfl, s2, g2, n2⟩ := r2.tup sub
      refine ⟨_, op_catA, fun Q q => ⟨l1, l2, vs1, vs2, rfl, rfl, s1, s2, ?_, fun h0 => ?_, fun h0 h1 => ?_, fun h0 h1 p hp => ?_⟩⟩
      · rw [n1.length, n2.length]
        exact lim_ok hl
      · subst h0
        cases n1
        exact q _ _ _ (.refl sub) (Den.tup g2 n2)
      · subst h1
        cases n2
        exact q _ _ _ (.refl sub) (by rw [List.append_nil]; exact Den.tup g1 n1)
      · have n := sub.back hp
        exact q _ _ _ (.new sub hp) (Den.tup (SqT.of upd_same) ((n1.append n2).mono (.new n)))
    · cases hp
  · rename_i x y
    split at hp
    · rename_i hl
      cases hp
      have e1 := r1.str
      have e2 := r2.str
      subst e1 e2
      exact ⟨_, op_add_str, fun Q q => ⟨_, _, rfl, rfl, lim_ok hl, q _ H G (.refl sub) (Den.str _)⟩⟩
    · cases hp
  · cases hp

/-! comparisons -/
theorem p2_cmp {f : Value → Value → Sem Value} {g : Int → Int → Bool} (ho : OpR X f (rI0 fun i j => .bl (g i j))) : P2 X cm f (pCmp g) := by
  intro d1 d2 b1 b2 out v1 v2 H G r1 r2 sub hp
  unfold pCmp at hp
  split at hp
  · cases hp
    have e1 := r1.int
    have e2 := r2.int
    subst e1 e2
    exact ⟨_, ho, fun Q q => ⟨_, _, rfl, rfl, q _ H G (.refl sub) (Den.bl _)⟩⟩
  · cases hp
theorem p2_lt : P2 X cm (compareOp .Lt) pLt := p2_cmp op_lt
theorem p2_le : P2 X cm (compareOp .LtE) pLe := p2_cmp op_le
theorem p2_gt : P2 X cm (compareOp .Gt) pGt := p2_cmp op_gt
theorem p2_ge : P2 X cm (compareOp .GtE) pGe := p2_cmp op_ge
section
variable {K : PySem.W.Frag}
mutual
theorem Den.dp (s : Exx G H) : ∀ {d : Dt} {v : V} {p : PyData}, Den K cm G v d → d.py = some p → Dp K H v p
  | .non, _, _, h, e => by
    cases h
    unfold Dt.py at e
    cases e
    exact .non
  | .bl b, _, _, h, e => by
    cases h
    unfold Dt.py at e
    cases e
    exact .bl b
  | .int i, _, _, h, e => by
    cases h
    unfold Dt.py at e
    cases e
    exact .int i
  | .str x, _, _, h, e => by
    cases h
    unfold Dt.py at e
    cases e
    exact .str x
  | .lst ds, _, _, h, e => by
    cases h with
    | lst h1 h2 =>
      unfold Dt.py at e
      obtain ⟨ps, e1, e2⟩ := Option.map_eq_some_iff.mp e
      subst e2
      exact .lst (s.sqL h1) (DenL.dp s h2 e1)
  | .tup ds, _, _, h, e => by
    cases h with
    | tup h1 h2 =>
      unfold Dt.py at e
      obtain ⟨ps, e1, e2⟩ := Option.map_eq_some_iff.mp e
      subst e2
      exact .tup (s.sqT h1) (DenL.dp s h2 e1)
  | .obj _ _, _, _, h, e => by
    unfold Dt.py at e
    cases e
theorem DenL.dp (s : Exx G H) : ∀ {ds : List Dt} {vs : List V} {ps : List PyData}, DenL K cm G vs ds → Dt.pyL ds = some ps → DpAll K H vs ps
  | [], _, _, h, e => by
    cases h
    unfold Dt.pyL at e
    cases e
    exact .nil
  | d :: ds, _, _, h, e => by
    cases h with
    | cons h1 h2 =>
      unfold Dt.pyL at e
      obtain ⟨p, e1, e⟩ := Option.bind_eq_some_iff.mp e
      obtain ⟨ps, e2, e⟩ := Option.bind_eq_some_iff.mp e
      cases e
      exact .cons (Den.dp s h1 e1) (DenL.dp s h2 e2)
end
theorem VR.dp {d : Dt} {v : V} {b : Bool} {p : PyData} (s : Exx G H) (h : VR K cm H G v d b) (e : d.py = some p) : Dp K H v p := by
  cases b with
  | false => exact h.den.dp s e
  | true =>
    obtain ⟨l, vs, ds, h1, h2, h3, h4⟩ := h.1 rfl
    subst h1 h2
    unfold Dt.py at e
    obtain ⟨ps, e1, e2⟩ := Option.map_eq_some_iff.mp e
    subst e2
    exact .lst h3 (h4.dp s e1)
end
theorem eqD_some {d1 d2 : Dt} {t : Bool} (h : eqD d1 d2 = some t) : ∃ p q, d1.py = some p ∧ d2.py = some q ∧ SeqAt.shaped p = true ∧ SeqAt.shaped q = true ∧ t = PyData.eqv p q := by
  unfold eqD at h
  obtain ⟨p, e1, h⟩ := Option.bind_eq_some_iff.mp h
  obtain ⟨q, e2, h⟩ := Option.bind_eq_some_iff.mp h
  split at h
  · rename_i hs
    cases h
    rw [Bool.and_eq_true] at hs
    exact ⟨p, q, e1, e2, hs.1, hs.2, rfl⟩
  · cases h
theorem p2_eq (hu : X.A.units + 64 < cLine) : P2 X cm (compareOp .Eq) pEq := by
  intro d1 d2 b1 b2 out v1 v2 H G r1 r2 sub hp
  obtain ⟨t, ht, hp⟩ := Option.map_eq_some_iff.mp hp
  subst hp
  obtain ⟨p, q', e1, e2, s1, s2, rfl⟩ := eqD_some ht
  exact ⟨_, op_eqD hu, fun Q q => ⟨p, q', r1.dp sub e1, r2.dp sub e2, s1, s2, q _ H G (.refl sub) (Den.bl _)⟩⟩
theorem p2_ne (hu : X.A.units + 64 < cLine) : P2 X cm (compareOp .NotEq) pNe := by
  intro d1 d2 b1 b2 out v1 v2 H G r1 r2 sub hp
  obtain ⟨t, ht, hp⟩ := Option.map_eq_some_iff.mp hp
  subst hp
  obtain ⟨p, q', e1, e2, s1, s2, rfl⟩ := eqD_some ht
  exact ⟨_, op_neD hu, fun Q q => ⟨p, q', r1.dp sub e1, r2.dp sub e2, s1, s2, q _ H G (.refl sub) (Den.bl _)⟩⟩
theorem VR.isNon {K : PySem.W.Frag} {d : Dt} {v : V} {t : Bool} (h : VR K cm H G v d t) : decide (v = .non) = d.isNon := by
  cases t with
  | true =>
    obtain ⟨l, vs, ds, h1, h2, h3, h4⟩ := h.1 rfl
    subst h1 h2
    rfl
  | false =>
    have q := h.2 rfl
    cases q <;> rfl
theorem je_isN {j pos'} (ha : JE X cm a fa) : JE X cm (.Compare a [.Is] [.Constant .none j pos'] pos) (e1 pIsN fa) := by
  refine ⟨fun env r σ H G hf rel Q q => ?_⟩
  obtain ⟨ra, h1, hf⟩ := Option.bind_eq_some_iff.mp hf
  cases hf
  refine to_e (pe_cmp (pc_isN pe_w) rfl) (ha.pub h1 rel fun v H1 G1 g1 vr => ?_)
  rw [vr.isNon]
  exact q _ H1 G1 g1 (Den.bl _)
theorem je_notN {j pos'} (ha : JE X cm a fa) : JE X cm (.Compare a [.IsNot] [.Constant .none j pos'] pos) (e1 pNotN fa) := by
  refine ⟨fun env r σ H G hf rel Q q => ?_⟩
  obtain ⟨ra, h1, hf⟩ := Option.bind_eq_some_iff.mp hf
  cases hf
  refine to_e (pe_cmp (pc_notN pe_w) rfl) (ha.pub h1 rel fun v H1 G1 g1 vr => ?_)
  rw [vr.isNon]
  exact q _ H1 G1 g1 (Den.bl _)
theorem je_neg (ha : JE X cm a fa) : JE X cm (.UnaryOp .USub a pos) (e1 pNeg fa) := by
  refine ⟨fun env r σ H G hf rel Q q => ?_⟩
  obtain ⟨ra, h1, hf⟩ := Option.bind_eq_some_iff.mp hf
  refine to_e (pe_un un_neg pe_w) (ha.pub h1 rel fun v H1 G1 g1 vr => ?_)
  unfold pNeg at hf
  split at hf
  · rename_i i hi
    cases hf
    rw [hi] at vr
    have e := vr.int
    subst e
    exact ⟨i, rfl, q _ H1 G1 g1 (Den.int _)⟩
  · cases hf

/-! subscripts -/
theorem atL_of {α : Type} {ds : List α} {i : Int} {d : α} (h : atL ds i = some d) : ∃ j : Nat, ds[j]? = some d ∧ ∀ {β : Type} (vs : List β) (v : β), vs.length = ds.length → vs[j]? = some v → atI vs i = some v := by
  unfold atL at h
  split at h
  · rename_i h0
    have hlt : i.toNat < ds.length := (List.getElem?_eq_some_iff.mp h).1
    refine ⟨i.toNat, h, fun vs v hl hv => ?_⟩
    unfold atI ixN
    rw [if_pos h0, if_pos (by omega)]
    exact hv
  · rename_i h0
    split at h
    · rename_i h1
      refine ⟨(i + ds.length).toNat, h, fun vs v hl hv => ?_⟩
      unfold atI ixN
      rw [if_neg h0, if_pos (by omega), hl]
      exact hv
    · cases h
theorem je_ix (ha : JE X cm a fa) (hb : JE X cm b fb) (hs : PlainIx b := by exact fun _ _ => rfl) : JE X cm (.Subscript a b pos) (e2 pIx fa fb) := by
  refine ⟨fun env r σ H G hf rel Q q => ?_⟩
  obtain ⟨ra, h1, hf⟩ := Option.bind_eq_some_iff.mp hf
  obtain ⟨rb, h2, hf⟩ := Option.bind_eq_some_iff.mp hf
  refine to_e (pe_ix ix_seq pe_w pe_w hs) ?_
  refine ha.pub h1 rel fun v H1 G1 g1 vr => hb.pub h2 (rel.grow g1) fun w H2 G2 g2 wr => ?_
  have vr2 := vr.grow g2
  unfold pIx at hf
  split at hf
  · rename_i ds i e1 e2
    obtain ⟨d, hd, hf⟩ := Option.map_eq_some_iff.mp hf
    subst hf
    rw [e1] at vr2
    rw [e2] at wr
    have e := wr.int
    subst e
    obtain ⟨l, vs, rfl, s1, n1⟩ := vr2.lst g2.sub
    obtain ⟨j, hj, k⟩ := atL_of hd
    obtain ⟨u, hu, du⟩ := n1.get hj
    exact .inl ⟨l, vs, i, u, rfl, rfl, s1, k vs u n1.length hu, q _ H2 G2 (g1.trans g2) du⟩
  · rename_i ds i e1 e2
    obtain ⟨d, hd, hf⟩ := Option.map_eq_some_iff.mp hf
    subst hf
    rw [e1] at vr2
    rw [e2] at wr
    have e := wr.int
    subst e
    obtain ⟨l, vs, rfl, s1, _, n1⟩ := vr2.tup g2.sub
    obtain ⟨j, hj, k⟩ := atL_of hd
    obtain ⟨u, hu, du⟩ := n1.get hj
    exact .inr (.inl ⟨l, vs, i, u, rfl, rfl, s1, k vs u n1.length hu, q _ H2 G2 (g1.trans g2) du⟩)
  · rename_i z i e1 e2
    split at hf
    · rename_i hz
      obtain ⟨d, hd, hf⟩ := Option.map_eq_some_iff.mp hf
      subst hf
      rw [e1] at vr2
      rw [e2] at wr
      have e := wr.int
      have e' := vr2.str
      subst e e'
      obtain ⟨j, hj, k⟩ := atL_of hd
      exact .inr (.inr ⟨z, i, d, rfl, rfl, lim_ok hz, k _ _ rfl hj, q _ H2 G2 (g1.trans g2) (Den.str _)⟩)
    · cases hf
  · cases hf
def JO (X : Cx) (cm : Nat → Addr) (e : Option Expr) (f : OF) : Prop := ∀ (env : Sl) (r : Option Int) (σ : L2.St) (H G : Hp), f env = some r → Rel X.K cm σ H G env → ∀ Q : Option Int → Hp → Prop, (∀ H' G', Grow H G H' G' → Q r H') →
  ∀ pins s, Inv X pins σ H s → wpAny (model X.prog X.w) X.A (evalPart e X.env) (fun u s' => ∃ o H', Inv X pins σ H' s' ∧ IsPart u o ∧ Q o H') X.xe s
theorem jo_none : JO X cm none oNone := fun env r σ H G hf rel Q q pins s I => by
  cases hf
  exact po_none.run pins s σ H Q I (q H G (.refl rel.sub))
theorem jo_some (ha : JE X cm a fa) : JO X cm (some a) (oSome fa) := fun env r σ H G hf rel Q q pins s I => by
  unfold oSome at hf
  split at hf
  · rename_i i h1
    cases hf
    refine (po_some pe_w).run pins s σ H Q I (ha.pub h1 rel fun v H1 G1 g1 vr => ?_)
    have e := vr.int
    subst e
    exact ⟨i, rfl, q H1 G1 g1⟩
  · cases hf
def wpO (X : Cx) (e : Option Expr) : TO := fun σ H Q => ∀ pins s, Inv X pins σ H s → wpAny (model X.prog X.w) X.A (evalPart e X.env) (fun u s' => ∃ o H', Inv X pins σ H' s' ∧ IsPart u o ∧ Q o H') X.xe s
theorem po_w {o : Option Expr} : PO X o (wpO X o) := ⟨fun pins s σ H Q I h => h pins s I⟩
theorem sIx_eq (n d : Nat) (o : Option Int) : HT.sIx n d o = sIx n d o := by
  cases o with
  | none => rfl
  | some v =>
    show (if v < 0 then (v + (n : Int)).toNat else min v.toNat n) = if 0 ≤ v then min v.toNat n else (v + n).toNat
    by_cases h : v < 0
    · rw [if_pos h, if_neg (by omega)]
    · rw [if_neg h, if_pos (by omega)]
theorem DenL.cut {K : PySem.W.Frag} {vs : List V} {ds : List Dt} (h : DenL K cm G vs ds) (lo hi : Option Int) : DenL K cm G (cutV vs lo hi) (cutD ds lo hi) := by
  unfold cutV cutD
  rw [h.length, sIx_eq, sIx_eq]
  exact (h.drop _).take _
theorem cutD_all {ds : List Dt} {lo hi : Option Int} (h : sIx ds.length 0 lo = 0 ∧ sIx ds.length ds.length hi = ds.length) : cutD ds lo hi = ds := by
  unfold cutD
  rw [h.1, h.2, List.drop_zero, Nat.sub_zero, List.take_length]
theorem je_slice {lo hi : Option Expr} {ol oh : OF} {p2 : Pos} (ha : JE X cm a fa) (hl : JO X cm lo ol) (hh : JO X cm hi oh) : JE X cm (.Subscript a (.Slice lo hi none p2) pos) (eSlice fa ol oh) := by
  refine ⟨fun env r σ H G hf rel Q q => ?_⟩
  obtain ⟨ra, h1, hf⟩ := Option.bind_eq_some_iff.mp hf
  obtain ⟨il, h2, hf⟩ := Option.bind_eq_some_iff.mp hf
  obtain ⟨ih, h3, hf⟩ := Option.bind_eq_some_iff.mp hf
  refine to_e (pe_slice (SlR.or sl_list sl_tupA) pe_w po_w po_w) ?_
  refine ha.pub h1 rel fun v H1 G1 g1 vr => hl env il σ H1 G1 h2 (rel.grow g1) _ fun H2 G2 g2 => hh env ih σ H2 G2 h3 ((rel.grow g1).grow g2) _ fun H3 G3 g3 => ?_
  have vr3 := (vr.grow g2).grow g3
  have g := (g1.trans g2).trans g3
  split at hf
  · rename_i ds e1
    cases hf
    rw [e1] at vr3
    obtain ⟨l, vs, rfl, s1, n1⟩ := vr3.lst g3.sub
    refine .inl ⟨l, vs, rfl, s1, fun p hp => ?_⟩
    exact q _ _ _ (g.trans (.hide g3.sub hp)) ⟨p, _, rfl, g.hx.back hp, upd_same, g3.sub.back hp, n1.cut _ _⟩
  · rename_i ds e1
    cases hf
    rw [e1] at vr3
    obtain ⟨l, vs, rfl, s1, t1, n1⟩ := vr3.tup g3.sub
    refine .inr ⟨l, vs, rfl, s1, fun hw => ?_, fun hw p hp => ?_⟩
    · rw [n1.length, sIx_eq, sIx_eq] at hw
      refine q _ _ _ g ?_
      show Den _ _ _ _ _
      rw [cutD_all hw]
      exact .tup t1 n1
    · have n := g3.sub.back hp
      exact q _ _ _ (g.trans (.new g3.sub hp)) (Den.tup (SqT.of upd_same) ((n1.cut _ _).mono (.new n)))
  · cases hf
end
end Pyl
end
section
set_option Elab.async false
set_option linter.all false
set_option maxRecDepth 100000
set_option maxHeartbeats 2000000
namespace Pyl
open PySem L2
section
variable {X : Cx} {cm : Nat → Addr} {e a b c : Expr} {f fa fb fc : EF} {σ : L2.St} {H G : Hp} {env : Sl} {pos p : Pos} {x : Str} {id T : String}

/-! built-in functions of one argument, of two -/
def P1 (X : Cx) (cm : Nat → Addr) (f : Value) (pf : Dt → Option R) : Prop := ∃ r : List V → Hp → VK → Prop, CallR X f r ∧
  ∀ (d : Dt) (b : Bool) (out : R) (v : V) (H G : Hp), VR X.K cm H G v d b → Exx G H → pf d = some out → ∀ Q : VK, (∀ v H' G', Grow H G H' G' → RR X.K cm H H' G' v out → Q v H') → r [v] H Q
theorem je_b1 {pf : Dt → Option R} (ok : P1 X cm (.builtin id) pf) (hg : Gl X x) (hm : X.mg x = none) (hv : bootBuiltins x = some (.builtin id)) (ha : JE X cm a fa) (hn : x ≠ "__name__" := by decide) (hdb : (x == ("__debug__" : Str)) = false := by decide)
    (he : starEach [a] X.env = (false, eval a X.env) :: starEach [] X.env := by rfl) (hpl : (backTo pos (starEach [] X.env)).any (·.1) = false := by rfl) : JE X cm (.Call (.Name x p) [a] [] pos) (e1 pf fa) := by
  refine ⟨fun env r σ H G hf rel Q q => ?_⟩
  obtain ⟨ra, h1, hf⟩ := Option.bind_eq_some_iff.mp hf
  obtain ⟨rr, hc, hr⟩ := ok
  refine to_e (pe_callB hc hg hm hv (pa_cons pe_w pa_nil he) hn hdb he hpl) (ha.pub h1 rel fun v H1 G1 g1 vr => ?_)
  exact hr _ _ _ v H1 G1 vr g1.sub hf Q fun v' H2 G2 g2 rr2 => q v' H2 G2 (g1.trans g2) (rr2.hx g1.hx)
theorem je_ty1 {pf : Dt → Option R} (ok : P1 X cm (.type T) pf) (hg : Gl X x) (hm : X.mg x = none) (hv : bootBuiltins x = some (.type T)) (ha : JE X cm a fa) (hn : x ≠ "__name__" := by decide) (hdb : (x == ("__debug__" : Str)) = false := by decide)
    (he : starEach [a] X.env = (false, eval a X.env) :: starEach [] X.env := by rfl) (hpl : (backTo pos (starEach [] X.env)).any (·.1) = false := by rfl) : JE X cm (.Call (.Name x p) [a] [] pos) (e1 pf fa) := by
  refine ⟨fun env r σ H G hf rel Q q => ?_⟩
  obtain ⟨ra, h1, hf⟩ := Option.bind_eq_some_iff.mp hf
  obtain ⟨rr, hc, hr⟩ := ok
  refine to_e (pe_callTy hc hg hm hv (pa_cons pe_w pa_nil he) hn hdb he hpl) (ha.pub h1 rel fun v H1 G1 g1 vr => ?_)
  exact hr _ _ _ v H1 G1 vr g1.sub hf Q fun v' H2 G2 g2 rr2 => q v' H2 G2 (g1.trans g2) (rr2.hx g1.hx)
def P2c (X : Cx) (cm : Nat → Addr) (f : Value) (pf : Dt → Dt → Option R) : Prop := ∃ r : List V → Hp → VK → Prop, CallR X f r ∧
  ∀ (d d2 : Dt) (b b2 : Bool) (out : R) (v v2 : V) (H G : Hp), VR X.K cm H G v d b → VR X.K cm H G v2 d2 b2 → Exx G H → pf d d2 = some out → ∀ Q : VK, (∀ v H' G', Grow H G H' G' → RR X.K cm H H' G' v out → Q v H') → r [v, v2] H Q
theorem je_b2 {pf : Dt → Dt → Option R} (ok : P2c X cm (.builtin id) pf) (hg : Gl X x) (hm : X.mg x = none) (hv : bootBuiltins x = some (.builtin id)) (ha : JE X cm a fa) (hb : JE X cm b fb) (hn : x ≠ "__name__" := by decide) (hdb : (x == ("__debug__" : Str)) = false := by decide)
    (h0 : starEach [b] X.env = (false, eval b X.env) :: starEach [] X.env := by rfl) (he : starEach [a, b] X.env = (false, eval a X.env) :: starEach [b] X.env := by rfl) (hpl : (backTo pos (starEach [b] X.env)).any (·.1) = false := by rfl) : JE X cm (.Call (.Name x p) [a, b] [] pos) (e2 pf fa fb) := by
  refine ⟨fun env r σ H G hf rel Q q => ?_⟩
  obtain ⟨ra, h1, hf⟩ := Option.bind_eq_some_iff.mp hf
  obtain ⟨rb, h2, hf⟩ := Option.bind_eq_some_iff.mp hf
  obtain ⟨rr, hc, hr⟩ := ok
  refine to_e (pe_callB hc hg hm hv (pa_cons pe_w (pa_cons pe_w pa_nil h0) he) hn hdb he hpl) (ha.pub h1 rel fun v H1 G1 g1 vr => hb.pub h2 (rel.grow g1) fun w H2 G2 g2 wr => ?_)
  exact hr _ _ _ _ _ v w H2 G2 (vr.grow g2) wr g2.sub hf Q fun v' H3 G3 g3 rr3 => q v' H3 G3 ((g1.trans g2).trans g3) (rr3.hx (g1.trans g2).hx)

theorem p1_len : P1 X cm (.builtin "len") pLen := ⟨_, call_len, fun d b out v H G vr sub hp Q q => by
  unfold pLen at hp
  split at hp
  · cases hp
    obtain ⟨l, vs, rfl, s1, n1⟩ := vr.lst sub
    exact ⟨_, vs.length, rfl, .inl ⟨vs, s1, rfl⟩, by rw [n1.length]; exact q _ _ _ (.refl sub) (Den.int _)⟩
  · cases hp
    obtain ⟨l, vs, rfl, s1, _, n1⟩ := vr.tup sub
    exact ⟨_, vs.length, rfl, .inr ⟨vs, s1, rfl⟩, by rw [n1.length]; exact q _ _ _ (.refl sub) (Den.int _)⟩
  · cases hp⟩
theorem p1_int : P1 X cm (.type "int") pInt := ⟨_, call_int1, fun d b out v H G vr sub hp Q q => by
  unfold pInt at hp
  split at hp
  · cases hp
    have e := vr.int
    subst e
    exact .inl ⟨_, rfl, q _ _ _ (.refl sub) (Den.int _)⟩
  · cases hp
    have e := vr.bl
    subst e
    exact .inr ⟨_, rfl, q _ _ _ (.refl sub) (Den.int _)⟩
  · cases hp⟩
theorem p1_abs : P1 X cm (.builtin "abs") pAbs := ⟨_, call_abs, fun d b out v H G vr sub hp Q q => by
  unfold pAbs at hp
  split at hp
  · cases hp
    have e := vr.int
    subst e
    exact ⟨_, rfl, q _ _ _ (.refl sub) (Den.int _)⟩
  · cases hp⟩
theorem DenL.ints {K : PySem.W.Frag} : ∀ {ds : List Dt} {vs : List V} {ns : List Int}, DenL K cm G vs ds → intsOf ds = some ns → vs = ns.map V.int
  | [], _, _, h, e => by
    cases h
    unfold intsOf at e
    cases e
    rfl
  | .int i :: ds, _, _, h, e => by
    cases h with
    | cons h1 h2 =>
      unfold intsOf at e
      obtain ⟨ms, e1, e2⟩ := Option.map_eq_some_iff.mp e
      subst e2
      cases h1
      rw [List.map_cons, DenL.ints h2 e1]
  | .non :: _, _, _, _, e => by simp [intsOf] at e
  | .bl _ :: _, _, _, _, e => by simp [intsOf] at e
  | .str _ :: _, _, _, _, e => by simp [intsOf] at e
  | .lst _ :: _, _, _, _, e => by simp [intsOf] at e
  | .tup _ :: _, _, _, _, e => by simp [intsOf] at e
  | .obj _ _ :: _, _, _, _, e => by simp [intsOf] at e
theorem p1_sum (hc : X.calm = true) : P1 X cm (.builtin "sum") pSum := ⟨_, cr_sum hc, fun d b out v H G vr sub hp Q q => by
  unfold pSum at hp
  split at hp
  · obtain ⟨ns, h1, hp⟩ := Option.map_eq_some_iff.mp hp
    subst hp
    obtain ⟨l, vs, rfl, s1, n1⟩ := vr.lst sub
    have e := n1.ints h1
    subst e
    exact ⟨l, ns, rfl, s1, q _ _ _ (.refl sub) (Den.int _)⟩
  · cases hp⟩
theorem p2c_max (hc : X.calm = true) : P2c X cm (.builtin "max") pMax2 := ⟨_, call_max2 hc, fun d d2 b b2 out v v2 H G vr vr2 sub hp Q q => by
  unfold pMax2 at hp
  split at hp
  · cases hp
    have e := vr.int
    have e2 := vr2.int
    subst e e2
    exact ⟨_, _, rfl, q _ _ _ (.refl sub) (Den.int _)⟩
  · cases hp⟩
theorem p2c_min (hc : X.calm = true) : P2c X cm (.builtin "min") pMin2 := ⟨_, call_min2 hc, fun d d2 b b2 out v v2 H G vr vr2 sub hp Q q => by
  unfold pMin2 at hp
  split at hp
  · cases hp
    have e := vr.int
    have e2 := vr2.int
    subst e e2
    exact ⟨_, _, rfl, q _ _ _ (.refl sub) (Den.int _)⟩
  · cases hp⟩
theorem p1_list : P1 X cm (.type "list") pList := ⟨_, call_list_of, fun d b out v H G vr sub hp Q q => by
  unfold pList at hp
  split at hp
  · cases hp
    obtain ⟨l, vs, rfl, s1, n1⟩ := vr.lst sub
    exact ⟨l, vs, rfl, .inl s1, fun m hm => q _ _ _ (.hide sub hm) ⟨m, _, rfl, hm, upd_same, sub.back hm, n1⟩⟩
  · cases hp
    obtain ⟨l, vs, rfl, s1, _, n1⟩ := vr.tup sub
    exact ⟨l, vs, rfl, .inr s1, fun m hm => q _ _ _ (.hide sub hm) ⟨m, _, rfl, hm, upd_same, sub.back hm, n1⟩⟩
  · cases hp⟩
theorem p1_tuple : P1 X cm (.type "tuple") pTuple := ⟨_, call_tuple_of, fun d b out v H G vr sub hp Q q => by
  unfold pTuple at hp
  split at hp
  · cases hp
    obtain ⟨l, vs, rfl, s1, n1⟩ := vr.lst sub
    exact ⟨l, vs, rfl, .inl ⟨s1, fun m hm => q _ _ _ (.new sub hm) (Den.tup (SqT.of upd_same) (n1.mono (.new (sub.back hm))))⟩⟩
  · cases hp
    obtain ⟨l, vs, rfl, s1, t1, n1⟩ := vr.tup sub
    exact ⟨l, vs, rfl, .inr ⟨s1, q _ _ _ (.refl sub) (Den.tup t1 n1)⟩⟩
  · cases hp⟩

/-! isinstance(x, T) -/
theorem TyX.sqL {K : PySem.W.Frag} {l : Addr} {vs : List V} (h : SqL K H l vs) : TyX K H (.ref l) (.type "list") := by
  rcases h with (h | ⟨o, h⟩) | ⟨o, its, n, hk, hc, _⟩
  · exact .base (.lst h)
  · exact .base (.frz h)
  · exact .kList hk hc
theorem TyX.sqT {K : PySem.W.Frag} {l : Addr} {vs : List V} (h : SqT K H l vs) : TyX K H (.ref l) (.type "tuple") := by
  rcases h with (h | ⟨o, h⟩) | ⟨o, its, n, hk, hc, _⟩
  · exact .base (.tup h)
  · exact .fTuple h
  · exact .kTuple hk hc
theorem VR.tyX {K : PySem.W.Frag} {d : Dt} {v : V} {b : Bool} {t : String} (sub : Exx G H) (h : VR K cm H G v d b) (e : d.ty = some t) : TyX K H v (.type t) := by
  cases d with
  | non => cases e; have q := h.non; subst q; exact .base .non
  | bl x => cases e; have q := h.bl; subst q; exact .base (.bl x)
  | int i => cases e; have q := h.int; subst q; exact .base (.int i)
  | str z => cases e; have q := h.str; subst q; exact .base (.str z)
  | lst ds =>
    cases e
    obtain ⟨l, vs, rfl, s1, n1⟩ := h.lst sub
    exact TyX.sqL s1
  | tup ds =>
    cases e
    obtain ⟨l, vs, rfl, s1, _, n1⟩ := h.tup sub
    exact TyX.sqT s1
  | obj c fs => cases e
theorem je_isi {p2 : Pos} (hk : ∀ t ∈ (["NoneType", "bool", "int", "str", "list", "tuple"] : List String), kitB t T = some (t == T || (t == "bool" && T == "int"))) (hg : Gl X "isinstance") (hm : X.mg "isinstance" = none) (hg2 : Gl X x) (hm2 : X.mg x = none)
    (hv2 : bootBuiltins x = some (.type T)) (ha : JE X cm a fa) (hn2 : x ≠ "__name__" := by decide) (hd2 : (x == ("__debug__" : Str)) = false := by decide)
    (h0 : starEach [.Name x p2] X.env = (false, eval (.Name x p2) X.env) :: starEach [] X.env := by rfl) (he : starEach [a, .Name x p2] X.env = (false, eval a X.env) :: starEach [.Name x p2] X.env := by rfl)
    (hpl : (backTo pos (starEach [.Name x p2] X.env)).any (·.1) = false := by rfl) : JE X cm (.Call (.Name "isinstance" p) [a, .Name x p2] [] pos) (e1 (pIsi T) fa) := by
  refine ⟨fun env r σ H G hf rel Q q => ?_⟩
  obtain ⟨ra, h1, hf⟩ := Option.bind_eq_some_iff.mp hf
  obtain ⟨t, ht, hf⟩ := Option.map_eq_some_iff.mp hf
  subst hf
  obtain ⟨ty, hty, ht⟩ := Option.map_eq_some_iff.mp ht
  subst ht
  refine to_e (pe_callB call_isi hg hm (by decide +kernel) (pa_cons pe_w (pa_cons (pe_bltn (v := .ty T) hg2 hm2 hv2 rfl hn2 hd2) pa_nil h0) he) (by decide) (by decide) he hpl) (ha.pub h1 rel fun v H1 G1 g1 vr => ?_)
  refine ⟨v, .ty T, .type ty, .type T, _, rfl, .ty T, vr.tyX g1.sub hty, kit_ty (hk ty ?_), q _ _ _ g1 (Den.bl _)⟩
  generalize ra.dt = d at hty
  cases d <;> cases hty <;> simp

/-! calls -/
theorem VRs.denH {K : PySem.W.Frag} (sub : Exx G H) : ∀ {vs : List V} {rs : List (Dt × Bool)}, VRs K cm H G vs rs → DenL K cm H vs (rs.map (·.1))
  | _, _, .nil => .nil
  | _, _, .cons (b := b) (d := d) h t => by
    refine .cons ?_ (VRs.denH sub t)
    cases b with
    | false => exact h.den.mono sub
    | true =>
      obtain ⟨l, vs, ds, h1, h2, h3, h4⟩ := h.1 rfl
      subst h1 h2
      exact .lst h3 (h4.mono sub)
/-- the promise of a def that keeps F -/
def spP (K : PySem.W.Frag) (cm : Nat → Addr) (F : FN) : Sp := fun vs H Q _ => ∃ (G : Hp) (ds : List Dt) (r : Dt), Exx G H ∧ DenL K cm G vs ds ∧ F ds = some r ∧ ∀ v H' G', Grow H G H' G' → Den K cm G' v r → Q v H'
/-- a def of the module that keeps F -/
structure FnC (P : Program) (w : World) (K : PySem.W.Frag) (mg : Str → Option Value) (base : Heap) (cm : Nat → Addr) (k : Nat) (x : Str) (F : FN) : Prop where
  ex : ∃ (f : Addr) (fd : FuncData) (ps : List Str), FnOk P w K mg base CX0 k f fd ps (spP K cm F) ∧ mg x = some (.ref f) ∧ PySem.W.keepIn K (.ref f) = true ∧ Binds K fd ps []
theorem Dt.scalar_den {K : PySem.W.Frag} {v : V} {d : Dt} {G' : Hp} (h : Den K cm G v d) (s : d.scalar = true) : Den K cm G' v d := by
  cases h <;> first | exact Den.non | exact Den.bl _ | exact Den.int _ | exact Den.str _ | cases s
theorem je_call {es : List Expr} {ft : AF} {F : FN} {k : Nat} (C : FnC X.prog X.w X.K X.mg X.base cm k x F) (hr : Room k X.A) (hg : Gl X x) (ha : JA X cm (e :: es) ft) (hdb : (x == ("__debug__" : Str)) = false := by decide)
    (he : starEach (e :: es) X.env = (false, eval e X.env) :: starEach es X.env := by rfl) (hpl : (backTo pos (starEach es X.env)).any (·.1) = false := by rfl) : JE X cm (.Call (.Name x p) (e :: es) [] pos) (eCall F ft) := by
  refine ⟨fun env r σ H G hf rel Q q => ?_⟩
  obtain ⟨rs, h1, hf⟩ := Option.bind_eq_some_iff.mp hf
  obtain ⟨d, h2, hf⟩ := Option.bind_eq_some_iff.mp hf
  obtain ⟨f, fd, ps, hF, hm, hk, hb⟩ := C.ex
  refine to_e (pe_call hF hr hg hm hk hb .nil pass0 pa_w hdb he hpl) (ha.run env rs σ H G h1 rel _ fun vs H1 G1 g1 vrs => ?_)
  show spP X.K cm F (vs ++ []) H1 Q E0
  rw [List.append_nil]
  by_cases hs : rs.any (·.2) = true
  · split at hf
    · cases hf
    · rename_i hn
      cases hf
      have sc : d.scalar = true := by
        cases hd : d.scalar with
        | true => rfl
        | false => exact absurd (by rw [hs, hd]; rfl) hn
      refine ⟨H1, _, d, .refl _, vrs.denH g1.sub, h2, fun v H' G' g hden => ?_⟩
      exact q v H' G1 (g1.trans ⟨g.hx, .refl _, fun _ _ _ n => n, g1.sub.trans g.hx⟩) (Dt.scalar_den hden sc)
  · have hs' : rs.any (·.2) = false := by simpa using hs
    split at hf
    · rename_i hn
      rw [hs'] at hn
      cases hn
    · cases hf
      exact ⟨G1, _, d, g1.sub, vrs.plain hs', h2, fun v H' G' g hden => q v H' G' (g1.trans g) hden⟩

/-! and, or, not; if .. else -/
theorem je_one {op} (h : JE X cm a fa) : JE X cm (.BoolOp op [a] pos) fa := ⟨fun env r σ H G hf rel Q q => to_e (pe_one pe_w) (h.run env r σ H G hf rel Q q)⟩
theorem je_and {rest : List Expr} (ha : JE X cm a fa) (hb : JE X cm (.BoolOp .And (b :: rest) pos) fb) : JE X cm (.BoolOp .And (a :: b :: rest) pos) (eAnd fa fb) := by
  refine ⟨fun env r σ H G hf rel Q q => ?_⟩
  refine to_e (pe_and pe_w pe_w) ?_
  unfold eAnd at hf
  split at hf
  · rename_i h1
    refine ha.run env _ σ H G h1 rel _ fun v H1 G1 g1 vr => ?_
    cases (show Den _ _ _ _ _ from vr)
    exact ⟨true, rfl, iteT (hb.run env r σ H1 G1 hf (rel.grow g1) Q fun v' H2 G2 g2 r2 => q v' H2 G2 (g1.trans g2) (r2.hx g1.hx))⟩
  · rename_i h1
    cases hf
    refine ha.run env _ σ H G h1 rel _ fun v H1 G1 g1 vr => ?_
    cases (show Den _ _ _ _ _ from vr)
    exact ⟨false, rfl, iteF (q _ H1 G1 g1 (Den.bl _))⟩
  · cases hf
theorem je_or {rest : List Expr} (ha : JE X cm a fa) (hb : JE X cm (.BoolOp .Or (b :: rest) pos) fb) : JE X cm (.BoolOp .Or (a :: b :: rest) pos) (eOr fa fb) := by
  refine ⟨fun env r σ H G hf rel Q q => ?_⟩
  refine to_e (pe_or pe_w pe_w) ?_
  unfold eOr at hf
  split at hf
  · rename_i h1
    cases hf
    refine ha.run env _ σ H G h1 rel _ fun v H1 G1 g1 vr => ?_
    cases (show Den _ _ _ _ _ from vr)
    exact ⟨true, rfl, iteT (q _ H1 G1 g1 (Den.bl _))⟩
  · rename_i h1
    refine ha.run env _ σ H G h1 rel _ fun v H1 G1 g1 vr => ?_
    cases (show Den _ _ _ _ _ from vr)
    exact ⟨false, rfl, iteF (hb.run env r σ H1 G1 hf (rel.grow g1) Q fun v' H2 G2 g2 r2 => q v' H2 G2 (g1.trans g2) (r2.hx g1.hx))⟩
  · cases hf
theorem je_not (ha : JE X cm a fa) : JE X cm (.UnaryOp .Not a pos) (eNot fa) := by
  refine ⟨fun env r σ H G hf rel Q q => ?_⟩
  refine to_e (pe_not pe_w) ?_
  unfold eNot at hf
  split at hf
  · rename_i b h1
    cases hf
    refine ha.run env _ σ H G h1 rel _ fun v H1 G1 g1 vr => ?_
    cases (show Den _ _ _ _ _ from vr)
    exact ⟨b, rfl, q _ H1 G1 g1 (Den.bl _)⟩
  · cases hf
/-! tests -/
structure JW (X : Cx) (cm : Nat → Addr) (e : Expr) (f : TF) : Prop where
  run : ∀ (env : Sl) (b : Bool) (σ : L2.St) (H G : Hp), f env = some b → Rel X.K cm σ H G env → ∀ Q : Bool → Hp → Prop, (∀ H' G', Grow H G H' G' → Q b H') →
    ∀ (whole : Sem Value) pins s, Inv X pins σ H s → wpAny (model X.prog X.w) X.A (isTrue e X.env whole) (TP X pins σ Q) X.xe s
variable {ta tb : TF}
theorem JW.t (h : JW X cm e ta) : JT X cm e ta := ⟨fun env b σ H G hf rel Q q pins s I => h.run env b σ H G hf rel Q q _ pins s I⟩
theorem jt_val (h : JE X cm e f) (he : ∀ whole, isTrue e X.env whole = (do let v ← whole; standAt e.pos; holding [v] (truthy v)) := by intro _; rfl) : JT X cm e (tVal f) := by
  refine ⟨fun env r σ H G hf rel Q q => ?_⟩
  refine to_t (pt_val pe_w he) ?_
  unfold tVal at hf
  split at hf
  · rename_i b h1
    cases hf
    refine h.run env _ σ H G h1 rel _ fun v H1 G1 g1 vr => ?_
    cases (show Den _ _ _ _ _ from vr)
    exact ⟨_, rfl, q H1 G1 g1⟩
  · cases hf
theorem jt_cmp {op : CmpOp} {pf : Dt → Dt → Option R} (ok : P2 X cm (compareOp op) pf) (ha : JE X cm a fa) (hb : JE X cm b fb) (hm : behindInMarks op b = false := by first | exact nobehind _ (by decide) (by decide) | rfl) : JT X cm (.Compare a [op] [b] pos) (tVal (e2 pf fa fb)) := by
  refine ⟨fun env r σ H G hf rel Q q pins s I => ?_⟩
  unfold tVal at hf
  split at hf
  · rename_i b' h1
    cases hf
    refine wpAny_isTrue_Compare1 (thn (run2 (Q := fun v H' => ∃ k, v = .bl k ∧ Q k H') ok ha hb h1 rel (fun v H' G' g vr => ?_) I) fun v s1 h1 => thn h1 fun u s2 h2 => thn h2 fun c s3 ⟨x, H1, I1, r1, q1⟩ => ?_) hm
    · cases (show Den _ _ _ _ _ from vr)
      exact ⟨_, rfl, q H' G' g⟩
    · obtain ⟨d, rfl, q⟩ := q1
      cases r1
      exact wpAny_truthy_bool ⟨H1, I1, q⟩
  · cases hf
theorem jt_isN {j pos'} (ha : JE X cm a fa) : JT X cm (.Compare a [.Is] [.Constant .none j pos'] pos) (tVal (e1 pIsN fa)) := by
  refine ⟨fun env r σ H G hf rel Q q => ?_⟩
  unfold tVal at hf
  split at hf
  · rename_i b' h1
    cases hf
    obtain ⟨ra, h2, h3⟩ := Option.bind_eq_some_iff.mp h1
    refine to_t (pt_cmp (pc_isN pe_w) rfl) (ha.pub h2 rel fun v H1 G1 g1 vr => ⟨_, rfl, ?_⟩)
    rw [vr.isNon]
    cases h3
    exact q _ _ g1
  · cases hf
theorem jt_notN {j pos'} (ha : JE X cm a fa) : JT X cm (.Compare a [.IsNot] [.Constant .none j pos'] pos) (tVal (e1 pNotN fa)) := by
  refine ⟨fun env r σ H G hf rel Q q => ?_⟩
  unfold tVal at hf
  split at hf
  · rename_i b' h1
    cases hf
    obtain ⟨ra, h2, h3⟩ := Option.bind_eq_some_iff.mp h1
    refine to_t (pt_cmp (pc_notN pe_w) rfl) (ha.pub h2 rel fun v H1 G1 g1 vr => ⟨_, rfl, ?_⟩)
    rw [vr.isNon]
    cases h3
    exact q _ _ g1
  · cases hf
theorem jw_and1 (ha : JT X cm a ta) : JW X cm (.BoolOp .And [a] pos) ta := ⟨fun env r σ H G hf rel Q q wh pins s I => (pw_and1 pt_w).run wh pins s σ H Q I (ha.run env r σ H G hf rel Q q)⟩
theorem jw_or1 (ha : JT X cm a ta) : JW X cm (.BoolOp .Or [a] pos) ta := ⟨fun env r σ H G hf rel Q q wh pins s I => (pw_or1 pt_w).run wh pins s σ H Q I (ha.run env r σ H G hf rel Q q)⟩
def wpW (X : Cx) (e : Expr) : TT := fun σ H Q => ∀ (whole : Sem Value) pins s, Inv X pins σ H s → wpAny (model X.prog X.w) X.A (isTrue e X.env whole) (TP X pins σ Q) X.xe s
theorem pw_w {e : Expr} : PW X e (wpW X e) := ⟨fun wh pins s σ H Q I h => h wh pins s I⟩
theorem jw_and {rest : List Expr} (ha : JT X cm a ta) (hb : JW X cm (.BoolOp .And (b :: rest) pos) tb) : JW X cm (.BoolOp .And (a :: b :: rest) pos) (tAnd ta tb) := by
  refine ⟨fun env r σ H G hf rel Q q wh pins s I => ?_⟩
  obtain ⟨t, h1, hf⟩ := Option.bind_eq_some_iff.mp hf
  refine (pw_and pt_w pw_w).run wh pins s σ H Q I (ha.run env t σ H G h1 rel _ fun H1 G1 g1 => ?_)
  cases t with
  | true => exact iteT (hb.run env r σ H1 G1 hf (rel.grow g1) Q fun H2 G2 g2 => q H2 G2 (g1.trans g2))
  | false =>
    cases hf
    exact iteF (q H1 G1 g1)
theorem jw_or {rest : List Expr} (ha : JT X cm a ta) (hb : JW X cm (.BoolOp .Or (b :: rest) pos) tb) : JW X cm (.BoolOp .Or (a :: b :: rest) pos) (tOr ta tb) := by
  refine ⟨fun env r σ H G hf rel Q q wh pins s I => ?_⟩
  obtain ⟨t, h1, hf⟩ := Option.bind_eq_some_iff.mp hf
  refine (pw_or pt_w pw_w).run wh pins s σ H Q I (ha.run env t σ H G h1 rel _ fun H1 G1 g1 => ?_)
  cases t with
  | true =>
    cases hf
    exact iteT (q H1 G1 g1)
  | false => exact iteF (hb.run env r σ H1 G1 hf (rel.grow g1) Q fun H2 G2 g2 => q H2 G2 (g1.trans g2))
theorem jt_not (ha : JT X cm a ta) : JT X cm (.UnaryOp .Not a pos) (tNot ta) := by
  refine ⟨fun env r σ H G hf rel Q q => ?_⟩
  obtain ⟨t, h1, hf⟩ := Option.bind_eq_some_iff.mp hf
  cases hf
  exact to_t (pt_not pt_w) (ha.run env t σ H G h1 rel _ fun H1 G1 g1 => q H1 G1 g1)
theorem je_if (hc : JT X cm c ta) (ha : JE X cm a fa) (hb : JE X cm b fb) : JE X cm (.IfExp c a b pos) (eIf ta fa fb) := by
  refine ⟨fun env r σ H G hf rel Q q => ?_⟩
  obtain ⟨t, h1, hf⟩ := Option.bind_eq_some_iff.mp hf
  refine to_e (pe_ifExp pt_w pe_w pe_w) (hc.run env t σ H G h1 rel _ fun H1 G1 g1 => ?_)
  cases t with
  | true => exact iteT (ha.run env r σ H1 G1 hf (rel.grow g1) Q fun v H2 G2 g2 r2 => q v H2 G2 (g1.trans g2) (r2.hx g1.hx))
  | false => exact iteF (hb.run env r σ H1 G1 hf (rel.grow g1) Q fun v H2 G2 g2 r2 => q v H2 G2 (g1.trans g2) (r2.hx g1.hx))
end
end Pyl
end
section
set_option Elab.async false
set_option linter.all false
set_option maxRecDepth 100000
set_option maxHeartbeats 2000000
namespace Pyl
open PySem L2

/-! ### what is walked -/
/-- the heaps at a turn, behind the making of the iterator at H0, G0; b: what is walked is borrowed -/
structure StK (H0 G0 : Hp) (b : Bool) (H G : Hp) : Prop where
  sub : Exx G H
  gx : Exx G0 G
  hx : b = true → Exx H0 H
structure ItOk (K : PySem.W.Frag) (cm : Nat → Addr) (J : It) (ds : List Dt) (b : Bool) (H0 G0 : Hp) : Prop where
  go : ∀ (i : Nat) (H G : Hp), StK H0 G0 b H G → i < ds.length → J.go i H
  yl : ∀ (i : Nat) (H G : Hp) (v : V) (H' : Hp), StK H0 G0 b H G → i < ds.length → J.yld i H v H' → ∃ (G' : Hp) (d : Dt), ds[i]? = some d ∧ Grow H G H' G' ∧ Den K cm G' v d
  stop : ∀ (i : Nat) (H G : Hp), StK H0 G0 b H G → ds.length ≤ i → J.stop i H
structure JI (X : Cx) (cm : Nat → Addr) (tg iter : Expr) (f : IF) : Prop where
  run : ∀ (env : Sl) (ds : List Dt) (b : Bool) (σ : L2.St) (H G : Hp), f env = some (ds, b) → Rel X.K cm σ H G env → ∀ Q : It → Hp → Prop, (∀ J H' G', Grow H G H' G' → ItOk X.K cm J ds b H' G' → Q J H') → wpI X tg iter σ H Q
section
variable {X : Cx} {cm : Nat → Addr} {e a b c tg iter : Expr} {f fa fb fc : EF} {σ : L2.St} {H G : Hp} {env : Sl} {pos p : Pos}
theorem itl_ok {K : PySem.W.Frag} {l : Addr} {vs : List V} {ds : List Dt} {t : Bool} {H0 G0 : Hp} (h : ∀ H G, StK H0 G0 t H G → SqL K H l vs) (n : DenL K cm G0 vs ds) : ItOk K cm (Itl K l) ds t H0 G0 where
  go := fun i H G s hi => by
    have hi' : i < vs.length := by rw [n.length]; exact hi
    exact ⟨vs, vs[i], h H G s, List.getElem?_eq_getElem hi'⟩
  yl := fun i H G v H' s hi y => by
    obtain ⟨rfl, y⟩ := y
    obtain ⟨d, hd, dn⟩ := n.get' (y vs (h _ _ s))
    exact ⟨G, d, hd, .refl s.sub, dn.mono s.gx⟩
  stop := fun i H G s hi => ⟨vs, h H G s, by rw [n.length]; exact hi⟩
theorem itt_ok {K : PySem.W.Frag} {l : Addr} {vs : List V} {ds : List Dt} {t : Bool} {H0 G0 : Hp} (h : SqT K G0 l vs) (n : DenL K cm G0 vs ds) : ItOk K cm (Itt K l) ds t H0 G0 where
  go := fun i H G s hi => by
    have hi' : i < vs.length := by rw [n.length]; exact hi
    exact ⟨vs, vs[i], s.sub.sqT (s.gx.sqT h), List.getElem?_eq_getElem hi'⟩
  yl := fun i H G v H' s hi y => by
    obtain ⟨rfl, y⟩ := y
    obtain ⟨d, hd, dn⟩ := n.get' (y vs (s.sub.sqT (s.gx.sqT h)))
    exact ⟨G, d, hd, .refl s.sub, dn.mono s.gx⟩
  stop := fun i H G s hi => ⟨vs, s.sub.sqT (s.gx.sqT h), by rw [n.length]; exact hi⟩
theorem rngD_get {lo : Int} {n i : Nat} (h : i < n) : (rngD lo n)[i]? = some (.int (lo + (i : Int))) := by
  unfold rngD
  rw [List.getElem?_map, List.getElem?_range h]
  rfl
theorem rngD_length (lo : Int) (n : Nat) : (rngD lo n).length = n := by
  unfold rngD
  rw [List.length_map, List.length_range]
theorem itr_ok {K : PySem.W.Frag} {lo : Int} {n : Nat} {t : Bool} {H0 G0 : Hp} : ItOk K cm (Itr lo n) (rngD lo n) t H0 G0 where
  go := fun i H G s hi => by
    rw [rngD_length] at hi
    exact hi
  yl := fun i H G v H' s hi y => by
    obtain ⟨rfl, rfl⟩ := y
    rw [rngD_length] at hi
    exact ⟨G, _, rngD_get hi, .refl s.sub, .int _⟩
  stop := fun i H G s hi => by
    rw [rngD_length] at hi
    exact hi
theorem ji_seq (ha : JE X cm iter fa) : JI X cm tg iter (iSeq fa) := by
  refine ⟨fun env ds t σ H G hf rel Q q => ?_⟩
  obtain ⟨ra, h1, hf⟩ := Option.bind_eq_some_iff.mp hf
  split at hf
  · rename_i ds' e1
    cases hf
    refine to_i (pi_list pe_w) (ha.pub h1 rel fun v H1 G1 g1 vr => ?_)
    rw [e1] at vr
    cases hsh : ra.sh with
    | false =>
      rw [hsh] at vr
      cases vr.den with
      | lst s1 n1 => exact ⟨_, rfl, ⟨_, g1.sub.sqL s1⟩, q _ H1 G1 g1 (by rw [hsh]; exact itl_ok (fun H G s => s.sub.sqL (s.gx.sqL s1)) n1)⟩
    | true =>
      rw [hsh] at vr
      obtain ⟨l, vs, ds'', h1, h2, h3, h4⟩ := vr.1 rfl
      subst h1
      cases h2
      exact ⟨_, rfl, ⟨_, h3⟩, q _ H1 G1 g1 (by rw [hsh]; exact itl_ok (fun H G s => (s.hx rfl).sqL h3) h4)⟩
  · rename_i ds' e1
    cases hf
    refine to_i (pi_tup pe_w) (ha.pub h1 rel fun v H1 G1 g1 vr => ?_)
    rw [e1] at vr
    obtain ⟨l, vs, rfl, s1, t1, n1⟩ := vr.tup g1.sub
    exact ⟨_, rfl, ⟨_, s1⟩, q _ H1 G1 g1 (itt_ok t1 n1)⟩
  · cases hf
theorem ji_range1 (hg : Gl X "range") (hm : X.mg "range" = none) (ha : JE X cm a fa) (hs : starEach [a] X.env = [(false, eval a X.env)] := by rfl) (he : starEach [a] X.env = (false, eval a X.env) :: starEach [] X.env := by rfl) :
    JI X cm tg (.Call (.Name "range" p) [a] [] pos) (iRange1 fa) := by
  refine ⟨fun env ds t σ H G hf rel Q q => ?_⟩
  unfold iRange1 at hf
  split at hf
  · rename_i n h1
    split at hf
    · rename_i hn
      cases hf
      refine to_i (pi_range1 hg hm (pa_cons pe_w pa_nil he) hs) (ha.run env _ σ H G h1 rel _ fun v H1 G1 g1 vr => ?_)
      cases (show Den _ _ _ _ _ from vr)
      exact ⟨n, rfl, by omega, by omega, q _ H1 G1 g1 itr_ok⟩
    · cases hf
  · cases hf
theorem ji_range2 (hg : Gl X "range") (hm : X.mg "range" = none) (ha : JE X cm a fa) (hb : JE X cm b fb) (hs : starEach [a, b] X.env = [(false, eval a X.env), (false, eval b X.env)] := by rfl) (hs2 : starEach [b] X.env = [(false, eval b X.env)] := by rfl)
    (he : starEach [a, b] X.env = (false, eval a X.env) :: starEach [b] X.env := by rfl) (he2 : starEach [b] X.env = (false, eval b X.env) :: starEach [] X.env := by rfl) : JI X cm tg (.Call (.Name "range" p) [a, b] [] pos) (iRange2 fa fb) := by
  refine ⟨fun env ds t σ H G hf rel Q q => ?_⟩
  obtain ⟨ra, h1, hf⟩ := Option.bind_eq_some_iff.mp hf
  obtain ⟨rb, h2, hf⟩ := Option.bind_eq_some_iff.mp hf
  split at hf
  · rename_i lo hi e1 e2
    split at hf
    · rename_i hn
      cases hf
      refine to_i (pi_range2 hg hm (pa_cons pe_w (pa_cons pe_w pa_nil he2) he) hs hs2) (ha.pub h1 rel fun v H1 G1 g1 vr => hb.pub h2 (rel.grow g1) fun w H2 G2 g2 wr => ?_)
      rw [e1] at vr
      rw [e2] at wr
      have ev := vr.int
      have ew := wr.int
      subst ev ew
      exact ⟨lo, hi, rfl, ⟨by omega, by omega, by omega, by omega⟩, q _ H2 G2 (g1.trans g2) itr_ok⟩
    · cases hf
  · cases hf

/-! ### targets -/
structure JG (X : Cx) (cm : Nat → Addr) (tg : Expr) (is : List Nat) (g : GF) : Prop where
  run : ∀ (env env' : Sl) (d : Dt) (v : V) (σ : L2.St) (H G : Hp), g d env = some env' → Rel X.K cm σ H G env → Den X.K cm G v d → ∀ Q : L2.St → Hp → Prop,
    (∀ σ', Rel X.K cm σ' H G env' → Fr σ env H G σ' env' H G → (∀ j : Nat, j ∉ is → σ'[j]? = σ[j]?) → σ'.length = σ.length → Q σ' H) → wpG X tg v σ H Q
theorem get_set {α : Type} {l : List α} {i j : Nat} {x y : α} (h : (l.set i x)[j]? = some y) : (i = j ∧ y = x ∧ j < l.length) ∨ (i ≠ j ∧ l[j]? = some y) := by
  by_cases e : i = j
  · subst e
    have hl : i < (l.set i x).length := (List.getElem?_eq_some_iff.mp h).1
    rw [List.length_set] at hl
    rw [List.getElem?_set_self hl] at h
    exact .inl ⟨rfl, (Option.some.inj h).symm, hl⟩
  · rw [List.getElem?_set_ne e] at h
    exact .inr ⟨e, h⟩
/-- what a name with data does not hold -/
theorem Held.setVal {i j : Nat} {x : Option V} {d : Dt} {a : Addr} (h : Held H (σ.set i x) (env.set i (.val d)) j a) : Held H σ env j a := by
  rcases h with ⟨od, h1, h2⟩ | ⟨dss, l, as, h1, h2, h3⟩
  · rcases get_set h1 with ⟨rfl, e, hl⟩ | ⟨ne, h1⟩
    · cases e
    · rw [List.getElem?_set_ne ne] at h2
      exact .inl ⟨od, h1, h2⟩
  · rcases get_set h1 with ⟨rfl, e, hl⟩ | ⟨ne, h1⟩
    · cases e
    · rw [List.getElem?_set_ne ne] at h2
      exact .inr ⟨dss, l, as, h1, h2, h3⟩
/-- a name gets data -/
theorem Rel.setVal {K : PySem.W.Frag} {i : Nat} {v : V} {d : Dt} (r : Rel K cm σ H G env) (h : Den K cm G v d) : Rel K cm (σ.set i (some v)) H G (env.set i (.val d)) where
  len := by rw [List.length_set, List.length_set, r.len]
  sub := r.sub
  val := fun j d' hj => by
    rcases get_set hj with ⟨rfl, e, hl⟩ | ⟨ne, hj⟩
    · cases e
      exact ⟨v, List.getElem?_set_self (by rw [r.len]; exact hl), h⟩
    · obtain ⟨w, h1, h2⟩ := r.val j d' hj
      exact ⟨w, by rw [List.getElem?_set_ne ne]; exact h1, h2⟩
  own := fun j od hj => by
    rcases get_set hj with ⟨rfl, e, hl⟩ | ⟨ne, hj⟩
    · cases e
    · obtain ⟨l, o, h1, h2, h3, h4⟩ := r.own j od hj
      exact ⟨l, o, by rw [List.getElem?_set_ne ne]; exact h1, h2, h3, h4⟩
  mat := fun j dss hj => by
    rcases get_set hj with ⟨rfl, e, hl⟩ | ⟨ne, hj⟩
    · cases e
    · obtain ⟨l, as, h1, h2⟩ := r.mat j dss hj
      exact ⟨l, as, by rw [List.getElem?_set_ne ne]; exact h1, h2⟩
  dist := fun j k a hj hk => r.dist j k a (Held.setVal hj) (Held.setVal hk)
theorem Fr.setVal {i : Nat} {v : V} {d : Dt} (s : Exx G H) : Fr σ env H G (σ.set i (some v)) (env.set i (.val d)) H G where
  gx := .refl _
  hid := fun _ _ _ n _ => n
  keep := fun _ _ h _ => h
  there := fun a o h => ⟨o, h⟩
  sub := s
  fresh := fun a o h n ⟨j, q⟩ => n ⟨j, Held.setVal q⟩
  take := fun j hj => by
    rcases get_set hj with ⟨rfl, e, hl⟩ | ⟨ne, hj⟩
    · cases e
    · exact ⟨hj, List.getElem?_set_ne ne⟩
theorem jg_name {x : Str} (i : Nat) (hN : X.N.Nodup) (hi : X.N[i]? = some x := by rfl) (hx : Loc X.env.scope x := by first | exact Or.inl rfl | exact Or.inr rfl) (hf : X.fn x = true ∨ X.env.scope.names.lookup x = some .local := by first | exact .inl rfl | exact .inr rfl | assumption) : JG X cm (.Name x pos) [i] (gN i) := by
  refine ⟨fun env env' d v σ H G hg rel hd Q q pins s u I r => ?_⟩
  cases hg
  refine (pg_name hN hi hx hf).run pins s σ H v u _ I r ?_
  exact q _ (rel.setVal hd) (.setVal rel.sub) (fun j hj => List.getElem?_set_ne (fun e => hj (by rw [e]; exact List.mem_singleton.mpr rfl))) (List.length_set ..)
end
/-- several names -/
structure JGs (X : Cx) (cm : Nat → Addr) (tgs : List Expr) (is : List Nat) : Prop where
  run : ∀ (env env' : Sl) (ds : List Dt) (vs : List V) (σ : L2.St) (H G : Hp), gsN is ds env = some env' → Rel X.K cm σ H G env → DenL X.K cm G vs ds → ∀ Q : L2.St → Hp → Prop,
    (∀ σ', Rel X.K cm σ' H G env' → Fr σ env H G σ' env' H G → (∀ j : Nat, j ∉ is → σ'[j]? = σ[j]?) → σ'.length = σ.length → Q σ' H) →
    ∀ pins s us, Inv X pins σ H s → Vals vs us → wpAny (model X.prog X.w) X.A (assignInOrder ((assignEach tgs X.env).map (·.2)) us) (fun _ s' => ∃ σ' H', Inv X pins σ' H' s' ∧ Q σ' H') X.xe s
def wpGs (X : Cx) (tgs : List Expr) : TGs := fun vs σ H Q => ∀ pins s us, Inv X pins σ H s → Vals vs us → wpAny (model X.prog X.w) X.A (assignInOrder ((assignEach tgs X.env).map (·.2)) us) (fun _ s' => ∃ σ' H', Inv X pins σ' H' s' ∧ Q σ' H') X.xe s
theorem pgs_w {X : Cx} {tgs : List Expr} : PGs X tgs (wpGs X tgs) := ⟨fun pins s σ H vs us Q I r h => h pins s us I r⟩
section
variable {X : Cx} {cm : Nat → Addr} {pos : Pos}
theorem jgs_nil : JGs X cm [] [] := ⟨fun env env' ds vs σ H G hg rel hd Q q pins s us I r => by
  cases ds with
  | nil =>
    cases hg
    cases hd
    exact pgs_nil.run pins s σ H _ us Q I r ⟨rfl, q σ rel (.refl rel.sub) (fun _ _ => rfl) rfl⟩
  | cons d ds => cases hg⟩
theorem jgs_cons {x : Str} {tgs : List Expr} {is : List Nat} (i : Nat) (hN : X.N.Nodup) (hr : JGs X cm tgs is) (hi : X.N[i]? = some x := by rfl) (hx : Loc X.env.scope x := by first | exact Or.inl rfl | exact Or.inr rfl)
    (hf : X.fn x = true ∨ X.env.scope.names.lookup x = some .local := by first | exact .inl rfl | exact .inr rfl | assumption)
    (hs : (assignEach (.Name x pos :: tgs) X.env).map (·.2) = assign (.Name x pos) X.env :: (assignEach tgs X.env).map (·.2) := by rfl) : JGs X cm (.Name x pos :: tgs) (i :: is) := by
  refine ⟨fun env env' ds vs σ H G hg rel hd Q q pins s us I r => ?_⟩
  cases ds with
  | nil => cases hg
  | cons d ds =>
    cases hd with
    | cons d1 dr =>
      refine (pgs_cons (pg_name hN hi hx hf) pgs_w hs).run pins s σ H _ us Q I r ⟨_, _, rfl, ?_⟩
      refine hr.run _ _ ds _ _ H G hg (rel.setVal d1) dr Q fun σ' rel' fr' same len => ?_
      refine q σ' rel' ((Fr.setVal rel.sub).trans fr') (fun j hj => ?_) (by rw [len, List.length_set])
      have h1 : j ≠ i := fun e => hj (by rw [e]; exact List.mem_cons_self)
      have h2 : j ∉ is := fun e => hj (List.mem_cons_of_mem _ e)
      rw [same j h2, List.getElem?_set_ne h1.symm]
theorem gsN_len : ∀ {is : List Nat} {ds : List Dt} {env env' : Sl}, gsN is ds env = some env' → ds.length = is.length
  | [], [], _, _, _ => rfl
  | i :: is, d :: ds, _, _, h => by
    have h' : gsN is ds _ = _ := h
    rw [List.length_cons, List.length_cons, gsN_len h']
  | [], _ :: _, _, _, h => by cases h
  | _ :: _, [], _, _, h => by cases h
/-- (a, b, ..) = a list of that length -/
def gLst (K : PySem.W.Frag) (n : Nat) (t : TGs) : TG := fun v σ H Q => ∃ a xs, v = .ref a ∧ SqL K H a xs ∧ xs.length = n ∧ t xs σ H Q
theorem pg_lst {es : List Expr} {k : Nat} {t : TGs} {n : Nat} (hc : X.calm = true) (h : PGs X es t) (hn : (assignEach es X.env).length = n) (hst : (assignEach es X.env).findIdx? (·.1) = none) : PG X (.Tuple es k pos) (gLst X.K n t) := by
  refine ⟨fun pins s σ H v u Q I r hw => ?_⟩
  obtain ⟨a, xs, rfl, hq, hl, hw⟩ := hw
  cases r
  obtain ⟨its, rv, p, _⟩ := I.list hq
  have e : (assignEach es X.env).length = its.toArray.size := by rw [hn, ← hl, rv.length, List.size_toArray]
  rw [PyProof.Rows.assign_Tuple]
  refine wpAny_bind (wpAny_standAt ?_)
  unfold PySem.unpack
  rw [e, hst]
  refine wpAny_bind (wpAny_holding (PySem.W.kun_itemsOf (I.ok.hd hc) p.isList fun g up => ?_))
  have I1 : Inv X pins σ H { s with heap := g } := I.kept (t' := s.toks) fun b o z => up b o (Nat.ne_of_lt (Heap.lt_size z)) z
  exact h.run pins _ σ H xs _ Q I1 (by simpa using rv) hw
theorem jg_tup {es : List Expr} {k : Nat} {is : List Nat} (hc : X.calm = true) (h : JGs X cm es is) (hn : (assignEach es X.env).length = is.length := by rfl) (hst : (assignEach es X.env).findIdx? (·.1) = none := by rfl) : JG X cm (.Tuple es k pos) is (gT is) := by
  refine ⟨fun env env' d v σ H G hg rel hd Q q pins s u I r => ?_⟩
  unfold gT at hg
  split at hg
  · rename_i ds
    cases hd with
    | tup h1 h2 =>
      refine (pg_tup hc pgs_w hn hst).run pins s σ H _ u Q I r ⟨_, _, rfl, rel.sub.sqT h1, ?_, ?_⟩
      · rw [h2.length, gsN_len hg]
      · exact h.run env env' ds _ σ H G hg rel h2 Q q
  · rename_i ds
    cases hd with
    | lst h1 h2 =>
      refine (pg_lst hc pgs_w hn hst).run pins s σ H _ u Q I r ⟨_, _, rfl, rel.sub.sqL h1, ?_, ?_⟩
      · rw [h2.length, gsN_len hg]
      · exact h.run env env' ds _ σ H G hg rel h2 Q q
  · cases hg
end
end Pyl
end
section
set_option Elab.async false
set_option linter.all false
set_option maxRecDepth 100000
set_option maxHeartbeats 4000000
/-! zip of two sequences, each a list (kind true) or a tuple (kind false) -/
namespace Pyl
open PySem L2
/-- a sequence of the kind k at an address; its iterator -/
def KSeq (k : Bool) (h : Heap) (l : Addr) (its : Array Value) : Prop := match k with
  | true => h.IsList l its
  | false => h.IsTuple l its
def KIt (k : Bool) (h : Heap) (p l : Addr) (n : Nat) : Prop := match k with
  | true => h.IsListIter p l n
  | false => h.IsTupleIter p l n
def itName (k : Bool) : String := bif k then "list_iterator" else "tuple_iterator"
def itObj (k : Bool) (l : Addr) : Obj := { cls := .type (itName k), data := .fields #[.ref l, .int 0 0] }
theorem KSeq.ex {k : Bool} {h : Heap} {l : Addr} {its : Array Value} (q : KSeq k h l its) : ∃ o, h.get? l = some o ∧ ∀ h2 : Heap, h2.get? l = some o → KSeq k h2 l its := by
  cases k <;> (obtain ⟨o, e, r⟩ := q; exact ⟨o, e, fun h2 e2 => ⟨o, e2, r⟩⟩)
theorem KIt.ex {k : Bool} {h : Heap} {p l : Addr} {n : Nat} (q : KIt k h p l n) : ∃ o, h.get? p = some o ∧ (∀ v, o.data ≠ .cell v) ∧ ∀ h2 : Heap, h2.get? p = some o → KIt k h2 p l n := by
  cases k <;> (obtain ⟨o, e, c, d⟩ := q; exact ⟨o, e, fun v z => (by rw [d] at z; cases z), fun h2 e2 => ⟨o, e2, c, d⟩⟩)
theorem KSeq.to {k : Bool} {h h2 : Heap} {l : Addr} {its : Array Value} (q : KSeq k h l its) (e : ∀ o, h.get? l = some o → h2.get? l = some o) : KSeq k h2 l its := by
  obtain ⟨o, e1, f⟩ := q.ex
  exact f h2 (e o e1)
theorem KIt.to {k : Bool} {h h2 : Heap} {p l : Addr} {n : Nat} (q : KIt k h p l n) (e : ∀ o, h.get? p = some o → h2.get? p = some o) : KIt k h2 p l n := by
  obtain ⟨o, e1, _, f⟩ := q.ex
  exact f h2 (e o e1)
theorem KSeq.lt {k : Bool} {h : Heap} {l : Addr} {its : Array Value} (q : KSeq k h l its) : l < h.objs.size := by
  obtain ⟨o, e, _⟩ := q.ex
  exact Heap.lt_size e
theorem KIt.lt {k : Bool} {h : Heap} {p l : Addr} {n : Nat} (q : KIt k h p l n) : p < h.objs.size := by
  obtain ⟨o, e, _⟩ := q.ex
  exact Heap.lt_size e
section
variable {pg : Program} {wd : World} {ar : Around} {B : Value → Shared → Prop} {t : Shared}
theorem k_next {k : Bool} {p l : Addr} {n : Nat} {its : Array Value} {u : Value} {R : Value → Shared → Prop} (hp : KIt k t.heap p l n) (hl : KSeq k t.heap l its) (hu : its[n]? = some u)
    (hR : ∀ g, KIt k g p l (n + 1) → Heap.SameBut p t.heap g → R u { t with heap := g }) : wpAny (model pg wd) ar (Builtin.SmallTypes.nextOf (.ref p)) R B t := by
  cases k
  · exact RZ.nextOf_tuple_item hp hl hu hR
  · exact wpAny_nextOf_list_item hp hl hu hR
theorem k_last {k : Bool} {p l : Addr} {n : Nat} {its : Array Value} {R : Value → Shared → Prop} (hd : ar.handled = none) (hp : KIt k t.heap p l n) (hl : KSeq k t.heap l its) (hu : its[n]? = none)
    (hB : ∀ g e, Heap.ExtBut p t.heap g → (∃ o, g.get? e = some o ∧ o.cls = .type "StopIteration") → B (.ref e) { t with heap := g }) : wpAny (model pg wd) ar (Builtin.SmallTypes.nextOf (.ref p)) R B t := by
  cases k
  · exact RZ.nextOf_tuple_end hd hp hl hu hB
  · exact wpAny_nextOf_list_end hd hp hl hu hB
theorem k_iter {k : Bool} {l : Addr} {its : Array Value} {R : Value → Shared → Prop} (hl : KSeq k t.heap l its) (hR : R (.ref t.heap.objs.size) { t with heap := t.heap.push (itObj k l) }) : wpAny (model pg wd) ar (pyIter (.ref l)) R B t := by
  cases k
  · exact wpAny_pyIter_tuple hl hR
  · exact wpAny_pyIter_list hl hR

variable {c d : Bool} {q QI QO p1 p2 m1 m2 : Addr} {n : Nat} {us ws : Array Value} {u v f g : Value}
/-- what of a zip's turn stays the same -/
structure ZSt (c d : Bool) (h : Heap) (q QI QO p1 p2 m1 m2 : Addr) (n : Nat) (f : Value) : Prop where
  z : IsZip h q QI QO f
  i : IsPair h QI (.ref p1) (.ref p2)
  o : ∃ a b, IsPair h QO a b
  a : KIt c h p1 m1 n
  b : KIt d h p2 m2 n
theorem k_turn {R : Value → Shared → Prop} (D : ZipApart q QI QO p1 p2 m1 m2) (S : ZSt c d t.heap q QI QO p1 p2 m1 m2 n .none) (hu : KSeq c t.heap m1 us) (hw : KSeq d t.heap m2 ws) (eu : us[n]? = some u) (ew : ws[n]? = some v)
    (hR : ∀ g, ZSt c d g q QI QO p1 p2 m1 m2 (n + 1) (rawInt t.heap.objs.size) → IsPair g t.heap.objs.size u v →
      (∀ a o, a ≠ q → a ≠ QO → a ≠ p1 → a ≠ p2 → t.heap.get? a = some o → g.get? a = some o) → R (.ref t.heap.objs.size) { t with heap := g }) :
    wpAny (model pg wd) ar (Builtin.«zip.__next__» ⟨[.ref q], []⟩) (fun fin t2 => ∃ x, fin = .done (.ret x) ∧ R x t2) B t := by
  obtain ⟨gz, gi, ⟨f, g, go⟩, g1, g2⟩ := S
  show wpAny _ _ (field (.ref q) 2 >>= _) _ _ _
  refine wpAny_bind <| wpAny_field gz rfl (x := .bool false) rfl ?_
  show wpAny _ _ (field (.ref q) 3 >>= _) _ _ _
  refine wpAny_bind <| wpAny_field gz rfl (x := .ref QI) rfl (wpAny_bind (wpAny_seqItems gi rfl ?_))
  show wpAny _ _ (Builtin.SmallTypes.ownedTupleIsFree (.ref q) >>= _) _ _ _
  refine wpAny_bind ?_
  unfold Builtin.SmallTypes.ownedTupleIsFree
  refine wpAny_bind <| wpAny_field gz rfl (x := .none) rfl (wpAny_pure ?_)
  simp only [if_true]
  refine wpAny_bind <| wpAny_rule <| wpAny_bind <| wpAny_field gz rfl (x := .ref QO) rfl ?_
  refine wpAny_bind <| wpAny_setField_rec gz (by simp) fun x1 gz1 e1 => ?_
  replace gz1 : IsZip x1 q QI QO .ellipsis := gz1
  refine wpAny_bind ?_
  simp only [List.zipIdx_cons, List.forIn_cons, List.zipIdx_nil, List.forIn_nil]
  refine wpAny_bind <| wpAny_bind <| wpAny_onRaise ?_
  show wpAny _ _ (Builtin.SmallTypes.nextOf (.ref p1) >>= _) _ _ _
  refine wpAny_bind <| k_next (g1.to fun _ => e1.extBut _ _ D.i1z) (hu.to fun _ => e1.extBut _ _ D.l1z) eu fun x2 g12 e2 => wpAny_pure ?_
  have go2 : IsPair x2 QO f g := e2.extBut _ _ D.TOi1 (e1.extBut _ _ D.TOz go)
  refine wpAny_bind <| wpAny_seqItems go2 rfl <| wpAny_bind <| wpAny_updateSeq_pair go2 fun x3 go3 e3 => ?_
  replace go3 : IsPair x3 QO u g := go3
  refine wpAny_bind <| wpAny_letGo <| wpAny_pure ?_
  refine wpAny_bind <| wpAny_bind <| wpAny_onRaise ?_
  show wpAny _ _ (Builtin.SmallTypes.nextOf (.ref p2) >>= _) _ _ _
  refine wpAny_bind <| k_next (g2.to fun _ z => e3.extBut _ _ D.TOi2.symm (e2.extBut _ _ D.i12.symm (e1.extBut _ _ D.i2z z))) (hw.to fun _ z => e3.extBut _ _ D.l2TO (e2.extBut _ _ D.l2i1 (e1.extBut _ _ D.l2z z))) ew fun x4 g24 e4 => wpAny_pure ?_
  have go4 : IsPair x4 QO u g := e4.extBut _ _ D.TOi2 go3
  refine wpAny_bind <| wpAny_seqItems go4 rfl <| wpAny_bind <| wpAny_updateSeq_pair go4 fun x5 go5 e5 => ?_
  replace go5 : IsPair x5 QO u v := go5
  refine wpAny_bind <| wpAny_letGo <| wpAny_pure <| wpAny_pure ?_
  refine wpAny_bind <| wpAny_seqItems go5 rfl <| wpAny_bind <| wpAny_newTuple ?_
  have ez : x5.objs.size = t.heap.objs.size := by rw [e5.1, e4.1, e3.1, e2.1, e1.1]
  have gz5 : IsZip x5 q QI QO .ellipsis := e5.extBut _ _ D.TOz.symm (e4.extBut _ _ D.i2z.symm (e3.extBut _ _ D.TOz.symm (e2.extBut _ _ D.i1z.symm gz1)))
  have up5 : ∀ a o, a ≠ q → a ≠ QO → a ≠ p1 → a ≠ p2 → t.heap.get? a = some o → x5.get? a = some o := fun a o n1 n2 n3 n4 z =>
    e5.extBut _ _ n2 (e4.extBut _ _ n4 (e3.extBut _ _ n2 (e2.extBut _ _ n3 (e1.extBut _ _ n1 z))))
  have g15 : KIt c x5 p1 m1 (n + 1) := g12.to fun _ z => e5.extBut _ _ D.TOi1.symm (e4.extBut _ _ D.i12 (e3.extBut _ _ D.TOi1.symm z))
  have g25 : KIt d x5 p2 m2 (n + 1) := g24.to fun _ z => e5.extBut _ _ D.TOi2.symm z
  have lq : q < x5.objs.size := Heap.lt_size gz5
  show wpAny _ _ (Builtin.SmallTypes.ownedTupleHandOut (.ref q) (.ref x5.objs.size) >>= _) _ _ _
  refine wpAny_bind (by
    unfold Builtin.SmallTypes.ownedTupleHandOut
    have gz6 : IsZip (x5.push { cls := .type "tuple", data := .seq #[u, v] }) q QI QO .ellipsis := Heap.get?_push_of_some _ gz5
    refine wpAny_bind <| wpAny_setField_rec gz6 (by simp) fun x7 gz7 e7 => ?_
    replace gz7 : IsZip x7 q QI QO (rawInt x5.objs.size) := gz7
    refine wpAny_setField_rec gz7 (by simp) fun x8 gz8 e8 => ?_
    replace gz8 : IsZip x8 q QI QO (rawInt x5.objs.size) := gz8
    have up : ∀ a o, a ≠ q → x5.get? a = some o → x8.get? a = some o := fun a o n1 z => e8.extBut _ _ n1 (e7.extBut _ _ n1 (Heap.get?_push_of_some _ z))
    have gT : IsPair x8 x5.objs.size u v := e8.extBut _ _ (Nat.ne_of_gt lq) (e7.extBut _ _ (Nat.ne_of_gt lq) (Heap.get?_push_size _ rfl))
    rw [ez] at gz8 gT
    refine wpAny_pure ⟨_, rfl, ?_⟩
    show R (.ref x5.objs.size) _
    rw [ez]
    exact hR x8 ⟨gz8, up _ _ D.TIz (up5 _ _ D.TIz D.TITO D.TIi1 D.TIi2 gi), ⟨_, _, up _ _ D.TOz go5⟩, g15.to fun _ => up _ _ D.i1z, g25.to fun _ => up _ _ D.i2z⟩ gT fun a o n1 n2 n3 n4 z => up a o n1 (up5 a o n1 n2 n3 n4 z))
theorem k_stop {R : PySem.Fin → Shared → Prop} (hd : ar.handled = none) (D : ZipApart q QI QO p1 p2 m1 m2) (S : ZSt c d t.heap q QI QO p1 p2 m1 m2 n .none) (hu : KSeq c t.heap m1 us) (hw : KSeq d t.heap m2 ws) (en : us[n]? = none ∨ ws[n]? = none)
    (hB : ∀ g e, (∀ a o, a ≠ q → a ≠ QO → a ≠ p1 → a ≠ p2 → t.heap.get? a = some o → g.get? a = some o) → (∃ o, g.get? e = some o ∧ o.cls = .type "StopIteration") → B (.ref e) { t with heap := g }) :
    wpAny (model pg wd) ar (Builtin.«zip.__next__» ⟨[.ref q], []⟩) R B t := by
  obtain ⟨gz, gi, ⟨f, g, go⟩, g1, g2⟩ := S
  show wpAny _ _ (field (.ref q) 2 >>= _) _ _ _
  refine wpAny_bind <| wpAny_field gz rfl (x := .bool false) rfl ?_
  show wpAny _ _ (field (.ref q) 3 >>= _) _ _ _
  refine wpAny_bind <| wpAny_field gz rfl (x := .ref QI) rfl (wpAny_bind (wpAny_seqItems gi rfl ?_))
  show wpAny _ _ (Builtin.SmallTypes.ownedTupleIsFree (.ref q) >>= _) _ _ _
  refine wpAny_bind ?_
  unfold Builtin.SmallTypes.ownedTupleIsFree
  refine wpAny_bind <| wpAny_field gz rfl (x := .none) rfl (wpAny_pure ?_)
  simp only [if_true]
  refine wpAny_bind <| wpAny_rule <| wpAny_bind <| wpAny_field gz rfl (x := .ref QO) rfl ?_
  refine wpAny_bind <| wpAny_setField_rec gz (by simp) fun x1 gz1 e1 => ?_
  replace gz1 : IsZip x1 q QI QO .ellipsis := gz1
  refine wpAny_bind ?_
  simp only [List.zipIdx_cons, List.forIn_cons, List.zipIdx_nil, List.forIn_nil]
  refine wpAny_bind <| wpAny_bind <| wpAny_onRaise ?_
  show wpAny _ _ (Builtin.SmallTypes.nextOf (.ref p1) >>= _) _ _ _
  have fin : ∀ (y : Heap) (e : Addr), IsZip y q QI QO .ellipsis → (∃ o, y.get? e = some o ∧ o.cls = .type "StopIteration") → (∀ a o, a ≠ q → a ≠ QO → a ≠ p1 → a ≠ p2 → t.heap.get? a = some o → y.get? a = some o) →
      wpAny (model pg wd) ar (setField (.ref q) 0 .none) (fun _ => B (.ref e)) B { t with heap := y } := fun y e zy he k => by
    obtain ⟨oe, w1, w2⟩ := he
    have ne : e ≠ q := fun x => by subst x; rw [zy] at w1; cases w1; simp at w2
    exact wpAny_setField_rec zy (by simp) fun y2 _ ey => hB y2 e (fun a o n1 n2 n3 n4 x => ey.extBut _ _ n1 (k a o n1 n2 n3 n4 x)) ⟨oe, ey.extBut _ _ ne w1, w2⟩
  cases eu : us[n]? with
  | none =>
    refine wpAny_bind <| k_last hd (g1.to fun _ => e1.extBut _ _ D.i1z) (hu.to fun _ => e1.extBut _ _ D.l1z) eu fun x2 e e2 he => ?_
    exact fin x2 e (e2 _ _ D.i1z.symm gz1) he fun a o n1 _ n3 _ x => e2 _ _ n3 (e1.extBut _ _ n1 x)
  | some u =>
    have ew : ws[n]? = none := by
      rcases en with z | z
      · rw [eu] at z; cases z
      · exact z
    refine wpAny_bind <| k_next (g1.to fun _ => e1.extBut _ _ D.i1z) (hu.to fun _ => e1.extBut _ _ D.l1z) eu fun x2 g12 e2 => wpAny_pure ?_
    have go2 : IsPair x2 QO f g := e2.extBut _ _ D.TOi1 (e1.extBut _ _ D.TOz go)
    refine wpAny_bind <| wpAny_seqItems go2 rfl <| wpAny_bind <| wpAny_updateSeq_pair go2 fun x3 go3 e3 => ?_
    refine wpAny_bind <| wpAny_letGo <| wpAny_pure ?_
    refine wpAny_bind <| wpAny_bind <| wpAny_onRaise ?_
    show wpAny _ _ (Builtin.SmallTypes.nextOf (.ref p2) >>= _) _ _ _
    refine wpAny_bind <| k_last hd (g2.to fun _ z => e3.extBut _ _ D.TOi2.symm (e2.extBut _ _ D.i12.symm (e1.extBut _ _ D.i2z z))) (hw.to fun _ z => e3.extBut _ _ D.l2TO (e2.extBut _ _ D.l2i1 (e1.extBut _ _ D.l2z z))) ew fun x4 e e4 he => ?_
    exact fin x4 e (e4 _ _ D.i2z.symm (e3.extBut _ _ D.TOz.symm (e2.extBut _ _ D.i1z.symm gz1))) he fun a o n1 n2 n3 n4 x => e4 _ _ n4 (e3.extBut _ _ n2 (e2.extBut _ _ n3 (e1.extBut _ _ n1 x)))
theorem k_pyNext {R : Option Value → Shared → Prop} (D : ZipApart q QI QO p1 p2 m1 m2) (S : ZSt c d t.heap q QI QO p1 p2 m1 m2 n .none) (hu : KSeq c t.heap m1 us) (hw : KSeq d t.heap m2 ws) (eu : us[n]? = some u) (ew : ws[n]? = some v)
    (hR : ∀ g, ZSt c d g q QI QO p1 p2 m1 m2 (n + 1) (rawInt t.heap.objs.size) → IsPair g t.heap.objs.size u v →
      (∀ a o, a ≠ q → a ≠ QO → a ≠ p1 → a ≠ p2 → t.heap.get? a = some o → g.get? a = some o) → R (some (.ref t.heap.objs.size)) { t with heap := g }) :
    wpAny (model pg wd) ar (pyNext (.ref q)) R B t := by
  have ty : t.TypeIs (.ref q) "zip" := ⟨_, S.z, rfl⟩
  unfold pyNext
  refine wpAny_bind <| wpAny_attempt <| wpAny_callSpecial?_slot (name := Str.ofString "__next__") ty F.slot_zip_next ?_
  exact wpAny_call_entry F.slot_zip_next ty F.entry_zip_next (k_turn D S hu hw eu ew fun g s1 s2 s3 => wpAny_pure (hR g s1 s2 s3)) (F.args_zip_next_1 _)
theorem k_pyStop {R : Option Value → Shared → Prop} (hd : ar.handled = none) (D : ZipApart q QI QO p1 p2 m1 m2) (S : ZSt c d t.heap q QI QO p1 p2 m1 m2 n .none) (hu : KSeq c t.heap m1 us) (hw : KSeq d t.heap m2 ws) (en : us[n]? = none ∨ ws[n]? = none)
    (hR : ∀ g, (∀ a o, a ≠ q → a ≠ QO → a ≠ p1 → a ≠ p2 → t.heap.get? a = some o → g.get? a = some o) → R none { t with heap := g }) : wpAny (model pg wd) ar (pyNext (.ref q)) R B t := by
  have ty : t.TypeIs (.ref q) "zip" := ⟨_, S.z, rfl⟩
  unfold pyNext
  refine wpAny_bind <| wpAny_attempt <| wpAny_callSpecial?_slot (name := Str.ofString "__next__") ty F.slot_zip_next ?_
  refine wpAny_call_entry F.slot_zip_next ty F.entry_zip_next (k_stop hd D S hu hw en fun g e k he => ?_) (F.args_zip_next_1 _)
  obtain ⟨o, e1, e2⟩ := he
  exact wpAny_bind <| wpAny_isInstance (T := "StopIteration") (b := true) ⟨o, e1, e2⟩ isSubtype_stop <| wpAny_pure (hR _ k)
end
/-! the making -/
abbrev zA (c : Bool) (h : Heap) (m1 : Addr) : Heap := h.push (itObj c m1)
abbrev zB (c d : Bool) (h : Heap) (m1 m2 : Addr) : Heap := (zA c h m1).push (itObj d m2)
abbrev zC (c d : Bool) (h : Heap) (m1 m2 : Addr) : Heap := (zB c d h m1 m2).push { cls := .type "tuple", data := .seq #[.ref h.objs.size, .ref (zA c h m1).objs.size] }
abbrev zD (c d : Bool) (h : Heap) (m1 m2 : Addr) : Heap := (zC c d h m1 m2).push { cls := .type "tuple", data := .seq #[.none, .none] }
abbrev zE (c d : Bool) (h : Heap) (m1 m2 : Addr) : Heap := (zD c d h m1 m2).push { cls := .type "zip", data := .fields #[.none, .bool false, .bool false, .ref (zB c d h m1 m2).objs.size, .ref (zC c d h m1 m2).objs.size] }
theorem k_made (c d : Bool) (m1 m2 : Addr) (us ws : Array Value) : Meets (Builtin.«zip.__new__» ⟨[.type "zip", .ref m1, .ref m2], []⟩)
    (fun _ R t => KSeq c t.heap m1 us ∧ KSeq d t.heap m2 ws ∧ R (.ok (.ret (.ref (zD c d t.heap m1 m2).objs.size))) { t with heap := zE c d t.heap m1 m2 }) :=
  .of_wp fun pg wd ar R t z => by
    obtain ⟨hp, g, dd, tk, os⟩ := t
    obtain ⟨z1, z2, z⟩ := z
    have hsub := sub_zip
    have q1 : KSeq c (Shared.heap ⟨hp, g, dd, tk, os⟩) m1 us := z1
    have q2 : KSeq d (Shared.heap ⟨hp.push (itObj c m1), g, dd, tk, os⟩) m2 ws := z2.to fun o e => Heap.get?_push_of_some _ e
    wp_walk using k_iter q1, k_iter q2
    exact ⟨_, rfl, z⟩
theorem itObj_it (k : Bool) {h : Heap} {p l : Addr} (e : h.get? p = some (itObj k l)) : KIt k h p l 0 := by
  cases k <;> exact ⟨_, e, rfl, rfl⟩
section
variable {pg : Program} {wd : World} {ar : Around} {B : Value → Shared → Prop} {t : Shared} {c d : Bool} {us ws : Array Value} {m1 m2 : Addr}
theorem k_zip {R : Value → Shared → Prop} (hu : KSeq c t.heap m1 us) (hw : KSeq d t.heap m2 ws)
    (hR : ∀ g, ZSt c d g (t.heap.objs.size + 4) (t.heap.objs.size + 2) (t.heap.objs.size + 3) t.heap.objs.size (t.heap.objs.size + 1) m1 m2 0 .none →
      (∀ a o, t.heap.get? a = some o → g.get? a = some o) → R (.ref (t.heap.objs.size + 4)) { t with heap := g }) :
    wpAny (model pg wd) ar (call (.type "zip") [.ref m1, .ref m2]) R B t := by
  refine callType_new F.called_zip (by decide) (F.typeCall_zip_2 _ _) (F.newCall_zip_2 _ _) (fun ob => F.args_object_init_3 ob _ _) F.entry_zip_new (k_made c d m1 m2 us ws) ⟨hu, hw, ?_⟩
  have sA : (zA c t.heap m1).objs.size = t.heap.objs.size + 1 := Heap.size_push ..
  have sB : (zB c d t.heap m1 m2).objs.size = t.heap.objs.size + 2 := by rw [Heap.size_push, sA]
  have sC : (zC c d t.heap m1 m2).objs.size = t.heap.objs.size + 3 := by rw [Heap.size_push, sB]
  have sD : (zD c d t.heap m1 m2).objs.size = t.heap.objs.size + 4 := by rw [Heap.size_push, sC]
  have up := fun (h : Heap) (ob : Obj) (a : Addr) (o : Obj) (e : h.get? a = some o) => Heap.get?_push_of_some (h := h) ob e
  have gE : (zE c d t.heap m1 m2).get? (zD c d t.heap m1 m2).objs.size = some _ := Heap.get?_push_size _ rfl
  have gD : (zE c d t.heap m1 m2).get? (zC c d t.heap m1 m2).objs.size = some _ := up _ _ _ _ (Heap.get?_push_size _ rfl)
  have gC : (zE c d t.heap m1 m2).get? (zB c d t.heap m1 m2).objs.size = some _ := up _ _ _ _ (up _ _ _ _ (Heap.get?_push_size _ rfl))
  have gB : (zE c d t.heap m1 m2).get? (zA c t.heap m1).objs.size = some _ := up _ _ _ _ (up _ _ _ _ (up _ _ _ _ (Heap.get?_push_size _ rfl)))
  have gA : (zE c d t.heap m1 m2).get? t.heap.objs.size = some _ := up _ _ _ _ (up _ _ _ _ (up _ _ _ _ (up _ _ _ _ (Heap.get?_push_size _ rfl))))
  show _ ∧ _
  rw [sB, sC, sD] at gE
  rw [sA, sB] at gC
  rw [sC] at gD
  rw [sA] at gB
  rw [sD]
  exact ⟨⟨_, gE, rfl⟩, hR _ ⟨gE, gC, ⟨_, _, gD⟩, itObj_it c gA, itObj_it d gB⟩ fun a o e => up _ _ _ _ (up _ _ _ _ (up _ _ _ _ (up _ _ _ _ (up _ _ _ _ e))))⟩
end
/-! the walk over it -/
def SqK (K : PySem.W.Frag) (k : Bool) (H : Hp) (a : Addr) (vs : List V) : Prop := match k with
  | true => SqL K H a vs
  | false => SqT K H a vs
theorem inv_sq {X : Cx} {pins : List (Addr × Obj)} {σ : L2.St} {H : Hp} {s : Shared} {k : Bool} {a : Addr} {vs : List V} (I : Inv X pins σ H s) (h : SqK X.K k H a vs) : ∃ its : List Value, Vals vs its ∧ KSeq k s.heap a its.toArray := by
  cases k
  · obtain ⟨its, r, p, _⟩ := I.tuple h
    exact ⟨its, r, p⟩
  · obtain ⟨its, r, p, _⟩ := I.list h
    exact ⟨its, r, p.isList⟩
theorem inv_one {X : Cx} {pins : List (Addr × Obj)} {σ : L2.St} {H : Hp} {s : Shared} {k : Bool} {a : Addr} {vs ws : List V} (I : Inv X pins σ H s) (h : SqK X.K k H a vs) (h' : SqK X.K k H a ws) : vs = ws := by
  cases k
  · exact I.tuple_inj h h'
  · exact I.list_inj h h'
def ItK (K : PySem.W.Frag) (c d : Bool) (a b : Addr) : It where
  go := fun i H => ∃ vs ws x y, SqK K c H a vs ∧ SqK K d H b ws ∧ vs[i]? = some x ∧ ws[i]? = some y
  yld := fun i H v H' => ∃ T x y, (v = .ref T ∧ H T = none ∧ H' = upd H T (.tup [x, y])) ∧ (∀ vs, SqK K c H a vs → vs[i]? = some x) ∧ ∀ ws, SqK K d H b ws → ws[i]? = some y
  stop := fun i H => ∃ vs ws, SqK K c H a vs ∧ SqK K d H b ws ∧ (vs.length ≤ i ∨ ws.length ≤ i)
theorem five {q QI QO p1 p2 a : Addr} {P : Addr → Prop} (ha : a ∈ [q, QI, QO, p1, p2]) (h1 : P q) (h2 : P QI) (h3 : P QO) (h4 : P p1) (h5 : P p2) : P a := by
  have e : a = q ∨ a = QI ∨ a = QO ∨ a = p1 ∨ a = p2 := by simpa using ha
  rcases e with e | e | e | e | e <;> (rw [e]; assumption)
theorem k_walk {P : Program} {w : World} {K : PySem.W.Frag} {elts : List Expr} {kk : Nat} {tpos : Pos} {c d : Bool} {a b q QI QO p1 p2 : Addr} (D : ZipApart q QI QO p1 p2 a b) :
    Turn P w K (.Tuple elts kk tpos) (ItK K c d a b) [q, QI, QO, p1, p2] q (fun i h => ZSt c d h q QI QO p1 p2 a b i .none) where
  mem := List.mem_cons_self
  obj := fun i h S x hx => by
    obtain ⟨f, g, go⟩ := S.o
    obtain ⟨o1, e1, f1, _⟩ := S.a.ex
    obtain ⟨o2, e2, f2, _⟩ := S.b.ex
    exact five (P := fun x => ∃ o, h.get? x = some o ∧ ∀ v, o.data ≠ .cell v) hx ⟨_, S.z, fun v z => nomatch z⟩ ⟨_, S.i, fun v z => nomatch z⟩ ⟨_, go, fun v z => nomatch z⟩ ⟨o1, e1, f1⟩ ⟨o2, e2, f2⟩
  keep := fun i h h' S k => by
    obtain ⟨f, g, go⟩ := S.o
    exact ⟨k q (by simp) _ S.z, k QI (by simp) _ S.i, ⟨f, g, k QO (by simp) _ go⟩, S.a.to fun o z => k p1 (by simp) o z, S.b.to fun o z => k p2 (by simp) o z⟩
  item := by
    intro X hP hw hK hc i pins s σ H E I hf S hg
    subst hP hw hK
    obtain ⟨vs, ws, x, y, hv, hw, ex, ey⟩ := hg
    obtain ⟨us1, r1, k1⟩ := inv_sq I hv
    obtain ⟨us2, r2, k2⟩ := inv_sq I hw
    obtain ⟨u, eu, ru⟩ := r1.get ex
    obtain ⟨u2, eu2, ru2⟩ := r2.get ey
    have lz : q < s.heap.objs.size := Heap.lt_size S.z
    refine k_pyNext D S k1 k2 (u := u) (v := u2) (by simpa using eu) (by simpa using eu2) fun g S' gT up => ?_
    refine ⟨_, rfl, wpAny_letOwnedTupleGo_zip (s := { s with heap := g }) S'.z fun g2 z2 sb => ?_⟩
    have gT2 : g2.get? s.heap.objs.size = some { cls := .type "tuple", data := .seq #[u, u2] } := (sb.2 _ (Nat.ne_of_gt lz)).trans gT
    have mk : ObjOk X.prog X.w (upd H s.heap.objs.size (.tup [x, y])) g2 s.heap.objs.size (.tup [x, y]) := ⟨by show 2 ≤ sizeLine; decide, [u, u2], .cons ru (.cons ru2 .nil), ⟨_, gT2, rfl, _, rfl⟩⟩
    have kp : ∀ (a : Addr) o, a ∉ [q, QI, QO, p1, p2] → s.heap.get? a = some o → g2.get? a = some o := fun a o na e =>
      (sb.2 a fun z => na (by simp [z])).trans (up a o (fun z => na (by simp [z])) (fun z => na (by simp [z])) (fun z => na (by simp [z])) (fun z => na (by simp [z])) e)
    have I2 : Inv X pins σ (upd H s.heap.objs.size (.tup [x, y])) { s with heap := g2 } := I.turnedNew (t' := s.toks) (ch := [q, QI, QO, p1, p2]) kp hf (Nat.le_refl _) mk
    have tail : ZSt c d g2 q QI QO p1 p2 a b (i + 1) .none := by
      obtain ⟨f, g, go⟩ := S'.o
      exact ⟨z2, (sb.2 _ D.TIz).trans S'.i, ⟨f, g, (sb.2 _ D.TOz).trans go⟩, S'.a.to fun o z => (sb.2 _ D.i1z).trans z, S'.b.to fun o z => (sb.2 _ D.i2z).trans z⟩
    refine ⟨.ref s.heap.objs.size, _, I2, rfl, ⟨_, x, y, ⟨rfl, I.hok.fresh (Nat.le_refl _), rfl⟩, fun l hl => by rw [inv_one I hl hv]; exact ex, fun l hl => by rw [inv_one I hl hw]; exact ey⟩, tail, fun z hz => ?_⟩
    obtain ⟨f, g, go⟩ := S.o
    have lt : z < s.heap.objs.size := five (P := fun z => z < s.heap.objs.size) hz lz (Heap.lt_size S.i) (Heap.lt_size go) S.a.lt S.b.lt
    rw [upd_ne (Nat.ne_of_lt lt)]
    exact (hf z hz).1
  done := by
    intro X hP hw hK hc i pins s σ H E I hf S hg
    subst hP hw hK
    obtain ⟨vs, ws, hv, hw, en⟩ := hg
    obtain ⟨us1, r1, k1⟩ := inv_sq I hv
    obtain ⟨us2, r2, k2⟩ := inv_sq I hw
    have l1 := r1.length
    have l2 := r2.length
    have he : us1.toArray[i]? = none ∨ us2.toArray[i]? = none := by
      rcases en with z | z
      · exact Or.inl (by simp; omega)
      · exact Or.inr (by simp; omega)
    exact k_pyStop (I.ok.hd hc) D S k1 k2 he fun g up => ⟨rfl, I.turnedL (t' := s.toks) (ch := [q, QI, QO, p1, p2]) (fun a o na e => up a o (fun z => na (by simp [z])) (fun z => na (by simp [z])) (fun z => na (by simp [z])) (fun z => na (by simp [z])) e) hf⟩
  self := fun A i s Q E S h => wpAny_pyIter_zip S.z h
def zipT (K : PySem.W.Frag) (ta : TA) : TI := fun σ H R => ta σ H fun vs H1 => ∃ c d a b xs ys, vs = [.ref a, .ref b] ∧ SqK K c H1 a xs ∧ SqK K d H1 b ys ∧ R (ItK K c d a b) H1
theorem k_over {X : Cx} {e e2 : Expr} {ta : TA} {p pos tpos : Pos} {elts : List Expr} {kk : Nat} (hg : Gl X "zip") (hm : X.mg "zip" = none) (ha : PA X [e, e2] ta)
    (h1 : starEach [e, e2] X.env = (false, eval e X.env) :: starEach [e2] X.env) (h2 : (backTo pos (starEach [e2] X.env)).any (·.1) = false) :
    PI X (.Tuple elts kk tpos) (.Call (.Name "zip" p) [e, e2] [] pos) (zipT X.K ta) := by
  refine ⟨fun pins s σ H R I h => PyProof.Rows.Call_ (ld_blt I hg hm PyProof.Rows.boot_zip (PyProof.Rows.callWith_type1 (thn (ha.run pos pins s σ H _ I h) fun us s1 z => ?_) h1 h2))⟩
  obtain ⟨vs, H1, I1, r1, c, d, a, b, xs, ys, rfl, qx, qy, z⟩ := z
  match us, r1 with
  | [_, _], .cons ra (.cons rb .nil) =>
    cases ra
    cases rb
    obtain ⟨us1, _, k1⟩ := inv_sq I1 qx
    obtain ⟨us2, _, k2⟩ := inv_sq I1 qy
    refine k_zip k1 k2 fun g S up => wpAny_pyIter_zip S.z ?_
    have fr : ∀ i : Nat, FpOk X pins H1 (s1.heap.objs.size + i) := fun i => I1.fpOk (Nat.le_add_right _ _) (I1.hok.fresh (Nat.le_add_right _ _))
    exact ⟨_, _, _, _, H1, rfl, I1.kept (t' := s1.toks) up, k_walk (PySem.W.ktu_apart s1.heap.objs.size a b k1.lt k2.lt), S, fun x hx => five hx (fr 4) (fr 2) (fr 3) (fr 0) (fr 1), z⟩
theorem itk_ok {K : PySem.W.Frag} {cm : Nat → Addr} {c d t : Bool} {a b : Addr} {vs ws : List V} {ds es : List Dt} {H0 G0 : Hp} (h1 : ∀ H G, StK H0 G0 t H G → SqK K c H a vs) (h2 : ∀ H G, StK H0 G0 t H G → SqK K d H b ws) (n1 : DenL K cm G0 vs ds) (n2 : DenL K cm G0 ws es) :
    ItOk K cm (ItK K c d a b) (List.zipWith (fun x y => Dt.tup [x, y]) ds es) t H0 G0 where
  go := fun i H G s hi => by
    rw [List.length_zipWith] at hi
    have i1 : i < vs.length := by rw [n1.length]; omega
    have i2 : i < ws.length := by rw [n2.length]; omega
    exact ⟨vs, ws, vs[i], ws[i], h1 H G s, h2 H G s, List.getElem?_eq_getElem i1, List.getElem?_eq_getElem i2⟩
  yl := fun i H G v H' s hi y => by
    obtain ⟨T, x, y, ⟨rfl, hT, rfl⟩, y1, y2⟩ := y
    obtain ⟨d1, e1, dn1⟩ := n1.get' (y1 vs (h1 _ _ s))
    obtain ⟨d2, e2, dn2⟩ := n2.get' (y2 ws (h2 _ _ s))
    have g := Grow.new (o := .tup [x, y]) s.sub hT
    refine ⟨_, .tup [d1, d2], ?_, g, .tup (SqT.of upd_same) (.cons ((dn1.mono s.gx).mono g.gx) (.one ((dn2.mono s.gx).mono g.gx)))⟩
    rw [List.getElem?_zipWith, e1, e2]
  stop := fun i H G s hi => by
    rw [List.length_zipWith] at hi
    refine ⟨vs, ws, h1 H G s, h2 H G s, ?_⟩
    rw [n1.length, n2.length]
    omega
theorem VR.seq {K : PySem.W.Frag} {cm : Nat → Addr} {H G : Hp} {v : V} {d : Dt} {t : Bool} {ds : List Dt} (s : Exx G H) (r : VR K cm H G v d t) (e : seqOf d = some ds) :
    ∃ c a vs, v = .ref a ∧ DenL K cm G vs ds ∧ SqK K c H a vs ∧ (t = false → SqK K c G a vs) := by
  cases t with
  | false =>
    cases r.2 rfl with
    | lst s1 n1 => cases e; exact ⟨true, _, _, rfl, n1, s.sqL s1, fun _ => s1⟩
    | tup s1 n1 => cases e; exact ⟨false, _, _, rfl, n1, s.sqT s1, fun _ => s1⟩
    | non => cases e
    | bl => cases e
    | int => cases e
    | str => cases e
    | obj => cases e
  | true =>
    obtain ⟨l, vs, ds', rfl, rfl, s1, n1⟩ := r.1 rfl
    cases e
    exact ⟨true, l, vs, rfl, n1, s1, fun z => nomatch z⟩
theorem SqK.ex {K : PySem.W.Frag} {c : Bool} {H H' : Hp} {a : Addr} {vs : List V} (e : Exx H H') (h : SqK K c H a vs) : SqK K c H' a vs := by
  cases c
  · exact e.sqT h
  · exact e.sqL h
theorem ji_zip {X : Cx} {cm : Nat → Addr} {a b : Expr} {fa fb : EF} {p pos tpos : Pos} {elts : List Expr} {kk : Nat} (hg : Gl X "zip") (hm : X.mg "zip" = none) (ha : JE X cm a fa) (hb : JE X cm b fb)
    (he : starEach [a, b] X.env = (false, eval a X.env) :: starEach [b] X.env := by rfl) (he2 : starEach [b] X.env = (false, eval b X.env) :: starEach [] X.env := by rfl) (hpl : (backTo pos (starEach [b] X.env)).any (·.1) = false := by rfl) : JI X cm (.Tuple elts kk tpos) (.Call (.Name "zip" p) [a, b] [] pos) (iZip fa fb) := by
  refine ⟨fun env ds t σ H G hf rel Q q => ?_⟩
  obtain ⟨ra, h1, hf⟩ := Option.bind_eq_some_iff.mp hf
  obtain ⟨rb, h2, hf⟩ := Option.bind_eq_some_iff.mp hf
  obtain ⟨xs, e1, hf⟩ := Option.bind_eq_some_iff.mp hf
  obtain ⟨ys, e2, hf⟩ := Option.bind_eq_some_iff.mp hf
  cases hf
  refine to_i (k_over hg hm (pa_cons pe_w (pa_cons pe_w pa_nil he2) he) he hpl) (ha.pub h1 rel fun v H1 G1 g1 vr => hb.pub h2 (rel.grow g1) fun w H2 G2 g2 wr => ?_)
  obtain ⟨c, l1, vs, rfl, n1, s1, t1⟩ := vr.seq g1.sub e1
  obtain ⟨d, l2, ws, rfl, n2, s2, t2⟩ := wr.seq g2.sub e2
  refine ⟨c, d, l1, l2, vs, ws, rfl, s1.ex g2.hx, s2, q _ H2 G2 (g1.trans g2) (itk_ok (fun H G s => ?_) (fun H G s => ?_) (n1.mono g2.gx) n2)⟩
  · cases ht : ra.sh with
    | false => exact ((t1 ht).ex g2.gx).ex (s.gx.trans s.sub)
    | true => exact (s1.ex g2.hx).ex (s.hx (by rw [ht]; rfl))
  · cases ht : rb.sh with
    | false => exact (t2 ht).ex (s.gx.trans s.sub)
    | true => exact s2.ex (s.hx (by rw [ht, Bool.or_true]))
end Pyl
end
section
set_option Elab.async false
set_option linter.all false
set_option maxRecDepth 100000
set_option maxHeartbeats 4000000
namespace Pyl
open PySem L2
/-! ### comprehensions -/
section
variable {X : Cx} {cm : Nat → Addr} {σ : L2.St} {H G : Hp} {env : Sl}
theorem wipeS_length (env : Sl) : ∀ is : List Nat, (wipeS env is).length = env.length
  | [] => rfl
  | i :: is => by unfold wipeS; rw [List.length_set, wipeS_length env is]
theorem wipeS_get {env : Sl} {j : Nat} {s : Slot} : ∀ {is : List Nat}, (wipeS env is)[j]? = some s → s = .non ∨ (env[j]? = some s ∧ j ∉ is)
  | [], h => .inr ⟨h, fun m => by cases m⟩
  | i :: is, h => by
    unfold wipeS at h
    rcases get_set h with ⟨_, e, _⟩ | ⟨ne, h⟩
    · exact .inl e
    · rcases wipeS_get h with e | ⟨e, n⟩
      · exact .inl e
      · refine .inr ⟨e, fun m => ?_⟩
        rcases List.mem_cons.mp m with q | q
        · exact ne q.symm
        · exact n q
theorem wipe_get {σ : L2.St} {j : Nat} : ∀ {is : List Nat}, j ∉ is → (wipe σ is)[j]? = σ[j]?
  | [], _ => rfl
  | i :: is, h => by
    unfold wipe
    rw [List.getElem?_set_ne (fun e => h (by rw [e]; exact List.mem_cons_self)), wipe_get (fun m => h (List.mem_cons_of_mem _ m))]
theorem Held.wipe {is : List Nat} {j : Nat} {a : Addr} (h : Held H (L2.wipe σ is) (wipeS env is) j a) : Held H σ env j a := by
  rcases h with ⟨od, h1, h2⟩ | ⟨dss, l, as, h1, h2, h3⟩
  · rcases wipeS_get h1 with e | ⟨e, n⟩
    · cases e
    · rw [wipe_get n] at h2
      exact .inl ⟨od, e, h2⟩
  · rcases wipeS_get h1 with e | ⟨e, n⟩
    · cases e
    · rw [wipe_get n] at h2
      exact .inr ⟨dss, l, as, e, h2, h3⟩
theorem Rel.wipe {K : PySem.W.Frag} (r : Rel K cm σ H G env) (is : List Nat) : Rel K cm (wipe σ is) H G (wipeS env is) where
  len := by rw [wipe_length, wipeS_length, r.len]
  sub := r.sub
  val := fun j d hj => by
    rcases wipeS_get hj with e | ⟨e, n⟩
    · cases e
    · rw [wipe_get n]
      exact r.val j d e
  own := fun j od hj => by
    rcases wipeS_get hj with e | ⟨e, n⟩
    · cases e
    · rw [wipe_get n]
      exact r.own j od e
  mat := fun j dss hj => by
    rcases wipeS_get hj with e | ⟨e, n⟩
    · cases e
    · rw [wipe_get n]
      exact r.mat j dss e
  dist := fun j k a hj hk => r.dist j k a (Held.wipe hj) (Held.wipe hk)
theorem ext_get {α : Type} {l l' : List α} (hl : l.length = l'.length) (h : ∀ j : Nat, l[j]? = l'[j]?) : l = l' := List.ext_getElem? h
theorem wipe_at {σ : L2.St} {j : Nat} : ∀ {is : List Nat}, j ∈ is → (wipe σ is)[j]? = if j < σ.length then some none else none
  | [], h => by cases h
  | i :: is, h => by
    unfold L2.wipe
    by_cases e : i = j
    · subst e
      by_cases hl : i < σ.length
      · rw [if_pos hl, List.getElem?_set_self (by rw [wipe_length]; exact hl)]
      · rw [if_neg hl, List.getElem?_eq_none (by rw [List.length_set, wipe_length]; omega)]
    · rw [List.getElem?_set_ne e]
      rcases List.mem_cons.mp h with q | q
      · exact absurd q.symm e
      · exact wipe_at q
theorem wipe_eq {σ σ' : L2.St} {is js : List Nat} (hl : σ'.length = σ.length) (hs : ∀ j : Nat, j ∉ js → σ'[j]? = (L2.wipe σ is)[j]?) (sub : ∀ j ∈ js, j ∈ is) : L2.wipe σ' is = L2.wipe σ is := by
  refine List.ext_getElem? fun j => ?_
  by_cases h : j ∈ is
  · rw [wipe_at h, wipe_at h, hl]
  · rw [wipe_get h, hs j (fun m => h (sub j m))]
theorem compL_cons {g : Dt → Option (List Dt)} {d : Dt} {ds out : List Dt} (h : compL g (d :: ds) = some out) : ∃ o r, g d = some o ∧ compL g ds = some r ∧ out = o ++ r := by
  obtain ⟨o, h1, h⟩ := Option.bind_eq_some_iff.mp h
  obtain ⟨r, h2, h⟩ := Option.bind_eq_some_iff.mp h
  cases h
  exact ⟨o, r, h1, h2, rfl⟩
theorem drop_get {α : Type} {l : List α} {i : Nat} {x : α} (h : l[i]? = some x) : l.drop i = x :: l.drop (i + 1) := by
  obtain ⟨hl, e⟩ := List.getElem?_eq_some_iff.mp h
  rw [← e]
  exact List.drop_eq_getElem_cons hl
/-- the tests of a comprehension: none or one -/
structure JTs (X : Cx) (cm : Nat → Addr) (ifs : List Expr) (f : TF) : Prop where
  ex : ∀ (env : Sl) (b : Bool) (σ : L2.St) (H G : Hp), f env = some b → Rel X.K cm σ H G env → ∀ Q : Bool → Hp → Prop, (∀ H' G', Grow H G H' G' → Q b H') → ∃ t : TT, PTs X ifs t ∧ t σ H Q
theorem jts_nil : JTs X cm [] tYes := ⟨fun env b σ H G hf rel Q q => ⟨_, pts_nil, by cases hf; exact q H G (.refl rel.sub)⟩⟩
theorem jts_one {c : Expr} {t : TF} (h : JT X cm c t) : JTs X cm [c] t := ⟨fun env b σ H G hf rel Q q => ⟨_, pts_one pt_w, h.run env b σ H G hf rel Q q⟩⟩
def wpTs (X : Cx) (ifs : List Expr) : TT := fun σ H Q => ∃ t : TT, PTs X ifs t ∧ t σ H Q
theorem pts_w {ifs : List Expr} : PTs X ifs (wpTs X ifs) := ⟨fun pins s σ H Q I h => by
  obtain ⟨t, h1, h2⟩ := h
  exact h1.run pins s σ H Q I h2⟩

/-- the weakest readings in every block -/
def gB (X : Cx) (scope : Scope) (tg : Expr) : TG := fun v σ H Q => ∀ (s : Shared) (H0 : Hp) (C : Addr) (cl : List (Str × Addr)) (fp : List Addr), wpG (X.blk s H0 scope (compEnvC scope cl C X.env) fp) tg v σ H Q
def tB' (X : Cx) (scope : Scope) (ifs : List Expr) : TT := fun σ H Q => ∀ (s : Shared) (H0 : Hp) (C : Addr) (cl : List (Str × Addr)) (fp : List Addr), wpTs (X.blk s H0 scope (compEnvC scope cl C X.env) fp) ifs σ H Q
def eB (X : Cx) (scope : Scope) (elt : Expr) : TE := fun σ H Q => ∀ (s : Shared) (H0 : Hp) (C : Addr) (cl : List (Str × Addr)) (fp : List Addr), wpE (X.blk s H0 scope (compEnvC scope cl C X.env) fp) elt σ H Q
theorem pg_B {scope : Scope} {tg : Expr} {s : Shared} {H0 : Hp} {C : Addr} {cl : List (Str × Addr)} {fp : List Addr} : PG (X.blk s H0 scope (compEnvC scope cl C X.env) fp) tg (gB X scope tg) := ⟨fun pins s1 σ H v u Q I r h => h s H0 C cl fp pins s1 u I r⟩
theorem pt_B {scope : Scope} {ifs : List Expr} {s : Shared} {H0 : Hp} {C : Addr} {cl : List (Str × Addr)} {fp : List Addr} : PTs (X.blk s H0 scope (compEnvC scope cl C X.env) fp) ifs (tB' X scope ifs) := ⟨fun pins s1 σ H Q I h => pts_w.run pins s1 σ H Q I (h s H0 C cl fp)⟩
theorem pe_B {scope : Scope} {elt : Expr} {s : Shared} {H0 : Hp} {C : Addr} {cl : List (Str × Addr)} {fp : List Addr} : PE (X.blk s H0 scope (compEnvC scope cl C X.env) fp) elt (eB X scope elt) := ⟨fun pins s1 σ H Q I h => h s H0 C cl fp pins s1 I⟩
/-- a comprehension's reading: its parts in every block -/
theorem je_comp {elt tg iter : Expr} {ifs : List Expr} {scope : Scope} {own : List (Str × Nat)} {js : List Nat} {fi : IF} {g : GF} {ft : TF} {fe : EF} (hc : X.calm = true) (hN : X.N.Nodup) (hi : JI X cm tg iter fi) (ok : blkC X.N X.env.scope scope own = true)
    (hg : ∀ (s : Shared) (H : Hp) (C : Addr) (cl : List (Str × Addr)) (fp : List Addr), JG (X.blk s H scope (compEnvC scope cl C X.env) fp) cm tg js g) (hj : ∀ j ∈ js, j ∈ own.map (·.2))
    (ht : ∀ (s : Shared) (H : Hp) (C : Addr) (cl : List (Str × Addr)) (fp : List Addr), JTs (X.blk s H scope (compEnvC scope cl C X.env) fp) cm ifs ft)
    (he : ∀ (s : Shared) (H : Hp) (C : Addr) (cl : List (Str × Addr)) (fp : List Addr), JE (X.blk s H scope (compEnvC scope cl C X.env) fp) cm elt fe) (hs : ∀ x, foldedSetIterable iter X.env x = pure x := by intro _; rfl) :
    (∀ (env : Sl) (r : R) (σ : L2.St) (H G : Hp), eComp (own.map (·.2)) fi g ft fe env = some r → Rel X.K cm σ H G env → ∀ Q : VK, (∀ v H' G', Grow H G H' G' → RR X.K cm H H' G' v r → Q v H') →
      tLc (wpI X tg iter) (gB X scope tg) (tB' X scope ifs) (eB X scope elt) (own.map (·.2)) σ H Q) := by
  intro env r σ H G hf rel Q q
  obtain ⟨⟨ds, bb⟩, h1, hf⟩ := Option.bind_eq_some_iff.mp hf
  obtain ⟨out, h2, hf⟩ := Option.bind_eq_some_iff.mp hf
  dsimp only at h2 hf
  split at hf
  case isFalse => cases hf
  rename_i hlen
  cases hf
  refine hi.run env ds bb σ H G h1 rel _ fun J H1 G1 g1 jok => fun D hD => ?_
  have rel1 := rel.grow g1
  have hl := jok
  -- the invariant
  refine ⟨fun i m H' => m = ds.length - i ∧ i ≤ ds.length ∧ ∃ (G' : Hp) (av : List V) (ad ro : List Dt), Exx G' H' ∧ Exx G1 G' ∧ Exx H1 H' ∧ (∀ a o, H1 a = some o → G1 a = none → G' a = none) ∧ H' D = some (.lst av) ∧ G' D = none ∧ DenL X.K cm G' av ad ∧ ad.length ≤ i ∧
    compL (compG env (own.map (·.2)) g ft fe) (ds.drop i) = some ro ∧ out = ad ++ ro, ⟨ds.length, rfl, Nat.zero_le _, G1, [], [], out, (Grow.hide g1.sub hD).sub, .refl _, .new hD, fun _ _ _ n => n, upd_same, g1.sub.back hD, .nil, Nat.le_refl _, by rw [List.drop_zero]; exact h2, rfl⟩, ?_⟩
  rintro i m H' ⟨rfl, hi', G', av, ad, ro, sub, gx, hx, hid, hHD, hGD, den, hal, hro, hout⟩
  have st : StK H1 G1 bb H' G' := ⟨sub, gx, fun _ => hx⟩
  by_cases hlt : i < ds.length
  · refine .inr ⟨jok.go i H' G' st hlt, fun H2 => i + 1 ≤ ds.length ∧ ∃ (G' : Hp) (av : List V) (ad ro : List Dt), Exx G' H2 ∧ Exx G1 G' ∧ Exx H1 H2 ∧ (∀ a o, H1 a = some o → G1 a = none → G' a = none) ∧ H2 D = some (.lst av) ∧ G' D = none ∧ DenL X.K cm G' av ad ∧ ad.length ≤ i + 1 ∧
      compL (compG env (own.map (·.2)) g ft fe) (ds.drop (i + 1)) = some ro ∧ out = ad ++ ro, fun H2 hw => ⟨ds.length - (i + 1), by omega, rfl, hw⟩, fun v H2 hy => ?_⟩
    obtain ⟨G2, d, hd, g2, dn⟩ := jok.yl i H' G' v H2 st hlt hy
    rw [drop_get hd] at hro
    obtain ⟨o, ro', ho, hro', rfl⟩ := compL_cons hro
    obtain ⟨env', hg', ho⟩ := Option.bind_eq_some_iff.mp ho
    obtain ⟨t, ht', ho⟩ := Option.bind_eq_some_iff.mp ho
    have relb : Rel X.K cm (L2.wipe σ (own.map (·.2))) H2 G2 (wipeS env (own.map (·.2))) := by
      refine ((Rel.grow rel1 (H' := H') (G' := G') ⟨hx, gx, hid, sub⟩).grow g2).wipe _
    intro s H0 C cl fp
    refine (hg s H0 C cl fp).run _ env' d v _ H2 G2 hg' relb dn _ fun σ' rel' fr' same len => ⟨wipe_eq (len.trans (wipe_length _ _)) same hj, ?_⟩
    intro s H0 C cl fp
    refine (ht s H0 C cl fp).ex env' t σ' H2 G2 ht' rel' _ fun H3 G3 g3 => ?_
    have g23 := g2.trans g3
    have hx3 := hx.trans g23.hx
    have gx3 := gx.trans g23.gx
    have hid3 : ∀ a o, H1 a = some o → G1 a = none → G3 a = none := fun a o h n => g23.hid a o (hx a o h) (hid a o h n)
    have hD3 := g23.hx D _ hHD
    have gD3 := g23.hid D _ hHD hGD
    cases t with
    | false =>
      cases ho
      exact iteF ⟨hlt, G3, av, ad, ro', g3.sub, gx3, hx3, hid3, hD3, gD3, den.mono g23.gx, by omega, hro', hout⟩
    | true =>
      obtain ⟨re, he', ho⟩ := Option.bind_eq_some_iff.mp ho
      split at ho
      · cases ho
      · rename_i hsh
        cases ho
        refine iteT ?_
        intro s H0 C cl fp
        refine (he s H0 C cl fp).pub he' (rel'.grow g3) fun y H4 G4 g4 vr => ?_
        have hsh' : re.sh = false := by simpa using hsh
        rw [hsh'] at vr
        have g24 := g23.trans g4
        refine ⟨av, g24.hx D _ hHD, ?_, hlt, G4, av ++ [y], ad ++ [re.dt], ro', ?_, gx.trans g24.gx, ?_, fun a o h n => g24.hid a o (hx a o h) (hid a o h n), upd_same, g24.hid D _ hHD hGD, ?_, ?_, hro', ?_⟩
        · rw [den.length]
          exact Nat.lt_of_le_of_lt hal (Nat.lt_of_lt_of_le (Nat.lt_of_lt_of_le hlt hlen) (lim_ok (Nat.le_refl _)))
        · intro a o h
          by_cases e : a = D
          · subst e
            rw [g24.hid _ _ hHD hGD] at h
            cases h
          · rw [upd_ne e]
            exact g4.sub a o h
        · intro a o h
          rw [upd_ne (ne_of_none h hD)]
          exact g24.hx a o (hx a o h)
        · exact (den.mono g24.gx).append (.one vr.den)
        · rw [List.length_append, List.length_singleton]
          omega
        · rw [List.append_assoc]
          exact hout
  · have e : i = ds.length := by omega
    subst e
    refine .inl ⟨jok.stop _ H' G' st (Nat.le_refl _), ?_⟩
    rw [List.drop_length] at hro
    cases hro
    rw [List.append_nil] at hout
    subst hout
    refine q _ H' G' (g1.trans ⟨hx, gx, hid, sub⟩) ⟨D, _, rfl, g1.hx.back hD, hHD, hGD, den⟩
end
end Pyl
end
section
set_option Elab.async false
set_option linter.all false
set_option maxRecDepth 100000
set_option maxHeartbeats 4000000
namespace Pyl
open PySem L2
/-! ### a comprehension as a value -/
section
variable {X : Cx} {cm : Nat → Addr} {elt tg iter : Expr} {ifs : List Expr} {scope : Scope} {pos : Pos} {js : List Nat} {fi : IF} {g : GF} {ft : TF} {fe : EF}
theorem je_lc (own : List (Str × Nat)) (hc : X.calm = true) (hN : X.N.Nodup) (hi : JI X cm tg iter fi) (ok : blkC X.N X.env.scope scope own = true)
    (hg : ∀ (s : Shared) (H : Hp) (C : Addr) (cl : List (Str × Addr)) (fp : List Addr), JG (X.blk s H scope (compEnvC scope cl C X.env) fp) cm tg js g) (hj : ∀ j ∈ js, j ∈ own.map (·.2))
    (ht : ∀ (s : Shared) (H : Hp) (C : Addr) (cl : List (Str × Addr)) (fp : List Addr), JTs (X.blk s H scope (compEnvC scope cl C X.env) fp) cm ifs ft)
    (he : ∀ (s : Shared) (H : Hp) (C : Addr) (cl : List (Str × Addr)) (fp : List Addr), JE (X.blk s H scope (compEnvC scope cl C X.env) fp) cm elt fe) (hs : ∀ x, foldedSetIterable iter X.env x = pure x := by intro _; rfl) :
    JE X cm (.ListComp elt [⟨tg, iter, ifs, 0⟩] scope pos) (eComp (own.map (·.2)) fi g ft fe) :=
  ⟨fun env r σ H G hf rel Q q => to_e (pe_lc hc hN pi_w (blkOk_by ok) (fun _ _ _ _ _ => pg_B) (fun _ _ _ _ _ => pt_B) (fun _ _ _ _ _ => pe_B) hs) (je_comp hc hN hi ok hg hj ht he hs env r σ H G hf rel Q q)⟩
end

/-! ### statements -/
/-- how the ends that are wanted of the heaps follow from those that are wanted of the data -/
structure EndsOk (K : PySem.W.Frag) (cm : Nat → Addr) (σ : L2.St) (env : Sl) (H G : Hp) (D' : En) (D : Ends) : Prop where
  nx : ∀ σ' H' G' env', Rel K cm σ' H' G' env' → Fr σ env H G σ' env' H' G' → D'.nx env' → D.nx σ' H'
  rt : ∀ v H' G' d, FrH σ env H G H' G' → Den K cm G' v d → D'.rt d → D.rt v H'
  bk : ∀ σ' H' G' env', Rel K cm σ' H' G' env' → Fr σ env H G σ' env' H' G' → D'.bk env' → D.bk σ' H'
  ct : ∀ σ' H' G' env', Rel K cm σ' H' G' env' → Fr σ env H G σ' env' H' G' → D'.ct env' → D.ct σ' H'
structure JS (X : Cx) (cm : Nat → Addr) (st : Stmt) (w : WS) : Prop where
  run : ∀ (env : Sl) (D' : En) (σ : L2.St) (H G : Hp), w D' env → Rel X.K cm σ H G env → ∀ D : Ends, EndsOk X.K cm σ env H G D' D → wpS X st D σ H
structure JSs (X : Cx) (cm : Nat → Addr) (st : List Stmt) (w : WS) : Prop where
  run : ∀ (env : Sl) (D' : En) (σ : L2.St) (H G : Hp), w D' env → Rel X.K cm σ H G env → ∀ D : Ends, EndsOk X.K cm σ env H G D' D → wpSs X st D σ H
/-- from a later state on -/
theorem EndsOk.later {K : PySem.W.Frag} {cm : Nat → Addr} {σ σ1 : L2.St} {env env1 : Sl} {H G H1 G1 : Hp} {D' : En} {D : Ends} (o : EndsOk K cm σ env H G D' D) (f : Fr σ env H G σ1 env1 H1 G1) : EndsOk K cm σ1 env1 H1 G1 D' D :=
  ⟨fun σ' H' G' env' r g => o.nx σ' H' G' env' r (f.trans g), fun v H' G' d g => o.rt v H' G' d (f.trH g), fun σ' H' G' env' r g => o.bk σ' H' G' env' r (f.trans g), fun σ' H' G' env' r g => o.ct σ' H' G' env' r (f.trans g)⟩
section
variable {X : Cx} {cm : Nat → Addr} {e a b c tg iter : Expr} {f fa fb fc : EF} {σ : L2.St} {H G : Hp} {env : Sl} {pos p : Pos} {st : Stmt} {sts rest body : List Stmt} {w u wb : WS} {x : Str} {t : TF}
theorem jss_nil : JSs X cm [] wNil := ⟨fun env D' σ H G hw rel D o => to_ss pss_nil (o.nx σ H G env rel (.refl rel.sub) hw)⟩
theorem jss_cons (h1 : JS X cm st w) (h2 : JSs X cm rest u) : JSs X cm (st :: rest) (wSeq w u) := by
  refine ⟨fun env D' σ H G hw rel D o => to_ss (pss_cons ps_w pss_w) ?_⟩
  obtain ⟨M, hw, hk⟩ := hw
  refine h1.run env { D' with nx := M } σ H G hw rel _ ⟨fun σ' H' G' env' r g n => ?_, o.rt, o.bk, o.ct⟩
  exact h2.run env' D' σ' H' G' (hk env' n) r D (o.later g)
theorem jss_one (h1 : JS X cm st w) : JSs X cm [st] w := ⟨fun env D' σ H G hw rel D o => to_ss (pss_one ps_w) (h1.run env D' σ H G hw rel D o)⟩
/-- who holds what, one name changed -/
theorem Held.set {H : Hp} {σ σ' : L2.St} {env : Sl} {i j : Nat} {a : Addr} {s : Slot} (h : Held H σ' (env.set i s) j a) (e : ∀ k : Nat, k ≠ i → σ'[k]? = σ[k]?) : (j = i ∧ Held H σ' (env.set i s) i a) ∨ (j ≠ i ∧ Held H σ env j a) := by
  by_cases q : j = i
  · subst q; exact .inl ⟨rfl, h⟩
  · refine .inr ⟨q, ?_⟩
    rcases h with ⟨od, h1, h2⟩ | ⟨dss, l, as, h1, h2, h3⟩
    · rw [List.getElem?_set_ne (Ne.symm q)] at h1
      rw [e j q] at h2
      exact .inl ⟨od, h1, h2⟩
    · rw [List.getElem?_set_ne (Ne.symm q)] at h1
      rw [e j q] at h2
      exact .inr ⟨dss, l, as, h1, h2, h3⟩
theorem Held.noVal {H : Hp} {σ : L2.St} {env : Sl} {i : Nat} {a : Addr} {d : Dt} (h : Held H σ (env.set i (.val d)) i a) : False := by
  rcases h with ⟨od, h1, h2⟩ | ⟨dss, l, as, h1, h2, h3⟩ <;> rcases get_set h1 with ⟨_, e, _⟩ | ⟨ne, _⟩
  · cases e
  · exact ne rfl
  · cases e
  · exact ne rfl
/-- what a name holds is shown -/
theorem frz_core {K : PySem.W.Frag} {i : Nat} {v : V} {d : Dt} {G' : Hp} (r : Rel K cm σ H G env) (hv : σ[i]? = some (some v)) (gx : Exx G G') (sub : Exx G' H) (hd : Den K cm G' v d) (only : ∀ a, G a = none → G' a ≠ none → Held H σ env i a) :
    Rel K cm σ H G' (env.set i (.val d)) ∧ Fr σ env H G σ (env.set i (.val d)) H G' := by
  have back : ∀ {j : Nat} {a : Addr}, Held H σ (env.set i (.val d)) j a → j ≠ i ∧ Held H σ env j a := fun h => by
    rcases Held.set h (fun _ _ => rfl) with ⟨_, q⟩ | q
    · exact q.noVal.elim
    · exact q
  have non : ∀ {j : Nat} {a : Addr}, j ≠ i → Held H σ env j a → G' a = none := fun {j a} ne h => by
    obtain ⟨_, n⟩ := Held.at_ r h
    cases q : G' a with
    | none => rfl
    | some o => exact absurd (r.dist j i a h (only a n (by rw [q]; exact fun e => by cases e))) ne
  refine ⟨⟨by rw [List.length_set, r.len], sub, fun j d' hj => ?_, fun j od hj => ?_, fun j dss hj => ?_, fun j k a hj hk => r.dist j k a (back hj).2 (back hk).2⟩, ⟨⟨gx, fun a o h n w => ?_, fun _ _ h _ => h, fun a o h => ⟨o, h⟩, sub⟩, fun a o h n ⟨j, q⟩ => n ⟨j, (back q).2⟩, fun j hj => ?_⟩⟩
  · rcases get_set hj with ⟨rfl, q, hl⟩ | ⟨ne, hj⟩
    · cases q
      exact ⟨_, hv, hd⟩
    · obtain ⟨w, k1, k2⟩ := r.val j d' hj
      exact ⟨w, k1, k2.mono gx⟩
  · rcases get_set hj with ⟨rfl, q, hl⟩ | ⟨ne, hj⟩
    · cases q
    · obtain ⟨l', o', k1, k2, k3, k4⟩ := r.own j od hj
      exact ⟨l', o', k1, k2, non (Ne.symm ne) (.inl ⟨od, hj, k1⟩), k4.mono gx⟩
  · rcases get_set hj with ⟨rfl, q, hl⟩ | ⟨ne, hj⟩
    · cases q
    · obtain ⟨l', as, k1, k2⟩ := r.mat j dss hj
      refine ⟨l', as, k1, k2.at_, non (Ne.symm ne) (Held.mat r hj k1 k2 List.mem_cons_self), k2.nd, k2.len, fun k a ds e1 e2 => ?_⟩
      obtain ⟨vs, q1, q2, q3⟩ := k2.row k a ds e1 e2
      exact ⟨vs, q1, non (Ne.symm ne) (Held.mat r hj k1 k2 (List.mem_cons_of_mem _ (List.mem_of_getElem? e1))), q3.mono gx⟩
  · cases q : G' a with
    | none => rfl
    | some o' => exact absurd ⟨i, only a n (by rw [q]; exact fun e => by cases e)⟩ w
  · rcases get_set hj with ⟨rfl, q, hl⟩ | ⟨ne, hj⟩
    · cases q
    · exact ⟨hj, rfl⟩
theorem den_rows {K : PySem.W.Frag} {G : Hp} : ∀ {as : List Addr} {dss : List (List Dt)}, as.length = dss.length → (∀ (k : Nat) (a : Addr) (ds : List Dt), as[k]? = some a → dss[k]? = some ds → ∃ vs, G a = some (.lst vs) ∧ DenL K cm G vs ds) → DenL K cm G (as.map V.ref) (dss.map Dt.lst)
  | [], [], _, _ => .nil
  | a :: as, ds :: dss, e, h => by
    obtain ⟨vs, h1, h2⟩ := h 0 a ds rfl rfl
    exact .cons (.lst (SqL.of h1) h2) (den_rows (by simpa using e) fun k b es q1 q2 => h (k + 1) b es (by simpa using q1) (by simpa using q2))
  | [], _ :: _, e, _ => by cases e
  | _ :: _, [], e, _ => by cases e
open Classical in
/-- the heap G and what stands at these addresses in H -/
noncomputable def withA (G H : Hp) (as : List Addr) : Hp := fun a => if a ∈ as then H a else G a
theorem withA_in {G H : Hp} {as : List Addr} {a : Addr} (h : a ∈ as) : withA G H as a = H a := if_pos h
theorem withA_out {G H : Hp} {as : List Addr} {a : Addr} (h : a ∉ as) : withA G H as a = G a := if_neg h
theorem withA_gx {G H : Hp} {as : List Addr} (n : ∀ a ∈ as, G a = none) : Exx G (withA G H as) := fun a o h => by
  rw [withA_out (fun q => by rw [n a q] at h; cases h)]
  exact h
theorem withA_sub {G H : Hp} {as : List Addr} (s : Exx G H) : Exx (withA G H as) H := fun a o h => by
  by_cases q : a ∈ as
  · rw [withA_in q] at h; exact h
  · rw [withA_out q] at h; exact s a o h
theorem MatR.den {K : PySem.W.Frag} {H G : Hp} {l : Addr} {as : List Addr} {dss : List (List Dt)} (m : MatR K cm H G l as dss) : Den K cm (withA G H (l :: as)) (.ref l) (.lst (dss.map .lst)) := by
  refine .lst (SqL.of (xs := as.map V.ref) ?_) (den_rows m.len fun k a ds e1 e2 => ?_)
  · rw [withA_in List.mem_cons_self]; exact m.at_
  · obtain ⟨vs, q1, q2, q3⟩ := m.row k a ds e1 e2
    refine ⟨vs, ?_, q3.mono (withA_gx fun b hb => (m.all hb).2)⟩
    rw [withA_in (List.mem_cons_of_mem _ (List.mem_of_getElem? e1))]; exact q1
/-- nothing happens but that a name's own list is data from now on -/
theorem Rel.frz {K : PySem.W.Frag} {i : Nat} (r : Rel K cm σ H G env) : ∃ G', Rel K cm σ H G' (frzS i env) ∧ Fr σ env H G σ (frzS i env) H G' := by
  unfold frzS
  split
  case h_3 => exact ⟨G, r, .refl r.sub⟩
  case h_1 od hi =>
    obtain ⟨l, o, h1, h2, h3, h4⟩ := r.own i od hi
    cases o <;> cases od <;> first | exact h4.elim | skip
    rename_i vs ds
    have e : Exx G (upd G l (.lst vs)) := .new h3
    exact ⟨_, frz_core r h1 e (fun a o h => by
      by_cases q : a = l
      · subst q; rw [upd_same] at h; cases h; exact h2
      · rw [upd_ne q] at h; exact r.sub a o h) (.lst (SqL.of upd_same) (DenL.mono e h4)) fun a n h => by
      by_cases q : a = l
      · subst q; exact .inl ⟨_, hi, h1⟩
      · rw [upd_ne q] at h; exact absurd n h⟩
  case h_2 dss hi =>
    obtain ⟨l, as, h1, h2⟩ := r.mat i dss hi
    exact ⟨_, frz_core r h1 (withA_gx fun b hb => (h2.all hb).2) (withA_sub r.sub) h2.den fun a n h => by
      by_cases q : a ∈ l :: as
      · exact Held.mat r hi h1 h2 q
      · rw [withA_out q] at h; exact absurd n h⟩
theorem jss_frz (i : Nat) (h : JSs X cm sts w) : JSs X cm sts (wFrz i w) := by
  refine ⟨fun env D' σ H G hw rel D o => ?_⟩
  obtain ⟨G', rel', fr⟩ := rel.frz (i := i)
  exact h.run _ D' σ H G' hw rel' D (o.later fr)
theorem js_pass : JS X cm (.Pass pos) wNil := ⟨fun env D' σ H G hw rel D o => to_s ps_pass (o.nx σ H G env rel (.refl rel.sub) hw)⟩
theorem js_break : JS X cm (.Break pos) wBrk := ⟨fun env D' σ H G hw rel D o => to_s ps_break (o.bk σ H G env rel (.refl rel.sub) hw)⟩
theorem js_continue : JS X cm (.Continue pos) wCnt := ⟨fun env D' σ H G hw rel D o => to_s ps_continue (o.ct σ H G env rel (.refl rel.sub) hw)⟩
theorem js_ret (he : JE X cm e f) : JS X cm (.Return (some e) pos) (wRet f) := by
  refine ⟨fun env D' σ H G hw rel D o => to_s (ps_ret pe_w) ?_⟩
  obtain ⟨r, h1, h2, h3⟩ := hw
  refine he.pub h1 rel fun v H1 G1 g1 vr => ?_
  rw [h2] at vr
  exact o.rt v H1 G1 _ g1.frH vr.den h3
theorem js_retN : JS X cm (.Return none pos) wRetN := ⟨fun env D' σ H G hw rel D o => to_s ps_retN (o.rt _ H G _ (Grow.refl rel.sub).frH Den.non hw)⟩
theorem js_drop (he : JE X cm e f) (hs : swapsWith e none pos.line X.env = pure false := by rfl) : JS X cm (.Expr e pos) (wDrop f) := by
  refine ⟨fun env D' σ H G hw rel D o => to_s (ps_expr pe_w hs) ?_⟩
  obtain ⟨r, h1, h2⟩ := hw
  refine he.pub h1 rel fun v H1 G1 g1 vr => ?_
  exact o.nx σ H1 G1 env (rel.grow g1) (rel.fr g1) h2
theorem js_if {as bs : List Stmt} {wa : WS} (hc : JT X cm c t) (ha : JSs X cm as wa) (hb : JSs X cm bs wb) : JS X cm (.If c as bs pos) (wIf t wa wb) := by
  refine ⟨fun env D' σ H G hw rel D o => to_s (ps_if pt_w pss_w pss_w) ?_⟩
  obtain ⟨k, h1, h2, h3⟩ := hw
  refine hc.run env k σ H G h1 rel _ fun H1 G1 g1 => ?_
  cases k with
  | true => exact iteT (ha.run env D' σ H1 G1 (h2 rfl) (rel.grow g1) D (o.later (rel.fr g1)))
  | false => exact iteF (hb.run env D' σ H1 G1 (h3 rfl) (rel.grow g1) D (o.later (rel.fr g1)))
/-- a name gets something of its own, at new addresses -/
theorem own_core {K : PySem.W.Frag} {i : Nat} {v : V} {s : Slot} {H1 G1 : Hp} (r : Rel K cm σ H G env) (g : Grow H G H1 G1) (nv : ∀ d, s ≠ .val d) (nt : s ≠ .take) (new : ∀ a, i < env.length → Held H1 (σ.set i (some v)) (env.set i s) i a → H a = none)
    (hown : ∀ od, s = .own od → ∃ l o, v = .ref l ∧ H1 l = some o ∧ G1 l = none ∧ OwnR K cm G1 o od) (hmat : ∀ dss, s = .mat dss → ∃ l as, v = .ref l ∧ MatR K cm H1 G1 l as dss) :
    Rel K cm (σ.set i (some v)) H1 G1 (env.set i s) ∧ Fr σ env H G (σ.set i (some v)) (env.set i s) H1 G1 := by
  have off : ∀ k : Nat, k ≠ i → (σ.set i (some v))[k]? = σ[k]? := fun k h => List.getElem?_set_ne (Ne.symm h)
  have self : ∀ {j : Nat}, j < (env.set i s).length → j = i → (σ.set i (some v))[j]? = some (some v) := fun {j} hl e => by
    subst e
    rw [List.length_set] at hl
    exact List.getElem?_set_self (by rw [r.len]; exact hl)
  have cls : ∀ {j : Nat} {a : Addr}, Held H1 (σ.set i (some v)) (env.set i s) j a → (j = i ∧ H a = none) ∨ (j ≠ i ∧ Held H σ env j a) := fun {j a} h => by
    rcases Held.set h off with ⟨e, q⟩ | ⟨ne, q⟩
    · refine .inl ⟨e, new a ?_ q⟩
      have : i < (env.set i s).length := by
        rcases q with ⟨od, h1, _⟩ | ⟨dss, l, as, h1, _⟩ <;> exact (List.getElem?_eq_some_iff.mp h1).1
      rwa [List.length_set] at this
    · exact .inr ⟨ne, r.held g.hx q⟩
  refine ⟨⟨by rw [List.length_set, List.length_set, r.len], g.sub, fun j d' hj => ?_, fun j od hj => ?_, fun j dss hj => ?_, fun j k a hj hk => ?_⟩, { g.frH with fresh := fun a o h w ⟨j, q⟩ => ?_, take := fun j hj => ?_ }⟩
  · rcases get_set hj with ⟨rfl, e, hl⟩ | ⟨ne, hj⟩
    · exact absurd e.symm (nv d')
    · obtain ⟨w, h1, h2⟩ := r.val j d' hj
      exact ⟨w, by rw [List.getElem?_set_ne ne]; exact h1, h2.mono g.gx⟩
  · rcases get_set hj with ⟨rfl, e, hl⟩ | ⟨ne, hj⟩
    · obtain ⟨l, o, rfl, k1, k2, k3⟩ := hown od e.symm
      exact ⟨l, o, List.getElem?_set_self (by rw [r.len]; exact hl), k1, k2, k3⟩
    · obtain ⟨l, o, h1, h2, h3, h4⟩ := (r.grow g).own j od hj
      exact ⟨l, o, by rw [List.getElem?_set_ne ne]; exact h1, h2, h3, h4⟩
  · rcases get_set hj with ⟨rfl, e, hl⟩ | ⟨ne, hj⟩
    · obtain ⟨l, as, rfl, k1⟩ := hmat dss e.symm
      exact ⟨l, as, List.getElem?_set_self (by rw [r.len]; exact hl), k1⟩
    · obtain ⟨l, as, h1, h2⟩ := (r.grow g).mat j dss hj
      exact ⟨l, as, by rw [List.getElem?_set_ne ne]; exact h1, h2⟩
  · rcases cls hj with ⟨e, n⟩ | ⟨ne, q⟩ <;> rcases cls hk with ⟨e', n'⟩ | ⟨ne', q'⟩
    · exact e.trans e'.symm
    · obtain ⟨⟨o, ho⟩, _⟩ := Held.at_ r q'
      rw [n] at ho; cases ho
    · obtain ⟨⟨o, ho⟩, _⟩ := Held.at_ r q
      rw [n'] at ho; cases ho
    · exact r.dist j k a q q'
  · rcases cls q with ⟨e, n⟩ | ⟨ne, q⟩
    · rw [n] at h; cases h
    · exact w ⟨j, q⟩
  · rcases get_set hj with ⟨rfl, e, hl⟩ | ⟨ne, hj⟩
    · exact absurd e.symm nt
    · exact ⟨hj, List.getElem?_set_ne ne⟩
/-- what an assignment leaves, from the heaps H, G ahead of the expression -/
theorem asg_own {K : PySem.W.Frag} {i : Nat} {l : Addr} {o : HO} {od : OD} {H1 G1 : Hp} (r : Rel K cm σ H G env) (g : Grow H G H1 G1) (n : H l = none) (h1 : H1 l = some o) (h2 : G1 l = none) (h3 : OwnR K cm G1 o od) :
    Rel K cm (σ.set i (some (.ref l))) H1 G1 (env.set i (.own od)) ∧ Fr σ env H G (σ.set i (some (.ref l))) (env.set i (.own od)) H1 G1 := by
  refine own_core r g (fun d e => by cases e) (fun e => by cases e) (fun a hl h => ?_) (fun od' e => ?_) (fun dss e => by cases e)
  · rcases h with ⟨od', _, q⟩ | ⟨dss, l', as, q, _⟩
    · rw [List.getElem?_set_self (by rw [r.len]; exact hl)] at q
      cases q
      exact n
    · rw [List.getElem?_set_self hl] at q
      cases q
  · cases e
    exact ⟨l, o, rfl, h1, h2, h3⟩
theorem asg_mat {K : PySem.W.Frag} {i : Nat} {l : Addr} {as : List Addr} {dss : List (List Dt)} {H1 G1 : Hp} (r : Rel K cm σ H G env) (g : Grow H G H1 G1) (n : ∀ a ∈ l :: as, H a = none) (m : MatR K cm H1 G1 l as dss) :
    Rel K cm (σ.set i (some (.ref l))) H1 G1 (env.set i (.mat dss)) ∧ Fr σ env H G (σ.set i (some (.ref l))) (env.set i (.mat dss)) H1 G1 := by
  refine own_core r g (fun d e => by cases e) (fun e => by cases e) (fun a hl h => ?_) (fun od' e => by cases e) (fun dss' e => ?_)
  · rcases h with ⟨od', q, _⟩ | ⟨dss', l', as', q, q2, q3, q4⟩
    · rw [List.getElem?_set_self hl] at q
      cases q
    · rw [List.getElem?_set_self (by rw [r.len]; exact hl)] at q2
      cases q2
      have z := m.at_
      rw [q3] at z
      have z2 : as' = as := refs_inj (HO.lst.inj (Option.some.inj z))
      subst z2
      exact n a q4
  · cases e
    exact ⟨l, as, rfl, m⟩
theorem asg_nx {K : PySem.W.Frag} {i : Nat} {r : R} {v : V} {H1 G1 : Hp} {D' : En} {D : Ends} (rel : Rel K cm σ H G env) (g : Grow H G H1 G1) (rr : RR K cm H H1 G1 v r) (hs : r.sh = false) (hn : D'.nx (env.set i r.slot)) (o : EndsOk K cm σ env H G D' D) : D.nx (σ.set i (some v)) H1 := by
  cases r with
  | vis d => exact o.nx _ _ _ _ ((rel.grow g).setVal rr) ((rel.fr g).trans (.setVal g.sub)) hn
  | bor d => cases hs
  | fre od =>
    obtain ⟨l, ob, rfl, h1, h2, h3, h4⟩ := rr
    obtain ⟨q1, q2⟩ := asg_own (i := i) rel g h1 h2 h3 h4
    exact o.nx _ _ _ _ q1 q2 hn
theorem js_asg (i : Nat) {pos' : Pos} (hN : X.N.Nodup) (he : JE X cm e f) (hi : X.N[i]? = some x := by rfl) (hx : Loc X.env.scope x := by first | exact Or.inl rfl | exact Or.inr rfl) (hs : swapsWith e (some (.Name x pos')) pos.line X.env = pure false := by rfl)
    (hf : X.fn x = true ∨ X.env.scope.names.lookup x = some .local := by first | exact .inl rfl | exact .inr rfl | assumption) : JS X cm (.Assign [.Name x pos'] e pos) (wAsg i f) := by
  refine ⟨fun env D' σ H G hw rel D o => to_s (ps_set hN hi hx pe_w hs hf) ?_⟩
  obtain ⟨r, h1, h2, h3⟩ := hw
  refine he.run env r σ H G h1 rel _ fun v H1 G1 g1 rr => ?_
  exact asg_nx rel g1 rr h2 h3 o
/-- name = [comprehension] -/
theorem js_asgLc {elt : Expr} {ifs : List Expr} {scope : Scope} {js : List Nat} {fi : IF} {g : GF} {ft : TF} {fe : EF} {py : Pos} (i : Nat) (own : List (Str × Nat)) (hc : X.calm = true) (hN : X.N.Nodup) (hy : X.N[i]? = some x) (hyl : X.env.scope.names.lookup x = some .local)
    (hsw : swapsWith (.ListComp elt [⟨tg, iter, ifs, 0⟩] scope p) (some (.Name x py)) pos.line X.env = pure true) (hi : JI X cm tg iter fi) (ok : blkC X.N X.env.scope scope own = true)
    (hg : ∀ (s : Shared) (H : Hp) (C : Addr) (cl : List (Str × Addr)) (fp : List Addr), JG (X.blk s H scope (compEnvC scope cl C X.env) fp) cm tg js g) (hj : ∀ j ∈ js, j ∈ own.map (·.2))
    (ht : ∀ (s : Shared) (H : Hp) (C : Addr) (cl : List (Str × Addr)) (fp : List Addr), JTs (X.blk s H scope (compEnvC scope cl C X.env) fp) cm ifs ft)
    (he : ∀ (s : Shared) (H : Hp) (C : Addr) (cl : List (Str × Addr)) (fp : List Addr), JE (X.blk s H scope (compEnvC scope cl C X.env) fp) cm elt fe) (hs : ∀ x, foldedSetIterable iter X.env x = pure x := by intro _; rfl) :
    JS X cm (.Assign [.Name x py] (.ListComp elt [⟨tg, iter, ifs, 0⟩] scope p) pos) (wAsg i (eComp (own.map (·.2)) fi g ft fe)) := by
  refine ⟨fun env D' σ H G hw rel D o => to_s (ps_setLc hc hN hy hyl hsw pi_w (blkOk_by ok) (fun _ _ _ _ _ => pg_B) (fun _ _ _ _ _ => pt_B) (fun _ _ _ _ _ => pe_B) hs) ?_⟩
  obtain ⟨r, h1, h2, h3⟩ := hw
  refine je_comp hc hN hi ok hg hj ht he hs env r σ H G h1 rel _ fun v H1 G1 g1 rr => ?_
  exact asg_nx rel g1 rr h2 h3 o
/-- a, b = e, e a tuple -/
theorem js_unp {es : List Expr} {k : Nat} {is : List Nat} {pt : Pos} (hc : X.calm = true) (he : JE X cm e f) (hg : JGs X cm es is) (hn : (assignEach es X.env).length = is.length := by rfl) (hst : (assignEach es X.env).findIdx? (·.1) = none := by rfl)
    (hs : swapsWithSole [.Tuple es k pt] e pos.line X.env = pure false := by rfl) (hw : swappedStores [.Tuple es k pt] e X.env = pure none := by rfl) (h1 : (assignEach [.Tuple es k pt] X.env).map (·.2) = [assign (.Tuple es k pt) X.env] := by rfl) :
    JS X cm (.Assign [.Tuple es k pt] e pos) (wUnp is f) := by
  refine ⟨fun env D' σ H G hww rel D o => to_s (ps_asg pe_w pg_w hs hw h1) ?_⟩
  obtain ⟨d, env', k1, k2, k3⟩ := hww
  refine he.run env _ σ H G k1 rel _ fun v H1 G1 g1 rr => ?_
  refine (jg_tup hc hg hn hst).run env env' d v σ H1 G1 k2 (rel.grow g1) rr _ fun σ' rel' fr' _ _ => ?_
  exact o.nx _ _ _ _ rel' ((rel.fr g1).trans fr') k3
/-- what a name holds as its own is changed -/
theorem upd_core {K : PySem.W.Frag} {i : Nat} {v : V} {s : Slot} {H1 G1 H2 : Hp} (r : Rel K cm σ H G env) (g : Grow H G H1 G1) (hl : σ[i]? = some (some v)) (nv : ∀ d, s ≠ .val d) (nt : s ≠ .take) (keep : ∀ a o, H1 a = some o → ¬ Held H σ env i a → H2 a = some o) (there : ∀ a o, H1 a = some o → ∃ o', H2 a = some o')
    (mine : ∀ a, i < env.length → Held H2 σ (env.set i s) i a → Held H σ env i a ∨ H a = none)
    (hown : ∀ od, s = .own od → ∃ l o, v = .ref l ∧ H2 l = some o ∧ G1 l = none ∧ OwnR K cm G1 o od) (hmat : ∀ dss, s = .mat dss → ∃ l as, v = .ref l ∧ MatR K cm H2 G1 l as dss) :
    Rel K cm σ H2 G1 (env.set i s) ∧ Fr σ env H G σ (env.set i s) H2 G1 := by
  have r1 := r.grow g
  have gn : ∀ a, Held H σ env i a → G1 a = none := fun a h => by
    obtain ⟨⟨o, h1⟩, h2⟩ := Held.at_ r h
    exact g.hid a o h1 h2
  have sub : Exx G1 H2 := fun a u e => keep a u (g.sub a u e) fun h => by
    rw [gn a h] at e; cases e
  -- other names hold what they held
  have other : ∀ {j : Nat} {a : Addr}, j ≠ i → Held H2 σ env j a → Held H σ env j a := fun {j a} ne h => by
    rcases h with h | ⟨dss, l, as, h1, h2, h3, h4⟩
    · exact .inl h
    · obtain ⟨l', as', k1, k2⟩ := r.mat j dss h1
      rw [h2] at k1
      cases k1
      have hj : Held H σ env j l := Held.mat r h1 h2 k2 List.mem_cons_self
      have q := keep l _ (g.hx _ _ k2.at_) fun w => ne (r.dist j i l hj w)
      rw [h3] at q
      have q2 : as = as' := refs_inj (HO.lst.inj (Option.some.inj q))
      subst q2
      exact Held.mat r h1 h2 k2 h4
  have cls : ∀ {j : Nat} {a : Addr}, Held H2 σ (env.set i s) j a → (j = i ∧ (Held H σ env i a ∨ H a = none)) ∨ (j ≠ i ∧ Held H σ env j a) := fun {j a} h => by
    rcases Held.set h (fun _ _ => rfl) with ⟨e, q⟩ | ⟨ne, q⟩
    · refine .inl ⟨e, mine a ?_ q⟩
      have : i < (env.set i s).length := by
        rcases q with ⟨od, h1, _⟩ | ⟨dss, l, as, h1, _⟩ <;> exact (List.getElem?_eq_some_iff.mp h1).1
      rwa [List.length_set] at this
    · exact .inr ⟨ne, other ne q⟩
  refine ⟨⟨by rw [List.length_set]; exact r.len, sub, fun j d' hj => ?_, fun j od1 hj => ?_, fun j dss hj => ?_, fun j k a hj hk => ?_⟩, ⟨⟨g.gx, fun a u h n _ => g.hid a u h n, fun a u h w => ?_, fun a u h => there a u (g.hx a u h), sub⟩, fun a u h w ⟨j, q⟩ => ?_, fun j hj => ?_⟩⟩
  · rcases get_set hj with ⟨rfl, e, _⟩ | ⟨ne, hj⟩
    · exact absurd e.symm (nv d')
    · exact r1.val j d' hj
  · rcases get_set hj with ⟨rfl, e, _⟩ | ⟨ne, hj⟩
    · obtain ⟨l, o, rfl, k1, k2, k3⟩ := hown od1 e.symm
      exact ⟨l, o, hl, k1, k2, k3⟩
    · obtain ⟨l', u, k1, k2, k3, k4⟩ := r1.own j od1 hj
      exact ⟨l', u, k1, keep l' u k2 (fun w => ne (r.dist _ _ _ w (.inl ⟨od1, hj, k1⟩))), k3, k4⟩
  · rcases get_set hj with ⟨rfl, e, _⟩ | ⟨ne, hj⟩
    · obtain ⟨l, as, rfl, k1⟩ := hmat dss e.symm
      exact ⟨l, as, hl, k1⟩
    · obtain ⟨l', as, k1, k2⟩ := r.mat j dss hj
      have k3 := k2.mono g
      have away : ∀ a ∈ l' :: as, ¬ Held H σ env i a := fun a ha w => ne (r.dist _ _ _ w (Held.mat r hj k1 k2 ha))
      refine ⟨l', as, k1, keep l' _ k3.at_ (away _ List.mem_cons_self), k3.hid, k3.nd, k3.len, fun k a ds e1 e2 => ?_⟩
      obtain ⟨vs, q1, q2, q3⟩ := k3.row k a ds e1 e2
      exact ⟨vs, keep a _ q1 (away _ (List.mem_cons_of_mem _ (List.mem_of_getElem? e1))), q2, q3⟩
  · rcases cls hj with ⟨e, n⟩ | ⟨ne, q⟩ <;> rcases cls hk with ⟨e', n'⟩ | ⟨ne', q'⟩
    · exact e.trans e'.symm
    · rcases n with n | n
      · exact absurd (r.dist _ _ _ n q').symm ne'
      · obtain ⟨⟨o, ho⟩, _⟩ := Held.at_ r q'
        rw [n] at ho; cases ho
    · rcases n' with n | n
      · exact absurd (r.dist _ _ _ n q).symm ne
      · obtain ⟨⟨o, ho⟩, _⟩ := Held.at_ r q
        rw [n] at ho; cases ho
    · exact r.dist j k a q q'
  · exact keep a u (g.hx a u h) fun q => w ⟨i, q⟩
  · rcases cls q with ⟨e, n | n⟩ | ⟨ne, q⟩
    · exact w ⟨i, n⟩
    · rw [n] at h; cases h
    · exact w ⟨j, q⟩
  · rcases get_set hj with ⟨rfl, e, _⟩ | ⟨ne, hj⟩
    · exact absurd e.symm nt
    · exact ⟨hj, rfl⟩
theorem own_upd {K : PySem.W.Frag} {i : Nat} {l : Addr} {o o' : HO} {od od' : OD} {H1 G1 : Hp} (r : Rel K cm σ H G env) (g : Grow H G H1 G1) (hi : env[i]? = some (.own od)) (hl : σ[i]? = some (some (.ref l))) (h1 : H l = some o) (h2 : G l = none) (h3 : OwnR K cm G1 o' od') :
    Rel K cm σ (upd H1 l o') G1 (env.set i (.own od')) ∧ Fr σ env H G σ (env.set i (.own od')) (upd H1 l o') G1 := by
  have hh : Held H σ env i l := .inl ⟨od, hi, hl⟩
  refine upd_core r g hl (fun d e => by cases e) (fun e => by cases e) (fun a u h n => ?_) (fun a u h => ?_) (fun a hlt h => ?_) (fun od1 e => ?_) (fun dss e => by cases e)
  · rw [upd_ne (fun q => n (by rw [q]; exact hh))]; exact h
  · by_cases q : a = l
    · exact ⟨o', by rw [q]; exact upd_same⟩
    · exact ⟨u, by rw [upd_ne q]; exact h⟩
  · rcases h with ⟨od1, _, q⟩ | ⟨dss, l', as, q, _⟩
    · rw [hl] at q; cases q; exact .inl hh
    · rw [List.getElem?_set_self hlt] at q; cases q
  · cases e
    exact ⟨l, o', rfl, upd_same, g.hid l o h1 h2, h3⟩
/-- the lists of a list of lists are changed -/
theorem mat_upd {K : PySem.W.Frag} {i : Nat} {l : Addr} {as as' : List Addr} {dss dss' : List (List Dt)} {H1 G1 H2 : Hp} (r : Rel K cm σ H G env) (g : Grow H G H1 G1) (hi : env[i]? = some (.mat dss)) (hl : σ[i]? = some (some (.ref l))) (m : MatR K cm H G l as dss)
    (keep : ∀ a o, H1 a = some o → a ∉ l :: as → H2 a = some o) (there : ∀ a o, H1 a = some o → ∃ o', H2 a = some o') (m' : MatR K cm H2 G1 l as' dss') (new : ∀ a ∈ as', a ∈ as ∨ H a = none) :
    Rel K cm σ H2 G1 (env.set i (.mat dss')) ∧ Fr σ env H G σ (env.set i (.mat dss')) H2 G1 := by
  refine upd_core r g hl (fun d e => by cases e) (fun e => by cases e) (fun a u h n => keep a u h fun q => n (Held.mat r hi hl m q)) there (fun a hlt h => ?_) (fun od1 e => by cases e) (fun dss e => ?_)
  · rcases h with ⟨od1, q, _⟩ | ⟨dss1, l', as1, q, q2, q3, q4⟩
    · rw [List.getElem?_set_self hlt] at q; cases q
    · rw [hl] at q2
      cases q2
      have z := m'.at_
      rw [q3] at z
      have z2 : as1 = as' := refs_inj (HO.lst.inj (Option.some.inj z))
      subst z2
      rcases List.mem_cons.mp q4 with rfl | q4
      · exact .inl (Held.mat r hi hl m List.mem_cons_self)
      · rcases new a q4 with q | q
        · exact .inl (Held.mat r hi hl m (List.mem_cons_of_mem _ q))
        · exact .inr q
  · cases e
    exact ⟨l, as', rfl, m'⟩
/-- xs.append(e), xs a list of one's own -/
theorem js_app (i : Nat) {p1 p2 p3 : Pos} (he : JE X cm e f) (hN : X.N[i]? = some x := by rfl) (hv : Vis X.env.scope x := by first | exact Or.inl rfl | exact Or.inr (Or.inl rfl) | exact Or.inr (Or.inr rfl)) (hd : (x == ("__debug__" : Str)) = false := by decide)
    (hcd : (x == ("__classdict__" : Str)) = false := by decide) (hst : starEach [e] X.env = (false, eval e X.env) :: starEach [] X.env := by rfl)
    (hbm : ∀ {t : TE}, PE X (.Name x p3) t → ∀ {u : TA}, PA X [e] u → PE X (.Call (.Attribute (.Name x p3) "append" p2) [e] [] p1) (tBM X.K "list" rAppend t u) := by intro t h u h2; exact pe_bm PySem.F.plainAttrs_list PySem.F.slot_list_append PySem.F.type_list_append mt_append h h2)
    (hs : swapsWith (.Call (.Attribute (.Name x p3) "append" p2) [e] [] p1) none pos.line X.env = pure false := by rfl) : JS X cm (.Expr (.Call (.Attribute (.Name x p3) "append" p2) [e] [] p1) pos) (wApp i f) := by
  refine ⟨fun env D' σ H G hw rel D o => to_s (ps_expr (hbm (pe_var hN hv hd hcd) (pa_cons pe_w pa_nil hst)) hs) ?_⟩
  obtain ⟨ds, r, h1, h2, h3, h4, h5⟩ := hw
  obtain ⟨l, ob, k1, k2, k3, k4⟩ := rel.own i _ h1
  cases ob <;> first | exact k4.elim | skip
  rename_i vs
  have k4 : DenL X.K cm G vs ds := k4
  refine ⟨_, k1, .inl ⟨rfl, _, SqL.of k2⟩, he.pub h2 rel fun v H1 G1 g1 vr => ?_⟩
  rw [h3] at vr
  refine ⟨l, vs, v, rfl, rfl, g1.hx l _ k2, ?_, ?_⟩
  · rw [k4.length]
    exact Nat.lt_of_lt_of_le h4 (lim_ok (Nat.le_refl _))
  · obtain ⟨q1, q2⟩ := own_upd (o' := .lst (vs ++ [v])) (od' := .lst (ds ++ [r.dt])) rel g1 h1 k1 k2 k3 ((k4.mono g1.gx).append (.one vr.den))
    exact o.nx _ _ _ _ q1 q2 h5
/-- xs[k] = e, xs a list of one's own -/
theorem js_put (i : Nat) {k : Expr} {fk : EF} {p2 p3 : Pos} (he : JE X cm e f) (hk : JE X cm k fk) (hN : X.N[i]? = some x := by rfl) (hv : Vis X.env.scope x := by first | exact Or.inl rfl | exact Or.inr (Or.inl rfl) | exact Or.inr (Or.inr rfl)) (hd : (x == ("__debug__" : Str)) = false := by decide)
    (hcd : (x == ("__classdict__" : Str)) = false := by decide)
    (ha : ∀ v, assign (.Subscript (.Name x p3) k p2) X.env v = (do
      let ov ← holding [v] (eval (.Name x p3) X.env)
      let iv ← holding [v, ov] (eval k X.env)
      standAt p2
      holding [v, ov, iv] (setItem ov iv v)
      release [v, ov, iv] []) := by intro _; rfl)
    (hs : swapsWithSole [.Subscript (.Name x p3) k p2] e pos.line X.env = pure false := by rfl) (hw : swappedStores [.Subscript (.Name x p3) k p2] e X.env = pure none := by rfl) (h1 : (assignEach [.Subscript (.Name x p3) k p2] X.env).map (·.2) = [assign (.Subscript (.Name x p3) k p2) X.env] := by rfl) :
    JS X cm (.Assign [.Subscript (.Name x p3) k p2] e pos) (wPut i fk f) := by
  refine ⟨fun env D' σ H G hww rel D o => to_s (ps_asg pe_w (pg_sub (pe_var hN hv hd hcd) pe_w set_list ha) hs hw h1) ?_⟩
  obtain ⟨ds, r, j, h1, h2, h3, h4, h5, h6, h7⟩ := hww
  refine he.pub h2 rel fun v H1 G1 g1 vr => ?_
  rw [h3] at vr
  obtain ⟨l, ob, k1, k2, k3, k4⟩ := rel.own i _ h1
  cases ob <;> first | exact k4.elim | skip
  rename_i vs
  have k4 : DenL X.K cm G vs ds := k4
  refine ⟨_, k1, hk.run env _ σ H1 G1 h4 (rel.grow g1) _ fun kv H2 G2 g2 kr => ?_⟩
  cases (show Den _ _ _ _ _ from kr)
  have g := g1.trans g2
  refine ⟨l, vs, j, (if 0 ≤ j then j else j + ds.length).toNat, rfl, rfl, g.hx l _ k2, ?_, ?_⟩
  · unfold ixN
    rw [k4.length]
    by_cases h0 : 0 ≤ j
    · rw [if_pos h0, if_pos h6, if_pos h0]
    · rw [if_neg h0, if_pos h5, if_neg h0]
  · obtain ⟨q1, q2⟩ := own_upd (o' := .lst (vs.set (if 0 ≤ j then j else j + ds.length).toNat v)) (od' := .lst (ds.set (if 0 ≤ j then j else j + ds.length).toNat r.dt)) rel g h1 k1 k2 k3 (DenL.set (vr.den.mono g2.gx) _ (k4.mono g.gx))
    exact o.nx _ _ _ _ q1 q2 h7
/-! loops -/
theorem js_for {is : List Nat} {fi : IF} {g : GF} (hp : PassesOwn (model X.prog X.w) X.A X.env X.xe) (hc : X.calm = true) (hi : JI X cm tg iter fi) (hg : JG X cm tg is g) (hb : JSs X cm body wb) (hs : ∀ x, foldedSetIterable iter X.env x = pure x := by intro _; rfl) :
    JS X cm (.For tg iter body [] pos) (wFor fi g wb) := by
  refine ⟨fun env D' σ H G hw rel D o => to_s (ps_for hp hc pi_w pg_w pss_w hs) ?_⟩
  obtain ⟨ds, h1, I, i0, hturn, hend⟩ := hw
  refine hi.run env ds false σ H G h1 rel _ fun J H1 G1 g1 jok => ?_
  refine ⟨fun i m σ' H' => m = ds.length - i ∧ i ≤ ds.length ∧ ∃ G' env', Rel X.K cm σ' H' G' env' ∧ Fr σ env H1 G1 σ' env' H' G' ∧ I i env', ⟨ds.length, rfl, Nat.zero_le _, G1, env, rel.grow g1, .refl g1.sub, i0⟩, ?_⟩
  rintro i m σ' H' ⟨rfl, hi', G', env', rel', fr', inv⟩
  have st : StK H1 G1 false H' G' := ⟨rel'.sub, fr'.gx, fun e => (nomatch e)⟩
  by_cases hlt : i < ds.length
  · refine .inr ⟨jok.go i H' G' st hlt, fun σ2 H2 => ∃ G2 env2, Rel X.K cm σ2 H2 G2 env2 ∧ Fr σ env H1 G1 σ2 env2 H2 G2 ∧ I (i + 1) env2, fun σ2 H2 hw => ⟨ds.length - (i + 1), by omega, rfl, hlt, hw⟩, fun v H2 hy => ?_⟩
    obtain ⟨G2, d, hd, g2, dn⟩ := jok.yl i H' G' v H2 st hlt hy
    obtain ⟨env2, hg2, hb2⟩ := hturn i env' d hd inv
    refine hg.run env' env2 d v σ' H2 G2 hg2 (rel'.grow g2) dn _ fun σ3 rel3 fr3 _ _ => ?_
    have fr13 := (fr'.trans (rel'.fr g2)).trans fr3
    have fr0 := (rel.fr g1).trans fr13
    exact hb.run env2 _ σ3 H2 G2 hb2 rel3 _ ⟨fun σ4 H4 G4 env4 r4 f4 n4 => ⟨G4, env4, r4, fr13.trans f4, n4⟩, (o.later fr0).rt, (o.later fr0).nx, fun σ4 H4 G4 env4 r4 f4 n4 => ⟨G4, env4, r4, fr13.trans f4, n4⟩⟩
  · have e : i = ds.length := by omega
    subst e
    exact .inl ⟨jok.stop _ H' G' st (Nat.le_refl _), o.nx σ' H' G' env' rel' ((rel.fr g1).trans fr') (hend env' inv)⟩
theorem js_while (hp : PassesOwn (model X.prog X.w) X.A X.env X.xe) (hc : JT X cm c t) (hb : JSs X cm body wb) : JS X cm (.While c body [] pos) (wWhile t wb) := by
  refine ⟨fun env D' σ H G hw rel D o => to_s (ps_while hp pt_w pss_w) ?_⟩
  obtain ⟨I, ⟨m0, i0⟩, hturn⟩ := hw
  refine ⟨fun m σ' H' => ∃ G' env', Rel X.K cm σ' H' G' env' ∧ Fr σ env H G σ' env' H' G' ∧ I m env', ⟨m0, G, env, rel, .refl rel.sub, i0⟩, ?_⟩
  rintro m σ' H' ⟨G', env', rel', fr', inv⟩
  obtain ⟨k, h1, h2, h3⟩ := hturn m env' inv
  refine hc.run env' k σ' H' G' h1 rel' _ fun H1 G1 g1 => ?_
  have fr1 := fr'.trans (rel'.fr g1)
  cases k with
  | true =>
    refine iteT ⟨fun σ2 H2 => ∃ m', m' < m ∧ ∃ G2 env2, Rel X.K cm σ2 H2 G2 env2 ∧ Fr σ env H G σ2 env2 H2 G2 ∧ I m' env2, fun σ2 H2 ⟨m', hm, q⟩ => ⟨m', hm, q⟩, ?_⟩
    exact hb.run env' _ σ' H1 G1 (h2 rfl) (rel'.grow g1) _ ⟨fun σ4 H4 G4 env4 r4 f4 ⟨m', hm, n4⟩ => ⟨m', hm, G4, env4, r4, fr1.trans f4, n4⟩, (o.later fr1).rt, (o.later fr1).nx, fun σ4 H4 G4 env4 r4 f4 ⟨m', hm, n4⟩ => ⟨m', hm, G4, env4, r4, fr1.trans f4, n4⟩⟩
  | false => exact iteF (o.nx σ' H1 G1 env' (rel'.grow g1) fr1 (h3 rfl))
end
end Pyl
end
section
set_option Elab.async false
set_option linter.all false
set_option maxRecDepth 100000
set_option maxHeartbeats 4000000
namespace Pyl
open PySem L2
theorem start_get {N : List Str} {vs : List V} {i : Nat} {v : V} (h : vs[i]? = some v) : (start N vs)[i]? = some (some v) := by
  unfold L2.start
  have hl : i < vs.length := (List.getElem?_eq_some_iff.mp h).1
  rw [List.getElem?_append_left (by simpa using hl), List.getElem?_map, h]
  rfl
theorem startE_get {n : Nat} {ds : List Dt} {i : Nat} {s : Slot} (h : (startE n ds)[i]? = some s) : (∃ d, ds[i]? = some d ∧ s = .val d) ∨ s = .non := by
  unfold startE at h
  by_cases hl : i < ds.length
  · rw [List.getElem?_append_left (by simpa using hl), List.getElem?_map, List.getElem?_eq_getElem hl] at h
    cases h
    exact .inl ⟨_, List.getElem?_eq_getElem hl, rfl⟩
  · rw [List.getElem?_append_right (by simpa using hl), List.getElem?_replicate] at h
    split at h
    · cases h
      exact .inr rfl
    · cases h
theorem no_held {H : Hp} {σ : L2.St} {n i : Nat} {ds : List Dt} {a : Addr} (h : Held H σ (startE n ds) i a) : False := by
  rcases h with ⟨od, hi, _⟩ | ⟨dss, l, as, hi, _⟩ <;> rcases startE_get hi with ⟨d', h1, e⟩ | e <;> cases e
theorem rel_start {K : PySem.W.Frag} {cm : Nat → Addr} {N : List Str} {vs : List V} {ds : List Dt} {H G : Hp} (s : Exx G H) (h : DenL K cm G vs ds) : Rel K cm (start N vs) H G (startE N.length ds) where
  len := by
    unfold L2.start startE
    rw [List.length_append, List.length_append, List.length_map, List.length_map, List.length_replicate, List.length_replicate, h.length]
  sub := s
  val := fun i d hi => by
    rcases startE_get hi with ⟨d', h1, e⟩ | e
    · cases e
      obtain ⟨v, h2, h3⟩ := h.get h1
      exact ⟨v, start_get h2, h3⟩
    · cases e
  own := fun i od hi => by
    rcases startE_get hi with ⟨d', h1, e⟩ | e <;> cases e
  mat := fun i dss hi => by
    rcases startE_get hi with ⟨d', h1, e⟩ | e <;> cases e
  dist := fun i j a hi hj => (no_held hi).elim
theorem no_own {H : Hp} {σ : L2.St} {n : Nat} {ds : List Dt} {a : Addr} : ¬ Own H σ (startE n ds) a := fun ⟨i, h⟩ => no_held h
theorem FrH.grow {σ : L2.St} {n : Nat} {ds : List Dt} {H G H' G' : Hp} (f : FrH σ (startE n ds) H G H' G') : Grow H G H' G' := ⟨fun a o h => f.keep a o h no_own, f.gx, fun a o h n => f.hid a o h n no_own, f.sub⟩
section
variable {P : Program} {w : World} {K : PySem.W.Frag} {mg : Str → Option Value} {base : Heap} {cm : Nat → Addr}
/-- the context of a def's body in which nothing is raised -/
abbrev cxN (P : Program) (w : World) (K : PySem.W.Frag) (mg : Str → Option Value) (base : Heap) (N : List Str) (qual : Str) (st : Stmt) (f : Addr) (cdv : Value) (A : Around) (outer : List Env) (s : Shared) (H : Hp) (E : XK) : Cx := (cxOf CX0 P w K mg base N qual (defScope st) f cdv A outer s H E).nox
theorem fn_ok {x qual : Str} {st : Stmt} {f : Addr} {fd : FuncData} {N ps : List Str} {k : Nat} {F : FN} (Fu : Fun K x qual st f fd) (S : FnScope N ps (defScope st)) (hlen : ∀ ds r, F ds = some r → ds.length = ps.length) (wd : WS) (hk : Keeps N.length wd F)
    (hb : ∀ (cdv : Value) (A : Around) (outer : List Env) (s : Shared) (H : Hp) (E : XK), Room k (A.deeper (PyProof.Rows.envOfC qual (defScope st) s.heap.objs.size f cdv)) → JSs (cxN P w K mg base N qual st f cdv A outer s H E) cm (defBody st) wd) :
    FnOk P w K mg base CX0 (k + 1) f fd ps (spP K cm F) := by
  refine Fu.ok S (fun vs H Q E h => ?_) (fun cdv A outer s H vs Q E hr h => ⟨_, pss_w, ?_⟩)
  · obtain ⟨G, ds, r, _, h2, h3, _⟩ := h
    rw [h2.length]
    exact hlen ds r h3
  · obtain ⟨G, ds, r, h1, h2, h3, h4⟩ := h
    refine (hb cdv A outer s H E hr).run (startE N.length ds) _ (start N vs) H G (hk ds r h3) (rel_start h1 h2) _ ⟨fun σ' H' G' env' rel fr e => ?_, fun v H' G' d fr den e => ?_, fun _ _ _ _ _ _ z => z.elim, fun _ _ _ _ _ _ z => z.elim⟩
    · have e : r = .non := e
      subst e
      exact h4 _ H' G' fr.toFrH.grow Den.non
    · have e : d = r := e
      subst e
      exact h4 v H' G' fr.grow den
/-- a def of the text as it stands behind the top -/
theorem fnC_mk {x : Str} {st : Stmt} {f : Addr} {fd : FuncData} {ps : List Str} {k : Nat} {F : FN} (Fu : Fun K x x st f fd) (hm : mg x = some (.ref f)) (hb : Binds K fd ps []) (ok : FnOk P w K mg base CX0 k f fd ps (spP K cm F)) : FnC P w K mg base cm k x F :=
  ⟨f, fd, ps, ok, hm, Fu.kp, hb⟩
theorem blk_by (N : List Str) (sc : Scope) {scope : Scope} {own : List (Str × Nat)} (h : blkC N sc scope own = true) : blkC N sc scope own = true := h
/-- the law: of every script True -/
def lawF (g : List Int → Bool) : FN := fun ds => match ds with
  | [.lst xs] => (intsOf xs).bind fun ns => if ns.length ≤ 63 then some (.bl (g ns)) else none
  | _ => none
theorem intsOf_map : ∀ ns : List Int, intsOf (ns.map Dt.int) = some ns
  | [] => rfl
  | n :: ns => by
    rw [List.map_cons]
    unfold intsOf
    rw [intsOf_map ns]
    rfl
theorem denL_ints {G : Hp} : ∀ ns : List Int, DenL K cm G (ns.map V.int) (ns.map Dt.int)
  | [] => .nil
  | n :: ns => .cons (.int n) (denL_ints ns)
/-- what the promise of the law asks of a script -/
theorem law_sp {F : FN} {H : Hp} {a : Addr} {ns : List Int} (hF : ∀ ns : List Int, ns.length ≤ 63 → F [.lst (ns.map .int)] = some (.bl true)) (hl : ns.length ≤ 63) (hS : SqL K H a (ns.map V.int)) : spP K cm F [.ref a] H (fun v _ => v = .bl true) fun _ _ _ => False :=
  ⟨H, _, _, .refl H, .one (.lst hS (denL_ints ns)), hF ns hl, fun v H' G' _ den => by cases den; rfl⟩
end
end Pyl
end
section
set_option Elab.async false
set_option linter.all false
set_option maxRecDepth 100000
set_option maxHeartbeats 2000000
namespace Pyl
open PySem L2
section
variable {X : Cx} {cm : Nat → Addr} {a b c : Expr} {fa fb fc : EF} {σ : L2.St} {H G : Hp} {env : Sl} {pos p : Pos} {st : Stmt} {x : Str}
theorem js_dead : JS X cm st wDead := ⟨fun env D' σ H G hw rel D o => hw.elim⟩
/-- whatever rule fits -/
def rAny (X : Cx) (f : Value → Value → Sem Value) : R2 := fun x y H Q => ∃ rr : R2, OpR X f rr ∧ rr x y H Q
theorem op_any {f : Value → Value → Sem Value} : OpR X f (rAny X f) := by
  intro pins s σ H x y v u Q I rx ry q
  obtain ⟨rr, ho, hr⟩ := q
  exact ho pins s σ H x y v u Q I rx ry hr
theorem p2_any {f : Value → Value → Sem Value} {pf : Dt → Dt → Option R} (ok : P2 X cm f pf) {d1 d2 : Dt} {b1 b2 : Bool} {out : R} {v1 v2 : V} (r1 : VR X.K cm H G v1 d1 b1) (r2 : VR X.K cm H G v2 d2 b2) (s : Exx G H) (e : pf d1 d2 = some out) {Q : VK}
    (q : ∀ v H' G', Grow H G H' G' → RR X.K cm H H' G' v out → Q v H') : rAny X f v1 v2 H Q := by
  obtain ⟨rr, ho, hr⟩ := ok _ _ _ _ _ _ _ H G r1 r2 s e
  exact ⟨rr, ho, hr Q q⟩
theorem chain_ok {f f' : Value → Value → Sem Value} {pf qf : Dt → Dt → Option R} (ok : P2 X cm f pf) (ok' : P2 X cm f' qf) (ha : JE X cm a fa) (hb : JE X cm b fb) (hc : JE X cm c fc) {r : R} (hf : eChain pf qf fa fb fc env = some r) (rel : Rel X.K cm σ H G env) {Q : VK}
    (q : ∀ v H' G', Grow H G H' G' → RR X.K cm H H' G' v r → Q v H') : tChain (rAny X f) (rAny X f') (wpE X a) (wpE X b) (wpE X c) σ H Q := by
  obtain ⟨ra, h1, hf⟩ := Option.bind_eq_some_iff.mp hf
  obtain ⟨rb, h2, hf⟩ := Option.bind_eq_some_iff.mp hf
  refine ha.pub h1 rel fun v H1 G1 g1 vr => hb.pub h2 (rel.grow g1) fun w H2 G2 g2 wr => ?_
  have g12 := g1.trans g2
  split at hf
  · rename_i e
    obtain ⟨rc, h3, hf⟩ := Option.bind_eq_some_iff.mp hf
    refine p2_any ok (vr.grow g2) wr g2.sub e fun z H3 G3 g3 zr => ?_
    cases (show Den _ _ _ _ _ from zr)
    refine ⟨true, rfl, ?_⟩
    rw [if_pos rfl]
    refine hc.pub h3 (rel.grow (g12.trans g3)) fun u H4 G4 g4 ur => ?_
    have g14 := (g12.trans g3).trans g4
    exact p2_any ok' (wr.grow (g3.trans g4)) ur g4.sub hf fun z' H5 G5 g5 zr' => q z' H5 G5 (g14.trans g5) (zr'.hx g14.hx)
  · rename_i e
    cases hf
    refine p2_any ok (vr.grow g2) wr g2.sub e fun z H3 G3 g3 zr => ?_
    cases (show Den _ _ _ _ _ from zr)
    refine ⟨false, rfl, ?_⟩
    rw [if_neg Bool.false_ne_true]
    exact q _ H3 G3 (g12.trans g3) (Den.bl _)
  · cases hf
theorem je_chain {op op' : CmpOp} {pf qf : Dt → Dt → Option R} (ok : P2 X cm (compareOp op) pf) (ok' : P2 X cm (compareOp op') qf) (ha : JE X cm a fa) (hb : JE X cm b fb) (hc : JE X cm c fc)
    (hm : lastMarks [op, op'] [b, c] = false := by with_unfolding_all rfl) : JE X cm (.Compare a [op, op'] [b, c] pos) (eChain pf qf fa fb fc) :=
  ⟨fun env r σ H G hf rel Q q => to_e (pe_chain op_any op_any pe_w pe_w pe_w hm) (chain_ok ok ok' ha hb hc hf rel q)⟩
theorem jt_chain {op op' : CmpOp} {pf qf : Dt → Dt → Option R} (ok : P2 X cm (compareOp op) pf) (ok' : P2 X cm (compareOp op') qf) (ha : JE X cm a fa) (hb : JE X cm b fb) (hc : JE X cm c fc)
    (hm : lastMarks [op, op'] [b, c] = false := by with_unfolding_all rfl) : JT X cm (.Compare a [op, op'] [b, c] pos) (tVal (eChain pf qf fa fb fc)) := by
  refine ⟨fun env r σ H G hf rel Q q pins s I => ?_⟩
  unfold tVal at hf
  split at hf
  · rename_i b' h1
    cases hf
    refine (pt_chain op_any op_any pe_w pe_w pe_w hm).run pins s σ H _ I (chain_ok ok ok' ha hb hc h1 rel fun v H' G' g vr => ?_)
    cases (show Den _ _ _ _ _ from vr)
    exact ⟨_, rfl, q H' G' g⟩
  · cases hf
/-! math.gcd, math.comb -/
theorem je_f2 {id : String} {pf : Dt → Dt → Option R} (ok : P2c X cm (.builtin id) pf) (hg : Gl X x) (hm : X.mg x = some (.builtin id)) (ha : JE X cm a fa) (hb : JE X cm b fb) (hdb : (x == ("__debug__" : Str)) = false := by decide)
    (h0 : starEach [b] X.env = (false, eval b X.env) :: starEach [] X.env := by rfl) (he : starEach [a, b] X.env = (false, eval a X.env) :: starEach [b] X.env := by rfl) (hpl : (backTo pos (starEach [b] X.env)).any (·.1) = false := by rfl) : JE X cm (.Call (.Name x p) [a, b] [] pos) (e2 pf fa fb) := by
  refine ⟨fun env r σ H G hf rel Q q => ?_⟩
  obtain ⟨ra, h1, hf⟩ := Option.bind_eq_some_iff.mp hf
  obtain ⟨rb, h2, hf⟩ := Option.bind_eq_some_iff.mp hf
  obtain ⟨rr, hc, hr⟩ := ok
  refine to_e (pe_callBfun hc hg hm (pa_cons pe_w (pa_cons pe_w pa_nil h0) he) hdb he hpl) (ha.pub h1 rel fun v H1 G1 g1 vr => hb.pub h2 (rel.grow g1) fun w H2 G2 g2 wr => ?_)
  exact hr _ _ _ _ _ v w H2 G2 (vr.grow g2) wr g2.sub hf Q fun v' H3 G3 g3 rr3 => q v' H3 G3 ((g1.trans g2).trans g3) (rr3.hx (g1.trans g2).hx)
theorem p2c_gcd : P2c X cm (.builtin "math.gcd") pGcd := ⟨_, cr_gcd, fun d d2 b b2 out v v2 H G vr vr2 sub hp Q q => by
  unfold pGcd at hp
  split at hp
  · cases hp
    have e := vr.int
    have e2 := vr2.int
    subst e e2
    exact ⟨_, _, rfl, q _ _ _ (.refl sub) (Den.int _)⟩
  · cases hp⟩
theorem fp_up (n : Int) : ∀ k : Nat, Builtin.Math.fallingProduct (n + 1) (k + 1) = (n + 1) * Builtin.Math.fallingProduct n k
  | 0 => by rw [PySem.W.mc_fp_one, PySem.W.mc_fp_zero, Int.mul_one]
  | k + 1 => by
    rw [PySem.W.mc_fp_succ (n + 1) (k + 1), fp_up n k, PySem.W.mc_fp_succ n k, Int.mul_assoc]
    congr 2
    omega
theorem fp_choose : ∀ n k : Nat, Builtin.Math.fallingProduct n k = chooseN n k * Builtin.Math.fallingProduct k k
  | n, 0 => by unfold chooseN; rfl
  | 0, k + 1 => by
    unfold chooseN
    rw [PySem.W.mc_fp_succ]
    have h : ∀ j : Nat, Builtin.Math.fallingProduct ((0 : Nat) : Int) (j + 1) = 0 := fun j => by
      induction j with
      | zero => rfl
      | succ j ih => rw [PySem.W.mc_fp_succ, ih, Int.zero_mul]
    rw [← PySem.W.mc_fp_succ, h k]
    exact (Int.zero_mul _).symm
  | n + 1, k + 1 => by
    have h1 := fp_choose n k
    have h2 := fp_choose n (k + 1)
    rw [PySem.W.mc_fp_succ] at h2
    have e1 : Builtin.Math.fallingProduct (((n + 1 : Nat)) : Int) (k + 1) = ((n : Int) + 1) * Builtin.Math.fallingProduct n k := fp_up n k
    have e2 : Builtin.Math.fallingProduct (((k + 1 : Nat)) : Int) (k + 1) = ((k : Int) + 1) * Builtin.Math.fallingProduct k k := fp_up k k
    rw [e1]
    show _ = ((chooseN n k + chooseN n (k + 1) : Nat) : Int) * _
    generalize Builtin.Math.fallingProduct (((k + 1 : Nat)) : Int) (k + 1) = z at *
    generalize Builtin.Math.fallingProduct (n : Int) k = y at *
    have e3 : (chooseN n k : Int) * z = ((k : Int) + 1) * y := by
      rw [h1, e2, Int.mul_left_comm]
    rw [Int.natCast_add, Int.add_mul (chooseN n k : Int), ← h2, e3, Int.mul_comm y, ← Int.add_mul]
    congr 1
    omega
theorem choose_zero (n : Nat) : chooseN n 0 = 1 := by unfold chooseN; rfl
theorem choose_above : ∀ {n k : Nat}, n < k → chooseN n k = 0
  | 0, k + 1, _ => by unfold chooseN; rfl
  | n + 1, k + 1, h => by
    unfold chooseN
    rw [choose_above (n := n) (k := k) (by omega), choose_above (n := n) (k := k + 1) (by omega)]
theorem choose_self : ∀ n : Nat, chooseN n n = 1
  | 0 => by unfold chooseN; rfl
  | n + 1 => by
    unfold chooseN
    rw [choose_self n, choose_above (Nat.lt_succ_self n)]
theorem choose_symm : ∀ n a b : Nat, a + b = n → chooseN n a = chooseN n b
  | n, 0, b, h => by
    rw [Nat.zero_add] at h
    subst h
    rw [choose_zero, choose_self]
  | n, a + 1, 0, h => by
    rw [Nat.add_zero] at h
    subst h
    rw [choose_zero, choose_self]
  | n + 1, a + 1, b + 1, h => by
    show chooseN n a + chooseN n (a + 1) = chooseN n b + chooseN n (b + 1)
    rw [choose_symm n a (b + 1) (by omega), choose_symm n (a + 1) b (by omega)]
    omega
theorem comb_choose (n k : Nat) : PySem.W.mcComb n k = chooseN n k := by
  by_cases h : k ≤ n
  · have hd : ∀ m : Nat, m ≤ n → Builtin.Math.fallingProduct n m / Builtin.Math.fallingProduct m m = chooseN n m := fun m hm => by
      have hp := PySem.W.mc_fp_pos (n := m) m (Int.le_refl _)
      rw [fp_choose n m]
      exact Int.mul_ediv_cancel _ (by omega)
    rcases Nat.le_total k (n - k) with h2 | h2
    · rw [PySem.W.mcComb_at (m := k) (by omega) (by omega) (by omega), Int.toNat_natCast]
      exact hd k h
    · rw [PySem.W.mcComb_at (m := ((n - k : Nat) : Int)) (by omega) (by omega) (by omega), Int.toNat_natCast, hd (n - k) (Nat.sub_le _ _), choose_symm n (n - k) k (by omega)]
  · rw [PySem.W.mcComb_above (by omega), choose_above (by omega)]
    rfl
def rComb : List V → Hp → VK → Prop := fun vs H Q => ∃ a b : Int, vs = [.int a, .int b] ∧ (0 ≤ a ∧ a ≤ 9000 ∧ 0 ≤ b) ∧ Q (.int (chooseN a.toNat b.toNat : Nat)) H
theorem cr_comb : CallR X (.builtin "math.comb") rComb := by
  intro pins s σ H vs us Q I r h
  obtain ⟨a, b, rfl, ⟨h1, h2, h3⟩, q⟩ := h
  obtain ⟨t, u, rfl⟩ := Vals.int2 r
  obtain ⟨a, rfl⟩ : ∃ z : Nat, a = z := ⟨a.toNat, by omega⟩
  obtain ⟨b, rfl⟩ : ∃ z : Nat, b = z := ⟨b.toNat, by omega⟩
  rw [Int.toNat_natCast, Int.toNat_natCast, ← comb_choose] at q
  exact PySem.W.mc_comb h1 h3 (by omega) (Or.inr (by omega)) fun _ => ⟨.int _, H, I.tok _, ⟨_, rfl⟩, q⟩
theorem p2c_comb : P2c X cm (.builtin "math.comb") pComb := ⟨_, cr_comb, fun d d2 b b2 out v v2 H G vr vr2 sub hp Q q => by
  unfold pComb at hp
  split at hp
  · split at hp
    · rename_i hk
      cases hp
      have e := vr.int
      have e2 := vr2.int
      subst e e2
      exact ⟨_, _, rfl, hk, q _ _ _ (.refl sub) (Den.int _)⟩
    · cases hp
  · cases hp⟩
theorem je_gcd (hg : Gl X "gcd") (hm : X.mg "gcd" = some (.builtin "math.gcd")) (ha : JE X cm a fa) (hb : JE X cm b fb)
    (h0 : starEach [b] X.env = (false, eval b X.env) :: starEach [] X.env := by rfl) (he : starEach [a, b] X.env = (false, eval a X.env) :: starEach [b] X.env := by rfl) (hpl : (backTo pos (starEach [b] X.env)).any (·.1) = false := by rfl) : JE X cm (.Call (.Name "gcd" p) [a, b] [] pos) (e2 pGcd fa fb) := je_f2 p2c_gcd hg hm ha hb (by decide) h0 he hpl
theorem je_comb (hg : Gl X "comb") (hm : X.mg "comb" = some (.builtin "math.comb")) (ha : JE X cm a fa) (hb : JE X cm b fb)
    (h0 : starEach [b] X.env = (false, eval b X.env) :: starEach [] X.env := by rfl) (he : starEach [a, b] X.env = (false, eval a X.env) :: starEach [b] X.env := by rfl) (hpl : (backTo pos (starEach [b] X.env)).any (·.1) = false := by rfl) : JE X cm (.Call (.Name "comb" p) [a, b] [] pos) (e2 pComb fa fb) := je_f2 p2c_comb hg hm ha hb (by decide) h0 he hpl
/-! a global name of an int -/
theorem je_gint {i : Int} {k : Tok} (hg : Gl X x) (hm : X.mg x = some (.int i k)) (hd : (x == ("__debug__" : Str)) = false := by decide) : JE X cm (.Name x p) (eC (.int i)) := ⟨fun env r σ H G hf rel Q q => by
  cases hf
  exact to_e (pe_glob hg hm (v := .int i) ⟨_, rfl⟩ hd) (q _ H G (.refl rel.sub) (Den.int i))⟩
/-! range with a step -/
theorem stepD_length (a c : Int) (n : Nat) : (stepD a c n).length = n := by
  unfold stepD
  rw [List.length_map, List.length_range]
theorem itc_ok {K : PySem.W.Frag} {lo c : Int} {n : Nat} {t : Bool} {H0 G0 : Hp} : ItOk K cm (Itc lo c n) (stepD lo c n) t H0 G0 where
  go := fun i H G s hi => by
    rw [stepD_length] at hi
    exact hi
  yl := fun i H G v H' s hi y => by
    obtain ⟨rfl, rfl⟩ := y
    rw [stepD_length] at hi
    refine ⟨G, .int (lo + (i : Int) * c), ?_, .refl s.sub, .int _⟩
    unfold stepD
    rw [List.getElem?_map, List.getElem?_range hi]
    rfl
  stop := fun i H G s hi => by
    rw [stepD_length] at hi
    exact hi
theorem rgc_of {i j k : Int} (hk : (0 < k ∧ k < 1073741824) ∨ k = -1) (hi : -1099511627776 ≤ i ∧ i ≤ 1099511627776) (hj : -1099511627776 ≤ j ∧ j ≤ 1099511627776) : RgC i j k (stepN i j k) := by
  rcases hk with ⟨h0, h1⟩ | rfl
  · have hs : Builtin.Range.rangeSize i j k = (stepN i j k : Nat) ∧ (stepN i j k : Int) ≤ 2199023255552 := by
      unfold Builtin.Range.rangeSize stepN
      rw [if_pos h0, if_pos h0]
      split
      · have h2 : (j - i - 1) / k ≤ j - i - 1 := Int.ediv_le_self _ (by omega)
        have h3 : 0 ≤ (j - i - 1) / k := Int.ediv_nonneg (by omega) (by omega)
        omega
      · omega
    refine ⟨by omega, by omega, ?_, hs.1⟩
    unfold Builtin.Range.small
    rw [hs.1]
    generalize stepN i j k = n at *
    have h4 : k > 0 := h0
    rw [if_pos h4]
    simp only [Builtin.Range.rangeFitsLong, Bool.and_eq_true, Bool.or_eq_true, decide_eq_true_eq, beq_iff_eq]
    omega
  · have e : stepN i j (-1) = (i - j).toNat := by
      unfold stepN
      rw [if_neg (by decide)]
    rw [e]
    exact RgC.neg (by omega) (by omega) (by omega) (by omega)
theorem ji_range3 {tg : Expr} (hg : Gl X "range") (hm : X.mg "range" = none) (ha : JE X cm a fa) (hb : JE X cm b fb) (hc : JE X cm c fc) (hs : starEach [a, b, c] X.env = (false, eval a X.env) :: starEach [b, c] X.env := by rfl) (hpl : (backTo pos (starEach [b, c] X.env)).any (·.1) = false := by rfl)
    (he2 : starEach [b, c] X.env = (false, eval b X.env) :: starEach [c] X.env := by rfl) (he3 : starEach [c] X.env = (false, eval c X.env) :: starEach [] X.env := by rfl) : JI X cm tg (.Call (.Name "range" p) [a, b, c] [] pos) (iRange3 fa fb fc) := by
  refine ⟨fun env ds t σ H G hf rel Q q => ?_⟩
  obtain ⟨ra, h1, hf⟩ := Option.bind_eq_some_iff.mp hf
  obtain ⟨rb, h2, hf⟩ := Option.bind_eq_some_iff.mp hf
  obtain ⟨rc, h3, hf⟩ := Option.bind_eq_some_iff.mp hf
  split at hf
  · rename_i i j k e1 e2 e3
    split at hf
    · rename_i hn
      cases hf
      refine to_i (pi_range3 hg hm (pa_cons pe_w (pa_cons pe_w (pa_cons pe_w pa_nil he3) he2) hs) hs hpl) (ha.pub h1 rel fun v H1 G1 g1 vr => hb.pub h2 (rel.grow g1) fun w H2 G2 g2 wr => hc.pub h3 (rel.grow (g1.trans g2)) fun u H3 G3 g3 ur => ?_)
      rw [e1] at vr
      rw [e2] at wr
      rw [e3] at ur
      have ev := vr.int
      have ew := wr.int
      have eu := ur.int
      subst ev ew eu
      exact ⟨i, j, k, _, rfl, rgc_of hn.1 hn.2.1 hn.2.2, q _ H3 G3 ((g1.trans g2).trans g3) itc_ok⟩
    · cases hf
  · cases hf
/-! max, min of a list of ints -/
theorem foldmax (ns : List Int) : ∀ n : Int, (ns.foldl (fun m x => if x > m then x else m) n) ∈ n :: ns ∧ ∀ y ∈ n :: ns, y ≤ ns.foldl (fun m x => if x > m then x else m) n := by
  induction ns with
  | nil => exact fun n => ⟨List.mem_cons_self, fun y hy => by rw [List.mem_singleton.mp hy]; exact Int.le_refl _⟩
  | cons a ns ih =>
    intro n
    obtain ⟨h1, h2⟩ := ih (if a > n then a else n)
    rw [List.foldl_cons]
    refine ⟨?_, fun y hy => ?_⟩
    · rcases List.mem_cons.mp h1 with e | e
      · rw [e]
        split
        · exact List.mem_cons_of_mem _ List.mem_cons_self
        · exact List.mem_cons_self
      · exact List.mem_cons_of_mem _ (List.mem_cons_of_mem _ e)
    · have h0 := h2 _ List.mem_cons_self
      rcases List.mem_cons.mp hy with e | e
      · subst e
        exact Int.le_trans (show y ≤ if a > y then a else y by split <;> omega) h0
      · rcases List.mem_cons.mp e with e | e
        · subst e
          exact Int.le_trans (show y ≤ if y > n then y else n by split <;> omega) h0
        · exact h2 y (List.mem_cons_of_mem _ e)
theorem foldmin (ns : List Int) : ∀ n : Int, (ns.foldl (fun m x => if x < m then x else m) n) ∈ n :: ns ∧ ∀ y ∈ n :: ns, ns.foldl (fun m x => if x < m then x else m) n ≤ y := by
  induction ns with
  | nil => exact fun n => ⟨List.mem_cons_self, fun y hy => by rw [List.mem_singleton.mp hy]; exact Int.le_refl _⟩
  | cons a ns ih =>
    intro n
    obtain ⟨h1, h2⟩ := ih (if a < n then a else n)
    rw [List.foldl_cons]
    refine ⟨?_, fun y hy => ?_⟩
    · rcases List.mem_cons.mp h1 with e | e
      · rw [e]
        split
        · exact List.mem_cons_of_mem _ List.mem_cons_self
        · exact List.mem_cons_self
      · exact List.mem_cons_of_mem _ (List.mem_cons_of_mem _ e)
    · have h0 := h2 _ List.mem_cons_self
      rcases List.mem_cons.mp hy with e | e
      · subst e
        exact Int.le_trans h0 (show (if a < y then a else y) ≤ y by split <;> omega)
      · rcases List.mem_cons.mp e with e | e
        · subst e
          exact Int.le_trans h0 (show (if y < n then y else n) ≤ y by split <;> omega)
        · exact h2 y (List.mem_cons_of_mem _ e)
theorem VR.lstI {v : V} {b : Bool} {ds : List Dt} {ns : List Int} (sub : Exx G H) (vr : VR X.K cm H G v (.lst ds) b) (e : intsOf ds = some ns) : ∃ l, v = .ref l ∧ SqL X.K H l (ns.map V.int) := by
  cases b with
  | true =>
    obtain ⟨l, vs, ds', h1, h2, h3, h4⟩ := vr.1 rfl
    cases h2
    rw [DenL.ints h4 e] at h3
    exact ⟨l, h1, h3⟩
  | false =>
    cases vr.2 rfl with
    | lst h3 h4 =>
      rw [DenL.ints h4 e] at h3
      exact ⟨_, rfl, sub.sqL h3⟩
theorem p1_max (hc : X.calm = true) : P1 X cm (.builtin "max") pMaxL := ⟨_, cr_max hc, fun d b out v H G vr sub hp Q q => by
  unfold pMaxL at hp
  split at hp
  · rename_i ds
    obtain ⟨ns, e, hp⟩ := Option.bind_eq_some_iff.mp hp
    split at hp
    · cases hp
    · rename_i n ns
      cases hp
      obtain ⟨l, rfl, h⟩ := vr.lstI sub e
      obtain ⟨f1, f2⟩ := foldmax ns n
      refine ⟨l, n :: ns, rfl, h, by simp, fun m h1 h2 => ?_⟩
      have em : m = ns.foldl (fun m x => if x > m then x else m) n := Int.le_antisymm (f2 m h1) (h2 _ f1)
      rw [em]
      exact q _ _ _ (.refl sub) (Den.int _)
  · cases hp⟩
theorem p1_min (hc : X.calm = true) : P1 X cm (.builtin "min") pMinL := ⟨_, cr_min hc, fun d b out v H G vr sub hp Q q => by
  unfold pMinL at hp
  split at hp
  · rename_i ds
    obtain ⟨ns, e, hp⟩ := Option.bind_eq_some_iff.mp hp
    split at hp
    · cases hp
    · rename_i n ns
      cases hp
      obtain ⟨l, rfl, h⟩ := vr.lstI sub e
      obtain ⟨f1, f2⟩ := foldmin ns n
      refine ⟨l, n :: ns, rfl, h, by simp, fun m h1 h2 => ?_⟩
      have em : m = ns.foldl (fun m x => if x < m then x else m) n := Int.le_antisymm (h2 _ f1) (f2 m h1)
      rw [em]
      exact q _ _ _ (.refl sub) (Den.int _)
  · cases hp⟩
/-! an int among ints -/
theorem inV_ints (i : Int) (ns : List Int) : inV (.int i) (ns.map V.int) = decide (i ∈ ns) := by
  unfold inV
  rw [List.any_map]
  rw [Bool.eq_iff_iff, List.any_eq_true, decide_eq_true_iff]
  constructor
  · rintro ⟨y, hy, e⟩
    have e2 : y = i := by simpa [eqV] using e
    rw [← e2]
    exact hy
  · intro h
    exact ⟨i, h, by simp [eqV]⟩
theorem flat_ints (ns : List Int) : (ns.map V.int).all flatV = true := by
  rw [List.all_eq_true]
  intro x hx
  obtain ⟨n, _, rfl⟩ := List.mem_map.mp hx
  rfl
theorem in_some {d1 d2 : Dt} {t b1 b2 : Bool} {v1 v2 : V} (h : inInts d1 d2 = some t) (r1 : VR X.K cm H G v1 d1 b1) (r2 : VR X.K cm H G v2 d2 b2) (sub : Exx G H) :
    ∃ (i : Int) (ns : List Int) (p : Addr), v1 = .int i ∧ v2 = .ref p ∧ (SqL X.K H p (ns.map V.int) ∨ SqT X.K H p (ns.map V.int)) ∧ t = decide (i ∈ ns) := by
  unfold inInts at h
  split at h
  · obtain ⟨ns, e, rfl⟩ := Option.map_eq_some_iff.mp h
    obtain ⟨l, rfl, hq⟩ := r2.lstI sub e
    exact ⟨_, ns, l, r1.int, rfl, Or.inl hq, rfl⟩
  · obtain ⟨ns, e, rfl⟩ := Option.map_eq_some_iff.mp h
    obtain ⟨l, vs, rfl, s1, t1, n1⟩ := r2.tup sub
    rw [DenL.ints n1 e] at s1
    exact ⟨_, ns, l, r1.int, rfl, Or.inr s1, rfl⟩
  · cases h
theorem p2_in : P2 X cm (compareOp .In) pIn := by
  intro d1 d2 b1 b2 out v1 v2 H G r1 r2 sub hp
  unfold pIn at hp
  obtain ⟨t, h1, rfl⟩ := Option.map_eq_some_iff.mp hp
  obtain ⟨i, ns, p, rfl, rfl, hq, rfl⟩ := in_some h1 r1 r2 sub
  refine ⟨_, op_in_seq, fun Q q => ⟨p, _, rfl, hq, rfl, flat_ints ns, ?_⟩⟩
  rw [inV_ints]
  exact q _ _ _ (.refl sub) (Den.bl _)
theorem p2_notin : P2 X cm (compareOp .NotIn) pNotIn := by
  intro d1 d2 b1 b2 out v1 v2 H G r1 r2 sub hp
  unfold pNotIn at hp
  obtain ⟨t, h1, rfl⟩ := Option.map_eq_some_iff.mp hp
  obtain ⟨i, ns, p, rfl, rfl, hq, rfl⟩ := in_some h1 r1 r2 sub
  refine ⟨_, op_notIn_seq, fun Q q => ⟨p, _, rfl, hq, rfl, flat_ints ns, ?_⟩⟩
  rw [inV_ints]
  exact q _ _ _ (.refl sub) (Den.bl _)
/-! bits of ints that are not below 0 -/
theorem and_nn {x y : Int} (hx : 0 ≤ x) (hy : 0 ≤ y) : Builtin.bitAnd x y = ((x.toNat &&& y.toNat : Nat) : Int) := by
  unfold Builtin.bitAnd
  rw [decide_eq_true hx, decide_eq_true hy]
theorem p2_xor : P2 X cm (binaryOp .BitXor) pXor := p2_int0 op_xor fun i j k h => by
  split at h
  · rename_i hk
    cases h
    rw [Bits.bitXor_pp hk.1 hk.2]
  · cases h
theorem p2_and : P2 X cm (binaryOp .BitAnd) pAnd := p2_int0 op_and fun i j k h => by
  split at h
  · rename_i hk
    cases h
    rw [and_nn hk.1 hk.2]
  · cases h
theorem p2_or : P2 X cm (binaryOp .BitOr) pOr := p2_int0 op_or fun i j k h => by
  split at h
  · rename_i hk
    cases h
    rw [bitOr_nn hk.1 hk.2]
  · cases h
end
end Pyl
end
section
set_option Elab.async false
set_option linter.all false
set_option maxRecDepth 100000
set_option maxHeartbeats 2000000
namespace Pyl
open PySem L2
/-! ### only looked at -/
section
variable {X : Cx} {cm : Nat → Addr} {e a b c tg iter : Expr} {f fa fb fc fe fk : EF} {σ : L2.St} {H G : Hp} {env : Sl} {pos p : Pos} {x : Str} {m : MF} {es : List Expr}
theorem frzAll_get {env : Sl} {i : Nat} {s : Slot} (h : (frzAll env)[i]? = some s) : ∃ s', env[i]? = some s' ∧ s = s'.frz := by
  unfold frzAll at h
  rw [List.getElem?_map] at h
  obtain ⟨s', h1, h2⟩ := Option.map_eq_some_iff.mp h
  exact ⟨s', h1, h2.symm⟩
theorem Rel.look {K : PySem.W.Frag} (r : Rel K cm σ H G env) : Rel K cm σ H H (frzAll env) where
  len := by unfold frzAll; rw [List.length_map, r.len]
  sub := .refl _
  val := fun i d hi => by
    obtain ⟨s, h1, h2⟩ := frzAll_get hi
    cases s with
    | val d' =>
      cases h2
      obtain ⟨v, k1, k2⟩ := r.val i d h1
      exact ⟨v, k1, k2.mono r.sub⟩
    | own od =>
      cases h2
      obtain ⟨l, o, k1, k2, k3, k4⟩ := r.own i od h1
      cases o <;> cases od <;> first | exact k4.elim | skip
      exact ⟨_, k1, .lst (SqL.of k2) (DenL.mono r.sub k4)⟩
    | mat dss =>
      cases h2
      obtain ⟨l, as, k1, k2⟩ := r.mat i dss h1
      refine ⟨_, k1, .lst (SqL.of k2.at_) (den_rows k2.len fun k a ds e1 e2 => ?_)⟩
      obtain ⟨vs, q1, q2, q3⟩ := k2.row k a ds e1 e2
      exact ⟨vs, q1, q3.mono r.sub⟩
    | non => cases h2
    | take => cases h2
  own := fun i od hi => by
    obtain ⟨s, h1, h2⟩ := frzAll_get hi
    cases s <;> cases h2
  mat := fun i dss hi => by
    obtain ⟨s, h1, h2⟩ := frzAll_get hi
    cases s <;> cases h2
  dist := fun i j a hi hj => by
    rcases hi with ⟨od, hi, _⟩ | ⟨dss, l, as, hi, _⟩ <;> obtain ⟨s, h1, h2⟩ := frzAll_get hi <;> cases s <;> cases h2
theorem scalars_den {K : PySem.W.Frag} {G G' : Hp} : ∀ {vs : List V} {ds : List Dt}, DenL K cm G vs ds → ds.all Dt.scalar = true → DenL K cm G' vs ds
  | _, _, .nil, _ => .nil
  | _, _, .cons h t, s => by
    rw [List.all_cons, Bool.and_eq_true] at s
    exact .cons (Dt.scalar_den h s.1) (scalars_den t s.2)
theorem look_grow {H G H' G' : Hp} (s : Exx G H) (g : Grow H H H' G') : Grow H G H' G := ⟨g.hx, .refl _, fun _ _ _ n => n, s.trans g.hx⟩
theorem je_look (h : JE X cm e f) : JE X cm e (eLook f) := by
  refine ⟨fun env r σ H G hf rel Q q => ?_⟩
  unfold eLook at hf
  split at hf
  · rename_i d h1
    split at hf
    case isFalse => cases hf
    rename_i sc
    cases hf
    exact h.run _ _ σ H H h1 rel.look Q fun v H' G' g rr => q v H' G (look_grow rel.sub g) (Dt.scalar_den rr sc)
  · rename_i ds h1
    split at hf
    case isFalse => cases hf
    rename_i sc
    cases hf
    refine h.run _ _ σ H H h1 rel.look Q fun v H' G' g rr => q v H' G (look_grow rel.sub g) ?_
    obtain ⟨l, o, e1, e2, e3, e4, e5⟩ := rr
    cases o <;> first | exact e5.elim | skip
    exact ⟨l, _, e1, e2, e3, rel.sub.back e2, scalars_den e5 sc⟩
  · cases hf
theorem jt_look {t : TF} (h : JT X cm e t) : JT X cm e (tLook t) :=
  ⟨fun env b σ H G hf rel Q q => h.run _ _ σ H H hf rel.look Q fun H' G' g => q H' G (look_grow rel.sub g)⟩

/-! ### lists of lists of one's own -/
structure JM (X : Cx) (cm : Nat → Addr) (e : Expr) (m : MF) : Prop where
  run : ∀ (env : Sl) (dss : List (List Dt)) (σ : L2.St) (H G : Hp), m env = some dss → Rel X.K cm σ H G env → ∀ Q : VK, (∀ l as H' G', Grow H G H' G' → (∀ a ∈ l :: as, H a = none) → MatR X.K cm H' G' l as dss → Q (.ref l) H') → wpE X e σ H Q
theorem js_asgM (i : Nat) {pos' : Pos} (hN : X.N.Nodup) (he : JM X cm e m) (hi : X.N[i]? = some x := by rfl) (hx : Loc X.env.scope x := by first | exact Or.inl rfl | exact Or.inr rfl) (hs : swapsWith e (some (.Name x pos')) pos.line X.env = pure false := by rfl)
    (hf : X.fn x = true ∨ X.env.scope.names.lookup x = some .local := by first | exact .inl rfl | exact .inr rfl | assumption) : JS X cm (.Assign [.Name x pos'] e pos) (wAsgM i m) := by
  refine ⟨fun env D' σ H G hw rel D o => to_s (ps_set hN hi hx pe_w hs hf) ?_⟩
  obtain ⟨dss, h1, h2⟩ := hw
  refine he.run env dss σ H G h1 rel _ fun l as H1 G1 g1 new mr => ?_
  obtain ⟨q1, q2⟩ := asg_mat (i := i) rel g1 new mr
  exact o.nx _ _ _ _ q1 q2 h2
/-- rows side by side -/
structure RowsR (K : PySem.W.Frag) (cm : Nat → Addr) (H G : Hp) (as : List Addr) (dss : List (List Dt)) : Prop where
  nd : as.Nodup
  len : as.length = dss.length
  row : ∀ (k : Nat) (a : Addr) (ds : List Dt), as[k]? = some a → dss[k]? = some ds → ∃ vs, H a = some (.lst vs) ∧ G a = none ∧ DenL K cm G vs ds
structure JMs (X : Cx) (cm : Nat → Addr) (es : List Expr) (m : MF) : Prop where
  run : ∀ (env : Sl) (dss : List (List Dt)) (σ : L2.St) (H G : Hp), m env = some dss → Rel X.K cm σ H G env → ∀ Q : List V → Hp → Prop, (∀ as H' G', Grow H G H' G' → (∀ a ∈ as, H a = none) → RowsR X.K cm H' G' as dss → Q (as.map V.ref) H') → wpA X es σ H Q
  len : ∀ (env : Sl) (dss : List (List Dt)), m env = some dss → dss.length = es.length
theorem jms_nil : JMs X cm [] mNil := ⟨fun env dss σ H G hf rel Q q => by
  cases hf
  exact to_a pa_nil (q [] H G (.refl rel.sub) (fun a h => by cases h) ⟨.nil, rfl, fun k a ds h => by simp at h⟩), fun env dss h => by cases h; rfl⟩
theorem freL_some {r : Option R} {ds : List Dt} (h : freL r = some ds) : r = some (.fre (.lst ds)) := by
  unfold freL at h
  split at h
  · cases h; rfl
  · cases h
theorem jms_cons (ha : JE X cm e fe) (hr : JMs X cm es m) (hs : starEach (e :: es) X.env = (false, eval e X.env) :: starEach es X.env := by rfl) : JMs X cm (e :: es) (mCons fe m) := by
  refine ⟨fun env dss σ H G hf rel Q q => ?_, fun env dss hf => ?_⟩
  · obtain ⟨ds, h1, hf⟩ := Option.bind_eq_some_iff.mp hf
    obtain ⟨rs, h2, hf⟩ := Option.bind_eq_some_iff.mp hf
    cases hf
    refine to_a (pa_cons pe_w pa_w hs) ?_
    refine ha.run env _ σ H G (freL_some h1) rel _ fun v H1 G1 g1 rr => ?_
    obtain ⟨l, o, rfl, e2, e3, e4, e5⟩ := rr
    cases o <;> first | exact e5.elim | skip
    rename_i vs
    refine hr.run env rs σ H1 G1 h2 (rel.grow g1) _ fun as H2 G2 g2 new rows => ?_
    refine q (l :: as) H2 G2 (g1.trans g2) (fun a h => ?_) ⟨?_, ?_, fun k a ds' h1 h2 => ?_⟩
    · rcases List.mem_cons.mp h with rfl | h
      · exact e2
      · exact g1.hx.back (new a h)
    · exact List.nodup_cons.mpr ⟨fun h => (by rw [new l h] at e3; cases e3), rows.nd⟩
    · rw [List.length_cons, List.length_cons, rows.len]
    · cases k with
      | zero =>
        cases h1
        cases h2
        exact ⟨vs, g2.hx _ _ e3, g2.hid _ _ e3 e4, DenL.mono g2.gx e5⟩
      | succ k => exact rows.row k a ds' (by simpa using h1) (by simpa using h2)
  · obtain ⟨ds, h1, hf⟩ := Option.bind_eq_some_iff.mp hf
    obtain ⟨rs, h2, hf⟩ := Option.bind_eq_some_iff.mp hf
    cases hf
    rw [List.length_cons, List.length_cons, hr.len env rs h2]
theorem jm_lst (h : JMs X cm es m) (hz : es.length ≤ 100000 := by decide) : JM X cm (.List es pos) m := by
  refine ⟨fun env dss σ H G hf rel Q q => ?_⟩
  refine to_e (pe_lst pa_w) ?_
  refine h.run env dss σ H G hf rel _ fun as H1 G1 g1 new rows => ⟨?_, fun p hp => ?_⟩
  · rw [List.length_map, rows.len, h.len env dss hf]
    exact Nat.le_trans hz (by decide)
  · have n := g1.sub.back hp
    have hin : ∀ a ∈ as, ∃ vs, H1 a = some (.lst vs) := fun a h => by
      obtain ⟨k, hk, e⟩ := List.getElem_of_mem h
      have hk' : k < dss.length := by rw [← rows.len]; exact hk
      obtain ⟨vs, q1, _⟩ := rows.row k a _ (by rw [List.getElem?_eq_getElem hk, e]) (List.getElem?_eq_getElem hk')
      exact ⟨vs, q1⟩
    have pn : p ∉ as := fun h => by
      obtain ⟨vs, q1⟩ := hin p h
      rw [hp] at q1; cases q1
    refine q p as _ G1 (g1.trans (.hide g1.sub hp)) (fun a h => ?_) ⟨upd_same, n, List.nodup_cons.mpr ⟨pn, rows.nd⟩, rows.len, fun k a ds h1 h2 => ?_⟩
    · rcases List.mem_cons.mp h with rfl | h
      · exact g1.hx.back hp
      · exact new a h
    · obtain ⟨vs, q1, q2, q3⟩ := rows.row k a ds h1 h2
      exact ⟨vs, by rw [upd_ne (fun e => pn (by rw [← e]; exact List.mem_of_getElem? h1))]; exact q1, q2, q3⟩
theorem compM_cons {g : Dt → Option (List Dt)} {d : Dt} {ds : List Dt} {out : List (List Dt)} (h : compM g (d :: ds) = some out) : ∃ o r, g d = some o ∧ compM g ds = some r ∧ out = o :: r := by
  obtain ⟨o, h1, h⟩ := Option.bind_eq_some_iff.mp h
  obtain ⟨r, h2, h⟩ := Option.bind_eq_some_iff.mp h
  cases h
  exact ⟨o, r, h1, h2, rfl⟩
theorem compM_len {g : Dt → Option (List Dt)} : ∀ {ds : List Dt} {out : List (List Dt)}, compM g ds = some out → out.length = ds.length
  | [], _, h => by cases h; rfl
  | d :: ds, _, h => by
    obtain ⟨o, r, _, h2, rfl⟩ := compM_cons h
    rw [List.length_cons, List.length_cons, compM_len h2]
/-- a comprehension of new lists -/
theorem jm_lc {elt : Expr} {scope : Scope} {js : List Nat} {fi : IF} {g : GF} {fe : EF} (own : List (Str × Nat)) (hc : X.calm = true) (hN : X.N.Nodup) (hi : JI X cm tg iter fi) (ok : blkC X.N X.env.scope scope own = true)
    (hg : ∀ (s : Shared) (H : Hp) (C : Addr) (cl : List (Str × Addr)) (fp : List Addr), JG (X.blk s H scope (compEnvC scope cl C X.env) fp) cm tg js g) (hj : ∀ j ∈ js, j ∈ own.map (·.2))
    (ht : ∀ (s : Shared) (H : Hp) (C : Addr) (cl : List (Str × Addr)) (fp : List Addr), JTs (X.blk s H scope (compEnvC scope cl C X.env) fp) cm [] tYes)
    (he : ∀ (s : Shared) (H : Hp) (C : Addr) (cl : List (Str × Addr)) (fp : List Addr), JE (X.blk s H scope (compEnvC scope cl C X.env) fp) cm elt fe) (hs : ∀ x, foldedSetIterable iter X.env x = pure x := by intro _; rfl) :
    JM X cm (.ListComp elt [⟨tg, iter, [], 0⟩] scope pos) (mComp (own.map (·.2)) fi g fe) := by
  refine ⟨fun env dss σ H G hf rel Q q => to_e (pe_lc hc hN pi_w (blkOk_by ok) (fun _ _ _ _ _ => pg_B) (fun _ _ _ _ _ => pt_B) (fun _ _ _ _ _ => pe_B) hs) ?_⟩
  obtain ⟨⟨ds, bb⟩, h1, hf⟩ := Option.bind_eq_some_iff.mp hf
  dsimp only at hf
  split at hf
  case isFalse => cases hf
  rename_i hlen
  refine hi.run env ds bb σ H G h1 rel _ fun J H1 G1 g1 jok => fun D hD => ?_
  have rel1 := rel.grow g1
  generalize hgo : (fun d => (g d (wipeS env (own.map (·.2)))).bind fun env' => freL (fe env')) = go at hf
  refine ⟨fun i m H' => m = ds.length - i ∧ i ≤ ds.length ∧ ∃ (G' : Hp) (as : List Addr) (ad ro : List (List Dt)), Exx G' H' ∧ Exx G1 G' ∧ Exx H1 H' ∧ (∀ a o, H1 a = some o → G1 a = none → G' a = none) ∧ MatR X.K cm H' G' D as ad ∧ (∀ a ∈ as, H1 a = none) ∧ ad.length = i ∧
    compM go (ds.drop i) = some ro ∧ dss = ad ++ ro, ⟨ds.length, rfl, Nat.zero_le _, G1, [], [], dss, (Grow.hide g1.sub hD).sub, .refl _, .new hD, fun _ _ _ n => n, ⟨upd_same, g1.sub.back hD, List.nodup_cons.mpr ⟨fun h => (by cases h), List.nodup_nil⟩, rfl, fun k a ds h => (by simp at h)⟩, fun a h => (by cases h), rfl, (by rw [List.drop_zero]; exact hf), rfl⟩, ?_⟩
  rintro i m H' ⟨rfl, hi', G', as, ad, ro, sub, gx, hx, hid, mat, new, hal, hro, hout⟩
  have st : StK H1 G1 bb H' G' := ⟨sub, gx, fun _ => hx⟩
  by_cases hlt : i < ds.length
  · refine .inr ⟨jok.go i H' G' st hlt, fun H2 => i + 1 ≤ ds.length ∧ ∃ (G' : Hp) (as : List Addr) (ad ro : List (List Dt)), Exx G' H2 ∧ Exx G1 G' ∧ Exx H1 H2 ∧ (∀ a o, H1 a = some o → G1 a = none → G' a = none) ∧ MatR X.K cm H2 G' D as ad ∧ (∀ a ∈ as, H1 a = none) ∧ ad.length = i + 1 ∧
      compM go (ds.drop (i + 1)) = some ro ∧ dss = ad ++ ro, fun H2 hw => ⟨ds.length - (i + 1), by omega, rfl, hw⟩, fun v H2 hy => ?_⟩
    obtain ⟨G2, d, hd, g2, dn⟩ := jok.yl i H' G' v H2 st hlt hy
    rw [drop_get hd] at hro
    obtain ⟨o, ro', ho, hro', rfl⟩ := compM_cons hro
    rw [← hgo] at ho
    obtain ⟨env', hg', ho⟩ := Option.bind_eq_some_iff.mp ho
    have relb : Rel X.K cm (L2.wipe σ (own.map (·.2))) H2 G2 (wipeS env (own.map (·.2))) := by
      refine ((Rel.grow rel1 (H' := H') (G' := G') ⟨hx, gx, hid, sub⟩).grow g2).wipe _
    intro s H0 C cl fp
    refine (hg s H0 C cl fp).run _ env' d v _ H2 G2 hg' relb dn _ fun σ' rel' fr' same len => ⟨wipe_eq (len.trans (wipe_length _ _)) same hj, ?_⟩
    intro s H0 C cl fp
    refine (ht s H0 C cl fp).ex env' true σ' H2 G2 rfl rel' _ fun H3 G3 g3 => ?_
    have g23 := g2.trans g3
    refine iteT ?_
    intro s H0 C cl fp
    refine (he s H0 C cl fp).run env' _ σ' H3 G3 (freL_some ho) (rel'.grow g3) _ fun y H4 G4 g4 rr => ?_
    obtain ⟨l, ob, rfl, e2, e3, e4, e5⟩ := rr
    cases ob <;> first | exact e5.elim | skip
    rename_i vs
    have g24 := g23.trans g4
    have mat3 := mat.mono g23
    have mat4 := mat3.mono g4
    have lD : l ≠ D := fun e => by
      subst e
      rw [mat3.at_] at e2; cases e2
    have las : l ∉ as := fun h => by
      obtain ⟨⟨o, ho⟩, _⟩ := mat3.all (List.mem_cons_of_mem _ h)
      rw [ho] at e2; cases e2
    refine ⟨_, mat4.at_, ?_, hlt, G4, as ++ [l], ad ++ [o], ro', ?_, gx.trans g24.gx, ?_, fun a o h n => g24.hid a o (hx a o h) (hid a o h n), ⟨?_, mat4.hid, ?_, ?_, fun k a ds' h1 h2 => ?_⟩, fun a h => ?_, ?_, hro', ?_⟩
    · rw [List.length_map, mat4.len]
      exact Nat.lt_of_le_of_lt (Nat.le_of_eq hal) (Nat.lt_of_lt_of_le (Nat.lt_of_lt_of_le hlt hlen) (lim_ok (Nat.le_refl _)))
    · intro a o h
      by_cases e : a = D
      · subst e
        rw [mat4.hid] at h
        cases h
      · rw [upd_ne e]
        exact g4.sub a o h
    · intro a o h
      rw [upd_ne (ne_of_none h hD)]
      exact g24.hx a o (hx a o h)
    · rw [upd_same, List.map_append]
      rfl
    · have nd := List.nodup_cons.mp mat.nd
      refine List.nodup_cons.mpr ⟨fun h => ?_, List.nodup_append.mpr ⟨nd.2, List.nodup_cons.mpr ⟨fun h => (by cases h), List.nodup_nil⟩, fun a h1 b h2 => ?_⟩⟩
      · rcases List.mem_append.mp h with h | h
        · exact nd.1 h
        · exact lD (List.mem_singleton.mp h).symm
      · rw [List.mem_singleton.mp h2]
        exact fun e => las (by rw [← e]; exact h1)
    · rw [List.length_append, List.length_append, mat4.len]
      rfl
    · have hak : k < as.length + 1 := by
        have := (List.getElem?_eq_some_iff.mp h1).1
        rwa [List.length_append, List.length_singleton] at this
      by_cases hk : k < as.length
      · rw [List.getElem?_append_left hk] at h1
        rw [List.getElem?_append_left (by rw [← mat4.len]; exact hk)] at h2
        obtain ⟨vs', q1, q2, q3⟩ := mat4.row k a ds' h1 h2
        refine ⟨vs', ?_, q2, q3⟩
        rw [upd_ne (fun e => (List.nodup_cons.mp mat.nd).1 (by rw [← e]; exact List.mem_of_getElem? h1))]
        exact q1
      · have hk : k = as.length := by omega
        subst hk
        rw [List.getElem?_append_right (Nat.le_refl _), Nat.sub_self] at h1
        rw [mat4.len, List.getElem?_append_right (Nat.le_refl _), Nat.sub_self] at h2
        cases h1
        cases h2
        exact ⟨vs, by rw [upd_ne lD]; exact e3, e4, e5⟩
    · rcases List.mem_append.mp h with h | h
      · exact new a h
      · rw [List.mem_singleton.mp h]
        exact hx.back (g23.hx.back e2)
    · rw [List.length_append, List.length_singleton, hal]
    · rw [List.append_assoc]
      exact hout
  · have e : i = ds.length := by omega
    subst e
    refine .inl ⟨jok.stop _ H' G' st (Nat.le_refl _), ?_⟩
    rw [List.drop_length] at hro
    cases hro
    rw [List.append_nil] at hout
    subst hout
    refine q D as H' G' (g1.trans ⟨hx, gx, hid, sub⟩) (fun a h => ?_) mat
    rcases List.mem_cons.mp h with rfl | h
    · exact g1.hx.back hD
    · exact g1.hx.back (new a h)

/-! ### stores -/
theorem nrm_at {α : Type} {ds : List α} {i : Int} {d : α} (h : atL ds i = some d) : ds[nrm ds.length i]? = some d ∧ ∀ {β : Type} (vs : List β) (v : β), vs.length = ds.length → vs[nrm ds.length i]? = some v → atI vs i = some v := by
  unfold atL at h
  unfold nrm
  split at h
  · rename_i h0
    have hlt : i.toNat < ds.length := (List.getElem?_eq_some_iff.mp h).1
    rw [if_pos h0]
    refine ⟨h, fun vs v hl hv => ?_⟩
    unfold atI ixN
    rw [if_pos h0, if_pos (by omega)]
    exact hv
  · rename_i h0
    split at h
    · rename_i h1
      rw [if_neg h0]
      refine ⟨h, fun vs v hl hv => ?_⟩
      unfold atI ixN
      rw [if_neg h0, if_pos (by omega), hl]
      exact hv
    · cases h
theorem nrm_ixN {n : Nat} {j : Int} (h1 : -(n : Int) ≤ j) (h2 : j < n) : ixN n j = some (nrm n j) := by
  unfold ixN nrm
  by_cases h0 : 0 ≤ j
  · rw [if_pos h0, if_pos h2, if_pos h0]
  · rw [if_neg h0, if_pos h1, if_neg h0]
/-- xss[a][b] = e -/
theorem js_putM (i : Nat) {ka kb : Expr} {fka fkb : EF} {p2 p3 p4 : Pos} (he : JE X cm e f) (hka : JE X cm ka fka) (hkb : JE X cm kb fkb) (hN : X.N[i]? = some x := by rfl) (hv : Vis X.env.scope x := by first | exact Or.inl rfl | exact Or.inr (Or.inl rfl) | exact Or.inr (Or.inr rfl)) (hd : (x == ("__debug__" : Str)) = false := by decide)
    (hcd : (x == ("__classdict__" : Str)) = false := by decide) (hpa : PlainIx ka := by exact fun _ _ => rfl)
    (ha : ∀ v, assign (.Subscript (.Subscript (.Name x p3) ka p4) kb p2) X.env v = (do
      let ov ← holding [v] (eval (.Subscript (.Name x p3) ka p4) X.env)
      let iv ← holding [v, ov] (eval kb X.env)
      standAt p2
      holding [v, ov, iv] (setItem ov iv v)
      release [v, ov, iv] []) := by intro _; rfl)
    (hs : swapsWithSole [.Subscript (.Subscript (.Name x p3) ka p4) kb p2] e pos.line X.env = pure false := by rfl) (hw : swappedStores [.Subscript (.Subscript (.Name x p3) ka p4) kb p2] e X.env = pure none := by rfl) (h1 : (assignEach [.Subscript (.Subscript (.Name x p3) ka p4) kb p2] X.env).map (·.2) = [assign (.Subscript (.Subscript (.Name x p3) ka p4) kb p2) X.env] := by rfl) :
    JS X cm (.Assign [.Subscript (.Subscript (.Name x p3) ka p4) kb p2] e pos) (wPutM i fka fkb f) := by
  refine ⟨fun env D' σ H G hww rel D o => to_s (ps_asg pe_w (pg_sub (pe_ix ix_seq (pe_var hN hv hd hcd) pe_w hpa) pe_w set_list ha) hs hw h1) ?_⟩
  obtain ⟨dss, r, ai, bi, ds, h1, h2, h3, h4, h5, h6, h7, h8, h9⟩ := hww
  refine he.pub h2 rel fun v H1 G1 g1 vr => ?_
  rw [h3] at vr
  obtain ⟨l, as, k1, k2⟩ := rel.mat i _ h1
  refine ⟨_, k1, hka.run env _ σ H1 G1 h4 (rel.grow g1) _ fun kv H2 G2 g2 kr => ?_⟩
  cases (show Den _ _ _ _ _ from kr)
  obtain ⟨n1, n2⟩ := nrm_at h5
  have hk : nrm dss.length ai < as.length := by rw [k2.len]; exact (List.getElem?_eq_some_iff.mp n1).1
  have ek : as[nrm dss.length ai]? = some as[nrm dss.length ai] := List.getElem?_eq_getElem hk
  generalize as[nrm dss.length ai] = ak at ek
  refine .inl ⟨l, as.map V.ref, ai, .ref ak, rfl, rfl, SqL.of ((g1.trans g2).hx _ _ k2.at_), n2 _ _ (by rw [List.length_map, k2.len]) (by rw [List.getElem?_map, ek]; rfl), ?_⟩
  refine hkb.run env _ σ H2 G2 h6 ((rel.grow g1).grow g2) _ fun kv H3 G3 g3 kr => ?_
  cases (show Den _ _ _ _ _ from kr)
  have g := (g1.trans g2).trans g3
  have m3 := k2.mono g
  obtain ⟨vs, q1, q2, q3⟩ := m3.row _ _ _ ek n1
  refine ⟨ak, vs, bi, nrm ds.length bi, rfl, rfl, q1, by rw [q3.length]; exact nrm_ixN h7 h8, ?_⟩
  have mem : ak ∈ as := List.mem_of_getElem? ek
  have ne : l ≠ ak := fun e => (List.nodup_cons.mp k2.nd).1 (by rw [e]; exact mem)
  obtain ⟨z1, z2⟩ := mat_upd (as' := as) (dss' := dss.set (nrm dss.length ai) (ds.set (nrm ds.length bi) r.dt)) (H2 := upd H3 ak (.lst (vs.set (nrm ds.length bi) v))) rel g h1 k1 k2 (fun a u h n => by
      rw [upd_ne (fun e => n (by rw [e]; exact List.mem_cons_of_mem _ mem))]; exact h) (fun a u h => by
      by_cases e : a = ak
      · exact ⟨_, by rw [e]; exact upd_same⟩
      · exact ⟨u, by rw [upd_ne e]; exact h⟩) ⟨by rw [upd_ne ne]; exact m3.at_, m3.hid, m3.nd, by rw [List.length_set]; exact m3.len, fun k a ds' e1 e2 => by
      by_cases e : k = nrm dss.length ai
      · subst e
        rw [ek] at e1
        cases e1
        rw [List.getElem?_set_self (by have q := hk; rw [k2.len] at q; exact q)] at e2
        cases e2
        exact ⟨_, upd_same, q2, DenL.set (vr.den.mono (g2.trans g3).gx) _ q3⟩
      · rw [List.getElem?_set_ne (Ne.symm e)] at e2
        obtain ⟨vs', w1, w2, w3⟩ := m3.row k a ds' e1 e2
        have na : a ≠ ak := fun z => by
          subst z
          have nd := (List.nodup_cons.mp k2.nd).2
          exact e ((List.getElem?_inj (List.getElem?_eq_some_iff.mp e1).1 nd).mp (e1.trans ek.symm))
        exact ⟨vs', by rw [upd_ne na]; exact w1, w2, w3⟩⟩ (fun a h => .inl h)
  exact o.nx _ _ _ _ z1 z2 h9
/-- xss[k] = e, e a new list -/
theorem js_putR (i : Nat) {k : Expr} {p2 p3 : Pos} (he : JE X cm e f) (hk : JE X cm k fk) (hN : X.N[i]? = some x := by rfl) (hv : Vis X.env.scope x := by first | exact Or.inl rfl | exact Or.inr (Or.inl rfl) | exact Or.inr (Or.inr rfl)) (hd : (x == ("__debug__" : Str)) = false := by decide)
    (hcd : (x == ("__classdict__" : Str)) = false := by decide)
    (ha : ∀ v, assign (.Subscript (.Name x p3) k p2) X.env v = (do
      let ov ← holding [v] (eval (.Name x p3) X.env)
      let iv ← holding [v, ov] (eval k X.env)
      standAt p2
      holding [v, ov, iv] (setItem ov iv v)
      release [v, ov, iv] []) := by intro _; rfl)
    (hs : swapsWithSole [.Subscript (.Name x p3) k p2] e pos.line X.env = pure false := by rfl) (hw : swappedStores [.Subscript (.Name x p3) k p2] e X.env = pure none := by rfl) (h1 : (assignEach [.Subscript (.Name x p3) k p2] X.env).map (·.2) = [assign (.Subscript (.Name x p3) k p2) X.env] := by rfl) :
    JS X cm (.Assign [.Subscript (.Name x p3) k p2] e pos) (wPutR i fk f) := by
  refine ⟨fun env D' σ H G hww rel D o => to_s (ps_asg pe_w (pg_sub (pe_var hN hv hd hcd) pe_w set_list ha) hs hw h1) ?_⟩
  obtain ⟨dss, ds, j, h1, h2, h4, h5, h6, h7⟩ := hww
  refine he.run env _ σ H G h2 rel _ fun v H1 G1 g1 rr => ?_
  obtain ⟨ln, ob, rfl, e2, e3, e4, e5⟩ := rr
  cases ob <;> first | exact e5.elim | skip
  rename_i vs
  obtain ⟨l, as, k1, k2⟩ := rel.mat i _ h1
  refine ⟨_, k1, hk.run env _ σ H1 G1 h4 (rel.grow g1) _ fun kv H2 G2 g2 kr => ?_⟩
  cases (show Den _ _ _ _ _ from kr)
  have g := g1.trans g2
  have m2 := k2.mono g
  have e3' := g2.hx _ _ e3
  have e4' := g2.hid _ _ e3 e4
  have nm : ln ∉ l :: as := fun h => by
    obtain ⟨⟨o, ho⟩, _⟩ := k2.all h
    rw [e2] at ho; cases ho
  have hjl : nrm dss.length j < dss.length := by
    unfold nrm
    split <;> omega
  refine ⟨l, as.map V.ref, j, nrm dss.length j, rfl, rfl, m2.at_, by rw [List.length_map, k2.len]; exact nrm_ixN h5 h6, ?_⟩
  suffices key : Rel X.K cm σ (upd H2 l (.lst ((as.map V.ref).set (nrm dss.length j) (.ref ln)))) G2 (env.set i (.mat (dss.set (nrm dss.length j) ds))) ∧ Fr σ env H G σ (env.set i (.mat (dss.set (nrm dss.length j) ds))) (upd H2 l (.lst ((as.map V.ref).set (nrm dss.length j) (.ref ln)))) G2 from o.nx _ _ _ _ key.1 key.2 h7
  refine mat_upd (as' := as.set (nrm dss.length j) ln) (dss' := dss.set (nrm dss.length j) ds) (H2 := upd H2 l (.lst ((as.map V.ref).set (nrm dss.length j) (.ref ln)))) rel g h1 k1 k2 (fun a u h n => by
      rw [upd_ne (fun e => n (by rw [e]; exact List.mem_cons_self))]; exact h) (fun a u h => by
      by_cases e : a = l
      · exact ⟨_, by rw [e]; exact upd_same⟩
      · exact ⟨u, by rw [upd_ne e]; exact h⟩) ⟨by rw [upd_same, List.map_set], m2.hid, ?_, by rw [List.length_set, List.length_set]; exact m2.len, fun k a ds' e1 e2' => ?_⟩ (fun a h => ?_)
  · have nd := List.nodup_cons.mp k2.nd
    refine List.nodup_cons.mpr ⟨fun h => ?_, ?_⟩
    · rcases List.mem_or_eq_of_mem_set h with h | h
      · exact nd.1 h
      · exact nm (by rw [← h]; exact List.mem_cons_self)
    · have pw := List.pairwise_iff_getElem.mp nd.2
      refine List.pairwise_iff_getElem.mpr fun p q hp hq hpq e => ?_
      rw [List.length_set] at hp hq
      rw [List.getElem_set, List.getElem_set] at e
      split at e
      · split at e
        · omega
        · exact nm (List.mem_cons_of_mem _ (by rw [e]; exact List.getElem_mem hq))
      · split at e
        · exact nm (List.mem_cons_of_mem _ (by rw [← e]; exact List.getElem_mem hp))
        · exact pw p q hp hq hpq e
  · by_cases e : k = nrm dss.length j
    · subst e
      rw [List.getElem?_set_self (by rw [k2.len]; exact hjl)] at e1
      cases e1
      rw [List.getElem?_set_self hjl] at e2'
      cases e2'
      exact ⟨vs, by rw [upd_ne (fun e => nm (by rw [e]; exact List.mem_cons_self))]; exact e3', e4', DenL.mono g2.gx e5⟩
    · rw [List.getElem?_set_ne (Ne.symm e)] at e1 e2'
      obtain ⟨vs', w1, w2, w3⟩ := m2.row k a ds' e1 e2'
      exact ⟨vs', by rw [upd_ne (fun z => (List.nodup_cons.mp k2.nd).1 (by rw [← z]; exact List.mem_of_getElem? e1))]; exact w1, w2, w3⟩
  · rcases List.mem_or_eq_of_mem_set h with h | h
    · exact .inl h
    · exact .inr (by rw [h]; exact e2)
end
end Pyl
end
section
set_option Elab.async false
set_option linter.all false
set_option maxRecDepth 100000
set_option maxHeartbeats 2000000
namespace Pyl
open PySem L2
section
variable {X : Cx} {cm : Nat → Addr} {e a b c : Expr} {f fa fb fc : EF} {σ : L2.St} {H G : Hp} {env : Sl} {pos p : Pos} {x : Str}
/-! lcm -/
theorem lcm_small {n : Nat} (h : n < LCMB) : n.log2 ≤ 13000 := Nat.le_of_lt (PySem.Flt.log2_lt_of (by decide) (by rw [← LCMB_eq]; exact h))
def rLcm : List V → Hp → VK → Prop := fun vs H Q => ∃ a b : Int, vs = [.int a, .int b] ∧ a.natAbs < LCMB ∧ b.natAbs < LCMB ∧ Q (.int ((Nat.lcm a.natAbs b.natAbs : Nat) : Int)) H
theorem cr_lcm : CallR X (.builtin "math.lcm") rLcm := by
  intro pins s σ H vs us Q I r h
  obtain ⟨a, b, rfl, ha, hb, q⟩ := h
  obtain ⟨t, u, rfl⟩ := Vals.int2 r
  have h1 : ¬(max 1 a.natAbs).log2 / 30 + 1 > 450 := by
    have : max 1 a.natAbs < LCMB := by
      have : 1 < LCMB := by rw [LCMB_eq]; exact Nat.one_lt_two_pow (by decide)
      omega
    have := lcm_small this
    omega
  have h2 : ¬(max a.natAbs b.natAbs).log2 / 30 + 1 > 450 := by
    have : max a.natAbs b.natAbs < LCMB := by omega
    have := lcm_small this
    omega
  have hsz : ((((Nat.lcm 1 a.natAbs).lcm b.natAbs : Nat) : Int)).natAbs.log2 < bitsLine := by
    rw [PySem.W.mc_lcm_one]
    have q1 : a.natAbs.lcm b.natAbs ≤ a.natAbs * b.natAbs := PySem.W.mc_lcm_le _ _
    have q2 : a.natAbs * b.natAbs < 2 ^ 26000 := by
      rw [LCMB_eq] at ha hb
      calc a.natAbs * b.natAbs < 2 ^ 13000 * 2 ^ 13000 := Nat.mul_lt_mul'' ha hb
        _ = 2 ^ 26000 := (Nat.pow_add 2 13000 13000).symm
    have q3 : (a.natAbs.lcm b.natAbs).log2 < 26000 := PySem.Flt.log2_lt_of (by decide) (Nat.lt_of_le_of_lt q1 q2)
    have q4 : 26000 ≤ bitsLine := by decide
    show (a.natAbs.lcm b.natAbs).log2 < bitsLine
    omega
  have g := PySem.W.mg_run_lcm a t b u h1 h2 hsz
  rw [PySem.W.mc_lcm_one] at g
  exact call_function_meets PySem.W.MGF.kind_lcm PySem.W.MGF.plain_lcm PySem.W.MGF.entry_lcm (PySem.W.MGF.args_lcm _ _) g.meets ⟨.int _, H, I.tok _, ⟨_, rfl⟩, q⟩
theorem p2c_lcm : P2c X cm (.builtin "math.lcm") pLcm := ⟨_, cr_lcm, fun d d2 b b2 out v v2 H G vr vr2 sub hp Q q => by
  unfold pLcm at hp
  split at hp
  · split at hp
    · rename_i hs
      cases hp
      have e := vr.int
      have e2 := vr2.int
      subst e e2
      exact ⟨_, _, rfl, hs.1, hs.2, q _ _ _ (.refl sub) (Den.int _)⟩
    · cases hp
  · cases hp⟩
theorem je_lcm (hg : Gl X "lcm") (hm : X.mg "lcm" = some (.builtin "math.lcm")) (ha : JE X cm a fa) (hb : JE X cm b fb)
    (h0 : starEach [b] X.env = (false, eval b X.env) :: starEach [] X.env := by rfl) (he : starEach [a, b] X.env = (false, eval a X.env) :: starEach [b] X.env := by rfl) (hpl : (backTo pos (starEach [b] X.env)).any (·.1) = false := by rfl) : JE X cm (.Call (.Name "lcm" p) [a, b] [] pos) (e2 pLcm fa fb) := je_f2 p2c_lcm hg hm ha hb (by decide) h0 he hpl

/-! sorted -/
/-- lists of two ints: what stands there, side by side -/
def rSortLP (K : PySem.W.Frag) : List V → Hp → VK → Prop := fun vs H Q => ∃ (a : Addr) (xs : List V) (ps : List (Int × Int)), vs = [V.ref a] ∧ SqL K H a xs ∧ xs.length = ps.length ∧
  (∀ (i : Nat) (v : V) (q : Int × Int), xs[i]? = some v → ps[i]? = some q → Dp K H v (.list [.int q.1, .int q.2])) ∧
  ∀ (ys : List V) (qs : List (Int × Int)) (m : Addr), ys.length = qs.length → (ys.zip qs).Perm (xs.zip ps) → qs.Pairwise (fun p q => lexLe p q = true) → H m = none → Q (.ref m) (upd H m (.lst ys))
/-- at a value stands a list of two ints -/
def IsLP (h : Heap) (u : Value) (q : Int × Int) : Prop := ∃ as, Reads h u (.list [.int q.1, .int q.2]) as
theorem IsLP.uniq {h : Heap} {u : Value} {p q : Int × Int} (a : IsLP h u p) (b : IsLP h u q) : p = q := by
  obtain ⟨as, a⟩ := a
  obtain ⟨bs, b⟩ := b
  have e := PySem.W.alike_unique (.list [.int p.1, .int p.2]) (.list [.int q.1, .int q.2]) u as bs (by simp [PySem.W.alike, PySem.W.alikeAll]) a b
  have e1 : p.1 = q.1 := by simp at e; exact e.1
  have e2 : p.2 = q.2 := by simp at e; exact e.2
  exact Prod.ext e1 e2
open Classical in
noncomputable def lpAt (h : Heap) (u : Value) : Int × Int := if e : ∃ q, IsLP h u q then Classical.choose e else (0, 0)
theorem lpAt_is {h : Heap} {u : Value} {q : Int × Int} (e : IsLP h u q) : lpAt h u = q := by
  unfold lpAt
  rw [dif_pos ⟨q, e⟩]
  exact (Classical.choose_spec (⟨q, e⟩ : ∃ q, IsLP h u q)).uniq e
theorem lexLe_of {p q : Int × Int} (h : SrtO.lexB q p = false) : lexLe p q = true := by
  have := SrtO.lexB_no.mp h
  unfold lexLe
  by_cases e : p.1 = q.1
  · rw [if_pos e]; exact decide_eq_true (by omega)
  · rw [if_neg e]; exact decide_eq_true (by omega)

theorem IsLP.keeps {h h' : Heap} {u : Value} {q : Int × Int} (k : ∀ b o, h.get? b = some o → h'.get? b = some o) (a : IsLP h u q) : IsLP h' u q := by
  obtain ⟨as, a⟩ := a
  exact ⟨as, PyProof.Rows.Reads.keeps k a⟩
theorem lp_depth (p : Int × Int) : (PyData.list [.int p.1, .int p.2]).depth ≤ 2 := by
  simp [PyData.depth, PyData.depthAll]
theorem lp_lt (p q : Int × Int) : PySem.W.dataLt (.list [.int p.1, .int p.2]) (.list [.int q.1, .int q.2]) = SrtO.lexB p q := by
  rw [PySem.W.dataLt_list]
  unfold SrtO.lexB
  by_cases e : p.1 = q.1
  · rw [if_pos e, PySem.W.dataLt_all_yes (by simp [PySem.W.alike]) (by rw [e]; simp [PyData.eqv])]
    by_cases e2 : p.2 = q.2
    · rw [PySem.W.dataLt_all_yes (by simp [PySem.W.alike]) (by rw [e2]; simp [PyData.eqv]), e2]
      simp only [PyProof.Rows.lex_irrefl, decide_eq_false (Int.lt_irrefl _)]
    · rw [PySem.W.dataLt_all_no (by simp [PySem.W.alike]) (by simp [PyData.eqv, e2]), PySem.W.dataLt_int]
  · rw [if_neg e, PySem.W.dataLt_all_no (by simp [PySem.W.alike]) (by simp [PyData.eqv, e]), PySem.W.dataLt_int]
theorem cr_sortLP (hu : X.A.units + 64 < cLine) : CallR X (.builtin "sorted") (rSortLP X.K) := by
  intro pins s σ H vs us Q I r h
  obtain ⟨a, xs, ps, rfl, hs, hl, hx, q⟩ := h
  obtain ⟨its, rv, hli, hz⟩ := I.list hs
  rw [Vals.ref1 r]
  have li : its.length = ps.length := by rw [← rv.length, hl]
  have isat : ∀ (i : Nat) (u : Value) (p : Int × Int), its[i]? = some u → ps[i]? = some p → IsLP s.heap u p := fun i u p e1 e2 => by
    have hi : i < xs.length := by rw [hl]; exact (List.getElem?_eq_some_iff.mp e2).1
    obtain ⟨u', h1, h2⟩ := Vals.get rv (List.getElem?_eq_getElem hi)
    rw [e1] at h1
    cases h1
    exact Dp.reads I _ _ u (hx i _ p (List.getElem?_eq_getElem hi) e2) h2
  have ismem : ∀ u ∈ its, IsLP s.heap u (lpAt s.heap u) := fun u hm => by
    obtain ⟨i, hi, e⟩ := List.getElem_of_mem hm
    have z := isat i u _ (by rw [List.getElem?_eq_getElem hi, e]) (List.getElem?_eq_getElem (by rw [← li]; exact hi))
    rw [lpAt_is z]
    exact z
  refine SrtO.sorted_ord (SrtO.swo_lex (lpAt s.heap)) hli.isList (by rw [← rv.length]; exact hz) (fun h2 h₁ a' ha kk => ?_) fun out h1 h2 => ?_
  · intro h' keep
    have up : ∀ b o, s.heap.get? b = some o → h'.get? b = some o := fun b o e => keep b o (kk b o e).1 (kk b o e).2
    have is' : ∀ u ∈ its, IsLP h' u (lpAt s.heap u) := fun u hm => (ismem u hm).keeps up
    refine ⟨PyProof.Rows.oneType', fun Q E hq => PySem.W.kas_kind (T := .type "list") h2 (fun v hv => ?_) (by decide) (by decide) hq, fun p q hp hq => ?_⟩
    · obtain ⟨as, ra⟩ := is' v hv
      exact PySem.W.looks_reads ra
    · obtain ⟨as, ra⟩ := is' _ hp
      obtain ⟨bs, rb⟩ := is' _ hq
      rw [PyProof.Rows.keyLt'_oneType]
      refine PySem.W.oneLt_alike (fun _ xs e => by cases e) ra rb (by simp [PySem.W.alike, PySem.W.alikeAll]) (fun e => by cases e) ?_ ⟨rfl, ?_⟩
      · have d1 := lp_depth (lpAt s.heap p.1)
        have d2 := Nat.min_le_left (PyData.list [.int (lpAt s.heap p.1).1, .int (lpAt s.heap p.1).2]).depth (PyData.list [.int (lpAt s.heap q.1).1, .int (lpAt s.heap q.1).2]).depth
        have u2 : X.A.in1.in1.units = X.A.units + 1 + 1 := rfl
        rw [u2]
        omega
      · exact lp_lt _ _
  · have isref : ∀ u ∈ its, ∃ a, u = Value.ref a := fun u hm => by
      obtain ⟨as, ra⟩ := ismem u hm
      cases ra
      exact ⟨_, rfl⟩
    have e1 : xs = its.map backV := (refs_back rv fun x m => by
      obtain ⟨i, hi, e⟩ := List.getElem_of_mem m
      have hi2 : i < its.length := by rw [← rv.length]; exact hi
      obtain ⟨u, k1, k2⟩ := Vals.get (i := i) (x := x) rv (by rw [List.getElem?_eq_getElem hi, e])
      obtain ⟨b, rfl⟩ := isref u (List.mem_of_getElem? k1)
      cases x <;> first | exact ⟨_, rfl⟩ | (revert k2; simp [RelV])).1
    have e2 : ps = its.map (lpAt s.heap) := by
      refine List.ext_getElem? fun i => ?_
      rw [List.getElem?_map]
      cases hp : ps[i]? with
      | none =>
        rw [List.getElem?_eq_none (by rw [li]; exact List.getElem?_eq_none_iff.mp hp)]
        rfl
      | some p =>
        have hi : i < its.length := by rw [li]; exact (List.getElem?_eq_some_iff.mp hp).1
        rw [List.getElem?_eq_getElem hi]
        exact congrArg some (lpAt_is (isat i _ p (List.getElem?_eq_getElem hi) hp)).symm
    have h3 : ∀ u ∈ out, ∃ a, u = Value.ref a := fun u hu => isref u (h2.perm.mem_iff.mp hu)
    obtain ⟨ep, he'⟩ := PyProof.Rows.sortedAll_at s.heap its out.toArray
    have hlen : (out.map backV).length ≤ sizeLine := by
      rw [List.length_map, h2.perm.length_eq, ← rv.length]
      exact hz
    refine ⟨.ref _, upd H (s.heap.objs.size + 1) (.lst (out.map backV)), I.laid (t' := s.toks) (fun _ _ => PyProof.Rows.sortedAll_old) (Nat.le_succ _) ⟨hlen, out, ep, vals_back h3, he'⟩, rfl, q (out.map backV) (out.map (lpAt s.heap)) _ (by rw [List.length_map, List.length_map]) ?_ ?_ (I.hok.fresh (Nat.le_succ _))⟩
    · rw [e1, e2, List.zip_map', List.zip_map']
      exact h2.perm.map _
    · exact List.pairwise_map.mpr (h1.imp fun {x y} z => lexLe_of z)

theorem lexLe_trans (a b c : Int × Int) (h1 : lexLe a b = true) (h2 : lexLe b c = true) : lexLe a c = true := by
  unfold lexLe at *
  split at h1 <;> split at h2 <;> split <;> simp_all <;> omega
theorem lexLe_total (a b : Int × Int) : (lexLe a b || lexLe b a) = true := by
  unfold lexLe
  by_cases e : a.1 = b.1
  · rw [if_pos e, if_pos e.symm, Bool.or_eq_true, decide_eq_true_eq, decide_eq_true_eq]; omega
  · rw [if_neg e, if_neg (fun z => e z.symm), Bool.or_eq_true, decide_eq_true_eq, decide_eq_true_eq]; omega
theorem lexLe_anti (a b : Int × Int) (h1 : lexLe a b = true) (h2 : lexLe b a = true) : a = b := by
  unfold lexLe at *
  by_cases e : a.1 = b.1
  · rw [if_pos e, decide_eq_true_eq] at h1
    rw [if_pos e.symm, decide_eq_true_eq] at h2
    exact Prod.ext e (by omega)
  · rw [if_neg e, decide_eq_true_eq] at h1
    rw [if_neg (fun z => e z.symm), decide_eq_true_eq] at h2
    omega
theorem ints_sort {ns ms : List Int} (h1 : ms.Perm ns) (h2 : ms.Pairwise (· ≤ ·)) : ms = ns.mergeSort fun a b => decide (a ≤ b) := by
  have h3 : (ns.mergeSort fun a b => decide (a ≤ b)).Pairwise (· ≤ ·) := (List.pairwise_mergeSort (le := fun a b : Int => decide (a ≤ b)) (fun a b c x y => by
    rw [decide_eq_true_eq] at *; omega) (fun a b => by rw [Bool.or_eq_true, decide_eq_true_eq, decide_eq_true_eq]; omega) ns).imp fun {a b} z => of_decide_eq_true z
  exact List.Perm.eq_of_pairwise (fun a b _ _ x y => Int.le_antisymm x y) h2 h3 (h1.trans (List.mergeSort_perm ns _).symm)
theorem pairs_sort {ns ms : List (Int × Int)} (h1 : ms.Perm ns) (h2 : ms.Pairwise (fun p q => lexLe p q = true)) : ms = ns.mergeSort lexLe :=
  List.Perm.eq_of_pairwise (fun a b _ _ x y => lexLe_anti a b x y) h2 (List.pairwise_mergeSort lexLe_trans lexLe_total ns) (h1.trans (List.mergeSort_perm ns _).symm)
theorem intPairs_some : ∀ {ds : List Dt} {ps : List (Int × Int)}, intPairs ds = some ps → ds = ps.map pairD
  | [], _, h => by cases h; rfl
  | .lst [.int a, .int b] :: ds, ps, h => by
    unfold intPairs at h
    obtain ⟨r, h1, h2⟩ := Option.map_eq_some_iff.mp h
    subst h2
    rw [intPairs_some h1]
    rfl
  | .non :: _, _, h => by simp [intPairs] at h
  | .bl _ :: _, _, h => by simp [intPairs] at h
  | .int _ :: _, _, h => by simp [intPairs] at h
  | .str _ :: _, _, h => by simp [intPairs] at h
  | .tup _ :: _, _, h => by simp [intPairs] at h
  | .obj _ _ :: _, _, h => by simp [intPairs] at h
  | .lst [] :: _, _, h => by simp [intPairs] at h
  | .lst [_] :: _, _, h => by simp [intPairs] at h
  | .lst (_ :: _ :: _ :: _) :: _, _, h => by simp [intPairs] at h
  | .lst [.non, _] :: _, _, h => by simp [intPairs] at h
  | .lst [.bl _, _] :: _, _, h => by simp [intPairs] at h
  | .lst [.str _, _] :: _, _, h => by simp [intPairs] at h
  | .lst [.lst _, _] :: _, _, h => by simp [intPairs] at h
  | .lst [.tup _, _] :: _, _, h => by simp [intPairs] at h
  | .lst [.obj _ _, _] :: _, _, h => by simp [intPairs] at h
  | .lst [.int _, .non] :: _, _, h => by simp [intPairs] at h
  | .lst [.int _, .bl _] :: _, _, h => by simp [intPairs] at h
  | .lst [.int _, .str _] :: _, _, h => by simp [intPairs] at h
  | .lst [.int _, .lst _] :: _, _, h => by simp [intPairs] at h
  | .lst [.int _, .tup _] :: _, _, h => by simp [intPairs] at h
  | .lst [.int _, .obj _ _] :: _, _, h => by simp [intPairs] at h
theorem denL_zip {K : PySem.W.Frag} {G : Hp} {β : Type} {f : β → Dt} : ∀ {vs : List V} {ps : List β}, vs.length = ps.length → (∀ z ∈ vs.zip ps, Den K cm G z.1 (f z.2)) → DenL K cm G vs (ps.map f)
  | [], [], _, _ => .nil
  | v :: vs, p :: ps, e, h => .cons (h (v, p) List.mem_cons_self) (denL_zip (by simpa using e) fun z hz => h z (List.mem_cons_of_mem _ hz))
  | [], _ :: _, e, _ => by cases e
  | _ :: _, [], e, _ => by cases e
theorem zip_den {K : PySem.W.Frag} {G : Hp} {β : Type} {f : β → Dt} : ∀ {vs : List V} {ps : List β}, DenL K cm G vs (ps.map f) → ∀ z ∈ vs.zip ps, Den K cm G z.1 (f z.2)
  | [], _, _, z, h => by simp at h
  | v :: vs, [], h, _, _ => by cases h
  | v :: vs, p :: ps, h, z, m => by
    cases h with
    | cons h1 h2 =>
      rcases List.mem_cons.mp (show z ∈ (v, p) :: vs.zip ps from m) with rfl | m
      · exact h1
      · exact zip_den h2 z m
theorem p1_sorted (hu : X.A.units + 64 < cLine) : P1 X cm (.builtin "sorted") pSorted := by
  refine ⟨fun vs H Q => rSortedI X.K vs H Q ∨ rSortLP X.K vs H Q, fun pins s σ H vs us Q I r h => ?_, fun d b out v H G vr sub hp Q q => ?_⟩
  · rcases h with h | h
    · exact cr_sortedI pins s σ H vs us Q I r h
    · exact cr_sortLP hu pins s σ H vs us Q I r h
  · unfold pSorted at hp
    split at hp
    · rename_i ds
      split at hp
      · rename_i ns h1
        cases hp
        obtain ⟨l, rfl, s1⟩ := vr.lstI sub h1
        refine .inl ⟨l, ns, rfl, s1, fun ns' m h2 h3 hm => ?_⟩
        rw [ints_sort h2 h3]
        exact q _ _ _ (.hide sub hm) ⟨m, _, rfl, hm, upd_same, sub.back hm, denL_ints _⟩
      · obtain ⟨ps, h1, hp⟩ := Option.map_eq_some_iff.mp hp
        subst hp
        obtain ⟨l, vs, rfl, s1, n1⟩ := vr.lst sub
        have e := intPairs_some h1
        subst e
        have hl : vs.length = ps.length := by rw [n1.length, List.length_map]
        have zd := zip_den n1
        refine .inr ⟨l, vs, ps, rfl, s1, hl, fun i v p e1 e2 => ?_, fun ys qs m h2 h3 h4 hm => ?_⟩
        · have hz : (v, p) ∈ vs.zip ps := by
            refine List.mem_of_getElem? (i := i) ?_
            rw [List.getElem?_zip_eq_some]
            exact ⟨e1, e2⟩
          exact (zd _ hz).dp sub (by simp [pairD, Dt.py, Dt.pyL])
        · have pp : qs.Perm ps := by
            have z := h3.map Prod.snd
            rwa [List.map_snd_zip (by omega), List.map_snd_zip (by omega)] at z
          have e := pairs_sort pp h4
          refine q _ _ _ (.hide sub hm) ⟨m, _, rfl, hm, upd_same, sub.back hm, ?_⟩
          rw [← e]
          exact denL_zip h2 fun z hz => zd z (h3.mem_iff.mp hz)
    · cases hp

/-! ### keywords, defaults -/
structure JK (X : Cx) (cm : Nat → Addr) (kws : List Keyword) (f : AF) : Prop where
  run : ∀ (env : Sl) (r : List (Dt × Bool)) (σ : L2.St) (H G : Hp), f env = some r → Rel X.K cm σ H G env → ∀ Q : List V → Hp → Prop, (∀ vs H' G', Grow H G H' G' → VRs X.K cm H' G' vs r → Q vs H') → ∃ t, PK X kws t ∧ t σ H Q
  len : ∀ (env : Sl) (r : List (Dt × Bool)), f env = some r → r.length = kws.length
theorem jk_nil : JK X cm [] aNil := ⟨fun env r σ H G hf rel Q q => by
  cases hf
  exact ⟨_, pk_nil, q [] H G (.refl rel.sub) .nil⟩, fun env r h => by cases h; rfl⟩
def wpK (X : Cx) (kws : List Keyword) : TA := fun σ H Q => ∃ t, PK X kws t ∧ t σ H Q
theorem pk_w {kws : List Keyword} : PK X kws (wpK X kws) := ⟨fun pos pins s σ H Q I ⟨t, h1, h2⟩ => h1.run pos pins s σ H Q I h2⟩
theorem jk_cons {kws : List Keyword} {fr : AF} {nm : Option Str} {kp : Pos} (ha : JE X cm e fa) (hr : JK X cm kws fr) : JK X cm (⟨nm, e, kp⟩ :: kws) (aCons fa fr) := by
  refine ⟨fun env r σ H G hf rel Q q => ⟨_, pk_cons pe_w pk_w, ?_⟩, fun env r hf => by
    obtain ⟨ra, h1, hf⟩ := Option.bind_eq_some_iff.mp hf
    obtain ⟨rs, h2, hf⟩ := Option.bind_eq_some_iff.mp hf
    cases hf
    rw [List.length_cons, List.length_cons, hr.len env rs h2]⟩
  obtain ⟨ra, h1, hf⟩ := Option.bind_eq_some_iff.mp hf
  obtain ⟨rs, h2, hf⟩ := Option.bind_eq_some_iff.mp hf
  cases hf
  refine ha.pub h1 rel fun v H1 G1 g1 vr => ?_
  refine hr.run env rs σ H1 G1 h2 (rel.grow g1) _ fun vs H2 G2 g2 vrs => ?_
  exact q _ H2 G2 (g1.trans g2) (.cons (vr.grow g2) vrs)
theorem VRs.append {K : PySem.W.Frag} {H G : Hp} : ∀ {vs ws : List V} {rs qs : List (Dt × Bool)}, VRs K cm H G vs rs → VRs K cm H G ws qs → VRs K cm H G (vs ++ ws) (rs ++ qs)
  | _, _, _, _, .nil, s => s
  | _, _, _, _, .cons h t, s => .cons h (VRs.append t s)
/-- a call's answer, of arguments that may be borrowed -/
theorem call_end {K : PySem.W.Frag} {F : FN} {vs : List V} {rs : List (Dt × Bool)} {r : R} {H G H1 G1 : Hp} (g1 : Grow H G H1 G1) (vrs : VRs K cm H1 G1 vs rs) (hf : ((F (rs.map (·.1))).bind fun d => if rs.any (·.2) && !d.scalar then none else some (.vis d)) = some r) {Q : VK} {E : XK}
    (q : ∀ v H' G', Grow H G H' G' → RR K cm H H' G' v r → Q v H') : spP K cm F vs H1 Q E := by
  obtain ⟨d, h2, hf⟩ := Option.bind_eq_some_iff.mp hf
  by_cases hs : rs.any (·.2) = true
  · split at hf
    · cases hf
    · rename_i hn
      cases hf
      have sc : d.scalar = true := by
        cases hd : d.scalar with
        | true => rfl
        | false => exact absurd (by rw [hs, hd]; rfl) hn
      refine ⟨H1, _, d, .refl _, vrs.denH g1.sub, h2, fun v H' G' g hden => ?_⟩
      exact q v H' G1 (g1.trans ⟨g.hx, .refl _, fun _ _ _ n => n, g1.sub.trans g.hx⟩) (Dt.scalar_den hden sc)
  · have hs' : rs.any (·.2) = false := by simpa using hs
    split at hf
    · rename_i hn
      rw [hs'] at hn
      cases hn
    · cases hf
      exact ⟨G1, _, d, g1.sub, vrs.plain hs', h2, fun v H' G' g hden => q v H' G' (g1.trans g) hden⟩
/-- a def of the module that keeps F, with n positional arguments and the keywords ks behind them -/
structure FnK (P : Program) (w : World) (K : PySem.W.Frag) (mg : Str → Option Value) (base : Heap) (cm : Nat → Addr) (k : Nat) (x : Str) (n : Nat) (ks : List Str) (F : FN) : Prop where
  ex : ∃ (f : Addr) (fd : FuncData) (ps : List Str) (g : List Value → List Value → List Value), FnOk P w K mg base CX0 k f fd ps (spP K cm F) ∧ mg x = some (.ref f) ∧ PySem.W.keepIn K (.ref f) = true ∧ KBn K fd ps n ks g (fun vs zs => vs ++ zs)
theorem je_callK {es : List Expr} {ft fk : AF} {F : FN} {k : Nat} {ks : List Str} {kws : List Keyword} (C : FnK X.prog X.w X.K X.mg X.base cm k x (es.length + 1) ks F) (hr : Room k X.A) (hg : Gl X x) (ha : JA X cm (e :: es) ft) (hk : JK X cm kws fk)
    (hall : (backToKw pos (keywordEach kws X.env)).all (·.1.isSome) = true := by rfl) (hks : (backToKw pos (keywordEach kws X.env)).filterMap (·.1) = ks := by rfl) (hln : ks.length = kws.length := by rfl) (hdb : (x == ("__debug__" : Str)) = false := by decide)
    (he : starEach (e :: es) X.env = (false, eval e X.env) :: starEach es X.env := by rfl)
    (hpl : ((backTo pos (starEach (e :: es) X.env)).any (·.1) || (backToKw pos (keywordEach kws X.env)).any (·.1.isNone)) = false := by rfl) : JE X cm (.Call (.Name x p) (e :: es) kws pos) (eCall F (aApp ft fk)) := by
  refine ⟨fun env r σ H G hf rel Q q => ?_⟩
  obtain ⟨rs, h1, hf⟩ := Option.bind_eq_some_iff.mp hf
  obtain ⟨ra, h2, h1⟩ := Option.bind_eq_some_iff.mp h1
  obtain ⟨rk, h3, h1⟩ := Option.bind_eq_some_iff.mp h1
  cases h1
  obtain ⟨f, fd, ps, g, hF, hm, hkp, hb⟩ := C.ex
  refine to_e (pe_callN hF hr hg hm hkp hb pass0 pa_w pk_w hall hks hdb he hpl) (ha.run env ra σ H G h2 rel _ fun vs H1 G1 g1 vrs => hk.run env rk σ H1 G1 h3 (rel.grow g1) _ fun zs H2 G2 g2 zrs => ⟨?_, ?_, ?_⟩)
  · rw [vrs.length, ha.len env ra h2]; rfl
  · rw [zrs.length, hk.len env rk h3, hln]
  · exact call_end (g1.trans g2) ((vrs.grow g2).append zrs) hf q
/-- a def of the module that keeps F; the arguments that lack at the call are dd -/
structure FnD (P : Program) (w : World) (K : PySem.W.Frag) (mg : Str → Option Value) (base : Heap) (cm : Nat → Addr) (k : Nat) (x : Str) (dd : List Dt) (F : FN) : Prop where
  ex : ∃ (f : Addr) (fd : FuncData) (ps : List Str) (dvs : List V) (ds : List Value), FnOk P w K mg base CX0 k f fd ps (spP K cm F) ∧ mg x = some (.ref f) ∧ PySem.W.keepIn K (.ref f) = true ∧ Binds K fd ps ds ∧ Vals dvs ds ∧ ∀ G, DenL K cm G dvs dd
theorem vrs_dfl {K : PySem.W.Frag} {H G : Hp} : ∀ {vs : List V} {dd : List Dt}, DenL K cm G vs dd → VRs K cm H G vs (dd.map fun d => (d, false))
  | _, _, .nil => .nil
  | _, _, .cons h t => .cons (.vis h) (vrs_dfl t)
theorem je_callD {es : List Expr} {ft : AF} {F : FN} {k : Nat} {dd : List Dt} (C : FnD X.prog X.w X.K X.mg X.base cm k x dd F) (hr : Room k X.A) (hg : Gl X x) (ha : JA X cm (e :: es) ft) (hdb : (x == ("__debug__" : Str)) = false := by decide)
    (he : starEach (e :: es) X.env = (false, eval e X.env) :: starEach es X.env := by rfl) (hpl : (backTo pos (starEach es X.env)).any (·.1) = false := by rfl) : JE X cm (.Call (.Name x p) (e :: es) [] pos) (eCall F (aApp ft (aDfl dd))) := by
  refine ⟨fun env r σ H G hf rel Q q => ?_⟩
  obtain ⟨rs, h1, hf⟩ := Option.bind_eq_some_iff.mp hf
  obtain ⟨ra, h2, h1⟩ := Option.bind_eq_some_iff.mp h1
  obtain ⟨rk, h3, h1⟩ := Option.bind_eq_some_iff.mp h1
  cases h1
  cases h3
  obtain ⟨f, fd, ps, dvs, ds, hF, hm, hkp, hb, hv, hd⟩ := C.ex
  refine to_e (pe_call hF hr hg hm hkp hb hv pass0 pa_w hdb he hpl) (ha.run env ra σ H G h2 rel _ fun vs H1 G1 g1 vrs => ?_)
  exact call_end g1 (vrs.append (vrs_dfl (hd G1))) hf q
end
end Pyl
end
section
set_option Elab.async false
set_option linter.all false
set_option maxRecDepth 100000
set_option maxHeartbeats 4000000
set_option pp.maxSteps 300
namespace Pyl
open PySem L2
def topS (i : Nat) : Stmt := PySem.Challenge.pw_fooledortold_k76_values_judged.main.body.getD i (.Pass ⟨0, 0, 0, 0⟩)
abbrev s_lowest : Stmt := topS 5
abbrev s_plus : Stmt := topS 6
abbrev s_times : Stmt := topS 7
abbrev s_sum_of : Stmt := topS 8
abbrev s_compare : Stmt := topS 9
abbrev s_lot_value : Stmt := topS 11
abbrev s_common_numbers : Stmt := topS 12
abbrev s_right_numbers : Stmt := topS 13
abbrev s_mix_value : Stmt := topS 14
abbrev s__law_whole : Stmt := topS 16
abbrev s__law_cell : Stmt := topS 17
abbrev s__law_digits : Stmt := topS 18
abbrev s__law_gcd : Stmt := topS 19
abbrev s__law_is_share : Stmt := topS 20
abbrev s__law_exactly : Stmt := topS 21
abbrev s__law_least : Stmt := topS 22
abbrev s__law_bound : Stmt := topS 23
abbrev s__law_payoffs : Stmt := topS 24
abbrev s__law_drawn : Stmt := topS 25
abbrev s__law_filled : Stmt := topS 26
abbrev s__law_lot_told : Stmt := topS 27
abbrev s__law_mix_told : Stmt := topS 28
abbrev s__law_most_right : Stmt := topS 29
abbrev s_law : Stmt := topS 30
section
variable {P : Program} {w : World} {K : PySem.W.Frag} {mg : Str → Option Value} {base : Heap} {cm : Nat → Addr} {f : Addr} {fd : FuncData}
theorem sc_lowest : FnScope ["top", "bottom", "common"] ["top", "bottom"] (defScope s_lowest) := ⟨rfl, rfl, rfl, by decide +kernel, rfl, by decide +kernel, by decide +kernel⟩
theorem ok_lowest (Fu : Fun K "lowest" "lowest" s_lowest f fd) (m_gcd : mg "gcd" = some (.builtin "math.gcd"))  : FnOk P w K mg base CX0 1 f fd ["top", "bottom"] (spP K cm F_lowest) :=
  have scN := sc_lowest
  fn_ok Fu scN len_lowest w_lowest k_lowest fun cdv A outer s H E hr =>
  (jss_cons (js_if (jt_cmp (p2_eq hr.units) (je_var 1) je_int)
  (jss_one js_dead)
  jss_nil)
  (jss_cons (js_asg 2 scN.nd (je_gcd (by rfl) m_gcd (je_var 0) (je_var 1)))
  (jss_cons (js_if (jt_cmp p2_lt (je_var 1) je_int)
  (jss_one (js_asg 2 scN.nd (je_neg (je_var 2))))
  jss_nil)
  (jss_one (js_ret (je_tup (ja_cons (je_bin p2_div (je_var 0) (je_var 2)) (ja_cons (je_bin p2_div (je_var 1) (je_var 2)) ja_nil))))))))
theorem sc_plus : FnScope ["one", "two"] ["one", "two"] (defScope s_plus) := ⟨rfl, rfl, rfl, by decide +kernel, rfl, by decide +kernel, by decide +kernel⟩
theorem ok_plus (Fu : Fun K "plus" "plus" s_plus f fd)  (c_lowest : FnC P w K mg base cm 1 "lowest" F_lowest) : FnOk P w K mg base CX0 2 f fd ["one", "two"] (spP K cm F_plus) :=
  have scN := sc_plus
  fn_ok Fu scN len_plus w_plus k_plus fun cdv A outer s H E hr =>
  (jss_one (js_ret (je_call c_lowest (hr.mono (by decide)) (by rfl) (ja_cons (je_bin p2_add (je_bin p2_mul (je_ix (je_var 0) je_int) (je_ix (je_var 1) je_int)) (je_bin p2_mul (je_ix (je_var 1) je_int) (je_ix (je_var 0) je_int))) (ja_cons (je_bin p2_mul (je_ix (je_var 0) je_int) (je_ix (je_var 1) je_int)) ja_nil)))))
theorem sc_times : FnScope ["one", "two"] ["one", "two"] (defScope s_times) := ⟨rfl, rfl, rfl, by decide +kernel, rfl, by decide +kernel, by decide +kernel⟩
theorem ok_times (Fu : Fun K "times" "times" s_times f fd)  (c_lowest : FnC P w K mg base cm 1 "lowest" F_lowest) : FnOk P w K mg base CX0 2 f fd ["one", "two"] (spP K cm F_times) :=
  have scN := sc_times
  fn_ok Fu scN len_times w_times k_times fun cdv A outer s H E hr =>
  (jss_one (js_ret (je_call c_lowest (hr.mono (by decide)) (by rfl) (ja_cons (je_bin p2_mul (je_ix (je_var 0) je_int) (je_ix (je_var 1) je_int)) (ja_cons (je_bin p2_mul (je_ix (je_var 0) je_int) (je_ix (je_var 1) je_int)) ja_nil)))))
theorem sc_sum_of : FnScope ["shares", "result", "share"] ["shares"] (defScope s_sum_of) := ⟨rfl, rfl, rfl, by decide +kernel, rfl, by decide +kernel, by decide +kernel⟩
theorem ok_sum_of (Fu : Fun K "sum_of" "sum_of" s_sum_of f fd)  (c_plus : FnC P w K mg base cm 2 "plus" F_plus) : FnOk P w K mg base CX0 3 f fd ["shares"] (spP K cm F_sum_of) :=
  have scN := sc_sum_of
  fn_ok Fu scN len_sum_of w_sum_of k_sum_of fun cdv A outer s H E hr =>
  (jss_cons (js_asg 1 scN.nd (je_tup (ja_cons je_int (ja_cons je_int ja_nil))))
  (jss_cons (js_for PassesOwn.never rfl (ji_seq (je_var 0)) (jg_name 2 scN.nd)
  (jss_one (js_asg 1 scN.nd (je_call c_plus (hr.mono (by decide)) (by rfl) (ja_cons (je_var 1) (ja_cons (je_var 2) ja_nil))))))
  (jss_one (js_ret (je_var 1)))))
theorem sc_compare : FnScope ["one", "two", "left", "right"] ["one", "two"] (defScope s_compare) := ⟨rfl, rfl, rfl, by decide +kernel, rfl, by decide +kernel, by decide +kernel⟩
theorem ok_compare (Fu : Fun K "compare" "compare" s_compare f fd) (m_int : mg "int" = none)  : FnOk P w K mg base CX0 1 f fd ["one", "two"] (spP K cm F_compare) :=
  have scN := sc_compare
  fn_ok Fu scN len_compare w_compare k_compare fun cdv A outer s H E hr =>
  (jss_cons (js_asg 2 scN.nd (je_bin p2_mul (je_ix (je_var 0) je_int) (je_ix (je_var 1) je_int)))
  (jss_cons (js_asg 3 scN.nd (je_bin p2_mul (je_ix (je_var 1) je_int) (je_ix (je_var 0) je_int)))
  (jss_one (js_ret (je_bin p2_sub (je_ty1 p1_int (by rfl) m_int (by decide +kernel) (je_cmp p2_gt (je_var 2) (je_var 3))) (je_ty1 p1_int (by rfl) m_int (by decide +kernel) (je_cmp p2_lt (je_var 2) (je_var 3))))))))
theorem sc_lot_value : FnScope ["payoffs", "lot", "best", "bits", "share", "part", "bit"] ["payoffs", "lot"] (defScope s_lot_value) := ⟨rfl, rfl, rfl, by decide +kernel, rfl, by decide +kernel, by decide +kernel⟩
theorem ok_lot_value (Fu : Fun K "lot_value" "lot_value" s_lot_value f fd) (m_zip : mg "zip" = none) (c_sum_of : FnC P w K mg base cm 3 "sum_of" F_sum_of) (c_compare : FnC P w K mg base cm 1 "compare" F_compare) : FnOk P w K mg base CX0 4 f fd ["payoffs", "lot"] (spP K cm F_lot_value) :=
  have scN := sc_lot_value
  fn_ok Fu scN len_lot_value w_lot_value k_lot_value fun cdv A outer s H E hr =>
  (jss_cons (js_asg 2 scN.nd (je_tup (ja_cons je_int (ja_cons je_int ja_nil))))
  (jss_cons (js_for PassesOwn.never rfl (ji_seq (je_var 0)) (jg_name 3 scN.nd)
  (jss_cons (js_asg 4 scN.nd (je_call c_sum_of (hr.mono (by decide)) (by rfl) (ja_cons (je_lc [("part", 5), ("bit", 6)] rfl scN.nd (ji_zip (by rfl) m_zip (je_var 1) (je_var 3)) (blk_by ["payoffs", "lot", "best", "bits", "share", "part", "bit"] (defScope s_lot_value) (by decide +kernel)) (fun _ _ _ _ _ => (jg_tup rfl (jgs_cons 5 scN.nd (jgs_cons 6 scN.nd jgs_nil)))) (by decide) (fun _ _ _ _ _ => (jts_one (jt_cmp (p2_eq hr.units) (je_var 6) je_int))) (fun _ _ _ _ _ => (je_var 5))) ja_nil)))
  (jss_one (js_if (jt_cmp p2_gt (je_call c_compare (hr.mono (by decide)) (by rfl) (ja_cons (je_var 4) (ja_cons (je_var 2) ja_nil))) je_int)
  (jss_one (js_asg 2 scN.nd (je_var 4)))
  jss_nil))))
  (jss_one (js_ret (je_var 2)))))
theorem sc_common_numbers : FnScope ["shares", "bottom", "share"] ["shares"] (defScope s_common_numbers) := ⟨rfl, rfl, rfl, by decide +kernel, rfl, by decide +kernel, by decide +kernel⟩
theorem ok_common_numbers (Fu : Fun K "common_numbers" "common_numbers" s_common_numbers f fd) (m_lcm : mg "lcm" = some (.builtin "math.lcm"))  : FnOk P w K mg base CX0 1 f fd ["shares"] (spP K cm F_common_numbers) :=
  have scN := sc_common_numbers
  fn_ok Fu scN len_common_numbers w_common_numbers k_common_numbers fun cdv A outer s H E hr =>
  (jss_cons (js_asg 1 scN.nd je_int)
  (jss_cons (js_for PassesOwn.never rfl (ji_seq (je_var 0)) (jg_name 2 scN.nd)
  (jss_one (js_asg 1 scN.nd (je_lcm (by rfl) m_lcm (je_var 1) (je_ix (je_var 2) je_int)))))
  (jss_one (js_ret (je_tup (ja_cons (je_lc [("share", 2)] rfl scN.nd (ji_seq (je_var 0)) (blk_by ["shares", "bottom", "share"] (defScope s_common_numbers) (by decide +kernel)) (fun _ _ _ _ _ => (jg_name 2 scN.nd)) (by decide) (fun _ _ _ _ _ => jts_nil) (fun _ _ _ _ _ => (je_bin p2_mul (je_ix (je_var 2) je_int) (je_bin p2_div (je_var 1) (je_ix (je_var 2) je_int))))) (ja_cons (je_var 1) ja_nil)))))))
theorem sc_right_numbers : FnScope ["payoffs", "mix", "sums", "parts", "bottom", "part", "bits", "_", "number", "bit"] ["payoffs", "mix"] (defScope s_right_numbers) := ⟨rfl, rfl, rfl, by decide +kernel, rfl, by decide +kernel, by decide +kernel⟩
theorem ok_right_numbers (Fu : Fun K "right_numbers" "right_numbers" s_right_numbers f fd) (m_zip : mg "zip" = none) (c_common_numbers : FnC P w K mg base cm 1 "common_numbers" F_common_numbers) : FnOk P w K mg base CX0 2 f fd ["payoffs", "mix"] (spP K cm F_right_numbers) :=
  have scN := sc_right_numbers
  fn_ok Fu scN len_right_numbers w_right_numbers k_right_numbers fun cdv A outer s H E hr =>
  (jss_cons (js_unp rfl (je_call c_common_numbers (hr.mono (by decide)) (by rfl) (ja_cons (je_var 1) ja_nil)) (jgs_cons 3 scN.nd (jgs_cons 4 scN.nd jgs_nil)))
  (jss_cons (js_asgLc 2 [("_", 7)] rfl scN.nd rfl rfl (sw_true rfl rfl rfl (by decide +kernel)) (ji_seq (je_ix (je_var 0) je_int)) (blk_by ["payoffs", "mix", "sums", "parts", "bottom", "part", "bits", "_", "number", "bit"] (defScope s_right_numbers) (by decide +kernel)) (fun _ _ _ _ _ => (jg_name 7 scN.nd)) (by decide) (fun _ _ _ _ _ => jts_nil) (fun _ _ _ _ _ => je_int))
  (jss_frz 2 (jss_cons (js_for PassesOwn.never rfl (ji_zip (by rfl) m_zip (je_var 3) (je_var 0)) (jg_tup rfl (jgs_cons 5 scN.nd (jgs_cons 6 scN.nd jgs_nil)))
  (jss_one (js_asgLc 2 [("number", 8), ("bit", 9)] rfl scN.nd rfl rfl (sw_true rfl rfl rfl (by decide +kernel)) (ji_zip (by rfl) m_zip (je_var 2) (je_var 6)) (blk_by ["payoffs", "mix", "sums", "parts", "bottom", "part", "bits", "_", "number", "bit"] (defScope s_right_numbers) (by decide +kernel)) (fun _ _ _ _ _ => (jg_tup rfl (jgs_cons 8 scN.nd (jgs_cons 9 scN.nd jgs_nil)))) (by decide) (fun _ _ _ _ _ => jts_nil) (fun _ _ _ _ _ => (je_bin p2_add (je_var 8) (je_bin p2_mul (je_var 5) (je_var 9)))))))
  (jss_frz 2 (jss_one (js_ret (je_tup (ja_cons (je_var 2) (ja_cons (je_var 4) ja_nil))))))))))
theorem sc_mix_value : FnScope ["payoffs", "mix", "most", "ordered", "result", "left", "number", "sums", "bottom", "part"] ["payoffs", "mix", "most"] (defScope s_mix_value) := ⟨rfl, rfl, rfl, by decide +kernel, rfl, by decide +kernel, by decide +kernel⟩
theorem ok_mix_value (Fu : Fun K "mix_value" "mix_value" s_mix_value f fd) (m_sorted : mg "sorted" = none) (c_right_numbers : FnC P w K mg base cm 2 "right_numbers" F_right_numbers) (c_lowest : FnC P w K mg base cm 1 "lowest" F_lowest) (c_compare : FnC P w K mg base cm 1 "compare" F_compare) (c_plus : FnC P w K mg base cm 2 "plus" F_plus) (c_times : FnC P w K mg base cm 2 "times" F_times) : FnOk P w K mg base CX0 3 f fd ["payoffs", "mix", "most"] (spP K cm F_mix_value) :=
  have scN := sc_mix_value
  fn_ok Fu scN len_mix_value w_mix_value k_mix_value fun cdv A outer s H E hr =>
  (jss_cons (js_unp rfl (je_call c_right_numbers (hr.mono (by decide)) (by rfl) (ja_cons (je_var 0) (ja_cons (je_var 1) ja_nil))) (jgs_cons 7 scN.nd (jgs_cons 8 scN.nd jgs_nil)))
  (jss_cons (js_asg 3 scN.nd (je_b1 (p1_sorted hr.units) (by rfl) m_sorted (by decide +kernel) (je_var 7)))
  (jss_frz 3 (jss_cons (js_if (jt_isN (je_var 2))
  (jss_one (js_ret (je_call c_lowest (hr.mono (by decide)) (by rfl) (ja_cons (je_ix (je_var 3) je_int) (ja_cons (je_var 8) ja_nil)))))
  jss_nil)
  (jss_cons (js_asg 4 scN.nd (je_tup (ja_cons je_int (ja_cons je_int ja_nil))))
  (jss_cons (js_asg 5 scN.nd (je_tup (ja_cons je_int (ja_cons je_int ja_nil))))
  (jss_cons (js_for PassesOwn.never rfl (ji_seq (je_var 3)) (jg_name 6 scN.nd)
  (jss_cons (js_asg 9 scN.nd (je_if (jt_cmp p2_lt (je_call c_compare (hr.mono (by decide)) (by rfl) (ja_cons (je_var 5) (ja_cons (je_var 2) ja_nil))) je_int) (je_var 5) (je_var 2)))
  (jss_cons (js_asg 4 scN.nd (je_call c_plus (hr.mono (by decide)) (by rfl) (ja_cons (je_var 4) (ja_cons (je_call c_times (hr.mono (by decide)) (by rfl) (ja_cons (je_var 9) (ja_cons (je_tup (ja_cons (je_var 6) (ja_cons (je_var 8) ja_nil))) ja_nil))) ja_nil))))
  (jss_one (js_asg 5 scN.nd (je_call c_plus (hr.mono (by decide)) (by rfl) (ja_cons (je_var 5) (ja_cons (je_tup (ja_cons (je_neg (je_ix (je_var 9) je_int)) (ja_cons (je_ix (je_var 9) je_int) ja_nil))) ja_nil))))))))
  (jss_one (js_ret (je_var 4))))))))))
theorem sc__law_whole : FnScope ["value"] ["value"] (defScope s__law_whole) := ⟨rfl, rfl, rfl, by decide +kernel, rfl, by decide +kernel, by decide +kernel⟩
theorem ok__law_whole (Fu : Fun K "_law_whole" "_law_whole" s__law_whole f fd) (m_bool : mg "bool" = none) (m_int : mg "int" = none) (m_isinstance : mg "isinstance" = none)  : FnOk P w K mg base CX0 1 f fd ["value"] (spP K cm F__law_whole) :=
  have scN := sc__law_whole
  fn_ok Fu scN len__law_whole w__law_whole k__law_whole fun cdv A outer s H E hr =>
  (jss_one (js_ret (je_and (je_isi (T := "int") (by decide +kernel) (by rfl) m_isinstance (by rfl) m_int (by decide +kernel) (je_var 0)) (je_one (je_not (je_isi (T := "bool") (by decide +kernel) (by rfl) m_isinstance (by rfl) m_bool (by decide +kernel) (je_var 0)))))))
theorem sc__law_cell : FnScope ["script", "k", "seed", "cell"] ["script", "k"] (defScope s__law_cell) := ⟨rfl, rfl, rfl, by decide +kernel, rfl, by decide +kernel, by decide +kernel⟩
theorem ok__law_cell (Fu : Fun K "_law_cell" "_law_cell" s__law_cell f fd) (m_int : mg "int" = none) (m_len : mg "len" = none)  : FnOk P w K mg base CX0 1 f fd ["script", "k"] (spP K cm F__law_cell) :=
  have scN := sc__law_cell
  fn_ok Fu scN len__law_cell w__law_cell k__law_cell fun cdv A outer s H E hr =>
  (jss_cons (js_if (jt_cmp p2_lt (je_var 1) (je_b1 p1_len (by rfl) m_len (by decide +kernel) (je_var 0)))
  (jss_one (js_ret (je_ix (je_var 0) (je_var 1))))
  jss_nil)
  (jss_cons (js_asg 2 scN.nd je_int)
  (jss_cons (js_for PassesOwn.never rfl (ji_seq (je_var 0)) (jg_name 3 scN.nd)
  (jss_one (js_asg 2 scN.nd (je_bin p2_mod (je_ty1 p1_int (by rfl) m_int (by decide +kernel) (je_bin p2_add (je_bin p2_mul (je_var 2) je_int) (je_bin p2_mod (je_ty1 p1_int (by rfl) m_int (by decide +kernel) (je_var 3)) je_int))) je_int))))
  (jss_one (js_ret (je_bin p2_mod (je_ty1 p1_int (by rfl) m_int (by decide +kernel) (je_bin p2_mul (je_bin p2_mul (je_bin p2_add (je_var 2) je_int) (je_bin p2_add (je_var 1) je_int)) je_int)) je_int))))))
theorem sc__law_digits : FnScope ["cell", "sizes", "row", "rest", "seed", "k", "size", "twice"] ["cell", "sizes"] (defScope s__law_digits) := ⟨rfl, rfl, rfl, by decide +kernel, rfl, by decide +kernel, by decide +kernel⟩
theorem ok__law_digits (Fu : Fun K "_law_digits" "_law_digits" s__law_digits f fd) (m_int : mg "int" = none) (m_len : mg "len" = none) (m_range : mg "range" = none)  : FnOk P w K mg base CX0 1 f fd ["cell", "sizes"] (spP K cm F__law_digits) :=
  have scN := sc__law_digits
  fn_ok Fu scN len__law_digits w__law_digits k__law_digits fun cdv A outer s H E hr =>
  (jss_cons (js_asg 2 scN.nd (je_lst ja_nil))
  (jss_cons (js_asg 3 scN.nd (je_ty1 p1_int (by rfl) m_int (by decide +kernel) (je_var 0)))
  (jss_cons (js_if (jt_cmp p2_ge (je_var 3) (je_bin p2_pow je_int je_int))
  (jss_cons (js_asg 3 scN.nd (je_bin p2_sub (je_var 3) (je_bin p2_pow je_int je_int)))
  (jss_cons (js_for PassesOwn.never rfl (ji_seq (je_var 1)) (jg_name 6 scN.nd)
  (jss_cons (js_app 2 (je_bin p2_mod (je_ty1 p1_int (by rfl) m_int (by decide +kernel) (je_var 3)) (je_var 6)))
  (jss_one (js_asg 3 scN.nd (je_bin p2_div (je_ty1 p1_int (by rfl) m_int (by decide +kernel) (je_var 3)) (je_var 6))))))
  (jss_frz 2 (jss_one (js_ret (je_var 2))))))
  jss_nil)
  (jss_cons (js_asg 4 scN.nd (je_bin p2_mod (je_ty1 p1_int (by rfl) m_int (by decide +kernel) (je_var 3)) je_int))
  (jss_cons (js_for PassesOwn.never rfl (ji_range1 (by rfl) m_range (je_b1 p1_len (by rfl) m_len (by decide +kernel) (je_var 1))) (jg_name 5 scN.nd)
  (jss_cons (js_asg 4 scN.nd (je_bin p2_mod (je_ty1 p1_int (by rfl) m_int (by decide +kernel) (je_bin p2_add (je_bin p2_add (je_bin p2_mul (je_var 4) je_int) (je_bin p2_mul je_int (je_var 5))) je_int)) je_int))
  (jss_cons (js_asg 7 scN.nd (je_bin p2_mod (je_ty1 p1_int (by rfl) m_int (by decide +kernel) (je_bin p2_mul (je_var 4) (je_bin p2_add (je_bin p2_div (je_var 4) je_int) je_int))) je_int))
  (jss_one (js_app 2 (je_bin p2_mod (je_bin p2_div (je_var 7) je_int) (je_ix (je_var 1) (je_var 5))))))))
  (jss_frz 2 (jss_one (js_ret (je_var 2)))))))))
theorem sc__law_gcd : FnScope ["one", "two", "left", "right", "k", "rest"] ["one", "two"] (defScope s__law_gcd) := ⟨rfl, rfl, rfl, by decide +kernel, rfl, by decide +kernel, by decide +kernel⟩
theorem ok__law_gcd (Fu : Fun K "_law_gcd" "_law_gcd" s__law_gcd f fd) (m_abs : mg "abs" = none) (m_int : mg "int" = none) (m_range : mg "range" = none)  : FnOk P w K mg base CX0 1 f fd ["one", "two"] (spP K cm F__law_gcd) :=
  have scN := sc__law_gcd
  fn_ok Fu scN len__law_gcd w__law_gcd k__law_gcd fun cdv A outer s H E hr =>
  (jss_cons (js_asg 2 scN.nd (je_b1 p1_abs (by rfl) m_abs (by decide +kernel) (je_var 0)))
  (jss_cons (js_asg 3 scN.nd (je_b1 p1_abs (by rfl) m_abs (by decide +kernel) (je_var 1)))
  (jss_cons (js_for PassesOwn.never rfl (ji_range1 (by rfl) m_range je_int) (jg_name 4 scN.nd)
  (jss_cons (js_if (jt_cmp (p2_eq hr.units) (je_var 3) je_int)
  (jss_one js_break)
  jss_nil)
  (jss_cons (js_asg 5 scN.nd (je_bin p2_mod (je_ty1 p1_int (by rfl) m_int (by decide +kernel) (je_var 2)) (je_var 3)))
  (jss_cons (js_asg 2 scN.nd (je_var 3))
  (jss_one (js_asg 3 scN.nd (je_var 5)))))))
  (jss_one (js_ret (je_var 2))))))
theorem sc__law_is_share : FnScope ["share"] ["share"] (defScope s__law_is_share) := ⟨rfl, rfl, rfl, by decide +kernel, rfl, by decide +kernel, by decide +kernel⟩
theorem ok__law_is_share (Fu : Fun K "_law_is_share" "_law_is_share" s__law_is_share f fd) (m_isinstance : mg "isinstance" = none) (m_len : mg "len" = none) (m_tuple : mg "tuple" = none) (c__law_whole : FnC P w K mg base cm 1 "_law_whole" F__law_whole) (c__law_gcd : FnC P w K mg base cm 1 "_law_gcd" F__law_gcd) : FnOk P w K mg base CX0 2 f fd ["share"] (spP K cm F__law_is_share) :=
  have scN := sc__law_is_share
  fn_ok Fu scN len__law_is_share w__law_is_share k__law_is_share fun cdv A outer s H E hr =>
  (jss_cons (js_if (JW.t (jw_or (jt_not (jt_val (je_isi (T := "tuple") (by decide +kernel) (by rfl) m_isinstance (by rfl) m_tuple (by decide +kernel) (je_var 0)))) (jw_or1 (jt_cmp (p2_ne hr.units) (je_b1 p1_len (by rfl) m_len (by decide +kernel) (je_var 0)) je_int))))
  (jss_one (js_ret je_bl))
  jss_nil)
  (jss_cons (js_if (JW.t (jw_or (jt_not (jt_val (je_call c__law_whole (hr.mono (by decide)) (by rfl) (ja_cons (je_ix (je_var 0) je_int) ja_nil)))) (jw_or (jt_not (jt_val (je_call c__law_whole (hr.mono (by decide)) (by rfl) (ja_cons (je_ix (je_var 0) je_int) ja_nil)))) (jw_or1 (jt_cmp p2_lt (je_ix (je_var 0) je_int) je_int)))))
  (jss_one (js_ret je_bl))
  jss_nil)
  (jss_one (js_ret (je_cmp (p2_eq hr.units) (je_call c__law_gcd (hr.mono (by decide)) (by rfl) (ja_cons (je_ix (je_var 0) je_int) (ja_cons (je_ix (je_var 0) je_int) ja_nil))) je_int)))))
theorem sc__law_exactly : FnScope ["told", "top", "bottom"] ["told", "top", "bottom"] (defScope s__law_exactly) := ⟨rfl, rfl, rfl, by decide +kernel, rfl, by decide +kernel, by decide +kernel⟩
theorem ok__law_exactly (Fu : Fun K "_law_exactly" "_law_exactly" s__law_exactly f fd)  (c__law_is_share : FnC P w K mg base cm 2 "_law_is_share" F__law_is_share) : FnOk P w K mg base CX0 3 f fd ["told", "top", "bottom"] (spP K cm F__law_exactly) :=
  have scN := sc__law_exactly
  fn_ok Fu scN len__law_exactly w__law_exactly k__law_exactly fun cdv A outer s H E hr =>
  (jss_one (js_ret (je_and (je_call c__law_is_share (hr.mono (by decide)) (by rfl) (ja_cons (je_var 0) ja_nil)) (je_one (je_cmp (p2_eq hr.units) (je_bin p2_mul (je_ix (je_var 0) je_int) (je_var 2)) (je_bin p2_mul (je_var 1) (je_ix (je_var 0) je_int)))))))
theorem sc__law_least : FnScope ["numbers", "bottom", "bound", "ordered", "full", "top"] ["numbers", "bottom", "bound"] (defScope s__law_least) := ⟨rfl, rfl, rfl, by decide +kernel, rfl, by decide +kernel, by decide +kernel⟩
theorem ok__law_least (Fu : Fun K "_law_least" "_law_least" s__law_least f fd) (m_len : mg "len" = none) (m_sorted : mg "sorted" = none) (m_sum : mg "sum" = none)  : FnOk P w K mg base CX0 1 f fd ["numbers", "bottom", "bound"] (spP K cm F__law_least) :=
  have scN := sc__law_least
  fn_ok Fu scN len__law_least w__law_least k__law_least fun cdv A outer s H E hr =>
  (jss_cons (js_asg 3 scN.nd (je_b1 (p1_sorted hr.units) (by rfl) m_sorted (by decide +kernel) (je_var 0)))
  (jss_frz 3 (jss_cons (js_if (jt_isN (je_var 2))
  (jss_one (js_ret (je_lst (ja_cons (je_ix (je_var 3) je_int) (ja_cons (je_var 1) ja_nil)))))
  jss_nil)
  (jss_cons (js_asg 4 scN.nd (je_bin p2_div (je_ix (je_var 2) je_int) (je_ix (je_var 2) je_int)))
  (jss_cons (js_asg 5 scN.nd (je_bin p2_mul (je_b1 (p1_sum rfl) (by rfl) m_sum (by decide +kernel) (je_slice (je_var 3) jo_none (jo_some (je_var 4)))) (je_ix (je_var 2) je_int)))
  (jss_cons (js_if (jt_cmp p2_lt (je_var 4) (je_b1 p1_len (by rfl) m_len (by decide +kernel) (je_var 3)))
  (jss_one (js_asg 5 scN.nd (je_bin p2_add (je_var 5) (je_bin p2_mul (je_ix (je_var 3) (je_var 4)) (je_bin p2_sub (je_ix (je_var 2) je_int) (je_bin p2_mul (je_var 4) (je_ix (je_var 2) je_int)))))))
  jss_nil)
  (jss_one (js_ret (je_lst (ja_cons (je_var 5) (ja_cons (je_bin p2_mul (je_ix (je_var 2) je_int) (je_var 1)) ja_nil)))))))))))
theorem sc__law_bound : FnScope ["script", "at", "places", "limit", "digits", "bottom", "spread"] ["script", "at", "places"] (defScope s__law_bound) := ⟨rfl, rfl, rfl, by decide +kernel, rfl, by decide +kernel, by decide +kernel⟩
theorem ok__law_bound (Fu : Fun K "_law_bound" "_law_bound" s__law_bound f fd) (m_int : mg "int" = none) (c__law_digits : FnC P w K mg base cm 1 "_law_digits" F__law_digits) (c__law_cell : FnC P w K mg base cm 1 "_law_cell" F__law_cell) : FnOk P w K mg base CX0 2 f fd ["script", "at", "places"] (spP K cm F__law_bound) :=
  have scN := sc__law_bound
  fn_ok Fu scN len__law_bound w__law_bound k__law_bound fun cdv A outer s H E hr =>
  (jss_cons (js_asg 3 scN.nd (je_bin p2_shl je_int je_int))
  (jss_cons (js_if (jt_cmp p2_lt (je_var 2) je_int)
  (jss_one (js_asg 3 scN.nd (je_bin p2_shl je_int je_int)))
  jss_nil)
  (jss_cons (js_if (jt_cmp p2_lt (je_var 2) je_int)
  (jss_one (js_asg 3 scN.nd (je_bin p2_shl je_int je_int)))
  jss_nil)
  (jss_cons (js_asg 4 scN.nd (je_call c__law_digits (hr.mono (by decide)) (by rfl) (ja_cons (je_call c__law_cell (hr.mono (by decide)) (by rfl) (ja_cons (je_var 0) (ja_cons (je_var 1) ja_nil))) (ja_cons (je_lst (ja_cons je_int (ja_cons je_int (ja_cons je_int (ja_cons (je_var 3) (ja_cons (je_var 3) ja_nil)))))) ja_nil))))
  (jss_cons (js_if (jt_cmp p2_lt (je_ix (je_var 4) je_int) je_int)
  (jss_one (js_ret je_non))
  jss_nil)
  (jss_cons (js_if (jt_cmp (p2_eq hr.units) (je_ix (je_var 4) je_int) je_int)
  (jss_one (js_ret (je_lst (ja_cons (je_bin p2_add je_int (je_ix (je_var 4) je_int)) (ja_cons (je_bin p2_mul (je_bin p2_add je_int (je_ix (je_var 4) je_int)) (je_var 2)) ja_nil)))))
  jss_nil)
  (jss_cons (js_if (jt_cmp (p2_eq hr.units) (je_ix (je_var 4) je_int) je_int)
  (jss_one (js_ret (je_lst (ja_cons (je_bin p2_add je_int (je_ix (je_var 4) je_int)) (ja_cons (je_bin p2_mul (je_bin p2_add je_int (je_ix (je_var 4) je_int)) (je_bin p2_add je_int (je_bin p2_mod (je_ty1 p1_int (by rfl) m_int (by decide +kernel) (je_ix (je_var 4) je_int)) (je_var 2)))) ja_nil)))))
  jss_nil)
  (jss_cons (js_asg 5 scN.nd (je_bin p2_add je_int (je_ix (je_var 4) je_int)))
  (jss_cons (js_asg 6 scN.nd (je_var 5))
  (jss_cons (js_if (jt_cmp (p2_eq hr.units) (je_ix (je_var 4) je_int) je_int)
  (jss_cons (js_asg 5 scN.nd (je_bin p2_add je_int (je_ix (je_var 4) je_int)))
  (jss_one (js_asg 6 scN.nd (je_bin p2_div (je_var 5) je_int))))
  jss_nil)
  (jss_cons (js_if (jt_cmp (p2_eq hr.units) (je_ix (je_var 4) je_int) je_int)
  (jss_cons (js_asg 5 scN.nd (je_bin p2_sub (je_var 3) (je_ix (je_var 4) je_int)))
  (jss_one (js_asg 6 scN.nd (je_bin p2_div (je_var 5) je_int))))
  jss_nil)
  (jss_one (js_ret (je_lst (ja_cons (je_bin p2_add (je_bin p2_div (je_bin p2_sub (je_bin p2_add (je_var 5) (je_var 2)) je_int) (je_var 2)) (je_bin p2_mod (je_ty1 p1_int (by rfl) m_int (by decide +kernel) (je_ix (je_var 4) je_int)) (je_bin p2_add je_int (je_var 6)))) (ja_cons (je_var 5) ja_nil))))))))))))))))
theorem sc__law_payoffs : FnScope ["script", "at", "programs", "places", "shape", "digits", "rows", "k", "i", "j", "bits"] ["script", "at", "programs", "places", "shape"] (defScope s__law_payoffs) := ⟨rfl, rfl, rfl, by decide +kernel, rfl, by decide +kernel, by decide +kernel⟩
theorem ok__law_payoffs (Fu : Fun K "_law_payoffs" "_law_payoffs" s__law_payoffs f fd) (m_int : mg "int" = none) (m_list : mg "list" = none) (m_range : mg "range" = none) (m_sum : mg "sum" = none) (c__law_digits : FnC P w K mg base cm 1 "_law_digits" F__law_digits) (c__law_cell : FnC P w K mg base cm 1 "_law_cell" F__law_cell) : FnOk P w K mg base CX0 2 f fd ["script", "at", "programs", "places", "shape"] (spP K cm F__law_payoffs) :=
  have scN := sc__law_payoffs
  fn_ok Fu scN len__law_payoffs w__law_payoffs k__law_payoffs fun cdv A outer s H E hr =>
  (jss_cons (js_asg 5 scN.nd (je_call c__law_digits (hr.mono (by decide)) (by rfl) (ja_cons (je_call c__law_cell (hr.mono (by decide)) (by rfl) (ja_cons (je_var 0) (ja_cons (je_var 1) ja_nil))) (ja_cons (je_lc [("k", 7)] rfl scN.nd (ji_range1 (by rfl) m_range (je_bin p2_mul (je_var 2) (je_var 3))) (blk_by ["script", "at", "programs", "places", "shape", "digits", "rows", "k", "i", "j", "bits"] (defScope s__law_payoffs) (by decide +kernel)) (fun _ _ _ _ _ => (jg_name 7 scN.nd)) (by decide) (fun _ _ _ _ _ => jts_nil) (fun _ _ _ _ _ => je_int)) ja_nil))))
  (jss_cons (js_asgM 6 scN.nd (jm_lc [("i", 8)] rfl scN.nd (ji_range1 (by rfl) m_range (je_var 2)) (blk_by ["script", "at", "programs", "places", "shape", "digits", "rows", "k", "i", "j", "bits"] (defScope s__law_payoffs) (by decide +kernel)) (fun _ _ _ _ _ => (jg_name 8 scN.nd)) (by decide) (fun _ _ _ _ _ => jts_nil) (fun _ _ _ _ _ => (je_lc [("j", 9)] rfl scN.nd (ji_range1 (by rfl) m_range (je_var 3)) (blk_by ["script", "at", "programs", "places", "shape", "digits", "rows", "k", "i", "j", "bits"] (relS _ (defScope s__law_payoffs)) (by decide +kernel)) (fun _ _ _ _ _ => (jg_name 9 scN.nd)) (by decide) (fun _ _ _ _ _ => jts_nil) (fun _ _ _ _ _ => (je_ty1 p1_int (by rfl) m_int (by decide +kernel) (je_cmp p2_lt (je_ix (je_var 5) (je_bin p2_add (je_bin p2_mul (je_var 3) (je_var 8)) (je_var 9))) (je_bin p2_add je_int (je_ix (je_var 4) je_int)))))))))
  (jss_cons (js_if (jt_cmp p2_lt (je_ix (je_var 4) je_int) je_int)
  (jss_one (js_asgM 6 scN.nd (jm_lc [("i", 8)] rfl scN.nd (ji_range1 (by rfl) m_range (je_var 2)) (blk_by ["script", "at", "programs", "places", "shape", "digits", "rows", "k", "i", "j", "bits"] (defScope s__law_payoffs) (by decide +kernel)) (fun _ _ _ _ _ => (jg_name 8 scN.nd)) (by decide) (fun _ _ _ _ _ => jts_nil) (fun _ _ _ _ _ => (je_look (je_lc [("j", 9)] rfl scN.nd (ji_range1 (by rfl) m_range (je_var 3)) (blk_by ["script", "at", "programs", "places", "shape", "digits", "rows", "k", "i", "j", "bits"] (relS _ (defScope s__law_payoffs)) (by decide +kernel)) (fun _ _ _ _ _ => (jg_name 9 scN.nd)) (by decide) (fun _ _ _ _ _ => jts_nil) (fun _ _ _ _ _ => (je_ix (je_ix (je_var 6) je_int) (je_bin p2_mod (je_ty1 p1_int (by rfl) m_int (by decide +kernel) (je_bin p2_add (je_var 9) (je_var 8))) (je_var 3))))))))))
  jss_nil)
  (jss_cons (js_if (jt_cmp (p2_eq hr.units) (je_ix (je_var 4) je_int) je_int)
  (jss_cons (js_putR 6 (je_look (je_ty1 p1_list (by rfl) m_list (by decide +kernel) (je_ix (je_var 6) (je_bin p2_mod (je_ty1 p1_int (by rfl) m_int (by decide +kernel) (je_ix (je_var 4) je_int)) (je_var 2))))) (je_bin p2_mod (je_ty1 p1_int (by rfl) m_int (by decide +kernel) (je_ix (je_var 4) je_int)) (je_var 2)))
  (jss_one (js_for PassesOwn.never rfl (ji_range1 (by rfl) m_range (je_var 2)) (jg_name 8 scN.nd)
  (jss_one (js_putM 6 (je_look (je_ix (je_ix (je_var 6) (je_var 8)) (je_bin p2_mod (je_ty1 p1_int (by rfl) m_int (by decide +kernel) (je_ix (je_var 4) je_int)) (je_var 3)))) (je_var 8) (je_bin p2_mod (je_ty1 p1_int (by rfl) m_int (by decide +kernel) (je_ix (je_var 4) je_int)) (je_var 3)))))))
  jss_nil)
  (jss_cons (js_if (JW.t (jw_or (jt_cmp (p2_eq hr.units) (je_ix (je_var 4) je_int) je_int) (jw_or (jt_cmp (p2_eq hr.units) (je_var 2) je_int) (jw_or1 (jt_cmp (p2_eq hr.units) (je_var 3) je_int)))))
  (jss_frz 6 (jss_one (js_ret (je_var 6))))
  jss_nil)
  (jss_cons (js_for PassesOwn.never rfl (ji_range1 (by rfl) m_range je_int) (jg_name 7 scN.nd)
  (jss_cons (js_for PassesOwn.never rfl (ji_range1 (by rfl) m_range (je_var 2)) (jg_name 8 scN.nd)
  (jss_one (js_if (jt_look (jt_cmp (p2_eq hr.units) (je_b1 (p1_sum rfl) (by rfl) m_sum (by decide +kernel) (je_ix (je_var 6) (je_var 8))) (je_var 3)))
  (jss_one (js_putM 6 je_int (je_var 8) (je_bin p2_mod (je_ty1 p1_int (by rfl) m_int (by decide +kernel) (je_bin p2_add (je_bin p2_add (je_var 8) (je_ix (je_var 4) je_int)) (je_var 7))) (je_var 3))))
  jss_nil)))
  (jss_one (js_for PassesOwn.never rfl (ji_range1 (by rfl) m_range (je_var 3)) (jg_name 9 scN.nd)
  (jss_one (js_if (jt_look (jt_cmp (p2_eq hr.units) (je_b1 (p1_sum rfl) (by rfl) m_sum (by decide +kernel) (je_lc [("bits", 10)] rfl scN.nd (ji_seq (je_var 6)) (blk_by ["script", "at", "programs", "places", "shape", "digits", "rows", "k", "i", "j", "bits"] (defScope s__law_payoffs) (by decide +kernel)) (fun _ _ _ _ _ => (jg_name 10 scN.nd)) (by decide) (fun _ _ _ _ _ => jts_nil) (fun _ _ _ _ _ => (je_ix (je_var 10) (je_var 9))))) je_int))
  (jss_one (js_putM 6 je_int (je_bin p2_mod (je_ty1 p1_int (by rfl) m_int (by decide +kernel) (je_bin p2_add (je_bin p2_add (je_var 9) (je_ix (je_var 4) je_int)) (je_var 7))) (je_var 2)) (je_var 9)))
  jss_nil))))))
  (jss_frz 6 (jss_one (js_ret (je_var 6))))))))))
theorem sc__law_drawn : FnScope ["script", "at", "count", "limit", "digits", "parts", "total", "shares", "k", "times_k", "common_k"] ["script", "at", "count"] (defScope s__law_drawn) := ⟨rfl, rfl, rfl, by decide +kernel, rfl, by decide +kernel, by decide +kernel⟩
theorem ok__law_drawn (Fu : Fun K "_law_drawn" "_law_drawn" s__law_drawn f fd) (m_int : mg "int" = none) (m_range : mg "range" = none) (m_sum : mg "sum" = none) (c__law_digits : FnC P w K mg base cm 1 "_law_digits" F__law_digits) (c__law_cell : FnC P w K mg base cm 1 "_law_cell" F__law_cell) (c__law_gcd : FnC P w K mg base cm 1 "_law_gcd" F__law_gcd) : FnOk P w K mg base CX0 2 f fd ["script", "at", "count"] (spP K cm F__law_drawn) :=
  have scN := sc__law_drawn
  fn_ok Fu scN len__law_drawn w__law_drawn k__law_drawn fun cdv A outer s H E hr =>
  (jss_cons (js_asg 3 scN.nd (je_bin p2_shl je_int je_int))
  (jss_cons (js_asg 4 scN.nd (je_call c__law_digits (hr.mono (by decide)) (by rfl) (ja_cons (je_call c__law_cell (hr.mono (by decide)) (by rfl) (ja_cons (je_var 0) (ja_cons (je_var 1) ja_nil))) (ja_cons (je_bin p2_add (je_bin p2_add (je_lst (ja_cons je_int (ja_cons je_int (ja_cons je_int ja_nil)))) (je_lc [("k", 8)] rfl scN.nd (ji_range1 (by rfl) m_range (je_var 2)) (blk_by ["script", "at", "count", "limit", "digits", "parts", "total", "shares", "k", "times_k", "common_k"] (defScope s__law_drawn) (by decide +kernel)) (fun _ _ _ _ _ => (jg_name 8 scN.nd)) (by decide) (fun _ _ _ _ _ => jts_nil) (fun _ _ _ _ _ => (je_var 3)))) (je_lc [("k", 8)] rfl scN.nd (ji_range1 (by rfl) m_range (je_var 2)) (blk_by ["script", "at", "count", "limit", "digits", "parts", "total", "shares", "k", "times_k", "common_k"] (defScope s__law_drawn) (by decide +kernel)) (fun _ _ _ _ _ => (jg_name 8 scN.nd)) (by decide) (fun _ _ _ _ _ => jts_nil) (fun _ _ _ _ _ => je_int))) ja_nil))))
  (jss_cons (js_asgLc 5 [("k", 8)] rfl scN.nd rfl rfl (sw_true rfl rfl rfl (by decide +kernel)) (ji_range1 (by rfl) m_range (je_var 2)) (blk_by ["script", "at", "count", "limit", "digits", "parts", "total", "shares", "k", "times_k", "common_k"] (defScope s__law_drawn) (by decide +kernel)) (fun _ _ _ _ _ => (jg_name 8 scN.nd)) (by decide) (fun _ _ _ _ _ => jts_nil) (fun _ _ _ _ _ => (je_bin p2_mod (je_ty1 p1_int (by rfl) m_int (by decide +kernel) (je_ix (je_var 4) (je_bin p2_add je_int (je_var 8)))) je_int)))
  (jss_cons (js_if (JW.t (jw_or (jt_cmp (p2_eq hr.units) (je_ix (je_var 4) je_int) je_int) (jw_or1 (jt_cmp (p2_eq hr.units) (je_ix (je_var 4) je_int) je_int))))
  (jss_one (js_asgLc 5 [("k", 8)] rfl scN.nd rfl rfl (sw_true rfl rfl rfl (by decide +kernel)) (ji_range1 (by rfl) m_range (je_var 2)) (blk_by ["script", "at", "count", "limit", "digits", "parts", "total", "shares", "k", "times_k", "common_k"] (defScope s__law_drawn) (by decide +kernel)) (fun _ _ _ _ _ => (jg_name 8 scN.nd)) (by decide) (fun _ _ _ _ _ => jts_nil) (fun _ _ _ _ _ => (je_bin p2_mod (je_ty1 p1_int (by rfl) m_int (by decide +kernel) (je_ix (je_var 4) (je_bin p2_add je_int (je_var 8)))) je_int))))
  jss_nil)
  (jss_cons (js_if (jt_cmp (p2_eq hr.units) (je_ix (je_var 4) je_int) je_int)
  (jss_one (js_asgLc 5 [("k", 8)] rfl scN.nd rfl rfl (sw_true rfl rfl rfl (by decide +kernel)) (ji_range1 (by rfl) m_range (je_var 2)) (blk_by ["script", "at", "count", "limit", "digits", "parts", "total", "shares", "k", "times_k", "common_k"] (defScope s__law_drawn) (by decide +kernel)) (fun _ _ _ _ _ => (jg_name 8 scN.nd)) (by decide) (fun _ _ _ _ _ => jts_nil) (fun _ _ _ _ _ => (je_ix (je_var 4) (je_bin p2_add je_int (je_var 8))))))
  jss_nil)
  (jss_cons (js_if (jt_cmp (p2_eq hr.units) (je_ix (je_var 4) je_int) je_int)
  (jss_one (js_asgLc 5 [("k", 8)] rfl scN.nd rfl rfl (sw_true rfl rfl rfl (by decide +kernel)) (ji_range1 (by rfl) m_range (je_var 2)) (blk_by ["script", "at", "count", "limit", "digits", "parts", "total", "shares", "k", "times_k", "common_k"] (defScope s__law_drawn) (by decide +kernel)) (fun _ _ _ _ _ => (jg_name 8 scN.nd)) (by decide) (fun _ _ _ _ _ => jts_nil) (fun _ _ _ _ _ => (je_bin p2_sub (je_var 3) (je_ix (je_var 4) (je_bin p2_add je_int (je_var 8)))))))
  jss_nil)
  (jss_cons (js_if (jt_cmp (p2_eq hr.units) (je_ix (je_var 4) je_int) je_int)
  (jss_one (js_asgLc 5 [("k", 8)] rfl scN.nd rfl rfl (sw_true rfl rfl rfl (by decide +kernel)) (ji_range1 (by rfl) m_range (je_var 2)) (blk_by ["script", "at", "count", "limit", "digits", "parts", "total", "shares", "k", "times_k", "common_k"] (defScope s__law_drawn) (by decide +kernel)) (fun _ _ _ _ _ => (jg_name 8 scN.nd)) (by decide) (fun _ _ _ _ _ => jts_nil) (fun _ _ _ _ _ => je_int)))
  jss_nil)
  (jss_cons (js_if (jt_cmp (p2_eq hr.units) (je_b1 (p1_sum rfl) (by rfl) m_sum (by decide +kernel) (je_var 5)) je_int)
  (jss_one (js_put 5 je_int (je_bin p2_mod (je_ty1 p1_int (by rfl) m_int (by decide +kernel) (je_ix (je_var 4) je_int)) (je_var 2))))
  jss_nil)
  (jss_cons (js_asg 6 scN.nd (je_b1 (p1_sum rfl) (by rfl) m_sum (by decide +kernel) (je_var 5)))
  (jss_cons (js_asg 7 scN.nd (je_lst ja_nil))
  (jss_cons (js_for PassesOwn.never rfl (ji_range1 (by rfl) m_range (je_var 2)) (jg_name 8 scN.nd)
  (jss_cons (js_asg 9 scN.nd (je_bin p2_add je_int (je_ix (je_var 4) (je_bin p2_add (je_bin p2_add je_int (je_var 2)) (je_var 8)))))
  (jss_cons (js_app 7 (je_lst (ja_cons (je_bin p2_mul (je_ix (je_var 5) (je_var 8)) (je_var 9)) (ja_cons (je_bin p2_mul (je_var 6) (je_var 9)) ja_nil))))
  (jss_one (js_if (jt_cmp (p2_eq hr.units) (je_ix (je_var 4) je_int) je_int)
  (jss_cons (js_asg 10 scN.nd (je_call c__law_gcd (hr.mono (by decide)) (by rfl) (ja_cons (je_ix (je_var 5) (je_var 8)) (ja_cons (je_var 6) ja_nil))))
  (jss_one (js_put 7 (je_lst (ja_cons (je_bin p2_div (je_ix (je_var 5) (je_var 8)) (je_var 10)) (ja_cons (je_bin p2_div (je_var 6) (je_var 10)) ja_nil))) (je_var 8))))
  jss_nil)))))
  (jss_frz 7 (jss_frz 5 (jss_one (js_ret (je_lst (ja_cons (je_var 5) (ja_cons (je_var 6) (ja_cons (je_var 7) ja_nil)))))))))))))))))))
theorem sc__law_filled : FnScope ["places_in_order", "bound", "parts", "left", "place", "k"] ["places_in_order", "bound"] (defScope s__law_filled) := ⟨rfl, rfl, rfl, by decide +kernel, rfl, by decide +kernel, by decide +kernel⟩
theorem ok__law_filled (Fu : Fun K "_law_filled" "_law_filled" s__law_filled f fd) (m_min : mg "min" = none)  : FnOk P w K mg base CX0 1 f fd ["places_in_order", "bound"] (spP K cm F__law_filled) :=
  have scN := sc__law_filled
  fn_ok Fu scN len__law_filled w__law_filled k__law_filled fun cdv A outer s H E hr =>
  (jss_cons (js_asgLc 2 [("k", 5)] rfl scN.nd rfl rfl (sw_true rfl rfl rfl (by decide +kernel)) (ji_seq (je_var 0)) (blk_by ["places_in_order", "bound", "parts", "left", "place", "k"] (defScope s__law_filled) (by decide +kernel)) (fun _ _ _ _ _ => (jg_name 5 scN.nd)) (by decide) (fun _ _ _ _ _ => jts_nil) (fun _ _ _ _ _ => je_int))
  (jss_cons (js_asg 3 scN.nd (je_ix (je_var 1) je_int))
  (jss_cons (js_for PassesOwn.never rfl (ji_seq (je_var 0)) (jg_name 4 scN.nd)
  (jss_cons (js_put 2 (je_b2 (p2c_min rfl) (by rfl) m_min (by decide +kernel) (je_var 3) (je_ix (je_var 1) je_int)) (je_var 4))
  (jss_one (js_asg 3 scN.nd (je_bin p2_sub (je_var 3) (je_ix (je_var 2) (je_var 4)))))))
  (jss_frz 2 (jss_one (js_ret (je_var 2)))))))
theorem sc__law_lot_told : FnScope ["payoffs", "shares", "way", "handed", "given", "told", "bits", "pair"] ["payoffs", "shares", "way"] (defScope s__law_lot_told) := ⟨rfl, rfl, rfl, by decide +kernel, rfl, by decide +kernel, by decide +kernel⟩
theorem ok__law_lot_told (Fu : Fun K "_law_lot_told" "_law_lot_told" s__law_lot_told f fd) (m_int : mg "int" = none) (m_list : mg "list" = none) (m_tuple : mg "tuple" = none) (c_lot_value : FnC P w K mg base cm 4 "lot_value" F_lot_value) : FnOk P w K mg base CX0 5 f fd ["payoffs", "shares", "way"] (spP K cm F__law_lot_told) :=
  have scN := sc__law_lot_told
  fn_ok Fu scN len__law_lot_told w__law_lot_told k__law_lot_told fun cdv A outer s H E hr =>
  (jss_cons (js_asgLc 3 [("bits", 6)] rfl scN.nd rfl rfl (sw_true rfl rfl rfl (by decide +kernel)) (ji_seq (je_var 0)) (blk_by ["payoffs", "shares", "way", "handed", "given", "told", "bits", "pair"] (defScope s__law_lot_told) (by decide +kernel)) (fun _ _ _ _ _ => (jg_name 6 scN.nd)) (by decide) (fun _ _ _ _ _ => jts_nil) (fun _ _ _ _ _ => (je_ty1 p1_list (by rfl) m_list (by decide +kernel) (je_var 6))))
  (jss_frz 3 (jss_cons (js_asgLc 4 [("pair", 7)] rfl scN.nd rfl rfl (sw_true rfl rfl rfl (by decide +kernel)) (ji_seq (je_var 1)) (blk_by ["payoffs", "shares", "way", "handed", "given", "told", "bits", "pair"] (defScope s__law_lot_told) (by decide +kernel)) (fun _ _ _ _ _ => (jg_name 7 scN.nd)) (by decide) (fun _ _ _ _ _ => jts_nil) (fun _ _ _ _ _ => (je_ty1 p1_list (by rfl) m_list (by decide +kernel) (je_var 7))))
  (jss_frz 4 (jss_cons (js_if (jt_cmp (p2_eq hr.units) (je_bin p2_mod (je_ty1 p1_int (by rfl) m_int (by decide +kernel) (je_var 2)) je_int) je_int)
  (jss_cons (js_asgLc 3 [("bits", 6)] rfl scN.nd rfl rfl (sw_true rfl rfl rfl (by decide +kernel)) (ji_seq (je_var 0)) (blk_by ["payoffs", "shares", "way", "handed", "given", "told", "bits", "pair"] (defScope s__law_lot_told) (by decide +kernel)) (fun _ _ _ _ _ => (jg_name 6 scN.nd)) (by decide) (fun _ _ _ _ _ => jts_nil) (fun _ _ _ _ _ => (je_ty1 p1_tuple (by rfl) m_tuple (by decide +kernel) (je_var 6))))
  (jss_frz 3 (jss_one (js_asgLc 4 [("pair", 7)] rfl scN.nd rfl rfl (sw_true rfl rfl rfl (by decide +kernel)) (ji_seq (je_var 1)) (blk_by ["payoffs", "shares", "way", "handed", "given", "told", "bits", "pair"] (defScope s__law_lot_told) (by decide +kernel)) (fun _ _ _ _ _ => (jg_name 7 scN.nd)) (by decide) (fun _ _ _ _ _ => jts_nil) (fun _ _ _ _ _ => (je_ty1 p1_tuple (by rfl) m_tuple (by decide +kernel) (je_var 7)))))))
  jss_nil)
  (jss_frz 4 (jss_cons (js_asg 5 scN.nd (je_call c_lot_value (hr.mono (by decide)) (by rfl) (ja_cons (je_var 3) (ja_cons (je_var 4) ja_nil))))
  (jss_cons (js_if (JW.t (jw_or (jt_cmp (p2_ne hr.units) (je_lc [("bits", 6)] rfl scN.nd (ji_seq (je_var 3)) (blk_by ["payoffs", "shares", "way", "handed", "given", "told", "bits", "pair"] (defScope s__law_lot_told) (by decide +kernel)) (fun _ _ _ _ _ => (jg_name 6 scN.nd)) (by decide) (fun _ _ _ _ _ => jts_nil) (fun _ _ _ _ _ => (je_ty1 p1_list (by rfl) m_list (by decide +kernel) (je_var 6)))) (je_var 0)) (jw_or1 (jt_cmp (p2_ne hr.units) (je_lc [("pair", 7)] rfl scN.nd (ji_seq (je_var 4)) (blk_by ["payoffs", "shares", "way", "handed", "given", "told", "bits", "pair"] (defScope s__law_lot_told) (by decide +kernel)) (fun _ _ _ _ _ => (jg_name 7 scN.nd)) (by decide) (fun _ _ _ _ _ => jts_nil) (fun _ _ _ _ _ => (je_ty1 p1_list (by rfl) m_list (by decide +kernel) (je_var 7)))) (je_var 1)))))
  (jss_one (js_ret je_non))
  jss_nil)
  (jss_one (js_ret (je_var 5)))))))))))
theorem sc__law_mix_told : FnScope ["payoffs", "shares", "bound", "way", "handed", "given", "told", "limit", "bits", "pair"] ["payoffs", "shares", "bound", "way"] (defScope s__law_mix_told) := ⟨rfl, rfl, rfl, by decide +kernel, rfl, by decide +kernel, by decide +kernel⟩
theorem ok__law_mix_told (Fu : Fun K "_law_mix_told" "_law_mix_told" s__law_mix_told f fd) (m_int : mg "int" = none) (m_list : mg "list" = none) (m_tuple : mg "tuple" = none) (d_mix_value : FnD P w K mg base cm 3 "mix_value" [.non] F_mix_value) (k_mix_value : FnK P w K mg base cm 3 "mix_value" 2 ["most"] F_mix_value) : FnOk P w K mg base CX0 4 f fd ["payoffs", "shares", "bound", "way"] (spP K cm F__law_mix_told) :=
  have scN := sc__law_mix_told
  fn_ok Fu scN len__law_mix_told w__law_mix_told k__law_mix_told fun cdv A outer s H E hr =>
  (jss_cons (js_asg 4 scN.nd (je_ty1 p1_tuple (by rfl) m_tuple (by decide +kernel) (je_lc [("bits", 8)] rfl scN.nd (ji_seq (je_var 0)) (blk_by ["payoffs", "shares", "bound", "way", "handed", "given", "told", "limit", "bits", "pair"] (defScope s__law_mix_told) (by decide +kernel)) (fun _ _ _ _ _ => (jg_name 8 scN.nd)) (by decide) (fun _ _ _ _ _ => jts_nil) (fun _ _ _ _ _ => (je_ty1 p1_list (by rfl) m_list (by decide +kernel) (je_var 8))))))
  (jss_cons (js_asg 5 scN.nd (je_ty1 p1_tuple (by rfl) m_tuple (by decide +kernel) (je_lc [("pair", 9)] rfl scN.nd (ji_seq (je_var 1)) (blk_by ["payoffs", "shares", "bound", "way", "handed", "given", "told", "limit", "bits", "pair"] (defScope s__law_mix_told) (by decide +kernel)) (fun _ _ _ _ _ => (jg_name 9 scN.nd)) (by decide) (fun _ _ _ _ _ => jts_nil) (fun _ _ _ _ _ => (je_ty1 p1_list (by rfl) m_list (by decide +kernel) (je_var 9))))))
  (jss_cons (js_if (jt_cmp (p2_eq hr.units) (je_bin p2_mod (je_ty1 p1_int (by rfl) m_int (by decide +kernel) (je_var 3)) je_int) je_int)
  (jss_cons (js_asg 4 scN.nd (je_ty1 p1_tuple (by rfl) m_tuple (by decide +kernel) (je_lc [("bits", 8)] rfl scN.nd (ji_seq (je_var 0)) (blk_by ["payoffs", "shares", "bound", "way", "handed", "given", "told", "limit", "bits", "pair"] (defScope s__law_mix_told) (by decide +kernel)) (fun _ _ _ _ _ => (jg_name 8 scN.nd)) (by decide) (fun _ _ _ _ _ => jts_nil) (fun _ _ _ _ _ => (je_ty1 p1_tuple (by rfl) m_tuple (by decide +kernel) (je_var 8))))))
  (jss_one (js_asg 5 scN.nd (je_ty1 p1_tuple (by rfl) m_tuple (by decide +kernel) (je_lc [("pair", 9)] rfl scN.nd (ji_seq (je_var 1)) (blk_by ["payoffs", "shares", "bound", "way", "handed", "given", "told", "limit", "bits", "pair"] (defScope s__law_mix_told) (by decide +kernel)) (fun _ _ _ _ _ => (jg_name 9 scN.nd)) (by decide) (fun _ _ _ _ _ => jts_nil) (fun _ _ _ _ _ => (je_ty1 p1_tuple (by rfl) m_tuple (by decide +kernel) (je_var 9))))))))
  jss_nil)
  (jss_cons (js_if (JW.t (jw_and (jt_isN (je_var 2)) (jw_and1 (jt_cmp p2_lt (je_var 3) je_int))))
  (jss_one (js_asg 6 scN.nd (je_callD d_mix_value (hr.mono (by decide)) (by rfl) (ja_cons (je_var 4) (ja_cons (je_var 5) ja_nil)))))
  (jss_one (js_if (jt_isN (je_var 2))
  (jss_one (js_asg 6 scN.nd (je_callK k_mix_value (hr.mono (by decide)) (by rfl) (ja_cons (je_var 4) (ja_cons (je_var 5) ja_nil)) (jk_cons je_non jk_nil))))
  (jss_cons (js_asg 7 scN.nd (je_ty1 p1_list (by rfl) m_list (by decide +kernel) (je_var 2)))
  (jss_frz 7 (jss_cons (js_if (jt_cmp p2_gt (je_var 3) je_int)
  (jss_one (js_asg 7 scN.nd (je_ty1 p1_tuple (by rfl) m_tuple (by decide +kernel) (je_var 2))))
  jss_nil)
  (jss_cons (js_asg 6 scN.nd (je_callK k_mix_value (hr.mono (by decide)) (by rfl) (ja_cons (je_var 4) (ja_cons (je_var 5) ja_nil)) (jk_cons (je_var 7) jk_nil)))
  (jss_one (js_if (jt_cmp (p2_ne hr.units) (je_ty1 p1_list (by rfl) m_list (by decide +kernel) (je_var 7)) (je_var 2))
  (jss_one (js_ret je_non))
  jss_nil)))))))))
  (jss_cons (js_if (JW.t (jw_or (jt_cmp (p2_ne hr.units) (je_lc [("bits", 8)] rfl scN.nd (ji_seq (je_var 4)) (blk_by ["payoffs", "shares", "bound", "way", "handed", "given", "told", "limit", "bits", "pair"] (defScope s__law_mix_told) (by decide +kernel)) (fun _ _ _ _ _ => (jg_name 8 scN.nd)) (by decide) (fun _ _ _ _ _ => jts_nil) (fun _ _ _ _ _ => (je_ty1 p1_list (by rfl) m_list (by decide +kernel) (je_var 8)))) (je_var 0)) (jw_or1 (jt_cmp (p2_ne hr.units) (je_lc [("pair", 9)] rfl scN.nd (ji_seq (je_var 5)) (blk_by ["payoffs", "shares", "bound", "way", "handed", "given", "told", "limit", "bits", "pair"] (defScope s__law_mix_told) (by decide +kernel)) (fun _ _ _ _ _ => (jg_name 9 scN.nd)) (by decide) (fun _ _ _ _ _ => jts_nil) (fun _ _ _ _ _ => (je_ty1 p1_list (by rfl) m_list (by decide +kernel) (je_var 9)))) (je_var 1)))))
  (jss_one (js_ret je_non))
  jss_nil)
  (jss_one (js_ret (je_var 6))))))))
theorem sc__law_most_right : FnScope ["payoffs", "parts", "bits", "j"] ["payoffs", "parts"] (defScope s__law_most_right) := ⟨rfl, rfl, rfl, by decide +kernel, rfl, by decide +kernel, by decide +kernel⟩
theorem ok__law_most_right (Fu : Fun K "_law_most_right" "_law_most_right" s__law_most_right f fd) (m_len : mg "len" = none) (m_max : mg "max" = none) (m_range : mg "range" = none) (m_sum : mg "sum" = none)  : FnOk P w K mg base CX0 1 f fd ["payoffs", "parts"] (spP K cm F__law_most_right) :=
  have scN := sc__law_most_right
  fn_ok Fu scN len__law_most_right w__law_most_right k__law_most_right fun cdv A outer s H E hr =>
  (jss_one (js_ret (je_b1 (p1_max rfl) (by rfl) m_max (by decide +kernel) (je_lc [("bits", 2)] rfl scN.nd (ji_seq (je_var 0)) (blk_by ["payoffs", "parts", "bits", "j"] (defScope s__law_most_right) (by decide +kernel)) (fun _ _ _ _ _ => (jg_name 2 scN.nd)) (by decide) (fun _ _ _ _ _ => jts_nil) (fun _ _ _ _ _ => (je_b1 (p1_sum rfl) (by rfl) m_sum (by decide +kernel) (je_lc [("j", 3)] rfl scN.nd (ji_range1 (by rfl) m_range (je_b1 p1_len (by rfl) m_len (by decide +kernel) (je_var 2))) (blk_by ["payoffs", "parts", "bits", "j"] (relS _ (defScope s__law_most_right)) (by decide +kernel)) (fun _ _ _ _ _ => (jg_name 3 scN.nd)) (by decide) (fun _ _ _ _ _ => jts_nil) (fun _ _ _ _ _ => (je_bin p2_mul (je_ix (je_var 1) (je_var 3)) (je_ix (je_var 2) (je_var 3)))))))))))
theorem sc_law : FnScope ["script", "shape", "programs", "places", "payoffs", "mix", "lot", "bound", "keys", "filled", "bottom", "way", "rights", "least", "told", "shares", "greatest_told", "turned", "least_turned", "middle", "j", "part", "bits", "k", "pair", "bit", "i"] ["script"] (defScope s_law) := ⟨rfl, rfl, rfl, by decide +kernel, rfl, by decide +kernel, by decide +kernel⟩
theorem ok_law (Fu : Fun K "law" "law" s_law f fd) (m_int : mg "int" = none) (m_min : mg "min" = none) (m_range : mg "range" = none) (m_sorted : mg "sorted" = none) (m_sum : mg "sum" = none) (c__law_digits : FnC P w K mg base cm 1 "_law_digits" F__law_digits) (c__law_cell : FnC P w K mg base cm 1 "_law_cell" F__law_cell) (c__law_payoffs : FnC P w K mg base cm 2 "_law_payoffs" F__law_payoffs) (c__law_drawn : FnC P w K mg base cm 2 "_law_drawn" F__law_drawn) (c__law_bound : FnC P w K mg base cm 2 "_law_bound" F__law_bound) (c__law_filled : FnC P w K mg base cm 1 "_law_filled" F__law_filled) (c__law_exactly : FnC P w K mg base cm 3 "_law_exactly" F__law_exactly) (c__law_lot_told : FnC P w K mg base cm 5 "_law_lot_told" F__law_lot_told) (c__law_most_right : FnC P w K mg base cm 1 "_law_most_right" F__law_most_right) (c__law_least : FnC P w K mg base cm 1 "_law_least" F__law_least) (c__law_mix_told : FnC P w K mg base cm 4 "_law_mix_told" F__law_mix_told) : FnOk P w K mg base CX0 6 f fd ["script"] (spP K cm F_law) :=
  have scN := sc_law
  fn_ok Fu scN len_law w_law k_law fun cdv A outer s H E hr =>
  (jss_cons (js_asg 1 scN.nd (je_call c__law_digits (hr.mono (by decide)) (by rfl) (ja_cons (je_call c__law_cell (hr.mono (by decide)) (by rfl) (ja_cons (je_var 0) (ja_cons je_int ja_nil))) (ja_cons (je_lst (ja_cons je_int (ja_cons je_int (ja_cons je_int (ja_cons je_int (ja_cons je_int (ja_cons je_int (ja_cons je_int (ja_cons je_int (ja_cons je_int (ja_cons je_int ja_nil))))))))))) ja_nil))))
  (jss_cons (js_asg 2 scN.nd (je_bin p2_add je_int (je_bin p2_mod (je_ty1 p1_int (by rfl) m_int (by decide +kernel) (je_ix (je_var 1) je_int)) je_int)))
  (jss_cons (js_asg 3 scN.nd (je_bin p2_add je_int (je_bin p2_mod (je_ty1 p1_int (by rfl) m_int (by decide +kernel) (je_ix (je_var 1) je_int)) je_int)))
  (jss_cons (js_if (jt_cmp p2_lt (je_ix (je_var 1) je_int) je_int)
  (jss_cons (js_asg 2 scN.nd (je_bin p2_add je_int (je_ix (je_var 1) je_int)))
  (jss_one (js_asg 3 scN.nd (je_bin p2_add je_int (je_ix (je_var 1) je_int)))))
  jss_nil)
  (jss_cons (js_if (jt_cmp (p2_eq hr.units) (je_ix (je_var 1) je_int) je_int)
  (jss_cons (js_asg 2 scN.nd (je_bin p2_add je_int (je_bin p2_mod (je_ty1 p1_int (by rfl) m_int (by decide +kernel) (je_ix (je_var 1) je_int)) je_int)))
  (jss_one (js_asg 3 scN.nd (je_bin p2_add je_int (je_bin p2_mod (je_ty1 p1_int (by rfl) m_int (by decide +kernel) (je_ix (je_var 1) je_int)) je_int)))))
  jss_nil)
  (jss_cons (js_asg 4 scN.nd (je_call c__law_payoffs (hr.mono (by decide)) (by rfl) (ja_cons (je_var 0) (ja_cons je_int (ja_cons (je_var 2) (ja_cons (je_var 3) (ja_cons (je_var 1) ja_nil)))))))
  (jss_cons (js_asg 5 scN.nd (je_call c__law_drawn (hr.mono (by decide)) (by rfl) (ja_cons (je_var 0) (ja_cons je_int (ja_cons (je_var 2) ja_nil)))))
  (jss_cons (js_asg 6 scN.nd (je_call c__law_drawn (hr.mono (by decide)) (by rfl) (ja_cons (je_var 0) (ja_cons je_int (ja_cons (je_var 3) ja_nil)))))
  (jss_cons (js_asg 7 scN.nd (je_call c__law_bound (hr.mono (by decide)) (by rfl) (ja_cons (je_var 0) (ja_cons je_int (ja_cons (je_var 3) ja_nil)))))
  (jss_cons (js_asg 8 scN.nd (je_call c__law_digits (hr.mono (by decide)) (by rfl) (ja_cons (je_call c__law_cell (hr.mono (by decide)) (by rfl) (ja_cons (je_var 0) (ja_cons je_int ja_nil))) (ja_cons (je_lc [("k", 23)] rfl scN.nd (ji_range1 (by rfl) m_range (je_var 3)) (blk_by ["script", "shape", "programs", "places", "payoffs", "mix", "lot", "bound", "keys", "filled", "bottom", "way", "rights", "least", "told", "shares", "greatest_told", "turned", "least_turned", "middle", "j", "part", "bits", "k", "pair", "bit", "i"] (defScope s_law) (by decide +kernel)) (fun _ _ _ _ _ => (jg_name 23 scN.nd)) (by decide) (fun _ _ _ _ _ => jts_nil) (fun _ _ _ _ _ => je_int)) ja_nil))))
  (jss_cons (js_asg 9 scN.nd (je_call c__law_filled (hr.mono (by decide)) (by rfl) (ja_cons (je_lc [("pair", 24)] rfl scN.nd (ji_seq (je_b1 (p1_sorted hr.units) (by rfl) m_sorted (by decide +kernel) (je_lc [("k", 23)] rfl scN.nd (ji_range1 (by rfl) m_range (je_var 3)) (blk_by ["script", "shape", "programs", "places", "payoffs", "mix", "lot", "bound", "keys", "filled", "bottom", "way", "rights", "least", "told", "shares", "greatest_told", "turned", "least_turned", "middle", "j", "part", "bits", "k", "pair", "bit", "i"] (defScope s_law) (by decide +kernel)) (fun _ _ _ _ _ => (jg_name 23 scN.nd)) (by decide) (fun _ _ _ _ _ => jts_nil) (fun _ _ _ _ _ => (je_lst (ja_cons (je_ix (je_var 8) (je_var 23)) (ja_cons (je_var 23) ja_nil))))))) (blk_by ["script", "shape", "programs", "places", "payoffs", "mix", "lot", "bound", "keys", "filled", "bottom", "way", "rights", "least", "told", "shares", "greatest_told", "turned", "least_turned", "middle", "j", "part", "bits", "k", "pair", "bit", "i"] (defScope s_law) (by decide +kernel)) (fun _ _ _ _ _ => (jg_name 24 scN.nd)) (by decide) (fun _ _ _ _ _ => jts_nil) (fun _ _ _ _ _ => (je_ix (je_var 24) je_int))) (ja_cons (je_lst (ja_cons je_int (ja_cons je_int ja_nil))) ja_nil))))
  (jss_cons (js_asg 10 scN.nd je_int)
  (jss_cons (js_if (jt_notN (je_var 7))
  (jss_cons (js_asg 10 scN.nd (je_ix (je_var 7) je_int))
  (jss_one (js_asg 9 scN.nd (je_call c__law_filled (hr.mono (by decide)) (by rfl) (ja_cons (je_lc [("pair", 24)] rfl scN.nd (ji_seq (je_b1 (p1_sorted hr.units) (by rfl) m_sorted (by decide +kernel) (je_lc [("k", 23)] rfl scN.nd (ji_range1 (by rfl) m_range (je_var 3)) (blk_by ["script", "shape", "programs", "places", "payoffs", "mix", "lot", "bound", "keys", "filled", "bottom", "way", "rights", "least", "told", "shares", "greatest_told", "turned", "least_turned", "middle", "j", "part", "bits", "k", "pair", "bit", "i"] (defScope s_law) (by decide +kernel)) (fun _ _ _ _ _ => (jg_name 23 scN.nd)) (by decide) (fun _ _ _ _ _ => jts_nil) (fun _ _ _ _ _ => (je_lst (ja_cons (je_ix (je_var 8) (je_var 23)) (ja_cons (je_var 23) ja_nil))))))) (blk_by ["script", "shape", "programs", "places", "payoffs", "mix", "lot", "bound", "keys", "filled", "bottom", "way", "rights", "least", "told", "shares", "greatest_told", "turned", "least_turned", "middle", "j", "part", "bits", "k", "pair", "bit", "i"] (defScope s_law) (by decide +kernel)) (fun _ _ _ _ _ => (jg_name 24 scN.nd)) (by decide) (fun _ _ _ _ _ => jts_nil) (fun _ _ _ _ _ => (je_ix (je_var 24) je_int))) (ja_cons (je_var 7) ja_nil))))))
  jss_nil)
  (jss_cons (js_asg 11 scN.nd (je_ix (je_var 1) je_int))
  (jss_cons (js_if (jt_not (jt_val (je_call c__law_exactly (hr.mono (by decide)) (by rfl) (ja_cons (je_call c__law_lot_told (hr.mono (by decide)) (by rfl) (ja_cons (je_var 4) (ja_cons (je_ix (je_var 6) je_int) (ja_cons (je_var 11) ja_nil)))) (ja_cons (je_call c__law_most_right (hr.mono (by decide)) (by rfl) (ja_cons (je_var 4) (ja_cons (je_ix (je_var 6) je_int) ja_nil))) (ja_cons (je_ix (je_var 6) je_int) ja_nil))))))
  (jss_one (js_ret je_bl))
  jss_nil)
  (jss_cons (js_asg 12 scN.nd (je_lc [("j", 20)] rfl scN.nd (ji_range1 (by rfl) m_range (je_var 3)) (blk_by ["script", "shape", "programs", "places", "payoffs", "mix", "lot", "bound", "keys", "filled", "bottom", "way", "rights", "least", "told", "shares", "greatest_told", "turned", "least_turned", "middle", "j", "part", "bits", "k", "pair", "bit", "i"] (defScope s_law) (by decide +kernel)) (fun _ _ _ _ _ => (jg_name 20 scN.nd)) (by decide) (fun _ _ _ _ _ => jts_nil) (fun _ _ _ _ _ => (je_b1 (p1_sum rfl) (by rfl) m_sum (by decide +kernel) (je_lc [("i", 26)] rfl scN.nd (ji_range1 (by rfl) m_range (je_var 2)) (blk_by ["script", "shape", "programs", "places", "payoffs", "mix", "lot", "bound", "keys", "filled", "bottom", "way", "rights", "least", "told", "shares", "greatest_told", "turned", "least_turned", "middle", "j", "part", "bits", "k", "pair", "bit", "i"] (relS _ (defScope s_law)) (by decide +kernel)) (fun _ _ _ _ _ => (jg_name 26 scN.nd)) (by decide) (fun _ _ _ _ _ => jts_nil) (fun _ _ _ _ _ => (je_bin p2_mul (je_ix (je_ix (je_var 5) je_int) (je_var 26)) (je_ix (je_ix (je_var 4) (je_var 26)) (je_var 20)))))))))
  (jss_frz 12 (jss_cons (js_asg 13 scN.nd (je_call c__law_least (hr.mono (by decide)) (by rfl) (ja_cons (je_var 12) (ja_cons (je_ix (je_var 5) je_int) (ja_cons (je_var 7) ja_nil)))))
  (jss_cons (js_asg 14 scN.nd (je_call c__law_mix_told (hr.mono (by decide)) (by rfl) (ja_cons (je_var 4) (ja_cons (je_ix (je_var 5) je_int) (ja_cons (je_var 7) (ja_cons (je_var 11) ja_nil))))))
  (jss_cons (js_if (jt_not (jt_val (je_call c__law_exactly (hr.mono (by decide)) (by rfl) (ja_cons (je_var 14) (ja_cons (je_ix (je_var 13) je_int) (ja_cons (je_ix (je_var 13) je_int) ja_nil))))))
  (jss_one (js_ret je_bl))
  jss_nil)
  (jss_cons (js_if (jt_not (jt_val (je_call c__law_exactly (hr.mono (by decide)) (by rfl) (ja_cons (je_call c__law_mix_told (hr.mono (by decide)) (by rfl) (ja_cons (je_var 4) (ja_cons (je_ix (je_var 5) je_int) (ja_cons je_non (ja_cons (je_bin p2_sub je_int (je_var 11)) ja_nil))))) (ja_cons (je_b1 (p1_min rfl) (by rfl) m_min (by decide +kernel) (je_var 12)) (ja_cons (je_ix (je_var 5) je_int) ja_nil))))))
  (jss_one (js_ret je_bl))
  jss_nil)
  (jss_cons (js_asgLc 15 [("part", 21)] rfl scN.nd rfl rfl (sw_true rfl rfl rfl (by decide +kernel)) (ji_seq (je_var 9)) (blk_by ["script", "shape", "programs", "places", "payoffs", "mix", "lot", "bound", "keys", "filled", "bottom", "way", "rights", "least", "told", "shares", "greatest_told", "turned", "least_turned", "middle", "j", "part", "bits", "k", "pair", "bit", "i"] (defScope s_law) (by decide +kernel)) (fun _ _ _ _ _ => (jg_name 21 scN.nd)) (by decide) (fun _ _ _ _ _ => jts_nil) (fun _ _ _ _ _ => (je_lst (ja_cons (je_var 21) (ja_cons (je_var 10) ja_nil)))))
  (jss_frz 15 (jss_cons (js_asg 16 scN.nd (je_call c__law_lot_told (hr.mono (by decide)) (by rfl) (ja_cons (je_var 4) (ja_cons (je_var 15) (ja_cons (je_bin p2_sub je_int (je_bin p2_mod (je_ty1 p1_int (by rfl) m_int (by decide +kernel) (je_var 11)) je_int)) ja_nil)))))
  (jss_cons (js_if (jt_not (jt_val (je_call c__law_exactly (hr.mono (by decide)) (by rfl) (ja_cons (je_var 16) (ja_cons (je_call c__law_most_right (hr.mono (by decide)) (by rfl) (ja_cons (je_var 4) (ja_cons (je_var 9) ja_nil))) (ja_cons (je_var 10) ja_nil))))))
  (jss_one (js_ret je_bl))
  jss_nil)
  (jss_cons (js_asgLc 17 [("bits", 22)] rfl scN.nd rfl rfl (sw_true rfl rfl rfl (by decide +kernel)) (ji_seq (je_var 4)) (blk_by ["script", "shape", "programs", "places", "payoffs", "mix", "lot", "bound", "keys", "filled", "bottom", "way", "rights", "least", "told", "shares", "greatest_told", "turned", "least_turned", "middle", "j", "part", "bits", "k", "pair", "bit", "i"] (defScope s_law) (by decide +kernel)) (fun _ _ _ _ _ => (jg_name 22 scN.nd)) (by decide) (fun _ _ _ _ _ => jts_nil) (fun _ _ _ _ _ => (je_lc [("bit", 25)] rfl scN.nd (ji_seq (je_var 22)) (blk_by ["script", "shape", "programs", "places", "payoffs", "mix", "lot", "bound", "keys", "filled", "bottom", "way", "rights", "least", "told", "shares", "greatest_told", "turned", "least_turned", "middle", "j", "part", "bits", "k", "pair", "bit", "i"] (relS _ (defScope s_law)) (by decide +kernel)) (fun _ _ _ _ _ => (jg_name 25 scN.nd)) (by decide) (fun _ _ _ _ _ => jts_nil) (fun _ _ _ _ _ => (je_bin p2_sub je_int (je_var 25))))))
  (jss_frz 17 (jss_cons (js_if (jt_not (jt_val (je_call c__law_exactly (hr.mono (by decide)) (by rfl) (ja_cons (je_call c__law_lot_told (hr.mono (by decide)) (by rfl) (ja_cons (je_var 17) (ja_cons (je_ix (je_var 6) je_int) (ja_cons (je_var 11) ja_nil)))) (ja_cons (je_call c__law_most_right (hr.mono (by decide)) (by rfl) (ja_cons (je_var 17) (ja_cons (je_ix (je_var 6) je_int) ja_nil))) (ja_cons (je_ix (je_var 6) je_int) ja_nil))))))
  (jss_one (js_ret je_bl))
  jss_nil)
  (jss_cons (js_asg 18 scN.nd (je_call c__law_least (hr.mono (by decide)) (by rfl) (ja_cons (je_lc [("part", 21)] rfl scN.nd (ji_seq (je_var 12)) (blk_by ["script", "shape", "programs", "places", "payoffs", "mix", "lot", "bound", "keys", "filled", "bottom", "way", "rights", "least", "told", "shares", "greatest_told", "turned", "least_turned", "middle", "j", "part", "bits", "k", "pair", "bit", "i"] (defScope s_law) (by decide +kernel)) (fun _ _ _ _ _ => (jg_name 21 scN.nd)) (by decide) (fun _ _ _ _ _ => jts_nil) (fun _ _ _ _ _ => (je_bin p2_sub (je_ix (je_var 5) je_int) (je_var 21)))) (ja_cons (je_ix (je_var 5) je_int) (ja_cons (je_var 7) ja_nil)))))
  (jss_cons (js_if (jt_not (jt_val (je_call c__law_exactly (hr.mono (by decide)) (by rfl) (ja_cons (je_call c__law_mix_told (hr.mono (by decide)) (by rfl) (ja_cons (je_var 17) (ja_cons (je_ix (je_var 5) je_int) (ja_cons (je_var 7) (ja_cons (je_var 11) ja_nil))))) (ja_cons (je_ix (je_var 18) je_int) (ja_cons (je_ix (je_var 18) je_int) ja_nil))))))
  (jss_one (js_ret je_bl))
  jss_nil)
  (jss_cons (js_asg 19 scN.nd (je_b1 (p1_sum rfl) (by rfl) m_sum (by decide +kernel) (je_lc [("j", 20)] rfl scN.nd (ji_range1 (by rfl) m_range (je_var 3)) (blk_by ["script", "shape", "programs", "places", "payoffs", "mix", "lot", "bound", "keys", "filled", "bottom", "way", "rights", "least", "told", "shares", "greatest_told", "turned", "least_turned", "middle", "j", "part", "bits", "k", "pair", "bit", "i"] (defScope s_law) (by decide +kernel)) (fun _ _ _ _ _ => (jg_name 20 scN.nd)) (by decide) (fun _ _ _ _ _ => jts_nil) (fun _ _ _ _ _ => (je_bin p2_mul (je_ix (je_var 12) (je_var 20)) (je_ix (je_var 9) (je_var 20)))))))
  (jss_cons (js_if (JW.t (jw_or (jt_cmp p2_gt (je_bin p2_mul (je_bin p2_mul (je_ix (je_var 14) je_int) (je_ix (je_var 5) je_int)) (je_var 10)) (je_bin p2_mul (je_var 19) (je_ix (je_var 14) je_int))) (jw_or1 (jt_cmp p2_gt (je_bin p2_mul (je_var 19) (je_ix (je_var 16) je_int)) (je_bin p2_mul (je_bin p2_mul (je_ix (je_var 16) je_int) (je_ix (je_var 5) je_int)) (je_var 10))))))
  (jss_one (js_ret je_bl))
  jss_nil)
  (jss_one (js_ret (je_call c__law_exactly (hr.mono (by decide)) (by rfl) (ja_cons (je_call c__law_mix_told (hr.mono (by decide)) (by rfl) (ja_cons (je_var 4) (ja_cons (je_ix (je_var 5) je_int) (ja_cons (je_var 7) (ja_cons (je_var 11) ja_nil))))) (ja_cons (je_ix (je_var 13) je_int) (ja_cons (je_ix (je_var 13) je_int) ja_nil))))))))))))))))))))))))))))))))))))))
end
theorem all_mk {l : PySem.W.OpenLaw} {w : World} {K : PySem.W.Frag} {h : Heap} {mg : Str → Option Value} {fa : Addr} (X : K.In h) (G : h.Ns mainGlobals mg) (hfa : mg "law" = some (.ref fa))
  {f1 f2 f3 f4 f5 f6 f7 f8 f9 f10 f11 f12 f13 f14 f15 f16 f17 f18 f19 f20 f21 f22 f23 f24 : Addr} {od1 an1 od2 an2 od3 an3 od4 an4 od5 an5 od6 an6 od7 an7 od8 an8 od9 an9 od10 an10 od11 an11 od12 an12 od13 an13 od14 an14 od15 an15 od16 an16 od17 an17 od18 an18 od19 an19 od20 an20 od21 an21 od22 an22 od23 an23 od24 an24 : Option Addr} {sl1 sl2 sl3 sl4 sl5 sl6 sl7 sl8 sl9 sl10 sl11 sl12 sl13 sl14 sl15 sl16 sl17 sl18 sl19 sl20 sl21 sl22 sl23 sl24 : Array (Option Value)} {oc1 dc1 pm1 cd1 ct1 kV1 oc2 dc2 pm2 cd2 ct2 kV2 oc3 dc3 pm3 cd3 ct3 kV3 oc4 dc4 pm4 cd4 ct4 kV4 oc5 dc5 pm5 cd5 ct5 kV5 oc6 dc6 pm6 cd6 ct6 kV6 oc7 dc7 pm7 cd7 ct7 kV7 oc8 dc8 pm8 cd8 ct8 kV8 oc9 dc9 pm9 cd9 ct9 oc10 dc10 pm10 cd10 ct10 kV10 oc11 dc11 pm11 cd11 ct11 kV11 oc12 dc12 pm12 cd12 ct12 kV12 oc13 dc13 pm13 cd13 ct13 kV13 oc14 dc14 pm14 cd14 ct14 kV14 oc15 dc15 pm15 cd15 ct15 kV15 oc16 dc16 pm16 cd16 ct16 kV16 oc17 dc17 pm17 cd17 ct17 kV17 oc18 dc18 pm18 cd18 ct18 kV18 oc19 dc19 pm19 cd19 ct19 kV19 oc20 dc20 pm20 cd20 ct20 kV20 oc21 dc21 pm21 cd21 ct21 kV21 oc22 dc22 pm22 cd22 ct22 kV22 oc23 dc23 pm23 cd23 ct23 kV23 oc24 dc24 pm24 cd24 ct24 kV24 : Value}
  {kD9 : Addr}
  (a1 : PySem.W.nsIn K mainGlobals "lowest" = some (some (.ref f1))) (l1 : K.lookup f1 = some ⟨oc1, od1, .func (PySem.W.fnOf "lowest" "lowest" (defArgs s_lowest) (defBody s_lowest) (defScope s_lowest) .none kV1 dc1 pm1 an1 cd1 ct1), sl1⟩) (c1 : PySem.W.codeIn K cd1 "lowest" = true) (k1 : PySem.W.keepIn K (.ref f1) = true)
  (a2 : PySem.W.nsIn K mainGlobals "plus" = some (some (.ref f2))) (l2 : K.lookup f2 = some ⟨oc2, od2, .func (PySem.W.fnOf "plus" "plus" (defArgs s_plus) (defBody s_plus) (defScope s_plus) .none kV2 dc2 pm2 an2 cd2 ct2), sl2⟩) (c2 : PySem.W.codeIn K cd2 "plus" = true) (k2 : PySem.W.keepIn K (.ref f2) = true)
  (a3 : PySem.W.nsIn K mainGlobals "times" = some (some (.ref f3))) (l3 : K.lookup f3 = some ⟨oc3, od3, .func (PySem.W.fnOf "times" "times" (defArgs s_times) (defBody s_times) (defScope s_times) .none kV3 dc3 pm3 an3 cd3 ct3), sl3⟩) (c3 : PySem.W.codeIn K cd3 "times" = true) (k3 : PySem.W.keepIn K (.ref f3) = true)
  (a4 : PySem.W.nsIn K mainGlobals "sum_of" = some (some (.ref f4))) (l4 : K.lookup f4 = some ⟨oc4, od4, .func (PySem.W.fnOf "sum_of" "sum_of" (defArgs s_sum_of) (defBody s_sum_of) (defScope s_sum_of) .none kV4 dc4 pm4 an4 cd4 ct4), sl4⟩) (c4 : PySem.W.codeIn K cd4 "sum_of" = true) (k4 : PySem.W.keepIn K (.ref f4) = true)
  (a5 : PySem.W.nsIn K mainGlobals "compare" = some (some (.ref f5))) (l5 : K.lookup f5 = some ⟨oc5, od5, .func (PySem.W.fnOf "compare" "compare" (defArgs s_compare) (defBody s_compare) (defScope s_compare) .none kV5 dc5 pm5 an5 cd5 ct5), sl5⟩) (c5 : PySem.W.codeIn K cd5 "compare" = true) (k5 : PySem.W.keepIn K (.ref f5) = true)
  (a6 : PySem.W.nsIn K mainGlobals "lot_value" = some (some (.ref f6))) (l6 : K.lookup f6 = some ⟨oc6, od6, .func (PySem.W.fnOf "lot_value" "lot_value" (defArgs s_lot_value) (defBody s_lot_value) (defScope s_lot_value) .none kV6 dc6 pm6 an6 cd6 ct6), sl6⟩) (c6 : PySem.W.codeIn K cd6 "lot_value" = true) (k6 : PySem.W.keepIn K (.ref f6) = true)
  (a7 : PySem.W.nsIn K mainGlobals "common_numbers" = some (some (.ref f7))) (l7 : K.lookup f7 = some ⟨oc7, od7, .func (PySem.W.fnOf "common_numbers" "common_numbers" (defArgs s_common_numbers) (defBody s_common_numbers) (defScope s_common_numbers) .none kV7 dc7 pm7 an7 cd7 ct7), sl7⟩) (c7 : PySem.W.codeIn K cd7 "common_numbers" = true) (k7 : PySem.W.keepIn K (.ref f7) = true)
  (a8 : PySem.W.nsIn K mainGlobals "right_numbers" = some (some (.ref f8))) (l8 : K.lookup f8 = some ⟨oc8, od8, .func (PySem.W.fnOf "right_numbers" "right_numbers" (defArgs s_right_numbers) (defBody s_right_numbers) (defScope s_right_numbers) .none kV8 dc8 pm8 an8 cd8 ct8), sl8⟩) (c8 : PySem.W.codeIn K cd8 "right_numbers" = true) (k8 : PySem.W.keepIn K (.ref f8) = true)
  (a9 : PySem.W.nsIn K mainGlobals "mix_value" = some (some (.ref f9))) (l9 : K.lookup f9 = some ⟨oc9, od9, .func (PySem.W.fnOf "mix_value" "mix_value" (defArgs s_mix_value) (defBody s_mix_value) (defScope s_mix_value) .none (.ref kD9) dc9 pm9 an9 cd9 ct9), sl9⟩) (c9 : PySem.W.codeIn K cd9 "mix_value" = true) (k9 : PySem.W.keepIn K (.ref f9) = true)
  (w9_0 : PySem.W.nsIn K kD9 "most" = some (some .none))
  (a10 : PySem.W.nsIn K mainGlobals "_law_whole" = some (some (.ref f10))) (l10 : K.lookup f10 = some ⟨oc10, od10, .func (PySem.W.fnOf "_law_whole" "_law_whole" (defArgs s__law_whole) (defBody s__law_whole) (defScope s__law_whole) .none kV10 dc10 pm10 an10 cd10 ct10), sl10⟩) (c10 : PySem.W.codeIn K cd10 "_law_whole" = true) (k10 : PySem.W.keepIn K (.ref f10) = true)
  (a11 : PySem.W.nsIn K mainGlobals "_law_cell" = some (some (.ref f11))) (l11 : K.lookup f11 = some ⟨oc11, od11, .func (PySem.W.fnOf "_law_cell" "_law_cell" (defArgs s__law_cell) (defBody s__law_cell) (defScope s__law_cell) .none kV11 dc11 pm11 an11 cd11 ct11), sl11⟩) (c11 : PySem.W.codeIn K cd11 "_law_cell" = true) (k11 : PySem.W.keepIn K (.ref f11) = true)
  (a12 : PySem.W.nsIn K mainGlobals "_law_digits" = some (some (.ref f12))) (l12 : K.lookup f12 = some ⟨oc12, od12, .func (PySem.W.fnOf "_law_digits" "_law_digits" (defArgs s__law_digits) (defBody s__law_digits) (defScope s__law_digits) .none kV12 dc12 pm12 an12 cd12 ct12), sl12⟩) (c12 : PySem.W.codeIn K cd12 "_law_digits" = true) (k12 : PySem.W.keepIn K (.ref f12) = true)
  (a13 : PySem.W.nsIn K mainGlobals "_law_gcd" = some (some (.ref f13))) (l13 : K.lookup f13 = some ⟨oc13, od13, .func (PySem.W.fnOf "_law_gcd" "_law_gcd" (defArgs s__law_gcd) (defBody s__law_gcd) (defScope s__law_gcd) .none kV13 dc13 pm13 an13 cd13 ct13), sl13⟩) (c13 : PySem.W.codeIn K cd13 "_law_gcd" = true) (k13 : PySem.W.keepIn K (.ref f13) = true)
  (a14 : PySem.W.nsIn K mainGlobals "_law_is_share" = some (some (.ref f14))) (l14 : K.lookup f14 = some ⟨oc14, od14, .func (PySem.W.fnOf "_law_is_share" "_law_is_share" (defArgs s__law_is_share) (defBody s__law_is_share) (defScope s__law_is_share) .none kV14 dc14 pm14 an14 cd14 ct14), sl14⟩) (c14 : PySem.W.codeIn K cd14 "_law_is_share" = true) (k14 : PySem.W.keepIn K (.ref f14) = true)
  (a15 : PySem.W.nsIn K mainGlobals "_law_exactly" = some (some (.ref f15))) (l15 : K.lookup f15 = some ⟨oc15, od15, .func (PySem.W.fnOf "_law_exactly" "_law_exactly" (defArgs s__law_exactly) (defBody s__law_exactly) (defScope s__law_exactly) .none kV15 dc15 pm15 an15 cd15 ct15), sl15⟩) (c15 : PySem.W.codeIn K cd15 "_law_exactly" = true) (k15 : PySem.W.keepIn K (.ref f15) = true)
  (a16 : PySem.W.nsIn K mainGlobals "_law_least" = some (some (.ref f16))) (l16 : K.lookup f16 = some ⟨oc16, od16, .func (PySem.W.fnOf "_law_least" "_law_least" (defArgs s__law_least) (defBody s__law_least) (defScope s__law_least) .none kV16 dc16 pm16 an16 cd16 ct16), sl16⟩) (c16 : PySem.W.codeIn K cd16 "_law_least" = true) (k16 : PySem.W.keepIn K (.ref f16) = true)
  (a17 : PySem.W.nsIn K mainGlobals "_law_bound" = some (some (.ref f17))) (l17 : K.lookup f17 = some ⟨oc17, od17, .func (PySem.W.fnOf "_law_bound" "_law_bound" (defArgs s__law_bound) (defBody s__law_bound) (defScope s__law_bound) .none kV17 dc17 pm17 an17 cd17 ct17), sl17⟩) (c17 : PySem.W.codeIn K cd17 "_law_bound" = true) (k17 : PySem.W.keepIn K (.ref f17) = true)
  (a18 : PySem.W.nsIn K mainGlobals "_law_payoffs" = some (some (.ref f18))) (l18 : K.lookup f18 = some ⟨oc18, od18, .func (PySem.W.fnOf "_law_payoffs" "_law_payoffs" (defArgs s__law_payoffs) (defBody s__law_payoffs) (defScope s__law_payoffs) .none kV18 dc18 pm18 an18 cd18 ct18), sl18⟩) (c18 : PySem.W.codeIn K cd18 "_law_payoffs" = true) (k18 : PySem.W.keepIn K (.ref f18) = true)
  (a19 : PySem.W.nsIn K mainGlobals "_law_drawn" = some (some (.ref f19))) (l19 : K.lookup f19 = some ⟨oc19, od19, .func (PySem.W.fnOf "_law_drawn" "_law_drawn" (defArgs s__law_drawn) (defBody s__law_drawn) (defScope s__law_drawn) .none kV19 dc19 pm19 an19 cd19 ct19), sl19⟩) (c19 : PySem.W.codeIn K cd19 "_law_drawn" = true) (k19 : PySem.W.keepIn K (.ref f19) = true)
  (a20 : PySem.W.nsIn K mainGlobals "_law_filled" = some (some (.ref f20))) (l20 : K.lookup f20 = some ⟨oc20, od20, .func (PySem.W.fnOf "_law_filled" "_law_filled" (defArgs s__law_filled) (defBody s__law_filled) (defScope s__law_filled) .none kV20 dc20 pm20 an20 cd20 ct20), sl20⟩) (c20 : PySem.W.codeIn K cd20 "_law_filled" = true) (k20 : PySem.W.keepIn K (.ref f20) = true)
  (a21 : PySem.W.nsIn K mainGlobals "_law_lot_told" = some (some (.ref f21))) (l21 : K.lookup f21 = some ⟨oc21, od21, .func (PySem.W.fnOf "_law_lot_told" "_law_lot_told" (defArgs s__law_lot_told) (defBody s__law_lot_told) (defScope s__law_lot_told) .none kV21 dc21 pm21 an21 cd21 ct21), sl21⟩) (c21 : PySem.W.codeIn K cd21 "_law_lot_told" = true) (k21 : PySem.W.keepIn K (.ref f21) = true)
  (a22 : PySem.W.nsIn K mainGlobals "_law_mix_told" = some (some (.ref f22))) (l22 : K.lookup f22 = some ⟨oc22, od22, .func (PySem.W.fnOf "_law_mix_told" "_law_mix_told" (defArgs s__law_mix_told) (defBody s__law_mix_told) (defScope s__law_mix_told) .none kV22 dc22 pm22 an22 cd22 ct22), sl22⟩) (c22 : PySem.W.codeIn K cd22 "_law_mix_told" = true) (k22 : PySem.W.keepIn K (.ref f22) = true)
  (a23 : PySem.W.nsIn K mainGlobals "_law_most_right" = some (some (.ref f23))) (l23 : K.lookup f23 = some ⟨oc23, od23, .func (PySem.W.fnOf "_law_most_right" "_law_most_right" (defArgs s__law_most_right) (defBody s__law_most_right) (defScope s__law_most_right) .none kV23 dc23 pm23 an23 cd23 ct23), sl23⟩) (c23 : PySem.W.codeIn K cd23 "_law_most_right" = true) (k23 : PySem.W.keepIn K (.ref f23) = true)
  (a24 : PySem.W.nsIn K mainGlobals "law" = some (some (.ref f24))) (l24 : K.lookup f24 = some ⟨oc24, od24, .func (PySem.W.fnOf "law" "law" (defArgs s_law) (defBody s_law) (defScope s_law) .none kV24 dc24 pm24 an24 cd24 ct24), sl24⟩) (c24 : PySem.W.codeIn K cd24 "law" = true) (k24 : PySem.W.keepIn K (.ref f24) = true)
  (z_gcd : PySem.W.nsIn K mainGlobals "gcd" = some (some (.builtin "math.gcd")))
  (z_lcm : PySem.W.nsIn K mainGlobals "lcm" = some (some (.builtin "math.lcm")))
  (z_abs : PySem.W.nsIn K mainGlobals "abs" = some none)
  (z_bool : PySem.W.nsIn K mainGlobals "bool" = some none)
  (z_int : PySem.W.nsIn K mainGlobals "int" = some none)
  (z_isinstance : PySem.W.nsIn K mainGlobals "isinstance" = some none)
  (z_len : PySem.W.nsIn K mainGlobals "len" = some none)
  (z_list : PySem.W.nsIn K mainGlobals "list" = some none)
  (z_max : PySem.W.nsIn K mainGlobals "max" = some none)
  (z_min : PySem.W.nsIn K mainGlobals "min" = some none)
  (z_range : PySem.W.nsIn K mainGlobals "range" = some none)
  (z_sorted : PySem.W.nsIn K mainGlobals "sorted" = some none)
  (z_sum : PySem.W.nsIn K mainGlobals "sum" = some none)
  (z_tuple : PySem.W.nsIn K mainGlobals "tuple" = some none)
  (z_zip : PySem.W.nsIn K mainGlobals "zip" = some none)
  : ∃ fd : FuncData, (∀ (s : Shared) (v : Value), BindsTo s fd ⟨[v], []⟩ [("script", v)]) ∧ ∀ base : Heap, K.In base → base.Ns mainGlobals mg → FnOk l.prog w K mg base CX0 6 fa fd ["script"] (spP K (fun _ => 0) F_law) := by
  have e := hfa.symm.trans (PySem.W.mg_of X G a24)
  cases e
  have m_gcd := PySem.W.mg_of X G z_gcd
  have m_lcm := PySem.W.mg_of X G z_lcm
  have m_abs := PySem.W.mg_none_of X G z_abs
  have m_bool := PySem.W.mg_none_of X G z_bool
  have m_int := PySem.W.mg_none_of X G z_int
  have m_isinstance := PySem.W.mg_none_of X G z_isinstance
  have m_len := PySem.W.mg_none_of X G z_len
  have m_list := PySem.W.mg_none_of X G z_list
  have m_max := PySem.W.mg_none_of X G z_max
  have m_min := PySem.W.mg_none_of X G z_min
  have m_range := PySem.W.mg_none_of X G z_range
  have m_sorted := PySem.W.mg_none_of X G z_sorted
  have m_sum := PySem.W.mg_none_of X G z_sum
  have m_tuple := PySem.W.mg_none_of X G z_tuple
  have m_zip := PySem.W.mg_none_of X G z_zip
  have F1 := fun_mk (st := s_lowest) l1 c1 k1
  have b1 := F1.binds (ps := ["top", "bottom"]) fun _ _ _ _ _ _ us hl => match us, hl with | [_, _], _ => rfl
  have F2 := fun_mk (st := s_plus) l2 c2 k2
  have b2 := F2.binds (ps := ["one", "two"]) fun _ _ _ _ _ _ us hl => match us, hl with | [_, _], _ => rfl
  have F3 := fun_mk (st := s_times) l3 c3 k3
  have b3 := F3.binds (ps := ["one", "two"]) fun _ _ _ _ _ _ us hl => match us, hl with | [_, _], _ => rfl
  have F4 := fun_mk (st := s_sum_of) l4 c4 k4
  have b4 := F4.binds (ps := ["shares"]) fun _ _ _ _ _ _ us hl => match us, hl with | [_], _ => rfl
  have F5 := fun_mk (st := s_compare) l5 c5 k5
  have b5 := F5.binds (ps := ["one", "two"]) fun _ _ _ _ _ _ us hl => match us, hl with | [_, _], _ => rfl
  have F6 := fun_mk (st := s_lot_value) l6 c6 k6
  have b6 := F6.binds (ps := ["payoffs", "lot"]) fun _ _ _ _ _ _ us hl => match us, hl with | [_, _], _ => rfl
  have F7 := fun_mk (st := s_common_numbers) l7 c7 k7
  have b7 := F7.binds (ps := ["shares"]) fun _ _ _ _ _ _ us hl => match us, hl with | [_], _ => rfl
  have F8 := fun_mk (st := s_right_numbers) l8 c8 k8
  have b8 := F8.binds (ps := ["payoffs", "mix"]) fun _ _ _ _ _ _ us hl => match us, hl with | [_, _], _ => rfl
  have F9 := fun_mk (st := s_mix_value) l9 c9 k9
  have F10 := fun_mk (st := s__law_whole) l10 c10 k10
  have b10 := F10.binds (ps := ["value"]) fun _ _ _ _ _ _ us hl => match us, hl with | [_], _ => rfl
  have F11 := fun_mk (st := s__law_cell) l11 c11 k11
  have b11 := F11.binds (ps := ["script", "k"]) fun _ _ _ _ _ _ us hl => match us, hl with | [_, _], _ => rfl
  have F12 := fun_mk (st := s__law_digits) l12 c12 k12
  have b12 := F12.binds (ps := ["cell", "sizes"]) fun _ _ _ _ _ _ us hl => match us, hl with | [_, _], _ => rfl
  have F13 := fun_mk (st := s__law_gcd) l13 c13 k13
  have b13 := F13.binds (ps := ["one", "two"]) fun _ _ _ _ _ _ us hl => match us, hl with | [_, _], _ => rfl
  have F14 := fun_mk (st := s__law_is_share) l14 c14 k14
  have b14 := F14.binds (ps := ["share"]) fun _ _ _ _ _ _ us hl => match us, hl with | [_], _ => rfl
  have F15 := fun_mk (st := s__law_exactly) l15 c15 k15
  have b15 := F15.binds (ps := ["told", "top", "bottom"]) fun _ _ _ _ _ _ us hl => match us, hl with | [_, _, _], _ => rfl
  have F16 := fun_mk (st := s__law_least) l16 c16 k16
  have b16 := F16.binds (ps := ["numbers", "bottom", "bound"]) fun _ _ _ _ _ _ us hl => match us, hl with | [_, _, _], _ => rfl
  have F17 := fun_mk (st := s__law_bound) l17 c17 k17
  have b17 := F17.binds (ps := ["script", "at", "places"]) fun _ _ _ _ _ _ us hl => match us, hl with | [_, _, _], _ => rfl
  have F18 := fun_mk (st := s__law_payoffs) l18 c18 k18
  have b18 := F18.binds (ps := ["script", "at", "programs", "places", "shape"]) fun _ _ _ _ _ _ us hl => match us, hl with | [_, _, _, _, _], _ => rfl
  have F19 := fun_mk (st := s__law_drawn) l19 c19 k19
  have b19 := F19.binds (ps := ["script", "at", "count"]) fun _ _ _ _ _ _ us hl => match us, hl with | [_, _, _], _ => rfl
  have F20 := fun_mk (st := s__law_filled) l20 c20 k20
  have b20 := F20.binds (ps := ["places_in_order", "bound"]) fun _ _ _ _ _ _ us hl => match us, hl with | [_, _], _ => rfl
  have F21 := fun_mk (st := s__law_lot_told) l21 c21 k21
  have b21 := F21.binds (ps := ["payoffs", "shares", "way"]) fun _ _ _ _ _ _ us hl => match us, hl with | [_, _, _], _ => rfl
  have F22 := fun_mk (st := s__law_mix_told) l22 c22 k22
  have b22 := F22.binds (ps := ["payoffs", "shares", "bound", "way"]) fun _ _ _ _ _ _ us hl => match us, hl with | [_, _, _, _], _ => rfl
  have F23 := fun_mk (st := s__law_most_right) l23 c23 k23
  have b23 := F23.binds (ps := ["payoffs", "parts"]) fun _ _ _ _ _ _ us hl => match us, hl with | [_, _], _ => rfl
  have F24 := fun_mk (st := s_law) l24 c24 k24
  refine ⟨PySem.W.fnOf "law" "law" (defArgs s_law) (defBody s_law) (defScope s_law) .none kV24 dc24 pm24 an24 cd24 ct24, fun s v => .of_eq rfl, fun base _ _ => ?_⟩
  have c_lowest : FnC l.prog w K mg base (fun _ => 0) 1 "lowest" F_lowest := fnC_mk F1 (PySem.W.mg_of X G a1) b1 (ok_lowest F1 m_gcd )
  have c_plus : FnC l.prog w K mg base (fun _ => 0) 2 "plus" F_plus := fnC_mk F2 (PySem.W.mg_of X G a2) b2 (ok_plus F2  c_lowest)
  have c_times : FnC l.prog w K mg base (fun _ => 0) 2 "times" F_times := fnC_mk F3 (PySem.W.mg_of X G a3) b3 (ok_times F3  c_lowest)
  have c_sum_of : FnC l.prog w K mg base (fun _ => 0) 3 "sum_of" F_sum_of := fnC_mk F4 (PySem.W.mg_of X G a4) b4 (ok_sum_of F4  c_plus)
  have c_compare : FnC l.prog w K mg base (fun _ => 0) 1 "compare" F_compare := fnC_mk F5 (PySem.W.mg_of X G a5) b5 (ok_compare F5 m_int )
  have c_lot_value : FnC l.prog w K mg base (fun _ => 0) 4 "lot_value" F_lot_value := fnC_mk F6 (PySem.W.mg_of X G a6) b6 (ok_lot_value F6 m_zip c_sum_of c_compare)
  have c_common_numbers : FnC l.prog w K mg base (fun _ => 0) 1 "common_numbers" F_common_numbers := fnC_mk F7 (PySem.W.mg_of X G a7) b7 (ok_common_numbers F7 m_lcm )
  have c_right_numbers : FnC l.prog w K mg base (fun _ => 0) 2 "right_numbers" F_right_numbers := fnC_mk F8 (PySem.W.mg_of X G a8) b8 (ok_right_numbers F8 m_zip c_common_numbers)
  have o_mix_value := ok_mix_value (P := l.prog) (w := w) (mg := mg) (base := base) (cm := fun _ => 0) F9 m_sorted c_right_numbers c_lowest c_compare c_plus c_times
  have U9 : FunD K "mix_value" "mix_value" (defArgs s_mix_value) (defBody s_mix_value) (defScope s_mix_value) [] [("most", .non)] f9 _ := ⟨⟨_, _, _, _, _, _, _, _, _, _, rfl, l9, c9, .inl ⟨rfl, rfl⟩, .inr ⟨kD9, rfl, fun q hq => by
    simp only [List.mem_cons, List.not_mem_nil, or_false] at hq
    rcases hq with rfl
    · exact ⟨_, w9_0, rfl⟩
⟩⟩, k9⟩
  have d_mix_value : FnD l.prog w K mg base (fun _ => 0) 3 "mix_value" [.non] F_mix_value := by
    obtain ⟨ds, hv, hb⟩ := U9.binds0 (ps := ["payoffs", "mix", "most"]) 2 (by simp) rfl fun D doc pm an cdv ct us ks hu hk => match us, ks, hu, hk with | [_, _], [_], _, _ => ⟨_, _, _, _, _, _, rfl, rfl, rfl⟩
    exact ⟨f9, _, _, _, ds, o_mix_value, PySem.W.mg_of X G a9, k9, hb, hv, fun G => (.cons .non .nil)⟩
  have k_mix_value : FnK l.prog w K mg base (fun _ => 0) 3 "mix_value" 2 ["most"] F_mix_value := by
    obtain ⟨mv, hb⟩ := U9.kbinds0 (ps := ["payoffs", "mix", "most"]) 2 ["most"] [] (fun us _ ws => us ++ ws) (by simp) (fun q hq => by cases hq) (fun r1 _ r3 => r1.append r3) fun D doc pm an cdv ct us mv ws hu hm hw => match us, mv, ws, hu, hm, hw with | [_, _], [], [_], _, _, _ => rfl
    exact ⟨f9, _, _, _, o_mix_value, PySem.W.mg_of X G a9, k9, hb⟩
  have c__law_whole : FnC l.prog w K mg base (fun _ => 0) 1 "_law_whole" F__law_whole := fnC_mk F10 (PySem.W.mg_of X G a10) b10 (ok__law_whole F10 m_bool m_int m_isinstance )
  have c__law_cell : FnC l.prog w K mg base (fun _ => 0) 1 "_law_cell" F__law_cell := fnC_mk F11 (PySem.W.mg_of X G a11) b11 (ok__law_cell F11 m_int m_len )
  have c__law_digits : FnC l.prog w K mg base (fun _ => 0) 1 "_law_digits" F__law_digits := fnC_mk F12 (PySem.W.mg_of X G a12) b12 (ok__law_digits F12 m_int m_len m_range )
  have c__law_gcd : FnC l.prog w K mg base (fun _ => 0) 1 "_law_gcd" F__law_gcd := fnC_mk F13 (PySem.W.mg_of X G a13) b13 (ok__law_gcd F13 m_abs m_int m_range )
  have c__law_is_share : FnC l.prog w K mg base (fun _ => 0) 2 "_law_is_share" F__law_is_share := fnC_mk F14 (PySem.W.mg_of X G a14) b14 (ok__law_is_share F14 m_isinstance m_len m_tuple c__law_whole c__law_gcd)
  have c__law_exactly : FnC l.prog w K mg base (fun _ => 0) 3 "_law_exactly" F__law_exactly := fnC_mk F15 (PySem.W.mg_of X G a15) b15 (ok__law_exactly F15  c__law_is_share)
  have c__law_least : FnC l.prog w K mg base (fun _ => 0) 1 "_law_least" F__law_least := fnC_mk F16 (PySem.W.mg_of X G a16) b16 (ok__law_least F16 m_len m_sorted m_sum )
  have c__law_bound : FnC l.prog w K mg base (fun _ => 0) 2 "_law_bound" F__law_bound := fnC_mk F17 (PySem.W.mg_of X G a17) b17 (ok__law_bound F17 m_int c__law_digits c__law_cell)
  have c__law_payoffs : FnC l.prog w K mg base (fun _ => 0) 2 "_law_payoffs" F__law_payoffs := fnC_mk F18 (PySem.W.mg_of X G a18) b18 (ok__law_payoffs F18 m_int m_list m_range m_sum c__law_digits c__law_cell)
  have c__law_drawn : FnC l.prog w K mg base (fun _ => 0) 2 "_law_drawn" F__law_drawn := fnC_mk F19 (PySem.W.mg_of X G a19) b19 (ok__law_drawn F19 m_int m_range m_sum c__law_digits c__law_cell c__law_gcd)
  have c__law_filled : FnC l.prog w K mg base (fun _ => 0) 1 "_law_filled" F__law_filled := fnC_mk F20 (PySem.W.mg_of X G a20) b20 (ok__law_filled F20 m_min )
  have c__law_lot_told : FnC l.prog w K mg base (fun _ => 0) 5 "_law_lot_told" F__law_lot_told := fnC_mk F21 (PySem.W.mg_of X G a21) b21 (ok__law_lot_told F21 m_int m_list m_tuple c_lot_value)
  have c__law_mix_told : FnC l.prog w K mg base (fun _ => 0) 4 "_law_mix_told" F__law_mix_told := fnC_mk F22 (PySem.W.mg_of X G a22) b22 (ok__law_mix_told F22 m_int m_list m_tuple d_mix_value k_mix_value)
  have c__law_most_right : FnC l.prog w K mg base (fun _ => 0) 1 "_law_most_right" F__law_most_right := fnC_mk F23 (PySem.W.mg_of X G a23) b23 (ok__law_most_right F23 m_len m_max m_range m_sum )
  exact ok_law F24 m_int m_min m_range m_sorted m_sum c__law_digits c__law_cell c__law_payoffs c__law_drawn c__law_bound c__law_filled c__law_exactly c__law_lot_told c__law_most_right c__law_least c__law_mix_told
end Pyl
open PySem PySem.W PyProof.Rows
set_option maxHeartbeats 0 in
theorem PySem.Challenge.cw_fooledortold_k76_values_judged_holds : PySem.Challenge.rw_fooledortold_k76_values_judged.Holds := by
  w_on; o_law; k_head; (case hw => w_witness2)
  k_fill
  refine L2.walk_of (l := PySem.Challenge.rw_fooledortold_k76_values_judged) (n := 63) (k := 6) (x := "script") (CX := fun _ => L2.CX0) (sp := fun w => Pyl.spP _ (fun _ => 0) Pyl.F_law) rfl (by decide) rfl ⟨rfl, by decide, by decide⟩ (fun w h Y => PySem.W.kIn_of Y) ?F (fun _ _ a ns hl _ hS => Pyl.law_sp Pyl.law_true hl hS) (fun _ _ _ _ _ h => h)
  case F =>
    intro w mg fa h KX G hmg
    refine' Pyl.all_mk KX G hmg ?a1 ?l1 ?c1 ?k1 ?a2 ?l2 ?c2 ?k2 ?a3 ?l3 ?c3 ?k3 ?a4 ?l4 ?c4 ?k4 ?a5 ?l5 ?c5 ?k5 ?a6 ?l6 ?c6 ?k6 ?a7 ?l7 ?c7 ?k7 ?a8 ?l8 ?c8 ?k8 ?a9 ?l9 ?c9 ?k9 ?w9_0 ?a10 ?l10 ?c10 ?k10 ?a11 ?l11 ?c11 ?k11 ?a12 ?l12 ?c12 ?k12 ?a13 ?l13 ?c13 ?k13 ?a14 ?l14 ?c14 ?k14 ?a15 ?l15 ?c15 ?k15 ?a16 ?l16 ?c16 ?k16 ?a17 ?l17 ?c17 ?k17 ?a18 ?l18 ?c18 ?k18 ?a19 ?l19 ?c19 ?k19 ?a20 ?l20 ?c20 ?k20 ?a21 ?l21 ?c21 ?k21 ?a22 ?l22 ?c22 ?k22 ?a23 ?l23 ?c23 ?k23 ?a24 ?l24 ?c24 ?k24 ?z_gcd ?z_lcm ?z_abs ?z_bool ?z_int ?z_isinstance ?z_len ?z_list ?z_max ?z_min ?z_range ?z_sorted ?z_sum ?z_tuple ?z_zip
    (case a1 => k_is)
    (case l1 => k_is)
    (case c1 => k_is)
    (case k1 => k_is)
    (case a2 => k_is)
    (case l2 => k_is)
    (case c2 => k_is)
    (case k2 => k_is)
    (case a3 => k_is)
    (case l3 => k_is)
    (case c3 => k_is)
    (case k3 => k_is)
    (case a4 => k_is)
    (case l4 => k_is)
    (case c4 => k_is)
    (case k4 => k_is)
    (case a5 => k_is)
    (case l5 => k_is)
    (case c5 => k_is)
    (case k5 => k_is)
    (case a6 => k_is)
    (case l6 => k_is)
    (case c6 => k_is)
    (case k6 => k_is)
    (case a7 => k_is)
    (case l7 => k_is)
    (case c7 => k_is)
    (case k7 => k_is)
    (case a8 => k_is)
    (case l8 => k_is)
    (case c8 => k_is)
    (case k8 => k_is)
    (case a9 => k_is)
    (case l9 => k_is)
    (case c9 => k_is)
    (case k9 => k_is)
    (case w9_0 => k_is)
    (case a10 => k_is)
    (case l10 => k_is)
    (case c10 => k_is)
    (case k10 => k_is)
    (case a11 => k_is)
    (case l11 => k_is)
    (case c11 => k_is)
    (case k11 => k_is)
    (case a12 => k_is)
    (case l12 => k_is)
    (case c12 => k_is)
    (case k12 => k_is)
    (case a13 => k_is)
    (case l13 => k_is)
    (case c13 => k_is)
    (case k13 => k_is)
    (case a14 => k_is)
    (case l14 => k_is)
    (case c14 => k_is)
    (case k14 => k_is)
    (case a15 => k_is)
    (case l15 => k_is)
    (case c15 => k_is)
    (case k15 => k_is)
    (case a16 => k_is)
    (case l16 => k_is)
    (case c16 => k_is)
    (case k16 => k_is)
    (case a17 => k_is)
    (case l17 => k_is)
    (case c17 => k_is)
    (case k17 => k_is)
    (case a18 => k_is)
    (case l18 => k_is)
    (case c18 => k_is)
    (case k18 => k_is)
    (case a19 => k_is)
    (case l19 => k_is)
    (case c19 => k_is)
    (case k19 => k_is)
    (case a20 => k_is)
    (case l20 => k_is)
    (case c20 => k_is)
    (case k20 => k_is)
    (case a21 => k_is)
    (case l21 => k_is)
    (case c21 => k_is)
    (case k21 => k_is)
    (case a22 => k_is)
    (case l22 => k_is)
    (case c22 => k_is)
    (case k22 => k_is)
    (case a23 => k_is)
    (case l23 => k_is)
    (case c23 => k_is)
    (case k23 => k_is)
    (case a24 => k_is)
    (case l24 => k_is)
    (case c24 => k_is)
    (case k24 => k_is)
    (case z_gcd => k_is)
    (case z_lcm => k_is)
    (case z_abs => k_is)
    (case z_bool => k_is)
    (case z_int => k_is)
    (case z_isinstance => k_is)
    (case z_len => k_is)
    (case z_list => k_is)
    (case z_max => k_is)
    (case z_min => k_is)
    (case z_range => k_is)
    (case z_sorted => k_is)
    (case z_sum => k_is)
    (case z_tuple => k_is)
    (case z_zip => k_is)
end
