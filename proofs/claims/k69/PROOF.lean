import PyProof.Rows.All
import Wide.All
import OpenK.AllK
import Wide.FinOn
import PySem.PyData
import PyProof.P3Statements
import PyProof.EqLayable
import PyProof.Rows.Walk
import HandS.ForMost
import HandS.Zip
import HandS.IsInst
import HandS.Wide
import HandS.WideBits
import HandS.TupAny
import KE.KUnpack
import HandS.Exc
import HandS.ExcOwn
import HandS.ExcCtx
import HandS.Gcd
import KE.KMathGC
import HandS.Text
import HandS.Defaults
import HandS.MakeKwOnly
import HandS.HeadHook2
import HandS.SortInts
import KE.SortCalls
import HandS.HotCalls
import HandS.ExcInit
import HandS.ExcInitHot
import HandS.ExcField
import HandS.WordsExc
import KE.KExcIs
import PySem.Challenge.RW_fooledortold_k69_found_rows_whole
section
set_option Elab.async false
set_option linter.all false
namespace Pyl
open PySem

/-- data: what a value denotes, without a heap. obj: an instance of the own class number c, by its attributes; exn: a caught exception at a, its dict at d, its attributes -/
inductive Dt where
  | non | bl (b : Bool) | int (i : Int) | str (x : Str) | lst (ds : List Dt) | tup (ds : List Dt) | obj (c : Nat) (fs : List (Str × Dt)) | exn (a : Nat) (d : Option Nat) (fs : List (Str × Dt))

/-- an object that one name of the frame alone holds -/
inductive OD where
  | lst (ds : List Dt)
/-- what a name of the frame holds: nothing known | data | an object of its own | an object of its own that a loop walks just now | a list of its own of lists of its own -/
inductive Slot where
  | non | val (d : Dt) | own (o : OD) | take | mat (dss : List (List Dt))
abbrev Sl := List Slot
/-- what an expression gives: data | an object that a name holds, looked at | a new object -/
inductive R where
  | vis (d : Dt) | bor (d : Dt) | fre (o : OD)
def OD.dt : OD → Dt
  | .lst ds => .lst ds
def R.dt : R → Dt
  | .vis d => d
  | .bor d => d
  | .fre o => o.dt
def R.sh : R → Bool
  | .bor _ => true
  | _ => false

/-! ### expressions -/
abbrev EF := Sl → Option R
abbrev TF := Sl → Option Bool
abbrev AF := Sl → Option (List (Dt × Bool))
def eVar (i : Nat) : EF := fun env => match env[i]? with
  | some (.val d) => some (.vis d)
  | some (.own (.lst ds)) => some (.bor (.lst ds))
  | _ => none
def eC (d : Dt) : EF := fun _ => some (.vis d)
/-- an operation of one, of two data, the answer a scalar or a new object -/
def e1 (p : Dt → Option R) (fa : EF) : EF := fun env => (fa env).bind fun a => p a.dt
def e2 (p : Dt → Dt → Option R) (fa fb : EF) : EF := fun env => (fa env).bind fun a => (fb env).bind fun b => p a.dt b.dt
def aNil : AF := fun _ => some []
def aCons (fa : EF) (fr : AF) : AF := fun env => (fa env).bind fun a => (fr env).bind fun r => some ((a.dt, a.sh) :: r)
/-- all data, none of them borrowed -/
def plain (rs : List (Dt × Bool)) : Option (List Dt) := if rs.any (·.2) then none else some (rs.map (·.1))
def eTup (fa : AF) : EF := fun env => (fa env).bind fun rs => (plain rs).bind fun ds => some (.vis (.tup ds))
def eLst (fa : AF) : EF := fun env => (fa env).bind fun rs => (plain rs).bind fun ds => some (.fre (.lst ds))
def Dt.scalar : Dt → Bool
  | .non | .bl _ | .int _ | .str _ => true
  | _ => false
abbrev FN := List Dt → Option Dt
def eCall (F : FN) (fa : AF) : EF := fun env => (fa env).bind fun rs => (F (rs.map (·.1))).bind fun d => if rs.any (·.2) && !d.scalar then none else some (.vis d)
/-- arguments and keywords -/
def aApp (fa fb : AF) : AF := fun env => (fa env).bind fun a => (fb env).bind fun b => some (a ++ b)
/-- arguments that lack at a call -/
def aDfl (dd : List Dt) : AF := fun _ => some (dd.map fun d => (d, false))
def eIf (ft : TF) (fa fb : EF) : EF := fun env => (ft env).bind fun t => if t then fa env else fb env
/-- and, or, not as values (bools) -/
def eAnd (fa fb : EF) : EF := fun env => match fa env with
  | some (.vis (.bl true)) => fb env
  | some (.vis (.bl false)) => some (.vis (.bl false))
  | _ => none
def eOr (fa fb : EF) : EF := fun env => match fa env with
  | some (.vis (.bl true)) => some (.vis (.bl true))
  | some (.vis (.bl false)) => fb env
  | _ => none
def eNot (fa : EF) : EF := fun env => match fa env with
  | some (.vis (.bl b)) => some (.vis (.bl (!b)))
  | _ => none
/-! ### tests -/
def tVal (fa : EF) : TF := fun env => match fa env with
  | some (.vis (.bl b)) => some b
  | _ => none
def tAnd (a b : TF) : TF := fun env => (a env).bind fun t => if t then b env else some false
def tOr (a b : TF) : TF := fun env => (a env).bind fun t => if t then some true else b env
def tNot (a : TF) : TF := fun env => (a env).bind fun t => some (!t)

/-! ### operations on data -/
def LIM : Nat := 4194304
@[irreducible] def BIG : Nat := 2 ^ 400000
@[irreducible] def DIVB : Nat := 2 ^ 8999
theorem BIG_eq : BIG = 2 ^ 400000 := by unfold BIG; rfl
theorem DIVB_eq : DIVB = 2 ^ 8999 := by unfold DIVB; rfl
def pIntI (c : Int → Int → Option Int) : Dt → Dt → Option R
  | .int i, .int j => (c i j).map fun k => .vis (.int k)
  | _, _ => none
def pAdd : Dt → Dt → Option R
  | .int i, .int j => some (.vis (.int (i + j)))
  | .lst a, .lst b => if a.length + b.length ≤ LIM then some (.fre (.lst (a ++ b))) else none
  | .tup a, .tup b => if a.length + b.length ≤ LIM then some (.vis (.tup (a ++ b))) else none
  | .str a, .str b => if a.length + b.length ≤ LIM then some (.vis (.str (a ++ b))) else none
  | _, _ => none
def pSub : Dt → Dt → Option R := pIntI fun i j => some (i - j)
def pMul : Dt → Dt → Option R
  | .int i, .int j => if i.natAbs < BIG ∧ j.natAbs < BIG then some (.vis (.int (i * j))) else none
  | _, _ => none
def pDiv : Dt → Dt → Option R := pIntI fun i j => if 0 < j ∧ j.natAbs < DIVB then some (i / j) else none
def pMod : Dt → Dt → Option R := pIntI fun i j => if 0 < j then some (i % j) else none
/-- of ints that are not below 0 -/
def pXor : Dt → Dt → Option R := pIntI fun i j => if 0 ≤ i ∧ 0 ≤ j then some ((i.toNat ^^^ j.toNat : Nat) : Int) else none
def pAnd : Dt → Dt → Option R := pIntI fun i j => if 0 ≤ i ∧ 0 ≤ j then some ((i.toNat &&& j.toNat : Nat) : Int) else none
def pOr : Dt → Dt → Option R := pIntI fun i j => if 0 ≤ i ∧ 0 ≤ j then some ((i.toNat ||| j.toNat : Nat) : Int) else none
def pPow : Dt → Dt → Option R := pIntI fun i j => if 0 ≤ j ∧ j ≤ 1000000 ∧ i.natAbs < 2 ^ 64 then some (i ^ j.toNat) else none
def pShl : Dt → Dt → Option R := pIntI fun i j => if 0 ≤ j ∧ j ≤ 100000 ∧ i.natAbs < BIG then some (i * 2 ^ j.toNat) else none
def pShr : Dt → Dt → Option R := pIntI fun i j => if 0 ≤ j then some (i / 2 ^ j.toNat) else none
def pNeg : Dt → Option R
  | .int i => some (.vis (.int (-i)))
  | _ => none
def pCmp (c : Int → Int → Bool) : Dt → Dt → Option R
  | .int i, .int j => some (.vis (.bl (c i j)))
  | _, _ => none
def pLt := pCmp fun i j => decide (i < j)
def pLe := pCmp fun i j => decide (i ≤ j)
def pGt := pCmp fun i j => decide (j < i)
def pGe := pCmp fun i j => decide (j ≤ i)
mutual
def Dt.py : Dt → Option PyData
  | .non => some .none
  | .bl b => some (.bool b)
  | .int i => some (.int i)
  | .str x => some (.str x)
  | .lst ds => (Dt.pyL ds).map .list
  | .tup ds => (Dt.pyL ds).map .tuple
  | .obj _ _ => none
  | .exn _ _ _ => none
def Dt.pyL : List Dt → Option (List PyData)
  | [] => some []
  | d :: ds => (Dt.py d).bind fun p => (Dt.pyL ds).bind fun r => some (p :: r)
end
/-- == of data -/
def eqD (a b : Dt) : Option Bool := (a.py).bind fun p => (b.py).bind fun q => if SeqAt.shaped p && SeqAt.shaped q then some (PyData.eqv p q) else none
def pEq (a b : Dt) : Option R := (eqD a b).map fun t => .vis (.bl t)
def pNe (a b : Dt) : Option R := (eqD a b).map fun t => .vis (.bl (!t))
def Dt.isNon : Dt → Bool
  | .non => true
  | _ => false
def pIsN (a : Dt) : Option R := some (.vis (.bl a.isNon))
def pNotN (a : Dt) : Option R := some (.vis (.bl (!a.isNon)))
def atL {α : Type} (ds : List α) (i : Int) : Option α := if 0 ≤ i then ds[i.toNat]? else if -(ds.length : Int) ≤ i then ds[(i + ds.length).toNat]? else none
def pIx : Dt → Dt → Option R
  | .lst ds, .int i => (atL ds i).map .vis
  | .tup ds, .int i => (atL ds i).map .vis
  | .str z, .int i => if z.length ≤ LIM then (atL z.cps.toList i).map fun c => .vis (.str ⟨#[c]⟩) else none
  | _, _ => none
/-- the bounds of a slice, as the interpreter makes them -/
def sIx (n : Nat) (dflt : Nat) : Option Int → Nat
  | none => dflt
  | some i => if 0 ≤ i then min i.toNat n else (i + n).toNat
def cutD (ds : List Dt) (lo hi : Option Int) : List Dt := (ds.drop (sIx ds.length 0 lo)).take (sIx ds.length ds.length hi - sIx ds.length 0 lo)
abbrev OF := Sl → Option (Option Int)
def oNone : OF := fun _ => some none
def oSome (fa : EF) : OF := fun env => match fa env with
  | some (.vis (.int i)) => some (some i)
  | _ => none
def eSlice (fa : EF) (lo hi : OF) : EF := fun env => (fa env).bind fun a => (lo env).bind fun l => (hi env).bind fun h => match a.dt with
  | .lst ds => some (.fre (.lst (cutD ds l h)))
  | .tup ds => some (.vis (.tup (cutD ds l h)))
  | _ => none
/-! built-in functions -/
def pLen : Dt → Option R
  | .lst ds => some (.vis (.int ds.length))
  | .tup ds => some (.vis (.int ds.length))
  | _ => none
def pInt : Dt → Option R
  | .int i => some (.vis (.int i))
  | .bl b => some (.vis (.int (if b then 1 else 0)))
  | _ => none
def pAbs : Dt → Option R
  | .int i => some (.vis (.int (if i < 0 then -i else i)))
  | _ => none
def intsOf : List Dt → Option (List Int)
  | [] => some []
  | .int i :: ds => (intsOf ds).map (i :: ·)
  | _ => none
def pSum : Dt → Option R
  | .lst ds => (intsOf ds).map fun ns => .vis (.int ns.sum)
  | _ => none
def pMaxL : Dt → Option R
  | .lst ds => (intsOf ds).bind fun ns => match ns with
    | [] => none
    | n :: ns => some (.vis (.int (ns.foldl (fun m x => if x > m then x else m) n)))
  | _ => none
def pMinL : Dt → Option R
  | .lst ds => (intsOf ds).bind fun ns => match ns with
    | [] => none
    | n :: ns => some (.vis (.int (ns.foldl (fun m x => if x < m then x else m) n)))
  | _ => none
/-- an int among ints -/
def inInts : Dt → Dt → Option Bool
  | .int i, .lst ds => (intsOf ds).map fun ns => decide (i ∈ ns)
  | .int i, .tup ds => (intsOf ds).map fun ns => decide (i ∈ ns)
  | _, _ => none
def pIn (a b : Dt) : Option R := (inInts a b).map fun t => .vis (.bl t)
def pNotIn (a b : Dt) : Option R := (inInts a b).map fun t => .vis (.bl (!t))
def pMax2 : Dt → Dt → Option R
  | .int i, .int j => some (.vis (.int (if j > i then j else i)))
  | _, _ => none
def pMin2 : Dt → Dt → Option R
  | .int i, .int j => some (.vis (.int (if j < i then j else i)))
  | _, _ => none
def chooseN : Nat → Nat → Nat
  | _, 0 => 1
  | 0, _ + 1 => 0
  | n + 1, k + 1 => chooseN n k + chooseN n (k + 1)
def pGcd : Dt → Dt → Option R
  | .int i, .int j => some (.vis (.int (Nat.gcd i.natAbs j.natAbs : Nat)))
  | _, _ => none
def pComb : Dt → Dt → Option R
  | .int i, .int j => if 0 ≤ i ∧ i ≤ 9000 ∧ 0 ≤ j then some (.vis (.int (chooseN i.toNat j.toNat : Nat))) else none
  | _, _ => none
@[irreducible] def LCMB : Nat := 2 ^ 13000
theorem LCMB_eq : LCMB = 2 ^ 13000 := by unfold LCMB; rfl
def pLcm : Dt → Dt → Option R
  | .int i, .int j => if i.natAbs < LCMB ∧ j.natAbs < LCMB then some (.vis (.int (Nat.lcm i.natAbs j.natAbs : Nat))) else none
  | _, _ => none
/-- a list of lists of two ints -/
def intPairs : List Dt → Option (List (Int × Int))
  | [] => some []
  | .lst [.int a, .int b] :: ds => (intPairs ds).map ((a, b) :: ·)
  | _ => none
def lexLe (p q : Int × Int) : Bool := if p.1 = q.1 then decide (p.2 ≤ q.2) else decide (p.1 < q.1)
def pairD (p : Int × Int) : Dt := .lst [.int p.1, .int p.2]
def pSorted : Dt → Option R
  | .lst ds => match intsOf ds with
    | some ns => some (.fre (.lst ((ns.mergeSort fun a b => decide (a ≤ b)).map .int)))
    | none => (intPairs ds).map fun ps => .fre (.lst ((ps.mergeSort lexLe).map pairD))
  | _ => none
/-- a op b op' c -/
def eChain (p q : Dt → Dt → Option R) (fa fb fc : EF) : EF := fun env => (fa env).bind fun a => (fb env).bind fun b => match p a.dt b.dt with
  | some (.vis (.bl true)) => (fc env).bind fun c => q b.dt c.dt
  | some (.vis (.bl false)) => some (.vis (.bl false))
  | _ => none
def pList : Dt → Option R
  | .lst ds => some (.fre (.lst ds))
  | .tup ds => some (.fre (.lst ds))
  | _ => none
def pTuple : Dt → Option R
  | .lst ds => some (.vis (.tup ds))
  | .tup ds => some (.vis (.tup ds))
  | _ => none
/-- isinstance(x, T), T a built-in type by its name -/
def Dt.ty : Dt → Option String
  | .non => some "NoneType"
  | .bl _ => some "bool"
  | .int _ => some "int"
  | .str _ => some "str"
  | .lst _ => some "list"
  | .tup _ => some "tuple"
  | .obj _ _ => none
  | .exn _ _ _ => none
def isTy (T : String) (d : Dt) : Option Bool := d.ty.map fun t => t == T || (t == "bool" && T == "int")
def pIsi (T : String) (d : Dt) : Option R := (isTy T d).map fun b => .vis (.bl b)

/-! ### what a loop or a comprehension walks -/
abbrev IF := Sl → Option (List Dt × Bool)
def iSeq (fa : EF) : IF := fun env => (fa env).bind fun a => match a.dt with
  | .lst ds => some (ds, a.sh)
  | .tup ds => some (ds, a.sh)
  | _ => none
def rngD (lo : Int) (n : Nat) : List Dt := (List.range n).map fun i : Nat => .int (lo + (i : Int))
def iRange1 (fa : EF) : IF := fun env => match fa env with
  | some (.vis (.int n)) => if n < 4611686018427387904 ∧ -4611686018427387904 ≤ n then some (rngD 0 n.toNat, false) else none
  | _ => none
def iRange2 (fa fb : EF) : IF := fun env => (fa env).bind fun a => (fb env).bind fun b => match a.dt, b.dt with
  | .int lo, .int hi => if -4611686018427387904 ≤ lo ∧ lo < 4611686018427387904 ∧ -4611686018427387904 ≤ hi ∧ hi < 4611686018427387904 then some (rngD lo (hi - lo).toNat, false) else none
  | _, _ => none
/-- how many numbers range(a, b, c) has, c above 0 or -1 -/
def stepN (a b c : Int) : Nat := if 0 < c then (if a < b then ((b - a - 1) / c + 1).toNat else 0) else (a - b).toNat
def stepD (a c : Int) (n : Nat) : List Dt := (List.range n).map fun k : Nat => .int (a + (k : Int) * c)
def iRange3 (fa fb fc : EF) : IF := fun env => (fa env).bind fun a => (fb env).bind fun b => (fc env).bind fun c => match a.dt, b.dt, c.dt with
  | .int i, .int j, .int k => if ((0 < k ∧ k < 1073741824) ∨ k = -1) ∧ (-1099511627776 ≤ i ∧ i ≤ 1099511627776) ∧ -1099511627776 ≤ j ∧ j ≤ 1099511627776 then some (stepD i k (stepN i j k), false) else none
  | _, _, _ => none
def seqOf : Dt → Option (List Dt)
  | .lst ds => some ds
  | .tup ds => some ds
  | _ => none
def iZip (fa fb : EF) : IF := fun env => (fa env).bind fun a => (fb env).bind fun b => (seqOf a.dt).bind fun xs => (seqOf b.dt).bind fun ys =>
  some (List.zipWith (fun x y => Dt.tup [x, y]) xs ys, a.sh || b.sh)
/-- targets -/
abbrev GF := Dt → Sl → Option Sl
def gN (i : Nat) : GF := fun d env => some (env.set i (.val d))
def gsN : List Nat → List Dt → Sl → Option Sl
  | [], [], env => some env
  | i :: is, d :: ds, env => gsN is ds (env.set i (.val d))
  | _, _, _ => none
def gT (is : List Nat) : GF := fun d env => match d with
  | .tup ds => gsN is ds env
  | .lst ds => gsN is ds env
  | _ => none
def wipeS (env : Sl) : List Nat → Sl
  | [] => env
  | i :: is => (wipeS env is).set i .non
/-- one turn of a comprehension -/
def compG (env : Sl) (own : List Nat) (g : GF) (t : TF) (e : EF) (d : Dt) : Option (List Dt) := (g d (wipeS env own)).bind fun env' => (t env').bind fun b => if b then (e env').bind fun r => if r.sh then none else some [r.dt] else some []
def compL (g : Dt → Option (List Dt)) : List Dt → Option (List Dt)
  | [] => some []
  | d :: ds => (g d).bind fun o => (compL g ds).bind fun r => some (o ++ r)
def tYes : TF := fun _ => some true
def eComp (own : List Nat) (i : IF) (g : GF) (t : TF) (e : EF) : EF := fun env => (i env).bind fun ds => (compL (compG env own g t e) ds.1).bind fun out => if ds.1.length ≤ LIM then some (.fre (.lst out)) else none

/-! ### statements -/
structure En where
  nx : Sl → Prop
  rt : Dt → Prop
  bk : Sl → Prop
  ct : Sl → Prop
  er : Nat → List (Str × Dt) → Sl → Prop
abbrev WS := En → Sl → Prop
def wNil : WS := fun D env => D.nx env
def wSeq (a b : WS) : WS := fun D env => ∃ M : Sl → Prop, a { D with nx := M } env ∧ ∀ e, M e → b D e
def R.slot : R → Slot
  | .vis d => .val d
  | .fre o => .own o
  | .bor _ => .non
def wAsg (i : Nat) (e : EF) : WS := fun D env => ∃ r, e env = some r ∧ r.sh = false ∧ D.nx (env.set i r.slot)
def wUnp (is : List Nat) (e : EF) : WS := fun D env => ∃ d env', e env = some (.vis d) ∧ gT is d env = some env' ∧ D.nx env'
def wRet (e : EF) : WS := fun D env => ∃ r, e env = some r ∧ r.sh = false ∧ D.rt r.dt
def wRetN : WS := fun D _ => D.rt .non
def wIf (t : TF) (a b : WS) : WS := fun D env => ∃ c, t env = some c ∧ ((c = true → a D env) ∧ (c = false → b D env))
def wDrop (e : EF) : WS := fun D env => ∃ r, e env = some r ∧ D.nx env
def wApp (i : Nat) (e : EF) : WS := fun D env => ∃ ds r, env[i]? = some (.own (.lst ds)) ∧ e env = some r ∧ r.sh = false ∧ ds.length < LIM ∧ D.nx (env.set i (.own (.lst (ds ++ [r.dt]))))
/-- xs[k] = e -/
def wPut (i : Nat) (k e : EF) : WS := fun D env => ∃ ds r j, env[i]? = some (.own (.lst ds)) ∧ e env = some r ∧ r.sh = false ∧ k env = some (.vis (.int j)) ∧ -(ds.length : Int) ≤ j ∧ j < ds.length ∧ D.nx (env.set i (.own (.lst (ds.set (if 0 ≤ j then j else j + ds.length).toNat r.dt))))
/-- never come to -/
def wDead : WS := fun _ _ => False
def wBrk : WS := fun D env => D.bk env
def wCnt : WS := fun D env => D.ct env
def wFor (fi : IF) (g : GF) (b : WS) : WS := fun D env => ∃ ds, fi env = some (ds, false) ∧ ∃ I : Nat → Sl → Prop, I 0 env ∧
  (∀ i env d, ds[i]? = some d → I i env → ∃ env', g d env = some env' ∧ b { D with nx := I (i + 1), bk := D.nx, ct := I (i + 1) } env') ∧ ∀ env, I ds.length env → D.nx env
/-- over a list of one's own, that the body leaves alone -/
def wForO (k : Nat) (g : GF) (b : WS) : WS := fun D env => ∃ ds, env[k]? = some (.own (.lst ds)) ∧ ∃ I : Nat → Sl → Prop, I 0 (env.set k .take) ∧
  (∀ i env d, ds[i]? = some d → I i env → ∃ env', g d env = some env' ∧ b { D with nx := I (i + 1), bk := fun e => e[k]? = some .take ∧ D.nx (e.set k (.own (.lst ds))), ct := I (i + 1) } env') ∧
  ∀ env, I ds.length env → env[k]? = some .take ∧ D.nx (env.set k (.own (.lst ds)))
def wWhile (t : TF) (b : WS) : WS := fun D env => ∃ I : Nat → Sl → Prop, (∃ m, I m env) ∧ ∀ m env, I m env → ∃ c, t env = some c ∧
  ((c = true → b { D with nx := fun e => ∃ m', m' < m ∧ I m' e, bk := D.nx, ct := fun e => ∃ m', m' < m ∧ I m' e } env) ∧ (c = false → D.nx env))
/-- what a name holds is from now on data -/
def frzS (i : Nat) (env : Sl) : Sl := match env[i]? with
  | some (.own o) => env.set i (.val o.dt)
  | some (.mat dss) => env.set i (.val (.lst (dss.map .lst)))
  | _ => env
/-- all that the frame's names hold as data -/
def Slot.frz : Slot → Slot
  | .own o => .val o.dt
  | .mat dss => .val (.lst (dss.map .lst))
  | s => s
def frzAll (env : Sl) : Sl := env.map Slot.frz
/-- an expression that only looks at what the names hold, the answer a scalar or a new list of scalars -/
def eLook (fe : EF) : EF := fun env => match fe (frzAll env) with
  | some (.vis d) => if d.scalar then some (.vis d) else none
  | some (.fre (.lst ds)) => if ds.all Dt.scalar then some (.fre (.lst ds)) else none
  | _ => none
def tLook (ft : TF) : TF := fun env => ft (frzAll env)
/-- lists of lists, all of them new -/
abbrev MF := Sl → Option (List (List Dt))
def freL : Option R → Option (List Dt)
  | some (.fre (.lst ds)) => some ds
  | _ => none
def mNil : MF := fun _ => some []
def mCons (fe : EF) (m : MF) : MF := fun env => (freL (fe env)).bind fun ds => (m env).bind fun r => some (ds :: r)
def compM (g : Dt → Option (List Dt)) : List Dt → Option (List (List Dt))
  | [] => some []
  | d :: ds => (g d).bind fun o => (compM g ds).bind fun r => some (o :: r)
def mComp (own : List Nat) (i : IF) (g : GF) (e : EF) : MF := fun env => (i env).bind fun ds => if ds.1.length ≤ LIM then compM (fun d => (g d (wipeS env own)).bind fun env' => freL (e env')) ds.1 else none
def wAsgM (i : Nat) (m : MF) : WS := fun D env => ∃ dss, m env = some dss ∧ D.nx (env.set i (.mat dss))
def nrm (n : Nat) (j : Int) : Nat := (if 0 ≤ j then j else j + n).toNat
/-- xss[a][b] = e -/
def wPutM (i : Nat) (ka kb e : EF) : WS := fun D env => ∃ dss r a b ds, env[i]? = some (.mat dss) ∧ e env = some r ∧ r.sh = false ∧ ka env = some (.vis (.int a)) ∧ atL dss a = some ds ∧ kb env = some (.vis (.int b)) ∧ -(ds.length : Int) ≤ b ∧ b < ds.length ∧
  D.nx (env.set i (.mat (dss.set (nrm dss.length a) (ds.set (nrm ds.length b) r.dt))))
/-- xss[k] = e, e a new list -/
def wPutR (i : Nat) (k e : EF) : WS := fun D env => ∃ dss ds j, env[i]? = some (.mat dss) ∧ e env = some (.fre (.lst ds)) ∧ k env = some (.vis (.int j)) ∧ -(dss.length : Int) ≤ j ∧ j < dss.length ∧ D.nx (env.set i (.mat (dss.set (nrm dss.length j) ds)))
def wFrz (i : Nat) (a : WS) : WS := fun D env => a D (frzS i env)
def startE (n : Nat) (ds : List Dt) : Sl := ds.map .val ++ List.replicate (n - ds.length) .non
/-- a def keeps the function F -/
def Keeps (n : Nat) (w : WS) (F : FN) : Prop := ∀ ds r, F ds = some r → w ⟨fun _ => r = .non, fun d => d = r, fun _ => False, fun _ => False, fun _ _ _ => False⟩ (startE n ds)

/-! ### instances, errors -/
/-- a class called, its __init__ storing its arguments under these names -/
def eMake (c : Nat) (ns : List Str) (fa : AF) : EF := fun env => (fa env).bind fun rs => (plain rs).bind fun ds => if ds.length = ns.length then some (.vis (.obj c (ns.zip ds))) else none
/-- e.f, e an instance of one of these classes -/
def eFld (cs : List Nat) (f : Str) (fe : EF) : EF := fun env => match fe env with
  | some (.vis (.obj c fs)) => if c ∈ cs then (fs.lookup f).map .vis else none
  | _ => none
/-- isinstance(e, C), C the own class number c -/
def eIsC (cs : List Nat) (c : Nat) (fe : EF) : EF := fun env => (fe env).bind fun r => match r.dt with
  | .obj c' _ => if c' ∈ cs then some (.vis (.bl (c' == c))) else none
  | d => d.ty.map fun _ => .vis (.bl false)
/-- e.f, e the caught exception at a -/
def eXf (a : Nat) (d : Option Nat) (f : Str) (fe : EF) : EF := fun env => match fe env with
  | some (.vis (.exn a' d' fs)) => if a' = a ∧ d' = d then (fs.lookup f).map .vis else none
  | _ => none
/-- isinstance(e, T), the answer b -/
def eXis (a : Nat) (d : Option Nat) (b : Bool) (fe : EF) : EF := fun env => match fe env with
  | some (.vis (.exn a' d' _)) => if a' = a ∧ d' = d then some (.vis (.bl b)) else none
  | _ => none
/-- how a call ends: a value, or an error of the class number c with its fields -/
inductive Xr where
  | ok (d : Dt) | er (c : Nat) (fs : List (Str × Dt))
abbrev FX := List Dt → Option Xr
abbrev XF := Sl → Option Xr
def Xr.scalar : Xr → Bool
  | .ok d => d.scalar
  | .er _ _ => false
def xCall (F : FX) (fa : AF) : XF := fun env => (fa env).bind fun rs => (F (rs.map (·.1))).bind fun o => if rs.any (·.2) && !o.scalar then none else some o
def wAsgX (i : Nat) (f : XF) : WS := fun D env => ∃ o, f env = some o ∧ (∀ d, o = .ok d → D.nx (env.set i (.val d))) ∧ ∀ c fs, o = .er c fs → D.er c fs env
def wRetX (f : XF) : WS := fun D env => ∃ o, f env = some o ∧ (∀ d, o = .ok d → D.rt d) ∧ ∀ c fs, o = .er c fs → D.er c fs env
def wDropX (f : XF) : WS := fun D env => ∃ o, f env = some o ∧ (∀ d, o = .ok d → D.nx env) ∧ ∀ c fs, o = .er c fs → D.er c fs env
/-- raise C(e, ..), C the class number c, its fields in the order in which they are told -/
def wRaise (c : Nat) (ns : List Str) (fa : AF) : WS := fun D env => ∃ rs ds, fa env = some rs ∧ plain rs = some ds ∧ ds.length = ns.length ∧ D.er c (ns.zip ds).reverse env
/-- try: b; except ..: as the name number i: s, of errors of these classes -/
def wTry (i : Nat) (cs : List Nat) (b : WS) (s : Nat → Nat → Option Nat → WS) : WS := fun D env => b { D with er := fun c fs e => c ∈ cs ∧ ∀ a d, s c a d { nx := fun e' => D.nx (e'.set i .non), rt := D.rt, bk := fun e' => D.bk (e'.set i .non), ct := fun e' => D.ct (e'.set i .non), er := fun _ _ _ => False } (e.set i (.val (.exn a d fs))) } env
/-- a def keeps the function F, and raises what F tells -/
def KeepsX (n : Nat) (w : WS) (F : FX) : Prop := ∀ ds o, F ds = some o → w ⟨fun _ => o = .ok .non, fun d => o = .ok d, fun _ => False, fun _ => False, fun c fs _ => o = .er c fs⟩ (startE n ds)
/-- what a def that may raise gives where it does not -/
def okF (F : FX) : FN := fun ds => match F ds with
  | some (.ok d) => some d
  | _ => none
end Pyl
end
section
set_option Elab.async false
set_option linter.all false
namespace Pyl
open PySem
/-! ### one step at a time: all by what the words mean -/
section
variable {env : Sl} {D : En} {a b : WS} {fa fb : EF} {ft fu : TF} {i : Nat} {d e : Dt} {x y : Int} {ds es : List Dt}
theorem wNil_at : wNil D env = D.nx env := rfl
theorem q_go (h : a { D with nx := b D } env) : wSeq a b D env := ⟨b D, h, fun _ h => h⟩
theorem wAsg_at : wAsg i fa D env = ∃ r, fa env = some r ∧ r.sh = false ∧ D.nx (env.set i r.slot) := rfl
theorem wUnp_at {is : List Nat} : wUnp is fa D env = ∃ d env', fa env = some (.vis d) ∧ gT is d env = some env' ∧ D.nx env' := rfl
theorem wRet_at : wRet fa D env = ∃ r, fa env = some r ∧ r.sh = false ∧ D.rt r.dt := rfl
theorem wRetN_at : wRetN D env = D.rt .non := rfl
theorem wIf_at : wIf ft a b D env = ∃ c, ft env = some c ∧ ((c = true → a D env) ∧ (c = false → b D env)) := rfl
theorem wDrop_at : wDrop fa D env = ∃ r, fa env = some r ∧ D.nx env := rfl
theorem wApp_at : wApp i fa D env = ∃ ds r, env[i]? = some (.own (.lst ds)) ∧ fa env = some r ∧ r.sh = false ∧ ds.length < LIM ∧ D.nx (env.set i (.own (.lst (ds ++ [r.dt])))) := rfl
theorem wPut_at : wPut i fb fa D env = ∃ ds r j, env[i]? = some (.own (.lst ds)) ∧ fa env = some r ∧ r.sh = false ∧ fb env = some (.vis (.int j)) ∧ -(ds.length : Int) ≤ j ∧ j < ds.length ∧ D.nx (env.set i (.own (.lst (ds.set (if 0 ≤ j then j else j + ds.length).toNat r.dt)))) := rfl
theorem wBrk_at : wBrk D env = D.bk env := rfl
theorem wCnt_at : wCnt D env = D.ct env := rfl
theorem wFrz_at : wFrz i a D env = a D (frzS i env) := rfl
theorem frzS_own {o : OD} (h : env[i]? = some (.own o)) : frzS i env = env.set i (.val o.dt) := by unfold frzS; rw [h]
theorem frzS_val (h : env[i]? = some (.val d)) : frzS i env = env := by unfold frzS; rw [h]
theorem frzS_at : frzS i env = match env[i]? with
  | some (.own o) => env.set i (.val o.dt)
  | some (.mat dss) => env.set i (.val (.lst (dss.map .lst)))
  | _ => env := rfl
theorem eVar_at : eVar i env = match env[i]? with
  | some (.val d) => some (.vis d)
  | some (.own (.lst ds)) => some (.bor (.lst ds))
  | _ => none := rfl
theorem eC_at : eC d env = some (.vis d) := rfl
theorem e1_at {p : Dt → Option R} : e1 p fa env = (fa env).bind fun a => p a.dt := rfl
theorem e2_at {p : Dt → Dt → Option R} : e2 p fa fb env = (fa env).bind fun a => (fb env).bind fun b => p a.dt b.dt := rfl
theorem aNil_at : aNil env = some [] := rfl
theorem aCons_at {fr : AF} : aCons fa fr env = (fa env).bind fun a => (fr env).bind fun r => some ((a.dt, a.sh) :: r) := rfl
theorem eTup_at {fr : AF} : eTup fr env = (fr env).bind fun rs => (plain rs).bind fun ds => some (.vis (.tup ds)) := rfl
theorem eLst_at {fr : AF} : eLst fr env = (fr env).bind fun rs => (plain rs).bind fun ds => some (.fre (.lst ds)) := rfl
theorem plain_nil : plain [] = some [] := rfl
theorem plain_cons {rs : List (Dt × Bool)} : plain ((d, false) :: rs) = (plain rs).map (d :: ·) := by
  unfold plain
  rw [List.any_cons, Bool.false_or, List.map_cons]
  split <;> rfl
theorem eCall_at {F : FN} {fr : AF} : eCall F fr env = (fr env).bind fun rs => (F (rs.map (·.1))).bind fun d => if rs.any (·.2) && !d.scalar then none else some (.vis d) := rfl
theorem eIf_at : eIf ft fa fb env = (ft env).bind fun t => if t then fa env else fb env := rfl
theorem eAnd_at : eAnd fa fb env = match fa env with
  | some (.vis (.bl true)) => fb env
  | some (.vis (.bl false)) => some (.vis (.bl false))
  | _ => none := rfl
theorem eOr_at : eOr fa fb env = match fa env with
  | some (.vis (.bl true)) => some (.vis (.bl true))
  | some (.vis (.bl false)) => fb env
  | _ => none := rfl
theorem eNot_at : eNot fa env = match fa env with
  | some (.vis (.bl b)) => some (.vis (.bl (!b)))
  | _ => none := rfl
theorem tVal_at : tVal fa env = match fa env with
  | some (.vis (.bl b)) => some b
  | _ => none := rfl
theorem tAnd_at : tAnd ft fu env = (ft env).bind fun t => if t then fu env else some false := rfl
theorem tOr_at : tOr ft fu env = (ft env).bind fun t => if t then some true else fu env := rfl
theorem tNot_at : tNot ft env = (ft env).bind fun t => some (!t) := rfl
theorem tYes_at : tYes env = some true := rfl
theorem pAdd_int : pAdd (.int x) (.int y) = some (.vis (.int (x + y))) := rfl
theorem pAdd_lst (h : ds.length + es.length ≤ LIM) : pAdd (.lst ds) (.lst es) = some (.fre (.lst (ds ++ es))) := if_pos h
theorem pAdd_tup (h : ds.length + es.length ≤ LIM) : pAdd (.tup ds) (.tup es) = some (.vis (.tup (ds ++ es))) := if_pos h
theorem pSub_int : pSub (.int x) (.int y) = some (.vis (.int (x - y))) := rfl
theorem pMul_int (h1 : x.natAbs < BIG) (h2 : y.natAbs < BIG) : pMul (.int x) (.int y) = some (.vis (.int (x * y))) := if_pos ⟨h1, h2⟩
theorem pDiv_int (h1 : 0 < y) (h2 : y.natAbs < DIVB) : pDiv (.int x) (.int y) = some (.vis (.int (x / y))) := by
  show (if 0 < y ∧ y.natAbs < DIVB then some (x / y) else none).map _ = _
  rw [if_pos ⟨h1, h2⟩]
  rfl
theorem pMod_int (h1 : 0 < y) : pMod (.int x) (.int y) = some (.vis (.int (x % y))) := by
  show (if 0 < y then some (x % y) else none).map _ = _
  rw [if_pos h1]
  rfl
theorem pPow_int (h1 : 0 ≤ y) (h2 : y ≤ 1000000) (h3 : x.natAbs < 2 ^ 64) : pPow (.int x) (.int y) = some (.vis (.int (x ^ y.toNat))) := by
  show (if 0 ≤ y ∧ y ≤ 1000000 ∧ x.natAbs < 2 ^ 64 then some (x ^ y.toNat) else none).map _ = _
  rw [if_pos ⟨h1, h2, h3⟩]
  rfl
theorem pShl_int (h1 : 0 ≤ y) (h2 : y ≤ 100000) (h3 : x.natAbs < BIG) : pShl (.int x) (.int y) = some (.vis (.int (x * 2 ^ y.toNat))) := by
  show (if 0 ≤ y ∧ y ≤ 100000 ∧ x.natAbs < BIG then some (x * 2 ^ y.toNat) else none).map _ = _
  rw [if_pos ⟨h1, h2, h3⟩]
  rfl
theorem pShr_int (h1 : 0 ≤ y) : pShr (.int x) (.int y) = some (.vis (.int (x / 2 ^ y.toNat))) := by
  show (if 0 ≤ y then some (x / 2 ^ y.toNat) else none).map _ = _
  rw [if_pos h1]
  rfl
theorem pXor_nat {n k : Nat} : pXor (.int (n : Int)) (.int (k : Int)) = some (.vis (.int ((n ^^^ k : Nat) : Int))) := by
  unfold pXor pIntI
  dsimp only
  rw [if_pos ⟨Int.natCast_nonneg n, Int.natCast_nonneg k⟩, Int.toNat_natCast, Int.toNat_natCast]
  rfl
theorem pAnd_nat {n k : Nat} : pAnd (.int (n : Int)) (.int (k : Int)) = some (.vis (.int ((n &&& k : Nat) : Int))) := by
  unfold pAnd pIntI
  dsimp only
  rw [if_pos ⟨Int.natCast_nonneg n, Int.natCast_nonneg k⟩, Int.toNat_natCast, Int.toNat_natCast]
  rfl
theorem pOr_nat {n k : Nat} : pOr (.int (n : Int)) (.int (k : Int)) = some (.vis (.int ((n ||| k : Nat) : Int))) := by
  unfold pOr pIntI
  dsimp only
  rw [if_pos ⟨Int.natCast_nonneg n, Int.natCast_nonneg k⟩, Int.toNat_natCast, Int.toNat_natCast]
  rfl
theorem pNeg_int : pNeg (.int x) = some (.vis (.int (-x))) := rfl
theorem pLt_int : pLt (.int x) (.int y) = some (.vis (.bl (decide (x < y)))) := rfl
theorem pLe_int : pLe (.int x) (.int y) = some (.vis (.bl (decide (x ≤ y)))) := rfl
theorem pGt_int : pGt (.int x) (.int y) = some (.vis (.bl (decide (y < x)))) := rfl
theorem pGe_int : pGe (.int x) (.int y) = some (.vis (.bl (decide (y ≤ x)))) := rfl
theorem shaped_int (x : Int) : SeqAt.shaped (.int x) = true := rfl
theorem eqD_int : eqD (.int x) (.int y) = some (decide (x = y)) := by
  show (if SeqAt.shaped (.int x) && SeqAt.shaped (.int y) then some (PyData.eqv (.int x) (.int y)) else none) = _
  rw [shaped_int, shaped_int]
  show some (x == y) = _
  by_cases h : x = y <;> simp [h]
theorem pEq_int : pEq (.int x) (.int y) = some (.vis (.bl (decide (x = y)))) := by unfold pEq; rw [eqD_int]; rfl
theorem pNe_int : pNe (.int x) (.int y) = some (.vis (.bl (!decide (x = y)))) := by unfold pNe; rw [eqD_int]; rfl
theorem pIsN_at : pIsN d = some (.vis (.bl d.isNon)) := rfl
theorem pNotN_at : pNotN d = some (.vis (.bl (!d.isNon))) := rfl
theorem pIx_lst : pIx (.lst ds) (.int x) = (atL ds x).map .vis := rfl
theorem pIx_tup : pIx (.tup ds) (.int x) = (atL ds x).map .vis := rfl
theorem atL_nat {α : Type} {l : List α} {n : Nat} : atL l (n : Int) = l[n]? := by
  unfold atL
  rw [if_pos (Int.natCast_nonneg n), Int.toNat_natCast]
theorem atL_of_get {α : Type} {l : List α} {z : Int} {v : α} (h0 : 0 ≤ z) (h : l[z.toNat]? = some v) : atL l z = some v := by
  unfold atL
  rw [if_pos h0, h]
theorem atL_zero {α : Type} {a : α} {l : List α} : atL (a :: l) 0 = some a := rfl
theorem atL_last {α : Type} {a : α} {l : List α} : atL (l ++ [a]) (-1) = some a := by
  unfold atL
  rw [if_neg (by decide), if_pos (by rw [List.length_append, List.length_singleton]; omega)]
  rw [show (-1 + ((l ++ [a]).length : Int)).toNat = l.length by rw [List.length_append, List.length_singleton]; omega]
  rw [List.getElem?_append_right (Nat.le_refl _), Nat.sub_self]
  rfl
theorem oNone_at : oNone env = some none := rfl
theorem oSome_at : oSome fa env = match fa env with
  | some (.vis (.int i)) => some (some i)
  | _ => none := rfl
theorem eSlice_at {lo hi : OF} : eSlice fa lo hi env = (fa env).bind fun a => (lo env).bind fun l => (hi env).bind fun h => match a.dt with
  | .lst ds => some (.fre (.lst (cutD ds l h)))
  | .tup ds => some (.vis (.tup (cutD ds l h)))
  | _ => none := rfl
theorem pLen_lst : pLen (.lst ds) = some (.vis (.int ds.length)) := rfl
theorem pLen_tup : pLen (.tup ds) = some (.vis (.int ds.length)) := rfl
theorem pInt_int : pInt (.int x) = some (.vis (.int x)) := rfl
theorem pInt_bl {t : Bool} : pInt (.bl t) = some (.vis (.int (if t then 1 else 0))) := rfl
theorem pAbs_int : pAbs (.int x) = some (.vis (.int (if x < 0 then -x else x))) := rfl
theorem pSum_lst {ns : List Int} (h : intsOf ds = some ns) : pSum (.lst ds) = some (.vis (.int ns.sum)) := by
  show (intsOf ds).map _ = _
  rw [h]
  rfl
theorem intsOf_ints : ∀ ns : List Int, intsOf (ns.map Dt.int) = some ns
  | [] => rfl
  | n :: ns => by
    rw [List.map_cons]
    unfold intsOf
    rw [intsOf_ints ns]
    rfl
theorem pSum_ints {ns : List Int} : pSum (.lst (ns.map .int)) = some (.vis (.int ns.sum)) := pSum_lst (intsOf_ints ns)
theorem pMax2_int : pMax2 (.int x) (.int y) = some (.vis (.int (if y > x then y else x))) := rfl
theorem pMin2_int : pMin2 (.int x) (.int y) = some (.vis (.int (if y < x then y else x))) := rfl
theorem pList_lst : pList (.lst ds) = some (.fre (.lst ds)) := rfl
theorem pList_tup : pList (.tup ds) = some (.fre (.lst ds)) := rfl
theorem pTuple_lst : pTuple (.lst ds) = some (.vis (.tup ds)) := rfl
theorem pTuple_tup : pTuple (.tup ds) = some (.vis (.tup ds)) := rfl
theorem iSeq_at : iSeq fa env = (fa env).bind fun a => match a.dt with
  | .lst ds => some (ds, a.sh)
  | .tup ds => some (ds, a.sh)
  | _ => none := rfl
theorem iRange1_at : iRange1 fa env = match fa env with
  | some (.vis (.int n)) => if n < 4611686018427387904 ∧ -4611686018427387904 ≤ n then some (rngD 0 n.toNat, false) else none
  | _ => none := rfl
theorem eChain_at {p q : Dt → Dt → Option R} {fc : EF} : eChain p q fa fb fc env = (fa env).bind fun a => (fb env).bind fun b => match p a.dt b.dt with
  | some (.vis (.bl true)) => (fc env).bind fun c => q b.dt c.dt
  | some (.vis (.bl false)) => some (.vis (.bl false))
  | _ => none := rfl
theorem pGcd_int : pGcd (.int x) (.int y) = some (.vis (.int (Nat.gcd x.natAbs y.natAbs : Nat))) := rfl
theorem pComb_nat {n k : Nat} (h : n ≤ 9000) : pComb (.int (n : Int)) (.int (k : Int)) = some (.vis (.int (chooseN n k : Nat))) := by
  show (if 0 ≤ (n : Int) ∧ (n : Int) ≤ 9000 ∧ 0 ≤ (k : Int) then some (R.vis (.int (chooseN (n : Int).toNat (k : Int).toNat : Nat))) else none) = _
  rw [if_pos ⟨by omega, by omega, by omega⟩, Int.toNat_natCast, Int.toNat_natCast]
/-- a chain of two comparisons of ints -/
theorem chain_le {fc : EF} {z : Int} (h1 : fa env = some (.vis (.int x))) (h2 : fb env = some (.vis (.int y))) (h3 : fc env = some (.vis (.int z))) : eChain pLe pLe fa fb fc env = some (.vis (.bl (decide (x ≤ y ∧ y ≤ z)))) := by
  rw [eChain_at, h1, h2, h3]
  show (match pLe (.int x) (.int y) with
    | some (.vis (.bl true)) => pLe (.int y) (.int z)
    | some (.vis (.bl false)) => some (.vis (.bl false))
    | _ => none) = _
  rw [pLe_int, pLe_int]
  by_cases h : x ≤ y <;> simp [h]
theorem rng1 {n : Int} (h : fa env = some (.vis (.int n))) (h1 : n < 4611686018427387904) (h2 : -4611686018427387904 ≤ n := by omega) : iRange1 fa env = some (rngD 0 n.toNat, false) := by
  rw [iRange1_at, h]
  exact if_pos ⟨h1, h2⟩
theorem rng2 {lo hi : Int} (h : fa env = some (.vis (.int lo))) (h' : fb env = some (.vis (.int hi))) (h1 : -4611686018427387904 ≤ lo ∧ lo < 4611686018427387904 ∧ -4611686018427387904 ≤ hi ∧ hi < 4611686018427387904 := by omega) : iRange2 fa fb env = some (rngD lo (hi - lo).toNat, false) := by
  show (fa env).bind _ = _
  rw [h]
  show (fb env).bind _ = _
  rw [h']
  exact if_pos h1
theorem rng3 {fc : EF} {i j k : Int} {n : Nat} (h1 : fa env = some (.vis (.int i))) (h2 : fb env = some (.vis (.int j))) (h3 : fc env = some (.vis (.int k))) (hn : stepN i j k = n) (hk : (0 < k ∧ k < 1073741824) ∨ k = -1) (hb : (-1099511627776 ≤ i ∧ i ≤ 1099511627776) ∧ -1099511627776 ≤ j ∧ j ≤ 1099511627776 := by omega) : iRange3 fa fb fc env = some (stepD i k n, false) := by
  show (fa env).bind _ = _
  rw [h1]
  show (fb env).bind _ = _
  rw [h2]
  show (fc env).bind _ = _
  rw [h3, ← hn]
  exact if_pos ⟨hk, hb⟩
theorem stepD_len (a c : Int) (n : Nat) : (stepD a c n).length = n := by
  unfold stepD
  rw [List.length_map, List.length_range]
theorem stepD_at {a c : Int} {n j : Nat} {v : Dt} (h : (stepD a c n)[j]? = some v) : j < n ∧ v = .int (a + (j : Int) * c) := by
  unfold stepD at h
  rw [List.getElem?_map] at h
  cases hj : (List.range n)[j]? with
  | none => rw [hj] at h; cases h
  | some k =>
    rw [hj] at h
    have hl := (List.getElem?_eq_some_iff.mp hj).1
    rw [List.length_range] at hl
    rw [List.getElem?_range hl] at hj
    cases hj
    cases h
    exact ⟨hl, rfl⟩
theorem rngD_at {lo : Int} {n j : Nat} {v : Dt} (h : (rngD lo n)[j]? = some v) : j < n ∧ v = .int (lo + (j : Int)) := by
  unfold rngD at h
  rw [List.getElem?_map] at h
  cases hj : (List.range n)[j]? with
  | none => rw [hj] at h; cases h
  | some k =>
    rw [hj] at h
    have hl := (List.getElem?_eq_some_iff.mp hj).1
    rw [List.length_range] at hl
    rw [List.getElem?_range hl] at hj
    cases hj
    cases h
    exact ⟨hl, rfl⟩
theorem rngD_len (lo : Int) (n : Nat) : (rngD lo n).length = n := by
  unfold rngD
  rw [List.length_map, List.length_range]
theorem gN_at : gN i d env = some (env.set i (.val d)) := rfl
theorem gT_at {is : List Nat} : gT is (.tup ds) env = gsN is ds env := rfl
theorem gT_lst {is : List Nat} : gT is (.lst ds) env = gsN is ds env := rfl
theorem gsN_cons {is : List Nat} : gsN (i :: is) (d :: ds) env = gsN is ds (env.set i (.val d)) := rfl
theorem gsN_nil : gsN [] [] env = some env := rfl
theorem wipeS_cons {is : List Nat} : wipeS env (i :: is) = (wipeS env is).set i .non := rfl
theorem wipeS_nil : wipeS env [] = env := rfl
theorem compG_at {own : List Nat} {g : GF} : compG env own g ft fa d = (g d (wipeS env own)).bind fun env' => (ft env').bind fun b => if b then (fa env').bind fun r => if r.sh then none else some [r.dt] else some [] := rfl
theorem eComp_of {own : List Nat} {fi : IF} {g : GF} {s : Bool} {out : List Dt} (h : fi env = some (ds, s)) (hl : ds.length ≤ LIM) (hc : compL (compG env own g ft fa) ds = some out) : eComp own fi g ft fa env = some (.fre (.lst out)) := by
  show (fi env).bind _ = _
  rw [h]
  show (compL _ ds).bind _ = _
  rw [hc]
  exact if_pos hl
end
/-! ### comprehensions -/
theorem compL_flat {g : Dt → Option (List Dt)} {k : Dt → List Dt} : ∀ {ds : List Dt}, (∀ d ∈ ds, g d = some (k d)) → compL g ds = some (ds.flatMap k)
  | [], _ => rfl
  | d :: ds, h => by
    show (g d).bind _ = _
    rw [h d List.mem_cons_self]
    show (compL g ds).bind _ = _
    rw [compL_flat fun e he => h e (List.mem_cons_of_mem _ he), List.flatMap_cons]
    rfl
/-- the items typed, each gives one item -/
theorem compL_map {α β : Type} {g : Dt → Option (List Dt)} {u : α → Dt} {v : β → Dt} {f : α → β} : ∀ {xs : List α}, (∀ x ∈ xs, g (u x) = some [v (f x)]) → compL g (xs.map u) = some ((xs.map f).map v)
  | [], _ => rfl
  | x :: xs, h => by
    rw [List.map_cons, List.map_cons, List.map_cons]
    show (g (u x)).bind _ = _
    rw [h x List.mem_cons_self]
    show (compL g (xs.map u)).bind _ = _
    rw [compL_map fun y hy => h y (List.mem_cons_of_mem _ hy)]
    rfl
theorem compL_filter {α β : Type} {g : Dt → Option (List Dt)} {u : α → Dt} {v : β → Dt} {p : α → Bool} {f : α → β} : ∀ {xs : List α}, (∀ x ∈ xs, g (u x) = some (if p x then [v (f x)] else [])) → compL g (xs.map u) = some (((xs.filter p).map f).map v)
  | [], _ => rfl
  | x :: xs, h => by
    rw [List.map_cons]
    show (g (u x)).bind _ = _
    rw [h x List.mem_cons_self]
    show (compL g (xs.map u)).bind _ = _
    rw [compL_filter fun y hy => h y (List.mem_cons_of_mem _ hy), List.filter_cons]
    cases p x <;> rfl
/-- by places -/
theorem compL_ix {g : Dt → Option (List Dt)} : ∀ {ds out : List Dt}, ds.length = out.length → (∀ (i : Nat) d o, ds[i]? = some d → out[i]? = some o → g d = some [o]) → compL g ds = some out
  | [], [], _, _ => rfl
  | [], _ :: _, h, _ => by cases h
  | _ :: _, [], h, _ => by cases h
  | d :: ds, o :: out, hl, h => by
    show (g d).bind _ = _
    rw [h 0 d o rfl rfl]
    show (compL g ds).bind _ = _
    rw [compL_ix (by simpa using hl) fun i d' o' h1 h2 => h (i + 1) d' o' h1 h2]
    rfl
/-! ### functions told by what they give -/
/-- the end in which just r is returned -/
def endR (r : Dt) : En := ⟨fun _ => r = .non, fun d => d = r, fun _ => False, fun _ => False, fun _ _ _ => False⟩
open Classical in
noncomputable def autoF (n : Nat) (w : WS) (P : List Dt → Dt → Prop) : FN := fun ds => if h : ∃ r, P ds r ∧ w (endR r) (startE n ds) then some (choose h) else none
theorem auto_spec {n : Nat} {w : WS} {P : List Dt → Dt → Prop} {ds : List Dt} {r : Dt} (h : autoF n w P ds = some r) : P ds r ∧ w (endR r) (startE n ds) := by
  unfold autoF at h
  split at h
  · rename_i hk
    cases h
    exact Classical.choose_spec hk
  · cases h
theorem auto_keeps {n : Nat} {w : WS} {P : List Dt → Dt → Prop} : Keeps n w (autoF n w P) := fun ds r h => (auto_spec h).2
theorem auto_at {n : Nat} {w : WS} {P : List Dt → Dt → Prop} {ds : List Dt} (h : ∃ r, P ds r ∧ w (endR r) (startE n ds)) : ∃ r, autoF n w P ds = some r ∧ P ds r := by
  unfold autoF
  rw [dif_pos h]
  exact ⟨_, rfl, (Classical.choose_spec h).1⟩
/-! ### loops -/
theorem wFor_of {fi : IF} {g : GF} {b : WS} {D : En} {env : Sl} {ds : List Dt} (I : Nat → Sl → Prop) (h : fi env = some (ds, false)) (h0 : I 0 env)
    (hs : ∀ i env d, ds[i]? = some d → I i env → ∃ env', g d env = some env' ∧ b { D with nx := I (i + 1), bk := D.nx, ct := I (i + 1) } env') (hd : ∀ env, I ds.length env → D.nx env) : wFor fi g b D env := ⟨ds, h, I, h0, hs, hd⟩
/-- over typed items -/
theorem wFor_map {α : Type} {u : α → Dt} {xs : List α} {fi : IF} {g : GF} {b : WS} {D : En} {env : Sl} (I : Nat → Sl → Prop) (h : fi env = some (xs.map u, false)) (h0 : I 0 env)
    (hs : ∀ i env x, xs[i]? = some x → I i env → ∃ env', g (u x) env = some env' ∧ b { D with nx := I (i + 1), bk := D.nx, ct := I (i + 1) } env') (hd : ∀ env, I xs.length env → D.nx env) : wFor fi g b D env := by
  refine ⟨_, h, I, h0, fun i env d hi inv => ?_, fun env inv => hd env (by rw [List.length_map] at inv; exact inv)⟩
  rw [List.getElem?_map] at hi
  cases hx : xs[i]? with
  | none => rw [hx] at hi; cases hi
  | some x =>
    rw [hx] at hi
    cases hi
    exact hs i env x hx inv
theorem wFor_rng {lo : Int} {n : Nat} {fi : IF} {g : GF} {b : WS} {D : En} {env : Sl} (I : Nat → Sl → Prop) (h : fi env = some (rngD lo n, false)) (h0 : I 0 env)
    (hs : ∀ i env, i < n → I i env → ∃ env', g (.int (lo + (i : Int))) env = some env' ∧ b { D with nx := I (i + 1), bk := D.nx, ct := I (i + 1) } env') (hd : ∀ env, I n env → D.nx env) : wFor fi g b D env := by
  refine ⟨_, h, I, h0, fun i env d hi inv => ?_, fun env inv => hd env (by rw [rngD_len] at inv; exact inv)⟩
  obtain ⟨hl, rfl⟩ := rngD_at hi
  exact hs i env hl inv
theorem wWhile_of {t : TF} {b : WS} {D : En} {env : Sl} (I : Nat → Sl → Prop) (m : Nat) (h0 : I m env)
    (hs : ∀ m env, I m env → ∃ c, t env = some c ∧ ((c = true → b { D with nx := fun e => ∃ m', m' < m ∧ I m' e, bk := D.nx, ct := fun e => ∃ m', m' < m ∧ I m' e } env) ∧ (c = false → D.nx env))) : wWhile t b D env := ⟨I, ⟨m, h0⟩, hs⟩
/-! ### sizes -/
theorem big_of {x : Int} {n : Nat} (h : x.natAbs < 2 ^ n) (hn : n ≤ 400000) : x.natAbs < BIG := by
  rw [BIG_eq]
  exact Nat.lt_of_lt_of_le h (Nat.pow_le_pow_right (by decide) hn)
theorem big64 {x : Int} (h1 : -18446744073709551616 < x) (h2 : x < 18446744073709551616) : x.natAbs < BIG := big_of (n := 64) (by omega) (by decide)
theorem div64 {x : Int} (h0 : 0 < x) (h2 : x < 18446744073709551616) : x.natAbs < DIVB := by
  rw [DIVB_eq]
  exact Nat.lt_of_lt_of_le (show x.natAbs < 2 ^ 64 by omega) (Nat.pow_le_pow_right (by decide) (by decide))
theorem lim_of {n : Nat} (h : n ≤ 4000000) : n ≤ LIM := Nat.le_trans h (by decide)
theorem lim_lt {n : Nat} (h : n < 4000000) : n < LIM := Nat.lt_of_lt_of_le h (by decide)
/-! ### results -/
theorem dt_vis {d : Dt} : (R.vis d).dt = d := rfl
theorem dt_bor {d : Dt} : (R.bor d).dt = d := rfl
theorem dt_fre {ds : List Dt} : (R.fre (.lst ds)).dt = .lst ds := rfl
theorem sh_vis {d : Dt} : (R.vis d).sh = false := rfl
theorem sh_bor {d : Dt} : (R.bor d).sh = true := rfl
theorem sh_fre {o : OD} : (R.fre o).sh = false := rfl
theorem slot_vis {d : Dt} : (R.vis d).slot = .val d := rfl
theorem slot_fre {o : OD} : (R.fre o).slot = .own o := rfl
theorem od_dt {ds : List Dt} : (OD.lst ds).dt = .lst ds := rfl
theorem isNon_non : Dt.non.isNon = true := rfl
theorem isNon_int {i : Int} : (Dt.int i).isNon = false := rfl
theorem isNon_lst {ds : List Dt} : (Dt.lst ds).isNon = false := rfl
theorem isNon_tup {ds : List Dt} : (Dt.tup ds).isNon = false := rfl
theorem scalar_int {i : Int} : (Dt.int i).scalar = true := rfl
theorem scalar_bl {i : Bool} : (Dt.bl i).scalar = true := rfl
theorem scalar_non : Dt.non.scalar = true := rfl
/-! ### a statement and the rest -/
section
variable {env env' : Sl} {D : En} {a b rest : WS} {fa fb : EF} {ft fu : TF} {i : Nat} {r : R} {ds : List Dt} {c : Bool}
theorem q_asg (h : fa env = some r) (hs : r.sh = false) (he : env.set i r.slot = env') (k : rest D env') : wSeq (wAsg i fa) rest D env := q_go ⟨r, h, hs, by rw [he]; exact k⟩
theorem s_asg (h : fa env = some r) (hs : r.sh = false) (he : env.set i r.slot = env') (k : D.nx env') : wAsg i fa D env := ⟨r, h, hs, by rw [he]; exact k⟩
theorem s_ret {d : Dt} (h : fa env = some r) (hs : r.sh = false) (hd : r.dt = d) (k : D.rt d) : wRet fa D env := ⟨r, h, hs, by rw [hd]; exact k⟩
theorem q_ret {d : Dt} (h : fa env = some r) (hs : r.sh = false) (hd : r.dt = d) (k : D.rt d) : wSeq (wRet fa) rest D env := q_go ⟨r, h, hs, by rw [hd]; exact k⟩
theorem q_if (h : ft env = some c) (h1 : c = true → a { D with nx := rest D } env) (h2 : c = false → b { D with nx := rest D } env) : wSeq (wIf ft a b) rest D env := q_go ⟨c, h, h1, h2⟩
theorem s_if (h : ft env = some c) (h1 : c = true → a D env) (h2 : c = false → b D env) : wIf ft a b D env := ⟨c, h, h1, h2⟩
/-- by a test of Lean's -/
theorem q_ifD {p : Prop} [Decidable p] (h : ft env = some (decide p)) (h1 : p → a { D with nx := rest D } env) (h2 : ¬ p → b { D with nx := rest D } env) : wSeq (wIf ft a b) rest D env := q_go ⟨_, h, fun e => h1 (of_decide_eq_true e), fun e => h2 (of_decide_eq_false e)⟩
theorem s_ifD {p : Prop} [Decidable p] (h : ft env = some (decide p)) (h1 : p → a D env) (h2 : ¬ p → b D env) : wIf ft a b D env := ⟨_, h, fun e => h1 (of_decide_eq_true e), fun e => h2 (of_decide_eq_false e)⟩
/-- if c: x = e, x known: told by one value -/
theorem q_ifAsg {p : Prop} [Decidable p] {d d1 : Dt} (h : ft env = some (decide p)) (h1 : p → fa env = some (.vis d1)) (h2 : ¬ p → env[i]? = some (.val d)) (k : ∀ d2, d2 = (if p then d1 else d) → rest D (env.set i (.val d2))) : wSeq (wIf ft (wAsg i fa) wNil) rest D env := by
  refine q_ifD h (fun hp => ⟨_, h1 hp, rfl, k d1 (if_pos hp).symm⟩) (fun hp => ?_)
  have q := k d (if_neg hp).symm
  have e : env.set i (.val d) = env := by
    have z := h2 hp
    obtain ⟨hl, hz⟩ := List.getElem?_eq_some_iff.mp z
    rw [← hz, List.set_getElem_self]
  rw [e] at q
  exact q
/-- if c: x = e, of ints: one value -/
theorem q_ifI {p : Prop} [Decidable p] {x y : Int} (h : ft env = some (decide p)) (h1 : p → fa env = some (.vis (.int x))) (h2 : env[i]? = some (.val (.int y))) (k : rest D (env.set i (.val (.int (if p then x else y))))) : wSeq (wIf ft (wAsg i fa) wNil) rest D env :=
  q_ifAsg (d := .int y) (d1 := .int x) h h1 (fun _ => h2) fun d2 e => by
    have e2 : d2 = .int (if p then x else y) := by
      rw [e]
      split <;> rfl
    rw [e2]
    exact k
theorem q_unp {is : List Nat} {d : Dt} (h : fa env = some (.vis d)) (he : gT is d env = some env') (k : rest D env') : wSeq (wUnp is fa) rest D env := q_go ⟨d, env', h, he, k⟩
theorem q_app {d : Dt} (h0 : env[i]? = some (.own (.lst ds))) (h : fa env = some r) (hs : r.sh = false) (hl : ds.length < LIM) (hd : r.dt = d) (he : env.set i (.own (.lst (ds ++ [d]))) = env') (k : rest D env') : wSeq (wApp i fa) rest D env := q_go ⟨ds, r, h0, h, hs, hl, by rw [hd, he]; exact k⟩
theorem s_app {d : Dt} (h0 : env[i]? = some (.own (.lst ds))) (h : fa env = some r) (hs : r.sh = false) (hl : ds.length < LIM) (hd : r.dt = d) (he : env.set i (.own (.lst (ds ++ [d]))) = env') (k : D.nx env') : wApp i fa D env := ⟨ds, r, h0, h, hs, hl, by rw [hd, he]; exact k⟩
theorem q_nil (k : rest D env) : wSeq wNil rest D env := q_go k
theorem s_nil (k : D.nx env) : wNil D env := k
theorem q_frz {o : OD} (h : env[i]? = some (.own o)) (he : env.set i (.val o.dt) = env') (k : a D env') : wFrz i a D env := by
  show a D (frzS i env)
  rw [frzS_own h, he]
  exact k
theorem q_frz0 {d : Dt} (h : env[i]? = some (.val d)) (k : a D env) : wFrz i a D env := by
  show a D (frzS i env)
  rw [frzS_val h]
  exact k
theorem q_cut (M : Sl → Prop) (h : a { D with nx := M } env) (k : ∀ e, M e → rest D e) : wSeq a rest D env := ⟨M, h, k⟩
theorem q_forMap {α : Type} {u : α → Dt} {xs : List α} {fi : IF} {g : GF} (I : Nat → Sl → Prop) (h : fi env = some (xs.map u, false)) (h0 : I 0 env)
    (hs : ∀ i env x, xs[i]? = some x → I i env → ∃ env', g (u x) env = some env' ∧ b { D with nx := I (i + 1), bk := rest D, ct := I (i + 1) } env') (hd : ∀ env, I xs.length env → rest D env) : wSeq (wFor fi g b) rest D env :=
  q_go <| wFor_map (D := { D with nx := rest D }) I h h0 hs hd
theorem q_forRng {lo : Int} {n : Nat} {fi : IF} {g : GF} (I : Nat → Sl → Prop) (h : fi env = some (rngD lo n, false)) (h0 : I 0 env)
    (hs : ∀ i env, i < n → I i env → ∃ env', g (.int (lo + (i : Int))) env = some env' ∧ b { D with nx := I (i + 1), bk := rest D, ct := I (i + 1) } env') (hd : ∀ env, I n env → rest D env) : wSeq (wFor fi g b) rest D env :=
  q_go <| wFor_rng (D := { D with nx := rest D }) I h h0 hs hd
theorem q_for {fi : IF} {g : GF} (I : Nat → Sl → Prop) (h : fi env = some (ds, false)) (h0 : I 0 env)
    (hs : ∀ i env d, ds[i]? = some d → I i env → ∃ env', g d env = some env' ∧ b { D with nx := I (i + 1), bk := rest D, ct := I (i + 1) } env') (hd : ∀ env, I ds.length env → rest D env) : wSeq (wFor fi g b) rest D env :=
  q_go <| wFor_of (D := { D with nx := rest D }) I h h0 hs hd
theorem q_forStep {lo c : Int} {n : Nat} {fi : IF} {g : GF} (I : Nat → Sl → Prop) (h : fi env = some (stepD lo c n, false)) (h0 : I 0 env)
    (hs : ∀ i env, i < n → I i env → ∃ env', g (.int (lo + (i : Int) * c)) env = some env' ∧ b { D with nx := I (i + 1), bk := rest D, ct := I (i + 1) } env') (hd : ∀ env, I n env → rest D env) : wSeq (wFor fi g b) rest D env := by
  refine q_go ⟨_, h, I, h0, fun i env d hi inv => ?_, fun env inv => hd env (by rw [stepD_len] at inv; exact inv)⟩
  obtain ⟨hl, rfl⟩ := stepD_at hi
  exact hs i env hl inv
theorem q_while (I : Nat → Sl → Prop) (m : Nat) (h0 : I m env)
    (hs : ∀ m env, I m env → ∃ c, ft env = some c ∧ ((c = true → b { D with nx := fun e => ∃ m', m' < m ∧ I m' e, bk := rest D, ct := fun e => ∃ m', m' < m ∧ I m' e } env) ∧ (c = false → rest D env))) : wSeq (wWhile ft b) rest D env :=
  q_go <| wWhile_of (D := { D with nx := rest D }) I m h0 hs
end

/-! ### lists of lists, looks, keywords, sorted -/
section
variable {env env' : Sl} {D : En} {rest : WS} {fa fb fc fe : EF} {ft : TF} {i : Nat} {a b : AF}
theorem aApp_at : aApp a b env = (a env).bind fun x => (b env).bind fun y => some (x ++ y) := rfl
theorem aDfl_at {dd : List Dt} : aDfl dd env = some (dd.map fun d => (d, false)) := rfl
theorem eLook_vis {d : Dt} (h : fe (frzAll env) = some (.vis d)) (hs : d.scalar = true) : eLook fe env = some (.vis d) := by
  unfold eLook
  rw [h]
  exact if_pos hs
theorem eLook_int {x : Int} (h : fe (frzAll env) = some (.vis (.int x))) : eLook fe env = some (.vis (.int x)) := eLook_vis h rfl
theorem ints_scalar (ns : List Int) : (ns.map Dt.int).all Dt.scalar = true := by
  rw [List.all_map, List.all_eq_true]
  intro x _
  rfl
theorem eLook_ints {ns : List Int} (h : fe (frzAll env) = some (.fre (.lst (ns.map .int)))) : eLook fe env = some (.fre (.lst (ns.map .int))) := by
  unfold eLook
  rw [h]
  exact if_pos (ints_scalar ns)
theorem tLook_at : tLook ft env = ft (frzAll env) := rfl
theorem frzAll_cons {s : Slot} : frzAll (s :: env) = s.frz :: frzAll env := rfl
theorem frzAll_nil : frzAll [] = [] := rfl
theorem frz_val {d : Dt} : (Slot.val d).frz = .val d := rfl
theorem frz_own {o : OD} : (Slot.own o).frz = .val o.dt := rfl
theorem frz_mat {m : List (List Dt)} : (Slot.mat m).frz = .val (.lst (m.map .lst)) := rfl
theorem frz_non : Slot.non.frz = .non := rfl
theorem pLcm_int {x y : Int} (h1 : x.natAbs < LCMB) (h2 : y.natAbs < LCMB) : pLcm (.int x) (.int y) = some (.vis (.int (Nat.lcm x.natAbs y.natAbs : Nat))) := if_pos ⟨h1, h2⟩
theorem lcm_of {x : Int} {n : Nat} (h : x.natAbs < 2 ^ n) (hn : n ≤ 13000) : x.natAbs < LCMB := by
  rw [LCMB_eq]
  exact Nat.lt_of_lt_of_le h (Nat.pow_le_pow_right (by decide) hn)
theorem pSorted_ints {ns : List Int} : pSorted (.lst (ns.map .int)) = some (.fre (.lst ((ns.mergeSort fun a b => decide (a ≤ b)).map .int))) := by
  unfold pSorted
  dsimp only
  rw [intsOf_ints]
theorem intPairs_pairs : ∀ ps : List (Int × Int), intPairs (ps.map pairD) = some ps
  | [] => rfl
  | p :: ps => by
    show (intPairs (ps.map pairD)).map _ = _
    rw [intPairs_pairs ps]
    rfl
theorem pSorted_pairs {ps : List (Int × Int)} (h : ps ≠ []) : pSorted (.lst (ps.map pairD)) = some (.fre (.lst ((ps.mergeSort lexLe).map pairD))) := by
  have e : intsOf (ps.map pairD) = none := by
    cases ps with
    | nil => exact absurd rfl h
    | cons p ps => rfl
  unfold pSorted
  dsimp only
  rw [e]
  show (intPairs (ps.map pairD)).map _ = _
  rw [intPairs_pairs]
  rfl
theorem q_asgM {m : MF} {dss : List (List Dt)} (h : m env = some dss) (he : env.set i (.mat dss) = env') (k : rest D env') : wSeq (wAsgM i m) rest D env := q_go ⟨dss, h, by rw [he]; exact k⟩
theorem s_asgM {m : MF} {dss : List (List Dt)} (h : m env = some dss) (he : env.set i (.mat dss) = env') (k : D.nx env') : wAsgM i m D env := ⟨dss, h, by rw [he]; exact k⟩
/-- a list of lists of ints that a name holds -/
def mat (m : List (List Int)) : Slot := .mat (m.map fun r => r.map .int)
theorem frz_matI {m : List (List Int)} : (mat m).frz = .val (.lst (m.map fun r => .lst (r.map .int))) := by
  show Slot.val (.lst ((m.map fun r => r.map Dt.int).map .lst)) = _
  rw [List.map_map]
  rfl
theorem s_putM {m : List (List Int)} {x a b : Int} {r : List Int} (h0 : env[i]? = some (mat m)) (h : fc env = some (.vis (.int x))) (ha : fa env = some (.vis (.int a))) (hr : atL m a = some r) (hb : fb env = some (.vis (.int b))) (b0 : 0 ≤ b) (b1 : b < r.length)
    (he : env.set i (mat (m.set (nrm m.length a) (r.set b.toNat x))) = env') (k : D.nx env') : wPutM i fa fb fc D env := by
  have hr' : atL (m.map fun r => r.map Dt.int) a = some (r.map .int) := by
    unfold atL at hr ⊢
    rw [List.length_map]
    split at hr
    · rename_i h
      rw [if_pos h, List.getElem?_map, hr]; rfl
    · rename_i h
      rw [if_neg h]
      split at hr
      · rename_i h2
        rw [if_pos h2, List.getElem?_map, hr]; rfl
      · cases hr
  refine ⟨_, .vis (.int x), a, b, r.map .int, h0, h, rfl, ha, hr', hb, by rw [List.length_map]; omega, by rw [List.length_map]; exact b1, ?_⟩
  have e : (m.map fun r => r.map Dt.int).set (nrm (m.map fun r => r.map Dt.int).length a) ((r.map Dt.int).set (nrm (r.map Dt.int).length b) (R.vis (.int x)).dt) = (m.set (nrm m.length a) (r.set b.toNat x)).map fun r => r.map .int := by
    rw [List.length_map, List.map_set, List.map_set]
    have : nrm (r.map Dt.int).length b = b.toNat := by unfold nrm; rw [if_pos b0]
    rw [this]
    rfl
  rw [e]
  show D.nx (env.set i (mat _))
  rw [he]
  exact k
theorem q_putR {m : List (List Int)} {j : Int} {r : List Int} (h0 : env[i]? = some (mat m)) (h : fe env = some (.fre (.lst (r.map .int)))) (hk : fa env = some (.vis (.int j))) (j0 : 0 ≤ j) (j1 : j < m.length) (he : env.set i (mat (m.set j.toNat r)) = env') (k : rest D env') : wSeq (wPutR i fa fe) rest D env := by
  refine q_go ⟨_, r.map .int, j, h0, h, hk, by rw [List.length_map]; omega, by rw [List.length_map]; exact j1, ?_⟩
  have e : (m.map fun r => r.map Dt.int).set (nrm (m.map fun r => r.map Dt.int).length j) (r.map .int) = (m.set j.toNat r).map fun r => r.map .int := by
    rw [List.map_set]
    have : nrm (m.map fun r => r.map Dt.int).length j = j.toNat := by unfold nrm; rw [if_pos j0]
    rw [this]
  rw [e]
  show rest D (env.set i (mat _))
  rw [he]
  exact k
theorem q_frzM {m : List (List Int)} {w : WS} (h : env[i]? = some (mat m)) (he : env.set i (.val (.lst (m.map fun r => .lst (r.map .int)))) = env') (k : w D env') : wFrz i w D env := by
  show w D (frzS i env)
  unfold frzS
  rw [h]
  show w D (env.set i (.val (.lst ((m.map fun r => r.map Dt.int).map .lst))))
  rw [List.map_map]
  show w D (env.set i (.val (.lst (m.map fun r => .lst (r.map .int)))))
  rw [he]
  exact k
/-- a list of lists made by places -/
theorem mComp_ix {own : List Nat} {fi : IF} {g : GF} {ds : List Dt} {s : Bool} {m : List (List Int)} (h : fi env = some (ds, s)) (hl : ds.length ≤ LIM) (hm : ds.length = m.length)
    (hc : ∀ (j : Nat) d r, ds[j]? = some d → m[j]? = some r → ∃ env', g d (wipeS env own) = some env' ∧ fe env' = some (.fre (.lst (r.map .int)))) : mComp own fi g fe env = some (m.map fun r => r.map .int) := by
  show (fi env).bind _ = _
  rw [h]
  show (if ds.length ≤ LIM then _ else _) = _
  rw [if_pos hl]
  clear h hl
  induction ds generalizing m with
  | nil =>
    cases m with
    | nil => rfl
    | cons r m => cases hm
  | cons d ds ih =>
    cases m with
    | nil => cases hm
    | cons r m =>
      obtain ⟨env', h1, h2⟩ := hc 0 d r rfl rfl
      unfold compM
      rw [h1]
      show (freL (fe env')).bind _ = _
      rw [h2]
      show (compM _ ds).bind _ = _
      rw [ih (by simpa using hm) fun j d' r' e1 e2 => hc (j + 1) d' r' (by simpa using e1) (by simpa using e2)]
      rfl
end
end Pyl
end
section
set_option Elab.async false
set_option linter.all false
namespace Pyl
open PySem
/-! ### one end: what is promised of all ends is promised of one -/
inductive Out where
  | nx (e : Sl) | rt (d : Dt) | bk (e : Sl) | ct (e : Sl) | er (c : Nat) (fs : List (Str × Dt)) (e : Sl)
def Out.ok (D : En) : Out → Prop
  | .nx e => D.nx e
  | .rt d => D.rt d
  | .bk e => D.bk e
  | .ct e => D.ct e
  | .er c fs e => D.er c fs e
def One (o : Out) : En := ⟨fun e => o = .nx e, fun d => o = .rt d, fun e => o = .bk e, fun e => o = .ct e, fun c fs e => o = .er c fs e⟩
/-- D' asks no more than D -/
structure Le (D D' : En) : Prop where
  nx : ∀ e, D.nx e → D'.nx e
  rt : ∀ d, D.rt d → D'.rt d
  bk : ∀ e, D.bk e → D'.bk e
  ct : ∀ e, D.ct e → D'.ct e
  er : ∀ c fs e, D.er c fs e → D'.er c fs e
theorem One.le {D : En} {o : Out} (h : o.ok D) : Le (One o) D := by
  refine ⟨fun e q => ?_, fun e q => ?_, fun e q => ?_, fun e q => ?_, fun c fs e q => ?_⟩ <;> (have q : o = _ := q; subst q; exact h)
structure Det (w : WS) : Prop where
  mono : ∀ (D D' : En) (env : Sl), Le D D' → w D env → w D' env
  one : ∀ (D : En) (env : Sl), w D env → ∃ o : Out, o.ok D ∧ w (One o) env
theorem det_nil : Det wNil := ⟨fun D D' env h q => h.nx env q, fun D env q => ⟨.nx env, q, rfl⟩⟩
theorem det_dead : Det wDead := ⟨fun D D' env h q => q.elim, fun D env q => q.elim⟩
theorem det_brk : Det wBrk := ⟨fun D D' env h q => h.bk env q, fun D env q => ⟨.bk env, q, rfl⟩⟩
theorem det_cnt : Det wCnt := ⟨fun D D' env h q => h.ct env q, fun D env q => ⟨.ct env, q, rfl⟩⟩
theorem det_seq {a b : WS} (ha : Det a) (hb : Det b) : Det (wSeq a b) := by
  refine ⟨fun D D' env h q => ?_, fun D env q => ?_⟩
  · obtain ⟨M, h1, h2⟩ := q
    exact ⟨M, ha.mono { D with nx := M } { D' with nx := M } env ⟨fun e z => z, h.rt, h.bk, h.ct, h.er⟩ h1, fun e he => hb.mono D D' e h (h2 e he)⟩
  · obtain ⟨M, h1, h2⟩ := q
    obtain ⟨o, ho, h3⟩ := ha.one _ env h1
    cases o with
    | nx e =>
      obtain ⟨o2, ho2, h4⟩ := hb.one D e (h2 e ho)
      exact ⟨o2, ho2, fun e' => e' = e, ha.mono _ _ env (One.le (D := { One o2 with nx := fun e' => e' = e }) (o := .nx e) (show e = e from rfl)) h3, fun e' he => by rw [he]; exact h4⟩
    | rt d => exact ⟨.rt d, ho, fun _ => False, ha.mono _ _ env (One.le (D := { One (.rt d) with nx := fun _ => False }) (o := .rt d) (show Out.rt d = Out.rt d from rfl)) h3, fun e' he => he.elim⟩
    | bk e => exact ⟨.bk e, ho, fun _ => False, ha.mono _ _ env (One.le (D := { One (.bk e) with nx := fun _ => False }) (o := .bk e) (show Out.bk e = Out.bk e from rfl)) h3, fun e' he => he.elim⟩
    | ct e => exact ⟨.ct e, ho, fun _ => False, ha.mono _ _ env (One.le (D := { One (.ct e) with nx := fun _ => False }) (o := .ct e) (show Out.ct e = Out.ct e from rfl)) h3, fun e' he => he.elim⟩
    | er c fs e => exact ⟨.er c fs e, ho, fun _ => False, ha.mono _ _ env (One.le (D := { One (.er c fs e) with nx := fun _ => False }) (o := .er c fs e) (show Out.er c fs e = Out.er c fs e from rfl)) h3, fun e' he => he.elim⟩
theorem det_asg {i : Nat} {f : EF} : Det (wAsg i f) := ⟨fun D D' env h ⟨r, h1, h2, h3⟩ => ⟨r, h1, h2, h.nx _ h3⟩, fun D env ⟨r, h1, h2, h3⟩ => ⟨.nx _, h3, r, h1, h2, rfl⟩⟩
theorem det_unp {is : List Nat} {f : EF} : Det (wUnp is f) := ⟨fun D D' env h ⟨d, e, h1, h2, h3⟩ => ⟨d, e, h1, h2, h.nx _ h3⟩, fun D env ⟨d, e, h1, h2, h3⟩ => ⟨.nx _, h3, d, e, h1, h2, rfl⟩⟩
theorem det_ret {f : EF} : Det (wRet f) := ⟨fun D D' env h ⟨r, h1, h2, h3⟩ => ⟨r, h1, h2, h.rt _ h3⟩, fun D env ⟨r, h1, h2, h3⟩ => ⟨.rt _, h3, r, h1, h2, rfl⟩⟩
theorem det_retN : Det wRetN := ⟨fun D D' env h q => h.rt _ q, fun D env q => ⟨.rt .non, q, rfl⟩⟩
theorem det_drop {f : EF} : Det (wDrop f) := ⟨fun D D' env h ⟨r, h1, h2⟩ => ⟨r, h1, h.nx _ h2⟩, fun D env ⟨r, h1, h2⟩ => ⟨.nx _, h2, r, h1, rfl⟩⟩
theorem det_app {i : Nat} {f : EF} : Det (wApp i f) := ⟨fun D D' env h ⟨ds, r, h1, h2, h3, h4, h5⟩ => ⟨ds, r, h1, h2, h3, h4, h.nx _ h5⟩, fun D env ⟨ds, r, h1, h2, h3, h4, h5⟩ => ⟨.nx _, h5, ds, r, h1, h2, h3, h4, rfl⟩⟩
theorem det_put {i : Nat} {k f : EF} : Det (wPut i k f) := ⟨fun D D' env h ⟨ds, r, j, h1, h2, h3, h4, h5, h6, h7⟩ => ⟨ds, r, j, h1, h2, h3, h4, h5, h6, h.nx _ h7⟩, fun D env ⟨ds, r, j, h1, h2, h3, h4, h5, h6, h7⟩ => ⟨.nx _, h7, ds, r, j, h1, h2, h3, h4, h5, h6, rfl⟩⟩
theorem det_asgM {i : Nat} {m : MF} : Det (wAsgM i m) := ⟨fun D D' env h ⟨ds, h1, h2⟩ => ⟨ds, h1, h.nx _ h2⟩, fun D env ⟨ds, h1, h2⟩ => ⟨.nx _, h2, ds, h1, rfl⟩⟩
theorem det_putM {i : Nat} {ka kb f : EF} : Det (wPutM i ka kb f) := ⟨fun D D' env h ⟨dss, r, a, b, ds, h1, h2, h3, h4, h5, h6, h7, h8, h9⟩ => ⟨dss, r, a, b, ds, h1, h2, h3, h4, h5, h6, h7, h8, h.nx _ h9⟩,
  fun D env ⟨dss, r, a, b, ds, h1, h2, h3, h4, h5, h6, h7, h8, h9⟩ => ⟨.nx _, h9, dss, r, a, b, ds, h1, h2, h3, h4, h5, h6, h7, h8, rfl⟩⟩
theorem det_putR {i : Nat} {k f : EF} : Det (wPutR i k f) := ⟨fun D D' env h ⟨dss, ds, j, h1, h2, h3, h4, h5, h6⟩ => ⟨dss, ds, j, h1, h2, h3, h4, h5, h.nx _ h6⟩, fun D env ⟨dss, ds, j, h1, h2, h3, h4, h5, h6⟩ => ⟨.nx _, h6, dss, ds, j, h1, h2, h3, h4, h5, rfl⟩⟩
theorem det_frz {i : Nat} {a : WS} (h : Det a) : Det (wFrz i a) := ⟨fun D D' env l q => h.mono D D' _ l q, fun D env q => h.one D _ q⟩
theorem det_if {t : TF} {a b : WS} (ha : Det a) (hb : Det b) : Det (wIf t a b) := by
  refine ⟨fun D D' env h ⟨c, h1, h2, h3⟩ => ⟨c, h1, fun e => ha.mono D D' env h (h2 e), fun e => hb.mono D D' env h (h3 e)⟩, fun D env ⟨c, h1, h2, h3⟩ => ?_⟩
  cases c with
  | true =>
    obtain ⟨o, ho, h4⟩ := ha.one D env (h2 rfl)
    exact ⟨o, ho, true, h1, fun _ => h4, fun e => (by cases e)⟩
  | false =>
    obtain ⟨o, ho, h4⟩ := hb.one D env (h3 rfl)
    exact ⟨o, ho, false, h1, fun e => (by cases e), fun _ => h4⟩
/-- a loop from its i-th turn on -/
def ForFrom (ds : List Dt) (g : GF) (b : WS) (i : Nat) (D : En) (env : Sl) : Prop := ∃ I : Nat → Sl → Prop, I i env ∧
  (∀ i env d, ds[i]? = some d → I i env → ∃ env', g d env = some env' ∧ b { D with nx := I (i + 1), bk := D.nx, ct := I (i + 1) } env') ∧ ∀ env, I ds.length env → D.nx env
theorem forFrom_one {ds : List Dt} {g : GF} {b : WS} (hb : Det b) {D : En} {I : Nat → Sl → Prop} (hs : ∀ i env d, ds[i]? = some d → I i env → ∃ env', g d env = some env' ∧ b { D with nx := I (i + 1), bk := D.nx, ct := I (i + 1) } env')
    (he : ∀ env, I ds.length env → D.nx env) : ∀ (k i : Nat) (env : Sl), i + k = ds.length → I i env → ∃ o : Out, o.ok D ∧ ForFrom ds g b i (One o) env := by
  intro k
  induction k with
  | zero =>
    intro i env hik hI
    have e : i = ds.length := by omega
    subst e
    refine ⟨.nx env, he env hI, fun j e => j = ds.length ∧ e = env, ⟨rfl, rfl⟩, fun j e d hj hJ => ?_, fun e hJ => by rw [hJ.2]; rfl⟩
    rw [hJ.1, List.getElem?_eq_none (Nat.le_refl _)] at hj
    cases hj
  | succ k ih =>
    intro i env hik hI
    have hg : ds[i]? = some ds[i] := List.getElem?_eq_getElem (by omega)
    obtain ⟨env', h1, h2⟩ := hs i env ds[i] hg hI
    obtain ⟨o1, ho1, h3⟩ := hb.one _ env' h2
    have next : ∀ e1, I (i + 1) e1 → (o1 = .nx e1 ∨ o1 = .ct e1) → ∃ o : Out, o.ok D ∧ ForFrom ds g b i (One o) env := fun e1 hI1 hor => by
      obtain ⟨o, ho, J, j0, js, je⟩ := ih (i + 1) e1 (by omega) hI1
      refine ⟨o, ho, fun j e => (j = i ∧ e = env) ∨ (i < j ∧ J j e), .inl ⟨rfl, rfl⟩, fun j e d hj hJ => ?_, fun e hJ => ?_⟩
      · rcases hJ with ⟨rfl, rfl⟩ | ⟨hl, hJ⟩
        · rw [hg] at hj
          cases hj
          refine ⟨env', h1, hb.mono _ _ env' (One.le ?_) h3⟩
          rcases hor with rfl | rfl
          · exact .inr ⟨Nat.lt_succ_self _, j0⟩
          · exact .inr ⟨Nat.lt_succ_self _, j0⟩
        · obtain ⟨e', q1, q2⟩ := js j e d hj hJ
          refine ⟨e', q1, hb.mono _ _ e' ?_ q2⟩
          exact ⟨fun z q => .inr ⟨by omega, q⟩, fun _ q => q, fun _ q => q, fun z q => .inr ⟨by omega, q⟩, fun _ _ _ q => q⟩
      · rcases hJ with ⟨e2, rfl⟩ | ⟨_, hJ⟩
        · omega
        · exact je e hJ
    have last : ∀ o : Out, o.ok D → Le (One o1) { One o with nx := fun _ => False, bk := (One o).nx, ct := fun _ => False } → ∃ o : Out, o.ok D ∧ ForFrom ds g b i (One o) env := fun o ho hl => by
      refine ⟨o, ho, fun j e => j = i ∧ e = env, ⟨rfl, rfl⟩, fun j e d hj hJ => ?_, fun e hJ => ?_⟩
      · obtain ⟨rfl, rfl⟩ := hJ
        rw [hg] at hj
        cases hj
        exact ⟨env', h1, hb.mono _ _ env' ⟨fun z q => (hl.nx z q).elim, hl.rt, hl.bk, fun z q => (hl.ct z q).elim, hl.er⟩ h3⟩
      · have := hJ.1
        omega
    cases o1 with
    | nx e1 => exact next e1 ho1 (.inl rfl)
    | ct e1 => exact next e1 ho1 (.inr rfl)
    | bk e1 => exact last (.nx e1) ho1 ⟨fun z q => (by cases q), fun z q => (by cases q), fun z q => (by cases q; rfl), fun z q => (by cases q), fun _ _ z q => (by cases q)⟩
    | rt d => exact last (.rt d) ho1 ⟨fun z q => (by cases q), fun z q => (by cases q; rfl), fun z q => (by cases q), fun z q => (by cases q), fun _ _ z q => (by cases q)⟩
    | er c fs e1 => exact last (.er c fs e1) ho1 ⟨fun z q => (by cases q), fun z q => (by cases q), fun z q => (by cases q), fun z q => (by cases q), fun _ _ z q => (by cases q; rfl)⟩
theorem det_for {fi : IF} {g : GF} {b : WS} (hb : Det b) : Det (wFor fi g b) := by
  refine ⟨fun D D' env h ⟨ds, h1, I, i0, hs, he⟩ => ⟨ds, h1, I, i0, fun i e d hd hI => ?_, fun e hI => h.nx e (he e hI)⟩, fun D env ⟨ds, h1, I, i0, hs, he⟩ => ?_⟩
  · obtain ⟨e', q1, q2⟩ := hs i e d hd hI
    exact ⟨e', q1, hb.mono { D with nx := I (i + 1), bk := D.nx, ct := I (i + 1) } _ e' ⟨fun _ q => q, h.rt, h.nx, fun _ q => q, h.er⟩ q2⟩
  · obtain ⟨o, ho, J, j0, js, je⟩ := forFrom_one hb hs he ds.length 0 env (Nat.zero_add _) i0
    exact ⟨o, ho, ds, h1, J, j0, js, je⟩
theorem while_one {t : TF} {b : WS} (hb : Det b) {D : En} {I : Nat → Sl → Prop} (hs : ∀ m env, I m env → ∃ c, t env = some c ∧ ((c = true → b { D with nx := fun e => ∃ m', m' < m ∧ I m' e, bk := D.nx, ct := fun e => ∃ m', m' < m ∧ I m' e } env) ∧ (c = false → D.nx env))) :
    ∀ (m : Nat) (env : Sl), I m env → ∃ o : Out, o.ok D ∧ ∃ J : Nat → Sl → Prop, J m env ∧ (∀ k e, J k e → k ≤ m) ∧ ∀ k e, J k e → ∃ c, t e = some c ∧ ((c = true → b { One o with nx := fun e => ∃ m', m' < k ∧ J m' e, bk := (One o).nx, ct := fun e => ∃ m', m' < k ∧ J m' e } e) ∧ (c = false → (One o).nx e)) := by
  intro m
  induction m using Nat.strongRecOn with
  | ind m ih =>
    intro env hI
    obtain ⟨c, h1, h2, h3⟩ := hs m env hI
    cases c with
    | false => exact ⟨.nx env, h3 rfl, fun k e => k = m ∧ e = env, ⟨rfl, rfl⟩, fun k e hJ => Nat.le_of_eq hJ.1, fun k e hJ => ⟨false, (by rw [hJ.2]; exact h1), fun q => (by cases q), fun _ => (by rw [hJ.2]; rfl)⟩⟩
    | true =>
      obtain ⟨o1, ho1, h4⟩ := hb.one _ env (h2 rfl)
      have next : ∀ e1, (∃ m', m' < m ∧ I m' e1) → (o1 = .nx e1 ∨ o1 = .ct e1) → ∃ o : Out, o.ok D ∧ ∃ J : Nat → Sl → Prop, J m env ∧ (∀ k e, J k e → k ≤ m) ∧ ∀ k e, J k e → ∃ c, t e = some c ∧ ((c = true → b { One o with nx := fun e => ∃ m', m' < k ∧ J m' e, bk := (One o).nx, ct := fun e => ∃ m', m' < k ∧ J m' e } e) ∧ (c = false → (One o).nx e)) := fun e1 ⟨m', hm, hI1⟩ hor => by
        obtain ⟨o, ho, J, j0, jl, js⟩ := ih m' hm e1 hI1
        refine ⟨o, ho, fun k e => (k = m ∧ e = env) ∨ (k < m ∧ J k e), .inl ⟨rfl, rfl⟩, fun k e hJ => ?_, fun k e hJ => ?_⟩
        · rcases hJ with ⟨rfl, _⟩ | ⟨h, _⟩ <;> omega
        · rcases hJ with ⟨rfl, rfl⟩ | ⟨hl, hJ⟩
          · refine ⟨true, h1, fun _ => hb.mono _ _ e (One.le ?_) h4, fun q => (by cases q)⟩
            rcases hor with rfl | rfl
            · exact ⟨m', hm, .inr ⟨hm, j0⟩⟩
            · exact ⟨m', hm, .inr ⟨hm, j0⟩⟩
          · obtain ⟨c, q1, q2, q3⟩ := js k e hJ
            refine ⟨c, q1, fun hc => hb.mono _ _ e ?_ (q2 hc), q3⟩
            exact ⟨fun z ⟨m2, a, q⟩ => ⟨m2, a, .inr ⟨by omega, q⟩⟩, fun _ q => q, fun _ q => q, fun z ⟨m2, a, q⟩ => ⟨m2, a, .inr ⟨by omega, q⟩⟩, fun _ _ _ q => q⟩
      have last : ∀ o : Out, o.ok D → Le (One o1) { One o with nx := fun _ => False, bk := (One o).nx, ct := fun _ => False } → ∃ o : Out, o.ok D ∧ ∃ J : Nat → Sl → Prop, J m env ∧ (∀ k e, J k e → k ≤ m) ∧ ∀ k e, J k e → ∃ c, t e = some c ∧ ((c = true → b { One o with nx := fun e => ∃ m', m' < k ∧ J m' e, bk := (One o).nx, ct := fun e => ∃ m', m' < k ∧ J m' e } e) ∧ (c = false → (One o).nx e)) := fun o ho hl => by
        refine ⟨o, ho, fun k e => k = m ∧ e = env, ⟨rfl, rfl⟩, fun k e hJ => Nat.le_of_eq hJ.1, fun k e hJ => ?_⟩
        obtain ⟨rfl, rfl⟩ := hJ
        exact ⟨true, h1, fun _ => hb.mono _ _ e ⟨fun z q => (hl.nx z q).elim, hl.rt, hl.bk, fun z q => (hl.ct z q).elim, hl.er⟩ h4, fun q => (by cases q)⟩
      cases o1 with
      | nx e1 => exact next e1 ho1 (.inl rfl)
      | ct e1 => exact next e1 ho1 (.inr rfl)
      | bk e1 => exact last (.nx e1) ho1 ⟨fun z q => (by cases q), fun z q => (by cases q), fun z q => (by cases q; rfl), fun z q => (by cases q), fun _ _ z q => (by cases q)⟩
      | rt d => exact last (.rt d) ho1 ⟨fun z q => (by cases q), fun z q => (by cases q; rfl), fun z q => (by cases q), fun z q => (by cases q), fun _ _ z q => (by cases q)⟩
      | er c fs e1 => exact last (.er c fs e1) ho1 ⟨fun z q => (by cases q), fun z q => (by cases q), fun z q => (by cases q), fun z q => (by cases q), fun _ _ z q => (by cases q; rfl)⟩
theorem det_while {t : TF} {b : WS} (hb : Det b) : Det (wWhile t b) := by
  refine ⟨fun D D' env h ⟨I, i0, hs⟩ => ⟨I, i0, fun m e hI => ?_⟩, fun D env ⟨I, ⟨m, i0⟩, hs⟩ => ?_⟩
  · obtain ⟨c, h1, h2, h3⟩ := hs m e hI
    exact ⟨c, h1, fun hc => hb.mono { D with nx := fun e => ∃ m', m' < m ∧ I m' e, bk := D.nx, ct := fun e => ∃ m', m' < m ∧ I m' e } _ e ⟨fun _ q => q, h.rt, h.nx, fun _ q => q, h.er⟩ (h2 hc), fun hc => h.nx e (h3 hc)⟩
  · obtain ⟨o, ho, J, j0, _, js⟩ := while_one hb hs m env i0
    exact ⟨o, ho, J, ⟨m, j0⟩, js⟩
/-- the ends of a def, told by what is wanted of its answer -/
def endP (P : Dt → Prop) : En := ⟨fun _ => P .non, P, fun _ => False, fun _ => False, fun _ _ _ => False⟩
theorem auto_rel {n : Nat} {w : WS} {P : List Dt → Dt → Prop} {ds : List Dt} (hd : Det w) (h : w (endP (P ds)) (startE n ds)) : ∃ r, autoF n w P ds = some r ∧ P ds r := by
  obtain ⟨o, ho, h2⟩ := hd.one _ _ h
  cases o with
  | nx e => exact auto_at ⟨.non, ho, hd.mono _ _ _ (One.le (D := endR .non) (o := .nx e) (show Dt.non = Dt.non from rfl)) h2⟩
  | rt d => exact auto_at ⟨d, ho, hd.mono _ _ _ (One.le (D := endR d) (o := .rt d) (show d = d from rfl)) h2⟩
  | bk e => exact ho.elim
  | ct e => exact ho.elim
  | er c fs e => exact ho.elim
/-! ### defs that may raise -/
theorem det_asgX {i : Nat} {f : XF} : Det (wAsgX i f) := ⟨fun D D' env h ⟨o, h1, h2, h3⟩ => ⟨o, h1, fun d e => h.nx _ (h2 d e), fun c fs e => h.er _ _ _ (h3 c fs e)⟩, fun D env ⟨o, h1, h2, h3⟩ => by
  cases o with
  | ok d => exact ⟨.nx _, h2 d rfl, .ok d, h1, fun d' e => by cases e; rfl, fun c fs e => by cases e⟩
  | er c fs => exact ⟨.er _ _ _, h3 c fs rfl, .er c fs, h1, fun d' e => (by cases e), fun c fs e => by cases e; rfl⟩⟩
theorem det_retX {f : XF} : Det (wRetX f) := ⟨fun D D' env h ⟨o, h1, h2, h3⟩ => ⟨o, h1, fun d e => h.rt _ (h2 d e), fun c fs e => h.er _ _ _ (h3 c fs e)⟩, fun D env ⟨o, h1, h2, h3⟩ => by
  cases o with
  | ok d => exact ⟨.rt _, h2 d rfl, .ok d, h1, fun d' e => by cases e; rfl, fun c fs e => by cases e⟩
  | er c fs => exact ⟨.er _ _ _, h3 c fs rfl, .er c fs, h1, fun d' e => (by cases e), fun c fs e => by cases e; rfl⟩⟩
theorem det_dropX {f : XF} : Det (wDropX f) := ⟨fun D D' env h ⟨o, h1, h2, h3⟩ => ⟨o, h1, fun d e => h.nx _ (h2 d e), fun c fs e => h.er _ _ _ (h3 c fs e)⟩, fun D env ⟨o, h1, h2, h3⟩ => by
  cases o with
  | ok d => exact ⟨.nx _, h2 d rfl, .ok d, h1, fun d' e => by cases e; rfl, fun c fs e => by cases e⟩
  | er c fs => exact ⟨.er _ _ _, h3 c fs rfl, .er c fs, h1, fun d' e => (by cases e), fun c fs e => by cases e; rfl⟩⟩
theorem det_raise {c : Nat} {ns : List Str} {fa : AF} : Det (wRaise c ns fa) := ⟨fun D D' env h ⟨rs, ds, h1, h2, h3, h4⟩ => ⟨rs, ds, h1, h2, h3, h.er _ _ _ h4⟩, fun D env ⟨rs, ds, h1, h2, h3, h4⟩ => ⟨.er _ _ _, h4, rs, ds, h1, h2, h3, rfl⟩⟩
/-- the ends of a def that may raise, told by what is wanted of its end -/
def endX (P : Xr → Prop) : En := ⟨fun _ => P (.ok .non), fun d => P (.ok d), fun _ => False, fun _ => False, fun c fs _ => P (.er c fs)⟩
open Classical in
noncomputable def autoX (n : Nat) (w : WS) (P : List Dt → Xr → Prop) : FX := fun ds => if h : ∃ o, P ds o ∧ w (endX (· = o)) (startE n ds) then some (choose h) else none
theorem autoX_spec {n : Nat} {w : WS} {P : List Dt → Xr → Prop} {ds : List Dt} {o : Xr} (h : autoX n w P ds = some o) : P ds o ∧ w (endX (· = o)) (startE n ds) := by
  unfold autoX at h
  split at h
  · rename_i hk
    cases h
    exact Classical.choose_spec hk
  · cases h
theorem autoX_keeps {n : Nat} {w : WS} (hd : Det w) {P : List Dt → Xr → Prop} : KeepsX n w (autoX n w P) := fun ds o h => hd.mono (endX (· = o)) _ _ ⟨fun _ q => Eq.symm q, fun _ q => Eq.symm q, fun _ q => q, fun _ q => q, fun _ _ _ q => Eq.symm q⟩ (autoX_spec h).2
theorem autoX_rel {n : Nat} {w : WS} {P : List Dt → Xr → Prop} {ds : List Dt} (hd : Det w) (h : w (endX (P ds)) (startE n ds)) : ∃ o, autoX n w P ds = some o ∧ P ds o := by
  have key : ∀ o : Xr, P ds o → w (endX (· = o)) (startE n ds) → ∃ o, autoX n w P ds = some o ∧ P ds o := fun o h1 h2 => by
    have hk : ∃ o, P ds o ∧ w (endX (· = o)) (startE n ds) := ⟨o, h1, h2⟩
    unfold autoX
    rw [dif_pos hk]
    exact ⟨_, rfl, (Classical.choose_spec hk).1⟩
  obtain ⟨o, ho, h2⟩ := hd.one _ _ h
  cases o with
  | nx e => exact key (.ok .non) ho (hd.mono _ _ _ (One.le (D := endX (· = .ok .non)) (o := .nx e) (show Xr.ok .non = Xr.ok .non from rfl)) h2)
  | rt d => exact key (.ok d) ho (hd.mono _ _ _ (One.le (D := endX (· = .ok d)) (o := .rt d) (show Xr.ok d = Xr.ok d from rfl)) h2)
  | bk e => exact ho.elim
  | ct e => exact ho.elim
  | er c fs e => exact key (.er c fs) ho (hd.mono _ _ _ (One.le (D := endX (· = .er c fs)) (o := .er c fs e) (show Xr.er c fs = Xr.er c fs from rfl)) h2)
end Pyl
end
section
set_option Elab.async false
set_option linter.all false
namespace Pyl
open PySem
/-! ### what two readings promise, one promises -/
def En.and (D D' : En) : En := ⟨fun e => D.nx e ∧ D'.nx e, fun d => D.rt d ∧ D'.rt d, fun e => D.bk e ∧ D'.bk e, fun e => D.ct e ∧ D'.ct e, fun c fs e => D.er c fs e ∧ D'.er c fs e⟩
structure Cnj (w : WS) : Prop where
  two : ∀ (D D' : En) (env : Sl), w D env → w D' env → w (D.and D') env
theorem cnj_nil : Cnj wNil := ⟨fun D D' env h h' => ⟨h, h'⟩⟩
theorem cnj_dead : Cnj wDead := ⟨fun D D' env h h' => h.elim⟩
theorem cnj_brk : Cnj wBrk := ⟨fun D D' env h h' => ⟨h, h'⟩⟩
theorem cnj_cnt : Cnj wCnt := ⟨fun D D' env h h' => ⟨h, h'⟩⟩
theorem cnj_seq {a b : WS} (ha : Cnj a) (hb : Cnj b) : Cnj (wSeq a b) := ⟨fun D D' env ⟨M, h1, h2⟩ ⟨M', h1', h2'⟩ => ⟨fun e => M e ∧ M' e, ha.two { D with nx := M } { D' with nx := M' } env h1 h1', fun e he => hb.two D D' e (h2 e he.1) (h2' e he.2)⟩⟩
theorem cnj_asg {i : Nat} {f : EF} : Cnj (wAsg i f) := ⟨fun D D' env ⟨r, h1, h2, h3⟩ ⟨r', h1', h2', h3'⟩ => by
  rw [h1] at h1'
  cases h1'
  exact ⟨r, h1, h2, h3, h3'⟩⟩
theorem cnj_unp {is : List Nat} {f : EF} : Cnj (wUnp is f) := ⟨fun D D' env ⟨d, e, h1, h2, h3⟩ ⟨d', e', h1', h2', h3'⟩ => by
  rw [h1] at h1'
  cases h1'
  rw [h2] at h2'
  cases h2'
  exact ⟨d, e, h1, h2, h3, h3'⟩⟩
theorem cnj_ret {f : EF} : Cnj (wRet f) := ⟨fun D D' env ⟨r, h1, h2, h3⟩ ⟨r', h1', h2', h3'⟩ => by
  rw [h1] at h1'
  cases h1'
  exact ⟨r, h1, h2, h3, h3'⟩⟩
theorem cnj_retN : Cnj wRetN := ⟨fun D D' env h h' => ⟨h, h'⟩⟩
theorem cnj_drop {f : EF} : Cnj (wDrop f) := ⟨fun D D' env ⟨r, h1, h3⟩ ⟨r', h1', h3'⟩ => ⟨r, h1, h3, h3'⟩⟩
theorem cnj_app {i : Nat} {f : EF} : Cnj (wApp i f) := ⟨fun D D' env ⟨ds, r, h1, h2, h3, h4, h5⟩ ⟨ds', r', h1', h2', h3', h4', h5'⟩ => by
  rw [h1] at h1'
  cases h1'
  rw [h2] at h2'
  cases h2'
  exact ⟨ds, r, h1, h2, h3, h4, h5, h5'⟩⟩
theorem cnj_put {i : Nat} {k f : EF} : Cnj (wPut i k f) := ⟨fun D D' env ⟨ds, r, j, h1, h2, h3, h4, h5, h6, h7⟩ ⟨ds', r', j', h1', h2', h3', h4', h5', h6', h7'⟩ => by
  rw [h1] at h1'
  cases h1'
  rw [h2] at h2'
  cases h2'
  rw [h4] at h4'
  cases h4'
  exact ⟨ds, r, j, h1, h2, h3, h4, h5, h6, h7, h7'⟩⟩
theorem cnj_asgM {i : Nat} {m : MF} : Cnj (wAsgM i m) := ⟨fun D D' env ⟨ds, h1, h2⟩ ⟨ds', h1', h2'⟩ => by
  rw [h1] at h1'
  cases h1'
  exact ⟨ds, h1, h2, h2'⟩⟩
theorem cnj_putM {i : Nat} {ka kb f : EF} : Cnj (wPutM i ka kb f) := ⟨fun D D' env ⟨dss, r, a, b, ds, h1, h2, h3, h4, h5, h6, h7, h8, h9⟩ ⟨dss', r', a', b', ds', h1', h2', h3', h4', h5', h6', h7', h8', h9'⟩ => by
  rw [h1] at h1'
  cases h1'
  rw [h2] at h2'
  cases h2'
  rw [h4] at h4'
  cases h4'
  rw [h5] at h5'
  cases h5'
  rw [h6] at h6'
  cases h6'
  exact ⟨dss, r, a, b, ds, h1, h2, h3, h4, h5, h6, h7, h8, h9, h9'⟩⟩
theorem cnj_putR {i : Nat} {k f : EF} : Cnj (wPutR i k f) := ⟨fun D D' env ⟨dss, ds, j, h1, h2, h3, h4, h5, h6⟩ ⟨dss', ds', j', h1', h2', h3', h4', h5', h6'⟩ => by
  rw [h1] at h1'
  cases h1'
  rw [h2] at h2'
  cases h2'
  rw [h3] at h3'
  cases h3'
  exact ⟨dss, ds, j, h1, h2, h3, h4, h5, h6, h6'⟩⟩
theorem cnj_frz {i : Nat} {a : WS} (h : Cnj a) : Cnj (wFrz i a) := ⟨fun D D' env q q' => h.two D D' _ q q'⟩
theorem cnj_if {t : TF} {a b : WS} (ha : Cnj a) (hb : Cnj b) : Cnj (wIf t a b) := ⟨fun D D' env ⟨c, h1, h2, h3⟩ ⟨c', h1', h2', h3'⟩ => by
  rw [h1] at h1'
  cases h1'
  exact ⟨c, h1, fun e => ha.two D D' env (h2 e) (h2' e), fun e => hb.two D D' env (h3 e) (h3' e)⟩⟩
theorem cnj_for {fi : IF} {g : GF} {b : WS} (hb : Cnj b) : Cnj (wFor fi g b) := ⟨fun D D' env ⟨ds, h1, I, i0, hs, he⟩ ⟨ds', h1', I', i0', hs', he'⟩ => by
  rw [h1] at h1'
  cases h1'
  refine ⟨ds, h1, fun i e => I i e ∧ I' i e, ⟨i0, i0'⟩, fun i e d hd hI => ?_, fun e hI => ⟨he e hI.1, he' e hI.2⟩⟩
  obtain ⟨e1, q1, q2⟩ := hs i e d hd hI.1
  obtain ⟨e2, q1', q2'⟩ := hs' i e d hd hI.2
  rw [q1] at q1'
  cases q1'
  exact ⟨e1, q1, hb.two { D with nx := I (i + 1), bk := D.nx, ct := I (i + 1) } { D' with nx := I' (i + 1), bk := D'.nx, ct := I' (i + 1) } e1 q2 q2'⟩⟩
theorem cnj_while {t : TF} {b : WS} (hb : Cnj b) (hm : Det b) : Cnj (wWhile t b) := ⟨fun D D' env ⟨I, ⟨m, i0⟩, hs⟩ ⟨I', ⟨m', i0'⟩, hs'⟩ => by
  refine ⟨fun k e => I k e ∧ ∃ k', I' k' e, ⟨m, i0, m', i0'⟩, fun k e ⟨hI, k', hI'⟩ => ?_⟩
  obtain ⟨c, h1, h2, h3⟩ := hs k e hI
  obtain ⟨c', h1', h2', h3'⟩ := hs' k' e hI'
  rw [h1] at h1'
  cases h1'
  refine ⟨c, h1, fun hc => ?_, fun hc => ⟨h3 hc, h3' hc⟩⟩
  refine hm.mono _ _ e ?_ (hb.two _ _ e (h2 hc) (h2' hc))
  exact ⟨fun z ⟨⟨j, hj, q⟩, j', hj', q'⟩ => ⟨j, hj, q, j', q'⟩, fun _ q => q, fun _ q => q, fun z ⟨⟨j, hj, q⟩, j', hj', q'⟩ => ⟨j, hj, q, j', q'⟩, fun _ _ _ q => q⟩⟩
theorem cnj_asgX {i : Nat} {f : XF} : Cnj (wAsgX i f) := ⟨fun D D' env ⟨o, h1, h2, h3⟩ ⟨o', h1', h2', h3'⟩ => by
  rw [h1] at h1'
  cases h1'
  exact ⟨o, h1, fun d e => ⟨h2 d e, h2' d e⟩, fun c fs e => ⟨h3 c fs e, h3' c fs e⟩⟩⟩
theorem cnj_retX {f : XF} : Cnj (wRetX f) := ⟨fun D D' env ⟨o, h1, h2, h3⟩ ⟨o', h1', h2', h3'⟩ => by
  rw [h1] at h1'
  cases h1'
  exact ⟨o, h1, fun d e => ⟨h2 d e, h2' d e⟩, fun c fs e => ⟨h3 c fs e, h3' c fs e⟩⟩⟩
theorem cnj_dropX {f : XF} : Cnj (wDropX f) := ⟨fun D D' env ⟨o, h1, h2, h3⟩ ⟨o', h1', h2', h3'⟩ => by
  rw [h1] at h1'
  cases h1'
  exact ⟨o, h1, fun d e => ⟨h2 d e, h2' d e⟩, fun c fs e => ⟨h3 c fs e, h3' c fs e⟩⟩⟩
theorem cnj_raise {c : Nat} {ns : List Str} {fa : AF} : Cnj (wRaise c ns fa) := ⟨fun D D' env ⟨rs, ds, h1, h2, h3, h4⟩ ⟨rs', ds', h1', h2', h3', h4'⟩ => by
  rw [h1] at h1'
  cases h1'
  rw [h2] at h2'
  cases h2'
  exact ⟨rs, ds, h1, h2, h3, h4, h4'⟩⟩
/-! both -/
def DC (w : WS) : Prop := Det w ∧ Cnj w
theorem dc_nil : DC wNil := ⟨det_nil, cnj_nil⟩
theorem dc_dead : DC wDead := ⟨det_dead, cnj_dead⟩
theorem dc_brk : DC wBrk := ⟨det_brk, cnj_brk⟩
theorem dc_cnt : DC wCnt := ⟨det_cnt, cnj_cnt⟩
theorem dc_seq {a b : WS} (ha : DC a) (hb : DC b) : DC (wSeq a b) := ⟨det_seq ha.1 hb.1, cnj_seq ha.2 hb.2⟩
theorem dc_asg {i : Nat} {f : EF} : DC (wAsg i f) := ⟨det_asg, cnj_asg⟩
theorem dc_unp {is : List Nat} {f : EF} : DC (wUnp is f) := ⟨det_unp, cnj_unp⟩
theorem dc_ret {f : EF} : DC (wRet f) := ⟨det_ret, cnj_ret⟩
theorem dc_retN : DC wRetN := ⟨det_retN, cnj_retN⟩
theorem dc_drop {f : EF} : DC (wDrop f) := ⟨det_drop, cnj_drop⟩
theorem dc_app {i : Nat} {f : EF} : DC (wApp i f) := ⟨det_app, cnj_app⟩
theorem dc_put {i : Nat} {k f : EF} : DC (wPut i k f) := ⟨det_put, cnj_put⟩
theorem dc_asgM {i : Nat} {m : MF} : DC (wAsgM i m) := ⟨det_asgM, cnj_asgM⟩
theorem dc_putM {i : Nat} {ka kb f : EF} : DC (wPutM i ka kb f) := ⟨det_putM, cnj_putM⟩
theorem dc_putR {i : Nat} {k f : EF} : DC (wPutR i k f) := ⟨det_putR, cnj_putR⟩
theorem dc_frz {i : Nat} {a : WS} (h : DC a) : DC (wFrz i a) := ⟨det_frz h.1, cnj_frz h.2⟩
theorem dc_if {t : TF} {a b : WS} (ha : DC a) (hb : DC b) : DC (wIf t a b) := ⟨det_if ha.1 hb.1, cnj_if ha.2 hb.2⟩
theorem dc_for {fi : IF} {g : GF} {b : WS} (hb : DC b) : DC (wFor fi g b) := ⟨det_for hb.1, cnj_for hb.2⟩
theorem dc_while {t : TF} {b : WS} (hb : DC b) : DC (wWhile t b) := ⟨det_while hb.1, cnj_while hb.2 hb.1⟩
theorem dc_asgX {i : Nat} {f : XF} : DC (wAsgX i f) := ⟨det_asgX, cnj_asgX⟩
theorem dc_retX {f : XF} : DC (wRetX f) := ⟨det_retX, cnj_retX⟩
theorem dc_dropX {f : XF} : DC (wDropX f) := ⟨det_dropX, cnj_dropX⟩
theorem dc_raise {c : Nat} {ns : List Str} {fa : AF} : DC (wRaise c ns fa) := ⟨det_raise, cnj_raise⟩
/-! ### functions that are nothing but their readings -/
theorem DC.uniq {w : WS} (h : DC w) {r r' : Dt} {env : Sl} (h1 : w (endR r) env) (h2 : w (endR r') env) : r = r' := by
  obtain ⟨o, ho, _⟩ := h.1.one _ _ (h.2.two _ _ _ h1 h2)
  cases o with
  | nx e => exact (show r = .non ∧ r' = .non from ho).1.trans (show r = .non ∧ r' = .non from ho).2.symm
  | rt d => exact (show d = r ∧ d = r' from ho).1.symm.trans (show d = r ∧ d = r' from ho).2
  | bk e => exact (show False ∧ False from ho).1.elim
  | ct e => exact (show False ∧ False from ho).1.elim
  | er c fs e => exact (show False ∧ False from ho).1.elim
/-- a def of k parameters, n names -/
noncomputable abbrev getF (n k : Nat) (w : WS) : FN := autoF n w fun ds _ => ds.length = k
theorem getF_len {n k : Nat} {w : WS} : ∀ ds r, getF n k w ds = some r → ds.length = k := fun ds r h => (auto_spec h).1
theorem getF_keeps {n k : Nat} {w : WS} : Keeps n w (getF n k w) := auto_keeps
theorem getF_eq {n k : Nat} {w : WS} {ds : List Dt} {r : Dt} (hd : DC w) (h : w (endR r) (startE n ds)) (hl : ds.length = k := by rfl) : getF n k w ds = some r := by
  obtain ⟨r', h1, h2⟩ := auto_at (P := fun ds _ => ds.length = k) ⟨r, hl, h⟩
  rw [show getF n k w ds = some r' from h1, hd.uniq (auto_spec h1).2 h]
theorem getF_rel {n k : Nat} {w : WS} {ds : List Dt} {Q : Dt → Prop} (hd : DC w) (h : w (endP Q) (startE n ds)) (hl : ds.length = k := by rfl) : ∃ r, getF n k w ds = some r ∧ Q r := by
  obtain ⟨o, ho, h2⟩ := hd.1.one _ _ h
  cases o with
  | nx e => exact ⟨.non, getF_eq hd (hd.1.mono _ _ _ (One.le (D := endR .non) (o := .nx e) (show Dt.non = Dt.non from rfl)) h2) hl, ho⟩
  | rt d => exact ⟨d, getF_eq hd (hd.1.mono _ _ _ (One.le (D := endR d) (o := .rt d) (show d = d from rfl)) h2) hl, ho⟩
  | bk e => exact ho.elim
  | ct e => exact ho.elim
  | er c fs e => exact ho.elim
/-- by a function that it keeps -/
theorem getF_lib {n k : Nat} {w : WS} {F : FN} {ds : List Dt} {r : Dt} (hd : DC w) (hk : Keeps n w F) (h : F ds = some r) (hl : ds.length = k := by rfl) : getF n k w ds = some r := getF_eq hd (hk ds r h) hl
/-! that may raise -/
noncomputable abbrev getX (n k : Nat) (w : WS) : FX := autoX n w fun ds _ => ds.length = k
theorem getX_len {n k : Nat} {w : WS} : ∀ ds o, getX n k w ds = some o → ds.length = k := fun ds o h => (autoX_spec h).1
theorem getX_keeps {n k : Nat} {w : WS} (hd : DC w) : KeepsX n w (getX n k w) := autoX_keeps hd.1
theorem DC.uniqX {w : WS} (h : DC w) {r r' : Xr} {env : Sl} (h1 : w (endX (· = r)) env) (h2 : w (endX (· = r')) env) : r = r' := by
  obtain ⟨o, ho, _⟩ := h.1.one _ _ (h.2.two _ _ _ h1 h2)
  cases o with
  | nx e => exact (show Xr.ok .non = r ∧ Xr.ok .non = r' from ho).1.symm.trans (show Xr.ok .non = r ∧ Xr.ok .non = r' from ho).2
  | rt d => exact (show Xr.ok d = r ∧ Xr.ok d = r' from ho).1.symm.trans (show Xr.ok d = r ∧ Xr.ok d = r' from ho).2
  | bk e => exact (show False ∧ False from ho).1.elim
  | ct e => exact (show False ∧ False from ho).1.elim
  | er c fs e => exact (show Xr.er c fs = r ∧ Xr.er c fs = r' from ho).1.symm.trans (show Xr.er c fs = r ∧ Xr.er c fs = r' from ho).2
theorem getX_eq {n k : Nat} {w : WS} {ds : List Dt} {o : Xr} (hd : DC w) (h : w (endX (· = o)) (startE n ds)) (hl : ds.length = k := by rfl) : getX n k w ds = some o := by
  have hk : ∃ x, ds.length = k ∧ w (endX (· = x)) (startE n ds) := ⟨o, hl, h⟩
  have e : getX n k w ds = some (Classical.choose hk) := by
    unfold getX autoX
    rw [dif_pos hk]
  rw [e, hd.uniqX (Classical.choose_spec hk).2 h]
theorem getX_rel {n k : Nat} {w : WS} {ds : List Dt} {Q : Xr → Prop} (hd : DC w) (h : w (endX Q) (startE n ds)) (hl : ds.length = k := by rfl) : ∃ o, getX n k w ds = some o ∧ Q o := by
  obtain ⟨o, ho, h2⟩ := hd.1.one _ _ h
  cases o with
  | nx e => exact ⟨.ok .non, getX_eq hd (hd.1.mono _ _ _ (One.le (D := endX (· = .ok .non)) (o := .nx e) (show Xr.ok .non = Xr.ok .non from rfl)) h2) hl, ho⟩
  | rt d => exact ⟨.ok d, getX_eq hd (hd.1.mono _ _ _ (One.le (D := endX (· = .ok d)) (o := .rt d) (show Xr.ok d = Xr.ok d from rfl)) h2) hl, ho⟩
  | bk e => exact ho.elim
  | ct e => exact ho.elim
  | er c fs e => exact ⟨.er c fs, getX_eq hd (hd.1.mono _ _ _ (One.le (D := endX (· = .er c fs)) (o := .er c fs e) (show Xr.er c fs = Xr.er c fs from rfl)) h2) hl, ho⟩
end Pyl
end
section
set_option Elab.async false
set_option linter.all false
set_option maxHeartbeats 1000000
namespace Pyl
open PySem
/-! ### the helpers that every law has -/
local macro_rules | `(tactic| walk_at "pe") => `(tactic| simp (config := { implicitDefEqProofs := false }) only [eVar_at, eC_at, e1_at, e2_at, aNil_at, aCons_at, eTup_at, eLst_at, plain_nil, plain_cons, eCall_at, eIf_at, eAnd_at, eOr_at, eNot_at, tVal_at, tAnd_at, tOr_at, tNot_at, tYes_at,
  pAdd_int, pSub_int, pNeg_int, pLt_int, pLe_int, pGt_int, pGe_int, pEq_int, pNe_int, pIsN_at, pNotN_at, pIx_lst, pIx_tup, oNone_at, oSome_at, eSlice_at, pLen_lst, pLen_tup, pInt_int, pInt_bl, pAbs_int, pSum_ints, pMax2_int, pMin2_int, pList_lst, pList_tup, pTuple_lst, pTuple_tup, iSeq_at, gN_at, gT_at, gsN_cons, gsN_nil, wipeS_cons, wipeS_nil,
  dt_vis, dt_bor, dt_fre, sh_vis, sh_bor, sh_fre, slot_vis, slot_fre, od_dt, isNon_non, isNon_int, isNon_lst, isNon_tup, scalar_int, scalar_bl, scalar_non, Option.bind_some, Option.bind_none, Option.map_some, Option.map_none, List.getElem?_cons_zero, List.getElem?_cons_succ, List.set_cons_zero, List.set_cons_succ, List.map_cons, List.map_nil, List.any_cons, List.any_nil, Bool.or_false, Bool.false_or, Bool.false_and, Bool.and_true, Bool.true_and, Bool.not_true, Bool.not_false,
  Option.some.injEq, exists_eq_left', exists_eq_left, true_and, and_true, if_true, if_false, Bool.false_eq_true, ite_true, ite_false, reduceIte, decide_eq_true_eq, decide_eq_false_iff_not, R.vis.injEq, R.fre.injEq, Dt.lst.injEq, Dt.tup.injEq, Dt.int.injEq, Slot.own.injEq, OD.lst.injEq, reduceCtorEq, false_and, exists_false, exists_const, Bool.true_eq_false, false_implies, true_implies, implies_true, forall_const])
/-- isinstance(value, int) and not a bool -/
def wholeD : Dt → Option Bool
  | .obj _ _ => none
  | .exn _ _ _ => none
  | .int _ => some true
  | _ => some false
def F_whole : FN := fun ds => match ds with
  | [d] => (wholeD d).map .bl
  | _ => none
def cw_whole : WS := (wRet (eAnd (e1 (pIsi "int") (eVar 0)) (eNot (e1 (pIsi "bool") (eVar 0)))))
theorem k_whole : Keeps 1 cw_whole F_whole := by
  intro ds r h
  match ds, h with
  | [d], h =>
    cases d <;> first | (cases h; done) | (cases h; exact ⟨_, rfl, rfl, rfl⟩)
def seedM (ns : List Int) : Int := ns.foldl (fun s n => (s * 31 + n % 1000003) % 1000003) 17
def cellM (ns : List Int) (k : Int) : Int := if k < ns.length then ns.getD k.toNat 0 else ((seedM ns + 7) * (k + 3) * 69621) % 2147483647
def F_cell : FN := fun ds => match ds with
  | [.lst xs, .int k] => (intsOf xs).bind fun ns => if 0 ≤ k ∧ k < 4294967296 then some (.int (cellM ns k)) else none
  | _ => none
def cw_cell : WS := (wSeq (wIf (tVal (e2 pLt (eVar 1) (e1 pLen (eVar 0)))) (wRet (e2 pIx (eVar 0) (eVar 1))) wNil)
  (wSeq (wAsg 2 (eC (.int 17)))
  (wSeq (wFor (iSeq (eVar 0)) (gN 3) (wAsg 2 (e2 pMod (e1 pInt (e2 pAdd (e2 pMul (eVar 2) (eC (.int 31))) (e2 pMod (e1 pInt (eVar 3)) (eC (.int 1000003))))) (eC (.int 1000003)))))
  (wRet (e2 pMod (e1 pInt (e2 pMul (e2 pMul (e2 pAdd (eVar 2) (eC (.int 7))) (e2 pAdd (eVar 1) (eC (.int 3)))) (eC (.int 69621)))) (eC (.int 2147483647)))))))
theorem intsOf_some : ∀ {ds : List Dt} {ns : List Int}, intsOf ds = some ns → ds = ns.map .int
  | [], _, h => by cases h; rfl
  | .int i :: ds, _, h => by
    unfold intsOf at h
    obtain ⟨ms, h1, h2⟩ := Option.map_eq_some_iff.mp h
    subst h2
    rw [intsOf_some h1]
    rfl
  | .non :: _, _, e => by simp [intsOf] at e
  | .bl _ :: _, _, e => by simp [intsOf] at e
  | .str _ :: _, _, e => by simp [intsOf] at e
  | .lst _ :: _, _, e => by simp [intsOf] at e
  | .tup _ :: _, _, e => by simp [intsOf] at e
  | .obj _ _ :: _, _, e => by simp [intsOf] at e
theorem seed_bound (ns : List Int) (i : Nat) : 0 ≤ seedM (ns.take i) ∧ seedM (ns.take i) < 1000003 := by
  have h : ∀ (ns : List Int) (s : Int), 0 ≤ s ∧ s < 1000003 → 0 ≤ ns.foldl (fun s n => (s * 31 + n % 1000003) % 1000003) s ∧ ns.foldl (fun s n => (s * 31 + n % 1000003) % 1000003) s < 1000003 := by
    intro ns
    induction ns with
    | nil => exact fun s h => h
    | cons n ns ih => exact fun s h => ih _ ⟨Int.emod_nonneg _ (by decide), Int.emod_lt_of_pos _ (by decide)⟩
  exact h _ 17 (by decide)
theorem foldl_take {α β : Type} {f : β → α → β} {l : List α} {i : Nat} {x : α} {s : β} (h : l[i]? = some x) : (l.take (i + 1)).foldl f s = f ((l.take i).foldl f s) x := by
  rw [List.take_add_one, h, List.foldl_append]
  rfl
theorem k_cell : Keeps 4 cw_cell F_cell := by
  intro ds r h
  match ds, h with
  | [.lst xs, .int k], h =>
    obtain ⟨ns, h1, h⟩ := Option.bind_eq_some_iff.mp h
    split at h
    case isFalse => cases h
    rename_i hk
    cases h
    rw [intsOf_some h1]
    show cw_cell _ [.val (.lst (ns.map .int)), .val (.int k), .non, .non]
    have hsz : (List.map Dt.int ns).length = ns.length := List.length_map _
    refine q_ifD (p := k < (ns.length : Int)) (by walk_at "pe"; rw [hsz]) (fun hlt => ?_) fun hge => ?_
    · have hg : atL (ns.map Dt.int) k = some (.int (cellM ns k)) := by
        refine atL_of_get hk.1 ?_
        unfold cellM
        rw [if_pos hlt, List.getElem?_map, List.getD_eq_getElem?_getD, List.getElem?_eq_getElem (by omega)]
        rfl
      exact s_ret (r := .vis _) (by walk_at "pe"; rw [hg]; rfl) rfl rfl rfl
    · refine q_asg (r := .vis _) (by walk_at "pe"; rfl) rfl rfl ?_
      refine q_forMap (u := Dt.int) (xs := ns) (fun i e => ∃ z, e = [.val (.lst (ns.map .int)), .val (.int k), .val (.int (seedM (ns.take i))), z]) (by walk_at "pe") ⟨_, rfl⟩ ?_ ?_
      · rintro i env x hx ⟨z, rfl⟩
        refine ⟨_, by walk_at "pe"; rfl, ?_⟩
        have hb := seed_bound ns i
        refine s_asg (r := .vis (.int (seedM (ns.take (i + 1))))) ?_ rfl rfl ⟨_, rfl⟩
        walk_at "pe"
        rw [pMul_int (big64 (by omega) (by omega)) (big64 (by decide) (by decide)), pMod_int (by decide)]
        walk_at "pe"
        rw [pMod_int (by decide)]
        unfold seedM
        rw [foldl_take hx]
      · rintro env ⟨z, rfl⟩
        have hb := seed_bound ns ns.length
        rw [List.take_length] at hb ⊢
        refine s_ret (r := .vis (.int (cellM ns k))) ?_ rfl rfl rfl
        walk_at "pe"
        rw [pMul_int (big64 (by omega) (by omega)) (big64 (by omega) (by omega))]
        walk_at "pe"
        rw [pMul_int (big_of (n := 100) ?_ (by decide)) (big64 (by decide) (by decide))]
        · walk_at "pe"
          rw [pMod_int (by decide)]
          unfold cellM
          rw [if_neg hge]
        · have h1 : (seedM ns + 7) * (k + 3) < 1000010 * (k + 3) + 1 := by
            have := Int.mul_le_mul_of_nonneg_right (show seedM ns + 7 ≤ 1000010 by omega) (show (0 : Int) ≤ k + 3 by omega)
            omega
          have h2 : 0 ≤ (seedM ns + 7) * (k + 3) := Int.mul_nonneg (by omega) (by omega)
          omega
/-! the digits of a cell -/
def digA : Int → List Int → List Int
  | _, [] => []
  | r, s :: ss => r % s :: digA (r / s) ss
def stepB (seed : Int) (k : Nat) : Int := (seed * 48271 + 974711 * (k : Int) + 12345) % 2147483647
def takeB (seed : Int) : Int := (seed * (seed / 65537 + 3)) % 2147483629
def digB : Int → Nat → List Int → List Int
  | _, _, [] => []
  | seed, k, s :: ss => takeB (stepB seed k) / 19 % s :: digB (stepB seed k) (k + 1) ss
def digitsM (cell : Int) (sizes : List Int) : List Int := if 1000000000000000000 ≤ cell then digA (cell - 1000000000000000000) sizes else digB (cell % 2147483629) 0 sizes
def sizeOk (sizes : List Int) : Prop := (∀ s ∈ sizes, 0 < s ∧ s < 18446744073709551616) ∧ sizes.length ≤ 100000
instance (sizes : List Int) : Decidable (sizeOk sizes) := by unfold sizeOk; exact inferInstance
def F_digits : FN := fun ds => match ds with
  | [.int c, .lst xs] => (intsOf xs).bind fun ns => if sizeOk ns then some (.lst ((digitsM c ns).map .int)) else none
  | _ => none
theorem digA_len : ∀ (ss : List Int) (r : Int), (digA r ss).length = ss.length
  | [], _ => rfl
  | s :: ss, r => by
    show (digA (r / s) ss).length + 1 = _
    rw [digA_len ss]
    rfl
theorem digB_len : ∀ (ss : List Int) (r : Int) (k : Nat), (digB r k ss).length = ss.length
  | [], _, _ => rfl
  | s :: ss, r, k => by
    show (digB _ (k + 1) ss).length + 1 = _
    rw [digB_len ss]
    rfl
theorem digitsM_len (c : Int) (ss : List Int) : (digitsM c ss).length = ss.length := by
  unfold digitsM
  split
  · exact digA_len _ _
  · exact digB_len _ _ _
theorem digA_get : ∀ {ss : List Int} {r : Int} {i : Nat} {s d : Int}, (∀ s ∈ ss, 0 < s) → ss[i]? = some s → (digA r ss)[i]? = some d → 0 ≤ d ∧ d < s
  | [], _, _, _, _, _, h, _ => by simp at h
  | s' :: ss, r, 0, s, d, hp, h, h2 => by
    cases h
    have e : r % s' = d := Option.some.inj h2
    have := hp s' List.mem_cons_self
    rw [← e]
    exact ⟨Int.emod_nonneg _ (by omega), Int.emod_lt_of_pos _ this⟩
  | s' :: ss, r, i + 1, s, d, hp, h, h2 => digA_get (i := i) (fun x hx => hp x (List.mem_cons_of_mem _ hx)) h h2
theorem digB_get : ∀ {ss : List Int} {r : Int} {k i : Nat} {s d : Int}, (∀ s ∈ ss, 0 < s) → ss[i]? = some s → (digB r k ss)[i]? = some d → 0 ≤ d ∧ d < s
  | [], _, _, _, _, _, _, h, _ => by simp at h
  | s' :: ss, r, k, 0, s, d, hp, h, h2 => by
    cases h
    have e : takeB (stepB r k) / 19 % s' = d := Option.some.inj h2
    have := hp s' List.mem_cons_self
    rw [← e]
    exact ⟨Int.emod_nonneg _ (by omega), Int.emod_lt_of_pos _ this⟩
  | s' :: ss, r, k, i + 1, s, d, hp, h, h2 => digB_get (i := i) (fun x hx => hp x (List.mem_cons_of_mem _ hx)) h h2
theorem digitsM_get {c : Int} {ss : List Int} {i : Nat} {s d : Int} (hp : ∀ s ∈ ss, 0 < s) (h : ss[i]? = some s) (h2 : (digitsM c ss)[i]? = some d) : 0 ≤ d ∧ d < s := by
  unfold digitsM at h2
  split at h2
  · exact digA_get hp h h2
  · exact digB_get hp h h2
def cw_digits : WS := (wSeq (wAsg 2 (eLst aNil))
  (wSeq (wAsg 3 (e1 pInt (eVar 0)))
  (wSeq (wIf (tVal (e2 pGe (eVar 3) (e2 pPow (eC (.int 10)) (eC (.int 18)))))
  (wSeq (wAsg 3 (e2 pSub (eVar 3) (e2 pPow (eC (.int 10)) (eC (.int 18)))))
  (wSeq (wFor (iSeq (eVar 1)) (gN 6)
  (wSeq (wApp 2 (e2 pMod (e1 pInt (eVar 3)) (eVar 6)))
  (wAsg 3 (e2 pDiv (e1 pInt (eVar 3)) (eVar 6)))))
  (wFrz 2 (wRet (eVar 2)))))
  wNil)
  (wSeq (wAsg 4 (e2 pMod (e1 pInt (eVar 3)) (eC (.int 2147483629))))
  (wSeq (wFor (iRange1 (e1 pLen (eVar 1))) (gN 5)
  (wSeq (wAsg 4 (e2 pMod (e1 pInt (e2 pAdd (e2 pAdd (e2 pMul (eVar 4) (eC (.int 48271))) (e2 pMul (eC (.int 974711)) (eVar 5))) (eC (.int 12345)))) (eC (.int 2147483647))))
  (wSeq (wAsg 7 (e2 pMod (e1 pInt (e2 pMul (eVar 4) (e2 pAdd (e2 pDiv (eVar 4) (eC (.int 65537))) (eC (.int 3))))) (eC (.int 2147483629))))
  (wApp 2 (e2 pMod (e2 pDiv (eVar 7) (eC (.int 19))) (e2 pIx (eVar 1) (eVar 5)))))))
  (wFrz 2 (wRet (eVar 2))))))))
theorem pow18 : pPow (.int 10) (.int 18) = some (.vis (.int 1000000000000000000)) := by
  rw [pPow_int (by decide) (by decide) (by decide)]
  rfl
theorem drop_cons_get {α : Type} {l : List α} {i : Nat} {x : α} (h : l[i]? = some x) : l.drop i = x :: l.drop (i + 1) := by
  obtain ⟨hl, e⟩ := List.getElem?_eq_some_iff.mp h
  rw [← e]
  exact List.drop_eq_getElem_cons hl
theorem k_digits : Keeps 8 cw_digits F_digits := by
  intro ds r h
  match ds, h with
  | [.int c, .lst xs], h =>
    obtain ⟨ns, h1, h⟩ := Option.bind_eq_some_iff.mp h
    split at h
    case isFalse => cases h
    rename_i hk
    cases h
    rw [intsOf_some h1]
    obtain ⟨hp, hlen⟩ := hk
    have hsz : (List.map Dt.int ns).length = ns.length := List.length_map _
    show cw_digits _ [.val (.int c), .val (.lst (ns.map .int)), .non, .non, .non, .non, .non, .non]
    refine q_asg (r := .fre (.lst [])) (by walk_at "pe") rfl rfl ?_
    refine q_asg (r := .vis (.int c)) (by walk_at "pe") rfl rfl ?_
    refine q_ifD (p := 1000000000000000000 ≤ c) (by walk_at "pe"; rw [pow18]; walk_at "pe") (fun hge => ?_) fun hlt => ?_
    · refine q_asg (r := .vis (.int (c - 1000000000000000000))) (by walk_at "pe"; rw [pow18]; walk_at "pe") rfl rfl ?_
      refine q_forMap (u := Dt.int) (xs := ns) (fun i e => ∃ z acc rest, e = [.val (.int c), .val (.lst (ns.map .int)), .own (.lst (acc.map .int)), .val (.int rest), .non, .non, z, .non] ∧ acc.length = i ∧ acc ++ digA rest (ns.drop i) = digitsM c ns) (by walk_at "pe") ⟨_, [], c - 1000000000000000000, rfl, rfl, ?_⟩ ?_ ?_
      · unfold digitsM
        rw [if_pos hge]
        rfl
      · rintro i env x hx ⟨z, acc, rest, rfl, hl, he⟩
        have hx2 := hp x (List.mem_of_getElem? hx)
        have hi := (List.getElem?_eq_some_iff.mp hx).1
        refine ⟨_, by walk_at "pe"; rfl, ?_⟩
        refine q_app (d := .int (rest % x)) rfl (r := .vis _) (by walk_at "pe"; rw [pMod_int hx2.1]) rfl (by rw [List.length_map]; exact lim_lt (by omega)) rfl rfl ?_
        refine s_asg (r := .vis (.int (rest / x))) (by walk_at "pe"; rw [pDiv_int hx2.1 (div64 hx2.1 hx2.2)]) rfl rfl ⟨.val (.int x), acc ++ [rest % x], rest / x, ?_, ?_, ?_⟩
        · rw [List.map_append]
          rfl
        · rw [List.length_append, hl]
          rfl
        · rw [List.append_assoc, ← he, drop_cons_get hx]
          rfl
      · rintro env ⟨z, acc, rest, rfl, hl, he⟩
        rw [List.drop_length] at he
        have he : acc = digitsM c ns := by rw [← he]; exact (List.append_nil _).symm
        subst he
        exact q_frz rfl rfl (s_ret (r := .vis _) (by walk_at "pe") rfl rfl rfl)
    · refine s_nil ?_
      refine q_asg (r := .vis (.int (c % 2147483629))) (by walk_at "pe"; rw [pMod_int (by decide)]) rfl rfl ?_
      refine q_forRng (lo := 0) (n := ns.length) (fun i e => ∃ z z7 acc seed, e = [.val (.int c), .val (.lst (ns.map .int)), .own (.lst (acc.map .int)), .val (.int c), .val (.int seed), z, .non, z7] ∧ acc.length = i ∧ 0 ≤ seed ∧ seed < 2147483647 ∧ acc ++ digB seed i (ns.drop i) = digitsM c ns)
        (by rw [rng1 (n := (ns.length : Int)) (by walk_at "pe"; rw [hsz]) (by omega)]; rw [Int.toNat_natCast]) ⟨_, _, [], c % 2147483629, rfl, rfl, Int.emod_nonneg _ (by decide), ?_, ?_⟩ ?_ ?_
      · have := Int.emod_lt_of_pos c (show (0 : Int) < 2147483629 by decide)
        omega
      · unfold digitsM
        rw [if_neg hlt]
        rfl
      · rintro i env hi ⟨z, z7, acc, seed, rfl, hl, hs0, hs1, he⟩
        have hg : ns[i]? = some ns[i] := List.getElem?_eq_getElem hi
        have hx2 := hp ns[i] (List.mem_of_getElem? hg)
        have hb0 : 0 ≤ stepB seed i := Int.emod_nonneg _ (by decide)
        have hb1 : stepB seed i < 2147483647 := Int.emod_lt_of_pos _ (by decide)
        refine ⟨_, by walk_at "pe"; rfl, ?_⟩
        refine q_asg (r := .vis (.int (stepB seed i))) ?_ rfl rfl ?_
        · walk_at "pe"
          rw [pMul_int (big64 (by omega) (by omega)) (big64 (by decide) (by decide)), pMul_int (big64 (by decide) (by decide)) (big64 (by omega) (by omega))]
          walk_at "pe"
          rw [pMod_int (by decide)]
          unfold stepB
          rw [Int.zero_add]
        have hq0 : 0 ≤ stepB seed i / 65537 := Int.ediv_nonneg hb0 (by decide)
        have hq1 : stepB seed i / 65537 < 40000 := by omega
        refine q_asg (r := .vis (.int (takeB (stepB seed i)))) ?_ rfl rfl ?_
        · walk_at "pe"
          rw [pDiv_int (by decide) (div64 (by decide) (by decide))]
          walk_at "pe"
          rw [pMul_int (big64 (by omega) (by omega)) (big64 (by omega) (by omega))]
          walk_at "pe"
          rw [pMod_int (by decide)]
          rfl
        refine s_app (d := .int (takeB (stepB seed i) / 19 % ns[i])) rfl (r := .vis _) ?_ rfl (by rw [List.length_map]; exact lim_lt (by omega)) rfl rfl ⟨.val (.int (0 + (i : Int))), .val (.int (takeB (stepB seed i))), acc ++ [takeB (stepB seed i) / 19 % ns[i]], stepB seed i, ?_, ?_, hb0, hb1, ?_⟩
        · walk_at "pe"
          rw [pDiv_int (by decide) (div64 (by decide) (by decide)), Int.zero_add, atL_nat, List.getElem?_map, hg]
          walk_at "pe"
          rw [pMod_int hx2.1]
        · rw [List.map_append]
          rfl
        · rw [List.length_append, hl]
          rfl
        · rw [List.append_assoc, ← he, drop_cons_get hg]
          rfl
      · rintro env ⟨z, z7, acc, seed, rfl, hl, hs0, hs1, he⟩
        rw [List.drop_length] at he
        have he : acc = digitsM c ns := by rw [← he]; exact (List.append_nil _).symm
        subst he
        exact q_frz rfl rfl (s_ret (r := .vis _) (by walk_at "pe") rfl rfl rfl)
/-! lists of ints as data, and back -/
def ilst (ns : List Int) : Dt := .lst (ns.map .int)
def itup (ns : List Int) : Dt := .tup (ns.map .int)
def imat (m : List (List Int)) : Dt := .lst (m.map ilst)
/-- as a list, as a tuple -/
def iseq (b : Bool) (ns : List Int) : Dt := bif b then itup ns else ilst ns
def imatS (b : Bool) (m : List (List Int)) : Dt := bif b then .tup (m.map itup) else imat m
def Dt.toI : Dt → Int
  | .int i => i
  | _ => 0
def Dt.items : Dt → List Dt
  | .lst ds => ds
  | .tup ds => ds
  | _ => []
def Dt.toIs (d : Dt) : List Int := d.items.map Dt.toI
def Dt.toM (d : Dt) : List (List Int) := d.items.map Dt.toIs
theorem map_toI (ns : List Int) : (ns.map Dt.int).map Dt.toI = ns := by
  rw [List.map_map]
  exact List.map_id _
theorem toIs_ilst (ns : List Int) : (ilst ns).toIs = ns := map_toI ns
theorem toIs_itup (ns : List Int) : (itup ns).toIs = ns := map_toI ns
theorem toIs_iseq (b : Bool) (ns : List Int) : (iseq b ns).toIs = ns := by cases b <;> exact map_toI ns
theorem toM_imat (m : List (List Int)) : (imat m).toM = m := by
  show (m.map ilst).map Dt.toIs = m
  rw [List.map_map, show Dt.toIs ∘ ilst = id from funext toIs_ilst]
  exact List.map_id _
theorem toM_imatS (b : Bool) (m : List (List Int)) : (imatS b m).toM = m := by
  cases b
  · exact toM_imat m
  · show (m.map itup).map Dt.toIs = m
    rw [List.map_map, show Dt.toIs ∘ itup = id from funext toIs_itup]
    exact List.map_id _
theorem seqOf_iseq (b : Bool) (ns : List Int) : seqOf (iseq b ns) = some (ns.map .int) := by cases b <;> rfl
theorem seqOf_imatS (b : Bool) (m : List (List Int)) : seqOf (imatS b m) = some (m.map (iseq b)) := by cases b <;> rfl
theorem pLen_iseq (b : Bool) (ns : List Int) : pLen (iseq b ns) = some (.vis (.int ns.length)) := by
  cases b
  · show some (R.vis (.int ((ns.map Dt.int).length : Nat))) = _
    rw [List.length_map]
  · show some (R.vis (.int ((ns.map Dt.int).length : Nat))) = _
    rw [List.length_map]
theorem pIx_iseq {b : Bool} {ns : List Int} {i : Int} {x : Int} (h0 : 0 ≤ i) (h : ns[i.toNat]? = some x) : pIx (iseq b ns) (.int i) = some (.vis (.int x)) := by
  have e : (ns.map Dt.int)[i.toNat]? = some (.int x) := by
    rw [List.getElem?_map, h]
    rfl
  cases b
  · show (atL (ns.map Dt.int) i).map R.vis = _
    rw [atL_of_get h0 e]
    rfl
  · show (atL (ns.map Dt.int) i).map R.vis = _
    rw [atL_of_get h0 e]
    rfl
theorem pIx_imatS {b : Bool} {m : List (List Int)} {i : Int} {x : List Int} (h0 : 0 ≤ i) (h : m[i.toNat]? = some x) : pIx (imatS b m) (.int i) = some (.vis (iseq b x)) := by
  cases b
  · have e : (m.map ilst)[i.toNat]? = some (ilst x) := by
      rw [List.getElem?_map, h]
      rfl
    show (atL (m.map ilst) i).map R.vis = _
    rw [atL_of_get h0 e]
    rfl
  · have e : (m.map itup)[i.toNat]? = some (itup x) := by
      rw [List.getElem?_map, h]
      rfl
    show (atL (m.map itup) i).map R.vis = _
    rw [atL_of_get h0 e]
    rfl
theorem zipWith_tup {α β : Type} (u : α → Dt) (v : β → Dt) : ∀ (xs : List α) (ys : List β), List.zipWith (fun x y => Dt.tup [x, y]) (xs.map u) (ys.map v) = (xs.zip ys).map fun p => Dt.tup [u p.1, v p.2]
  | [], _ => rfl
  | _ :: _, [] => rfl
  | x :: xs, y :: ys => by
    rw [List.map_cons, List.map_cons, List.zipWith_cons_cons, List.zip_cons_cons, List.map_cons, zipWith_tup u v xs ys]
theorem cutD_map {α : Type} (u : α → Dt) (xs : List α) {lo hi : Option Int} : cutD (xs.map u) lo hi = ((xs.drop (sIx xs.length 0 lo)).take (sIx xs.length xs.length hi - sIx xs.length 0 lo)).map u := by
  unfold cutD
  rw [List.length_map, List.map_take, List.map_drop]
theorem sIx_nat {n d k : Nat} (h : k ≤ n) : sIx n d (some (k : Int)) = k := by
  unfold sIx
  show (if 0 ≤ (k : Int) then min (k : Int).toNat n else ((k : Int) + (n : Int)).toNat) = k
  rw [if_pos (Int.natCast_nonneg k), Int.toNat_natCast, Nat.min_eq_left h]
theorem cut_nat {α : Type} (u : α → Dt) {xs : List α} {a k : Nat} (h : a + k ≤ xs.length) : cutD (xs.map u) (some (a : Int)) (some ((a : Int) + (k : Int))) = ((xs.drop a).take k).map u := by
  rw [cutD_map, sIx_nat (by omega), show ((a : Int) + (k : Int)) = ((a + k : Nat) : Int) by omega, sIx_nat h, Nat.add_sub_cancel_left]
theorem cutD_from {ds : List Dt} {k : Nat} : cutD ds (some (k : Int)) none = ds.drop k := by
  unfold cutD
  have h1 : sIx ds.length 0 (some (k : Int)) = min k ds.length := by
    show (if 0 ≤ (k : Int) then min (k : Int).toNat ds.length else ((k : Int) + (ds.length : Int)).toNat) = _
    rw [if_pos (Int.natCast_nonneg k), Int.toNat_natCast]
  rw [h1]
  show (ds.drop _).take (ds.length - _) = _
  rw [List.take_of_length_le (by rw [List.length_drop]; omega)]
  rcases Nat.le_total k ds.length with h | h
  · rw [Nat.min_eq_left h]
  · rw [Nat.min_eq_right h, List.drop_eq_nil_of_le h, List.drop_length]
theorem cutD_to {ds : List Dt} {k : Nat} : cutD ds none (some (k : Int)) = ds.take k := by
  unfold cutD
  have h1 : sIx ds.length ds.length (some (k : Int)) = min k ds.length := by
    show (if 0 ≤ (k : Int) then min (k : Int).toNat ds.length else ((k : Int) + (ds.length : Int)).toNat) = _
    rw [if_pos (Int.natCast_nonneg k), Int.toNat_natCast]
  rw [h1]
  show (ds.drop 0).take (min k ds.length - 0) = _
  rw [List.drop_zero, Nat.sub_zero]
  rcases Nat.le_total k ds.length with h | h
  · rw [Nat.min_eq_left h]
  · rw [Nat.min_eq_right h, List.take_length, List.take_of_length_le h]
theorem cutD_from1 {ds : List Dt} : cutD ds (some 1) none = ds.drop 1 := cutD_from (k := 1)
theorem sum_bounds {B : Int} : ∀ {l : List Int}, (∀ x ∈ l, 0 ≤ x ∧ x ≤ B) → 0 ≤ l.sum ∧ l.sum ≤ B * l.length
  | [], _ => ⟨Int.le_refl _, by simp⟩
  | x :: l, h => by
    have h1 := h x List.mem_cons_self
    have h2 := sum_bounds (l := l) fun y hy => h y (List.mem_cons_of_mem _ hy)
    rw [List.sum_cons, List.length_cons]
    refine ⟨by omega, ?_⟩
    rw [Int.natCast_add, Int.mul_add]
    omega
/-- digits as they are taken: the sizes given -/
theorem F_digits_at {c : Int} {ns : List Int} (h : sizeOk ns) : F_digits [.int c, ilst ns] = some (ilst (digitsM c ns)) := by
  show (intsOf (ns.map .int)).bind _ = _
  rw [intsOf_ints]
  exact if_pos h
theorem F_cell_at {ns : List Int} {k : Int} (h : 0 ≤ k ∧ k < 4294967296) : F_cell [ilst ns, .int k] = some (.int (cellM ns k)) := by
  show (intsOf (ns.map .int)).bind _ = _
  rw [intsOf_ints]
  exact if_pos h
/-! == of lists of ints -/
theorem pyL_ints : ∀ ns : List Int, Dt.pyL (ns.map .int) = some (ns.map .int)
  | [] => rfl
  | n :: ns => by
    rw [List.map_cons]
    unfold Dt.pyL
    rw [pyL_ints ns]
    rfl
theorem py_ilst (ns : List Int) : (ilst ns).py = some (.list (ns.map .int)) := by
  unfold ilst Dt.py
  rw [pyL_ints]
  rfl
theorem pyL_mat : ∀ m : List (List Int), Dt.pyL (m.map ilst) = some (m.map fun r => .list (r.map .int))
  | [] => rfl
  | n :: m => by
    rw [List.map_cons]
    unfold Dt.pyL
    rw [pyL_mat m, py_ilst]
    rfl
theorem py_imat (m : List (List Int)) : (imat m).py = some (.list (m.map fun r => .list (r.map .int))) := by
  unfold imat Dt.py
  rw [pyL_mat]
  rfl
theorem lay_ints : ∀ ns : List Int, PyData.canLayAll0 (ns.map .int) = true ∧ PyData.depthAll (ns.map .int) ≤ 1
  | [] => ⟨rfl, Nat.zero_le _⟩
  | n :: ns => by
    have h := lay_ints ns
    rw [List.map_cons]
    exact ⟨by simp [PyData.canLayAll0, PyData.canLay0, h.1], by simp only [PyData.depthAll, PyData.depth]; omega⟩
theorem lay_mat : ∀ m : List (List Int), PyData.canLayAll0 (m.map fun r => .list (r.map .int)) = true ∧ PyData.depthAll (m.map fun r => .list (r.map .int)) ≤ 3
  | [] => ⟨rfl, Nat.zero_le _⟩
  | n :: ns => by
    have h := lay_mat ns
    have h1 := lay_ints n
    rw [List.map_cons]
    exact ⟨by simp [PyData.canLayAll0, PyData.canLay0, h.1, h1.1], by simp only [PyData.depthAll, PyData.depth]; omega⟩
theorem eqv_ints : ∀ a b : List Int, PyData.eqvAll (a.map .int) (b.map .int) = decide (a = b)
  | [], [] => rfl
  | [], _ :: _ => by simp [PyData.eqvAll]
  | _ :: _, [] => by simp [PyData.eqvAll]
  | x :: a, y :: b => by
    rw [List.map_cons, List.map_cons]
    simp only [PyData.eqvAll, PyData.eqv, eqv_ints a b, List.cons.injEq]
    by_cases h : x = y <;> by_cases h2 : a = b <;> simp [h, h2]
theorem eqv_mat : ∀ a b : List (List Int), PyData.eqvAll (a.map fun r => .list (r.map .int)) (b.map fun r => .list (r.map .int)) = decide (a = b)
  | [], [] => rfl
  | [], _ :: _ => by simp [PyData.eqvAll]
  | _ :: _, [] => by simp [PyData.eqvAll]
  | x :: a, y :: b => by
    rw [List.map_cons, List.map_cons]
    simp only [PyData.eqvAll, PyData.eqv, eqv_mat a b, eqv_ints x y, List.cons.injEq]
    by_cases h : x = y <;> by_cases h2 : a = b <;> simp [h, h2]
theorem eqD_ilst (a b : List Int) : eqD (ilst a) (ilst b) = some (decide (a = b)) := by
  have h1 := lay_ints a
  have h2 := lay_ints b
  unfold eqD
  rw [py_ilst, py_ilst]
  show (if SeqAt.shaped (.list (a.map .int)) && SeqAt.shaped (.list (b.map .int)) then some (PyData.eqv _ _) else none) = _
  rw [if_pos]
  · simp only [PyData.eqv, eqv_ints]
  · simp only [SeqAt.shaped, PyData.canLay0, PyData.depth, h1.1, h2.1, Bool.and_eq_true, decide_eq_true_eq, true_and, Bool.true_and]
    exact ⟨decide_eq_true (by omega), decide_eq_true (by omega)⟩
theorem eqD_imat (a b : List (List Int)) : eqD (imat a) (imat b) = some (decide (a = b)) := by
  have h1 := lay_mat a
  have h2 := lay_mat b
  unfold eqD
  rw [py_imat, py_imat]
  show (if SeqAt.shaped (.list (a.map fun r => .list (r.map .int))) && SeqAt.shaped (.list (b.map fun r => .list (r.map .int))) then some (PyData.eqv _ _) else none) = _
  rw [if_pos]
  · simp only [PyData.eqv, eqv_mat]
  · simp only [SeqAt.shaped, PyData.canLay0, PyData.depth, h1.1, h2.1, Bool.and_eq_true, decide_eq_true_eq, true_and, Bool.true_and]
    exact ⟨decide_eq_true (by omega), decide_eq_true (by omega)⟩
theorem pEq_ilst (a b : List Int) : pEq (ilst a) (ilst b) = some (.vis (.bl (decide (a = b)))) := by unfold pEq; rw [eqD_ilst]; rfl
theorem pNe_ilst (a b : List Int) : pNe (ilst a) (ilst b) = some (.vis (.bl (!decide (a = b)))) := by unfold pNe; rw [eqD_ilst]; rfl
theorem pEq_imat (a b : List (List Int)) : pEq (imat a) (imat b) = some (.vis (.bl (decide (a = b)))) := by unfold pEq; rw [eqD_imat]; rfl
theorem pNe_imat (a b : List (List Int)) : pNe (imat a) (imat b) = some (.vis (.bl (!decide (a = b)))) := by unfold pNe; rw [eqD_imat]; rfl
/-! all digits at once; tables -/
def Below : List Int → List Int → Prop
  | [], [] => True
  | d :: ds, s :: ss => (0 ≤ d ∧ d < s) ∧ Below ds ss
  | _, _ => False
theorem below_of : ∀ {ds ss : List Int}, ds.length = ss.length → (∀ (i : Nat) s d, ss[i]? = some s → ds[i]? = some d → 0 ≤ d ∧ d < s) → Below ds ss
  | [], [], _, _ => trivial
  | [], _ :: _, h, _ => by cases h
  | _ :: _, [], h, _ => by cases h
  | d :: ds, s :: ss, h, g => ⟨g 0 s d rfl rfl, below_of (by simpa using h) fun i s' d' h1 h2 => g (i + 1) s' d' h1 h2⟩
theorem digits_below {c : Int} {ss : List Int} (hp : ∀ s ∈ ss, 0 < s) : Below (digitsM c ss) ss := below_of (digitsM_len c ss) fun i s d h1 h2 => digitsM_get hp h1 h2
theorem tab {l : List Int} {d : Int} (h0 : 0 ≤ d) (h : d < l.length) : ∃ v, v ∈ l ∧ atL (l.map Dt.int) d = some (.int v) := by
  have hl : d.toNat < l.length := by omega
  refine ⟨l[d.toNat], List.getElem_mem hl, atL_of_get h0 ?_⟩
  rw [List.getElem?_map, List.getElem?_eq_getElem hl]
  rfl
section
variable {α : Type} {a b c d e f g h i j k l m : α} {t : List α}
theorem atL0 : atL (a :: t) 0 = some a := rfl
theorem atL1 : atL (a :: b :: t) 1 = some b := rfl
theorem atL2 : atL (a :: b :: c :: t) 2 = some c := rfl
theorem atL3 : atL (a :: b :: c :: d :: t) 3 = some d := rfl
theorem atL4 : atL (a :: b :: c :: d :: e :: t) 4 = some e := rfl
theorem atL5 : atL (a :: b :: c :: d :: e :: f :: t) 5 = some f := rfl
theorem atL6 : atL (a :: b :: c :: d :: e :: f :: g :: t) 6 = some g := rfl
theorem atL7 : atL (a :: b :: c :: d :: e :: f :: g :: h :: t) 7 = some h := rfl
theorem atL8 : atL (a :: b :: c :: d :: e :: f :: g :: h :: i :: t) 8 = some i := rfl
theorem atL9 : atL (a :: b :: c :: d :: e :: f :: g :: h :: i :: j :: t) 9 = some j := rfl
theorem atL10 : atL (a :: b :: c :: d :: e :: f :: g :: h :: i :: j :: k :: t) 10 = some k := rfl
theorem atL11 : atL (a :: b :: c :: d :: e :: f :: g :: h :: i :: j :: k :: l :: t) 11 = some l := rfl
theorem atL12 : atL (a :: b :: c :: d :: e :: f :: g :: h :: i :: j :: k :: l :: m :: t) 12 = some m := rfl
end
theorem map_ilst (ns : List Int) : Dt.lst (ns.map .int) = ilst ns := rfl
theorem pAdd_ilst {a b : List Int} (h : a.length + b.length ≤ 4000000) : pAdd (ilst a) (ilst b) = some (.fre (.lst ((a ++ b).map .int))) := by
  unfold ilst
  rw [pAdd_lst (by rw [List.length_map, List.length_map]; exact lim_of h), List.map_append]
end Pyl
end
section
set_option Elab.async false
set_option linter.all false
set_option maxHeartbeats 1000000
namespace Pyl
open PySem
/-! tails: what their functions compute, for every law that needs them -/
local macro_rules | `(tactic| walk_at "pe") => `(tactic| simp (config := { implicitDefEqProofs := false }) only [eVar_at, eC_at, e1_at, e2_at, aNil_at, aCons_at, eTup_at, eLst_at, plain_nil, plain_cons, eCall_at, eIf_at, eAnd_at, eOr_at, eNot_at, tVal_at, tAnd_at, tOr_at, tNot_at, tYes_at,
  pAdd_int, pSub_int, pNeg_int, pLt_int, pLe_int, pGt_int, pGe_int, pEq_int, pNe_int, pIsN_at, pNotN_at, pIx_lst, pIx_tup, pGcd_int, atL0, atL1, atL2, atL3, atL4, atL5, atL6, atL7, atL8, oNone_at, oSome_at, eSlice_at, pLen_lst, pLen_tup, pInt_int, pInt_bl, pAbs_int, pSum_ints, pMax2_int, pMin2_int, pList_lst, pList_tup, pTuple_lst, pTuple_tup, iSeq_at, gN_at, gT_at, gsN_cons, gsN_nil, wipeS_cons, wipeS_nil,
  dt_vis, dt_bor, dt_fre, sh_vis, sh_bor, sh_fre, slot_vis, slot_fre, od_dt, isNon_non, isNon_int, isNon_lst, isNon_tup, scalar_int, scalar_bl, scalar_non, Option.bind_some, Option.bind_none, Option.map_some, Option.map_none, List.getElem?_cons_zero, List.getElem?_cons_succ, List.set_cons_zero, List.set_cons_succ, List.map_cons, List.map_nil, List.any_cons, List.any_nil, Bool.or_false, Bool.false_or, Bool.false_and, Bool.and_true, Bool.true_and, Bool.not_true, Bool.not_false,
  Option.some.injEq, exists_eq_left', exists_eq_left, true_and, and_true, if_true, if_false, Bool.false_eq_true, ite_true, ite_false, reduceIte, decide_eq_true_eq, decide_eq_false_iff_not, R.vis.injEq, R.fre.injEq, Dt.lst.injEq, Dt.tup.injEq, Dt.int.injEq, Slot.own.injEq, OD.lst.injEq, reduceCtorEq, false_and, exists_false, exists_const, Bool.true_eq_false, false_implies, true_implies, implies_true, forall_const])
def termM (t m : Int) (n j : Nat) : Int := (chooseN n j : Int) * t ^ j * m ^ (n - j)
def tailS (t m : Int) (n l : Nat) : Int := (((List.range (n + 1)).drop l).map (termM t m n)).sum
def gcdI (a b : Int) : Int := (Nat.gcd a.natAbs b.natAbs : Nat)
def lowT (t b : Int) : Int := t / gcdI t b
def lowB (t b : Int) : Int := b / gcdI t b
def powsM (x : Int) (n : Nat) : List Int := (List.range (n + 1)).map (x ^ ·)
open Classical in
noncomputable def F_lowest : FN := fun ds => match ds with
  | [.int t, .int b] => if 0 < b ∧ b.natAbs < 2 ^ 8000 then some (.tup [.int (lowT t b), .int (lowB t b)]) else none
  | _ => none
open Classical in
noncomputable def F_powers_of : FN := fun ds => match ds with
  | [.int x, .int n] => if 0 ≤ n ∧ n ≤ 1000 ∧ x.natAbs < 2 ^ 22 then some (ilst (powsM x n.toNat)) else none
  | _ => none
open Classical in
noncomputable def F_ways_of : FN := fun ds => match ds with
  | [hp, mp, .int n, .int j] => if (hp = ilst hp.toIs ∧ mp = ilst mp.toIs) ∧ (0 ≤ j ∧ j ≤ n ∧ n ≤ 1000) ∧ (hp.toIs.length = n + 1 ∧ mp.toIs.length = n + 1) ∧ (∀ x ∈ hp.toIs, x.natAbs < 2 ^ 21000) ∧ ∀ x ∈ mp.toIs, x.natAbs < 2 ^ 21000 then
      some (.int ((chooseN n.toNat j.toNat : Int) * hp.toIs.getD j.toNat 0 * mp.toIs.getD (n - j).toNat 0)) else none
  | _ => none
/-- what is handed as a share: top and bottom -/
structure OkSh (T B : Int) : Prop where
  t0 : 0 ≤ T
  tb : T ≤ B
  b0 : 0 < B
  b1 : B ≤ 999999
open Classical in
noncomputable def F_tail : FN := fun ds => match ds with
  | [.int n, sh, .int l] => if (∃ b T B, sh = iseq b [T, B] ∧ OkSh T B) ∧ 0 ≤ n ∧ n ≤ 200 ∧ 0 ≤ l ∧ l ≤ n + 1 then
      (let t := lowT (sh.toIs.getD 0 0) (sh.toIs.getD 1 0); let b := lowB (sh.toIs.getD 0 0) (sh.toIs.getD 1 0); let s := tailS t (b - t) n.toNat l.toNat; let w := b ^ n.toNat
       some (.tup [.int (lowT s w), .int (lowB s w)])) else none
  | _ => none
def cw_lowest : WS := (wSeq (wIf (tVal (e2 pEq (eVar 1) (eC (.int 0))))
  wDead
  wNil)
  (wSeq (wAsg 2 (e2 pGcd (eVar 0) (eVar 1)))
  (wSeq (wIf (tVal (e2 pLt (eVar 1) (eC (.int 0))))
  (wAsg 2 (e1 pNeg (eVar 2)))
  wNil)
  (wRet (eTup (aCons (e2 pDiv (eVar 0) (eVar 2)) (aCons (e2 pDiv (eVar 1) (eVar 2)) aNil)))))))
def cw_powers_of : WS := (wSeq (wAsg 2 (eLst (aCons (eC (.int 1)) aNil)))
  (wSeq (wFor (iRange1 (eVar 1)) (gN 3)
  (wApp 2 (e2 pMul (e2 pIx (eVar 2) (e1 pNeg (eC (.int 1)))) (eVar 0))))
  (wFrz 2 (wRet (eVar 2)))))
def cw_ways_of : WS := (wRet (e2 pMul (e2 pMul (e2 pComb (eVar 2) (eVar 3)) (e2 pIx (eVar 0) (eVar 3))) (e2 pIx (eVar 1) (e2 pSub (eVar 2) (eVar 3)))))
def cw_tail : WS := (wSeq (wUnp [7, 8] (eCall F_lowest (aCons (e2 pIx (eVar 1) (eC (.int 0))) (aCons (e2 pIx (eVar 1) (eC (.int 1))) aNil))))
  (wSeq (wAsg 3 (eCall F_powers_of (aCons (eVar 7) (aCons (eVar 0) aNil))))
  (wSeq (wAsg 4 (eCall F_powers_of (aCons (e2 pSub (eVar 8) (eVar 7)) (aCons (eVar 0) aNil))))
  (wSeq (wAsg 5 (eC (.int 0)))
  (wSeq (wFor (iRange2 (eVar 2) (e2 pAdd (eVar 0) (eC (.int 1)))) (gN 6)
  (wAsg 5 (e2 pAdd (eVar 5) (eCall F_ways_of (aCons (eVar 3) (aCons (eVar 4) (aCons (eVar 0) (aCons (eVar 6) aNil))))))))
  (wRet (eCall F_lowest (aCons (eVar 5) (aCons (e2 pIx (eCall F_powers_of (aCons (eVar 8) (aCons (eVar 0) aNil))) (eVar 0)) aNil)))))))))
/-! sizes of powers -/
theorem pow_bits {x : Int} {k : Nat} (h : x.natAbs ≤ 2 ^ k) (i : Nat) : (x ^ i).natAbs ≤ 2 ^ (k * i) := by
  rw [Int.natAbs_pow, Nat.pow_mul]
  exact Nat.pow_le_pow_left h i
theorem mul_bits {x y : Int} {a b : Nat} (hx : x.natAbs ≤ 2 ^ a) (hy : y.natAbs ≤ 2 ^ b) : (x * y).natAbs ≤ 2 ^ (a + b) := by
  rw [Int.natAbs_mul, Nat.pow_add]
  exact Nat.mul_le_mul hx hy
theorem lt_bits {x a b : Nat} (h : x ≤ 2 ^ a) (hab : a < b) : x < 2 ^ b := Nat.lt_of_le_of_lt h (Nat.pow_lt_pow_right (by decide) hab)
theorem choose_le : ∀ n k : Nat, chooseN n k ≤ 2 ^ n
  | n, 0 => by
    unfold chooseN
    exact Nat.pow_pos (by decide)
  | 0, k + 1 => by
    unfold chooseN
    exact Nat.zero_le _
  | n + 1, k + 1 => by
    have h1 := choose_le n k
    have h2 := choose_le n (k + 1)
    show chooseN n k + chooseN n (k + 1) ≤ _
    rw [Nat.pow_succ]
    omega
theorem ch_zero (n : Nat) : chooseN n 0 = 1 := by unfold chooseN; rfl
theorem ch_above : ∀ {n k : Nat}, n < k → chooseN n k = 0
  | 0, k + 1, _ => by unfold chooseN; rfl
  | n + 1, k + 1, h => by
    unfold chooseN
    rw [ch_above (n := n) (k := k) (by omega), ch_above (n := n) (k := k + 1) (by omega)]
theorem term_bits {t m : Int} {n j : Nat} (ht : t.natAbs ≤ 2 ^ 20) (hm : m.natAbs ≤ 2 ^ 20) (hj : j ≤ n) : (termM t m n j).natAbs ≤ 2 ^ (21 * n) := by
  have h1 : ((chooseN n j : Int)).natAbs ≤ 2 ^ n := by
    rw [Int.natAbs_natCast]
    exact choose_le n j
  have h := mul_bits (mul_bits h1 (pow_bits ht j)) (pow_bits hm (n - j))
  rw [show 21 * n = n + 20 * j + 20 * (n - j) by omega]
  exact h
theorem natAbs_sum {B : Nat} : ∀ {l : List Int}, (∀ x ∈ l, x.natAbs ≤ B) → l.sum.natAbs ≤ B * l.length
  | [], _ => by simp
  | x :: l, h => by
    have h1 := h x List.mem_cons_self
    have h2 := natAbs_sum (l := l) fun y hy => h y (List.mem_cons_of_mem _ hy)
    rw [List.sum_cons, List.length_cons, Nat.mul_add, Nat.mul_one]
    have := Int.natAbs_add_le x l.sum
    omega
theorem tail_bits {t m : Int} {n : Nat} (ht : t.natAbs ≤ 2 ^ 20) (hm : m.natAbs ≤ 2 ^ 20) (hn : n ≤ 200) (l : Nat) : (tailS t m n l).natAbs < 2 ^ 4400 := by
  have h := natAbs_sum (B := 2 ^ (21 * n)) (l := ((List.range (n + 1)).drop l).map (termM t m n)) fun x hx => by
    obtain ⟨j, hj, rfl⟩ := List.mem_map.mp hx
    have := List.mem_range.mp (List.mem_of_mem_drop hj)
    exact term_bits ht hm (by omega)
  have hl : (((List.range (n + 1)).drop l).map (termM t m n)).length ≤ 2 ^ 8 := by
    rw [List.length_map, List.length_drop, List.length_range]
    omega
  refine Nat.lt_of_le_of_lt (Nat.le_trans h (Nat.mul_le_mul_left _ hl)) ?_
  rw [← Nat.pow_add]
  exact Nat.pow_lt_pow_right (by decide) (by omega)
/-! scaling -/
theorem term_scale {c t m : Int} {n j : Nat} (hj : j ≤ n) : termM (c * t) (c * m) n j = c ^ n * termM t m n j := by
  unfold termM
  have e : c ^ n = c ^ j * c ^ (n - j) := by rw [← Int.pow_add]; congr 1; omega
  rw [Int.mul_pow, Int.mul_pow, e]
  ac_rfl
theorem tail_scale {c t m : Int} {n l : Nat} : tailS (c * t) (c * m) n l = c ^ n * tailS t m n l := by
  unfold tailS
  have e : ((List.range (n + 1)).drop l).map (termM (c * t) (c * m) n) = ((List.range (n + 1)).drop l).map fun j => c ^ n * termM t m n j :=
    List.map_congr_left fun j hj => term_scale (by have := List.mem_range.mp (List.mem_of_mem_drop hj); omega)
  rw [e]
  generalize (List.range (n + 1)).drop l = L
  induction L with
  | nil => exact (Int.mul_zero _).symm
  | cons x L ih => rw [List.map_cons, List.map_cons, List.sum_cons, List.sum_cons, ih, Int.mul_add]
theorem gcd_pos {a b : Int} (hb : 0 < b) : 0 < gcdI a b := by
  unfold gcdI
  have := Nat.gcd_pos_of_pos_right a.natAbs (show 0 < b.natAbs by omega)
  omega
theorem gcd_top (a b : Int) : gcdI a b * lowT a b = a := Int.mul_ediv_cancel' (Int.ofNat_dvd_left.mpr (Nat.gcd_dvd_left _ _))
theorem gcd_bot (a b : Int) : gcdI a b * lowB a b = b := Int.mul_ediv_cancel' (Int.ofNat_dvd_left.mpr (Nat.gcd_dvd_right _ _))
theorem low_pos {a b : Int} (hb : 0 < b) : 0 < lowB a b := by
  have h := gcd_bot a b
  have hg := gcd_pos (a := a) hb
  rcases Int.lt_or_le 0 (lowB a b) with h2 | h2
  · exact h2
  · have := Int.mul_nonpos_of_nonneg_of_nonpos (Int.le_of_lt hg) h2
    omega
theorem low_abs {a b : Int} (hb : 0 < b) : (lowT a b).natAbs ≤ a.natAbs ∧ (lowB a b).natAbs ≤ b.natAbs := by
  have hg := gcd_pos (a := a) hb
  have h1 := congrArg Int.natAbs (gcd_top a b)
  have h2 := congrArg Int.natAbs (gcd_bot a b)
  rw [Int.natAbs_mul] at h1 h2
  have hg2 : 0 < (gcdI a b).natAbs := by omega
  exact ⟨by rw [← h1]; exact Nat.le_mul_of_pos_left _ hg2, by rw [← h2]; exact Nat.le_mul_of_pos_left _ hg2⟩
theorem low_gcd {a b : Int} (hb : 0 < b) : gcdI (lowT a b) (lowB a b) = 1 := by
  have hp : 0 < Nat.gcd a.natAbs b.natAbs := Nat.gcd_pos_of_pos_right _ (by omega)
  have h1 := congrArg Int.natAbs (gcd_top a b)
  have h2 := congrArg Int.natAbs (gcd_bot a b)
  rw [Int.natAbs_mul] at h1 h2
  have e : (gcdI a b).natAbs = Nat.gcd a.natAbs b.natAbs := Int.natAbs_natCast _
  rw [e] at h1 h2
  have h : Nat.gcd a.natAbs b.natAbs * Nat.gcd (lowT a b).natAbs (lowB a b).natAbs = Nat.gcd a.natAbs b.natAbs * 1 := by
    rw [← Nat.gcd_mul_left, h1, h2, Nat.mul_one]
  unfold gcdI
  rw [Nat.eq_of_mul_eq_mul_left hp h]
  rfl
/-- what a share's chance is does not turn on how the share is handed -/
theorem told_ok {T B f : Int} {n l : Nat} (hT : 0 ≤ T) (hB : 0 < B) (hf : 0 < f) :
    let t := lowT (T * f) (B * f); let b := lowB (T * f) (B * f); let s := tailS t (b - t) n l
    lowT s (b ^ n) * B ^ n = tailS T (B - T) n l * lowB s (b ^ n) := by
  intro t b s
  have hBf : 0 < B * f := Int.mul_pos hB hf
  have hb : 0 < b := low_pos hBf
  have hbn : 0 < b ^ n := Int.pow_pos hb
  have hg : 0 < gcdI (T * f) (B * f) := gcd_pos hBf
  have e1 : gcdI (T * f) (B * f) * t = T * f := gcd_top _ _
  have e2 : gcdI (T * f) (B * f) * b = B * f := gcd_bot _ _
  generalize gcdI (T * f) (B * f) = g at *
  have e3 : g ^ n * s = f ^ n * tailS T (B - T) n l := by
    rw [← tail_scale, ← tail_scale, e1, Int.mul_sub, e1, e2, Int.mul_comm T, Int.mul_comm B, Int.mul_sub]
  have e4 : g ^ n * b ^ n = f ^ n * B ^ n := by rw [← Int.mul_pow, ← Int.mul_pow, e2, Int.mul_comm B]
  have hgn : 0 < g ^ n := Int.pow_pos hg
  have hfn : 0 < f ^ n := Int.pow_pos hf
  have hG : 0 < gcdI s (b ^ n) := gcd_pos hbn
  have e5 := gcd_top s (b ^ n)
  have e6 := gcd_bot s (b ^ n)
  generalize tailS T (B - T) n l = S at *
  have e7 : s * B ^ n = S * b ^ n := by
    have h : (g ^ n * f ^ n) * (s * B ^ n) = (g ^ n * f ^ n) * (S * b ^ n) := by
      calc (g ^ n * f ^ n) * (s * B ^ n) = (g ^ n * s) * (f ^ n * B ^ n) := by ac_rfl
        _ = (f ^ n * S) * (g ^ n * b ^ n) := by rw [e3, e4]
        _ = (g ^ n * f ^ n) * (S * b ^ n) := by ac_rfl
    exact Int.eq_of_mul_eq_mul_left (Int.ne_of_gt (Int.mul_pos hgn hfn)) h
  refine Int.eq_of_mul_eq_mul_left (Int.ne_of_gt hG) ?_
  calc gcdI s (b ^ n) * (lowT s (b ^ n) * B ^ n) = (gcdI s (b ^ n) * lowT s (b ^ n)) * B ^ n := by ac_rfl
    _ = S * b ^ n := by rw [e5, e7]
    _ = S * (gcdI s (b ^ n) * lowB s (b ^ n)) := by rw [e6]
    _ = gcdI s (b ^ n) * (S * lowB s (b ^ n)) := by ac_rfl
theorem lenk_lowest : ∀ (ds : List Dt) (r : Dt), F_lowest ds = some r → ds.length = 2 := by
  intro ds r h
  match ds, h with
  | [.int _, .int _], _ => rfl
theorem big_lt {x : Int} {n : Nat} (h : x.natAbs < 2 ^ n) (hn : n ≤ 400000 := by decide) : x.natAbs < BIG := big_of h hn
theorem gcd_le {a b : Int} (hb : 0 < b) : (gcdI a b).natAbs ≤ b.natAbs := by
  unfold gcdI
  rw [Int.natAbs_natCast]
  exact Nat.gcd_le_right _ (by omega)
theorem kk_lowest : Keeps 3 cw_lowest F_lowest := by
  intro ds r h
  match ds, h with
  | [.int t, .int b], h =>
    simp only [F_lowest] at h
    split at h
    case isFalse => cases h
    rename_i hk
    cases h
    have hg := gcd_pos (a := t) hk.1
    have hgl : (gcdI t b).natAbs < DIVB := by
      rw [DIVB_eq]
      exact Nat.lt_of_le_of_lt (gcd_le hk.1) (Nat.lt_trans hk.2 (Nat.pow_lt_pow_right (by decide) (by decide)))
    show cw_lowest _ [.val (.int t), .val (.int b), .non]
    refine q_ifD (p := b = 0) (by walk_at "pe") (fun e => absurd e (by omega)) fun _ => s_nil ?_
    refine q_asg (r := .vis (.int (gcdI t b))) (by walk_at "pe"; rfl) rfl rfl ?_
    refine q_ifD (p := b < 0) (by walk_at "pe") (fun e => absurd e (by omega)) fun _ => s_nil ?_
    exact s_ret (r := .vis (.tup [.int (lowT t b), .int (lowB t b)])) (by walk_at "pe"; rw [pDiv_int hg hgl, pDiv_int hg hgl]; walk_at "pe"; rfl) rfl rfl rfl
theorem low_at {t b : Int} (h : 0 < b) (h2 : b.natAbs < 2 ^ 8000) : F_lowest [.int t, .int b] = some (.tup [.int (lowT t b), .int (lowB t b)]) := if_pos ⟨h, h2⟩
theorem lenk_powers_of : ∀ (ds : List Dt) (r : Dt), F_powers_of ds = some r → ds.length = 2 := by
  intro ds r h
  match ds, h with
  | [.int _, .int _], _ => rfl
theorem pows_snoc (x : Int) (n : Nat) : (powsM x n).map Dt.int = ((List.range n).map (x ^ ·)).map Dt.int ++ [.int (x ^ n)] := by
  unfold powsM
  rw [List.range_succ, List.map_append, List.map_append]
  rfl
theorem pows_succ (x : Int) (n : Nat) : powsM x (n + 1) = powsM x n ++ [x ^ n * x] := by
  unfold powsM
  rw [List.range_succ, List.map_append, List.map_cons, List.map_nil, Int.pow_succ]
theorem pows_zero (x : Int) : powsM x 0 = [1] := by
  show [x ^ 0] = [1]
  rw [Int.pow_zero]
theorem pows_len (x : Int) (n : Nat) : (powsM x n).length = n + 1 := by
  unfold powsM
  rw [List.length_map, List.length_range]
theorem pows_get {x : Int} {n i : Nat} (h : i ≤ n) : (powsM x n)[i]? = some (x ^ i) := by
  unfold powsM
  rw [List.getElem?_map, List.getElem?_range (by omega)]
  rfl
theorem kk_powers_of : Keeps 4 cw_powers_of F_powers_of := by
  intro ds r h
  match ds, h with
  | [.int x, .int n], h =>
    simp only [F_powers_of] at h
    split at h
    case isFalse => cases h
    rename_i hk
    cases h
    obtain ⟨n, rfl⟩ : ∃ k : Nat, n = k := ⟨n.toNat, by omega⟩
    rw [Int.toNat_natCast]
    show cw_powers_of _ [.val (.int x), .val (.int n), .non, .non]
    refine q_asg (r := .fre (.lst ((powsM x 0).map .int))) (by walk_at "pe"; rw [pows_zero]; rfl) rfl rfl ?_
    refine q_forRng (lo := 0) (n := n) (fun i e => ∃ z, e = [.val (.int x), .val (.int n), .own (.lst ((powsM x i).map .int)), z]) (by rw [rng1 (n := (n : Int)) rfl (by omega), Int.toNat_natCast]) ⟨_, rfl⟩ ?_ ?_
    · rintro i env hi ⟨z, rfl⟩
      refine ⟨_, by walk_at "pe"; rfl, ?_⟩
      refine s_app (d := .int (x ^ i * x)) rfl (r := .vis (.int (x ^ i * x))) ?_ rfl (by rw [List.length_map, pows_len]; exact lim_lt (by omega)) rfl rfl ⟨.val (.int (0 + (i : Int))), ?_⟩
      · walk_at "pe"
        rw [pows_snoc, atL_last]
        walk_at "pe"
        have hx : x.natAbs ≤ 2 ^ 22 := by omega
        rw [pMul_int (big_lt (n := 22 * i + 1) (lt_bits (pow_bits hx i) (by omega)) (by omega)) (big_lt (n := 22) hk.2.2)]
      · rw [pows_succ, List.map_append]
        rfl
    · rintro env ⟨z, rfl⟩
      exact q_frz rfl rfl (s_ret (r := .vis (ilst (powsM x n))) (by walk_at "pe"; rfl) rfl rfl rfl)
theorem pows_at22 {x : Int} {n : Nat} (h : n ≤ 1000) (h2 : x.natAbs < 2 ^ 22) : F_powers_of [.int x, .int (n : Int)] = some (ilst (powsM x n)) := by
  show (if 0 ≤ (n : Int) ∧ (n : Int) ≤ 1000 ∧ x.natAbs < 2 ^ 22 then some (ilst (powsM x (n : Int).toNat)) else none) = _
  rw [if_pos ⟨by omega, by omega, h2⟩, Int.toNat_natCast]
theorem pows_at {x : Int} {n : Nat} (h : n ≤ 1000) (h2 : x.natAbs < 2 ^ 20) : F_powers_of [.int x, .int (n : Int)] = some (ilst (powsM x n)) := pows_at22 h (by omega)
theorem lenk_ways_of : ∀ (ds : List Dt) (r : Dt), F_ways_of ds = some r → ds.length = 4 := by
  intro ds r h
  match ds, h with
  | [_, _, .int _, .int _], _ => rfl
theorem kk_ways_of : Keeps 4 cw_ways_of F_ways_of := by
  intro ds r h
  match ds, h with
  | [hp, mp, .int n, .int j], h =>
    simp only [F_ways_of] at h
    split at h
    case isFalse => cases h
    rename_i hk
    obtain ⟨⟨e1, e2⟩, ⟨j0, jn, n1⟩, ⟨l1, l2⟩, b1, b2⟩ := hk
    cases h
    generalize hp.toIs = xs at *
    generalize mp.toIs = ys at *
    subst e1 e2
    obtain ⟨n, rfl⟩ : ∃ k : Nat, n = k := ⟨n.toNat, by omega⟩
    obtain ⟨j, rfl⟩ : ∃ k : Nat, j = k := ⟨j.toNat, by omega⟩
    rw [Int.toNat_natCast, Int.toNat_natCast, show ((n : Int) - (j : Int)).toNat = n - j by omega]
    have g1 : xs[j]? = some (xs.getD j 0) := by
      rw [List.getD_eq_getElem?_getD, List.getElem?_eq_getElem (by omega)]
      rfl
    have g2 : ys[n - j]? = some (ys.getD (n - j) 0) := by
      rw [List.getD_eq_getElem?_getD, List.getElem?_eq_getElem (by omega)]
      rfl
    have z1 := b1 _ (List.mem_of_getElem? g1)
    have z2 := b2 _ (List.mem_of_getElem? g2)
    generalize xs.getD j 0 = x at *
    generalize ys.getD (n - j) 0 = y at *
    have hc : ((chooseN n j : Int)).natAbs ≤ 2 ^ n := by
      rw [Int.natAbs_natCast]
      exact choose_le n j
    show cw_ways_of _ [.val (ilst xs), .val (ilst ys), .val (.int n), .val (.int j)]
    refine s_ret (r := .vis (.int ((chooseN n j : Int) * x * y))) ?_ rfl rfl rfl
    walk_at "pe"
    rw [pComb_nat (by omega), show pIx (ilst xs) (.int (j : Int)) = _ from pIx_iseq (b := false) (Int.natCast_nonneg j) (by rw [Int.toNat_natCast]; exact g1)]
    walk_at "pe"
    rw [pMul_int (big_lt (n := n + 1) (lt_bits hc (by omega)) (by omega)) (big_lt z1), show ((n : Int) - (j : Int)) = ((n - j : Nat) : Int) by omega, show pIx (ilst ys) (.int ((n - j : Nat) : Int)) = _ from pIx_iseq (b := false) (Int.natCast_nonneg _) (by rw [Int.toNat_natCast]; exact g2)]
    walk_at "pe"
    rw [pMul_int (big_lt (n := n + 21000 + 1) (lt_bits (mul_bits hc (Nat.le_of_lt z1)) (by omega)) (by omega)) (big_lt z2)]
theorem ways_at {t m : Int} {n j : Nat} (hj : j ≤ n) (hn : n ≤ 1000) (ht : t.natAbs < 2 ^ 20) (hm : m.natAbs < 2 ^ 20) : F_ways_of [ilst (powsM t n), ilst (powsM m n), .int (n : Int), .int (j : Int)] = some (.int (termM t m n j)) := by
  have hb : ∀ (x : Int), x.natAbs < 2 ^ 20 → ∀ y ∈ powsM x n, y.natAbs < 2 ^ 21000 := fun x hx y hy => by
    obtain ⟨i, hi, rfl⟩ := List.mem_map.mp hy
    have := List.mem_range.mp hi
    exact lt_bits (pow_bits (Nat.le_of_lt hx) i) (by omega)
  simp only [F_ways_of]
  rw [toIs_ilst, toIs_ilst, if_pos]
  · rw [Int.toNat_natCast, Int.toNat_natCast, show ((n : Int) - (j : Int)).toNat = n - j by omega, List.getD_eq_getElem?_getD, List.getD_eq_getElem?_getD, pows_get hj, pows_get (Nat.sub_le n j)]
    rfl
  · exact ⟨⟨rfl, rfl⟩, ⟨by omega, by omega, by omega⟩, ⟨by rw [pows_len]; omega, by rw [pows_len]; omega⟩, hb t ht, hb m hm⟩
theorem lenk_tail : ∀ (ds : List Dt) (r : Dt), F_tail ds = some r → ds.length = 3 := by
  intro ds r h
  match ds, h with
  | [.int _, _, .int _], _ => rfl
theorem sum_take_succ {l : List Int} {i : Nat} {x : Int} (h : l[i]? = some x) : (l.take (i + 1)).sum = (l.take i).sum + x := by
  rw [List.take_add_one, h, List.sum_append]
  simp
theorem sh_bits {T B : Int} (ok : OkSh T B) : (lowT T B).natAbs < 2 ^ 20 ∧ (lowB T B).natAbs < 2 ^ 20 ∧ (lowB T B - lowT T B).natAbs < 2 ^ 20 ∧ 0 < lowB T B := by
  have h := low_abs (a := T) ok.b0
  have hp := low_pos (a := T) ok.b0
  have h1 := ok.t0
  have h2 := ok.tb
  have h3 := ok.b1
  have hg := gcd_pos (a := T) ok.b0
  have ht : 0 ≤ lowT T B := Int.ediv_nonneg h1 (Int.le_of_lt hg)
  omega
theorem kk_tail : Keeps 9 cw_tail F_tail := by
  intro ds r h
  match ds, h with
  | [.int n, sh, .int l], h =>
    simp only [F_tail] at h
    split at h
    case isFalse => cases h
    rename_i hk
    obtain ⟨⟨b, T, B, rfl, ok⟩, n0, n1, l0, l1⟩ := hk
    cases h
    obtain ⟨n, rfl⟩ : ∃ k : Nat, n = k := ⟨n.toNat, by omega⟩
    obtain ⟨l, rfl⟩ : ∃ k : Nat, l = k := ⟨l.toNat, by omega⟩
    rw [toIs_iseq, Int.toNat_natCast, Int.toNat_natCast]
    show cw_tail ⟨_, fun d => d = .tup [.int (lowT (tailS (lowT T B) (lowB T B - lowT T B) n l) (lowB T B ^ n)), .int (lowB (tailS (lowT T B) (lowB T B - lowT T B) n l) (lowB T B ^ n))], _, _, _⟩ [.val (.int n), .val (iseq b [T, B]), .val (.int l), .non, .non, .non, .non, .non, .non]
    have i0 : pIx (iseq b [T, B]) (.int 0) = some (.vis (.int T)) := pIx_iseq (by decide) rfl
    have i1 : pIx (iseq b [T, B]) (.int 1) = some (.vis (.int B)) := pIx_iseq (by decide) rfl
    have hlow : F_lowest [.int T, .int B] = some (.tup [.int (lowT T B), .int (lowB T B)]) := low_at ok.b0 (Nat.lt_of_lt_of_le (show B.natAbs < 2 ^ 20 by have := ok.b1; have := ok.b0; omega) (Nat.pow_le_pow_right (by decide) (by decide)))
    obtain ⟨z1, z2, z3, z4⟩ := sh_bits ok
    generalize lowT T B = t at *
    generalize lowB T B = c at *
    have hcn : 0 < c ^ n := Int.pow_pos z4
    have hcb : (c ^ n).natAbs < 2 ^ 8000 := lt_bits (pow_bits (Nat.le_of_lt z2) n) (by omega)
    refine q_unp (d := .tup [.int t, .int c]) (by walk_at "pe"; rw [i0, i1]; walk_at "pe"; rw [hlow]; walk_at "pe") rfl ?_
    refine q_asg (r := .vis (ilst (powsM t n))) (by walk_at "pe"; rw [pows_at (by omega) z1]; walk_at "pe") rfl rfl ?_
    refine q_asg (r := .vis (ilst (powsM (c - t) n))) (by walk_at "pe"; rw [pows_at (by omega) z3]; walk_at "pe") rfl rfl ?_
    refine q_asg (r := .vis (.int 0)) (by walk_at "pe") rfl rfl ?_
    generalize hts : ((List.range (n + 1)).drop l).map (termM t (c - t) n) = ts
    have htl : ts.length = n + 1 - l := by rw [← hts, List.length_map, List.length_drop, List.length_range]
    refine q_forRng (lo := (l : Int)) (n := n + 1 - l) (fun i e => ∃ z, e = [.val (.int n), .val (iseq b [T, B]), .val (.int l), .val (ilst (powsM t n)), .val (ilst (powsM (c - t) n)), .val (.int ((ts.take i).sum)), z, .val (.int t), .val (.int c)])
      (by rw [rng2 (lo := (l : Int)) (hi := (n : Int) + 1) rfl (by walk_at "pe"), show ((n : Int) + 1 - (l : Int)).toNat = n + 1 - l by omega]) ⟨_, rfl⟩ ?_ ?_
    · rintro i env hi ⟨z, rfl⟩
      refine ⟨_, by walk_at "pe"; rfl, ?_⟩
      have hg : ts[i]? = some (termM t (c - t) n (l + i)) := by
        rw [← hts, List.getElem?_map, List.getElem?_drop, List.getElem?_range (by omega)]
        rfl
      refine s_asg (r := .vis (.int ((ts.take (i + 1)).sum))) ?_ rfl rfl ⟨_, rfl⟩
      walk_at "pe"
      rw [show ((l : Int) + (i : Int)) = ((l + i : Nat) : Int) by omega, ways_at (by omega) (by omega) z1 z3]
      walk_at "pe"
      rw [sum_take_succ hg]
    · rintro env ⟨z, rfl⟩
      rw [← htl, List.take_length]
      refine s_ret (r := .vis _) ?_ rfl rfl rfl
      walk_at "pe"
      rw [pows_at (by omega) z2]
      walk_at "pe"
      rw [show pIx (ilst (powsM c n)) (.int (n : Int)) = _ from pIx_iseq (b := false) (Int.natCast_nonneg n) (by rw [Int.toNat_natCast]; exact pows_get (Nat.le_refl n))]
      walk_at "pe"
      rw [low_at hcn hcb]
      walk_at "pe"
      rw [← hts]
      rfl
theorem tail_at {b : Bool} {T B : Int} {n l : Nat} (ok : OkSh T B) (hn : n ≤ 200) (hl : l ≤ n + 1) :
    F_tail [.int (n : Int), iseq b [T, B], .int (l : Int)] = some (.tup [.int (lowT (tailS (lowT T B) (lowB T B - lowT T B) n l) (lowB T B ^ n)), .int (lowB (tailS (lowT T B) (lowB T B - lowT T B) n l) (lowB T B ^ n))]) := by
  simp only [F_tail]
  rw [toIs_iseq, if_pos ⟨⟨b, T, B, rfl, ok⟩, by omega, by omega, by omega, by omega⟩, Int.toNat_natCast, Int.toNat_natCast]
  rfl
def rowW (t m : Int) (n : Nat) : List Int := (List.range (n + 1)).map (termM t m n)
theorem rowW_len (t m : Int) (n : Nat) : (rowW t m n).length = n + 1 := by
  unfold rowW
  rw [List.length_map, List.length_range]
theorem rowW_get {t m : Int} {n j : Nat} (h : j ≤ n) : (rowW t m n)[j]? = some (termM t m n j) := by
  unfold rowW
  rw [List.getElem?_map, List.getElem?_range (by omega)]
  rfl
theorem term_above {t m : Int} {n j : Nat} (h : n < j) : termM t m n j = 0 := by
  unfold termM
  rw [ch_above h, Int.natCast_zero, Int.zero_mul, Int.zero_mul]
theorem term_zero {t m : Int} {n : Nat} : termM t m (n + 1) 0 = m * termM t m n 0 := by
  unfold termM
  rw [ch_zero, ch_zero, Nat.sub_zero, Nat.sub_zero, Int.pow_succ, Int.pow_zero]
  simp only [Int.natCast_one, Int.one_mul, Int.mul_one]
  exact Int.mul_comm _ _
theorem term_succ {t m : Int} {n j : Nat} (h : j ≤ n) : termM t m (n + 1) (j + 1) = m * termM t m n (j + 1) + t * termM t m n j := by
  unfold termM
  show ((chooseN n j + chooseN n (j + 1) : Nat) : Int) * t ^ (j + 1) * m ^ (n + 1 - (j + 1)) = _
  rw [Nat.add_sub_add_right, Int.natCast_add, Int.add_mul, Int.add_mul]
  rcases Nat.lt_or_ge j n with h2 | h2
  · have e : n - j = (n - (j + 1)) + 1 := by omega
    rw [e, Int.pow_succ m, Int.pow_succ t]
    rw [Int.add_comm]
    congr 1 <;> ac_rfl
  · have e : j = n := by omega
    subst e
    rw [ch_above (Nat.lt_succ_self j), Int.natCast_zero, Int.zero_mul, Int.zero_mul, Int.zero_mul, Int.mul_zero, Int.add_zero, Int.zero_add, Int.pow_succ]
    ac_rfl
theorem rowW_drop (t m : Int) (n l : Nat) : ((rowW t m n).drop l).sum = tailS t m n l := by
  unfold rowW tailS
  rw [List.map_drop]
end Pyl
end
section
set_option Elab.async false
set_option linter.all false
set_option maxHeartbeats 1000000
namespace Pyl
open PySem
/-! shares: plus, times, sum_of, compare; the law's own gcd; digits of great sizes -/
local macro_rules | `(tactic| walk_at "pe") => `(tactic| simp (config := { implicitDefEqProofs := false }) only [eVar_at, eC_at, e1_at, e2_at, aNil_at, aCons_at, eTup_at, eLst_at, plain_nil, plain_cons, eCall_at, eIf_at, eAnd_at, eOr_at, eNot_at, tVal_at, tAnd_at, tOr_at, tNot_at, tYes_at,
  pAdd_int, pSub_int, pNeg_int, pLt_int, pLe_int, pGt_int, pGe_int, pEq_int, pNe_int, pIsN_at, pNotN_at, pIx_lst, pIx_tup, pGcd_int, atL0, atL1, atL2, atL3, atL4, atL5, atL6, atL7, atL8, oNone_at, oSome_at, eSlice_at, pLen_lst, pLen_tup, pInt_int, pInt_bl, pAbs_int, pSum_ints, pMax2_int, pMin2_int, pList_lst, pList_tup, pTuple_lst, pTuple_tup, iSeq_at, gN_at, gT_at, gsN_cons, gsN_nil, wipeS_cons, wipeS_nil,
  dt_vis, dt_bor, dt_fre, sh_vis, sh_bor, sh_fre, slot_vis, slot_fre, od_dt, isNon_non, isNon_int, isNon_lst, isNon_tup, scalar_int, scalar_bl, scalar_non, Option.bind_some, Option.bind_none, Option.map_some, Option.map_none, List.getElem?_cons_zero, List.getElem?_cons_succ, List.set_cons_zero, List.set_cons_succ, List.map_cons, List.map_nil, List.any_cons, List.any_nil, Bool.or_false, Bool.false_or, Bool.false_and, Bool.and_true, Bool.true_and, Bool.not_true, Bool.not_false,
  Option.some.injEq, exists_eq_left', exists_eq_left, true_and, and_true, if_true, if_false, Bool.false_eq_true, ite_true, ite_false, reduceIte, decide_eq_true_eq, decide_eq_false_iff_not, R.vis.injEq, R.fre.injEq, Dt.lst.injEq, Dt.tup.injEq, Dt.int.injEq, Slot.own.injEq, OD.lst.injEq, reduceCtorEq, false_and, exists_false, exists_const, Bool.true_eq_false, false_implies, true_implies, implies_true, forall_const])

@[irreducible] def BIGS : Nat := 2 ^ 8000
theorem BIGS_eq : BIGS = 2 ^ 8000 := by unfold BIGS; rfl
theorem divW {x : Int} (h0 : 0 < x) (h : x.natAbs < BIGS) : x.natAbs < DIVB := by
  rw [DIVB_eq]
  rw [BIGS_eq] at h
  exact Nat.lt_of_lt_of_le h (Nat.pow_le_pow_right (by decide) (by decide))
theorem bigs_of {x : Int} {n : Nat} (h : x.natAbs < 2 ^ n) (hn : n ≤ 8000) : x.natAbs < BIGS := by
  rw [BIGS_eq]
  exact Nat.lt_of_lt_of_le h (Nat.pow_le_pow_right (by decide) hn)
theorem bigs64 {x : Int} (h0 : 0 < x) (h2 : x < 18446744073709551616) : x.natAbs < BIGS := bigs_of (n := 64) (by omega) (by decide)
def sizeOkW (sizes : List Int) : Prop := (∀ s ∈ sizes, 0 < s ∧ s.natAbs < BIGS) ∧ sizes.length ≤ 100000
open Classical in
noncomputable def F_digitsW : FN := fun ds => match ds with
  | [.int c, .lst xs] => (intsOf xs).bind fun ns => if sizeOkW ns then some (.lst ((digitsM c ns).map .int)) else none
  | _ => none
theorem F_digitsW_at {c : Int} {ns : List Int} (h : sizeOkW ns) : F_digitsW [.int c, ilst ns] = some (ilst (digitsM c ns)) := by
  show (intsOf (ns.map .int)).bind _ = _
  rw [intsOf_ints]
  exact if_pos h
theorem len_digitsW : ∀ (ds : List Dt) (r : Dt), F_digitsW ds = some r → ds.length = 2 := by
  intro ds r h
  match ds, h with
  | [.int _, .lst _], _ => rfl
theorem k_digitsW : Keeps 8 cw_digits F_digitsW := by
  intro ds r h
  match ds, h with
  | [.int c, .lst xs], h =>
    obtain ⟨ns, h1, h⟩ := Option.bind_eq_some_iff.mp h
    split at h
    case isFalse => cases h
    rename_i hk
    cases h
    rw [intsOf_some h1]
    obtain ⟨hp, hlen⟩ := hk
    have hsz : (List.map Dt.int ns).length = ns.length := List.length_map _
    show cw_digits _ [.val (.int c), .val (.lst (ns.map .int)), .non, .non, .non, .non, .non, .non]
    refine q_asg (r := .fre (.lst [])) (by walk_at "pe") rfl rfl ?_
    refine q_asg (r := .vis (.int c)) (by walk_at "pe") rfl rfl ?_
    refine q_ifD (p := 1000000000000000000 ≤ c) (by walk_at "pe"; rw [pow18]; walk_at "pe") (fun hge => ?_) fun hlt => ?_
    · refine q_asg (r := .vis (.int (c - 1000000000000000000))) (by walk_at "pe"; rw [pow18]; walk_at "pe") rfl rfl ?_
      refine q_forMap (u := Dt.int) (xs := ns) (fun i e => ∃ z acc rest, e = [.val (.int c), .val (.lst (ns.map .int)), .own (.lst (acc.map .int)), .val (.int rest), .non, .non, z, .non] ∧ acc.length = i ∧ acc ++ digA rest (ns.drop i) = digitsM c ns) (by walk_at "pe") ⟨_, [], c - 1000000000000000000, rfl, rfl, ?_⟩ ?_ ?_
      · unfold digitsM
        rw [if_pos hge]
        rfl
      · rintro i env x hx ⟨z, acc, rest, rfl, hl, he⟩
        have hx2 := hp x (List.mem_of_getElem? hx)
        have hi := (List.getElem?_eq_some_iff.mp hx).1
        refine ⟨_, by walk_at "pe"; rfl, ?_⟩
        refine q_app (d := .int (rest % x)) rfl (r := .vis _) (by walk_at "pe"; rw [pMod_int hx2.1]) rfl (by rw [List.length_map]; exact lim_lt (by omega)) rfl rfl ?_
        refine s_asg (r := .vis (.int (rest / x))) (by walk_at "pe"; rw [pDiv_int hx2.1 (divW hx2.1 hx2.2)]) rfl rfl ⟨.val (.int x), acc ++ [rest % x], rest / x, ?_, ?_, ?_⟩
        · rw [List.map_append]
          rfl
        · rw [List.length_append, hl]
          rfl
        · rw [List.append_assoc, ← he, drop_cons_get hx]
          rfl
      · rintro env ⟨z, acc, rest, rfl, hl, he⟩
        rw [List.drop_length] at he
        have he : acc = digitsM c ns := by rw [← he]; exact (List.append_nil _).symm
        subst he
        exact q_frz rfl rfl (s_ret (r := .vis _) (by walk_at "pe") rfl rfl rfl)
    · refine s_nil ?_
      refine q_asg (r := .vis (.int (c % 2147483629))) (by walk_at "pe"; rw [pMod_int (by decide)]) rfl rfl ?_
      refine q_forRng (lo := 0) (n := ns.length) (fun i e => ∃ z z7 acc seed, e = [.val (.int c), .val (.lst (ns.map .int)), .own (.lst (acc.map .int)), .val (.int c), .val (.int seed), z, .non, z7] ∧ acc.length = i ∧ 0 ≤ seed ∧ seed < 2147483647 ∧ acc ++ digB seed i (ns.drop i) = digitsM c ns)
        (by rw [rng1 (n := (ns.length : Int)) (by walk_at "pe"; rw [hsz]) (by omega)]; rw [Int.toNat_natCast]) ⟨_, _, [], c % 2147483629, rfl, rfl, Int.emod_nonneg _ (by decide), ?_, ?_⟩ ?_ ?_
      · have := Int.emod_lt_of_pos c (show (0 : Int) < 2147483629 by decide)
        omega
      · unfold digitsM
        rw [if_neg hlt]
        rfl
      · rintro i env hi ⟨z, z7, acc, seed, rfl, hl, hs0, hs1, he⟩
        have hg : ns[i]? = some ns[i] := List.getElem?_eq_getElem hi
        have hx2 := hp ns[i] (List.mem_of_getElem? hg)
        have hb0 : 0 ≤ stepB seed i := Int.emod_nonneg _ (by decide)
        have hb1 : stepB seed i < 2147483647 := Int.emod_lt_of_pos _ (by decide)
        refine ⟨_, by walk_at "pe"; rfl, ?_⟩
        refine q_asg (r := .vis (.int (stepB seed i))) ?_ rfl rfl ?_
        · walk_at "pe"
          rw [pMul_int (big64 (by omega) (by omega)) (big64 (by decide) (by decide)), pMul_int (big64 (by decide) (by decide)) (big64 (by omega) (by omega))]
          walk_at "pe"
          rw [pMod_int (by decide)]
          unfold stepB
          rw [Int.zero_add]
        have hq0 : 0 ≤ stepB seed i / 65537 := Int.ediv_nonneg hb0 (by decide)
        have hq1 : stepB seed i / 65537 < 40000 := by omega
        refine q_asg (r := .vis (.int (takeB (stepB seed i)))) ?_ rfl rfl ?_
        · walk_at "pe"
          rw [pDiv_int (by decide) (div64 (by decide) (by decide))]
          walk_at "pe"
          rw [pMul_int (big64 (by omega) (by omega)) (big64 (by omega) (by omega))]
          walk_at "pe"
          rw [pMod_int (by decide)]
          rfl
        refine s_app (d := .int (takeB (stepB seed i) / 19 % ns[i])) rfl (r := .vis _) ?_ rfl (by rw [List.length_map]; exact lim_lt (by omega)) rfl rfl ⟨.val (.int (0 + (i : Int))), .val (.int (takeB (stepB seed i))), acc ++ [takeB (stepB seed i) / 19 % ns[i]], stepB seed i, ?_, ?_, hb0, hb1, ?_⟩
        · walk_at "pe"
          rw [pDiv_int (by decide) (div64 (by decide) (by decide)), Int.zero_add, atL_nat, List.getElem?_map, hg]
          walk_at "pe"
          rw [pMod_int hx2.1]
        · rw [List.map_append]
          rfl
        · rw [List.length_append, hl]
          rfl
        · rw [List.append_assoc, ← he, drop_cons_get hg]
          rfl
      · rintro env ⟨z, z7, acc, seed, rfl, hl, hs0, hs1, he⟩
        rw [List.drop_length] at he
        have he : acc = digitsM c ns := by rw [← he]; exact (List.append_nil _).symm
        subst he
        exact q_frz rfl rfl (s_ret (r := .vis _) (by walk_at "pe") rfl rfl rfl)
theorem half_step {l r : Nat} (h : r ≤ l) (hr : 0 < r) : 2 * (r * (l % r)) ≤ l * r := by
  have h1 := Nat.mod_lt l hr
  have h2 : l % r + r ≤ l := by
    have := Nat.div_add_mod l r
    have h3 : 1 ≤ l / r := Nat.div_pos h hr
    have h4 : r * 1 ≤ r * (l / r) := Nat.mul_le_mul_left r h3
    omega
  have h3 : 2 * (l % r) ≤ l := by omega
  calc 2 * (r * (l % r)) = r * (2 * (l % r)) := by ac_rfl
    _ ≤ r * l := Nat.mul_le_mul_left r h3
    _ = l * r := Nat.mul_comm r l

/-! the law's own gcd: N turns at most -/
def cw_gcdN (N : Nat) : WS := (wSeq (wAsg 2 (e1 pAbs (eVar 0)))
  (wSeq (wAsg 3 (e1 pAbs (eVar 1)))
  (wSeq (wFor (iRange1 (eC (.int N))) (gN 4)
  (wSeq (wIf (tVal (e2 pEq (eVar 3) (eC (.int 0))))
  wBrk
  wNil)
  (wSeq (wAsg 5 (e2 pMod (e1 pInt (eVar 2)) (eVar 3)))
  (wSeq (wAsg 2 (eVar 3))
  (wAsg 3 (eVar 5))))))
  (wRet (eVar 2)))))
def F_gcdN (N : Nat) : FN := fun ds => match ds with
  | [.int a, .int b] => if a.natAbs * b.natAbs < 2 ^ (N - 2) ∧ 2 ≤ N ∧ N < 1000000 then some (.int (gcdI a b)) else none
  | _ => none
theorem gcdN_shape {N : Nat} {ds : List Dt} {r : Dt} (h : F_gcdN N ds = some r) : ∃ a b, ds = [.int a, .int b] ∧ (a.natAbs * b.natAbs < 2 ^ (N - 2) ∧ 2 ≤ N ∧ N < 1000000) ∧ r = .int (gcdI a b) := by
  unfold F_gcdN at h
  split at h
  · split at h
    · rename_i hk
      exact ⟨_, _, rfl, hk, (Option.some.inj h).symm⟩
    · cases h
  · cases h
theorem len_gcdN {N : Nat} : ∀ (ds : List Dt) (r : Dt), F_gcdN N ds = some r → ds.length = 2 := by
  intro ds r h
  obtain ⟨a, b, rfl, _⟩ := gcdN_shape h
  rfl
theorem kk_gcdN (N : Nat) : Keeps 6 (cw_gcdN N) (F_gcdN N) := by
  intro ds r h
  obtain ⟨a, b, rfl, ⟨hk, hN2, hN⟩, rfl⟩ := gcdN_shape h
  have habs : ∀ x : Int, (if x < 0 then -x else x) = (x.natAbs : Int) := fun x => by split <;> omega
  show cw_gcdN N _ [.val (.int a), .val (.int b), .non, .non, .non, .non]
  refine q_asg (r := .vis (.int (a.natAbs : Int))) (by walk_at "pe"; rw [habs]) rfl rfl ?_
  refine q_asg (r := .vis (.int (b.natAbs : Int))) (by walk_at "pe"; rw [habs]) rfl rfl ?_
  have hgcd : gcdI a b = (Nat.gcd a.natAbs b.natAbs : Nat) := rfl
  rw [hgcd]
  have hP : a.natAbs * b.natAbs < 2 ^ (N - 2) := hk
  generalize hE : N - 2 = E at hP
  generalize a.natAbs = x at *
  generalize b.natAbs = y at *
  generalize hg : Nat.gcd x y = g
  refine q_forRng (lo := 0) (n := N) (fun i e => ∃ (l r : Nat) (z1 z2 : Slot), e = [.val (.int a), .val (.int b), .val (.int (l : Int)), .val (.int (r : Int)), z1, z2] ∧ Nat.gcd l r = g ∧ (i = 0 ∨ (r ≤ l ∧ l * r * 2 ^ (i - 1) < 2 ^ E)) ∧ (i = 0 → l * r < 2 ^ E)) (by rw [rng1 (n := (N : Int)) rfl (by omega)]; rfl) ⟨x, y, _, _, rfl, hg, Or.inl rfl, fun _ => hP⟩ ?_ ?_
  · rintro i env hi ⟨l, r, z1, z2, rfl, hgl, hor, hz⟩
    refine ⟨_, by walk_at "pe"; rfl, ?_⟩
    refine q_ifD (p := (r : Int) = 0) (by walk_at "pe") (fun e => ?_) fun hr => s_nil ?_
    · show wRet _ _ _
      have e2 : r = 0 := by omega
      subst e2
      rw [Nat.gcd_zero_right] at hgl
      subst hgl
      exact s_ret (r := .vis (.int (l : Int))) (by walk_at "pe") rfl rfl rfl
    · have hr0 : 0 < r := by omega
      refine q_asg (r := .vis (.int ((l % r : Nat) : Int))) (by walk_at "pe"; rw [pMod_int (by omega), Int.natCast_emod]) rfl rfl ?_
      refine q_asg (r := .vis (.int (r : Int))) (by walk_at "pe") rfl rfl ?_
      refine s_asg (r := .vis (.int ((l % r : Nat) : Int))) (by walk_at "pe") rfl rfl ⟨r, l % r, _, _, rfl, ?_, Or.inr ⟨Nat.le_of_lt (Nat.mod_lt l hr0), ?_⟩, fun e => absurd e (by omega)⟩
      · rw [Nat.gcd_comm l r, Nat.gcd_rec r l, Nat.gcd_comm] at hgl
        exact hgl
      · rw [Nat.add_sub_cancel]
        rcases hor with e | ⟨hle, hlt⟩
        · subst e
          rw [Nat.pow_zero, Nat.mul_one]
          rcases Nat.lt_or_ge l r with h | h
          · rw [Nat.mod_eq_of_lt h, Nat.mul_comm]
            exact hz rfl
          · have := half_step h hr0
            have := hz rfl
            omega
        · by_cases e : i = 0
          · subst e
            have := half_step hle hr0
            rw [Nat.pow_zero, Nat.mul_one]
            have := hz rfl
            omega
          · obtain ⟨j, rfl⟩ : ∃ j, i = j + 1 := ⟨i - 1, by omega⟩
            rw [Nat.add_sub_cancel] at hlt
            refine Nat.lt_of_le_of_lt ?_ hlt
            rw [Nat.pow_succ, ← Nat.mul_assoc, Nat.mul_right_comm, Nat.mul_comm _ 2]
            exact Nat.mul_le_mul_right _ (half_step hle hr0)
  · rintro env ⟨l, r, z1, z2, rfl, hgl, hor, hz⟩
    have hr : r = 0 := by
      rcases hor with e | ⟨hle, hlt⟩
      · exact absurd e (by omega)
      · rcases Nat.eq_zero_or_pos r with h | h
        · exact h
        · have hl : 0 < l * r := Nat.mul_pos (by omega) h
          have h3 : 1 * 2 ^ (N - 1) ≤ l * r * 2 ^ (N - 1) := Nat.mul_le_mul_right _ hl
          have h4 : 2 ^ E ≤ 2 ^ (N - 1) := Nat.pow_le_pow_right (by decide) (by omega)
          rw [Nat.one_mul] at h3
          exact absurd (Nat.lt_of_lt_of_le hlt (Nat.le_trans h4 h3)) (Nat.lt_irrefl _)
    subst hr
    rw [Nat.gcd_zero_right] at hgl
    subst hgl
    exact s_ret (r := .vis (.int (l : Int))) (by walk_at "pe") rfl rfl rfl

theorem gcdN_at {N : Nat} {a b : Int} (h : a.natAbs * b.natAbs < 2 ^ (N - 2)) (h2 : 2 ≤ N := by decide) (h3 : N < 1000000 := by decide) : F_gcdN N [.int a, .int b] = some (.int (gcdI a b)) := if_pos ⟨h, h2, h3⟩
def cw_is_share (N : Nat) : WS := (wSeq (wIf (tOr (tNot (tVal (e1 (pIsi "tuple") (eVar 0)))) (tVal (e2 pNe (e1 pLen (eVar 0)) (eC (.int 2)))))
  (wRet (eC (.bl false)))
  wNil)
  (wSeq (wIf (tOr (tNot (tVal (eCall F_whole (aCons (e2 pIx (eVar 0) (eC (.int 0))) aNil)))) (tOr (tNot (tVal (eCall F_whole (aCons (e2 pIx (eVar 0) (eC (.int 1))) aNil)))) (tVal (e2 pLt (e2 pIx (eVar 0) (eC (.int 1))) (eC (.int 1))))))
  (wRet (eC (.bl false)))
  wNil)
  (wRet (e2 pEq (eCall (F_gcdN N) (aCons (e2 pIx (eVar 0) (eC (.int 0))) (aCons (e2 pIx (eVar 0) (eC (.int 1))) aNil))) (eC (.int 1))))))
def shT (a b : Int) : Dt := .tup [.int a, .int b]
def F_is_shareN (N : Nat) : FN := fun ds => match ds with
  | [.tup [.int a, .int b]] => if 0 < b ∧ a.natAbs * b.natAbs < 2 ^ (N - 2) ∧ 2 ≤ N ∧ N < 1000000 then some (.bl (decide (gcdI a b = 1))) else none
  | _ => none
theorem shareN_shape {N : Nat} {ds : List Dt} {r : Dt} (h : F_is_shareN N ds = some r) : ∃ a b, ds = [.tup [.int a, .int b]] ∧ (0 < b ∧ a.natAbs * b.natAbs < 2 ^ (N - 2) ∧ 2 ≤ N ∧ N < 1000000) ∧ r = .bl (decide (gcdI a b = 1)) := by
  unfold F_is_shareN at h
  split at h
  · split at h
    · rename_i hk
      exact ⟨_, _, rfl, hk, (Option.some.inj h).symm⟩
    · cases h
  · cases h
theorem len_is_shareN {N : Nat} : ∀ (ds : List Dt) (r : Dt), F_is_shareN N ds = some r → ds.length = 1 := by
  intro ds r h
  obtain ⟨a, b, rfl, _⟩ := shareN_shape h
  rfl
theorem pIsi_tup (ds : List Dt) : pIsi "tuple" (.tup ds) = some (.vis (.bl true)) := rfl
theorem whole_int (i : Int) : F_whole [.int i] = some (.bl true) := rfl
theorem kk_is_shareN (N : Nat) : Keeps 1 (cw_is_share N) (F_is_shareN N) := by
  intro ds r h
  obtain ⟨a, b, rfl, ⟨h1, h2, h3, h4⟩, rfl⟩ := shareN_shape h
  show cw_is_share N _ [.val (.tup [.int a, .int b])]
  refine q_if (c := false) (by walk_at "pe"; rw [pIsi_tup]; walk_at "pe"; rfl) (fun e => by cases e) fun _ => s_nil ?_
  refine q_if (c := false) (by walk_at "pe"; rw [whole_int, whole_int]; walk_at "pe"; simp; omega) (fun e => by cases e) fun _ => s_nil ?_
  exact s_ret (r := .vis (.bl (decide (gcdI a b = 1)))) (by walk_at "pe"; rw [gcdN_at h2 h3 h4]; walk_at "pe") rfl rfl rfl
def cw_exactly (N : Nat) : WS := (wRet (eAnd (eCall (F_is_shareN N) (aCons (eVar 0) aNil)) (e2 pEq (e2 pMul (e2 pIx (eVar 0) (eC (.int 0))) (eVar 2)) (e2 pMul (eVar 1) (e2 pIx (eVar 0) (eC (.int 1)))))))
/-- told exactly: the answer is yes -/
structure Exact (N : Nat) (a b t w : Int) : Prop where
  b0 : 0 < b
  sz : a.natAbs * b.natAbs < 2 ^ (N - 2)
  n2 : 2 ≤ N
  n3 : N < 1000000
  ba : a.natAbs < BIG
  bb : b.natAbs < BIG
  bt : t.natAbs < BIG
  bw : w.natAbs < BIG
  eq : a * w = t * b
  g1 : gcdI a b = 1
open Classical in
noncomputable def F_exactlyN (N : Nat) : FN := fun ds => match ds with
  | [.tup [.int a, .int b], .int t, .int w] => if Exact N a b t w then some (.bl true) else none
  | _ => none
theorem exactN_shape {N : Nat} {ds : List Dt} {r : Dt} (h : F_exactlyN N ds = some r) : ∃ a b t w, ds = [.tup [.int a, .int b], .int t, .int w] ∧ Exact N a b t w ∧ r = .bl true := by
  unfold F_exactlyN at h
  split at h
  · split at h
    · rename_i hk
      exact ⟨_, _, _, _, rfl, hk, (Option.some.inj h).symm⟩
    · cases h
  · cases h
theorem len_exactlyN {N : Nat} : ∀ (ds : List Dt) (r : Dt), F_exactlyN N ds = some r → ds.length = 3 := by
  intro ds r h
  obtain ⟨a, b, t, w, rfl, _⟩ := exactN_shape h
  rfl
theorem kk_exactlyN (N : Nat) : Keeps 3 (cw_exactly N) (F_exactlyN N) := by
  intro ds r h
  obtain ⟨a, b, t, w, rfl, ok, rfl⟩ := exactN_shape h
  show cw_exactly N _ [.val (.tup [.int a, .int b]), .val (.int t), .val (.int w)]
  have h1 : F_is_shareN N [.tup [.int a, .int b]] = some (.bl true) := by
    show (if _ then _ else _) = _
    rw [if_pos ⟨ok.b0, ok.sz, ok.n2, ok.n3⟩, decide_eq_true ok.g1]
  refine s_ret (r := .vis (.bl true)) ?_ rfl rfl rfl
  walk_at "pe"
  rw [h1]
  walk_at "pe"
  rw [pMul_int ok.ba ok.bw, pMul_int ok.bt ok.bb]
  walk_at "pe"
  rw [decide_eq_true ok.eq]
/-! shares in lowest terms -/
def lowD (t b : Int) : Dt := .tup [.int (lowT t b), .int (lowB t b)]
theorem low_cross {a b : Int} (hb : 0 < b) : lowT a b * b = a * lowB a b := by
  have h1 := gcd_top a b
  have h2 := gcd_bot a b
  have hg := gcd_pos (a := a) hb
  refine Int.eq_of_mul_eq_mul_left (Int.ne_of_gt hg) ?_
  calc gcdI a b * (lowT a b * b) = (gcdI a b * lowT a b) * b := by ac_rfl
    _ = a * b := by rw [h1]
    _ = a * (gcdI a b * lowB a b) := by rw [h2]
    _ = gcdI a b * (a * lowB a b) := by ac_rfl
theorem low1 {a b : Int} (hb : 0 < b) : gcdI (lowT a b) (lowB a b) = 1 := by
  have hg := gcd_pos (a := a) hb
  have h1 := congrArg Int.natAbs (gcd_top a b)
  have h2 := congrArg Int.natAbs (gcd_bot a b)
  rw [Int.natAbs_mul] at h1 h2
  have e : (gcdI a b).natAbs = Nat.gcd a.natAbs b.natAbs := Int.natAbs_natCast _
  rw [e] at h1 h2
  have hp : 0 < Nat.gcd a.natAbs b.natAbs := Nat.gcd_pos_of_pos_right _ (by omega)
  have h : Nat.gcd a.natAbs b.natAbs * Nat.gcd (lowT a b).natAbs (lowB a b).natAbs = Nat.gcd a.natAbs b.natAbs * 1 := by
    rw [← Nat.gcd_mul_left, h1, h2, Nat.mul_one]
  unfold gcdI
  rw [Nat.eq_of_mul_eq_mul_left hp h]
  rfl
/-- the lowest terms are one -/
theorem low_uniq {a b c d : Int} (hb : 0 < b) (hd : 0 < d) (g1 : gcdI a b = 1) (g2 : gcdI c d = 1) (h : a * d = c * b) : a = c ∧ b = d := by
  have n1 : Nat.gcd a.natAbs b.natAbs = 1 := by unfold gcdI at g1; omega
  have n2 : Nat.gcd c.natAbs d.natAbs = 1 := by unfold gcdI at g2; omega
  have hn := congrArg Int.natAbs h
  rw [Int.natAbs_mul, Int.natAbs_mul] at hn
  have d1 : b.natAbs ∣ d.natAbs := by
    have : b.natAbs ∣ a.natAbs * d.natAbs := by rw [hn]; exact Nat.dvd_mul_left _ _
    exact Nat.Coprime.dvd_of_dvd_mul_left (Nat.Coprime.symm n1) this
  have d2 : d.natAbs ∣ b.natAbs := by
    have : d.natAbs ∣ c.natAbs * b.natAbs := by rw [← hn]; exact Nat.dvd_mul_left _ _
    exact Nat.Coprime.dvd_of_dvd_mul_left (Nat.Coprime.symm n2) this
  have e : b.natAbs = d.natAbs := Nat.dvd_antisymm d1 d2
  have e2 : b = d := by omega
  subst e2
  exact ⟨Int.eq_of_mul_eq_mul_right (by omega) h, rfl⟩
theorem low_same {a b c d : Int} (hb : 0 < b) (hd : 0 < d) (h : a * d = c * b) : lowT a b = lowT c d ∧ lowB a b = lowB c d := by
  refine low_uniq (low_pos hb) (low_pos hd) (low1 hb) (low1 hd) ?_
  have h1 := low_cross (a := a) hb
  have h2 := low_cross (a := c) hd
  have p1 := low_pos (a := a) hb
  have hbd : b * d ≠ 0 := Int.ne_of_gt (Int.mul_pos hb hd)
  refine Int.eq_of_mul_eq_mul_left hbd ?_
  calc b * d * (lowT a b * lowB c d) = (lowT a b * b) * (lowB c d * d) := by ac_rfl
    _ = (a * lowB a b) * (lowB c d * d) := by rw [h1]
    _ = (a * d) * (lowB a b * lowB c d) := by ac_rfl
    _ = (c * b) * (lowB a b * lowB c d) := by rw [h]
    _ = (c * lowB c d) * (lowB a b * b) := by ac_rfl
    _ = (lowT c d * d) * (lowB a b * b) := by rw [h2]
    _ = b * d * (lowT c d * lowB a b) := by ac_rfl
theorem lowD_same {a b c d : Int} (hb : 0 < b) (hd : 0 < d) (h : a * d = c * b) : lowD a b = lowD c d := by
  obtain ⟨h1, h2⟩ := low_same hb hd h
  unfold lowD
  rw [h1, h2]
/-- a list or tuple of top and bottom, not too great -/
structure ShOk (k : Nat) (a b : Int) : Prop where
  b0 : 0 < b
  sb : b.natAbs < 2 ^ k
  sa : a.natAbs < 2 ^ k
theorem ShOk.mono {k m : Nat} {a b : Int} (h : ShOk k a b) (hm : k ≤ m) : ShOk m a b := ⟨h.b0, Nat.lt_of_lt_of_le h.sb (Nat.pow_le_pow_right (by decide) hm), Nat.lt_of_lt_of_le h.sa (Nat.pow_le_pow_right (by decide) hm)⟩
theorem ShOk.low {k : Nat} {a b : Int} (h : ShOk k a b) : ShOk k (lowT a b) (lowB a b) := by
  obtain ⟨h1, h2⟩ := low_abs (a := a) h.b0
  exact ⟨low_pos h.b0, Nat.lt_of_le_of_lt h2 h.sb, Nat.lt_of_le_of_lt h1 h.sa⟩
theorem ShOk.mul {k m : Nat} {a b c d : Int} (h : ShOk k a b) (h2 : ShOk m c d) : ShOk (k + m) (a * c) (b * d) := by
  refine ⟨Int.mul_pos h.b0 h2.b0, ?_, ?_⟩
  · rw [Int.natAbs_mul, Nat.pow_add]; exact Nat.mul_lt_mul'' h.sb h2.sb
  · rw [Int.natAbs_mul, Nat.pow_add]; exact Nat.mul_lt_mul'' h.sa h2.sa
def topD (d : Dt) : Int := d.toIs.getD 0 0
def botD (d : Dt) : Int := d.toIs.getD 1 0
theorem topD_iseq (s : Bool) (a b : Int) : topD (iseq s [a, b]) = a := by unfold topD; rw [toIs_iseq]; rfl
theorem botD_iseq (s : Bool) (a b : Int) : botD (iseq s [a, b]) = b := by unfold botD; rw [toIs_iseq]; rfl
def IsSh (d : Dt) : Prop := ∃ s a b, d = iseq s [a, b] ∧ ShOk 3900 a b
theorem isSh_low {a b : Int} (h : ShOk 3900 a b) : IsSh (lowD a b) := ⟨true, lowT a b, lowB a b, rfl, h.low⟩
open Classical in
noncomputable def F_plus : FN := fun ds => match ds with
  | [x, y] => if IsSh x ∧ IsSh y then some (lowD (topD x * botD y + topD y * botD x) (botD x * botD y)) else none
  | _ => none
open Classical in
noncomputable def F_times : FN := fun ds => match ds with
  | [x, y] => if IsSh x ∧ IsSh y then some (lowD (topD x * topD y) (botD x * botD y)) else none
  | _ => none
open Classical in
noncomputable def F_compare : FN := fun ds => match ds with
  | [x, y] => if IsSh x ∧ IsSh y then some (.int ((if topD y * botD x < topD x * botD y then 1 else 0) - (if topD x * botD y < topD y * botD x then 1 else 0))) else none
  | _ => none
def cw_plus : WS := (wRet (eCall F_lowest (aCons (e2 pAdd (e2 pMul (e2 pIx (eVar 0) (eC (.int 0))) (e2 pIx (eVar 1) (eC (.int 1)))) (e2 pMul (e2 pIx (eVar 1) (eC (.int 0))) (e2 pIx (eVar 0) (eC (.int 1))))) (aCons (e2 pMul (e2 pIx (eVar 0) (eC (.int 1))) (e2 pIx (eVar 1) (eC (.int 1)))) aNil))))
def cw_times : WS := (wRet (eCall F_lowest (aCons (e2 pMul (e2 pIx (eVar 0) (eC (.int 0))) (e2 pIx (eVar 1) (eC (.int 0)))) (aCons (e2 pMul (e2 pIx (eVar 0) (eC (.int 1))) (e2 pIx (eVar 1) (eC (.int 1)))) aNil))))
def cw_compare : WS := (wSeq (wAsg 2 (e2 pMul (e2 pIx (eVar 0) (eC (.int 0))) (e2 pIx (eVar 1) (eC (.int 1)))))
  (wSeq (wAsg 3 (e2 pMul (e2 pIx (eVar 1) (eC (.int 0))) (e2 pIx (eVar 0) (eC (.int 1)))))
  (wRet (e2 pSub (e1 pInt (e2 pGt (eVar 2) (eVar 3))) (e1 pInt (e2 pLt (eVar 2) (eVar 3)))))))
theorem len2_of {F : FN} (h : ∀ ds r, F ds = some r → ∃ x y, ds = [x, y]) : ∀ (ds : List Dt) (r : Dt), F ds = some r → ds.length = 2 := fun ds r e => by
  obtain ⟨x, y, rfl⟩ := h ds r e
  rfl
theorem lenk_plus : ∀ (ds : List Dt) (r : Dt), F_plus ds = some r → ds.length = 2 := by
  intro ds r h
  match ds, h with
  | [_, _], _ => rfl
theorem lenk_times : ∀ (ds : List Dt) (r : Dt), F_times ds = some r → ds.length = 2 := by
  intro ds r h
  match ds, h with
  | [_, _], _ => rfl
theorem lenk_compare : ∀ (ds : List Dt) (r : Dt), F_compare ds = some r → ds.length = 2 := by
  intro ds r h
  match ds, h with
  | [_, _], _ => rfl
theorem ix2_0 (s : Bool) (a b : Int) : pIx (iseq s [a, b]) (.int 0) = some (.vis (.int a)) := by cases s <;> rfl
theorem ix2_1 (s : Bool) (a b : Int) : pIx (iseq s [a, b]) (.int 1) = some (.vis (.int b)) := by cases s <;> rfl
theorem big39 {x : Int} (h : x.natAbs < 2 ^ 3900) : x.natAbs < BIG := big_of h (by decide)
theorem kk_plus : Keeps 2 cw_plus F_plus := by
  intro ds r h
  match ds, h with
  | [x, y], h =>
    simp only [F_plus] at h
    split at h
    case isFalse => cases h
    rename_i hk
    cases h
    obtain ⟨⟨s, a, b, rfl, h1⟩, s', c, d, rfl, h2⟩ := hk
    rw [topD_iseq, topD_iseq, botD_iseq, botD_iseq]
    show cw_plus _ [.val (iseq s [a, b]), .val (iseq s' [c, d])]
    refine s_ret (r := .vis (lowD (a * d + c * b) (b * d))) ?_ rfl rfl rfl
    walk_at "pe"
    rw [ix2_0, ix2_1, ix2_0, ix2_1]
    walk_at "pe"
    rw [pMul_int (big39 h1.sa) (big39 h2.sb), pMul_int (big39 h2.sa) (big39 h1.sb), pMul_int (big39 h1.sb) (big39 h2.sb)]
    walk_at "pe"
    have h3 := h1.mul h2
    rw [low_at h3.b0 (Nat.lt_of_lt_of_le h3.sb (Nat.pow_le_pow_right (by decide) (by decide)))]
    rfl
theorem kk_times : Keeps 2 cw_times F_times := by
  intro ds r h
  match ds, h with
  | [x, y], h =>
    simp only [F_times] at h
    split at h
    case isFalse => cases h
    rename_i hk
    cases h
    obtain ⟨⟨s, a, b, rfl, h1⟩, s', c, d, rfl, h2⟩ := hk
    rw [topD_iseq, topD_iseq, botD_iseq, botD_iseq]
    show cw_times _ [.val (iseq s [a, b]), .val (iseq s' [c, d])]
    refine s_ret (r := .vis (lowD (a * c) (b * d))) ?_ rfl rfl rfl
    walk_at "pe"
    rw [ix2_0, ix2_1, ix2_0, ix2_1]
    walk_at "pe"
    rw [pMul_int (big39 h1.sa) (big39 h2.sa), pMul_int (big39 h1.sb) (big39 h2.sb)]
    walk_at "pe"
    have h3 := h1.mul h2
    rw [low_at h3.b0 (Nat.lt_of_lt_of_le h3.sb (Nat.pow_le_pow_right (by decide) (by decide)))]
    rfl
theorem kk_compare : Keeps 4 cw_compare F_compare := by
  intro ds r h
  match ds, h with
  | [x, y], h =>
    simp only [F_compare] at h
    split at h
    case isFalse => cases h
    rename_i hk
    cases h
    obtain ⟨⟨s, a, b, rfl, h1⟩, s', c, d, rfl, h2⟩ := hk
    rw [topD_iseq, topD_iseq, botD_iseq, botD_iseq]
    show cw_compare _ [.val (iseq s [a, b]), .val (iseq s' [c, d]), .non, .non]
    refine q_asg (r := .vis (.int (a * d))) (by walk_at "pe"; rw [ix2_0, ix2_1]; walk_at "pe"; rw [pMul_int (big39 h1.sa) (big39 h2.sb)]) rfl rfl ?_
    refine q_asg (r := .vis (.int (c * b))) (by walk_at "pe"; rw [ix2_0, ix2_1]; walk_at "pe"; rw [pMul_int (big39 h2.sa) (big39 h1.sb)]) rfl rfl ?_
    generalize a * d = u
    generalize c * b = v
    refine s_ret (r := .vis (.int ((if v < u then 1 else 0) - (if u < v then 1 else 0)))) ?_ rfl rfl rfl
    walk_at "pe"
theorem plus_at {s s' : Bool} {a b c d : Int} (h1 : ShOk 3900 a b) (h2 : ShOk 3900 c d) : F_plus [iseq s [a, b], iseq s' [c, d]] = some (lowD (a * d + c * b) (b * d)) := by
  simp only [F_plus]
  rw [if_pos ⟨⟨s, a, b, rfl, h1⟩, s', c, d, rfl, h2⟩, topD_iseq, topD_iseq, botD_iseq, botD_iseq]
theorem times_at {s s' : Bool} {a b c d : Int} (h1 : ShOk 3900 a b) (h2 : ShOk 3900 c d) : F_times [iseq s [a, b], iseq s' [c, d]] = some (lowD (a * c) (b * d)) := by
  simp only [F_times]
  rw [if_pos ⟨⟨s, a, b, rfl, h1⟩, s', c, d, rfl, h2⟩, topD_iseq, topD_iseq, botD_iseq, botD_iseq]
theorem compare_at {s s' : Bool} {a b c d : Int} (h1 : ShOk 3900 a b) (h2 : ShOk 3900 c d) : F_compare [iseq s [a, b], iseq s' [c, d]] = some (.int ((if c * b < a * d then 1 else 0) - (if a * d < c * b then 1 else 0))) := by
  simp only [F_compare]
  rw [if_pos ⟨⟨s, a, b, rfl, h1⟩, s', c, d, rfl, h2⟩, topD_iseq, topD_iseq, botD_iseq, botD_iseq]
/-! sums of shares -/
def shD (s : Bool) (L : List (Int × Int)) : List Dt := L.map fun e => iseq s [e.1, e.2]
def toL (d : Dt) : List (Int × Int) := d.items.map fun x => (topD x, botD x)
def seqD (c : Bool) (ds : List Dt) : Dt := bif c then .tup ds else .lst ds
theorem items_seqD (c : Bool) (ds : List Dt) : (seqD c ds).items = ds := by cases c <;> rfl
theorem toL_sh (c s : Bool) (L : List (Int × Int)) : toL (seqD c (shD s L)) = L := by
  unfold toL shD
  rw [items_seqD, List.map_map]
  have : ((fun x => (topD x, botD x)) ∘ fun e : Int × Int => iseq s [e.1, e.2]) = id := funext fun e => by
    show (topD (iseq s [e.1, e.2]), botD (iseq s [e.1, e.2])) = e
    rw [topD_iseq, botD_iseq]
  rw [this, List.map_id]

/-- L tells the numbers Ps over B -/
inductive Rep (B : Int) : List (Int × Int) → List Int → Prop
  | nil : Rep B [] []
  | cons {e : Int × Int} {P : Int} {L : List (Int × Int)} {Ps : List Int} : e.1 * B = P * e.2 → Rep B L Ps → Rep B (e :: L) (P :: Ps)
structure OkRep (L : List (Int × Int)) (B : Int) (Ps : List Int) : Prop where
  rep : Rep B L Ps
  b0 : 0 < B
  sb : B.natAbs < 2 ^ 1900
  sh : ∀ e ∈ L, ShOk 1900 e.1 e.2
  sp : (Ps.map Int.natAbs).sum < 2 ^ 1900
def plusP (r e : Int × Int) : Int × Int := (lowT (r.1 * e.2 + e.1 * r.2) (r.2 * e.2), lowB (r.1 * e.2 + e.1 * r.2) (r.2 * e.2))
def sumL (L : List (Int × Int)) : Int × Int := L.foldl plusP (0, 1)
theorem natAbs_sumP : ∀ l : List Int, l.sum.natAbs ≤ (l.map Int.natAbs).sum
  | [] => Nat.le_refl _
  | x :: l => by
    rw [List.sum_cons, List.map_cons, List.sum_cons]
    have h1 := natAbs_sumP l
    have h2 := Int.natAbs_add_le x l.sum
    omega
theorem Rep.len {B : Int} : ∀ {L : List (Int × Int)} {Ps : List Int}, Rep B L Ps → L.length = Ps.length
  | _, _, .nil => rfl
  | _, _, .cons _ h => by rw [List.length_cons, List.length_cons, h.len]
theorem Rep.get {B : Int} : ∀ {L : List (Int × Int)} {Ps : List Int} {i : Nat} {e : Int × Int} {P : Int}, Rep B L Ps → L[i]? = some e → Ps[i]? = some P → e.1 * B = P * e.2
  | _, _, _, _, _, .nil, h, _ => by simp at h
  | _, _, 0, _, _, .cons h _, h1, h2 => by cases h1; cases h2; exact h
  | _, _, i + 1, _, _, .cons _ h, h1, h2 => h.get (i := i) (by simpa using h1) (by simpa using h2)
theorem Rep.of {B : Int} : ∀ {L : List (Int × Int)} {Ps : List Int}, L.length = Ps.length → (∀ (i : Nat) (e : Int × Int) (P : Int), L[i]? = some e → Ps[i]? = some P → e.1 * B = P * e.2) → Rep B L Ps
  | [], [], _, _ => .nil
  | e :: L, P :: Ps, hl, h => .cons (h 0 e P rfl rfl) (Rep.of (by simpa using hl) fun i e' P' h1 h2 => h (i + 1) e' P' (by simpa using h1) (by simpa using h2))
  | [], _ :: _, hl, _ => by cases hl
  | _ :: _, [], hl, _ => by cases hl
theorem low01 {B : Int} (hB : 0 < B) : lowT 0 B = 0 ∧ lowB 0 B = 1 := by
  obtain ⟨h1, h2⟩ := low_same (a := 0) (b := B) (c := 0) (d := 1) hB (by decide) (by simp)
  rw [h1, h2]
  exact ⟨by decide, by decide⟩
theorem plusP_low {S B : Int} {e : Int × Int} {P : Int} (hB : 0 < B) (he : 0 < e.2) (h : e.1 * B = P * e.2) : plusP (lowT S B, lowB S B) e = (lowT (S + P) B, lowB (S + P) B) := by
  have c := low_cross (a := S) hB
  have p := low_pos (a := S) hB
  obtain ⟨h1, h2⟩ := low_same (a := lowT S B * e.2 + e.1 * lowB S B) (b := lowB S B * e.2) (c := S + P) (d := B) (Int.mul_pos p he) hB (by
    calc (lowT S B * e.2 + e.1 * lowB S B) * B = (lowT S B * B) * e.2 + (e.1 * B) * lowB S B := by rw [Int.add_mul]; congr 1 <;> ac_rfl
      _ = (S * lowB S B) * e.2 + (P * e.2) * lowB S B := by rw [c, h]
      _ = (S + P) * (lowB S B * e.2) := by rw [Int.add_mul]; congr 1 <;> ac_rfl)
  unfold plusP
  rw [h1, h2]
theorem sumL_from {B : Int} (hB : 0 < B) : ∀ {L : List (Int × Int)} {Ps : List Int} (S : Int), Rep B L Ps → (∀ e ∈ L, 0 < e.2) → L.foldl plusP (lowT S B, lowB S B) = (lowT (S + Ps.sum) B, lowB (S + Ps.sum) B)
  | _, _, S, .nil, _ => by rw [List.sum_nil, Int.add_zero]; rfl
  | e :: L, P :: Ps, S, .cons h t, hp => by
    rw [List.foldl_cons, plusP_low hB (hp e List.mem_cons_self) h, sumL_from hB (S + P) t fun e' he' => hp e' (List.mem_cons_of_mem _ he'), List.sum_cons, Int.add_assoc]
theorem sumL_eq {L : List (Int × Int)} {B : Int} {Ps : List Int} (ok : OkRep L B Ps) : sumL L = (lowT Ps.sum B, lowB Ps.sum B) := by
  have h := sumL_from ok.b0 0 ok.rep fun e he => (ok.sh e he).b0
  obtain ⟨h1, h2⟩ := low01 ok.b0
  rw [h1, h2, Int.zero_add] at h
  exact h
def pD (e : Int × Int) : Dt := .tup [.int e.1, .int e.2]
open Classical in
noncomputable def F_sum_of : FN := fun ds => match ds with
  | [x] => if (∃ s, x = .lst (shD s (toL x))) ∧ ∃ B Ps, OkRep (toL x) B Ps then some (pD (sumL (toL x))) else none
  | _ => none
def cw_sum_of : WS := (wSeq (wAsg 1 (eTup (aCons (eC (.int 0)) (aCons (eC (.int 1)) aNil))))
  (wSeq (wFor (iSeq (eVar 0)) (gN 2)
  (wAsg 1 (eCall F_plus (aCons (eVar 1) (aCons (eVar 2) aNil)))))
  (wRet (eVar 1))))
theorem lenk_sum_of : ∀ (ds : List Dt) (r : Dt), F_sum_of ds = some r → ds.length = 1 := by
  intro ds r h
  match ds, h with
  | [_], _ => rfl
theorem OkRep.take {L : List (Int × Int)} {B : Int} {Ps : List Int} (ok : OkRep L B Ps) (i : Nat) : OkRep (L.take i) B (Ps.take i) := by
  refine ⟨?_, ok.b0, ok.sb, fun e he => ok.sh e (List.mem_of_mem_take he), ?_⟩
  · refine Rep.of (by rw [List.length_take, List.length_take, ok.rep.len]) fun j e P h1 h2 => ?_
    rw [List.getElem?_take] at h1 h2
    split at h1
    · rename_i hj
      rw [if_pos hj] at h2
      exact ok.rep.get h1 h2
    · cases h1
  · refine Nat.lt_of_le_of_lt ?_ ok.sp
    have e : (Ps.map Int.natAbs).sum = ((Ps.take i).map Int.natAbs).sum + ((Ps.drop i).map Int.natAbs).sum := by
      rw [← List.sum_append, ← List.map_append, List.take_append_drop]
    omega
theorem OkRep.shOk {L : List (Int × Int)} {B : Int} {Ps : List Int} (ok : OkRep L B Ps) : ShOk 1900 Ps.sum B := ⟨ok.b0, ok.sb, Nat.lt_of_le_of_lt (natAbs_sumP Ps) ok.sp⟩
theorem kk_sum_of : Keeps 3 cw_sum_of F_sum_of := by
  intro ds r h
  match ds, h with
  | [x], h =>
    simp only [F_sum_of] at h
    split at h
    case isFalse => cases h
    rename_i hk
    cases h
    obtain ⟨⟨s, hx⟩, B, Ps, ok⟩ := hk
    generalize hL : toL x = L at *
    subst hx
    show cw_sum_of _ [.val (.lst (shD s L)), .non, .non]
    refine q_asg (r := .vis (pD (0, 1))) (by walk_at "pe"; rfl) rfl rfl ?_
    refine q_forMap (u := fun e => iseq s [e.1, e.2]) (xs := L) (fun i e => ∃ z, e = [.val (.lst (shD s L)), .val (pD (sumL (L.take i))), z]) (by walk_at "pe"; rfl) ⟨_, rfl⟩ ?_ ?_
    · rintro i env e he ⟨z, rfl⟩
      refine ⟨_, by walk_at "pe"; rfl, ?_⟩
      have ok1 := (ok.take i)
      have es := sumL_eq ok1
      have hsum : sumL (L.take (i + 1)) = plusP (sumL (L.take i)) e := foldl_take he
      refine s_asg (r := .vis (pD (sumL (L.take (i + 1))))) ?_ rfl rfl ⟨_, rfl⟩
      have hp := plus_at (s := true) (s' := s) (a := (sumL (L.take i)).1) (b := (sumL (L.take i)).2) (c := e.1) (d := e.2) (by rw [es]; exact (ok1.shOk.mono (by decide)).low) ((ok.sh e (List.mem_of_getElem? he)).mono (by decide))
      walk_at "pe"
      rw [show F_plus [pD (sumL (L.take i)), iseq s [e.1, e.2]] = _ from hp]
      walk_at "pe"
      rw [hsum]
      rfl
    · rintro env ⟨z, rfl⟩
      rw [List.take_length]
      exact s_ret (r := .vis (pD (sumL L))) (by walk_at "pe") rfl rfl rfl
theorem sum_of_at {s : Bool} {L : List (Int × Int)} {B : Int} {Ps : List Int} (ok : OkRep L B Ps) : F_sum_of [.lst (shD s L)] = some (lowD Ps.sum B) := by
  have e : toL (.lst (shD s L)) = L := toL_sh false s L
  simp only [F_sum_of]
  rw [e, if_pos ⟨⟨s, rfl⟩, B, Ps, ok⟩, sumL_eq ok]
  rfl
end Pyl
end
section
set_option Elab.async false
set_option linter.all false
set_option maxHeartbeats 1000000
namespace Pyl
open PySem
/-! ### values of comprehensions, places in lists: for every law -/
local macro_rules | `(tactic| walk_at "pe") => `(tactic| simp (config := { implicitDefEqProofs := false }) only [eVar_at, eC_at, e1_at, e2_at, aNil_at, aCons_at, eTup_at, eLst_at, plain_nil, plain_cons, eCall_at, eIf_at, aApp_at, aDfl_at, List.cons_append, List.nil_append, eAnd_at, eOr_at, eNot_at, tVal_at, tAnd_at, tOr_at, tNot_at, tYes_at,
  pAdd_int, pSub_int, pNeg_int, pLt_int, pLe_int, pGt_int, pGe_int, pEq_int, pNe_int, pIsN_at, pNotN_at, pIx_lst, pIx_tup, pGcd_int, atL0, atL1, atL2, atL3, atL4, atL5, atL6, atL7, atL8, oNone_at, oSome_at, eSlice_at, pLen_lst, pLen_tup, pInt_int, pInt_bl, pAbs_int, pSum_ints, pMax2_int, pMin2_int, pList_lst, pList_tup, pTuple_lst, pTuple_tup, iSeq_at, gN_at, gT_at, gsN_cons, gsN_nil, wipeS_cons, wipeS_nil,
  dt_vis, dt_bor, dt_fre, sh_vis, sh_bor, sh_fre, slot_vis, slot_fre, od_dt, isNon_non, isNon_int, isNon_lst, isNon_tup, scalar_int, scalar_bl, scalar_non, Option.bind_some, Option.bind_none, Option.map_some, Option.map_none, List.getElem?_cons_zero, List.getElem?_cons_succ, List.set_cons_zero, List.set_cons_succ, List.map_cons, List.map_nil, List.any_cons, List.any_nil, Bool.or_false, Bool.false_or, Bool.false_and, Bool.and_true, Bool.true_and, Bool.not_true, Bool.not_false,
  Option.some.injEq, exists_eq_left', exists_eq_left, true_and, and_true, if_true, if_false, Bool.false_eq_true, ite_true, ite_false, reduceIte, decide_eq_true_eq, decide_eq_false_iff_not, R.vis.injEq, R.fre.injEq, Dt.lst.injEq, Dt.tup.injEq, Dt.int.injEq, Slot.own.injEq, OD.lst.injEq, reduceCtorEq, false_and, exists_false, exists_const, Bool.true_eq_false, false_implies, true_implies, implies_true, forall_const])

theorem comp_rng {env : Sl} {k n : Nat} {fa fe : EF} {f : Nat → Int} (h : fa env = some (.vis (.int (n : Int)))) (hn : n ≤ 4000000) (hf : ∀ j : Nat, j < n → fe ((wipeS env [k]).set k (.val (.int (j : Int)))) = some (.vis (.int (f j)))) :
    eComp [k] (iRange1 fa) (gN k) tYes fe env = some (.fre (.lst (((List.range n).map f).map .int))) := by
  refine eComp_of (ds := rngD 0 n) (s := false) (by rw [rng1 (n := (n : Int)) h (by omega), Int.toNat_natCast]) (by rw [rngD_len]; exact lim_of hn) ?_
  have e : rngD 0 n = (List.range n).map fun j : Nat => Dt.int ((j : Int)) := by
    unfold rngD
    refine List.map_congr_left fun j _ => ?_
    rw [Int.zero_add]
  rw [e]
  refine compL_map (u := fun j : Nat => Dt.int (j : Int)) (f := f) (v := Dt.int) fun j hj => ?_
  rw [compG_at, gN_at]
  show ((fe ((wipeS env [k]).set k (.val (.int (j : Int))))).bind _) = _
  rw [hf j (List.mem_range.mp hj)]
  rfl
theorem comp_consts {env : Sl} {k n : Nat} {fa : EF} {x : Int} (h : fa env = some (.vis (.int (n : Int)))) (hn : n ≤ 4000000) : eComp [k] (iRange1 fa) (gN k) tYes (eC (.int x)) env = some (.fre (.lst ((List.replicate n x).map .int))) := by
  rw [comp_rng (f := fun _ => x) h hn fun j hj => rfl]
  have : (List.range n).map (fun _ => x) = List.replicate n x := by
    rw [List.map_const', List.length_range]
  rw [this]
theorem comp_lists {env : Sl} {i : Nat} {b : Bool} {m : List (List Int)} (hi : i < env.length) : compL (compG env [i] (gN i) tYes (e1 pList (eVar i))) (m.map (iseq b)) = some (m.map ilst) := by
  refine (compL_map (f := fun r : List Int => r) (v := ilst) fun r _ => ?_).trans (by rw [List.map_id'])
  have e : (((wipeS env [i]).set i (.val (iseq b r)))[i]?) = some (.val (iseq b r)) := List.getElem?_set_self (by rw [wipeS_cons, wipeS_nil, List.length_set]; exact hi)
  show ((e1 pList (eVar i) ((wipeS env [i]).set i (.val (iseq b r)))).bind fun r => if r.sh then none else some [r.dt]) = _
  rw [e1_at, eVar_at, e]
  cases b <;> rfl
theorem comp_tups {env : Sl} {i : Nat} {b : Bool} {m : List (List Int)} (hi : i < env.length) : compL (compG env [i] (gN i) tYes (e1 pTuple (eVar i))) (m.map (iseq b)) = some (m.map itup) := by
  refine compL_map (f := fun r : List Int => r) (v := itup) (fun r _ => ?_) |>.trans (by rw [List.map_id'])
  have e : (((wipeS env [i]).set i (.val (iseq b r)))[i]?) = some (.val (iseq b r)) := List.getElem?_set_self (by rw [wipeS_cons, wipeS_nil, List.length_set]; exact hi)
  show ((e1 pTuple (eVar i) ((wipeS env [i]).set i (.val (iseq b r)))).bind fun r => if r.sh then none else some [r.dt]) = _
  rw [e1_at, eVar_at, e]
  cases b <;> rfl
/-- lists of them, tuples of them -/
theorem asLists {env : Sl} {i k : Nat} {b c : Bool} {m : List (List Int)} (hi : i < env.length) (he : env[k]? = some (.val (seqD c (m.map (iseq b))))) (hm : m.length ≤ 4000000) : eComp [i] (iSeq (eVar k)) (gN i) tYes (e1 pList (eVar i)) env = some (.fre (.lst (m.map ilst))) := by
  refine eComp_of (ds := m.map (iseq b)) (s := false) ?_ (by rw [List.length_map]; exact lim_of hm) (comp_lists hi)
  rw [iSeq_at, eVar_at, he]
  cases c <;> rfl
theorem asTups {env : Sl} {i k : Nat} {b c : Bool} {m : List (List Int)} (hi : i < env.length) (he : env[k]? = some (.val (seqD c (m.map (iseq b))))) (hm : m.length ≤ 4000000) : eComp [i] (iSeq (eVar k)) (gN i) tYes (e1 pTuple (eVar i)) env = some (.fre (.lst (m.map itup))) := by
  refine eComp_of (ds := m.map (iseq b)) (s := false) ?_ (by rw [List.length_map]; exact lim_of hm) (comp_tups hi)
  rw [iSeq_at, eVar_at, he]
  cases c <;> rfl
theorem getD_at {l : List Int} {j : Nat} (h : j < l.length) : atL (l.map Dt.int) (j : Int) = some (.int (l.getD j 0)) := by
  rw [atL_nat, List.getElem?_map, List.getElem?_eq_getElem h, List.getD_eq_getElem?_getD, List.getElem?_eq_getElem h]
  rfl
theorem getD_mem {l : List Int} {j : Nat} (h : j < l.length) : l.getD j 0 ∈ l := by
  rw [List.getD_eq_getElem?_getD, List.getElem?_eq_getElem h]
  exact List.getElem_mem h
theorem s_put {env env' : Sl} {D : En} {fa fb : EF} {i : Nat} {b : List Int} {v j : Int} (h0 : env[i]? = some (.own (.lst (b.map .int)))) (h : fa env = some (.vis (.int v))) (hk : fb env = some (.vis (.int j))) (j0 : 0 ≤ j) (j1 : j < b.length)
    (he : env.set i (.own (.lst ((b.set j.toNat v).map .int))) = env') (k : D.nx env') : wPut i fb fa D env := by
  refine ⟨b.map .int, .vis (.int v), j, h0, h, rfl, hk, by rw [List.length_map]; omega, by rw [List.length_map]; exact j1, ?_⟩
  rw [if_pos j0]
  have e : (b.map Dt.int).set j.toNat (R.vis (.int v)).dt = (b.set j.toNat v).map .int := by
    rw [List.map_set]
    rfl
  rw [e, he]
  exact k
theorem nrm_nat (n i : Nat) : nrm n (i : Int) = i := by unfold nrm; rw [if_pos (Int.natCast_nonneg i), Int.toNat_natCast]
/-- the data of a list of lists that is only looked at -/
theorem getD_get {l : List Int} {i : Nat} (h : i < l.length) : l[i]? = some (l.getD i 0) := by
  rw [List.getD_eq_getElem?_getD, List.getElem?_eq_getElem h]
  rfl

/-- over typed items, each gives one -/
theorem comp_of {α β : Type} {env : Sl} {own : List Nat} {fi : IF} {g : GF} {fe : EF} {s : Bool} {xs : List α} {u : α → Dt} {f : α → β} {v : β → Dt} (h : fi env = some (xs.map u, s)) (hl : xs.length ≤ 4000000)
    (hx : ∀ x ∈ xs, ∃ env', g (u x) (wipeS env own) = some env' ∧ ∃ r, fe env' = some r ∧ r.sh = false ∧ r.dt = v (f x)) : eComp own fi g tYes fe env = some (.fre (.lst ((xs.map f).map v))) := by
  refine eComp_of h (by rw [List.length_map]; exact lim_of hl) (compL_map fun x hm => ?_)
  obtain ⟨env', h1, r, h2, h3, h4⟩ := hx x hm
  rw [compG_at, h1]
  show ((fe env').bind _) = _
  rw [h2]
  show (if r.sh then none else some [r.dt]) = _
  rw [h3, h4]
  rfl
theorem comp_filt {α β : Type} {env : Sl} {own : List Nat} {fi : IF} {g : GF} {ft : TF} {fe : EF} {s : Bool} {xs : List α} {u : α → Dt} {p : α → Bool} {f : α → β} {v : β → Dt} (h : fi env = some (xs.map u, s)) (hl : xs.length ≤ 4000000)
    (hx : ∀ x ∈ xs, ∃ env', g (u x) (wipeS env own) = some env' ∧ ft env' = some (p x) ∧ (p x = true → ∃ r, fe env' = some r ∧ r.sh = false ∧ r.dt = v (f x))) : eComp own fi g ft fe env = some (.fre (.lst (((xs.filter p).map f).map v))) := by
  refine eComp_of h (by rw [List.length_map]; exact lim_of hl) (compL_filter fun x hm => ?_)
  obtain ⟨env', h1, h2, h3⟩ := hx x hm
  rw [compG_at, h1]
  show ((ft env').bind _) = _
  rw [h2]
  show (if p x then _ else _) = _
  cases hp : p x with
  | false => rfl
  | true =>
    obtain ⟨r, h4, h5, h6⟩ := h3 hp
    rw [if_pos rfl, if_pos rfl, h4]
    show (if r.sh then none else some [r.dt]) = _
    rw [h5, h6]
    rfl
theorem rng_map (n : Nat) : rngD 0 n = (List.range n).map fun j : Nat => Dt.int (j : Int) := by
  unfold rngD
  exact List.map_congr_left fun j _ => by rw [Int.zero_add]
theorem rngN {env : Sl} {fa : EF} {n : Nat} (h : fa env = some (.vis (.int (n : Int)))) (hn : n ≤ 4000000) : iRange1 fa env = some ((List.range n).map fun j : Nat => Dt.int (j : Int), false) := by
  rw [rng1 (n := (n : Int)) h (by omega), Int.toNat_natCast, rng_map]
theorem seq_ints {env : Sl} {fa : EF} {b : Bool} {ns : List Int} (h : fa env = some (.vis (iseq b ns))) : iSeq fa env = some (ns.map Dt.int, false) := by
  rw [iSeq_at, h]
  cases b <;> rfl
theorem seq_mat {env : Sl} {fa : EF} {b : Bool} {m : List (List Int)} (h : fa env = some (.vis (imatS b m))) : iSeq fa env = some (m.map (iseq b), false) := by
  rw [iSeq_at, h]
  cases b <;> rfl
theorem zip_of {α β : Type} {env : Sl} {fa fb : EF} {da db : Dt} {u : α → Dt} {v : β → Dt} {xs : List α} {ys : List β} (h1 : fa env = some (.vis da)) (h2 : fb env = some (.vis db)) (e1 : seqOf da = some (xs.map u)) (e2 : seqOf db = some (ys.map v)) :
    iZip fa fb env = some ((xs.zip ys).map fun z => Dt.tup [u z.1, v z.2], false) := by
  show (fa env).bind _ = _
  rw [h1]
  show (fb env).bind _ = _
  rw [h2]
  show ((seqOf da).bind fun xs => (seqOf db).bind fun ys => some (List.zipWith (fun x y => Dt.tup [x, y]) xs ys, false || false)) = _
  rw [e1, e2]
  show some (List.zipWith (fun x y => Dt.tup [x, y]) (xs.map u) (ys.map v), false) = _
  rw [zipWith_tup]
theorem len_imat (b : Bool) (m : List (List Int)) : pLen (imatS b m) = some (.vis (.int m.length)) := by
  cases b
  · show some (R.vis (.int ((m.map ilst).length : Int))) = _; rw [List.length_map]
  · show some (R.vis (.int ((m.map itup).length : Int))) = _; rw [List.length_map]
theorem ix_iseq {b : Bool} {ns : List Int} {i : Nat} {x : Int} (h : ns[i]? = some x) : pIx (iseq b ns) (.int (i : Int)) = some (.vis (.int x)) := pIx_iseq (Int.natCast_nonneg i) (by rw [Int.toNat_natCast]; exact h)
theorem ix_imat {b : Bool} {m : List (List Int)} {i : Nat} {x : List Int} (h : m[i]? = some x) : pIx (imatS b m) (.int (i : Int)) = some (.vis (iseq b x)) := pIx_imatS (Int.natCast_nonneg i) (by rw [Int.toNat_natCast]; exact h)
theorem ix_iseqD {b : Bool} {ns : List Int} {i : Nat} (h : i < ns.length) : pIx (iseq b ns) (.int (i : Int)) = some (.vis (.int (ns.getD i 0))) := ix_iseq (getD_get h)
theorem sum_iseq (ns : List Int) : pSum (ilst ns) = some (.vis (.int ns.sum)) := pSum_ints
end Pyl
end
section
set_option linter.all false
set_option Elab.async false
namespace Pyl
open PySem
/-! k69: what its functions compute -/
/-- at least c hits in n draws: how many ways, of w that hit and f that do not -/
def tl (w f : Int) : Nat → Nat → Int
  | 0, c => if c = 0 then 1 else 0
  | n + 1, c => w * tl w f n (c - 1) + f * tl w f n c
def rowT (w f : Int) (need n : Nat) : List Int := (List.range (need + 1)).map (tl w f n)
def tabT (w f : Int) (many need : Nat) : List (List Int) := (List.range (many + 1)).map (rowT w f need)
def spr (w f : Int) : Nat → List Int
  | 0 => [1]
  | n + 1 => List.zipWith (· + ·) ((spr w f n).map (f * ·) ++ [0]) (0 :: (spr w f n).map (w * ·))
def sprs (w f : Int) (many : Nat) : List (List Int) := (List.range (many + 1)).map (spr w f)
/-- the parts that hit -/
def wOf (P b : List Int) : Int := ((List.range P.length).map fun j => P.getD j 0 * b.getD j 0).sum
def dang (t : Int) : List Int → List Int → Nat → Int
  | w :: W, l :: ns, n => tl w (t - w) n l.toNat + dang t W ns n
  | _, _, _ => 0
def stepF (F : List (List Int)) (ns : List Int) (r : Nat) : List Int := List.zipWith (fun l b => l - b.getD r 0) ns F
/-- the first of the least -/
def argm (g : Nat → Int) : Nat → Option (Int × Nat)
  | 0 => none
  | n + 1 => match argm g n with
    | none => some (g n, n)
    | some (b, r) => if g n < b then some (g n, n) else some (b, r)
structure Pb where
  F : List (List Int)
  P : List Int
  m : Nat
namespace Pb
variable (p : Pb)
def t : Int := p.P.sum
def W : List Int := p.F.map (wOf p.P)
def need : Nat := (p.m + 1) / 2
def way (ns : List Int) (n r : Nat) : Int := dang p.t p.W (stepF p.F ns r) n
def pick (ns : List Int) (n : Nat) : Nat := ((argm (p.way ns n) p.P.length).getD (0, 0)).2
def nd : Nat → List Int
  | 0 => List.replicate p.F.length (p.need : Int)
  | k + 1 => stepF p.F (nd k) (p.pick (nd k) (p.m - k - 1))
def ch (k : Nat) : Nat := p.pick (p.nd k) (p.m - k - 1)
def wy (k : Nat) : Int := dang p.t p.W (p.nd k) (p.m - k)
structure Ok : Prop where
  f0 : p.F ≠ []
  fl : p.F.length ≤ 100
  rows : ∀ b ∈ p.F, b.length = p.P.length ∧ ∀ x ∈ b, x = 0 ∨ x = 1
  p0 : 0 < p.P.length
  pl : p.P.length ≤ 300
  pp : ∀ x ∈ p.P, 1 ≤ x ∧ x ≤ 10000
  m0 : 1 ≤ p.m
  m1 : p.m ≤ 151
end Pb
/-! tails -/
theorem tl_zero {w f : Int} {n : Nat} : tl w f (n + 1) 0 = (w + f) * tl w f n 0 := by
  show w * tl w f n 0 + f * tl w f n 0 = _
  rw [Int.add_mul]
theorem tl_nn {w f : Int} (hw : 0 ≤ w) (hf : 0 ≤ f) : ∀ n c : Nat, 0 ≤ tl w f n c
  | 0, c => by unfold tl; split <;> decide
  | n + 1, c => Int.add_nonneg (Int.mul_nonneg hw (tl_nn hw hf n _)) (Int.mul_nonneg hf (tl_nn hw hf n _))
theorem tl_le {w f : Int} (hw : 0 ≤ w) (hf : 0 ≤ f) : ∀ n c : Nat, tl w f n c ≤ (w + f) ^ n
  | 0, c => by
    unfold tl
    rw [Int.pow_zero]
    split <;> decide
  | n + 1, c => by
    have h1 := Int.mul_le_mul_of_nonneg_left (tl_le hw hf n (c - 1)) hw
    have h2 := Int.mul_le_mul_of_nonneg_left (tl_le hw hf n c) hf
    show w * tl w f n (c - 1) + f * tl w f n c ≤ _
    rw [Int.pow_succ, Int.mul_comm ((w + f) ^ n), Int.add_mul]
    omega
theorem rowT_get {w f : Int} {need n c : Nat} (h : c ≤ need) : (rowT w f need n)[c]? = some (tl w f n c) := by
  unfold rowT
  rw [List.getElem?_map, List.getElem?_range (by omega)]
  rfl
theorem rowT_len (w f : Int) (need n : Nat) : (rowT w f need n).length = need + 1 := by unfold rowT; simp
theorem tabT_get {w f : Int} {many need n : Nat} (h : n ≤ many) : (tabT w f many need)[n]? = some (rowT w f need n) := by
  unfold tabT
  rw [List.getElem?_map, List.getElem?_range (by omega)]
  rfl
theorem tabT_len (w f : Int) (many need : Nat) : (tabT w f many need).length = many + 1 := by unfold tabT; simp
theorem tabT_succ (w f : Int) (many need : Nat) : tabT w f (many + 1) need = tabT w f many need ++ [rowT w f need (many + 1)] := by
  unfold tabT
  rw [List.range_succ, List.map_append]
  rfl
theorem spr_len (w f : Int) : ∀ n : Nat, (spr w f n).length = n + 1
  | 0 => rfl
  | n + 1 => by
    show (List.zipWith _ _ _).length = _
    simp [spr_len w f n]
theorem sprs_get {w f : Int} {many n : Nat} (h : n ≤ many) : (sprs w f many)[n]? = some (spr w f n) := by
  unfold sprs
  rw [List.getElem?_map, List.getElem?_range (by omega)]
  rfl
theorem sprs_succ (w f : Int) (many : Nat) : sprs w f (many + 1) = sprs w f many ++ [spr w f (many + 1)] := by
  unfold sprs
  rw [List.range_succ, List.map_append]
  rfl
theorem sprs_len (w f : Int) (many : Nat) : (sprs w f many).length = many + 1 := by unfold sprs; simp
theorem sum_zip : ∀ a b : List Int, a.length = b.length → (List.zipWith (· + ·) a b).sum = a.sum + b.sum
  | [], [], _ => rfl
  | x :: a, y :: b, h => by
    rw [List.zipWith_cons_cons, List.sum_cons, List.sum_cons, List.sum_cons, sum_zip a b (by simpa using h)]
    omega
  | [], _ :: _, h => by cases h
  | _ :: _, [], h => by cases h
theorem sum_mulL (c : Int) : ∀ l : List Int, (l.map (c * ·)).sum = c * l.sum
  | [] => by simp
  | x :: l => by
    rw [List.map_cons, List.sum_cons, List.sum_cons, sum_mulL c l, Int.mul_add]
theorem spr_tl (w f : Int) : ∀ n c : Nat, ((spr w f n).drop c).sum = tl w f n c
  | 0, 0 => rfl
  | 0, c + 1 => by
    show (([] : List Int).drop c).sum = 0
    rw [List.drop_nil]
    rfl
  | n + 1, c => by
    show ((List.zipWith (· + ·) ((spr w f n).map (f * ·) ++ [0]) (0 :: (spr w f n).map (w * ·))).drop c).sum = w * tl w f n (c - 1) + f * tl w f n c
    rw [List.drop_zipWith, sum_zip _ _ (by simp [spr_len])]
    have e1 : (((spr w f n).map (f * ·) ++ [0]).drop c).sum = f * tl w f n c := by
      rw [← spr_tl w f n c, ← sum_mulL, List.drop_append, List.sum_append, List.map_drop]
      have : (([0] : List Int).drop (c - ((spr w f n).map (f * ·)).length)).sum = 0 := by
        cases c - ((spr w f n).map (f * ·)).length with
        | zero => rfl
        | succ k => simp
      rw [this, Int.add_zero]
    have e2 : (((0 : Int) :: (spr w f n).map (w * ·)).drop c).sum = w * tl w f n (c - 1) := by
      rw [← spr_tl w f n (c - 1), ← sum_mulL]
      cases c with
      | zero => simp
      | succ c => rw [List.drop_succ_cons, Nat.add_sub_cancel, List.map_drop]
    rw [e1, e2]
    omega
theorem sum_nonneg : ∀ {l : List Int}, (∀ x ∈ l, 0 ≤ x) → 0 ≤ l.sum
  | [], _ => by decide
  | x :: l, h => by
    rw [List.sum_cons]
    have := h x List.mem_cons_self
    have := sum_nonneg (l := l) fun y hy => h y (List.mem_cons_of_mem _ hy)
    omega
theorem le_sum : ∀ {l : List Int}, (∀ x ∈ l, 0 ≤ x) → ∀ x ∈ l, x ≤ l.sum
  | y :: l, h, x, hx => by
    rw [List.sum_cons]
    have hy := h y List.mem_cons_self
    have hl := sum_nonneg (l := l) fun y hy => h y (List.mem_cons_of_mem _ hy)
    rcases List.mem_cons.mp hx with e | hx
    · omega
    · have := le_sum (l := l) (fun y hy => h y (List.mem_cons_of_mem _ hy)) x hx
      omega
theorem spr_bd {w f : Int} (hw : 0 ≤ w) (hf : 0 ≤ f) (n : Nat) : ∀ x ∈ spr w f n, 0 ≤ x ∧ x ≤ (w + f) ^ n := by
  have nn : ∀ x ∈ spr w f n, 0 ≤ x := by
    induction n with
    | zero => intro x hx; rw [List.mem_singleton.mp hx]; decide
    | succ n ih =>
      intro x hx
      obtain ⟨i, hi, e⟩ := List.getElem_of_mem hx
      have hx' : x ∈ List.zipWith (· + ·) ((spr w f n).map (f * ·) ++ [0]) (0 :: (spr w f n).map (w * ·)) := hx
      obtain ⟨a, b, ha, hb, e⟩ : ∃ a b, a ∈ (spr w f n).map (f * ·) ++ [0] ∧ b ∈ (0 :: (spr w f n).map (w * ·)) ∧ a + b = x := by
        obtain ⟨i, hi, e⟩ := List.getElem_of_mem hx'
        rw [List.getElem_zipWith] at e
        exact ⟨_, _, List.getElem_mem _, List.getElem_mem _, e⟩
      have h1 : 0 ≤ a := by
        rcases List.mem_append.mp ha with h | h
        · obtain ⟨y, hy, rfl⟩ := List.mem_map.mp h
          exact Int.mul_nonneg hf (ih y hy)
        · rw [List.mem_singleton.mp h]; decide
      have h2 : 0 ≤ b := by
        rcases List.mem_cons.mp hb with h | h
        · rw [h]; decide
        · obtain ⟨y, hy, rfl⟩ := List.mem_map.mp h
          exact Int.mul_nonneg hw (ih y hy)
      omega
  intro x hx
  refine ⟨nn x hx, Int.le_trans (le_sum nn x hx) ?_⟩
  have := spr_tl w f n 0
  rw [List.drop_zero] at this
  rw [this]
  exact tl_le hw hf n 0
/-! sums over places -/
def Sg (n : Nat) (g : Nat → Int) : Int := ((List.range n).map g).sum
theorem Sg_zero (g : Nat → Int) : Sg 0 g = 0 := rfl
theorem Sg_succ (n : Nat) (g : Nat → Int) : Sg (n + 1) g = Sg n g + g n := by
  unfold Sg
  rw [List.range_succ, List.map_append, List.sum_append]
  simp
theorem Sg_add (g h : Nat → Int) : ∀ n, Sg n (fun i => g i + h i) = Sg n g + Sg n h
  | 0 => rfl
  | n + 1 => by rw [Sg_succ, Sg_succ, Sg_succ, Sg_add g h n]; omega
theorem Sg_mul (c : Int) (g : Nat → Int) : ∀ n, Sg n (fun i => g i * c) = Sg n g * c
  | 0 => by rw [Sg_zero, Sg_zero, Int.zero_mul]
  | n + 1 => by rw [Sg_succ, Sg_succ, Sg_mul c g n, Int.add_mul]
theorem Sg_congr {g h : Nat → Int} : ∀ {n : Nat}, (∀ i, i < n → g i = h i) → Sg n g = Sg n h
  | 0, _ => rfl
  | n + 1, e => by rw [Sg_succ, Sg_succ, e n (by omega), Sg_congr fun i hi => e i (by omega)]
theorem Sg_le {g h : Nat → Int} : ∀ {n : Nat}, (∀ i, i < n → g i ≤ h i) → Sg n g ≤ Sg n h
  | 0, _ => Int.le_refl _
  | n + 1, e => by
    rw [Sg_succ, Sg_succ]
    have := e n (by omega)
    have := Sg_le (n := n) fun i hi => e i (show i < n + 1 by omega)
    omega
theorem Sg_nn {g : Nat → Int} {n : Nat} (e : ∀ i, i < n → 0 ≤ g i) : 0 ≤ Sg n g := by
  have := Sg_le (g := fun _ => 0) e
  have h0 : Sg n (fun _ => 0) = 0 := by
    have := Sg_mul 0 (fun _ => 1) n
    simpa using this
  omega
theorem Sg_list (l : List Int) : Sg l.length (fun i => l.getD i 0) = l.sum := by
  unfold Sg
  have e : (List.range l.length).map (fun i => l.getD i 0) = l := by
    refine List.ext_getElem (by simp) fun i h1 h2 => ?_
    rw [List.getElem_map, List.getElem_range, List.getD_eq_getElem?_getD, List.getElem?_eq_getElem h2]
    rfl
  rw [e]
theorem wOf_Sg (P b : List Int) : wOf P b = Sg P.length fun j => P.getD j 0 * b.getD j 0 := rfl
end Pyl
end
section
set_option linter.all false
set_option Elab.async false
namespace Pyl
open PySem
theorem argm_spec (g : Nat → Int) : ∀ n : Nat, 0 < n → ∃ b r, argm g n = some (b, r) ∧ r < n ∧ g r = b ∧ ∀ i, i < n → b ≤ g i
  | 1, _ => ⟨g 0, 0, rfl, by omega, rfl, fun i hi => by
    have : i = 0 := by omega
    rw [this]; exact Int.le_refl _⟩
  | n + 2, _ => by
    obtain ⟨b, r, h1, h2, h3, h4⟩ := argm_spec g (n + 1) (by omega)
    by_cases h : g (n + 1) < b
    · refine ⟨g (n + 1), n + 1, ?_, by omega, rfl, fun i hi => ?_⟩
      · show (match argm g (n + 1) with | none => some (g (n + 1), n + 1) | some (b, r) => if g (n + 1) < b then some (g (n + 1), n + 1) else some (b, r)) = _
        rw [h1]
        exact if_pos h
      · by_cases e : i = n + 1
        · rw [e]; exact Int.le_refl _
        · have := h4 i (by omega); omega
    · refine ⟨b, r, ?_, by omega, h3, fun i hi => ?_⟩
      · show (match argm g (n + 1) with | none => some (g (n + 1), n + 1) | some (b, r) => if g (n + 1) < b then some (g (n + 1), n + 1) else some (b, r)) = _
        rw [h1]
        exact if_neg h
      · by_cases e : i = n + 1
        · rw [e]; omega
        · exact h4 i (by omega)
/-- bits -/
def Bit (b : List Int) : Prop := ∀ x ∈ b, x = 0 ∨ x = 1
theorem bit_get {b : List Int} (h : Bit b) (r : Nat) : b.getD r 0 = 0 ∨ b.getD r 0 = 1 := by
  rw [List.getD_eq_getElem?_getD]
  by_cases hr : r < b.length
  · rw [List.getElem?_eq_getElem hr]
    exact h _ (List.getElem_mem hr)
  · rw [List.getElem?_eq_none (by omega)]
    exact .inl rfl
theorem pos_get {P : List Int} (h : ∀ x ∈ P, 0 ≤ x) (r : Nat) : 0 ≤ P.getD r 0 := by
  rw [List.getD_eq_getElem?_getD]
  by_cases hr : r < P.length
  · rw [List.getElem?_eq_getElem hr]
    exact h _ (List.getElem_mem hr)
  · rw [List.getElem?_eq_none (by omega)]
    exact Int.le_refl _
theorem wOf_bd {P b : List Int} (hP : ∀ x ∈ P, 0 ≤ x) (hb : Bit b) : 0 ≤ wOf P b ∧ wOf P b ≤ P.sum := by
  rw [wOf_Sg, ← Sg_list P]
  refine ⟨Sg_nn fun i hi => ?_, Sg_le fun i hi => ?_⟩
  · rcases bit_get hb i with e | e <;> rw [e]
    · rw [Int.mul_zero]; exact Int.le_refl _
    · rw [Int.mul_one]; exact pos_get hP i
  · rcases bit_get hb i with e | e <;> rw [e]
    · rw [Int.mul_zero]; exact pos_get hP i
    · rw [Int.mul_one]; exact Int.le_refl _
theorem avg_one {P b : List Int} (hb : Bit b) (w f : Int) (n : Nat) (l : Int) :
    Sg P.length (fun r => P.getD r 0 * tl w f n (l - b.getD r 0).toNat) = wOf P b * tl w f n (l.toNat - 1) + (P.sum - wOf P b) * tl w f n l.toNat := by
  generalize hX : tl w f n (l.toNat - 1) = X
  generalize hY : tl w f n l.toNat = Y
  have e : Sg P.length (fun r => P.getD r 0 * tl w f n (l - b.getD r 0).toNat) = Sg P.length fun r => P.getD r 0 * b.getD r 0 * X + (P.getD r 0 * Y + P.getD r 0 * b.getD r 0 * (-Y)) := Sg_congr fun r _ => by
    rcases bit_get hb r with e | e <;> rw [e]
    · rw [Int.sub_zero, hY]
      simp
    · have : (l - 1).toNat = l.toNat - 1 := by omega
      rw [this, hX, Int.mul_one, Int.mul_neg]
      omega
  rw [e, Sg_add, Sg_mul, Sg_add, Sg_mul, Sg_mul, Sg_list, ← wOf_Sg, Int.mul_neg, Int.sub_mul]
  omega
theorem dang_avg {P : List Int} : ∀ {F : List (List Int)} {ns : List Int} (n : Nat), ns.length = F.length → (∀ b ∈ F, Bit b) →
    Sg P.length (fun r => P.getD r 0 * dang P.sum (F.map (wOf P)) (stepF F ns r) n) = dang P.sum (F.map (wOf P)) ns (n + 1)
  | [], [], n, _, _ => by
    have : Sg P.length (fun r => P.getD r 0 * 0) = 0 := by
      rw [show (fun r => P.getD r 0 * (0 : Int)) = fun r => (fun r => P.getD r 0) r * 0 from rfl, Sg_mul, Int.mul_zero]
    exact this
  | b :: F, l :: ns, n, hl, hb => by
    have e : (fun r => P.getD r 0 * dang P.sum ((b :: F).map (wOf P)) (stepF (b :: F) (l :: ns) r) n) = fun r => P.getD r 0 * tl (wOf P b) (P.sum - wOf P b) n (l - b.getD r 0).toNat + P.getD r 0 * dang P.sum (F.map (wOf P)) (stepF F ns r) n := funext fun r => by
      rw [← Int.mul_add]
      rfl
    rw [e, Sg_add, avg_one (hb b List.mem_cons_self), dang_avg n (by simpa using hl) fun c hc => hb c (List.mem_cons_of_mem _ hc)]
    rfl
  | [], _ :: _, _, h, _ => by cases h
  | _ :: _, [], _, h, _ => by cases h
theorem dang_nn {P : List Int} (hP : ∀ x ∈ P, 0 ≤ x) : ∀ {F : List (List Int)} {ns : List Int} (n : Nat), (∀ b ∈ F, Bit b) → 0 ≤ dang P.sum (F.map (wOf P)) ns n
  | [], _, n, _ => by unfold dang; simp
  | b :: F, [], n, _ => Int.le_refl _
  | b :: F, l :: ns, n, hb => by
    obtain ⟨h1, h2⟩ := wOf_bd hP (hb b List.mem_cons_self)
    have h3 := tl_nn h1 (show 0 ≤ P.sum - wOf P b by omega) n l.toNat
    have h4 := dang_nn hP (F := F) (ns := ns) n fun c hc => hb c (List.mem_cons_of_mem _ hc)
    show 0 ≤ tl _ _ n l.toNat + dang _ _ ns n
    omega
theorem dang_le {P : List Int} (hP : ∀ x ∈ P, 0 ≤ x) : ∀ {F : List (List Int)} {ns : List Int} (n : Nat), (∀ b ∈ F, Bit b) → dang P.sum (F.map (wOf P)) ns n ≤ (F.length : Int) * P.sum ^ n
  | [], _, n, _ => by unfold dang; simp
  | b :: F, [], n, _ => by
    have : 0 ≤ P.sum ^ n := Int.pow_nonneg (sum_nonneg hP)
    exact Int.mul_nonneg (Int.natCast_nonneg _) this
  | b :: F, l :: ns, n, hb => by
    obtain ⟨h1, h2⟩ := wOf_bd hP (hb b List.mem_cons_self)
    have h3 := tl_le h1 (show 0 ≤ P.sum - wOf P b by omega) n l.toNat
    have h4 := dang_le hP (F := F) (ns := ns) n fun c hc => hb c (List.mem_cons_of_mem _ hc)
    rw [show wOf P b + (P.sum - wOf P b) = P.sum by omega] at h3
    show tl _ _ n l.toNat + dang _ _ ns n ≤ ((F.length + 1 : Nat) : Int) * _
    rw [Int.natCast_add, Int.add_mul]
    omega
theorem dang_zero {P : List Int} (hP : ∀ x ∈ P, 0 ≤ x) : ∀ {F : List (List Int)} {ns : List Int}, ns.length = F.length → (∀ b ∈ F, Bit b) → dang P.sum (F.map (wOf P)) ns 0 = 0 → ∀ l ∈ ns, 1 ≤ l
  | b :: F, l :: ns, hl, hb, h, x, hx => by
    have h4 := dang_nn hP (F := F) (ns := ns) 0 fun c hc => hb c (List.mem_cons_of_mem _ hc)
    have h5 : tl (wOf P b) (P.sum - wOf P b) 0 l.toNat + dang P.sum (F.map (wOf P)) ns 0 = 0 := h
    have h6 : tl (wOf P b) (P.sum - wOf P b) 0 l.toNat = if l.toNat = 0 then 1 else 0 := rfl
    rw [h6] at h5
    by_cases hz : l.toNat = 0
    · rw [if_pos hz] at h5; omega
    · rw [if_neg hz] at h5
      rcases List.mem_cons.mp hx with e | hx
      · omega
      · exact dang_zero hP (by simpa using hl) (fun c hc => hb c (List.mem_cons_of_mem _ hc)) (by omega) x hx
  | [], [], _, _, _, _, hx => by cases hx
  | [], _ :: _, h, _, _, _, _ => by cases h
  | _ :: _, [], h, _, _, _, _ => by cases h
theorem stepF_len {F : List (List Int)} {ns : List Int} (r : Nat) (h : ns.length = F.length) : (stepF F ns r).length = F.length := by
  unfold stepF
  rw [List.length_zipWith, h, Nat.min_self]
theorem stepF_get {F : List (List Int)} {ns : List Int} {r i : Nat} {l : Int} {b : List Int} (h1 : ns[i]? = some l) (h2 : F[i]? = some b) : (stepF F ns r)[i]? = some (l - b.getD r 0) := by
  unfold stepF
  rw [List.getElem?_zipWith, h1, h2]
namespace Pb
variable {p : Pb}
theorem nd_len (p : Pb) : ∀ k, (p.nd k).length = p.F.length
  | 0 => List.length_replicate
  | k + 1 => stepF_len _ (nd_len p k)
theorem nd_get (p : Pb) {i : Nat} {b : List Int} (h : p.F[i]? = some b) : ∀ k, (p.nd k)[i]? = some ((p.need : Int) - Sg k fun j => b.getD (p.ch j) 0)
  | 0 => by
    show (List.replicate p.F.length (p.need : Int))[i]? = _
    rw [List.getElem?_replicate, if_pos (List.getElem?_eq_some_iff.mp h).1, Sg_zero, Int.sub_zero]
  | k + 1 => by
    show (stepF p.F (p.nd k) (p.ch k))[i]? = _
    rw [stepF_get (nd_get p h k) h, Sg_succ]
    congr 1
    omega
theorem Ok.pn (o : p.Ok) : ∀ x ∈ p.P, 0 ≤ x := fun x hx => by have := (o.pp x hx).1; omega
theorem Ok.bits (o : p.Ok) : ∀ b ∈ p.F, Bit b := fun b hb => (o.rows b hb).2
theorem Ok.t1 (o : p.Ok) : 1 ≤ p.t := by
  have h := o.p0
  cases e : p.P with
  | nil => rw [e] at h; exact absurd h (by decide)
  | cons x l =>
    have hx := o.pp x (by rw [e]; exact List.mem_cons_self)
    have := le_sum o.pn x (by rw [e]; exact List.mem_cons_self)
    unfold Pb.t
    omega
theorem sum_bd : ∀ {l : List Int} {B : Int}, (∀ x ∈ l, x ≤ B) → l.sum ≤ (l.length : Int) * B
  | [], B, _ => by simp
  | x :: l, B, h => by
    have h1 := h x List.mem_cons_self
    have h2 := sum_bd (l := l) (B := B) fun y hy => h y (List.mem_cons_of_mem _ hy)
    rw [List.sum_cons, List.length_cons, Int.natCast_add, Int.add_mul]
    omega
theorem Ok.t2 (o : p.Ok) : p.t ≤ 3000000 := by
  have h := sum_bd (l := p.P) (B := 10000) fun x hx => (o.pp x hx).2
  have := o.pl
  unfold Pb.t
  omega
theorem pick_spec (p : Pb) (h : 0 < p.P.length) (ns : List Int) (n : Nat) : p.pick ns n < p.P.length ∧ ∀ r, r < p.P.length → p.way ns n (p.pick ns n) ≤ p.way ns n r := by
  obtain ⟨b, r, h1, h2, h3, h4⟩ := argm_spec (p.way ns n) p.P.length h
  have e : p.pick ns n = r := by
    unfold Pb.pick
    rw [h1]
    rfl
  rw [e]
  exact ⟨h2, fun i hi => by rw [h3]; exact h4 i hi⟩
theorem ch_lt (o : p.Ok) (k : Nat) : p.ch k < p.P.length := (pick_spec p o.p0 _ _).1
theorem wy_nn (o : p.Ok) (k : Nat) : 0 ≤ p.wy k := dang_nn o.pn _ o.bits
theorem wy_le (o : p.Ok) (k : Nat) : p.wy k ≤ (p.F.length : Int) * p.t ^ (p.m - k) := dang_le o.pn _ o.bits
theorem wy_succ (o : p.Ok) {k : Nat} (hk : k < p.m) : p.wy (k + 1) * p.t ≤ p.wy k := by
  obtain ⟨n, hn⟩ : ∃ n, p.m - k = n + 1 := ⟨p.m - k - 1, by omega⟩
  have hn1 : p.m - k - 1 = n := by omega
  have e0 : p.wy (k + 1) = p.way (p.nd k) n (p.pick (p.nd k) n) := by
    unfold Pb.wy
    rw [show p.m - (k + 1) = n by omega]
    show dang p.t p.W (stepF p.F (p.nd k) (p.pick (p.nd k) (p.m - k - 1))) n = _
    rw [hn1]
    rfl
  have e1 : p.wy k = Sg p.P.length fun r => p.P.getD r 0 * p.way (p.nd k) n r := by
    unfold Pb.wy
    rw [hn]
    exact (dang_avg n (nd_len p k) o.bits).symm
  rw [e0, e1]
  have h2 := (pick_spec p o.p0 (p.nd k) n).2
  generalize p.way (p.nd k) n (p.pick (p.nd k) n) = v at h2 ⊢
  unfold Pb.t
  rw [← Sg_list, Int.mul_comm, ← Sg_mul]
  exact Sg_le fun r hr => Int.mul_le_mul_of_nonneg_left (h2 r hr) (pos_get o.pn r)
theorem wy_pow (o : p.Ok) : ∀ k, k ≤ p.m → p.wy k * p.t ^ k ≤ p.wy 0
  | 0, _ => by rw [Int.pow_zero, Int.mul_one]; exact Int.le_refl _
  | k + 1, hk => by
    have h1 := wy_succ o (k := k) (by omega)
    have h2 := wy_pow o k (by omega)
    have ht : 0 ≤ p.t ^ k := Int.pow_nonneg (by have := o.t1; omega)
    have h3 := Int.mul_le_mul_of_nonneg_right h1 ht
    rw [Int.pow_succ, Int.mul_comm (p.t ^ k) p.t, ← Int.mul_assoc]
    exact Int.le_trans h3 h2
theorem wy_end (o : p.Ok) (h : p.wy 0 < p.t ^ p.m) : p.wy p.m = 0 := by
  have h1 := wy_pow o p.m (Nat.le_refl _)
  have h2 := wy_nn o p.m
  have ht : 0 < p.t ^ p.m := Int.pow_pos (by have := o.t1; omega)
  by_cases e : p.wy p.m = 0
  · exact e
  · have h3 := Int.mul_le_mul_of_nonneg_right (show 1 ≤ p.wy p.m by omega) (Int.le_of_lt ht)
    rw [Int.one_mul] at h3
    omega
theorem right_end (o : p.Ok) (h : p.wy 0 < p.t ^ p.m) : ∀ b ∈ p.F, 2 * (Sg p.m fun j => b.getD (p.ch j) 0) ≤ (p.m : Int) := by
  intro b hb
  obtain ⟨i, hi, e⟩ := List.getElem_of_mem hb
  have hg := nd_get p (i := i) (b := b) (by rw [List.getElem?_eq_getElem hi, e]) p.m
  have hz := wy_end o h
  unfold Pb.wy at hz
  rw [Nat.sub_self] at hz
  have := dang_zero o.pn (nd_len p p.m) o.bits hz _ (List.mem_of_getElem? hg)
  have hn : p.need = (p.m + 1) / 2 := rfl
  omega
theorem nd_need (o : p.Ok) (k : Nat) : ∀ l ∈ p.nd k, l ≤ (p.need : Int) := by
  intro l hl
  obtain ⟨i, hi, e⟩ := List.getElem_of_mem hl
  have hi' : i < p.F.length := by rw [← nd_len p k]; exact hi
  have hg := nd_get p (List.getElem?_eq_getElem hi') k
  rw [List.getElem?_eq_getElem hi, e] at hg
  have hs : 0 ≤ Sg k fun j => (p.F[i]).getD (p.ch j) 0 := Sg_nn fun j _ => by
    rcases bit_get (o.bits _ (List.getElem_mem hi')) (p.ch j) with e | e <;> rw [e] <;> decide
  have := Option.some.inj hg
  omega
end Pb
/-- what _law_asked hands to found_rows -/
def askArgs (h v : Dt) (m st : Int) : List Dt := [if st % 2 = 1 then .tup (h.items.map fun x => .tup x.items) else .lst (h.items.map fun x => .lst x.items), .int m, if v.isNon then .non else if 1 < st then .tup v.items else .lst v.items]
def AskedP (F : FX) (h v : Dt) (m st : Int) (r : Dt) : Prop := ∃ o, F (askArgs h v m st) = some o ∧ (∀ d, o = .ok d → r = .lst [.int 0, d]) ∧ ∀ c fs, o = .er c fs → r = .lst [.int 1, .non]
end Pyl
end
section
set_option Elab.async false
set_option linter.all false
namespace Pyl
open PySem
local macro_rules | `(tactic| walk_at "dc") => `(tactic| repeat' first | exact dc_asg | exact dc_nil | exact dc_ret | exact dc_app | exact dc_put | exact dc_unp | exact dc_asgM | exact dc_putM | exact dc_putR | exact dc_brk | exact dc_cnt | exact dc_retN | exact dc_drop | exact dc_dead | exact dc_asgX | exact dc_retX | exact dc_dropX | exact dc_raise | refine dc_seq ?_ ?_ | refine dc_if ?_ ?_ | refine dc_frz ?_ | refine dc_for ?_ | refine dc_while ?_)
/-! lowest(top, bottom): 0 top 1 bottom 2 common -/
def w_lowest : WS := (wSeq (wIf (tVal (e2 pEq (eVar 1) (eC (.int 0))))
  wDead
  wNil)
  (wSeq (wAsg 2 (e2 pGcd (eVar 0) (eVar 1)))
  (wSeq (wIf (tVal (e2 pLt (eVar 1) (eC (.int 0))))
  (wAsg 2 (e1 pNeg (eVar 2)))
  wNil)
  (wRet (eTup (aCons (e2 pDiv (eVar 0) (eVar 2)) (aCons (e2 pDiv (eVar 1) (eVar 2)) aNil)))))))
theorem len_lowest : ∀ ds r, F_lowest ds = some r → ds.length = 2 := lenk_lowest
theorem k_lowest : Keeps 3 w_lowest F_lowest := kk_lowest
/-! powers_of(number, most): 0 number 1 most 2 powers 3 _ -/
def w_powers_of : WS := (wSeq (wAsg 2 (eLst (aCons (eC (.int 1)) aNil)))
  (wSeq (wFor (iRange1 (eVar 1)) (gN 3)
  (wApp 2 (e2 pMul (e2 pIx (eVar 2) (e1 pNeg (eC (.int 1)))) (eVar 0))))
  (wFrz 2 (wRet (eVar 2)))))
theorem len_powers_of : ∀ ds r, F_powers_of ds = some r → ds.length = 2 := lenk_powers_of
theorem k_powers_of : Keeps 4 w_powers_of F_powers_of := kk_powers_of
/-! first_fault(faults, rows): 0 faults 1 rows 2 index 3 wrong 4 row -/
def w_first_fault : WS := (wSeq (wFor (iRange1 (e1 pLen (eVar 0))) (gN 2)
  (wSeq (wAsg 3 (e1 pSum (eComp [4] (iSeq (eVar 1)) (gN 4) tYes (e2 pIx (e2 pIx (eVar 0) (eVar 2)) (eVar 4)))))
  (wIf (tVal (e2 pGt (e2 pMul (eC (.int 2)) (eVar 3)) (e1 pLen (eVar 1))))
  (wRet (eVar 2))
  wNil)))
  (wRet (eC .non)))
theorem dc_first_fault : DC w_first_fault := by unfold w_first_fault; walk_at "dc"
noncomputable def F_first_fault : FN := getF 5 2 w_first_fault
theorem len_first_fault : ∀ ds r, F_first_fault ds = some r → ds.length = 2 := getF_len
theorem k_first_fault : Keeps 5 w_first_fault F_first_fault := getF_keeps
/-! chance_table(wrong, total, many, need): 0 wrong 1 total 2 many 3 need 4 table 5 _ 6 before 7 row 8 count -/
def w_chance_table : WS := (wSeq (wAsg 4 (eLst (aCons (e2 pAdd (eLst (aCons (eC (.int 1)) aNil)) (eComp [5] (iRange1 (eVar 3)) (gN 5) tYes (eC (.int 0)))) aNil)))
  (wSeq (wFor (iRange1 (eVar 2)) (gN 5)
  (wSeq (wAsg 6 (e2 pIx (eVar 4) (e1 pNeg (eC (.int 1)))))
  (wSeq (wAsg 7 (eComp [8] (iRange1 (e2 pAdd (eVar 3) (eC (.int 1)))) (gN 8) tYes (e2 pAdd (e2 pMul (eVar 0) (e2 pIx (eVar 6) (e2 pMax2 (e2 pSub (eVar 8) (eC (.int 1))) (eC (.int 0))))) (e2 pMul (e2 pSub (eVar 1) (eVar 0)) (e2 pIx (eVar 6) (eVar 8))))))
  (wFrz 7 (wApp 4 (eVar 7))))))
  (wFrz 4 (wRet (eVar 4)))))
theorem dc_chance_table : DC w_chance_table := by unfold w_chance_table; walk_at "dc"
noncomputable def F_chance_table : FN := getF 9 4 w_chance_table
theorem len_chance_table : ∀ ds r, F_chance_table ds = some r → ds.length = 4 := getF_len
theorem k_chance_table : Keeps 9 w_chance_table F_chance_table := getF_keeps
/-! fault_tables(faults, parts, many, need): 0 faults 1 parts 2 many 3 need 4 total 5 tables 6 bits 7 wrong 8 part 9 bit -/
def w_fault_tables : WS := (wSeq (wAsg 4 (e1 pSum (eVar 1)))
  (wSeq (wAsg 5 (eLst aNil))
  (wSeq (wFor (iSeq (eVar 0)) (gN 6)
  (wSeq (wAsg 7 (e1 pSum (eComp [8, 9] (iZip (eVar 1) (eVar 6)) (gT [8, 9]) tYes (e2 pMul (eVar 8) (eVar 9)))))
  (wApp 5 (eCall F_chance_table (aCons (eVar 7) (aCons (eVar 4) (aCons (eVar 2) (aCons (eVar 3) aNil))))))))
  (wFrz 5 (wRet (eVar 5))))))
theorem dc_fault_tables : DC w_fault_tables := by unfold w_fault_tables; walk_at "dc"
noncomputable def F_fault_tables : FN := getF 10 4 w_fault_tables
theorem len_fault_tables : ∀ ds r, F_fault_tables ds = some r → ds.length = 4 := getF_len
theorem k_fault_tables : Keeps 10 w_fault_tables F_fault_tables := getF_keeps
/-! danger_ways(tables, needs, draws): 0 tables 1 needs 2 draws 3 table 4 need -/
def w_danger_ways : WS := (wRet (e1 pSum (eComp [3, 4] (iZip (eVar 0) (eVar 1)) (gT [3, 4]) tYes (e2 pIx (e2 pIx (eVar 3) (eVar 2)) (e2 pMax2 (eVar 4) (eC (.int 0)))))))
theorem dc_danger_ways : DC w_danger_ways := by unfold w_danger_ways; walk_at "dc"
noncomputable def F_danger_ways : FN := getF 5 3 w_danger_ways
theorem len_danger_ways : ∀ ds r, F_danger_ways ds = some r → ds.length = 3 := getF_len
theorem k_danger_ways : Keeps 5 w_danger_ways F_danger_ways := getF_keeps
/-! least_row(faults, tables, needs, draws): 0 faults 1 tables 2 needs 3 draws 4 best 5 row 6 later 7 ways 8 need 9 bits -/
def w_least_row : WS := (wSeq (wAsg 4 (eC .non))
  (wSeq (wFor (iRange1 (e1 pLen (e2 pIx (eVar 0) (eC (.int 0))))) (gN 5)
  (wSeq (wAsg 6 (eComp [8, 9] (iZip (eVar 2) (eVar 0)) (gT [8, 9]) tYes (e2 pSub (eVar 8) (e2 pIx (eVar 9) (eVar 5)))))
  (wFrz 6 (wSeq (wAsg 7 (eCall F_danger_ways (aCons (eVar 1) (aCons (eVar 6) (aCons (eVar 3) aNil)))))
  (wIf (tOr (tVal (e1 pIsN (eVar 4))) (tVal (e2 pLt (eVar 7) (e2 pIx (eVar 4) (eC (.int 0))))))
  (wAsg 4 (eTup (aCons (eVar 7) (aCons (eVar 5) aNil))))
  wNil)))))
  (wRet (e2 pIx (eVar 4) (eC (.int 1))))))
theorem dc_least_row : DC w_least_row := by unfold w_least_row; walk_at "dc"
noncomputable def F_least_row : FN := getF 10 4 w_least_row
theorem len_least_row : ∀ ds r, F_least_row ds = some r → ds.length = 4 := getF_len
theorem k_least_row : Keeps 10 w_least_row F_least_row := getF_keeps
/-! found_rows(faults, many, weights): 0 faults 1 many 2 weights 3 parts 4 total 5 need 6 tables 7 needs 8 bottom 9 dangers 10 rows 11 step 12 row 13 _ 14 left 15 bits -/
def w_found_rows : WS := (wSeq (wAsg 3 (eComp [13] (iSeq (e2 pIx (eVar 0) (eC (.int 0)))) (gN 13) tYes (eC (.int 1))))
  (wFrz 3 (wSeq (wIf (tVal (e1 pNotN (eVar 2)))
  (wAsg 3 (e1 pList (eVar 2)))
  wNil)
  (wSeq (wAsg 4 (e1 pSum (eVar 3)))
  (wSeq (wAsg 5 (e2 pDiv (e2 pAdd (eVar 1) (eC (.int 1))) (eC (.int 2))))
  (wFrz 3 (wSeq (wAsg 6 (eCall F_fault_tables (aCons (eVar 0) (aCons (eVar 3) (aCons (eVar 1) (aCons (eVar 5) aNil))))))
  (wSeq (wAsg 7 (eComp [13] (iSeq (eVar 0)) (gN 13) tYes (eVar 5)))
  (wFrz 7 (wSeq (wAsg 8 (e2 pIx (eCall F_powers_of (aCons (eVar 4) (aCons (eVar 1) aNil))) (eVar 1)))
  (wSeq (wAsg 9 (eLst (aCons (eCall F_lowest (aCons (eCall F_danger_ways (aCons (eVar 6) (aCons (eVar 7) (aCons (eVar 1) aNil)))) (aCons (eVar 8) aNil))) aNil)))
  (wSeq (wIf (tVal (e2 pGe (e2 pIx (e2 pIx (eVar 9) (eC (.int 0))) (eC (.int 0))) (e2 pIx (e2 pIx (eVar 9) (eC (.int 0))) (eC (.int 1)))))
  (wRaise 16 ["many"] (aCons (eVar 1) aNil))
  wNil)
  (wSeq (wAsg 10 (eLst aNil))
  (wSeq (wFor (iRange1 (eVar 1)) (gN 11)
  (wSeq (wAsg 12 (eCall F_least_row (aCons (eVar 0) (aCons (eVar 6) (aCons (eVar 7) (aCons (e2 pSub (e2 pSub (eVar 1) (eVar 11)) (eC (.int 1))) aNil))))))
  (wSeq (wAsg 7 (eComp [14, 15] (iZip (eVar 7) (eVar 0)) (gT [14, 15]) tYes (e2 pSub (eVar 14) (e2 pIx (eVar 15) (eVar 12)))))
  (wFrz 7 (wSeq (wAsg 8 (e2 pDiv (eVar 8) (eVar 4)))
  (wSeq (wApp 10 (eVar 12))
  (wApp 9 (eCall F_lowest (aCons (eCall F_danger_ways (aCons (eVar 6) (aCons (eVar 7) (aCons (e2 pSub (e2 pSub (eVar 1) (eVar 11)) (eC (.int 1))) aNil)))) (aCons (eVar 8) aNil))))))))))
  (wRet (eMake 21 ["rows", "dangers"] (aCons (e1 pTuple (eVar 10)) (aCons (e1 pTuple (eVar 9)) aNil))))))))))))))))))
theorem dc_found_rows : DC w_found_rows := by unfold w_found_rows; walk_at "dc"
noncomputable def F_found_rows : FX := getX 16 3 w_found_rows
theorem len_found_rows : ∀ ds o, F_found_rows ds = some o → ds.length = 3 := getX_len
theorem k_found_rows : KeepsX 16 w_found_rows F_found_rows := getX_keeps dc_found_rows
/-! _law_whole(value): 0 value -/
def w__law_whole : WS := (wRet (eAnd (e1 (pIsi "int") (eVar 0)) (eNot (e1 (pIsi "bool") (eVar 0)))))
theorem dc__law_whole : DC w__law_whole := by unfold w__law_whole; walk_at "dc"
noncomputable def F__law_whole : FN := getF 1 1 w__law_whole
theorem len__law_whole : ∀ ds r, F__law_whole ds = some r → ds.length = 1 := getF_len
theorem k__law_whole : Keeps 1 w__law_whole F__law_whole := getF_keeps
/-! _law_cell(script, k): 0 script 1 k 2 seed 3 cell -/
def w__law_cell : WS := (wSeq (wIf (tVal (e2 pLt (eVar 1) (e1 pLen (eVar 0))))
  (wRet (e2 pIx (eVar 0) (eVar 1)))
  wNil)
  (wSeq (wAsg 2 (eC (.int 17)))
  (wSeq (wFor (iSeq (eVar 0)) (gN 3)
  (wAsg 2 (e2 pMod (e1 pInt (e2 pAdd (e2 pMul (eVar 2) (eC (.int 31))) (e2 pMod (e1 pInt (eVar 3)) (eC (.int 1000003))))) (eC (.int 1000003)))))
  (wRet (e2 pMod (e1 pInt (e2 pMul (e2 pMul (e2 pAdd (eVar 2) (eC (.int 7))) (e2 pAdd (eVar 1) (eC (.int 3)))) (eC (.int 69621)))) (eC (.int 2147483647)))))))
theorem dc__law_cell : DC w__law_cell := by unfold w__law_cell; walk_at "dc"
noncomputable def F__law_cell : FN := getF 4 2 w__law_cell
theorem len__law_cell : ∀ ds r, F__law_cell ds = some r → ds.length = 2 := getF_len
theorem k__law_cell : Keeps 4 w__law_cell F__law_cell := getF_keeps
/-! _law_digits(cell, sizes): 0 cell 1 sizes 2 row 3 rest 4 seed 5 k 6 size 7 twice -/
def w__law_digits : WS := (wSeq (wAsg 2 (eLst aNil))
  (wSeq (wAsg 3 (e1 pInt (eVar 0)))
  (wSeq (wIf (tVal (e2 pGe (eVar 3) (e2 pPow (eC (.int 10)) (eC (.int 18)))))
  (wSeq (wAsg 3 (e2 pSub (eVar 3) (e2 pPow (eC (.int 10)) (eC (.int 18)))))
  (wSeq (wFor (iSeq (eVar 1)) (gN 6)
  (wSeq (wApp 2 (e2 pMod (e1 pInt (eVar 3)) (eVar 6)))
  (wAsg 3 (e2 pDiv (e1 pInt (eVar 3)) (eVar 6)))))
  (wFrz 2 (wRet (eVar 2)))))
  wNil)
  (wSeq (wAsg 4 (e2 pMod (e1 pInt (eVar 3)) (eC (.int 2147483629))))
  (wSeq (wFor (iRange1 (e1 pLen (eVar 1))) (gN 5)
  (wSeq (wAsg 4 (e2 pMod (e1 pInt (e2 pAdd (e2 pAdd (e2 pMul (eVar 4) (eC (.int 48271))) (e2 pMul (eC (.int 974711)) (eVar 5))) (eC (.int 12345)))) (eC (.int 2147483647))))
  (wSeq (wAsg 7 (e2 pMod (e1 pInt (e2 pMul (eVar 4) (e2 pAdd (e2 pDiv (eVar 4) (eC (.int 65537))) (eC (.int 3))))) (eC (.int 2147483629))))
  (wApp 2 (e2 pMod (e2 pDiv (eVar 7) (eC (.int 19))) (e2 pIx (eVar 1) (eVar 5)))))))
  (wFrz 2 (wRet (eVar 2))))))))
theorem dc__law_digits : DC w__law_digits := by unfold w__law_digits; walk_at "dc"
noncomputable def F__law_digits : FN := getF 8 2 w__law_digits
theorem len__law_digits : ∀ ds r, F__law_digits ds = some r → ds.length = 2 := getF_len
theorem k__law_digits : Keeps 8 w__law_digits F__law_digits := getF_keeps
/-! _law_power(base, count): 0 base 1 count 2 result 3 k -/
def w__law_power : WS := (wSeq (wAsg 2 (eC (.int 1)))
  (wSeq (wFor (iRange1 (eVar 1)) (gN 3)
  (wAsg 2 (e2 pMul (eVar 2) (eVar 0))))
  (wRet (eVar 2))))
theorem dc__law_power : DC w__law_power := by unfold w__law_power; walk_at "dc"
noncomputable def F__law_power : FN := getF 4 2 w__law_power
theorem len__law_power : ∀ ds r, F__law_power ds = some r → ds.length = 2 := getF_len
theorem k__law_power : Keeps 4 w__law_power F__law_power := getF_keeps
/-! _law_long_gcd(one, two): 0 one 1 two 2 left 3 right 4 k 5 rest -/
def w__law_long_gcd : WS := (wSeq (wAsg 2 (e1 pAbs (eVar 0)))
  (wSeq (wAsg 3 (e1 pAbs (eVar 1)))
  (wSeq (wFor (iRange1 (eC (.int 9000))) (gN 4)
  (wSeq (wIf (tVal (e2 pEq (eVar 3) (eC (.int 0))))
  wBrk
  wNil)
  (wSeq (wAsg 5 (e2 pMod (e1 pInt (eVar 2)) (eVar 3)))
  (wSeq (wAsg 2 (eVar 3))
  (wAsg 3 (eVar 5))))))
  (wRet (eVar 2)))))
theorem dc__law_long_gcd : DC w__law_long_gcd := by unfold w__law_long_gcd; walk_at "dc"
noncomputable def F__law_long_gcd : FN := getF 6 2 w__law_long_gcd
theorem len__law_long_gcd : ∀ ds r, F__law_long_gcd ds = some r → ds.length = 2 := getF_len
theorem k__law_long_gcd : Keeps 6 w__law_long_gcd F__law_long_gcd := getF_keeps
/-! _law_exactly(told, top, bottom): 0 told 1 top 2 bottom -/
def w__law_exactly : WS := (wSeq (wIf (tOr (tNot (tVal (e1 (pIsi "tuple") (eVar 0)))) (tVal (e2 pNe (e1 pLen (eVar 0)) (eC (.int 2)))))
  (wRet (eC (.bl false)))
  wNil)
  (wSeq (wIf (tOr (tNot (tVal (eCall F__law_whole (aCons (e2 pIx (eVar 0) (eC (.int 0))) aNil)))) (tOr (tNot (tVal (eCall F__law_whole (aCons (e2 pIx (eVar 0) (eC (.int 1))) aNil)))) (tVal (e2 pLt (e2 pIx (eVar 0) (eC (.int 1))) (eC (.int 1))))))
  (wRet (eC (.bl false)))
  wNil)
  (wRet (eAnd (e2 pEq (e2 pMul (e2 pIx (eVar 0) (eC (.int 0))) (eVar 2)) (e2 pMul (eVar 1) (e2 pIx (eVar 0) (eC (.int 1))))) (e2 pEq (eCall F__law_long_gcd (aCons (e2 pIx (eVar 0) (eC (.int 0))) (aCons (e2 pIx (eVar 0) (eC (.int 1))) aNil))) (eC (.int 1)))))))
theorem dc__law_exactly : DC w__law_exactly := by unfold w__law_exactly; walk_at "dc"
noncomputable def F__law_exactly : FN := getF 3 3 w__law_exactly
theorem len__law_exactly : ∀ ds r, F__law_exactly ds = some r → ds.length = 3 := getF_len
theorem k__law_exactly : Keeps 3 w__law_exactly F__law_exactly := getF_keeps
/-! _law_parts(cell, count): 0 cell 1 count 2 row 3 k 4 one -/
def w__law_parts : WS := (wSeq (wAsg 2 (eCall F__law_digits (aCons (eVar 0) (aCons (e2 pAdd (eLst (aCons (eC (.int 6)) aNil)) (eComp [3] (iRange1 (eVar 1)) (gN 3) tYes (eC (.int 10000)))) aNil))))
  (wSeq (wIf (tVal (e2 pLt (e2 pIx (eVar 2) (eC (.int 0))) (eC (.int 2))))
  (wRet (eC .non))
  wNil)
  (wSeq (wIf (tVal (e2 pEq (e2 pIx (eVar 2) (eC (.int 0))) (eC (.int 2))))
  (wRet (eComp [3] (iRange1 (eVar 1)) (gN 3) tYes (eC (.int 1))))
  wNil)
  (wSeq (wIf (tVal (e2 pEq (e2 pIx (eVar 2) (eC (.int 0))) (eC (.int 3))))
  (wRet (eComp [4] (iSeq (eSlice (eVar 2) (oSome (eC (.int 1))) oNone)) (gN 4) tYes (e2 pAdd (eC (.int 1)) (e2 pMod (e1 pInt (eVar 4)) (eC (.int 4))))))
  wNil)
  (wSeq (wIf (tVal (e2 pEq (e2 pIx (eVar 2) (eC (.int 0))) (eC (.int 4))))
  (wRet (eComp [4] (iSeq (eSlice (eVar 2) (oSome (eC (.int 1))) oNone)) (gN 4) tYes (e2 pAdd (eC (.int 1)) (eVar 4))))
  wNil)
  (wRet (eComp [3] (iRange1 (eVar 1)) (gN 3) tYes (e2 pAdd (eC (.int 1)) (e2 pMul (eC (.int 9999)) (e1 pInt (e2 pEq (eVar 3) (e2 pMod (e1 pInt (e2 pIx (eVar 2) (eC (.int 1)))) (eVar 1)))))))))))))
theorem dc__law_parts : DC w__law_parts := by unfold w__law_parts; walk_at "dc"
noncomputable def F__law_parts : FN := getF 5 2 w__law_parts
theorem len__law_parts : ∀ ds r, F__law_parts ds = some r → ds.length = 2 := getF_len
theorem k__law_parts : Keeps 5 w__law_parts F__law_parts := getF_keeps
/-! _law_wrong_bits(cell, parts, always): 0 cell 1 parts 2 always 3 row 4 least 5 bits 6 wrong 7 one 8 k -/
def w__law_wrong_bits : WS := (wSeq (wAsg 3 (eCall F__law_digits (aCons (eVar 0) (aCons (e2 pAdd (eLst (aCons (eC (.int 40)) aNil)) (eComp [8] (iRange1 (e1 pLen (eVar 1))) (gN 8) tYes (eC (.int 60)))) aNil))))
  (wSeq (wAsg 4 (e2 pIx (eLst (aCons (eC (.int 46)) (aCons (eC (.int 44)) (aCons (eC (.int 42)) (aCons (eC (.int 40)) (aCons (eC (.int 38)) (aCons (eC (.int 36)) (aCons (eC (.int 46)) (aCons (eC (.int 34)) (aCons (eC (.int 45)) (aCons (eC (.int 32)) aNil))))))))))) (e2 pMod (e1 pInt (e2 pIx (eVar 3) (eC (.int 0)))) (eC (.int 10)))))
  (wSeq (wAsg 5 (eComp [7] (iSeq (eSlice (eVar 3) (oSome (eC (.int 1))) oNone)) (gN 7) tYes (e1 pInt (e2 pGe (eVar 7) (eVar 4)))))
  (wFrz 5 (wSeq (wIf (tVal (e2 pEq (e2 pIx (eVar 3) (eC (.int 0))) (eC (.int 39))))
  (wAsg 5 (eComp [7] (iSeq (eSlice (eVar 3) (oSome (eC (.int 1))) oNone)) (gN 7) tYes (eC (.int 1))))
  wNil)
  (wSeq (wAsg 6 (e1 pSum (eComp [8] (iRange1 (e1 pLen (eVar 1))) (gN 8) (tVal (e2 pEq (e2 pIx (eVar 5) (eVar 8)) (eC (.int 1)))) (e2 pIx (eVar 1) (eVar 8)))))
  (wSeq (wIf (tAnd (tVal (e2 pGt (e2 pMul (eC (.int 2)) (eVar 6)) (e1 pSum (eVar 1)))) (tOr (tVal (eVar 2)) (tVal (e2 pLt (e2 pIx (eVar 3) (eC (.int 0))) (eC (.int 36))))))
  (wAsg 5 (eComp [7] (iSeq (eVar 5)) (gN 7) tYes (e2 pSub (eC (.int 1)) (eVar 7))))
  wNil)
  (wFrz 5 (wRet (eVar 5))))))))))
theorem dc__law_wrong_bits : DC w__law_wrong_bits := by unfold w__law_wrong_bits; walk_at "dc"
noncomputable def F__law_wrong_bits : FN := getF 9 3 w__law_wrong_bits
theorem len__law_wrong_bits : ∀ ds r, F__law_wrong_bits ds = some r → ds.length = 3 := getF_len
theorem k__law_wrong_bits : Keeps 9 w__law_wrong_bits F__law_wrong_bits := getF_keeps
/-! _law_spread(wrong, total, many): 0 wrong 1 total 2 many 3 table 4 k 5 last 6 fine 7 worse 8 one 9 j -/
def w__law_spread : WS := (wSeq (wAsg 3 (eLst (aCons (eLst (aCons (eC (.int 1)) aNil)) aNil)))
  (wSeq (wFor (iRange1 (eVar 2)) (gN 4)
  (wSeq (wAsg 5 (e2 pIx (eVar 3) (e1 pNeg (eC (.int 1)))))
  (wSeq (wAsg 6 (e2 pAdd (eComp [8] (iSeq (eVar 5)) (gN 8) tYes (e2 pMul (e2 pSub (eVar 1) (eVar 0)) (eVar 8))) (eLst (aCons (eC (.int 0)) aNil))))
  (wFrz 6 (wSeq (wAsg 7 (e2 pAdd (eLst (aCons (eC (.int 0)) aNil)) (eComp [8] (iSeq (eVar 5)) (gN 8) tYes (e2 pMul (eVar 0) (eVar 8)))))
  (wFrz 7 (wApp 3 (eComp [9] (iRange1 (e2 pAdd (eVar 4) (eC (.int 2)))) (gN 9) tYes (e2 pAdd (e2 pIx (eVar 6) (eVar 9)) (e2 pIx (eVar 7) (eVar 9)))))))))))
  (wFrz 3 (wRet (eVar 3)))))
theorem dc__law_spread : DC w__law_spread := by unfold w__law_spread; walk_at "dc"
noncomputable def F__law_spread : FN := getF 10 3 w__law_spread
theorem len__law_spread : ∀ ds r, F__law_spread ds = some r → ds.length = 3 := getF_len
theorem k__law_spread : Keeps 10 w__law_spread F__law_spread := getF_keeps
/-! _law_spreads(faults, parts, many): 0 faults 1 parts 2 many 3 total 4 bits 5 k -/
def w__law_spreads : WS := (wSeq (wAsg 3 (e1 pSum (eVar 1)))
  (wRet (eComp [4] (iSeq (eVar 0)) (gN 4) tYes (eCall F__law_spread (aCons (e1 pSum (eComp [5] (iRange1 (e1 pLen (eVar 1))) (gN 5) (tVal (e2 pEq (e2 pIx (eVar 4) (eVar 5)) (eC (.int 1)))) (e2 pIx (eVar 1) (eVar 5)))) (aCons (eVar 3) (aCons (eVar 2) aNil)))))))
theorem dc__law_spreads : DC w__law_spreads := by unfold w__law_spreads; walk_at "dc"
noncomputable def F__law_spreads : FN := getF 6 3 w__law_spreads
theorem len__law_spreads : ∀ ds r, F__law_spreads ds = some r → ds.length = 3 := getF_len
theorem k__law_spreads : Keeps 6 w__law_spreads F__law_spreads := getF_keeps
/-! _law_lengths(spreads, total, many): 0 spreads 1 total 2 many 3 entries 4 count 5 whole 6 ways 7 length 8 table -/
def w__law_lengths : WS := (wSeq (wAsg 3 (eLst aNil))
  (wSeq (wFor (iRange3 (eC (.int 1)) (e2 pAdd (eVar 2) (eC (.int 1))) (eC (.int 2))) (gN 4)
  (wSeq (wAsg 5 (eCall F__law_power (aCons (eVar 1) (aCons (eVar 4) aNil))))
  (wSeq (wAsg 6 (eC (.int 0)))
  (wSeq (wAsg 7 (eC (.int 0)))
  (wSeq (wFor (iSeq (eVar 0)) (gN 8)
  (wSeq (wAsg 6 (e2 pAdd (eVar 6) (e1 pSum (eSlice (e2 pIx (eVar 8) (eVar 4)) (oSome (e2 pDiv (e2 pAdd (eVar 4) (eC (.int 1))) (eC (.int 2)))) oNone))))
  (wSeq (wIf (tVal (e2 pGe (eVar 6) (eVar 5)))
  wBrk
  wNil)
  (wAsg 7 (e2 pAdd (eVar 7) (eC (.int 1)))))))
  (wApp 3 (eLst (aCons (eVar 7) (aCons (eVar 4) aNil)))))))))
  (wFrz 3 (wRet (eVar 3)))))
theorem dc__law_lengths : DC w__law_lengths := by unfold w__law_lengths; walk_at "dc"
noncomputable def F__law_lengths : FN := getF 9 3 w__law_lengths
theorem len__law_lengths : ∀ ds r, F__law_lengths ds = some r → ds.length = 3 := getF_len
theorem k__law_lengths : Keeps 9 w__law_lengths F__law_lengths := getF_keeps
/-! _law_path(faults, total, spreads, many): 0 faults 1 total 2 spreads 3 many 4 inputs 5 needs 6 ways 7 chosen 8 k 9 draws 10 both 11 best 12 least 13 row 14 bits 15 here 16 i 17 bit -/
def w__law_path : WS := (wSeq (wAsg 4 (e1 pLen (eVar 0)))
  (wSeq (wAsg 5 (eComp [14] (iSeq (eVar 0)) (gN 14) tYes (e2 pDiv (e2 pAdd (eVar 3) (eC (.int 1))) (eC (.int 2)))))
  (wFrz 5 (wSeq (wAsg 6 (eLst (aCons (e1 pSum (eComp [16] (iRange1 (eVar 4)) (gN 16) tYes (e1 pSum (eSlice (e2 pIx (e2 pIx (eVar 2) (eVar 16)) (eVar 3)) (oSome (e2 pIx (eVar 5) (eVar 16))) oNone)))) aNil)))
  (wSeq (wIf (tVal (e2 pGe (e2 pIx (eVar 6) (eC (.int 0))) (eCall F__law_power (aCons (eVar 1) (aCons (eVar 3) aNil)))))
  (wRet (eC .non))
  wNil)
  (wSeq (wAsg 7 (eLst aNil))
  (wSeq (wFor (iRange1 (eVar 3)) (gN 8)
  (wSeq (wAsg 9 (e2 pSub (e2 pSub (eVar 3) (eVar 8)) (eC (.int 1))))
  (wSeq (wAsg 10 (eComp [16] (iRange1 (eVar 4)) (gN 16) tYes (eComp [17] (iRange1 (eC (.int 2))) (gN 17) tYes (e1 pSum (eSlice (e2 pIx (e2 pIx (eVar 2) (eVar 16)) (eVar 9)) (oSome (e2 pMax2 (e2 pSub (e2 pIx (eVar 5) (eVar 16)) (eVar 17)) (eC (.int 0)))) oNone)))))
  (wFrz 10 (wSeq (wAsg 11 (e1 pNeg (eC (.int 1))))
  (wSeq (wAsg 12 (eC (.int 0)))
  (wSeq (wFor (iRange1 (e1 pLen (e2 pIx (eVar 0) (eC (.int 0))))) (gN 13)
  (wSeq (wAsg 15 (e1 pSum (eComp [16] (iRange1 (eVar 4)) (gN 16) tYes (e2 pIx (e2 pIx (eVar 10) (eVar 16)) (e2 pIx (e2 pIx (eVar 0) (eVar 16)) (eVar 13))))))
  (wIf (tOr (tVal (e2 pLt (eVar 11) (eC (.int 0)))) (tVal (e2 pLt (eVar 15) (eVar 12))))
  (wSeq (wAsg 11 (eVar 13))
  (wAsg 12 (eVar 15)))
  wNil)))
  (wSeq (wApp 7 (eVar 11))
  (wSeq (wApp 6 (eVar 12))
  (wAsg 5 (eComp [16] (iRange1 (eVar 4)) (gN 16) tYes (e2 pSub (e2 pIx (eVar 5) (eVar 16)) (e2 pIx (e2 pIx (eVar 0) (eVar 16)) (eVar 11))))))))))))))
  (wFrz 6 (wFrz 7 (wRet (eLst (aCons (eVar 7) (aCons (eVar 6) aNil)))))))))))))
theorem dc__law_path : DC w__law_path := by unfold w__law_path; walk_at "dc"
noncomputable def F__law_path : FN := getF 18 4 w__law_path
theorem len__law_path : ∀ ds r, F__law_path ds = some r → ds.length = 4 := getF_len
theorem k__law_path : Keeps 18 w__law_path F__law_path := getF_keeps
/-! _law_asked(faults, heavy, many, style): 0 faults 1 heavy 2 many 3 style 4 handed 5 passed 6 told 7 state 8 e 9 bits -/
def w__law_asked : WS := (wSeq (wAsg 4 (eComp [9] (iSeq (eVar 0)) (gN 9) tYes (e1 pList (eVar 9))))
  (wFrz 4 (wSeq (wIf (tVal (e2 pEq (e2 pMod (e1 pInt (eVar 3)) (eC (.int 2))) (eC (.int 1))))
  (wAsg 4 (e1 pTuple (eComp [9] (iSeq (eVar 0)) (gN 9) tYes (e1 pTuple (eVar 9)))))
  wNil)
  (wSeq (wAsg 5 (eVar 1))
  (wSeq (wIf (tAnd (tVal (e1 pNotN (eVar 1))) (tVal (e2 pGt (eVar 3) (eC (.int 1)))))
  (wAsg 5 (e1 pTuple (eVar 1)))
  wNil)
  (wSeq (wIf (tAnd (tVal (e1 pNotN (eVar 1))) (tVal (e2 pLt (eVar 3) (eC (.int 2)))))
  (wAsg 5 (e1 pList (eVar 1)))
  wNil)
  (wSeq (wAsg 6 (eC .non))
  (wSeq (wAsg 7 (eC (.int 0)))
  (wSeq (wTry 8 [16]
  (wIf (tAnd (tVal (e1 pIsN (eVar 1))) (tVal (e2 pGt (eVar 3) (eC (.int 1)))))
  (wAsgX 6 (xCall F_found_rows (aApp (aCons (eVar 4) (aCons (eVar 2) aNil)) (aDfl [.non]))))
  (wFrz 5 (wAsgX 6 (xCall F_found_rows (aApp (aCons (eVar 4) (aCons (eVar 2) aNil)) (aCons (eVar 5) aNil))))))
  fun _ a d => (wSeq (wAsg 7 (eC (.int 2)))
  (wSeq (wIf (tAnd (tVal (eXis a d true (eVar 8))) (tAnd (tVal (eXis a d true (eVar 8))) (tAnd (tVal (eCall F__law_whole (aCons (eXf a d "many" (eVar 8)) aNil))) (tVal (e2 pEq (eXf a d "many" (eVar 8)) (eVar 2))))))
  (wAsg 7 (eC (.int 1)))
  wNil)
  (wSeq (wIf (tVal (eXis a d false (eVar 8)))
  (wAsg 7 (eC (.int 2)))
  wNil)
  (wSeq (wIf (tVal (eXis a d false (eVar 8)))
  (wAsg 7 (eC (.int 2)))
  wNil)
  (wIf (tVal (eXis a d false (eVar 8)))
  (wAsg 7 (eC (.int 2)))
  wNil))))))
  (wSeq (wIf (tOr (tVal (e2 pNe (eComp [9] (iSeq (eVar 4)) (gN 9) tYes (e1 pList (eVar 9))) (eVar 0))) (tAnd (tVal (e1 pNotN (eVar 1))) (tVal (e2 pNe (e1 pList (eVar 5)) (eVar 1)))))
  (wAsg 7 (eC (.int 3)))
  wNil)
  (wRet (eLst (aCons (eVar 7) (aCons (eVar 6) aNil))))))))))))))
noncomputable def F__law_asked : FN := autoF 10 w__law_asked (fun ds r => ds.length = 4 ∧ (fun ds r => match ds with | [h, v, .int m, .int st] => AskedP F_found_rows h v m st r | _ => False) ds r)
theorem len__law_asked : ∀ ds r, F__law_asked ds = some r → ds.length = 4 := fun ds r h => (auto_spec h).1.1
theorem k__law_asked : Keeps 10 w__law_asked F__law_asked := auto_keeps
/-! _law_right(told, faults, total, many, due): 0 told 1 faults 2 total 3 many 4 due 5 whole 6 k 7 bits 8 handed 9 row -/
def w__law_right : WS := (wSeq (wIf (tOr (tNot (tVal (eIsC [21] 21 (eVar 0)))) (tOr (tNot (tVal (e1 (pIsi "tuple") (eFld [21] "rows" (eVar 0))))) (tNot (tVal (e1 (pIsi "tuple") (eFld [21] "dangers" (eVar 0)))))))
  (wRet (eC (.bl false)))
  wNil)
  (wSeq (wIf (tOr (tVal (e2 pNe (e1 pLen (eFld [21] "rows" (eVar 0))) (eVar 3))) (tVal (e2 pNe (e1 pLen (eFld [21] "dangers" (eVar 0))) (e2 pAdd (eVar 3) (eC (.int 1))))))
  (wRet (eC (.bl false)))
  wNil)
  (wSeq (wAsg 5 (eCall F__law_power (aCons (eVar 2) (aCons (eVar 3) aNil))))
  (wSeq (wFor (iRange1 (e2 pAdd (eVar 3) (eC (.int 1)))) (gN 6)
  (wSeq (wIf (tNot (tVal (eCall F__law_exactly (aCons (e2 pIx (eFld [21] "dangers" (eVar 0)) (eVar 6)) (aCons (e2 pIx (e2 pIx (eVar 4) (eC (.int 1))) (eVar 6)) (aCons (eVar 5) aNil))))))
  (wRet (eC (.bl false)))
  wNil)
  (wSeq (wAsg 5 (e2 pDiv (eVar 5) (eVar 2)))
  (wIf (tAnd (tVal (e2 pGt (eVar 6) (eC (.int 0)))) (tVal (e2 pGt (e2 pMul (e2 pIx (e2 pIx (eFld [21] "dangers" (eVar 0)) (eVar 6)) (eC (.int 0))) (e2 pIx (e2 pIx (eFld [21] "dangers" (eVar 0)) (e2 pSub (eVar 6) (eC (.int 1)))) (eC (.int 1)))) (e2 pMul (e2 pIx (e2 pIx (eFld [21] "dangers" (eVar 0)) (e2 pSub (eVar 6) (eC (.int 1)))) (eC (.int 0))) (e2 pIx (e2 pIx (eFld [21] "dangers" (eVar 0)) (eVar 6)) (eC (.int 1)))))))
  (wRet (eC (.bl false)))
  wNil))))
  (wSeq (wFor (iRange1 (eVar 3)) (gN 6)
  (wIf (tOr (tNot (tVal (eCall F__law_whole (aCons (e2 pIx (eFld [21] "rows" (eVar 0)) (eVar 6)) aNil)))) (tVal (e2 pNe (e2 pIx (eFld [21] "rows" (eVar 0)) (eVar 6)) (e2 pIx (e2 pIx (eVar 4) (eC (.int 0))) (eVar 6)))))
  (wRet (eC (.bl false)))
  wNil))
  (wSeq (wFor (iSeq (eVar 1)) (gN 7)
  (wIf (tVal (e2 pGt (e2 pMul (eC (.int 2)) (e1 pSum (eComp [9] (iSeq (e2 pIx (eVar 4) (eC (.int 0)))) (gN 9) tYes (e2 pIx (eVar 7) (eVar 9))))) (eVar 3)))
  (wRet (eC (.bl false)))
  wNil))
  (wSeq (wAsg 8 (e1 pTuple (eComp [7] (iSeq (eVar 1)) (gN 7) tYes (e1 pTuple (eVar 7)))))
  (wRet (eAnd (e2 pEq (e2 pIx (eFld [21] "dangers" (eVar 0)) (eVar 3)) (eTup (aCons (eC (.int 0)) (aCons (eC (.int 1)) aNil)))) (e1 pIsN (eCall F_first_fault (aCons (eVar 8) (aCons (e1 pList (e2 pIx (eVar 4) (eC (.int 0)))) aNil)))))))))))))
theorem dc__law_right : DC w__law_right := by unfold w__law_right; walk_at "dc"
noncomputable def F__law_right : FN := getF 10 5 w__law_right
theorem len__law_right : ∀ ds r, F__law_right ds = some r → ds.length = 5 := getF_len
theorem k__law_right : Keeps 10 w__law_right F__law_right := getF_keeps
/-! _law_checked(faults, heavy, many, spreads, style): 0 faults 1 heavy 2 many 3 spreads 4 style 5 parts 6 due 7 answer 8 bit -/
def w__law_checked : WS := (wSeq (wAsg 5 (eComp [8] (iSeq (e2 pIx (eVar 0) (eC (.int 0)))) (gN 8) tYes (eC (.int 1))))
  (wFrz 5 (wSeq (wIf (tVal (e1 pNotN (eVar 1)))
  (wAsg 5 (eVar 1))
  wNil)
  (wSeq (wAsg 6 (eCall F__law_path (aCons (eVar 0) (aCons (e1 pSum (eVar 5)) (aCons (eVar 3) (aCons (eVar 2) aNil))))))
  (wSeq (wAsg 7 (eCall F__law_asked (aCons (eVar 0) (aCons (eVar 1) (aCons (eVar 2) (aCons (eVar 4) aNil))))))
  (wSeq (wIf (tVal (e1 pIsN (eVar 6)))
  (wRet (e2 pEq (e2 pIx (eVar 7) (eC (.int 0))) (eC (.int 1))))
  wNil)
  (wRet (eAnd (e2 pEq (e2 pIx (eVar 7) (eC (.int 0))) (eC (.int 0))) (eCall F__law_right (aCons (e2 pIx (eVar 7) (eC (.int 1))) (aCons (eVar 0) (aCons (e1 pSum (eVar 5)) (aCons (eVar 2) (aCons (eVar 6) aNil))))))))))))))
theorem dc__law_checked : DC w__law_checked := by unfold w__law_checked; walk_at "dc"
noncomputable def F__law_checked : FN := getF 9 5 w__law_checked
theorem len__law_checked : ∀ ds r, F__law_checked ds = some r → ds.length = 5 := getF_len
theorem k__law_checked : Keeps 9 w__law_checked F__law_checked := getF_keeps
/-! _law_picked(faults, cell): 0 faults 1 cell 2 row 3 picks 4 due 5 i 6 handed 7 dangers 8 kept 9 told 10 bits 11 pick 12 k -/
def w__law_picked : WS := (wSeq (wAsg 2 (eCall F__law_digits (aCons (eVar 1) (aCons (e2 pAdd (eLst (aCons (eC (.int 5)) (aCons (eC (.int 2)) aNil))) (eComp [12] (iRange1 (eC (.int 9))) (gN 12) tYes (e1 pLen (e2 pIx (eVar 0) (eC (.int 0)))))) aNil))))
  (wSeq (wAsg 3 (eSlice (eVar 2) (oSome (eC (.int 2))) (oSome (e2 pAdd (eC (.int 3)) (e2 pMul (eC (.int 2)) (e2 pIx (eVar 2) (eC (.int 0))))))))
  (wFrz 3 (wSeq (wAsg 4 (eC .non))
  (wSeq (wFor (iRange1 (e1 pLen (eVar 0))) (gN 5)
  (wIf (tAnd (tVal (e1 pIsN (eVar 4))) (tVal (e2 pGt (e2 pMul (eC (.int 2)) (e1 pSum (eComp [11] (iSeq (eVar 3)) (gN 11) tYes (e2 pIx (e2 pIx (eVar 0) (eVar 5)) (eVar 11))))) (e1 pLen (eVar 3)))))
  (wAsg 4 (eVar 5))
  wNil))
  (wSeq (wAsg 6 (eComp [10] (iSeq (eVar 0)) (gN 10) tYes (e1 pList (eVar 10))))
  (wFrz 6 (wSeq (wIf (tVal (e2 pEq (e2 pIx (eVar 2) (eC (.int 1))) (eC (.int 1))))
  (wAsg 9 (eCall F_first_fault (aCons (eVar 6) (aCons (e1 pTuple (eVar 3)) aNil))))
  (wAsg 9 (eCall F_first_fault (aCons (eVar 6) (aCons (e1 pList (eVar 3)) aNil)))))
  (wSeq (wIf (tOr (tVal (e2 pNe (eVar 6) (eVar 0))) (tAnd (tVal (e1 pIsN (eVar 4))) (tVal (e1 pNotN (eVar 9)))))
  (wRet (eC (.bl false)))
  wNil)
  (wSeq (wIf (tAnd (tVal (e1 pNotN (eVar 4))) (tOr (tNot (tVal (eCall F__law_whole (aCons (eVar 9) aNil)))) (tVal (e2 pNe (eVar 9) (eVar 4)))))
  (wRet (eC (.bl false)))
  wNil)
  (wSeq (wAsg 7 (e1 pTuple (eComp [11] (iSeq (eVar 3)) (gN 11) tYes (eTup (aCons (eVar 11) (aCons (eC (.int 1)) aNil))))))
  (wSeq (wAsg 8 (eMake 21 ["rows", "dangers"] (aCons (e1 pTuple (eVar 3)) (aCons (eVar 7) aNil))))
  (wRet (eAnd (e1 (pIsi "tuple") (eFld [21] "rows" (eVar 8))) (eAnd (e2 pEq (eFld [21] "rows" (eVar 8)) (e1 pTuple (eVar 3))) (e2 pEq (eFld [21] "dangers" (eVar 8)) (eVar 7)))))))))))))))))
theorem dc__law_picked : DC w__law_picked := by unfold w__law_picked; walk_at "dc"
noncomputable def F__law_picked : FN := getF 13 2 w__law_picked
theorem len__law_picked : ∀ ds r, F__law_picked ds = some r → ds.length = 2 := getF_len
theorem k__law_picked : Keeps 13 w__law_picked F__law_picked := getF_keeps
/-! law(script): 0 script 1 shape 2 inputs 3 count 4 cap 5 heavy 6 other 7 parts 8 turns 9 faults 10 spreads 11 lengths 12 longest 13 odd 14 at 15 many 16 best 17 next_many 18 further 19 pair 20 fair 21 few 22 k 23 entry 24 bit -/
def w_law : WS := (wSeq (wAsg 1 (eCall F__law_digits (aCons (eCall F__law_cell (aCons (eVar 0) (aCons (eC (.int 0)) aNil))) (aCons (eLst (aCons (eC (.int 8)) (aCons (eC (.int 7)) (aCons (eC (.int 9)) (aCons (eC (.int 8)) (aCons (eC (.int 248)) (aCons (eC (.int 8)) (aCons (eC (.int 8)) (aCons (eC (.int 76)) (aCons (eC (.int 2)) (aCons (eC (.int 76)) (aCons (eC (.int 4)) (aCons (eC (.int 4)) (aCons (eC (.int 256)) (aCons (eC (.int 2)) aNil))))))))))))))) aNil))))
  (wSeq (wAsg 2 (e2 pIx (eLst (aCons (eC (.int 5)) (aCons (eC (.int 4)) (aCons (eC (.int 6)) (aCons (eC (.int 3)) (aCons (eC (.int 7)) (aCons (eC (.int 8)) (aCons (eC (.int 2)) (aCons (eC (.int 9)) (aCons (eC (.int 1)) aNil)))))))))) (e2 pIx (eVar 1) (eC (.int 2)))))
  (wSeq (wIf (tVal (e2 pEq (e2 pIx (eVar 1) (eC (.int 0))) (eC (.int 0))))
  (wAsg 2 (e2 pAdd (eC (.int 10)) (e2 pIx (eVar 1) (eC (.int 1)))))
  wNil)
  (wSeq (wAsg 3 (e2 pIx (eLst (aCons (eC (.int 5)) (aCons (eC (.int 4)) (aCons (eC (.int 6)) (aCons (eC (.int 7)) (aCons (eC (.int 8)) (aCons (eC (.int 3)) (aCons (eC (.int 2)) (aCons (eC (.int 1)) aNil))))))))) (e2 pIx (eVar 1) (eC (.int 5)))))
  (wSeq (wIf (tVal (e2 pEq (e2 pIx (eVar 1) (eC (.int 3))) (eC (.int 0))))
  (wAsg 3 (e2 pAdd (eC (.int 9)) (e2 pIx (eVar 1) (eC (.int 4)))))
  wNil)
  (wSeq (wAsg 4 (e2 pIx (eLst (aCons (eC (.int 151)) (aCons (eC (.int 31)) (aCons (eC (.int 21)) (aCons (eC (.int 15)) (aCons (eC (.int 11)) (aCons (eC (.int 9)) (aCons (eC (.int 7)) (aCons (eC (.int 5)) aNil))))))))) (e2 pIx (eVar 1) (eC (.int 6)))))
  (wSeq (wAsg 5 (eCall F__law_parts (aCons (eCall F__law_cell (aCons (eVar 0) (aCons (eC (.int 1)) aNil))) (aCons (eVar 3) aNil))))
  (wSeq (wAsg 6 (eC .non))
  (wSeq (wAsg 7 (eVar 5))
  (wSeq (wIf (tVal (e1 pIsN (eVar 5)))
  (wSeq (wAsg 7 (eComp [22] (iRange1 (eVar 3)) (gN 22) tYes (eC (.int 1))))
  (wFrz 7 (wAsg 6 (eComp [22] (iRange1 (eVar 3)) (gN 22) tYes (e2 pAdd (eC (.int 1)) (e2 pMod (e1 pInt (e2 pAdd (e2 pMul (eC (.int 3)) (eVar 22)) (e2 pIx (eVar 1) (eC (.int 12))))) (eC (.int 5))))))))
  wNil)
  (wSeq (wAsg 8 (e2 pGt (e2 pMod (e1 pInt (e2 pIx (eVar 1) (eC (.int 12)))) (eC (.int 8))) (eC (.int 0))))
  (wSeq (wAsg 9 (eComp [22] (iRange1 (eVar 2)) (gN 22) tYes (eCall F__law_wrong_bits (aCons (eCall F__law_cell (aCons (eVar 0) (aCons (e2 pAdd (eC (.int 2)) (eVar 22)) aNil))) (aCons (eVar 7) (aCons (eAnd (eVar 8) (e2 pEq (eVar 22) (eC (.int 0)))) aNil))))))
  (wSeq (wIf (tVal (e2 pEq (e2 pMod (e1 pInt (e2 pIx (eVar 1) (eC (.int 12)))) (eC (.int 8))) (eC (.int 1))))
  (wPut 9 (e1 pNeg (eC (.int 1))) (e1 pList (e2 pIx (eVar 9) (eC (.int 0)))))
  wNil)
  (wFrz 9 (wSeq (wAsg 10 (eCall F__law_spreads (aCons (eVar 9) (aCons (eVar 7) (aCons (eVar 4) aNil)))))
  (wSeq (wAsg 11 (eCall F__law_lengths (aCons (eVar 10) (aCons (e1 pSum (eVar 7)) (aCons (eVar 4) aNil)))))
  (wSeq (wAsg 12 (e1 pMaxL (eComp [23] (iSeq (eVar 11)) (gN 23) tYes (e2 pIx (eVar 23) (eC (.int 0))))))
  (wSeq (wAsg 13 (eComp [23] (iSeq (eVar 11)) (gN 23) (tVal (e2 pEq (e2 pIx (eVar 23) (eC (.int 0))) (eVar 12))) (e2 pIx (eVar 23) (eC (.int 1)))))
  (wFrz 13 (wSeq (wAsg 14 (e2 pMul (e2 pIx (eVar 1) (eC (.int 8))) (e2 pMod (e1 pInt (e2 pIx (eVar 1) (eC (.int 7)))) (e1 pLen (eVar 13)))))
  (wSeq (wIf (tAnd (tVal (e2 pEq (eVar 14) (eC (.int 0)))) (tVal (e2 pEq (e2 pIx (eVar 13) (eC (.int 0))) (eC (.int 1)))))
  (wAsg 14 (e2 pMin2 (e2 pIx (eVar 1) (eC (.int 10))) (e2 pSub (e1 pLen (eVar 13)) (eC (.int 1)))))
  wNil)
  (wSeq (wAsg 15 (e2 pIx (eVar 13) (eVar 14)))
  (wSeq (wAsg 16 (e2 pMax2 (eC (.int 1)) (eVar 12)))
  (wSeq (wAsg 17 (e2 pAdd (eC (.int 1)) (e2 pMul (eC (.int 2)) (e2 pMod (e1 pInt (e2 pIx (eVar 1) (eC (.int 9)))) (e2 pDiv (e2 pAdd (eVar 4) (eC (.int 1))) (eC (.int 2)))))))
  (wSeq (wIf (tAnd (tVal (e2 pEq (eVar 16) (eVar 2))) (tVal (e2 pGt (e2 pMul (eVar 16) (eVar 3)) (eC (.int 500)))))
  (wAsg 17 (e2 pMin2 (eVar 17) (eC (.int 31))))
  wNil)
  (wSeq (wIf (tNot (tVal (eCall F__law_checked (aCons (eSlice (eVar 9) oNone (oSome (eVar 16))) (aCons (eVar 5) (aCons (eVar 15) (aCons (eSlice (eVar 10) oNone (oSome (eVar 16))) (aCons (e2 pIx (eVar 1) (eC (.int 11))) aNil))))))))
  (wRet (eC (.bl false)))
  wNil)
  (wSeq (wAsg 18 (e2 pMax2 (e2 pAdd (eVar 16) (eC (.int 1))) (e2 pMul (eVar 2) (e2 pIx (eVar 1) (eC (.int 13))))))
  (wSeq (wIf (tNot (tVal (eCall F__law_checked (aCons (eSlice (eVar 9) oNone (oSome (eVar 18))) (aCons (eVar 5) (aCons (eVar 17) (aCons (eSlice (eVar 10) oNone (oSome (eVar 18))) (aCons (e2 pSub (eC (.int 3)) (e2 pIx (eVar 1) (eC (.int 11)))) aNil))))))))
  (wRet (eC (.bl false)))
  wNil)
  (wSeq (wAsgM 19 (mCons (e1 pList (e2 pIx (eVar 9) (eC (.int 0)))) (mCons (eComp [24] (iSeq (e2 pIx (eVar 9) (eC (.int 0)))) (gN 24) tYes (e2 pSub (eC (.int 1)) (eVar 24))) mNil)))
  (wFrz 6 (wSeq (wAsg 20 (eVar 6))
  (wSeq (wIf (tVal (e1 pIsN (eVar 6)))
  (wAsg 20 (eComp [22] (iRange1 (eVar 3)) (gN 22) tYes (eC (.int 1))))
  wNil)
  (wSeq (wAsg 21 (e2 pAdd (eC (.int 1)) (e2 pMul (eC (.int 2)) (e2 pIx (eVar 1) (eC (.int 10))))))
  (wFrz 6 (wFrz 20 (wSeq (wIf (tLook (tNot (tVal (eCall F__law_checked (aCons (eVar 19) (aCons (eVar 6) (aCons (eVar 21) (aCons (eCall F__law_spreads (aCons (eVar 19) (aCons (eVar 20) (aCons (eVar 21) aNil)))) (aCons (e2 pIx (eVar 1) (eC (.int 11))) aNil)))))))))
  (wRet (eC (.bl false)))
  wNil)
  (wSeq (wPutM 19 (eC (.int 0)) (e2 pMod (e1 pInt (e2 pIx (eVar 1) (eC (.int 12)))) (eVar 3)) (eC (.int 0)))
  (wSeq (wPutM 19 (eC (.int 1)) (e2 pMod (e1 pInt (e2 pIx (eVar 1) (eC (.int 12)))) (eVar 3)) (eC (.int 0)))
  (wFrz 6 (wFrz 20 (wSeq (wIf (tLook (tNot (tVal (eCall F__law_checked (aCons (eVar 19) (aCons (eVar 6) (aCons (eVar 21) (aCons (eCall F__law_spreads (aCons (eVar 19) (aCons (eVar 20) (aCons (eVar 21) aNil)))) (aCons (e2 pSub (eC (.int 3)) (e2 pIx (eVar 1) (eC (.int 11)))) aNil)))))))))
  (wRet (eC (.bl false)))
  wNil)
  (wFrz 9 (wSeq (wIf (tOr (tNot (tVal (eCall F__law_picked (aCons (eVar 9) (aCons (eCall F__law_cell (aCons (eVar 0) (aCons (eC (.int 18)) aNil))) aNil))))) (tNot (tVal (eCall F__law_picked (aCons (eSlice (eVar 9) oNone (oSome (eVar 16))) (aCons (eCall F__law_cell (aCons (eVar 0) (aCons (eC (.int 19)) aNil))) aNil))))))
  (wRet (eC (.bl false)))
  wNil)
  (wRet (eOr (e2 pGt (e2 pMul (e2 pMul (eVar 16) (eVar 3)) (eVar 15)) (eC (.int 2000))) (eCall F__law_checked (aCons (eSlice (eVar 9) oNone (oSome (eVar 16))) (aCons (eVar 5) (aCons (eVar 15) (aCons (eSlice (eVar 10) oNone (oSome (eVar 16))) (aCons (e2 pIx (eVar 1) (eC (.int 11))) aNil)))))))))))))))))))))))))))))))))))))))))))))))))))
theorem dc_law : DC w_law := by unfold w_law; walk_at "dc"
noncomputable def F_law : FN := autoF 25 w_law (fun ds r => ds.length = 1 ∧ (fun ds r => ∃ xs ns b, ds = [.lst xs] ∧ intsOf xs = some ns ∧ r = .bl b) ds r)
theorem len_law : ∀ ds r, F_law ds = some r → ds.length = 1 := fun ds r h => (auto_spec h).1.1
theorem k_law : Keeps 25 w_law F_law := auto_keeps
end Pyl
end
section
set_option Elab.async false
set_option linter.all false
set_option maxHeartbeats 1000000
namespace Pyl
open PySem
local macro_rules | `(tactic| walk_at "pe") => `(tactic| simp (config := { implicitDefEqProofs := false }) only [eVar_at, eC_at, e1_at, e2_at, aNil_at, aCons_at, eTup_at, eLst_at, plain_nil, plain_cons, eCall_at, eIf_at, aApp_at, aDfl_at, List.cons_append, List.nil_append, eAnd_at, eOr_at, eNot_at, tVal_at, tAnd_at, tOr_at, tNot_at, tYes_at,
  pAdd_int, pSub_int, pNeg_int, pLt_int, pLe_int, pGt_int, pGe_int, pEq_int, pNe_int, pIsN_at, pNotN_at, pIx_lst, pIx_tup, pGcd_int, atL0, atL1, atL2, atL3, atL4, atL5, atL6, atL7, atL8, oNone_at, oSome_at, eSlice_at, pLen_lst, pLen_tup, pInt_int, pInt_bl, pAbs_int, pSum_ints, pMax2_int, pMin2_int, pList_lst, pList_tup, pTuple_lst, pTuple_tup, iSeq_at, gN_at, gT_at, gsN_cons, gsN_nil, wipeS_cons, wipeS_nil,
  dt_vis, dt_bor, dt_fre, sh_vis, sh_bor, sh_fre, slot_vis, slot_fre, od_dt, isNon_non, isNon_int, isNon_lst, isNon_tup, scalar_int, scalar_bl, scalar_non, Option.bind_some, Option.bind_none, Option.map_some, Option.map_none, List.getElem?_cons_zero, List.getElem?_cons_succ, List.set_cons_zero, List.set_cons_succ, List.map_cons, List.map_nil, List.any_cons, List.any_nil, Bool.or_false, Bool.false_or, Bool.false_and, Bool.and_true, Bool.true_and, Bool.not_true, Bool.not_false,
  Option.some.injEq, exists_eq_left', exists_eq_left, true_and, and_true, if_true, if_false, Bool.false_eq_true, ite_true, ite_false, reduceIte, decide_eq_true_eq, decide_eq_false_iff_not, R.vis.injEq, R.fre.injEq, Dt.lst.injEq, Dt.tup.injEq, Dt.int.injEq, Slot.own.injEq, OD.lst.injEq, reduceCtorEq, false_and, exists_false, exists_const, Bool.true_eq_false, false_implies, true_implies, implies_true, forall_const])


/-! k69: what each def gives -/
theorem whole_at (i : Int) : F__law_whole [.int i] = some (.bl true) := getF_lib dc__law_whole k_whole rfl
theorem cell_at {ns : List Int} {k : Int} (h : 0 ≤ k ∧ k < 4294967296) : F__law_cell [ilst ns, .int k] = some (.int (cellM ns k)) := getF_lib dc__law_cell k_cell (F_cell_at h)
theorem digs_at {c : Int} {ns : List Int} (h : sizeOkW ns) : F__law_digits [.int c, ilst ns] = some (ilst (digitsM c ns)) := getF_lib dc__law_digits k_digitsW (F_digitsW_at h)
theorem lgcd_at {a b : Int} (h : a.natAbs * b.natAbs < 2 ^ 8998) : F__law_long_gcd [.int a, .int b] = some (.int (gcdI a b)) := getF_lib dc__law_long_gcd (kk_gcdN 9000) (gcdN_at h)
theorem pow22 {x : Int} (h0 : 0 ≤ x) (h : x ≤ 3000000) {n : Nat} (hn : n ≤ 152) : (x ^ n).natAbs < 2 ^ 3400 := by
  have h1 : x.natAbs ≤ 2 ^ 22 := by omega
  exact lt_bits (pow_bits h1 n) (by omega)
theorem power_at {x : Int} {n : Nat} (h0 : 0 ≤ x) (h : x ≤ 3000000) (hn : n ≤ 152) : F__law_power [.int x, .int (n : Int)] = some (.int (x ^ n)) := by
  refine getF_eq dc__law_power ?_
  show w__law_power _ [.val (.int x), .val (.int n), .non, .non]
  refine q_asg (r := .vis (.int (x ^ 0))) (by walk_at "pe"; rw [Int.pow_zero]) rfl rfl ?_
  refine q_forRng (lo := 0) (n := n) (fun i e => ∃ z, e = [.val (.int x), .val (.int n), .val (.int (x ^ i)), z]) (by rw [rng1 (n := (n : Int)) rfl (by omega), Int.toNat_natCast]) ⟨_, rfl⟩ ?_ ?_
  · rintro i env hi ⟨z, rfl⟩
    refine ⟨_, by walk_at "pe"; rfl, ?_⟩
    refine s_asg (r := .vis (.int (x ^ (i + 1)))) ?_ rfl rfl ⟨.val (.int (0 + (i : Int))), rfl⟩
    walk_at "pe"
    rw [pMul_int (big_lt (pow22 h0 h (by omega))) (big_lt (n := 64) (by omega)), Int.pow_succ]
  · rintro env ⟨z, rfl⟩
    exact s_ret (r := .vis (.int (x ^ n))) (by walk_at "pe") rfl rfl rfl
theorem exactly_at {a b t w : Int} (hb : 0 < b) (he : a * w = t * b) (hg : gcdI a b = 1) (h1 : a.natAbs < 2 ^ 4000) (h2 : b.natAbs < 2 ^ 4000) (h3 : t.natAbs < 2 ^ 4000) (h4 : w.natAbs < 2 ^ 4000) : F__law_exactly [.tup [.int a, .int b], .int t, .int w] = some (.bl true) := by
  refine getF_eq dc__law_exactly ?_
  show w__law_exactly _ [.val (.tup [.int a, .int b]), .val (.int t), .val (.int w)]
  refine q_ifD (p := False) (by walk_at "pe"; rw [pIsi_tup]; walk_at "pe"; rfl) (fun e => e.elim) fun _ => s_nil ?_
  refine q_ifD (p := False) ?_ (fun e => e.elim) fun _ => s_nil ?_
  · walk_at "pe"
    rw [whole_at, whole_at]
    walk_at "pe"
    rw [decide_eq_false (show ¬ b < 1 by omega)]
    rfl
  · refine s_ret (r := .vis (.bl true)) ?_ rfl rfl rfl
    have hab : a.natAbs * b.natAbs < 2 ^ 8998 := by
      calc a.natAbs * b.natAbs < 2 ^ 4000 * 2 ^ 4000 := Nat.mul_lt_mul'' h1 h2
        _ = 2 ^ 8000 := (Nat.pow_add 2 4000 4000).symm
        _ < 2 ^ 8998 := Nat.pow_lt_pow_right (by decide) (by decide)
    walk_at "pe"
    rw [pMul_int (big_lt h1) (big_lt h4), pMul_int (big_lt h3) (big_lt h2), lgcd_at hab, hg, he]
    walk_at "pe"
    rfl
theorem exact_low {t w : Int} (hw : 0 < w) (h3 : t.natAbs < 2 ^ 4000) (h4 : w.natAbs < 2 ^ 4000) : F__law_exactly [lowD t w, .int t, .int w] = some (.bl true) := by
  obtain ⟨q1, q2⟩ := low_abs (a := t) hw
  exact exactly_at (low_pos hw) (low_cross hw) (low1 hw) (Nat.lt_of_le_of_lt q1 h3) (Nat.lt_of_le_of_lt q2 h4) h3 h4
/-! tables -/
theorem tl_abs {w t : Int} (h0 : 0 ≤ w) (h1 : w ≤ t) (h2 : t ≤ 3000000) {n : Nat} (hn : n ≤ 152) (c : Nat) : (tl w (t - w) n c).natAbs < 2 ^ 3400 := by
  have q1 := tl_nn h0 (show 0 ≤ t - w by omega) n c
  have q2 := tl_le h0 (show 0 ≤ t - w by omega) n c
  rw [show w + (t - w) = t by omega] at q2
  have q3 := pow22 (show 0 ≤ t by omega) h2 hn
  generalize t ^ n = X at q2 q3
  generalize tl w (t - w) n c = Y at q1 q2
  omega
theorem tab_last (w f : Int) (i need : Nat) : atL ((tabT w f i need).map ilst) (-1) = some (ilst (rowT w f need i)) := by
  cases i with
  | zero => rfl
  | succ i => rw [tabT_succ, List.map_append, List.map_cons, List.map_nil, atL_last]
theorem max_nat (j : Nat) : (if (0 : Int) > (j : Int) - 1 then (0 : Int) else (j : Int) - 1) = ((j - 1 : Nat) : Int) := by
  split <;> omega
theorem chance_at {w t : Int} {many need : Nat} (h0 : 0 ≤ w) (h1 : w ≤ t) (h2 : t ≤ 3000000) (hm : many ≤ 151) (hn : need ≤ 100) : F_chance_table [.int w, .int t, .int (many : Int), .int (need : Int)] = some (imat (tabT w (t - w) many need)) := by
  refine getF_eq dc_chance_table ?_
  show w_chance_table _ [.val (.int w), .val (.int t), .val (.int many), .val (.int need), .non, .non, .non, .non, .non]
  refine q_asg (r := .fre (.lst ((tabT w (t - w) 0 need).map ilst))) ?_ rfl rfl ?_
  · rw [eLst_at, aCons_at, e2_at, comp_consts (n := need) (by walk_at "pe") (by omega)]
    have e : rowT w (t - w) need 0 = 1 :: List.replicate need 0 := by
      refine List.ext_getElem? fun j => ?_
      unfold rowT
      rw [List.getElem?_map]
      cases j with
      | zero => rw [List.getElem?_range (by omega)]; rfl
      | succ j =>
        rw [List.getElem?_cons_succ, List.getElem?_replicate]
        by_cases hj : j < need
        · rw [List.getElem?_range (by omega), if_pos hj]; rfl
        · rw [List.getElem?_eq_none (by simp; omega), if_neg hj]; rfl
    show (Option.bind (Option.bind _ _) _) = some (R.fre (.lst [ilst (rowT w (t - w) need 0)]))
    rw [e]
    walk_at "pe"
    rw [pAdd_lst (by simp [LIM]; omega)]
    walk_at "pe"
    rfl
  · refine q_forRng (lo := 0) (n := many) (fun i e => ∃ z5 z6 z7, e = [.val (.int w), .val (.int t), .val (.int many), .val (.int need), .own (.lst ((tabT w (t - w) i need).map ilst)), z5, z6, z7, .non]) (by rw [rng1 (n := (many : Int)) rfl (by omega), Int.toNat_natCast]) ⟨_, _, _, rfl⟩ ?_ ?_
    · rintro i env hi ⟨z5, z6, z7, rfl⟩
      refine ⟨_, by walk_at "pe"; rfl, ?_⟩
      refine q_asg (r := .vis (ilst (rowT w (t - w) need i))) (by walk_at "pe"; rw [tab_last]; rfl) rfl rfl ?_
      refine q_asg (r := .fre (.lst ((rowT w (t - w) need (i + 1)).map .int))) ?_ rfl rfl ?_
      · refine comp_rng (n := need + 1) (f := tl w (t - w) (i + 1)) (by walk_at "pe"; rfl) (by omega) fun j hj => ?_
        have g1 : pIx (ilst (rowT w (t - w) need i)) (.int ((j - 1 : Nat) : Int)) = some (.vis (.int (tl w (t - w) i (j - 1)))) := ix_iseq (b := false) (rowT_get (by omega))
        have g2 : pIx (ilst (rowT w (t - w) need i)) (.int (j : Int)) = some (.vis (.int (tl w (t - w) i j))) := ix_iseq (b := false) (rowT_get (by omega))
        walk_at "pe"
        rw [max_nat, g1, g2]
        walk_at "pe"
        rw [pMul_int (big_lt (n := 64) (by omega)) (big_lt (tl_abs h0 h1 h2 (by omega) _)), pMul_int (big_lt (n := 64) (by omega)) (big_lt (tl_abs h0 h1 h2 (by omega) _))]
        walk_at "pe"
        rfl
      · refine q_frz rfl rfl ?_
        refine s_app (d := ilst (rowT w (t - w) need (i + 1))) rfl (r := .vis (ilst (rowT w (t - w) need (i + 1)))) (by walk_at "pe"; rfl) rfl (by rw [List.length_map, tabT_len]; exact lim_lt (by omega)) rfl rfl ⟨_, _, _, by rw [tabT_succ, List.map_append]; rfl⟩
    · rintro env ⟨z5, z6, z7, rfl⟩
      exact q_frz rfl rfl (s_ret (r := .vis (imat (tabT w (t - w) many need))) (by walk_at "pe"; rfl) rfl rfl rfl)
end Pyl
end
section
set_option Elab.async false
set_option linter.all false
set_option maxHeartbeats 1000000
namespace Pyl
open PySem
local macro_rules | `(tactic| walk_at "pe") => `(tactic| simp (config := { implicitDefEqProofs := false }) only [eVar_at, eC_at, e1_at, e2_at, aNil_at, aCons_at, eTup_at, eLst_at, plain_nil, plain_cons, eCall_at, eIf_at, aApp_at, aDfl_at, List.cons_append, List.nil_append, eAnd_at, eOr_at, eNot_at, tVal_at, tAnd_at, tOr_at, tNot_at, tYes_at,
  pAdd_int, pSub_int, pNeg_int, pLt_int, pLe_int, pGt_int, pGe_int, pEq_int, pNe_int, pIsN_at, pNotN_at, pIx_lst, pIx_tup, pGcd_int, atL0, atL1, atL2, atL3, atL4, atL5, atL6, atL7, atL8, oNone_at, oSome_at, eSlice_at, pLen_lst, pLen_tup, pInt_int, pInt_bl, pAbs_int, pSum_ints, pMax2_int, pMin2_int, pList_lst, pList_tup, pTuple_lst, pTuple_tup, iSeq_at, gN_at, gT_at, gsN_cons, gsN_nil, wipeS_cons, wipeS_nil,
  dt_vis, dt_bor, dt_fre, sh_vis, sh_bor, sh_fre, slot_vis, slot_fre, od_dt, isNon_non, isNon_int, isNon_lst, isNon_tup, scalar_int, scalar_bl, scalar_non, Option.bind_some, Option.bind_none, Option.map_some, Option.map_none, List.getElem?_cons_zero, List.getElem?_cons_succ, List.set_cons_zero, List.set_cons_succ, List.map_cons, List.map_nil, List.any_cons, List.any_nil, Bool.or_false, Bool.false_or, Bool.false_and, Bool.and_true, Bool.true_and, Bool.not_true, Bool.not_false,
  Option.some.injEq, exists_eq_left', exists_eq_left, true_and, and_true, if_true, if_false, Bool.false_eq_true, ite_true, ite_false, reduceIte, decide_eq_true_eq, decide_eq_false_iff_not, R.vis.injEq, R.fre.injEq, Dt.lst.injEq, Dt.tup.injEq, Dt.int.injEq, Slot.own.injEq, OD.lst.injEq, reduceCtorEq, false_and, exists_false, exists_const, Bool.true_eq_false, false_implies, true_implies, implies_true, forall_const])


theorem zipWith_map {α β γ : Type} (f : α → β → γ) : ∀ (a : List α) (b : List β), (a.zip b).map (fun z => f z.1 z.2) = List.zipWith f a b
  | [], _ => by simp
  | _ :: _, [] => by simp
  | x :: a, y :: b => by
    rw [List.zip_cons_cons, List.map_cons, List.zipWith_cons_cons, zipWith_map f a b]
theorem wOf_zip {P b : List Int} (h : b.length = P.length) : ((P.zip b).map fun z => z.1 * z.2).sum = wOf P b := by
  rw [wOf_Sg, ← Sg_list]
  have hl : ((P.zip b).map fun z => z.1 * z.2).length = P.length := by simp [h]
  rw [hl]
  refine Sg_congr fun i hi => ?_
  have hb : i < b.length := by omega
  have e : (P.zip b)[i]? = some (P[i], b[i]) := List.getElem?_zip_eq_some.mpr ⟨List.getElem?_eq_getElem hi, List.getElem?_eq_getElem hb⟩
  rw [List.getD_eq_getElem?_getD, List.getElem?_map, List.getD_eq_getElem?_getD, List.getD_eq_getElem?_getD, List.getElem?_eq_getElem hi, List.getElem?_eq_getElem hb, e]
  rfl
def tabsD (W : List Int) (t : Int) (m need : Nat) : List Dt := W.map fun w => imat (tabT w (t - w) m need)
theorem dang_zip (t : Int) (n : Nat) : ∀ W ns : List Int, ((W.zip ns).map fun z => tl z.1 (t - z.1) n z.2.toNat).sum = dang t W ns n
  | [], _ => by simp [dang]
  | _ :: _, [] => by simp [dang]
  | w :: W, l :: ns => by
    rw [List.zip_cons_cons, List.map_cons, List.sum_cons, dang_zip t n W ns]
    rfl
theorem ok_wOf {p : Pb} (o : p.Ok) {b : List Int} (hb : b ∈ p.F) : 0 ≤ wOf p.P b ∧ wOf p.P b ≤ p.t := wOf_bd o.pn (o.bits b hb)
theorem small_mul {x y : Int} (hx : 0 ≤ x ∧ x ≤ 10000) (hy : y = 0 ∨ y = 1) : pMul (.int x) (.int y) = some (.vis (.int (x * y))) := pMul_int (big_lt (n := 64) (by omega)) (big_lt (n := 64) (by omega))
theorem ok_need {p : Pb} (o : p.Ok) : p.need ≤ 76 := by have := o.m1; unfold Pb.need; omega
theorem tables_at {p : Pb} (o : p.Ok) (s : Bool) : F_fault_tables [imatS s p.F, ilst p.P, .int (p.m : Int), .int (p.need : Int)] = some (.lst (tabsD p.W p.t p.m p.need)) := by
  refine getF_eq dc_fault_tables ?_
  show w_fault_tables _ [.val (imatS s p.F), .val (ilst p.P), .val (.int p.m), .val (.int p.need), .non, .non, .non, .non, .non, .non]
  refine q_asg (r := .vis (.int p.t)) (by walk_at "pe"; rw [sum_iseq]; rfl) rfl rfl ?_
  refine q_asg (r := .fre (.lst [])) (by walk_at "pe") rfl rfl ?_
  refine q_forMap (u := iseq s) (xs := p.F) (fun i e => ∃ z6 z7, e = [.val (imatS s p.F), .val (ilst p.P), .val (.int p.m), .val (.int p.need), .val (.int p.t), .own (.lst (tabsD ((p.F.take i).map (wOf p.P)) p.t p.m p.need)), z6, z7, .non, .non]) (seq_mat (b := s) (by walk_at "pe")) ⟨_, _, rfl⟩ ?_ ?_
  · rintro i env b hb ⟨z6, z7, rfl⟩
    refine ⟨_, by walk_at "pe"; rfl, ?_⟩
    have hm := List.mem_of_getElem? hb
    obtain ⟨hl, hbit⟩ := o.rows b hm
    obtain ⟨w0, w1⟩ := ok_wOf o hm
    refine q_asg (r := .vis (.int (wOf p.P b))) ?_ rfl rfl ?_
    · rw [e1_at, comp_of (xs := p.P.zip b) (u := fun z => Dt.tup [.int z.1, .int z.2]) (f := fun z => z.1 * z.2) (v := Dt.int) (s := false) (zip_of (u := Dt.int) (v := Dt.int) (da := ilst p.P) (db := iseq s b) (by walk_at "pe") (by walk_at "pe") rfl (seqOf_iseq s b)) (by have := o.pl; rw [List.length_zip]; omega) fun z hz => ⟨_, by walk_at "pe"; rfl, .vis (.int (z.1 * z.2)), ?_, rfl, rfl⟩]
      · walk_at "pe"
        rw [wOf_zip hl]
      · have h1 := List.of_mem_zip hz
        have h2 := o.pp _ h1.1
        walk_at "pe"
        rw [small_mul ⟨by omega, by omega⟩ (hbit _ h1.2)]
    · have hc := chance_at (w := wOf p.P b) (t := p.t) (many := p.m) (need := p.need) w0 w1 o.t2 o.m1 (by have := ok_need o; omega)
      refine s_app (d := imat (tabT (wOf p.P b) (p.t - wOf p.P b) p.m p.need)) rfl (r := .vis (imat (tabT (wOf p.P b) (p.t - wOf p.P b) p.m p.need))) (by walk_at "pe"; rw [hc]; rfl) rfl ?_ rfl rfl ⟨.val (iseq s b), .val (.int (wOf p.P b)), ?_⟩
      · unfold tabsD
        have := o.fl
        rw [List.length_map, List.length_map, List.length_take]
        exact lim_lt (by omega)
      · unfold tabsD
        rw [List.take_add_one, hb]
        simp
        rfl
  · rintro env ⟨z6, z7, rfl⟩
    rw [List.take_length]
    exact q_frz rfl rfl (s_ret (r := .vis (.lst (tabsD p.W p.t p.m p.need))) (by walk_at "pe"; rfl) rfl rfl rfl)
theorem max_toNat (l : Int) : (if (0 : Int) > l then (0 : Int) else l) = ((l.toNat : Nat) : Int) := by
  split <;> omega
theorem danger_at {W : List Int} {t : Int} {m need n : Nat} {ns : List Int} (hW : W.length ≤ 1000) (hn : n ≤ m) (hl : ∀ l ∈ ns, l ≤ (need : Int)) : F_danger_ways [.lst (tabsD W t m need), ilst ns, .int (n : Int)] = some (.int (dang t W ns n)) := by
  refine getF_eq dc_danger_ways ?_
  show w_danger_ways _ [.val (.lst (tabsD W t m need)), .val (ilst ns), .val (.int n), .non, .non]
  refine s_ret (r := .vis (.int (dang t W ns n))) ?_ rfl rfl rfl
  rw [e1_at, comp_of (xs := W.zip ns) (u := fun z => Dt.tup [imat (tabT z.1 (t - z.1) m need), .int z.2]) (f := fun z => tl z.1 (t - z.1) n z.2.toNat) (v := Dt.int) (s := false) (zip_of (u := fun w => imat (tabT w (t - w) m need)) (v := Dt.int) (da := .lst (tabsD W t m need)) (db := ilst ns) (by walk_at "pe") (by walk_at "pe") rfl rfl) (by rw [List.length_zip]; omega) fun z hz => ⟨_, by walk_at "pe"; rfl, .vis (.int (tl z.1 (t - z.1) n z.2.toNat)), ?_, rfl, rfl⟩]
  · walk_at "pe"
    rw [dang_zip]
  · have h2 := hl _ (List.of_mem_zip hz).2
    have g1 : pIx (imat (tabT z.1 (t - z.1) m need)) (.int (n : Int)) = some (.vis (iseq false (rowT z.1 (t - z.1) need n))) := ix_imat (b := false) (tabT_get hn)
    have g2 : pIx (iseq false (rowT z.1 (t - z.1) need n)) (.int ((z.2.toNat : Nat) : Int)) = some (.vis (.int (tl z.1 (t - z.1) n z.2.toNat))) := ix_iseq (rowT_get (by omega))
    walk_at "pe"
    rw [g1]
    walk_at "pe"
    rw [max_toNat, g2]
/-! the least row -/
def argD : Option (Int × Nat) → Dt
  | none => .non
  | some (b, r) => .tup [.int b, .int (r : Int)]
theorem bit_ix {s : Bool} {b : List Int} {r : Nat} (h : r < b.length) : pIx (iseq s b) (.int (r : Int)) = some (.vis (.int (b.getD r 0))) := ix_iseqD h
theorem step_comp {env : Sl} {i j : Nat} {fr : EF} {s : Bool} {F : List (List Int)} {ns : List Int} {r : Nat} {fn fF : EF} (h1 : fn env = some (.vis (ilst ns))) (h2 : fF env = some (.vis (imatS s F))) (hl : ns.length ≤ 1000) (hF : ∀ b ∈ F, r < b.length)
    (hv : ∀ (l : Int) (b : List Int), ∃ env', gsN [i, j] [.int l, iseq s b] (wipeS env [i, j]) = some env' ∧ eVar i env' = some (.vis (.int l)) ∧ eVar j env' = some (.vis (iseq s b)) ∧ fr env' = some (.vis (.int (r : Int)))) :
    eComp [i, j] (iZip fn fF) (gT [i, j]) tYes (e2 pSub (eVar i) (e2 pIx (eVar j) fr)) env = some (.fre (.lst ((stepF F ns r).map .int))) := by
  unfold stepF
  rw [← zipWith_map]
  refine comp_of (xs := ns.zip F) (u := fun z => Dt.tup [.int z.1, iseq s z.2]) (f := fun z => z.1 - z.2.getD r 0) (v := Dt.int) (s := false) (zip_of (u := Dt.int) (v := iseq s) (da := ilst ns) (db := imatS s F) h1 h2 rfl (seqOf_imatS s F)) (by rw [List.length_zip]; omega) fun z hz => ?_
  obtain ⟨env', q1, q2, q3, q4⟩ := hv z.1 z.2
  refine ⟨env', q1, .vis (.int (z.1 - z.2.getD r 0)), ?_, rfl, rfl⟩
  rw [e2_at, q2, e2_at, q3, q4]
  show (((pIx (iseq s z.2) (.int (r : Int))).bind fun b => pSub (.int z.1) b.dt)) = _
  rw [bit_ix (hF _ (List.of_mem_zip hz).2)]
  rfl
theorem head_ix {p : Pb} (o : p.Ok) (s : Bool) : ∃ b, p.F[0]? = some b ∧ b.length = p.P.length ∧ pIx (imatS s p.F) (.int 0) = some (.vis (iseq s b)) := by
  have h := o.f0
  cases e : p.F with
  | nil => exact absurd e h
  | cons b F =>
    refine ⟨b, rfl, (o.rows b (by rw [e]; exact List.mem_cons_self)).1, ?_⟩
    exact ix_imat (b := s) (m := b :: F) (i := 0) rfl
theorem way_eq {p : Pb} (o : p.Ok) {ns : List Int} {n : Nat} (hn : n ≤ p.m) (hs : ∀ l ∈ ns, l ≤ (p.need : Int)) (r : Nat) : F_danger_ways [.lst (tabsD p.W p.t p.m p.need), ilst (stepF p.F ns r), .int (n : Int)] = some (.int (p.way ns n r)) := by
  refine danger_at (by unfold Pb.W; rw [List.length_map]; have := o.fl; omega) hn fun l hl => ?_
  unfold stepF at hl
  rw [← zipWith_map] at hl
  obtain ⟨z, hz, rfl⟩ := List.mem_map.mp hl
  obtain ⟨h1, h2⟩ := List.of_mem_zip hz
  have := hs _ h1
  rcases bit_get (o.bits _ h2) r with e | e <;> rw [e] <;> omega
theorem least_at {p : Pb} (o : p.Ok) (s : Bool) {ns : List Int} {n : Nat} (hn : n ≤ p.m) (hl : ns.length = p.F.length) (hs : ∀ l ∈ ns, l ≤ (p.need : Int)) : F_least_row [imatS s p.F, .lst (tabsD p.W p.t p.m p.need), ilst ns, .int (n : Int)] = some (.int (p.pick ns n : Int)) := by
  obtain ⟨b0, g0, l0, x0⟩ := head_ix o s
  refine getF_eq dc_least_row ?_
  show w_least_row _ [.val (imatS s p.F), .val (.lst (tabsD p.W p.t p.m p.need)), .val (ilst ns), .val (.int n), .non, .non, .non, .non, .non, .non]
  have hw := way_eq o hn hs
  generalize Dt.lst (tabsD p.W p.t p.m p.need) = T at hw ⊢
  refine q_asg (r := .vis .non) (by walk_at "pe") rfl rfl ?_
  refine q_forRng (lo := 0) (n := p.P.length) (fun i e => ∃ z5 z6 z7, e = [.val (imatS s p.F), .val T, .val (ilst ns), .val (.int n), .val (argD (argm (p.way ns n) i)), z5, z6, z7, .non, .non]) ?_ ⟨_, _, _, rfl⟩ ?_ ?_
  · rw [rng1 (n := (p.P.length : Int)) ?_ (by have := o.pl; omega), Int.toNat_natCast]
    walk_at "pe"
    rw [x0]
    walk_at "pe"
    rw [pLen_iseq, l0]
  · rintro i env hi ⟨z5, z6, z7, rfl⟩
    refine ⟨_, by walk_at "pe"; rfl, ?_⟩
    rw [Int.zero_add]
    refine q_asg (r := .fre (.lst ((stepF p.F ns i).map .int))) (step_comp (s := s) (by walk_at "pe") (by walk_at "pe") (by have := o.fl; omega) (fun b hb => by rw [(o.rows b hb).1]; exact hi) fun l b => ⟨_, by walk_at "pe"; rfl, by walk_at "pe", by walk_at "pe", by walk_at "pe"⟩) rfl rfl ?_
    refine q_frz rfl rfl ?_
    refine q_asg (r := .vis (.int (p.way ns n i))) (by walk_at "pe"; rw [show F_danger_ways [T, .lst ((stepF p.F ns i).map .int), .int (n : Int)] = _ from hw i]; rfl) rfl rfl ?_
    have nx : argm (p.way ns n) (i + 1) = match argm (p.way ns n) i with
      | none => some (p.way ns n i, i)
      | some (b, r) => if p.way ns n i < b then some (p.way ns n i, i) else some (b, r) := rfl
    cases ha : argm (p.way ns n) i with
    | none =>
      rw [ha] at nx
      refine s_ifD (p := True) (by walk_at "pe"; rfl) (fun _ => s_asg (r := .vis (.tup [.int (p.way ns n i), .int (i : Int)])) (by walk_at "pe") rfl rfl ⟨_, _, _, by rw [nx]; rfl⟩) (fun e => absurd trivial e)
    | some br =>
      obtain ⟨b, r⟩ := br
      rw [ha] at nx
      refine s_ifD (p := p.way ns n i < b) (by unfold argD; walk_at "pe") (fun h => s_asg (r := .vis (.tup [.int (p.way ns n i), .int (i : Int)])) (by walk_at "pe") rfl rfl ⟨_, _, _, by rw [nx]; dsimp only; rw [if_pos h]; rfl⟩) fun h => s_nil ⟨_, _, _, by rw [nx]; dsimp only; rw [if_neg h]; rfl⟩
  · rintro env ⟨z5, z6, z7, rfl⟩
    obtain ⟨b, r, h1, _⟩ := argm_spec (p.way ns n) p.P.length o.p0
    have e : p.pick ns n = r := by unfold Pb.pick; rw [h1]; rfl
    refine s_ret (r := .vis (.int (p.pick ns n : Int))) ?_ rfl rfl rfl
    rw [h1, e]
    unfold argD
    walk_at "pe"
end Pyl
end
section
set_option Elab.async false
set_option linter.all false
set_option maxHeartbeats 2000000
namespace Pyl
open PySem
local macro_rules | `(tactic| walk_at "pe") => `(tactic| simp (config := { implicitDefEqProofs := false }) only [eVar_at, eC_at, e1_at, e2_at, aNil_at, aCons_at, eTup_at, eLst_at, plain_nil, plain_cons, eCall_at, eIf_at, aApp_at, aDfl_at, List.cons_append, List.nil_append, eAnd_at, eOr_at, eNot_at, tVal_at, tAnd_at, tOr_at, tNot_at, tYes_at,
  pAdd_int, pSub_int, pNeg_int, pLt_int, pLe_int, pGt_int, pGe_int, pEq_int, pNe_int, pIsN_at, pNotN_at, pIx_lst, pIx_tup, pGcd_int, atL0, atL1, atL2, atL3, atL4, atL5, atL6, atL7, atL8, oNone_at, oSome_at, eSlice_at, pLen_lst, pLen_tup, pInt_int, pInt_bl, pAbs_int, pSum_ints, pMax2_int, pMin2_int, pList_lst, pList_tup, pTuple_lst, pTuple_tup, iSeq_at, gN_at, gT_at, gsN_cons, gsN_nil, wipeS_cons, wipeS_nil,
  dt_vis, dt_bor, dt_fre, sh_vis, sh_bor, sh_fre, slot_vis, slot_fre, od_dt, isNon_non, isNon_int, isNon_lst, isNon_tup, scalar_int, scalar_bl, scalar_non, Option.bind_some, Option.bind_none, Option.map_some, Option.map_none, List.getElem?_cons_zero, List.getElem?_cons_succ, List.set_cons_zero, List.set_cons_succ, List.map_cons, List.map_nil, List.any_cons, List.any_nil, Bool.or_false, Bool.false_or, Bool.false_and, Bool.and_true, Bool.true_and, Bool.not_true, Bool.not_false,
  Option.some.injEq, exists_eq_left', exists_eq_left, true_and, and_true, if_true, if_false, Bool.false_eq_true, ite_true, ite_false, reduceIte, decide_eq_true_eq, decide_eq_false_iff_not, R.vis.injEq, R.fre.injEq, Dt.lst.injEq, Dt.tup.injEq, Dt.int.injEq, Slot.own.injEq, OD.lst.injEq, reduceCtorEq, false_and, exists_false, exists_const, Bool.true_eq_false, false_implies, true_implies, implies_true, forall_const])


def chs (p : Pb) (k : Nat) : List Int := (List.range k).map fun j => (p.ch j : Int)
def dgs (p : Pb) (k : Nat) : List Dt := (List.range (k + 1)).map fun j => lowD (p.wy j) (p.t ^ (p.m - j))
theorem chs_succ (p : Pb) (k : Nat) : chs p (k + 1) = chs p k ++ [(p.ch k : Int)] := by unfold chs; rw [List.range_succ, List.map_append]; rfl
theorem dgs_succ (p : Pb) (k : Nat) : dgs p (k + 1) = dgs p k ++ [lowD (p.wy (k + 1)) (p.t ^ (p.m - (k + 1)))] := by unfold dgs; rw [List.range_succ, List.map_append]; rfl
theorem chs_len (p : Pb) (k : Nat) : (chs p k).length = k := by unfold chs; simp
theorem dgs_len (p : Pb) (k : Nat) : (dgs p k).length = k + 1 := by unfold dgs; simp
/-- what is told: an error, or rows and dangers -/
def toldX (p : Pb) : Xr := if p.t ^ p.m ≤ p.wy 0 then .er 16 [("many", .int (p.m : Int))] else .ok (.obj 21 [("rows", itup (chs p p.m)), ("dangers", .tup (dgs p p.m))])
theorem low_ge {a b : Int} (hb : 0 < b) : lowB a b ≤ lowT a b ↔ b ≤ a := by
  have h1 := gcd_top a b
  have h2 := gcd_bot a b
  have hg := gcd_pos (a := a) hb
  generalize gcdI a b = g at h1 h2 hg
  generalize lowB a b = u at h2 ⊢
  generalize lowT a b = v at h1 ⊢
  subst h1 h2
  exact ⟨fun h => Int.mul_le_mul_of_nonneg_left h (Int.le_of_lt hg), fun h => Int.le_of_mul_le_mul_left h hg⟩
theorem okW {p : Pb} (o : p.Ok) (r : Dt) (hr : F_danger_ways [.lst (tabsD p.W p.t p.m p.need), ilst (p.nd 0), .int (p.m : Int)] = some r) : r = .int (p.wy 0) := by
  rw [danger_at (by unfold Pb.W; rw [List.length_map]; have := o.fl; omega) (Nat.le_refl _) (Pb.nd_need o 0)] at hr
  exact (Option.some.inj hr).symm
theorem pos_pow {p : Pb} (o : p.Ok) (k : Nat) : 0 < p.t ^ k := Int.pow_pos (by have := o.t1; omega)
theorem abs_pow {p : Pb} (o : p.Ok) {k : Nat} (hk : k ≤ 152) : (p.t ^ k).natAbs < 2 ^ 3400 := pow22 (by have := o.t1; omega) o.t2 hk
theorem low_ok {p : Pb} (o : p.Ok) (x : Int) (k : Nat) (hk : k ≤ 152) : F_lowest [.int x, .int (p.t ^ k)] = some (lowD x (p.t ^ k)) := low_at (pos_pow o k) (Nat.lt_trans (abs_pow o hk) (Nat.pow_lt_pow_right (by decide) (by decide)))
theorem pow_div {p : Pb} (o : p.Ok) {k : Nat} (hk : k < p.m) : pDiv (.int (p.t ^ (p.m - k))) (.int p.t) = some (.vis (.int (p.t ^ (p.m - (k + 1))))) := by
  have h1 := o.t1
  have h2 := o.t2
  rw [pDiv_int (by omega) (div64 (by omega) (by omega))]
  rw [show p.m - k = (p.m - (k + 1)) + 1 by omega, Int.pow_succ, Int.mul_ediv_cancel _ (by omega)]
theorem q_frzE {i : Nat} {a : WS} {D : En} {env env' : Sl} (he : frzS i env = env') (k : a D env') : wFrz i a D env := by
  show a D (frzS i env)
  rw [he]
  exact k
theorem eMake_at {c : Nat} {ns : List Str} {fa : AF} {env : Sl} : eMake c ns fa env = (fa env).bind fun rs => (plain rs).bind fun ds => if ds.length = ns.length then some (.vis (.obj c (ns.zip ds))) else none := rfl
theorem found_at {p : Pb} (o : p.Ok) (s : Bool) {wt : Dt} (hw : (wt = .non ∧ p.P = List.replicate p.P.length 1) ∨ ∃ b, wt = iseq b p.P) : F_found_rows [imatS s p.F, .int (p.m : Int), wt] = some (toldX p) := by
  obtain ⟨b0, g0, l0, x0⟩ := head_ix o s
  refine getX_eq dc_found_rows ?_
  show w_found_rows _ [.val (imatS s p.F), .val (.int p.m), .val wt, .non, .non, .non, .non, .non, .non, .non, .non, .non, .non, .non, .non, .non]
  have htab := tables_at o s
  have hdg : ∀ k, k ≤ p.m → F_danger_ways [.lst (tabsD p.W p.t p.m p.need), ilst (p.nd k), .int ((p.m - k : Nat) : Int)] = some (.int (p.wy k)) := fun k hk => danger_at (by unfold Pb.W; rw [List.length_map]; have := o.fl; omega) (by omega) (Pb.nd_need o k)
  have hlr : ∀ k, k < p.m → F_least_row [imatS s p.F, .lst (tabsD p.W p.t p.m p.need), ilst (p.nd k), .int ((p.m - k - 1 : Nat) : Int)] = some (.int (p.ch k : Int)) := fun k hk => least_at o s (by omega) (Pb.nd_len p k) (Pb.nd_need o k)
  have hlow := low_ok o
  have hfl := o.fl
  have hpl := o.pl
  have hm1 := o.m1
  generalize hT : Dt.lst (tabsD p.W p.t p.m p.need) = T at htab hdg hlr
  -- the parts
  refine q_asg (r := .fre (.lst ((List.replicate p.P.length 1).map .int))) ?_ rfl rfl ?_
  · have hc := comp_of (env := [.val (imatS s p.F), .val (.int p.m), .val wt, .non, .non, .non, .non, .non, .non, .non, .non, .non, .non, .non, .non, .non]) (own := [13]) (fi := iSeq (e2 pIx (eVar 0) (eC (.int 0)))) (g := gN 13) (fe := eC (.int 1)) (s := false) (xs := b0) (u := Dt.int) (f := fun _ => (1 : Int)) (v := Dt.int)
      (seq_ints (b := s) (by walk_at "pe"; exact x0)) (by omega) fun x hx => ⟨_, rfl, .vis (.int 1), rfl, rfl, rfl⟩
    exact hc.trans (by rw [List.map_const', l0])
  refine q_frz rfl rfl ?_
  refine q_cut (fun e => ∃ z3, (z3 = .val (ilst p.P) ∨ z3 = .own (.lst (p.P.map .int))) ∧ e = [.val (imatS s p.F), .val (.int p.m), .val wt, z3, .non, .non, .non, .non, .non, .non, .non, .non, .non, .non, .non, .non]) ?_ ?_
  · rcases hw with ⟨rfl, hP⟩ | ⟨b, rfl⟩
    · refine s_ifD (p := False) (by walk_at "pe"; rfl) (fun e => e.elim) fun _ => s_nil ⟨_, .inl rfl, ?_⟩
      rw [hP, List.length_replicate]
      rfl
    · refine s_ifD (p := True) (by walk_at "pe"; cases b <;> rfl) (fun _ => ?_) fun e => absurd trivial e
      exact s_asg (r := .fre (.lst (p.P.map .int))) (by walk_at "pe"; cases b <;> rfl) rfl rfl ⟨_, .inr rfl, rfl⟩
  rintro env ⟨z3, hz3, rfl⟩
  refine q_asg (r := .vis (.int p.t)) (by rcases hz3 with rfl | rfl <;> (walk_at "pe"; first | rw [sum_iseq] | rfl) <;> rfl) rfl rfl ?_
  refine q_asg (r := .vis (.int (p.need : Int))) ?_ rfl rfl ?_
  · walk_at "pe"
    rw [pDiv_int (by decide) (div64 (by decide) (by decide))]
    unfold Pb.need
    congr 3
  refine q_frzE (env' := [.val (imatS s p.F), .val (.int p.m), .val wt, .val (ilst p.P), .val (.int p.t), .val (.int p.need), .non, .non, .non, .non, .non, .non, .non, .non, .non, .non]) (by rcases hz3 with rfl | rfl <;> rfl) ?_
  refine q_asg (r := .vis T) (by walk_at "pe"; rw [htab]; rfl) rfl rfl ?_
  refine q_asg (r := .fre (.lst ((p.nd 0).map .int))) ?_ rfl rfl ?_
  · have hc := comp_of (env := [.val (imatS s p.F), .val (.int p.m), .val wt, .val (ilst p.P), .val (.int p.t), .val (.int p.need), .val T, .non, .non, .non, .non, .non, .non, .non, .non, .non]) (own := [13]) (fi := iSeq (eVar 0)) (g := gN 13) (fe := eVar 5) (s := false) (xs := p.F) (u := iseq s) (f := fun _ => (p.need : Int)) (v := Dt.int)
      (seq_mat (b := s) (by walk_at "pe")) (by omega) fun x hx => ⟨_, rfl, .vis (.int p.need), rfl, rfl, rfl⟩
    exact hc.trans (by rw [List.map_const']; rfl)
  refine q_frz rfl rfl ?_
  show (wSeq _ _) _ [.val (imatS s p.F), .val (.int p.m), .val wt, .val (ilst p.P), .val (.int p.t), .val (.int p.need), .val T, .val (ilst (p.nd 0)), .non, .non, .non, .non, .non, .non, .non, .non]
  refine q_asg (r := .vis (.int (p.t ^ p.m))) ?_ rfl rfl ?_
  · have h1 := o.t1
    have h2 := o.t2
    walk_at "pe"
    rw [pows_at22 (by omega) (by omega)]
    walk_at "pe"
    exact ix_iseq (b := false) (pows_get (Nat.le_refl _))
  refine q_asg (r := .fre (.lst (dgs p 0))) ?_ rfl rfl ?_
  · walk_at "pe"
    rw [show F_danger_ways [T, ilst (p.nd 0), .int (p.m : Int)] = _ from hdg 0 (Nat.zero_le _)]
    walk_at "pe"
    rw [hlow _ p.m (by omega)]
    walk_at "pe"
    rfl
  refine q_ifD (p := p.t ^ p.m ≤ p.wy 0) ?_ (fun h => ?_) fun h => ?_
  · show tVal (e2 pGe (e2 pIx (e2 pIx (eVar 9) (eC (.int 0))) (eC (.int 0))) (e2 pIx (e2 pIx (eVar 9) (eC (.int 0))) (eC (.int 1)))) [.val (imatS s p.F), .val (.int p.m), .val wt, .val (ilst p.P), .val (.int p.t), .val (.int p.need), .val T, .val (ilst (p.nd 0)), .val (.int (p.t ^ p.m)), .own (.lst [.tup [.int (lowT (p.wy 0) (p.t ^ p.m)), .int (lowB (p.wy 0) (p.t ^ p.m))]]), .non, .non, .non, .non, .non, .non] = _
    walk_at "pe"
    have e := low_ge (a := p.wy 0) (pos_pow o p.m)
    by_cases hc : p.t ^ p.m ≤ p.wy 0
    · rw [decide_eq_true hc, decide_eq_true (e.mpr hc)]
    · rw [decide_eq_false hc, decide_eq_false (fun q => hc (e.mp q))]
  · have e : toldX p = .er 16 [("many", .int (p.m : Int))] := if_pos h
    rw [e]
    exact ⟨[(.int p.m, false)], [.int p.m], rfl, rfl, rfl, rfl⟩
  have e : toldX p = .ok (.obj 21 [("rows", itup (chs p p.m)), ("dangers", .tup (dgs p p.m))]) := if_neg h
  rw [e]
  refine s_nil ?_
  refine q_asg (r := .fre (.lst [])) (by walk_at "pe") rfl rfl ?_
  refine q_forRng (lo := 0) (n := p.m) (fun i e => ∃ z11 z12, e = [.val (imatS s p.F), .val (.int p.m), .val wt, .val (ilst p.P), .val (.int p.t), .val (.int p.need), .val T, .val (ilst (p.nd i)), .val (.int (p.t ^ (p.m - i))), .own (.lst (dgs p i)), .own (.lst ((chs p i).map .int)), z11, z12, .non, .non, .non]) (by rw [rng1 (n := (p.m : Int)) (by walk_at "pe") (by omega), Int.toNat_natCast]) ⟨_, _, rfl⟩ ?_ ?_
  · rintro i env hi ⟨z11, z12, rfl⟩
    refine ⟨_, by walk_at "pe"; rfl, ?_⟩
    rw [Int.zero_add]
    have ei : (p.m : Int) - (i : Int) - 1 = ((p.m - i - 1 : Nat) : Int) := by omega
    have ei2 : ((p.m - i - 1 : Nat) : Int) = ((p.m - (i + 1) : Nat) : Int) := by omega
    refine q_asg (r := .vis (.int (p.ch i : Int))) (by walk_at "pe"; rw [ei, hlr i hi]; rfl) rfl rfl ?_
    refine q_asg (r := .fre (.lst ((p.nd (i + 1)).map .int))) (step_comp (s := s) (r := p.ch i) (by walk_at "pe") (by walk_at "pe") (by rw [Pb.nd_len]; omega) (fun b hb => by rw [(o.rows b hb).1]; exact Pb.ch_lt o i) fun l b => ⟨_, by walk_at "pe"; rfl, by walk_at "pe", by walk_at "pe", by walk_at "pe"⟩) rfl rfl ?_
    refine q_frz rfl rfl ?_
    show (wSeq _ _) _ [.val (imatS s p.F), .val (.int p.m), .val wt, .val (ilst p.P), .val (.int p.t), .val (.int p.need), .val T, .val (ilst (p.nd (i + 1))), .val (.int (p.t ^ (p.m - i))), .own (.lst (dgs p i)), .own (.lst ((chs p i).map .int)), .val (.int i), .val (.int (p.ch i : Int)), .non, .non, .non]
    refine q_asg (r := .vis (.int (p.t ^ (p.m - (i + 1))))) (by walk_at "pe"; exact pow_div o hi) rfl rfl ?_
    refine q_app (d := .int (p.ch i : Int)) rfl (r := .vis (.int (p.ch i : Int))) (by walk_at "pe") rfl (by rw [List.length_map, chs_len]; exact lim_lt (by omega)) rfl rfl ?_
    refine s_app (d := lowD (p.wy (i + 1)) (p.t ^ (p.m - (i + 1)))) rfl (r := .vis (lowD (p.wy (i + 1)) (p.t ^ (p.m - (i + 1))))) ?_ rfl (by rw [dgs_len]; exact lim_lt (by omega)) rfl rfl ⟨.val (.int i), .val (.int (p.ch i : Int)), ?_⟩
    · walk_at "pe"
      rw [ei, ei2, hdg (i + 1) (by omega)]
      walk_at "pe"
      rw [hlow _ _ (by omega)]
      rfl
    · rw [chs_succ, dgs_succ, List.map_append]
      rfl
  · rintro env ⟨z11, z12, rfl⟩
    refine s_ret (r := .vis (.obj 21 [("rows", itup (chs p p.m)), ("dangers", .tup (dgs p p.m))])) ?_ rfl rfl rfl
    rw [eMake_at]
    walk_at "pe"
    rfl
end Pyl
end
section
set_option Elab.async false
set_option linter.all false
set_option maxHeartbeats 2000000
namespace Pyl
open PySem
local macro_rules | `(tactic| walk_at "pe") => `(tactic| simp (config := { implicitDefEqProofs := false }) only [eVar_at, eC_at, e1_at, e2_at, aNil_at, aCons_at, eTup_at, eLst_at, plain_nil, plain_cons, eCall_at, eIf_at, aApp_at, aDfl_at, List.cons_append, List.nil_append, eAnd_at, eOr_at, eNot_at, tVal_at, tAnd_at, tOr_at, tNot_at, tYes_at,
  pAdd_int, pSub_int, pNeg_int, pLt_int, pLe_int, pGt_int, pGe_int, pEq_int, pNe_int, pIsN_at, pNotN_at, pIx_lst, pIx_tup, pGcd_int, atL0, atL1, atL2, atL3, atL4, atL5, atL6, atL7, atL8, oNone_at, oSome_at, eSlice_at, pLen_lst, pLen_tup, pInt_int, pInt_bl, pAbs_int, pSum_ints, pMax2_int, pMin2_int, pList_lst, pList_tup, pTuple_lst, pTuple_tup, iSeq_at, gN_at, gT_at, gsN_cons, gsN_nil, wipeS_cons, wipeS_nil,
  dt_vis, dt_bor, dt_fre, sh_vis, sh_bor, sh_fre, slot_vis, slot_fre, od_dt, isNon_non, isNon_int, isNon_lst, isNon_tup, scalar_int, scalar_bl, scalar_non, Option.bind_some, Option.bind_none, Option.map_some, Option.map_none, List.getElem?_cons_zero, List.getElem?_cons_succ, List.set_cons_zero, List.set_cons_succ, List.map_cons, List.map_nil, List.any_cons, List.any_nil, Bool.or_false, Bool.false_or, Bool.false_and, Bool.and_true, Bool.true_and, Bool.not_true, Bool.not_false,
  Option.some.injEq, exists_eq_left', exists_eq_left, true_and, and_true, if_true, if_false, Bool.false_eq_true, ite_true, ite_false, reduceIte, decide_eq_true_eq, decide_eq_false_iff_not, R.vis.injEq, R.fre.injEq, Dt.lst.injEq, Dt.tup.injEq, Dt.int.injEq, Slot.own.injEq, OD.lst.injEq, reduceCtorEq, false_and, exists_false, exists_const, Bool.true_eq_false, false_implies, true_implies, implies_true, forall_const])


theorem range_zip {a b : List Int} {n : Nat} (ha : a.length = n) (hb : b.length = n) : (List.range n).map (fun j => a.getD j 0 + b.getD j 0) = List.zipWith (· + ·) a b := by
  refine List.ext_getElem (by simp [ha, hb]) fun i h1 h2 => ?_
  simp at h1
  rw [List.getElem_map, List.getElem_range, List.getElem_zipWith, List.getD_eq_getElem?_getD, List.getD_eq_getElem?_getD, List.getElem?_eq_getElem (by omega), List.getElem?_eq_getElem (by omega)]
  rfl
theorem spr_last (w f : Int) (i : Nat) : atL ((sprs w f i).map ilst) (-1) = some (ilst (spr w f i)) := by
  cases i with
  | zero => rfl
  | succ i => rw [sprs_succ, List.map_append, List.map_cons, List.map_nil, atL_last]
theorem sprs_map (w f : Int) (i : Nat) : (sprs w f (i + 1)).map ilst = (sprs w f i).map ilst ++ [ilst (spr w f (i + 1))] := by
  rw [sprs_succ, List.map_append]
  rfl
theorem scale_comp {env : Sl} {k : Nat} {fi fc : EF} {c : Int} {l : List Int} (h : fi env = some (.vis (ilst l))) (hl : l.length ≤ 4000000) (hk : k < env.length) (hc : ∀ x : Int, fc ((wipeS env [k]).set k (.val (.int x))) = some (.vis (.int c))) (hm : ∀ x ∈ l, pMul (.int c) (.int x) = some (.vis (.int (c * x)))) :
    eComp [k] (iSeq fi) (gN k) tYes (e2 pMul fc (eVar k)) env = some (.fre (.lst ((l.map (c * ·)).map .int))) := by
  refine comp_of (xs := l) (u := Dt.int) (f := (c * ·)) (v := Dt.int) (s := false) (seq_ints (b := false) h) hl fun x hx => ⟨_, rfl, .vis (.int (c * x)), ?_, rfl, rfl⟩
  have e : ((wipeS env [k]).set k (.val (.int x)))[k]? = some (.val (.int x)) := List.getElem?_set_self (by rw [wipeS_cons, wipeS_nil, List.length_set]; exact hk)
  rw [e2_at, hc x, eVar_at, e]
  exact hm x hx
theorem spread_at {w t : Int} {m : Nat} (h0 : 0 ≤ w) (h1 : w ≤ t) (h2 : t ≤ 3000000) (hm : m ≤ 151) : F__law_spread [.int w, .int t, .int (m : Int)] = some (imat (sprs w (t - w) m)) := by
  refine getF_eq dc__law_spread ?_
  show w__law_spread _ [.val (.int w), .val (.int t), .val (.int m), .non, .non, .non, .non, .non, .non, .non]
  have hb : ∀ i, i ≤ 152 → ∀ x ∈ spr w (t - w) i, x.natAbs < 2 ^ 3400 := fun i hi x hx => by
    obtain ⟨q1, q2⟩ := spr_bd h0 (show 0 ≤ t - w by omega) i x hx
    rw [show w + (t - w) = t by omega] at q2
    have q3 := pow22 (show 0 ≤ t by omega) h2 hi
    generalize t ^ i = X at q2 q3
    omega
  refine q_asg (r := .fre (.lst ((sprs w (t - w) 0).map ilst))) (by walk_at "pe"; rfl) rfl rfl ?_
  refine q_forRng (lo := 0) (n := m) (fun i e => ∃ z4 z5 z6 z7, e = [.val (.int w), .val (.int t), .val (.int m), .own (.lst ((sprs w (t - w) i).map ilst)), z4, z5, z6, z7, .non, .non]) (by rw [rng1 (n := (m : Int)) (by walk_at "pe") (by omega), Int.toNat_natCast]) ⟨_, _, _, _, rfl⟩ ?_ ?_
  · rintro i env hi ⟨z4, z5, z6, z7, rfl⟩
    refine ⟨_, by walk_at "pe"; rfl, ?_⟩
    rw [Int.zero_add]
    have hl := spr_len w (t - w) i
    refine q_asg (r := .vis (ilst (spr w (t - w) i))) (by walk_at "pe"; rw [spr_last]; rfl) rfl rfl ?_
    refine q_asg (r := .fre (.lst (((spr w (t - w) i).map ((t - w) * ·) ++ [0]).map .int))) ?_ rfl rfl ?_
    · rw [e2_at, scale_comp (c := t - w) (by walk_at "pe") (by omega) (by show 8 < 10; decide) (fun x => by walk_at "pe") fun x hx => pMul_int (big_lt (n := 64) (by omega)) (big_lt (hb i (by omega) x hx))]
      walk_at "pe"
      rw [pAdd_lst (by simp [LIM, hl]; omega)]
      simp
    refine q_frz rfl rfl ?_
    refine q_asg (r := .fre (.lst ((0 :: (spr w (t - w) i).map (w * ·)).map .int))) ?_ rfl rfl ?_
    · rw [e2_at, scale_comp (c := w) (by walk_at "pe") (by omega) (by show 8 < 10; decide) (fun x => by walk_at "pe") fun x hx => pMul_int (big_lt (n := 64) (by omega)) (big_lt (hb i (by omega) x hx))]
      walk_at "pe"
      rw [pAdd_lst (by simp [LIM, hl]; omega)]
      simp
    refine q_frz rfl rfl ?_
    refine s_app (d := ilst (spr w (t - w) (i + 1))) rfl (r := .fre (.lst ((spr w (t - w) (i + 1)).map .int))) ?_ rfl (by rw [List.length_map, sprs_len]; exact lim_lt (by omega)) rfl rfl ⟨.val (.int i), .val (ilst (spr w (t - w) i)), _, _, by rw [sprs_map]; rfl⟩
    have hfl : ((spr w (t - w) i).map ((t - w) * ·) ++ [0]).length = i + 2 := by simp [hl]
    have hwl : (0 :: (spr w (t - w) i).map (w * ·)).length = i + 2 := by simp [hl]
    have hz := range_zip hfl hwl
    refine (comp_rng (n := i + 2) (f := fun j => ((spr w (t - w) i).map ((t - w) * ·) ++ [0]).getD j 0 + (0 :: (spr w (t - w) i).map (w * ·)).getD j 0) (by walk_at "pe"; rfl) (by omega) fun j hj => ?_).trans (by rw [hz]; rfl)
    generalize (spr w (t - w) i).map ((t - w) * ·) ++ [0] = A at hfl ⊢
    generalize (0 :: (spr w (t - w) i).map (w * ·)) = B at hwl ⊢
    walk_at "pe"
    rw [getD_at (by omega), getD_at (by omega)]
    walk_at "pe"
  · rintro env ⟨z4, z5, z6, z7, rfl⟩
    exact q_frz rfl rfl (s_ret (r := .vis (imat (sprs w (t - w) m))) (by walk_at "pe"; rfl) rfl rfl rfl)
/-! spreads -/
theorem filt_sum (P b : List Int) (hb : Bit b) : ∀ n : Nat, ((((List.range n).filter fun k => decide (b.getD k 0 = 1)).map fun k => P.getD k 0).sum) = Sg n fun j => P.getD j 0 * b.getD j 0
  | 0 => rfl
  | n + 1 => by
    rw [List.range_succ, List.filter_append, List.map_append, List.sum_append, filt_sum P b hb n, Sg_succ]
    rcases bit_get hb n with e | e
    · rw [List.filter_cons_of_neg (by rw [e]; decide), e]
      simp
    · rw [List.filter_cons_of_pos (by rw [e]; decide), e]
      simp
def sprD (F : List (List Int)) (P : List Int) (m : Nat) : List Dt := F.map fun b => imat (sprs (wOf P b) (P.sum - wOf P b) m)
structure OkF (F : List (List Int)) (P : List Int) : Prop where
  fl : F.length ≤ 100
  rows : ∀ b ∈ F, b.length = P.length ∧ Bit b
  p0 : 0 < P.length
  pl : P.length ≤ 300
  pp : ∀ x ∈ P, 1 ≤ x ∧ x ≤ 10000
theorem OkF.t2 {F : List (List Int)} {P : List Int} (o : OkF F P) : P.sum ≤ 3000000 := by
  have h := Pb.sum_bd (l := P) (B := 10000) fun x hx => (o.pp x hx).2
  have := o.pl
  omega
theorem spreads_at {F : List (List Int)} {P : List Int} {m : Nat} (o : OkF F P) (hm : m ≤ 151) (s : Bool) : F__law_spreads [imatS s F, ilst P, .int (m : Int)] = some (.lst (sprD F P m)) := by
  refine getF_eq dc__law_spreads ?_
  show w__law_spreads _ [.val (imatS s F), .val (ilst P), .val (.int m), .non, .non, .non]
  refine q_asg (r := .vis (.int P.sum)) (by walk_at "pe"; rw [sum_iseq]) rfl rfl ?_
  have hfl := o.fl
  have hpl := o.pl
  have hc := comp_of (env := [.val (imatS s F), .val (ilst P), .val (.int m), .val (.int P.sum), .non, .non]) (own := [4]) (fi := iSeq (eVar 0)) (g := gN 4) (s := false) (xs := F) (u := iseq s) (f := fun b => sprs (wOf P b) (P.sum - wOf P b) m) (v := imat)
    (fe := eCall F__law_spread (aCons (e1 pSum (eComp [5] (iRange1 (e1 pLen (eVar 1))) (gN 5) (tVal (e2 pEq (e2 pIx (eVar 4) (eVar 5)) (eC (.int 1)))) (e2 pIx (eVar 1) (eVar 5)))) (aCons (eVar 3) (aCons (eVar 2) aNil)))) (seq_mat (b := s) (by walk_at "pe")) (by omega) fun b hb => ⟨_, rfl, .vis (imat (sprs (wOf P b) (P.sum - wOf P b) m)), ?_, rfl, rfl⟩
  · refine s_ret (r := .fre (.lst (sprD F P m))) (hc.trans ?_) rfl rfl rfl
    unfold sprD
    rw [List.map_map]
    rfl
  · obtain ⟨hl, hbit⟩ := o.rows b hb
    have hw := wOf_bd (fun x hx => by have := (o.pp x hx).1; omega) hbit
    show eCall F__law_spread _ [.val (imatS s F), .val (ilst P), .val (.int m), .val (.int P.sum), .val (iseq s b), .non] = _
    rw [eCall_at, aCons_at, e1_at, comp_filt (xs := List.range P.length) (u := fun j : Nat => Dt.int (j : Int)) (p := fun k => decide (b.getD k 0 = 1)) (f := fun k => P.getD k 0) (v := Dt.int) (s := false) (rngN (n := P.length) (by walk_at "pe"; exact pLen_iseq false P) (by omega)) (by rw [List.length_range]; omega) fun k hk => ⟨_, rfl, ?_, fun _ => ⟨.vis (.int (P.getD k 0)), ?_, rfl, rfl⟩⟩]
    · walk_at "pe"
      rw [filt_sum P b hbit, ← wOf_Sg, spread_at hw.1 hw.2 o.t2 hm]
      walk_at "pe"
    · have g1 := ix_iseqD (b := s) (show k < b.length by rw [hl]; exact List.mem_range.mp hk)
      walk_at "pe"
      rw [g1]
      walk_at "pe"
    · have g1 := ix_iseqD (b := false) (List.mem_range.mp hk)
      walk_at "pe"
      exact g1
end Pyl
end
section
set_option Elab.async false
set_option linter.all false
set_option maxHeartbeats 2000000
namespace Pyl
open PySem
local macro_rules | `(tactic| walk_at "pe") => `(tactic| simp (config := { implicitDefEqProofs := false }) only [eVar_at, eC_at, e1_at, e2_at, aNil_at, aCons_at, eTup_at, eLst_at, plain_nil, plain_cons, eCall_at, eIf_at, aApp_at, aDfl_at, List.cons_append, List.nil_append, eAnd_at, eOr_at, eNot_at, tVal_at, tAnd_at, tOr_at, tNot_at, tYes_at,
  pAdd_int, pSub_int, pNeg_int, pLt_int, pLe_int, pGt_int, pGe_int, pEq_int, pNe_int, pIsN_at, pNotN_at, pIx_lst, pIx_tup, pGcd_int, atL0, atL1, atL2, atL3, atL4, atL5, atL6, atL7, atL8, oNone_at, oSome_at, eSlice_at, pLen_lst, pLen_tup, pInt_int, pInt_bl, pAbs_int, pSum_ints, pMax2_int, pMin2_int, pList_lst, pList_tup, pTuple_lst, pTuple_tup, iSeq_at, gN_at, gT_at, gsN_cons, gsN_nil, wipeS_cons, wipeS_nil,
  dt_vis, dt_bor, dt_fre, sh_vis, sh_bor, sh_fre, slot_vis, slot_fre, od_dt, isNon_non, isNon_int, isNon_lst, isNon_tup, scalar_int, scalar_bl, scalar_non, Option.bind_some, Option.bind_none, Option.map_some, Option.map_none, List.getElem?_cons_zero, List.getElem?_cons_succ, List.set_cons_zero, List.set_cons_succ, List.map_cons, List.map_nil, List.any_cons, List.any_nil, Bool.or_false, Bool.false_or, Bool.false_and, Bool.and_true, Bool.true_and, Bool.not_true, Bool.not_false,
  Option.some.injEq, exists_eq_left', exists_eq_left, true_and, and_true, if_true, if_false, Bool.false_eq_true, ite_true, ite_false, reduceIte, decide_eq_true_eq, decide_eq_false_iff_not, R.vis.injEq, R.fre.injEq, Dt.lst.injEq, Dt.tup.injEq, Dt.int.injEq, Slot.own.injEq, OD.lst.injEq, reduceCtorEq, false_and, exists_false, exists_const, Bool.true_eq_false, false_implies, true_implies, implies_true, forall_const])


/-! lengths: the end of a table's row -/
theorem sum_drop {env : Sl} {fa fb : EF} {row : List Int} {c : Nat} (h : fa env = some (.vis (ilst row))) (hb : fb env = some (.vis (.int (c : Int)))) : e1 pSum (eSlice fa (oSome fb) oNone) env = some (.vis (.int ((row.drop c).sum))) := by
  rw [e1_at, eSlice_at, h, oSome_at, hb]
  show ((some (R.fre (.lst (cutD (row.map .int) (some (c : Int)) none)))).bind fun a => pSum a.dt) = _
  rw [cutD_from, ← List.map_drop]
  show pSum (.lst ((row.drop c).map .int)) = _
  rw [pSum_ints]
theorem sprD_get {F : List (List Int)} {P : List Int} {m i : Nat} {b : List Int} (h : F[i]? = some b) : (sprD F P m)[i]? = some (imat (sprs (wOf P b) (P.sum - wOf P b) m)) := by
  unfold sprD
  rw [List.getElem?_map, h]
  rfl
theorem lengths_at {F : List (List Int)} {P : List Int} {cap : Nat} (o : OkF F P) (hc : 1 ≤ cap) (hm : cap ≤ 151) : ∃ r, F__law_lengths [.lst (sprD F P cap), .int P.sum, .int (cap : Int)] = some r ∧
    ∃ E : List (Int × Int), r = .lst (E.map fun e => ilst [e.1, e.2]) ∧ E ≠ [] ∧ E.length ≤ 200 ∧ ∀ e ∈ E, (0 ≤ e.1 ∧ e.1 ≤ (F.length : Int)) ∧ 1 ≤ e.2 ∧ e.2 ≤ (cap : Int) := by
  refine getF_rel dc__law_lengths ?_
  show w__law_lengths _ [.val (.lst (sprD F P cap)), .val (.int P.sum), .val (.int cap), .non, .non, .non, .non, .non, .non]
  have ht0 : 0 ≤ P.sum := sum_nonneg fun x hx => by have := (o.pp x hx).1; omega
  have ht2 := o.t2
  have hfl := o.fl
  refine q_asg (r := .fre (.lst [])) (by walk_at "pe") rfl rfl ?_
  obtain ⟨n, hn⟩ : ∃ n, n = (cap + 1) / 2 := ⟨_, rfl⟩
  have hst : stepN 1 ((cap : Int) + 1) 2 = n := by
    unfold stepN
    rw [if_pos (by decide), if_pos (by omega)]
    omega
  refine q_forStep (lo := 1) (c := 2) (n := n) (fun i e => ∃ (E : List (Int × Int)) (z4 z5 z6 z7 z8 : Slot), (E.length = i ∧ ∀ e ∈ E, (0 ≤ e.1 ∧ e.1 ≤ (F.length : Int)) ∧ 1 ≤ e.2 ∧ e.2 ≤ (cap : Int)) ∧ e = [.val (.lst (sprD F P cap)), .val (.int P.sum), .val (.int cap), .own (.lst (E.map fun e => ilst [e.1, e.2])), z4, z5, z6, z7, z8]) (rng3 (n := n) (by walk_at "pe") (by walk_at "pe") (by walk_at "pe") hst (by decide) (by omega)) ⟨[], _, _, _, _, _, ⟨rfl, fun e he => by cases he⟩, rfl⟩ ?_ ?_
  · rintro i env hi ⟨E, z4, z5, z6, z7, z8, ⟨hE, hEb⟩, rfl⟩
    refine ⟨_, by walk_at "pe"; rfl, ?_⟩
    have ei : (1 : Int) + (i : Int) * 2 = ((1 + 2 * i : Nat) : Int) := by omega
    rw [ei]
    have hci : 1 + 2 * i ≤ cap := by omega
    have hc1 : 1 ≤ 1 + 2 * i := by omega
    generalize 1 + 2 * i = c at hci hc1 ⊢
    have hc2 : ∃ h : Nat, ((c : Int) + 1) / 2 = (h : Int) := ⟨((c : Int) + 1).toNat / 2, by omega⟩
    obtain ⟨hh, hch⟩ := hc2
    refine q_asg (r := .vis (.int (P.sum ^ c))) (by walk_at "pe"; rw [power_at ht0 ht2 (by omega)]; walk_at "pe") rfl rfl ?_
    refine q_asg (r := .vis (.int 0)) (by walk_at "pe") rfl rfl ?_
    refine q_asg (r := .vis (.int 0)) (by walk_at "pe") rfl rfl ?_
    have hz : ∃ L : Int, 0 ≤ L ∧ L ≤ (F.length : Int) := ⟨0, by omega, by omega⟩
    refine q_cut (fun e => ∃ (w L : Int) (z8 : Slot), (0 ≤ L ∧ L ≤ (F.length : Int)) ∧ e = [.val (.lst (sprD F P cap)), .val (.int P.sum), .val (.int cap), .own (.lst (E.map fun e => ilst [e.1, e.2])), .val (.int c), .val (.int (P.sum ^ c)), .val (.int w), .val (.int L), z8]) ?_ ?_
    · refine wFor_map (u := fun b => imat (sprs (wOf P b) (P.sum - wOf P b) cap)) (xs := F) (fun j e => ∃ (w : Int) (z8 : Slot), e = [.val (.lst (sprD F P cap)), .val (.int P.sum), .val (.int cap), .own (.lst (E.map fun e => ilst [e.1, e.2])), .val (.int c), .val (.int (P.sum ^ c)), .val (.int w), .val (.int j), z8]) (by walk_at "pe"; rfl) ⟨_, _, rfl⟩ ?_ ?_
      · rintro j env b hb ⟨w, z8, rfl⟩
        refine ⟨_, by walk_at "pe"; rfl, ?_⟩
        have hjl : j < F.length := (List.getElem?_eq_some_iff.mp hb).1
        have hrow : pIx (imat (sprs (wOf P b) (P.sum - wOf P b) cap)) (.int (c : Int)) = some (.vis (ilst (spr (wOf P b) (P.sum - wOf P b) c))) := ix_imat (b := false) (sprs_get hci)
        refine q_asg (r := .vis (.int (w + ((spr (wOf P b) (P.sum - wOf P b) c).drop hh).sum))) ?_ rfl rfl ?_
        · rw [e2_at, sum_drop (c := hh) (by walk_at "pe"; exact hrow) (by walk_at "pe"; rw [pDiv_int (by decide) (div64 (by decide) (by decide)), hch])]
          walk_at "pe"
        · generalize w + ((spr (wOf P b) (P.sum - wOf P b) c).drop hh).sum = w'
          refine q_ifD (p := P.sum ^ c ≤ w') (by walk_at "pe") (fun _ => ⟨w', (j : Int), _, by omega, rfl⟩) fun _ => s_nil ?_
          exact s_asg (r := .vis (.int ((j : Int) + 1))) (by walk_at "pe") rfl rfl ⟨w', _, rfl⟩
      · rintro env ⟨w, z8, rfl⟩
        exact ⟨w, (F.length : Int), _, by omega, rfl⟩
    · rintro env ⟨w, L, z8', hL, rfl⟩
      refine s_app (d := ilst [L, (c : Int)]) rfl (r := .fre (.lst [.int L, .int (c : Int)])) (by walk_at "pe") rfl (by rw [List.length_map]; exact lim_lt (by omega)) rfl rfl ⟨E ++ [(L, (c : Int))], _, _, _, _, _, ⟨by simp [hE], fun e he => ?_⟩, by rw [List.map_append]; rfl⟩
      rcases List.mem_append.mp he with h | h
      · exact hEb e h
      · rw [List.mem_singleton.mp h]
        exact ⟨hL, by show 1 ≤ (c : Int); omega, by show (c : Int) ≤ cap; omega⟩
  · rintro env ⟨E, z4, z5, z6, z7, z8, ⟨hE, hEb⟩, rfl⟩
    refine q_frz rfl rfl (s_ret (r := .vis (.lst (E.map fun e => ilst [e.1, e.2]))) (by walk_at "pe") rfl rfl ⟨E, rfl, fun e => ?_, by omega, hEb⟩)
    rw [e] at hE
    simp at hE
    omega
end Pyl
end
section
set_option Elab.async false
set_option linter.all false
set_option maxHeartbeats 2000000
namespace Pyl
open PySem
local macro_rules | `(tactic| walk_at "pe") => `(tactic| simp (config := { implicitDefEqProofs := false }) only [eVar_at, eC_at, e1_at, e2_at, aNil_at, aCons_at, eTup_at, eLst_at, plain_nil, plain_cons, eCall_at, eIf_at, aApp_at, aDfl_at, List.cons_append, List.nil_append, eAnd_at, eOr_at, eNot_at, tVal_at, tAnd_at, tOr_at, tNot_at, tYes_at,
  pAdd_int, pSub_int, pNeg_int, pLt_int, pLe_int, pGt_int, pGe_int, pEq_int, pNe_int, pIsN_at, pNotN_at, pIx_lst, pIx_tup, pGcd_int, atL0, atL1, atL2, atL3, atL4, atL5, atL6, atL7, atL8, oNone_at, oSome_at, eSlice_at, pLen_lst, pLen_tup, pInt_int, pInt_bl, pAbs_int, pSum_ints, pMax2_int, pMin2_int, pList_lst, pList_tup, pTuple_lst, pTuple_tup, iSeq_at, gN_at, gT_at, gsN_cons, gsN_nil, wipeS_cons, wipeS_nil,
  dt_vis, dt_bor, dt_fre, sh_vis, sh_bor, sh_fre, slot_vis, slot_fre, od_dt, isNon_non, isNon_int, isNon_lst, isNon_tup, scalar_int, scalar_bl, scalar_non, Option.bind_some, Option.bind_none, Option.map_some, Option.map_none, List.getElem?_cons_zero, List.getElem?_cons_succ, List.set_cons_zero, List.set_cons_succ, List.map_cons, List.map_nil, List.any_cons, List.any_nil, Bool.or_false, Bool.false_or, Bool.false_and, Bool.and_true, Bool.true_and, Bool.not_true, Bool.not_false,
  Option.some.injEq, exists_eq_left', exists_eq_left, true_and, and_true, if_true, if_false, Bool.false_eq_true, ite_true, ite_false, reduceIte, decide_eq_true_eq, decide_eq_false_iff_not, R.vis.injEq, R.fre.injEq, Dt.lst.injEq, Dt.tup.injEq, Dt.int.injEq, Slot.own.injEq, OD.lst.injEq, reduceCtorEq, false_and, exists_false, exists_const, Bool.true_eq_false, false_implies, true_implies, implies_true, forall_const])


def wys (p : Pb) (k : Nat) : List Int := (List.range (k + 1)).map p.wy
def pathD (p : Pb) : Dt := if p.t ^ p.m ≤ p.wy 0 then .non else .lst [ilst (chs p p.m), ilst (wys p p.m)]
theorem wys_succ (p : Pb) (k : Nat) : wys p (k + 1) = wys p k ++ [p.wy (k + 1)] := by unfold wys; rw [List.range_succ, List.map_append]; rfl
theorem wys_len (p : Pb) (k : Nat) : (wys p k).length = k + 1 := by unfold wys; simp
theorem okF_of {p : Pb} (o : p.Ok) : OkF p.F p.P := ⟨o.fl, o.rows, o.p0, o.pl, o.pp⟩
theorem dang_Sg {t : Int} {n : Nat} {W ns : List Int} (h : ns.length = W.length) : dang t W ns n = Sg W.length fun i => tl (W.getD i 0) (t - W.getD i 0) n (ns.getD i 0).toNat := by
  rw [← dang_zip, ← Sg_list]
  have hl : ((W.zip ns).map fun z => tl z.1 (t - z.1) n z.2.toNat).length = W.length := by simp [h]
  rw [hl]
  refine Sg_congr fun i hi => ?_
  have hb : i < ns.length := by omega
  have e : (W.zip ns)[i]? = some (W[i], ns[i]) := List.getElem?_zip_eq_some.mpr ⟨List.getElem?_eq_getElem hi, List.getElem?_eq_getElem hb⟩
  rw [List.getD_eq_getElem?_getD, List.getElem?_map, e, List.getD_eq_getElem?_getD, List.getD_eq_getElem?_getD, List.getElem?_eq_getElem hi, List.getElem?_eq_getElem hb]
  rfl
def rowF (p : Pb) (i : Nat) : List Int := p.F.getD i []
theorem rowF_get {p : Pb} {i : Nat} (h : i < p.F.length) : p.F[i]? = some (rowF p i) := by
  unfold rowF
  rw [List.getD_eq_getElem?_getD, List.getElem?_eq_getElem h]
  rfl
theorem rowF_mem {p : Pb} {i : Nat} (h : i < p.F.length) : rowF p i ∈ p.F := List.mem_of_getElem? (rowF_get h)
theorem W_get {p : Pb} {i : Nat} (h : i < p.F.length) : p.W.getD i 0 = wOf p.P (rowF p i) := by
  unfold Pb.W
  rw [List.getD_eq_getElem?_getD, List.getElem?_map, rowF_get h]
  rfl
/-- the cell: at least c of n, of the i-th -/
def cel (p : Pb) (i n c : Nat) : Int := tl (wOf p.P (rowF p i)) (p.t - wOf p.P (rowF p i)) n c
theorem dang_cel {p : Pb} {ns : List Int} {n : Nat} (h : ns.length = p.F.length) : dang p.t p.W ns n = Sg p.F.length fun i => cel p i n (ns.getD i 0).toNat := by
  have hW : p.W.length = p.F.length := by unfold Pb.W; rw [List.length_map]
  rw [dang_Sg (by rw [h, hW]), hW]
  refine Sg_congr fun i hi => ?_
  rw [W_get hi]
  rfl
theorem stepF_getD {p : Pb} {ns : List Int} {r i : Nat} (h : ns.length = p.F.length) (hi : i < p.F.length) : (stepF p.F ns r).getD i 0 = ns.getD i 0 - (rowF p i).getD r 0 := by
  rw [List.getD_eq_getElem?_getD, stepF_get (getD_get (show i < ns.length by omega)) (rowF_get hi)]
  rfl
theorem way_cel {p : Pb} {ns : List Int} {n r : Nat} (h : ns.length = p.F.length) : p.way ns n r = Sg p.F.length fun i => cel p i n (ns.getD i 0 - (rowF p i).getD r 0).toNat := by
  unfold Pb.way
  rw [dang_cel (stepF_len r h)]
  refine Sg_congr fun i hi => ?_
  rw [stepF_getD h hi]
theorem wy_way {p : Pb} {k : Nat} (hk : k < p.m) : p.wy (k + 1) = p.way (p.nd k) (p.m - k - 1) (p.ch k) := by
  unfold Pb.wy
  rw [show p.m - (k + 1) = p.m - k - 1 by omega]
  rfl
theorem argm_end {p : Pb} (o : p.Ok) {k : Nat} (hk : k < p.m) : argm (p.way (p.nd k) (p.m - k - 1)) p.P.length = some (p.wy (k + 1), p.ch k) := by
  obtain ⟨b, r, h1, h2, h3, h4⟩ := argm_spec (p.way (p.nd k) (p.m - k - 1)) p.P.length o.p0
  have e : p.ch k = r := by unfold Pb.ch Pb.pick; rw [h1]; rfl
  rw [wy_way hk, e, h3, h1]
theorem cell_sum {p : Pb} {cap i n c : Nat} {env : Sl} {fS fi fn fc : EF} (hi : i < p.F.length) (hn : n ≤ cap) (h1 : fS env = some (.vis (.lst (sprD p.F p.P cap)))) (h2 : fi env = some (.vis (.int (i : Int)))) (h3 : fn env = some (.vis (.int (n : Int)))) (h4 : fc env = some (.vis (.int (c : Int)))) :
    e1 pSum (eSlice (e2 pIx (e2 pIx fS fi) fn) (oSome fc) oNone) env = some (.vis (.int (cel p i n c))) := by
  have hr : e2 pIx (e2 pIx fS fi) fn env = some (.vis (ilst (spr (wOf p.P (rowF p i)) (p.P.sum - wOf p.P (rowF p i)) n))) := by
    rw [e2_at, e2_at, h1, h2, h3]
    show (((atL (sprD p.F p.P cap) (i : Int)).map R.vis).bind fun a => pIx a.dt (.int (n : Int))) = _
    rw [atL_nat, sprD_get (rowF_get hi)]
    exact ix_imat (b := false) (sprs_get hn)
  rw [sum_drop (c := c) hr h4, spr_tl]
  rfl
def bestI : Option (Int × Nat) → Int × Int
  | none => (-1, 0)
  | some (b, r) => ((r : Int), b)
theorem nd0_get {p : Pb} {i : Nat} (hi : i < p.F.length) : (p.nd 0).getD i 0 = (p.need : Int) := by
  show (List.replicate p.F.length (p.need : Int)).getD i 0 = _
  rw [List.getD_eq_getElem?_getD, List.getElem?_replicate, if_pos hi]
  rfl
theorem ix_nd {p : Pb} {i k : Nat} (hi : i < p.F.length) : pIx (ilst (p.nd k)) (.int (i : Int)) = some (.vis (.int ((p.nd k).getD i 0))) := ix_iseqD (b := false) (by rw [Pb.nd_len]; exact hi)
theorem ix_F {p : Pb} {i : Nat} (hi : i < p.F.length) : pIx (imat p.F) (.int (i : Int)) = some (.vis (ilst (rowF p i))) := ix_imat (b := false) (rowF_get hi)
theorem path_at {p : Pb} (o : p.Ok) {cap : Nat} (hc : p.m ≤ cap) (hc2 : cap ≤ 151) : F__law_path [imat p.F, .int p.t, .lst (sprD p.F p.P cap), .int (p.m : Int)] = some (pathD p) := by
  obtain ⟨b0, g0, l0, x0⟩ := head_ix o false
  have x0 : pIx (imat p.F) (.int 0) = some (.vis (ilst b0)) := x0
  refine getF_eq dc__law_path ?_
  show w__law_path _ [.val (imat p.F), .val (.int p.t), .val (.lst (sprD p.F p.P cap)), .val (.int p.m), .non, .non, .non, .non, .non, .non, .non, .non, .non, .non, .non, .non, .non, .non]
  have hfl := o.fl
  have hpl := o.pl
  have hcell := fun (i n c : Nat) (env : Sl) (fS fi fn fc : EF) hi hn h1 h2 h3 h4 => cell_sum (p := p) (cap := cap) (i := i) (n := n) (c := c) (env := env) (fS := fS) (fi := fi) (fn := fn) (fc := fc) hi hn h1 h2 h3 h4
  have hpw := power_at (x := p.t) (n := p.m) (by have := o.t1; omega) o.t2 (by omega)
  have hFl := len_imat false p.F
  have hFx := fun i (hi : i < p.F.length) => ix_F (p := p) hi
  have hFs : iSeq (eVar 0) [.val (imat p.F), .val (.int p.t), .val (.lst (sprD p.F p.P cap)), .val (.int p.m), .val (.int p.F.length), .non, .non, .non, .non, .non, .non, .non, .non, .non, .non, .non, .non, .non] = some (p.F.map ilst, false) := seq_mat (b := false) (by walk_at "pe"; rfl)
  generalize hS : Dt.lst (sprD p.F p.P cap) = S at hcell hFs ⊢
  have hFl : pLen (imat p.F) = some (.vis (.int p.F.length)) := hFl
  generalize hFF : imat p.F = FF at hFl hFx hFs x0 ⊢
  refine q_asg (r := .vis (.int p.F.length)) (by walk_at "pe"; exact hFl) rfl rfl ?_
  refine q_asg (r := .fre (.lst ((p.nd 0).map .int))) ?_ rfl rfl ?_
  · refine (comp_of (xs := p.F) (u := ilst) (f := fun _ => (p.need : Int)) (v := Dt.int) (s := false) hFs (by omega) fun b hb => ⟨_, rfl, .vis (.int p.need), ?_, rfl, rfl⟩).trans (by rw [List.map_const']; rfl)
    walk_at "pe"
    rw [pDiv_int (by decide) (div64 (by decide) (by decide))]
    unfold Pb.need
    congr 3
  refine q_frz rfl rfl ?_
  show (wSeq _ _) _ [.val FF, .val (.int p.t), .val S, .val (.int p.m), .val (.int p.F.length), .val (ilst (p.nd 0)), .non, .non, .non, .non, .non, .non, .non, .non, .non, .non, .non, .non]
  refine q_asg (r := .fre (.lst [.int (p.wy 0)])) ?_ rfl rfl ?_
  · have hcm := comp_rng (env := [.val FF, .val (.int p.t), .val S, .val (.int p.m), .val (.int p.F.length), .val (ilst (p.nd 0)), .non, .non, .non, .non, .non, .non, .non, .non, .non, .non, .non, .non]) (k := 16) (n := p.F.length) (fa := eVar 4) (fe := e1 pSum (eSlice (e2 pIx (e2 pIx (eVar 2) (eVar 16)) (eVar 3)) (oSome (e2 pIx (eVar 5) (eVar 16))) oNone)) (f := fun i => cel p i p.m p.need) (by walk_at "pe") (by omega) fun i hi => ?_
    · rw [eLst_at, aCons_at, e1_at, hcm]
      walk_at "pe"
      have e : p.wy 0 = ((List.range p.F.length).map fun i => cel p i p.m p.need).sum := by
        unfold Pb.wy
        rw [dang_cel (Pb.nd_len p 0)]
        exact Sg_congr fun i hi => by
          rw [nd0_get hi, Int.toNat_natCast]
          rfl
      rw [e]
    · refine hcell i p.m p.need _ _ _ _ _ hi hc (by walk_at "pe") (by walk_at "pe") (by walk_at "pe") ?_
      walk_at "pe"
      rw [ix_nd hi, nd0_get hi]
  refine q_ifD (p := p.t ^ p.m ≤ p.wy 0) (by walk_at "pe"; rw [hpw]; walk_at "pe") (fun h => ?_) fun h => ?_
  · exact s_ret (r := .vis .non) (by walk_at "pe") rfl rfl (by unfold pathD; rw [if_pos h]; rfl)
  refine s_nil ?_
  have ee : pathD p = .lst [ilst (chs p p.m), ilst (wys p p.m)] := if_neg h
  rw [ee]
  refine q_asg (r := .fre (.lst [])) (by walk_at "pe") rfl rfl ?_
  refine q_forRng (lo := 0) (n := p.m) (fun k e => ∃ (z5 z8 z9 z10 z11 z12 z13 z15 : Slot), (z5 = .val (ilst (p.nd k)) ∨ z5 = .own (.lst ((p.nd k).map .int))) ∧
    e = [.val FF, .val (.int p.t), .val S, .val (.int p.m), .val (.int p.F.length), z5, .own (.lst ((wys p k).map .int)), .own (.lst ((chs p k).map .int)), z8, z9, z10, z11, z12, z13, .non, z15, .non, .non]) (by rw [rng1 (n := (p.m : Int)) (by walk_at "pe") (by omega), Int.toNat_natCast]) ⟨_, _, _, _, _, _, _, _, .inl rfl, rfl⟩ ?_ ?_
  · rintro k env hk ⟨z5, z8, z9, z10, z11, z12, z13, z15, hz5, rfl⟩
    refine ⟨_, by walk_at "pe"; rfl, ?_⟩
    rw [Int.zero_add]
    obtain ⟨r5, h5, hd5⟩ : ∃ r5 : R, eVar 0 [z5] = some r5 ∧ r5.dt = ilst (p.nd k) := by
      rcases hz5 with rfl | rfl
      · exact ⟨_, rfl, rfl⟩
      · exact ⟨_, rfl, rfl⟩
    have h5' : ∀ (a0 a1 a2 a3 a4 : Slot) (l : Sl), eVar 5 (a0 :: a1 :: a2 :: a3 :: a4 :: z5 :: l) = some r5 := fun _ _ _ _ _ _ => h5
    obtain ⟨n, hn⟩ : ∃ n, p.m - k - 1 = n := ⟨_, rfl⟩
    have en : (p.m : Int) - (k : Int) - 1 = (n : Int) := by omega
    have hnc : n ≤ cap := by omega
    have hae := argm_end o hk
    rw [hn] at hae
    have hwc := fun r => way_cel (p := p) (ns := p.nd k) (n := n) (r := r) (Pb.nd_len p k)
    have hnx : p.nd (k + 1) = stepF p.F (p.nd k) (p.ch k) := rfl
    have hix := fun i (hi : i < p.F.length) => ix_nd (p := p) (k := k) hi
    have hnl := Pb.nd_len p k
    generalize hg : p.way (p.nd k) n = g at hae hwc
    refine q_asg (r := .vis (.int n)) (by walk_at "pe"; rw [en]) rfl rfl ?_
    refine q_asg (r := .fre (.lst ((((List.range p.F.length).map fun i => [cel p i n ((p.nd k).getD i 0).toNat, cel p i n ((p.nd k).getD i 0 - 1).toNat])).map ilst))) ?_ rfl rfl ?_
    · refine comp_of (xs := List.range p.F.length) (u := fun j : Nat => Dt.int (j : Int)) (f := fun i => [cel p i n ((p.nd k).getD i 0).toNat, cel p i n ((p.nd k).getD i 0 - 1).toNat]) (v := ilst) (s := false) (rngN (n := p.F.length) (by walk_at "pe") (by omega)) (by rw [List.length_range]; omega) fun i hi => ?_
      have hi := List.mem_range.mp hi
      refine ⟨_, rfl, .fre (.lst (((List.range 2).map fun (b : Nat) => cel p i n ((p.nd k).getD i 0 - (b : Int)).toNat).map .int)), comp_rng (n := 2) (f := fun b => cel p i n ((p.nd k).getD i 0 - (b : Int)).toNat) (by walk_at "pe"; rfl) (by omega) fun b hb => ?_, rfl, ?_⟩
      · refine hcell i n _ _ _ _ _ _ hi hnc (by walk_at "pe") (by walk_at "pe") (by walk_at "pe") ?_
        show e2 pMax2 (e2 pSub (e2 pIx (eVar 5) (eVar 16)) (eVar 17)) (eC (.int 0)) [_, _, _, _, _, z5, _, _, _, _, _, _, _, _, _, _, .val (.int (i : Int)), .val (.int (b : Int))] = _
        rw [e2_at, e2_at, e2_at, h5']
        walk_at "pe"
        rw [hd5, hix i hi]
        walk_at "pe"
        rw [max_toNat]
      · show Dt.lst _ = Dt.lst _
        have : (List.range 2).map (fun (b : Nat) => cel p i n ((p.nd k).getD i 0 - (b : Int)).toNat) = [cel p i n ((p.nd k).getD i 0).toNat, cel p i n ((p.nd k).getD i 0 - 1).toNat] := by
          show [cel p i n ((p.nd k).getD i 0 - 0).toNat, cel p i n ((p.nd k).getD i 0 - 1).toNat] = _
          rw [Int.sub_zero]
        rw [this]
    refine q_frz rfl rfl ?_
    have hBx : ∀ i, i < p.F.length → pIx (.lst (((List.range p.F.length).map fun i => [cel p i n ((p.nd k).getD i 0).toNat, cel p i n ((p.nd k).getD i 0 - 1).toNat]).map ilst)) (.int (i : Int)) = some (.vis (ilst [cel p i n ((p.nd k).getD i 0).toNat, cel p i n ((p.nd k).getD i 0 - 1).toNat])) := fun i hi => by
      refine ix_imat (b := false) ?_
      rw [List.getElem?_map, List.getElem?_range hi]
      rfl
    show (wSeq _ _) _ [.val FF, .val (.int p.t), .val S, .val (.int p.m), .val (.int p.F.length), z5, .own (.lst ((wys p k).map .int)), .own (.lst ((chs p k).map .int)), .val (.int k), .val (.int n), .val (.lst (((List.range p.F.length).map fun i => [cel p i n ((p.nd k).getD i 0).toNat, cel p i n ((p.nd k).getD i 0 - 1).toNat]).map ilst)), z11, z12, z13, .non, z15, .non, .non]
    generalize Dt.lst (((List.range p.F.length).map fun i => [cel p i n ((p.nd k).getD i 0).toNat, cel p i n ((p.nd k).getD i 0 - 1).toNat]).map ilst) = B at hBx ⊢
    refine q_asg (r := .vis (.int (-1))) (by walk_at "pe") rfl rfl ?_
    refine q_asg (r := .vis (.int 0)) (by walk_at "pe") rfl rfl ?_
    refine q_forRng (lo := 0) (n := p.P.length) (fun i e => ∃ z13 z15, e = [.val FF, .val (.int p.t), .val S, .val (.int p.m), .val (.int p.F.length), z5, .own (.lst ((wys p k).map .int)), .own (.lst ((chs p k).map .int)), .val (.int k), .val (.int n), .val B, .val (.int (bestI (argm g i)).1), .val (.int (bestI (argm g i)).2), z13, .non, z15, .non, .non]) ?_ ⟨_, _, rfl⟩ ?_ ?_
    · rw [rng1 (n := (p.P.length : Int)) ?_ (by omega), Int.toNat_natCast]
      walk_at "pe"
      rw [x0]
      walk_at "pe"
      rw [show pLen (ilst b0) = _ from pLen_iseq false b0, l0]
    · rintro r env hr ⟨z13, z15, rfl⟩
      refine ⟨_, by walk_at "pe"; rfl, ?_⟩
      rw [Int.zero_add]
      refine q_asg (r := .vis (.int (g r))) ?_ rfl rfl ?_
      · have hcm := comp_rng (env := [.val FF, .val (.int p.t), .val S, .val (.int p.m), .val (.int p.F.length), z5, .own (.lst ((wys p k).map .int)), .own (.lst ((chs p k).map .int)), .val (.int k), .val (.int n), .val B, .val (.int (bestI (argm g r)).1), .val (.int (bestI (argm g r)).2), .val (.int r), .non, z15, .non, .non]) (k := 16) (n := p.F.length) (fa := eVar 4) (fe := e2 pIx (e2 pIx (eVar 10) (eVar 16)) (e2 pIx (e2 pIx (eVar 0) (eVar 16)) (eVar 13))) (f := fun i => cel p i n ((p.nd k).getD i 0 - (rowF p i).getD r 0).toNat) (by walk_at "pe") (by omega) fun i hi => ?_
        · rw [e1_at, hcm]
          walk_at "pe"
          rw [hwc r]
          rfl
        · obtain ⟨hl, hbit⟩ := o.rows _ (rowF_mem hi)
          have g1 := ix_iseqD (b := false) (show r < (rowF p i).length by omega)
          walk_at "pe"
          rw [hBx i hi, hFx i hi]
          walk_at "pe"
          rw [show pIx (ilst (rowF p i)) (.int (r : Int)) = _ from g1]
          rcases bit_get hbit r with e | e
          · rw [e, Int.sub_zero]; rfl
          · rw [e]; rfl
      have nx : argm g (r + 1) = match argm g r with
        | none => some (g r, r)
        | some (b, q) => if g r < b then some (g r, r) else some (b, q) := rfl
      cases ha : argm g r with
      | none =>
        rw [ha] at nx
        refine s_ifD (p := True) (by show tOr _ _ _ = _; unfold bestI; walk_at "pe"; rfl) (fun _ => ?_) (fun e => absurd trivial e)
        refine q_asg (r := .vis (.int r)) (by walk_at "pe") rfl rfl ?_
        exact s_asg (r := .vis (.int (g r))) (by walk_at "pe") rfl rfl ⟨_, _, by rw [nx]; rfl⟩
      | some br =>
        obtain ⟨b, q⟩ := br
        rw [ha] at nx
        refine s_ifD (p := g r < b) ?_ (fun h => ?_) fun h => s_nil ⟨_, _, by rw [nx]; dsimp only; rw [if_neg h]; rfl⟩
        · show tOr _ _ [_, _, _, _, _, _, _, _, _, _, _, .val (.int (q : Int)), .val (.int b), _, _, _, _, _] = _
          walk_at "pe"
          rw [if_neg (show ¬ ((q : Int) < 0) by omega)]
        · refine q_asg (r := .vis (.int r)) (by walk_at "pe") rfl rfl ?_
          exact s_asg (r := .vis (.int (g r))) (by walk_at "pe") rfl rfl ⟨_, _, by rw [nx]; dsimp only; rw [if_pos h]; rfl⟩
    · rintro env ⟨z13, z15, rfl⟩
      rw [hae]
      show (wSeq _ _) _ [.val FF, .val (.int p.t), .val S, .val (.int p.m), .val (.int p.F.length), z5, .own (.lst ((wys p k).map .int)), .own (.lst ((chs p k).map .int)), .val (.int k), .val (.int n), .val B, .val (.int (p.ch k : Int)), .val (.int (p.wy (k + 1))), z13, .non, z15, .non, .non]
      refine q_app (d := .int (p.ch k : Int)) rfl (r := .vis (.int (p.ch k : Int))) (by walk_at "pe") rfl (by rw [List.length_map, chs_len]; exact lim_lt (by omega)) rfl rfl ?_
      refine q_app (d := .int (p.wy (k + 1))) rfl (r := .vis (.int (p.wy (k + 1)))) (by walk_at "pe") rfl (by rw [List.length_map, wys_len]; exact lim_lt (by omega)) rfl rfl ?_
      refine s_asg (r := .fre (.lst ((p.nd (k + 1)).map .int))) ?_ rfl rfl ⟨_, _, _, _, _, _, _, _, .inr rfl, by rw [chs_succ, wys_succ, List.map_append, List.map_append]; rfl⟩
      have hlist : (List.range p.F.length).map (fun i => (p.nd k).getD i 0 - (rowF p i).getD (p.ch k) 0) = p.nd (k + 1) := by
        rw [hnx]
        refine List.ext_getElem (by rw [stepF_len _ hnl]; simp) fun i h1 h2 => ?_
        have hi : i < p.F.length := by simpa using h1
        rw [List.getElem_map, List.getElem_range, ← stepF_getD hnl hi, List.getD_eq_getElem?_getD, List.getElem?_eq_getElem h2]
        rfl
      refine (comp_rng (n := p.F.length) (f := fun i => (p.nd k).getD i 0 - (rowF p i).getD (p.ch k) 0) (by walk_at "pe") (by omega) fun i hi => ?_).trans (by rw [hlist])
      have hcl := Pb.ch_lt o k
      have g1 := ix_iseqD (b := false) (show p.ch k < (rowF p i).length by rw [(o.rows _ (rowF_mem hi)).1]; exact hcl)
      show e2 pSub (e2 pIx (eVar 5) (eVar 16)) (e2 pIx (e2 pIx (eVar 0) (eVar 16)) (eVar 11)) [.val FF, _, _, _, _, z5, _, _, _, _, _, .val (.int (p.ch k : Int)), _, _, _, _, .val (.int (i : Int)), _] = _
      rw [e2_at, e2_at, h5']
      walk_at "pe"
      rw [hd5, hix i hi, hFx i hi]
      walk_at "pe"
      rw [show pIx (ilst (rowF p i)) (.int (p.ch k : Int)) = _ from g1]
      walk_at "pe"
  · rintro env ⟨z5, z8, z9, z10, z11, z12, z13, z15, hz5, rfl⟩
    refine q_frz rfl rfl (q_frz rfl rfl ?_)
    exact s_ret (r := .fre (.lst [ilst (chs p p.m), ilst (wys p p.m)])) (by walk_at "pe"; rfl) rfl rfl rfl
end Pyl
end
section
set_option Elab.async false
set_option linter.all false
set_option maxHeartbeats 2000000
namespace Pyl
open PySem
local macro_rules | `(tactic| walk_at "pe") => `(tactic| simp (config := { implicitDefEqProofs := false }) only [eVar_at, eC_at, e1_at, e2_at, aNil_at, aCons_at, eTup_at, eLst_at, plain_nil, plain_cons, eCall_at, eIf_at, aApp_at, aDfl_at, List.cons_append, List.nil_append, eAnd_at, eOr_at, eNot_at, tVal_at, tAnd_at, tOr_at, tNot_at, tYes_at,
  pAdd_int, pSub_int, pNeg_int, pLt_int, pLe_int, pGt_int, pGe_int, pEq_int, pNe_int, pIsN_at, pNotN_at, pIx_lst, pIx_tup, pGcd_int, atL0, atL1, atL2, atL3, atL4, atL5, atL6, atL7, atL8, oNone_at, oSome_at, eSlice_at, pLen_lst, pLen_tup, pInt_int, pInt_bl, pAbs_int, pSum_ints, pMax2_int, pMin2_int, pList_lst, pList_tup, pTuple_lst, pTuple_tup, iSeq_at, gN_at, gT_at, gsN_cons, gsN_nil, wipeS_cons, wipeS_nil,
  dt_vis, dt_bor, dt_fre, sh_vis, sh_bor, sh_fre, slot_vis, slot_fre, od_dt, isNon_non, isNon_int, isNon_lst, isNon_tup, scalar_int, scalar_bl, scalar_non, Option.bind_some, Option.bind_none, Option.map_some, Option.map_none, List.getElem?_cons_zero, List.getElem?_cons_succ, List.set_cons_zero, List.set_cons_succ, List.map_cons, List.map_nil, List.any_cons, List.any_nil, Bool.or_false, Bool.false_or, Bool.false_and, Bool.and_true, Bool.true_and, Bool.not_true, Bool.not_false,
  Option.some.injEq, exists_eq_left', exists_eq_left, true_and, and_true, if_true, if_false, Bool.false_eq_true, ite_true, ite_false, reduceIte, decide_eq_true_eq, decide_eq_false_iff_not, R.vis.injEq, R.fre.injEq, Dt.lst.injEq, Dt.tup.injEq, Dt.int.injEq, Slot.own.injEq, OD.lst.injEq, reduceCtorEq, false_and, exists_false, exists_const, Bool.true_eq_false, false_implies, true_implies, implies_true, forall_const])


/-! what a caught error shows -/
theorem eXis_at {a i : Nat} {d : Option Nat} {b : Bool} {fs : List (Str × Dt)} {env : Sl} (h : env[i]? = some (.val (.exn a d fs))) : eXis a d b (eVar i) env = some (.vis (.bl b)) := by
  unfold eXis
  rw [eVar_at, h]
  exact if_pos ⟨rfl, rfl⟩
theorem eXf_at {a i : Nat} {d : Option Nat} {f : Str} {v : Dt} {fs : List (Str × Dt)} {env : Sl} (h : env[i]? = some (.val (.exn a d fs))) (hf : fs.lookup f = some v) : eXf a d f (eVar i) env = some (.vis v) := by
  unfold eXf
  rw [eVar_at, h]
  show (if a = a ∧ d = d then (fs.lookup f).map R.vis else none) = _
  rw [if_pos ⟨rfl, rfl⟩, hf]
  rfl
theorem xCall_at {F : FX} {fa : AF} {env : Sl} {rs : List (Dt × Bool)} {o : Xr} (h : fa env = some rs) (hb : rs.any (·.2) = false) (hF : F (rs.map (·.1)) = some o) : xCall F fa env = some o := by
  show (fa env).bind _ = _
  rw [h]
  show (F (rs.map (·.1))).bind _ = _
  rw [hF]
  show (if rs.any (·.2) && !o.scalar then none else some o) = _
  rw [hb]
  rfl
/-- how found_rows ends, as _law_asked tells it -/
def toldR (p : Pb) : Dt := if p.t ^ p.m ≤ p.wy 0 then .lst [.int 1, .non] else .lst [.int 0, .obj 21 [("rows", itup (chs p p.m)), ("dangers", .tup (dgs p p.m))]]
def wtD (p : Pb) (hv : Dt) (st : Int) : Dt := if hv.isNon then .non else if 1 < st then itup p.P else ilst p.P
theorem asked_at {p : Pb} (o : p.Ok) {hv : Dt} (hh : (hv = .non ∧ p.P = List.replicate p.P.length 1) ∨ hv = ilst p.P) (st : Int) : F__law_asked [imat p.F, hv, .int (p.m : Int), .int st] = some (toldR p) := by
  have hfl := o.fl
  have hpl := o.pl
  have hwt : (wtD p hv st = .non ∧ p.P = List.replicate p.P.length 1) ∨ ∃ b, wtD p hv st = iseq b p.P := by
    rcases hh with ⟨rfl, h⟩ | rfl
    · exact .inl ⟨rfl, h⟩
    · refine .inr ⟨decide (1 < st), ?_⟩
      by_cases h : 1 < st
      · rw [decide_eq_true h]; exact if_pos h
      · rw [decide_eq_false h]; exact if_neg h
  have hfound := fun s => found_at o s hwt
  -- the told end
  have hP : ∀ r, AskedP F_found_rows (imat p.F) hv (p.m : Int) st r ↔ r = toldR p := fun r => by
    have ea : askArgs (imat p.F) hv (p.m : Int) st = [imatS (decide (st % 2 = 1)) p.F, .int (p.m : Int), wtD p hv st] := by
      unfold askArgs
      have e1 : (if st % 2 = 1 then Dt.tup ((imat p.F).items.map fun x => .tup x.items) else .lst ((imat p.F).items.map fun x => .lst x.items)) = imatS (decide (st % 2 = 1)) p.F := by
        by_cases h : st % 2 = 1
        · rw [if_pos h, decide_eq_true h]
          show Dt.tup ((p.F.map ilst).map _) = Dt.tup (p.F.map itup)
          rw [List.map_map]
          rfl
        · rw [if_neg h, decide_eq_false h]
          show Dt.lst ((p.F.map ilst).map _) = Dt.lst (p.F.map ilst)
          rw [List.map_map]
          rfl
      rw [e1]
      rcases hh with ⟨rfl, _⟩ | rfl <;> rfl
    unfold AskedP
    rw [ea, hfound]
    unfold toldX toldR
    by_cases hc : p.t ^ p.m ≤ p.wy 0
    · rw [if_pos hc, if_pos hc]
      exact ⟨fun ⟨x, h1, h2, h3⟩ => by cases h1; exact h3 _ _ rfl, fun h => ⟨_, rfl, fun d e => (by cases e), fun c fs e => h⟩⟩
    · rw [if_neg hc, if_neg hc]
      exact ⟨fun ⟨x, h1, h2, h3⟩ => by cases h1; exact h2 _ rfl, fun h => ⟨_, rfl, fun d e => (by cases e; exact h), fun c fs e => (by cases e)⟩⟩
  suffices hw : w__law_asked (endR (toldR p)) (startE 10 [imat p.F, hv, .int (p.m : Int), .int st]) by
    obtain ⟨r', h1, h2⟩ := auto_at (n := 10) (w := w__law_asked) (P := fun ds r => ds.length = 4 ∧ (fun ds r => match ds with | [h, v, .int m, .int st] => AskedP F_found_rows h v m st r | _ => False) ds r) (ds := [imat p.F, hv, .int (p.m : Int), .int st]) ⟨toldR p, ⟨rfl, (hP _).mpr rfl⟩, hw⟩
    have := (hP r').mp h2.2
    subst this
    exact h1
  show w__law_asked _ [.val (imat p.F), .val hv, .val (.int p.m), .val (.int st), .non, .non, .non, .non, .non, .non]
  have hsl : ∀ (b : Bool) (env : Sl) (k : Nat), 9 < env.length → env[k]? = some (.val (imatS b p.F)) → eComp [9] (iSeq (eVar k)) (gN 9) tYes (e1 pList (eVar 9)) env = some (.fre (.lst (p.F.map ilst))) := fun b env k h1 h2 => asLists (c := b) (b := b) h1 (by rw [h2]; cases b <;> rfl) (by omega)
  have hst : ∀ (b : Bool) (env : Sl) (k : Nat), 9 < env.length → env[k]? = some (.val (imatS b p.F)) → eComp [9] (iSeq (eVar k)) (gN 9) tYes (e1 pTuple (eVar 9)) env = some (.fre (.lst (p.F.map itup))) := fun b env k h1 h2 => asTups (c := b) (b := b) h1 (by rw [h2]; cases b <;> rfl) (by omega)
  refine q_asg (r := .fre (.lst (p.F.map ilst))) (hsl false _ 0 (show 9 < 10 by decide) rfl) rfl rfl ?_
  refine q_frz rfl rfl ?_
  refine q_ifAsg (p := st % 2 = 1) (d := imat p.F) (d1 := .tup (p.F.map itup)) (by walk_at "pe"; rw [pMod_int (by decide)]; walk_at "pe") (fun _ => ?_) (fun _ => rfl) fun d2 hd2 => ?_
  · have hq := hst false [.val (imat p.F), .val hv, .val (.int p.m), .val (.int st), .val (imat p.F), .non, .non, .non, .non, .non] 0 (show 9 < 10 by decide) rfl
    exact (congrArg (fun o => Option.bind o fun (a : R) => pTuple a.dt) hq)
  have hd2 : d2 = imatS (decide (st % 2 = 1)) p.F := by
    rw [hd2]
    by_cases h : st % 2 = 1
    · rw [if_pos h, decide_eq_true h]; rfl
    · rw [if_neg h, decide_eq_false h]; rfl
  subst hd2
  generalize decide (st % 2 = 1) = s
  show (wSeq _ _) _ [.val (imat p.F), .val hv, .val (.int p.m), .val (.int st), .val (imatS s p.F), .non, .non, .non, .non, .non]
  refine q_asg (r := .vis hv) (by walk_at "pe") rfl rfl ?_
  have hhn : hv.isNon = true ∨ hv = ilst p.P := by
    rcases hh with ⟨rfl, _⟩ | rfl
    · exact .inl rfl
    · exact .inr rfl
  have hwd : wtD p hv st = .non ∧ hv = .non ∨ hv = ilst p.P ∧ wtD p hv st = if 1 < st then itup p.P else ilst p.P := by
    rcases hh with ⟨rfl, _⟩ | rfl
    · exact .inl ⟨rfl, rfl⟩
    · exact .inr ⟨rfl, rfl⟩
  generalize hW : wtD p hv st = W at hfound hwd
  refine q_ifAsg (p := hv.isNon = false ∧ 1 < st) (d := hv) (d1 := itup p.P) ?_ (fun h => ?_) (fun _ => rfl) fun d2 hd2 => ?_
  · rcases hwd with ⟨_, rfl⟩ | ⟨rfl, _⟩
    · walk_at "pe"
      rw [decide_eq_false]
      rintro ⟨h, _⟩
    · show tAnd (tVal (e1 pNotN (eVar 1))) (tVal (e2 pGt (eVar 3) (eC (.int 1)))) [_, .val (.lst (p.P.map .int)), _, .val (.int st), _, _, _, _, _, _] = _
      walk_at "pe"
      by_cases h : 1 < st
      · rw [decide_eq_true h, decide_eq_true ⟨rfl, h⟩]
      · rw [decide_eq_false h, decide_eq_false (fun q => h q.2)]
  · rcases hwd with ⟨_, rfl⟩ | ⟨rfl, _⟩
    · cases h.1
    · rfl
  have hd2 : d2 = W := by
    rw [hd2]
    rcases hwd with ⟨h1, rfl⟩ | ⟨rfl, h2⟩
    · rw [if_neg (fun q => by cases q.1), h1]
    · rw [h2]
      by_cases h : 1 < st
      · rw [if_pos ⟨rfl, h⟩, if_pos h]
      · rw [if_neg (fun q => h q.2), if_neg h]
  subst hd2
  refine q_cut (fun e => ∃ z5, (z5 = .val d2 ∨ (z5 = .own (.lst (p.P.map .int)) ∧ d2 = ilst p.P)) ∧ (hv = .non → z5 = .val d2) ∧ e = [.val (imat p.F), .val hv, .val (.int p.m), .val (.int st), .val (imatS s p.F), z5, .non, .non, .non, .non]) ?_ ?_
  · rcases hwd with ⟨_, rfl⟩ | ⟨rfl, h2⟩
    · exact s_ifD (p := False) (by walk_at "pe"; rfl) (fun e => e.elim) fun _ => s_nil ⟨_, .inl rfl, fun _ => rfl, rfl⟩
    · refine s_ifD (p := st < 2) ?_ (fun h => ?_) fun _ => s_nil ⟨_, .inl rfl, fun _ => rfl, rfl⟩
      · show tAnd (tVal (e1 pNotN (eVar 1))) (tVal (e2 pLt (eVar 3) (eC (.int 2)))) [_, .val (.lst (p.P.map .int)), _, .val (.int st), _, _, _, _, _, _] = _
        walk_at "pe"
      · exact s_asg (r := .fre (.lst (p.P.map .int))) rfl rfl rfl ⟨_, .inr ⟨rfl, by rw [h2, if_neg (by omega)]⟩, fun e => (by cases e), rfl⟩
  rintro env ⟨z5, hz5, hz5n, rfl⟩
  refine q_asg (r := .vis .non) (by walk_at "pe") rfl rfl ?_
  refine q_asg (r := .vis (.int 0)) (by walk_at "pe") rfl rfl ?_
  refine q_cut (fun e => ∃ told state, .lst [.int state, told] = toldR p ∧ e = [.val (imat p.F), .val hv, .val (.int p.m), .val (.int st), .val (imatS s p.F), .val d2, .val told, .val (.int state), .non, .non]) ?_ ?_
  · -- the try
    have done : ∀ (D : En), (∀ d, toldX p = .ok d → D.nx [.val (imat p.F), .val hv, .val (.int p.m), .val (.int st), .val (imatS s p.F), .val d2, .val d, .val (.int 0), .non, .non]) → (∀ c fs, toldX p = .er c fs → D.er c fs [.val (imat p.F), .val hv, .val (.int p.m), .val (.int st), .val (imatS s p.F), .val d2, .val .non, .val (.int 0), .non, .non]) →
        wIf (tAnd (tVal (e1 pIsN (eVar 1))) (tVal (e2 pGt (eVar 3) (eC (.int 1))))) (wAsgX 6 (xCall F_found_rows (aApp (aCons (eVar 4) (aCons (eVar 2) aNil)) (aDfl [.non])))) (wFrz 5 (wAsgX 6 (xCall F_found_rows (aApp (aCons (eVar 4) (aCons (eVar 2) aNil)) (aCons (eVar 5) aNil))))) D
          [.val (imat p.F), .val hv, .val (.int p.m), .val (.int st), .val (imatS s p.F), z5, .val .non, .val (.int 0), .non, .non] := by
      intro D h1 h2
      have two : wFrz 5 (wAsgX 6 (xCall F_found_rows (aApp (aCons (eVar 4) (aCons (eVar 2) aNil)) (aCons (eVar 5) aNil)))) D [.val (imat p.F), .val hv, .val (.int p.m), .val (.int st), .val (imatS s p.F), z5, .val .non, .val (.int 0), .non, .non] := by
        refine q_frzE (env' := [.val (imat p.F), .val hv, .val (.int p.m), .val (.int st), .val (imatS s p.F), .val d2, .val .non, .val (.int 0), .non, .non]) (by rcases hz5 with rfl | ⟨rfl, e⟩ <;> first | rfl | (rw [e]; rfl)) ?_
        exact ⟨toldX p, xCall_at (rs := [(imatS s p.F, false), (.int p.m, false), (d2, false)]) (by rw [aApp_at]; walk_at "pe") rfl (hfound s), fun d e => h1 d e, fun c fs e => h2 c fs e⟩
      rcases hwd with ⟨e1, rfl⟩ | ⟨rfl, e3⟩
      · have hz := hz5n rfl
        subst hz
        refine s_ifD (p := 1 < st) (by walk_at "pe") (fun _ => ?_) fun _ => two
        refine ⟨toldX p, xCall_at (rs := [(imatS s p.F, false), (.int p.m, false), (.non, false)]) (by rw [aApp_at]; walk_at "pe") rfl ?_, fun d e => h1 d e, fun c fs e => h2 c fs e⟩
        have := hfound s
        rw [e1] at this
        exact this
      · refine s_ifD (p := False) ?_ (fun e => e.elim) fun _ => two
        show tAnd (tVal (e1 pIsN (eVar 1))) (tVal (e2 pGt (eVar 3) (eC (.int 1)))) [_, .val (.lst (p.P.map .int)), _, .val (.int st), _, _, _, _, _, _] = _
        walk_at "pe"
        rfl
    refine done _ (fun d e => ?_) fun c fs e => ?_
    · unfold toldX at e
      refine ⟨d, 0, ?_, rfl⟩
      unfold toldR
      split at e
      · cases e
      · rename_i hc
        rw [if_neg hc]
        cases e
        rfl
    · have hc : p.t ^ p.m ≤ p.wy 0 ∧ c = 16 ∧ fs = ([("many", .int (p.m : Int))] : List (Str × Dt)) := by
        unfold toldX at e
        split at e
        · rename_i hc; cases e; exact ⟨hc, rfl, rfl⟩
        · cases e
      obtain ⟨hc, rfl, rfl⟩ := hc
      refine ⟨List.mem_singleton.mpr rfl, fun a d => ?_⟩
      have hx : ∀ (z7 : Slot) (b : Bool), eXis a d b (eVar 8) [.val (imat p.F), .val hv, .val (.int p.m), .val (.int st), .val (imatS s p.F), .val d2, .val .non, z7, .val (.exn a d [("many", .int (p.m : Int))]), .non] = some (.vis (.bl b)) := fun z7 b => eXis_at rfl
      have hf : ∀ (z7 : Slot), eXf a d "many" (eVar 8) [.val (imat p.F), .val hv, .val (.int p.m), .val (.int st), .val (imatS s p.F), .val d2, .val .non, z7, .val (.exn a d [("many", .int (p.m : Int))]), .non] = some (.vis (.int p.m)) := fun z7 => eXf_at rfl rfl
      show (wSeq _ _) _ [.val (imat p.F), .val hv, .val (.int p.m), .val (.int st), .val (imatS s p.F), .val d2, .val .non, .val (.int 0), .val (.exn a d [("many", .int (p.m : Int))]), .non]
      refine q_asg (r := .vis (.int 2)) (by walk_at "pe") rfl rfl ?_
      show (wSeq _ _) _ [.val (imat p.F), .val hv, .val (.int p.m), .val (.int st), .val (imatS s p.F), .val d2, .val .non, .val (.int 2), .val (.exn a d [("many", .int (p.m : Int))]), .non]
      refine q_ifD (p := True) ?_ (fun _ => ?_) fun e => absurd trivial e
      · rw [tAnd_at, tVal_at, hx, tAnd_at, tVal_at, hx, tAnd_at, tVal_at, eCall_at, aCons_at, hf, tVal_at, e2_at, hf]
        walk_at "pe"
        rw [whole_at]
        walk_at "pe"
      refine s_asg (r := .vis (.int 1)) (by walk_at "pe") rfl rfl ?_
      show (wSeq _ _) _ [.val (imat p.F), .val hv, .val (.int p.m), .val (.int st), .val (imatS s p.F), .val d2, .val .non, .val (.int 1), .val (.exn a d [("many", .int (p.m : Int))]), .non]
      refine q_ifD (p := False) (by rw [tVal_at, hx]; rfl) (fun e => e.elim) fun _ => s_nil ?_
      refine q_ifD (p := False) (by rw [tVal_at, hx]; rfl) (fun e => e.elim) fun _ => s_nil ?_
      refine s_ifD (p := False) (by rw [tVal_at, hx]; rfl) (fun e => e.elim) fun _ => s_nil ?_
      refine ⟨.non, 1, ?_, rfl⟩
      unfold toldR
      rw [if_pos hc]
  rintro env ⟨told, state, ht, rfl⟩
  refine q_ifD (p := False) ?_ (fun e => e.elim) fun _ => s_nil ?_
  · have hq := hsl s [.val (imat p.F), .val hv, .val (.int p.m), .val (.int st), .val (imatS s p.F), .val d2, .val told, .val (.int state), .non, .non] 4 (show 9 < 10 by decide) rfl
    rw [tOr_at, tVal_at, e2_at, hq]
    have h0 : pNe (.lst (p.F.map ilst)) (imat p.F) = some (.vis (.bl false)) := by
      have := pNe_imat p.F p.F
      rw [decide_eq_true rfl] at this
      exact this
    walk_at "pe"
    rw [h0]
    rcases hwd with ⟨_, rfl⟩ | ⟨rfl, h2⟩
    · walk_at "pe"
      rfl
    · have h1 : ∀ b, ((pList (iseq b p.P)).bind fun a => pNe a.dt (ilst p.P)) = some (.vis (.bl false)) := fun b => by
        have := pNe_ilst p.P p.P
        rw [decide_eq_true rfl] at this
        cases b <;> exact this
      have h3 : ∃ b, d2 = iseq b p.P := by
        by_cases h : 1 < st
        · exact ⟨true, by rw [h2, if_pos h]; rfl⟩
        · exact ⟨false, by rw [h2, if_neg h]; rfl⟩
      obtain ⟨b, rfl⟩ := h3
      walk_at "pe"
      rw [h1 b]
      cases b <;> rfl
  exact s_ret (r := .fre (.lst [.int state, told])) (by walk_at "pe") rfl rfl ht
end Pyl
end
section
set_option Elab.async false
set_option linter.all false
set_option maxHeartbeats 2000000
namespace Pyl
open PySem
local macro_rules | `(tactic| walk_at "pe") => `(tactic| simp (config := { implicitDefEqProofs := false }) only [eVar_at, eC_at, e1_at, e2_at, aNil_at, aCons_at, eTup_at, eLst_at, plain_nil, plain_cons, eCall_at, eIf_at, aApp_at, aDfl_at, List.cons_append, List.nil_append, eAnd_at, eOr_at, eNot_at, tVal_at, tAnd_at, tOr_at, tNot_at, tYes_at,
  pAdd_int, pSub_int, pNeg_int, pLt_int, pLe_int, pGt_int, pGe_int, pEq_int, pNe_int, pIsN_at, pNotN_at, pIx_lst, pIx_tup, pGcd_int, atL0, atL1, atL2, atL3, atL4, atL5, atL6, atL7, atL8, oNone_at, oSome_at, eSlice_at, pLen_lst, pLen_tup, pInt_int, pInt_bl, pAbs_int, pSum_ints, pMax2_int, pMin2_int, pList_lst, pList_tup, pTuple_lst, pTuple_tup, iSeq_at, gN_at, gT_at, gsN_cons, gsN_nil, wipeS_cons, wipeS_nil,
  dt_vis, dt_bor, dt_fre, sh_vis, sh_bor, sh_fre, slot_vis, slot_fre, od_dt, isNon_non, isNon_int, isNon_lst, isNon_tup, scalar_int, scalar_bl, scalar_non, Option.bind_some, Option.bind_none, Option.map_some, Option.map_none, List.getElem?_cons_zero, List.getElem?_cons_succ, List.set_cons_zero, List.set_cons_succ, List.map_cons, List.map_nil, List.any_cons, List.any_nil, Bool.or_false, Bool.false_or, Bool.false_and, Bool.and_true, Bool.true_and, Bool.not_true, Bool.not_false,
  Option.some.injEq, exists_eq_left', exists_eq_left, true_and, and_true, if_true, if_false, Bool.false_eq_true, ite_true, ite_false, reduceIte, decide_eq_true_eq, decide_eq_false_iff_not, R.vis.injEq, R.fre.injEq, Dt.lst.injEq, Dt.tup.injEq, Dt.int.injEq, Slot.own.injEq, OD.lst.injEq, reduceCtorEq, false_and, exists_false, exists_const, Bool.true_eq_false, false_implies, true_implies, implies_true, forall_const])


/-! the first fault -/
def hitS (b R : List Int) : Int := (R.map fun r => b.getD r.toNat 0).sum
def badP (F : List (List Int)) (R : List Int) (i : Nat) : Bool := decide ((R.length : Int) < 2 * hitS (F.getD i []) R)
def optD : Option Nat → Dt
  | none => .non
  | some i => .int (i : Int)
theorem find_upto {p : Nat → Bool} {i n : Nat} (h : (List.range i).find? p = none) (hi : i < n) (hp : p i = true) : (List.range n).find? p = some i := by
  have e : List.range n = List.range i ++ i :: (List.range (n - i - 1)).map (i + 1 + ·) := by
    refine List.ext_getElem (by simp; omega) fun j h1 h2 => ?_
    rw [List.getElem_range]
    by_cases hj : j < i
    · rw [List.getElem_append_left (by simpa using hj), List.getElem_range]
    · rw [List.getElem_append_right (by simp; omega)]
      by_cases hj2 : j = i
      · subst hj2; simp
      · obtain ⟨q, hq⟩ : ∃ q, j - i = q + 1 := ⟨j - i - 1, by omega⟩
        simp only [List.length_range, hq, List.getElem_cons_succ, List.getElem_map, List.getElem_range]
        omega
  rw [e, List.find?_append, h, List.find?_cons, hp]
  rfl
theorem find_succ (p : Nat → Bool) (i : Nat) : (List.range (i + 1)).find? p = match (List.range i).find? p with
    | some j => some j
    | none => if p i then some i else none := by
  rw [List.range_succ, List.find?_append]
  cases (List.range i).find? p with
  | some j => rfl
  | none =>
    show [i].find? p = _
    rw [List.find?_cons]
    cases p i <;> rfl
theorem getDF {F : List (List Int)} {i : Nat} (h : i < F.length) : F[i]? = some (F.getD i []) := by
  rw [List.getD_eq_getElem?_getD, List.getElem?_eq_getElem h]
  rfl
theorem hit_comp {env : Sl} {k : Nat} {fR fb : EF} {s s' : Bool} {b R : List Int} (h : fR env = some (.vis (iseq s' R))) (hl : R.length ≤ 4000000) (hk : k < env.length) (hb : ∀ x : Int, fb ((wipeS env [k]).set k (.val (.int x))) = some (.vis (iseq s b))) (hr : ∀ r ∈ R, 0 ≤ r ∧ r < (b.length : Int)) :
    e1 pSum (eComp [k] (iSeq fR) (gN k) tYes (e2 pIx fb (eVar k))) env = some (.vis (.int (hitS b R))) := by
  have hc := comp_of (env := env) (own := [k]) (fi := iSeq fR) (g := gN k) (fe := e2 pIx fb (eVar k)) (xs := R) (u := Dt.int) (f := fun r => b.getD r.toNat 0) (v := Dt.int) (s := false) (seq_ints (b := s') h) hl fun x hx => ⟨_, rfl, .vis (.int (b.getD x.toNat 0)), ?_, rfl, rfl⟩
  · rw [e1_at, hc]
    show pSum (.lst _) = _
    rw [pSum_ints]
    rfl
  · have e : ((wipeS env [k]).set k (.val (.int x)))[k]? = some (.val (.int x)) := List.getElem?_set_self (by rw [wipeS_cons, wipeS_nil, List.length_set]; exact hk)
    obtain ⟨h0, h1⟩ := hr x hx
    rw [e2_at, hb x, eVar_at, e]
    exact pIx_iseq h0 (getD_get (by omega))
theorem hit_bd {b : List Int} (hb : Bit b) : ∀ R : List Int, 0 ≤ hitS b R ∧ hitS b R ≤ (R.length : Int)
  | [] => ⟨Int.le_refl 0, Int.le_refl 0⟩
  | r :: R => by
    obtain ⟨h1, h2⟩ := hit_bd hb R
    have e : hitS b (r :: R) = b.getD r.toNat 0 + hitS b R := by
      unfold hitS
      rw [List.map_cons, List.sum_cons]
    rw [e, List.length_cons]
    rcases bit_get hb r.toNat with e | e <;> rw [e] <;> omega
theorem fault_at {F : List (List Int)} {R : List Int} (s s' : Bool) (hF : F.length ≤ 1000) (hR : R.length ≤ 1000) (hbit : ∀ b ∈ F, Bit b) (h : ∀ b ∈ F, ∀ r ∈ R, 0 ≤ r ∧ r < (b.length : Int)) : F_first_fault [imatS s F, iseq s' R] = some (optD ((List.range F.length).find? (badP F R))) := by
  refine getF_eq dc_first_fault ?_
  show w_first_fault _ [.val (imatS s F), .val (iseq s' R), .non, .non, .non]
  refine q_forRng (lo := 0) (n := F.length) (fun i e => ∃ z2 z3, (List.range i).find? (badP F R) = none ∧ e = [.val (imatS s F), .val (iseq s' R), z2, z3, .non]) ?_ ⟨_, _, rfl, rfl⟩ ?_ ?_
  · rw [rng1 (n := (F.length : Int)) ?_ (by omega), Int.toNat_natCast]
    walk_at "pe"
    rw [len_imat]
  · rintro i env hi ⟨z2, z3, hf, rfl⟩
    refine ⟨_, by walk_at "pe"; rfl, ?_⟩
    rw [Int.zero_add]
    have hb := getDF hi
    refine q_asg (r := .vis (.int (hitS (F.getD i []) R))) (hit_comp (s := s) (s' := s') (by walk_at "pe") (by omega) (show 4 < 5 by decide) (fun x => by walk_at "pe"; rw [ix_imat hb]) (h _ (List.mem_of_getElem? hb))) rfl rfl ?_
    refine s_ifD (p := (R.length : Int) < 2 * hitS (F.getD i []) R) ?_ (fun hp => ?_) fun hp => ?_
    · have hbig : ∀ x : Int, x.natAbs < BIG → pMul (.int 2) (.int x) = some (.vis (.int (2 * x))) := fun x hx => pMul_int (big_lt (n := 64) (by decide)) hx
      walk_at "pe"
      rw [hbig _ ?_]
      · walk_at "pe"
        rw [pLen_iseq]
        walk_at "pe"
      · have := hit_bd (hbit _ (List.mem_of_getElem? hb)) R
        exact big_lt (n := 64) (by omega)
    · refine s_ret (r := .vis (.int i)) (by walk_at "pe") rfl rfl ?_
      show Dt.int (i : Int) = optD _
      rw [find_upto hf hi (decide_eq_true hp)]
      rfl
    · refine s_nil ⟨_, _, ?_, rfl⟩
      rw [find_succ, hf]
      show (if badP F R i then _ else _) = _
      rw [show badP F R i = false from decide_eq_false hp]
      rfl
  · rintro env ⟨z2, z3, hf, rfl⟩
    refine s_ret (r := .vis .non) (by walk_at "pe") rfl rfl ?_
    rw [hf]
    rfl
/-! the path told is right -/
theorem hit_chs (p : Pb) (b : List Int) : hitS b (chs p p.m) = Sg p.m fun j => b.getD (p.ch j) 0 := by
  unfold hitS chs
  rw [List.map_map]
  rfl
theorem wy_abs {p : Pb} (o : p.Ok) (k : Nat) : (p.wy k).natAbs < 2 ^ 3500 := by
  have h1 := Pb.wy_nn o k
  have h2 := Pb.wy_le o k
  have h3 := abs_pow o (k := p.m - k) (by have := o.m1; omega)
  have h0 := Int.le_of_lt (pos_pow o (p.m - k))
  have h4 := o.fl
  have h5 : (p.F.length : Int) * p.t ^ (p.m - k) ≤ 100 * p.t ^ (p.m - k) := Int.mul_le_mul_of_nonneg_right (by omega) h0
  have h6 : 128 * 2 ^ 3400 ≤ 2 ^ 3500 := by
    rw [show 3500 = 7 + 3493 by decide, Nat.pow_add]
    exact Nat.mul_le_mul (by decide) (Nat.pow_le_pow_right (by decide) (by decide))
  generalize p.t ^ (p.m - k) = X at *
  generalize p.wy k = Y at *
  generalize (p.F.length : Int) * X = Z at *
  generalize 2 ^ 3400 = A at *
  generalize 2 ^ 3500 = B at *
  omega
theorem low_le {x X y Y : Int} (hX : 0 < X) (hY : 0 < Y) (h : x * Y ≤ y * X) : lowT x X * lowB y Y ≤ lowT y Y * lowB x X := by
  have a1 := gcd_top x X
  have a2 := gcd_bot x X
  have a3 := gcd_pos (a := x) hX
  have b1 := gcd_top y Y
  have b2 := gcd_bot y Y
  have b3 := gcd_pos (a := y) hY
  generalize gcdI x X = g at *
  generalize gcdI y Y = e at *
  generalize lowT x X = a at *
  generalize lowB x X = b at *
  generalize lowT y Y = c at *
  generalize lowB y Y = d at *
  subst a1 a2 b1 b2
  have h2 : g * e * (a * d) ≤ g * e * (c * b) := by
    have e1 : g * e * (a * d) = g * a * (e * d) := by
      rw [Int.mul_assoc, Int.mul_assoc, Int.mul_left_comm e a d]
    have e2 : g * e * (c * b) = e * c * (g * b) := by
      rw [Int.mul_comm g e, Int.mul_assoc, Int.mul_assoc, Int.mul_left_comm g c b]
    rw [e1, e2]
    exact h
  exact Int.le_of_mul_le_mul_left h2 (Int.mul_pos a3 b3)
theorem dgs_get {p : Pb} {k : Nat} (h : k ≤ p.m) : (dgs p p.m)[k]? = some (lowD (p.wy k) (p.t ^ (p.m - k))) := by
  unfold dgs
  rw [List.getElem?_map, List.getElem?_range (by omega)]
  rfl
theorem ix_dgs {p : Pb} {k : Nat} (h : k ≤ p.m) : pIx (.tup (dgs p p.m)) (.int (k : Int)) = some (.vis (lowD (p.wy k) (p.t ^ (p.m - k)))) := by
  show (atL (dgs p p.m) (k : Int)).map R.vis = _
  rw [atL_nat, dgs_get h]
  rfl
theorem chs_get {p : Pb} {k : Nat} (h : k < p.m) : (chs p p.m)[k]? = some (p.ch k : Int) := by
  unfold chs
  rw [List.getElem?_map, List.getElem?_range h]
  rfl
theorem wys_get {p : Pb} {k : Nat} (h : k ≤ p.m) : (wys p p.m)[k]? = some (p.wy k) := by
  unfold wys
  rw [List.getElem?_map, List.getElem?_range (by omega)]
  rfl
theorem eFld_at {cs : List Nat} {f : Str} {fe : EF} {env : Sl} {c : Nat} {fs : List (Str × Dt)} {v : Dt} (h : fe env = some (.vis (.obj c fs))) (hc : c ∈ cs) (hf : fs.lookup f = some v) : eFld cs f fe env = some (.vis v) := by
  unfold eFld
  rw [h]
  show (if c ∈ cs then (fs.lookup f).map R.vis else none) = _
  rw [if_pos hc, hf]
  rfl
theorem eIsC_at {cs : List Nat} {c : Nat} {fe : EF} {env : Sl} {fs : List (Str × Dt)} (h : fe env = some (.vis (.obj c fs))) (hc : c ∈ cs) : eIsC cs c fe env = some (.vis (.bl true)) := by
  unfold eIsC
  rw [h]
  show (if c ∈ cs then some (R.vis (.bl (c == c))) else none) = _
  rw [if_pos hc, beq_self_eq_true]
theorem seqOf_chs (p : Pb) {env : Sl} {fa : EF} (h : fa env = some (.vis (ilst (chs p p.m)))) : iSeq fa env = some ((chs p p.m).map Dt.int, false) := seq_ints (b := false) h
theorem right_at {p : Pb} (o : p.Ok) (hlt : ¬ p.t ^ p.m ≤ p.wy 0) : F__law_right [.obj 21 [("rows", itup (chs p p.m)), ("dangers", .tup (dgs p p.m))], imat p.F, .int p.t, .int (p.m : Int), .lst [ilst (chs p p.m), ilst (wys p p.m)]] = some (.bl true) := by
  refine getF_eq dc__law_right ?_
  have hfl := o.fl
  have hpl := o.pl
  have hm1 := o.m1
  have ht1 := o.t1
  have ht2 := o.t2
  generalize hO : Dt.obj 21 [("rows", itup (chs p p.m)), ("dangers", .tup (dgs p p.m))] = O
  generalize hU : Dt.lst [ilst (chs p p.m), ilst (wys p p.m)] = U
  show w__law_right _ [.val O, .val (imat p.F), .val (.int p.t), .val (.int p.m), .val U, .non, .non, .non, .non, .non]
  have hro : ∀ l : Sl, eFld [21] "rows" (eVar 0) (.val O :: l) = some (.vis (itup (chs p p.m))) := fun l => by subst hO; exact eFld_at rfl (List.mem_singleton.mpr rfl) rfl
  have hda : ∀ l : Sl, eFld [21] "dangers" (eVar 0) (.val O :: l) = some (.vis (.tup (dgs p p.m))) := fun l => by subst hO; exact eFld_at rfl (List.mem_singleton.mpr rfl) rfl
  have his : ∀ l : Sl, eIsC [21] 21 (eVar 0) (.val O :: l) = some (.vis (.bl true)) := fun l => by subst hO; exact eIsC_at rfl (List.mem_singleton.mpr rfl)
  have hu0 : pIx U (.int 0) = some (.vis (ilst (chs p p.m))) := by subst hU; rfl
  have hu1 : pIx U (.int 1) = some (.vis (ilst (wys p p.m))) := by subst hU; rfl
  clear hO hU
  have hDlen : pLen (.tup (dgs p p.m)) = some (.vis (.int ((p.m + 1 : Nat) : Int))) := by rw [pLen_tup, dgs_len]
  have hDix := fun k (hk : k ≤ p.m) => ix_dgs (p := p) (k := k) hk
  have hDis : pIsi "tuple" (.tup (dgs p p.m)) = some (.vis (.bl true)) := rfl
  generalize Dt.tup (dgs p p.m) = DG at hda hDlen hDix hDis
  refine q_ifD (p := False) ?_ (fun e => e.elim) fun _ => s_nil ?_
  · rw [tOr_at, tNot_at, tVal_at, his, tOr_at, tNot_at, tVal_at, e1_at, hro, tNot_at, tVal_at, e1_at, hda]
    walk_at "pe"
    rw [hDis]
    rfl
  refine q_ifD (p := False) ?_ (fun e => e.elim) fun _ => s_nil ?_
  · rw [tOr_at, tVal_at, e2_at, e1_at, hro, tVal_at, e2_at, e1_at, hda]
    have h1 : pLen (itup (chs p p.m)) = some (.vis (.int p.m)) := by
      have := pLen_iseq true (chs p p.m)
      rw [chs_len] at this
      exact this
    walk_at "pe"
    rw [h1, hDlen]
    walk_at "pe"
    rw [decide_eq_true (show ((p.m + 1 : Nat) : Int) = (p.m : Int) + 1 by omega)]
    simp
  refine q_asg (r := .vis (.int (p.t ^ p.m))) (by walk_at "pe"; rw [power_at (by omega) ht2 (by omega)]; rfl) rfl rfl ?_
  refine q_forRng (lo := 0) (n := p.m + 1) (fun k e => ∃ (wv : Int) (z6 : Slot), (k ≤ p.m → wv = p.t ^ (p.m - k)) ∧ e = [.val O, .val (imat p.F), .val (.int p.t), .val (.int p.m), .val U, .val (.int wv), z6, .non, .non, .non]) (by rw [rng1 (n := ((p.m + 1 : Nat) : Int)) (by walk_at "pe"; rfl) (by omega), Int.toNat_natCast]) ⟨_, _, fun _ => by rw [Nat.sub_zero], rfl⟩ ?_ ?_
  · rintro k env hk ⟨wv, z6, hwv, rfl⟩
    have hwv := hwv (by omega)
    subst hwv
    refine ⟨_, by walk_at "pe"; rfl, ?_⟩
    rw [Int.zero_add]
    have hix := hDix k (by omega)
    have hwx : pIx (ilst (wys p p.m)) (.int (k : Int)) = some (.vis (.int (p.wy k))) := ix_iseq (b := false) (wys_get (by omega))
    refine q_ifD (p := False) ?_ (fun e => e.elim) fun _ => s_nil ?_
    · rw [tNot_at, tVal_at, eCall_at, aCons_at, e2_at, hda]
      walk_at "pe"
      rw [hix, hu1]
      walk_at "pe"
      rw [hwx]
      walk_at "pe"
      rw [exact_low (pos_pow o _) (Nat.lt_trans (wy_abs o k) (Nat.pow_lt_pow_right (by decide) (by decide))) (Nat.lt_trans (abs_pow o (by omega)) (Nat.pow_lt_pow_right (by decide) (by decide)))]
      rfl
    refine q_asg (r := .vis (.int (p.t ^ (p.m - k) / p.t))) (by walk_at "pe"; rw [pDiv_int (by omega) (div64 (by omega) (by omega))]) rfl rfl ?_
    refine s_ifD (p := False) ?_ (fun e => e.elim) fun _ => s_nil ⟨_, .val (.int (k : Int)), fun h => ?_, rfl⟩
    · rw [tAnd_at, tVal_at]
      by_cases h0 : k = 0
      · subst h0
        walk_at "pe"
        rfl
      · obtain ⟨j, rfl⟩ : ∃ j, k = j + 1 := ⟨k - 1, by omega⟩
        have hjx := hDix j (by omega)
        have e1 : ((j + 1 : Nat) : Int) - 1 = (j : Int) := by omega
        have hb : ∀ x X : Int, 0 < X → x.natAbs < 2 ^ 3500 → X.natAbs < 2 ^ 3500 → (lowT x X).natAbs < BIG ∧ (lowB x X).natAbs < BIG := fun x X hX h1 h2 => by
          obtain ⟨q1, q2⟩ := low_abs (a := x) hX
          exact ⟨big_lt (Nat.lt_of_le_of_lt q1 h1), big_lt (Nat.lt_of_le_of_lt q2 h2)⟩
        have hp35 : ∀ i, (p.t ^ (p.m - i)).natAbs < 2 ^ 3500 := fun i => Nat.lt_trans (abs_pow o (by omega)) (Nat.pow_lt_pow_right (by decide) (by decide))
        obtain ⟨c1, c2⟩ := hb (p.wy (j + 1)) (p.t ^ (p.m - (j + 1))) (pos_pow o _) (wy_abs o _) (hp35 _)
        obtain ⟨d1, d2⟩ := hb (p.wy j) (p.t ^ (p.m - j)) (pos_pow o _) (wy_abs o _) (hp35 _)
        have hle : lowT (p.wy (j + 1)) (p.t ^ (p.m - (j + 1))) * lowB (p.wy j) (p.t ^ (p.m - j)) ≤ lowT (p.wy j) (p.t ^ (p.m - j)) * lowB (p.wy (j + 1)) (p.t ^ (p.m - (j + 1))) := by
          refine low_le (pos_pow o _) (pos_pow o _) ?_
          have h1 := Pb.wy_succ o (k := j) (by omega)
          rw [show p.m - j = (p.m - (j + 1)) + 1 by omega, Int.pow_succ, Int.mul_comm (p.t ^ (p.m - (j + 1))) p.t, ← Int.mul_assoc]
          exact Int.mul_le_mul_of_nonneg_right h1 (Int.le_of_lt (pos_pow o _))
        have hl0 : ∀ x X : Int, pIx (lowD x X) (.int 0) = some (.vis (.int (lowT x X))) := fun _ _ => rfl
        have hl1 : ∀ x X : Int, pIx (lowD x X) (.int 1) = some (.vis (.int (lowB x X))) := fun _ _ => rfl
        have hgt : tVal (e2 pGt (eVar 6) (eC (.int 0))) [.val O, .val (imat p.F), .val (.int p.t), .val (.int p.m), .val U, .val (.int (p.t ^ (p.m - (j + 1)) / p.t)), .val (.int ((j + 1 : Nat) : Int)), .non, .non, .non] = some true := by
          walk_at "pe"
          omega
        show Option.bind (tVal (e2 pGt (eVar 6) (eC (.int 0))) [.val O, .val (imat p.F), .val (.int p.t), .val (.int p.m), .val U, .val (.int (p.t ^ (p.m - (j + 1)) / p.t)), .val (.int ((j + 1 : Nat) : Int)), .non, .non, .non]) _ = _
        rw [hgt]
        show tVal _ [.val O, .val (imat p.F), .val (.int p.t), .val (.int p.m), .val U, .val (.int (p.t ^ (p.m - (j + 1)) / p.t)), .val (.int ((j + 1 : Nat) : Int)), .non, .non, .non] = _
        simp (config := { implicitDefEqProofs := false }) only [tVal_at, e2_at, hda]
        walk_at "pe"
        rw [e1, hjx, hix]
        walk_at "pe"
        rw [hl0, hl1, hl0, hl1]
        walk_at "pe"
        rw [pMul_int c1 d2, pMul_int d1 c2]
        walk_at "pe"
        rw [decide_eq_false (show ¬ _ < _ by omega)]
        rfl
    · rw [show p.m - k = (p.m - (k + 1)) + 1 by omega, Int.pow_succ, Int.mul_ediv_cancel _ (by omega)]
  rintro env ⟨wv, z6, _, rfl⟩
  refine q_forRng (lo := 0) (n := p.m) (fun k e => ∃ (z6 : Slot), e = [.val O, .val (imat p.F), .val (.int p.t), .val (.int p.m), .val U, .val (.int wv), z6, .non, .non, .non]) (by rw [rng1 (n := (p.m : Int)) (by walk_at "pe") (by omega), Int.toNat_natCast]) ⟨_, rfl⟩ ?_ ?_
  · rintro k env hk ⟨z6, rfl⟩
    refine ⟨_, by walk_at "pe"; rfl, ?_⟩
    rw [Int.zero_add]
    have h1 : pIx (itup (chs p p.m)) (.int (k : Int)) = some (.vis (.int (p.ch k : Int))) := ix_iseq (b := true) (chs_get hk)
    have h2 : pIx (ilst (chs p p.m)) (.int (k : Int)) = some (.vis (.int (p.ch k : Int))) := ix_iseq (b := false) (chs_get hk)
    refine s_ifD (p := False) ?_ (fun e => e.elim) fun _ => s_nil ⟨_, rfl⟩
    rw [tOr_at, tNot_at, tVal_at, eCall_at, aCons_at, e2_at, hro, tVal_at, e2_at, e2_at, hro]
    walk_at "pe"
    rw [h1, hu0]
    walk_at "pe"
    rw [h2, whole_at]
    walk_at "pe"
    simp
  rintro env ⟨z6, rfl⟩
  have hbad := Pb.right_end o (by omega)
  have hrng : ∀ b ∈ p.F, ∀ r ∈ chs p p.m, 0 ≤ r ∧ r < (b.length : Int) := fun b hb r hr => by
    unfold chs at hr
    obtain ⟨j, _, rfl⟩ := List.mem_map.mp hr
    have := Pb.ch_lt o j
    rw [(o.rows b hb).1]
    omega
  refine q_forMap (u := ilst) (xs := p.F) (fun k e => ∃ (z7 : Slot), e = [.val O, .val (imat p.F), .val (.int p.t), .val (.int p.m), .val U, .val (.int wv), z6, z7, .non, .non]) (seq_mat (b := false) (by walk_at "pe"; rfl)) ⟨_, rfl⟩ ?_ ?_
  · rintro k env b hb ⟨z7, rfl⟩
    have hm := List.mem_of_getElem? hb
    refine ⟨_, by walk_at "pe"; rfl, ?_⟩
    have hh := hit_comp (env := [.val O, .val (imat p.F), .val (.int p.t), .val (.int p.m), .val U, .val (.int wv), z6, .val (ilst b), .non, .non]) (k := 9) (fR := e2 pIx (eVar 4) (eC (.int 0))) (fb := eVar 7) (s := false) (s' := false) (b := b) (R := chs p p.m) (by walk_at "pe"; rw [hu0]; rfl) (by rw [chs_len]; omega) (show 9 < 10 by decide) (fun x => by walk_at "pe"; rfl) (hrng b hm)
    have hbd := hit_bd (o.bits b hm) (chs p p.m)
    rw [chs_len] at hbd
    have hle := hbad b hm
    rw [← hit_chs] at hle
    refine s_ifD (p := False) ?_ (fun e => e.elim) fun _ => s_nil ⟨_, rfl⟩
    rw [tVal_at, e2_at, e2_at, hh]
    walk_at "pe"
    rw [pMul_int (big_lt (n := 64) (by decide)) (big_lt (n := 64) (by omega))]
    walk_at "pe"
    rw [decide_eq_false (show ¬ _ < _ by omega)]
    rfl
  rintro env ⟨z7, rfl⟩
  have hq := asTups (env := [.val O, .val (imat p.F), .val (.int p.t), .val (.int p.m), .val U, .val (.int wv), z6, z7, .non, .non]) (i := 7) (k := 1) (b := false) (c := false) (m := p.F) (show 7 < 10 by decide) rfl (by omega)
  refine q_asg (r := .vis (imatS true p.F)) (by rw [e1_at, hq]; rfl) rfl rfl ?_
  show (wRet _) _ [.val O, .val (imat p.F), .val (.int p.t), .val (.int p.m), .val U, .val (.int wv), z6, z7, .val (imatS true p.F), .non]
  refine s_ret (r := .vis (.bl true)) ?_ rfl rfl rfl
  have hff : F_first_fault [imatS true p.F, ilst (chs p p.m)] = some .non := by
    rw [show ilst (chs p p.m) = iseq false (chs p p.m) from rfl, fault_at true false (by omega) (by rw [chs_len]; omega) o.bits hrng]
    have : (List.range p.F.length).find? (badP p.F (chs p p.m)) = none := by
      rw [List.find?_eq_none]
      intro i hi
      have hb := List.mem_of_getElem? (getDF (List.mem_range.mp hi))
      have hle := hbad _ hb
      rw [← hit_chs] at hle
      unfold badP
      rw [chs_len, decide_eq_true_eq]
      omega
    rw [this]
    rfl
  have hend := hDix p.m (Nat.le_refl _)
  rw [Nat.sub_self, Pb.wy_end o (by omega), Int.pow_zero] at hend
  have h01 : lowD 0 1 = .tup [.int 0, .int 1] := by
    unfold lowD
    rw [(low01 (by decide)).1, (low01 (by decide)).2]
  rw [h01] at hend
  have heq : pEq (.tup [.int 0, .int 1]) (.tup [.int 0, .int 1]) = some (.vis (.bl true)) := by rfl
  rw [eAnd_at, e2_at, e2_at, hda]
  walk_at "pe"
  rw [hend, hu0]
  walk_at "pe"
  rw [heq, show pList (ilst (chs p p.m)) = some (.fre (.lst ((chs p p.m).map .int))) from rfl]
  walk_at "pe"
  rw [show F_first_fault [imatS true p.F, .lst ((chs p p.m).map .int)] = _ from hff]
  rfl
end Pyl
end
section
set_option Elab.async false
set_option linter.all false
set_option maxHeartbeats 2000000
namespace Pyl
open PySem
local macro_rules | `(tactic| walk_at "pe") => `(tactic| simp (config := { implicitDefEqProofs := false }) only [eVar_at, eC_at, e1_at, e2_at, aNil_at, aCons_at, eTup_at, eLst_at, plain_nil, plain_cons, eCall_at, eIf_at, aApp_at, aDfl_at, List.cons_append, List.nil_append, eAnd_at, eOr_at, eNot_at, tVal_at, tAnd_at, tOr_at, tNot_at, tYes_at,
  pAdd_int, pSub_int, pNeg_int, pLt_int, pLe_int, pGt_int, pGe_int, pEq_int, pNe_int, pIsN_at, pNotN_at, pIx_lst, pIx_tup, pGcd_int, atL0, atL1, atL2, atL3, atL4, atL5, atL6, atL7, atL8, oNone_at, oSome_at, eSlice_at, pLen_lst, pLen_tup, pInt_int, pInt_bl, pAbs_int, pSum_ints, pMax2_int, pMin2_int, pList_lst, pList_tup, pTuple_lst, pTuple_tup, iSeq_at, gN_at, gT_at, gsN_cons, gsN_nil, wipeS_cons, wipeS_nil,
  dt_vis, dt_bor, dt_fre, sh_vis, sh_bor, sh_fre, slot_vis, slot_fre, od_dt, isNon_non, isNon_int, isNon_lst, isNon_tup, scalar_int, scalar_bl, scalar_non, Option.bind_some, Option.bind_none, Option.map_some, Option.map_none, List.getElem?_cons_zero, List.getElem?_cons_succ, List.set_cons_zero, List.set_cons_succ, List.map_cons, List.map_nil, List.any_cons, List.any_nil, Bool.or_false, Bool.false_or, Bool.false_and, Bool.and_true, Bool.true_and, Bool.not_true, Bool.not_false,
  Option.some.injEq, exists_eq_left', exists_eq_left, true_and, and_true, if_true, if_false, Bool.false_eq_true, ite_true, ite_false, reduceIte, decide_eq_true_eq, decide_eq_false_iff_not, R.vis.injEq, R.fre.injEq, Dt.lst.injEq, Dt.tup.injEq, Dt.int.injEq, Slot.own.injEq, OD.lst.injEq, reduceCtorEq, false_and, exists_false, exists_const, Bool.true_eq_false, false_implies, true_implies, implies_true, forall_const])


/-! == of tuples -/
theorem py_itup (ns : List Int) : (itup ns).py = some (.tuple (ns.map .int)) := by
  unfold itup Dt.py
  rw [pyL_ints]
  rfl
theorem pEq_itup (a : List Int) : pEq (itup a) (itup a) = some (.vis (.bl true)) := by
  have h1 := lay_ints a
  unfold pEq eqD
  rw [py_itup]
  show ((if SeqAt.shaped (.tuple (a.map .int)) && SeqAt.shaped (.tuple (a.map .int)) then some (PyData.eqv _ _) else none).map _) = _
  rw [if_pos]
  · simp only [PyData.eqv, eqv_ints, decide_true]
    rfl
  · simp only [SeqAt.shaped, PyData.canLay0, PyData.depth, h1.1, Bool.and_eq_true, decide_eq_true_eq, true_and, Bool.true_and]
    exact ⟨decide_eq_true (by omega), decide_eq_true (by omega)⟩
theorem pyL_tups : ∀ m : List (List Int), Dt.pyL (m.map itup) = some (m.map fun r => .tuple (r.map .int))
  | [] => rfl
  | n :: m => by
    rw [List.map_cons]
    unfold Dt.pyL
    rw [pyL_tups m, py_itup]
    rfl
theorem lay_tups : ∀ m : List (List Int), PyData.canLayAll0 (m.map fun r => .tuple (r.map .int)) = true ∧ PyData.depthAll (m.map fun r => .tuple (r.map .int)) ≤ 3
  | [] => ⟨rfl, Nat.zero_le _⟩
  | n :: ns => by
    have h := lay_tups ns
    have h1 := lay_ints n
    rw [List.map_cons]
    exact ⟨by simp [PyData.canLayAll0, PyData.canLay0, h.1, h1.1], by simp only [PyData.depthAll, PyData.depth]; omega⟩
theorem eqv_tups : ∀ a : List (List Int), PyData.eqvAll (a.map fun r => .tuple (r.map .int)) (a.map fun r => .tuple (r.map .int)) = true
  | [] => rfl
  | x :: a => by
    rw [List.map_cons]
    simp only [PyData.eqvAll, PyData.eqv, eqv_tups a, eqv_ints x x, decide_true, Bool.and_true]
theorem pEq_tups (a : List (List Int)) : pEq (.tup (a.map itup)) (.tup (a.map itup)) = some (.vis (.bl true)) := by
  have h1 := lay_tups a
  have hp : (Dt.tup (a.map itup)).py = some (.tuple (a.map fun r => .tuple (r.map .int))) := by
    unfold Dt.py
    rw [pyL_tups]
    rfl
  unfold pEq eqD
  rw [hp]
  show ((if SeqAt.shaped (.tuple (a.map fun r => .tuple (r.map .int))) && SeqAt.shaped (.tuple (a.map fun r => .tuple (r.map .int))) then some (PyData.eqv _ _) else none).map _) = _
  rw [if_pos]
  · simp only [PyData.eqv, eqv_tups]
    rfl
  · simp only [SeqAt.shaped, PyData.canLay0, PyData.depth, h1.1, Bool.and_eq_true, decide_eq_true_eq, true_and, Bool.true_and]
    exact ⟨decide_eq_true (by omega), decide_eq_true (by omega)⟩
/-! checked -/
theorem checked_at {p : Pb} (o : p.Ok) {hv : Dt} (hh : (hv = .non ∧ p.P = List.replicate p.P.length 1) ∨ hv = ilst p.P) {cap : Nat} (hc : p.m ≤ cap) (hc2 : cap ≤ 151) (st : Int) : F__law_checked [imat p.F, hv, .int (p.m : Int), .lst (sprD p.F p.P cap), .int st] = some (.bl true) := by
  obtain ⟨b0, g0, l0, x0⟩ := head_ix o false
  have x0 : pIx (imat p.F) (.int 0) = some (.vis (ilst b0)) := x0
  refine getF_eq dc__law_checked ?_
  have hpl := o.pl
  have hpath := path_at o hc hc2
  have hask := asked_at o hh st
  have hsum : pSum (ilst p.P) = some (.vis (.int p.t)) := sum_iseq p.P
  generalize Dt.lst (sprD p.F p.P cap) = S at hpath ⊢
  show w__law_checked _ [.val (imat p.F), .val hv, .val (.int p.m), .val S, .val (.int st), .non, .non, .non, .non]
  refine q_asg (r := .fre (.lst ((List.replicate p.P.length 1).map .int))) ?_ rfl rfl ?_
  · exact (comp_of (env := [.val (imat p.F), .val hv, .val (.int p.m), .val S, .val (.int st), .non, .non, .non, .non]) (own := [8]) (fi := iSeq (e2 pIx (eVar 0) (eC (.int 0)))) (g := gN 8) (fe := eC (.int 1)) (s := false) (xs := b0) (u := Dt.int) (f := fun _ => (1 : Int)) (v := Dt.int)
      (seq_ints (b := false) (by walk_at "pe"; exact x0)) (by omega) fun x hx => ⟨_, rfl, .vis (.int 1), rfl, rfl, rfl⟩).trans (by rw [List.map_const', l0])
  refine q_frz rfl rfl ?_
  refine q_ifAsg (p := hv.isNon = false) (d := ilst (List.replicate p.P.length 1)) (d1 := hv) ?_ (fun _ => by walk_at "pe") (fun _ => rfl) fun d2 hd2 => ?_
  · rcases hh with ⟨rfl, _⟩ | rfl
    · walk_at "pe"; rfl
    · rfl
  have hd2 : d2 = ilst p.P := by
    rw [hd2]
    rcases hh with ⟨rfl, h⟩ | rfl
    · rw [if_neg (by decide), ← h]
    · exact if_pos rfl
  subst hd2
  show (wSeq _ _) _ [.val (imat p.F), .val hv, .val (.int p.m), .val S, .val (.int st), .val (ilst p.P), .non, .non, .non]
  refine q_asg (r := .vis (pathD p)) (by walk_at "pe"; rw [hsum]; walk_at "pe"; rw [hpath]; rfl) rfl rfl ?_
  refine q_asg (r := .vis (toldR p)) (by walk_at "pe"; rw [hask]; rfl) rfl rfl ?_
  show (wSeq _ _) _ [.val (imat p.F), .val hv, .val (.int p.m), .val S, .val (.int st), .val (ilst p.P), .val (pathD p), .val (toldR p), .non]
  by_cases hlt : p.t ^ p.m ≤ p.wy 0
  · have e1 : pathD p = .non := if_pos hlt
    have e2 : toldR p = .lst [.int 1, .non] := if_pos hlt
    rw [e1, e2]
    refine q_ifD (p := True) (by walk_at "pe"; rfl) (fun _ => ?_) fun e => absurd trivial e
    exact s_ret (r := .vis (.bl true)) (by walk_at "pe"; rfl) rfl rfl rfl
  · have e1 : pathD p = .lst [ilst (chs p p.m), ilst (wys p p.m)] := if_neg hlt
    have e2 : toldR p = .lst [.int 0, .obj 21 [("rows", itup (chs p p.m)), ("dangers", .tup (dgs p p.m))]] := if_neg hlt
    have hr := right_at o hlt
    rw [e1, e2]
    generalize Dt.obj 21 [("rows", itup (chs p p.m)), ("dangers", .tup (dgs p p.m))] = O at hr ⊢
    refine q_ifD (p := False) (by walk_at "pe"; rfl) (fun e => e.elim) fun _ => s_nil ?_
    refine s_ret (r := .vis (.bl true)) ?_ rfl rfl rfl
    rw [eAnd_at]
    walk_at "pe"
    simp (config := { implicitDefEqProofs := false }) only [decide_true]
    rw [hsum]
    walk_at "pe"
    rw [hr]
    rfl
/-! picked -/
structure OkB (F : List (List Int)) (c : Nat) : Prop where
  f0 : F ≠ []
  fl : F.length ≤ 100
  rows : ∀ b ∈ F, b.length = c ∧ Bit b
  c0 : 0 < c
  c1 : c ≤ 300
theorem picked_at {F : List (List Int)} {c : Nat} (o : OkB F c) (cell : Int) : F__law_picked [imat F, .int cell] = some (.bl true) := by
  have hF0 : 0 < F.length := List.length_pos_iff.mpr o.f0
  have hb0 := getDF hF0
  have hl0 := (o.rows _ (List.mem_of_getElem? hb0)).1
  have hfl := o.fl
  have hc0 := o.c0
  have hc1 := o.c1
  have x0 : pIx (imat F) (.int 0) = some (.vis (ilst (F.getD 0 []))) := ix_imat (b := false) hb0
  refine getF_eq dc__law_picked ?_
  show w__law_picked _ [.val (imat F), .val (.int cell), .non, .non, .non, .non, .non, .non, .non, .non, .non, .non, .non]
  -- the digits
  have hpos : ∀ s ∈ ((5 : Int) :: 2 :: List.replicate 9 (c : Int)), 0 < s ∧ s < 18446744073709551616 := fun s hs => by
    simp at hs
    rcases hs with rfl | rfl | rfl <;> omega
  have hd := digs_at (c := cell) (ns := (5 : Int) :: 2 :: List.replicate 9 (c : Int)) ⟨fun s hs => ⟨(hpos s hs).1, bigs64 (hpos s hs).1 (hpos s hs).2⟩, by simp⟩
  obtain ⟨D, hD⟩ : ∃ D, digitsM cell ((5 : Int) :: 2 :: List.replicate 9 (c : Int)) = D := ⟨_, rfl⟩
  have hDl : D.length = 11 := by rw [← hD, digitsM_len]; rfl
  have hDg : ∀ i s, ((5 : Int) :: 2 :: List.replicate 9 (c : Int))[i]? = some s → 0 ≤ D.getD i 0 ∧ D.getD i 0 < s := fun i s h => by
    have hi : i < D.length := by rw [hDl]; exact (List.getElem?_eq_some_iff.mp h).1
    exact digitsM_get (c := cell) (fun s hs => (hpos s hs).1) h (by rw [hD]; exact getD_get hi)
  rw [hD] at hd
  have w0 := hDg 0 5 rfl
  refine q_asg (r := .vis (ilst D)) ?_ rfl rfl ?_
  · have hcm := comp_rng (env := [.val (imat F), .val (.int cell), .non, .non, .non, .non, .non, .non, .non, .non, .non, .non, .non]) (k := 12) (n := 9) (fa := eC (.int 9)) (fe := e1 pLen (e2 pIx (eVar 0) (eC (.int 0)))) (f := fun _ => (c : Int)) rfl (by decide) fun j hj => by
      walk_at "pe"
      rw [x0]
      walk_at "pe"
      rw [show pLen (ilst (F.getD 0 [])) = _ from pLen_iseq false _, hl0]
    have hrep : (List.range 9).map (fun _ => (c : Int)) = List.replicate 9 (c : Int) := by rw [List.map_const', List.length_range]
    rw [hrep] at hcm
    rw [eCall_at, aCons_at, eVar_at, aCons_at, e2_at, hcm]
    walk_at "pe"
    rw [pAdd_lst (by simp [LIM])]
    walk_at "pe"
    rw [show F__law_digits [.int cell, .lst (.int 5 :: .int 2 :: (List.replicate 9 (c : Int)).map Dt.int)] = _ from hd]
    walk_at "pe"
  have hix0 : pIx (ilst D) (.int 0) = some (.vis (.int (D.getD 0 0))) := ix_iseqD (b := false) (i := 0) (by omega)
  have hix1 : pIx (ilst D) (.int 1) = some (.vis (.int (D.getD 1 0))) := ix_iseqD (b := false) (i := 1) (by omega)
  obtain ⟨d0, hd0⟩ : ∃ d0 : Nat, D.getD 0 0 = (d0 : Int) := ⟨(D.getD 0 0).toNat, by omega⟩
  obtain ⟨R, hR⟩ : ∃ R, (D.drop 2).take (1 + 2 * d0) = R := ⟨_, rfl⟩
  have hRl : R.length = 1 + 2 * d0 := by rw [← hR, List.length_take, List.length_drop]; omega
  have hRm : ∀ r ∈ R, 0 ≤ r ∧ r < (c : Int) := fun r hr => by
    rw [← hR] at hr
    obtain ⟨i, hi, e⟩ := List.getElem_of_mem (List.mem_of_mem_take hr)
    rw [List.length_drop] at hi
    rw [List.getElem_drop] at e
    have h1 : ((5 : Int) :: 2 :: List.replicate 9 (c : Int))[2 + i]? = some (c : Int) := by
      rw [show 2 + i = i + 1 + 1 by omega, List.getElem?_cons_succ, List.getElem?_cons_succ, List.getElem?_replicate, if_pos (by omega)]
    have := hDg (2 + i) c h1
    rw [List.getD_eq_getElem?_getD, List.getElem?_eq_getElem (by omega)] at this
    rw [← e]
    exact this
  have hrng : ∀ b ∈ F, ∀ r ∈ R, 0 ≤ r ∧ r < (b.length : Int) := fun b hb r hr => by rw [(o.rows b hb).1]; exact hRm r hr
  refine q_asg (r := .fre (.lst (R.map .int))) ?_ rfl rfl ?_
  · have hcut := cut_nat Dt.int (xs := D) (a := 2) (k := 1 + 2 * d0) (by omega)
    rw [hR] at hcut
    walk_at "pe"
    rw [hix0, hd0]
    walk_at "pe"
    rw [pMul_int (big_lt (n := 64) (by decide)) (big_lt (n := 64) (by omega))]
    walk_at "pe"
    rw [show (3 : Int) + 2 * (d0 : Int) = ((2 : Nat) : Int) + ((1 + 2 * d0 : Nat) : Int) by omega]
    exact congrArg (fun l => some (Pyl.R.fre (.lst l))) hcut
  refine q_frz rfl rfl ?_
  refine q_asg (r := .vis .non) (by walk_at "pe") rfl rfl ?_
  have hFl : pLen (imat F) = some (.vis (.int F.length)) := len_imat false F
  refine q_forRng (lo := 0) (n := F.length) (fun i e => ∃ z5, e = [.val (imat F), .val (.int cell), .val (ilst D), .val (ilst R), .val (optD ((List.range i).find? (badP F R))), z5, .non, .non, .non, .non, .non, .non, .non]) ?_ ⟨_, rfl⟩ ?_ ?_
  · rw [rng1 (n := (F.length : Int)) ?_ (by omega), Int.toNat_natCast]
    walk_at "pe"
    exact hFl
  · rintro i env hi ⟨z5, rfl⟩
    refine ⟨_, by walk_at "pe"; rfl, ?_⟩
    rw [Int.zero_add]
    have hb := getDF hi
    have hbm := List.mem_of_getElem? hb
    rw [find_succ]
    cases hf : (List.range i).find? (badP F R) with
    | some j =>
      refine s_ifD (p := False) (by show tAnd _ _ [_, _, _, _, .val (.int (j : Int)), _, _, _, _, _, _, _, _] = _; walk_at "pe"; rfl) (fun e => e.elim) fun _ => s_nil ⟨_, rfl⟩
    | none =>
      have hh := hit_comp (env := [.val (imat F), .val (.int cell), .val (ilst D), .val (ilst R), .val .non, .val (.int i), .non, .non, .non, .non, .non, .non, .non]) (k := 11) (fR := eVar 3) (fb := e2 pIx (eVar 0) (eVar 5)) (s := false) (s' := false) (b := F.getD i []) (R := R) (by walk_at "pe"; rfl) (by omega) (show 11 < 13 by decide) (fun x => by walk_at "pe"; rw [show pIx (imat F) (.int (i : Int)) = _ from ix_imat (b := false) hb]) (hrng _ hbm)
      have hbd := hit_bd (o.rows _ hbm).2 R
      refine s_ifD (p := (R.length : Int) < 2 * hitS (F.getD i []) R) ?_ (fun hp => ?_) fun hp => s_nil ⟨.val (.int i), ?_⟩
      · show tAnd _ _ [.val (imat F), .val (.int cell), .val (ilst D), .val (ilst R), .val .non, .val (.int i), .non, .non, .non, .non, .non, .non, .non] = _
        rw [tAnd_at, tVal_at, tVal_at, e2_at, e2_at, hh]
        walk_at "pe"
        rw [pMul_int (big_lt (n := 64) (by decide)) (big_lt (n := 64) (by omega))]
        walk_at "pe"
        rw [show pLen (ilst R) = _ from pLen_iseq false R]
        walk_at "pe"
      · refine s_asg (r := .vis (.int i)) (by walk_at "pe") rfl rfl ⟨.val (.int i), ?_⟩
        rw [if_pos (show badP F R i = true from decide_eq_true hp)]
        rfl
      · have e : badP F R i = false := decide_eq_false hp
        simp [e, optD]
  rintro env ⟨z5, rfl⟩
  have hff := fun s' => fault_at (F := F) (R := R) false s' (by omega) (by omega) (fun b hb => (o.rows b hb).2) hrng
  generalize (List.range F.length).find? (badP F R) = Q at hff ⊢
  have hq := asLists (env := [.val (imat F), .val (.int cell), .val (ilst D), .val (ilst R), .val (optD Q), z5, .non, .non, .non, .non, .non, .non, .non]) (i := 10) (k := 0) (b := false) (c := false) (m := F) (show 10 < 13 by decide) rfl (by omega)
  refine q_asg (r := .fre (.lst (F.map ilst))) hq rfl rfl ?_
  refine q_frz rfl rfl ?_
  show (wSeq _ _) _ [.val (imat F), .val (.int cell), .val (ilst D), .val (ilst R), .val (optD Q), z5, .val (imat F), .non, .non, .non, .non, .non, .non]
  refine q_cut (fun e => e = [.val (imat F), .val (.int cell), .val (ilst D), .val (ilst R), .val (optD Q), z5, .val (imat F), .non, .non, .val (optD Q), .non, .non, .non]) ?_ ?_
  · refine s_ifD (p := D.getD 1 0 = 1) (by walk_at "pe"; rw [hix1]; walk_at "pe") (fun _ => ?_) fun _ => ?_
    · refine s_asg (r := .vis (optD Q)) ?_ rfl rfl rfl
      have := hff true
      walk_at "pe"
      rw [show pTuple (ilst R) = some (.vis (iseq true R)) from rfl]
      walk_at "pe"
      rw [show F_first_fault [imat F, iseq true R] = _ from this]
      rfl
    · refine s_asg (r := .vis (optD Q)) ?_ rfl rfl rfl
      have := hff false
      walk_at "pe"
      rw [show pList (ilst R) = some (.fre (.lst (R.map .int))) from rfl]
      walk_at "pe"
      rw [show F_first_fault [imat F, .lst (R.map .int)] = _ from this]
      rfl
  rintro env rfl
  have hne : pNe (imat F) (imat F) = some (.vis (.bl false)) := by
    have := pNe_imat F F
    rw [decide_eq_true rfl] at this
    exact this
  refine q_ifD (p := False) ?_ (fun e => e.elim) fun _ => s_nil ?_
  · walk_at "pe"
    rw [hne]
    cases Q with
    | none => walk_at "pe"; rfl
    | some j => walk_at "pe"; rfl
  refine q_ifD (p := False) ?_ (fun e => e.elim) fun _ => s_nil ?_
  · cases Q with
    | none => walk_at "pe"; rfl
    | some j =>
      show tAnd _ _ [_, _, _, _, .val (.int (j : Int)), _, _, _, _, .val (.int (j : Int)), _, _, _] = _
      walk_at "pe"
      rw [whole_at]
      walk_at "pe"
      simp
  refine q_asg (r := .vis (.tup ((R.map fun r => [r, 1]).map itup))) ?_ rfl rfl ?_
  · have hcm := comp_of (env := [.val (imat F), .val (.int cell), .val (ilst D), .val (ilst R), .val (optD Q), z5, .val (imat F), .non, .non, .val (optD Q), .non, .non, .non]) (own := [11]) (fi := iSeq (eVar 3)) (g := gN 11) (fe := eTup (aCons (eVar 11) (aCons (eC (.int 1)) aNil))) (s := false) (xs := R) (u := Dt.int) (f := fun r => [r, (1 : Int)]) (v := itup) (seq_ints (b := false) (by walk_at "pe"; rfl)) (by omega) fun r hr => ⟨_, rfl, .vis (itup [r, 1]), by walk_at "pe"; rfl, rfl, rfl⟩
    rw [e1_at, hcm]
    rfl
  refine q_asg (r := .vis (.obj 21 [("rows", itup R), ("dangers", .tup ((R.map fun r => [r, 1]).map itup))])) ?_ rfl rfl ?_
  · rw [eMake_at]
    walk_at "pe"
    rw [show pTuple (ilst R) = some (.vis (itup R)) from rfl]
    walk_at "pe"
    rfl
  have hE := pEq_itup R
  have hE2 := pEq_tups (R.map fun r => [r, 1])
  generalize hT : Dt.tup ((R.map fun r => [r, 1]).map itup) = T at hE2 ⊢
  refine s_ret (r := .vis (.bl true)) ?_ rfl rfl rfl
  generalize hO : Dt.obj 21 [("rows", itup R), ("dangers", T)] = O
  have hro : ∀ l : Sl, ∀ (a0 a1 a2 a3 a4 a5 a6 a7 : Slot), eFld [21] "rows" (eVar 8) (a0 :: a1 :: a2 :: a3 :: a4 :: a5 :: a6 :: a7 :: .val O :: l) = some (.vis (itup R)) := fun l _ _ _ _ _ _ _ _ => by subst hO; exact eFld_at rfl (List.mem_singleton.mpr rfl) rfl
  have hda : ∀ l : Sl, ∀ (a0 a1 a2 a3 a4 a5 a6 a7 : Slot), eFld [21] "dangers" (eVar 8) (a0 :: a1 :: a2 :: a3 :: a4 :: a5 :: a6 :: a7 :: .val O :: l) = some (.vis T) := fun l _ _ _ _ _ _ _ _ => by subst hO; exact eFld_at rfl (List.mem_singleton.mpr rfl) rfl
  show eAnd _ _ [.val (imat F), .val (.int cell), .val (ilst D), .val (ilst R), .val (optD Q), z5, .val (imat F), .val T, .val O, .val (optD Q), .non, .non, .non] = _
  rw [eAnd_at, e1_at, hro]
  show eAnd _ _ [.val (imat F), .val (.int cell), .val (ilst D), .val (ilst R), .val (optD Q), z5, .val (imat F), .val T, .val O, .val (optD Q), .non, .non, .non] = _
  rw [eAnd_at, e2_at, hro]
  walk_at "pe"
  rw [show pTuple (ilst R) = some (.vis (itup R)) from rfl]
  walk_at "pe"
  rw [hE]
  dsimp only
  rw [hda]
  walk_at "pe"
  exact hE2
end Pyl
end
section
set_option Elab.async false
set_option linter.all false
set_option maxHeartbeats 2000000
namespace Pyl
open PySem
local macro_rules | `(tactic| walk_at "pe") => `(tactic| simp (config := { implicitDefEqProofs := false }) only [eVar_at, eC_at, e1_at, e2_at, aNil_at, aCons_at, eTup_at, eLst_at, plain_nil, plain_cons, eCall_at, eIf_at, aApp_at, aDfl_at, List.cons_append, List.nil_append, eAnd_at, eOr_at, eNot_at, tVal_at, tAnd_at, tOr_at, tNot_at, tYes_at,
  pAdd_int, pSub_int, pNeg_int, pLt_int, pLe_int, pGt_int, pGe_int, pEq_int, pNe_int, pIsN_at, pNotN_at, pIx_lst, pIx_tup, pGcd_int, atL0, atL1, atL2, atL3, atL4, atL5, atL6, atL7, atL8, oNone_at, oSome_at, eSlice_at, pLen_lst, pLen_tup, pInt_int, pInt_bl, pAbs_int, pSum_ints, pMax2_int, pMin2_int, pList_lst, pList_tup, pTuple_lst, pTuple_tup, iSeq_at, gN_at, gT_at, gsN_cons, gsN_nil, wipeS_cons, wipeS_nil,
  dt_vis, dt_bor, dt_fre, sh_vis, sh_bor, sh_fre, slot_vis, slot_fre, od_dt, isNon_non, isNon_int, isNon_lst, isNon_tup, scalar_int, scalar_bl, scalar_non, Option.bind_some, Option.bind_none, Option.map_some, Option.map_none, List.getElem?_cons_zero, List.getElem?_cons_succ, List.set_cons_zero, List.set_cons_succ, List.map_cons, List.map_nil, List.any_cons, List.any_nil, Bool.or_false, Bool.false_or, Bool.false_and, Bool.and_true, Bool.true_and, Bool.not_true, Bool.not_false,
  Option.some.injEq, exists_eq_left', exists_eq_left, true_and, and_true, if_true, if_false, Bool.false_eq_true, ite_true, ite_false, reduceIte, decide_eq_true_eq, decide_eq_false_iff_not, R.vis.injEq, R.fre.injEq, Dt.lst.injEq, Dt.tup.injEq, Dt.int.injEq, Slot.own.injEq, OD.lst.injEq, reduceCtorEq, false_and, exists_false, exists_const, Bool.true_eq_false, false_implies, true_implies, implies_true, forall_const])


/-! digits: a first one, and n of one size -/
theorem dig_rep {cell f s : Int} {n : Nat} (hf : 0 < f ∧ f < 18446744073709551616) (hs : 0 < s ∧ s < 18446744073709551616) (hn : n ≤ 1000) :
    ∃ d0 D, F__law_digits [.int cell, .lst (.int f :: (List.replicate n s).map Dt.int)] = some (ilst (d0 :: D)) ∧ D.length = n ∧ (0 ≤ d0 ∧ d0 < f) ∧ ∀ x ∈ D, 0 ≤ x ∧ x < s := by
  have hpos : ∀ x ∈ (f :: List.replicate n s), 0 < x ∧ x < 18446744073709551616 := fun x hx => by
    simp at hx
    rcases hx with rfl | ⟨_, rfl⟩
    · exact hf
    · exact hs
  have hd := digs_at (c := cell) (ns := f :: List.replicate n s) ⟨fun x hx => ⟨(hpos x hx).1, bigs64 (hpos x hx).1 (hpos x hx).2⟩, by simp; omega⟩
  have hl : (digitsM cell (f :: List.replicate n s)).length = n + 1 := by rw [digitsM_len]; simp
  cases hD : digitsM cell (f :: List.replicate n s) with
  | nil => rw [hD] at hl; cases hl
  | cons d0 D =>
    rw [hD] at hd hl
    have hg : ∀ (i : Nat) (x y : Int), (f :: List.replicate n s)[i]? = some x → (d0 :: D)[i]? = some y → 0 ≤ y ∧ y < x := fun i x y h1 h2 => digitsM_get (c := cell) (fun z hz => (hpos z hz).1) h1 (by rw [hD]; exact h2)
    have hl' : D.length = n := by simpa using hl
    refine ⟨d0, D, hd, hl', hg 0 f d0 rfl rfl, fun x hx => ?_⟩
    obtain ⟨i, hi, e⟩ := List.getElem_of_mem hx
    exact hg (i + 1) s x (by rw [List.getElem?_cons_succ, List.getElem?_replicate, if_pos (by omega)]) (by rw [List.getElem?_cons_succ, List.getElem?_eq_getElem hi, e])
theorem tail_comp {env : Sl} {k i : Nat} {fe : EF} {d0 : Int} {D : List Int} {f : Int → Int} (h : env[i]? = some (.val (ilst (d0 :: D)))) (hl : D.length ≤ 1000) (hf : ∀ x ∈ D, fe ((wipeS env [k]).set k (.val (.int x))) = some (.vis (.int (f x)))) :
    eComp [k] (iSeq (eSlice (eVar i) (oSome (eC (.int 1))) oNone)) (gN k) tYes fe env = some (.fre (.lst ((D.map f).map .int))) := by
  refine comp_of (xs := D) (u := Dt.int) (f := f) (v := Dt.int) (s := false) ?_ (by omega) fun x hx => ⟨_, rfl, .vis (.int (f x)), hf x hx, rfl, rfl⟩
  have e1 : eSlice (eVar i) (oSome (eC (.int 1))) oNone env = some (.fre (.lst (D.map .int))) := by
    rw [eSlice_at, eVar_at, h]
    show some (R.fre (.lst (cutD ((d0 :: D).map .int) (some 1) none))) = _
    rw [cutD_from1]
    rfl
  rw [iSeq_at, e1]
  rfl
theorem parts_at (c : Int) {n : Nat} (h0 : 1 ≤ n) (h1 : n ≤ 300) : ∃ r, F__law_parts [.int c, .int (n : Int)] = some r ∧ (r = .non ∨ ∃ L, r = ilst L ∧ L.length = n ∧ ∀ x ∈ L, 1 ≤ x ∧ x ≤ 10000) := by
  refine getF_rel dc__law_parts ?_
  obtain ⟨d0, D, hd, hDl, hd0, hDm⟩ := dig_rep (cell := c) (f := 6) (s := 10000) (n := n) (by decide) (by decide) (by omega)
  show w__law_parts _ [.val (.int c), .val (.int n), .non, .non, .non]
  refine q_asg (r := .vis (ilst (d0 :: D))) ?_ rfl rfl ?_
  · rw [eCall_at, aCons_at, eVar_at, aCons_at, e2_at, comp_consts (n := n) (by walk_at "pe") (by omega)]
    walk_at "pe"
    rw [pAdd_lst (by simp [LIM]; omega)]
    walk_at "pe"
    rw [hd]
    walk_at "pe"
  have x0 : pIx (ilst (d0 :: D)) (.int 0) = some (.vis (.int d0)) := rfl
  have x1 : ∃ d1, pIx (ilst (d0 :: D)) (.int 1) = some (.vis (.int d1)) := by
    cases D with
    | nil => simp at hDl; omega
    | cons d1 D => exact ⟨d1, rfl⟩
  obtain ⟨d1, x1⟩ := x1
  have hgen : ∀ j : Nat, True := fun _ => trivial
  have hT : ∀ {f : Int → Int} {fe : EF}, (∀ x ∈ D, fe [.val (.int c), .val (.int n), .val (ilst (d0 :: D)), .non, .val (.int x)] = some (.vis (.int (f x)))) → eComp [4] (iSeq (eSlice (eVar 2) (oSome (eC (.int 1))) oNone)) (gN 4) tYes fe [.val (.int c), .val (.int n), .val (ilst (d0 :: D)), .non, .non] = some (.fre (.lst ((D.map f).map .int))) := fun hf => tail_comp (d0 := d0) rfl (by omega) hf
  show (wSeq _ _) _ [.val (.int c), .val (.int n), .val (ilst (d0 :: D)), .non, .non]
  refine q_ifD (p := d0 < 2) (by walk_at "pe"; rw [x0]; walk_at "pe") (fun _ => s_ret (r := .vis .non) (by walk_at "pe") rfl rfl (.inl rfl)) fun _ => s_nil ?_
  refine q_ifD (p := d0 = 2) (by walk_at "pe"; rw [x0]; walk_at "pe") (fun _ => ?_) fun _ => s_nil ?_
  · refine s_ret (r := .fre (.lst ((List.replicate n 1).map .int))) (comp_consts (n := n) (by walk_at "pe") (by omega)) rfl rfl (.inr ⟨_, rfl, by simp, fun x hx => ?_⟩)
    rw [List.eq_of_mem_replicate hx]
    decide
  refine q_ifD (p := d0 = 3) (by walk_at "pe"; rw [x0]; walk_at "pe") (fun _ => ?_) fun _ => s_nil ?_
  · refine s_ret (r := .fre (.lst ((D.map fun x => 1 + x % 4).map .int))) (hT fun x hx => by walk_at "pe"; rw [pMod_int (by decide)]; walk_at "pe") rfl rfl (.inr ⟨_, rfl, by simp [hDl], fun y hy => ?_⟩)
    obtain ⟨x, hx, rfl⟩ := List.mem_map.mp hy
    omega
  refine q_ifD (p := d0 = 4) (by walk_at "pe"; rw [x0]; walk_at "pe") (fun _ => ?_) fun _ => s_nil ?_
  · refine s_ret (r := .fre (.lst ((D.map fun x => 1 + x).map .int))) (hT fun x hx => by walk_at "pe") rfl rfl (.inr ⟨_, rfl, by simp [hDl], fun y hy => ?_⟩)
    obtain ⟨x, hx, rfl⟩ := List.mem_map.mp hy
    have := hDm x hx
    omega
  · refine s_ret (r := .fre (.lst (((List.range n).map fun k : Nat => 1 + 9999 * (if (k : Int) = d1 % (n : Int) then (1 : Int) else 0)).map .int))) (comp_rng (n := n) (by walk_at "pe") (by omega) fun k hk => ?_) rfl rfl (.inr ⟨_, rfl, by simp, fun y hy => ?_⟩)
    · walk_at "pe"
      rw [x1]
      walk_at "pe"
      rw [pMod_int (by omega)]
      walk_at "pe"
      rw [pMul_int (big_lt (n := 64) (by decide)) (big_lt (n := 64) (by split <;> decide))]
      walk_at "pe"
    · obtain ⟨k, _, rfl⟩ := List.mem_map.mp hy
      split <;> decide
/-! bits that hit -/
theorem abs_sum1 : ∀ {l : List Int}, (∀ x ∈ l, 0 ≤ x ∧ x ≤ 10000) → 0 ≤ l.sum ∧ l.sum ≤ 10000 * (l.length : Int)
  | [], _ => ⟨by decide, by decide⟩
  | x :: l, h => by
    have h1 := h x List.mem_cons_self
    have h2 := abs_sum1 (l := l) fun y hy => h y (List.mem_cons_of_mem _ hy)
    rw [List.sum_cons, List.length_cons]
    omega
theorem bits_at (c : Int) {P : List Int} (a : Bool) (h0 : 1 ≤ P.length) (h1 : P.length ≤ 300) (hP : ∀ x ∈ P, 1 ≤ x ∧ x ≤ 10000) : ∃ r, F__law_wrong_bits [.int c, ilst P, .bl a] = some r ∧ ∃ b, r = ilst b ∧ b.length = P.length ∧ Bit b := by
  refine getF_rel dc__law_wrong_bits ?_
  obtain ⟨d0, D, hd, hDl, hd0, hDm⟩ := dig_rep (cell := c) (f := 40) (s := 60) (n := P.length) (by decide) (by decide) (by omega)
  have hPl : pLen (ilst P) = some (.vis (.int P.length)) := pLen_iseq false P
  have hPs : pSum (ilst P) = some (.vis (.int P.sum)) := sum_iseq P
  have hPx : ∀ j, j < P.length → pIx (ilst P) (.int (j : Int)) = some (.vis (.int (P.getD j 0))) := fun j hj => ix_iseqD (b := false) hj
  show w__law_wrong_bits _ [.val (.int c), .val (ilst P), .val (.bl a), .non, .non, .non, .non, .non, .non]
  refine q_asg (r := .vis (ilst (d0 :: D))) ?_ rfl rfl ?_
  · rw [eCall_at, aCons_at, eVar_at, aCons_at, e2_at, comp_consts (n := P.length) (by walk_at "pe"; exact hPl) (by omega)]
    walk_at "pe"
    rw [pAdd_lst (by simp [LIM]; omega)]
    walk_at "pe"
    rw [hd]
    walk_at "pe"
  have x0 : pIx (ilst (d0 :: D)) (.int 0) = some (.vis (.int d0)) := rfl
  obtain ⟨v, hv, hvt⟩ := tab (l := [46, 44, 42, 40, 38, 36, 46, 34, 45, 32]) (d := d0 % 10) (by omega) (by show d0 % 10 < 10; omega)
  refine q_asg (r := .vis (.int v)) ?_ rfl rfl ?_
  · walk_at "pe"
    rw [x0]
    walk_at "pe"
    rw [pMod_int (by decide)]
    show (atL ([46, 44, 42, 40, 38, 36, 46, 34, 45, 32].map Dt.int) (d0 % 10)).map R.vis = _
    rw [hvt]
    rfl
  show (wSeq _ _) _ [.val (.int c), .val (ilst P), .val (.bl a), .val (ilst (d0 :: D)), .val (.int v), .non, .non, .non, .non]
  refine q_asg (r := .fre (.lst ((D.map fun x => if v ≤ x then (1 : Int) else 0).map .int))) (tail_comp (d0 := d0) rfl (by omega) fun x hx => ?_) rfl rfl ?_
  · walk_at "pe"
  refine q_frz rfl rfl ?_
  have hb0 : Bit (D.map fun x => if v ≤ x then (1 : Int) else 0) := fun y hy => by
    obtain ⟨x, _, rfl⟩ := List.mem_map.mp hy
    split
    · exact .inr rfl
    · exact .inl rfl
  have hl0 : (D.map fun x => if v ≤ x then (1 : Int) else 0).length = P.length := by rw [List.length_map, hDl]
  show (wSeq _ _) _ [.val (.int c), .val (ilst P), .val (.bl a), .val (ilst (d0 :: D)), .val (.int v), .val (ilst (D.map fun x => if v ≤ x then (1 : Int) else 0)), .non, .non, .non]
  generalize (D.map fun x => if v ≤ x then (1 : Int) else 0) = b0 at hb0 hl0
  refine q_cut (fun e => ∃ b z5, (b.length = P.length ∧ Bit b) ∧ (z5 = .val (ilst b) ∨ z5 = .own (.lst (b.map .int))) ∧ e = [.val (.int c), .val (ilst P), .val (.bl a), .val (ilst (d0 :: D)), .val (.int v), z5, .non, .non, .non]) ?_ ?_
  · refine s_ifD (p := d0 = 39) (by walk_at "pe"; rw [x0]; walk_at "pe") (fun _ => ?_) fun _ => s_nil ⟨b0, _, ⟨hl0, hb0⟩, .inl rfl, rfl⟩
    exact s_asg (r := .fre (.lst ((D.map fun _ => (1 : Int)).map .int))) (tail_comp (d0 := d0) rfl (by omega) fun x hx => by walk_at "pe") rfl rfl ⟨_, _, ⟨by rw [List.length_map, hDl], fun y hy => by obtain ⟨_, _, rfl⟩ := List.mem_map.mp hy; exact .inr rfl⟩, .inr rfl, rfl⟩
  rintro env ⟨b, z5, ⟨hbl, hbit⟩, hz5, rfl⟩
  obtain ⟨r5, h5, hd5⟩ : ∃ r5 : R, eVar 0 [z5] = some r5 ∧ r5.dt = ilst b := by
    rcases hz5 with rfl | rfl
    · exact ⟨_, rfl, rfl⟩
    · exact ⟨_, rfl, rfl⟩
  have h5' : ∀ (a0 a1 a2 a3 a4 : Slot) (l : Sl), eVar 5 (a0 :: a1 :: a2 :: a3 :: a4 :: z5 :: l) = some r5 := fun _ _ _ _ _ _ => h5
  have hbx : ∀ j, j < P.length → pIx (ilst b) (.int (j : Int)) = some (.vis (.int (b.getD j 0))) := fun j hj => ix_iseqD (b := false) (by omega)
  obtain ⟨w, hw⟩ : ∃ w, w = (((List.range P.length).filter fun k => decide (b.getD k 0 = 1)).map fun k => P.getD k 0).sum := ⟨_, rfl⟩
  have hwb : 0 ≤ w ∧ w ≤ 10000 * 300 := by
    rw [hw, filt_sum P b hbit, ← wOf_Sg]
    have h2 := wOf_bd (P := P) (b := b) (fun x hx => by have := hP x hx; omega) hbit
    have h3 := abs_sum1 (l := P) fun x hx => by have := hP x hx; omega
    omega
  refine q_asg (r := .vis (.int w)) ?_ rfl rfl ?_
  · rw [e1_at, comp_filt (xs := List.range P.length) (u := fun j : Nat => Dt.int (j : Int)) (p := fun k => decide (b.getD k 0 = 1)) (f := fun k => P.getD k 0) (v := Dt.int) (s := false) (rngN (n := P.length) (by walk_at "pe"; exact hPl) (by omega)) (by rw [List.length_range]; omega) fun k hk => ⟨_, rfl, ?_, fun _ => ⟨.vis (.int (P.getD k 0)), ?_, rfl, rfl⟩⟩]
    · walk_at "pe"
      rw [hw]
    · show tVal _ [.val (.int c), .val (ilst P), .val (.bl a), .val (ilst (d0 :: D)), .val (.int v), z5, .non, .non, .val (.int (k : Int))] = _
      rw [tVal_at, e2_at, e2_at, h5']
      walk_at "pe"
      rw [hd5, hbx k (List.mem_range.mp hk)]
      walk_at "pe"
    · walk_at "pe"
      exact hPx k (List.mem_range.mp hk)
  show (wSeq _ _) _ [.val (.int c), .val (ilst P), .val (.bl a), .val (ilst (d0 :: D)), .val (.int v), z5, .val (.int w), .non, .non]
  refine q_cut (fun e => ∃ b z5, (b.length = P.length ∧ Bit b) ∧ (z5 = .val (ilst b) ∨ z5 = .own (.lst (b.map .int))) ∧ e = [.val (.int c), .val (ilst P), .val (.bl a), .val (ilst (d0 :: D)), .val (.int v), z5, .val (.int w), .non, .non]) ?_ ?_
  · obtain ⟨t, ht⟩ : ∃ t, tAnd (tVal (e2 pGt (e2 pMul (eC (.int 2)) (eVar 6)) (e1 pSum (eVar 1)))) (tOr (tVal (eVar 2)) (tVal (e2 pLt (e2 pIx (eVar 3) (eC (.int 0))) (eC (.int 36))))) [.val (.int c), .val (ilst P), .val (.bl a), .val (ilst (d0 :: D)), .val (.int v), z5, .val (.int w), .non, .non] = some t := by
      walk_at "pe"
      rw [pMul_int (big_lt (n := 64) (by decide)) (big_lt (n := 64) (by omega)), hPs, x0]
      walk_at "pe"
      cases a <;> by_cases h : P.sum < 2 * w <;> simp [h]
    refine s_if ht (fun _ => ?_) fun _ => s_nil ⟨b, z5, ⟨hbl, hbit⟩, hz5, rfl⟩
    refine s_asg (r := .fre (.lst ((b.map fun x => 1 - x).map .int))) ?_ rfl rfl ⟨b.map fun x => 1 - x, _, ⟨by rw [List.length_map, hbl], fun y hy => ?_⟩, .inr rfl, rfl⟩
    · refine comp_of (xs := b) (u := Dt.int) (f := fun x => 1 - x) (v := Dt.int) (s := r5.sh) ?_ (by omega) fun x hx => ⟨_, rfl, .vis (.int (1 - x)), by walk_at "pe", rfl, rfl⟩
      rw [iSeq_at, h5']
      show (match r5.dt with | .lst ds => some (ds, r5.sh) | .tup ds => some (ds, r5.sh) | _ => none) = _
      rw [hd5]
      rfl
    · obtain ⟨x, hx, rfl⟩ := List.mem_map.mp hy
      rcases hbit x hx with rfl | rfl
      · exact .inr rfl
      · exact .inl rfl
  rintro env ⟨b, z5, hok, hz5, rfl⟩
  refine q_frzE (env' := [.val (.int c), .val (ilst P), .val (.bl a), .val (ilst (d0 :: D)), .val (.int v), .val (ilst b), .val (.int w), .non, .non]) (by rcases hz5 with rfl | rfl <;> rfl) ?_
  exact s_ret (r := .vis (ilst b)) (by walk_at "pe") rfl rfl ⟨b, rfl, hok⟩
end Pyl
end
section
set_option Elab.async false
set_option linter.all false
set_option maxHeartbeats 4000000
namespace Pyl
open PySem
local macro_rules | `(tactic| walk_at "pe") => `(tactic| simp (config := { implicitDefEqProofs := false }) only [eVar_at, eC_at, e1_at, e2_at, aNil_at, aCons_at, eTup_at, eLst_at, plain_nil, plain_cons, eCall_at, eIf_at, aApp_at, aDfl_at, List.cons_append, List.nil_append, eAnd_at, eOr_at, eNot_at, tVal_at, tAnd_at, tOr_at, tNot_at, tYes_at,
  pAdd_int, pSub_int, pNeg_int, pLt_int, pLe_int, pGt_int, pGe_int, pEq_int, pNe_int, pIsN_at, pNotN_at, pIx_lst, pIx_tup, pGcd_int, atL0, atL1, atL2, atL3, atL4, atL5, atL6, atL7, atL8, oNone_at, oSome_at, eSlice_at, pLen_lst, pLen_tup, pInt_int, pInt_bl, pAbs_int, pSum_ints, pMax2_int, pMin2_int, pList_lst, pList_tup, pTuple_lst, pTuple_tup, iSeq_at, gN_at, gT_at, gsN_cons, gsN_nil, wipeS_cons, wipeS_nil,
  dt_vis, dt_bor, dt_fre, sh_vis, sh_bor, sh_fre, slot_vis, slot_fre, od_dt, isNon_non, isNon_int, isNon_lst, isNon_tup, scalar_int, scalar_bl, scalar_non, Option.bind_some, Option.bind_none, Option.map_some, Option.map_none, List.getElem?_cons_zero, List.getElem?_cons_succ, List.set_cons_zero, List.set_cons_succ, List.map_cons, List.map_nil, List.any_cons, List.any_nil, Bool.or_false, Bool.false_or, Bool.false_and, Bool.and_true, Bool.true_and, Bool.not_true, Bool.not_false,
  Option.some.injEq, exists_eq_left', exists_eq_left, true_and, and_true, if_true, if_false, Bool.false_eq_true, ite_true, ite_false, reduceIte, decide_eq_true_eq, decide_eq_false_iff_not, R.vis.injEq, R.fre.injEq, Dt.lst.injEq, Dt.tup.injEq, Dt.int.injEq, Slot.own.injEq, OD.lst.injEq, reduceCtorEq, false_and, exists_false, exists_const, Bool.true_eq_false, false_implies, true_implies, implies_true, forall_const])


theorem law_shape : ∀ ds r, F_law ds = some r → ∃ xs ns b, ds = [.lst xs] ∧ intsOf xs = some ns ∧ r = .bl b := fun ds r h => (auto_spec h).1.2
/-- rows of bits -/
structure Rows (F : List (List Int)) (n c : Nat) : Prop where
  len : F.length = n
  rows : ∀ b ∈ F, b.length = c ∧ Bit b
/-- what is handed as weights -/
structure Wts (hv : Dt) (P : List Int) (c : Nat) : Prop where
  len : P.length = c
  pp : ∀ x ∈ P, 1 ≤ x ∧ x ≤ 10000
  hv : (hv = .non ∧ P = List.replicate P.length 1) ∨ hv = ilst P
theorem ok_pb {F : List (List Int)} {hv : Dt} {P : List Int} {n c m : Nat} (hF : Rows F n c) (hP : Wts hv P c) (n0 : 0 < n) (n1 : n ≤ 100) (c0 : 0 < c) (c1 : c ≤ 256) (m0 : 1 ≤ m) (m1 : m ≤ 151) : (⟨F, P, m⟩ : Pb).Ok :=
  ⟨fun e => by have := hF.len; rw [show F = [] from e] at this; simp at this; omega, by show F.length ≤ 100; rw [hF.len]; exact n1, fun b hb => by show b.length = P.length ∧ _; rw [hP.len]; exact hF.rows b hb, by show 0 < P.length; rw [hP.len]; exact c0, by show P.length ≤ 300; rw [hP.len]; omega, hP.pp, m0, m1⟩
theorem chk {F : List (List Int)} {hv : Dt} {P : List Int} {n c m cap : Nat} (hF : Rows F n c) (hP : Wts hv P c) (n0 : 0 < n) (n1 : n ≤ 100) (c0 : 0 < c) (c1 : c ≤ 256) (m0 : 1 ≤ m) (m1 : m ≤ cap) (hc : cap ≤ 151) (st : Int) : F__law_checked [imat F, hv, .int (m : Int), .lst (sprD F P cap), .int st] = some (.bl true) :=
  checked_at (ok_pb hF hP n0 n1 c0 c1 m0 (by omega)) hP.hv m1 hc st
theorem rows_take {F : List (List Int)} {n c : Nat} (h : Rows F n c) (k : Nat) : Rows (F.take k) (min k n) c := ⟨by rw [List.length_take, h.len], fun b hb => h.rows b (List.mem_of_mem_take hb)⟩
theorem spr_take (F : List (List Int)) (P : List Int) (cap k : Nat) : (sprD F P cap).take k = sprD (F.take k) P cap := by unfold sprD; rw [List.map_take]
theorem rows_okF {F : List (List Int)} {hv : Dt} {P : List Int} {n c : Nat} (hF : Rows F n c) (hP : Wts hv P c) (n1 : n ≤ 100) (c0 : 0 < c) (c1 : c ≤ 256) : OkF F P :=
  ⟨by rw [hF.len]; exact n1, fun b hb => by rw [hP.len]; exact hF.rows b hb, by rw [hP.len]; exact c0, by rw [hP.len]; omega, hP.pp⟩
theorem slice_mat {env : Sl} {fa fb : EF} {F : List (List Int)} {k : Nat} (h : fa env = some (.vis (imat F))) (hb : fb env = some (.vis (.int (k : Int)))) : eSlice fa oNone (oSome fb) env = some (.fre (.lst ((F.take k).map ilst))) := by
  rw [eSlice_at, h, oSome_at, hb]
  show some (R.fre (.lst (cutD (F.map ilst) none (some (k : Int))))) = _
  rw [cutD_to, List.map_take]
theorem slice_spr {env : Sl} {fa fb : EF} {F : List (List Int)} {P : List Int} {cap k : Nat} (h : fa env = some (.vis (.lst (sprD F P cap)))) (hb : fb env = some (.vis (.int (k : Int)))) : eSlice fa oNone (oSome fb) env = some (.fre (.lst (sprD (F.take k) P cap))) := by
  rw [eSlice_at, h, oSome_at, hb]
  show some (R.fre (.lst (cutD (sprD F P cap) none (some (k : Int))))) = _
  rw [cutD_to, spr_take]
theorem foldmax_mem : ∀ (ns : List Int) (n : Int), ns.foldl (fun m x => if x > m then x else m) n = n ∨ ns.foldl (fun m x => if x > m then x else m) n ∈ ns
  | [], n => .inl rfl
  | x :: ns, n => by
    rw [List.foldl_cons]
    rcases foldmax_mem ns (if x > n then x else n) with h | h
    · rw [h]
      split
      · exact .inr List.mem_cons_self
      · exact .inl rfl
    · exact .inr (List.mem_cons_of_mem _ h)
theorem max_mem {ns : List Int} (h : ns ≠ []) : ∃ v ∈ ns, pMaxL (.lst (ns.map .int)) = some (.vis (.int v)) := by
  cases ns with
  | nil => exact absurd rfl h
  | cons n ns =>
    refine ⟨ns.foldl (fun m x => if x > m then x else m) n, ?_, ?_⟩
    · rcases foldmax_mem ns n with h | h
      · rw [h]; exact List.mem_cons_self
      · exact List.mem_cons_of_mem _ h
    · unfold pMaxL
      dsimp only
      rw [intsOf_ints]
      rfl
theorem flip_bit {b : List Int} (h : Bit b) : Bit (b.map fun x => 1 - x) := fun y hy => by
  obtain ⟨x, hx, rfl⟩ := List.mem_map.mp hy
  rcases h x hx with rfl | rfl
  · exact .inr rfl
  · exact .inl rfl
theorem set_bit {b : List Int} (h : Bit b) (j : Nat) : Bit (b.set j 0) := fun y hy => by
  rcases List.mem_or_eq_of_mem_set hy with h1 | rfl
  · exact h y h1
  · exact .inl rfl
theorem emod8 (x m : Int) (h : 0 < m) : 0 ≤ x % m ∧ x % m < m := ⟨Int.emod_nonneg x (by omega), Int.emod_lt_of_pos x h⟩
end Pyl
end
section
set_option Elab.async false
set_option linter.all false
set_option maxHeartbeats 4000000
namespace Pyl
open PySem
local macro_rules | `(tactic| walk_at "pe") => `(tactic| simp (config := { implicitDefEqProofs := false }) only [eVar_at, eC_at, e1_at, e2_at, aNil_at, aCons_at, eTup_at, eLst_at, plain_nil, plain_cons, eCall_at, eIf_at, aApp_at, aDfl_at, List.cons_append, List.nil_append, eAnd_at, eOr_at, eNot_at, tVal_at, tAnd_at, tOr_at, tNot_at, tYes_at,
  pAdd_int, pSub_int, pNeg_int, pLt_int, pLe_int, pGt_int, pGe_int, pEq_int, pNe_int, pIsN_at, pNotN_at, pIx_lst, pIx_tup, pGcd_int, atL0, atL1, atL2, atL3, atL4, atL5, atL6, atL7, atL8, oNone_at, oSome_at, eSlice_at, pLen_lst, pLen_tup, pInt_int, pInt_bl, pAbs_int, pSum_ints, pMax2_int, pMin2_int, pList_lst, pList_tup, pTuple_lst, pTuple_tup, iSeq_at, gN_at, gT_at, gsN_cons, gsN_nil, wipeS_cons, wipeS_nil,
  dt_vis, dt_bor, dt_fre, sh_vis, sh_bor, sh_fre, slot_vis, slot_fre, od_dt, isNon_non, isNon_int, isNon_lst, isNon_tup, scalar_int, scalar_bl, scalar_non, Option.bind_some, Option.bind_none, Option.map_some, Option.map_none, List.getElem?_cons_zero, List.getElem?_cons_succ, List.set_cons_zero, List.set_cons_succ, List.map_cons, List.map_nil, List.any_cons, List.any_nil, Bool.or_false, Bool.false_or, Bool.false_and, Bool.and_true, Bool.true_and, Bool.not_true, Bool.not_false,
  Option.some.injEq, exists_eq_left', exists_eq_left, true_and, and_true, if_true, if_false, Bool.false_eq_true, ite_true, ite_false, reduceIte, decide_eq_true_eq, decide_eq_false_iff_not, R.vis.injEq, R.fre.injEq, Dt.lst.injEq, Dt.tup.injEq, Dt.int.injEq, Slot.own.injEq, OD.lst.injEq, reduceCtorEq, false_and, exists_false, exists_const, Bool.true_eq_false, false_implies, true_implies, implies_true, forall_const])


theorem law_true : ∀ ns : List Int, ns.length ≤ 63 → F_law [.lst (ns.map .int)] = some (.bl true) := by
  intro ns _
  suffices hw : w_law (endR (.bl true)) (startE 25 [ilst ns]) by
    obtain ⟨r', h1, h2⟩ := auto_at (n := 25) (w := w_law) (P := fun ds r => ds.length = 1 ∧ (fun ds r => ∃ xs ns b, ds = [.lst xs] ∧ intsOf xs = some ns ∧ r = .bl b) ds r) (ds := [ilst ns]) ⟨.bl true, ⟨rfl, _, ns, true, rfl, intsOf_ints ns, rfl⟩, hw⟩
    have := dc_law.uniq (auto_spec h1).2 hw
    subst this
    exact h1
  have hcell : ∀ k : Int, 0 ≤ k ∧ k < 4294967296 → F__law_cell [ilst ns, .int k] = some (.int (cellM ns k)) := fun k hk => cell_at hk
  have hpos : ∀ s ∈ ([8, 7, 9, 8, 248, 8, 8, 76, 2, 76, 4, 4, 256, 2] : List Int), 0 < s ∧ s < 18446744073709551616 := by decide
  have g0 := digs_at (c := cellM ns 0) (ns := [8, 7, 9, 8, 248, 8, 8, 76, 2, 76, 4, 4, 256, 2]) ⟨fun s hs => ⟨(hpos s hs).1, bigs64 (hpos s hs).1 (hpos s hs).2⟩, by decide⟩
  have b0 : ∀ (i : Nat) (s d : Int), ([8, 7, 9, 8, 248, 8, 8, 76, 2, 76, 4, 4, 256, 2] : List Int)[i]? = some s → (digitsM (cellM ns 0) [8, 7, 9, 8, 248, 8, 8, 76, 2, 76, 4, 4, 256, 2])[i]? = some d → 0 ≤ d ∧ d < s := fun i s d h1 h2 => digitsM_get (fun s hs => (hpos s hs).1) h1 h2
  have l0 : (digitsM (cellM ns 0) [8, 7, 9, 8, 248, 8, 8, 76, 2, 76, 4, 4, 256, 2]).length = 14 := digitsM_len _ _
  generalize digitsM (cellM ns 0) [8, 7, 9, 8, 248, 8, 8, 76, 2, 76, 4, 4, 256, 2] = D0 at g0 b0 l0
  match D0, l0 with
  | [d0, d1, d2, d3, d4, d5, d6, d7, d8, d9, d10, d11, d12, d13], _ =>
  have w0 := b0 0 8 d0 rfl rfl
  have w1 := b0 1 7 d1 rfl rfl
  have w2 := b0 2 9 d2 rfl rfl
  have w3 := b0 3 8 d3 rfl rfl
  have w4 := b0 4 248 d4 rfl rfl
  have w5 := b0 5 8 d5 rfl rfl
  have w6 := b0 6 8 d6 rfl rfl
  have w7 := b0 7 76 d7 rfl rfl
  have w8 := b0 8 2 d8 rfl rfl
  have w9 := b0 9 76 d9 rfl rfl
  have w10 := b0 10 4 d10 rfl rfl
  have w13 := b0 13 2 d13 rfl rfl
  clear b0
  show w_law (endR (.bl true)) [.val (ilst ns), .non, .non, .non, .non, .non, .non, .non, .non, .non, .non, .non, .non, .non, .non, .non, .non, .non, .non, .non, .non, .non, .non, .non, .non]
  generalize hSS : ilst ns = SS at hcell ⊢
  generalize hcc : cellM ns = cc at hcell g0
  clear hSS hcc
  refine q_asg (r := .vis (ilst [d0, d1, d2, d3, d4, d5, d6, d7, d8, d9, d10, d11, d12, d13])) ?_ rfl rfl ?_
  · walk_at "pe"
    rw [hcell 0 (by decide)]
    walk_at "pe"
    rw [show F__law_digits [.int (cc 0), .lst [.int 8, .int 7, .int 9, .int 8, .int 248, .int 8, .int 8, .int 76, .int 2, .int 76, .int 4, .int 4, .int 256, .int 2]] = _ from g0]
    walk_at "pe"
  have x0 : pIx (ilst [d0, d1, d2, d3, d4, d5, d6, d7, d8, d9, d10, d11, d12, d13]) (.int 0) = some (.vis (.int d0)) := rfl
  have x1 : pIx (ilst [d0, d1, d2, d3, d4, d5, d6, d7, d8, d9, d10, d11, d12, d13]) (.int 1) = some (.vis (.int d1)) := rfl
  have x2 : pIx (ilst [d0, d1, d2, d3, d4, d5, d6, d7, d8, d9, d10, d11, d12, d13]) (.int 2) = some (.vis (.int d2)) := rfl
  have x3 : pIx (ilst [d0, d1, d2, d3, d4, d5, d6, d7, d8, d9, d10, d11, d12, d13]) (.int 3) = some (.vis (.int d3)) := rfl
  have x4 : pIx (ilst [d0, d1, d2, d3, d4, d5, d6, d7, d8, d9, d10, d11, d12, d13]) (.int 4) = some (.vis (.int d4)) := rfl
  have x5 : pIx (ilst [d0, d1, d2, d3, d4, d5, d6, d7, d8, d9, d10, d11, d12, d13]) (.int 5) = some (.vis (.int d5)) := rfl
  have x6 : pIx (ilst [d0, d1, d2, d3, d4, d5, d6, d7, d8, d9, d10, d11, d12, d13]) (.int 6) = some (.vis (.int d6)) := rfl
  have x7 : pIx (ilst [d0, d1, d2, d3, d4, d5, d6, d7, d8, d9, d10, d11, d12, d13]) (.int 7) = some (.vis (.int d7)) := rfl
  have x8 : pIx (ilst [d0, d1, d2, d3, d4, d5, d6, d7, d8, d9, d10, d11, d12, d13]) (.int 8) = some (.vis (.int d8)) := rfl
  have x9 : pIx (ilst [d0, d1, d2, d3, d4, d5, d6, d7, d8, d9, d10, d11, d12, d13]) (.int 9) = some (.vis (.int d9)) := rfl
  have x10 : pIx (ilst [d0, d1, d2, d3, d4, d5, d6, d7, d8, d9, d10, d11, d12, d13]) (.int 10) = some (.vis (.int d10)) := rfl
  have x11 : pIx (ilst [d0, d1, d2, d3, d4, d5, d6, d7, d8, d9, d10, d11, d12, d13]) (.int 11) = some (.vis (.int d11)) := rfl
  have x12 : pIx (ilst [d0, d1, d2, d3, d4, d5, d6, d7, d8, d9, d10, d11, d12, d13]) (.int 12) = some (.vis (.int d12)) := rfl
  have x13 : pIx (ilst [d0, d1, d2, d3, d4, d5, d6, d7, d8, d9, d10, d11, d12, d13]) (.int 13) = some (.vis (.int d13)) := rfl
  show (wSeq _ _) _ [.val SS, .val (ilst [d0, d1, d2, d3, d4, d5, d6, d7, d8, d9, d10, d11, d12, d13]), .non, .non, .non, .non, .non, .non, .non, .non, .non, .non, .non, .non, .non, .non, .non, .non, .non, .non, .non, .non, .non, .non, .non]
  generalize ilst [d0, d1, d2, d3, d4, d5, d6, d7, d8, d9, d10, d11, d12, d13] = SH at x0 x1 x2 x3 x4 x5 x6 x7 x8 x9 x10 x11 x12 x13 ⊢
  -- inputs
  obtain ⟨v2, hv2, ht2⟩ := tab (l := [5, 4, 6, 3, 7, 8, 2, 9, 1]) (d := d2) (by omega) (by show d2 < 9; omega)
  have hv2 : 1 ≤ v2 ∧ v2 ≤ 9 := by simp at hv2; omega
  refine q_asg (r := .vis (.int v2)) ?_ rfl rfl ?_
  · walk_at "pe"
    rw [x2]
    show (atL ([5, 4, 6, 3, 7, 8, 2, 9, 1].map Dt.int) d2).map R.vis = _
    rw [ht2]
    rfl
  refine q_cut (fun e => ∃ n : Nat, (1 ≤ n ∧ n ≤ 16) ∧ e = [.val SS, .val SH, .val (.int (n : Int)), .non, .non, .non, .non, .non, .non, .non, .non, .non, .non, .non, .non, .non, .non, .non, .non, .non, .non, .non, .non, .non, .non]) ?_ ?_
  · refine s_ifD (p := d0 = 0) (by walk_at "pe"; rw [x0]; walk_at "pe") (fun _ => ?_) fun _ => s_nil ⟨v2.toNat, by omega, by rw [Int.toNat_of_nonneg (by omega)]; rfl⟩
    exact s_asg (r := .vis (.int (10 + d1))) (by walk_at "pe"; rw [x1]; walk_at "pe") rfl rfl ⟨(10 + d1).toNat, by omega, by rw [Int.toNat_of_nonneg (by omega)]; rfl⟩
  rintro env ⟨n, hn, rfl⟩
  -- count
  obtain ⟨v3, hv3, ht3⟩ := tab (l := [5, 4, 6, 7, 8, 3, 2, 1]) (d := d5) (by omega) (by show d5 < 8; omega)
  have hv3 : 1 ≤ v3 ∧ v3 ≤ 8 := by simp at hv3; omega
  refine q_asg (r := .vis (.int v3)) ?_ rfl rfl ?_
  · walk_at "pe"
    rw [x5]
    show (atL ([5, 4, 6, 7, 8, 3, 2, 1].map Dt.int) d5).map R.vis = _
    rw [ht3]
    rfl
  refine q_cut (fun e => ∃ c : Nat, (1 ≤ c ∧ c ≤ 256) ∧ e = [.val SS, .val SH, .val (.int (n : Int)), .val (.int (c : Int)), .non, .non, .non, .non, .non, .non, .non, .non, .non, .non, .non, .non, .non, .non, .non, .non, .non, .non, .non, .non, .non]) ?_ ?_
  · refine s_ifD (p := d3 = 0) (by walk_at "pe"; rw [x3]; walk_at "pe") (fun _ => ?_) fun _ => s_nil ⟨v3.toNat, by omega, by rw [Int.toNat_of_nonneg (by omega)]; rfl⟩
    exact s_asg (r := .vis (.int (9 + d4))) (by walk_at "pe"; rw [x4]; walk_at "pe") rfl rfl ⟨(9 + d4).toNat, by omega, by rw [Int.toNat_of_nonneg (by omega)]; rfl⟩
  rintro env ⟨c, hc, rfl⟩
  -- cap
  obtain ⟨v4, hv4, ht4⟩ := tab (l := [151, 31, 21, 15, 11, 9, 7, 5]) (d := d6) (by omega) (by show d6 < 8; omega)
  have hv4 : 5 ≤ v4 ∧ v4 ≤ 151 := by simp at hv4; omega
  obtain ⟨cap, rfl⟩ : ∃ cap : Nat, v4 = cap := ⟨v4.toNat, by omega⟩
  refine q_asg (r := .vis (.int cap)) ?_ rfl rfl ?_
  · walk_at "pe"
    rw [x6]
    show (atL ([151, 31, 21, 15, 11, 9, 7, 5].map Dt.int) d6).map R.vis = _
    rw [ht4]
    rfl
  -- the parts
  obtain ⟨hv, hpa, hvP⟩ := parts_at (cc 1) (n := c) (by omega) (by omega)
  refine q_asg (r := .vis hv) (by walk_at "pe"; rw [hcell 1 (by decide)]; walk_at "pe"; rw [hpa]; rfl) rfl rfl ?_
  refine q_asg (r := .vis .non) (by walk_at "pe") rfl rfl ?_
  refine q_asg (r := .vis hv) (by walk_at "pe") rfl rfl ?_
  show (wSeq _ _) _ [.val SS, .val SH, .val (.int (n : Int)), .val (.int (c : Int)), .val (.int (cap : Int)), .val hv, .val .non, .val hv, .non, .non, .non, .non, .non, .non, .non, .non, .non, .non, .non, .non, .non, .non, .non, .non, .non]
  refine q_cut (fun e => ∃ P ot Q z6, Wts hv P c ∧ Wts ot Q c ∧ (z6 = .val ot ∨ (z6 = .own (.lst (Q.map .int)) ∧ ot = ilst Q)) ∧ e = [.val SS, .val SH, .val (.int (n : Int)), .val (.int (c : Int)), .val (.int (cap : Int)), .val hv, z6, .val (ilst P), .non, .non, .non, .non, .non, .non, .non, .non, .non, .non, .non, .non, .non, .non, .non, .non, .non]) ?_ ?_
  · rcases hvP with rfl | ⟨L, rfl, hL, hLm⟩
    · refine s_ifD (p := True) (by walk_at "pe"; rfl) (fun _ => ?_) fun e => absurd trivial e
      refine q_asg (r := .fre (.lst ((List.replicate c 1).map .int))) (comp_consts (n := c) (by walk_at "pe") (by omega)) rfl rfl ?_
      refine q_frz rfl rfl ?_
      refine s_asg (r := .fre (.lst (((List.range c).map fun k : Nat => 1 + (3 * (k : Int) + d12) % 5).map .int))) (comp_rng (n := c) (by walk_at "pe") (by omega) fun k hk => ?_) rfl rfl ⟨List.replicate c 1, _, (List.range c).map fun k : Nat => 1 + (3 * (k : Int) + d12) % 5, _, ⟨by simp, fun x hx => by rw [List.eq_of_mem_replicate hx]; decide, .inl ⟨rfl, by simp⟩⟩, ⟨by simp, fun x hx => ?_, .inr rfl⟩, .inr ⟨rfl, rfl⟩, rfl⟩
      · walk_at "pe"
        rw [pMul_int (big_lt (n := 64) (by decide)) (big_lt (n := 64) (by omega)), x12]
        walk_at "pe"
        rw [pMod_int (by decide)]
        walk_at "pe"
      · obtain ⟨k, _, rfl⟩ := List.mem_map.mp hx
        omega
    · refine s_ifD (p := False) (by walk_at "pe"; rfl) (fun e => e.elim) fun _ => s_nil ⟨L, .non, List.replicate c 1, _, ⟨hL, hLm, .inr rfl⟩, ⟨by simp, fun x hx => by rw [List.eq_of_mem_replicate hx]; decide, .inl ⟨rfl, by simp⟩⟩, .inl rfl, rfl⟩
  rintro env ⟨P, ot, Q, z6, hP, hQ, hz6, rfl⟩
  have hPl := hP.len
  refine q_asg (r := .vis (.bl (decide (0 < d12 % 8)))) (by walk_at "pe"; rw [x12]; walk_at "pe"; rw [pMod_int (by decide)]; walk_at "pe") rfl rfl ?_
  generalize decide (0 < d12 % 8) = tn
  -- the faults
  have hbits : ∀ k : Nat, ∃ b : List Int, k < n → F__law_wrong_bits [.int (cc (2 + (k : Int))), ilst P, .bl (tn && decide ((k : Int) = 0))] = some (ilst b) ∧ b.length = c ∧ Bit b := fun k => by
    obtain ⟨r, h1, b, rfl, h2, h3⟩ := bits_at (cc (2 + (k : Int))) (P := P) (tn && decide ((k : Int) = 0)) (by omega) (by omega) hP.pp
    exact ⟨b, fun _ => ⟨h1, by rw [h2, hPl], h3⟩⟩
  obtain ⟨fb, hfb⟩ := Classical.axiomOfChoice hbits
  refine q_asg (r := .fre (.lst (((List.range n).map fb).map ilst))) ?_ rfl rfl ?_
  · refine comp_of (xs := List.range n) (u := fun j : Nat => Dt.int (j : Int)) (f := fb) (v := ilst) (s := false) (rngN (n := n) (by walk_at "pe") (by omega)) (by rw [List.length_range]; omega) fun k hk => ⟨_, rfl, .vis (ilst (fb k)), ?_, rfl, rfl⟩
    have hk := List.mem_range.mp hk
    show eCall F__law_wrong_bits _ [.val SS, .val SH, .val (.int (n : Int)), .val (.int (c : Int)), .val (.int (cap : Int)), .val hv, z6, .val (ilst P), .val (.bl tn), .non, .non, .non, .non, .non, .non, .non, .non, .non, .non, .non, .non, .non, .val (.int (k : Int)), .non, .non] = _
    walk_at "pe"
    rw [hcell _ (by omega)]
    have h := (hfb k hk).1
    cases tn
    · walk_at "pe"
      rw [show F__law_wrong_bits [.int (cc (2 + (k : Int))), ilst P, .bl false] = _ from h]
      rfl
    · walk_at "pe"
      rw [show F__law_wrong_bits [.int (cc (2 + (k : Int))), ilst P, .bl (decide ((k : Int) = 0))] = _ from h]
      rfl
  have hR0 : Rows ((List.range n).map fb) n c := ⟨by simp, fun b hb => by
    obtain ⟨k, hk, rfl⟩ := List.mem_map.mp hb
    exact (hfb k (List.mem_range.mp hk)).2⟩
  generalize (List.range n).map fb = F0 at hR0 ⊢
  show (wSeq _ _) _ [.val SS, .val SH, .val (.int (n : Int)), .val (.int (c : Int)), .val (.int (cap : Int)), .val hv, z6, .val (ilst P), .val (.bl tn), .own (.lst (F0.map ilst)), .non, .non, .non, .non, .non, .non, .non, .non, .non, .non, .non, .non, .non, .non, .non]
  refine q_cut (fun e => ∃ F, Rows F n c ∧ e = [.val SS, .val SH, .val (.int (n : Int)), .val (.int (c : Int)), .val (.int (cap : Int)), .val hv, z6, .val (ilst P), .val (.bl tn), .own (.lst (F.map ilst)), .non, .non, .non, .non, .non, .non, .non, .non, .non, .non, .non, .non, .non, .non, .non]) ?_ ?_
  · refine s_ifD (p := d12 % 8 = 1) (by walk_at "pe"; rw [x12]; walk_at "pe"; rw [pMod_int (by decide)]; walk_at "pe") (fun _ => ?_) fun _ => s_nil ⟨F0, hR0, rfl⟩
    have hlen := hR0.len
    have hg := getDF (show 0 < F0.length by omega)
    have h0 : pIx (.lst (F0.map ilst)) (.int 0) = some (.vis (ilst (F0.getD 0 []))) := ix_imat (b := false) (i := 0) hg
    refine ⟨F0.map ilst, .fre (.lst ((F0.getD 0 []).map .int)), -1, rfl, ?_, rfl, by walk_at "pe", by rw [List.length_map]; omega, by rw [List.length_map]; omega, ⟨F0.set (F0.length - 1) (F0.getD 0 []), ⟨by rw [List.length_set]; exact hlen, fun b hb => ?_⟩, ?_⟩⟩
    · show e1 pList (e2 pIx (eVar 9) (eC (.int 0))) [.val SS, .val SH, .val (.int (n : Int)), .val (.int (c : Int)), .val (.int (cap : Int)), .val hv, z6, .val (ilst P), .val (.bl tn), .own (.lst (F0.map ilst)), .non, .non, .non, .non, .non, .non, .non, .non, .non, .non, .non, .non, .non, .non, .non] = _
      rw [e1_at, e2_at, eVar_at]
      show ((pIx (.lst (F0.map ilst)) (.int 0)).bind fun a => pList a.dt) = _
      rw [h0]
      rfl
    · rcases List.mem_or_eq_of_mem_set hb with h1 | rfl
      · exact hR0.rows b h1
      · exact hR0.rows _ (List.mem_of_getElem? hg)
    · have e1 : (if (0 : Int) ≤ -1 then (-1 : Int) else -1 + ((F0.map ilst).length : Int)).toNat = F0.length - 1 := by
        rw [if_neg (by decide), List.length_map]
        omega
      rw [e1, List.map_set]
      rfl
  rintro env ⟨F, hF, rfl⟩
  have hFl := hF.len
  have okF := rows_okF hF hP (by omega) (by omega) (by omega)
  have hPs : pSum (ilst P) = some (.vis (.int P.sum)) := sum_iseq P
  refine q_frz rfl rfl ?_
  have hsp := spreads_at (m := cap) okF (by omega) false
  have hsp : F__law_spreads [imat F, ilst P, .int (cap : Int)] = some (.lst (sprD F P cap)) := hsp
  obtain ⟨LE, hle, E, hE, hE0, hEl, hEm⟩ := lengths_at (cap := cap) okF (by omega) (by omega)
  have hslice := fun (k : Nat) (env : Sl) (fa fb : EF) h1 h2 => slice_spr (F := F) (P := P) (cap := cap) (k := k) (env := env) (fa := fa) (fb := fb) h1 h2
  generalize hS : Dt.lst (sprD F P cap) = S at hsp hle hslice
  refine q_asg (r := .vis S) ?_ rfl rfl ?_
  · show eCall F__law_spreads _ [.val SS, .val SH, .val (.int (n : Int)), .val (.int (c : Int)), .val (.int (cap : Int)), .val hv, z6, .val (ilst P), .val (.bl tn), .val (imat F), .non, .non, .non, .non, .non, .non, .non, .non, .non, .non, .non, .non, .non, .non, .non] = _
    walk_at "pe"
    rw [hsp]
    rfl
  show (wSeq _ _) _ [.val SS, .val SH, .val (.int (n : Int)), .val (.int (c : Int)), .val (.int (cap : Int)), .val hv, z6, .val (ilst P), .val (.bl tn), .val (imat F), .val S, .non, .non, .non, .non, .non, .non, .non, .non, .non, .non, .non, .non, .non, .non]
  refine q_asg (r := .vis LE) (by walk_at "pe"; rw [hPs]; walk_at "pe"; rw [hle]; rfl) rfl rfl ?_
  show (wSeq _ _) _ [.val SS, .val SH, .val (.int (n : Int)), .val (.int (c : Int)), .val (.int (cap : Int)), .val hv, z6, .val (ilst P), .val (.bl tn), .val (imat F), .val S, .val LE, .non, .non, .non, .non, .non, .non, .non, .non, .non, .non, .non, .non, .non]
  have hLE : ∀ env : Sl, env[11]? = some (.val LE) → iSeq (eVar 11) env = some (E.map fun e => ilst [e.1, e.2], false) := fun env h => by
    rw [iSeq_at, eVar_at, h, hE]
    rfl
  obtain ⟨L, hLm, hLx⟩ := max_mem (ns := E.map (·.1)) (by simpa using hE0)
  obtain ⟨e0, he0, hL0⟩ := List.mem_map.mp hLm
  have hLb : 0 ≤ L ∧ L ≤ (n : Int) := by
    have := (hEm e0 he0).1
    rw [hFl] at this
    rw [← hL0]
    exact this
  refine q_asg (r := .vis (.int L)) ?_ rfl rfl ?_
  · have hcm := comp_of (env := [.val SS, .val SH, .val (.int (n : Int)), .val (.int (c : Int)), .val (.int (cap : Int)), .val hv, z6, .val (ilst P), .val (.bl tn), .val (imat F), .val S, .val LE, .non, .non, .non, .non, .non, .non, .non, .non, .non, .non, .non, .non, .non]) (own := [23]) (fi := iSeq (eVar 11)) (g := gN 23) (fe := e2 pIx (eVar 23) (eC (.int 0))) (s := false) (xs := E) (u := fun e => ilst [e.1, e.2]) (f := fun e => e.1) (v := Dt.int) (hLE _ rfl) (by omega) fun e he => ⟨_, rfl, .vis (.int e.1), rfl, rfl, rfl⟩
    rw [e1_at, hcm]
    exact hLx
  show (wSeq _ _) _ [.val SS, .val SH, .val (.int (n : Int)), .val (.int (c : Int)), .val (.int (cap : Int)), .val hv, z6, .val (ilst P), .val (.bl tn), .val (imat F), .val S, .val LE, .val (.int L), .non, .non, .non, .non, .non, .non, .non, .non, .non, .non, .non, .non]
  obtain ⟨OD, hOD⟩ : ∃ OD, OD = (E.filter fun e => decide (e.1 = L)).map fun e => e.2 := ⟨_, rfl⟩
  have hOm : ∀ x ∈ OD, 1 ≤ x ∧ x ≤ (cap : Int) := fun x hx => by
    rw [hOD] at hx
    obtain ⟨e, he, rfl⟩ := List.mem_map.mp hx
    exact (hEm e (List.mem_filter.mp he).1).2
  have hO0 : 0 < OD.length := by
    rw [hOD, List.length_map, List.length_pos_iff]
    intro h
    have : e0 ∈ E.filter fun e => decide (e.1 = L) := List.mem_filter.mpr ⟨he0, decide_eq_true hL0⟩
    rw [h] at this
    cases this
  have hO1 : OD.length ≤ 200 := by
    rw [hOD, List.length_map]
    have := List.length_filter_le (fun e : Int × Int => decide (e.1 = L)) E
    omega
  refine q_asg (r := .fre (.lst (OD.map .int))) ?_ rfl rfl ?_
  · have hcm := comp_filt (env := [.val SS, .val SH, .val (.int (n : Int)), .val (.int (c : Int)), .val (.int (cap : Int)), .val hv, z6, .val (ilst P), .val (.bl tn), .val (imat F), .val S, .val LE, .val (.int L), .non, .non, .non, .non, .non, .non, .non, .non, .non, .non, .non, .non]) (own := [23]) (fi := iSeq (eVar 11)) (g := gN 23) (ft := tVal (e2 pEq (e2 pIx (eVar 23) (eC (.int 0))) (eVar 12))) (fe := e2 pIx (eVar 23) (eC (.int 1))) (s := false) (xs := E) (u := fun e => ilst [e.1, e.2]) (p := fun e => decide (e.1 = L)) (f := fun e => e.2) (v := Dt.int) (hLE _ rfl) (by omega) fun e he => ⟨_, rfl, ?_, fun _ => ⟨.vis (.int e.2), rfl, rfl, rfl⟩⟩
    · rw [hOD]
      exact hcm
    · show tVal (e2 pEq (e2 pIx (eVar 23) (eC (.int 0))) (eVar 12)) [.val SS, .val SH, .val (.int (n : Int)), .val (.int (c : Int)), .val (.int (cap : Int)), .val hv, z6, .val (ilst P), .val (.bl tn), .val (imat F), .val S, .val LE, .val (.int L), .non, .non, .non, .non, .non, .non, .non, .non, .non, .non, .val (ilst [e.1, e.2]), .non] = _
      walk_at "pe"
      rw [show pIx (ilst [e.1, e.2]) (.int 0) = some (.vis (.int e.1)) from rfl]
      walk_at "pe"
  refine q_frz rfl rfl ?_
  show (wSeq _ _) _ [.val SS, .val SH, .val (.int (n : Int)), .val (.int (c : Int)), .val (.int (cap : Int)), .val hv, z6, .val (ilst P), .val (.bl tn), .val (imat F), .val S, .val LE, .val (.int L), .val (ilst OD), .non, .non, .non, .non, .non, .non, .non, .non, .non, .non, .non]
  have hOl : pLen (ilst OD) = some (.vis (.int OD.length)) := pLen_iseq false OD
  have hOx : ∀ j : Nat, j < OD.length → pIx (ilst OD) (.int (j : Int)) = some (.vis (.int (OD.getD j 0))) := fun j hj => ix_iseqD (b := false) hj
  obtain ⟨hm7a, hm7b⟩ := emod8 d7 (OD.length : Int) (by omega)
  have hat0 : 0 ≤ d8 * (d7 % (OD.length : Int)) ∧ d8 * (d7 % (OD.length : Int)) < (OD.length : Int) := by
    have : d8 = 0 ∨ d8 = 1 := by omega
    rcases this with e | e <;> rw [e]
    · rw [Int.zero_mul]; omega
    · rw [Int.one_mul]; omega
  refine q_asg (r := .vis (.int (d8 * (d7 % (OD.length : Int))))) ?_ rfl rfl ?_
  · walk_at "pe"
    rw [x8, x7, hOl]
    walk_at "pe"
    rw [pMod_int (by omega)]
    walk_at "pe"
    rw [pMul_int (big_lt (n := 64) (by omega)) (big_lt (n := 64) (by omega))]
  generalize d8 * (d7 % (OD.length : Int)) = a0 at hat0 ⊢
  obtain ⟨q0, rfl⟩ : ∃ q0 : Nat, a0 = q0 := ⟨a0.toNat, by omega⟩
  refine q_cut (fun e => ∃ at_ : Nat, at_ < OD.length ∧ e = [.val SS, .val SH, .val (.int (n : Int)), .val (.int (c : Int)), .val (.int (cap : Int)), .val hv, z6, .val (ilst P), .val (.bl tn), .val (imat F), .val S, .val LE, .val (.int L), .val (ilst OD), .val (.int (at_ : Int)), .non, .non, .non, .non, .non, .non, .non, .non, .non, .non]) ?_ ?_
  · obtain ⟨t, ht⟩ : ∃ t, tAnd (tVal (e2 pEq (eVar 14) (eC (.int 0)))) (tVal (e2 pEq (e2 pIx (eVar 13) (eC (.int 0))) (eC (.int 1)))) [.val SS, .val SH, .val (.int (n : Int)), .val (.int (c : Int)), .val (.int (cap : Int)), .val hv, z6, .val (ilst P), .val (.bl tn), .val (imat F), .val S, .val LE, .val (.int L), .val (ilst OD), .val (.int (q0 : Int)), .non, .non, .non, .non, .non, .non, .non, .non, .non, .non] = some t := by
      walk_at "pe"
      rw [show pIx (ilst OD) (.int 0) = some (.vis (.int (OD.getD 0 0))) from hOx 0 hO0]
      walk_at "pe"
      by_cases h : (q0 : Int) = 0
      · rw [if_pos h]; exact ⟨_, rfl⟩
      · rw [if_neg h]; exact ⟨_, rfl⟩
    refine s_if ht (fun _ => ?_) fun _ => s_nil ⟨q0, by omega, rfl⟩
    refine s_asg (r := .vis (.int (if (OD.length : Int) - 1 < d10 then (OD.length : Int) - 1 else d10))) ?_ rfl rfl ?_
    · show e2 pMin2 _ _ [.val SS, .val SH, .val (.int (n : Int)), .val (.int (c : Int)), .val (.int (cap : Int)), .val hv, z6, .val (ilst P), .val (.bl tn), .val (imat F), .val S, .val LE, .val (.int L), .val (ilst OD), .val (.int (q0 : Int)), .non, .non, .non, .non, .non, .non, .non, .non, .non, .non] = _
      walk_at "pe"
      rw [x10, hOl]
      walk_at "pe"
    · obtain ⟨q1, hq1⟩ : ∃ q1 : Nat, (if (OD.length : Int) - 1 < d10 then (OD.length : Int) - 1 else d10) = q1 ∧ q1 < OD.length := by
        split
        · exact ⟨OD.length - 1, by omega, by omega⟩
        · exact ⟨d10.toNat, by omega, by omega⟩
      rw [hq1.1]
      exact ⟨q1, hq1.2, rfl⟩
  rintro env ⟨at_, hat, rfl⟩
  obtain ⟨m, hmd, hm1, hm2⟩ : ∃ m : Nat, OD.getD at_ 0 = (m : Int) ∧ 1 ≤ m ∧ m ≤ cap := by
    have := hOm _ (getD_mem hat)
    exact ⟨(OD.getD at_ 0).toNat, by omega, by omega, by omega⟩
  refine q_asg (r := .vis (.int m)) (by walk_at "pe"; rw [hOx at_ hat, hmd]) rfl rfl ?_
  obtain ⟨b, hbd, hb1, hb2⟩ : ∃ b : Nat, (if L > 1 then L else 1) = (b : Int) ∧ 1 ≤ b ∧ b ≤ n := by
    split
    · exact ⟨L.toNat, by omega, by omega, by omega⟩
    · exact ⟨1, by omega, by omega, by omega⟩
  refine q_asg (r := .vis (.int b)) (by walk_at "pe"; rw [← hbd]) rfl rfl ?_
  show (wSeq _ _) _ [.val SS, .val SH, .val (.int (n : Int)), .val (.int (c : Int)), .val (.int (cap : Int)), .val hv, z6, .val (ilst P), .val (.bl tn), .val (imat F), .val S, .val LE, .val (.int L), .val (ilst OD), .val (.int (at_ : Int)), .val (.int (m : Int)), .val (.int (b : Int)), .non, .non, .non, .non, .non, .non, .non, .non]
  obtain ⟨hh, hhd⟩ : ∃ hh : Nat, ((cap : Int) + 1) / 2 = hh := ⟨(((cap : Int) + 1) / 2).toNat, by omega⟩
  obtain ⟨hm9a, hm9b⟩ := emod8 d9 (hh : Int) (by omega)
  obtain ⟨nm0, hnm0⟩ : ∃ nm0 : Nat, 1 + 2 * (d9 % (hh : Int)) = nm0 := ⟨(1 + 2 * (d9 % (hh : Int))).toNat, by omega⟩
  refine q_asg (r := .vis (.int nm0)) ?_ rfl rfl ?_
  · walk_at "pe"
    rw [x9, pDiv_int (by decide) (div64 (by decide) (by decide)), hhd]
    walk_at "pe"
    rw [pMod_int (by omega)]
    walk_at "pe"
    rw [pMul_int (big_lt (n := 64) (by decide)) (big_lt (n := 64) (by omega))]
    walk_at "pe"
    rw [hnm0]
  refine q_cut (fun e => ∃ nm : Nat, (1 ≤ nm ∧ nm ≤ cap) ∧ e = [.val SS, .val SH, .val (.int (n : Int)), .val (.int (c : Int)), .val (.int (cap : Int)), .val hv, z6, .val (ilst P), .val (.bl tn), .val (imat F), .val S, .val LE, .val (.int L), .val (ilst OD), .val (.int (at_ : Int)), .val (.int (m : Int)), .val (.int (b : Int)), .val (.int (nm : Int)), .non, .non, .non, .non, .non, .non, .non]) ?_ ?_
  · obtain ⟨t, ht⟩ : ∃ t, tAnd (tVal (e2 pEq (eVar 16) (eVar 2))) (tVal (e2 pGt (e2 pMul (eVar 16) (eVar 3)) (eC (.int 500)))) [.val SS, .val SH, .val (.int (n : Int)), .val (.int (c : Int)), .val (.int (cap : Int)), .val hv, z6, .val (ilst P), .val (.bl tn), .val (imat F), .val S, .val LE, .val (.int L), .val (ilst OD), .val (.int (at_ : Int)), .val (.int (m : Int)), .val (.int (b : Int)), .val (.int (nm0 : Int)), .non, .non, .non, .non, .non, .non, .non] = some t := by
      walk_at "pe"
      rw [pMul_int (big_lt (n := 64) (by omega)) (big_lt (n := 64) (by omega))]
      walk_at "pe"
      by_cases h : (b : Int) = n
      · rw [if_pos h]; exact ⟨_, rfl⟩
      · rw [if_neg h]; exact ⟨_, rfl⟩
    refine s_if ht (fun _ => ?_) fun _ => s_nil ⟨nm0, by omega, rfl⟩
    refine s_asg (r := .vis (.int (if (31 : Int) < nm0 then 31 else nm0))) (by walk_at "pe") rfl rfl ?_
    split
    · exact ⟨31, by omega, rfl⟩
    · exact ⟨nm0, by omega, rfl⟩
  rintro env ⟨nm, hnm, rfl⟩
  -- the checks
  have hchk : ∀ (k M : Nat) (st : Int), 1 ≤ k → 1 ≤ M → M ≤ cap → F__law_checked [imat (F.take k), hv, .int (M : Int), .lst (sprD (F.take k) P cap), .int st] = some (.bl true) := fun k M st hk h1 h2 => chk (rows_take hF k) hP (by omega) (by omega) (by omega) (by omega) h1 h2 (by omega) st
  have hsm := fun (k : Nat) (env : Sl) (fa fb : EF) h1 h2 => slice_mat (F := F) (k := k) (env := env) (fa := fa) (fb := fb) h1 h2
  refine q_ifD (p := False) ?_ (fun e => e.elim) fun _ => s_nil ?_
  · rw [tNot_at, tVal_at, eCall_at, aCons_at, hsm b _ _ _ (by walk_at "pe") (by walk_at "pe"), aCons_at, aCons_at, aCons_at, hslice b _ _ _ (by walk_at "pe") (by walk_at "pe")]
    walk_at "pe"
    rw [x11]
    walk_at "pe"
    rw [show F__law_checked [.lst ((F.take b).map ilst), hv, .int (m : Int), .lst (sprD (F.take b) P cap), .int d11] = _ from hchk b m d11 hb1 hm1 hm2]
    rfl
  obtain ⟨fu, hfu, hfu1⟩ : ∃ fu : Nat, (if (n : Int) * d13 > (b : Int) + 1 then (n : Int) * d13 else (b : Int) + 1) = fu ∧ 1 ≤ fu := by
    split
    · exact ⟨((n : Int) * d13).toNat, by omega, by omega⟩
    · exact ⟨b + 1, by omega, by omega⟩
  refine q_asg (r := .vis (.int fu)) ?_ rfl rfl ?_
  · walk_at "pe"
    rw [x13]
    walk_at "pe"
    rw [pMul_int (big_lt (n := 64) (by omega)) (big_lt (n := 64) (by omega))]
    walk_at "pe"
    rw [← hfu]
  show (wSeq _ _) _ [.val SS, .val SH, .val (.int (n : Int)), .val (.int (c : Int)), .val (.int (cap : Int)), .val hv, z6, .val (ilst P), .val (.bl tn), .val (imat F), .val S, .val LE, .val (.int L), .val (ilst OD), .val (.int (at_ : Int)), .val (.int (m : Int)), .val (.int (b : Int)), .val (.int (nm : Int)), .val (.int (fu : Int)), .non, .non, .non, .non, .non, .non]
  refine q_ifD (p := False) ?_ (fun e => e.elim) fun _ => s_nil ?_
  · rw [tNot_at, tVal_at, eCall_at, aCons_at, hsm fu _ _ _ (by walk_at "pe") (by walk_at "pe"), aCons_at, aCons_at, aCons_at, hslice fu _ _ _ (by walk_at "pe") (by walk_at "pe")]
    walk_at "pe"
    rw [x11]
    walk_at "pe"
    rw [show F__law_checked [.lst ((F.take fu).map ilst), hv, .int (nm : Int), .lst (sprD (F.take fu) P cap), .int (3 - d11)] = _ from hchk fu nm (3 - d11) hfu1 hnm.1 hnm.2]
    rfl
  -- the pair
  have hg0 := getDF (show 0 < F.length by omega)
  obtain ⟨hGl, hGb⟩ := hF.rows _ (List.mem_of_getElem? hg0)
  have hF0x : pIx (imat F) (.int 0) = some (.vis (ilst (F.getD 0 []))) := ix_imat (b := false) (i := 0) hg0
  generalize F.getD 0 [] = G0 at hGl hGb hF0x
  refine q_asgM (dss := [G0.map .int, (G0.map fun x => 1 - x).map .int]) ?_ rfl ?_
  · have h1 : e1 pList (e2 pIx (eVar 9) (eC (.int 0))) [.val SS, .val SH, .val (.int (n : Int)), .val (.int (c : Int)), .val (.int (cap : Int)), .val hv, z6, .val (ilst P), .val (.bl tn), .val (imat F), .val S, .val LE, .val (.int L), .val (ilst OD), .val (.int (at_ : Int)), .val (.int (m : Int)), .val (.int (b : Int)), .val (.int (nm : Int)), .val (.int (fu : Int)), .non, .non, .non, .non, .non, .non] = some (.fre (.lst (G0.map .int))) := by
      walk_at "pe"
      rw [hF0x]
      rfl
    have h2 := comp_of (env := [.val SS, .val SH, .val (.int (n : Int)), .val (.int (c : Int)), .val (.int (cap : Int)), .val hv, z6, .val (ilst P), .val (.bl tn), .val (imat F), .val S, .val LE, .val (.int L), .val (ilst OD), .val (.int (at_ : Int)), .val (.int (m : Int)), .val (.int (b : Int)), .val (.int (nm : Int)), .val (.int (fu : Int)), .non, .non, .non, .non, .non, .non]) (own := [24]) (fi := iSeq (e2 pIx (eVar 9) (eC (.int 0)))) (g := gN 24) (fe := e2 pSub (eC (.int 1)) (eVar 24)) (s := false) (xs := G0) (u := Dt.int) (f := fun x => 1 - x) (v := Dt.int) (seq_ints (b := false) (by walk_at "pe"; exact hF0x)) (by omega) fun x hx => ⟨_, rfl, .vis (.int (1 - x)), rfl, rfl, rfl⟩
    show Option.bind (freL (e1 pList (e2 pIx (eVar 9) (eC (.int 0))) [.val SS, .val SH, .val (.int (n : Int)), .val (.int (c : Int)), .val (.int (cap : Int)), .val hv, z6, .val (ilst P), .val (.bl tn), .val (imat F), .val S, .val LE, .val (.int L), .val (ilst OD), .val (.int (at_ : Int)), .val (.int (m : Int)), .val (.int (b : Int)), .val (.int (nm : Int)), .val (.int (fu : Int)), .non, .non, .non, .non, .non, .non])) _ = _
    rw [h1]
    show Option.bind (Option.bind (freL (eComp _ _ _ _ _ [.val SS, .val SH, .val (.int (n : Int)), .val (.int (c : Int)), .val (.int (cap : Int)), .val hv, z6, .val (ilst P), .val (.bl tn), .val (imat F), .val S, .val LE, .val (.int L), .val (ilst OD), .val (.int (at_ : Int)), .val (.int (m : Int)), .val (.int (b : Int)), .val (.int (nm : Int)), .val (.int (fu : Int)), .non, .non, .non, .non, .non, .non])) _) _ = _
    rw [h2]
    rfl
  obtain ⟨G1, hG1⟩ : ∃ G1, (G0.map fun x => 1 - x) = G1 := ⟨_, rfl⟩
  have hG1l : G1.length = c := by rw [← hG1, List.length_map, hGl]
  have hG1b : Bit G1 := by rw [← hG1]; exact flip_bit hGb
  rw [hG1]
  refine q_frzE (env' := [.val SS, .val SH, .val (.int (n : Int)), .val (.int (c : Int)), .val (.int (cap : Int)), .val hv, .val ot, .val (ilst P), .val (.bl tn), .val (imat F), .val S, .val LE, .val (.int L), .val (ilst OD), .val (.int (at_ : Int)), .val (.int (m : Int)), .val (.int (b : Int)), .val (.int (nm : Int)), .val (.int (fu : Int)), mat [G0, G1], .non, .non, .non, .non, .non]) (by rcases hz6 with rfl | ⟨rfl, rfl⟩ <;> rfl) ?_
  refine q_asg (r := .vis ot) (by walk_at "pe") rfl rfl ?_
  have hQl := hQ.len
  refine q_cut (fun e => ∃ z20, (z20 = .val (ilst Q) ∨ z20 = .own (.lst (Q.map .int))) ∧ e = [.val SS, .val SH, .val (.int (n : Int)), .val (.int (c : Int)), .val (.int (cap : Int)), .val hv, .val ot, .val (ilst P), .val (.bl tn), .val (imat F), .val S, .val LE, .val (.int L), .val (ilst OD), .val (.int (at_ : Int)), .val (.int (m : Int)), .val (.int (b : Int)), .val (.int (nm : Int)), .val (.int (fu : Int)), mat [G0, G1], z20, .non, .non, .non, .non]) ?_ ?_
  · rcases hQ.hv with ⟨rfl, hq⟩ | rfl
    · refine s_ifD (p := True) (by walk_at "pe"; rfl) (fun _ => ?_) fun e => absurd trivial e
      refine s_asg (r := .fre (.lst (Q.map .int))) ?_ rfl rfl ⟨_, .inr rfl, rfl⟩
      rw [hq, hQl]
      exact comp_consts (n := c) (by walk_at "pe") (by omega)
    · refine s_ifD (p := False) (by rfl) (fun e => e.elim) fun _ => s_nil ⟨_, .inl rfl, rfl⟩
  rintro env ⟨z20, hz20, rfl⟩
  obtain ⟨few, hfew, hf1, hf2⟩ : ∃ few : Nat, 1 + 2 * d10 = few ∧ 1 ≤ few ∧ few ≤ 7 := ⟨(1 + 2 * d10).toNat, by omega, by omega, by omega⟩
  refine q_asg (r := .vis (.int few)) ?_ rfl rfl ?_
  · walk_at "pe"
    rw [x10]
    walk_at "pe"
    rw [pMul_int (big_lt (n := 64) (by decide)) (big_lt (n := 64) (by omega))]
    walk_at "pe"
    rw [hfew]
  refine q_frzE (env' := [.val SS, .val SH, .val (.int (n : Int)), .val (.int (c : Int)), .val (.int (cap : Int)), .val hv, .val ot, .val (ilst P), .val (.bl tn), .val (imat F), .val S, .val LE, .val (.int L), .val (ilst OD), .val (.int (at_ : Int)), .val (.int (m : Int)), .val (.int (b : Int)), .val (.int (nm : Int)), .val (.int (fu : Int)), mat [G0, G1], z20, .val (.int (few : Int)), .non, .non, .non]) rfl ?_
  refine q_frzE (env' := [.val SS, .val SH, .val (.int (n : Int)), .val (.int (c : Int)), .val (.int (cap : Int)), .val hv, .val ot, .val (ilst P), .val (.bl tn), .val (imat F), .val S, .val LE, .val (.int L), .val (ilst OD), .val (.int (at_ : Int)), .val (.int (m : Int)), .val (.int (b : Int)), .val (.int (nm : Int)), .val (.int (fu : Int)), mat [G0, G1], .val (ilst Q), .val (.int (few : Int)), .non, .non, .non]) (by rcases hz20 with rfl | rfl <;> rfl) ?_
  have hpair : ∀ (H0 H1 : List Int) (st : Int), H0.length = c → H1.length = c → Bit H0 → Bit H1 → F__law_spreads [imat [H0, H1], ilst Q, .int (few : Int)] = some (.lst (sprD [H0, H1] Q few)) ∧ F__law_checked [imat [H0, H1], ot, .int (few : Int), .lst (sprD [H0, H1] Q few), .int st] = some (.bl true) := fun H0 H1 st l0 l1 h0 h1 => by
    have hr : Rows [H0, H1] 2 c := ⟨rfl, fun b hb => by
      simp at hb
      rcases hb with rfl | rfl
      · exact ⟨l0, h0⟩
      · exact ⟨l1, h1⟩⟩
    exact ⟨spreads_at (m := few) (rows_okF hr hQ (by omega) (by omega) (by omega)) (by omega) false, chk hr hQ (by omega) (by omega) (by omega) (by omega) hf1 (Nat.le_refl _) (by omega) st⟩
  obtain ⟨p1, p2⟩ := hpair G0 G1 d11 hGl hG1l hGb hG1b
  refine q_ifD (p := False) ?_ (fun e => e.elim) fun _ => s_nil ?_
  · show tNot _ [.val SS, .val SH, .val (.int (n : Int)), .val (.int (c : Int)), .val (.int (cap : Int)), .val hv, .val ot, .val (ilst P), .val (.bl tn), .val (imat F), .val S, .val LE, .val (.int L), .val (ilst OD), .val (.int (at_ : Int)), .val (.int (m : Int)), .val (.int (b : Int)), .val (.int (nm : Int)), .val (.int (fu : Int)), .val (imat [G0, G1]), .val (ilst Q), .val (.int (few : Int)), .non, .non, .non] = _
    rw [tNot_at, tVal_at]
    walk_at "pe"
    rw [p1, x11]
    walk_at "pe"
    rw [p2]
    rfl
  obtain ⟨hia, hib⟩ := emod8 d12 (c : Int) (by omega)
  obtain ⟨j, hj, hjc⟩ : ∃ j : Nat, d12 % (c : Int) = j ∧ j < c := ⟨(d12 % (c : Int)).toNat, by omega, by omega⟩
  have hix : ∀ env : Sl, env[1]? = some (.val SH) → env[3]? = some (.val (.int (c : Int))) → e2 pMod (e1 pInt (e2 pIx (eVar 1) (eC (.int 12)))) (eVar 3) env = some (.vis (.int (j : Int))) := fun env h1 h3 => by
    rw [e2_at, e1_at, e2_at, eVar_at, h1, eC_at, eVar_at, h3]
    walk_at "pe"
    rw [x12]
    walk_at "pe"
    rw [pMod_int (by omega), hj]
  refine q_go (s_putM (m := [G0, G1]) (x := 0) (a := 0) (b := (j : Int)) (r := G0) rfl (by walk_at "pe") (by walk_at "pe") rfl (hix _ rfl rfl) (by omega) (by omega) (env' := [.val SS, .val SH, .val (.int (n : Int)), .val (.int (c : Int)), .val (.int (cap : Int)), .val hv, .val ot, .val (ilst P), .val (.bl tn), .val (imat F), .val S, .val LE, .val (.int L), .val (ilst OD), .val (.int (at_ : Int)), .val (.int (m : Int)), .val (.int (b : Int)), .val (.int (nm : Int)), .val (.int (fu : Int)), mat [G0.set j 0, G1], .val (ilst Q), .val (.int (few : Int)), .non, .non, .non]) rfl ?_)
  refine q_go (s_putM (m := [G0.set j 0, G1]) (x := 0) (a := 1) (b := (j : Int)) (r := G1) rfl (by walk_at "pe") (by walk_at "pe") rfl (hix _ rfl rfl) (by omega) (by omega) (env' := [.val SS, .val SH, .val (.int (n : Int)), .val (.int (c : Int)), .val (.int (cap : Int)), .val hv, .val ot, .val (ilst P), .val (.bl tn), .val (imat F), .val S, .val LE, .val (.int L), .val (ilst OD), .val (.int (at_ : Int)), .val (.int (m : Int)), .val (.int (b : Int)), .val (.int (nm : Int)), .val (.int (fu : Int)), mat [G0.set j 0, G1.set j 0], .val (ilst Q), .val (.int (few : Int)), .non, .non, .non]) rfl ?_)
  dsimp only
  refine q_frzE (env' := [.val SS, .val SH, .val (.int (n : Int)), .val (.int (c : Int)), .val (.int (cap : Int)), .val hv, .val ot, .val (ilst P), .val (.bl tn), .val (imat F), .val S, .val LE, .val (.int L), .val (ilst OD), .val (.int (at_ : Int)), .val (.int (m : Int)), .val (.int (b : Int)), .val (.int (nm : Int)), .val (.int (fu : Int)), mat [G0.set j 0, G1.set j 0], .val (ilst Q), .val (.int (few : Int)), .non, .non, .non]) rfl ?_
  refine q_frzE (env' := [.val SS, .val SH, .val (.int (n : Int)), .val (.int (c : Int)), .val (.int (cap : Int)), .val hv, .val ot, .val (ilst P), .val (.bl tn), .val (imat F), .val S, .val LE, .val (.int L), .val (ilst OD), .val (.int (at_ : Int)), .val (.int (m : Int)), .val (.int (b : Int)), .val (.int (nm : Int)), .val (.int (fu : Int)), mat [G0.set j 0, G1.set j 0], .val (ilst Q), .val (.int (few : Int)), .non, .non, .non]) rfl ?_
  obtain ⟨p3, p4⟩ := hpair (G0.set j 0) (G1.set j 0) (3 - d11) (by rw [List.length_set, hGl]) (by rw [List.length_set, hG1l]) (set_bit hGb j) (set_bit hG1b j)
  refine q_ifD (p := False) ?_ (fun e => e.elim) fun _ => s_nil ?_
  · show tNot _ [.val SS, .val SH, .val (.int (n : Int)), .val (.int (c : Int)), .val (.int (cap : Int)), .val hv, .val ot, .val (ilst P), .val (.bl tn), .val (imat F), .val S, .val LE, .val (.int L), .val (ilst OD), .val (.int (at_ : Int)), .val (.int (m : Int)), .val (.int (b : Int)), .val (.int (nm : Int)), .val (.int (fu : Int)), .val (imat [G0.set j 0, G1.set j 0]), .val (ilst Q), .val (.int (few : Int)), .non, .non, .non] = _
    rw [tNot_at, tVal_at]
    walk_at "pe"
    rw [p3, x11]
    walk_at "pe"
    rw [p4]
    rfl
  dsimp only
  refine q_frzE (env' := [.val SS, .val SH, .val (.int (n : Int)), .val (.int (c : Int)), .val (.int (cap : Int)), .val hv, .val ot, .val (ilst P), .val (.bl tn), .val (imat F), .val S, .val LE, .val (.int L), .val (ilst OD), .val (.int (at_ : Int)), .val (.int (m : Int)), .val (.int (b : Int)), .val (.int (nm : Int)), .val (.int (fu : Int)), mat [G0.set j 0, G1.set j 0], .val (ilst Q), .val (.int (few : Int)), .non, .non, .non]) rfl ?_
  have hb1n : 0 < min b n := by omega
  have hpk : ∀ (k : Nat) (cell : Int), 1 ≤ k → F__law_picked [imat (F.take k), .int cell] = some (.bl true) := fun k cell hk => by
    have hr := rows_take hF k
    have hl := hr.len
    exact picked_at ⟨fun h => by rw [h] at hl; simp at hl; omega, by omega, hr.rows, by omega, by omega⟩ cell
  have hpk0 : F__law_picked [imat F, .int (cc 18)] = some (.bl true) := picked_at ⟨fun h => by rw [h] at hFl; simp at hFl; omega, by omega, hF.rows, by omega, by omega⟩ (cc 18)
  refine q_ifD (p := False) ?_ (fun e => e.elim) fun _ => s_nil ?_
  · have e2 : tNot (tVal (eCall F__law_picked (aCons (eSlice (eVar 9) oNone (oSome (eVar 16))) (aCons (eCall F__law_cell (aCons (eVar 0) (aCons (eC (.int 19)) aNil))) aNil)))) [.val SS, .val SH, .val (.int (n : Int)), .val (.int (c : Int)), .val (.int (cap : Int)), .val hv, .val ot, .val (ilst P), .val (.bl tn), .val (imat F), .val S, .val LE, .val (.int L), .val (ilst OD), .val (.int (at_ : Int)), .val (.int (m : Int)), .val (.int (b : Int)), .val (.int (nm : Int)), .val (.int (fu : Int)), mat [G0.set j 0, G1.set j 0], .val (ilst Q), .val (.int (few : Int)), .non, .non, .non] = some false := by
      rw [tNot_at, tVal_at, eCall_at, aCons_at, hsm b _ _ _ (by walk_at "pe") (by walk_at "pe")]
      walk_at "pe"
      rw [hcell 19 (by decide)]
      walk_at "pe"
      rw [show F__law_picked [.lst ((F.take b).map ilst), .int (cc 19)] = _ from hpk b (cc 19) hb1]
      rfl
    have e1 : tNot (tVal (eCall F__law_picked (aCons (eVar 9) (aCons (eCall F__law_cell (aCons (eVar 0) (aCons (eC (.int 18)) aNil))) aNil)))) [.val SS, .val SH, .val (.int (n : Int)), .val (.int (c : Int)), .val (.int (cap : Int)), .val hv, .val ot, .val (ilst P), .val (.bl tn), .val (imat F), .val S, .val LE, .val (.int L), .val (ilst OD), .val (.int (at_ : Int)), .val (.int (m : Int)), .val (.int (b : Int)), .val (.int (nm : Int)), .val (.int (fu : Int)), mat [G0.set j 0, G1.set j 0], .val (ilst Q), .val (.int (few : Int)), .non, .non, .non] = some false := by
      walk_at "pe"
      rw [hcell 18 (by decide)]
      walk_at "pe"
      rw [hpk0]
      rfl
    rw [tOr_at, e1]
    exact e2
  have h1 : e2 pGt (e2 pMul (e2 pMul (eVar 16) (eVar 3)) (eVar 15)) (eC (.int 2000)) [.val SS, .val SH, .val (.int (n : Int)), .val (.int (c : Int)), .val (.int (cap : Int)), .val hv, .val ot, .val (ilst P), .val (.bl tn), .val (imat F), .val S, .val LE, .val (.int L), .val (ilst OD), .val (.int (at_ : Int)), .val (.int (m : Int)), .val (.int (b : Int)), .val (.int (nm : Int)), .val (.int (fu : Int)), mat [G0.set j 0, G1.set j 0], .val (ilst Q), .val (.int (few : Int)), .non, .non, .non] = some (.vis (.bl (decide (2000 < (b : Int) * c * m)))) := by
    have hbc : 0 ≤ (b : Int) * c ∧ (b : Int) * c ≤ 4096 := ⟨Int.mul_nonneg (by omega) (by omega), by
      have := Int.mul_le_mul (show (b : Int) ≤ 16 by omega) (show (c : Int) ≤ 256 by omega) (by omega) (by decide)
      omega⟩
    walk_at "pe"
    rw [pMul_int (big_lt (n := 64) (by omega)) (big_lt (n := 64) (by omega))]
    walk_at "pe"
    rw [pMul_int (big_lt (n := 64) (by omega)) (big_lt (n := 64) (by omega))]
    walk_at "pe"
  have h3 : eCall F__law_checked (aCons (eSlice (eVar 9) oNone (oSome (eVar 16))) (aCons (eVar 5) (aCons (eVar 15) (aCons (eSlice (eVar 10) oNone (oSome (eVar 16))) (aCons (e2 pIx (eVar 1) (eC (.int 11))) aNil))))) [.val SS, .val SH, .val (.int (n : Int)), .val (.int (c : Int)), .val (.int (cap : Int)), .val hv, .val ot, .val (ilst P), .val (.bl tn), .val (imat F), .val S, .val LE, .val (.int L), .val (ilst OD), .val (.int (at_ : Int)), .val (.int (m : Int)), .val (.int (b : Int)), .val (.int (nm : Int)), .val (.int (fu : Int)), mat [G0.set j 0, G1.set j 0], .val (ilst Q), .val (.int (few : Int)), .non, .non, .non] = some (.vis (.bl true)) := by
    rw [eCall_at, aCons_at, hsm b _ _ _ (by walk_at "pe") (by walk_at "pe"), aCons_at, aCons_at, aCons_at, hslice b _ _ _ (by walk_at "pe") (by walk_at "pe")]
    walk_at "pe"
    rw [x11]
    walk_at "pe"
    rw [show F__law_checked [.lst ((F.take b).map ilst), hv, .int (m : Int), .lst (sprD (F.take b) P cap), .int d11] = _ from hchk b m d11 hb1 hm1 hm2]
    rfl
  refine s_ret (r := .vis (.bl true)) ?_ rfl rfl rfl
  rw [eOr_at, h1]
  by_cases h2 : 2000 < (b : Int) * c * m
  · rw [decide_eq_true h2]
  · rw [decide_eq_false h2]
    exact h3
end Pyl
end
section
set_option Elab.async false
set_option linter.all false
set_option maxRecDepth 100000
set_option maxHeartbeats 2000000
namespace Pyl
open PySem L2

/-! ### what a value denotes -/
mutual
inductive Den (K : PySem.W.Frag) (cm : Nat → Addr) (G : Hp) : V → Dt → Prop
  | non : Den K cm G .non .non
  | bl (b : Bool) : Den K cm G (.bl b) (.bl b)
  | int (i : Int) : Den K cm G (.int i) (.int i)
  | str (x : Str) : Den K cm G (.str x) (.str x)
  | lst {a : Addr} {vs : List V} {ds : List Dt} : SqL K G a vs → DenL K cm G vs ds → Den K cm G (.ref a) (.lst ds)
  | tup {a : Addr} {vs : List V} {ds : List Dt} : SqT K G a vs → DenL K cm G vs ds → Den K cm G (.ref a) (.tup ds)
  | obj {a dx : Addr} {c : Nat} {fv : List (Str × V)} {fs : List (Str × Dt)} : G a = some (.ins (cm c) dx fv) → DenF K cm G fv fs → Den K cm G (.ref a) (.obj c fs)
  | exn0 {a : Addr} : Den K cm G (.ref a) (.exn a none [])
  | exn {a dd : Addr} {fv : List (Str × V)} {fs : List (Str × Dt)} : G dd = some (.xd fv) → DenF K cm G fv fs → Den K cm G (.ref a) (.exn a (some dd) fs)
inductive DenL (K : PySem.W.Frag) (cm : Nat → Addr) (G : Hp) : List V → List Dt → Prop
  | nil : DenL K cm G [] []
  | cons {v : V} {vs : List V} {d : Dt} {ds : List Dt} : Den K cm G v d → DenL K cm G vs ds → DenL K cm G (v :: vs) (d :: ds)
inductive DenF (K : PySem.W.Frag) (cm : Nat → Addr) (G : Hp) : List (Str × V) → List (Str × Dt) → Prop
  | nil : DenF K cm G [] []
  | cons {x : Str} {v : V} {vs : List (Str × V)} {d : Dt} {ds : List (Str × Dt)} : Den K cm G v d → DenF K cm G vs ds → DenF K cm G ((x, v) :: vs) ((x, d) :: ds)
end

def Exx (H H' : Hp) : Prop := ∀ a o, H a = some o → H' a = some o
theorem Exx.refl (H : Hp) : Exx H H := fun _ _ h => h
theorem Exx.trans {H H1 H2 : Hp} (a : Exx H H1) (b : Exx H1 H2) : Exx H H2 := fun x o h => b x o (a x o h)
theorem Exx.new {H : Hp} {p : Addr} {o : HO} (h : H p = none) : Exx H (upd H p o) := fun a u e => by
  rw [upd_ne (ne_of_none e h)]
  exact e
theorem Exx.rd {H H' : Hp} {a : Addr} {u : HO} (e : Exx H H') (h : Rd H a u) : Rd H' a u := by
  rcases h with h | ⟨o, h⟩
  · exact Or.inl (e a _ h)
  · exact Or.inr ⟨o, e a _ h⟩
theorem Exx.sqL {K : PySem.W.Frag} {H H' : Hp} {a : Addr} {xs : List V} (e : Exx H H') (h : SqL K H a xs) : SqL K H' a xs := by
  rcases h with h | h
  · exact Or.inl (e.rd h)
  · exact Or.inr h
theorem Exx.sqT {K : PySem.W.Frag} {H H' : Hp} {a : Addr} {xs : List V} (e : Exx H H') (h : SqT K H a xs) : SqT K H' a xs := by
  rcases h with h | h
  · exact Or.inl (e.rd h)
  · exact Or.inr h
theorem Exx.back {H H' : Hp} {p : Addr} (e : Exx H H') (h : H' p = none) : H p = none := by
  cases h1 : H p with
  | none => rfl
  | some o =>
    rw [e p o h1] at h
    cases h
section
variable {K : PySem.W.Frag} {cm : Nat → Addr} {G G' : Hp}
mutual
theorem Den.mono (e : Exx G G') : ∀ {v : V} {d : Dt}, Den K cm G v d → Den K cm G' v d
  | _, _, .non => .non
  | _, _, .bl b => .bl b
  | _, _, .int i => .int i
  | _, _, .str x => .str x
  | _, _, .lst h l => .lst (e.sqL h) (DenL.mono e l)
  | _, _, .tup h l => .tup (e.sqT h) (DenL.mono e l)
  | _, _, .obj h l => .obj (e _ _ h) (DenF.mono e l)
  | _, _, .exn0 => .exn0
  | _, _, .exn h l => .exn (e _ _ h) (DenF.mono e l)
theorem DenL.mono (e : Exx G G') : ∀ {vs : List V} {ds : List Dt}, DenL K cm G vs ds → DenL K cm G' vs ds
  | _, _, .nil => .nil
  | _, _, .cons h t => .cons (Den.mono e h) (DenL.mono e t)
theorem DenF.mono (e : Exx G G') : ∀ {vs : List (Str × V)} {ds : List (Str × Dt)}, DenF K cm G vs ds → DenF K cm G' vs ds
  | _, _, .nil => .nil
  | _, _, .cons h t => .cons (Den.mono e h) (DenF.mono e t)
end
theorem DenL.length : ∀ {vs : List V} {ds : List Dt}, DenL K cm G vs ds → vs.length = ds.length
  | _, _, .nil => rfl
  | _, _, .cons _ t => by rw [List.length_cons, List.length_cons, DenL.length t]
theorem DenL.get : ∀ {vs : List V} {ds : List Dt} {i : Nat} {d : Dt}, DenL K cm G vs ds → ds[i]? = some d → ∃ v, vs[i]? = some v ∧ Den K cm G v d
  | _, _, _, _, .nil, e => by simp at e
  | _, _, 0, _, .cons h t, e => by simp at e; subst e; exact ⟨_, rfl, h⟩
  | _, _, i + 1, d, .cons h t, e => by
    obtain ⟨v, h1, h2⟩ := DenL.get (i := i) (d := d) t (by simpa using e)
    exact ⟨v, by simpa using h1, h2⟩
theorem DenL.get' : ∀ {vs : List V} {ds : List Dt} {i : Nat} {v : V}, DenL K cm G vs ds → vs[i]? = some v → ∃ d, ds[i]? = some d ∧ Den K cm G v d
  | _, _, _, _, .nil, e => by simp at e
  | _, _, 0, _, .cons h t, e => by simp at e; subst e; exact ⟨_, rfl, h⟩
  | _, _, i + 1, d, .cons h t, e => by
    obtain ⟨v, h1, h2⟩ := DenL.get' (i := i) (v := d) t (by simpa using e)
    exact ⟨v, by simpa using h1, h2⟩
theorem DenL.append : ∀ {vs ws : List V} {ds es : List Dt}, DenL K cm G vs ds → DenL K cm G ws es → DenL K cm G (vs ++ ws) (ds ++ es)
  | _, _, _, _, .nil, s => s
  | _, _, _, _, .cons h t, s => .cons h (DenL.append t s)
theorem DenL.take : ∀ {vs : List V} {ds : List Dt} (n : Nat), DenL K cm G vs ds → DenL K cm G (vs.take n) (ds.take n)
  | _, _, 0, _ => .nil
  | _, _, n + 1, .nil => .nil
  | _, _, n + 1, .cons h t => .cons h (DenL.take n t)
theorem DenL.drop : ∀ {vs : List V} {ds : List Dt} (n : Nat), DenL K cm G vs ds → DenL K cm G (vs.drop n) (ds.drop n)
  | _, _, 0, r => r
  | _, _, n + 1, .nil => .nil
  | _, _, n + 1, .cons _ t => DenL.drop n t
theorem DenL.set {v : V} {d : Dt} (h : Den K cm G v d) : ∀ {vs : List V} {ds : List Dt} (n : Nat), DenL K cm G vs ds → DenL K cm G (vs.set n v) (ds.set n d)
  | _, _, _, .nil => .nil
  | _, _, 0, .cons _ t => .cons h t
  | _, _, n + 1, .cons q t => .cons q (DenL.set h n t)
theorem DenL.one {v : V} {d : Dt} (h : Den K cm G v d) : DenL K cm G [v] [d] := .cons h .nil
end

/-! ### growth -/
structure Grow (H G H' G' : Hp) : Prop where
  hx : Exx H H'
  gx : Exx G G'
  hid : ∀ a o, H a = some o → G a = none → G' a = none
  sub : Exx G' H'
theorem Grow.refl {H G : Hp} (s : Exx G H) : Grow H G H G := ⟨.refl _, .refl _, fun _ _ _ h => h, s⟩
theorem Grow.trans {H G H1 G1 H2 G2 : Hp} (a : Grow H G H1 G1) (b : Grow H1 G1 H2 G2) : Grow H G H2 G2 :=
  ⟨a.hx.trans b.hx, a.gx.trans b.gx, fun x o h n => b.hid x o (a.hx x o h) (a.hid x o h n), b.sub⟩
/-- a new object, seen by all -/
theorem Grow.new {H G : Hp} {p : Addr} {o : HO} (s : Exx G H) (h : H p = none) : Grow H G (upd H p o) (upd G p o) :=
  ⟨.new h, .new (s.back h), fun a u e n => by rw [upd_ne (ne_of_none e h)]; exact n, fun a u e => by
    by_cases q : a = p
    · subst q; rw [upd_same] at e ⊢; exact e
    · rw [upd_ne q] at e ⊢; exact s a u e⟩
/-- a new object, seen by none -/
theorem Grow.hide {H G : Hp} {p : Addr} {o : HO} (s : Exx G H) (h : H p = none) : Grow H G (upd H p o) G :=
  ⟨.new h, .refl _, fun _ _ _ n => n, fun a u e => by rw [upd_ne (ne_of_none (s a u e) h)]; exact s a u e⟩
/-- what was hidden and new is shown -/
theorem Grow.show {H G H' G' : Hp} {p : Addr} {o : HO} (g : Grow H G H' G') (n : H p = none) (e : H' p = some o) (z : G' p = none) : Grow H G H' (upd G' p o) :=
  ⟨g.hx, fun a u q => by rw [upd_ne (ne_of_none (g.gx a u q) z)]; exact g.gx a u q, fun a u q w => by rw [upd_ne (ne_of_none q n)]; exact g.hid a u q w, fun a u q => by
    by_cases k : a = p
    · subst k; rw [upd_same] at q; cases q; exact e
    · rw [upd_ne k] at q; exact g.sub a u q⟩

/-- a list looked at, that a name of the frame holds -/
def Bor (K : PySem.W.Frag) (cm : Nat → Addr) (H G : Hp) (v : V) (d : Dt) : Prop := ∃ l vs ds, v = .ref l ∧ d = .lst ds ∧ SqL K H l vs ∧ DenL K cm G vs ds
def VR (K : PySem.W.Frag) (cm : Nat → Addr) (H G : Hp) (v : V) (d : Dt) (b : Bool) : Prop := (b = true → Bor K cm H G v d) ∧ (b = false → Den K cm G v d)
def OwnR (K : PySem.W.Frag) (cm : Nat → Addr) (G : Hp) : HO → OD → Prop
  | .lst vs, .lst ds => DenL K cm G vs ds
  | _, _ => False
def RR (K : PySem.W.Frag) (cm : Nat → Addr) (H H' G' : Hp) (v : V) : R → Prop
  | .vis d => Den K cm G' v d
  | .bor d => Bor K cm H' G' v d
  | .fre od => ∃ l o, v = .ref l ∧ H l = none ∧ H' l = some o ∧ G' l = none ∧ OwnR K cm G' o od
section
variable {K : PySem.W.Frag} {cm : Nat → Addr} {H G H' G' : Hp} {v : V} {d : Dt} {b : Bool}
theorem OwnR.mono {o : HO} {od : OD} (e : Exx G G') (h : OwnR K cm G o od) : OwnR K cm G' o od := by
  cases o <;> cases od <;> first | exact DenL.mono e h | exact h
theorem VR.vis (h : Den K cm G v d) : VR K cm H G v d false := ⟨fun e => (nomatch e), fun _ => h⟩
theorem VR.den (h : VR K cm H G v d false) : Den K cm G v d := h.2 rfl
theorem VR.grow (g : Grow H G H' G') (h : VR K cm H G v d b) : VR K cm H' G' v d b := by
  refine ⟨fun e => ?_, fun e => (h.2 e).mono g.gx⟩
  obtain ⟨l, vs, ds, h1, h2, h3, h4⟩ := h.1 e
  exact ⟨l, vs, ds, h1, h2, g.hx.sqL h3, h4.mono g.gx⟩
theorem VR.lst {ds : List Dt} (s : Exx G H) (h : VR K cm H G v (.lst ds) b) : ∃ l vs, v = .ref l ∧ SqL K H l vs ∧ DenL K cm G vs ds := by
  cases b with
  | true =>
    obtain ⟨l, vs, ds', h1, h2, h3, h4⟩ := h.1 rfl
    cases h2
    exact ⟨l, vs, h1, h3, h4⟩
  | false =>
    have q := h.2 rfl
    cases q with
    | lst h1 h2 => exact ⟨_, _, rfl, s.sqL h1, h2⟩
theorem VR.tup {ds : List Dt} (s : Exx G H) (h : VR K cm H G v (.tup ds) b) : ∃ l vs, v = .ref l ∧ SqT K H l vs ∧ SqT K G l vs ∧ DenL K cm G vs ds := by
  cases b with
  | true =>
    obtain ⟨l, vs, ds', h1, h2, h3, h4⟩ := h.1 rfl
    cases h2
  | false =>
    have q := h.2 rfl
    cases q with
    | tup h1 h2 => exact ⟨_, _, rfl, s.sqT h1, h1, h2⟩
theorem VR.int {i : Int} (h : VR K cm H G v (.int i) b) : v = .int i := by
  cases b with
  | true =>
    obtain ⟨l, vs, ds', h1, h2, h3, h4⟩ := h.1 rfl
    cases h2
  | false => cases h.2 rfl; rfl
theorem VR.bl {i : Bool} (h : VR K cm H G v (.bl i) b) : v = .bl i := by
  cases b with
  | true =>
    obtain ⟨l, vs, ds', h1, h2, h3, h4⟩ := h.1 rfl
    cases h2
  | false => cases h.2 rfl; rfl
theorem VR.str {i : Str} (h : VR K cm H G v (.str i) b) : v = .str i := by
  cases b with
  | true =>
    obtain ⟨l, vs, ds', h1, h2, h3, h4⟩ := h.1 rfl
    cases h2
  | false => cases h.2 rfl; rfl
theorem VR.non (h : VR K cm H G v .non b) : v = .non := by
  cases b with
  | true =>
    obtain ⟨l, vs, ds', h1, h2, h3, h4⟩ := h.1 rfl
    cases h2
  | false => cases h.2 rfl; rfl
/-- a result is shown -/
theorem RR.pub {r : R} (g : Grow H G H' G') (h : RR K cm H H' G' v r) : ∃ G2, Grow H G H' G2 ∧ VR K cm H' G2 v r.dt r.sh := by
  cases r with
  | vis d => exact ⟨G', g, .vis h⟩
  | bor d => exact ⟨G', g, ⟨fun _ => h, fun e => (nomatch e)⟩⟩
  | fre od =>
    obtain ⟨l, o, rfl, h1, h2, h3, h4⟩ := h
    cases o <;> cases od <;> first | exact h4.elim | skip
    rename_i vs ds
    exact ⟨_, g.show h1 h2 h3, .vis (.lst (SqL.of upd_same) (DenL.mono (Exx.new h3) h4))⟩
end

/-! ### states -/
/-- a list of lists at l, its lists at as; none of them is seen -/
structure MatR (K : PySem.W.Frag) (cm : Nat → Addr) (H G : Hp) (l : Addr) (as : List Addr) (dss : List (List Dt)) : Prop where
  at_ : H l = some (.lst (as.map V.ref))
  hid : G l = none
  nd : (l :: as).Nodup
  len : as.length = dss.length
  row : ∀ (k : Nat) (a : Addr) (ds : List Dt), as[k]? = some a → dss[k]? = some ds → ∃ vs, H a = some (.lst vs) ∧ G a = none ∧ DenL K cm G vs ds
theorem MatR.mono {K : PySem.W.Frag} {cm : Nat → Addr} {H G H' G' : Hp} {l : Addr} {as : List Addr} {dss : List (List Dt)} (g : Grow H G H' G') (m : MatR K cm H G l as dss) : MatR K cm H' G' l as dss :=
  ⟨g.hx _ _ m.at_, g.hid _ _ m.at_ m.hid, m.nd, m.len, fun k a ds h1 h2 => by
    obtain ⟨vs, k1, k2, k3⟩ := m.row k a ds h1 h2
    exact ⟨vs, g.hx _ _ k1, g.hid _ _ k1 k2, k3.mono g.gx⟩⟩
theorem MatR.get {K : PySem.W.Frag} {cm : Nat → Addr} {H G : Hp} {l : Addr} {as : List Addr} {dss : List (List Dt)} (m : MatR K cm H G l as dss) {a : Addr} (h : a ∈ as) : ∃ (k : Nat) (ds : List Dt) (vs : List V), as[k]? = some a ∧ dss[k]? = some ds ∧ H a = some (.lst vs) ∧ G a = none ∧ DenL K cm G vs ds := by
  obtain ⟨k, hk, e⟩ := List.getElem_of_mem h
  have hk' : k < dss.length := by rw [← m.len]; exact hk
  have h1 : as[k]? = some a := by rw [List.getElem?_eq_getElem hk, e]
  obtain ⟨vs, q1, q2, q3⟩ := m.row k a _ h1 (List.getElem?_eq_getElem hk')
  exact ⟨k, _, vs, h1, List.getElem?_eq_getElem hk', q1, q2, q3⟩
theorem MatR.all {K : PySem.W.Frag} {cm : Nat → Addr} {H G : Hp} {l : Addr} {as : List Addr} {dss : List (List Dt)} (m : MatR K cm H G l as dss) {a : Addr} (h : a ∈ l :: as) : (∃ o, H a = some o) ∧ G a = none := by
  rcases List.mem_cons.mp h with rfl | h
  · exact ⟨⟨_, m.at_⟩, m.hid⟩
  · obtain ⟨k, ds, vs, _, _, q1, q2, _⟩ := m.get h
    exact ⟨⟨_, q1⟩, q2⟩
theorem refs_inj {as bs : List Addr} (h : as.map V.ref = bs.map V.ref) : as = bs := List.map_inj_right (fun _ _ e => by cases e; rfl) |>.mp h
/-- an address that the name number i holds as its own -/
def Held (H : Hp) (σ : L2.St) (env : Sl) (i : Nat) (a : Addr) : Prop := (∃ od, env[i]? = some (.own od) ∧ σ[i]? = some (some (.ref a))) ∨
  (∃ dss l as, env[i]? = some (.mat dss) ∧ σ[i]? = some (some (.ref l)) ∧ H l = some (.lst (as.map V.ref)) ∧ a ∈ l :: as)
structure Rel (K : PySem.W.Frag) (cm : Nat → Addr) (σ : L2.St) (H G : Hp) (env : Sl) : Prop where
  len : σ.length = env.length
  sub : Exx G H
  val : ∀ (i : Nat) (d : Dt), env[i]? = some (.val d) → ∃ v, σ[i]? = some (some v) ∧ Den K cm G v d
  own : ∀ (i : Nat) (od : OD), env[i]? = some (.own od) → ∃ l o, σ[i]? = some (some (.ref l)) ∧ H l = some o ∧ G l = none ∧ OwnR K cm G o od
  mat : ∀ (i : Nat) (dss : List (List Dt)), env[i]? = some (.mat dss) → ∃ l as, σ[i]? = some (some (.ref l)) ∧ MatR K cm H G l as dss
  dist : ∀ (i j : Nat) (a : Addr), Held H σ env i a → Held H σ env j a → i = j
section
variable {K : PySem.W.Frag} {cm : Nat → Addr} {σ : L2.St} {H G H' G' : Hp} {env : Sl}
theorem Rel.held (r : Rel K cm σ H G env) (e : Exx H H') {i : Nat} {a : Addr} (h : Held H' σ env i a) : Held H σ env i a := by
  rcases h with h | ⟨dss, l, as, h1, h2, h3, h4⟩
  · exact .inl h
  · obtain ⟨l', as', k1, k2⟩ := r.mat i dss h1
    rw [h2] at k1
    cases k1
    have q := e _ _ k2.at_
    rw [h3] at q
    have q2 : as = as' := refs_inj (HO.lst.inj (Option.some.inj q))
    subst q2
    exact .inr ⟨dss, l, as, h1, h2, k2.at_, h4⟩
theorem Held.at_ (r : Rel K cm σ H G env) {i : Nat} {a : Addr} (h : Held H σ env i a) : (∃ o, H a = some o) ∧ G a = none := by
  rcases h with ⟨od, h1, h2⟩ | ⟨dss, l, as, h1, h2, h3, h4⟩
  · obtain ⟨l, o, k1, k2, k3, _⟩ := r.own i od h1
    rw [h2] at k1
    cases k1
    exact ⟨⟨_, k2⟩, k3⟩
  · obtain ⟨l', as', k1, k2⟩ := r.mat i dss h1
    rw [h2] at k1
    cases k1
    have q := k2.at_
    rw [h3] at q
    have q2 : as = as' := refs_inj (HO.lst.inj (Option.some.inj q))
    subst q2
    exact k2.all h4
theorem Held.mat (r : Rel K cm σ H G env) {i : Nat} {dss : List (List Dt)} {l a : Addr} {as : List Addr} (h1 : env[i]? = some (.mat dss)) (h2 : σ[i]? = some (some (.ref l))) (m : MatR K cm H G l as dss) (h : a ∈ l :: as) : Held H σ env i a := .inr ⟨dss, l, as, h1, h2, m.at_, h⟩
theorem Rel.grow (r : Rel K cm σ H G env) (g : Grow H G H' G') : Rel K cm σ H' G' env :=
  ⟨r.len, g.sub, fun i d h => by
    obtain ⟨v, h1, h2⟩ := r.val i d h
    exact ⟨v, h1, h2.mono g.gx⟩, fun i od h => by
    obtain ⟨l, o, h1, h2, h3, h4⟩ := r.own i od h
    exact ⟨l, o, h1, g.hx l o h2, g.hid l o h2 h3, h4.mono g.gx⟩, fun i dss h => by
    obtain ⟨l, as, h1, h2⟩ := r.mat i dss h
    exact ⟨l, as, h1, h2.mono g⟩, fun i j a h1 h2 => r.dist i j a (r.held g.hx h1) (r.held g.hx h2)⟩
/-- an address that a name holds as its own -/
def Own (H : Hp) (σ : L2.St) (env : Sl) (a : Addr) : Prop := ∃ i : Nat, Held H σ env i a
end

/-- what code leaves as it was, of the heaps -/
structure FrH (σ : L2.St) (env : Sl) (H G H' G' : Hp) : Prop where
  gx : Exx G G'
  hid : ∀ a o, H a = some o → G a = none → ¬ Own H σ env a → G' a = none
  keep : ∀ a o, H a = some o → ¬ Own H σ env a → H' a = some o
  there : ∀ a o, H a = some o → ∃ o', H' a = some o'
  sub : Exx G' H'
structure Fr (σ : L2.St) (env : Sl) (H G : Hp) (σ' : L2.St) (env' : Sl) (H' G' : Hp) : Prop extends FrH σ env H G H' G' where
  fresh : ∀ a o, H a = some o → ¬ Own H σ env a → ¬ Own H' σ' env' a
  take : ∀ i : Nat, env'[i]? = some .take → env[i]? = some .take ∧ σ'[i]? = σ[i]?
section
variable {K : PySem.W.Frag} {cm : Nat → Addr} {σ σ1 σ2 : L2.St} {H G H1 G1 H2 G2 : Hp} {env env1 env2 : Sl}
theorem Grow.frH (g : Grow H G H1 G1) : FrH σ env H G H1 G1 := ⟨g.gx, fun a o h n _ => g.hid a o h n, fun a o h _ => g.hx a o h, fun a o h => ⟨o, g.hx a o h⟩, g.sub⟩
theorem Rel.fr (r : Rel K cm σ H G env) (g : Grow H G H1 G1) : Fr σ env H G σ env H1 G1 := { g.frH with fresh := fun _ _ _ h ⟨i, q⟩ => h ⟨i, r.held g.hx q⟩, take := fun _ h => ⟨h, rfl⟩ }
theorem Fr.trH (a : Fr σ env H G σ1 env1 H1 G1) (b : FrH σ1 env1 H1 G1 H2 G2) : FrH σ env H G H2 G2 where
  gx := a.gx.trans b.gx
  hid := fun x o h n w => b.hid x o (a.keep x o h w) (a.hid x o h n w) (a.fresh x o h w)
  keep := fun x o h w => b.keep x o (a.keep x o h w) (a.fresh x o h w)
  there := fun x o h => by
    obtain ⟨o1, h1⟩ := a.there x o h
    exact b.there x o1 h1
  sub := b.sub
theorem Fr.trans (a : Fr σ env H G σ1 env1 H1 G1) (b : Fr σ1 env1 H1 G1 σ2 env2 H2 G2) : Fr σ env H G σ2 env2 H2 G2 :=
  { a.trH b.toFrH with
    fresh := fun x o h w => b.fresh x o (a.keep x o h w) (a.fresh x o h w)
    take := fun i h => by
      obtain ⟨h1, e1⟩ := b.take i h
      obtain ⟨h2, e2⟩ := a.take i h1
      exact ⟨h2, e1.trans e2⟩ }
theorem Fr.refl (s : Exx G H) : Fr σ env H G σ env H G := { (Grow.refl s).frH with fresh := fun _ _ _ h => h, take := fun _ h => ⟨h, rfl⟩ }
end

/-! ### the weakest readings -/
section
variable (X : Cx)
def wpE (e : Expr) : TE := fun σ H Q => ∀ pins s, Inv X pins σ H s → wpAny (model X.prog X.w) X.A (eval e X.env) (EP X pins σ Q) X.xe s
def wpT (e : Expr) : TT := fun σ H Q => ∀ pins s, Inv X pins σ H s → wpAny (model X.prog X.w) X.A (isTrue e X.env (eval e X.env)) (TP X pins σ Q) X.xe s
def wpA (es : List Expr) : TA := fun σ H Q => ∀ (pos : Pos) pins s, Inv X pins σ H s → wpAny (model X.prog X.w) X.A (spliced (backTo pos (starEach es X.env))) (AP X pins σ Q) X.xe s
def wpS (st : Stmt) : TS := fun D σ H => ∀ pins s, Inv X pins σ H s → wpAny (model X.prog X.w) X.A (exec st X.env) (SP X pins D) X.xe s
def wpSs (st : List Stmt) : TS := fun D σ H => ∀ pins s, Inv X pins σ H s → wpAny (model X.prog X.w) X.A (execs st X.env) (SP X pins D) X.xe s
def wpI (tg iter : Expr) : TI := fun σ H R => ∀ pins s, Inv X pins σ H s → wpAny (model X.prog X.w) X.A (eval iter X.env) (fun v s1 => wpAny (model X.prog X.w) X.A (pyIter v) (PIE X pins σ tg R) X.xe s1) X.xe s
def wpG (tg : Expr) : TG := fun v σ H Q => ∀ pins s u, Inv X pins σ H s → RelV v u → wpAny (model X.prog X.w) X.A (assign tg X.env u) (fun _ s' => ∃ σ' H', Inv X pins σ' H' s' ∧ Q σ' H') X.xe s
end
section
variable {X : Cx}
theorem pe_w {e : Expr} : PE X e (wpE X e) := ⟨fun pins s σ H Q I h => h pins s I⟩
theorem pt_w {e : Expr} : PT X e (wpT X e) := ⟨fun pins s σ H Q I h => h pins s I⟩
theorem pa_w {es : List Expr} : PA X es (wpA X es) := ⟨fun pos pins s σ H Q I h => h pos pins s I⟩
theorem ps_w {st : Stmt} : PS X st (wpS X st) := ⟨fun pins s σ H Q I h => h pins s I⟩
theorem pss_w {st : List Stmt} : PSs X st (wpSs X st) := ⟨fun pins s σ H Q I h => h pins s I⟩
theorem pi_w {tg iter : Expr} : PI X tg iter (wpI X tg iter) := ⟨fun pins s σ H R I h => h pins s I⟩
theorem pg_w {tg : Expr} : PG X tg (wpG X tg) := ⟨fun pins s σ H v u Q I r h => h pins s u I r⟩
theorem to_e {e : Expr} {t : TE} {σ : L2.St} {H : Hp} {Q : VK} (h : PE X e t) (q : t σ H Q) : wpE X e σ H Q := fun pins s I => h.run pins s σ H Q I q
theorem to_t {e : Expr} {t : TT} {σ : L2.St} {H : Hp} {Q : Bool → Hp → Prop} (h : PT X e t) (q : t σ H Q) : wpT X e σ H Q := fun pins s I => h.run pins s σ H Q I q
theorem to_a {e : List Expr} {t : TA} {σ : L2.St} {H : Hp} {Q : List V → Hp → Prop} (h : PA X e t) (q : t σ H Q) : wpA X e σ H Q := fun pos pins s I => h.run pos pins s σ H Q I q
theorem to_s {st : Stmt} {t : TS} {σ : L2.St} {H : Hp} {D : Ends} (h : PS X st t) (q : t D σ H) : wpS X st D σ H := fun pins s I => h.run pins s σ H D I q
theorem to_ss {st : List Stmt} {t : TS} {σ : L2.St} {H : Hp} {D : Ends} (h : PSs X st t) (q : t D σ H) : wpSs X st D σ H := fun pins s I => h.run pins s σ H D I q
theorem to_i {tg iter : Expr} {t : TI} {σ : L2.St} {H : Hp} {Q : It → Hp → Prop} (h : PI X tg iter t) (q : t σ H Q) : wpI X tg iter σ H Q := fun pins s I => h.run pins s σ H Q I q
end
end Pyl
end
section
set_option Elab.async false
set_option linter.all false
set_option maxRecDepth 100000
set_option maxHeartbeats 2000000
namespace Pyl
open PySem L2

/-- the code of e gives f, of the frame's data -/
structure JE (X : Cx) (cm : Nat → Addr) (e : Expr) (f : EF) : Prop where
  run : ∀ (env : Sl) (r : R) (σ : L2.St) (H G : Hp), f env = some r → Rel X.K cm σ H G env → ∀ Q : VK, (∀ v H' G', Grow H G H' G' → RR X.K cm H H' G' v r → Q v H') → wpE X e σ H Q
structure JT (X : Cx) (cm : Nat → Addr) (e : Expr) (f : TF) : Prop where
  run : ∀ (env : Sl) (b : Bool) (σ : L2.St) (H G : Hp), f env = some b → Rel X.K cm σ H G env → ∀ Q : Bool → Hp → Prop, (∀ H' G', Grow H G H' G' → Q b H') → wpT X e σ H Q
inductive VRs (K : PySem.W.Frag) (cm : Nat → Addr) (H G : Hp) : List V → List (Dt × Bool) → Prop
  | nil : VRs K cm H G [] []
  | cons {v : V} {vs : List V} {d : Dt} {b : Bool} {ds : List (Dt × Bool)} : VR K cm H G v d b → VRs K cm H G vs ds → VRs K cm H G (v :: vs) ((d, b) :: ds)
structure JA (X : Cx) (cm : Nat → Addr) (es : List Expr) (f : AF) : Prop where
  run : ∀ (env : Sl) (r : List (Dt × Bool)) (σ : L2.St) (H G : Hp), f env = some r → Rel X.K cm σ H G env → ∀ Q : List V → Hp → Prop, (∀ vs H' G', Grow H G H' G' → VRs X.K cm H' G' vs r → Q vs H') → wpA X es σ H Q
  len : ∀ (env : Sl) (r : List (Dt × Bool)), f env = some r → r.length = es.length
section
variable {X : Cx} {cm : Nat → Addr} {e a b c : Expr} {f fa fb : EF} {σ : L2.St} {H G : Hp} {env : Sl} {pos : Pos}

theorem JE.pub (h : JE X cm e f) {r : R} (hf : f env = some r) (rel : Rel X.K cm σ H G env) {Q : VK} (q : ∀ v H' G', Grow H G H' G' → VR X.K cm H' G' v r.dt r.sh → Q v H') : wpE X e σ H Q := by
  refine h.run env r σ H G hf rel Q fun v H' G' g rr => ?_
  obtain ⟨G2, g2, vr⟩ := RR.pub g rr
  exact q v H' G2 g2 vr

/-! names, constants -/
theorem je_var {x : Str} (i : Nat) (hN : X.N[i]? = some x := by rfl) (hv : Vis X.env.scope x := by first | exact Or.inl rfl | exact Or.inr (Or.inl rfl) | exact Or.inr (Or.inr rfl)) (hd : (x == ("__debug__" : Str)) = false := by decide)
    (hcd : (x == ("__classdict__" : Str)) = false := by decide) : JE X cm (.Name x pos) (eVar i) := by
  refine ⟨fun env r σ H G hf rel Q q => ?_⟩
  unfold eVar at hf
  split at hf
  · rename_i d hd'
    cases hf
    obtain ⟨v, h1, h2⟩ := rel.val i d hd'
    exact to_e (pe_var hN hv hd hcd) ⟨v, h1, q v H G (.refl rel.sub) h2⟩
  · rename_i ds hd'
    cases hf
    obtain ⟨l, o, h1, h2, h3, h4⟩ := rel.own i _ hd'
    cases o with
    | lst vs => exact to_e (pe_var hN hv hd hcd) ⟨_, h1, q _ H G (.refl rel.sub) ⟨l, vs, ds, rfl, rfl, SqL.of h2, h4⟩⟩
    | _ => exact h4.elim
  · cases hf
theorem je_int {i j} : JE X cm (.Constant (.int i) j pos) (eC (.int i)) := ⟨fun env r σ H G hf rel Q q => by
  cases hf
  exact to_e pe_int (q _ H G (.refl rel.sub) (Den.int i))⟩
theorem je_bl {i j} : JE X cm (.Constant (.bool i) j pos) (eC (.bl i)) := ⟨fun env r σ H G hf rel Q q => by
  cases hf
  exact to_e pe_bl (q _ H G (.refl rel.sub) (Den.bl i))⟩
theorem je_non {j} : JE X cm (.Constant .none j pos) (eC .non) := ⟨fun env r σ H G hf rel Q q => by
  cases hf
  exact to_e pe_non (q _ H G (.refl rel.sub) Den.non)⟩
theorem je_str {i j} : JE X cm (.Constant (.str i) j pos) (eC (.str i)) := ⟨fun env r σ H G hf rel Q q => by
  cases hf
  exact to_e pe_str (q _ H G (.refl rel.sub) (Den.str i))⟩

/-! argument lists -/
theorem ja_nil : JA X cm [] aNil := ⟨fun env r σ H G hf rel Q q => by
  cases hf
  exact to_a pa_nil (q _ H G (.refl rel.sub) .nil), fun env r h => by cases h; rfl⟩
theorem VRs.grow {K : PySem.W.Frag} {H G H' G' : Hp} (g : Grow H G H' G') : ∀ {vs : List V} {ds : List (Dt × Bool)}, VRs K cm H G vs ds → VRs K cm H' G' vs ds
  | _, _, .nil => .nil
  | _, _, .cons h t => .cons (h.grow g) (VRs.grow g t)
theorem ja_cons {es : List Expr} {fr : AF} (ha : JE X cm e fa) (hr : JA X cm es fr) (hs : starEach (e :: es) X.env = (false, eval e X.env) :: starEach es X.env := by rfl) : JA X cm (e :: es) (aCons fa fr) := by
  refine ⟨fun env r σ H G hf rel Q q => ?_, fun env r hf => by
    obtain ⟨ra, h1, hf⟩ := Option.bind_eq_some_iff.mp hf
    obtain ⟨rs, h2, hf⟩ := Option.bind_eq_some_iff.mp hf
    cases hf
    rw [List.length_cons, List.length_cons, hr.len env rs h2]⟩
  obtain ⟨ra, h1, hf⟩ := Option.bind_eq_some_iff.mp hf
  obtain ⟨rs, h2, hf⟩ := Option.bind_eq_some_iff.mp hf
  cases hf
  refine to_a (pa_cons pe_w pa_w hs) ?_
  refine ha.pub h1 rel fun v H1 G1 g1 vr => ?_
  refine hr.run env rs σ H1 G1 h2 (rel.grow g1) _ fun vs H2 G2 g2 vrs => ?_
  exact q _ H2 G2 (g1.trans g2) (.cons (vr.grow g2) vrs)
theorem VRs.plain {K : PySem.W.Frag} {H G : Hp} : ∀ {vs : List V} {rs : List (Dt × Bool)}, VRs K cm H G vs rs → rs.any (·.2) = false → DenL K cm G vs (rs.map (·.1))
  | _, _, .nil, _ => .nil
  | _, _, .cons (b := b) h t, e => by
    rw [List.any_cons, Bool.or_eq_false_iff] at e
    have e1 : b = false := e.1
    subst e1
    exact .cons h.den (VRs.plain t e.2)
theorem plain_some {rs : List (Dt × Bool)} {ds : List Dt} (h : plain rs = some ds) : rs.any (·.2) = false ∧ ds = rs.map (·.1) := by
  unfold Pyl.plain at h
  split at h
  · cases h
  · rename_i hn
    cases h
    exact ⟨by simpa using hn, rfl⟩
theorem VRs.length {K : PySem.W.Frag} {H G : Hp} : ∀ {vs : List V} {rs : List (Dt × Bool)}, VRs K cm H G vs rs → vs.length = rs.length
  | _, _, .nil => rfl
  | _, _, .cons h t => by rw [List.length_cons, List.length_cons, VRs.length t]
theorem je_tup {es : List Expr} {ft : AF} {k : Nat} (h : JA X cm es ft) (hz : es.length ≤ 100000 := by decide) : JE X cm (.Tuple es k pos) (eTup ft) := by
  refine ⟨fun env r σ H G hf rel Q q => ?_⟩
  obtain ⟨rs, h1, hf⟩ := Option.bind_eq_some_iff.mp hf
  obtain ⟨ds, h2, hf⟩ := Option.bind_eq_some_iff.mp hf
  cases hf
  obtain ⟨h3, rfl⟩ := plain_some h2
  refine to_e (pe_tup pa_w) ?_
  refine h.run env rs σ H G h1 rel _ fun vs H1 G1 g1 vrs => ⟨?_, fun p hp => ?_⟩
  · rw [vrs.length, h.len env rs h1]
    exact Nat.le_trans hz (by decide)
  · have n := g1.sub.back hp
    exact q _ _ _ (g1.trans (.new g1.sub hp)) (.tup (SqT.of upd_same) ((vrs.plain h3).mono (.new n)))
theorem je_lst {es : List Expr} {ft : AF} (h : JA X cm es ft) (hz : es.length ≤ 100000 := by decide) : JE X cm (.List es pos) (eLst ft) := by
  refine ⟨fun env r σ H G hf rel Q q => ?_⟩
  obtain ⟨rs, h1, hf⟩ := Option.bind_eq_some_iff.mp hf
  obtain ⟨ds, h2, hf⟩ := Option.bind_eq_some_iff.mp hf
  cases hf
  obtain ⟨h3, rfl⟩ := plain_some h2
  refine to_e (pe_lst pa_w) ?_
  refine h.run env rs σ H G h1 rel _ fun vs H1 G1 g1 vrs => ⟨?_, fun p hp => ?_⟩
  · rw [vrs.length, h.len env rs h1]
    exact Nat.le_trans hz (by decide)
  · have n := g1.sub.back hp
    exact q _ _ _ (g1.trans (.hide g1.sub hp)) ⟨p, _, rfl, g1.hx.back hp, upd_same, n, vrs.plain h3⟩

/-! operations -/
def P2 (X : Cx) (cm : Nat → Addr) (f : Value → Value → Sem Value) (p : Dt → Dt → Option R) : Prop :=
  ∀ (d1 d2 : Dt) (b1 b2 : Bool) (out : R) (v1 v2 : V) (H G : Hp), VR X.K cm H G v1 d1 b1 → VR X.K cm H G v2 d2 b2 → Exx G H → p d1 d2 = some out →
    ∃ r : R2, OpR X f r ∧ ∀ Q : VK, (∀ v H' G', Grow H G H' G' → RR X.K cm H H' G' v out → Q v H') → r v1 v2 H Q
theorem RR.hx {K : PySem.W.Frag} {H H0 H1 G1 : Hp} {v : V} {r : R} (e : Exx H0 H) (h : RR K cm H H1 G1 v r) : RR K cm H0 H1 G1 v r := by
  cases r with
  | vis d => exact h
  | bor d => exact h
  | fre od =>
    obtain ⟨l, o, h1, h2, h3⟩ := h
    exact ⟨l, o, h1, e.back h2, h3⟩
theorem run2 {fop : Value → Value → Sem Value} {p : Dt → Dt → Option R} (ok : P2 X cm fop p) (ha : JE X cm a fa) (hb : JE X cm b fb) {r : R} (hf : e2 p fa fb env = some r) (rel : Rel X.K cm σ H G env) {Q : VK}
    (q : ∀ v H' G', Grow H G H' G' → RR X.K cm H H' G' v r → Q v H') {pins : List (Addr × Obj)} {s : Shared} (I : Inv X pins σ H s) :
    wpAny (model X.prog X.w) X.A (eval a X.env) (fun v s₁ => wpAny (model X.prog X.w) X.A (eval b X.env) (fun u s₂ => wpAny (model X.prog X.w) X.A (fop v u) (EP X pins σ Q) X.xe s₂) X.xe s₁) X.xe s := by
  obtain ⟨ra, h1, hf⟩ := Option.bind_eq_some_iff.mp hf
  obtain ⟨rb, h2, hf⟩ := Option.bind_eq_some_iff.mp hf
  refine bin (ta := wpE X a) (tb := wpE X b) pe_w pe_w I (R := fun x y H2 => ∃ rr : R2, OpR X fop rr ∧ rr x y H2 Q) ?_ fun v u s2 x y H2 I2 rx ry hq => ?_
  · refine ha.pub h1 rel fun v H1 G1 g1 vr => ?_
    refine hb.pub h2 (rel.grow g1) fun w H2 G2 g2 wr => ?_
    obtain ⟨rr, ho, hr⟩ := ok _ _ _ _ _ _ _ H2 G2 (vr.grow g2) wr g2.sub hf
    exact ⟨rr, ho, hr Q fun v' H3 G3 g3 rr3 => q v' H3 G3 ((g1.trans g2).trans g3) (rr3.hx (g1.trans g2).hx)⟩
  · obtain ⟨rr, ho, hr⟩ := hq
    exact ho pins s2 σ H2 x y v u Q I2 rx ry hr
theorem je_bin {op : Operator} {p : Dt → Dt → Option R} (ok : P2 X cm (binaryOp op) p) (ha : JE X cm a fa) (hb : JE X cm b fb) : JE X cm (.BinOp a op b pos) (e2 p fa fb) :=
  ⟨fun env r σ H G hf rel Q q pins s I => wpAny_BinOp (run2 ok ha hb hf rel q I)⟩
theorem je_cmp {op : CmpOp} {p : Dt → Dt → Option R} (ok : P2 X cm (compareOp op) p) (ha : JE X cm a fa) (hb : JE X cm b fb) (hm : behindInMarks op b = false := by first | exact nobehind _ (by decide) (by decide) | rfl) : JE X cm (.Compare a [op] [b] pos) (e2 p fa fb) :=
  ⟨fun env r σ H G hf rel Q q pins s I => wpAny_Compare1 (run2 ok ha hb hf rel q I) hm⟩

theorem p2_int {f : Value → Value → Sem Value} {C : Int → Int → Prop} {g : Int → Int → V} {c : Int → Int → Option Int} (ho : OpR X f (rI C g)) (hc : ∀ i j k, c i j = some k → C i j ∧ g i j = .int k) : P2 X cm f (pIntI c) := by
  intro d1 d2 b1 b2 out v1 v2 H G r1 r2 sub hp
  unfold pIntI at hp
  split at hp
  · rename_i i j
    obtain ⟨k, hk, hp⟩ := Option.map_eq_some_iff.mp hp
    subst hp
    have e1 := r1.int
    have e2 := r2.int
    subst e1 e2
    obtain ⟨h1, h2⟩ := hc i j k hk
    exact ⟨_, ho, fun Q q => ⟨i, j, rfl, rfl, h1, by rw [h2]; exact q _ H G (.refl sub) (Den.int k)⟩⟩
  · cases hp
theorem p2_int0 {f : Value → Value → Sem Value} {g : Int → Int → V} {c : Int → Int → Option Int} (ho : OpR X f (rI0 g)) (hc : ∀ i j k, c i j = some k → g i j = .int k) : P2 X cm f (pIntI c) := by
  intro d1 d2 b1 b2 out v1 v2 H G r1 r2 sub hp
  unfold pIntI at hp
  split at hp
  · rename_i i j
    obtain ⟨k, hk, hp⟩ := Option.map_eq_some_iff.mp hp
    subst hp
    have e1 := r1.int
    have e2 := r2.int
    subst e1 e2
    have h2 := hc i j k hk
    exact ⟨_, ho, fun Q q => ⟨i, j, rfl, rfl, by rw [h2]; exact q _ H G (.refl sub) (Den.int k)⟩⟩
  · cases hp
theorem p2_sub : P2 X cm (binaryOp .Sub) pSub := p2_int0 op_sub fun i j k h => by cases h; rfl
theorem p2_mod : P2 X cm (binaryOp .Mod) pMod := p2_int op_mod fun i j k h => by
  split at h
  · rename_i hj
    cases h
    exact ⟨hj, rfl⟩
  · cases h
theorem log2_of {i : Int} {n : Nat} (h : i.natAbs < 2 ^ n) (h0 : 0 < n) : i.natAbs.log2 < n := PySem.Flt.log2_lt_of h0 h
theorem p2_div : P2 X cm (binaryOp .FloorDiv) pDiv := p2_int op_fdivW fun i j k h => by
  split at h
  · rename_i hj
    cases h
    exact ⟨⟨hj.1, Nat.lt_of_lt_of_le (log2_of (n := 8999) (by rw [← DIVB_eq]; exact hj.2) (by decide)) (by decide)⟩, rfl⟩
  · cases h
theorem p2_pow : P2 X cm (binaryOp .Pow) pPow := p2_int op_pow fun i j k h => by
  split at h
  · rename_i hj
    cases h
    exact ⟨hj, rfl⟩
  · cases h
theorem p2_shr : P2 X cm (binaryOp .RShift) pShr := p2_int op_shr fun i j k h => by
  split at h
  · rename_i hj
    cases h
    exact ⟨hj, rfl⟩
  · cases h
theorem p2_shl : P2 X cm (binaryOp .LShift) pShl := p2_int op_shlW fun i j k h => by
  split at h
  · rename_i hj
    cases h
    refine ⟨⟨hj.1, ?_⟩, rfl⟩
    have h2 := log2_of (n := 400000) (by rw [← BIG_eq]; exact hj.2.2) (by decide)
    have h3 : Builtin.Int.intBits i ≤ i.natAbs.log2 + 1 := by
      unfold Builtin.Int.intBits
      split <;> omega
    have h4 := hj.2.1
    have e : ((2 : Int) ^ 27) = 134217728 := by decide
    rw [e]
    omega
  · cases h
theorem p2_mul : P2 X cm (binaryOp .Mult) pMul := by
  intro d1 d2 b1 b2 out v1 v2 H G r1 r2 sub hp
  unfold pMul at hp
  split at hp
  · rename_i i j
    split at hp
    · rename_i hb
      cases hp
      have e1 := r1.int
      have e2 := r2.int
      subst e1 e2
      exact ⟨_, op_mulW, fun Q q => ⟨i, j, rfl, rfl, wide_mul (a := 400000) (b := 400000) (by rw [← BIG_eq]; exact hb.1) (by rw [← BIG_eq]; exact hb.2) (by decide) (by decide) (by decide), q _ H G (.refl sub) (Den.int _)⟩⟩
    · cases hp
  · cases hp
theorem lim_ok {n : Nat} (h : n ≤ LIM) : n ≤ sizeLine := Nat.le_trans h (by decide)
/-- list + list, any two lists that are read -/
def rCatS (K : PySem.W.Frag) : R2 := fun x y H Q => ∃ l b xs zs, x = .ref l ∧ y = .ref b ∧ SqL K H l xs ∧ SqL K H b zs ∧ xs.length + zs.length ≤ sizeLine ∧ ∀ p, H p = none → Q (.ref p) (upd H p (.lst (xs ++ zs)))
end
end Pyl
end
section
set_option Elab.async false
set_option linter.all false
set_option maxRecDepth 100000
set_option maxHeartbeats 2000000
namespace Pyl
open PySem L2
section
variable {X : Cx} {cm : Nat → Addr} {e a b c : Expr} {f fa fb fc : EF} {σ : L2.St} {H G : Hp} {env : Sl} {pos : Pos}

theorem op_catS : OpR X (binaryOp .Add) (rCatS X.K) := by
  intro pins s σ H x y v u Q I rx ry h
  obtain ⟨l, b, xs, zs, rfl, rfl, hH, hB, hz, q⟩ := h
  cases rx
  cases ry
  obtain ⟨its, r, ⟨⟨cls, dd, data, sl⟩, n, ho, hc, hd, hdat⟩, z⟩ := I.list hH
  obtain ⟨its2, r2, ⟨⟨cls2, dd2, data2, sl2⟩, n2, ho2, hc2, hd2, hdat2⟩, z2⟩ := I.list hB
  simp only at hc hd hdat hc2 hd2 hdat2
  subst hc hdat hc2 hdat2
  have l1 := r.length
  have l2 := r2.length
  refine PySem.concat_meets ⟨_, ho, rfl⟩ ⟨_, ho2, rfl⟩ PySem.noFill_list_add PySem.seq_list_add PySem.F.slot_list_add PySem.F.entry_list_add (PySem.F.args_list_add_2 _ _) (PyProof.Rows.list_addW l b its.toArray its2.toArray n n2 dd dd2 sl sl2 (by rw [List.size_toArray, List.size_toArray]; omega)) ⟨ho, ho2, ?_⟩
  have ea : its.toArray ++ its2.toArray = (its ++ its2).toArray := by simp
  rw [ea]
  exact ⟨.ref _, _, I.lnew (t' := s.toks) (r.append r2) (by rw [List.length_append]; omega), rfl, q _ I.fresh⟩
theorem p2_add : P2 X cm (binaryOp .Add) pAdd := by
  intro d1 d2 b1 b2 out v1 v2 H G r1 r2 sub hp
  unfold pAdd at hp
  split at hp
  · cases hp
    have e1 := r1.int
    have e2 := r2.int
    subst e1 e2
    exact ⟨_, op_add, fun Q q => ⟨_, _, rfl, rfl, q _ H G (.refl sub) (Den.int _)⟩⟩
  · rename_i as bs
    split at hp
    · rename_i hl
      cases hp
      obtain ⟨l1, vs1, rfl, s1, n1⟩ := r1.lst sub
      obtain ⟨l2, vs2, rfl, s2, n2⟩ := r2.lst sub
      refine ⟨_, op_catS, fun Q q => ⟨l1, l2, vs1, vs2, rfl, rfl, s1, s2, ?_, fun p hp => ?_⟩⟩
      · rw [n1.length, n2.length]
        exact lim_ok hl
      · exact q _ _ _ (.hide sub hp) ⟨p, _, rfl, hp, upd_same, sub.back hp, n1.append n2⟩
    · cases hp
  · rename_i as bs
    split at hp
    · rename_i hl
      cases hp
      obtain ⟨l1, vs1, rfl, s1, g1, n1⟩ := r1.tup sub
      obtain ⟨l2, vs2, rfl, s2, g2, n2⟩ := r2.tup sub
      refine ⟨_, op_catA, fun Q q => ⟨l1, l2, vs1, vs2, rfl, rfl, s1, s2, ?_, fun h0 => ?_, fun h0 h1 => ?_, fun h0 h1 p hp => ?_⟩⟩
      · rw [n1.length, n2.length]
        exact lim_ok hl
      · subst h0
        cases n1
        exact q _ _ _ (.refl sub) (Den.tup g2 n2)
      · subst h1
        cases n2
        exact q _ _ _ (.refl sub) (by rw [List.append_nil]; exact Den.tup g1 n1)
      · have n := sub.back hp
        exact q _ _ _ (.new sub hp) (Den.tup (SqT.of upd_same) ((n1.append n2).mono (.new n)))
    · cases hp
  · rename_i x y
    split at hp
    · rename_i hl
      cases hp
      have e1 := r1.str
      have e2 := r2.str
      subst e1 e2
      exact ⟨_, op_add_str, fun Q q => ⟨_, _, rfl, rfl, lim_ok hl, q _ H G (.refl sub) (Den.str _)⟩⟩
    · cases hp
  · cases hp

/-! comparisons -/
theorem p2_cmp {f : Value → Value → Sem Value} {g : Int → Int → Bool} (ho : OpR X f (rI0 fun i j => .bl (g i j))) : P2 X cm f (pCmp g) := by
  intro d1 d2 b1 b2 out v1 v2 H G r1 r2 sub hp
  unfold pCmp at hp
  split at hp
  · cases hp
    have e1 := r1.int
    have e2 := r2.int
    subst e1 e2
    exact ⟨_, ho, fun Q q => ⟨_, _, rfl, rfl, q _ H G (.refl sub) (Den.bl _)⟩⟩
  · cases hp
theorem p2_lt : P2 X cm (compareOp .Lt) pLt := p2_cmp op_lt
theorem p2_le : P2 X cm (compareOp .LtE) pLe := p2_cmp op_le
theorem p2_gt : P2 X cm (compareOp .Gt) pGt := p2_cmp op_gt
theorem p2_ge : P2 X cm (compareOp .GtE) pGe := p2_cmp op_ge
section
variable {K : PySem.W.Frag}
mutual
theorem Den.dp (s : Exx G H) : ∀ {d : Dt} {v : V} {p : PyData}, Den K cm G v d → d.py = some p → Dp K H v p
  | .non, _, _, h, e => by
    cases h
    unfold Dt.py at e
    cases e
    exact .non
  | .bl b, _, _, h, e => by
    cases h
    unfold Dt.py at e
    cases e
    exact .bl b
  | .int i, _, _, h, e => by
    cases h
    unfold Dt.py at e
    cases e
    exact .int i
  | .str x, _, _, h, e => by
    cases h
    unfold Dt.py at e
    cases e
    exact .str x
  | .lst ds, _, _, h, e => by
    cases h with
    | lst h1 h2 =>
      unfold Dt.py at e
      obtain ⟨ps, e1, e2⟩ := Option.map_eq_some_iff.mp e
      subst e2
      exact .lst (s.sqL h1) (DenL.dp s h2 e1)
  | .tup ds, _, _, h, e => by
    cases h with
    | tup h1 h2 =>
      unfold Dt.py at e
      obtain ⟨ps, e1, e2⟩ := Option.map_eq_some_iff.mp e
      subst e2
      exact .tup (s.sqT h1) (DenL.dp s h2 e1)
  | .obj _ _, _, _, h, e => by
    unfold Dt.py at e
    cases e
theorem DenL.dp (s : Exx G H) : ∀ {ds : List Dt} {vs : List V} {ps : List PyData}, DenL K cm G vs ds → Dt.pyL ds = some ps → DpAll K H vs ps
  | [], _, _, h, e => by
    cases h
    unfold Dt.pyL at e
    cases e
    exact .nil
  | d :: ds, _, _, h, e => by
    cases h with
    | cons h1 h2 =>
      unfold Dt.pyL at e
      obtain ⟨p, e1, e⟩ := Option.bind_eq_some_iff.mp e
      obtain ⟨ps, e2, e⟩ := Option.bind_eq_some_iff.mp e
      cases e
      exact .cons (Den.dp s h1 e1) (DenL.dp s h2 e2)
end
theorem VR.dp {d : Dt} {v : V} {b : Bool} {p : PyData} (s : Exx G H) (h : VR K cm H G v d b) (e : d.py = some p) : Dp K H v p := by
  cases b with
  | false => exact h.den.dp s e
  | true =>
    obtain ⟨l, vs, ds, h1, h2, h3, h4⟩ := h.1 rfl
    subst h1 h2
    unfold Dt.py at e
    obtain ⟨ps, e1, e2⟩ := Option.map_eq_some_iff.mp e
    subst e2
    exact .lst h3 (h4.dp s e1)
end
theorem eqD_some {d1 d2 : Dt} {t : Bool} (h : eqD d1 d2 = some t) : ∃ p q, d1.py = some p ∧ d2.py = some q ∧ SeqAt.shaped p = true ∧ SeqAt.shaped q = true ∧ t = PyData.eqv p q := by
  unfold eqD at h
  obtain ⟨p, e1, h⟩ := Option.bind_eq_some_iff.mp h
  obtain ⟨q, e2, h⟩ := Option.bind_eq_some_iff.mp h
  split at h
  · rename_i hs
    cases h
    rw [Bool.and_eq_true] at hs
    exact ⟨p, q, e1, e2, hs.1, hs.2, rfl⟩
  · cases h
theorem p2_eq (hu : X.A.units + 64 < cLine) : P2 X cm (compareOp .Eq) pEq := by
  intro d1 d2 b1 b2 out v1 v2 H G r1 r2 sub hp
  obtain ⟨t, ht, hp⟩ := Option.map_eq_some_iff.mp hp
  subst hp
  obtain ⟨p, q', e1, e2, s1, s2, rfl⟩ := eqD_some ht
  exact ⟨_, op_eqD hu, fun Q q => ⟨p, q', r1.dp sub e1, r2.dp sub e2, s1, s2, q _ H G (.refl sub) (Den.bl _)⟩⟩
theorem p2_ne (hu : X.A.units + 64 < cLine) : P2 X cm (compareOp .NotEq) pNe := by
  intro d1 d2 b1 b2 out v1 v2 H G r1 r2 sub hp
  obtain ⟨t, ht, hp⟩ := Option.map_eq_some_iff.mp hp
  subst hp
  obtain ⟨p, q', e1, e2, s1, s2, rfl⟩ := eqD_some ht
  exact ⟨_, op_neD hu, fun Q q => ⟨p, q', r1.dp sub e1, r2.dp sub e2, s1, s2, q _ H G (.refl sub) (Den.bl _)⟩⟩
theorem VR.isNon {K : PySem.W.Frag} {d : Dt} {v : V} {t : Bool} (h : VR K cm H G v d t) : decide (v = .non) = d.isNon := by
  cases t with
  | true =>
    obtain ⟨l, vs, ds, h1, h2, h3, h4⟩ := h.1 rfl
    subst h1 h2
    rfl
  | false =>
    have q := h.2 rfl
    cases q <;> rfl
theorem je_isN {j pos'} (ha : JE X cm a fa) : JE X cm (.Compare a [.Is] [.Constant .none j pos'] pos) (e1 pIsN fa) := by
  refine ⟨fun env r σ H G hf rel Q q => ?_⟩
  obtain ⟨ra, h1, hf⟩ := Option.bind_eq_some_iff.mp hf
  cases hf
  refine to_e (pe_cmp (pc_isN pe_w) rfl) (ha.pub h1 rel fun v H1 G1 g1 vr => ?_)
  rw [vr.isNon]
  exact q _ H1 G1 g1 (Den.bl _)
theorem je_notN {j pos'} (ha : JE X cm a fa) : JE X cm (.Compare a [.IsNot] [.Constant .none j pos'] pos) (e1 pNotN fa) := by
  refine ⟨fun env r σ H G hf rel Q q => ?_⟩
  obtain ⟨ra, h1, hf⟩ := Option.bind_eq_some_iff.mp hf
  cases hf
  refine to_e (pe_cmp (pc_notN pe_w) rfl) (ha.pub h1 rel fun v H1 G1 g1 vr => ?_)
  rw [vr.isNon]
  exact q _ H1 G1 g1 (Den.bl _)
theorem je_neg (ha : JE X cm a fa) : JE X cm (.UnaryOp .USub a pos) (e1 pNeg fa) := by
  refine ⟨fun env r σ H G hf rel Q q => ?_⟩
  obtain ⟨ra, h1, hf⟩ := Option.bind_eq_some_iff.mp hf
  refine to_e (pe_un un_neg pe_w) (ha.pub h1 rel fun v H1 G1 g1 vr => ?_)
  unfold pNeg at hf
  split at hf
  · rename_i i hi
    cases hf
    rw [hi] at vr
    have e := vr.int
    subst e
    exact ⟨i, rfl, q _ H1 G1 g1 (Den.int _)⟩
  · cases hf

/-! subscripts -/
theorem atL_of {α : Type} {ds : List α} {i : Int} {d : α} (h : atL ds i = some d) : ∃ j : Nat, ds[j]? = some d ∧ ∀ {β : Type} (vs : List β) (v : β), vs.length = ds.length → vs[j]? = some v → atI vs i = some v := by
  unfold atL at h
  split at h
  · rename_i h0
    have hlt : i.toNat < ds.length := (List.getElem?_eq_some_iff.mp h).1
    refine ⟨i.toNat, h, fun vs v hl hv => ?_⟩
    unfold atI ixN
    rw [if_pos h0, if_pos (by omega)]
    exact hv
  · rename_i h0
    split at h
    · rename_i h1
      refine ⟨(i + ds.length).toNat, h, fun vs v hl hv => ?_⟩
      unfold atI ixN
      rw [if_neg h0, if_pos (by omega), hl]
      exact hv
    · cases h
theorem je_ix (ha : JE X cm a fa) (hb : JE X cm b fb) (hs : PlainIx b := by exact fun _ _ => rfl) : JE X cm (.Subscript a b pos) (e2 pIx fa fb) := by
  refine ⟨fun env r σ H G hf rel Q q => ?_⟩
  obtain ⟨ra, h1, hf⟩ := Option.bind_eq_some_iff.mp hf
  obtain ⟨rb, h2, hf⟩ := Option.bind_eq_some_iff.mp hf
  refine to_e (pe_ix ix_seq pe_w pe_w hs) ?_
  refine ha.pub h1 rel fun v H1 G1 g1 vr => hb.pub h2 (rel.grow g1) fun w H2 G2 g2 wr => ?_
  have vr2 := vr.grow g2
  unfold pIx at hf
  split at hf
  · rename_i ds i e1 e2
    obtain ⟨d, hd, hf⟩ := Option.map_eq_some_iff.mp hf
    subst hf
    rw [e1] at vr2
    rw [e2] at wr
    have e := wr.int
    subst e
    obtain ⟨l, vs, rfl, s1, n1⟩ := vr2.lst g2.sub
    obtain ⟨j, hj, k⟩ := atL_of hd
    obtain ⟨u, hu, du⟩ := n1.get hj
    exact .inl ⟨l, vs, i, u, rfl, rfl, s1, k vs u n1.length hu, q _ H2 G2 (g1.trans g2) du⟩
  · rename_i ds i e1 e2
    obtain ⟨d, hd, hf⟩ := Option.map_eq_some_iff.mp hf
    subst hf
    rw [e1] at vr2
    rw [e2] at wr
    have e := wr.int
    subst e
    obtain ⟨l, vs, rfl, s1, _, n1⟩ := vr2.tup g2.sub
    obtain ⟨j, hj, k⟩ := atL_of hd
    obtain ⟨u, hu, du⟩ := n1.get hj
    exact .inr (.inl ⟨l, vs, i, u, rfl, rfl, s1, k vs u n1.length hu, q _ H2 G2 (g1.trans g2) du⟩)
  · rename_i z i e1 e2
    split at hf
    · rename_i hz
      obtain ⟨d, hd, hf⟩ := Option.map_eq_some_iff.mp hf
      subst hf
      rw [e1] at vr2
      rw [e2] at wr
      have e := wr.int
      have e' := vr2.str
      subst e e'
      obtain ⟨j, hj, k⟩ := atL_of hd
      exact .inr (.inr ⟨z, i, d, rfl, rfl, lim_ok hz, k _ _ rfl hj, q _ H2 G2 (g1.trans g2) (Den.str _)⟩)
    · cases hf
  · cases hf
def JO (X : Cx) (cm : Nat → Addr) (e : Option Expr) (f : OF) : Prop := ∀ (env : Sl) (r : Option Int) (σ : L2.St) (H G : Hp), f env = some r → Rel X.K cm σ H G env → ∀ Q : Option Int → Hp → Prop, (∀ H' G', Grow H G H' G' → Q r H') →
  ∀ pins s, Inv X pins σ H s → wpAny (model X.prog X.w) X.A (evalPart e X.env) (fun u s' => ∃ o H', Inv X pins σ H' s' ∧ IsPart u o ∧ Q o H') X.xe s
theorem jo_none : JO X cm none oNone := fun env r σ H G hf rel Q q pins s I => by
  cases hf
  exact po_none.run pins s σ H Q I (q H G (.refl rel.sub))
theorem jo_some (ha : JE X cm a fa) : JO X cm (some a) (oSome fa) := fun env r σ H G hf rel Q q pins s I => by
  unfold oSome at hf
  split at hf
  · rename_i i h1
    cases hf
    refine (po_some pe_w).run pins s σ H Q I (ha.pub h1 rel fun v H1 G1 g1 vr => ?_)
    have e := vr.int
    subst e
    exact ⟨i, rfl, q H1 G1 g1⟩
  · cases hf
def wpO (X : Cx) (e : Option Expr) : TO := fun σ H Q => ∀ pins s, Inv X pins σ H s → wpAny (model X.prog X.w) X.A (evalPart e X.env) (fun u s' => ∃ o H', Inv X pins σ H' s' ∧ IsPart u o ∧ Q o H') X.xe s
theorem po_w {o : Option Expr} : PO X o (wpO X o) := ⟨fun pins s σ H Q I h => h pins s I⟩
theorem sIx_eq (n d : Nat) (o : Option Int) : HT.sIx n d o = sIx n d o := by
  cases o with
  | none => rfl
  | some v =>
    show (if v < 0 then (v + (n : Int)).toNat else min v.toNat n) = if 0 ≤ v then min v.toNat n else (v + n).toNat
    by_cases h : v < 0
    · rw [if_pos h, if_neg (by omega)]
    · rw [if_neg h, if_pos (by omega)]
theorem DenL.cut {K : PySem.W.Frag} {vs : List V} {ds : List Dt} (h : DenL K cm G vs ds) (lo hi : Option Int) : DenL K cm G (cutV vs lo hi) (cutD ds lo hi) := by
  unfold cutV cutD
  rw [h.length, sIx_eq, sIx_eq]
  exact (h.drop _).take _
theorem cutD_all {ds : List Dt} {lo hi : Option Int} (h : sIx ds.length 0 lo = 0 ∧ sIx ds.length ds.length hi = ds.length) : cutD ds lo hi = ds := by
  unfold cutD
  rw [h.1, h.2, List.drop_zero, Nat.sub_zero, List.take_length]
theorem je_slice {lo hi : Option Expr} {ol oh : OF} {p2 : Pos} (ha : JE X cm a fa) (hl : JO X cm lo ol) (hh : JO X cm hi oh) : JE X cm (.Subscript a (.Slice lo hi none p2) pos) (eSlice fa ol oh) := by
  refine ⟨fun env r σ H G hf rel Q q => ?_⟩
  obtain ⟨ra, h1, hf⟩ := Option.bind_eq_some_iff.mp hf
  obtain ⟨il, h2, hf⟩ := Option.bind_eq_some_iff.mp hf
  obtain ⟨ih, h3, hf⟩ := Option.bind_eq_some_iff.mp hf
  refine to_e (pe_slice (SlR.or sl_list sl_tupA) pe_w po_w po_w) ?_
  refine ha.pub h1 rel fun v H1 G1 g1 vr => hl env il σ H1 G1 h2 (rel.grow g1) _ fun H2 G2 g2 => hh env ih σ H2 G2 h3 ((rel.grow g1).grow g2) _ fun H3 G3 g3 => ?_
  have vr3 := (vr.grow g2).grow g3
  have g := (g1.trans g2).trans g3
  split at hf
  · rename_i ds e1
    cases hf
    rw [e1] at vr3
    obtain ⟨l, vs, rfl, s1, n1⟩ := vr3.lst g3.sub
    refine .inl ⟨l, vs, rfl, s1, fun p hp => ?_⟩
    exact q _ _ _ (g.trans (.hide g3.sub hp)) ⟨p, _, rfl, g.hx.back hp, upd_same, g3.sub.back hp, n1.cut _ _⟩
  · rename_i ds e1
    cases hf
    rw [e1] at vr3
    obtain ⟨l, vs, rfl, s1, t1, n1⟩ := vr3.tup g3.sub
    refine .inr ⟨l, vs, rfl, s1, fun hw => ?_, fun hw p hp => ?_⟩
    · rw [n1.length, sIx_eq, sIx_eq] at hw
      refine q _ _ _ g ?_
      show Den _ _ _ _ _
      rw [cutD_all hw]
      exact .tup t1 n1
    · have n := g3.sub.back hp
      exact q _ _ _ (g.trans (.new g3.sub hp)) (Den.tup (SqT.of upd_same) ((n1.cut _ _).mono (.new n)))
  · cases hf
end
end Pyl
end
section
set_option Elab.async false
set_option linter.all false
set_option maxRecDepth 100000
set_option maxHeartbeats 2000000
namespace Pyl
open PySem L2
section
variable {X : Cx} {cm : Nat → Addr} {e a b c : Expr} {f fa fb fc : EF} {σ : L2.St} {H G : Hp} {env : Sl} {pos p : Pos} {x : Str} {id T : String}

/-! built-in functions of one argument, of two -/
def P1 (X : Cx) (cm : Nat → Addr) (f : Value) (pf : Dt → Option R) : Prop := ∃ r : List V → Hp → VK → Prop, CallR X f r ∧
  ∀ (d : Dt) (b : Bool) (out : R) (v : V) (H G : Hp), VR X.K cm H G v d b → Exx G H → pf d = some out → ∀ Q : VK, (∀ v H' G', Grow H G H' G' → RR X.K cm H H' G' v out → Q v H') → r [v] H Q
theorem je_b1 {pf : Dt → Option R} (ok : P1 X cm (.builtin id) pf) (hg : Gl X x) (hm : X.mg x = none) (hv : bootBuiltins x = some (.builtin id)) (ha : JE X cm a fa) (hn : x ≠ "__name__" := by decide) (hdb : (x == ("__debug__" : Str)) = false := by decide)
    (he : starEach [a] X.env = (false, eval a X.env) :: starEach [] X.env := by rfl) (hpl : (backTo pos (starEach [] X.env)).any (·.1) = false := by rfl) : JE X cm (.Call (.Name x p) [a] [] pos) (e1 pf fa) := by
  refine ⟨fun env r σ H G hf rel Q q => ?_⟩
  obtain ⟨ra, h1, hf⟩ := Option.bind_eq_some_iff.mp hf
  obtain ⟨rr, hc, hr⟩ := ok
  refine to_e (pe_callB hc hg hm hv (pa_cons pe_w pa_nil he) hn hdb he hpl) (ha.pub h1 rel fun v H1 G1 g1 vr => ?_)
  exact hr _ _ _ v H1 G1 vr g1.sub hf Q fun v' H2 G2 g2 rr2 => q v' H2 G2 (g1.trans g2) (rr2.hx g1.hx)
theorem je_ty1 {pf : Dt → Option R} (ok : P1 X cm (.type T) pf) (hg : Gl X x) (hm : X.mg x = none) (hv : bootBuiltins x = some (.type T)) (ha : JE X cm a fa) (hn : x ≠ "__name__" := by decide) (hdb : (x == ("__debug__" : Str)) = false := by decide)
    (he : starEach [a] X.env = (false, eval a X.env) :: starEach [] X.env := by rfl) (hpl : (backTo pos (starEach [] X.env)).any (·.1) = false := by rfl) : JE X cm (.Call (.Name x p) [a] [] pos) (e1 pf fa) := by
  refine ⟨fun env r σ H G hf rel Q q => ?_⟩
  obtain ⟨ra, h1, hf⟩ := Option.bind_eq_some_iff.mp hf
  obtain ⟨rr, hc, hr⟩ := ok
  refine to_e (pe_callTy hc hg hm hv (pa_cons pe_w pa_nil he) hn hdb he hpl) (ha.pub h1 rel fun v H1 G1 g1 vr => ?_)
  exact hr _ _ _ v H1 G1 vr g1.sub hf Q fun v' H2 G2 g2 rr2 => q v' H2 G2 (g1.trans g2) (rr2.hx g1.hx)
def P2c (X : Cx) (cm : Nat → Addr) (f : Value) (pf : Dt → Dt → Option R) : Prop := ∃ r : List V → Hp → VK → Prop, CallR X f r ∧
  ∀ (d d2 : Dt) (b b2 : Bool) (out : R) (v v2 : V) (H G : Hp), VR X.K cm H G v d b → VR X.K cm H G v2 d2 b2 → Exx G H → pf d d2 = some out → ∀ Q : VK, (∀ v H' G', Grow H G H' G' → RR X.K cm H H' G' v out → Q v H') → r [v, v2] H Q
theorem je_b2 {pf : Dt → Dt → Option R} (ok : P2c X cm (.builtin id) pf) (hg : Gl X x) (hm : X.mg x = none) (hv : bootBuiltins x = some (.builtin id)) (ha : JE X cm a fa) (hb : JE X cm b fb) (hn : x ≠ "__name__" := by decide) (hdb : (x == ("__debug__" : Str)) = false := by decide)
    (h0 : starEach [b] X.env = (false, eval b X.env) :: starEach [] X.env := by rfl) (he : starEach [a, b] X.env = (false, eval a X.env) :: starEach [b] X.env := by rfl) (hpl : (backTo pos (starEach [b] X.env)).any (·.1) = false := by rfl) : JE X cm (.Call (.Name x p) [a, b] [] pos) (e2 pf fa fb) := by
  refine ⟨fun env r σ H G hf rel Q q => ?_⟩
  obtain ⟨ra, h1, hf⟩ := Option.bind_eq_some_iff.mp hf
  obtain ⟨rb, h2, hf⟩ := Option.bind_eq_some_iff.mp hf
  obtain ⟨rr, hc, hr⟩ := ok
  refine to_e (pe_callB hc hg hm hv (pa_cons pe_w (pa_cons pe_w pa_nil h0) he) hn hdb he hpl) (ha.pub h1 rel fun v H1 G1 g1 vr => hb.pub h2 (rel.grow g1) fun w H2 G2 g2 wr => ?_)
  exact hr _ _ _ _ _ v w H2 G2 (vr.grow g2) wr g2.sub hf Q fun v' H3 G3 g3 rr3 => q v' H3 G3 ((g1.trans g2).trans g3) (rr3.hx (g1.trans g2).hx)

theorem p1_len : P1 X cm (.builtin "len") pLen := ⟨_, call_len, fun d b out v H G vr sub hp Q q => by
  unfold pLen at hp
  split at hp
  · cases hp
    obtain ⟨l, vs, rfl, s1, n1⟩ := vr.lst sub
    exact ⟨_, vs.length, rfl, .inl ⟨vs, s1, rfl⟩, by rw [n1.length]; exact q _ _ _ (.refl sub) (Den.int _)⟩
  · cases hp
    obtain ⟨l, vs, rfl, s1, _, n1⟩ := vr.tup sub
    exact ⟨_, vs.length, rfl, .inr ⟨vs, s1, rfl⟩, by rw [n1.length]; exact q _ _ _ (.refl sub) (Den.int _)⟩
  · cases hp⟩
theorem p1_int : P1 X cm (.type "int") pInt := ⟨_, call_int1, fun d b out v H G vr sub hp Q q => by
  unfold pInt at hp
  split at hp
  · cases hp
    have e := vr.int
    subst e
    exact .inl ⟨_, rfl, q _ _ _ (.refl sub) (Den.int _)⟩
  · cases hp
    have e := vr.bl
    subst e
    exact .inr ⟨_, rfl, q _ _ _ (.refl sub) (Den.int _)⟩
  · cases hp⟩
theorem p1_abs : P1 X cm (.builtin "abs") pAbs := ⟨_, call_abs, fun d b out v H G vr sub hp Q q => by
  unfold pAbs at hp
  split at hp
  · cases hp
    have e := vr.int
    subst e
    exact ⟨_, rfl, q _ _ _ (.refl sub) (Den.int _)⟩
  · cases hp⟩
theorem DenL.ints {K : PySem.W.Frag} : ∀ {ds : List Dt} {vs : List V} {ns : List Int}, DenL K cm G vs ds → intsOf ds = some ns → vs = ns.map V.int
  | [], _, _, h, e => by
    cases h
    unfold intsOf at e
    cases e
    rfl
  | .int i :: ds, _, _, h, e => by
    cases h with
    | cons h1 h2 =>
      unfold intsOf at e
      obtain ⟨ms, e1, e2⟩ := Option.map_eq_some_iff.mp e
      subst e2
      cases h1
      rw [List.map_cons, DenL.ints h2 e1]
  | .non :: _, _, _, _, e => by simp [intsOf] at e
  | .bl _ :: _, _, _, _, e => by simp [intsOf] at e
  | .str _ :: _, _, _, _, e => by simp [intsOf] at e
  | .lst _ :: _, _, _, _, e => by simp [intsOf] at e
  | .tup _ :: _, _, _, _, e => by simp [intsOf] at e
  | .obj _ _ :: _, _, _, _, e => by simp [intsOf] at e
theorem p1_sum (hc : X.calm = true) : P1 X cm (.builtin "sum") pSum := ⟨_, cr_sum hc, fun d b out v H G vr sub hp Q q => by
  unfold pSum at hp
  split at hp
  · obtain ⟨ns, h1, hp⟩ := Option.map_eq_some_iff.mp hp
    subst hp
    obtain ⟨l, vs, rfl, s1, n1⟩ := vr.lst sub
    have e := n1.ints h1
    subst e
    exact ⟨l, ns, rfl, s1, q _ _ _ (.refl sub) (Den.int _)⟩
  · cases hp⟩
theorem p2c_max (hc : X.calm = true) : P2c X cm (.builtin "max") pMax2 := ⟨_, call_max2 hc, fun d d2 b b2 out v v2 H G vr vr2 sub hp Q q => by
  unfold pMax2 at hp
  split at hp
  · cases hp
    have e := vr.int
    have e2 := vr2.int
    subst e e2
    exact ⟨_, _, rfl, q _ _ _ (.refl sub) (Den.int _)⟩
  · cases hp⟩
theorem p2c_min (hc : X.calm = true) : P2c X cm (.builtin "min") pMin2 := ⟨_, call_min2 hc, fun d d2 b b2 out v v2 H G vr vr2 sub hp Q q => by
  unfold pMin2 at hp
  split at hp
  · cases hp
    have e := vr.int
    have e2 := vr2.int
    subst e e2
    exact ⟨_, _, rfl, q _ _ _ (.refl sub) (Den.int _)⟩
  · cases hp⟩
theorem p1_list : P1 X cm (.type "list") pList := ⟨_, call_list_of, fun d b out v H G vr sub hp Q q => by
  unfold pList at hp
  split at hp
  · cases hp
    obtain ⟨l, vs, rfl, s1, n1⟩ := vr.lst sub
    exact ⟨l, vs, rfl, .inl s1, fun m hm => q _ _ _ (.hide sub hm) ⟨m, _, rfl, hm, upd_same, sub.back hm, n1⟩⟩
  · cases hp
    obtain ⟨l, vs, rfl, s1, _, n1⟩ := vr.tup sub
    exact ⟨l, vs, rfl, .inr s1, fun m hm => q _ _ _ (.hide sub hm) ⟨m, _, rfl, hm, upd_same, sub.back hm, n1⟩⟩
  · cases hp⟩
theorem p1_tuple : P1 X cm (.type "tuple") pTuple := ⟨_, call_tuple_of, fun d b out v H G vr sub hp Q q => by
  unfold pTuple at hp
  split at hp
  · cases hp
    obtain ⟨l, vs, rfl, s1, n1⟩ := vr.lst sub
    exact ⟨l, vs, rfl, .inl ⟨s1, fun m hm => q _ _ _ (.new sub hm) (Den.tup (SqT.of upd_same) (n1.mono (.new (sub.back hm))))⟩⟩
  · cases hp
    obtain ⟨l, vs, rfl, s1, t1, n1⟩ := vr.tup sub
    exact ⟨l, vs, rfl, .inr ⟨s1, q _ _ _ (.refl sub) (Den.tup t1 n1)⟩⟩
  · cases hp⟩

/-! isinstance(x, T) -/
theorem TyX.sqL {K : PySem.W.Frag} {l : Addr} {vs : List V} (h : SqL K H l vs) : TyX K H (.ref l) (.type "list") := by
  rcases h with (h | ⟨o, h⟩) | ⟨o, its, n, hk, hc, _⟩
  · exact .base (.lst h)
  · exact .base (.frz h)
  · exact .kList hk hc
theorem TyX.sqT {K : PySem.W.Frag} {l : Addr} {vs : List V} (h : SqT K H l vs) : TyX K H (.ref l) (.type "tuple") := by
  rcases h with (h | ⟨o, h⟩) | ⟨o, its, n, hk, hc, _⟩
  · exact .base (.tup h)
  · exact .fTuple h
  · exact .kTuple hk hc
theorem VR.tyX {K : PySem.W.Frag} {d : Dt} {v : V} {b : Bool} {t : String} (sub : Exx G H) (h : VR K cm H G v d b) (e : d.ty = some t) : TyX K H v (.type t) := by
  cases d with
  | non => cases e; have q := h.non; subst q; exact .base .non
  | bl x => cases e; have q := h.bl; subst q; exact .base (.bl x)
  | int i => cases e; have q := h.int; subst q; exact .base (.int i)
  | str z => cases e; have q := h.str; subst q; exact .base (.str z)
  | lst ds =>
    cases e
    obtain ⟨l, vs, rfl, s1, n1⟩ := h.lst sub
    exact TyX.sqL s1
  | tup ds =>
    cases e
    obtain ⟨l, vs, rfl, s1, _, n1⟩ := h.tup sub
    exact TyX.sqT s1
  | obj c fs => cases e
  | exn _ _ _ => cases e
theorem je_isi {p2 : Pos} (hk : ∀ t ∈ (["NoneType", "bool", "int", "str", "list", "tuple"] : List String), kitB t T = some (t == T || (t == "bool" && T == "int"))) (hg : Gl X "isinstance") (hm : X.mg "isinstance" = none) (hg2 : Gl X x) (hm2 : X.mg x = none)
    (hv2 : bootBuiltins x = some (.type T)) (ha : JE X cm a fa) (hn2 : x ≠ "__name__" := by decide) (hd2 : (x == ("__debug__" : Str)) = false := by decide)
    (h0 : starEach [.Name x p2] X.env = (false, eval (.Name x p2) X.env) :: starEach [] X.env := by rfl) (he : starEach [a, .Name x p2] X.env = (false, eval a X.env) :: starEach [.Name x p2] X.env := by rfl)
    (hpl : (backTo pos (starEach [.Name x p2] X.env)).any (·.1) = false := by rfl) : JE X cm (.Call (.Name "isinstance" p) [a, .Name x p2] [] pos) (e1 (pIsi T) fa) := by
  refine ⟨fun env r σ H G hf rel Q q => ?_⟩
  obtain ⟨ra, h1, hf⟩ := Option.bind_eq_some_iff.mp hf
  obtain ⟨t, ht, hf⟩ := Option.map_eq_some_iff.mp hf
  subst hf
  obtain ⟨ty, hty, ht⟩ := Option.map_eq_some_iff.mp ht
  subst ht
  refine to_e (pe_callB call_isi hg hm (by decide +kernel) (pa_cons pe_w (pa_cons (pe_bltn (v := .ty T) hg2 hm2 hv2 rfl hn2 hd2) pa_nil h0) he) (by decide) (by decide) he hpl) (ha.pub h1 rel fun v H1 G1 g1 vr => ?_)
  refine ⟨v, .ty T, .type ty, .type T, _, rfl, .ty T, vr.tyX g1.sub hty, kit_ty (hk ty ?_), q _ _ _ g1 (Den.bl _)⟩
  generalize ra.dt = d at hty
  cases d <;> cases hty <;> simp

/-! calls -/
theorem VRs.denH {K : PySem.W.Frag} (sub : Exx G H) : ∀ {vs : List V} {rs : List (Dt × Bool)}, VRs K cm H G vs rs → DenL K cm H vs (rs.map (·.1))
  | _, _, .nil => .nil
  | _, _, .cons (b := b) (d := d) h t => by
    refine .cons ?_ (VRs.denH sub t)
    cases b with
    | false => exact h.den.mono sub
    | true =>
      obtain ⟨l, vs, ds, h1, h2, h3, h4⟩ := h.1 rfl
      subst h1 h2
      exact .lst h3 (h4.mono sub)
/-- the promise of a def that keeps F -/
def spP (K : PySem.W.Frag) (cm : Nat → Addr) (F : FN) : Sp := fun vs H Q _ => ∃ (G : Hp) (ds : List Dt) (r : Dt), Exx G H ∧ DenL K cm G vs ds ∧ F ds = some r ∧ ∀ v H' G', Grow H G H' G' → Den K cm G' v r → Q v H'
/-- a def of the module that keeps F -/
structure FnC (P : Program) (w : World) (K : PySem.W.Frag) (mg : Str → Option Value) (base : Heap) (cm : Nat → Addr) (k : Nat) (x : Str) (F : FN) : Prop where
  ex : ∃ (f : Addr) (fd : FuncData) (ps : List Str), FnOk P w K mg base CX0 k f fd ps (spP K cm F) ∧ mg x = some (.ref f) ∧ PySem.W.keepIn K (.ref f) = true ∧ Binds K fd ps []
theorem Dt.scalar_den {K : PySem.W.Frag} {v : V} {d : Dt} {G' : Hp} (h : Den K cm G v d) (s : d.scalar = true) : Den K cm G' v d := by
  cases h <;> first | exact Den.non | exact Den.bl _ | exact Den.int _ | exact Den.str _ | cases s
theorem je_call {es : List Expr} {ft : AF} {F : FN} {k : Nat} (C : FnC X.prog X.w X.K X.mg X.base cm k x F) (hr : Room k X.A) (hg : Gl X x) (ha : JA X cm (e :: es) ft) (hdb : (x == ("__debug__" : Str)) = false := by decide)
    (he : starEach (e :: es) X.env = (false, eval e X.env) :: starEach es X.env := by rfl) (hpl : (backTo pos (starEach es X.env)).any (·.1) = false := by rfl) : JE X cm (.Call (.Name x p) (e :: es) [] pos) (eCall F ft) := by
  refine ⟨fun env r σ H G hf rel Q q => ?_⟩
  obtain ⟨rs, h1, hf⟩ := Option.bind_eq_some_iff.mp hf
  obtain ⟨d, h2, hf⟩ := Option.bind_eq_some_iff.mp hf
  obtain ⟨f, fd, ps, hF, hm, hk, hb⟩ := C.ex
  refine to_e (pe_call hF hr hg hm hk hb .nil pass0 pa_w hdb he hpl) (ha.run env rs σ H G h1 rel _ fun vs H1 G1 g1 vrs => ?_)
  show spP X.K cm F (vs ++ []) H1 Q E0
  rw [List.append_nil]
  by_cases hs : rs.any (·.2) = true
  · split at hf
    · cases hf
    · rename_i hn
      cases hf
      have sc : d.scalar = true := by
        cases hd : d.scalar with
        | true => rfl
        | false => exact absurd (by rw [hs, hd]; rfl) hn
      refine ⟨H1, _, d, .refl _, vrs.denH g1.sub, h2, fun v H' G' g hden => ?_⟩
      exact q v H' G1 (g1.trans ⟨g.hx, .refl _, fun _ _ _ n => n, g1.sub.trans g.hx⟩) (Dt.scalar_den hden sc)
  · have hs' : rs.any (·.2) = false := by simpa using hs
    split at hf
    · rename_i hn
      rw [hs'] at hn
      cases hn
    · cases hf
      exact ⟨G1, _, d, g1.sub, vrs.plain hs', h2, fun v H' G' g hden => q v H' G' (g1.trans g) hden⟩

/-! and, or, not; if .. else -/
theorem je_one {op} (h : JE X cm a fa) : JE X cm (.BoolOp op [a] pos) fa := ⟨fun env r σ H G hf rel Q q => to_e (pe_one pe_w) (h.run env r σ H G hf rel Q q)⟩
theorem je_and {rest : List Expr} (ha : JE X cm a fa) (hb : JE X cm (.BoolOp .And (b :: rest) pos) fb) : JE X cm (.BoolOp .And (a :: b :: rest) pos) (eAnd fa fb) := by
  refine ⟨fun env r σ H G hf rel Q q => ?_⟩
  refine to_e (pe_and pe_w pe_w) ?_
  unfold eAnd at hf
  split at hf
  · rename_i h1
    refine ha.run env _ σ H G h1 rel _ fun v H1 G1 g1 vr => ?_
    cases (show Den _ _ _ _ _ from vr)
    exact ⟨true, rfl, iteT (hb.run env r σ H1 G1 hf (rel.grow g1) Q fun v' H2 G2 g2 r2 => q v' H2 G2 (g1.trans g2) (r2.hx g1.hx))⟩
  · rename_i h1
    cases hf
    refine ha.run env _ σ H G h1 rel _ fun v H1 G1 g1 vr => ?_
    cases (show Den _ _ _ _ _ from vr)
    exact ⟨false, rfl, iteF (q _ H1 G1 g1 (Den.bl _))⟩
  · cases hf
theorem je_or {rest : List Expr} (ha : JE X cm a fa) (hb : JE X cm (.BoolOp .Or (b :: rest) pos) fb) : JE X cm (.BoolOp .Or (a :: b :: rest) pos) (eOr fa fb) := by
  refine ⟨fun env r σ H G hf rel Q q => ?_⟩
  refine to_e (pe_or pe_w pe_w) ?_
  unfold eOr at hf
  split at hf
  · rename_i h1
    cases hf
    refine ha.run env _ σ H G h1 rel _ fun v H1 G1 g1 vr => ?_
    cases (show Den _ _ _ _ _ from vr)
    exact ⟨true, rfl, iteT (q _ H1 G1 g1 (Den.bl _))⟩
  · rename_i h1
    refine ha.run env _ σ H G h1 rel _ fun v H1 G1 g1 vr => ?_
    cases (show Den _ _ _ _ _ from vr)
    exact ⟨false, rfl, iteF (hb.run env r σ H1 G1 hf (rel.grow g1) Q fun v' H2 G2 g2 r2 => q v' H2 G2 (g1.trans g2) (r2.hx g1.hx))⟩
  · cases hf
theorem je_not (ha : JE X cm a fa) : JE X cm (.UnaryOp .Not a pos) (eNot fa) := by
  refine ⟨fun env r σ H G hf rel Q q => ?_⟩
  refine to_e (pe_not pe_w) ?_
  unfold eNot at hf
  split at hf
  · rename_i b h1
    cases hf
    refine ha.run env _ σ H G h1 rel _ fun v H1 G1 g1 vr => ?_
    cases (show Den _ _ _ _ _ from vr)
    exact ⟨b, rfl, q _ H1 G1 g1 (Den.bl _)⟩
  · cases hf
/-! tests -/
structure JW (X : Cx) (cm : Nat → Addr) (e : Expr) (f : TF) : Prop where
  run : ∀ (env : Sl) (b : Bool) (σ : L2.St) (H G : Hp), f env = some b → Rel X.K cm σ H G env → ∀ Q : Bool → Hp → Prop, (∀ H' G', Grow H G H' G' → Q b H') →
    ∀ (whole : Sem Value) pins s, Inv X pins σ H s → wpAny (model X.prog X.w) X.A (isTrue e X.env whole) (TP X pins σ Q) X.xe s
variable {ta tb : TF}
theorem JW.t (h : JW X cm e ta) : JT X cm e ta := ⟨fun env b σ H G hf rel Q q pins s I => h.run env b σ H G hf rel Q q _ pins s I⟩
theorem jt_val (h : JE X cm e f) (he : ∀ whole, isTrue e X.env whole = (do let v ← whole; standAt e.pos; holding [v] (truthy v)) := by intro _; rfl) : JT X cm e (tVal f) := by
  refine ⟨fun env r σ H G hf rel Q q => ?_⟩
  refine to_t (pt_val pe_w he) ?_
  unfold tVal at hf
  split at hf
  · rename_i b h1
    cases hf
    refine h.run env _ σ H G h1 rel _ fun v H1 G1 g1 vr => ?_
    cases (show Den _ _ _ _ _ from vr)
    exact ⟨_, rfl, q H1 G1 g1⟩
  · cases hf
theorem jt_cmp {op : CmpOp} {pf : Dt → Dt → Option R} (ok : P2 X cm (compareOp op) pf) (ha : JE X cm a fa) (hb : JE X cm b fb) (hm : behindInMarks op b = false := by first | exact nobehind _ (by decide) (by decide) | rfl) : JT X cm (.Compare a [op] [b] pos) (tVal (e2 pf fa fb)) := by
  refine ⟨fun env r σ H G hf rel Q q pins s I => ?_⟩
  unfold tVal at hf
  split at hf
  · rename_i b' h1
    cases hf
    refine wpAny_isTrue_Compare1 (thn (run2 (Q := fun v H' => ∃ k, v = .bl k ∧ Q k H') ok ha hb h1 rel (fun v H' G' g vr => ?_) I) fun v s1 h1 => thn h1 fun u s2 h2 => thn h2 fun c s3 ⟨x, H1, I1, r1, q1⟩ => ?_) hm
    · cases (show Den _ _ _ _ _ from vr)
      exact ⟨_, rfl, q H' G' g⟩
    · obtain ⟨d, rfl, q⟩ := q1
      cases r1
      exact wpAny_truthy_bool ⟨H1, I1, q⟩
  · cases hf
theorem jt_isN {j pos'} (ha : JE X cm a fa) : JT X cm (.Compare a [.Is] [.Constant .none j pos'] pos) (tVal (e1 pIsN fa)) := by
  refine ⟨fun env r σ H G hf rel Q q => ?_⟩
  unfold tVal at hf
  split at hf
  · rename_i b' h1
    cases hf
    obtain ⟨ra, h2, h3⟩ := Option.bind_eq_some_iff.mp h1
    refine to_t (pt_cmp (pc_isN pe_w) rfl) (ha.pub h2 rel fun v H1 G1 g1 vr => ⟨_, rfl, ?_⟩)
    rw [vr.isNon]
    cases h3
    exact q _ _ g1
  · cases hf
theorem jt_notN {j pos'} (ha : JE X cm a fa) : JT X cm (.Compare a [.IsNot] [.Constant .none j pos'] pos) (tVal (e1 pNotN fa)) := by
  refine ⟨fun env r σ H G hf rel Q q => ?_⟩
  unfold tVal at hf
  split at hf
  · rename_i b' h1
    cases hf
    obtain ⟨ra, h2, h3⟩ := Option.bind_eq_some_iff.mp h1
    refine to_t (pt_cmp (pc_notN pe_w) rfl) (ha.pub h2 rel fun v H1 G1 g1 vr => ⟨_, rfl, ?_⟩)
    rw [vr.isNon]
    cases h3
    exact q _ _ g1
  · cases hf
theorem jw_and1 (ha : JT X cm a ta) : JW X cm (.BoolOp .And [a] pos) ta := ⟨fun env r σ H G hf rel Q q wh pins s I => (pw_and1 pt_w).run wh pins s σ H Q I (ha.run env r σ H G hf rel Q q)⟩
theorem jw_or1 (ha : JT X cm a ta) : JW X cm (.BoolOp .Or [a] pos) ta := ⟨fun env r σ H G hf rel Q q wh pins s I => (pw_or1 pt_w).run wh pins s σ H Q I (ha.run env r σ H G hf rel Q q)⟩
def wpW (X : Cx) (e : Expr) : TT := fun σ H Q => ∀ (whole : Sem Value) pins s, Inv X pins σ H s → wpAny (model X.prog X.w) X.A (isTrue e X.env whole) (TP X pins σ Q) X.xe s
theorem pw_w {e : Expr} : PW X e (wpW X e) := ⟨fun wh pins s σ H Q I h => h wh pins s I⟩
theorem jw_and {rest : List Expr} (ha : JT X cm a ta) (hb : JW X cm (.BoolOp .And (b :: rest) pos) tb) : JW X cm (.BoolOp .And (a :: b :: rest) pos) (tAnd ta tb) := by
  refine ⟨fun env r σ H G hf rel Q q wh pins s I => ?_⟩
  obtain ⟨t, h1, hf⟩ := Option.bind_eq_some_iff.mp hf
  refine (pw_and pt_w pw_w).run wh pins s σ H Q I (ha.run env t σ H G h1 rel _ fun H1 G1 g1 => ?_)
  cases t with
  | true => exact iteT (hb.run env r σ H1 G1 hf (rel.grow g1) Q fun H2 G2 g2 => q H2 G2 (g1.trans g2))
  | false =>
    cases hf
    exact iteF (q H1 G1 g1)
theorem jw_or {rest : List Expr} (ha : JT X cm a ta) (hb : JW X cm (.BoolOp .Or (b :: rest) pos) tb) : JW X cm (.BoolOp .Or (a :: b :: rest) pos) (tOr ta tb) := by
  refine ⟨fun env r σ H G hf rel Q q wh pins s I => ?_⟩
  obtain ⟨t, h1, hf⟩ := Option.bind_eq_some_iff.mp hf
  refine (pw_or pt_w pw_w).run wh pins s σ H Q I (ha.run env t σ H G h1 rel _ fun H1 G1 g1 => ?_)
  cases t with
  | true =>
    cases hf
    exact iteT (q H1 G1 g1)
  | false => exact iteF (hb.run env r σ H1 G1 hf (rel.grow g1) Q fun H2 G2 g2 => q H2 G2 (g1.trans g2))
theorem jt_not (ha : JT X cm a ta) : JT X cm (.UnaryOp .Not a pos) (tNot ta) := by
  refine ⟨fun env r σ H G hf rel Q q => ?_⟩
  obtain ⟨t, h1, hf⟩ := Option.bind_eq_some_iff.mp hf
  cases hf
  exact to_t (pt_not pt_w) (ha.run env t σ H G h1 rel _ fun H1 G1 g1 => q H1 G1 g1)
theorem je_if (hc : JT X cm c ta) (ha : JE X cm a fa) (hb : JE X cm b fb) : JE X cm (.IfExp c a b pos) (eIf ta fa fb) := by
  refine ⟨fun env r σ H G hf rel Q q => ?_⟩
  obtain ⟨t, h1, hf⟩ := Option.bind_eq_some_iff.mp hf
  refine to_e (pe_ifExp pt_w pe_w pe_w) (hc.run env t σ H G h1 rel _ fun H1 G1 g1 => ?_)
  cases t with
  | true => exact iteT (ha.run env r σ H1 G1 hf (rel.grow g1) Q fun v H2 G2 g2 r2 => q v H2 G2 (g1.trans g2) (r2.hx g1.hx))
  | false => exact iteF (hb.run env r σ H1 G1 hf (rel.grow g1) Q fun v H2 G2 g2 r2 => q v H2 G2 (g1.trans g2) (r2.hx g1.hx))
end
end Pyl
end
section
set_option Elab.async false
set_option linter.all false
set_option maxRecDepth 100000
set_option maxHeartbeats 2000000
namespace Pyl
open PySem L2

/-! ### what is walked -/
/-- the heaps at a turn, behind the making of the iterator at H0, G0; b: what is walked is borrowed -/
structure StK (H0 G0 : Hp) (b : Bool) (H G : Hp) : Prop where
  sub : Exx G H
  gx : Exx G0 G
  hx : b = true → Exx H0 H
structure ItOk (K : PySem.W.Frag) (cm : Nat → Addr) (J : It) (ds : List Dt) (b : Bool) (H0 G0 : Hp) : Prop where
  go : ∀ (i : Nat) (H G : Hp), StK H0 G0 b H G → i < ds.length → J.go i H
  yl : ∀ (i : Nat) (H G : Hp) (v : V) (H' : Hp), StK H0 G0 b H G → i < ds.length → J.yld i H v H' → ∃ (G' : Hp) (d : Dt), ds[i]? = some d ∧ Grow H G H' G' ∧ Den K cm G' v d
  stop : ∀ (i : Nat) (H G : Hp), StK H0 G0 b H G → ds.length ≤ i → J.stop i H
structure JI (X : Cx) (cm : Nat → Addr) (tg iter : Expr) (f : IF) : Prop where
  run : ∀ (env : Sl) (ds : List Dt) (b : Bool) (σ : L2.St) (H G : Hp), f env = some (ds, b) → Rel X.K cm σ H G env → ∀ Q : It → Hp → Prop, (∀ J H' G', Grow H G H' G' → ItOk X.K cm J ds b H' G' → Q J H') → wpI X tg iter σ H Q
section
variable {X : Cx} {cm : Nat → Addr} {e a b c tg iter : Expr} {f fa fb fc : EF} {σ : L2.St} {H G : Hp} {env : Sl} {pos p : Pos}
theorem itl_ok {K : PySem.W.Frag} {l : Addr} {vs : List V} {ds : List Dt} {t : Bool} {H0 G0 : Hp} (h : ∀ H G, StK H0 G0 t H G → SqL K H l vs) (n : DenL K cm G0 vs ds) : ItOk K cm (Itl K l) ds t H0 G0 where
  go := fun i H G s hi => by
    have hi' : i < vs.length := by rw [n.length]; exact hi
    exact ⟨vs, vs[i], h H G s, List.getElem?_eq_getElem hi'⟩
  yl := fun i H G v H' s hi y => by
    obtain ⟨rfl, y⟩ := y
    obtain ⟨d, hd, dn⟩ := n.get' (y vs (h _ _ s))
    exact ⟨G, d, hd, .refl s.sub, dn.mono s.gx⟩
  stop := fun i H G s hi => ⟨vs, h H G s, by rw [n.length]; exact hi⟩
theorem itt_ok {K : PySem.W.Frag} {l : Addr} {vs : List V} {ds : List Dt} {t : Bool} {H0 G0 : Hp} (h : SqT K G0 l vs) (n : DenL K cm G0 vs ds) : ItOk K cm (Itt K l) ds t H0 G0 where
  go := fun i H G s hi => by
    have hi' : i < vs.length := by rw [n.length]; exact hi
    exact ⟨vs, vs[i], s.sub.sqT (s.gx.sqT h), List.getElem?_eq_getElem hi'⟩
  yl := fun i H G v H' s hi y => by
    obtain ⟨rfl, y⟩ := y
    obtain ⟨d, hd, dn⟩ := n.get' (y vs (s.sub.sqT (s.gx.sqT h)))
    exact ⟨G, d, hd, .refl s.sub, dn.mono s.gx⟩
  stop := fun i H G s hi => ⟨vs, s.sub.sqT (s.gx.sqT h), by rw [n.length]; exact hi⟩
theorem rngD_get {lo : Int} {n i : Nat} (h : i < n) : (rngD lo n)[i]? = some (.int (lo + (i : Int))) := by
  unfold rngD
  rw [List.getElem?_map, List.getElem?_range h]
  rfl
theorem rngD_length (lo : Int) (n : Nat) : (rngD lo n).length = n := by
  unfold rngD
  rw [List.length_map, List.length_range]
theorem itr_ok {K : PySem.W.Frag} {lo : Int} {n : Nat} {t : Bool} {H0 G0 : Hp} : ItOk K cm (Itr lo n) (rngD lo n) t H0 G0 where
  go := fun i H G s hi => by
    rw [rngD_length] at hi
    exact hi
  yl := fun i H G v H' s hi y => by
    obtain ⟨rfl, rfl⟩ := y
    rw [rngD_length] at hi
    exact ⟨G, _, rngD_get hi, .refl s.sub, .int _⟩
  stop := fun i H G s hi => by
    rw [rngD_length] at hi
    exact hi
theorem ji_seq (ha : JE X cm iter fa) : JI X cm tg iter (iSeq fa) := by
  refine ⟨fun env ds t σ H G hf rel Q q => ?_⟩
  obtain ⟨ra, h1, hf⟩ := Option.bind_eq_some_iff.mp hf
  split at hf
  · rename_i ds' e1
    cases hf
    refine to_i (pi_list pe_w) (ha.pub h1 rel fun v H1 G1 g1 vr => ?_)
    rw [e1] at vr
    cases hsh : ra.sh with
    | false =>
      rw [hsh] at vr
      cases vr.den with
      | lst s1 n1 => exact ⟨_, rfl, ⟨_, g1.sub.sqL s1⟩, q _ H1 G1 g1 (by rw [hsh]; exact itl_ok (fun H G s => s.sub.sqL (s.gx.sqL s1)) n1)⟩
    | true =>
      rw [hsh] at vr
      obtain ⟨l, vs, ds'', h1, h2, h3, h4⟩ := vr.1 rfl
      subst h1
      cases h2
      exact ⟨_, rfl, ⟨_, h3⟩, q _ H1 G1 g1 (by rw [hsh]; exact itl_ok (fun H G s => (s.hx rfl).sqL h3) h4)⟩
  · rename_i ds' e1
    cases hf
    refine to_i (pi_tup pe_w) (ha.pub h1 rel fun v H1 G1 g1 vr => ?_)
    rw [e1] at vr
    obtain ⟨l, vs, rfl, s1, t1, n1⟩ := vr.tup g1.sub
    exact ⟨_, rfl, ⟨_, s1⟩, q _ H1 G1 g1 (itt_ok t1 n1)⟩
  · cases hf
theorem ji_range1 (hg : Gl X "range") (hm : X.mg "range" = none) (ha : JE X cm a fa) (hs : starEach [a] X.env = [(false, eval a X.env)] := by rfl) (he : starEach [a] X.env = (false, eval a X.env) :: starEach [] X.env := by rfl) :
    JI X cm tg (.Call (.Name "range" p) [a] [] pos) (iRange1 fa) := by
  refine ⟨fun env ds t σ H G hf rel Q q => ?_⟩
  unfold iRange1 at hf
  split at hf
  · rename_i n h1
    split at hf
    · rename_i hn
      cases hf
      refine to_i (pi_range1 hg hm (pa_cons pe_w pa_nil he) hs) (ha.run env _ σ H G h1 rel _ fun v H1 G1 g1 vr => ?_)
      cases (show Den _ _ _ _ _ from vr)
      exact ⟨n, rfl, by omega, by omega, q _ H1 G1 g1 itr_ok⟩
    · cases hf
  · cases hf
theorem ji_range2 (hg : Gl X "range") (hm : X.mg "range" = none) (ha : JE X cm a fa) (hb : JE X cm b fb) (hs : starEach [a, b] X.env = [(false, eval a X.env), (false, eval b X.env)] := by rfl) (hs2 : starEach [b] X.env = [(false, eval b X.env)] := by rfl)
    (he : starEach [a, b] X.env = (false, eval a X.env) :: starEach [b] X.env := by rfl) (he2 : starEach [b] X.env = (false, eval b X.env) :: starEach [] X.env := by rfl) : JI X cm tg (.Call (.Name "range" p) [a, b] [] pos) (iRange2 fa fb) := by
  refine ⟨fun env ds t σ H G hf rel Q q => ?_⟩
  obtain ⟨ra, h1, hf⟩ := Option.bind_eq_some_iff.mp hf
  obtain ⟨rb, h2, hf⟩ := Option.bind_eq_some_iff.mp hf
  split at hf
  · rename_i lo hi e1 e2
    split at hf
    · rename_i hn
      cases hf
      refine to_i (pi_range2 hg hm (pa_cons pe_w (pa_cons pe_w pa_nil he2) he) hs hs2) (ha.pub h1 rel fun v H1 G1 g1 vr => hb.pub h2 (rel.grow g1) fun w H2 G2 g2 wr => ?_)
      rw [e1] at vr
      rw [e2] at wr
      have ev := vr.int
      have ew := wr.int
      subst ev ew
      exact ⟨lo, hi, rfl, ⟨by omega, by omega, by omega, by omega⟩, q _ H2 G2 (g1.trans g2) itr_ok⟩
    · cases hf
  · cases hf

/-! ### targets -/
structure JG (X : Cx) (cm : Nat → Addr) (tg : Expr) (is : List Nat) (g : GF) : Prop where
  run : ∀ (env env' : Sl) (d : Dt) (v : V) (σ : L2.St) (H G : Hp), g d env = some env' → Rel X.K cm σ H G env → Den X.K cm G v d → ∀ Q : L2.St → Hp → Prop,
    (∀ σ', Rel X.K cm σ' H G env' → Fr σ env H G σ' env' H G → (∀ j : Nat, j ∉ is → σ'[j]? = σ[j]?) → σ'.length = σ.length → Q σ' H) → wpG X tg v σ H Q
theorem get_set {α : Type} {l : List α} {i j : Nat} {x y : α} (h : (l.set i x)[j]? = some y) : (i = j ∧ y = x ∧ j < l.length) ∨ (i ≠ j ∧ l[j]? = some y) := by
  by_cases e : i = j
  · subst e
    have hl : i < (l.set i x).length := (List.getElem?_eq_some_iff.mp h).1
    rw [List.length_set] at hl
    rw [List.getElem?_set_self hl] at h
    exact .inl ⟨rfl, (Option.some.inj h).symm, hl⟩
  · rw [List.getElem?_set_ne e] at h
    exact .inr ⟨e, h⟩
/-- what a name with data does not hold -/
theorem Held.setVal {i j : Nat} {x : Option V} {d : Dt} {a : Addr} (h : Held H (σ.set i x) (env.set i (.val d)) j a) : Held H σ env j a := by
  rcases h with ⟨od, h1, h2⟩ | ⟨dss, l, as, h1, h2, h3⟩
  · rcases get_set h1 with ⟨rfl, e, hl⟩ | ⟨ne, h1⟩
    · cases e
    · rw [List.getElem?_set_ne ne] at h2
      exact .inl ⟨od, h1, h2⟩
  · rcases get_set h1 with ⟨rfl, e, hl⟩ | ⟨ne, h1⟩
    · cases e
    · rw [List.getElem?_set_ne ne] at h2
      exact .inr ⟨dss, l, as, h1, h2, h3⟩
/-- a name gets data -/
theorem Rel.setVal {K : PySem.W.Frag} {i : Nat} {v : V} {d : Dt} (r : Rel K cm σ H G env) (h : Den K cm G v d) : Rel K cm (σ.set i (some v)) H G (env.set i (.val d)) where
  len := by rw [List.length_set, List.length_set, r.len]
  sub := r.sub
  val := fun j d' hj => by
    rcases get_set hj with ⟨rfl, e, hl⟩ | ⟨ne, hj⟩
    · cases e
      exact ⟨v, List.getElem?_set_self (by rw [r.len]; exact hl), h⟩
    · obtain ⟨w, h1, h2⟩ := r.val j d' hj
      exact ⟨w, by rw [List.getElem?_set_ne ne]; exact h1, h2⟩
  own := fun j od hj => by
    rcases get_set hj with ⟨rfl, e, hl⟩ | ⟨ne, hj⟩
    · cases e
    · obtain ⟨l, o, h1, h2, h3, h4⟩ := r.own j od hj
      exact ⟨l, o, by rw [List.getElem?_set_ne ne]; exact h1, h2, h3, h4⟩
  mat := fun j dss hj => by
    rcases get_set hj with ⟨rfl, e, hl⟩ | ⟨ne, hj⟩
    · cases e
    · obtain ⟨l, as, h1, h2⟩ := r.mat j dss hj
      exact ⟨l, as, by rw [List.getElem?_set_ne ne]; exact h1, h2⟩
  dist := fun j k a hj hk => r.dist j k a (Held.setVal hj) (Held.setVal hk)
theorem Fr.setVal {i : Nat} {v : V} {d : Dt} (s : Exx G H) : Fr σ env H G (σ.set i (some v)) (env.set i (.val d)) H G where
  gx := .refl _
  hid := fun _ _ _ n _ => n
  keep := fun _ _ h _ => h
  there := fun a o h => ⟨o, h⟩
  sub := s
  fresh := fun a o h n ⟨j, q⟩ => n ⟨j, Held.setVal q⟩
  take := fun j hj => by
    rcases get_set hj with ⟨rfl, e, hl⟩ | ⟨ne, hj⟩
    · cases e
    · exact ⟨hj, List.getElem?_set_ne ne⟩
theorem jg_name {x : Str} (i : Nat) (hN : X.N.Nodup) (hi : X.N[i]? = some x := by rfl) (hx : Loc X.env.scope x := by first | exact Or.inl rfl | exact Or.inr rfl) (hf : X.fn x = true ∨ X.env.scope.names.lookup x = some .local := by first | exact .inl rfl | exact .inr rfl | assumption) : JG X cm (.Name x pos) [i] (gN i) := by
  refine ⟨fun env env' d v σ H G hg rel hd Q q pins s u I r => ?_⟩
  cases hg
  refine (pg_name hN hi hx hf).run pins s σ H v u _ I r ?_
  exact q _ (rel.setVal hd) (.setVal rel.sub) (fun j hj => List.getElem?_set_ne (fun e => hj (by rw [e]; exact List.mem_singleton.mpr rfl))) (List.length_set ..)
end
/-- several names -/
structure JGs (X : Cx) (cm : Nat → Addr) (tgs : List Expr) (is : List Nat) : Prop where
  run : ∀ (env env' : Sl) (ds : List Dt) (vs : List V) (σ : L2.St) (H G : Hp), gsN is ds env = some env' → Rel X.K cm σ H G env → DenL X.K cm G vs ds → ∀ Q : L2.St → Hp → Prop,
    (∀ σ', Rel X.K cm σ' H G env' → Fr σ env H G σ' env' H G → (∀ j : Nat, j ∉ is → σ'[j]? = σ[j]?) → σ'.length = σ.length → Q σ' H) →
    ∀ pins s us, Inv X pins σ H s → Vals vs us → wpAny (model X.prog X.w) X.A (assignInOrder ((assignEach tgs X.env).map (·.2)) us) (fun _ s' => ∃ σ' H', Inv X pins σ' H' s' ∧ Q σ' H') X.xe s
def wpGs (X : Cx) (tgs : List Expr) : TGs := fun vs σ H Q => ∀ pins s us, Inv X pins σ H s → Vals vs us → wpAny (model X.prog X.w) X.A (assignInOrder ((assignEach tgs X.env).map (·.2)) us) (fun _ s' => ∃ σ' H', Inv X pins σ' H' s' ∧ Q σ' H') X.xe s
theorem pgs_w {X : Cx} {tgs : List Expr} : PGs X tgs (wpGs X tgs) := ⟨fun pins s σ H vs us Q I r h => h pins s us I r⟩
section
variable {X : Cx} {cm : Nat → Addr} {pos : Pos}
theorem jgs_nil : JGs X cm [] [] := ⟨fun env env' ds vs σ H G hg rel hd Q q pins s us I r => by
  cases ds with
  | nil =>
    cases hg
    cases hd
    exact pgs_nil.run pins s σ H _ us Q I r ⟨rfl, q σ rel (.refl rel.sub) (fun _ _ => rfl) rfl⟩
  | cons d ds => cases hg⟩
theorem jgs_cons {x : Str} {tgs : List Expr} {is : List Nat} (i : Nat) (hN : X.N.Nodup) (hr : JGs X cm tgs is) (hi : X.N[i]? = some x := by rfl) (hx : Loc X.env.scope x := by first | exact Or.inl rfl | exact Or.inr rfl)
    (hf : X.fn x = true ∨ X.env.scope.names.lookup x = some .local := by first | exact .inl rfl | exact .inr rfl | assumption)
    (hs : (assignEach (.Name x pos :: tgs) X.env).map (·.2) = assign (.Name x pos) X.env :: (assignEach tgs X.env).map (·.2) := by rfl) : JGs X cm (.Name x pos :: tgs) (i :: is) := by
  refine ⟨fun env env' ds vs σ H G hg rel hd Q q pins s us I r => ?_⟩
  cases ds with
  | nil => cases hg
  | cons d ds =>
    cases hd with
    | cons d1 dr =>
      refine (pgs_cons (pg_name hN hi hx hf) pgs_w hs).run pins s σ H _ us Q I r ⟨_, _, rfl, ?_⟩
      refine hr.run _ _ ds _ _ H G hg (rel.setVal d1) dr Q fun σ' rel' fr' same len => ?_
      refine q σ' rel' ((Fr.setVal rel.sub).trans fr') (fun j hj => ?_) (by rw [len, List.length_set])
      have h1 : j ≠ i := fun e => hj (by rw [e]; exact List.mem_cons_self)
      have h2 : j ∉ is := fun e => hj (List.mem_cons_of_mem _ e)
      rw [same j h2, List.getElem?_set_ne h1.symm]
theorem gsN_len : ∀ {is : List Nat} {ds : List Dt} {env env' : Sl}, gsN is ds env = some env' → ds.length = is.length
  | [], [], _, _, _ => rfl
  | i :: is, d :: ds, _, _, h => by
    have h' : gsN is ds _ = _ := h
    rw [List.length_cons, List.length_cons, gsN_len h']
  | [], _ :: _, _, _, h => by cases h
  | _ :: _, [], _, _, h => by cases h
/-- (a, b, ..) = a list of that length -/
def gLst (K : PySem.W.Frag) (n : Nat) (t : TGs) : TG := fun v σ H Q => ∃ a xs, v = .ref a ∧ SqL K H a xs ∧ xs.length = n ∧ t xs σ H Q
theorem pg_lst {es : List Expr} {k : Nat} {t : TGs} {n : Nat} (hc : X.calm = true) (h : PGs X es t) (hn : (assignEach es X.env).length = n) (hst : (assignEach es X.env).findIdx? (·.1) = none) : PG X (.Tuple es k pos) (gLst X.K n t) := by
  refine ⟨fun pins s σ H v u Q I r hw => ?_⟩
  obtain ⟨a, xs, rfl, hq, hl, hw⟩ := hw
  cases r
  obtain ⟨its, rv, p, _⟩ := I.list hq
  have e : (assignEach es X.env).length = its.toArray.size := by rw [hn, ← hl, rv.length, List.size_toArray]
  rw [PyProof.Rows.assign_Tuple]
  refine wpAny_bind (wpAny_standAt ?_)
  unfold PySem.unpack
  rw [e, hst]
  refine wpAny_bind (wpAny_holding (PySem.W.kun_itemsOf (I.ok.hd hc) p.isList fun g up => ?_))
  have I1 : Inv X pins σ H { s with heap := g } := I.kept (t' := s.toks) fun b o z => up b o (Nat.ne_of_lt (Heap.lt_size z)) z
  exact h.run pins _ σ H xs _ Q I1 (by simpa using rv) hw
theorem jg_tup {es : List Expr} {k : Nat} {is : List Nat} (hc : X.calm = true) (h : JGs X cm es is) (hn : (assignEach es X.env).length = is.length := by rfl) (hst : (assignEach es X.env).findIdx? (·.1) = none := by rfl) : JG X cm (.Tuple es k pos) is (gT is) := by
  refine ⟨fun env env' d v σ H G hg rel hd Q q pins s u I r => ?_⟩
  unfold gT at hg
  split at hg
  · rename_i ds
    cases hd with
    | tup h1 h2 =>
      refine (pg_tup hc pgs_w hn hst).run pins s σ H _ u Q I r ⟨_, _, rfl, rel.sub.sqT h1, ?_, ?_⟩
      · rw [h2.length, gsN_len hg]
      · exact h.run env env' ds _ σ H G hg rel h2 Q q
  · rename_i ds
    cases hd with
    | lst h1 h2 =>
      refine (pg_lst hc pgs_w hn hst).run pins s σ H _ u Q I r ⟨_, _, rfl, rel.sub.sqL h1, ?_, ?_⟩
      · rw [h2.length, gsN_len hg]
      · exact h.run env env' ds _ σ H G hg rel h2 Q q
  · cases hg
end
end Pyl
end
section
set_option Elab.async false
set_option linter.all false
set_option maxRecDepth 100000
set_option maxHeartbeats 4000000
/-! zip of two sequences, each a list (kind true) or a tuple (kind false) -/
namespace Pyl
open PySem L2
/-- a sequence of the kind k at an address; its iterator -/
def KSeq (k : Bool) (h : Heap) (l : Addr) (its : Array Value) : Prop := match k with
  | true => h.IsList l its
  | false => h.IsTuple l its
def KIt (k : Bool) (h : Heap) (p l : Addr) (n : Nat) : Prop := match k with
  | true => h.IsListIter p l n
  | false => h.IsTupleIter p l n
def itName (k : Bool) : String := bif k then "list_iterator" else "tuple_iterator"
def itObj (k : Bool) (l : Addr) : Obj := { cls := .type (itName k), data := .fields #[.ref l, .int 0 0] }
theorem KSeq.ex {k : Bool} {h : Heap} {l : Addr} {its : Array Value} (q : KSeq k h l its) : ∃ o, h.get? l = some o ∧ ∀ h2 : Heap, h2.get? l = some o → KSeq k h2 l its := by
  cases k <;> (obtain ⟨o, e, r⟩ := q; exact ⟨o, e, fun h2 e2 => ⟨o, e2, r⟩⟩)
theorem KIt.ex {k : Bool} {h : Heap} {p l : Addr} {n : Nat} (q : KIt k h p l n) : ∃ o, h.get? p = some o ∧ (∀ v, o.data ≠ .cell v) ∧ ∀ h2 : Heap, h2.get? p = some o → KIt k h2 p l n := by
  cases k <;> (obtain ⟨o, e, c, d⟩ := q; exact ⟨o, e, fun v z => (by rw [d] at z; cases z), fun h2 e2 => ⟨o, e2, c, d⟩⟩)
theorem KSeq.to {k : Bool} {h h2 : Heap} {l : Addr} {its : Array Value} (q : KSeq k h l its) (e : ∀ o, h.get? l = some o → h2.get? l = some o) : KSeq k h2 l its := by
  obtain ⟨o, e1, f⟩ := q.ex
  exact f h2 (e o e1)
theorem KIt.to {k : Bool} {h h2 : Heap} {p l : Addr} {n : Nat} (q : KIt k h p l n) (e : ∀ o, h.get? p = some o → h2.get? p = some o) : KIt k h2 p l n := by
  obtain ⟨o, e1, _, f⟩ := q.ex
  exact f h2 (e o e1)
theorem KSeq.lt {k : Bool} {h : Heap} {l : Addr} {its : Array Value} (q : KSeq k h l its) : l < h.objs.size := by
  obtain ⟨o, e, _⟩ := q.ex
  exact Heap.lt_size e
theorem KIt.lt {k : Bool} {h : Heap} {p l : Addr} {n : Nat} (q : KIt k h p l n) : p < h.objs.size := by
  obtain ⟨o, e, _⟩ := q.ex
  exact Heap.lt_size e
section
variable {pg : Program} {wd : World} {ar : Around} {B : Value → Shared → Prop} {t : Shared}
theorem k_next {k : Bool} {p l : Addr} {n : Nat} {its : Array Value} {u : Value} {R : Value → Shared → Prop} (hp : KIt k t.heap p l n) (hl : KSeq k t.heap l its) (hu : its[n]? = some u)
    (hR : ∀ g, KIt k g p l (n + 1) → Heap.SameBut p t.heap g → R u { t with heap := g }) : wpAny (model pg wd) ar (Builtin.SmallTypes.nextOf (.ref p)) R B t := by
  cases k
  · exact RZ.nextOf_tuple_item hp hl hu hR
  · exact wpAny_nextOf_list_item hp hl hu hR
theorem k_last {k : Bool} {p l : Addr} {n : Nat} {its : Array Value} {R : Value → Shared → Prop} (hd : ar.handled = none) (hp : KIt k t.heap p l n) (hl : KSeq k t.heap l its) (hu : its[n]? = none)
    (hB : ∀ g e, Heap.ExtBut p t.heap g → (∃ o, g.get? e = some o ∧ o.cls = .type "StopIteration") → B (.ref e) { t with heap := g }) : wpAny (model pg wd) ar (Builtin.SmallTypes.nextOf (.ref p)) R B t := by
  cases k
  · exact RZ.nextOf_tuple_end hd hp hl hu hB
  · exact wpAny_nextOf_list_end hd hp hl hu hB
theorem k_iter {k : Bool} {l : Addr} {its : Array Value} {R : Value → Shared → Prop} (hl : KSeq k t.heap l its) (hR : R (.ref t.heap.objs.size) { t with heap := t.heap.push (itObj k l) }) : wpAny (model pg wd) ar (pyIter (.ref l)) R B t := by
  cases k
  · exact wpAny_pyIter_tuple hl hR
  · exact wpAny_pyIter_list hl hR

variable {c d : Bool} {q QI QO p1 p2 m1 m2 : Addr} {n : Nat} {us ws : Array Value} {u v f g : Value}
/-- what of a zip's turn stays the same -/
structure ZSt (c d : Bool) (h : Heap) (q QI QO p1 p2 m1 m2 : Addr) (n : Nat) (f : Value) : Prop where
  z : IsZip h q QI QO f
  i : IsPair h QI (.ref p1) (.ref p2)
  o : ∃ a b, IsPair h QO a b
  a : KIt c h p1 m1 n
  b : KIt d h p2 m2 n
theorem k_turn {R : Value → Shared → Prop} (D : ZipApart q QI QO p1 p2 m1 m2) (S : ZSt c d t.heap q QI QO p1 p2 m1 m2 n .none) (hu : KSeq c t.heap m1 us) (hw : KSeq d t.heap m2 ws) (eu : us[n]? = some u) (ew : ws[n]? = some v)
    (hR : ∀ g, ZSt c d g q QI QO p1 p2 m1 m2 (n + 1) (rawInt t.heap.objs.size) → IsPair g t.heap.objs.size u v →
      (∀ a o, a ≠ q → a ≠ QO → a ≠ p1 → a ≠ p2 → t.heap.get? a = some o → g.get? a = some o) → R (.ref t.heap.objs.size) { t with heap := g }) :
    wpAny (model pg wd) ar (Builtin.«zip.__next__» ⟨[.ref q], []⟩) (fun fin t2 => ∃ x, fin = .done (.ret x) ∧ R x t2) B t := by
  obtain ⟨gz, gi, ⟨f, g, go⟩, g1, g2⟩ := S
  show wpAny _ _ (field (.ref q) 2 >>= _) _ _ _
  refine wpAny_bind <| wpAny_field gz rfl (x := .bool false) rfl ?_
  show wpAny _ _ (field (.ref q) 3 >>= _) _ _ _
  refine wpAny_bind <| wpAny_field gz rfl (x := .ref QI) rfl (wpAny_bind (wpAny_seqItems gi rfl ?_))
  show wpAny _ _ (Builtin.SmallTypes.ownedTupleIsFree (.ref q) >>= _) _ _ _
  refine wpAny_bind ?_
  unfold Builtin.SmallTypes.ownedTupleIsFree
  refine wpAny_bind <| wpAny_field gz rfl (x := .none) rfl (wpAny_pure ?_)
  simp only [if_true]
  refine wpAny_bind <| wpAny_rule <| wpAny_bind <| wpAny_field gz rfl (x := .ref QO) rfl ?_
  refine wpAny_bind <| wpAny_setField_rec gz (by simp) fun x1 gz1 e1 => ?_
  replace gz1 : IsZip x1 q QI QO .ellipsis := gz1
  refine wpAny_bind ?_
  simp only [List.zipIdx_cons, List.forIn_cons, List.zipIdx_nil, List.forIn_nil]
  refine wpAny_bind <| wpAny_bind <| wpAny_onRaise ?_
  show wpAny _ _ (Builtin.SmallTypes.nextOf (.ref p1) >>= _) _ _ _
  refine wpAny_bind <| k_next (g1.to fun _ => e1.extBut _ _ D.i1z) (hu.to fun _ => e1.extBut _ _ D.l1z) eu fun x2 g12 e2 => wpAny_pure ?_
  have go2 : IsPair x2 QO f g := e2.extBut _ _ D.TOi1 (e1.extBut _ _ D.TOz go)
  refine wpAny_bind <| wpAny_seqItems go2 rfl <| wpAny_bind <| wpAny_updateSeq_pair go2 fun x3 go3 e3 => ?_
  replace go3 : IsPair x3 QO u g := go3
  refine wpAny_bind <| wpAny_letGo <| wpAny_pure ?_
  refine wpAny_bind <| wpAny_bind <| wpAny_onRaise ?_
  show wpAny _ _ (Builtin.SmallTypes.nextOf (.ref p2) >>= _) _ _ _
  refine wpAny_bind <| k_next (g2.to fun _ z => e3.extBut _ _ D.TOi2.symm (e2.extBut _ _ D.i12.symm (e1.extBut _ _ D.i2z z))) (hw.to fun _ z => e3.extBut _ _ D.l2TO (e2.extBut _ _ D.l2i1 (e1.extBut _ _ D.l2z z))) ew fun x4 g24 e4 => wpAny_pure ?_
  have go4 : IsPair x4 QO u g := e4.extBut _ _ D.TOi2 go3
  refine wpAny_bind <| wpAny_seqItems go4 rfl <| wpAny_bind <| wpAny_updateSeq_pair go4 fun x5 go5 e5 => ?_
  replace go5 : IsPair x5 QO u v := go5
  refine wpAny_bind <| wpAny_letGo <| wpAny_pure <| wpAny_pure ?_
  refine wpAny_bind <| wpAny_seqItems go5 rfl <| wpAny_bind <| wpAny_newTuple ?_
  have ez : x5.objs.size = t.heap.objs.size := by rw [e5.1, e4.1, e3.1, e2.1, e1.1]
  have gz5 : IsZip x5 q QI QO .ellipsis := e5.extBut _ _ D.TOz.symm (e4.extBut _ _ D.i2z.symm (e3.extBut _ _ D.TOz.symm (e2.extBut _ _ D.i1z.symm gz1)))
  have up5 : ∀ a o, a ≠ q → a ≠ QO → a ≠ p1 → a ≠ p2 → t.heap.get? a = some o → x5.get? a = some o := fun a o n1 n2 n3 n4 z =>
    e5.extBut _ _ n2 (e4.extBut _ _ n4 (e3.extBut _ _ n2 (e2.extBut _ _ n3 (e1.extBut _ _ n1 z))))
  have g15 : KIt c x5 p1 m1 (n + 1) := g12.to fun _ z => e5.extBut _ _ D.TOi1.symm (e4.extBut _ _ D.i12 (e3.extBut _ _ D.TOi1.symm z))
  have g25 : KIt d x5 p2 m2 (n + 1) := g24.to fun _ z => e5.extBut _ _ D.TOi2.symm z
  have lq : q < x5.objs.size := Heap.lt_size gz5
  show wpAny _ _ (Builtin.SmallTypes.ownedTupleHandOut (.ref q) (.ref x5.objs.size) >>= _) _ _ _
  refine wpAny_bind (by
    unfold Builtin.SmallTypes.ownedTupleHandOut
    have gz6 : IsZip (x5.push { cls := .type "tuple", data := .seq #[u, v] }) q QI QO .ellipsis := Heap.get?_push_of_some _ gz5
    refine wpAny_bind <| wpAny_setField_rec gz6 (by simp) fun x7 gz7 e7 => ?_
    replace gz7 : IsZip x7 q QI QO (rawInt x5.objs.size) := gz7
    refine wpAny_setField_rec gz7 (by simp) fun x8 gz8 e8 => ?_
    replace gz8 : IsZip x8 q QI QO (rawInt x5.objs.size) := gz8
    have up : ∀ a o, a ≠ q → x5.get? a = some o → x8.get? a = some o := fun a o n1 z => e8.extBut _ _ n1 (e7.extBut _ _ n1 (Heap.get?_push_of_some _ z))
    have gT : IsPair x8 x5.objs.size u v := e8.extBut _ _ (Nat.ne_of_gt lq) (e7.extBut _ _ (Nat.ne_of_gt lq) (Heap.get?_push_size _ rfl))
    rw [ez] at gz8 gT
    refine wpAny_pure ⟨_, rfl, ?_⟩
    show R (.ref x5.objs.size) _
    rw [ez]
    exact hR x8 ⟨gz8, up _ _ D.TIz (up5 _ _ D.TIz D.TITO D.TIi1 D.TIi2 gi), ⟨_, _, up _ _ D.TOz go5⟩, g15.to fun _ => up _ _ D.i1z, g25.to fun _ => up _ _ D.i2z⟩ gT fun a o n1 n2 n3 n4 z => up a o n1 (up5 a o n1 n2 n3 n4 z))
theorem k_stop {R : PySem.Fin → Shared → Prop} (hd : ar.handled = none) (D : ZipApart q QI QO p1 p2 m1 m2) (S : ZSt c d t.heap q QI QO p1 p2 m1 m2 n .none) (hu : KSeq c t.heap m1 us) (hw : KSeq d t.heap m2 ws) (en : us[n]? = none ∨ ws[n]? = none)
    (hB : ∀ g e, (∀ a o, a ≠ q → a ≠ QO → a ≠ p1 → a ≠ p2 → t.heap.get? a = some o → g.get? a = some o) → (∃ o, g.get? e = some o ∧ o.cls = .type "StopIteration") → B (.ref e) { t with heap := g }) :
    wpAny (model pg wd) ar (Builtin.«zip.__next__» ⟨[.ref q], []⟩) R B t := by
  obtain ⟨gz, gi, ⟨f, g, go⟩, g1, g2⟩ := S
  show wpAny _ _ (field (.ref q) 2 >>= _) _ _ _
  refine wpAny_bind <| wpAny_field gz rfl (x := .bool false) rfl ?_
  show wpAny _ _ (field (.ref q) 3 >>= _) _ _ _
  refine wpAny_bind <| wpAny_field gz rfl (x := .ref QI) rfl (wpAny_bind (wpAny_seqItems gi rfl ?_))
  show wpAny _ _ (Builtin.SmallTypes.ownedTupleIsFree (.ref q) >>= _) _ _ _
  refine wpAny_bind ?_
  unfold Builtin.SmallTypes.ownedTupleIsFree
  refine wpAny_bind <| wpAny_field gz rfl (x := .none) rfl (wpAny_pure ?_)
  simp only [if_true]
  refine wpAny_bind <| wpAny_rule <| wpAny_bind <| wpAny_field gz rfl (x := .ref QO) rfl ?_
  refine wpAny_bind <| wpAny_setField_rec gz (by simp) fun x1 gz1 e1 => ?_
  replace gz1 : IsZip x1 q QI QO .ellipsis := gz1
  refine wpAny_bind ?_
  simp only [List.zipIdx_cons, List.forIn_cons, List.zipIdx_nil, List.forIn_nil]
  refine wpAny_bind <| wpAny_bind <| wpAny_onRaise ?_
  show wpAny _ _ (Builtin.SmallTypes.nextOf (.ref p1) >>= _) _ _ _
  have fin : ∀ (y : Heap) (e : Addr), IsZip y q QI QO .ellipsis → (∃ o, y.get? e = some o ∧ o.cls = .type "StopIteration") → (∀ a o, a ≠ q → a ≠ QO → a ≠ p1 → a ≠ p2 → t.heap.get? a = some o → y.get? a = some o) →
      wpAny (model pg wd) ar (setField (.ref q) 0 .none) (fun _ => B (.ref e)) B { t with heap := y } := fun y e zy he k => by
    obtain ⟨oe, w1, w2⟩ := he
    have ne : e ≠ q := fun x => by subst x; rw [zy] at w1; cases w1; simp at w2
    exact wpAny_setField_rec zy (by simp) fun y2 _ ey => hB y2 e (fun a o n1 n2 n3 n4 x => ey.extBut _ _ n1 (k a o n1 n2 n3 n4 x)) ⟨oe, ey.extBut _ _ ne w1, w2⟩
  cases eu : us[n]? with
  | none =>
    refine wpAny_bind <| k_last hd (g1.to fun _ => e1.extBut _ _ D.i1z) (hu.to fun _ => e1.extBut _ _ D.l1z) eu fun x2 e e2 he => ?_
    exact fin x2 e (e2 _ _ D.i1z.symm gz1) he fun a o n1 _ n3 _ x => e2 _ _ n3 (e1.extBut _ _ n1 x)
  | some u =>
    have ew : ws[n]? = none := by
      rcases en with z | z
      · rw [eu] at z; cases z
      · exact z
    refine wpAny_bind <| k_next (g1.to fun _ => e1.extBut _ _ D.i1z) (hu.to fun _ => e1.extBut _ _ D.l1z) eu fun x2 g12 e2 => wpAny_pure ?_
    have go2 : IsPair x2 QO f g := e2.extBut _ _ D.TOi1 (e1.extBut _ _ D.TOz go)
    refine wpAny_bind <| wpAny_seqItems go2 rfl <| wpAny_bind <| wpAny_updateSeq_pair go2 fun x3 go3 e3 => ?_
    refine wpAny_bind <| wpAny_letGo <| wpAny_pure ?_
    refine wpAny_bind <| wpAny_bind <| wpAny_onRaise ?_
    show wpAny _ _ (Builtin.SmallTypes.nextOf (.ref p2) >>= _) _ _ _
    refine wpAny_bind <| k_last hd (g2.to fun _ z => e3.extBut _ _ D.TOi2.symm (e2.extBut _ _ D.i12.symm (e1.extBut _ _ D.i2z z))) (hw.to fun _ z => e3.extBut _ _ D.l2TO (e2.extBut _ _ D.l2i1 (e1.extBut _ _ D.l2z z))) ew fun x4 e e4 he => ?_
    exact fin x4 e (e4 _ _ D.i2z.symm (e3.extBut _ _ D.TOz.symm (e2.extBut _ _ D.i1z.symm gz1))) he fun a o n1 n2 n3 n4 x => e4 _ _ n4 (e3.extBut _ _ n2 (e2.extBut _ _ n3 (e1.extBut _ _ n1 x)))
theorem k_pyNext {R : Option Value → Shared → Prop} (D : ZipApart q QI QO p1 p2 m1 m2) (S : ZSt c d t.heap q QI QO p1 p2 m1 m2 n .none) (hu : KSeq c t.heap m1 us) (hw : KSeq d t.heap m2 ws) (eu : us[n]? = some u) (ew : ws[n]? = some v)
    (hR : ∀ g, ZSt c d g q QI QO p1 p2 m1 m2 (n + 1) (rawInt t.heap.objs.size) → IsPair g t.heap.objs.size u v →
      (∀ a o, a ≠ q → a ≠ QO → a ≠ p1 → a ≠ p2 → t.heap.get? a = some o → g.get? a = some o) → R (some (.ref t.heap.objs.size)) { t with heap := g }) :
    wpAny (model pg wd) ar (pyNext (.ref q)) R B t := by
  have ty : t.TypeIs (.ref q) "zip" := ⟨_, S.z, rfl⟩
  unfold pyNext
  refine wpAny_bind <| wpAny_attempt <| wpAny_callSpecial?_slot (name := Str.ofString "__next__") ty F.slot_zip_next ?_
  exact wpAny_call_entry F.slot_zip_next ty F.entry_zip_next (k_turn D S hu hw eu ew fun g s1 s2 s3 => wpAny_pure (hR g s1 s2 s3)) (F.args_zip_next_1 _)
theorem k_pyStop {R : Option Value → Shared → Prop} (hd : ar.handled = none) (D : ZipApart q QI QO p1 p2 m1 m2) (S : ZSt c d t.heap q QI QO p1 p2 m1 m2 n .none) (hu : KSeq c t.heap m1 us) (hw : KSeq d t.heap m2 ws) (en : us[n]? = none ∨ ws[n]? = none)
    (hR : ∀ g, (∀ a o, a ≠ q → a ≠ QO → a ≠ p1 → a ≠ p2 → t.heap.get? a = some o → g.get? a = some o) → R none { t with heap := g }) : wpAny (model pg wd) ar (pyNext (.ref q)) R B t := by
  have ty : t.TypeIs (.ref q) "zip" := ⟨_, S.z, rfl⟩
  unfold pyNext
  refine wpAny_bind <| wpAny_attempt <| wpAny_callSpecial?_slot (name := Str.ofString "__next__") ty F.slot_zip_next ?_
  refine wpAny_call_entry F.slot_zip_next ty F.entry_zip_next (k_stop hd D S hu hw en fun g e k he => ?_) (F.args_zip_next_1 _)
  obtain ⟨o, e1, e2⟩ := he
  exact wpAny_bind <| wpAny_isInstance (T := "StopIteration") (b := true) ⟨o, e1, e2⟩ isSubtype_stop <| wpAny_pure (hR _ k)
end
/-! the making -/
abbrev zA (c : Bool) (h : Heap) (m1 : Addr) : Heap := h.push (itObj c m1)
abbrev zB (c d : Bool) (h : Heap) (m1 m2 : Addr) : Heap := (zA c h m1).push (itObj d m2)
abbrev zC (c d : Bool) (h : Heap) (m1 m2 : Addr) : Heap := (zB c d h m1 m2).push { cls := .type "tuple", data := .seq #[.ref h.objs.size, .ref (zA c h m1).objs.size] }
abbrev zD (c d : Bool) (h : Heap) (m1 m2 : Addr) : Heap := (zC c d h m1 m2).push { cls := .type "tuple", data := .seq #[.none, .none] }
abbrev zE (c d : Bool) (h : Heap) (m1 m2 : Addr) : Heap := (zD c d h m1 m2).push { cls := .type "zip", data := .fields #[.none, .bool false, .bool false, .ref (zB c d h m1 m2).objs.size, .ref (zC c d h m1 m2).objs.size] }
theorem k_made (c d : Bool) (m1 m2 : Addr) (us ws : Array Value) : Meets (Builtin.«zip.__new__» ⟨[.type "zip", .ref m1, .ref m2], []⟩)
    (fun _ R t => KSeq c t.heap m1 us ∧ KSeq d t.heap m2 ws ∧ R (.ok (.ret (.ref (zD c d t.heap m1 m2).objs.size))) { t with heap := zE c d t.heap m1 m2 }) :=
  .of_wp fun pg wd ar R t z => by
    obtain ⟨hp, g, dd, tk, os⟩ := t
    obtain ⟨z1, z2, z⟩ := z
    have hsub := sub_zip
    have q1 : KSeq c (Shared.heap ⟨hp, g, dd, tk, os⟩) m1 us := z1
    have q2 : KSeq d (Shared.heap ⟨hp.push (itObj c m1), g, dd, tk, os⟩) m2 ws := z2.to fun o e => Heap.get?_push_of_some _ e
    wp_walk using k_iter q1, k_iter q2
    exact ⟨_, rfl, z⟩
theorem itObj_it (k : Bool) {h : Heap} {p l : Addr} (e : h.get? p = some (itObj k l)) : KIt k h p l 0 := by
  cases k <;> exact ⟨_, e, rfl, rfl⟩
section
variable {pg : Program} {wd : World} {ar : Around} {B : Value → Shared → Prop} {t : Shared} {c d : Bool} {us ws : Array Value} {m1 m2 : Addr}
theorem k_zip {R : Value → Shared → Prop} (hu : KSeq c t.heap m1 us) (hw : KSeq d t.heap m2 ws)
    (hR : ∀ g, ZSt c d g (t.heap.objs.size + 4) (t.heap.objs.size + 2) (t.heap.objs.size + 3) t.heap.objs.size (t.heap.objs.size + 1) m1 m2 0 .none →
      (∀ a o, t.heap.get? a = some o → g.get? a = some o) → R (.ref (t.heap.objs.size + 4)) { t with heap := g }) :
    wpAny (model pg wd) ar (call (.type "zip") [.ref m1, .ref m2]) R B t := by
  refine callType_new F.called_zip (by decide) (F.typeCall_zip_2 _ _) (F.newCall_zip_2 _ _) (fun ob => F.args_object_init_3 ob _ _) F.entry_zip_new (k_made c d m1 m2 us ws) ⟨hu, hw, ?_⟩
  have sA : (zA c t.heap m1).objs.size = t.heap.objs.size + 1 := Heap.size_push ..
  have sB : (zB c d t.heap m1 m2).objs.size = t.heap.objs.size + 2 := by rw [Heap.size_push, sA]
  have sC : (zC c d t.heap m1 m2).objs.size = t.heap.objs.size + 3 := by rw [Heap.size_push, sB]
  have sD : (zD c d t.heap m1 m2).objs.size = t.heap.objs.size + 4 := by rw [Heap.size_push, sC]
  have up := fun (h : Heap) (ob : Obj) (a : Addr) (o : Obj) (e : h.get? a = some o) => Heap.get?_push_of_some (h := h) ob e
  have gE : (zE c d t.heap m1 m2).get? (zD c d t.heap m1 m2).objs.size = some _ := Heap.get?_push_size _ rfl
  have gD : (zE c d t.heap m1 m2).get? (zC c d t.heap m1 m2).objs.size = some _ := up _ _ _ _ (Heap.get?_push_size _ rfl)
  have gC : (zE c d t.heap m1 m2).get? (zB c d t.heap m1 m2).objs.size = some _ := up _ _ _ _ (up _ _ _ _ (Heap.get?_push_size _ rfl))
  have gB : (zE c d t.heap m1 m2).get? (zA c t.heap m1).objs.size = some _ := up _ _ _ _ (up _ _ _ _ (up _ _ _ _ (Heap.get?_push_size _ rfl)))
  have gA : (zE c d t.heap m1 m2).get? t.heap.objs.size = some _ := up _ _ _ _ (up _ _ _ _ (up _ _ _ _ (up _ _ _ _ (Heap.get?_push_size _ rfl))))
  show _ ∧ _
  rw [sB, sC, sD] at gE
  rw [sA, sB] at gC
  rw [sC] at gD
  rw [sA] at gB
  rw [sD]
  exact ⟨⟨_, gE, rfl⟩, hR _ ⟨gE, gC, ⟨_, _, gD⟩, itObj_it c gA, itObj_it d gB⟩ fun a o e => up _ _ _ _ (up _ _ _ _ (up _ _ _ _ (up _ _ _ _ (up _ _ _ _ e))))⟩
end
/-! the walk over it -/
def SqK (K : PySem.W.Frag) (k : Bool) (H : Hp) (a : Addr) (vs : List V) : Prop := match k with
  | true => SqL K H a vs
  | false => SqT K H a vs
theorem inv_sq {X : Cx} {pins : List (Addr × Obj)} {σ : L2.St} {H : Hp} {s : Shared} {k : Bool} {a : Addr} {vs : List V} (I : Inv X pins σ H s) (h : SqK X.K k H a vs) : ∃ its : List Value, Vals vs its ∧ KSeq k s.heap a its.toArray := by
  cases k
  · obtain ⟨its, r, p, _⟩ := I.tuple h
    exact ⟨its, r, p⟩
  · obtain ⟨its, r, p, _⟩ := I.list h
    exact ⟨its, r, p.isList⟩
theorem inv_one {X : Cx} {pins : List (Addr × Obj)} {σ : L2.St} {H : Hp} {s : Shared} {k : Bool} {a : Addr} {vs ws : List V} (I : Inv X pins σ H s) (h : SqK X.K k H a vs) (h' : SqK X.K k H a ws) : vs = ws := by
  cases k
  · exact I.tuple_inj h h'
  · exact I.list_inj h h'
def ItK (K : PySem.W.Frag) (c d : Bool) (a b : Addr) : It where
  go := fun i H => ∃ vs ws x y, SqK K c H a vs ∧ SqK K d H b ws ∧ vs[i]? = some x ∧ ws[i]? = some y
  yld := fun i H v H' => ∃ T x y, (v = .ref T ∧ H T = none ∧ H' = upd H T (.tup [x, y])) ∧ (∀ vs, SqK K c H a vs → vs[i]? = some x) ∧ ∀ ws, SqK K d H b ws → ws[i]? = some y
  stop := fun i H => ∃ vs ws, SqK K c H a vs ∧ SqK K d H b ws ∧ (vs.length ≤ i ∨ ws.length ≤ i)
theorem five {q QI QO p1 p2 a : Addr} {P : Addr → Prop} (ha : a ∈ [q, QI, QO, p1, p2]) (h1 : P q) (h2 : P QI) (h3 : P QO) (h4 : P p1) (h5 : P p2) : P a := by
  have e : a = q ∨ a = QI ∨ a = QO ∨ a = p1 ∨ a = p2 := by simpa using ha
  rcases e with e | e | e | e | e <;> (rw [e]; assumption)
theorem k_walk {P : Program} {w : World} {K : PySem.W.Frag} {elts : List Expr} {kk : Nat} {tpos : Pos} {c d : Bool} {a b q QI QO p1 p2 : Addr} (D : ZipApart q QI QO p1 p2 a b) :
    Turn P w K (.Tuple elts kk tpos) (ItK K c d a b) [q, QI, QO, p1, p2] q (fun i h => ZSt c d h q QI QO p1 p2 a b i .none) where
  mem := List.mem_cons_self
  obj := fun i h S x hx => by
    obtain ⟨f, g, go⟩ := S.o
    obtain ⟨o1, e1, f1, _⟩ := S.a.ex
    obtain ⟨o2, e2, f2, _⟩ := S.b.ex
    exact five (P := fun x => ∃ o, h.get? x = some o ∧ ∀ v, o.data ≠ .cell v) hx ⟨_, S.z, fun v z => nomatch z⟩ ⟨_, S.i, fun v z => nomatch z⟩ ⟨_, go, fun v z => nomatch z⟩ ⟨o1, e1, f1⟩ ⟨o2, e2, f2⟩
  keep := fun i h h' S k => by
    obtain ⟨f, g, go⟩ := S.o
    exact ⟨k q (by simp) _ S.z, k QI (by simp) _ S.i, ⟨f, g, k QO (by simp) _ go⟩, S.a.to fun o z => k p1 (by simp) o z, S.b.to fun o z => k p2 (by simp) o z⟩
  item := by
    intro X hP hw hK hc i pins s σ H E I hf S hg
    subst hP hw hK
    obtain ⟨vs, ws, x, y, hv, hw, ex, ey⟩ := hg
    obtain ⟨us1, r1, k1⟩ := inv_sq I hv
    obtain ⟨us2, r2, k2⟩ := inv_sq I hw
    obtain ⟨u, eu, ru⟩ := r1.get ex
    obtain ⟨u2, eu2, ru2⟩ := r2.get ey
    have lz : q < s.heap.objs.size := Heap.lt_size S.z
    refine k_pyNext D S k1 k2 (u := u) (v := u2) (by simpa using eu) (by simpa using eu2) fun g S' gT up => ?_
    refine ⟨_, rfl, wpAny_letOwnedTupleGo_zip (s := { s with heap := g }) S'.z fun g2 z2 sb => ?_⟩
    have gT2 : g2.get? s.heap.objs.size = some { cls := .type "tuple", data := .seq #[u, u2] } := (sb.2 _ (Nat.ne_of_gt lz)).trans gT
    have mk : ObjOk X.prog X.w (upd H s.heap.objs.size (.tup [x, y])) g2 s.heap.objs.size (.tup [x, y]) := ⟨by show 2 ≤ sizeLine; decide, [u, u2], .cons ru (.cons ru2 .nil), ⟨_, gT2, rfl, _, rfl⟩⟩
    have kp : ∀ (a : Addr) o, a ∉ [q, QI, QO, p1, p2] → s.heap.get? a = some o → g2.get? a = some o := fun a o na e =>
      (sb.2 a fun z => na (by simp [z])).trans (up a o (fun z => na (by simp [z])) (fun z => na (by simp [z])) (fun z => na (by simp [z])) (fun z => na (by simp [z])) e)
    have I2 : Inv X pins σ (upd H s.heap.objs.size (.tup [x, y])) { s with heap := g2 } := I.turnedNew (t' := s.toks) (ch := [q, QI, QO, p1, p2]) kp hf (Nat.le_refl _) mk
    have tail : ZSt c d g2 q QI QO p1 p2 a b (i + 1) .none := by
      obtain ⟨f, g, go⟩ := S'.o
      exact ⟨z2, (sb.2 _ D.TIz).trans S'.i, ⟨f, g, (sb.2 _ D.TOz).trans go⟩, S'.a.to fun o z => (sb.2 _ D.i1z).trans z, S'.b.to fun o z => (sb.2 _ D.i2z).trans z⟩
    refine ⟨.ref s.heap.objs.size, _, I2, rfl, ⟨_, x, y, ⟨rfl, I.hok.fresh (Nat.le_refl _), rfl⟩, fun l hl => by rw [inv_one I hl hv]; exact ex, fun l hl => by rw [inv_one I hl hw]; exact ey⟩, tail, fun z hz => ?_⟩
    obtain ⟨f, g, go⟩ := S.o
    have lt : z < s.heap.objs.size := five (P := fun z => z < s.heap.objs.size) hz lz (Heap.lt_size S.i) (Heap.lt_size go) S.a.lt S.b.lt
    rw [upd_ne (Nat.ne_of_lt lt)]
    exact (hf z hz).1
  done := by
    intro X hP hw hK hc i pins s σ H E I hf S hg
    subst hP hw hK
    obtain ⟨vs, ws, hv, hw, en⟩ := hg
    obtain ⟨us1, r1, k1⟩ := inv_sq I hv
    obtain ⟨us2, r2, k2⟩ := inv_sq I hw
    have l1 := r1.length
    have l2 := r2.length
    have he : us1.toArray[i]? = none ∨ us2.toArray[i]? = none := by
      rcases en with z | z
      · exact Or.inl (by simp; omega)
      · exact Or.inr (by simp; omega)
    exact k_pyStop (I.ok.hd hc) D S k1 k2 he fun g up => ⟨rfl, I.turnedL (t' := s.toks) (ch := [q, QI, QO, p1, p2]) (fun a o na e => up a o (fun z => na (by simp [z])) (fun z => na (by simp [z])) (fun z => na (by simp [z])) (fun z => na (by simp [z])) e) hf⟩
  self := fun A i s Q E S h => wpAny_pyIter_zip S.z h
def zipT (K : PySem.W.Frag) (ta : TA) : TI := fun σ H R => ta σ H fun vs H1 => ∃ c d a b xs ys, vs = [.ref a, .ref b] ∧ SqK K c H1 a xs ∧ SqK K d H1 b ys ∧ R (ItK K c d a b) H1
theorem k_over {X : Cx} {e e2 : Expr} {ta : TA} {p pos tpos : Pos} {elts : List Expr} {kk : Nat} (hg : Gl X "zip") (hm : X.mg "zip" = none) (ha : PA X [e, e2] ta)
    (h1 : starEach [e, e2] X.env = (false, eval e X.env) :: starEach [e2] X.env) (h2 : (backTo pos (starEach [e2] X.env)).any (·.1) = false) :
    PI X (.Tuple elts kk tpos) (.Call (.Name "zip" p) [e, e2] [] pos) (zipT X.K ta) := by
  refine ⟨fun pins s σ H R I h => PyProof.Rows.Call_ (ld_blt I hg hm PyProof.Rows.boot_zip (PyProof.Rows.callWith_type1 (thn (ha.run pos pins s σ H _ I h) fun us s1 z => ?_) h1 h2))⟩
  obtain ⟨vs, H1, I1, r1, c, d, a, b, xs, ys, rfl, qx, qy, z⟩ := z
  match us, r1 with
  | [_, _], .cons ra (.cons rb .nil) =>
    cases ra
    cases rb
    obtain ⟨us1, _, k1⟩ := inv_sq I1 qx
    obtain ⟨us2, _, k2⟩ := inv_sq I1 qy
    refine k_zip k1 k2 fun g S up => wpAny_pyIter_zip S.z ?_
    have fr : ∀ i : Nat, FpOk X pins H1 (s1.heap.objs.size + i) := fun i => I1.fpOk (Nat.le_add_right _ _) (I1.hok.fresh (Nat.le_add_right _ _))
    exact ⟨_, _, _, _, H1, rfl, I1.kept (t' := s1.toks) up, k_walk (PySem.W.ktu_apart s1.heap.objs.size a b k1.lt k2.lt), S, fun x hx => five hx (fr 4) (fr 2) (fr 3) (fr 0) (fr 1), z⟩
theorem itk_ok {K : PySem.W.Frag} {cm : Nat → Addr} {c d t : Bool} {a b : Addr} {vs ws : List V} {ds es : List Dt} {H0 G0 : Hp} (h1 : ∀ H G, StK H0 G0 t H G → SqK K c H a vs) (h2 : ∀ H G, StK H0 G0 t H G → SqK K d H b ws) (n1 : DenL K cm G0 vs ds) (n2 : DenL K cm G0 ws es) :
    ItOk K cm (ItK K c d a b) (List.zipWith (fun x y => Dt.tup [x, y]) ds es) t H0 G0 where
  go := fun i H G s hi => by
    rw [List.length_zipWith] at hi
    have i1 : i < vs.length := by rw [n1.length]; omega
    have i2 : i < ws.length := by rw [n2.length]; omega
    exact ⟨vs, ws, vs[i], ws[i], h1 H G s, h2 H G s, List.getElem?_eq_getElem i1, List.getElem?_eq_getElem i2⟩
  yl := fun i H G v H' s hi y => by
    obtain ⟨T, x, y, ⟨rfl, hT, rfl⟩, y1, y2⟩ := y
    obtain ⟨d1, e1, dn1⟩ := n1.get' (y1 vs (h1 _ _ s))
    obtain ⟨d2, e2, dn2⟩ := n2.get' (y2 ws (h2 _ _ s))
    have g := Grow.new (o := .tup [x, y]) s.sub hT
    refine ⟨_, .tup [d1, d2], ?_, g, .tup (SqT.of upd_same) (.cons ((dn1.mono s.gx).mono g.gx) (.one ((dn2.mono s.gx).mono g.gx)))⟩
    rw [List.getElem?_zipWith, e1, e2]
  stop := fun i H G s hi => by
    rw [List.length_zipWith] at hi
    refine ⟨vs, ws, h1 H G s, h2 H G s, ?_⟩
    rw [n1.length, n2.length]
    omega
theorem VR.seq {K : PySem.W.Frag} {cm : Nat → Addr} {H G : Hp} {v : V} {d : Dt} {t : Bool} {ds : List Dt} (s : Exx G H) (r : VR K cm H G v d t) (e : seqOf d = some ds) :
    ∃ c a vs, v = .ref a ∧ DenL K cm G vs ds ∧ SqK K c H a vs ∧ (t = false → SqK K c G a vs) := by
  cases t with
  | false =>
    cases r.2 rfl with
    | lst s1 n1 => cases e; exact ⟨true, _, _, rfl, n1, s.sqL s1, fun _ => s1⟩
    | tup s1 n1 => cases e; exact ⟨false, _, _, rfl, n1, s.sqT s1, fun _ => s1⟩
    | non => cases e
    | bl => cases e
    | int => cases e
    | str => cases e
    | obj => cases e
    | exn0 => cases e
    | exn => cases e
  | true =>
    obtain ⟨l, vs, ds', rfl, rfl, s1, n1⟩ := r.1 rfl
    cases e
    exact ⟨true, l, vs, rfl, n1, s1, fun z => nomatch z⟩
theorem SqK.ex {K : PySem.W.Frag} {c : Bool} {H H' : Hp} {a : Addr} {vs : List V} (e : Exx H H') (h : SqK K c H a vs) : SqK K c H' a vs := by
  cases c
  · exact e.sqT h
  · exact e.sqL h
theorem ji_zip {X : Cx} {cm : Nat → Addr} {a b : Expr} {fa fb : EF} {p pos tpos : Pos} {elts : List Expr} {kk : Nat} (hg : Gl X "zip") (hm : X.mg "zip" = none) (ha : JE X cm a fa) (hb : JE X cm b fb)
    (he : starEach [a, b] X.env = (false, eval a X.env) :: starEach [b] X.env := by rfl) (he2 : starEach [b] X.env = (false, eval b X.env) :: starEach [] X.env := by rfl) (hpl : (backTo pos (starEach [b] X.env)).any (·.1) = false := by rfl) : JI X cm (.Tuple elts kk tpos) (.Call (.Name "zip" p) [a, b] [] pos) (iZip fa fb) := by
  refine ⟨fun env ds t σ H G hf rel Q q => ?_⟩
  obtain ⟨ra, h1, hf⟩ := Option.bind_eq_some_iff.mp hf
  obtain ⟨rb, h2, hf⟩ := Option.bind_eq_some_iff.mp hf
  obtain ⟨xs, e1, hf⟩ := Option.bind_eq_some_iff.mp hf
  obtain ⟨ys, e2, hf⟩ := Option.bind_eq_some_iff.mp hf
  cases hf
  refine to_i (k_over hg hm (pa_cons pe_w (pa_cons pe_w pa_nil he2) he) he hpl) (ha.pub h1 rel fun v H1 G1 g1 vr => hb.pub h2 (rel.grow g1) fun w H2 G2 g2 wr => ?_)
  obtain ⟨c, l1, vs, rfl, n1, s1, t1⟩ := vr.seq g1.sub e1
  obtain ⟨d, l2, ws, rfl, n2, s2, t2⟩ := wr.seq g2.sub e2
  refine ⟨c, d, l1, l2, vs, ws, rfl, s1.ex g2.hx, s2, q _ H2 G2 (g1.trans g2) (itk_ok (fun H G s => ?_) (fun H G s => ?_) (n1.mono g2.gx) n2)⟩
  · cases ht : ra.sh with
    | false => exact ((t1 ht).ex g2.gx).ex (s.gx.trans s.sub)
    | true => exact (s1.ex g2.hx).ex (s.hx (by rw [ht]; rfl))
  · cases ht : rb.sh with
    | false => exact (t2 ht).ex (s.gx.trans s.sub)
    | true => exact s2.ex (s.hx (by rw [ht, Bool.or_true]))
end Pyl
end
section
set_option Elab.async false
set_option linter.all false
set_option maxRecDepth 100000
set_option maxHeartbeats 4000000
namespace Pyl
open PySem L2
/-! ### comprehensions -/
section
variable {X : Cx} {cm : Nat → Addr} {σ : L2.St} {H G : Hp} {env : Sl}
theorem wipeS_length (env : Sl) : ∀ is : List Nat, (wipeS env is).length = env.length
  | [] => rfl
  | i :: is => by unfold wipeS; rw [List.length_set, wipeS_length env is]
theorem wipeS_get {env : Sl} {j : Nat} {s : Slot} : ∀ {is : List Nat}, (wipeS env is)[j]? = some s → s = .non ∨ (env[j]? = some s ∧ j ∉ is)
  | [], h => .inr ⟨h, fun m => by cases m⟩
  | i :: is, h => by
    unfold wipeS at h
    rcases get_set h with ⟨_, e, _⟩ | ⟨ne, h⟩
    · exact .inl e
    · rcases wipeS_get h with e | ⟨e, n⟩
      · exact .inl e
      · refine .inr ⟨e, fun m => ?_⟩
        rcases List.mem_cons.mp m with q | q
        · exact ne q.symm
        · exact n q
theorem wipe_get {σ : L2.St} {j : Nat} : ∀ {is : List Nat}, j ∉ is → (wipe σ is)[j]? = σ[j]?
  | [], _ => rfl
  | i :: is, h => by
    unfold wipe
    rw [List.getElem?_set_ne (fun e => h (by rw [e]; exact List.mem_cons_self)), wipe_get (fun m => h (List.mem_cons_of_mem _ m))]
theorem Held.wipe {is : List Nat} {j : Nat} {a : Addr} (h : Held H (L2.wipe σ is) (wipeS env is) j a) : Held H σ env j a := by
  rcases h with ⟨od, h1, h2⟩ | ⟨dss, l, as, h1, h2, h3⟩
  · rcases wipeS_get h1 with e | ⟨e, n⟩
    · cases e
    · rw [wipe_get n] at h2
      exact .inl ⟨od, e, h2⟩
  · rcases wipeS_get h1 with e | ⟨e, n⟩
    · cases e
    · rw [wipe_get n] at h2
      exact .inr ⟨dss, l, as, e, h2, h3⟩
theorem Rel.wipe {K : PySem.W.Frag} (r : Rel K cm σ H G env) (is : List Nat) : Rel K cm (wipe σ is) H G (wipeS env is) where
  len := by rw [wipe_length, wipeS_length, r.len]
  sub := r.sub
  val := fun j d hj => by
    rcases wipeS_get hj with e | ⟨e, n⟩
    · cases e
    · rw [wipe_get n]
      exact r.val j d e
  own := fun j od hj => by
    rcases wipeS_get hj with e | ⟨e, n⟩
    · cases e
    · rw [wipe_get n]
      exact r.own j od e
  mat := fun j dss hj => by
    rcases wipeS_get hj with e | ⟨e, n⟩
    · cases e
    · rw [wipe_get n]
      exact r.mat j dss e
  dist := fun j k a hj hk => r.dist j k a (Held.wipe hj) (Held.wipe hk)
theorem ext_get {α : Type} {l l' : List α} (hl : l.length = l'.length) (h : ∀ j : Nat, l[j]? = l'[j]?) : l = l' := List.ext_getElem? h
theorem wipe_at {σ : L2.St} {j : Nat} : ∀ {is : List Nat}, j ∈ is → (wipe σ is)[j]? = if j < σ.length then some none else none
  | [], h => by cases h
  | i :: is, h => by
    unfold L2.wipe
    by_cases e : i = j
    · subst e
      by_cases hl : i < σ.length
      · rw [if_pos hl, List.getElem?_set_self (by rw [wipe_length]; exact hl)]
      · rw [if_neg hl, List.getElem?_eq_none (by rw [List.length_set, wipe_length]; omega)]
    · rw [List.getElem?_set_ne e]
      rcases List.mem_cons.mp h with q | q
      · exact absurd q.symm e
      · exact wipe_at q
theorem wipe_eq {σ σ' : L2.St} {is js : List Nat} (hl : σ'.length = σ.length) (hs : ∀ j : Nat, j ∉ js → σ'[j]? = (L2.wipe σ is)[j]?) (sub : ∀ j ∈ js, j ∈ is) : L2.wipe σ' is = L2.wipe σ is := by
  refine List.ext_getElem? fun j => ?_
  by_cases h : j ∈ is
  · rw [wipe_at h, wipe_at h, hl]
  · rw [wipe_get h, hs j (fun m => h (sub j m))]
theorem compL_cons {g : Dt → Option (List Dt)} {d : Dt} {ds out : List Dt} (h : compL g (d :: ds) = some out) : ∃ o r, g d = some o ∧ compL g ds = some r ∧ out = o ++ r := by
  obtain ⟨o, h1, h⟩ := Option.bind_eq_some_iff.mp h
  obtain ⟨r, h2, h⟩ := Option.bind_eq_some_iff.mp h
  cases h
  exact ⟨o, r, h1, h2, rfl⟩
theorem drop_get {α : Type} {l : List α} {i : Nat} {x : α} (h : l[i]? = some x) : l.drop i = x :: l.drop (i + 1) := by
  obtain ⟨hl, e⟩ := List.getElem?_eq_some_iff.mp h
  rw [← e]
  exact List.drop_eq_getElem_cons hl
/-- the tests of a comprehension: none or one -/
structure JTs (X : Cx) (cm : Nat → Addr) (ifs : List Expr) (f : TF) : Prop where
  ex : ∀ (env : Sl) (b : Bool) (σ : L2.St) (H G : Hp), f env = some b → Rel X.K cm σ H G env → ∀ Q : Bool → Hp → Prop, (∀ H' G', Grow H G H' G' → Q b H') → ∃ t : TT, PTs X ifs t ∧ t σ H Q
theorem jts_nil : JTs X cm [] tYes := ⟨fun env b σ H G hf rel Q q => ⟨_, pts_nil, by cases hf; exact q H G (.refl rel.sub)⟩⟩
theorem jts_one {c : Expr} {t : TF} (h : JT X cm c t) : JTs X cm [c] t := ⟨fun env b σ H G hf rel Q q => ⟨_, pts_one pt_w, h.run env b σ H G hf rel Q q⟩⟩
def wpTs (X : Cx) (ifs : List Expr) : TT := fun σ H Q => ∃ t : TT, PTs X ifs t ∧ t σ H Q
theorem pts_w {ifs : List Expr} : PTs X ifs (wpTs X ifs) := ⟨fun pins s σ H Q I h => by
  obtain ⟨t, h1, h2⟩ := h
  exact h1.run pins s σ H Q I h2⟩

/-- the weakest readings in every block -/
def gB (X : Cx) (scope : Scope) (tg : Expr) : TG := fun v σ H Q => ∀ (s : Shared) (H0 : Hp) (C : Addr) (cl : List (Str × Addr)) (fp : List Addr), wpG (X.blk s H0 scope (compEnvC scope cl C X.env) fp) tg v σ H Q
def tB' (X : Cx) (scope : Scope) (ifs : List Expr) : TT := fun σ H Q => ∀ (s : Shared) (H0 : Hp) (C : Addr) (cl : List (Str × Addr)) (fp : List Addr), wpTs (X.blk s H0 scope (compEnvC scope cl C X.env) fp) ifs σ H Q
def eB (X : Cx) (scope : Scope) (elt : Expr) : TE := fun σ H Q => ∀ (s : Shared) (H0 : Hp) (C : Addr) (cl : List (Str × Addr)) (fp : List Addr), wpE (X.blk s H0 scope (compEnvC scope cl C X.env) fp) elt σ H Q
theorem pg_B {scope : Scope} {tg : Expr} {s : Shared} {H0 : Hp} {C : Addr} {cl : List (Str × Addr)} {fp : List Addr} : PG (X.blk s H0 scope (compEnvC scope cl C X.env) fp) tg (gB X scope tg) := ⟨fun pins s1 σ H v u Q I r h => h s H0 C cl fp pins s1 u I r⟩
theorem pt_B {scope : Scope} {ifs : List Expr} {s : Shared} {H0 : Hp} {C : Addr} {cl : List (Str × Addr)} {fp : List Addr} : PTs (X.blk s H0 scope (compEnvC scope cl C X.env) fp) ifs (tB' X scope ifs) := ⟨fun pins s1 σ H Q I h => pts_w.run pins s1 σ H Q I (h s H0 C cl fp)⟩
theorem pe_B {scope : Scope} {elt : Expr} {s : Shared} {H0 : Hp} {C : Addr} {cl : List (Str × Addr)} {fp : List Addr} : PE (X.blk s H0 scope (compEnvC scope cl C X.env) fp) elt (eB X scope elt) := ⟨fun pins s1 σ H Q I h => h s H0 C cl fp pins s1 I⟩
/-- a comprehension's reading: its parts in every block -/
theorem je_comp {elt tg iter : Expr} {ifs : List Expr} {scope : Scope} {own : List (Str × Nat)} {js : List Nat} {fi : IF} {g : GF} {ft : TF} {fe : EF} (hc : X.calm = true) (hN : X.N.Nodup) (hi : JI X cm tg iter fi) (ok : blkC X.N X.env.scope scope own = true)
    (hg : ∀ (s : Shared) (H : Hp) (C : Addr) (cl : List (Str × Addr)) (fp : List Addr), JG (X.blk s H scope (compEnvC scope cl C X.env) fp) cm tg js g) (hj : ∀ j ∈ js, j ∈ own.map (·.2))
    (ht : ∀ (s : Shared) (H : Hp) (C : Addr) (cl : List (Str × Addr)) (fp : List Addr), JTs (X.blk s H scope (compEnvC scope cl C X.env) fp) cm ifs ft)
    (he : ∀ (s : Shared) (H : Hp) (C : Addr) (cl : List (Str × Addr)) (fp : List Addr), JE (X.blk s H scope (compEnvC scope cl C X.env) fp) cm elt fe) (hs : ∀ x, foldedSetIterable iter X.env x = pure x := by intro _; rfl) :
    (∀ (env : Sl) (r : R) (σ : L2.St) (H G : Hp), eComp (own.map (·.2)) fi g ft fe env = some r → Rel X.K cm σ H G env → ∀ Q : VK, (∀ v H' G', Grow H G H' G' → RR X.K cm H H' G' v r → Q v H') →
      tLc (wpI X tg iter) (gB X scope tg) (tB' X scope ifs) (eB X scope elt) (own.map (·.2)) σ H Q) := by
  intro env r σ H G hf rel Q q
  obtain ⟨⟨ds, bb⟩, h1, hf⟩ := Option.bind_eq_some_iff.mp hf
  obtain ⟨out, h2, hf⟩ := Option.bind_eq_some_iff.mp hf
  dsimp only at h2 hf
  split at hf
  case isFalse => cases hf
  rename_i hlen
  cases hf
  refine hi.run env ds bb σ H G h1 rel _ fun J H1 G1 g1 jok => fun D hD => ?_
  have rel1 := rel.grow g1
  have hl := jok
  -- the invariant
  refine ⟨fun i m H' => m = ds.length - i ∧ i ≤ ds.length ∧ ∃ (G' : Hp) (av : List V) (ad ro : List Dt), Exx G' H' ∧ Exx G1 G' ∧ Exx H1 H' ∧ (∀ a o, H1 a = some o → G1 a = none → G' a = none) ∧ H' D = some (.lst av) ∧ G' D = none ∧ DenL X.K cm G' av ad ∧ ad.length ≤ i ∧
    compL (compG env (own.map (·.2)) g ft fe) (ds.drop i) = some ro ∧ out = ad ++ ro, ⟨ds.length, rfl, Nat.zero_le _, G1, [], [], out, (Grow.hide g1.sub hD).sub, .refl _, .new hD, fun _ _ _ n => n, upd_same, g1.sub.back hD, .nil, Nat.le_refl _, by rw [List.drop_zero]; exact h2, rfl⟩, ?_⟩
  rintro i m H' ⟨rfl, hi', G', av, ad, ro, sub, gx, hx, hid, hHD, hGD, den, hal, hro, hout⟩
  have st : StK H1 G1 bb H' G' := ⟨sub, gx, fun _ => hx⟩
  by_cases hlt : i < ds.length
  · refine .inr ⟨jok.go i H' G' st hlt, fun H2 => i + 1 ≤ ds.length ∧ ∃ (G' : Hp) (av : List V) (ad ro : List Dt), Exx G' H2 ∧ Exx G1 G' ∧ Exx H1 H2 ∧ (∀ a o, H1 a = some o → G1 a = none → G' a = none) ∧ H2 D = some (.lst av) ∧ G' D = none ∧ DenL X.K cm G' av ad ∧ ad.length ≤ i + 1 ∧
      compL (compG env (own.map (·.2)) g ft fe) (ds.drop (i + 1)) = some ro ∧ out = ad ++ ro, fun H2 hw => ⟨ds.length - (i + 1), by omega, rfl, hw⟩, fun v H2 hy => ?_⟩
    obtain ⟨G2, d, hd, g2, dn⟩ := jok.yl i H' G' v H2 st hlt hy
    rw [drop_get hd] at hro
    obtain ⟨o, ro', ho, hro', rfl⟩ := compL_cons hro
    obtain ⟨env', hg', ho⟩ := Option.bind_eq_some_iff.mp ho
    obtain ⟨t, ht', ho⟩ := Option.bind_eq_some_iff.mp ho
    have relb : Rel X.K cm (L2.wipe σ (own.map (·.2))) H2 G2 (wipeS env (own.map (·.2))) := by
      refine ((Rel.grow rel1 (H' := H') (G' := G') ⟨hx, gx, hid, sub⟩).grow g2).wipe _
    intro s H0 C cl fp
    refine (hg s H0 C cl fp).run _ env' d v _ H2 G2 hg' relb dn _ fun σ' rel' fr' same len => ⟨wipe_eq (len.trans (wipe_length _ _)) same hj, ?_⟩
    intro s H0 C cl fp
    refine (ht s H0 C cl fp).ex env' t σ' H2 G2 ht' rel' _ fun H3 G3 g3 => ?_
    have g23 := g2.trans g3
    have hx3 := hx.trans g23.hx
    have gx3 := gx.trans g23.gx
    have hid3 : ∀ a o, H1 a = some o → G1 a = none → G3 a = none := fun a o h n => g23.hid a o (hx a o h) (hid a o h n)
    have hD3 := g23.hx D _ hHD
    have gD3 := g23.hid D _ hHD hGD
    cases t with
    | false =>
      cases ho
      exact iteF ⟨hlt, G3, av, ad, ro', g3.sub, gx3, hx3, hid3, hD3, gD3, den.mono g23.gx, by omega, hro', hout⟩
    | true =>
      obtain ⟨re, he', ho⟩ := Option.bind_eq_some_iff.mp ho
      split at ho
      · cases ho
      · rename_i hsh
        cases ho
        refine iteT ?_
        intro s H0 C cl fp
        refine (he s H0 C cl fp).pub he' (rel'.grow g3) fun y H4 G4 g4 vr => ?_
        have hsh' : re.sh = false := by simpa using hsh
        rw [hsh'] at vr
        have g24 := g23.trans g4
        refine ⟨av, g24.hx D _ hHD, ?_, hlt, G4, av ++ [y], ad ++ [re.dt], ro', ?_, gx.trans g24.gx, ?_, fun a o h n => g24.hid a o (hx a o h) (hid a o h n), upd_same, g24.hid D _ hHD hGD, ?_, ?_, hro', ?_⟩
        · rw [den.length]
          exact Nat.lt_of_le_of_lt hal (Nat.lt_of_lt_of_le (Nat.lt_of_lt_of_le hlt hlen) (lim_ok (Nat.le_refl _)))
        · intro a o h
          by_cases e : a = D
          · subst e
            rw [g24.hid _ _ hHD hGD] at h
            cases h
          · rw [upd_ne e]
            exact g4.sub a o h
        · intro a o h
          rw [upd_ne (ne_of_none h hD)]
          exact g24.hx a o (hx a o h)
        · exact (den.mono g24.gx).append (.one vr.den)
        · rw [List.length_append, List.length_singleton]
          omega
        · rw [List.append_assoc]
          exact hout
  · have e : i = ds.length := by omega
    subst e
    refine .inl ⟨jok.stop _ H' G' st (Nat.le_refl _), ?_⟩
    rw [List.drop_length] at hro
    cases hro
    rw [List.append_nil] at hout
    subst hout
    refine q _ H' G' (g1.trans ⟨hx, gx, hid, sub⟩) ⟨D, _, rfl, g1.hx.back hD, hHD, hGD, den⟩
end
end Pyl
end
section
set_option Elab.async false
set_option linter.all false
set_option maxRecDepth 100000
set_option maxHeartbeats 4000000
namespace Pyl
open PySem L2
/-! ### a comprehension as a value -/
section
variable {X : Cx} {cm : Nat → Addr} {elt tg iter : Expr} {ifs : List Expr} {scope : Scope} {pos : Pos} {js : List Nat} {fi : IF} {g : GF} {ft : TF} {fe : EF}
theorem je_lc (own : List (Str × Nat)) (hc : X.calm = true) (hN : X.N.Nodup) (hi : JI X cm tg iter fi) (ok : blkC X.N X.env.scope scope own = true)
    (hg : ∀ (s : Shared) (H : Hp) (C : Addr) (cl : List (Str × Addr)) (fp : List Addr), JG (X.blk s H scope (compEnvC scope cl C X.env) fp) cm tg js g) (hj : ∀ j ∈ js, j ∈ own.map (·.2))
    (ht : ∀ (s : Shared) (H : Hp) (C : Addr) (cl : List (Str × Addr)) (fp : List Addr), JTs (X.blk s H scope (compEnvC scope cl C X.env) fp) cm ifs ft)
    (he : ∀ (s : Shared) (H : Hp) (C : Addr) (cl : List (Str × Addr)) (fp : List Addr), JE (X.blk s H scope (compEnvC scope cl C X.env) fp) cm elt fe) (hs : ∀ x, foldedSetIterable iter X.env x = pure x := by intro _; rfl) :
    JE X cm (.ListComp elt [⟨tg, iter, ifs, 0⟩] scope pos) (eComp (own.map (·.2)) fi g ft fe) :=
  ⟨fun env r σ H G hf rel Q q => to_e (pe_lc hc hN pi_w (blkOk_by ok) (fun _ _ _ _ _ => pg_B) (fun _ _ _ _ _ => pt_B) (fun _ _ _ _ _ => pe_B) hs) (je_comp hc hN hi ok hg hj ht he hs env r σ H G hf rel Q q)⟩
end

/-! ### statements -/
/-- the fields of an error, in its dict -/
def XdR (K : PySem.W.Frag) (cm : Nat → Addr) (G : Hp) (d : Option Addr) (fs : List (Str × Dt)) : Prop := (d = none ∧ fs = []) ∨ ∃ dd fv, d = some dd ∧ G dd = some (.xd fv) ∧ DenF K cm G fv fs
/-- an error that the context takes -/
def exW (X : Cx) : WX := fun cls d σ H => ∀ u s', L2N.XE X (fun c' d' σ' H' => c' = cls ∧ d' = d ∧ σ' = σ ∧ H' = H) u s' → X.xe u s'
theorem takes_exW (X : Cx) : L2N.Takes X (exW X) := fun u s' ⟨a, B, sI, pins, σ, H, cls, d, e, I, nb, up, sky, na, os, ag, w⟩ => w u s' ⟨a, B, sI, pins, σ, H, cls, d, e, I, nb, up, sky, na, os, ag, rfl, rfl, rfl, rfl⟩
theorem exW_of {X : Cx} {W : WX} (t : L2N.Takes X W) {cls : Value} {d : Option Addr} {σ : L2.St} {H : Hp} (w : W cls d σ H) : exW X cls d σ H := fun u s' ⟨a, B, sI, pins, σ', H', cls', d', e, I, nb, up, sky, na, os, ag, e1, e2, e3, e4⟩ => by
  subst e1 e2 e3 e4
  exact t u s' ⟨a, B, sI, pins, σ', H', cls', d', e, I, nb, up, sky, na, os, ag, w⟩
/-- how the ends that are wanted of the heaps follow from those that are wanted of the data -/
structure EndsOk (X : Cx) (cm : Nat → Addr) (σ : L2.St) (env : Sl) (H G : Hp) (D' : En) (D : Ends) : Prop where
  nx : ∀ σ' H' G' env', Rel X.K cm σ' H' G' env' → Fr σ env H G σ' env' H' G' → D'.nx env' → D.nx σ' H'
  rt : ∀ v H' G' d, FrH σ env H G H' G' → Den X.K cm G' v d → D'.rt d → D.rt v H'
  bk : ∀ σ' H' G' env', Rel X.K cm σ' H' G' env' → Fr σ env H G σ' env' H' G' → D'.bk env' → D.bk σ' H'
  ct : ∀ σ' H' G' env', Rel X.K cm σ' H' G' env' → Fr σ env H G σ' env' H' G' → D'.ct env' → D.ct σ' H'
  er : ∀ σ' H' G' env' c fs dd, Rel X.K cm σ' H' G' env' → Fr σ env H G σ' env' H' G' → XdR X.K cm G' dd fs → D'.er c fs env' → exW X (.ref (cm c)) dd σ' H'
structure JS (X : Cx) (cm : Nat → Addr) (st : Stmt) (w : WS) : Prop where
  run : ∀ (env : Sl) (D' : En) (σ : L2.St) (H G : Hp), w D' env → Rel X.K cm σ H G env → ∀ D : Ends, EndsOk X cm σ env H G D' D → wpS X st D σ H
structure JSs (X : Cx) (cm : Nat → Addr) (st : List Stmt) (w : WS) : Prop where
  run : ∀ (env : Sl) (D' : En) (σ : L2.St) (H G : Hp), w D' env → Rel X.K cm σ H G env → ∀ D : Ends, EndsOk X cm σ env H G D' D → wpSs X st D σ H
/-- from a later state on -/
theorem EndsOk.later {X : Cx} {cm : Nat → Addr} {σ σ1 : L2.St} {env env1 : Sl} {H G H1 G1 : Hp} {D' : En} {D : Ends} (o : EndsOk X cm σ env H G D' D) (f : Fr σ env H G σ1 env1 H1 G1) : EndsOk X cm σ1 env1 H1 G1 D' D :=
  ⟨fun σ' H' G' env' r g => o.nx σ' H' G' env' r (f.trans g), fun v H' G' d g => o.rt v H' G' d (f.trH g), fun σ' H' G' env' r g => o.bk σ' H' G' env' r (f.trans g), fun σ' H' G' env' r g => o.ct σ' H' G' env' r (f.trans g), fun σ' H' G' env' c fs dd r g => o.er σ' H' G' env' c fs dd r (f.trans g)⟩
section
variable {X : Cx} {cm : Nat → Addr} {e a b c tg iter : Expr} {f fa fb fc : EF} {σ : L2.St} {H G : Hp} {env : Sl} {pos p : Pos} {st : Stmt} {sts rest body : List Stmt} {w u wb : WS} {x : Str} {t : TF}
theorem jss_nil : JSs X cm [] wNil := ⟨fun env D' σ H G hw rel D o => to_ss pss_nil (o.nx σ H G env rel (.refl rel.sub) hw)⟩
theorem jss_cons (h1 : JS X cm st w) (h2 : JSs X cm rest u) : JSs X cm (st :: rest) (wSeq w u) := by
  refine ⟨fun env D' σ H G hw rel D o => to_ss (pss_cons ps_w pss_w) ?_⟩
  obtain ⟨M, hw, hk⟩ := hw
  refine h1.run env { D' with nx := M } σ H G hw rel _ ⟨fun σ' H' G' env' r g n => ?_, o.rt, o.bk, o.ct, o.er⟩
  exact h2.run env' D' σ' H' G' (hk env' n) r D (o.later g)
theorem jss_one (h1 : JS X cm st w) : JSs X cm [st] w := ⟨fun env D' σ H G hw rel D o => to_ss (pss_one ps_w) (h1.run env D' σ H G hw rel D o)⟩
/-- who holds what, one name changed -/
theorem Held.set {H : Hp} {σ σ' : L2.St} {env : Sl} {i j : Nat} {a : Addr} {s : Slot} (h : Held H σ' (env.set i s) j a) (e : ∀ k : Nat, k ≠ i → σ'[k]? = σ[k]?) : (j = i ∧ Held H σ' (env.set i s) i a) ∨ (j ≠ i ∧ Held H σ env j a) := by
  by_cases q : j = i
  · subst q; exact .inl ⟨rfl, h⟩
  · refine .inr ⟨q, ?_⟩
    rcases h with ⟨od, h1, h2⟩ | ⟨dss, l, as, h1, h2, h3⟩
    · rw [List.getElem?_set_ne (Ne.symm q)] at h1
      rw [e j q] at h2
      exact .inl ⟨od, h1, h2⟩
    · rw [List.getElem?_set_ne (Ne.symm q)] at h1
      rw [e j q] at h2
      exact .inr ⟨dss, l, as, h1, h2, h3⟩
theorem Held.noVal {H : Hp} {σ : L2.St} {env : Sl} {i : Nat} {a : Addr} {d : Dt} (h : Held H σ (env.set i (.val d)) i a) : False := by
  rcases h with ⟨od, h1, h2⟩ | ⟨dss, l, as, h1, h2, h3⟩ <;> rcases get_set h1 with ⟨_, e, _⟩ | ⟨ne, _⟩
  · cases e
  · exact ne rfl
  · cases e
  · exact ne rfl
/-- what a name holds is shown -/
theorem frz_core {K : PySem.W.Frag} {i : Nat} {v : V} {d : Dt} {G' : Hp} (r : Rel K cm σ H G env) (hv : σ[i]? = some (some v)) (gx : Exx G G') (sub : Exx G' H) (hd : Den K cm G' v d) (only : ∀ a, G a = none → G' a ≠ none → Held H σ env i a) :
    Rel K cm σ H G' (env.set i (.val d)) ∧ Fr σ env H G σ (env.set i (.val d)) H G' := by
  have back : ∀ {j : Nat} {a : Addr}, Held H σ (env.set i (.val d)) j a → j ≠ i ∧ Held H σ env j a := fun h => by
    rcases Held.set h (fun _ _ => rfl) with ⟨_, q⟩ | q
    · exact q.noVal.elim
    · exact q
  have non : ∀ {j : Nat} {a : Addr}, j ≠ i → Held H σ env j a → G' a = none := fun {j a} ne h => by
    obtain ⟨_, n⟩ := Held.at_ r h
    cases q : G' a with
    | none => rfl
    | some o => exact absurd (r.dist j i a h (only a n (by rw [q]; exact fun e => by cases e))) ne
  refine ⟨⟨by rw [List.length_set, r.len], sub, fun j d' hj => ?_, fun j od hj => ?_, fun j dss hj => ?_, fun j k a hj hk => r.dist j k a (back hj).2 (back hk).2⟩, ⟨⟨gx, fun a o h n w => ?_, fun _ _ h _ => h, fun a o h => ⟨o, h⟩, sub⟩, fun a o h n ⟨j, q⟩ => n ⟨j, (back q).2⟩, fun j hj => ?_⟩⟩
  · rcases get_set hj with ⟨rfl, q, hl⟩ | ⟨ne, hj⟩
    · cases q
      exact ⟨_, hv, hd⟩
    · obtain ⟨w, k1, k2⟩ := r.val j d' hj
      exact ⟨w, k1, k2.mono gx⟩
  · rcases get_set hj with ⟨rfl, q, hl⟩ | ⟨ne, hj⟩
    · cases q
    · obtain ⟨l', o', k1, k2, k3, k4⟩ := r.own j od hj
      exact ⟨l', o', k1, k2, non (Ne.symm ne) (.inl ⟨od, hj, k1⟩), k4.mono gx⟩
  · rcases get_set hj with ⟨rfl, q, hl⟩ | ⟨ne, hj⟩
    · cases q
    · obtain ⟨l', as, k1, k2⟩ := r.mat j dss hj
      refine ⟨l', as, k1, k2.at_, non (Ne.symm ne) (Held.mat r hj k1 k2 List.mem_cons_self), k2.nd, k2.len, fun k a ds e1 e2 => ?_⟩
      obtain ⟨vs, q1, q2, q3⟩ := k2.row k a ds e1 e2
      exact ⟨vs, q1, non (Ne.symm ne) (Held.mat r hj k1 k2 (List.mem_cons_of_mem _ (List.mem_of_getElem? e1))), q3.mono gx⟩
  · cases q : G' a with
    | none => rfl
    | some o' => exact absurd ⟨i, only a n (by rw [q]; exact fun e => by cases e)⟩ w
  · rcases get_set hj with ⟨rfl, q, hl⟩ | ⟨ne, hj⟩
    · cases q
    · exact ⟨hj, rfl⟩
theorem den_rows {K : PySem.W.Frag} {G : Hp} : ∀ {as : List Addr} {dss : List (List Dt)}, as.length = dss.length → (∀ (k : Nat) (a : Addr) (ds : List Dt), as[k]? = some a → dss[k]? = some ds → ∃ vs, G a = some (.lst vs) ∧ DenL K cm G vs ds) → DenL K cm G (as.map V.ref) (dss.map Dt.lst)
  | [], [], _, _ => .nil
  | a :: as, ds :: dss, e, h => by
    obtain ⟨vs, h1, h2⟩ := h 0 a ds rfl rfl
    exact .cons (.lst (SqL.of h1) h2) (den_rows (by simpa using e) fun k b es q1 q2 => h (k + 1) b es (by simpa using q1) (by simpa using q2))
  | [], _ :: _, e, _ => by cases e
  | _ :: _, [], e, _ => by cases e
open Classical in
/-- the heap G and what stands at these addresses in H -/
noncomputable def withA (G H : Hp) (as : List Addr) : Hp := fun a => if a ∈ as then H a else G a
theorem withA_in {G H : Hp} {as : List Addr} {a : Addr} (h : a ∈ as) : withA G H as a = H a := if_pos h
theorem withA_out {G H : Hp} {as : List Addr} {a : Addr} (h : a ∉ as) : withA G H as a = G a := if_neg h
theorem withA_gx {G H : Hp} {as : List Addr} (n : ∀ a ∈ as, G a = none) : Exx G (withA G H as) := fun a o h => by
  rw [withA_out (fun q => by rw [n a q] at h; cases h)]
  exact h
theorem withA_sub {G H : Hp} {as : List Addr} (s : Exx G H) : Exx (withA G H as) H := fun a o h => by
  by_cases q : a ∈ as
  · rw [withA_in q] at h; exact h
  · rw [withA_out q] at h; exact s a o h
theorem MatR.den {K : PySem.W.Frag} {H G : Hp} {l : Addr} {as : List Addr} {dss : List (List Dt)} (m : MatR K cm H G l as dss) : Den K cm (withA G H (l :: as)) (.ref l) (.lst (dss.map .lst)) := by
  refine .lst (SqL.of (xs := as.map V.ref) ?_) (den_rows m.len fun k a ds e1 e2 => ?_)
  · rw [withA_in List.mem_cons_self]; exact m.at_
  · obtain ⟨vs, q1, q2, q3⟩ := m.row k a ds e1 e2
    refine ⟨vs, ?_, q3.mono (withA_gx fun b hb => (m.all hb).2)⟩
    rw [withA_in (List.mem_cons_of_mem _ (List.mem_of_getElem? e1))]; exact q1
/-- nothing happens but that a name's own list is data from now on -/
theorem Rel.frz {K : PySem.W.Frag} {i : Nat} (r : Rel K cm σ H G env) : ∃ G', Rel K cm σ H G' (frzS i env) ∧ Fr σ env H G σ (frzS i env) H G' := by
  unfold frzS
  split
  case h_3 => exact ⟨G, r, .refl r.sub⟩
  case h_1 od hi =>
    obtain ⟨l, o, h1, h2, h3, h4⟩ := r.own i od hi
    cases o <;> cases od <;> first | exact h4.elim | skip
    rename_i vs ds
    have e : Exx G (upd G l (.lst vs)) := .new h3
    exact ⟨_, frz_core r h1 e (fun a o h => by
      by_cases q : a = l
      · subst q; rw [upd_same] at h; cases h; exact h2
      · rw [upd_ne q] at h; exact r.sub a o h) (.lst (SqL.of upd_same) (DenL.mono e h4)) fun a n h => by
      by_cases q : a = l
      · subst q; exact .inl ⟨_, hi, h1⟩
      · rw [upd_ne q] at h; exact absurd n h⟩
  case h_2 dss hi =>
    obtain ⟨l, as, h1, h2⟩ := r.mat i dss hi
    exact ⟨_, frz_core r h1 (withA_gx fun b hb => (h2.all hb).2) (withA_sub r.sub) h2.den fun a n h => by
      by_cases q : a ∈ l :: as
      · exact Held.mat r hi h1 h2 q
      · rw [withA_out q] at h; exact absurd n h⟩
theorem jss_frz (i : Nat) (h : JSs X cm sts w) : JSs X cm sts (wFrz i w) := by
  refine ⟨fun env D' σ H G hw rel D o => ?_⟩
  obtain ⟨G', rel', fr⟩ := rel.frz (i := i)
  exact h.run _ D' σ H G' hw rel' D (o.later fr)
theorem js_pass : JS X cm (.Pass pos) wNil := ⟨fun env D' σ H G hw rel D o => to_s ps_pass (o.nx σ H G env rel (.refl rel.sub) hw)⟩
theorem js_break : JS X cm (.Break pos) wBrk := ⟨fun env D' σ H G hw rel D o => to_s ps_break (o.bk σ H G env rel (.refl rel.sub) hw)⟩
theorem js_continue : JS X cm (.Continue pos) wCnt := ⟨fun env D' σ H G hw rel D o => to_s ps_continue (o.ct σ H G env rel (.refl rel.sub) hw)⟩
theorem js_ret (he : JE X cm e f) : JS X cm (.Return (some e) pos) (wRet f) := by
  refine ⟨fun env D' σ H G hw rel D o => to_s (ps_ret pe_w) ?_⟩
  obtain ⟨r, h1, h2, h3⟩ := hw
  refine he.pub h1 rel fun v H1 G1 g1 vr => ?_
  rw [h2] at vr
  exact o.rt v H1 G1 _ g1.frH vr.den h3
theorem js_retN : JS X cm (.Return none pos) wRetN := ⟨fun env D' σ H G hw rel D o => to_s ps_retN (o.rt _ H G _ (Grow.refl rel.sub).frH Den.non hw)⟩
theorem js_drop (he : JE X cm e f) (hs : swapsWith e none pos.line X.env = pure false := by rfl) : JS X cm (.Expr e pos) (wDrop f) := by
  refine ⟨fun env D' σ H G hw rel D o => to_s (ps_expr pe_w hs) ?_⟩
  obtain ⟨r, h1, h2⟩ := hw
  refine he.pub h1 rel fun v H1 G1 g1 vr => ?_
  exact o.nx σ H1 G1 env (rel.grow g1) (rel.fr g1) h2
theorem js_if {as bs : List Stmt} {wa : WS} (hc : JT X cm c t) (ha : JSs X cm as wa) (hb : JSs X cm bs wb) : JS X cm (.If c as bs pos) (wIf t wa wb) := by
  refine ⟨fun env D' σ H G hw rel D o => to_s (ps_if pt_w pss_w pss_w) ?_⟩
  obtain ⟨k, h1, h2, h3⟩ := hw
  refine hc.run env k σ H G h1 rel _ fun H1 G1 g1 => ?_
  cases k with
  | true => exact iteT (ha.run env D' σ H1 G1 (h2 rfl) (rel.grow g1) D (o.later (rel.fr g1)))
  | false => exact iteF (hb.run env D' σ H1 G1 (h3 rfl) (rel.grow g1) D (o.later (rel.fr g1)))
/-- a name gets something of its own, at new addresses -/
theorem own_core {K : PySem.W.Frag} {i : Nat} {v : V} {s : Slot} {H1 G1 : Hp} (r : Rel K cm σ H G env) (g : Grow H G H1 G1) (nv : ∀ d, s ≠ .val d) (nt : s ≠ .take) (new : ∀ a, i < env.length → Held H1 (σ.set i (some v)) (env.set i s) i a → H a = none)
    (hown : ∀ od, s = .own od → ∃ l o, v = .ref l ∧ H1 l = some o ∧ G1 l = none ∧ OwnR K cm G1 o od) (hmat : ∀ dss, s = .mat dss → ∃ l as, v = .ref l ∧ MatR K cm H1 G1 l as dss) :
    Rel K cm (σ.set i (some v)) H1 G1 (env.set i s) ∧ Fr σ env H G (σ.set i (some v)) (env.set i s) H1 G1 := by
  have off : ∀ k : Nat, k ≠ i → (σ.set i (some v))[k]? = σ[k]? := fun k h => List.getElem?_set_ne (Ne.symm h)
  have self : ∀ {j : Nat}, j < (env.set i s).length → j = i → (σ.set i (some v))[j]? = some (some v) := fun {j} hl e => by
    subst e
    rw [List.length_set] at hl
    exact List.getElem?_set_self (by rw [r.len]; exact hl)
  have cls : ∀ {j : Nat} {a : Addr}, Held H1 (σ.set i (some v)) (env.set i s) j a → (j = i ∧ H a = none) ∨ (j ≠ i ∧ Held H σ env j a) := fun {j a} h => by
    rcases Held.set h off with ⟨e, q⟩ | ⟨ne, q⟩
    · refine .inl ⟨e, new a ?_ q⟩
      have : i < (env.set i s).length := by
        rcases q with ⟨od, h1, _⟩ | ⟨dss, l, as, h1, _⟩ <;> exact (List.getElem?_eq_some_iff.mp h1).1
      rwa [List.length_set] at this
    · exact .inr ⟨ne, r.held g.hx q⟩
  refine ⟨⟨by rw [List.length_set, List.length_set, r.len], g.sub, fun j d' hj => ?_, fun j od hj => ?_, fun j dss hj => ?_, fun j k a hj hk => ?_⟩, { g.frH with fresh := fun a o h w ⟨j, q⟩ => ?_, take := fun j hj => ?_ }⟩
  · rcases get_set hj with ⟨rfl, e, hl⟩ | ⟨ne, hj⟩
    · exact absurd e.symm (nv d')
    · obtain ⟨w, h1, h2⟩ := r.val j d' hj
      exact ⟨w, by rw [List.getElem?_set_ne ne]; exact h1, h2.mono g.gx⟩
  · rcases get_set hj with ⟨rfl, e, hl⟩ | ⟨ne, hj⟩
    · obtain ⟨l, o, rfl, k1, k2, k3⟩ := hown od e.symm
      exact ⟨l, o, List.getElem?_set_self (by rw [r.len]; exact hl), k1, k2, k3⟩
    · obtain ⟨l, o, h1, h2, h3, h4⟩ := (r.grow g).own j od hj
      exact ⟨l, o, by rw [List.getElem?_set_ne ne]; exact h1, h2, h3, h4⟩
  · rcases get_set hj with ⟨rfl, e, hl⟩ | ⟨ne, hj⟩
    · obtain ⟨l, as, rfl, k1⟩ := hmat dss e.symm
      exact ⟨l, as, List.getElem?_set_self (by rw [r.len]; exact hl), k1⟩
    · obtain ⟨l, as, h1, h2⟩ := (r.grow g).mat j dss hj
      exact ⟨l, as, by rw [List.getElem?_set_ne ne]; exact h1, h2⟩
  · rcases cls hj with ⟨e, n⟩ | ⟨ne, q⟩ <;> rcases cls hk with ⟨e', n'⟩ | ⟨ne', q'⟩
    · exact e.trans e'.symm
    · obtain ⟨⟨o, ho⟩, _⟩ := Held.at_ r q'
      rw [n] at ho; cases ho
    · obtain ⟨⟨o, ho⟩, _⟩ := Held.at_ r q
      rw [n'] at ho; cases ho
    · exact r.dist j k a q q'
  · rcases cls q with ⟨e, n⟩ | ⟨ne, q⟩
    · rw [n] at h; cases h
    · exact w ⟨j, q⟩
  · rcases get_set hj with ⟨rfl, e, hl⟩ | ⟨ne, hj⟩
    · exact absurd e.symm nt
    · exact ⟨hj, List.getElem?_set_ne ne⟩
/-- what an assignment leaves, from the heaps H, G ahead of the expression -/
theorem asg_own {K : PySem.W.Frag} {i : Nat} {l : Addr} {o : HO} {od : OD} {H1 G1 : Hp} (r : Rel K cm σ H G env) (g : Grow H G H1 G1) (n : H l = none) (h1 : H1 l = some o) (h2 : G1 l = none) (h3 : OwnR K cm G1 o od) :
    Rel K cm (σ.set i (some (.ref l))) H1 G1 (env.set i (.own od)) ∧ Fr σ env H G (σ.set i (some (.ref l))) (env.set i (.own od)) H1 G1 := by
  refine own_core r g (fun d e => by cases e) (fun e => by cases e) (fun a hl h => ?_) (fun od' e => ?_) (fun dss e => by cases e)
  · rcases h with ⟨od', _, q⟩ | ⟨dss, l', as, q, _⟩
    · rw [List.getElem?_set_self (by rw [r.len]; exact hl)] at q
      cases q
      exact n
    · rw [List.getElem?_set_self hl] at q
      cases q
  · cases e
    exact ⟨l, o, rfl, h1, h2, h3⟩
theorem asg_mat {K : PySem.W.Frag} {i : Nat} {l : Addr} {as : List Addr} {dss : List (List Dt)} {H1 G1 : Hp} (r : Rel K cm σ H G env) (g : Grow H G H1 G1) (n : ∀ a ∈ l :: as, H a = none) (m : MatR K cm H1 G1 l as dss) :
    Rel K cm (σ.set i (some (.ref l))) H1 G1 (env.set i (.mat dss)) ∧ Fr σ env H G (σ.set i (some (.ref l))) (env.set i (.mat dss)) H1 G1 := by
  refine own_core r g (fun d e => by cases e) (fun e => by cases e) (fun a hl h => ?_) (fun od' e => by cases e) (fun dss' e => ?_)
  · rcases h with ⟨od', q, _⟩ | ⟨dss', l', as', q, q2, q3, q4⟩
    · rw [List.getElem?_set_self hl] at q
      cases q
    · rw [List.getElem?_set_self (by rw [r.len]; exact hl)] at q2
      cases q2
      have z := m.at_
      rw [q3] at z
      have z2 : as' = as := refs_inj (HO.lst.inj (Option.some.inj z))
      subst z2
      exact n a q4
  · cases e
    exact ⟨l, as, rfl, m⟩
theorem asg_nx {i : Nat} {r : R} {v : V} {H1 G1 : Hp} {D' : En} {D : Ends} (rel : Rel X.K cm σ H G env) (g : Grow H G H1 G1) (rr : RR X.K cm H H1 G1 v r) (hs : r.sh = false) (hn : D'.nx (env.set i r.slot)) (o : EndsOk X cm σ env H G D' D) : D.nx (σ.set i (some v)) H1 := by
  cases r with
  | vis d => exact o.nx _ _ _ _ ((rel.grow g).setVal rr) ((rel.fr g).trans (.setVal g.sub)) hn
  | bor d => cases hs
  | fre od =>
    obtain ⟨l, ob, rfl, h1, h2, h3, h4⟩ := rr
    obtain ⟨q1, q2⟩ := asg_own (i := i) rel g h1 h2 h3 h4
    exact o.nx _ _ _ _ q1 q2 hn
theorem js_asg (i : Nat) {pos' : Pos} (hN : X.N.Nodup) (he : JE X cm e f) (hi : X.N[i]? = some x := by rfl) (hx : Loc X.env.scope x := by first | exact Or.inl rfl | exact Or.inr rfl) (hs : swapsWith e (some (.Name x pos')) pos.line X.env = pure false := by rfl)
    (hf : X.fn x = true ∨ X.env.scope.names.lookup x = some .local := by first | exact .inl rfl | exact .inr rfl | assumption) : JS X cm (.Assign [.Name x pos'] e pos) (wAsg i f) := by
  refine ⟨fun env D' σ H G hw rel D o => to_s (ps_set hN hi hx pe_w hs hf) ?_⟩
  obtain ⟨r, h1, h2, h3⟩ := hw
  refine he.run env r σ H G h1 rel _ fun v H1 G1 g1 rr => ?_
  exact asg_nx rel g1 rr h2 h3 o
/-- name = [comprehension] -/
theorem js_asgLc {elt : Expr} {ifs : List Expr} {scope : Scope} {js : List Nat} {fi : IF} {g : GF} {ft : TF} {fe : EF} {py : Pos} (i : Nat) (own : List (Str × Nat)) (hc : X.calm = true) (hN : X.N.Nodup) (hy : X.N[i]? = some x) (hyl : X.env.scope.names.lookup x = some .local)
    (hsw : swapsWith (.ListComp elt [⟨tg, iter, ifs, 0⟩] scope p) (some (.Name x py)) pos.line X.env = pure true) (hi : JI X cm tg iter fi) (ok : blkC X.N X.env.scope scope own = true)
    (hg : ∀ (s : Shared) (H : Hp) (C : Addr) (cl : List (Str × Addr)) (fp : List Addr), JG (X.blk s H scope (compEnvC scope cl C X.env) fp) cm tg js g) (hj : ∀ j ∈ js, j ∈ own.map (·.2))
    (ht : ∀ (s : Shared) (H : Hp) (C : Addr) (cl : List (Str × Addr)) (fp : List Addr), JTs (X.blk s H scope (compEnvC scope cl C X.env) fp) cm ifs ft)
    (he : ∀ (s : Shared) (H : Hp) (C : Addr) (cl : List (Str × Addr)) (fp : List Addr), JE (X.blk s H scope (compEnvC scope cl C X.env) fp) cm elt fe) (hs : ∀ x, foldedSetIterable iter X.env x = pure x := by intro _; rfl) :
    JS X cm (.Assign [.Name x py] (.ListComp elt [⟨tg, iter, ifs, 0⟩] scope p) pos) (wAsg i (eComp (own.map (·.2)) fi g ft fe)) := by
  refine ⟨fun env D' σ H G hw rel D o => to_s (ps_setLc hc hN hy hyl hsw pi_w (blkOk_by ok) (fun _ _ _ _ _ => pg_B) (fun _ _ _ _ _ => pt_B) (fun _ _ _ _ _ => pe_B) hs) ?_⟩
  obtain ⟨r, h1, h2, h3⟩ := hw
  refine je_comp hc hN hi ok hg hj ht he hs env r σ H G h1 rel _ fun v H1 G1 g1 rr => ?_
  exact asg_nx rel g1 rr h2 h3 o
/-- a, b = e, e a tuple -/
theorem js_unp {es : List Expr} {k : Nat} {is : List Nat} {pt : Pos} (hc : X.calm = true) (he : JE X cm e f) (hg : JGs X cm es is) (hn : (assignEach es X.env).length = is.length := by rfl) (hst : (assignEach es X.env).findIdx? (·.1) = none := by rfl)
    (hs : swapsWithSole [.Tuple es k pt] e pos.line X.env = pure false := by rfl) (hw : swappedStores [.Tuple es k pt] e X.env = pure none := by rfl) (h1 : (assignEach [.Tuple es k pt] X.env).map (·.2) = [assign (.Tuple es k pt) X.env] := by rfl) :
    JS X cm (.Assign [.Tuple es k pt] e pos) (wUnp is f) := by
  refine ⟨fun env D' σ H G hww rel D o => to_s (ps_asg pe_w pg_w hs hw h1) ?_⟩
  obtain ⟨d, env', k1, k2, k3⟩ := hww
  refine he.run env _ σ H G k1 rel _ fun v H1 G1 g1 rr => ?_
  refine (jg_tup hc hg hn hst).run env env' d v σ H1 G1 k2 (rel.grow g1) rr _ fun σ' rel' fr' _ _ => ?_
  exact o.nx _ _ _ _ rel' ((rel.fr g1).trans fr') k3
/-- what a name holds as its own is changed -/
theorem upd_core {K : PySem.W.Frag} {i : Nat} {v : V} {s : Slot} {H1 G1 H2 : Hp} (r : Rel K cm σ H G env) (g : Grow H G H1 G1) (hl : σ[i]? = some (some v)) (nv : ∀ d, s ≠ .val d) (nt : s ≠ .take) (keep : ∀ a o, H1 a = some o → ¬ Held H σ env i a → H2 a = some o) (there : ∀ a o, H1 a = some o → ∃ o', H2 a = some o')
    (mine : ∀ a, i < env.length → Held H2 σ (env.set i s) i a → Held H σ env i a ∨ H a = none)
    (hown : ∀ od, s = .own od → ∃ l o, v = .ref l ∧ H2 l = some o ∧ G1 l = none ∧ OwnR K cm G1 o od) (hmat : ∀ dss, s = .mat dss → ∃ l as, v = .ref l ∧ MatR K cm H2 G1 l as dss) :
    Rel K cm σ H2 G1 (env.set i s) ∧ Fr σ env H G σ (env.set i s) H2 G1 := by
  have r1 := r.grow g
  have gn : ∀ a, Held H σ env i a → G1 a = none := fun a h => by
    obtain ⟨⟨o, h1⟩, h2⟩ := Held.at_ r h
    exact g.hid a o h1 h2
  have sub : Exx G1 H2 := fun a u e => keep a u (g.sub a u e) fun h => by
    rw [gn a h] at e; cases e
  -- other names hold what they held
  have other : ∀ {j : Nat} {a : Addr}, j ≠ i → Held H2 σ env j a → Held H σ env j a := fun {j a} ne h => by
    rcases h with h | ⟨dss, l, as, h1, h2, h3, h4⟩
    · exact .inl h
    · obtain ⟨l', as', k1, k2⟩ := r.mat j dss h1
      rw [h2] at k1
      cases k1
      have hj : Held H σ env j l := Held.mat r h1 h2 k2 List.mem_cons_self
      have q := keep l _ (g.hx _ _ k2.at_) fun w => ne (r.dist j i l hj w)
      rw [h3] at q
      have q2 : as = as' := refs_inj (HO.lst.inj (Option.some.inj q))
      subst q2
      exact Held.mat r h1 h2 k2 h4
  have cls : ∀ {j : Nat} {a : Addr}, Held H2 σ (env.set i s) j a → (j = i ∧ (Held H σ env i a ∨ H a = none)) ∨ (j ≠ i ∧ Held H σ env j a) := fun {j a} h => by
    rcases Held.set h (fun _ _ => rfl) with ⟨e, q⟩ | ⟨ne, q⟩
    · refine .inl ⟨e, mine a ?_ q⟩
      have : i < (env.set i s).length := by
        rcases q with ⟨od, h1, _⟩ | ⟨dss, l, as, h1, _⟩ <;> exact (List.getElem?_eq_some_iff.mp h1).1
      rwa [List.length_set] at this
    · exact .inr ⟨ne, other ne q⟩
  refine ⟨⟨by rw [List.length_set]; exact r.len, sub, fun j d' hj => ?_, fun j od1 hj => ?_, fun j dss hj => ?_, fun j k a hj hk => ?_⟩, ⟨⟨g.gx, fun a u h n _ => g.hid a u h n, fun a u h w => ?_, fun a u h => there a u (g.hx a u h), sub⟩, fun a u h w ⟨j, q⟩ => ?_, fun j hj => ?_⟩⟩
  · rcases get_set hj with ⟨rfl, e, _⟩ | ⟨ne, hj⟩
    · exact absurd e.symm (nv d')
    · exact r1.val j d' hj
  · rcases get_set hj with ⟨rfl, e, _⟩ | ⟨ne, hj⟩
    · obtain ⟨l, o, rfl, k1, k2, k3⟩ := hown od1 e.symm
      exact ⟨l, o, hl, k1, k2, k3⟩
    · obtain ⟨l', u, k1, k2, k3, k4⟩ := r1.own j od1 hj
      exact ⟨l', u, k1, keep l' u k2 (fun w => ne (r.dist _ _ _ w (.inl ⟨od1, hj, k1⟩))), k3, k4⟩
  · rcases get_set hj with ⟨rfl, e, _⟩ | ⟨ne, hj⟩
    · obtain ⟨l, as, rfl, k1⟩ := hmat dss e.symm
      exact ⟨l, as, hl, k1⟩
    · obtain ⟨l', as, k1, k2⟩ := r.mat j dss hj
      have k3 := k2.mono g
      have away : ∀ a ∈ l' :: as, ¬ Held H σ env i a := fun a ha w => ne (r.dist _ _ _ w (Held.mat r hj k1 k2 ha))
      refine ⟨l', as, k1, keep l' _ k3.at_ (away _ List.mem_cons_self), k3.hid, k3.nd, k3.len, fun k a ds e1 e2 => ?_⟩
      obtain ⟨vs, q1, q2, q3⟩ := k3.row k a ds e1 e2
      exact ⟨vs, keep a _ q1 (away _ (List.mem_cons_of_mem _ (List.mem_of_getElem? e1))), q2, q3⟩
  · rcases cls hj with ⟨e, n⟩ | ⟨ne, q⟩ <;> rcases cls hk with ⟨e', n'⟩ | ⟨ne', q'⟩
    · exact e.trans e'.symm
    · rcases n with n | n
      · exact absurd (r.dist _ _ _ n q').symm ne'
      · obtain ⟨⟨o, ho⟩, _⟩ := Held.at_ r q'
        rw [n] at ho; cases ho
    · rcases n' with n | n
      · exact absurd (r.dist _ _ _ n q).symm ne
      · obtain ⟨⟨o, ho⟩, _⟩ := Held.at_ r q
        rw [n] at ho; cases ho
    · exact r.dist j k a q q'
  · exact keep a u (g.hx a u h) fun q => w ⟨i, q⟩
  · rcases cls q with ⟨e, n | n⟩ | ⟨ne, q⟩
    · exact w ⟨i, n⟩
    · rw [n] at h; cases h
    · exact w ⟨j, q⟩
  · rcases get_set hj with ⟨rfl, e, _⟩ | ⟨ne, hj⟩
    · exact absurd e.symm nt
    · exact ⟨hj, rfl⟩
theorem own_upd {K : PySem.W.Frag} {i : Nat} {l : Addr} {o o' : HO} {od od' : OD} {H1 G1 : Hp} (r : Rel K cm σ H G env) (g : Grow H G H1 G1) (hi : env[i]? = some (.own od)) (hl : σ[i]? = some (some (.ref l))) (h1 : H l = some o) (h2 : G l = none) (h3 : OwnR K cm G1 o' od') :
    Rel K cm σ (upd H1 l o') G1 (env.set i (.own od')) ∧ Fr σ env H G σ (env.set i (.own od')) (upd H1 l o') G1 := by
  have hh : Held H σ env i l := .inl ⟨od, hi, hl⟩
  refine upd_core r g hl (fun d e => by cases e) (fun e => by cases e) (fun a u h n => ?_) (fun a u h => ?_) (fun a hlt h => ?_) (fun od1 e => ?_) (fun dss e => by cases e)
  · rw [upd_ne (fun q => n (by rw [q]; exact hh))]; exact h
  · by_cases q : a = l
    · exact ⟨o', by rw [q]; exact upd_same⟩
    · exact ⟨u, by rw [upd_ne q]; exact h⟩
  · rcases h with ⟨od1, _, q⟩ | ⟨dss, l', as, q, _⟩
    · rw [hl] at q; cases q; exact .inl hh
    · rw [List.getElem?_set_self hlt] at q; cases q
  · cases e
    exact ⟨l, o', rfl, upd_same, g.hid l o h1 h2, h3⟩
/-- the lists of a list of lists are changed -/
theorem mat_upd {K : PySem.W.Frag} {i : Nat} {l : Addr} {as as' : List Addr} {dss dss' : List (List Dt)} {H1 G1 H2 : Hp} (r : Rel K cm σ H G env) (g : Grow H G H1 G1) (hi : env[i]? = some (.mat dss)) (hl : σ[i]? = some (some (.ref l))) (m : MatR K cm H G l as dss)
    (keep : ∀ a o, H1 a = some o → a ∉ l :: as → H2 a = some o) (there : ∀ a o, H1 a = some o → ∃ o', H2 a = some o') (m' : MatR K cm H2 G1 l as' dss') (new : ∀ a ∈ as', a ∈ as ∨ H a = none) :
    Rel K cm σ H2 G1 (env.set i (.mat dss')) ∧ Fr σ env H G σ (env.set i (.mat dss')) H2 G1 := by
  refine upd_core r g hl (fun d e => by cases e) (fun e => by cases e) (fun a u h n => keep a u h fun q => n (Held.mat r hi hl m q)) there (fun a hlt h => ?_) (fun od1 e => by cases e) (fun dss e => ?_)
  · rcases h with ⟨od1, q, _⟩ | ⟨dss1, l', as1, q, q2, q3, q4⟩
    · rw [List.getElem?_set_self hlt] at q; cases q
    · rw [hl] at q2
      cases q2
      have z := m'.at_
      rw [q3] at z
      have z2 : as1 = as' := refs_inj (HO.lst.inj (Option.some.inj z))
      subst z2
      rcases List.mem_cons.mp q4 with rfl | q4
      · exact .inl (Held.mat r hi hl m List.mem_cons_self)
      · rcases new a q4 with q | q
        · exact .inl (Held.mat r hi hl m (List.mem_cons_of_mem _ q))
        · exact .inr q
  · cases e
    exact ⟨l, as', rfl, m'⟩
/-- xs.append(e), xs a list of one's own -/
theorem js_app (i : Nat) {p1 p2 p3 : Pos} (he : JE X cm e f) (hN : X.N[i]? = some x := by rfl) (hv : Vis X.env.scope x := by first | exact Or.inl rfl | exact Or.inr (Or.inl rfl) | exact Or.inr (Or.inr rfl)) (hd : (x == ("__debug__" : Str)) = false := by decide)
    (hcd : (x == ("__classdict__" : Str)) = false := by decide) (hst : starEach [e] X.env = (false, eval e X.env) :: starEach [] X.env := by rfl)
    (hbm : ∀ {t : TE}, PE X (.Name x p3) t → ∀ {u : TA}, PA X [e] u → PE X (.Call (.Attribute (.Name x p3) "append" p2) [e] [] p1) (tBM X.K "list" rAppend t u) := by intro t h u h2; exact pe_bm PySem.F.plainAttrs_list PySem.F.slot_list_append PySem.F.type_list_append mt_append h h2)
    (hs : swapsWith (.Call (.Attribute (.Name x p3) "append" p2) [e] [] p1) none pos.line X.env = pure false := by rfl) : JS X cm (.Expr (.Call (.Attribute (.Name x p3) "append" p2) [e] [] p1) pos) (wApp i f) := by
  refine ⟨fun env D' σ H G hw rel D o => to_s (ps_expr (hbm (pe_var hN hv hd hcd) (pa_cons pe_w pa_nil hst)) hs) ?_⟩
  obtain ⟨ds, r, h1, h2, h3, h4, h5⟩ := hw
  obtain ⟨l, ob, k1, k2, k3, k4⟩ := rel.own i _ h1
  cases ob <;> first | exact k4.elim | skip
  rename_i vs
  have k4 : DenL X.K cm G vs ds := k4
  refine ⟨_, k1, .inl ⟨rfl, _, SqL.of k2⟩, he.pub h2 rel fun v H1 G1 g1 vr => ?_⟩
  rw [h3] at vr
  refine ⟨l, vs, v, rfl, rfl, g1.hx l _ k2, ?_, ?_⟩
  · rw [k4.length]
    exact Nat.lt_of_lt_of_le h4 (lim_ok (Nat.le_refl _))
  · obtain ⟨q1, q2⟩ := own_upd (o' := .lst (vs ++ [v])) (od' := .lst (ds ++ [r.dt])) rel g1 h1 k1 k2 k3 ((k4.mono g1.gx).append (.one vr.den))
    exact o.nx _ _ _ _ q1 q2 h5
/-- xs[k] = e, xs a list of one's own -/
theorem js_put (i : Nat) {k : Expr} {fk : EF} {p2 p3 : Pos} (he : JE X cm e f) (hk : JE X cm k fk) (hN : X.N[i]? = some x := by rfl) (hv : Vis X.env.scope x := by first | exact Or.inl rfl | exact Or.inr (Or.inl rfl) | exact Or.inr (Or.inr rfl)) (hd : (x == ("__debug__" : Str)) = false := by decide)
    (hcd : (x == ("__classdict__" : Str)) = false := by decide)
    (ha : ∀ v, assign (.Subscript (.Name x p3) k p2) X.env v = (do
      let ov ← holding [v] (eval (.Name x p3) X.env)
      let iv ← holding [v, ov] (eval k X.env)
      standAt p2
      holding [v, ov, iv] (setItem ov iv v)
      release [v, ov, iv] []) := by intro _; rfl)
    (hs : swapsWithSole [.Subscript (.Name x p3) k p2] e pos.line X.env = pure false := by rfl) (hw : swappedStores [.Subscript (.Name x p3) k p2] e X.env = pure none := by rfl) (h1 : (assignEach [.Subscript (.Name x p3) k p2] X.env).map (·.2) = [assign (.Subscript (.Name x p3) k p2) X.env] := by rfl) :
    JS X cm (.Assign [.Subscript (.Name x p3) k p2] e pos) (wPut i fk f) := by
  refine ⟨fun env D' σ H G hww rel D o => to_s (ps_asg pe_w (pg_sub (pe_var hN hv hd hcd) pe_w set_list ha) hs hw h1) ?_⟩
  obtain ⟨ds, r, j, h1, h2, h3, h4, h5, h6, h7⟩ := hww
  refine he.pub h2 rel fun v H1 G1 g1 vr => ?_
  rw [h3] at vr
  obtain ⟨l, ob, k1, k2, k3, k4⟩ := rel.own i _ h1
  cases ob <;> first | exact k4.elim | skip
  rename_i vs
  have k4 : DenL X.K cm G vs ds := k4
  refine ⟨_, k1, hk.run env _ σ H1 G1 h4 (rel.grow g1) _ fun kv H2 G2 g2 kr => ?_⟩
  cases (show Den _ _ _ _ _ from kr)
  have g := g1.trans g2
  refine ⟨l, vs, j, (if 0 ≤ j then j else j + ds.length).toNat, rfl, rfl, g.hx l _ k2, ?_, ?_⟩
  · unfold ixN
    rw [k4.length]
    by_cases h0 : 0 ≤ j
    · rw [if_pos h0, if_pos h6, if_pos h0]
    · rw [if_neg h0, if_pos h5, if_neg h0]
  · obtain ⟨q1, q2⟩ := own_upd (o' := .lst (vs.set (if 0 ≤ j then j else j + ds.length).toNat v)) (od' := .lst (ds.set (if 0 ≤ j then j else j + ds.length).toNat r.dt)) rel g h1 k1 k2 k3 (DenL.set (vr.den.mono g2.gx) _ (k4.mono g.gx))
    exact o.nx _ _ _ _ q1 q2 h7
/-! loops -/
theorem js_for {is : List Nat} {fi : IF} {g : GF} (hp : PassesOwn (model X.prog X.w) X.A X.env X.xe) (hc : X.calm = true) (hi : JI X cm tg iter fi) (hg : JG X cm tg is g) (hb : JSs X cm body wb) (hs : ∀ x, foldedSetIterable iter X.env x = pure x := by intro _; rfl) :
    JS X cm (.For tg iter body [] pos) (wFor fi g wb) := by
  refine ⟨fun env D' σ H G hw rel D o => to_s (ps_for hp hc pi_w pg_w pss_w hs) ?_⟩
  obtain ⟨ds, h1, I, i0, hturn, hend⟩ := hw
  refine hi.run env ds false σ H G h1 rel _ fun J H1 G1 g1 jok => ?_
  refine ⟨fun i m σ' H' => m = ds.length - i ∧ i ≤ ds.length ∧ ∃ G' env', Rel X.K cm σ' H' G' env' ∧ Fr σ env H1 G1 σ' env' H' G' ∧ I i env', ⟨ds.length, rfl, Nat.zero_le _, G1, env, rel.grow g1, .refl g1.sub, i0⟩, ?_⟩
  rintro i m σ' H' ⟨rfl, hi', G', env', rel', fr', inv⟩
  have st : StK H1 G1 false H' G' := ⟨rel'.sub, fr'.gx, fun e => (nomatch e)⟩
  by_cases hlt : i < ds.length
  · refine .inr ⟨jok.go i H' G' st hlt, fun σ2 H2 => ∃ G2 env2, Rel X.K cm σ2 H2 G2 env2 ∧ Fr σ env H1 G1 σ2 env2 H2 G2 ∧ I (i + 1) env2, fun σ2 H2 hw => ⟨ds.length - (i + 1), by omega, rfl, hlt, hw⟩, fun v H2 hy => ?_⟩
    obtain ⟨G2, d, hd, g2, dn⟩ := jok.yl i H' G' v H2 st hlt hy
    obtain ⟨env2, hg2, hb2⟩ := hturn i env' d hd inv
    refine hg.run env' env2 d v σ' H2 G2 hg2 (rel'.grow g2) dn _ fun σ3 rel3 fr3 _ _ => ?_
    have fr13 := (fr'.trans (rel'.fr g2)).trans fr3
    have fr0 := (rel.fr g1).trans fr13
    exact hb.run env2 _ σ3 H2 G2 hb2 rel3 _ ⟨fun σ4 H4 G4 env4 r4 f4 n4 => ⟨G4, env4, r4, fr13.trans f4, n4⟩, (o.later fr0).rt, (o.later fr0).nx, fun σ4 H4 G4 env4 r4 f4 n4 => ⟨G4, env4, r4, fr13.trans f4, n4⟩, (o.later fr0).er⟩
  · have e : i = ds.length := by omega
    subst e
    exact .inl ⟨jok.stop _ H' G' st (Nat.le_refl _), o.nx σ' H' G' env' rel' ((rel.fr g1).trans fr') (hend env' inv)⟩
theorem js_while (hp : PassesOwn (model X.prog X.w) X.A X.env X.xe) (hc : JT X cm c t) (hb : JSs X cm body wb) : JS X cm (.While c body [] pos) (wWhile t wb) := by
  refine ⟨fun env D' σ H G hw rel D o => to_s (ps_while hp pt_w pss_w) ?_⟩
  obtain ⟨I, ⟨m0, i0⟩, hturn⟩ := hw
  refine ⟨fun m σ' H' => ∃ G' env', Rel X.K cm σ' H' G' env' ∧ Fr σ env H G σ' env' H' G' ∧ I m env', ⟨m0, G, env, rel, .refl rel.sub, i0⟩, ?_⟩
  rintro m σ' H' ⟨G', env', rel', fr', inv⟩
  obtain ⟨k, h1, h2, h3⟩ := hturn m env' inv
  refine hc.run env' k σ' H' G' h1 rel' _ fun H1 G1 g1 => ?_
  have fr1 := fr'.trans (rel'.fr g1)
  cases k with
  | true =>
    refine iteT ⟨fun σ2 H2 => ∃ m', m' < m ∧ ∃ G2 env2, Rel X.K cm σ2 H2 G2 env2 ∧ Fr σ env H G σ2 env2 H2 G2 ∧ I m' env2, fun σ2 H2 ⟨m', hm, q⟩ => ⟨m', hm, q⟩, ?_⟩
    exact hb.run env' _ σ' H1 G1 (h2 rfl) (rel'.grow g1) _ ⟨fun σ4 H4 G4 env4 r4 f4 ⟨m', hm, n4⟩ => ⟨m', hm, G4, env4, r4, fr1.trans f4, n4⟩, (o.later fr1).rt, (o.later fr1).nx, fun σ4 H4 G4 env4 r4 f4 ⟨m', hm, n4⟩ => ⟨m', hm, G4, env4, r4, fr1.trans f4, n4⟩, (o.later fr1).er⟩
  | false => exact iteF (o.nx σ' H1 G1 env' (rel'.grow g1) fr1 (h3 rfl))
end
end Pyl
end
section
set_option Elab.async false
set_option linter.all false
set_option maxRecDepth 100000
set_option maxHeartbeats 4000000
namespace Pyl
open PySem L2
theorem start_get {N : List Str} {vs : List V} {i : Nat} {v : V} (h : vs[i]? = some v) : (start N vs)[i]? = some (some v) := by
  unfold L2.start
  have hl : i < vs.length := (List.getElem?_eq_some_iff.mp h).1
  rw [List.getElem?_append_left (by simpa using hl), List.getElem?_map, h]
  rfl
theorem startE_get {n : Nat} {ds : List Dt} {i : Nat} {s : Slot} (h : (startE n ds)[i]? = some s) : (∃ d, ds[i]? = some d ∧ s = .val d) ∨ s = .non := by
  unfold startE at h
  by_cases hl : i < ds.length
  · rw [List.getElem?_append_left (by simpa using hl), List.getElem?_map, List.getElem?_eq_getElem hl] at h
    cases h
    exact .inl ⟨_, List.getElem?_eq_getElem hl, rfl⟩
  · rw [List.getElem?_append_right (by simpa using hl), List.getElem?_replicate] at h
    split at h
    · cases h
      exact .inr rfl
    · cases h
theorem no_held {H : Hp} {σ : L2.St} {n i : Nat} {ds : List Dt} {a : Addr} (h : Held H σ (startE n ds) i a) : False := by
  rcases h with ⟨od, hi, _⟩ | ⟨dss, l, as, hi, _⟩ <;> rcases startE_get hi with ⟨d', h1, e⟩ | e <;> cases e
theorem rel_start {K : PySem.W.Frag} {cm : Nat → Addr} {N : List Str} {vs : List V} {ds : List Dt} {H G : Hp} (s : Exx G H) (h : DenL K cm G vs ds) : Rel K cm (start N vs) H G (startE N.length ds) where
  len := by
    unfold L2.start startE
    rw [List.length_append, List.length_append, List.length_map, List.length_map, List.length_replicate, List.length_replicate, h.length]
  sub := s
  val := fun i d hi => by
    rcases startE_get hi with ⟨d', h1, e⟩ | e
    · cases e
      obtain ⟨v, h2, h3⟩ := h.get h1
      exact ⟨v, start_get h2, h3⟩
    · cases e
  own := fun i od hi => by
    rcases startE_get hi with ⟨d', h1, e⟩ | e <;> cases e
  mat := fun i dss hi => by
    rcases startE_get hi with ⟨d', h1, e⟩ | e <;> cases e
  dist := fun i j a hi hj => (no_held hi).elim
theorem no_own {H : Hp} {σ : L2.St} {n : Nat} {ds : List Dt} {a : Addr} : ¬ Own H σ (startE n ds) a := fun ⟨i, h⟩ => no_held h
theorem FrH.grow {σ : L2.St} {n : Nat} {ds : List Dt} {H G H' G' : Hp} (f : FrH σ (startE n ds) H G H' G') : Grow H G H' G' := ⟨fun a o h => f.keep a o h no_own, f.gx, fun a o h n => f.hid a o h n no_own, f.sub⟩
section
variable {P : Program} {w : World} {K : PySem.W.Frag} {mg : Str → Option Value} {base : Heap} {cm : Nat → Addr}
/-- the context of a def's body in which nothing is raised -/
abbrev cxN (P : Program) (w : World) (K : PySem.W.Frag) (mg : Str → Option Value) (base : Heap) (N : List Str) (qual : Str) (st : Stmt) (f : Addr) (cdv : Value) (A : Around) (outer : List Env) (s : Shared) (H : Hp) (E : XK) : Cx := (cxOf CX0 P w K mg base N qual (defScope st) f cdv A outer s H E).nox
theorem fn_ok {x qual : Str} {st : Stmt} {f : Addr} {fd : FuncData} {N ps : List Str} {k : Nat} {F : FN} (Fu : Fun K x qual st f fd) (S : FnScope N ps (defScope st)) (hlen : ∀ ds r, F ds = some r → ds.length = ps.length) (wd : WS) (hk : Keeps N.length wd F)
    (hb : ∀ (cdv : Value) (A : Around) (outer : List Env) (s : Shared) (H : Hp) (E : XK), Room k (A.deeper (PyProof.Rows.envOfC qual (defScope st) s.heap.objs.size f cdv)) → JSs (cxN P w K mg base N qual st f cdv A outer s H E) cm (defBody st) wd) :
    FnOk P w K mg base CX0 (k + 1) f fd ps (spP K cm F) := by
  refine Fu.ok S (fun vs H Q E h => ?_) (fun cdv A outer s H vs Q E hr h => ⟨_, pss_w, ?_⟩)
  · obtain ⟨G, ds, r, _, h2, h3, _⟩ := h
    rw [h2.length]
    exact hlen ds r h3
  · obtain ⟨G, ds, r, h1, h2, h3, h4⟩ := h
    refine (hb cdv A outer s H E hr).run (startE N.length ds) _ (start N vs) H G (hk ds r h3) (rel_start h1 h2) _ ⟨fun σ' H' G' env' rel fr e => ?_, fun v H' G' d fr den e => ?_, fun _ _ _ _ _ _ z => z.elim, fun _ _ _ _ _ _ z => z.elim, fun _ _ _ _ _ _ _ _ _ _ z => z.elim⟩
    · have e : r = .non := e
      subst e
      exact h4 _ H' G' fr.toFrH.grow Den.non
    · have e : d = r := e
      subst e
      exact h4 v H' G' fr.grow den
/-- a def of the text as it stands behind the top -/
theorem fnC_mk {x : Str} {st : Stmt} {f : Addr} {fd : FuncData} {ps : List Str} {k : Nat} {F : FN} (Fu : Fun K x x st f fd) (hm : mg x = some (.ref f)) (hb : Binds K fd ps []) (ok : FnOk P w K mg base CX0 k f fd ps (spP K cm F)) : FnC P w K mg base cm k x F :=
  ⟨f, fd, ps, ok, hm, Fu.kp, hb⟩
theorem blk_by (N : List Str) (sc : Scope) {scope : Scope} {own : List (Str × Nat)} (h : blkC N sc scope own = true) : blkC N sc scope own = true := h
/-- the law: of every script True -/
def lawF (g : List Int → Bool) : FN := fun ds => match ds with
  | [.lst xs] => (intsOf xs).bind fun ns => if ns.length ≤ 63 then some (.bl (g ns)) else none
  | _ => none
theorem intsOf_map : ∀ ns : List Int, intsOf (ns.map Dt.int) = some ns
  | [] => rfl
  | n :: ns => by
    rw [List.map_cons]
    unfold intsOf
    rw [intsOf_map ns]
    rfl
theorem denL_ints {G : Hp} : ∀ ns : List Int, DenL K cm G (ns.map V.int) (ns.map Dt.int)
  | [] => .nil
  | n :: ns => .cons (.int n) (denL_ints ns)
/-- what the promise of the law asks of a script -/
theorem law_sp {F : FN} {H : Hp} {a : Addr} {ns : List Int} (hF : ∀ ns : List Int, ns.length ≤ 63 → F [.lst (ns.map .int)] = some (.bl true)) (hl : ns.length ≤ 63) (hS : SqL K H a (ns.map V.int)) : spP K cm F [.ref a] H (fun v _ => v = .bl true) fun _ _ _ => False :=
  ⟨H, _, _, .refl H, .one (.lst hS (denL_ints ns)), hF ns hl, fun v H' G' _ den => by cases den; rfl⟩
end
end Pyl
end
section
set_option Elab.async false
set_option linter.all false
set_option maxRecDepth 100000
set_option maxHeartbeats 2000000
namespace Pyl
open PySem L2
section
variable {X : Cx} {cm : Nat → Addr} {a b c : Expr} {fa fb fc : EF} {σ : L2.St} {H G : Hp} {env : Sl} {pos p : Pos} {st : Stmt} {x : Str}
theorem js_dead : JS X cm st wDead := ⟨fun env D' σ H G hw rel D o => hw.elim⟩
/-- whatever rule fits -/
def rAny (X : Cx) (f : Value → Value → Sem Value) : R2 := fun x y H Q => ∃ rr : R2, OpR X f rr ∧ rr x y H Q
theorem op_any {f : Value → Value → Sem Value} : OpR X f (rAny X f) := by
  intro pins s σ H x y v u Q I rx ry q
  obtain ⟨rr, ho, hr⟩ := q
  exact ho pins s σ H x y v u Q I rx ry hr
theorem p2_any {f : Value → Value → Sem Value} {pf : Dt → Dt → Option R} (ok : P2 X cm f pf) {d1 d2 : Dt} {b1 b2 : Bool} {out : R} {v1 v2 : V} (r1 : VR X.K cm H G v1 d1 b1) (r2 : VR X.K cm H G v2 d2 b2) (s : Exx G H) (e : pf d1 d2 = some out) {Q : VK}
    (q : ∀ v H' G', Grow H G H' G' → RR X.K cm H H' G' v out → Q v H') : rAny X f v1 v2 H Q := by
  obtain ⟨rr, ho, hr⟩ := ok _ _ _ _ _ _ _ H G r1 r2 s e
  exact ⟨rr, ho, hr Q q⟩
theorem chain_ok {f f' : Value → Value → Sem Value} {pf qf : Dt → Dt → Option R} (ok : P2 X cm f pf) (ok' : P2 X cm f' qf) (ha : JE X cm a fa) (hb : JE X cm b fb) (hc : JE X cm c fc) {r : R} (hf : eChain pf qf fa fb fc env = some r) (rel : Rel X.K cm σ H G env) {Q : VK}
    (q : ∀ v H' G', Grow H G H' G' → RR X.K cm H H' G' v r → Q v H') : tChain (rAny X f) (rAny X f') (wpE X a) (wpE X b) (wpE X c) σ H Q := by
  obtain ⟨ra, h1, hf⟩ := Option.bind_eq_some_iff.mp hf
  obtain ⟨rb, h2, hf⟩ := Option.bind_eq_some_iff.mp hf
  refine ha.pub h1 rel fun v H1 G1 g1 vr => hb.pub h2 (rel.grow g1) fun w H2 G2 g2 wr => ?_
  have g12 := g1.trans g2
  split at hf
  · rename_i e
    obtain ⟨rc, h3, hf⟩ := Option.bind_eq_some_iff.mp hf
    refine p2_any ok (vr.grow g2) wr g2.sub e fun z H3 G3 g3 zr => ?_
    cases (show Den _ _ _ _ _ from zr)
    refine ⟨true, rfl, ?_⟩
    rw [if_pos rfl]
    refine hc.pub h3 (rel.grow (g12.trans g3)) fun u H4 G4 g4 ur => ?_
    have g14 := (g12.trans g3).trans g4
    exact p2_any ok' (wr.grow (g3.trans g4)) ur g4.sub hf fun z' H5 G5 g5 zr' => q z' H5 G5 (g14.trans g5) (zr'.hx g14.hx)
  · rename_i e
    cases hf
    refine p2_any ok (vr.grow g2) wr g2.sub e fun z H3 G3 g3 zr => ?_
    cases (show Den _ _ _ _ _ from zr)
    refine ⟨false, rfl, ?_⟩
    rw [if_neg Bool.false_ne_true]
    exact q _ H3 G3 (g12.trans g3) (Den.bl _)
  · cases hf
theorem je_chain {op op' : CmpOp} {pf qf : Dt → Dt → Option R} (ok : P2 X cm (compareOp op) pf) (ok' : P2 X cm (compareOp op') qf) (ha : JE X cm a fa) (hb : JE X cm b fb) (hc : JE X cm c fc)
    (hm : lastMarks [op, op'] [b, c] = false := by with_unfolding_all rfl) : JE X cm (.Compare a [op, op'] [b, c] pos) (eChain pf qf fa fb fc) :=
  ⟨fun env r σ H G hf rel Q q => to_e (pe_chain op_any op_any pe_w pe_w pe_w hm) (chain_ok ok ok' ha hb hc hf rel q)⟩
theorem jt_chain {op op' : CmpOp} {pf qf : Dt → Dt → Option R} (ok : P2 X cm (compareOp op) pf) (ok' : P2 X cm (compareOp op') qf) (ha : JE X cm a fa) (hb : JE X cm b fb) (hc : JE X cm c fc)
    (hm : lastMarks [op, op'] [b, c] = false := by with_unfolding_all rfl) : JT X cm (.Compare a [op, op'] [b, c] pos) (tVal (eChain pf qf fa fb fc)) := by
  refine ⟨fun env r σ H G hf rel Q q pins s I => ?_⟩
  unfold tVal at hf
  split at hf
  · rename_i b' h1
    cases hf
    refine (pt_chain op_any op_any pe_w pe_w pe_w hm).run pins s σ H _ I (chain_ok ok ok' ha hb hc h1 rel fun v H' G' g vr => ?_)
    cases (show Den _ _ _ _ _ from vr)
    exact ⟨_, rfl, q H' G' g⟩
  · cases hf
/-! math.gcd, math.comb -/
theorem je_f2 {id : String} {pf : Dt → Dt → Option R} (ok : P2c X cm (.builtin id) pf) (hg : Gl X x) (hm : X.mg x = some (.builtin id)) (ha : JE X cm a fa) (hb : JE X cm b fb) (hdb : (x == ("__debug__" : Str)) = false := by decide)
    (h0 : starEach [b] X.env = (false, eval b X.env) :: starEach [] X.env := by rfl) (he : starEach [a, b] X.env = (false, eval a X.env) :: starEach [b] X.env := by rfl) (hpl : (backTo pos (starEach [b] X.env)).any (·.1) = false := by rfl) : JE X cm (.Call (.Name x p) [a, b] [] pos) (e2 pf fa fb) := by
  refine ⟨fun env r σ H G hf rel Q q => ?_⟩
  obtain ⟨ra, h1, hf⟩ := Option.bind_eq_some_iff.mp hf
  obtain ⟨rb, h2, hf⟩ := Option.bind_eq_some_iff.mp hf
  obtain ⟨rr, hc, hr⟩ := ok
  refine to_e (pe_callBfun hc hg hm (pa_cons pe_w (pa_cons pe_w pa_nil h0) he) hdb he hpl) (ha.pub h1 rel fun v H1 G1 g1 vr => hb.pub h2 (rel.grow g1) fun w H2 G2 g2 wr => ?_)
  exact hr _ _ _ _ _ v w H2 G2 (vr.grow g2) wr g2.sub hf Q fun v' H3 G3 g3 rr3 => q v' H3 G3 ((g1.trans g2).trans g3) (rr3.hx (g1.trans g2).hx)
theorem p2c_gcd : P2c X cm (.builtin "math.gcd") pGcd := ⟨_, cr_gcd, fun d d2 b b2 out v v2 H G vr vr2 sub hp Q q => by
  unfold pGcd at hp
  split at hp
  · cases hp
    have e := vr.int
    have e2 := vr2.int
    subst e e2
    exact ⟨_, _, rfl, q _ _ _ (.refl sub) (Den.int _)⟩
  · cases hp⟩
theorem fp_up (n : Int) : ∀ k : Nat, Builtin.Math.fallingProduct (n + 1) (k + 1) = (n + 1) * Builtin.Math.fallingProduct n k
  | 0 => by rw [PySem.W.mc_fp_one, PySem.W.mc_fp_zero, Int.mul_one]
  | k + 1 => by
    rw [PySem.W.mc_fp_succ (n + 1) (k + 1), fp_up n k, PySem.W.mc_fp_succ n k, Int.mul_assoc]
    congr 2
    omega
theorem fp_choose : ∀ n k : Nat, Builtin.Math.fallingProduct n k = chooseN n k * Builtin.Math.fallingProduct k k
  | n, 0 => by unfold chooseN; rfl
  | 0, k + 1 => by
    unfold chooseN
    rw [PySem.W.mc_fp_succ]
    have h : ∀ j : Nat, Builtin.Math.fallingProduct ((0 : Nat) : Int) (j + 1) = 0 := fun j => by
      induction j with
      | zero => rfl
      | succ j ih => rw [PySem.W.mc_fp_succ, ih, Int.zero_mul]
    rw [← PySem.W.mc_fp_succ, h k]
    exact (Int.zero_mul _).symm
  | n + 1, k + 1 => by
    have h1 := fp_choose n k
    have h2 := fp_choose n (k + 1)
    rw [PySem.W.mc_fp_succ] at h2
    have e1 : Builtin.Math.fallingProduct (((n + 1 : Nat)) : Int) (k + 1) = ((n : Int) + 1) * Builtin.Math.fallingProduct n k := fp_up n k
    have e2 : Builtin.Math.fallingProduct (((k + 1 : Nat)) : Int) (k + 1) = ((k : Int) + 1) * Builtin.Math.fallingProduct k k := fp_up k k
    rw [e1]
    show _ = ((chooseN n k + chooseN n (k + 1) : Nat) : Int) * _
    generalize Builtin.Math.fallingProduct (((k + 1 : Nat)) : Int) (k + 1) = z at *
    generalize Builtin.Math.fallingProduct (n : Int) k = y at *
    have e3 : (chooseN n k : Int) * z = ((k : Int) + 1) * y := by
      rw [h1, e2, Int.mul_left_comm]
    rw [Int.natCast_add, Int.add_mul (chooseN n k : Int), ← h2, e3, Int.mul_comm y, ← Int.add_mul]
    congr 1
    omega
theorem choose_zero (n : Nat) : chooseN n 0 = 1 := by unfold chooseN; rfl
theorem choose_above : ∀ {n k : Nat}, n < k → chooseN n k = 0
  | 0, k + 1, _ => by unfold chooseN; rfl
  | n + 1, k + 1, h => by
    unfold chooseN
    rw [choose_above (n := n) (k := k) (by omega), choose_above (n := n) (k := k + 1) (by omega)]
theorem choose_self : ∀ n : Nat, chooseN n n = 1
  | 0 => by unfold chooseN; rfl
  | n + 1 => by
    unfold chooseN
    rw [choose_self n, choose_above (Nat.lt_succ_self n)]
theorem choose_symm : ∀ n a b : Nat, a + b = n → chooseN n a = chooseN n b
  | n, 0, b, h => by
    rw [Nat.zero_add] at h
    subst h
    rw [choose_zero, choose_self]
  | n, a + 1, 0, h => by
    rw [Nat.add_zero] at h
    subst h
    rw [choose_zero, choose_self]
  | n + 1, a + 1, b + 1, h => by
    show chooseN n a + chooseN n (a + 1) = chooseN n b + chooseN n (b + 1)
    rw [choose_symm n a (b + 1) (by omega), choose_symm n (a + 1) b (by omega)]
    omega
theorem comb_choose (n k : Nat) : PySem.W.mcComb n k = chooseN n k := by
  by_cases h : k ≤ n
  · have hd : ∀ m : Nat, m ≤ n → Builtin.Math.fallingProduct n m / Builtin.Math.fallingProduct m m = chooseN n m := fun m hm => by
      have hp := PySem.W.mc_fp_pos (n := m) m (Int.le_refl _)
      rw [fp_choose n m]
      exact Int.mul_ediv_cancel _ (by omega)
    rcases Nat.le_total k (n - k) with h2 | h2
    · rw [PySem.W.mcComb_at (m := k) (by omega) (by omega) (by omega), Int.toNat_natCast]
      exact hd k h
    · rw [PySem.W.mcComb_at (m := ((n - k : Nat) : Int)) (by omega) (by omega) (by omega), Int.toNat_natCast, hd (n - k) (Nat.sub_le _ _), choose_symm n (n - k) k (by omega)]
  · rw [PySem.W.mcComb_above (by omega), choose_above (by omega)]
    rfl
def rComb : List V → Hp → VK → Prop := fun vs H Q => ∃ a b : Int, vs = [.int a, .int b] ∧ (0 ≤ a ∧ a ≤ 9000 ∧ 0 ≤ b) ∧ Q (.int (chooseN a.toNat b.toNat : Nat)) H
theorem cr_comb : CallR X (.builtin "math.comb") rComb := by
  intro pins s σ H vs us Q I r h
  obtain ⟨a, b, rfl, ⟨h1, h2, h3⟩, q⟩ := h
  obtain ⟨t, u, rfl⟩ := Vals.int2 r
  obtain ⟨a, rfl⟩ : ∃ z : Nat, a = z := ⟨a.toNat, by omega⟩
  obtain ⟨b, rfl⟩ : ∃ z : Nat, b = z := ⟨b.toNat, by omega⟩
  rw [Int.toNat_natCast, Int.toNat_natCast, ← comb_choose] at q
  exact PySem.W.mc_comb h1 h3 (by omega) (Or.inr (by omega)) fun _ => ⟨.int _, H, I.tok _, ⟨_, rfl⟩, q⟩
theorem p2c_comb : P2c X cm (.builtin "math.comb") pComb := ⟨_, cr_comb, fun d d2 b b2 out v v2 H G vr vr2 sub hp Q q => by
  unfold pComb at hp
  split at hp
  · split at hp
    · rename_i hk
      cases hp
      have e := vr.int
      have e2 := vr2.int
      subst e e2
      exact ⟨_, _, rfl, hk, q _ _ _ (.refl sub) (Den.int _)⟩
    · cases hp
  · cases hp⟩
theorem je_gcd (hg : Gl X "gcd") (hm : X.mg "gcd" = some (.builtin "math.gcd")) (ha : JE X cm a fa) (hb : JE X cm b fb)
    (h0 : starEach [b] X.env = (false, eval b X.env) :: starEach [] X.env := by rfl) (he : starEach [a, b] X.env = (false, eval a X.env) :: starEach [b] X.env := by rfl) (hpl : (backTo pos (starEach [b] X.env)).any (·.1) = false := by rfl) : JE X cm (.Call (.Name "gcd" p) [a, b] [] pos) (e2 pGcd fa fb) := je_f2 p2c_gcd hg hm ha hb (by decide) h0 he hpl
theorem je_comb (hg : Gl X "comb") (hm : X.mg "comb" = some (.builtin "math.comb")) (ha : JE X cm a fa) (hb : JE X cm b fb)
    (h0 : starEach [b] X.env = (false, eval b X.env) :: starEach [] X.env := by rfl) (he : starEach [a, b] X.env = (false, eval a X.env) :: starEach [b] X.env := by rfl) (hpl : (backTo pos (starEach [b] X.env)).any (·.1) = false := by rfl) : JE X cm (.Call (.Name "comb" p) [a, b] [] pos) (e2 pComb fa fb) := je_f2 p2c_comb hg hm ha hb (by decide) h0 he hpl
/-! a global name of an int -/
theorem je_gint {i : Int} {k : Tok} (hg : Gl X x) (hm : X.mg x = some (.int i k)) (hd : (x == ("__debug__" : Str)) = false := by decide) : JE X cm (.Name x p) (eC (.int i)) := ⟨fun env r σ H G hf rel Q q => by
  cases hf
  exact to_e (pe_glob hg hm (v := .int i) ⟨_, rfl⟩ hd) (q _ H G (.refl rel.sub) (Den.int i))⟩
/-! range with a step -/
theorem stepD_length (a c : Int) (n : Nat) : (stepD a c n).length = n := by
  unfold stepD
  rw [List.length_map, List.length_range]
theorem itc_ok {K : PySem.W.Frag} {lo c : Int} {n : Nat} {t : Bool} {H0 G0 : Hp} : ItOk K cm (Itc lo c n) (stepD lo c n) t H0 G0 where
  go := fun i H G s hi => by
    rw [stepD_length] at hi
    exact hi
  yl := fun i H G v H' s hi y => by
    obtain ⟨rfl, rfl⟩ := y
    rw [stepD_length] at hi
    refine ⟨G, .int (lo + (i : Int) * c), ?_, .refl s.sub, .int _⟩
    unfold stepD
    rw [List.getElem?_map, List.getElem?_range hi]
    rfl
  stop := fun i H G s hi => by
    rw [stepD_length] at hi
    exact hi
theorem rgc_of {i j k : Int} (hk : (0 < k ∧ k < 1073741824) ∨ k = -1) (hi : -1099511627776 ≤ i ∧ i ≤ 1099511627776) (hj : -1099511627776 ≤ j ∧ j ≤ 1099511627776) : RgC i j k (stepN i j k) := by
  rcases hk with ⟨h0, h1⟩ | rfl
  · have hs : Builtin.Range.rangeSize i j k = (stepN i j k : Nat) ∧ (stepN i j k : Int) ≤ 2199023255552 := by
      unfold Builtin.Range.rangeSize stepN
      rw [if_pos h0, if_pos h0]
      split
      · have h2 : (j - i - 1) / k ≤ j - i - 1 := Int.ediv_le_self _ (by omega)
        have h3 : 0 ≤ (j - i - 1) / k := Int.ediv_nonneg (by omega) (by omega)
        omega
      · omega
    refine ⟨by omega, by omega, ?_, hs.1⟩
    unfold Builtin.Range.small
    rw [hs.1]
    generalize stepN i j k = n at *
    have h4 : k > 0 := h0
    rw [if_pos h4]
    simp only [Builtin.Range.rangeFitsLong, Bool.and_eq_true, Bool.or_eq_true, decide_eq_true_eq, beq_iff_eq]
    omega
  · have e : stepN i j (-1) = (i - j).toNat := by
      unfold stepN
      rw [if_neg (by decide)]
    rw [e]
    exact RgC.neg (by omega) (by omega) (by omega) (by omega)
theorem ji_range3 {tg : Expr} (hg : Gl X "range") (hm : X.mg "range" = none) (ha : JE X cm a fa) (hb : JE X cm b fb) (hc : JE X cm c fc) (hs : starEach [a, b, c] X.env = (false, eval a X.env) :: starEach [b, c] X.env := by rfl) (hpl : (backTo pos (starEach [b, c] X.env)).any (·.1) = false := by rfl)
    (he2 : starEach [b, c] X.env = (false, eval b X.env) :: starEach [c] X.env := by rfl) (he3 : starEach [c] X.env = (false, eval c X.env) :: starEach [] X.env := by rfl) : JI X cm tg (.Call (.Name "range" p) [a, b, c] [] pos) (iRange3 fa fb fc) := by
  refine ⟨fun env ds t σ H G hf rel Q q => ?_⟩
  obtain ⟨ra, h1, hf⟩ := Option.bind_eq_some_iff.mp hf
  obtain ⟨rb, h2, hf⟩ := Option.bind_eq_some_iff.mp hf
  obtain ⟨rc, h3, hf⟩ := Option.bind_eq_some_iff.mp hf
  split at hf
  · rename_i i j k e1 e2 e3
    split at hf
    · rename_i hn
      cases hf
      refine to_i (pi_range3 hg hm (pa_cons pe_w (pa_cons pe_w (pa_cons pe_w pa_nil he3) he2) hs) hs hpl) (ha.pub h1 rel fun v H1 G1 g1 vr => hb.pub h2 (rel.grow g1) fun w H2 G2 g2 wr => hc.pub h3 (rel.grow (g1.trans g2)) fun u H3 G3 g3 ur => ?_)
      rw [e1] at vr
      rw [e2] at wr
      rw [e3] at ur
      have ev := vr.int
      have ew := wr.int
      have eu := ur.int
      subst ev ew eu
      exact ⟨i, j, k, _, rfl, rgc_of hn.1 hn.2.1 hn.2.2, q _ H3 G3 ((g1.trans g2).trans g3) itc_ok⟩
    · cases hf
  · cases hf
/-! max, min of a list of ints -/
theorem foldmax (ns : List Int) : ∀ n : Int, (ns.foldl (fun m x => if x > m then x else m) n) ∈ n :: ns ∧ ∀ y ∈ n :: ns, y ≤ ns.foldl (fun m x => if x > m then x else m) n := by
  induction ns with
  | nil => exact fun n => ⟨List.mem_cons_self, fun y hy => by rw [List.mem_singleton.mp hy]; exact Int.le_refl _⟩
  | cons a ns ih =>
    intro n
    obtain ⟨h1, h2⟩ := ih (if a > n then a else n)
    rw [List.foldl_cons]
    refine ⟨?_, fun y hy => ?_⟩
    · rcases List.mem_cons.mp h1 with e | e
      · rw [e]
        split
        · exact List.mem_cons_of_mem _ List.mem_cons_self
        · exact List.mem_cons_self
      · exact List.mem_cons_of_mem _ (List.mem_cons_of_mem _ e)
    · have h0 := h2 _ List.mem_cons_self
      rcases List.mem_cons.mp hy with e | e
      · subst e
        exact Int.le_trans (show y ≤ if a > y then a else y by split <;> omega) h0
      · rcases List.mem_cons.mp e with e | e
        · subst e
          exact Int.le_trans (show y ≤ if y > n then y else n by split <;> omega) h0
        · exact h2 y (List.mem_cons_of_mem _ e)
theorem foldmin (ns : List Int) : ∀ n : Int, (ns.foldl (fun m x => if x < m then x else m) n) ∈ n :: ns ∧ ∀ y ∈ n :: ns, ns.foldl (fun m x => if x < m then x else m) n ≤ y := by
  induction ns with
  | nil => exact fun n => ⟨List.mem_cons_self, fun y hy => by rw [List.mem_singleton.mp hy]; exact Int.le_refl _⟩
  | cons a ns ih =>
    intro n
    obtain ⟨h1, h2⟩ := ih (if a < n then a else n)
    rw [List.foldl_cons]
    refine ⟨?_, fun y hy => ?_⟩
    · rcases List.mem_cons.mp h1 with e | e
      · rw [e]
        split
        · exact List.mem_cons_of_mem _ List.mem_cons_self
        · exact List.mem_cons_self
      · exact List.mem_cons_of_mem _ (List.mem_cons_of_mem _ e)
    · have h0 := h2 _ List.mem_cons_self
      rcases List.mem_cons.mp hy with e | e
      · subst e
        exact Int.le_trans h0 (show (if a < y then a else y) ≤ y by split <;> omega)
      · rcases List.mem_cons.mp e with e | e
        · subst e
          exact Int.le_trans h0 (show (if y < n then y else n) ≤ y by split <;> omega)
        · exact h2 y (List.mem_cons_of_mem _ e)
theorem VR.lstI {v : V} {b : Bool} {ds : List Dt} {ns : List Int} (sub : Exx G H) (vr : VR X.K cm H G v (.lst ds) b) (e : intsOf ds = some ns) : ∃ l, v = .ref l ∧ SqL X.K H l (ns.map V.int) := by
  cases b with
  | true =>
    obtain ⟨l, vs, ds', h1, h2, h3, h4⟩ := vr.1 rfl
    cases h2
    rw [DenL.ints h4 e] at h3
    exact ⟨l, h1, h3⟩
  | false =>
    cases vr.2 rfl with
    | lst h3 h4 =>
      rw [DenL.ints h4 e] at h3
      exact ⟨_, rfl, sub.sqL h3⟩
theorem p1_max (hc : X.calm = true) : P1 X cm (.builtin "max") pMaxL := ⟨_, cr_max hc, fun d b out v H G vr sub hp Q q => by
  unfold pMaxL at hp
  split at hp
  · rename_i ds
    obtain ⟨ns, e, hp⟩ := Option.bind_eq_some_iff.mp hp
    split at hp
    · cases hp
    · rename_i n ns
      cases hp
      obtain ⟨l, rfl, h⟩ := vr.lstI sub e
      obtain ⟨f1, f2⟩ := foldmax ns n
      refine ⟨l, n :: ns, rfl, h, by simp, fun m h1 h2 => ?_⟩
      have em : m = ns.foldl (fun m x => if x > m then x else m) n := Int.le_antisymm (f2 m h1) (h2 _ f1)
      rw [em]
      exact q _ _ _ (.refl sub) (Den.int _)
  · cases hp⟩
theorem p1_min (hc : X.calm = true) : P1 X cm (.builtin "min") pMinL := ⟨_, cr_min hc, fun d b out v H G vr sub hp Q q => by
  unfold pMinL at hp
  split at hp
  · rename_i ds
    obtain ⟨ns, e, hp⟩ := Option.bind_eq_some_iff.mp hp
    split at hp
    · cases hp
    · rename_i n ns
      cases hp
      obtain ⟨l, rfl, h⟩ := vr.lstI sub e
      obtain ⟨f1, f2⟩ := foldmin ns n
      refine ⟨l, n :: ns, rfl, h, by simp, fun m h1 h2 => ?_⟩
      have em : m = ns.foldl (fun m x => if x < m then x else m) n := Int.le_antisymm (h2 _ f1) (f2 m h1)
      rw [em]
      exact q _ _ _ (.refl sub) (Den.int _)
  · cases hp⟩
/-! an int among ints -/
theorem inV_ints (i : Int) (ns : List Int) : inV (.int i) (ns.map V.int) = decide (i ∈ ns) := by
  unfold inV
  rw [List.any_map]
  rw [Bool.eq_iff_iff, List.any_eq_true, decide_eq_true_iff]
  constructor
  · rintro ⟨y, hy, e⟩
    have e2 : y = i := by simpa [eqV] using e
    rw [← e2]
    exact hy
  · intro h
    exact ⟨i, h, by simp [eqV]⟩
theorem flat_ints (ns : List Int) : (ns.map V.int).all flatV = true := by
  rw [List.all_eq_true]
  intro x hx
  obtain ⟨n, _, rfl⟩ := List.mem_map.mp hx
  rfl
theorem in_some {d1 d2 : Dt} {t b1 b2 : Bool} {v1 v2 : V} (h : inInts d1 d2 = some t) (r1 : VR X.K cm H G v1 d1 b1) (r2 : VR X.K cm H G v2 d2 b2) (sub : Exx G H) :
    ∃ (i : Int) (ns : List Int) (p : Addr), v1 = .int i ∧ v2 = .ref p ∧ (SqL X.K H p (ns.map V.int) ∨ SqT X.K H p (ns.map V.int)) ∧ t = decide (i ∈ ns) := by
  unfold inInts at h
  split at h
  · obtain ⟨ns, e, rfl⟩ := Option.map_eq_some_iff.mp h
    obtain ⟨l, rfl, hq⟩ := r2.lstI sub e
    exact ⟨_, ns, l, r1.int, rfl, Or.inl hq, rfl⟩
  · obtain ⟨ns, e, rfl⟩ := Option.map_eq_some_iff.mp h
    obtain ⟨l, vs, rfl, s1, t1, n1⟩ := r2.tup sub
    rw [DenL.ints n1 e] at s1
    exact ⟨_, ns, l, r1.int, rfl, Or.inr s1, rfl⟩
  · cases h
theorem p2_in : P2 X cm (compareOp .In) pIn := by
  intro d1 d2 b1 b2 out v1 v2 H G r1 r2 sub hp
  unfold pIn at hp
  obtain ⟨t, h1, rfl⟩ := Option.map_eq_some_iff.mp hp
  obtain ⟨i, ns, p, rfl, rfl, hq, rfl⟩ := in_some h1 r1 r2 sub
  refine ⟨_, op_in_seq, fun Q q => ⟨p, _, rfl, hq, rfl, flat_ints ns, ?_⟩⟩
  rw [inV_ints]
  exact q _ _ _ (.refl sub) (Den.bl _)
theorem p2_notin : P2 X cm (compareOp .NotIn) pNotIn := by
  intro d1 d2 b1 b2 out v1 v2 H G r1 r2 sub hp
  unfold pNotIn at hp
  obtain ⟨t, h1, rfl⟩ := Option.map_eq_some_iff.mp hp
  obtain ⟨i, ns, p, rfl, rfl, hq, rfl⟩ := in_some h1 r1 r2 sub
  refine ⟨_, op_notIn_seq, fun Q q => ⟨p, _, rfl, hq, rfl, flat_ints ns, ?_⟩⟩
  rw [inV_ints]
  exact q _ _ _ (.refl sub) (Den.bl _)
/-! bits of ints that are not below 0 -/
theorem and_nn {x y : Int} (hx : 0 ≤ x) (hy : 0 ≤ y) : Builtin.bitAnd x y = ((x.toNat &&& y.toNat : Nat) : Int) := by
  unfold Builtin.bitAnd
  rw [decide_eq_true hx, decide_eq_true hy]
theorem p2_xor : P2 X cm (binaryOp .BitXor) pXor := p2_int0 op_xor fun i j k h => by
  split at h
  · rename_i hk
    cases h
    rw [Bits.bitXor_pp hk.1 hk.2]
  · cases h
theorem p2_and : P2 X cm (binaryOp .BitAnd) pAnd := p2_int0 op_and fun i j k h => by
  split at h
  · rename_i hk
    cases h
    rw [and_nn hk.1 hk.2]
  · cases h
theorem p2_or : P2 X cm (binaryOp .BitOr) pOr := p2_int0 op_or fun i j k h => by
  split at h
  · rename_i hk
    cases h
    rw [bitOr_nn hk.1 hk.2]
  · cases h
end
end Pyl
end
section
set_option Elab.async false
set_option linter.all false
set_option maxRecDepth 100000
set_option maxHeartbeats 2000000
namespace Pyl
open PySem L2
/-! ### only looked at -/
section
variable {X : Cx} {cm : Nat → Addr} {e a b c tg iter : Expr} {f fa fb fc fe fk : EF} {σ : L2.St} {H G : Hp} {env : Sl} {pos p : Pos} {x : Str} {m : MF} {es : List Expr}
theorem frzAll_get {env : Sl} {i : Nat} {s : Slot} (h : (frzAll env)[i]? = some s) : ∃ s', env[i]? = some s' ∧ s = s'.frz := by
  unfold frzAll at h
  rw [List.getElem?_map] at h
  obtain ⟨s', h1, h2⟩ := Option.map_eq_some_iff.mp h
  exact ⟨s', h1, h2.symm⟩
theorem Rel.look {K : PySem.W.Frag} (r : Rel K cm σ H G env) : Rel K cm σ H H (frzAll env) where
  len := by unfold frzAll; rw [List.length_map, r.len]
  sub := .refl _
  val := fun i d hi => by
    obtain ⟨s, h1, h2⟩ := frzAll_get hi
    cases s with
    | val d' =>
      cases h2
      obtain ⟨v, k1, k2⟩ := r.val i d h1
      exact ⟨v, k1, k2.mono r.sub⟩
    | own od =>
      cases h2
      obtain ⟨l, o, k1, k2, k3, k4⟩ := r.own i od h1
      cases o <;> cases od <;> first | exact k4.elim | skip
      exact ⟨_, k1, .lst (SqL.of k2) (DenL.mono r.sub k4)⟩
    | mat dss =>
      cases h2
      obtain ⟨l, as, k1, k2⟩ := r.mat i dss h1
      refine ⟨_, k1, .lst (SqL.of k2.at_) (den_rows k2.len fun k a ds e1 e2 => ?_)⟩
      obtain ⟨vs, q1, q2, q3⟩ := k2.row k a ds e1 e2
      exact ⟨vs, q1, q3.mono r.sub⟩
    | non => cases h2
    | take => cases h2
  own := fun i od hi => by
    obtain ⟨s, h1, h2⟩ := frzAll_get hi
    cases s <;> cases h2
  mat := fun i dss hi => by
    obtain ⟨s, h1, h2⟩ := frzAll_get hi
    cases s <;> cases h2
  dist := fun i j a hi hj => by
    rcases hi with ⟨od, hi, _⟩ | ⟨dss, l, as, hi, _⟩ <;> obtain ⟨s, h1, h2⟩ := frzAll_get hi <;> cases s <;> cases h2
theorem scalars_den {K : PySem.W.Frag} {G G' : Hp} : ∀ {vs : List V} {ds : List Dt}, DenL K cm G vs ds → ds.all Dt.scalar = true → DenL K cm G' vs ds
  | _, _, .nil, _ => .nil
  | _, _, .cons h t, s => by
    rw [List.all_cons, Bool.and_eq_true] at s
    exact .cons (Dt.scalar_den h s.1) (scalars_den t s.2)
theorem look_grow {H G H' G' : Hp} (s : Exx G H) (g : Grow H H H' G') : Grow H G H' G := ⟨g.hx, .refl _, fun _ _ _ n => n, s.trans g.hx⟩
theorem je_look (h : JE X cm e f) : JE X cm e (eLook f) := by
  refine ⟨fun env r σ H G hf rel Q q => ?_⟩
  unfold eLook at hf
  split at hf
  · rename_i d h1
    split at hf
    case isFalse => cases hf
    rename_i sc
    cases hf
    exact h.run _ _ σ H H h1 rel.look Q fun v H' G' g rr => q v H' G (look_grow rel.sub g) (Dt.scalar_den rr sc)
  · rename_i ds h1
    split at hf
    case isFalse => cases hf
    rename_i sc
    cases hf
    refine h.run _ _ σ H H h1 rel.look Q fun v H' G' g rr => q v H' G (look_grow rel.sub g) ?_
    obtain ⟨l, o, e1, e2, e3, e4, e5⟩ := rr
    cases o <;> first | exact e5.elim | skip
    exact ⟨l, _, e1, e2, e3, rel.sub.back e2, scalars_den e5 sc⟩
  · cases hf
theorem jt_look {t : TF} (h : JT X cm e t) : JT X cm e (tLook t) :=
  ⟨fun env b σ H G hf rel Q q => h.run _ _ σ H H hf rel.look Q fun H' G' g => q H' G (look_grow rel.sub g)⟩

/-! ### lists of lists of one's own -/
structure JM (X : Cx) (cm : Nat → Addr) (e : Expr) (m : MF) : Prop where
  run : ∀ (env : Sl) (dss : List (List Dt)) (σ : L2.St) (H G : Hp), m env = some dss → Rel X.K cm σ H G env → ∀ Q : VK, (∀ l as H' G', Grow H G H' G' → (∀ a ∈ l :: as, H a = none) → MatR X.K cm H' G' l as dss → Q (.ref l) H') → wpE X e σ H Q
theorem js_asgM (i : Nat) {pos' : Pos} (hN : X.N.Nodup) (he : JM X cm e m) (hi : X.N[i]? = some x := by rfl) (hx : Loc X.env.scope x := by first | exact Or.inl rfl | exact Or.inr rfl) (hs : swapsWith e (some (.Name x pos')) pos.line X.env = pure false := by rfl)
    (hf : X.fn x = true ∨ X.env.scope.names.lookup x = some .local := by first | exact .inl rfl | exact .inr rfl | assumption) : JS X cm (.Assign [.Name x pos'] e pos) (wAsgM i m) := by
  refine ⟨fun env D' σ H G hw rel D o => to_s (ps_set hN hi hx pe_w hs hf) ?_⟩
  obtain ⟨dss, h1, h2⟩ := hw
  refine he.run env dss σ H G h1 rel _ fun l as H1 G1 g1 new mr => ?_
  obtain ⟨q1, q2⟩ := asg_mat (i := i) rel g1 new mr
  exact o.nx _ _ _ _ q1 q2 h2
/-- rows side by side -/
structure RowsR (K : PySem.W.Frag) (cm : Nat → Addr) (H G : Hp) (as : List Addr) (dss : List (List Dt)) : Prop where
  nd : as.Nodup
  len : as.length = dss.length
  row : ∀ (k : Nat) (a : Addr) (ds : List Dt), as[k]? = some a → dss[k]? = some ds → ∃ vs, H a = some (.lst vs) ∧ G a = none ∧ DenL K cm G vs ds
structure JMs (X : Cx) (cm : Nat → Addr) (es : List Expr) (m : MF) : Prop where
  run : ∀ (env : Sl) (dss : List (List Dt)) (σ : L2.St) (H G : Hp), m env = some dss → Rel X.K cm σ H G env → ∀ Q : List V → Hp → Prop, (∀ as H' G', Grow H G H' G' → (∀ a ∈ as, H a = none) → RowsR X.K cm H' G' as dss → Q (as.map V.ref) H') → wpA X es σ H Q
  len : ∀ (env : Sl) (dss : List (List Dt)), m env = some dss → dss.length = es.length
theorem jms_nil : JMs X cm [] mNil := ⟨fun env dss σ H G hf rel Q q => by
  cases hf
  exact to_a pa_nil (q [] H G (.refl rel.sub) (fun a h => by cases h) ⟨.nil, rfl, fun k a ds h => by simp at h⟩), fun env dss h => by cases h; rfl⟩
theorem freL_some {r : Option R} {ds : List Dt} (h : freL r = some ds) : r = some (.fre (.lst ds)) := by
  unfold freL at h
  split at h
  · cases h; rfl
  · cases h
theorem jms_cons (ha : JE X cm e fe) (hr : JMs X cm es m) (hs : starEach (e :: es) X.env = (false, eval e X.env) :: starEach es X.env := by rfl) : JMs X cm (e :: es) (mCons fe m) := by
  refine ⟨fun env dss σ H G hf rel Q q => ?_, fun env dss hf => ?_⟩
  · obtain ⟨ds, h1, hf⟩ := Option.bind_eq_some_iff.mp hf
    obtain ⟨rs, h2, hf⟩ := Option.bind_eq_some_iff.mp hf
    cases hf
    refine to_a (pa_cons pe_w pa_w hs) ?_
    refine ha.run env _ σ H G (freL_some h1) rel _ fun v H1 G1 g1 rr => ?_
    obtain ⟨l, o, rfl, e2, e3, e4, e5⟩ := rr
    cases o <;> first | exact e5.elim | skip
    rename_i vs
    refine hr.run env rs σ H1 G1 h2 (rel.grow g1) _ fun as H2 G2 g2 new rows => ?_
    refine q (l :: as) H2 G2 (g1.trans g2) (fun a h => ?_) ⟨?_, ?_, fun k a ds' h1 h2 => ?_⟩
    · rcases List.mem_cons.mp h with rfl | h
      · exact e2
      · exact g1.hx.back (new a h)
    · exact List.nodup_cons.mpr ⟨fun h => (by rw [new l h] at e3; cases e3), rows.nd⟩
    · rw [List.length_cons, List.length_cons, rows.len]
    · cases k with
      | zero =>
        cases h1
        cases h2
        exact ⟨vs, g2.hx _ _ e3, g2.hid _ _ e3 e4, DenL.mono g2.gx e5⟩
      | succ k => exact rows.row k a ds' (by simpa using h1) (by simpa using h2)
  · obtain ⟨ds, h1, hf⟩ := Option.bind_eq_some_iff.mp hf
    obtain ⟨rs, h2, hf⟩ := Option.bind_eq_some_iff.mp hf
    cases hf
    rw [List.length_cons, List.length_cons, hr.len env rs h2]
theorem jm_lst (h : JMs X cm es m) (hz : es.length ≤ 100000 := by decide) : JM X cm (.List es pos) m := by
  refine ⟨fun env dss σ H G hf rel Q q => ?_⟩
  refine to_e (pe_lst pa_w) ?_
  refine h.run env dss σ H G hf rel _ fun as H1 G1 g1 new rows => ⟨?_, fun p hp => ?_⟩
  · rw [List.length_map, rows.len, h.len env dss hf]
    exact Nat.le_trans hz (by decide)
  · have n := g1.sub.back hp
    have hin : ∀ a ∈ as, ∃ vs, H1 a = some (.lst vs) := fun a h => by
      obtain ⟨k, hk, e⟩ := List.getElem_of_mem h
      have hk' : k < dss.length := by rw [← rows.len]; exact hk
      obtain ⟨vs, q1, _⟩ := rows.row k a _ (by rw [List.getElem?_eq_getElem hk, e]) (List.getElem?_eq_getElem hk')
      exact ⟨vs, q1⟩
    have pn : p ∉ as := fun h => by
      obtain ⟨vs, q1⟩ := hin p h
      rw [hp] at q1; cases q1
    refine q p as _ G1 (g1.trans (.hide g1.sub hp)) (fun a h => ?_) ⟨upd_same, n, List.nodup_cons.mpr ⟨pn, rows.nd⟩, rows.len, fun k a ds h1 h2 => ?_⟩
    · rcases List.mem_cons.mp h with rfl | h
      · exact g1.hx.back hp
      · exact new a h
    · obtain ⟨vs, q1, q2, q3⟩ := rows.row k a ds h1 h2
      exact ⟨vs, by rw [upd_ne (fun e => pn (by rw [← e]; exact List.mem_of_getElem? h1))]; exact q1, q2, q3⟩
theorem compM_cons {g : Dt → Option (List Dt)} {d : Dt} {ds : List Dt} {out : List (List Dt)} (h : compM g (d :: ds) = some out) : ∃ o r, g d = some o ∧ compM g ds = some r ∧ out = o :: r := by
  obtain ⟨o, h1, h⟩ := Option.bind_eq_some_iff.mp h
  obtain ⟨r, h2, h⟩ := Option.bind_eq_some_iff.mp h
  cases h
  exact ⟨o, r, h1, h2, rfl⟩
theorem compM_len {g : Dt → Option (List Dt)} : ∀ {ds : List Dt} {out : List (List Dt)}, compM g ds = some out → out.length = ds.length
  | [], _, h => by cases h; rfl
  | d :: ds, _, h => by
    obtain ⟨o, r, _, h2, rfl⟩ := compM_cons h
    rw [List.length_cons, List.length_cons, compM_len h2]
/-- a comprehension of new lists -/
theorem jm_lc {elt : Expr} {scope : Scope} {js : List Nat} {fi : IF} {g : GF} {fe : EF} (own : List (Str × Nat)) (hc : X.calm = true) (hN : X.N.Nodup) (hi : JI X cm tg iter fi) (ok : blkC X.N X.env.scope scope own = true)
    (hg : ∀ (s : Shared) (H : Hp) (C : Addr) (cl : List (Str × Addr)) (fp : List Addr), JG (X.blk s H scope (compEnvC scope cl C X.env) fp) cm tg js g) (hj : ∀ j ∈ js, j ∈ own.map (·.2))
    (ht : ∀ (s : Shared) (H : Hp) (C : Addr) (cl : List (Str × Addr)) (fp : List Addr), JTs (X.blk s H scope (compEnvC scope cl C X.env) fp) cm [] tYes)
    (he : ∀ (s : Shared) (H : Hp) (C : Addr) (cl : List (Str × Addr)) (fp : List Addr), JE (X.blk s H scope (compEnvC scope cl C X.env) fp) cm elt fe) (hs : ∀ x, foldedSetIterable iter X.env x = pure x := by intro _; rfl) :
    JM X cm (.ListComp elt [⟨tg, iter, [], 0⟩] scope pos) (mComp (own.map (·.2)) fi g fe) := by
  refine ⟨fun env dss σ H G hf rel Q q => to_e (pe_lc hc hN pi_w (blkOk_by ok) (fun _ _ _ _ _ => pg_B) (fun _ _ _ _ _ => pt_B) (fun _ _ _ _ _ => pe_B) hs) ?_⟩
  obtain ⟨⟨ds, bb⟩, h1, hf⟩ := Option.bind_eq_some_iff.mp hf
  dsimp only at hf
  split at hf
  case isFalse => cases hf
  rename_i hlen
  refine hi.run env ds bb σ H G h1 rel _ fun J H1 G1 g1 jok => fun D hD => ?_
  have rel1 := rel.grow g1
  generalize hgo : (fun d => (g d (wipeS env (own.map (·.2)))).bind fun env' => freL (fe env')) = go at hf
  refine ⟨fun i m H' => m = ds.length - i ∧ i ≤ ds.length ∧ ∃ (G' : Hp) (as : List Addr) (ad ro : List (List Dt)), Exx G' H' ∧ Exx G1 G' ∧ Exx H1 H' ∧ (∀ a o, H1 a = some o → G1 a = none → G' a = none) ∧ MatR X.K cm H' G' D as ad ∧ (∀ a ∈ as, H1 a = none) ∧ ad.length = i ∧
    compM go (ds.drop i) = some ro ∧ dss = ad ++ ro, ⟨ds.length, rfl, Nat.zero_le _, G1, [], [], dss, (Grow.hide g1.sub hD).sub, .refl _, .new hD, fun _ _ _ n => n, ⟨upd_same, g1.sub.back hD, List.nodup_cons.mpr ⟨fun h => (by cases h), List.nodup_nil⟩, rfl, fun k a ds h => (by simp at h)⟩, fun a h => (by cases h), rfl, (by rw [List.drop_zero]; exact hf), rfl⟩, ?_⟩
  rintro i m H' ⟨rfl, hi', G', as, ad, ro, sub, gx, hx, hid, mat, new, hal, hro, hout⟩
  have st : StK H1 G1 bb H' G' := ⟨sub, gx, fun _ => hx⟩
  by_cases hlt : i < ds.length
  · refine .inr ⟨jok.go i H' G' st hlt, fun H2 => i + 1 ≤ ds.length ∧ ∃ (G' : Hp) (as : List Addr) (ad ro : List (List Dt)), Exx G' H2 ∧ Exx G1 G' ∧ Exx H1 H2 ∧ (∀ a o, H1 a = some o → G1 a = none → G' a = none) ∧ MatR X.K cm H2 G' D as ad ∧ (∀ a ∈ as, H1 a = none) ∧ ad.length = i + 1 ∧
      compM go (ds.drop (i + 1)) = some ro ∧ dss = ad ++ ro, fun H2 hw => ⟨ds.length - (i + 1), by omega, rfl, hw⟩, fun v H2 hy => ?_⟩
    obtain ⟨G2, d, hd, g2, dn⟩ := jok.yl i H' G' v H2 st hlt hy
    rw [drop_get hd] at hro
    obtain ⟨o, ro', ho, hro', rfl⟩ := compM_cons hro
    rw [← hgo] at ho
    obtain ⟨env', hg', ho⟩ := Option.bind_eq_some_iff.mp ho
    have relb : Rel X.K cm (L2.wipe σ (own.map (·.2))) H2 G2 (wipeS env (own.map (·.2))) := by
      refine ((Rel.grow rel1 (H' := H') (G' := G') ⟨hx, gx, hid, sub⟩).grow g2).wipe _
    intro s H0 C cl fp
    refine (hg s H0 C cl fp).run _ env' d v _ H2 G2 hg' relb dn _ fun σ' rel' fr' same len => ⟨wipe_eq (len.trans (wipe_length _ _)) same hj, ?_⟩
    intro s H0 C cl fp
    refine (ht s H0 C cl fp).ex env' true σ' H2 G2 rfl rel' _ fun H3 G3 g3 => ?_
    have g23 := g2.trans g3
    refine iteT ?_
    intro s H0 C cl fp
    refine (he s H0 C cl fp).run env' _ σ' H3 G3 (freL_some ho) (rel'.grow g3) _ fun y H4 G4 g4 rr => ?_
    obtain ⟨l, ob, rfl, e2, e3, e4, e5⟩ := rr
    cases ob <;> first | exact e5.elim | skip
    rename_i vs
    have g24 := g23.trans g4
    have mat3 := mat.mono g23
    have mat4 := mat3.mono g4
    have lD : l ≠ D := fun e => by
      subst e
      rw [mat3.at_] at e2; cases e2
    have las : l ∉ as := fun h => by
      obtain ⟨⟨o, ho⟩, _⟩ := mat3.all (List.mem_cons_of_mem _ h)
      rw [ho] at e2; cases e2
    refine ⟨_, mat4.at_, ?_, hlt, G4, as ++ [l], ad ++ [o], ro', ?_, gx.trans g24.gx, ?_, fun a o h n => g24.hid a o (hx a o h) (hid a o h n), ⟨?_, mat4.hid, ?_, ?_, fun k a ds' h1 h2 => ?_⟩, fun a h => ?_, ?_, hro', ?_⟩
    · rw [List.length_map, mat4.len]
      exact Nat.lt_of_le_of_lt (Nat.le_of_eq hal) (Nat.lt_of_lt_of_le (Nat.lt_of_lt_of_le hlt hlen) (lim_ok (Nat.le_refl _)))
    · intro a o h
      by_cases e : a = D
      · subst e
        rw [mat4.hid] at h
        cases h
      · rw [upd_ne e]
        exact g4.sub a o h
    · intro a o h
      rw [upd_ne (ne_of_none h hD)]
      exact g24.hx a o (hx a o h)
    · rw [upd_same, List.map_append]
      rfl
    · have nd := List.nodup_cons.mp mat.nd
      refine List.nodup_cons.mpr ⟨fun h => ?_, List.nodup_append.mpr ⟨nd.2, List.nodup_cons.mpr ⟨fun h => (by cases h), List.nodup_nil⟩, fun a h1 b h2 => ?_⟩⟩
      · rcases List.mem_append.mp h with h | h
        · exact nd.1 h
        · exact lD (List.mem_singleton.mp h).symm
      · rw [List.mem_singleton.mp h2]
        exact fun e => las (by rw [← e]; exact h1)
    · rw [List.length_append, List.length_append, mat4.len]
      rfl
    · have hak : k < as.length + 1 := by
        have := (List.getElem?_eq_some_iff.mp h1).1
        rwa [List.length_append, List.length_singleton] at this
      by_cases hk : k < as.length
      · rw [List.getElem?_append_left hk] at h1
        rw [List.getElem?_append_left (by rw [← mat4.len]; exact hk)] at h2
        obtain ⟨vs', q1, q2, q3⟩ := mat4.row k a ds' h1 h2
        refine ⟨vs', ?_, q2, q3⟩
        rw [upd_ne (fun e => (List.nodup_cons.mp mat.nd).1 (by rw [← e]; exact List.mem_of_getElem? h1))]
        exact q1
      · have hk : k = as.length := by omega
        subst hk
        rw [List.getElem?_append_right (Nat.le_refl _), Nat.sub_self] at h1
        rw [mat4.len, List.getElem?_append_right (Nat.le_refl _), Nat.sub_self] at h2
        cases h1
        cases h2
        exact ⟨vs, by rw [upd_ne lD]; exact e3, e4, e5⟩
    · rcases List.mem_append.mp h with h | h
      · exact new a h
      · rw [List.mem_singleton.mp h]
        exact hx.back (g23.hx.back e2)
    · rw [List.length_append, List.length_singleton, hal]
    · rw [List.append_assoc]
      exact hout
  · have e : i = ds.length := by omega
    subst e
    refine .inl ⟨jok.stop _ H' G' st (Nat.le_refl _), ?_⟩
    rw [List.drop_length] at hro
    cases hro
    rw [List.append_nil] at hout
    subst hout
    refine q D as H' G' (g1.trans ⟨hx, gx, hid, sub⟩) (fun a h => ?_) mat
    rcases List.mem_cons.mp h with rfl | h
    · exact g1.hx.back hD
    · exact g1.hx.back (new a h)

/-! ### stores -/
theorem nrm_at {α : Type} {ds : List α} {i : Int} {d : α} (h : atL ds i = some d) : ds[nrm ds.length i]? = some d ∧ ∀ {β : Type} (vs : List β) (v : β), vs.length = ds.length → vs[nrm ds.length i]? = some v → atI vs i = some v := by
  unfold atL at h
  unfold nrm
  split at h
  · rename_i h0
    have hlt : i.toNat < ds.length := (List.getElem?_eq_some_iff.mp h).1
    rw [if_pos h0]
    refine ⟨h, fun vs v hl hv => ?_⟩
    unfold atI ixN
    rw [if_pos h0, if_pos (by omega)]
    exact hv
  · rename_i h0
    split at h
    · rename_i h1
      rw [if_neg h0]
      refine ⟨h, fun vs v hl hv => ?_⟩
      unfold atI ixN
      rw [if_neg h0, if_pos (by omega), hl]
      exact hv
    · cases h
theorem nrm_ixN {n : Nat} {j : Int} (h1 : -(n : Int) ≤ j) (h2 : j < n) : ixN n j = some (nrm n j) := by
  unfold ixN nrm
  by_cases h0 : 0 ≤ j
  · rw [if_pos h0, if_pos h2, if_pos h0]
  · rw [if_neg h0, if_pos h1, if_neg h0]
/-- xss[a][b] = e -/
theorem js_putM (i : Nat) {ka kb : Expr} {fka fkb : EF} {p2 p3 p4 : Pos} (he : JE X cm e f) (hka : JE X cm ka fka) (hkb : JE X cm kb fkb) (hN : X.N[i]? = some x := by rfl) (hv : Vis X.env.scope x := by first | exact Or.inl rfl | exact Or.inr (Or.inl rfl) | exact Or.inr (Or.inr rfl)) (hd : (x == ("__debug__" : Str)) = false := by decide)
    (hcd : (x == ("__classdict__" : Str)) = false := by decide) (hpa : PlainIx ka := by exact fun _ _ => rfl)
    (ha : ∀ v, assign (.Subscript (.Subscript (.Name x p3) ka p4) kb p2) X.env v = (do
      let ov ← holding [v] (eval (.Subscript (.Name x p3) ka p4) X.env)
      let iv ← holding [v, ov] (eval kb X.env)
      standAt p2
      holding [v, ov, iv] (setItem ov iv v)
      release [v, ov, iv] []) := by intro _; rfl)
    (hs : swapsWithSole [.Subscript (.Subscript (.Name x p3) ka p4) kb p2] e pos.line X.env = pure false := by rfl) (hw : swappedStores [.Subscript (.Subscript (.Name x p3) ka p4) kb p2] e X.env = pure none := by rfl) (h1 : (assignEach [.Subscript (.Subscript (.Name x p3) ka p4) kb p2] X.env).map (·.2) = [assign (.Subscript (.Subscript (.Name x p3) ka p4) kb p2) X.env] := by rfl) :
    JS X cm (.Assign [.Subscript (.Subscript (.Name x p3) ka p4) kb p2] e pos) (wPutM i fka fkb f) := by
  refine ⟨fun env D' σ H G hww rel D o => to_s (ps_asg pe_w (pg_sub (pe_ix ix_seq (pe_var hN hv hd hcd) pe_w hpa) pe_w set_list ha) hs hw h1) ?_⟩
  obtain ⟨dss, r, ai, bi, ds, h1, h2, h3, h4, h5, h6, h7, h8, h9⟩ := hww
  refine he.pub h2 rel fun v H1 G1 g1 vr => ?_
  rw [h3] at vr
  obtain ⟨l, as, k1, k2⟩ := rel.mat i _ h1
  refine ⟨_, k1, hka.run env _ σ H1 G1 h4 (rel.grow g1) _ fun kv H2 G2 g2 kr => ?_⟩
  cases (show Den _ _ _ _ _ from kr)
  obtain ⟨n1, n2⟩ := nrm_at h5
  have hk : nrm dss.length ai < as.length := by rw [k2.len]; exact (List.getElem?_eq_some_iff.mp n1).1
  have ek : as[nrm dss.length ai]? = some as[nrm dss.length ai] := List.getElem?_eq_getElem hk
  generalize as[nrm dss.length ai] = ak at ek
  refine .inl ⟨l, as.map V.ref, ai, .ref ak, rfl, rfl, SqL.of ((g1.trans g2).hx _ _ k2.at_), n2 _ _ (by rw [List.length_map, k2.len]) (by rw [List.getElem?_map, ek]; rfl), ?_⟩
  refine hkb.run env _ σ H2 G2 h6 ((rel.grow g1).grow g2) _ fun kv H3 G3 g3 kr => ?_
  cases (show Den _ _ _ _ _ from kr)
  have g := (g1.trans g2).trans g3
  have m3 := k2.mono g
  obtain ⟨vs, q1, q2, q3⟩ := m3.row _ _ _ ek n1
  refine ⟨ak, vs, bi, nrm ds.length bi, rfl, rfl, q1, by rw [q3.length]; exact nrm_ixN h7 h8, ?_⟩
  have mem : ak ∈ as := List.mem_of_getElem? ek
  have ne : l ≠ ak := fun e => (List.nodup_cons.mp k2.nd).1 (by rw [e]; exact mem)
  obtain ⟨z1, z2⟩ := mat_upd (as' := as) (dss' := dss.set (nrm dss.length ai) (ds.set (nrm ds.length bi) r.dt)) (H2 := upd H3 ak (.lst (vs.set (nrm ds.length bi) v))) rel g h1 k1 k2 (fun a u h n => by
      rw [upd_ne (fun e => n (by rw [e]; exact List.mem_cons_of_mem _ mem))]; exact h) (fun a u h => by
      by_cases e : a = ak
      · exact ⟨_, by rw [e]; exact upd_same⟩
      · exact ⟨u, by rw [upd_ne e]; exact h⟩) ⟨by rw [upd_ne ne]; exact m3.at_, m3.hid, m3.nd, by rw [List.length_set]; exact m3.len, fun k a ds' e1 e2 => by
      by_cases e : k = nrm dss.length ai
      · subst e
        rw [ek] at e1
        cases e1
        rw [List.getElem?_set_self (by have q := hk; rw [k2.len] at q; exact q)] at e2
        cases e2
        exact ⟨_, upd_same, q2, DenL.set (vr.den.mono (g2.trans g3).gx) _ q3⟩
      · rw [List.getElem?_set_ne (Ne.symm e)] at e2
        obtain ⟨vs', w1, w2, w3⟩ := m3.row k a ds' e1 e2
        have na : a ≠ ak := fun z => by
          subst z
          have nd := (List.nodup_cons.mp k2.nd).2
          exact e ((List.getElem?_inj (List.getElem?_eq_some_iff.mp e1).1 nd).mp (e1.trans ek.symm))
        exact ⟨vs', by rw [upd_ne na]; exact w1, w2, w3⟩⟩ (fun a h => .inl h)
  exact o.nx _ _ _ _ z1 z2 h9
/-- xss[k] = e, e a new list -/
theorem js_putR (i : Nat) {k : Expr} {p2 p3 : Pos} (he : JE X cm e f) (hk : JE X cm k fk) (hN : X.N[i]? = some x := by rfl) (hv : Vis X.env.scope x := by first | exact Or.inl rfl | exact Or.inr (Or.inl rfl) | exact Or.inr (Or.inr rfl)) (hd : (x == ("__debug__" : Str)) = false := by decide)
    (hcd : (x == ("__classdict__" : Str)) = false := by decide)
    (ha : ∀ v, assign (.Subscript (.Name x p3) k p2) X.env v = (do
      let ov ← holding [v] (eval (.Name x p3) X.env)
      let iv ← holding [v, ov] (eval k X.env)
      standAt p2
      holding [v, ov, iv] (setItem ov iv v)
      release [v, ov, iv] []) := by intro _; rfl)
    (hs : swapsWithSole [.Subscript (.Name x p3) k p2] e pos.line X.env = pure false := by rfl) (hw : swappedStores [.Subscript (.Name x p3) k p2] e X.env = pure none := by rfl) (h1 : (assignEach [.Subscript (.Name x p3) k p2] X.env).map (·.2) = [assign (.Subscript (.Name x p3) k p2) X.env] := by rfl) :
    JS X cm (.Assign [.Subscript (.Name x p3) k p2] e pos) (wPutR i fk f) := by
  refine ⟨fun env D' σ H G hww rel D o => to_s (ps_asg pe_w (pg_sub (pe_var hN hv hd hcd) pe_w set_list ha) hs hw h1) ?_⟩
  obtain ⟨dss, ds, j, h1, h2, h4, h5, h6, h7⟩ := hww
  refine he.run env _ σ H G h2 rel _ fun v H1 G1 g1 rr => ?_
  obtain ⟨ln, ob, rfl, e2, e3, e4, e5⟩ := rr
  cases ob <;> first | exact e5.elim | skip
  rename_i vs
  obtain ⟨l, as, k1, k2⟩ := rel.mat i _ h1
  refine ⟨_, k1, hk.run env _ σ H1 G1 h4 (rel.grow g1) _ fun kv H2 G2 g2 kr => ?_⟩
  cases (show Den _ _ _ _ _ from kr)
  have g := g1.trans g2
  have m2 := k2.mono g
  have e3' := g2.hx _ _ e3
  have e4' := g2.hid _ _ e3 e4
  have nm : ln ∉ l :: as := fun h => by
    obtain ⟨⟨o, ho⟩, _⟩ := k2.all h
    rw [e2] at ho; cases ho
  have hjl : nrm dss.length j < dss.length := by
    unfold nrm
    split <;> omega
  refine ⟨l, as.map V.ref, j, nrm dss.length j, rfl, rfl, m2.at_, by rw [List.length_map, k2.len]; exact nrm_ixN h5 h6, ?_⟩
  suffices key : Rel X.K cm σ (upd H2 l (.lst ((as.map V.ref).set (nrm dss.length j) (.ref ln)))) G2 (env.set i (.mat (dss.set (nrm dss.length j) ds))) ∧ Fr σ env H G σ (env.set i (.mat (dss.set (nrm dss.length j) ds))) (upd H2 l (.lst ((as.map V.ref).set (nrm dss.length j) (.ref ln)))) G2 from o.nx _ _ _ _ key.1 key.2 h7
  refine mat_upd (as' := as.set (nrm dss.length j) ln) (dss' := dss.set (nrm dss.length j) ds) (H2 := upd H2 l (.lst ((as.map V.ref).set (nrm dss.length j) (.ref ln)))) rel g h1 k1 k2 (fun a u h n => by
      rw [upd_ne (fun e => n (by rw [e]; exact List.mem_cons_self))]; exact h) (fun a u h => by
      by_cases e : a = l
      · exact ⟨_, by rw [e]; exact upd_same⟩
      · exact ⟨u, by rw [upd_ne e]; exact h⟩) ⟨by rw [upd_same, List.map_set], m2.hid, ?_, by rw [List.length_set, List.length_set]; exact m2.len, fun k a ds' e1 e2' => ?_⟩ (fun a h => ?_)
  · have nd := List.nodup_cons.mp k2.nd
    refine List.nodup_cons.mpr ⟨fun h => ?_, ?_⟩
    · rcases List.mem_or_eq_of_mem_set h with h | h
      · exact nd.1 h
      · exact nm (by rw [← h]; exact List.mem_cons_self)
    · have pw := List.pairwise_iff_getElem.mp nd.2
      refine List.pairwise_iff_getElem.mpr fun p q hp hq hpq e => ?_
      rw [List.length_set] at hp hq
      rw [List.getElem_set, List.getElem_set] at e
      split at e
      · split at e
        · omega
        · exact nm (List.mem_cons_of_mem _ (by rw [e]; exact List.getElem_mem hq))
      · split at e
        · exact nm (List.mem_cons_of_mem _ (by rw [← e]; exact List.getElem_mem hp))
        · exact pw p q hp hq hpq e
  · by_cases e : k = nrm dss.length j
    · subst e
      rw [List.getElem?_set_self (by rw [k2.len]; exact hjl)] at e1
      cases e1
      rw [List.getElem?_set_self hjl] at e2'
      cases e2'
      exact ⟨vs, by rw [upd_ne (fun e => nm (by rw [e]; exact List.mem_cons_self))]; exact e3', e4', DenL.mono g2.gx e5⟩
    · rw [List.getElem?_set_ne (Ne.symm e)] at e1 e2'
      obtain ⟨vs', w1, w2, w3⟩ := m2.row k a ds' e1 e2'
      exact ⟨vs', by rw [upd_ne (fun z => (List.nodup_cons.mp k2.nd).1 (by rw [← z]; exact List.mem_of_getElem? e1))]; exact w1, w2, w3⟩
  · rcases List.mem_or_eq_of_mem_set h with h | h
    · exact .inl h
    · exact .inr (by rw [h]; exact e2)
end
end Pyl
end
section
set_option Elab.async false
set_option linter.all false
set_option maxRecDepth 100000
set_option maxHeartbeats 2000000
namespace Pyl
open PySem L2
section
variable {X : Cx} {cm : Nat → Addr} {e a b c : Expr} {f fa fb fc : EF} {σ : L2.St} {H G : Hp} {env : Sl} {pos p : Pos} {x : Str}
/-! lcm -/
theorem lcm_small {n : Nat} (h : n < LCMB) : n.log2 ≤ 13000 := Nat.le_of_lt (PySem.Flt.log2_lt_of (by decide) (by rw [← LCMB_eq]; exact h))
def rLcm : List V → Hp → VK → Prop := fun vs H Q => ∃ a b : Int, vs = [.int a, .int b] ∧ a.natAbs < LCMB ∧ b.natAbs < LCMB ∧ Q (.int ((Nat.lcm a.natAbs b.natAbs : Nat) : Int)) H
theorem cr_lcm : CallR X (.builtin "math.lcm") rLcm := by
  intro pins s σ H vs us Q I r h
  obtain ⟨a, b, rfl, ha, hb, q⟩ := h
  obtain ⟨t, u, rfl⟩ := Vals.int2 r
  have h1 : ¬(max 1 a.natAbs).log2 / 30 + 1 > 450 := by
    have : max 1 a.natAbs < LCMB := by
      have : 1 < LCMB := by rw [LCMB_eq]; exact Nat.one_lt_two_pow (by decide)
      omega
    have := lcm_small this
    omega
  have h2 : ¬(max a.natAbs b.natAbs).log2 / 30 + 1 > 450 := by
    have : max a.natAbs b.natAbs < LCMB := by omega
    have := lcm_small this
    omega
  have hsz : ((((Nat.lcm 1 a.natAbs).lcm b.natAbs : Nat) : Int)).natAbs.log2 < bitsLine := by
    rw [PySem.W.mc_lcm_one]
    have q1 : a.natAbs.lcm b.natAbs ≤ a.natAbs * b.natAbs := PySem.W.mc_lcm_le _ _
    have q2 : a.natAbs * b.natAbs < 2 ^ 26000 := by
      rw [LCMB_eq] at ha hb
      calc a.natAbs * b.natAbs < 2 ^ 13000 * 2 ^ 13000 := Nat.mul_lt_mul'' ha hb
        _ = 2 ^ 26000 := (Nat.pow_add 2 13000 13000).symm
    have q3 : (a.natAbs.lcm b.natAbs).log2 < 26000 := PySem.Flt.log2_lt_of (by decide) (Nat.lt_of_le_of_lt q1 q2)
    have q4 : 26000 ≤ bitsLine := by decide
    show (a.natAbs.lcm b.natAbs).log2 < bitsLine
    omega
  have g := PySem.W.mg_run_lcm a t b u h1 h2 hsz
  rw [PySem.W.mc_lcm_one] at g
  exact call_function_meets PySem.W.MGF.kind_lcm PySem.W.MGF.plain_lcm PySem.W.MGF.entry_lcm (PySem.W.MGF.args_lcm _ _) g.meets ⟨.int _, H, I.tok _, ⟨_, rfl⟩, q⟩
theorem p2c_lcm : P2c X cm (.builtin "math.lcm") pLcm := ⟨_, cr_lcm, fun d d2 b b2 out v v2 H G vr vr2 sub hp Q q => by
  unfold pLcm at hp
  split at hp
  · split at hp
    · rename_i hs
      cases hp
      have e := vr.int
      have e2 := vr2.int
      subst e e2
      exact ⟨_, _, rfl, hs.1, hs.2, q _ _ _ (.refl sub) (Den.int _)⟩
    · cases hp
  · cases hp⟩
theorem je_lcm (hg : Gl X "lcm") (hm : X.mg "lcm" = some (.builtin "math.lcm")) (ha : JE X cm a fa) (hb : JE X cm b fb)
    (h0 : starEach [b] X.env = (false, eval b X.env) :: starEach [] X.env := by rfl) (he : starEach [a, b] X.env = (false, eval a X.env) :: starEach [b] X.env := by rfl) (hpl : (backTo pos (starEach [b] X.env)).any (·.1) = false := by rfl) : JE X cm (.Call (.Name "lcm" p) [a, b] [] pos) (e2 pLcm fa fb) := je_f2 p2c_lcm hg hm ha hb (by decide) h0 he hpl

/-! sorted -/
/-- lists of two ints: what stands there, side by side -/
def rSortLP (K : PySem.W.Frag) : List V → Hp → VK → Prop := fun vs H Q => ∃ (a : Addr) (xs : List V) (ps : List (Int × Int)), vs = [V.ref a] ∧ SqL K H a xs ∧ xs.length = ps.length ∧
  (∀ (i : Nat) (v : V) (q : Int × Int), xs[i]? = some v → ps[i]? = some q → Dp K H v (.list [.int q.1, .int q.2])) ∧
  ∀ (ys : List V) (qs : List (Int × Int)) (m : Addr), ys.length = qs.length → (ys.zip qs).Perm (xs.zip ps) → qs.Pairwise (fun p q => lexLe p q = true) → H m = none → Q (.ref m) (upd H m (.lst ys))
/-- at a value stands a list of two ints -/
def IsLP (h : Heap) (u : Value) (q : Int × Int) : Prop := ∃ as, Reads h u (.list [.int q.1, .int q.2]) as
theorem IsLP.uniq {h : Heap} {u : Value} {p q : Int × Int} (a : IsLP h u p) (b : IsLP h u q) : p = q := by
  obtain ⟨as, a⟩ := a
  obtain ⟨bs, b⟩ := b
  have e := PySem.W.alike_unique (.list [.int p.1, .int p.2]) (.list [.int q.1, .int q.2]) u as bs (by simp [PySem.W.alike, PySem.W.alikeAll]) a b
  have e1 : p.1 = q.1 := by simp at e; exact e.1
  have e2 : p.2 = q.2 := by simp at e; exact e.2
  exact Prod.ext e1 e2
open Classical in
noncomputable def lpAt (h : Heap) (u : Value) : Int × Int := if e : ∃ q, IsLP h u q then Classical.choose e else (0, 0)
theorem lpAt_is {h : Heap} {u : Value} {q : Int × Int} (e : IsLP h u q) : lpAt h u = q := by
  unfold lpAt
  rw [dif_pos ⟨q, e⟩]
  exact (Classical.choose_spec (⟨q, e⟩ : ∃ q, IsLP h u q)).uniq e
theorem lexLe_of {p q : Int × Int} (h : SrtO.lexB q p = false) : lexLe p q = true := by
  have := SrtO.lexB_no.mp h
  unfold lexLe
  by_cases e : p.1 = q.1
  · rw [if_pos e]; exact decide_eq_true (by omega)
  · rw [if_neg e]; exact decide_eq_true (by omega)

theorem IsLP.keeps {h h' : Heap} {u : Value} {q : Int × Int} (k : ∀ b o, h.get? b = some o → h'.get? b = some o) (a : IsLP h u q) : IsLP h' u q := by
  obtain ⟨as, a⟩ := a
  exact ⟨as, PyProof.Rows.Reads.keeps k a⟩
theorem lp_depth (p : Int × Int) : (PyData.list [.int p.1, .int p.2]).depth ≤ 2 := by
  simp [PyData.depth, PyData.depthAll]
theorem lp_lt (p q : Int × Int) : PySem.W.dataLt (.list [.int p.1, .int p.2]) (.list [.int q.1, .int q.2]) = SrtO.lexB p q := by
  rw [PySem.W.dataLt_list]
  unfold SrtO.lexB
  by_cases e : p.1 = q.1
  · rw [if_pos e, PySem.W.dataLt_all_yes (by simp [PySem.W.alike]) (by rw [e]; simp [PyData.eqv])]
    by_cases e2 : p.2 = q.2
    · rw [PySem.W.dataLt_all_yes (by simp [PySem.W.alike]) (by rw [e2]; simp [PyData.eqv]), e2]
      simp only [PyProof.Rows.lex_irrefl, decide_eq_false (Int.lt_irrefl _)]
    · rw [PySem.W.dataLt_all_no (by simp [PySem.W.alike]) (by simp [PyData.eqv, e2]), PySem.W.dataLt_int]
  · rw [if_neg e, PySem.W.dataLt_all_no (by simp [PySem.W.alike]) (by simp [PyData.eqv, e]), PySem.W.dataLt_int]
theorem cr_sortLP (hu : X.A.units + 64 < cLine) : CallR X (.builtin "sorted") (rSortLP X.K) := by
  intro pins s σ H vs us Q I r h
  obtain ⟨a, xs, ps, rfl, hs, hl, hx, q⟩ := h
  obtain ⟨its, rv, hli, hz⟩ := I.list hs
  rw [Vals.ref1 r]
  have li : its.length = ps.length := by rw [← rv.length, hl]
  have isat : ∀ (i : Nat) (u : Value) (p : Int × Int), its[i]? = some u → ps[i]? = some p → IsLP s.heap u p := fun i u p e1 e2 => by
    have hi : i < xs.length := by rw [hl]; exact (List.getElem?_eq_some_iff.mp e2).1
    obtain ⟨u', h1, h2⟩ := Vals.get rv (List.getElem?_eq_getElem hi)
    rw [e1] at h1
    cases h1
    exact Dp.reads I _ _ u (hx i _ p (List.getElem?_eq_getElem hi) e2) h2
  have ismem : ∀ u ∈ its, IsLP s.heap u (lpAt s.heap u) := fun u hm => by
    obtain ⟨i, hi, e⟩ := List.getElem_of_mem hm
    have z := isat i u _ (by rw [List.getElem?_eq_getElem hi, e]) (List.getElem?_eq_getElem (by rw [← li]; exact hi))
    rw [lpAt_is z]
    exact z
  refine SrtO.sorted_ord (SrtO.swo_lex (lpAt s.heap)) hli.isList (by rw [← rv.length]; exact hz) (fun h2 h₁ a' ha kk => ?_) fun out h1 h2 => ?_
  · intro h' keep
    have up : ∀ b o, s.heap.get? b = some o → h'.get? b = some o := fun b o e => keep b o (kk b o e).1 (kk b o e).2
    have is' : ∀ u ∈ its, IsLP h' u (lpAt s.heap u) := fun u hm => (ismem u hm).keeps up
    refine ⟨PyProof.Rows.oneType', fun Q E hq => PySem.W.kas_kind (T := .type "list") h2 (fun v hv => ?_) (by decide) (by decide) hq, fun p q hp hq => ?_⟩
    · obtain ⟨as, ra⟩ := is' v hv
      exact PySem.W.looks_reads ra
    · obtain ⟨as, ra⟩ := is' _ hp
      obtain ⟨bs, rb⟩ := is' _ hq
      rw [PyProof.Rows.keyLt'_oneType]
      refine PySem.W.oneLt_alike (fun _ xs e => by cases e) ra rb (by simp [PySem.W.alike, PySem.W.alikeAll]) (fun e => by cases e) ?_ ⟨rfl, ?_⟩
      · have d1 := lp_depth (lpAt s.heap p.1)
        have d2 := Nat.min_le_left (PyData.list [.int (lpAt s.heap p.1).1, .int (lpAt s.heap p.1).2]).depth (PyData.list [.int (lpAt s.heap q.1).1, .int (lpAt s.heap q.1).2]).depth
        have u2 : X.A.in1.in1.units = X.A.units + 1 + 1 := rfl
        rw [u2]
        omega
      · exact lp_lt _ _
  · have isref : ∀ u ∈ its, ∃ a, u = Value.ref a := fun u hm => by
      obtain ⟨as, ra⟩ := ismem u hm
      cases ra
      exact ⟨_, rfl⟩
    have e1 : xs = its.map backV := (refs_back rv fun x m => by
      obtain ⟨i, hi, e⟩ := List.getElem_of_mem m
      have hi2 : i < its.length := by rw [← rv.length]; exact hi
      obtain ⟨u, k1, k2⟩ := Vals.get (i := i) (x := x) rv (by rw [List.getElem?_eq_getElem hi, e])
      obtain ⟨b, rfl⟩ := isref u (List.mem_of_getElem? k1)
      cases x <;> first | exact ⟨_, rfl⟩ | (revert k2; simp [RelV])).1
    have e2 : ps = its.map (lpAt s.heap) := by
      refine List.ext_getElem? fun i => ?_
      rw [List.getElem?_map]
      cases hp : ps[i]? with
      | none =>
        rw [List.getElem?_eq_none (by rw [li]; exact List.getElem?_eq_none_iff.mp hp)]
        rfl
      | some p =>
        have hi : i < its.length := by rw [li]; exact (List.getElem?_eq_some_iff.mp hp).1
        rw [List.getElem?_eq_getElem hi]
        exact congrArg some (lpAt_is (isat i _ p (List.getElem?_eq_getElem hi) hp)).symm
    have h3 : ∀ u ∈ out, ∃ a, u = Value.ref a := fun u hu => isref u (h2.perm.mem_iff.mp hu)
    obtain ⟨ep, he'⟩ := PyProof.Rows.sortedAll_at s.heap its out.toArray
    have hlen : (out.map backV).length ≤ sizeLine := by
      rw [List.length_map, h2.perm.length_eq, ← rv.length]
      exact hz
    refine ⟨.ref _, upd H (s.heap.objs.size + 1) (.lst (out.map backV)), I.laid (t' := s.toks) (fun _ _ => PyProof.Rows.sortedAll_old) (Nat.le_succ _) ⟨hlen, out, ep, vals_back h3, he'⟩, rfl, q (out.map backV) (out.map (lpAt s.heap)) _ (by rw [List.length_map, List.length_map]) ?_ ?_ (I.hok.fresh (Nat.le_succ _))⟩
    · rw [e1, e2, List.zip_map', List.zip_map']
      exact h2.perm.map _
    · exact List.pairwise_map.mpr (h1.imp fun {x y} z => lexLe_of z)

theorem lexLe_trans (a b c : Int × Int) (h1 : lexLe a b = true) (h2 : lexLe b c = true) : lexLe a c = true := by
  unfold lexLe at *
  split at h1 <;> split at h2 <;> split <;> simp_all <;> omega
theorem lexLe_total (a b : Int × Int) : (lexLe a b || lexLe b a) = true := by
  unfold lexLe
  by_cases e : a.1 = b.1
  · rw [if_pos e, if_pos e.symm, Bool.or_eq_true, decide_eq_true_eq, decide_eq_true_eq]; omega
  · rw [if_neg e, if_neg (fun z => e z.symm), Bool.or_eq_true, decide_eq_true_eq, decide_eq_true_eq]; omega
theorem lexLe_anti (a b : Int × Int) (h1 : lexLe a b = true) (h2 : lexLe b a = true) : a = b := by
  unfold lexLe at *
  by_cases e : a.1 = b.1
  · rw [if_pos e, decide_eq_true_eq] at h1
    rw [if_pos e.symm, decide_eq_true_eq] at h2
    exact Prod.ext e (by omega)
  · rw [if_neg e, decide_eq_true_eq] at h1
    rw [if_neg (fun z => e z.symm), decide_eq_true_eq] at h2
    omega
theorem ints_sort {ns ms : List Int} (h1 : ms.Perm ns) (h2 : ms.Pairwise (· ≤ ·)) : ms = ns.mergeSort fun a b => decide (a ≤ b) := by
  have h3 : (ns.mergeSort fun a b => decide (a ≤ b)).Pairwise (· ≤ ·) := (List.pairwise_mergeSort (le := fun a b : Int => decide (a ≤ b)) (fun a b c x y => by
    rw [decide_eq_true_eq] at *; omega) (fun a b => by rw [Bool.or_eq_true, decide_eq_true_eq, decide_eq_true_eq]; omega) ns).imp fun {a b} z => of_decide_eq_true z
  exact List.Perm.eq_of_pairwise (fun a b _ _ x y => Int.le_antisymm x y) h2 h3 (h1.trans (List.mergeSort_perm ns _).symm)
theorem pairs_sort {ns ms : List (Int × Int)} (h1 : ms.Perm ns) (h2 : ms.Pairwise (fun p q => lexLe p q = true)) : ms = ns.mergeSort lexLe :=
  List.Perm.eq_of_pairwise (fun a b _ _ x y => lexLe_anti a b x y) h2 (List.pairwise_mergeSort lexLe_trans lexLe_total ns) (h1.trans (List.mergeSort_perm ns _).symm)
theorem intPairs_some : ∀ {ds : List Dt} {ps : List (Int × Int)}, intPairs ds = some ps → ds = ps.map pairD
  | [], _, h => by cases h; rfl
  | .lst [.int a, .int b] :: ds, ps, h => by
    unfold intPairs at h
    obtain ⟨r, h1, h2⟩ := Option.map_eq_some_iff.mp h
    subst h2
    rw [intPairs_some h1]
    rfl
  | .non :: _, _, h => by simp [intPairs] at h
  | .bl _ :: _, _, h => by simp [intPairs] at h
  | .int _ :: _, _, h => by simp [intPairs] at h
  | .str _ :: _, _, h => by simp [intPairs] at h
  | .tup _ :: _, _, h => by simp [intPairs] at h
  | .obj _ _ :: _, _, h => by simp [intPairs] at h
  | .lst [] :: _, _, h => by simp [intPairs] at h
  | .lst [_] :: _, _, h => by simp [intPairs] at h
  | .lst (_ :: _ :: _ :: _) :: _, _, h => by simp [intPairs] at h
  | .lst [.non, _] :: _, _, h => by simp [intPairs] at h
  | .lst [.bl _, _] :: _, _, h => by simp [intPairs] at h
  | .lst [.str _, _] :: _, _, h => by simp [intPairs] at h
  | .lst [.lst _, _] :: _, _, h => by simp [intPairs] at h
  | .lst [.tup _, _] :: _, _, h => by simp [intPairs] at h
  | .lst [.obj _ _, _] :: _, _, h => by simp [intPairs] at h
  | .lst [.int _, .non] :: _, _, h => by simp [intPairs] at h
  | .lst [.int _, .bl _] :: _, _, h => by simp [intPairs] at h
  | .lst [.int _, .str _] :: _, _, h => by simp [intPairs] at h
  | .lst [.int _, .lst _] :: _, _, h => by simp [intPairs] at h
  | .lst [.int _, .tup _] :: _, _, h => by simp [intPairs] at h
  | .lst [.int _, .obj _ _] :: _, _, h => by simp [intPairs] at h
theorem denL_zip {K : PySem.W.Frag} {G : Hp} {β : Type} {f : β → Dt} : ∀ {vs : List V} {ps : List β}, vs.length = ps.length → (∀ z ∈ vs.zip ps, Den K cm G z.1 (f z.2)) → DenL K cm G vs (ps.map f)
  | [], [], _, _ => .nil
  | v :: vs, p :: ps, e, h => .cons (h (v, p) List.mem_cons_self) (denL_zip (by simpa using e) fun z hz => h z (List.mem_cons_of_mem _ hz))
  | [], _ :: _, e, _ => by cases e
  | _ :: _, [], e, _ => by cases e
theorem zip_den {K : PySem.W.Frag} {G : Hp} {β : Type} {f : β → Dt} : ∀ {vs : List V} {ps : List β}, DenL K cm G vs (ps.map f) → ∀ z ∈ vs.zip ps, Den K cm G z.1 (f z.2)
  | [], _, _, z, h => by simp at h
  | v :: vs, [], h, _, _ => by cases h
  | v :: vs, p :: ps, h, z, m => by
    cases h with
    | cons h1 h2 =>
      rcases List.mem_cons.mp (show z ∈ (v, p) :: vs.zip ps from m) with rfl | m
      · exact h1
      · exact zip_den h2 z m
theorem p1_sorted (hu : X.A.units + 64 < cLine) : P1 X cm (.builtin "sorted") pSorted := by
  refine ⟨fun vs H Q => rSortedI X.K vs H Q ∨ rSortLP X.K vs H Q, fun pins s σ H vs us Q I r h => ?_, fun d b out v H G vr sub hp Q q => ?_⟩
  · rcases h with h | h
    · exact cr_sortedI pins s σ H vs us Q I r h
    · exact cr_sortLP hu pins s σ H vs us Q I r h
  · unfold pSorted at hp
    split at hp
    · rename_i ds
      split at hp
      · rename_i ns h1
        cases hp
        obtain ⟨l, rfl, s1⟩ := vr.lstI sub h1
        refine .inl ⟨l, ns, rfl, s1, fun ns' m h2 h3 hm => ?_⟩
        rw [ints_sort h2 h3]
        exact q _ _ _ (.hide sub hm) ⟨m, _, rfl, hm, upd_same, sub.back hm, denL_ints _⟩
      · obtain ⟨ps, h1, hp⟩ := Option.map_eq_some_iff.mp hp
        subst hp
        obtain ⟨l, vs, rfl, s1, n1⟩ := vr.lst sub
        have e := intPairs_some h1
        subst e
        have hl : vs.length = ps.length := by rw [n1.length, List.length_map]
        have zd := zip_den n1
        refine .inr ⟨l, vs, ps, rfl, s1, hl, fun i v p e1 e2 => ?_, fun ys qs m h2 h3 h4 hm => ?_⟩
        · have hz : (v, p) ∈ vs.zip ps := by
            refine List.mem_of_getElem? (i := i) ?_
            rw [List.getElem?_zip_eq_some]
            exact ⟨e1, e2⟩
          exact (zd _ hz).dp sub (by simp [pairD, Dt.py, Dt.pyL])
        · have pp : qs.Perm ps := by
            have z := h3.map Prod.snd
            rwa [List.map_snd_zip (by omega), List.map_snd_zip (by omega)] at z
          have e := pairs_sort pp h4
          refine q _ _ _ (.hide sub hm) ⟨m, _, rfl, hm, upd_same, sub.back hm, ?_⟩
          rw [← e]
          exact denL_zip h2 fun z hz => zd z (h3.mem_iff.mp hz)
    · cases hp

/-! ### keywords, defaults -/
structure JK (X : Cx) (cm : Nat → Addr) (kws : List Keyword) (f : AF) : Prop where
  run : ∀ (env : Sl) (r : List (Dt × Bool)) (σ : L2.St) (H G : Hp), f env = some r → Rel X.K cm σ H G env → ∀ Q : List V → Hp → Prop, (∀ vs H' G', Grow H G H' G' → VRs X.K cm H' G' vs r → Q vs H') → ∃ t, PK X kws t ∧ t σ H Q
  len : ∀ (env : Sl) (r : List (Dt × Bool)), f env = some r → r.length = kws.length
theorem jk_nil : JK X cm [] aNil := ⟨fun env r σ H G hf rel Q q => by
  cases hf
  exact ⟨_, pk_nil, q [] H G (.refl rel.sub) .nil⟩, fun env r h => by cases h; rfl⟩
def wpK (X : Cx) (kws : List Keyword) : TA := fun σ H Q => ∃ t, PK X kws t ∧ t σ H Q
theorem pk_w {kws : List Keyword} : PK X kws (wpK X kws) := ⟨fun pos pins s σ H Q I ⟨t, h1, h2⟩ => h1.run pos pins s σ H Q I h2⟩
theorem jk_cons {kws : List Keyword} {fr : AF} {nm : Option Str} {kp : Pos} (ha : JE X cm e fa) (hr : JK X cm kws fr) : JK X cm (⟨nm, e, kp⟩ :: kws) (aCons fa fr) := by
  refine ⟨fun env r σ H G hf rel Q q => ⟨_, pk_cons pe_w pk_w, ?_⟩, fun env r hf => by
    obtain ⟨ra, h1, hf⟩ := Option.bind_eq_some_iff.mp hf
    obtain ⟨rs, h2, hf⟩ := Option.bind_eq_some_iff.mp hf
    cases hf
    rw [List.length_cons, List.length_cons, hr.len env rs h2]⟩
  obtain ⟨ra, h1, hf⟩ := Option.bind_eq_some_iff.mp hf
  obtain ⟨rs, h2, hf⟩ := Option.bind_eq_some_iff.mp hf
  cases hf
  refine ha.pub h1 rel fun v H1 G1 g1 vr => ?_
  refine hr.run env rs σ H1 G1 h2 (rel.grow g1) _ fun vs H2 G2 g2 vrs => ?_
  exact q _ H2 G2 (g1.trans g2) (.cons (vr.grow g2) vrs)
theorem VRs.append {K : PySem.W.Frag} {H G : Hp} : ∀ {vs ws : List V} {rs qs : List (Dt × Bool)}, VRs K cm H G vs rs → VRs K cm H G ws qs → VRs K cm H G (vs ++ ws) (rs ++ qs)
  | _, _, _, _, .nil, s => s
  | _, _, _, _, .cons h t, s => .cons h (VRs.append t s)
/-- a call's answer, of arguments that may be borrowed -/
theorem call_end {K : PySem.W.Frag} {F : FN} {vs : List V} {rs : List (Dt × Bool)} {r : R} {H G H1 G1 : Hp} (g1 : Grow H G H1 G1) (vrs : VRs K cm H1 G1 vs rs) (hf : ((F (rs.map (·.1))).bind fun d => if rs.any (·.2) && !d.scalar then none else some (.vis d)) = some r) {Q : VK} {E : XK}
    (q : ∀ v H' G', Grow H G H' G' → RR K cm H H' G' v r → Q v H') : spP K cm F vs H1 Q E := by
  obtain ⟨d, h2, hf⟩ := Option.bind_eq_some_iff.mp hf
  by_cases hs : rs.any (·.2) = true
  · split at hf
    · cases hf
    · rename_i hn
      cases hf
      have sc : d.scalar = true := by
        cases hd : d.scalar with
        | true => rfl
        | false => exact absurd (by rw [hs, hd]; rfl) hn
      refine ⟨H1, _, d, .refl _, vrs.denH g1.sub, h2, fun v H' G' g hden => ?_⟩
      exact q v H' G1 (g1.trans ⟨g.hx, .refl _, fun _ _ _ n => n, g1.sub.trans g.hx⟩) (Dt.scalar_den hden sc)
  · have hs' : rs.any (·.2) = false := by simpa using hs
    split at hf
    · rename_i hn
      rw [hs'] at hn
      cases hn
    · cases hf
      exact ⟨G1, _, d, g1.sub, vrs.plain hs', h2, fun v H' G' g hden => q v H' G' (g1.trans g) hden⟩
/-- a def of the module that keeps F, with n positional arguments and the keywords ks behind them -/
structure FnK (P : Program) (w : World) (K : PySem.W.Frag) (mg : Str → Option Value) (base : Heap) (cm : Nat → Addr) (k : Nat) (x : Str) (n : Nat) (ks : List Str) (F : FN) : Prop where
  ex : ∃ (f : Addr) (fd : FuncData) (ps : List Str) (g : List Value → List Value → List Value), FnOk P w K mg base CX0 k f fd ps (spP K cm F) ∧ mg x = some (.ref f) ∧ PySem.W.keepIn K (.ref f) = true ∧ KBn K fd ps n ks g (fun vs zs => vs ++ zs)
theorem je_callK {es : List Expr} {ft fk : AF} {F : FN} {k : Nat} {ks : List Str} {kws : List Keyword} (C : FnK X.prog X.w X.K X.mg X.base cm k x (es.length + 1) ks F) (hr : Room k X.A) (hg : Gl X x) (ha : JA X cm (e :: es) ft) (hk : JK X cm kws fk)
    (hall : (backToKw pos (keywordEach kws X.env)).all (·.1.isSome) = true := by rfl) (hks : (backToKw pos (keywordEach kws X.env)).filterMap (·.1) = ks := by rfl) (hln : ks.length = kws.length := by rfl) (hdb : (x == ("__debug__" : Str)) = false := by decide)
    (he : starEach (e :: es) X.env = (false, eval e X.env) :: starEach es X.env := by rfl)
    (hpl : ((backTo pos (starEach (e :: es) X.env)).any (·.1) || (backToKw pos (keywordEach kws X.env)).any (·.1.isNone)) = false := by rfl) : JE X cm (.Call (.Name x p) (e :: es) kws pos) (eCall F (aApp ft fk)) := by
  refine ⟨fun env r σ H G hf rel Q q => ?_⟩
  obtain ⟨rs, h1, hf⟩ := Option.bind_eq_some_iff.mp hf
  obtain ⟨ra, h2, h1⟩ := Option.bind_eq_some_iff.mp h1
  obtain ⟨rk, h3, h1⟩ := Option.bind_eq_some_iff.mp h1
  cases h1
  obtain ⟨f, fd, ps, g, hF, hm, hkp, hb⟩ := C.ex
  refine to_e (pe_callN hF hr hg hm hkp hb pass0 pa_w pk_w hall hks hdb he hpl) (ha.run env ra σ H G h2 rel _ fun vs H1 G1 g1 vrs => hk.run env rk σ H1 G1 h3 (rel.grow g1) _ fun zs H2 G2 g2 zrs => ⟨?_, ?_, ?_⟩)
  · rw [vrs.length, ha.len env ra h2]; rfl
  · rw [zrs.length, hk.len env rk h3, hln]
  · exact call_end (g1.trans g2) ((vrs.grow g2).append zrs) hf q
/-- a def of the module that keeps F; the arguments that lack at the call are dd -/
structure FnD (P : Program) (w : World) (K : PySem.W.Frag) (mg : Str → Option Value) (base : Heap) (cm : Nat → Addr) (k : Nat) (x : Str) (dd : List Dt) (F : FN) : Prop where
  ex : ∃ (f : Addr) (fd : FuncData) (ps : List Str) (dvs : List V) (ds : List Value), FnOk P w K mg base CX0 k f fd ps (spP K cm F) ∧ mg x = some (.ref f) ∧ PySem.W.keepIn K (.ref f) = true ∧ Binds K fd ps ds ∧ Vals dvs ds ∧ ∀ G, DenL K cm G dvs dd
theorem vrs_dfl {K : PySem.W.Frag} {H G : Hp} : ∀ {vs : List V} {dd : List Dt}, DenL K cm G vs dd → VRs K cm H G vs (dd.map fun d => (d, false))
  | _, _, .nil => .nil
  | _, _, .cons h t => .cons (.vis h) (vrs_dfl t)
theorem je_callD {es : List Expr} {ft : AF} {F : FN} {k : Nat} {dd : List Dt} (C : FnD X.prog X.w X.K X.mg X.base cm k x dd F) (hr : Room k X.A) (hg : Gl X x) (ha : JA X cm (e :: es) ft) (hdb : (x == ("__debug__" : Str)) = false := by decide)
    (he : starEach (e :: es) X.env = (false, eval e X.env) :: starEach es X.env := by rfl) (hpl : (backTo pos (starEach es X.env)).any (·.1) = false := by rfl) : JE X cm (.Call (.Name x p) (e :: es) [] pos) (eCall F (aApp ft (aDfl dd))) := by
  refine ⟨fun env r σ H G hf rel Q q => ?_⟩
  obtain ⟨rs, h1, hf⟩ := Option.bind_eq_some_iff.mp hf
  obtain ⟨ra, h2, h1⟩ := Option.bind_eq_some_iff.mp h1
  obtain ⟨rk, h3, h1⟩ := Option.bind_eq_some_iff.mp h1
  cases h1
  cases h3
  obtain ⟨f, fd, ps, dvs, ds, hF, hm, hkp, hb, hv, hd⟩ := C.ex
  refine to_e (pe_call hF hr hg hm hkp hb hv pass0 pa_w hdb he hpl) (ha.run env ra σ H G h2 rel _ fun vs H1 G1 g1 vrs => ?_)
  exact call_end g1 (vrs.append (vrs_dfl (hd G1))) hf q
end
end Pyl
end
section
set_option Elab.async false
set_option linter.all false
set_option maxRecDepth 100000
set_option maxHeartbeats 2000000
namespace Pyl
open PySem L2
/-! ### what the written part says of a class -/
structure InsK (K : PySem.W.Frag) (C : Addr) : Prop where
  cls : Cls K C
  c1 : PySem.W.findIn K (.ref C) "__class__" = some (some (.builtin "object.__class__"))
  c2 : PySem.W.specialIn K (.builtin "object.__class__") "__get__" = some (some (.builtin "getset_descriptor.__get__"))
  c3 : PySem.W.takesIn K (.builtin "object.__class__") = some true
  c4 : PySem.W.mroIn K C (.type "object") = some true
def insB (K : PySem.W.Frag) (C : Addr) : Bool := (PySem.W.plainGet K C Str.empty && PySem.W.hasDictIn K C && PySem.W.plainOver K C && decide (PySem.W.findIn K (.ref C) "__setattr__" = some (some (.builtin "object.__setattr__")))) &&
  (decide (PySem.W.findIn K (.ref C) "__class__" = some (some (.builtin "object.__class__"))) && decide (PySem.W.specialIn K (.builtin "object.__class__") "__get__" = some (some (.builtin "getset_descriptor.__get__"))) && decide (PySem.W.takesIn K (.builtin "object.__class__") = some true) && decide (PySem.W.mroIn K C (.type "object") = some true))
theorem insB_ok {K : PySem.W.Frag} {C : Addr} (h : insB K C = true) : InsK K C := by
  unfold insB at h
  simp only [Bool.and_eq_true, decide_eq_true_eq] at h
  obtain ⟨⟨⟨⟨h1, h2⟩, h3⟩, h4⟩, ⟨⟨h5, h6⟩, h7⟩, h8⟩ := h
  exact ⟨⟨h1, h2, h3, h4⟩, h5, h6, h7, h8⟩
/-- of an exception's class -/
structure ExcK (K : PySem.W.Frag) (C : Addr) : Prop where
  xf : XfC K C
  cl : (PySem.W.clsIn K C).isSome = true
  c1 : PySem.W.findIn K (.ref C) "__class__" = some (some (.builtin "object.__class__"))
  c2 : PySem.W.specialIn K (.builtin "object.__class__") "__get__" = some (some (.builtin "getset_descriptor.__get__"))
  c3 : PySem.W.takesIn K (.builtin "object.__class__") = some true
  c4 : PySem.W.mroIn K C (.type "object") = some true
  oex : OexC K C
/-- the shape of an own exception class's object -/
def oexB (K : PySem.W.Frag) (C : Addr) : Bool := match K.lookup C with
  | some ⟨.type "type", _, .cls cd, sl⟩ => (match cd.mro, sl.toList with
    | .ref C' :: bm, [_, _, _, _, some (.builtin n), _] => C' == C && n == "ValueError.__new__" && cd.hasDict && !cd.hasDel && PySem.HandSPX.refsVE bm
    | _, _ => false)
  | _ => false
theorem oexB_ok {K : PySem.W.Frag} {C : Addr} (h : oexB K C = true) : ∃ nm q N bs bm sn sub ab col dd k0 k1 k2 k3 k5, K.lookup C = some (excClassObj nm q C N bs bm true sn sub ab col dd k0 k1 k2 k3 k5 "ValueError.__new__") ∧ PySem.HandSPX.refsVE bm = true := by
  unfold oexB at h
  split at h
  · rename_i dd cd sl ho
    split at h
    · rename_i C' bm k0 k1 k2 k3 n k5 hm hs
      simp only [Bool.and_eq_true, beq_iff_eq, Bool.not_eq_true'] at h
      obtain ⟨⟨⟨⟨e1, e2⟩, hd⟩, hdel⟩, hr⟩ := h
      obtain ⟨nm, bs, mro, ns, qn, hdc, sn, sub, ab, col, del⟩ := cd
      dsimp only at hm hdel hd
      obtain ⟨l⟩ := sl
      dsimp only at hs
      subst e1 e2 hm hdel hd hs
      exact ⟨nm, qn, ns, bs, bm, sn, sub, ab, col, dd, k0, k1, k2, k3, k5, ho, hr⟩
    · cases h
  · cases h
def excB (K : PySem.W.Frag) (C : Addr) : Bool := (xfB K C && (PySem.W.clsIn K C).isSome && oexB K C && decide (PySem.W.findIn K (.ref C) "__setattr__" = some (some (.builtin "object.__setattr__"))) && decide (PySem.W.typeIn K (.ref C) = some (.type "type")) && PySem.W.keepIn K (.ref C)) &&
  (decide (PySem.W.findIn K (.ref C) "__class__" = some (some (.builtin "object.__class__"))) && decide (PySem.W.specialIn K (.builtin "object.__class__") "__get__" = some (some (.builtin "getset_descriptor.__get__"))) && decide (PySem.W.takesIn K (.builtin "object.__class__") = some true) && decide (PySem.W.mroIn K C (.type "object") = some true))
theorem excB_ok {K : PySem.W.Frag} {C : Addr} (h : excB K C = true) : ExcK K C := by
  unfold excB at h
  simp only [Bool.and_eq_true, decide_eq_true_eq] at h
  obtain ⟨⟨⟨⟨⟨⟨h1, h2⟩, h3⟩, h4⟩, h5⟩, h6⟩, ⟨⟨h7, h8⟩, h9⟩, h10⟩ := h
  have x := xfB_ok h1
  exact ⟨x, h2, h7, h8, h9, h10, ⟨oexB_ok h3, h4, x.exC, h5, h6⟩⟩

/-! ### instances: made, their fields, their class -/
section
variable {X : Cx} {cm : Nat → Addr} {e : Expr} {fe : EF} {pos p : Pos}
theorem DenF.lookup {K : PySem.W.Frag} {G : Hp} {f : Str} {d : Dt} : ∀ {fv : List (Str × V)} {fs : List (Str × Dt)}, DenF K cm G fv fs → fs.lookup f = some d → ∃ v, fv.lookup f = some v ∧ Den K cm G v d
  | _, _, .nil, h => by cases h
  | _, _, .cons (x := x) (v := v) (d := d') h t, e => by
    rw [List.lookup_cons] at e ⊢
    cases q : f == x with
    | true =>
      rw [q] at e
      cases e
      exact ⟨v, rfl, h⟩
    | false =>
      rw [q] at e
      exact DenF.lookup t e
theorem DenF.zip {K : PySem.W.Frag} {G : Hp} : ∀ {ns : List Str} {vs : List V} {ds : List Dt}, DenL K cm G vs ds → DenF K cm G (ns.zip vs) (ns.zip ds)
  | [], _, _, _ => by simpa using DenF.nil
  | _ :: _, _, _, .nil => .nil
  | _ :: _, _, _, .cons h t => .cons h (DenF.zip t)
theorem DenF.append {K : PySem.W.Frag} {G : Hp} : ∀ {vs ws : List (Str × V)} {ds es : List (Str × Dt)}, DenF K cm G vs ds → DenF K cm G ws es → DenF K cm G (vs ++ ws) (ds ++ es)
  | _, _, _, _, .nil, s => s
  | _, _, _, _, .cons h t, s => .cons h (DenF.append t s)
theorem DenF.reverse {K : PySem.W.Frag} {G : Hp} : ∀ {vs : List (Str × V)} {ds : List (Str × Dt)}, DenF K cm G vs ds → DenF K cm G vs.reverse ds.reverse
  | _, _, .nil => .nil
  | _, _, .cons h t => by
    rw [List.reverse_cons, List.reverse_cons]
    exact (DenF.reverse t).append (.cons h .nil)
theorem je_fld {cs : List Nat} {f : Str} (hcs : ∀ c ∈ cs, Cls X.K (cm c) ∧ NoAttr X.K (cm c) f) (he : JE X cm e fe) (hb : attributeBase e f X.env (eval e X.env) = eval e X.env := by rfl) : JE X cm (.Attribute e f pos) (eFld cs f fe) := by
  refine ⟨fun env r σ H G hf rel Q q => to_e (pe_fld pe_w hb) ?_⟩
  unfold eFld at hf
  split at hf
  · rename_i c fs h1
    split at hf
    · rename_i hc
      obtain ⟨d, h2, h3⟩ := Option.map_eq_some_iff.mp hf
      subst h3
      refine he.run env _ σ H G h1 rel _ fun v H1 G1 g1 rr => ?_
      cases (show Den X.K cm G1 v (.obj c fs) from rr) with
      | obj ha hd =>
        obtain ⟨y, hy, hden⟩ := hd.lookup h2
        exact ⟨_, _, _, _, y, rfl, g1.sub _ _ ha, (hcs c hc).1, (hcs c hc).2, hy, q y H1 G1 g1 hden⟩
    · cases hf
  · cases hf
theorem je_isC {x : Str} {p2 : Pos} {cs : List Nat} {c : Nat} (hcs : ∀ c' ∈ cs, InsK X.K (cm c') ∧ PySem.W.kitOne X.K (.ref (cm c')) (.ref (cm c)) = some (c' == c)) (hty : ∀ t ∈ (["NoneType", "bool", "int", "str", "list", "tuple"] : List String), PySem.W.kitOne X.K (.type t) (.ref (cm c)) = some false)
    (hg : Gl X "isinstance") (hm : X.mg "isinstance" = none) (hg2 : Gl X x) (hm2 : X.mg x = some (.ref (cm c))) (he : JE X cm e fe) (hd2 : (x == ("__debug__" : Str)) = false := by decide)
    (h0 : starEach [.Name x p2] X.env = (false, eval (.Name x p2) X.env) :: starEach [] X.env := by rfl) (hst : starEach [e, .Name x p2] X.env = (false, eval e X.env) :: starEach [.Name x p2] X.env := by rfl)
    (hpl : (backTo pos (starEach [.Name x p2] X.env)).any (·.1) = false := by rfl) : JE X cm (.Call (.Name "isinstance" p) [e, .Name x p2] [] pos) (eIsC cs c fe) := by
  refine ⟨fun env r σ H G hf rel Q q => ?_⟩
  obtain ⟨ra, h1, hf⟩ := Option.bind_eq_some_iff.mp hf
  refine to_e (pe_callB call_isi hg hm (by decide +kernel) (pa_cons pe_w (pa_cons (pe_glob (v := .ref (cm c)) hg2 hm2 rfl hd2) pa_nil h0) hst) (by decide) (by decide) hst hpl) (he.pub h1 rel fun v H1 G1 g1 vr => ?_)
  have other : ∀ {d : Dt} {t : String}, VR X.K cm H1 G1 v d ra.sh → d.ty = some t → r = .vis (.bl false) → rIsi X.K [v, V.ref (cm c)] H1 Q := fun {d t} vr ht e => by
    subst e
    refine ⟨v, .ref (cm c), .type t, .ref (cm c), false, rfl, .own _, vr.tyX g1.sub ht, hty t ?_, q _ _ _ g1 (Den.bl _)⟩
    cases d <;> cases ht <;> simp
  cases hd : ra.dt with
  | obj c' fs =>
    rw [hd] at hf vr
    dsimp only at hf
    split at hf
    · rename_i hc
      cases hf
      have hsh : ra.sh = false := by
        cases hs : ra.sh with
        | false => rfl
        | true =>
          rw [hs] at vr
          obtain ⟨l, vs, ds, _, h2, _⟩ := vr.1 rfl
          cases h2
      rw [hsh] at vr
      obtain ⟨k1, k2⟩ := hcs c' hc
      cases vr.den with
      | obj ha hdn => exact ⟨_, .ref (cm c), .ref (cm c'), .ref (cm c), _, rfl, .own _, .base (.ins (g1.sub _ _ ha) k1.cls k1.c1 k1.c2 k1.c3 k1.c4), k2, q _ _ _ g1 (Den.bl _)⟩
    · cases hf
  | exn a d fs => rw [hd] at hf; cases hf
  | non => rw [hd] at hf vr; cases hf; exact other (t := "NoneType") vr rfl rfl
  | bl b => rw [hd] at hf vr; cases hf; exact other (t := "bool") vr rfl rfl
  | int i => rw [hd] at hf vr; cases hf; exact other (t := "int") vr rfl rfl
  | str z => rw [hd] at hf vr; cases hf; exact other (t := "str") vr rfl rfl
  | lst ds => rw [hd] at hf vr; cases hf; exact other (t := "list") vr rfl rfl
  | tup ds => rw [hd] at hf vr; cases hf; exact other (t := "tuple") vr rfl rfl

/-! an __init__ that stores its arguments -/
def putAll : List (Nat × Str) → List V → List (Str × V) → List (Str × V)
  | (_, f) :: r, y :: ys, fs => putAll r ys (putF f y fs)
  | _, _, fs => fs
theorem putF_new {f : Str} {y : V} : ∀ {fs : List (Str × V)}, f ∉ fs.map (·.1) → putF f y fs = fs ++ [(f, y)]
  | [], _ => rfl
  | (g, x) :: r, h => by
    have h1 : g ≠ f := fun e => h (by rw [List.map_cons, e]; exact List.mem_cons_self)
    unfold putF
    rw [if_neg h1, putF_new (fs := r) (fun m => h (by rw [List.map_cons]; exact List.mem_cons_of_mem _ m))]
    rfl
theorem putAll_zip : ∀ {r : List (Nat × Str)} {ys : List V} {fs : List (Str × V)}, r.length = ys.length → (fs.map (·.1) ++ r.map (·.2)).Nodup → putAll r ys fs = fs ++ (r.map (·.2)).zip ys
  | [], [], fs, _, _ => by simp [putAll]
  | (i, f) :: r, y :: ys, fs, hl, hn => by
    have hn' : f ∉ fs.map (·.1) := fun m => by
      rw [List.map_cons] at hn
      exact (List.nodup_append.mp hn).2.2 f m f List.mem_cons_self rfl
    show putAll r ys (putF f y fs) = _
    rw [putF_new hn', putAll_zip (r := r) (by simpa using hl) (by
      rw [List.map_append, List.append_assoc]
      exact hn), List.append_assoc]
    rfl
  | [], _ :: _, _, h, _ => by cases h
  | _ :: _, [], _, h, _ => by cases h
/-- self.f = the i-th name, one behind another -/
def tInits (C : Addr) : List (Nat × Str) → TS
  | [] => fun D σ H => D.nx σ H
  | (i, f) :: r => fun D σ H => ∃ y a dx fs, σ[i]? = some (some y) ∧ σ[0]? = some (some (.ref a)) ∧ H a = some (.ins C dx fs) ∧ fs.length < 1000 ∧ tInits C r D σ (upd H a (.ins C dx (putF f y fs)))
theorem pss_inits {C : Addr} (c : Cls X.K C) : ∀ {l : List (Nat × Str)} {sts : List Stmt}, l.length = sts.length → (∀ (j : Nat) (z : Nat × Str) (st : Stmt), l[j]? = some z → sts[j]? = some st → PS X st (sFld X.K (tVar 0) (tVar z.1) z.2) ∧ NoAttr X.K C z.2) → PSs X sts (tInits C l)
  | [], [], _, _ => pss_nil
  | (i, f) :: r, st :: sts, hl, h => by
    obtain ⟨h1, h2⟩ := h 0 (i, f) st rfl rfl
    have ih := pss_inits (l := r) (sts := sts) c (by simpa using hl) fun j z st' e1 e2 => h (j + 1) z st' (by simpa using e1) (by simpa using e2)
    refine ⟨fun pins s σ H D I ht => (pss_cons h1 ih).run pins s σ H D I ?_⟩
    obtain ⟨y, a, dx, fs, k1, k2, k3, k4, k5⟩ := ht
    exact ⟨y, k1, .ref a, k2, a, C, dx, fs, rfl, k3, c, h2, k4, k5⟩
  | [], _ :: _, h, _ => by cases h
  | _ :: _, [], h, _ => by cases h
theorem tInits_of {C a dx : Addr} {D : Ends} {σ : L2.St} (h0 : σ[0]? = some (some (.ref a))) : ∀ {l : List (Nat × Str)} {ys : List V} {fs : List (Str × V)} {H : Hp}, l.length = ys.length → (∀ (j : Nat) (z : Nat × Str) (y : V), l[j]? = some z → ys[j]? = some y → σ[z.1]? = some (some y)) → H a = some (.ins C dx fs) → fs.length + l.length < 1000 →
    (∀ H', H' = upd H a (.ins C dx (putAll l ys fs)) → D.nx σ H') → tInits C l D σ H
  | [], [], fs, H, _, _, ha, _, q => q H (by
    funext b
    by_cases e : b = a
    · rw [e, upd_same]; exact ha
    · rw [upd_ne e])
  | (i, f) :: r, y :: ys, fs, H, hl, hz, ha, hs, q => by
    refine ⟨y, a, dx, fs, hz 0 (i, f) y rfl rfl, h0, ha, by rw [List.length_cons] at hs; omega, ?_⟩
    refine tInits_of h0 (by simpa using hl) (fun j z y' e1 e2 => hz (j + 1) z y' (by simpa using e1) (by simpa using e2)) upd_same (by
      have := length_putF f y fs
      rw [List.length_cons] at hs
      omega) fun H' e => q H' ?_
    rw [e, upd_upd]
    rfl
  | [], _ :: _, _, _, h, _, _, _, _ => by cases h
  | _ :: _, [], _, _, h, _, _, _, _ => by cases h
end
section
variable {P : Program} {w : World} {K : PySem.W.Frag} {mg : Str → Option Value} {base : Heap} {cm : Nat → Addr}
/-- the promise of an __init__ that stores its arguments under the names ns -/
def spI (C : Addr) (ns : List Str) : Sp := fun vs H Q _ => ∃ a dx ws, vs = .ref a :: ws ∧ ws.length = ns.length ∧ H a = some (.ins C dx []) ∧ Q .non (upd H a (.ins C dx (ns.zip ws)))
theorem start_at {N : List Str} {vs : List V} {i : Nat} {v : V} (h : vs[i]? = some v) : (start N vs)[i]? = some (some v) := start_get h
/-- l: the parameters' places, in their order, with the names under which they are stored -/
theorem init_ok {x qual : Str} {st : Stmt} {f : Addr} {fd : FuncData} {N ps : List Str} {k : Nat} {C : Addr} (Fu : Fun K x qual st f fd) (S : FnScope N ps (defScope st)) (ns : List Str) (c : Cls K C) (hn : ns.Nodup) (hl : ps.length = ns.length + 1) (hs : ns.length < 1000)
    (hb : ∀ (cdv : Value) (A : Around) (outer : List Env) (s : Shared) (H : Hp) (E : XK), (defBody st).length = ns.length ∧ ∀ (j : Nat) (g : Str) (b : Stmt), ns[j]? = some g → (defBody st)[j]? = some b →
      PS (cxN P w K mg base N qual st f cdv A outer s H E) b (sFld K (tVar 0) (tVar (j + 1)) g) ∧ NoAttr K C g) :
    FnOk P w K mg base CX0 (k + 1) f fd ps (spI C ns) := by
  refine Fu.ok S (fun vs H Q E h => ?_) (fun cdv A outer s H vs Q E hr h => ?_)
  · obtain ⟨a, dx, ws, rfl, h1, _⟩ := h
    rw [List.length_cons, h1, hl]
  · obtain ⟨a, dx, ws, rfl, h1, h2, h3⟩ := h
    obtain ⟨b1, b2⟩ := hb cdv A outer s H E
    have hll : ((List.range ns.length).map (· + 1)).zip ns = (ns.zipIdx 1).map fun z => (z.2, z.1) := by
      refine List.ext_getElem? fun j => ?_
      rw [List.getElem?_map, List.getElem?_zipIdx]
      by_cases hj : j < ns.length
      · rw [List.getElem?_zip_eq_some (z := (j + 1, ns[j])) |>.mpr ⟨by rw [List.getElem?_map, List.getElem?_range hj]; rfl, List.getElem?_eq_getElem hj⟩, List.getElem?_eq_getElem hj]
        simp [Nat.add_comm]
      · rw [List.getElem?_eq_none (l := ns) (by omega), List.getElem?_eq_none (by simp; omega)]
        rfl
    have at_ : ∀ (j : Nat) (z : Nat × Str), (((List.range ns.length).map (· + 1)).zip ns)[j]? = some z → z.1 = j + 1 ∧ ns[j]? = some z.2 := fun j z e => by
      obtain ⟨e1, e2⟩ := List.getElem?_zip_eq_some.mp e
      rw [List.getElem?_map] at e1
      obtain ⟨y, e3, e4⟩ := Option.map_eq_some_iff.mp e1
      have hy : j < ns.length := by
        have := (List.getElem?_eq_some_iff.mp e2).1
        exact this
      rw [List.getElem?_range hy] at e3
      cases e3
      exact ⟨e4.symm, e2⟩
    have lz : (((List.range ns.length).map (· + 1)).zip ns).length = ns.length := by simp
    have ln : (((List.range ns.length).map (· + 1)).zip ns).map (·.2) = ns := List.map_snd_zip (by simp)
    refine ⟨_, pss_inits (C := C) c (l := ((List.range ns.length).map (· + 1)).zip ns) (by rw [lz, b1]) fun j z b e1 e2 => ?_, ?_⟩
    · obtain ⟨q1, q2⟩ := at_ j z e1
      rw [q1]
      exact b2 j z.2 b q2 e2
    · refine tInits_of (a := a) (dx := dx) (fs := []) (ys := ws) (start_at rfl) (by rw [lz, h1]) (fun j z y e1 e2 => ?_) h2 (by rw [lz]; simpa using hs) fun H' e => ?_
      · obtain ⟨q1, q2⟩ := at_ j z e1
        rw [q1]
        exact start_at (by simpa using e2)
      · rw [putAll_zip (by rw [lz, h1]) (by rw [ln]; simpa using hn), ln, List.nil_append] at e
        rw [e]
        exact h3
/-- a class of the module whose __init__ stores its arguments under the names ns -/
structure MkC (P : Program) (w : World) (K : PySem.W.Frag) (mg : Str → Option Value) (base : Heap) (cm : Nat → Addr) (k : Nat) (x : Str) (c : Nat) (ns : List Str) : Prop where
  ex : ∃ (f : Addr) (fd : FuncData) (ps : List Str), Mk K (cm c) f ∧ FnOk P w K mg base CX0 k f fd ps (spI (cm c) ns) ∧ mg x = some (.ref (cm c)) ∧ Binds K fd ps []
variable {X : Cx} {e : Expr} {pos p : Pos} {x : Str}
theorem je_make {es : List Expr} {ft : AF} {k c : Nat} {ns : List Str} (C : MkC X.prog X.w X.K X.mg X.base cm k x c ns) (hr : Room (k + 1) X.A) (hg : Gl X x) (ha : JA X cm (e :: es) ft) (hdb : (x == ("__debug__" : Str)) = false := by decide)
    (he : starEach (e :: es) X.env = (false, eval e X.env) :: starEach es X.env := by rfl) (hpl : (backTo pos (starEach es X.env)).any (·.1) = false := by rfl) : JE X cm (.Call (.Name x p) (e :: es) [] pos) (eMake c ns ft) := by
  refine ⟨fun env r σ H G hf rel Q q => ?_⟩
  obtain ⟨rs, h1, hf⟩ := Option.bind_eq_some_iff.mp hf
  obtain ⟨ds, h2, hf⟩ := Option.bind_eq_some_iff.mp hf
  split at hf
  case isFalse => cases hf
  rename_i hln
  cases hf
  obtain ⟨h3, rfl⟩ := plain_some h2
  obtain ⟨f, fd, ps, M, F, hm, hb⟩ := C.ex
  refine to_e (pe_make M F hr hg hm hb .nil pass0 pa_w hdb he hpl) (ha.run env rs σ H G h1 rel _ fun vs H1 G1 g1 vrs => fun a dx na nd ne => ?_)
  have hd := vrs.plain h3
  refine ⟨a, dx, vs, by rw [List.append_nil], by rw [hd.length, hln], upd_same, rfl, ?_⟩
  have g2 : Grow H1 G1 (upd H1 dx (.own a)) G1 := .hide g1.sub nd
  have na2 : (upd H1 dx (.own a)) a = none := by rw [upd_ne (Ne.symm ne)]; exact na
  have g3 := g2.trans (Grow.new (o := .ins (cm c) dx (ns.zip vs)) g2.sub na2)
  rw [upd_upd]
  exact q _ _ _ (g1.trans g3) (Den.obj upd_same (DenF.zip (hd.mono g3.gx)))
end
end Pyl
end
section
set_option Elab.async false
set_option linter.all false
set_option maxRecDepth 100000
set_option maxHeartbeats 2000000
namespace Pyl
open PySem L2
/-! ### defs that may raise -/
section
variable {P : Program} {w : World} {K : PySem.W.Frag} {mg : Str → Option Value} {base : Heap} {cm : Nat → Addr}
def spX (K : PySem.W.Frag) (cm : Nat → Addr) (F : FX) : Sp := fun vs H Q E => ∃ (G : Hp) (ds : List Dt) (o : Xr), Exx G H ∧ DenL K cm G vs ds ∧ F ds = some o ∧ (∀ d, o = .ok d → ∀ v H' G', Grow H G H' G' → Den K cm G' v d → Q v H') ∧
  ∀ c fs, o = .er c fs → ∀ dd H' G', Grow H G H' G' → XdR K cm G' dd fs → E (.ref (cm c)) dd H'
/-- the context of the body of a def that may raise -/
abbrev cxX (P : Program) (w : World) (K : PySem.W.Frag) (mg : Str → Option Value) (base : Heap) (N : List Str) (qual : Str) (st : Stmt) (f : Addr) (cdv : Value) (A : Around) (outer : List Env) (s : Shared) (H : Hp) (E : XK) : Cx := cxOf (L2N.CX P w) P w K mg base N qual (defScope st) f cdv A outer s H E
theorem okXN {x qual : Str} {st : Stmt} {f : Addr} {fd : FuncData} {N ps : List Str} {k : Nat} {sp : Sp} (Fu : Fun K x qual st f fd) (S : FnScope N ps (defScope st)) (len : ∀ vs H Q E, sp vs H Q E → vs.length = ps.length)
    (hb : ∀ (cdv : Value) (A : Around) (outer : List Env) (s : Shared) (H : Hp) (vs : List V) (Q : VK) (E : XK), Room k (A.deeper (PyProof.Rows.envOfC qual (defScope st) s.heap.objs.size f cdv)) → sp vs H Q E →
      ∃ t, PSs (cxX P w K mg base N qual st f cdv A outer s H E) (defBody st) t ∧ t { nx := fun _ H' => Q .non H', rt := Q } (start N vs) H) : FnOk P w K mg base (L2N.CX P w) (k + 1) f fd ps sp := by
  obtain ⟨oc, od, kV, doc, pm, an, cdv, ct, osl, hfd, lk, hcd⟩ := Fu.ex
  subst hfd
  exact fn_of lk hcd S len fun A outer s H vs Q E hr hsp => hb cdv A outer s H vs Q E hr hsp
theorem fnx_ok {x qual : Str} {st : Stmt} {f : Addr} {fd : FuncData} {N ps : List Str} {k : Nat} {F : FX} (Fu : Fun K x qual st f fd) (S : FnScope N ps (defScope st)) (hlen : ∀ ds o, F ds = some o → ds.length = ps.length) (wd : WS) (hk : KeepsX N.length wd F)
    (hb : ∀ (cdv : Value) (A : Around) (outer : List Env) (s : Shared) (H : Hp) (E : XK), Room k (A.deeper (PyProof.Rows.envOfC qual (defScope st) s.heap.objs.size f cdv)) → PassesOwn (model P w) (cxX P w K mg base N qual st f cdv A outer s H E).A (cxX P w K mg base N qual st f cdv A outer s H E).env (cxX P w K mg base N qual st f cdv A outer s H E).xe →
      JSs (cxX P w K mg base N qual st f cdv A outer s H E) cm (defBody st) wd) :
    FnOk P w K mg base (L2N.CX P w) (k + 1) f fd ps (spX K cm F) := by
  refine okXN Fu S (fun vs H Q E h => ?_) (fun cdv A outer s H vs Q E hr h => ⟨_, pss_w, ?_⟩)
  · obtain ⟨G, ds, o, _, h2, h3, _⟩ := h
    rw [h2.length]
    exact hlen ds o h3
  · obtain ⟨G, ds, o, h1, h2, h3, h4, h5⟩ := h
    refine (hb cdv A outer s H E hr (passes_of rfl)).run (startE N.length ds) _ (start N vs) H G (hk ds o h3) (rel_start h1 h2) _ ⟨fun σ' H' G' env' rel fr e => ?_, fun v H' G' d fr den e => ?_, fun _ _ _ _ _ _ z => z.elim, fun _ _ _ _ _ _ z => z.elim, fun σ' H' G' env' c fs dd rel fr xd e => ?_⟩
    · exact h4 _ e _ H' G' fr.toFrH.grow Den.non
    · exact h4 _ e v H' G' fr.grow den
    · exact exW_of (L2N.takes_of (E := E) rfl rfl rfl rfl) (h5 c fs e dd H' G' fr.toFrH.grow xd)
/-- a def of the module that may raise; its arguments are written -/
structure FnX (P : Program) (w : World) (K : PySem.W.Frag) (mg : Str → Option Value) (base : Heap) (cm : Nat → Addr) (k : Nat) (x : Str) (F : FX) : Prop where
  ex : ∃ (f : Addr) (fd : FuncData) (ps : List Str), FnOk P w K mg base (L2N.CX P w) k f fd ps (spX K cm F) ∧ mg x = some (.ref f) ∧ PySem.W.keepIn K (.ref f) = true ∧ Binds K fd ps []
/-- .. n written, the keywords ks behind them -/
structure FnXK (P : Program) (w : World) (K : PySem.W.Frag) (mg : Str → Option Value) (base : Heap) (cm : Nat → Addr) (k : Nat) (x : Str) (n : Nat) (ks : List Str) (F : FX) : Prop where
  ex : ∃ (f : Addr) (fd : FuncData) (ps : List Str) (g : List Value → List Value → List Value), FnOk P w K mg base (L2N.CX P w) k f fd ps (spX K cm F) ∧ mg x = some (.ref f) ∧ PySem.W.keepIn K (.ref f) = true ∧ KBn K fd ps n ks g (fun vs zs => vs ++ zs)
/-- .. those that lack at the call are dd -/
structure FnXD (P : Program) (w : World) (K : PySem.W.Frag) (mg : Str → Option Value) (base : Heap) (cm : Nat → Addr) (k : Nat) (x : Str) (dd : List Dt) (F : FX) : Prop where
  ex : ∃ (f : Addr) (fd : FuncData) (ps : List Str) (dvs : List V) (ds : List Value), FnOk P w K mg base (L2N.CX P w) k f fd ps (spX K cm F) ∧ mg x = some (.ref f) ∧ PySem.W.keepIn K (.ref f) = true ∧ Binds K fd ps ds ∧ Vals dvs ds ∧ ∀ G, DenL K cm G dvs dd
/-- it raises nothing where nothing is told of it -/
theorem calm_ok {f : Addr} {fd : FuncData} {ps : List Str} {k : Nat} {F : FX} (h : FnOk P w K mg base (L2N.CX P w) k f fd ps (spX K cm F)) : FnOk P w K mg base CX0 k f fd ps (spP K cm (okF F)) := by
  have h2 : ∀ vs H Q E, spP K cm (okF F) vs H Q E → spX K cm F vs H Q (fun _ _ _ => False) := fun vs H Q E ⟨G, ds, r, g1, g2, g3, g4⟩ => by
    unfold okF at g3
    split at g3
    · rename_i d hd
      cases g3
      exact ⟨G, ds, .ok _, g1, g2, hd, fun d' e => (by cases e; exact g4), fun c fs e => (by cases e)⟩
    · cases g3
  refine ⟨fun vs H Q E q => h.len vs H Q _ (h2 vs H Q E q), fun A outer s H args us vs Q E hr he hb hv hs => codeAny_mono (h.run A outer s H args us vs Q _ hr he hb hv (h2 vs H Q E hs)) fun r s' hq => ?_⟩
  cases r with
  | ok fl => cases fl <;> exact hq
  | error e =>
    obtain ⟨_, _, _, _, _, _, _, _, _, _, _, _, z⟩ := (show L2N.CX P w outer H s (fun _ _ _ => False) e s' from hq)
    exact z.elim
theorem FnX.calm {k : Nat} {x : Str} {F : FX} (C : FnX P w K mg base cm k x F) : FnC P w K mg base cm k x (okF F) := by
  obtain ⟨f, fd, ps, h, hm, hk, hb⟩ := C.ex
  exact ⟨f, fd, ps, calm_ok h, hm, hk, hb⟩
end
/-! ### a call that may raise -/
structure JX (X : Cx) (cm : Nat → Addr) (e : Expr) (f : XF) : Prop where
  run : ∀ (env : Sl) (o : Xr) (σ : L2.St) (H G : Hp), f env = some o → Rel X.K cm σ H G env → ∀ Q : VK, (∀ d, o = .ok d → ∀ v H' G', Grow H G H' G' → Den X.K cm G' v d → Q v H') →
    (∀ c fs, o = .er c fs → ∀ dd H' G', Grow H G H' G' → XdR X.K cm G' dd fs → exW X (.ref (cm c)) dd σ H') → wpE X e σ H Q
section
variable {X : Cx} {cm : Nat → Addr} {e a b c : Expr} {f fa fb fc : EF} {σ : L2.St} {H G : Hp} {env : Sl} {pos p : Pos} {x : Str}
/-- a call's end, of arguments that may be borrowed -/
theorem callx_end {F : FX} {vs : List V} {rs : List (Dt × Bool)} {o : Xr} {H G H1 G1 : Hp} (g1 : Grow H G H1 G1) (vrs : VRs X.K cm H1 G1 vs rs) (hf : ((F (rs.map (·.1))).bind fun o => if rs.any (·.2) && !o.scalar then none else some o) = some o) {Q : VK}
    (q : ∀ d, o = .ok d → ∀ v H' G', Grow H G H' G' → Den X.K cm G' v d → Q v H') (qe : ∀ c fs, o = .er c fs → ∀ dd H' G', Grow H G H' G' → XdR X.K cm G' dd fs → exW X (.ref (cm c)) dd σ H') : spX X.K cm F vs H1 Q (L2.WE (exW X) σ) := by
  obtain ⟨o', h2, hf⟩ := Option.bind_eq_some_iff.mp hf
  by_cases hs : rs.any (·.2) = true
  · split at hf
    · cases hf
    · rename_i hn
      cases hf
      have sc : o.scalar = true := by
        cases hd : o.scalar with
        | true => rfl
        | false => exact absurd (by rw [hs, hd]; rfl) hn
      refine ⟨H1, _, o, .refl _, vrs.denH g1.sub, h2, fun d e v H' G' g hden => ?_, fun c fs e dd H' G' g xd => ?_⟩
      · subst e
        exact q d rfl v H' G1 (g1.trans ⟨g.hx, .refl _, fun _ _ _ n => n, g1.sub.trans g.hx⟩) (Dt.scalar_den hden sc)
      · subst e
        cases sc
  · have hs' : rs.any (·.2) = false := by simpa using hs
    split at hf
    · rename_i hn
      rw [hs'] at hn
      cases hn
    · cases hf
      exact ⟨G1, _, o, g1.sub, vrs.plain hs', h2, fun d e v H' G' g hden => q d e v H' G' (g1.trans g) hden, fun c fs e dd H' G' g xd => qe c fs e dd H' G' (g1.trans g) xd⟩
theorem jx_call {es : List Expr} {ft : AF} {F : FX} {k : Nat} (C : FnX X.prog X.w X.K X.mg X.base cm k x F) (hr : Room k X.A) (hg : Gl X x) (ha : JA X cm (e :: es) ft) (hdb : (x == ("__debug__" : Str)) = false := by decide)
    (he : starEach (e :: es) X.env = (false, eval e X.env) :: starEach es X.env := by rfl) (hpl : (backTo pos (starEach es X.env)).any (·.1) = false := by rfl) : JX X cm (.Call (.Name x p) (e :: es) [] pos) (xCall F ft) := by
  refine ⟨fun env o σ H G hf rel Q q qe => ?_⟩
  obtain ⟨rs, h1, hf⟩ := Option.bind_eq_some_iff.mp hf
  obtain ⟨f, fd, ps, hF, hm, hkp, hb⟩ := C.ex
  refine to_e (pe_callS (E := L2.WE (exW X)) hF hr hg hm hkp hb (fun σ => L2N.passAt (takes_exW X) σ) pa_w hdb he hpl) (ha.run env rs σ H G h1 rel _ fun vs H1 G1 g1 vrs => ?_)
  exact callx_end g1 vrs hf q qe
/-- the defaults of a call that may raise -/
theorem jx_callD {es : List Expr} {ft : AF} {F : FX} {k : Nat} {dd : List Dt} (C : FnXD X.prog X.w X.K X.mg X.base cm k x dd F) (hr : Room k X.A) (hg : Gl X x) (ha : JA X cm (e :: es) ft) (hdb : (x == ("__debug__" : Str)) = false := by decide)
    (he : starEach (e :: es) X.env = (false, eval e X.env) :: starEach es X.env := by rfl) (hpl : (backTo pos (starEach es X.env)).any (·.1) = false := by rfl) : JX X cm (.Call (.Name x p) (e :: es) [] pos) (xCall F (aApp ft (aDfl dd))) := by
  refine ⟨fun env o σ H G hf rel Q q qe => ?_⟩
  obtain ⟨rs, h1, hf⟩ := Option.bind_eq_some_iff.mp hf
  obtain ⟨ra, h2, h1⟩ := Option.bind_eq_some_iff.mp h1
  obtain ⟨rk, h3, h1⟩ := Option.bind_eq_some_iff.mp h1
  cases h1
  cases h3
  obtain ⟨f, fd, ps, dvs, ds, hF, hm, hkp, hb, hv, hd⟩ := C.ex
  intro pins s I
  refine wpAny_Call_Name_kw (ld_glob I hg hm ?_ hdb)
  refine PySem.W.callWith_K (h₀ := X.base) I.ok.mod.kin hkp (thn (ha.run env ra σ H G h2 rel (fun vs H1 => spX X.K cm F (vs ++ dvs) H1 Q (L2.WE (exW X) σ)) (fun vs H1 G1 g1 vrs => callx_end g1 (vrs.append (vrs_dfl (hd G1))) hf q qe) pos pins s I) fun us s1 ⟨vs, H1, I1, r1, z⟩ => ⟨I1.kIn, ?_⟩) he hpl
  have r2 := r1.append hv
  have hl : (us ++ ds).length = ps.length := r2.length.symm.trans (hF.len _ _ _ _ z)
  refine wpAny_call (codeAny_mono (hF.run X.A X.stack s1 H1 ⟨us, []⟩ (us ++ ds) (vs ++ dvs) Q _ hr I1.env0 (hb s1 us I1.kIn hl) r2 z) fun r s' hq => ?_)
  match r, hq with
  | .error u, hq => exact L2N.passAt (takes_exW X) σ pins H1 s1 u s' I1 hq
  | .ok (.ret u), hq => exact I1.after hq
theorem jx_callK {es : List Expr} {ft fk : AF} {F : FX} {k : Nat} {ks : List Str} {kws : List Keyword} (C : FnXK X.prog X.w X.K X.mg X.base cm k x (es.length + 1) ks F) (hr : Room k X.A) (hg : Gl X x) (ha : JA X cm (e :: es) ft) (hk : JK X cm kws fk)
    (hall : (backToKw pos (keywordEach kws X.env)).all (·.1.isSome) = true := by rfl) (hks : (backToKw pos (keywordEach kws X.env)).filterMap (·.1) = ks := by rfl) (hln : ks.length = kws.length := by rfl) (hdb : (x == ("__debug__" : Str)) = false := by decide)
    (he : starEach (e :: es) X.env = (false, eval e X.env) :: starEach es X.env := by rfl)
    (hpl : ((backTo pos (starEach (e :: es) X.env)).any (·.1) || (backToKw pos (keywordEach kws X.env)).any (·.1.isNone)) = false := by rfl) : JX X cm (.Call (.Name x p) (e :: es) kws pos) (xCall F (aApp ft fk)) := by
  refine ⟨fun env o σ H G hf rel Q q qe => ?_⟩
  obtain ⟨rs, h1, hf⟩ := Option.bind_eq_some_iff.mp hf
  obtain ⟨ra, h2, h1⟩ := Option.bind_eq_some_iff.mp h1
  obtain ⟨rk, h3, h1⟩ := Option.bind_eq_some_iff.mp h1
  cases h1
  obtain ⟨f, fd, ps, g, hF, hm, hkp, hb⟩ := C.ex
  intro pins s I
  refine wpAny_Call_Name_kw (ld_glob I hg hm ?_ hdb)
  refine PySem.W.callWith_KW (h₀ := X.base) I.ok.mod.kin hkp hall (thn (ha.run env ra σ H G h2 rel (fun vs H1 => wpK X kws σ H1 fun zs H2 => vs.length = es.length + 1 ∧ zs.length = ks.length ∧ spX X.K cm F (vs ++ zs) H2 Q (L2.WE (exW X) σ)) (fun vs H1 G1 g1 vrs => hk.run env rk σ H1 G1 h3 (rel.grow g1) _ fun zs H2 G2 g2 zrs =>
    ⟨by rw [vrs.length, ha.len env ra h2]; rfl, by rw [zrs.length, hk.len env rk h3, hln], callx_end (g1.trans g2) ((vrs.grow g2).append zrs) hf q qe⟩) pos pins s I) fun us s1 ⟨vs, H1, I1, r1, z⟩ => ?_) hpl he
  refine thn (pk_w.run pos pins s1 σ H1 _ I1 z) fun ws s2 ⟨zs, H2, I2, rz, l1, l2, z2⟩ => ⟨I2.kIn, ?_⟩
  rw [hks]
  refine wpAny_call (codeAny_mono (hF.run X.A X.stack s2 H2 ⟨us, ks.zip ws⟩ (g us ws) (vs ++ zs) Q _ hr I2.env0 (hb.to s2 us ws I2.kIn (r1.length.symm.trans l1) (rz.length.symm.trans l2)) (hb.rel r1 rz) z2) fun r s' hq => ?_)
  match r, hq with
  | .error u, hq => exact L2N.passAt (takes_exW X) σ pins H2 s2 u s' I2 hq
  | .ok (.ret u), hq => exact I2.after hq
theorem js_asgX {fx : XF} (i : Nat) {pos' : Pos} (hN : X.N.Nodup) (he : JX X cm e fx) (hi : X.N[i]? = some x := by rfl) (hx : Loc X.env.scope x := by first | exact Or.inl rfl | exact Or.inr rfl) (hs : swapsWith e (some (.Name x pos')) pos.line X.env = pure false := by rfl)
    (hf : X.fn x = true ∨ X.env.scope.names.lookup x = some .local := by first | exact .inl rfl | exact .inr rfl | assumption) : JS X cm (.Assign [.Name x pos'] e pos) (wAsgX i fx) := by
  refine ⟨fun env D' σ H G hw rel D o => to_s (ps_set hN hi hx pe_w hs hf) ?_⟩
  obtain ⟨r, h1, h2, h3⟩ := hw
  exact he.run env r σ H G h1 rel _ (fun d e v H1 G1 g1 hd => o.nx _ _ _ _ ((rel.grow g1).setVal hd) ((rel.fr g1).trans (.setVal g1.sub)) (h2 d e)) fun c fs e dd H' G' g xd => o.er σ H' G' env c fs dd (rel.grow g) (rel.fr g) xd (h3 c fs e)
theorem js_retX {fx : XF} (he : JX X cm e fx) : JS X cm (.Return (some e) pos) (wRetX fx) := by
  refine ⟨fun env D' σ H G hw rel D o => to_s (ps_ret pe_w) ?_⟩
  obtain ⟨r, h1, h2, h3⟩ := hw
  exact he.run env r σ H G h1 rel _ (fun d e v H1 G1 g1 hd => o.rt v H1 G1 d g1.frH hd (h2 d e)) fun c fs e dd H' G' g xd => o.er σ H' G' env c fs dd (rel.grow g) (rel.fr g) xd (h3 c fs e)
theorem js_dropX {fx : XF} (he : JX X cm e fx) (hs : swapsWith e none pos.line X.env = pure false := by rfl) : JS X cm (.Expr e pos) (wDropX fx) := by
  refine ⟨fun env D' σ H G hw rel D o => to_s (ps_expr pe_w hs) ?_⟩
  obtain ⟨r, h1, h2, h3⟩ := hw
  exact he.run env r σ H G h1 rel _ (fun d e v H1 G1 g1 hd => o.nx _ _ _ _ (rel.grow g1) (rel.fr g1) (h2 d e)) fun c fs e dd H' G' g xd => o.er σ H' G' env c fs dd (rel.grow g) (rel.fr g) xd (h3 c fs e)
end
end Pyl
end
section
set_option Elab.async false
set_option linter.all false
set_option maxRecDepth 100000
set_option maxHeartbeats 2000000
namespace Pyl
open PySem L2
/-! ### an error's __init__ that stores its arguments -/
section
variable {X : Cx}
def tOsts (C : Addr) : List (Nat × Str) → TS
  | [] => fun D σ H => D.nx σ H
  | (i, f) :: r => fun D σ H => ∃ y a, σ[i]? = some (some y) ∧ σ[0]? = some (some (.ref a)) ∧ ((H a = some (exo a C none) ∧ ∀ dx, H dx = none → dx ≠ a → tOsts C r D σ (upd (upd H dx (exd dx [(f, y)])) a (exo a C (some dx)))) ∨
      ∃ dx fs, H a = some (exo a C (some dx)) ∧ H dx = some (exd dx fs) ∧ fs.length ≤ 900 ∧ tOsts C r D σ (upd H dx (exd dx ((f, y) :: fs))))
theorem pss_osts {C : Addr} (T : OexC X.K C) : ∀ {l : List (Nat × Str)} {sts : List Stmt}, l.length = sts.length → (∀ (j : Nat) (z : Nat × Str) (st : Stmt), l[j]? = some z → sts[j]? = some st → PS X st (tOst X.K z.2 (tVar 0) (tVar z.1)) ∧ NoAttr X.K C z.2) → PSs X sts (tOsts C l)
  | [], [], _, _ => pss_nil
  | (i, f) :: r, st :: sts, hl, h => by
    obtain ⟨h1, h2⟩ := h 0 (i, f) st rfl rfl
    have ih := pss_osts (l := r) (sts := sts) T (by simpa using hl) fun j z st' e1 e2 => h (j + 1) z st' (by simpa using e1) (by simpa using e2)
    refine ⟨fun pins s σ H D I ht => (pss_cons h1 ih).run pins s σ H D I ?_⟩
    obtain ⟨y, a, k1, k2, k3⟩ := ht
    exact ⟨y, k1, .ref a, k2, a, C, rfl, T, h2, k3⟩
  | [], _ :: _, h, _ => by cases h
  | _ :: _, [], h, _ => by cases h
theorem tOsts_of {C a dx : Addr} {D : Ends} {σ : L2.St} (h0 : σ[0]? = some (some (.ref a))) (ne : dx ≠ a) : ∀ {l : List (Nat × Str)} {ys : List V} {fs : List (Str × V)} {H : Hp}, l.length = ys.length → (∀ (j : Nat) (z : Nat × Str) (y : V), l[j]? = some z → ys[j]? = some y → σ[z.1]? = some (some y)) →
    H a = some (exo a C (some dx)) → H dx = some (exd dx fs) → fs.length + l.length ≤ 900 → (∀ H', H' = upd H dx (exd dx (((l.map (·.2)).zip ys).reverse ++ fs)) → D.nx σ H') → tOsts C l D σ H
  | [], [], fs, H, _, _, ha, hd, _, q => q H (by
    funext b
    by_cases e : b = dx
    · rw [e, upd_same]; exact hd
    · rw [upd_ne e])
  | (i, f) :: r, y :: ys, fs, H, hl, hz, ha, hd, hs, q => by
    rw [List.length_cons] at hs
    refine ⟨y, a, hz 0 (i, f) y rfl rfl, h0, .inr ⟨dx, fs, ha, hd, by omega, ?_⟩⟩
    refine tOsts_of h0 ne (by simpa using hl) (fun j z y' e1 e2 => hz (j + 1) z y' (by simpa using e1) (by simpa using e2)) (by rw [upd_ne (Ne.symm ne)]; exact ha) upd_same (by rw [List.length_cons]; omega) fun H' e => q H' ?_
    rw [e, upd_upd, List.map_cons, List.zip_cons_cons, List.reverse_cons, List.append_assoc]
    rfl
  | [], _ :: _, _, _, h, _, _, _, _, _ => by cases h
  | _ :: _, [], _, _, h, _, _, _, _, _ => by cases h
end
/-- the promise of an error's __init__ that stores its arguments under the names ns -/
def spE (C : Addr) (ns : List Str) : Sp := fun vs H Q _ => ∃ a ws, vs = .ref a :: ws ∧ ws.length = ns.length ∧ H a = some (exo a C none) ∧ ∀ dx, H dx = none → dx ≠ a → ∀ H', H' = upd (upd H dx (exd dx (ns.zip ws).reverse)) a (exo a C (some dx)) → Q .non H'
section
variable {P : Program} {w : World} {K : PySem.W.Frag} {mg : Str → Option Value} {base : Heap} {cm : Nat → Addr}
theorem einit_ok {x qual : Str} {st : Stmt} {f : Addr} {fd : FuncData} {N ps : List Str} {k : Nat} {C : Addr} (Fu : Fun K x qual st f fd) (S : FnScope N ps (defScope st)) (n : Str) (ns : List Str) (T : OexC K C) (hl : ps.length = ns.length + 2) (hs : ns.length < 800)
    (hb : ∀ (cdv : Value) (A : Around) (outer : List Env) (s : Shared) (H : Hp) (E : XK), (defBody st).length = ns.length + 1 ∧ ∀ (j : Nat) (g : Str) (b : Stmt), (n :: ns)[j]? = some g → (defBody st)[j]? = some b →
      PS (cxN P w K mg base N qual st f cdv A outer s H E) b (tOst K g (tVar 0) (tVar (j + 1))) ∧ NoAttr K C g) :
    FnOk P w K mg base CX0 (k + 1) f fd ps (spE C (n :: ns)) := by
  refine Fu.ok S (fun vs H Q E h => ?_) (fun cdv A outer s H vs Q E hr h => ?_)
  · obtain ⟨a, ws, rfl, h1, _⟩ := h
    rw [List.length_cons, h1, hl, List.length_cons]
  · obtain ⟨a, ws, rfl, h1, h2, h3⟩ := h
    obtain ⟨b1, b2⟩ := hb cdv A outer s H E
    have at_ : ∀ (j : Nat) (z : Nat × Str), (((List.range (ns.length + 1)).map (· + 1)).zip (n :: ns))[j]? = some z → z.1 = j + 1 ∧ (n :: ns)[j]? = some z.2 := fun j z e => by
      obtain ⟨e1, e2⟩ := List.getElem?_zip_eq_some.mp e
      rw [List.getElem?_map] at e1
      obtain ⟨y, e3, e4⟩ := Option.map_eq_some_iff.mp e1
      have hy : j < ns.length + 1 := (List.getElem?_eq_some_iff.mp e2).1
      rw [List.getElem?_range hy] at e3
      cases e3
      exact ⟨e4.symm, e2⟩
    have lz : (((List.range (ns.length + 1)).map (· + 1)).zip (n :: ns)).length = ns.length + 1 := by simp
    refine ⟨_, pss_osts (C := C) T (l := ((List.range (ns.length + 1)).map (· + 1)).zip (n :: ns)) (by rw [lz, b1]) fun j z b e1 e2 => ?_, ?_⟩
    · obtain ⟨q1, q2⟩ := at_ j z e1
      rw [q1]
      exact b2 j z.2 b q2 e2
    · cases ws with
      | nil => cases h1
      | cons y ys =>
        have hys : ys.length = ns.length := by simpa using h1
        have hln : (((List.range (ns.length + 1)).map (· + 1)).zip (n :: ns)) = (1, n) :: ((((List.range ns.length).map (· + 2))).zip ns) := by
          rw [List.range_succ_eq_map, List.map_cons, List.zip_cons_cons, List.map_map]
          rfl
        have lz2 : ((((List.range ns.length).map (· + 2))).zip ns).length = ns.length := by simp
        have ln2 : ((((List.range ns.length).map (· + 2))).zip ns).map (·.2) = ns := List.map_snd_zip (by simp)
        rw [hln]
        refine ⟨y, a, start_at rfl, start_at rfl, .inl ⟨h2, fun dx nd ne => ?_⟩⟩
        refine tOsts_of (start_at rfl) ne (fs := [(n, y)]) (ys := ys) (by rw [lz2, hys]) (fun j z y' e1 e2 => ?_) upd_same (by rw [upd_ne ne, upd_same]) (by rw [lz2]; simp; omega) fun H' e => ?_
        · obtain ⟨q1, q2⟩ := at_ (j + 1) z (by rw [hln]; simpa using e1)
          rw [q1]
          exact start_at (by simpa using e2)
        · refine h3 dx nd ne H' ?_
          rw [e, ln2, List.zip_cons_cons, List.reverse_cons]
          funext b
          by_cases eb : b = dx
          · subst eb
            rw [upd_same, upd_ne ne, upd_same]
          · rw [upd_ne eb]
            by_cases ea : b = a
            · subst ea; rw [upd_same, upd_same]
            · rw [upd_ne ea, upd_ne ea, upd_ne eb, upd_ne eb]
/-- an own error class whose __init__ stores its arguments under the names ns -/
structure ErrC (P : Program) (w : World) (K : PySem.W.Frag) (mg : Str → Option Value) (base : Heap) (cm : Nat → Addr) (k : Nat) (x : Str) (c : Nat) (ns : List Str) : Prop where
  ex : ∃ (f : Addr) (fd : FuncData) (ps : List Str), OexC K (cm c) ∧ PySem.W.findIn K (.ref (cm c)) "__init__" = some (some (.ref f)) ∧ PySem.W.typeIn K (.ref f) = some (.type "function") ∧ FnOk P w K mg base CX0 k f fd ps (spE (cm c) ns) ∧ mg x = some (.ref (cm c)) ∧ Binds K fd ps []
end
/-! ### raise -/
section
variable {X : Cx} {cm : Nat → Addr} {e : Expr} {es : List Expr} {ta : TA} {p pc pos : Pos} {x : Str}
theorem pmkN {C fI : Addr} {k : Nat} {fd : FuncData} {ps : List Str} {sp : Sp} (T : OexC X.K C) (iC : PySem.W.findIn X.K (.ref C) "__init__" = some (some (.ref fI))) (tI : PySem.W.typeIn X.K (.ref fI) = some (.type "function")) (F1 : FnOk X.prog X.w X.K X.mg X.base CX0 k fI fd ps sp) (hr : Room (k + 1) X.A) (hb : Binds X.K fd ps [])
    (hg : Gl X x) (hm : X.mg x = some (.ref C)) (ha : PA X (e :: es) ta) (hdb : (x == ("__debug__" : Str)) = false) (he : starEach (e :: es) X.env = (false, eval e X.env) :: starEach es X.env) (hpl : (backTo pos (starEach es X.env)).any (·.1) = false) : L2N.PMk X (.Call (.Name x p) (e :: es) [] pos) (tMkO C sp [] ta) := by
  rintro pins s σ H Q I h
  have hT := T.cls
  obtain ⟨_, _, _, _, bm, _, _, _, _, _, _, _, _, _, _, hC, hbm⟩ := hT
  refine wpAny_Call_Name_kw (ld_glob I hg hm ?_ hdb); refine PySem.W.callWith_K (h₀ := X.base) I.ok.mod.kin T.kC (thn (ha.run pos pins s σ H _ I h) ?_) he hpl
  rintro us ⟨hp, g, dr, tk, os⟩ ⟨vs, H1, I1, r1, hz, q1⟩
  refine ⟨I1.kIn, show wpAny _ _ (call (.ref C) us) _ _ _ from ?_⟩
  generalize ea : hp.objs.size + 1 = a
  have hsz : hp.objs.size ≤ a := by omega
  have hn : H1 a = none := I1.hok.fresh hsz
  have hq := q1 a hn
  rw [List.append_nil] at hq
  generalize eh : (hp.push (PySem.W.kdv_tup us)).push (PySem.HandSPX.excO C hp.objs.size) = h1
  have kk : ∀ b o, hp.get? b = some o → h1.get? b = some o := by
    rintro b o e
    rw [← eh]
    exact Heap.get?_push_of_some _ (Heap.get?_push_of_some _ e)
  have hget : h1.get? a = some (PySem.HandSPX.excO C hp.objs.size) := by rw [← eh, ← ea]; heap_get
  have I2 : Inv X pins σ (upd H1 a (exo a C none)) ⟨h1, g, dr, tk, os⟩ := I1.laid (t' := tk) kk hsz (exo_ok hget)
  have r2 : Vals (V.ref a :: vs) (Value.ref a :: us) := .cons rfl r1
  have hl : (Value.ref a :: us).length = ps.length := r2.length.symm.trans (F1.len _ _ _ _ hq)
  have hb2 := hb _ (Value.ref a :: us) I2.kIn (by rw [List.append_nil]; exact hl)
  rw [List.append_nil] at hb2
  have hus : us.length ≤ sizeLine := by rw [← Paired.length r1]; exact Nat.le_of_lt (small1000 hz)
  have run := F1.run _ X.stack _ _ ⟨Value.ref a :: us, []⟩ (Value.ref a :: us) _ _ (fun _ _ _ => False) (hr.make C us []) (I2.env0.make C us []) hb2 r2 hq
  subst ea eh
  refine wpAny_call (PySem.HandSPX.call_own F.excBase_ValueError (fun Y => PySem.HandSPX.refsVE_contains Y bm hbm) (I1.kIn _ _ hC) (PySem.W.looks_findIn I1.kIn iC) (fun self => PySem.W.bind_fn I1.kIn self tI) hus (codeAny_mono run ?_))
  rintro r ⟨h2, g2, d2, t2, os'⟩ hq'
  match r, hq' with
  | .ok (.ret u), hq' =>
    obtain ⟨v, H2, os2, bare2, un2, hok2, rv, ev, d, fs, ea, ed, hd1, q2⟩ := hq'
    subst ev
    obtain ⟨t0, G, J, kG, ge, hoe, na⟩ := mk_end0 (d2 := d2) (t2 := t2) I1 hsz kk un2 hok2 os2 bare2 ea ed hd1
    exact ⟨rv, _, _, _, ⟨G, g2, d2, t2, os'⟩, _, .ref C, some d, rfl, J, kG, ge, hoe, ⟨rfl, rfl, fun vs e => by cases e; rfl⟩, rfl, rfl, na, rfl, bare2, raises_own T.exC T.tyC, q2⟩
theorem js_raise {ft : AF} {k c : Nat} {ns : List Str} (C : ErrC X.prog X.w X.K X.mg X.base cm k x c ns) (hc : X.calm = true) (hr : Room (k + 1) X.A) (hg : Gl X x) (ha : JA X cm (e :: es) ft) (hz : es.length < 900 := by decide) (hdb : (x == ("__debug__" : Str)) = false := by decide)
    (he : starEach (e :: es) X.env = (false, eval e X.env) :: starEach es X.env := by rfl) (hpl : (backTo pc (starEach es X.env)).any (·.1) = false := by rfl) : JS X cm (.Raise (some (.Call (.Name x p) (e :: es) [] pc)) none pos) (wRaise c ns ft) := by
  obtain ⟨f, fd, ps, T, iC, tI, F1, hm, hb⟩ := C.ex
  refine ⟨fun env D' σ H G hw rel D o => to_s (L2N.ps_raise hc (takes_exW X) (pmkN T iC tI F1 hr hb hg hm pa_w hdb he hpl)) ?_⟩
  obtain ⟨rs, ds, h1, h2, h3, h4⟩ := hw
  refine ha.run env rs σ H G h1 rel _ fun vs H1 G1 g1 vrs => ?_
  obtain ⟨hp, rfl⟩ := plain_some h2
  have hd := vrs.plain hp
  have hvl : vs.length = ns.length := by rw [hd.length, h3]
  refine ⟨?_, fun a na => ⟨a, vs, by rw [List.append_nil], hvl, upd_same, fun dx nd ne H' eH => ⟨rfl, dx, (ns.zip vs).reverse, ?_, ?_, ?_, ?_⟩⟩⟩
  · have e1 := vrs.length
    have e2 := ha.len env rs h1
    rw [List.length_cons] at e2
    omega
  · rw [eH, upd_same]
  · rw [eH, upd_ne ne, upd_same]
  · rw [upd_ne ne] at nd
    exact nd
  · rw [upd_ne ne] at nd
    have hH : upd (del H' a) dx (.xd (ns.zip vs).reverse) = upd H1 dx (.xd (ns.zip vs).reverse) := by
      funext b
      by_cases eb : b = dx
      · rw [eb, upd_same, upd_same]
      · rw [upd_ne eb, upd_ne eb]
        by_cases ea : b = a
        · rw [ea, del_same, na]
        · rw [del_ne ea, eH, upd_ne ea, upd_ne eb, upd_ne ea]
    rw [hH]
    have g2 := Grow.new (o := .xd (ns.zip vs).reverse) g1.sub nd
    exact o.er σ _ _ env c _ (some dx) (rel.grow (g1.trans g2)) (rel.fr (g1.trans g2)) (.inr ⟨dx, _, rfl, upd_same, (DenF.zip (hd.mono g2.gx)).reverse⟩) h4
end
end Pyl
end
section
set_option Elab.async false
set_option linter.all false
set_option maxRecDepth 100000
set_option maxHeartbeats 2000000
namespace Pyl
open PySem L2
/-! ### try: .. except C as e: .. -/
section
variable {X : Cx} {cm : Nat → Addr} {σ : L2.St} {H G : Hp} {env : Sl}
theorem Rel.unset {K : PySem.W.Frag} {i : Nat} (r : Rel K cm σ H G env) : Rel K cm (σ.set i none) H G (env.set i .non) := r.wipe [i]
theorem Fr.unset {i : Nat} (s : Exx G H) : Fr σ env H G (σ.set i none) (env.set i .non) H G where
  gx := .refl _
  hid := fun _ _ _ n _ => n
  keep := fun _ _ h _ => h
  there := fun _ o h => ⟨o, h⟩
  sub := s
  fresh := fun a o h n ⟨j, q⟩ => n ⟨j, Held.wipe (is := [i]) q⟩
  take := fun j hj => by
    rcases get_set hj with ⟨_, e, _⟩ | ⟨ne, hj⟩
    · cases e
    · exact ⟨hj, List.getElem?_set_ne ne⟩
theorem js_try {body suite : List Stmt} {b₀ : Stmt} {x n : Str} {cv : Value} {np pos pos' : Pos} {wb : WS} {ws : Nat → Nat → Option Nat → WS} (i : Nat) (cs : List Nat) (hs : X.stack = X.env :: X.outer) (hf : X.env.frame = some X.env.locals) (hN : X.N.Nodup) (hc : Names X x cv)
    (hcs : ∀ c ∈ cs, PySem.W.exmOne X.K (.ref (cm c)) cv = some true) (hb : ∀ (pn : List (Addr × Obj)) (xe : Value → Shared → Prop), PassesOwn (model X.prog X.w) X.A X.env xe → JSs (X.tr pn xe) cm body wb)
    (hsu : ∀ c ∈ cs, ∀ (a : Addr) (d : Option Addr) (oe : Obj) (pn : List (Addr × Obj)), L2N.Zn (.ref (cm c)) d oe → (∃ vs, oe.data = .fields vs) → JSs (X.suite a ((a, oe) :: pn)) cm (b₀ :: suite) (ws c a d))
    (hi : X.N[i]? = some n := by rfl) (hln : X.env.kindOf n = some .local := by rfl) : JS X cm (.Try body [.ExceptHandler (some (.Name x np)) (some n) (b₀ :: suite) pos'] [] [] pos) (wTry i cs wb ws) := by
  refine ⟨fun env D' σ H G hw rel D o => to_s (L2N.ps_try_as (tb := fun W D σ H => ∀ pn xe, L2N.Takes (X.tr pn xe) W → PassesOwn (model X.prog X.w) X.A X.env xe → wpSs (X.tr pn xe) body D σ H)
    (ts := fun a cls d D σ H => ∀ oe pn, L2N.Zn cls d oe → (∃ vs, oe.data = .fields vs) → wpSs (X.suite a ((a, oe) :: pn)) (b₀ :: suite) D σ H) hs hf hN hi hln hc (takes_exW X)
    (fun W pn xe tk ps => ⟨fun pins s σ H D I h => h pn xe tk ps pins s I⟩) (fun a oe cls d pn hz hd => ⟨fun pins s σ H D I h => h oe pn hz hd pins s I⟩)) ?_⟩
  intro pn xe tk ps
  refine (hb pn xe ps).run env _ σ H G hw rel D ⟨o.nx, o.rt, o.bk, o.ct, fun σ' H' G' env' c fs dd rel' fr' xd hD => exW_of tk ⟨true, hcs c hD.1, fun _ a na oe pn' hz hd => ?_, fun e => nomatch e⟩⟩
  have hden : Den X.K cm G' (.ref a) (.exn a dd fs) := by
    rcases xd with ⟨e1, e2⟩ | ⟨x, fv, e1, e2, e3⟩
    · subst e1 e2; exact .exn0
    · subst e1; exact .exn e2 e3
  have rel2 := rel'.setVal (i := i) hden
  have fr2 : Fr σ env H G (σ'.set i (some (.ref a))) (env'.set i (.val (.exn a dd fs))) H' G' := fr'.trans (.setVal rel'.sub)
  refine (hsu c hD.1 a dd oe pn' hz hd).run _ _ _ H' G' (hD.2 a dd) rel2 _ ⟨fun σ3 H3 G3 env3 r3 f3 q => ?_, fun v H3 G3 d f3 hv q => ?_, fun σ3 H3 G3 env3 r3 f3 q => ?_, fun σ3 H3 G3 env3 r3 f3 q => ?_, fun _ _ _ _ _ _ _ _ _ _ q => q.elim⟩
  · exact o.nx _ H3 G3 _ r3.unset ((fr2.trans f3).trans (.unset r3.sub)) q
  · exact o.rt v H3 G3 d (fr2.trH f3) hv q
  · exact o.bk _ H3 G3 _ r3.unset ((fr2.trans f3).trans (.unset r3.sub)) q
  · exact o.ct _ H3 G3 _ r3.unset ((fr2.trans f3).trans (.unset r3.sub)) q
theorem hot_suite {a : Addr} {oe : Obj} {pn : List (Addr × Obj)} {cls : Value} {d : Option Addr} (hz : L2N.Zn cls d oe) (hd : ∃ vs, oe.data = .fields vs) : L2H.HotC (X.suite a ((a, oe) :: pn)) := by
  obtain ⟨vs, hv⟩ := hd
  exact ⟨(a, oe), ⟨rfl, vs, hv, hz.2.2 vs hv⟩, List.mem_cons_self⟩
end
theorem _root_.L2H.RoomH.units {k : Nat} {A : Around} (r : L2H.RoomH k A) : A.units + 64 < cLine := by have := r.un; omega
/-! ### defs called in an except suite -/
section
variable {P : Program} {w : World} {K : PySem.W.Frag} {mg : Str → Option Value} {base : Heap} {cm : Nat → Addr}
abbrev cxHN (P : Program) (w : World) (K : PySem.W.Frag) (mg : Str → Option Value) (base : Heap) (N : List Str) (qual : Str) (st : Stmt) (f : Addr) (cdv : Value) (A : Around) (outer : List Env) (s : Shared) (H : Hp) (E : XK) (p : Addr × Obj) : Cx := (L2H.cxH CX0 P w K mg base N qual (defScope st) f cdv A outer s H E p).nox
theorem fnh_ok {x qual : Str} {st : Stmt} {f : Addr} {fd : FuncData} {N ps : List Str} {k : Nat} {F : FN} (Fu : Fun K x qual st f fd) (S : FnScope N ps (defScope st)) (hlen : ∀ ds r, F ds = some r → ds.length = ps.length) (wd : WS) (hk : Keeps N.length wd F)
    (hb : ∀ (cdv : Value) (A : Around) (outer : List Env) (s : Shared) (H : Hp) (E : XK) (p : Addr × Obj), L2H.RoomH k (A.deeper (PyProof.Rows.envOfC qual (defScope st) s.heap.objs.size f cdv)) → JSs (cxHN P w K mg base N qual st f cdv A outer s H E p) cm (defBody st) wd) :
    L2H.FnH P w K mg base CX0 (k + 1) f fd ps (spP K cm F) := by
  obtain ⟨oc, od, kV, doc, pm, an, cdv, ct, osl, hfd, lk, hcd⟩ := Fu.ex
  subst hfd
  refine L2H.fn_ofH lk hcd S (fun vs H Q E h => ?_) fun A outer s H vs Q E p hot hr h => ⟨_, PSs.nox pss_w, ?_⟩
  · obtain ⟨G, ds, r, _, h2, h3, _⟩ := h
    rw [h2.length]
    exact hlen ds r h3
  · obtain ⟨G, ds, r, h1, h2, h3, h4⟩ := h
    refine (hb cdv A outer s H E p hr).run (startE N.length ds) _ (start N vs) H G (hk ds r h3) (rel_start h1 h2) _ ⟨fun σ' H' G' env' rel fr e => ?_, fun v H' G' d fr den e => ?_, fun _ _ _ _ _ _ z => z.elim, fun _ _ _ _ _ _ z => z.elim, fun _ _ _ _ _ _ _ _ _ _ z => z.elim⟩
    · have e : r = .non := e
      subst e
      exact h4 _ H' G' fr.toFrH.grow Den.non
    · have e : d = r := e
      subst e
      exact h4 v H' G' fr.grow den
structure FnHC (P : Program) (w : World) (K : PySem.W.Frag) (mg : Str → Option Value) (base : Heap) (cm : Nat → Addr) (k : Nat) (x : Str) (F : FN) : Prop where
  ex : ∃ (f : Addr) (fd : FuncData) (ps : List Str), L2H.FnH P w K mg base CX0 k f fd ps (spP K cm F) ∧ mg x = some (.ref f) ∧ PySem.W.keepIn K (.ref f) = true ∧ Binds K fd ps []
variable {X : Cx} {e : Expr} {pos p : Pos} {x : Str}
theorem je_callH {es : List Expr} {ft : AF} {F : FN} {k : Nat} (C : FnHC X.prog X.w X.K X.mg X.base cm k x F) (hr : L2H.RoomH k X.A) (hc : L2H.HotC X) (hg : Gl X x) (ha : JA X cm (e :: es) ft) (hdb : (x == ("__debug__" : Str)) = false := by decide)
    (he : starEach (e :: es) X.env = (false, eval e X.env) :: starEach es X.env := by rfl) (hpl : (backTo pos (starEach es X.env)).any (·.1) = false := by rfl) : JE X cm (.Call (.Name x p) (e :: es) [] pos) (eCall F ft) := by
  refine ⟨fun env r σ H G hf rel Q q => ?_⟩
  obtain ⟨rs, h1, hf⟩ := Option.bind_eq_some_iff.mp hf
  obtain ⟨f, fd, ps, hF, hm, hkp, hb⟩ := C.ex
  refine to_e (L2H.pe_callH (E := fun _ _ _ _ => False) hF hr hc hg hm hkp hb (fun _ _ _ _ _ _ _ z => z.elim) pa_w hdb he hpl) (ha.run env rs σ H G h1 rel _ fun vs H1 G1 g1 vrs => ?_)
  exact call_end g1 vrs hf q
end
/-! ### a caught error looked at -/
section
variable {X : Cx} {cm : Nat → Addr} {e : Expr} {fe : EF} {a : Addr} {oe : Obj} {pn : List (Addr × Obj)} {c : Nat} {d : Option Addr} {pos p : Pos} {x : Str}
theorem je_xf {f : Str} (T : ExcK X.K (cm c)) (hno : NoAttr X.K (cm c) f) (hz : L2N.Zn (.ref (cm c)) d oe) (hd : ∃ vs, oe.data = .fields vs) (he : JE (X.suite a ((a, oe) :: pn)) cm e fe) (hb : attributeBase e f X.env (eval e X.env) = eval e X.env := by rfl) :
    JE (X.suite a ((a, oe) :: pn)) cm (.Attribute e f pos) (eXf a d f fe) := by
  refine ⟨fun env r σ H G hf rel Q q => to_e (pe_xf T.xf hno hz.zc hd pe_w hb) ?_⟩
  unfold eXf at hf
  split at hf
  · rename_i a' d' fs h1
    split at hf
    · rename_i hc
      obtain ⟨e1, e2⟩ := hc
      subst e1 e2
      obtain ⟨dt, h2, h3⟩ := Option.map_eq_some_iff.mp hf
      subst h3
      refine he.run env _ σ H G h1 rel _ fun v H1 G1 g1 rr => ?_
      cases (show Den X.K cm G1 v (.exn a' d' fs) from rr) with
      | exn0 => cases h2
      | exn ha hdn =>
        obtain ⟨y, hy, hden⟩ := hdn.lookup h2
        exact ⟨rfl, rfl, _, _, y, rfl, g1.sub _ _ ha, hy, q y H1 G1 g1 hden⟩
    · cases hf
  · cases hf
/-- the caught error, as isinstance wants it -/
theorem exc_at {pins : List (Addr × Obj)} {σ : L2.St} {H : Hp} {s : Shared} {D : Addr} (I : Inv (X.suite a ((a, oe) :: pn)) pins σ H s) (hz : L2N.Zn (.ref D) d oe) (hf : ∃ vs, oe.data = .fields vs) (hd : d = none ∨ ∃ dd fv, d = some dd ∧ H dd = some (.xd fv)) :
    ∃ od, PySem.W.InstAt s.heap a oe D od := by
  obtain ⟨hget, _⟩ := I.pin (a, oe) (List.mem_append.mpr (.inl List.mem_cons_self))
  obtain ⟨vs, hv⟩ := hf
  obtain ⟨h1, h2, _⟩ := hz
  rcases hd with e | ⟨dd, fv, e, hdd⟩
  · exact ⟨none, hget, h1, by unfold PySem.W.notCls; rw [hv] <;> rfl, by rw [h2, e]; trivial⟩
  · obtain ⟨mA, hns, _⟩ := (show ObjOk X.prog X.w H s.heap dd (.xd fv) from I.hok dd _ hdd)
    obtain ⟨od, _, _, ho, _⟩ := hns
    exact ⟨some od, hget, h1, by unfold PySem.W.notCls; rw [hv] <;> rfl, by rw [h2, e]; exact ho⟩
def rXis (K : PySem.W.Frag) (D a : Addr) (d : Option Addr) : List V → Hp → VK → Prop := fun xs H Q => ∃ (v : V) (cv : Value) (b : Bool), xs = [.ref a, v] ∧ ClsV v cv ∧ PySem.W.kitOne K (.ref D) cv = some b ∧ (d = none ∨ ∃ dd fv, d = some dd ∧ H dd = some (.xd fv)) ∧ Q (.bl b) H
def rXisT (K : PySem.W.Frag) (D a : Addr) (d : Option Addr) : List V → Hp → VK → Prop := fun xs H Q => ∃ (tp : Addr) (vs : List V) (us : List Value) (b : Bool), xs = [.ref a, .ref tp] ∧ H tp = some (.tup vs) ∧ PySem.Paired ClsV vs us ∧ PySem.W.kitAny K (.ref D) us = some b ∧
  (d = none ∨ ∃ dd fv, d = some dd ∧ H dd = some (.xd fv)) ∧ Q (.bl b) H
theorem cr_xis {D : Addr} (T : ExcK X.K D) (hz : L2N.Zn (.ref D) d oe) (hf : ∃ vs, oe.data = .fields vs) : CallR (X.suite a ((a, oe) :: pn)) (.builtin "isinstance") (rXis X.K D a d) := by
  rintro pins s σ H xs us Q I r ⟨v, cv, b, rfl, hcl, e, hd, q⟩
  obtain ⟨u1, u2, rfl, r1, r2⟩ := vals2 r
  have e2 := hcl.eq r2
  subst e2
  cases (show u1 = Value.ref a from r1)
  obtain ⟨od, J⟩ := exc_at I hz hf hd
  exact PySem.W.kia_one (PySem.W.kitx_exc T.cl T.xf.ga T.xf.gg T.xf.exC T.c1 T.c2 T.c3 T.c4) I.kIn J e (fun z => nomatch z) fun tk => ⟨.bl b, H, I.tok tk, rfl, q⟩
theorem cr_xisT {D : Addr} (T : ExcK X.K D) (hz : L2N.Zn (.ref D) d oe) (hf : ∃ vs, oe.data = .fields vs) : CallR (X.suite a ((a, oe) :: pn)) (.builtin "isinstance") (rXisT X.K D a d) := by
  rintro pins s σ H xs us Q I r ⟨tp, vs, ws, b, rfl, hT, hcl, e, hd, q⟩
  obtain ⟨u1, u2, rfl, r1, r2⟩ := vals2 r
  cases (show u2 = Value.ref tp from r2)
  cases (show u1 = Value.ref a from r1)
  obtain ⟨od, J⟩ := exc_at I hz hf hd
  obtain ⟨_, its, rv, o, g1, g2, n, g3⟩ := (show ObjOk X.prog X.w H s.heap tp (.tup vs) from I.hok tp _ hT)
  have e3 := ClsV.all hcl rv
  subst e3
  obtain ⟨oc, od', dt, sl⟩ := o
  simp only at g2 g3
  subst g2 g3
  exact PySem.W.kia_tup (PySem.W.kitx_exc T.cl T.xf.ga T.xf.gg T.xf.exC T.c1 T.c2 T.c3 T.c4) I.kIn J g1 e (fun z => nomatch z) fun tk => ⟨.bl b, H, I.tok tk, rfl, q⟩
/-- a class by its name -/
structure JCl (X : Cx) (e : Expr) (v : V) (u : Value) : Prop where
  pe : PE X e (tC v)
  cl : ClsV v u
theorem jcl_own {C : Addr} (hg : Gl X x) (hm : X.mg x = some (.ref C)) (hd : (x == ("__debug__" : Str)) = false := by decide) : JCl X (.Name x p) (.ref C) (.ref C) := ⟨pe_glob (v := .ref C) hg hm rfl hd, .own C⟩
theorem jcl_ty {T : String} (hg : Gl X x) (hm : X.mg x = none) (hv : bootBuiltins x = some (.type T)) (hn : x ≠ "__name__" := by decide) (hd : (x == ("__debug__" : Str)) = false := by decide) : JCl X (.Name x p) (.ty T) (.type T) := ⟨pe_bltn (v := .ty T) hg hm hv rfl hn hd, .ty T⟩
structure JCls (X : Cx) (es : List Expr) (vs : List V) (us : List Value) : Prop where
  pa : PA X es (fun _ H Q => Q vs H)
  cl : PySem.Paired ClsV vs us
  len : vs.length = es.length
theorem jcls_nil : JCls X [] [] [] := ⟨⟨fun pos pins s σ H Q I h => pa_nil.run pos pins s σ H Q I h⟩, .nil, rfl⟩
theorem jcls_cons {es : List Expr} {v : V} {u : Value} {vs : List V} {us : List Value} (h : JCl X e v u) (t : JCls X es vs us) (hs : starEach (e :: es) X.env = (false, eval e X.env) :: starEach es X.env := by rfl) : JCls X (e :: es) (v :: vs) (u :: us) :=
  ⟨⟨fun pos pins s σ H Q I hq => (pa_cons h.pe t.pa hs).run pos pins s σ H Q I hq⟩, .cons h.cl t.cl, by rw [List.length_cons, List.length_cons, t.len]⟩
theorem xd_of {K : PySem.W.Frag} {G H : Hp} {v : V} {a' : Addr} {d' : Option Addr} {fs : List (Str × Dt)} (h : Den K cm G v (.exn a' d' fs)) (s : Exx G H) : v = .ref a' ∧ (d' = none ∨ ∃ dd fv, d' = some dd ∧ H dd = some (.xd fv)) := by
  cases h with
  | exn0 => exact ⟨rfl, .inl rfl⟩
  | exn ha _ => exact ⟨rfl, .inr ⟨_, _, rfl, s _ _ ha⟩⟩
theorem je_xis {ce : Expr} {v : V} {u : Value} {b : Bool} (T : ExcK X.K (cm c)) (hz : L2N.Zn (.ref (cm c)) d oe) (hf : ∃ vs, oe.data = .fields vs) (jc : JCl (X.suite a ((a, oe) :: pn)) ce v u) (hk : PySem.W.kitOne X.K (.ref (cm c)) u = some b)
    (hg : Gl X "isinstance") (hm : X.mg "isinstance" = none) (he : JE (X.suite a ((a, oe) :: pn)) cm e fe) (h0 : starEach [ce] X.env = (false, eval ce X.env) :: starEach [] X.env := by rfl) (hst : starEach [e, ce] X.env = (false, eval e X.env) :: starEach [ce] X.env := by rfl)
    (hpl : (backTo pos (starEach [ce] X.env)).any (·.1) = false := by rfl) : JE (X.suite a ((a, oe) :: pn)) cm (.Call (.Name "isinstance" p) [e, ce] [] pos) (eXis a d b fe) := by
  refine ⟨fun env r σ H G hr rel Q q => ?_⟩
  unfold eXis at hr
  split at hr
  case h_2 => cases hr
  rename_i a' d' fs h1
  split at hr
  case isFalse => cases hr
  rename_i hc
  obtain ⟨e1, e2⟩ := hc
  cases hr
  subst e1 e2
  refine to_e (pe_callB (cr_xis T hz hf) hg hm (by decide +kernel) (pa_cons pe_w (pa_cons jc.pe pa_nil h0) hst) (by decide) (by decide) hst hpl) (he.run env _ σ H G h1 rel _ fun y H1 G1 g1 rr => ?_)
  obtain ⟨rfl, hd⟩ := xd_of (show Den X.K cm G1 y _ from rr) g1.sub
  exact ⟨v, u, b, rfl, jc.cl, hk, hd, q _ _ _ g1 (Den.bl b)⟩
theorem je_xisT {es : List Expr} {k : Nat} {pt : Pos} {vs : List V} {us : List Value} {b : Bool} (T : ExcK X.K (cm c)) (hz : L2N.Zn (.ref (cm c)) d oe) (hf : ∃ vs, oe.data = .fields vs) (jc : JCls (X.suite a ((a, oe) :: pn)) es vs us) (hk : PySem.W.kitAny X.K (.ref (cm c)) us = some b)
    (hg : Gl X "isinstance") (hm : X.mg "isinstance" = none) (he : JE (X.suite a ((a, oe) :: pn)) cm e fe) (hzz : es.length ≤ 100000 := by decide) (h0 : starEach [.Tuple es k pt] X.env = (false, eval (.Tuple es k pt) X.env) :: starEach [] X.env := by rfl) (hst : starEach [e, .Tuple es k pt] X.env = (false, eval e X.env) :: starEach [.Tuple es k pt] X.env := by rfl)
    (hpl : (backTo pos (starEach [.Tuple es k pt] X.env)).any (·.1) = false := by rfl) : JE (X.suite a ((a, oe) :: pn)) cm (.Call (.Name "isinstance" p) [e, .Tuple es k pt] [] pos) (eXis a d b fe) := by
  refine ⟨fun env r σ H G hr rel Q q => ?_⟩
  unfold eXis at hr
  split at hr
  case h_2 => cases hr
  rename_i a' d' fs h1
  split at hr
  case isFalse => cases hr
  rename_i hc
  obtain ⟨e1, e2⟩ := hc
  cases hr
  subst e1 e2
  refine to_e (pe_callB (cr_xisT T hz hf) hg hm (by decide +kernel) (pa_cons pe_w (pa_cons (pe_tup jc.pa) pa_nil h0) hst) (by decide) (by decide) hst hpl) (he.run env _ σ H G h1 rel _ fun y H1 G1 g1 rr => ?_)
  obtain ⟨rfl, hd⟩ := xd_of (show Den X.K cm G1 y _ from rr) g1.sub
  refine ⟨by rw [jc.len]; exact Nat.le_trans hzz (by decide), fun tp hp => ?_⟩
  have g2 := Grow.new (o := .tup vs) g1.sub hp
  refine ⟨tp, vs, us, b, rfl, upd_same, jc.cl, hk, ?_, q _ _ _ (g1.trans g2) (Den.bl b)⟩
  rcases hd with e | ⟨dd, fv, e1, e2⟩
  · exact .inl e
  · exact .inr ⟨dd, fv, e1, g2.hx _ _ e2⟩
end
end Pyl
end
section
set_option Elab.async false
set_option linter.all false
set_option maxRecDepth 100000
set_option maxHeartbeats 2000000
namespace Pyl
open PySem L2
/-! ### what gen.py's texts lean on -/
inductive Inits (X : Cx) (C : Addr) : Nat → List Str → List Stmt → Prop
  | nil {j : Nat} : Inits X C j [] []
  | cons {j : Nat} {g : Str} {b : Stmt} {gs : List Str} {bs : List Stmt} (h : PS X b (sFld X.K (tVar 0) (tVar j) g)) (n : NoAttr X.K C g) (t : Inits X C (j + 1) gs bs) : Inits X C j (g :: gs) (b :: bs)
theorem Inits.at {X : Cx} {C : Addr} : ∀ {j : Nat} {gs : List Str} {bs : List Stmt}, Inits X C j gs bs → bs.length = gs.length ∧ ∀ (i : Nat) (g : Str) (b : Stmt), gs[i]? = some g → bs[i]? = some b → PS X b (sFld X.K (tVar 0) (tVar (j + i)) g) ∧ NoAttr X.K C g
  | _, _, _, .nil => ⟨rfl, fun i g b e => by simp at e⟩
  | j, _, _, .cons h n t => by
    obtain ⟨h1, h2⟩ := Inits.at t
    refine ⟨by rw [List.length_cons, List.length_cons, h1], fun i g b e1 e2 => ?_⟩
    cases i with
    | zero => cases e1; cases e2; exact ⟨h, n⟩
    | succ i =>
      have := h2 i g b (by simpa using e1) (by simpa using e2)
      rw [show j + (i + 1) = j + 1 + i by omega]
      exact this
inductive EInits (X : Cx) (C : Addr) : Nat → List Str → List Stmt → Prop
  | nil {j : Nat} : EInits X C j [] []
  | cons {j : Nat} {g : Str} {b : Stmt} {gs : List Str} {bs : List Stmt} (h : PS X b (tOst X.K g (tVar 0) (tVar j))) (n : NoAttr X.K C g) (t : EInits X C (j + 1) gs bs) : EInits X C j (g :: gs) (b :: bs)
theorem EInits.at {X : Cx} {C : Addr} : ∀ {j : Nat} {gs : List Str} {bs : List Stmt}, EInits X C j gs bs → bs.length = gs.length ∧ ∀ (i : Nat) (g : Str) (b : Stmt), gs[i]? = some g → bs[i]? = some b → PS X b (tOst X.K g (tVar 0) (tVar (j + i))) ∧ NoAttr X.K C g
  | _, _, _, .nil => ⟨rfl, fun i g b e => by simp at e⟩
  | j, _, _, .cons h n t => by
    obtain ⟨h1, h2⟩ := EInits.at t
    refine ⟨by rw [List.length_cons, List.length_cons, h1], fun i g b e1 e2 => ?_⟩
    cases i with
    | zero => cases e1; cases e2; exact ⟨h, n⟩
    | succ i =>
      have := h2 i g b (by simpa using e1) (by simpa using e2)
      rw [show j + (i + 1) = j + 1 + i by omega]
      exact this
section
variable {P : Program} {w : World} {K : PySem.W.Frag} {mg : Str → Option Value} {base : Heap} {cm : Nat → Addr}
theorem init_ok' {x qual : Str} {st : Stmt} {f : Addr} {fd : FuncData} {N ps : List Str} {k : Nat} {C : Addr} (Fu : Fun K x qual st f fd) (S : FnScope N ps (defScope st)) (ns : List Str) (c : Cls K C) (hn : ns.Nodup) (hl : ps.length = ns.length + 1) (hs : ns.length < 1000)
    (hb : ∀ (cdv : Value) (A : Around) (outer : List Env) (s : Shared) (H : Hp) (E : XK), Inits (cxN P w K mg base N qual st f cdv A outer s H E) C 1 ns (defBody st)) : FnOk P w K mg base CX0 (k + 1) f fd ps (spI C ns) :=
  init_ok Fu S ns c hn hl hs fun cdv A outer s H E => by
    obtain ⟨h1, h2⟩ := (hb cdv A outer s H E).at
    exact ⟨h1, fun j g b e1 e2 => by rw [Nat.add_comm]; exact h2 j g b e1 e2⟩
theorem einit_ok' {x qual : Str} {st : Stmt} {f : Addr} {fd : FuncData} {N ps : List Str} {k : Nat} {C : Addr} (Fu : Fun K x qual st f fd) (S : FnScope N ps (defScope st)) (n : Str) (ns : List Str) (T : OexC K C) (hl : ps.length = ns.length + 2) (hs : ns.length < 800)
    (hb : ∀ (cdv : Value) (A : Around) (outer : List Env) (s : Shared) (H : Hp) (E : XK), EInits (cxN P w K mg base N qual st f cdv A outer s H E) C 1 (n :: ns) (defBody st)) : FnOk P w K mg base CX0 (k + 1) f fd ps (spE C (n :: ns)) :=
  einit_ok Fu S n ns T hl hs fun cdv A outer s H E => by
    obtain ⟨h1, h2⟩ := (hb cdv A outer s H E).at
    exact ⟨h1, fun j g b e1 e2 => by rw [Nat.add_comm]; exact h2 j g b e1 e2⟩
/-- no built-in's instance is one of this class -/
def tyB (K : PySem.W.Frag) (C : Addr) : Bool := (["NoneType", "bool", "int", "str", "list", "tuple"] : List String).all fun t => decide (PySem.W.kitOne K (.type t) (.ref C) = some false)
theorem tyB_ok {C : Addr} (h : tyB K C = true) : ∀ t ∈ (["NoneType", "bool", "int", "str", "list", "tuple"] : List String), PySem.W.kitOne K (.type t) (.ref C) = some false := fun t ht => of_decide_eq_true (List.all_eq_true.mp h t ht)
theorem den_ints {G : Hp} : ∀ {vs : List V} {ds : List Dt} {ns : List Int}, DenL K cm G vs ds → intsOf ds = some ns → ds = ns.map .int ∧ vs = ns.map V.int
  | _, _, _, .nil, e => by cases e; exact ⟨rfl, rfl⟩
  | _, _, ns, .cons (d := d) h t, e => by
    cases d with
    | int i =>
      unfold intsOf at e
      obtain ⟨ms, h1, h2⟩ := Option.map_eq_some_iff.mp e
      subst h2
      obtain ⟨e1, e2⟩ := den_ints t h1
      cases h
      rw [e1, e2]
      exact ⟨rfl, rfl⟩
    | _ => simp [intsOf] at e
theorem law_imp {cm cm' : Nat → Addr} {F : FN} (hF : ∀ ds r, F ds = some r → ∃ xs ns b, ds = [.lst xs] ∧ intsOf xs = some ns ∧ r = .bl b) {vs : List V} {H : Hp} {Q : VK} {E : XK} (h : spP K cm' F vs H Q E) : spP K cm F vs H Q E := by
  obtain ⟨G, ds, r, h1, h2, h3, h4⟩ := h
  obtain ⟨xs, ns, b, rfl, h5, rfl⟩ := hF ds r h3
  refine ⟨G, _, _, h1, ?_, h3, fun v H' G' g hd => h4 v H' G' g (by cases hd; exact .bl _)⟩
  cases h2 with
  | cons q t =>
    cases t
    cases q with
    | lst s1 n1 =>
      obtain ⟨e1, e2⟩ := den_ints n1 h5
      rw [e1]
      rw [e2] at s1
      exact .cons (.lst s1 (denL_ints ns)) .nil
end
end Pyl
end
section
set_option Elab.async false
set_option linter.all false
set_option maxRecDepth 100000
set_option maxHeartbeats 4000000
set_option pp.maxSteps 300
namespace Pyl
open PySem L2
def topS (i : Nat) : Stmt := PySem.Challenge.pw_fooledortold_k69_found_rows_whole.main.body.getD i (.Pass ⟨0, 0, 0, 0⟩)
abbrev s_lowest : Stmt := topS 24
abbrev s_powers_of : Stmt := topS 26
abbrev s_first_fault : Stmt := topS 29
abbrev s_chance_table : Stmt := topS 30
abbrev s_fault_tables : Stmt := topS 31
abbrev s_danger_ways : Stmt := topS 32
abbrev s_least_row : Stmt := topS 33
abbrev s_found_rows : Stmt := topS 34
abbrev s__law_whole : Stmt := topS 36
abbrev s__law_cell : Stmt := topS 37
abbrev s__law_digits : Stmt := topS 38
abbrev s__law_power : Stmt := topS 39
abbrev s__law_long_gcd : Stmt := topS 40
abbrev s__law_exactly : Stmt := topS 41
abbrev s__law_parts : Stmt := topS 42
abbrev s__law_wrong_bits : Stmt := topS 43
abbrev s__law_spread : Stmt := topS 44
abbrev s__law_spreads : Stmt := topS 45
abbrev s__law_lengths : Stmt := topS 46
abbrev s__law_path : Stmt := topS 47
abbrev s__law_asked : Stmt := topS 48
abbrev s__law_right : Stmt := topS 49
abbrev s__law_checked : Stmt := topS 50
abbrev s__law_picked : Stmt := topS 51
abbrev s_law : Stmt := topS 52
section
variable {P : Program} {w : World} {K : PySem.W.Frag} {mg : Str → Option Value} {base : Heap} {cm : Nat → Addr} {f : Addr} {fd : FuncData}
abbrev si_Found : Stmt := inClass (topS 28) 0
theorem sci_Found : FnScope ["self", "rows", "dangers"] ["self", "rows", "dangers"] (defScope si_Found) := ⟨rfl, rfl, rfl, by decide +kernel, rfl, by decide +kernel, by decide +kernel⟩
theorem oki_Found {C : Addr} (Fu : Fun K "__init__" "Found.__init__" si_Found f fd) (ck : Cls K C) (n0 : NoAttr K C "rows") (n1 : NoAttr K C "dangers") : FnOk P w K mg base CX0 1 f fd ["self", "rows", "dangers"] (spI C ["rows", "dangers"]) :=
  init_ok' Fu sci_Found ["rows", "dangers"] ck (by decide) rfl (by decide) fun cdv A outer s H E => (.cons (ps_fld (pv 0) (pv 1) rfl) n0 (.cons (ps_fld (pv 0) (pv 2) rfl) n1 .nil))
abbrev si_NotEnoughRows : Stmt := inClass (topS 18) 0
theorem sci_NotEnoughRows : FnScope ["self", "many"] ["self", "many"] (defScope si_NotEnoughRows) := ⟨rfl, rfl, rfl, by decide +kernel, rfl, by decide +kernel, by decide +kernel⟩
theorem oki_NotEnoughRows {C : Addr} (Fu : Fun K "__init__" "NotEnoughRows.__init__" si_NotEnoughRows f fd) (ck : OexC K C) (n0 : NoAttr K C "many") : FnOk P w K mg base CX0 1 f fd ["self", "many"] (spE C ["many"]) :=
  einit_ok' Fu sci_NotEnoughRows "many" [] ck rfl (by decide) fun cdv A outer s H E => (.cons (ps_ost (pv 0) (pv 1)) n0 .nil)
theorem sc_lowest : FnScope ["top", "bottom", "common"] ["top", "bottom"] (defScope s_lowest) := ⟨rfl, rfl, rfl, by decide +kernel, rfl, by decide +kernel, by decide +kernel⟩
theorem ok_lowest (Fu : Fun K "lowest" "lowest" s_lowest f fd) (m_gcd : mg "gcd" = some (.builtin "math.gcd"))  : FnOk P w K mg base CX0 1 f fd ["top", "bottom"] (spP K cm F_lowest) :=
  have scN := sc_lowest
  fn_ok Fu scN len_lowest w_lowest k_lowest fun cdv A outer s H E hr =>
  (jss_cons (js_if (jt_cmp (p2_eq hr.units) (je_var 1) je_int)
  (jss_one js_dead)
  jss_nil)
  (jss_cons (js_asg 2 scN.nd (je_gcd (by rfl) m_gcd (je_var 0) (je_var 1)))
  (jss_cons (js_if (jt_cmp p2_lt (je_var 1) je_int)
  (jss_one (js_asg 2 scN.nd (je_neg (je_var 2))))
  jss_nil)
  (jss_one (js_ret (je_tup (ja_cons (je_bin p2_div (je_var 0) (je_var 2)) (ja_cons (je_bin p2_div (je_var 1) (je_var 2)) ja_nil))))))))
theorem sc_powers_of : FnScope ["number", "most", "powers", "_"] ["number", "most"] (defScope s_powers_of) := ⟨rfl, rfl, rfl, by decide +kernel, rfl, by decide +kernel, by decide +kernel⟩
theorem ok_powers_of (Fu : Fun K "powers_of" "powers_of" s_powers_of f fd) (m_range : mg "range" = none)  : FnOk P w K mg base CX0 1 f fd ["number", "most"] (spP K cm F_powers_of) :=
  have scN := sc_powers_of
  fn_ok Fu scN len_powers_of w_powers_of k_powers_of fun cdv A outer s H E hr =>
  (jss_cons (js_asg 2 scN.nd (je_lst (ja_cons je_int ja_nil)))
  (jss_cons (js_for PassesOwn.never rfl (ji_range1 (by rfl) m_range (je_var 1)) (jg_name 3 scN.nd)
  (jss_one (js_app 2 (je_bin p2_mul (je_ix (je_var 2) (je_neg je_int)) (je_var 0)))))
  (jss_frz 2 (jss_one (js_ret (je_var 2))))))
theorem sc_first_fault : FnScope ["faults", "rows", "index", "wrong", "row"] ["faults", "rows"] (defScope s_first_fault) := ⟨rfl, rfl, rfl, by decide +kernel, rfl, by decide +kernel, by decide +kernel⟩
theorem ok_first_fault (Fu : Fun K "first_fault" "first_fault" s_first_fault f fd) (m_len : mg "len" = none) (m_range : mg "range" = none) (m_sum : mg "sum" = none)  : FnOk P w K mg base CX0 1 f fd ["faults", "rows"] (spP K cm F_first_fault) :=
  have scN := sc_first_fault
  fn_ok Fu scN len_first_fault w_first_fault k_first_fault fun cdv A outer s H E hr =>
  (jss_cons (js_for PassesOwn.never rfl (ji_range1 (by rfl) m_range (je_b1 p1_len (by rfl) m_len (by decide +kernel) (je_var 0))) (jg_name 2 scN.nd)
  (jss_cons (js_asg 3 scN.nd (je_b1 (p1_sum rfl) (by rfl) m_sum (by decide +kernel) (je_lc [("row", 4)] rfl scN.nd (ji_seq (je_var 1)) (blk_by ["faults", "rows", "index", "wrong", "row"] (defScope s_first_fault) (by decide +kernel)) (fun _ _ _ _ _ => (jg_name 4 scN.nd)) (by decide) (fun _ _ _ _ _ => jts_nil) (fun _ _ _ _ _ => (je_ix (je_ix (je_var 0) (je_var 2)) (je_var 4))))))
  (jss_one (js_if (jt_cmp p2_gt (je_bin p2_mul je_int (je_var 3)) (je_b1 p1_len (by rfl) m_len (by decide +kernel) (je_var 1)))
  (jss_one (js_ret (je_var 2)))
  jss_nil))))
  (jss_one (js_ret je_non)))
theorem sc_chance_table : FnScope ["wrong", "total", "many", "need", "table", "_", "before", "row", "count"] ["wrong", "total", "many", "need"] (defScope s_chance_table) := ⟨rfl, rfl, rfl, by decide +kernel, rfl, by decide +kernel, by decide +kernel⟩
theorem ok_chance_table (Fu : Fun K "chance_table" "chance_table" s_chance_table f fd) (m_max : mg "max" = none) (m_range : mg "range" = none)  : FnOk P w K mg base CX0 1 f fd ["wrong", "total", "many", "need"] (spP K cm F_chance_table) :=
  have scN := sc_chance_table
  fn_ok Fu scN len_chance_table w_chance_table k_chance_table fun cdv A outer s H E hr =>
  (jss_cons (js_asg 4 scN.nd (je_lst (ja_cons (je_bin p2_add (je_lst (ja_cons je_int ja_nil)) (je_lc [("_", 5)] rfl scN.nd (ji_range1 (by rfl) m_range (je_var 3)) (blk_by ["wrong", "total", "many", "need", "table", "_", "before", "row", "count"] (defScope s_chance_table) (by decide +kernel)) (fun _ _ _ _ _ => (jg_name 5 scN.nd)) (by decide) (fun _ _ _ _ _ => jts_nil) (fun _ _ _ _ _ => je_int))) ja_nil)))
  (jss_cons (js_for PassesOwn.never rfl (ji_range1 (by rfl) m_range (je_var 2)) (jg_name 5 scN.nd)
  (jss_cons (js_asg 6 scN.nd (je_ix (je_var 4) (je_neg je_int)))
  (jss_cons (js_asgLc 7 [("count", 8)] rfl scN.nd rfl rfl (sw_true rfl rfl rfl (by decide +kernel)) (ji_range1 (by rfl) m_range (je_bin p2_add (je_var 3) je_int)) (blk_by ["wrong", "total", "many", "need", "table", "_", "before", "row", "count"] (defScope s_chance_table) (by decide +kernel)) (fun _ _ _ _ _ => (jg_name 8 scN.nd)) (by decide) (fun _ _ _ _ _ => jts_nil) (fun _ _ _ _ _ => (je_bin p2_add (je_bin p2_mul (je_var 0) (je_ix (je_var 6) (je_b2 (p2c_max rfl) (by rfl) m_max (by decide +kernel) (je_bin p2_sub (je_var 8) je_int) je_int))) (je_bin p2_mul (je_bin p2_sub (je_var 1) (je_var 0)) (je_ix (je_var 6) (je_var 8))))))
  (jss_frz 7 (jss_one (js_app 4 (je_var 7)))))))
  (jss_frz 4 (jss_one (js_ret (je_var 4))))))
theorem sc_fault_tables : FnScope ["faults", "parts", "many", "need", "total", "tables", "bits", "wrong", "part", "bit"] ["faults", "parts", "many", "need"] (defScope s_fault_tables) := ⟨rfl, rfl, rfl, by decide +kernel, rfl, by decide +kernel, by decide +kernel⟩
theorem ok_fault_tables (Fu : Fun K "fault_tables" "fault_tables" s_fault_tables f fd) (m_sum : mg "sum" = none) (m_zip : mg "zip" = none) (c_chance_table : FnC P w K mg base cm 1 "chance_table" F_chance_table) : FnOk P w K mg base CX0 2 f fd ["faults", "parts", "many", "need"] (spP K cm F_fault_tables) :=
  have scN := sc_fault_tables
  fn_ok Fu scN len_fault_tables w_fault_tables k_fault_tables fun cdv A outer s H E hr =>
  (jss_cons (js_asg 4 scN.nd (je_b1 (p1_sum rfl) (by rfl) m_sum (by decide +kernel) (je_var 1)))
  (jss_cons (js_asg 5 scN.nd (je_lst ja_nil))
  (jss_cons (js_for PassesOwn.never rfl (ji_seq (je_var 0)) (jg_name 6 scN.nd)
  (jss_cons (js_asg 7 scN.nd (je_b1 (p1_sum rfl) (by rfl) m_sum (by decide +kernel) (je_lc [("part", 8), ("bit", 9)] rfl scN.nd (ji_zip (by rfl) m_zip (je_var 1) (je_var 6)) (blk_by ["faults", "parts", "many", "need", "total", "tables", "bits", "wrong", "part", "bit"] (defScope s_fault_tables) (by decide +kernel)) (fun _ _ _ _ _ => (jg_tup rfl (jgs_cons 8 scN.nd (jgs_cons 9 scN.nd jgs_nil)))) (by decide) (fun _ _ _ _ _ => jts_nil) (fun _ _ _ _ _ => (je_bin p2_mul (je_var 8) (je_var 9))))))
  (jss_one (js_app 5 (je_call c_chance_table (hr.mono (by decide)) (by rfl) (ja_cons (je_var 7) (ja_cons (je_var 4) (ja_cons (je_var 2) (ja_cons (je_var 3) ja_nil)))))))))
  (jss_frz 5 (jss_one (js_ret (je_var 5)))))))
theorem sc_danger_ways : FnScope ["tables", "needs", "draws", "table", "need"] ["tables", "needs", "draws"] (defScope s_danger_ways) := ⟨rfl, rfl, rfl, by decide +kernel, rfl, by decide +kernel, by decide +kernel⟩
theorem ok_danger_ways (Fu : Fun K "danger_ways" "danger_ways" s_danger_ways f fd) (m_max : mg "max" = none) (m_sum : mg "sum" = none) (m_zip : mg "zip" = none)  : FnOk P w K mg base CX0 1 f fd ["tables", "needs", "draws"] (spP K cm F_danger_ways) :=
  have scN := sc_danger_ways
  fn_ok Fu scN len_danger_ways w_danger_ways k_danger_ways fun cdv A outer s H E hr =>
  (jss_one (js_ret (je_b1 (p1_sum rfl) (by rfl) m_sum (by decide +kernel) (je_lc [("table", 3), ("need", 4)] rfl scN.nd (ji_zip (by rfl) m_zip (je_var 0) (je_var 1)) (blk_by ["tables", "needs", "draws", "table", "need"] (defScope s_danger_ways) (by decide +kernel)) (fun _ _ _ _ _ => (jg_tup rfl (jgs_cons 3 scN.nd (jgs_cons 4 scN.nd jgs_nil)))) (by decide) (fun _ _ _ _ _ => jts_nil) (fun _ _ _ _ _ => (je_ix (je_ix (je_var 3) (je_var 2)) (je_b2 (p2c_max rfl) (by rfl) m_max (by decide +kernel) (je_var 4) je_int)))))))
theorem sc_least_row : FnScope ["faults", "tables", "needs", "draws", "best", "row", "later", "ways", "need", "bits"] ["faults", "tables", "needs", "draws"] (defScope s_least_row) := ⟨rfl, rfl, rfl, by decide +kernel, rfl, by decide +kernel, by decide +kernel⟩
theorem ok_least_row (Fu : Fun K "least_row" "least_row" s_least_row f fd) (m_len : mg "len" = none) (m_range : mg "range" = none) (m_zip : mg "zip" = none) (c_danger_ways : FnC P w K mg base cm 1 "danger_ways" F_danger_ways) : FnOk P w K mg base CX0 2 f fd ["faults", "tables", "needs", "draws"] (spP K cm F_least_row) :=
  have scN := sc_least_row
  fn_ok Fu scN len_least_row w_least_row k_least_row fun cdv A outer s H E hr =>
  (jss_cons (js_asg 4 scN.nd je_non)
  (jss_cons (js_for PassesOwn.never rfl (ji_range1 (by rfl) m_range (je_b1 p1_len (by rfl) m_len (by decide +kernel) (je_ix (je_var 0) je_int))) (jg_name 5 scN.nd)
  (jss_cons (js_asgLc 6 [("need", 8), ("bits", 9)] rfl scN.nd rfl rfl (sw_true rfl rfl rfl (by decide +kernel)) (ji_zip (by rfl) m_zip (je_var 2) (je_var 0)) (blk_by ["faults", "tables", "needs", "draws", "best", "row", "later", "ways", "need", "bits"] (defScope s_least_row) (by decide +kernel)) (fun _ _ _ _ _ => (jg_tup rfl (jgs_cons 8 scN.nd (jgs_cons 9 scN.nd jgs_nil)))) (by decide) (fun _ _ _ _ _ => jts_nil) (fun _ _ _ _ _ => (je_bin p2_sub (je_var 8) (je_ix (je_var 9) (je_var 5)))))
  (jss_frz 6 (jss_cons (js_asg 7 scN.nd (je_call c_danger_ways (hr.mono (by decide)) (by rfl) (ja_cons (je_var 1) (ja_cons (je_var 6) (ja_cons (je_var 3) ja_nil)))))
  (jss_one (js_if (JW.t (jw_or (jt_isN (je_var 4)) (jw_or1 (jt_cmp p2_lt (je_var 7) (je_ix (je_var 4) je_int)))))
  (jss_one (js_asg 4 scN.nd (je_tup (ja_cons (je_var 7) (ja_cons (je_var 5) ja_nil)))))
  jss_nil))))))
  (jss_one (js_ret (je_ix (je_var 4) je_int)))))
theorem sc_found_rows : FnScope ["faults", "many", "weights", "parts", "total", "need", "tables", "needs", "bottom", "dangers", "rows", "step", "row", "_", "left", "bits"] ["faults", "many", "weights"] (defScope s_found_rows) := ⟨rfl, rfl, rfl, by decide +kernel, rfl, by decide +kernel, by decide +kernel⟩
theorem ok_found_rows (Fu : Fun K "found_rows" "found_rows" s_found_rows f fd) (m_list : mg "list" = none) (m_range : mg "range" = none) (m_sum : mg "sum" = none) (m_tuple : mg "tuple" = none) (m_zip : mg "zip" = none) (c_fault_tables : FnC P w K mg base cm 2 "fault_tables" F_fault_tables) (c_powers_of : FnC P w K mg base cm 1 "powers_of" F_powers_of) (c_lowest : FnC P w K mg base cm 1 "lowest" F_lowest) (c_danger_ways : FnC P w K mg base cm 1 "danger_ways" F_danger_ways) (er_NotEnoughRows : ErrC P w K mg base cm 1 "NotEnoughRows" 16 ["many"]) (c_least_row : FnC P w K mg base cm 2 "least_row" F_least_row) (mk_Found : MkC P w K mg base cm 1 "Found" 21 ["rows", "dangers"]) : FnOk P w K mg base (L2N.CX P w) 3 f fd ["faults", "many", "weights"] (spX K cm F_found_rows) :=
  have scN := sc_found_rows
  fnx_ok Fu scN len_found_rows w_found_rows k_found_rows fun cdv A outer s H E hr hp =>
  (jss_cons (js_asgLc 3 [("_", 13)] rfl scN.nd rfl rfl (sw_true rfl rfl rfl (by decide +kernel)) (ji_seq (je_ix (je_var 0) je_int)) (blk_by ["faults", "many", "weights", "parts", "total", "need", "tables", "needs", "bottom", "dangers", "rows", "step", "row", "_", "left", "bits"] (defScope s_found_rows) (by decide +kernel)) (fun _ _ _ _ _ => (jg_name 13 scN.nd)) (by decide) (fun _ _ _ _ _ => jts_nil) (fun _ _ _ _ _ => je_int))
  (jss_frz 3 (jss_cons (js_if (jt_notN (je_var 2))
  (jss_one (js_asg 3 scN.nd (je_ty1 p1_list (by rfl) m_list (by decide +kernel) (je_var 2))))
  jss_nil)
  (jss_cons (js_asg 4 scN.nd (je_b1 (p1_sum rfl) (by rfl) m_sum (by decide +kernel) (je_var 3)))
  (jss_cons (js_asg 5 scN.nd (je_bin p2_div (je_bin p2_add (je_var 1) je_int) je_int))
  (jss_frz 3 (jss_cons (js_asg 6 scN.nd (je_call c_fault_tables (hr.mono (by decide)) (by rfl) (ja_cons (je_var 0) (ja_cons (je_var 3) (ja_cons (je_var 1) (ja_cons (je_var 5) ja_nil))))))
  (jss_cons (js_asgLc 7 [("_", 13)] rfl scN.nd rfl rfl (sw_true rfl rfl rfl (by decide +kernel)) (ji_seq (je_var 0)) (blk_by ["faults", "many", "weights", "parts", "total", "need", "tables", "needs", "bottom", "dangers", "rows", "step", "row", "_", "left", "bits"] (defScope s_found_rows) (by decide +kernel)) (fun _ _ _ _ _ => (jg_name 13 scN.nd)) (by decide) (fun _ _ _ _ _ => jts_nil) (fun _ _ _ _ _ => (je_var 5)))
  (jss_frz 7 (jss_cons (js_asg 8 scN.nd (je_ix (je_call c_powers_of (hr.mono (by decide)) (by rfl) (ja_cons (je_var 4) (ja_cons (je_var 1) ja_nil))) (je_var 1)))
  (jss_cons (js_asg 9 scN.nd (je_lst (ja_cons (je_call c_lowest (hr.mono (by decide)) (by rfl) (ja_cons (je_call c_danger_ways (hr.mono (by decide)) (by rfl) (ja_cons (je_var 6) (ja_cons (je_var 7) (ja_cons (je_var 1) ja_nil)))) (ja_cons (je_var 8) ja_nil))) ja_nil)))
  (jss_cons (js_if (jt_cmp p2_ge (je_ix (je_ix (je_var 9) je_int) je_int) (je_ix (je_ix (je_var 9) je_int) je_int))
  (jss_one (js_raise er_NotEnoughRows rfl (hr.mono (by decide)) (by rfl) (ja_cons (je_var 1) ja_nil)))
  jss_nil)
  (jss_cons (js_asg 10 scN.nd (je_lst ja_nil))
  (jss_cons (js_for hp rfl (ji_range1 (by rfl) m_range (je_var 1)) (jg_name 11 scN.nd)
  (jss_cons (js_asg 12 scN.nd (je_call c_least_row (hr.mono (by decide)) (by rfl) (ja_cons (je_var 0) (ja_cons (je_var 6) (ja_cons (je_var 7) (ja_cons (je_bin p2_sub (je_bin p2_sub (je_var 1) (je_var 11)) je_int) ja_nil))))))
  (jss_cons (js_asgLc 7 [("left", 14), ("bits", 15)] rfl scN.nd rfl rfl (sw_true rfl rfl rfl (by decide +kernel)) (ji_zip (by rfl) m_zip (je_var 7) (je_var 0)) (blk_by ["faults", "many", "weights", "parts", "total", "need", "tables", "needs", "bottom", "dangers", "rows", "step", "row", "_", "left", "bits"] (defScope s_found_rows) (by decide +kernel)) (fun _ _ _ _ _ => (jg_tup rfl (jgs_cons 14 scN.nd (jgs_cons 15 scN.nd jgs_nil)))) (by decide) (fun _ _ _ _ _ => jts_nil) (fun _ _ _ _ _ => (je_bin p2_sub (je_var 14) (je_ix (je_var 15) (je_var 12)))))
  (jss_frz 7 (jss_cons (js_asg 8 scN.nd (je_bin p2_div (je_var 8) (je_var 4)))
  (jss_cons (js_app 10 (je_var 12))
  (jss_one (js_app 9 (je_call c_lowest (hr.mono (by decide)) (by rfl) (ja_cons (je_call c_danger_ways (hr.mono (by decide)) (by rfl) (ja_cons (je_var 6) (ja_cons (je_var 7) (ja_cons (je_bin p2_sub (je_bin p2_sub (je_var 1) (je_var 11)) je_int) ja_nil)))) (ja_cons (je_var 8) ja_nil)))))))))))
  (jss_one (js_ret (je_make mk_Found (hr.mono (by decide)) (by rfl) (ja_cons (je_ty1 p1_tuple (by rfl) m_tuple (by decide +kernel) (je_var 10)) (ja_cons (je_ty1 p1_tuple (by rfl) m_tuple (by decide +kernel) (je_var 9)) ja_nil)))))))))))))))))))
theorem sc__law_whole : FnScope ["value"] ["value"] (defScope s__law_whole) := ⟨rfl, rfl, rfl, by decide +kernel, rfl, by decide +kernel, by decide +kernel⟩
theorem okh__law_whole (Fu : Fun K "_law_whole" "_law_whole" s__law_whole f fd) (m_bool : mg "bool" = none) (m_int : mg "int" = none) (m_isinstance : mg "isinstance" = none)  : L2H.FnH P w K mg base CX0 1 f fd ["value"] (spP K cm F__law_whole) :=
  have scN := sc__law_whole
  fnh_ok Fu scN len__law_whole w__law_whole k__law_whole fun cdv A outer s H E p hr =>
  (jss_one (js_ret (je_and (je_isi (T := "int") (by decide +kernel) (by rfl) m_isinstance (by rfl) m_int (by decide +kernel) (je_var 0)) (je_one (je_not (je_isi (T := "bool") (by decide +kernel) (by rfl) m_isinstance (by rfl) m_bool (by decide +kernel) (je_var 0)))))))
theorem ok__law_whole (Fu : Fun K "_law_whole" "_law_whole" s__law_whole f fd) (m_bool : mg "bool" = none) (m_int : mg "int" = none) (m_isinstance : mg "isinstance" = none)  : FnOk P w K mg base CX0 1 f fd ["value"] (spP K cm F__law_whole) :=
  have scN := sc__law_whole
  fn_ok Fu scN len__law_whole w__law_whole k__law_whole fun cdv A outer s H E hr =>
  (jss_one (js_ret (je_and (je_isi (T := "int") (by decide +kernel) (by rfl) m_isinstance (by rfl) m_int (by decide +kernel) (je_var 0)) (je_one (je_not (je_isi (T := "bool") (by decide +kernel) (by rfl) m_isinstance (by rfl) m_bool (by decide +kernel) (je_var 0)))))))
theorem sc__law_cell : FnScope ["script", "k", "seed", "cell"] ["script", "k"] (defScope s__law_cell) := ⟨rfl, rfl, rfl, by decide +kernel, rfl, by decide +kernel, by decide +kernel⟩
theorem ok__law_cell (Fu : Fun K "_law_cell" "_law_cell" s__law_cell f fd) (m_int : mg "int" = none) (m_len : mg "len" = none)  : FnOk P w K mg base CX0 1 f fd ["script", "k"] (spP K cm F__law_cell) :=
  have scN := sc__law_cell
  fn_ok Fu scN len__law_cell w__law_cell k__law_cell fun cdv A outer s H E hr =>
  (jss_cons (js_if (jt_cmp p2_lt (je_var 1) (je_b1 p1_len (by rfl) m_len (by decide +kernel) (je_var 0)))
  (jss_one (js_ret (je_ix (je_var 0) (je_var 1))))
  jss_nil)
  (jss_cons (js_asg 2 scN.nd je_int)
  (jss_cons (js_for PassesOwn.never rfl (ji_seq (je_var 0)) (jg_name 3 scN.nd)
  (jss_one (js_asg 2 scN.nd (je_bin p2_mod (je_ty1 p1_int (by rfl) m_int (by decide +kernel) (je_bin p2_add (je_bin p2_mul (je_var 2) je_int) (je_bin p2_mod (je_ty1 p1_int (by rfl) m_int (by decide +kernel) (je_var 3)) je_int))) je_int))))
  (jss_one (js_ret (je_bin p2_mod (je_ty1 p1_int (by rfl) m_int (by decide +kernel) (je_bin p2_mul (je_bin p2_mul (je_bin p2_add (je_var 2) je_int) (je_bin p2_add (je_var 1) je_int)) je_int)) je_int))))))
theorem sc__law_digits : FnScope ["cell", "sizes", "row", "rest", "seed", "k", "size", "twice"] ["cell", "sizes"] (defScope s__law_digits) := ⟨rfl, rfl, rfl, by decide +kernel, rfl, by decide +kernel, by decide +kernel⟩
theorem ok__law_digits (Fu : Fun K "_law_digits" "_law_digits" s__law_digits f fd) (m_int : mg "int" = none) (m_len : mg "len" = none) (m_range : mg "range" = none)  : FnOk P w K mg base CX0 1 f fd ["cell", "sizes"] (spP K cm F__law_digits) :=
  have scN := sc__law_digits
  fn_ok Fu scN len__law_digits w__law_digits k__law_digits fun cdv A outer s H E hr =>
  (jss_cons (js_asg 2 scN.nd (je_lst ja_nil))
  (jss_cons (js_asg 3 scN.nd (je_ty1 p1_int (by rfl) m_int (by decide +kernel) (je_var 0)))
  (jss_cons (js_if (jt_cmp p2_ge (je_var 3) (je_bin p2_pow je_int je_int))
  (jss_cons (js_asg 3 scN.nd (je_bin p2_sub (je_var 3) (je_bin p2_pow je_int je_int)))
  (jss_cons (js_for PassesOwn.never rfl (ji_seq (je_var 1)) (jg_name 6 scN.nd)
  (jss_cons (js_app 2 (je_bin p2_mod (je_ty1 p1_int (by rfl) m_int (by decide +kernel) (je_var 3)) (je_var 6)))
  (jss_one (js_asg 3 scN.nd (je_bin p2_div (je_ty1 p1_int (by rfl) m_int (by decide +kernel) (je_var 3)) (je_var 6))))))
  (jss_frz 2 (jss_one (js_ret (je_var 2))))))
  jss_nil)
  (jss_cons (js_asg 4 scN.nd (je_bin p2_mod (je_ty1 p1_int (by rfl) m_int (by decide +kernel) (je_var 3)) je_int))
  (jss_cons (js_for PassesOwn.never rfl (ji_range1 (by rfl) m_range (je_b1 p1_len (by rfl) m_len (by decide +kernel) (je_var 1))) (jg_name 5 scN.nd)
  (jss_cons (js_asg 4 scN.nd (je_bin p2_mod (je_ty1 p1_int (by rfl) m_int (by decide +kernel) (je_bin p2_add (je_bin p2_add (je_bin p2_mul (je_var 4) je_int) (je_bin p2_mul je_int (je_var 5))) je_int)) je_int))
  (jss_cons (js_asg 7 scN.nd (je_bin p2_mod (je_ty1 p1_int (by rfl) m_int (by decide +kernel) (je_bin p2_mul (je_var 4) (je_bin p2_add (je_bin p2_div (je_var 4) je_int) je_int))) je_int))
  (jss_one (js_app 2 (je_bin p2_mod (je_bin p2_div (je_var 7) je_int) (je_ix (je_var 1) (je_var 5))))))))
  (jss_frz 2 (jss_one (js_ret (je_var 2)))))))))
theorem sc__law_power : FnScope ["base", "count", "result", "k"] ["base", "count"] (defScope s__law_power) := ⟨rfl, rfl, rfl, by decide +kernel, rfl, by decide +kernel, by decide +kernel⟩
theorem ok__law_power (Fu : Fun K "_law_power" "_law_power" s__law_power f fd) (m_range : mg "range" = none)  : FnOk P w K mg base CX0 1 f fd ["base", "count"] (spP K cm F__law_power) :=
  have scN := sc__law_power
  fn_ok Fu scN len__law_power w__law_power k__law_power fun cdv A outer s H E hr =>
  (jss_cons (js_asg 2 scN.nd je_int)
  (jss_cons (js_for PassesOwn.never rfl (ji_range1 (by rfl) m_range (je_var 1)) (jg_name 3 scN.nd)
  (jss_one (js_asg 2 scN.nd (je_bin p2_mul (je_var 2) (je_var 0)))))
  (jss_one (js_ret (je_var 2)))))
theorem sc__law_long_gcd : FnScope ["one", "two", "left", "right", "k", "rest"] ["one", "two"] (defScope s__law_long_gcd) := ⟨rfl, rfl, rfl, by decide +kernel, rfl, by decide +kernel, by decide +kernel⟩
theorem ok__law_long_gcd (Fu : Fun K "_law_long_gcd" "_law_long_gcd" s__law_long_gcd f fd) (m_abs : mg "abs" = none) (m_int : mg "int" = none) (m_range : mg "range" = none)  : FnOk P w K mg base CX0 1 f fd ["one", "two"] (spP K cm F__law_long_gcd) :=
  have scN := sc__law_long_gcd
  fn_ok Fu scN len__law_long_gcd w__law_long_gcd k__law_long_gcd fun cdv A outer s H E hr =>
  (jss_cons (js_asg 2 scN.nd (je_b1 p1_abs (by rfl) m_abs (by decide +kernel) (je_var 0)))
  (jss_cons (js_asg 3 scN.nd (je_b1 p1_abs (by rfl) m_abs (by decide +kernel) (je_var 1)))
  (jss_cons (js_for PassesOwn.never rfl (ji_range1 (by rfl) m_range je_int) (jg_name 4 scN.nd)
  (jss_cons (js_if (jt_cmp (p2_eq hr.units) (je_var 3) je_int)
  (jss_one js_break)
  jss_nil)
  (jss_cons (js_asg 5 scN.nd (je_bin p2_mod (je_ty1 p1_int (by rfl) m_int (by decide +kernel) (je_var 2)) (je_var 3)))
  (jss_cons (js_asg 2 scN.nd (je_var 3))
  (jss_one (js_asg 3 scN.nd (je_var 5)))))))
  (jss_one (js_ret (je_var 2))))))
theorem sc__law_exactly : FnScope ["told", "top", "bottom"] ["told", "top", "bottom"] (defScope s__law_exactly) := ⟨rfl, rfl, rfl, by decide +kernel, rfl, by decide +kernel, by decide +kernel⟩
theorem ok__law_exactly (Fu : Fun K "_law_exactly" "_law_exactly" s__law_exactly f fd) (m_isinstance : mg "isinstance" = none) (m_len : mg "len" = none) (m_tuple : mg "tuple" = none) (c__law_whole : FnC P w K mg base cm 1 "_law_whole" F__law_whole) (c__law_long_gcd : FnC P w K mg base cm 1 "_law_long_gcd" F__law_long_gcd) : FnOk P w K mg base CX0 2 f fd ["told", "top", "bottom"] (spP K cm F__law_exactly) :=
  have scN := sc__law_exactly
  fn_ok Fu scN len__law_exactly w__law_exactly k__law_exactly fun cdv A outer s H E hr =>
  (jss_cons (js_if (JW.t (jw_or (jt_not (jt_val (je_isi (T := "tuple") (by decide +kernel) (by rfl) m_isinstance (by rfl) m_tuple (by decide +kernel) (je_var 0)))) (jw_or1 (jt_cmp (p2_ne hr.units) (je_b1 p1_len (by rfl) m_len (by decide +kernel) (je_var 0)) je_int))))
  (jss_one (js_ret je_bl))
  jss_nil)
  (jss_cons (js_if (JW.t (jw_or (jt_not (jt_val (je_call c__law_whole (hr.mono (by decide)) (by rfl) (ja_cons (je_ix (je_var 0) je_int) ja_nil)))) (jw_or (jt_not (jt_val (je_call c__law_whole (hr.mono (by decide)) (by rfl) (ja_cons (je_ix (je_var 0) je_int) ja_nil)))) (jw_or1 (jt_cmp p2_lt (je_ix (je_var 0) je_int) je_int)))))
  (jss_one (js_ret je_bl))
  jss_nil)
  (jss_one (js_ret (je_and (je_cmp (p2_eq hr.units) (je_bin p2_mul (je_ix (je_var 0) je_int) (je_var 2)) (je_bin p2_mul (je_var 1) (je_ix (je_var 0) je_int))) (je_one (je_cmp (p2_eq hr.units) (je_call c__law_long_gcd (hr.mono (by decide)) (by rfl) (ja_cons (je_ix (je_var 0) je_int) (ja_cons (je_ix (je_var 0) je_int) ja_nil))) je_int)))))))
theorem sc__law_parts : FnScope ["cell", "count", "row", "k", "one"] ["cell", "count"] (defScope s__law_parts) := ⟨rfl, rfl, rfl, by decide +kernel, rfl, by decide +kernel, by decide +kernel⟩
theorem ok__law_parts (Fu : Fun K "_law_parts" "_law_parts" s__law_parts f fd) (m_int : mg "int" = none) (m_range : mg "range" = none) (c__law_digits : FnC P w K mg base cm 1 "_law_digits" F__law_digits) : FnOk P w K mg base CX0 2 f fd ["cell", "count"] (spP K cm F__law_parts) :=
  have scN := sc__law_parts
  fn_ok Fu scN len__law_parts w__law_parts k__law_parts fun cdv A outer s H E hr =>
  (jss_cons (js_asg 2 scN.nd (je_call c__law_digits (hr.mono (by decide)) (by rfl) (ja_cons (je_var 0) (ja_cons (je_bin p2_add (je_lst (ja_cons je_int ja_nil)) (je_lc [("k", 3)] rfl scN.nd (ji_range1 (by rfl) m_range (je_var 1)) (blk_by ["cell", "count", "row", "k", "one"] (defScope s__law_parts) (by decide +kernel)) (fun _ _ _ _ _ => (jg_name 3 scN.nd)) (by decide) (fun _ _ _ _ _ => jts_nil) (fun _ _ _ _ _ => je_int))) ja_nil))))
  (jss_cons (js_if (jt_cmp p2_lt (je_ix (je_var 2) je_int) je_int)
  (jss_one (js_ret je_non))
  jss_nil)
  (jss_cons (js_if (jt_cmp (p2_eq hr.units) (je_ix (je_var 2) je_int) je_int)
  (jss_one (js_ret (je_lc [("k", 3)] rfl scN.nd (ji_range1 (by rfl) m_range (je_var 1)) (blk_by ["cell", "count", "row", "k", "one"] (defScope s__law_parts) (by decide +kernel)) (fun _ _ _ _ _ => (jg_name 3 scN.nd)) (by decide) (fun _ _ _ _ _ => jts_nil) (fun _ _ _ _ _ => je_int))))
  jss_nil)
  (jss_cons (js_if (jt_cmp (p2_eq hr.units) (je_ix (je_var 2) je_int) je_int)
  (jss_one (js_ret (je_lc [("one", 4)] rfl scN.nd (ji_seq (je_slice (je_var 2) (jo_some je_int) jo_none)) (blk_by ["cell", "count", "row", "k", "one"] (defScope s__law_parts) (by decide +kernel)) (fun _ _ _ _ _ => (jg_name 4 scN.nd)) (by decide) (fun _ _ _ _ _ => jts_nil) (fun _ _ _ _ _ => (je_bin p2_add je_int (je_bin p2_mod (je_ty1 p1_int (by rfl) m_int (by decide +kernel) (je_var 4)) je_int))))))
  jss_nil)
  (jss_cons (js_if (jt_cmp (p2_eq hr.units) (je_ix (je_var 2) je_int) je_int)
  (jss_one (js_ret (je_lc [("one", 4)] rfl scN.nd (ji_seq (je_slice (je_var 2) (jo_some je_int) jo_none)) (blk_by ["cell", "count", "row", "k", "one"] (defScope s__law_parts) (by decide +kernel)) (fun _ _ _ _ _ => (jg_name 4 scN.nd)) (by decide) (fun _ _ _ _ _ => jts_nil) (fun _ _ _ _ _ => (je_bin p2_add je_int (je_var 4))))))
  jss_nil)
  (jss_one (js_ret (je_lc [("k", 3)] rfl scN.nd (ji_range1 (by rfl) m_range (je_var 1)) (blk_by ["cell", "count", "row", "k", "one"] (defScope s__law_parts) (by decide +kernel)) (fun _ _ _ _ _ => (jg_name 3 scN.nd)) (by decide) (fun _ _ _ _ _ => jts_nil) (fun _ _ _ _ _ => (je_bin p2_add je_int (je_bin p2_mul je_int (je_ty1 p1_int (by rfl) m_int (by decide +kernel) (je_cmp (p2_eq hr.units) (je_var 3) (je_bin p2_mod (je_ty1 p1_int (by rfl) m_int (by decide +kernel) (je_ix (je_var 2) je_int)) (je_var 1)))))))))))))))
theorem sc__law_wrong_bits : FnScope ["cell", "parts", "always", "row", "least", "bits", "wrong", "one", "k"] ["cell", "parts", "always"] (defScope s__law_wrong_bits) := ⟨rfl, rfl, rfl, by decide +kernel, rfl, by decide +kernel, by decide +kernel⟩
theorem ok__law_wrong_bits (Fu : Fun K "_law_wrong_bits" "_law_wrong_bits" s__law_wrong_bits f fd) (m_int : mg "int" = none) (m_len : mg "len" = none) (m_range : mg "range" = none) (m_sum : mg "sum" = none) (c__law_digits : FnC P w K mg base cm 1 "_law_digits" F__law_digits) : FnOk P w K mg base CX0 2 f fd ["cell", "parts", "always"] (spP K cm F__law_wrong_bits) :=
  have scN := sc__law_wrong_bits
  fn_ok Fu scN len__law_wrong_bits w__law_wrong_bits k__law_wrong_bits fun cdv A outer s H E hr =>
  (jss_cons (js_asg 3 scN.nd (je_call c__law_digits (hr.mono (by decide)) (by rfl) (ja_cons (je_var 0) (ja_cons (je_bin p2_add (je_lst (ja_cons je_int ja_nil)) (je_lc [("k", 8)] rfl scN.nd (ji_range1 (by rfl) m_range (je_b1 p1_len (by rfl) m_len (by decide +kernel) (je_var 1))) (blk_by ["cell", "parts", "always", "row", "least", "bits", "wrong", "one", "k"] (defScope s__law_wrong_bits) (by decide +kernel)) (fun _ _ _ _ _ => (jg_name 8 scN.nd)) (by decide) (fun _ _ _ _ _ => jts_nil) (fun _ _ _ _ _ => je_int))) ja_nil))))
  (jss_cons (js_asg 4 scN.nd (je_ix (je_lst (ja_cons je_int (ja_cons je_int (ja_cons je_int (ja_cons je_int (ja_cons je_int (ja_cons je_int (ja_cons je_int (ja_cons je_int (ja_cons je_int (ja_cons je_int ja_nil))))))))))) (je_bin p2_mod (je_ty1 p1_int (by rfl) m_int (by decide +kernel) (je_ix (je_var 3) je_int)) je_int)))
  (jss_cons (js_asg 5 scN.nd (je_lc [("one", 7)] rfl scN.nd (ji_seq (je_slice (je_var 3) (jo_some je_int) jo_none)) (blk_by ["cell", "parts", "always", "row", "least", "bits", "wrong", "one", "k"] (defScope s__law_wrong_bits) (by decide +kernel)) (fun _ _ _ _ _ => (jg_name 7 scN.nd)) (by decide) (fun _ _ _ _ _ => jts_nil) (fun _ _ _ _ _ => (je_ty1 p1_int (by rfl) m_int (by decide +kernel) (je_cmp p2_ge (je_var 7) (je_var 4))))))
  (jss_frz 5 (jss_cons (js_if (jt_cmp (p2_eq hr.units) (je_ix (je_var 3) je_int) je_int)
  (jss_one (js_asg 5 scN.nd (je_lc [("one", 7)] rfl scN.nd (ji_seq (je_slice (je_var 3) (jo_some je_int) jo_none)) (blk_by ["cell", "parts", "always", "row", "least", "bits", "wrong", "one", "k"] (defScope s__law_wrong_bits) (by decide +kernel)) (fun _ _ _ _ _ => (jg_name 7 scN.nd)) (by decide) (fun _ _ _ _ _ => jts_nil) (fun _ _ _ _ _ => je_int))))
  jss_nil)
  (jss_cons (js_asg 6 scN.nd (je_b1 (p1_sum rfl) (by rfl) m_sum (by decide +kernel) (je_lc [("k", 8)] rfl scN.nd (ji_range1 (by rfl) m_range (je_b1 p1_len (by rfl) m_len (by decide +kernel) (je_var 1))) (blk_by ["cell", "parts", "always", "row", "least", "bits", "wrong", "one", "k"] (defScope s__law_wrong_bits) (by decide +kernel)) (fun _ _ _ _ _ => (jg_name 8 scN.nd)) (by decide) (fun _ _ _ _ _ => (jts_one (jt_cmp (p2_eq hr.units) (je_ix (je_var 5) (je_var 8)) je_int))) (fun _ _ _ _ _ => (je_ix (je_var 1) (je_var 8))))))
  (jss_cons (js_if (JW.t (jw_and (jt_cmp p2_gt (je_bin p2_mul je_int (je_var 6)) (je_b1 (p1_sum rfl) (by rfl) m_sum (by decide +kernel) (je_var 1))) (jw_and1 (JW.t (jw_or (jt_val (je_var 2)) (jw_or1 (jt_cmp p2_lt (je_ix (je_var 3) je_int) je_int)))))))
  (jss_one (js_asg 5 scN.nd (je_lc [("one", 7)] rfl scN.nd (ji_seq (je_var 5)) (blk_by ["cell", "parts", "always", "row", "least", "bits", "wrong", "one", "k"] (defScope s__law_wrong_bits) (by decide +kernel)) (fun _ _ _ _ _ => (jg_name 7 scN.nd)) (by decide) (fun _ _ _ _ _ => jts_nil) (fun _ _ _ _ _ => (je_bin p2_sub je_int (je_var 7))))))
  jss_nil)
  (jss_frz 5 (jss_one (js_ret (je_var 5)))))))))))
theorem sc__law_spread : FnScope ["wrong", "total", "many", "table", "k", "last", "fine", "worse", "one", "j"] ["wrong", "total", "many"] (defScope s__law_spread) := ⟨rfl, rfl, rfl, by decide +kernel, rfl, by decide +kernel, by decide +kernel⟩
theorem ok__law_spread (Fu : Fun K "_law_spread" "_law_spread" s__law_spread f fd) (m_range : mg "range" = none)  : FnOk P w K mg base CX0 1 f fd ["wrong", "total", "many"] (spP K cm F__law_spread) :=
  have scN := sc__law_spread
  fn_ok Fu scN len__law_spread w__law_spread k__law_spread fun cdv A outer s H E hr =>
  (jss_cons (js_asg 3 scN.nd (je_lst (ja_cons (je_lst (ja_cons je_int ja_nil)) ja_nil)))
  (jss_cons (js_for PassesOwn.never rfl (ji_range1 (by rfl) m_range (je_var 2)) (jg_name 4 scN.nd)
  (jss_cons (js_asg 5 scN.nd (je_ix (je_var 3) (je_neg je_int)))
  (jss_cons (js_asg 6 scN.nd (je_bin p2_add (je_lc [("one", 8)] rfl scN.nd (ji_seq (je_var 5)) (blk_by ["wrong", "total", "many", "table", "k", "last", "fine", "worse", "one", "j"] (defScope s__law_spread) (by decide +kernel)) (fun _ _ _ _ _ => (jg_name 8 scN.nd)) (by decide) (fun _ _ _ _ _ => jts_nil) (fun _ _ _ _ _ => (je_bin p2_mul (je_bin p2_sub (je_var 1) (je_var 0)) (je_var 8)))) (je_lst (ja_cons je_int ja_nil))))
  (jss_frz 6 (jss_cons (js_asg 7 scN.nd (je_bin p2_add (je_lst (ja_cons je_int ja_nil)) (je_lc [("one", 8)] rfl scN.nd (ji_seq (je_var 5)) (blk_by ["wrong", "total", "many", "table", "k", "last", "fine", "worse", "one", "j"] (defScope s__law_spread) (by decide +kernel)) (fun _ _ _ _ _ => (jg_name 8 scN.nd)) (by decide) (fun _ _ _ _ _ => jts_nil) (fun _ _ _ _ _ => (je_bin p2_mul (je_var 0) (je_var 8))))))
  (jss_frz 7 (jss_one (js_app 3 (je_lc [("j", 9)] rfl scN.nd (ji_range1 (by rfl) m_range (je_bin p2_add (je_var 4) je_int)) (blk_by ["wrong", "total", "many", "table", "k", "last", "fine", "worse", "one", "j"] (defScope s__law_spread) (by decide +kernel)) (fun _ _ _ _ _ => (jg_name 9 scN.nd)) (by decide) (fun _ _ _ _ _ => jts_nil) (fun _ _ _ _ _ => (je_bin p2_add (je_ix (je_var 6) (je_var 9)) (je_ix (je_var 7) (je_var 9)))))))))))))
  (jss_frz 3 (jss_one (js_ret (je_var 3))))))
theorem sc__law_spreads : FnScope ["faults", "parts", "many", "total", "bits", "k"] ["faults", "parts", "many"] (defScope s__law_spreads) := ⟨rfl, rfl, rfl, by decide +kernel, rfl, by decide +kernel, by decide +kernel⟩
theorem ok__law_spreads (Fu : Fun K "_law_spreads" "_law_spreads" s__law_spreads f fd) (m_len : mg "len" = none) (m_range : mg "range" = none) (m_sum : mg "sum" = none) (c__law_spread : FnC P w K mg base cm 1 "_law_spread" F__law_spread) : FnOk P w K mg base CX0 2 f fd ["faults", "parts", "many"] (spP K cm F__law_spreads) :=
  have scN := sc__law_spreads
  fn_ok Fu scN len__law_spreads w__law_spreads k__law_spreads fun cdv A outer s H E hr =>
  (jss_cons (js_asg 3 scN.nd (je_b1 (p1_sum rfl) (by rfl) m_sum (by decide +kernel) (je_var 1)))
  (jss_one (js_ret (je_lc [("bits", 4)] rfl scN.nd (ji_seq (je_var 0)) (blk_by ["faults", "parts", "many", "total", "bits", "k"] (defScope s__law_spreads) (by decide +kernel)) (fun _ _ _ _ _ => (jg_name 4 scN.nd)) (by decide) (fun _ _ _ _ _ => jts_nil) (fun _ _ _ _ _ => (je_call c__law_spread (hr.mono (by decide)) (by rfl) (ja_cons (je_b1 (p1_sum rfl) (by rfl) m_sum (by decide +kernel) (je_lc [("k", 5)] rfl scN.nd (ji_range1 (by rfl) m_range (je_b1 p1_len (by rfl) m_len (by decide +kernel) (je_var 1))) (blk_by ["faults", "parts", "many", "total", "bits", "k"] (relS _ (defScope s__law_spreads)) (by decide +kernel)) (fun _ _ _ _ _ => (jg_name 5 scN.nd)) (by decide) (fun _ _ _ _ _ => (jts_one (jt_cmp (p2_eq hr.units) (je_ix (je_var 4) (je_var 5)) je_int))) (fun _ _ _ _ _ => (je_ix (je_var 1) (je_var 5))))) (ja_cons (je_var 3) (ja_cons (je_var 2) ja_nil)))))))))
theorem sc__law_lengths : FnScope ["spreads", "total", "many", "entries", "count", "whole", "ways", "length", "table"] ["spreads", "total", "many"] (defScope s__law_lengths) := ⟨rfl, rfl, rfl, by decide +kernel, rfl, by decide +kernel, by decide +kernel⟩
theorem ok__law_lengths (Fu : Fun K "_law_lengths" "_law_lengths" s__law_lengths f fd) (m_range : mg "range" = none) (m_sum : mg "sum" = none) (c__law_power : FnC P w K mg base cm 1 "_law_power" F__law_power) : FnOk P w K mg base CX0 2 f fd ["spreads", "total", "many"] (spP K cm F__law_lengths) :=
  have scN := sc__law_lengths
  fn_ok Fu scN len__law_lengths w__law_lengths k__law_lengths fun cdv A outer s H E hr =>
  (jss_cons (js_asg 3 scN.nd (je_lst ja_nil))
  (jss_cons (js_for PassesOwn.never rfl (ji_range3 (by rfl) m_range je_int (je_bin p2_add (je_var 2) je_int) je_int) (jg_name 4 scN.nd)
  (jss_cons (js_asg 5 scN.nd (je_call c__law_power (hr.mono (by decide)) (by rfl) (ja_cons (je_var 1) (ja_cons (je_var 4) ja_nil))))
  (jss_cons (js_asg 6 scN.nd je_int)
  (jss_cons (js_asg 7 scN.nd je_int)
  (jss_cons (js_for PassesOwn.never rfl (ji_seq (je_var 0)) (jg_name 8 scN.nd)
  (jss_cons (js_asg 6 scN.nd (je_bin p2_add (je_var 6) (je_b1 (p1_sum rfl) (by rfl) m_sum (by decide +kernel) (je_slice (je_ix (je_var 8) (je_var 4)) (jo_some (je_bin p2_div (je_bin p2_add (je_var 4) je_int) je_int)) jo_none))))
  (jss_cons (js_if (jt_cmp p2_ge (je_var 6) (je_var 5))
  (jss_one js_break)
  jss_nil)
  (jss_one (js_asg 7 scN.nd (je_bin p2_add (je_var 7) je_int))))))
  (jss_one (js_app 3 (je_lst (ja_cons (je_var 7) (ja_cons (je_var 4) ja_nil))))))))))
  (jss_frz 3 (jss_one (js_ret (je_var 3))))))
theorem sc__law_path : FnScope ["faults", "total", "spreads", "many", "inputs", "needs", "ways", "chosen", "k", "draws", "both", "best", "least", "row", "bits", "here", "i", "bit"] ["faults", "total", "spreads", "many"] (defScope s__law_path) := ⟨rfl, rfl, rfl, by decide +kernel, rfl, by decide +kernel, by decide +kernel⟩
theorem ok__law_path (Fu : Fun K "_law_path" "_law_path" s__law_path f fd) (m_len : mg "len" = none) (m_max : mg "max" = none) (m_range : mg "range" = none) (m_sum : mg "sum" = none) (c__law_power : FnC P w K mg base cm 1 "_law_power" F__law_power) : FnOk P w K mg base CX0 2 f fd ["faults", "total", "spreads", "many"] (spP K cm F__law_path) :=
  have scN := sc__law_path
  fn_ok Fu scN len__law_path w__law_path k__law_path fun cdv A outer s H E hr =>
  (jss_cons (js_asg 4 scN.nd (je_b1 p1_len (by rfl) m_len (by decide +kernel) (je_var 0)))
  (jss_cons (js_asg 5 scN.nd (je_lc [("bits", 14)] rfl scN.nd (ji_seq (je_var 0)) (blk_by ["faults", "total", "spreads", "many", "inputs", "needs", "ways", "chosen", "k", "draws", "both", "best", "least", "row", "bits", "here", "i", "bit"] (defScope s__law_path) (by decide +kernel)) (fun _ _ _ _ _ => (jg_name 14 scN.nd)) (by decide) (fun _ _ _ _ _ => jts_nil) (fun _ _ _ _ _ => (je_bin p2_div (je_bin p2_add (je_var 3) je_int) je_int))))
  (jss_frz 5 (jss_cons (js_asg 6 scN.nd (je_lst (ja_cons (je_b1 (p1_sum rfl) (by rfl) m_sum (by decide +kernel) (je_lc [("i", 16)] rfl scN.nd (ji_range1 (by rfl) m_range (je_var 4)) (blk_by ["faults", "total", "spreads", "many", "inputs", "needs", "ways", "chosen", "k", "draws", "both", "best", "least", "row", "bits", "here", "i", "bit"] (defScope s__law_path) (by decide +kernel)) (fun _ _ _ _ _ => (jg_name 16 scN.nd)) (by decide) (fun _ _ _ _ _ => jts_nil) (fun _ _ _ _ _ => (je_b1 (p1_sum rfl) (by rfl) m_sum (by decide +kernel) (je_slice (je_ix (je_ix (je_var 2) (je_var 16)) (je_var 3)) (jo_some (je_ix (je_var 5) (je_var 16))) jo_none))))) ja_nil)))
  (jss_cons (js_if (jt_cmp p2_ge (je_ix (je_var 6) je_int) (je_call c__law_power (hr.mono (by decide)) (by rfl) (ja_cons (je_var 1) (ja_cons (je_var 3) ja_nil))))
  (jss_one (js_ret je_non))
  jss_nil)
  (jss_cons (js_asg 7 scN.nd (je_lst ja_nil))
  (jss_cons (js_for PassesOwn.never rfl (ji_range1 (by rfl) m_range (je_var 3)) (jg_name 8 scN.nd)
  (jss_cons (js_asg 9 scN.nd (je_bin p2_sub (je_bin p2_sub (je_var 3) (je_var 8)) je_int))
  (jss_cons (js_asg 10 scN.nd (je_lc [("i", 16)] rfl scN.nd (ji_range1 (by rfl) m_range (je_var 4)) (blk_by ["faults", "total", "spreads", "many", "inputs", "needs", "ways", "chosen", "k", "draws", "both", "best", "least", "row", "bits", "here", "i", "bit"] (defScope s__law_path) (by decide +kernel)) (fun _ _ _ _ _ => (jg_name 16 scN.nd)) (by decide) (fun _ _ _ _ _ => jts_nil) (fun _ _ _ _ _ => (je_lc [("bit", 17)] rfl scN.nd (ji_range1 (by rfl) m_range je_int) (blk_by ["faults", "total", "spreads", "many", "inputs", "needs", "ways", "chosen", "k", "draws", "both", "best", "least", "row", "bits", "here", "i", "bit"] (relS _ (defScope s__law_path)) (by decide +kernel)) (fun _ _ _ _ _ => (jg_name 17 scN.nd)) (by decide) (fun _ _ _ _ _ => jts_nil) (fun _ _ _ _ _ => (je_b1 (p1_sum rfl) (by rfl) m_sum (by decide +kernel) (je_slice (je_ix (je_ix (je_var 2) (je_var 16)) (je_var 9)) (jo_some (je_b2 (p2c_max rfl) (by rfl) m_max (by decide +kernel) (je_bin p2_sub (je_ix (je_var 5) (je_var 16)) (je_var 17)) je_int)) jo_none)))))))
  (jss_frz 10 (jss_cons (js_asg 11 scN.nd (je_neg je_int))
  (jss_cons (js_asg 12 scN.nd je_int)
  (jss_cons (js_for PassesOwn.never rfl (ji_range1 (by rfl) m_range (je_b1 p1_len (by rfl) m_len (by decide +kernel) (je_ix (je_var 0) je_int))) (jg_name 13 scN.nd)
  (jss_cons (js_asg 15 scN.nd (je_b1 (p1_sum rfl) (by rfl) m_sum (by decide +kernel) (je_lc [("i", 16)] rfl scN.nd (ji_range1 (by rfl) m_range (je_var 4)) (blk_by ["faults", "total", "spreads", "many", "inputs", "needs", "ways", "chosen", "k", "draws", "both", "best", "least", "row", "bits", "here", "i", "bit"] (defScope s__law_path) (by decide +kernel)) (fun _ _ _ _ _ => (jg_name 16 scN.nd)) (by decide) (fun _ _ _ _ _ => jts_nil) (fun _ _ _ _ _ => (je_ix (je_ix (je_var 10) (je_var 16)) (je_ix (je_ix (je_var 0) (je_var 16)) (je_var 13)))))))
  (jss_one (js_if (JW.t (jw_or (jt_cmp p2_lt (je_var 11) je_int) (jw_or1 (jt_cmp p2_lt (je_var 15) (je_var 12)))))
  (jss_cons (js_asg 11 scN.nd (je_var 13))
  (jss_one (js_asg 12 scN.nd (je_var 15))))
  jss_nil))))
  (jss_cons (js_app 7 (je_var 11))
  (jss_cons (js_app 6 (je_var 12))
  (jss_one (js_asg 5 scN.nd (je_lc [("i", 16)] rfl scN.nd (ji_range1 (by rfl) m_range (je_var 4)) (blk_by ["faults", "total", "spreads", "many", "inputs", "needs", "ways", "chosen", "k", "draws", "both", "best", "least", "row", "bits", "here", "i", "bit"] (defScope s__law_path) (by decide +kernel)) (fun _ _ _ _ _ => (jg_name 16 scN.nd)) (by decide) (fun _ _ _ _ _ => jts_nil) (fun _ _ _ _ _ => (je_bin p2_sub (je_ix (je_var 5) (je_var 16)) (je_ix (je_ix (je_var 0) (je_var 16)) (je_var 11))))))))))))))))
  (jss_frz 6 (jss_frz 7 (jss_one (js_ret (je_lst (ja_cons (je_var 7) (ja_cons (je_var 6) ja_nil))))))))))))))
theorem sc__law_asked : FnScope ["faults", "heavy", "many", "style", "handed", "passed", "told", "state", "e", "bits"] ["faults", "heavy", "many", "style"] (defScope s__law_asked) := ⟨rfl, rfl, rfl, by decide +kernel, rfl, by decide +kernel, by decide +kernel⟩
theorem ok__law_asked (Fu : Fun K "_law_asked" "_law_asked" s__law_asked f fd) (m_BadAdvice : mg "BadAdvice" = some (.ref (cm 15))) (m_BadBits : mg "BadBits" = some (.ref (cm 10))) (m_BadBlock : mg "BadBlock" = some (.ref (cm 14))) (m_BadGate : mg "BadGate" = some (.ref (cm 11))) (m_BadLayer : mg "BadLayer" = some (.ref (cm 13))) (m_BadLine : mg "BadLine" = some (.ref (cm 17))) (m_BadNode : mg "BadNode" = some (.ref (cm 12))) (m_BadOrder : mg "BadOrder" = some (.ref (cm 9))) (m_BadPlaces : mg "BadPlaces" = some (.ref (cm 7))) (m_BadRow : mg "BadRow" = some (.ref (cm 4))) (m_BadRowText : mg "BadRowText" = some (.ref (cm 3))) (m_BadShareText : mg "BadShareText" = some (.ref (cm 2))) (m_BadWeight : mg "BadWeight" = some (.ref (cm 5))) (m_ChanceError : mg "ChanceError" = some (.ref (cm 0))) (m_EmptySource : mg "EmptySource" = some (.ref (cm 6))) (m_NotEnoughRows : mg "NotEnoughRows" = some (.ref (cm 16))) (m_NothingToRedo : mg "NothingToRedo" = some (.ref (cm 20))) (m_NothingToUndo : mg "NothingToUndo" = some (.ref (cm 19))) (m_UnknownName : mg "UnknownName" = some (.ref (cm 18))) (m_WidthsDiffer : mg "WidthsDiffer" = some (.ref (cm 8))) (m_ZeroBottom : mg "ZeroBottom" = some (.ref (cm 1))) (m_ValueError : mg "ValueError" = none) (m_int : mg "int" = none) (m_isinstance : mg "isinstance" = none) (m_list : mg "list" = none) (m_tuple : mg "tuple" = none) (ex_NotEnoughRows_ChanceError : PySem.W.exmOne K (.ref (cm 16)) (.ref (cm 0)) = some true) (xd_found_rows : FnXD P w K mg base cm 3 "found_rows" [.non] F_found_rows) (xk_found_rows : FnXK P w K mg base cm 3 "found_rows" 2 ["weights"] F_found_rows) (ek_NotEnoughRows : ExcK K (cm 16)) (no_NotEnoughRows_many : NoAttr K (cm 16) "many") (h__law_whole : FnHC P w K mg base cm 1 "_law_whole" F__law_whole) (ko_NotEnoughRows_ValueError : PySem.W.kitOne K (.ref (cm 16)) (.type "ValueError") = some true) (ko_NotEnoughRows_NotEnoughRows : PySem.W.kitOne K (.ref (cm 16)) (.ref (cm 16)) = some true) (ka_NotEnoughRows_15_10_14_11_13_17_12_9_7_4 : PySem.W.kitAny K (.ref (cm 16)) [(.ref (cm 15)), (.ref (cm 10)), (.ref (cm 14)), (.ref (cm 11)), (.ref (cm 13)), (.ref (cm 17)), (.ref (cm 12)), (.ref (cm 9)), (.ref (cm 7)), (.ref (cm 4))] = some false) (ka_NotEnoughRows_3_2_5_6_20_19_18 : PySem.W.kitAny K (.ref (cm 16)) [(.ref (cm 3)), (.ref (cm 2)), (.ref (cm 5)), (.ref (cm 6)), (.ref (cm 20)), (.ref (cm 19)), (.ref (cm 18))] = some false) (ka_NotEnoughRows_8_1 : PySem.W.kitAny K (.ref (cm 16)) [(.ref (cm 8)), (.ref (cm 1))] = some false) : FnOk P w K mg base CX0 4 f fd ["faults", "heavy", "many", "style"] (spP K cm F__law_asked) :=
  have scN := sc__law_asked
  fn_ok Fu scN len__law_asked w__law_asked k__law_asked fun cdv A outer s H E hr =>
  (jss_cons (js_asgLc 4 [("bits", 9)] rfl scN.nd rfl rfl (sw_true rfl rfl rfl (by decide +kernel)) (ji_seq (je_var 0)) (blk_by ["faults", "heavy", "many", "style", "handed", "passed", "told", "state", "e", "bits"] (defScope s__law_asked) (by decide +kernel)) (fun _ _ _ _ _ => (jg_name 9 scN.nd)) (by decide) (fun _ _ _ _ _ => jts_nil) (fun _ _ _ _ _ => (je_ty1 p1_list (by rfl) m_list (by decide +kernel) (je_var 9))))
  (jss_frz 4 (jss_cons (js_if (jt_cmp (p2_eq hr.units) (je_bin p2_mod (je_ty1 p1_int (by rfl) m_int (by decide +kernel) (je_var 3)) je_int) je_int)
  (jss_one (js_asg 4 scN.nd (je_ty1 p1_tuple (by rfl) m_tuple (by decide +kernel) (je_lc [("bits", 9)] rfl scN.nd (ji_seq (je_var 0)) (blk_by ["faults", "heavy", "many", "style", "handed", "passed", "told", "state", "e", "bits"] (defScope s__law_asked) (by decide +kernel)) (fun _ _ _ _ _ => (jg_name 9 scN.nd)) (by decide) (fun _ _ _ _ _ => jts_nil) (fun _ _ _ _ _ => (je_ty1 p1_tuple (by rfl) m_tuple (by decide +kernel) (je_var 9)))))))
  jss_nil)
  (jss_cons (js_asg 5 scN.nd (je_var 1))
  (jss_cons (js_if (JW.t (jw_and (jt_notN (je_var 1)) (jw_and1 (jt_cmp p2_gt (je_var 3) je_int))))
  (jss_one (js_asg 5 scN.nd (je_ty1 p1_tuple (by rfl) m_tuple (by decide +kernel) (je_var 1))))
  jss_nil)
  (jss_cons (js_if (JW.t (jw_and (jt_notN (je_var 1)) (jw_and1 (jt_cmp p2_lt (je_var 3) je_int))))
  (jss_one (js_asg 5 scN.nd (je_ty1 p1_list (by rfl) m_list (by decide +kernel) (je_var 1))))
  jss_nil)
  (jss_cons (js_asg 6 scN.nd je_non)
  (jss_cons (js_asg 7 scN.nd je_int)
  (jss_cons (js_try 8 [16] rfl rfl scN.nd ⟨by rfl, by decide, .inl m_ChanceError⟩ (fun c hc => by obtain rfl := List.mem_singleton.mp hc; exact ex_NotEnoughRows_ChanceError) (fun pn xe hp =>
  (jss_one (js_if (JW.t (jw_and (jt_isN (je_var 1)) (jw_and1 (jt_cmp p2_gt (je_var 3) je_int))))
  (jss_one (js_asgX 6 scN.nd (jx_callD xd_found_rows (hr.mono (by decide)) (by rfl) (ja_cons (je_var 4) (ja_cons (je_var 2) ja_nil)))))
  (jss_frz 5 (jss_one (js_asgX 6 scN.nd (jx_callK xk_found_rows (hr.mono (by decide)) (by rfl) (ja_cons (je_var 4) (ja_cons (je_var 2) ja_nil)) (jk_cons (je_var 5) jk_nil)))))))) (fun c hc a d oe pn hz hd => by
  obtain rfl := List.mem_singleton.mp hc
  have hr := L2H.roomH_mark hr (some (.ref a))
  exact (jss_cons (js_asg 7 scN.nd je_int)
  (jss_cons (js_if (JW.t (jw_and (jt_val (je_xis (cm := cm) (c := 16) ek_NotEnoughRows hz hd (jcl_own (by rfl) m_NotEnoughRows) ko_NotEnoughRows_NotEnoughRows (by rfl) m_isinstance (je_var 8))) (jw_and (jt_val (je_xis (cm := cm) (c := 16) ek_NotEnoughRows hz hd (jcl_ty (by rfl) m_ValueError (by decide +kernel)) ko_NotEnoughRows_ValueError (by rfl) m_isinstance (je_var 8))) (jw_and (jt_val (je_callH h__law_whole (hr.mono (by decide)) (hot_suite hz hd) (by rfl) (ja_cons (je_xf (cm := cm) (c := 16) ek_NotEnoughRows no_NotEnoughRows_many hz hd (je_var 8)) ja_nil))) (jw_and1 (jt_cmp (p2_eq hr.units) (je_xf (cm := cm) (c := 16) ek_NotEnoughRows no_NotEnoughRows_many hz hd (je_var 8)) (je_var 2)))))))
  (jss_one (js_asg 7 scN.nd je_int))
  jss_nil)
  (jss_cons (js_if (jt_val (je_xisT (cm := cm) (c := 16) ek_NotEnoughRows hz hd (jcls_cons (jcl_own (by rfl) m_BadAdvice) (jcls_cons (jcl_own (by rfl) m_BadBits) (jcls_cons (jcl_own (by rfl) m_BadBlock) (jcls_cons (jcl_own (by rfl) m_BadGate) (jcls_cons (jcl_own (by rfl) m_BadLayer) (jcls_cons (jcl_own (by rfl) m_BadLine) (jcls_cons (jcl_own (by rfl) m_BadNode) (jcls_cons (jcl_own (by rfl) m_BadOrder) (jcls_cons (jcl_own (by rfl) m_BadPlaces) (jcls_cons (jcl_own (by rfl) m_BadRow) jcls_nil)))))))))) ka_NotEnoughRows_15_10_14_11_13_17_12_9_7_4 (by rfl) m_isinstance (je_var 8)))
  (jss_one (js_asg 7 scN.nd je_int))
  jss_nil)
  (jss_cons (js_if (jt_val (je_xisT (cm := cm) (c := 16) ek_NotEnoughRows hz hd (jcls_cons (jcl_own (by rfl) m_BadRowText) (jcls_cons (jcl_own (by rfl) m_BadShareText) (jcls_cons (jcl_own (by rfl) m_BadWeight) (jcls_cons (jcl_own (by rfl) m_EmptySource) (jcls_cons (jcl_own (by rfl) m_NothingToRedo) (jcls_cons (jcl_own (by rfl) m_NothingToUndo) (jcls_cons (jcl_own (by rfl) m_UnknownName) jcls_nil))))))) ka_NotEnoughRows_3_2_5_6_20_19_18 (by rfl) m_isinstance (je_var 8)))
  (jss_one (js_asg 7 scN.nd je_int))
  jss_nil)
  (jss_one (js_if (jt_val (je_xisT (cm := cm) (c := 16) ek_NotEnoughRows hz hd (jcls_cons (jcl_own (by rfl) m_WidthsDiffer) (jcls_cons (jcl_own (by rfl) m_ZeroBottom) jcls_nil)) ka_NotEnoughRows_8_1 (by rfl) m_isinstance (je_var 8)))
  (jss_one (js_asg 7 scN.nd je_int))
  jss_nil))))))))
  (jss_cons (js_if (JW.t (jw_or (jt_cmp (p2_ne hr.units) (je_lc [("bits", 9)] rfl scN.nd (ji_seq (je_var 4)) (blk_by ["faults", "heavy", "many", "style", "handed", "passed", "told", "state", "e", "bits"] (defScope s__law_asked) (by decide +kernel)) (fun _ _ _ _ _ => (jg_name 9 scN.nd)) (by decide) (fun _ _ _ _ _ => jts_nil) (fun _ _ _ _ _ => (je_ty1 p1_list (by rfl) m_list (by decide +kernel) (je_var 9)))) (je_var 0)) (jw_or1 (JW.t (jw_and (jt_notN (je_var 1)) (jw_and1 (jt_cmp (p2_ne hr.units) (je_ty1 p1_list (by rfl) m_list (by decide +kernel) (je_var 5)) (je_var 1))))))))
  (jss_one (js_asg 7 scN.nd je_int))
  jss_nil)
  (jss_one (js_ret (je_lst (ja_cons (je_var 7) (ja_cons (je_var 6) ja_nil)))))))))))))))
theorem sc__law_right : FnScope ["told", "faults", "total", "many", "due", "whole", "k", "bits", "handed", "row"] ["told", "faults", "total", "many", "due"] (defScope s__law_right) := ⟨rfl, rfl, rfl, by decide +kernel, rfl, by decide +kernel, by decide +kernel⟩
theorem ok__law_right (Fu : Fun K "_law_right" "_law_right" s__law_right f fd) (m_Found : mg "Found" = some (.ref (cm 21))) (m_isinstance : mg "isinstance" = none) (m_len : mg "len" = none) (m_list : mg "list" = none) (m_range : mg "range" = none) (m_sum : mg "sum" = none) (m_tuple : mg "tuple" = none) (ik_Found : InsK K (cm 21)) (no_Found_dangers : NoAttr K (cm 21) "dangers") (no_Found_rows : NoAttr K (cm 21) "rows") (ko_Found_Found : PySem.W.kitOne K (.ref (cm 21)) (.ref (cm 21)) = some true) (ty_Found : ∀ t ∈ (["NoneType", "bool", "int", "str", "list", "tuple"] : List String), PySem.W.kitOne K (.type t) (.ref (cm 21)) = some false) (c__law_power : FnC P w K mg base cm 1 "_law_power" F__law_power) (c__law_exactly : FnC P w K mg base cm 2 "_law_exactly" F__law_exactly) (c__law_whole : FnC P w K mg base cm 1 "_law_whole" F__law_whole) (c_first_fault : FnC P w K mg base cm 1 "first_fault" F_first_fault) : FnOk P w K mg base CX0 3 f fd ["told", "faults", "total", "many", "due"] (spP K cm F__law_right) :=
  have scN := sc__law_right
  fn_ok Fu scN len__law_right w__law_right k__law_right fun cdv A outer s H E hr =>
  (jss_cons (js_if (JW.t (jw_or (jt_not (jt_val (je_isC (cs := [21]) (c := 21) (fun c hc => by obtain rfl := List.mem_singleton.mp hc; exact ⟨ik_Found, ko_Found_Found⟩) ty_Found (by rfl) m_isinstance (by rfl) m_Found (je_var 0)))) (jw_or (jt_not (jt_val (je_isi (T := "tuple") (by decide +kernel) (by rfl) m_isinstance (by rfl) m_tuple (by decide +kernel) (je_fld (cs := [21]) (fun c hc => by simp only [List.mem_cons, List.not_mem_nil, or_false] at hc; rcases hc with rfl <;> first | exact ⟨ik_Found.cls, no_Found_rows⟩) (je_var 0))))) (jw_or1 (jt_not (jt_val (je_isi (T := "tuple") (by decide +kernel) (by rfl) m_isinstance (by rfl) m_tuple (by decide +kernel) (je_fld (cs := [21]) (fun c hc => by simp only [List.mem_cons, List.not_mem_nil, or_false] at hc; rcases hc with rfl <;> first | exact ⟨ik_Found.cls, no_Found_dangers⟩) (je_var 0)))))))))
  (jss_one (js_ret je_bl))
  jss_nil)
  (jss_cons (js_if (JW.t (jw_or (jt_cmp (p2_ne hr.units) (je_b1 p1_len (by rfl) m_len (by decide +kernel) (je_fld (cs := [21]) (fun c hc => by simp only [List.mem_cons, List.not_mem_nil, or_false] at hc; rcases hc with rfl <;> first | exact ⟨ik_Found.cls, no_Found_rows⟩) (je_var 0))) (je_var 3)) (jw_or1 (jt_cmp (p2_ne hr.units) (je_b1 p1_len (by rfl) m_len (by decide +kernel) (je_fld (cs := [21]) (fun c hc => by simp only [List.mem_cons, List.not_mem_nil, or_false] at hc; rcases hc with rfl <;> first | exact ⟨ik_Found.cls, no_Found_dangers⟩) (je_var 0))) (je_bin p2_add (je_var 3) je_int)))))
  (jss_one (js_ret je_bl))
  jss_nil)
  (jss_cons (js_asg 5 scN.nd (je_call c__law_power (hr.mono (by decide)) (by rfl) (ja_cons (je_var 2) (ja_cons (je_var 3) ja_nil))))
  (jss_cons (js_for PassesOwn.never rfl (ji_range1 (by rfl) m_range (je_bin p2_add (je_var 3) je_int)) (jg_name 6 scN.nd)
  (jss_cons (js_if (jt_not (jt_val (je_call c__law_exactly (hr.mono (by decide)) (by rfl) (ja_cons (je_ix (je_fld (cs := [21]) (fun c hc => by simp only [List.mem_cons, List.not_mem_nil, or_false] at hc; rcases hc with rfl <;> first | exact ⟨ik_Found.cls, no_Found_dangers⟩) (je_var 0)) (je_var 6)) (ja_cons (je_ix (je_ix (je_var 4) je_int) (je_var 6)) (ja_cons (je_var 5) ja_nil))))))
  (jss_one (js_ret je_bl))
  jss_nil)
  (jss_cons (js_asg 5 scN.nd (je_bin p2_div (je_var 5) (je_var 2)))
  (jss_one (js_if (JW.t (jw_and (jt_cmp p2_gt (je_var 6) je_int) (jw_and1 (jt_cmp p2_gt (je_bin p2_mul (je_ix (je_ix (je_fld (cs := [21]) (fun c hc => by simp only [List.mem_cons, List.not_mem_nil, or_false] at hc; rcases hc with rfl <;> first | exact ⟨ik_Found.cls, no_Found_dangers⟩) (je_var 0)) (je_var 6)) je_int) (je_ix (je_ix (je_fld (cs := [21]) (fun c hc => by simp only [List.mem_cons, List.not_mem_nil, or_false] at hc; rcases hc with rfl <;> first | exact ⟨ik_Found.cls, no_Found_dangers⟩) (je_var 0)) (je_bin p2_sub (je_var 6) je_int)) je_int)) (je_bin p2_mul (je_ix (je_ix (je_fld (cs := [21]) (fun c hc => by simp only [List.mem_cons, List.not_mem_nil, or_false] at hc; rcases hc with rfl <;> first | exact ⟨ik_Found.cls, no_Found_dangers⟩) (je_var 0)) (je_bin p2_sub (je_var 6) je_int)) je_int) (je_ix (je_ix (je_fld (cs := [21]) (fun c hc => by simp only [List.mem_cons, List.not_mem_nil, or_false] at hc; rcases hc with rfl <;> first | exact ⟨ik_Found.cls, no_Found_dangers⟩) (je_var 0)) (je_var 6)) je_int))))))
  (jss_one (js_ret je_bl))
  jss_nil)))))
  (jss_cons (js_for PassesOwn.never rfl (ji_range1 (by rfl) m_range (je_var 3)) (jg_name 6 scN.nd)
  (jss_one (js_if (JW.t (jw_or (jt_not (jt_val (je_call c__law_whole (hr.mono (by decide)) (by rfl) (ja_cons (je_ix (je_fld (cs := [21]) (fun c hc => by simp only [List.mem_cons, List.not_mem_nil, or_false] at hc; rcases hc with rfl <;> first | exact ⟨ik_Found.cls, no_Found_rows⟩) (je_var 0)) (je_var 6)) ja_nil)))) (jw_or1 (jt_cmp (p2_ne hr.units) (je_ix (je_fld (cs := [21]) (fun c hc => by simp only [List.mem_cons, List.not_mem_nil, or_false] at hc; rcases hc with rfl <;> first | exact ⟨ik_Found.cls, no_Found_rows⟩) (je_var 0)) (je_var 6)) (je_ix (je_ix (je_var 4) je_int) (je_var 6))))))
  (jss_one (js_ret je_bl))
  jss_nil)))
  (jss_cons (js_for PassesOwn.never rfl (ji_seq (je_var 1)) (jg_name 7 scN.nd)
  (jss_one (js_if (jt_cmp p2_gt (je_bin p2_mul je_int (je_b1 (p1_sum rfl) (by rfl) m_sum (by decide +kernel) (je_lc [("row", 9)] rfl scN.nd (ji_seq (je_ix (je_var 4) je_int)) (blk_by ["told", "faults", "total", "many", "due", "whole", "k", "bits", "handed", "row"] (defScope s__law_right) (by decide +kernel)) (fun _ _ _ _ _ => (jg_name 9 scN.nd)) (by decide) (fun _ _ _ _ _ => jts_nil) (fun _ _ _ _ _ => (je_ix (je_var 7) (je_var 9)))))) (je_var 3))
  (jss_one (js_ret je_bl))
  jss_nil)))
  (jss_cons (js_asg 8 scN.nd (je_ty1 p1_tuple (by rfl) m_tuple (by decide +kernel) (je_lc [("bits", 7)] rfl scN.nd (ji_seq (je_var 1)) (blk_by ["told", "faults", "total", "many", "due", "whole", "k", "bits", "handed", "row"] (defScope s__law_right) (by decide +kernel)) (fun _ _ _ _ _ => (jg_name 7 scN.nd)) (by decide) (fun _ _ _ _ _ => jts_nil) (fun _ _ _ _ _ => (je_ty1 p1_tuple (by rfl) m_tuple (by decide +kernel) (je_var 7))))))
  (jss_one (js_ret (je_and (je_cmp (p2_eq hr.units) (je_ix (je_fld (cs := [21]) (fun c hc => by simp only [List.mem_cons, List.not_mem_nil, or_false] at hc; rcases hc with rfl <;> first | exact ⟨ik_Found.cls, no_Found_dangers⟩) (je_var 0)) (je_var 3)) (je_tup (ja_cons je_int (ja_cons je_int ja_nil)))) (je_one (je_isN (je_call c_first_fault (hr.mono (by decide)) (by rfl) (ja_cons (je_var 8) (ja_cons (je_ty1 p1_list (by rfl) m_list (by decide +kernel) (je_ix (je_var 4) je_int)) ja_nil)))))))))))))))
theorem sc__law_checked : FnScope ["faults", "heavy", "many", "spreads", "style", "parts", "due", "answer", "bit"] ["faults", "heavy", "many", "spreads", "style"] (defScope s__law_checked) := ⟨rfl, rfl, rfl, by decide +kernel, rfl, by decide +kernel, by decide +kernel⟩
theorem ok__law_checked (Fu : Fun K "_law_checked" "_law_checked" s__law_checked f fd) (m_sum : mg "sum" = none) (c__law_path : FnC P w K mg base cm 2 "_law_path" F__law_path) (c__law_asked : FnC P w K mg base cm 4 "_law_asked" F__law_asked) (c__law_right : FnC P w K mg base cm 3 "_law_right" F__law_right) : FnOk P w K mg base CX0 5 f fd ["faults", "heavy", "many", "spreads", "style"] (spP K cm F__law_checked) :=
  have scN := sc__law_checked
  fn_ok Fu scN len__law_checked w__law_checked k__law_checked fun cdv A outer s H E hr =>
  (jss_cons (js_asgLc 5 [("bit", 8)] rfl scN.nd rfl rfl (sw_true rfl rfl rfl (by decide +kernel)) (ji_seq (je_ix (je_var 0) je_int)) (blk_by ["faults", "heavy", "many", "spreads", "style", "parts", "due", "answer", "bit"] (defScope s__law_checked) (by decide +kernel)) (fun _ _ _ _ _ => (jg_name 8 scN.nd)) (by decide) (fun _ _ _ _ _ => jts_nil) (fun _ _ _ _ _ => je_int))
  (jss_frz 5 (jss_cons (js_if (jt_notN (je_var 1))
  (jss_one (js_asg 5 scN.nd (je_var 1)))
  jss_nil)
  (jss_cons (js_asg 6 scN.nd (je_call c__law_path (hr.mono (by decide)) (by rfl) (ja_cons (je_var 0) (ja_cons (je_b1 (p1_sum rfl) (by rfl) m_sum (by decide +kernel) (je_var 5)) (ja_cons (je_var 3) (ja_cons (je_var 2) ja_nil))))))
  (jss_cons (js_asg 7 scN.nd (je_call c__law_asked (hr.mono (by decide)) (by rfl) (ja_cons (je_var 0) (ja_cons (je_var 1) (ja_cons (je_var 2) (ja_cons (je_var 4) ja_nil))))))
  (jss_cons (js_if (jt_isN (je_var 6))
  (jss_one (js_ret (je_cmp (p2_eq hr.units) (je_ix (je_var 7) je_int) je_int)))
  jss_nil)
  (jss_one (js_ret (je_and (je_cmp (p2_eq hr.units) (je_ix (je_var 7) je_int) je_int) (je_one (je_call c__law_right (hr.mono (by decide)) (by rfl) (ja_cons (je_ix (je_var 7) je_int) (ja_cons (je_var 0) (ja_cons (je_b1 (p1_sum rfl) (by rfl) m_sum (by decide +kernel) (je_var 5)) (ja_cons (je_var 2) (ja_cons (je_var 6) ja_nil))))))))))))))))
theorem sc__law_picked : FnScope ["faults", "cell", "row", "picks", "due", "i", "handed", "dangers", "kept", "told", "bits", "pick", "k"] ["faults", "cell"] (defScope s__law_picked) := ⟨rfl, rfl, rfl, by decide +kernel, rfl, by decide +kernel, by decide +kernel⟩
theorem ok__law_picked (Fu : Fun K "_law_picked" "_law_picked" s__law_picked f fd) (m_isinstance : mg "isinstance" = none) (m_len : mg "len" = none) (m_list : mg "list" = none) (m_range : mg "range" = none) (m_sum : mg "sum" = none) (m_tuple : mg "tuple" = none) (c__law_digits : FnC P w K mg base cm 1 "_law_digits" F__law_digits) (c_first_fault : FnC P w K mg base cm 1 "first_fault" F_first_fault) (c__law_whole : FnC P w K mg base cm 1 "_law_whole" F__law_whole) (mk_Found : MkC P w K mg base cm 1 "Found" 21 ["rows", "dangers"]) (ik_Found : InsK K (cm 21)) (no_Found_dangers : NoAttr K (cm 21) "dangers") (no_Found_rows : NoAttr K (cm 21) "rows") : FnOk P w K mg base CX0 3 f fd ["faults", "cell"] (spP K cm F__law_picked) :=
  have scN := sc__law_picked
  fn_ok Fu scN len__law_picked w__law_picked k__law_picked fun cdv A outer s H E hr =>
  (jss_cons (js_asg 2 scN.nd (je_call c__law_digits (hr.mono (by decide)) (by rfl) (ja_cons (je_var 1) (ja_cons (je_bin p2_add (je_lst (ja_cons je_int (ja_cons je_int ja_nil))) (je_lc [("k", 12)] rfl scN.nd (ji_range1 (by rfl) m_range je_int) (blk_by ["faults", "cell", "row", "picks", "due", "i", "handed", "dangers", "kept", "told", "bits", "pick", "k"] (defScope s__law_picked) (by decide +kernel)) (fun _ _ _ _ _ => (jg_name 12 scN.nd)) (by decide) (fun _ _ _ _ _ => jts_nil) (fun _ _ _ _ _ => (je_b1 p1_len (by rfl) m_len (by decide +kernel) (je_ix (je_var 0) je_int))))) ja_nil))))
  (jss_cons (js_asg 3 scN.nd (je_slice (je_var 2) (jo_some je_int) (jo_some (je_bin p2_add je_int (je_bin p2_mul je_int (je_ix (je_var 2) je_int))))))
  (jss_frz 3 (jss_cons (js_asg 4 scN.nd je_non)
  (jss_cons (js_for PassesOwn.never rfl (ji_range1 (by rfl) m_range (je_b1 p1_len (by rfl) m_len (by decide +kernel) (je_var 0))) (jg_name 5 scN.nd)
  (jss_one (js_if (JW.t (jw_and (jt_isN (je_var 4)) (jw_and1 (jt_cmp p2_gt (je_bin p2_mul je_int (je_b1 (p1_sum rfl) (by rfl) m_sum (by decide +kernel) (je_lc [("pick", 11)] rfl scN.nd (ji_seq (je_var 3)) (blk_by ["faults", "cell", "row", "picks", "due", "i", "handed", "dangers", "kept", "told", "bits", "pick", "k"] (defScope s__law_picked) (by decide +kernel)) (fun _ _ _ _ _ => (jg_name 11 scN.nd)) (by decide) (fun _ _ _ _ _ => jts_nil) (fun _ _ _ _ _ => (je_ix (je_ix (je_var 0) (je_var 5)) (je_var 11)))))) (je_b1 p1_len (by rfl) m_len (by decide +kernel) (je_var 3))))))
  (jss_one (js_asg 4 scN.nd (je_var 5)))
  jss_nil)))
  (jss_cons (js_asgLc 6 [("bits", 10)] rfl scN.nd rfl rfl (sw_true rfl rfl rfl (by decide +kernel)) (ji_seq (je_var 0)) (blk_by ["faults", "cell", "row", "picks", "due", "i", "handed", "dangers", "kept", "told", "bits", "pick", "k"] (defScope s__law_picked) (by decide +kernel)) (fun _ _ _ _ _ => (jg_name 10 scN.nd)) (by decide) (fun _ _ _ _ _ => jts_nil) (fun _ _ _ _ _ => (je_ty1 p1_list (by rfl) m_list (by decide +kernel) (je_var 10))))
  (jss_frz 6 (jss_cons (js_if (jt_cmp (p2_eq hr.units) (je_ix (je_var 2) je_int) je_int)
  (jss_one (js_asg 9 scN.nd (je_call c_first_fault (hr.mono (by decide)) (by rfl) (ja_cons (je_var 6) (ja_cons (je_ty1 p1_tuple (by rfl) m_tuple (by decide +kernel) (je_var 3)) ja_nil)))))
  (jss_one (js_asg 9 scN.nd (je_call c_first_fault (hr.mono (by decide)) (by rfl) (ja_cons (je_var 6) (ja_cons (je_ty1 p1_list (by rfl) m_list (by decide +kernel) (je_var 3)) ja_nil))))))
  (jss_cons (js_if (JW.t (jw_or (jt_cmp (p2_ne hr.units) (je_var 6) (je_var 0)) (jw_or1 (JW.t (jw_and (jt_isN (je_var 4)) (jw_and1 (jt_notN (je_var 9))))))))
  (jss_one (js_ret je_bl))
  jss_nil)
  (jss_cons (js_if (JW.t (jw_and (jt_notN (je_var 4)) (jw_and1 (JW.t (jw_or (jt_not (jt_val (je_call c__law_whole (hr.mono (by decide)) (by rfl) (ja_cons (je_var 9) ja_nil)))) (jw_or1 (jt_cmp (p2_ne hr.units) (je_var 9) (je_var 4))))))))
  (jss_one (js_ret je_bl))
  jss_nil)
  (jss_cons (js_asg 7 scN.nd (je_ty1 p1_tuple (by rfl) m_tuple (by decide +kernel) (je_lc [("pick", 11)] rfl scN.nd (ji_seq (je_var 3)) (blk_by ["faults", "cell", "row", "picks", "due", "i", "handed", "dangers", "kept", "told", "bits", "pick", "k"] (defScope s__law_picked) (by decide +kernel)) (fun _ _ _ _ _ => (jg_name 11 scN.nd)) (by decide) (fun _ _ _ _ _ => jts_nil) (fun _ _ _ _ _ => (je_tup (ja_cons (je_var 11) (ja_cons je_int ja_nil)))))))
  (jss_cons (js_asg 8 scN.nd (je_make mk_Found (hr.mono (by decide)) (by rfl) (ja_cons (je_ty1 p1_tuple (by rfl) m_tuple (by decide +kernel) (je_var 3)) (ja_cons (je_var 7) ja_nil))))
  (jss_one (js_ret (je_and (je_isi (T := "tuple") (by decide +kernel) (by rfl) m_isinstance (by rfl) m_tuple (by decide +kernel) (je_fld (cs := [21]) (fun c hc => by simp only [List.mem_cons, List.not_mem_nil, or_false] at hc; rcases hc with rfl <;> first | exact ⟨ik_Found.cls, no_Found_rows⟩) (je_var 8))) (je_and (je_cmp (p2_eq hr.units) (je_fld (cs := [21]) (fun c hc => by simp only [List.mem_cons, List.not_mem_nil, or_false] at hc; rcases hc with rfl <;> first | exact ⟨ik_Found.cls, no_Found_rows⟩) (je_var 8)) (je_ty1 p1_tuple (by rfl) m_tuple (by decide +kernel) (je_var 3))) (je_one (je_cmp (p2_eq hr.units) (je_fld (cs := [21]) (fun c hc => by simp only [List.mem_cons, List.not_mem_nil, or_false] at hc; rcases hc with rfl <;> first | exact ⟨ik_Found.cls, no_Found_dangers⟩) (je_var 8)) (je_var 7)))))))))))))))))))
theorem sc_law : FnScope ["script", "shape", "inputs", "count", "cap", "heavy", "other", "parts", "turns", "faults", "spreads", "lengths", "longest", "odd", "at", "many", "best", "next_many", "further", "pair", "fair", "few", "k", "entry", "bit"] ["script"] (defScope s_law) := ⟨rfl, rfl, rfl, by decide +kernel, rfl, by decide +kernel, by decide +kernel⟩
theorem ok_law (Fu : Fun K "law" "law" s_law f fd) (m_int : mg "int" = none) (m_len : mg "len" = none) (m_list : mg "list" = none) (m_max : mg "max" = none) (m_min : mg "min" = none) (m_range : mg "range" = none) (m_sum : mg "sum" = none) (c__law_digits : FnC P w K mg base cm 1 "_law_digits" F__law_digits) (c__law_cell : FnC P w K mg base cm 1 "_law_cell" F__law_cell) (c__law_parts : FnC P w K mg base cm 2 "_law_parts" F__law_parts) (c__law_wrong_bits : FnC P w K mg base cm 2 "_law_wrong_bits" F__law_wrong_bits) (c__law_spreads : FnC P w K mg base cm 2 "_law_spreads" F__law_spreads) (c__law_lengths : FnC P w K mg base cm 2 "_law_lengths" F__law_lengths) (c__law_checked : FnC P w K mg base cm 5 "_law_checked" F__law_checked) (c__law_picked : FnC P w K mg base cm 3 "_law_picked" F__law_picked) : FnOk P w K mg base CX0 6 f fd ["script"] (spP K cm F_law) :=
  have scN := sc_law
  fn_ok Fu scN len_law w_law k_law fun cdv A outer s H E hr =>
  (jss_cons (js_asg 1 scN.nd (je_call c__law_digits (hr.mono (by decide)) (by rfl) (ja_cons (je_call c__law_cell (hr.mono (by decide)) (by rfl) (ja_cons (je_var 0) (ja_cons je_int ja_nil))) (ja_cons (je_lst (ja_cons je_int (ja_cons je_int (ja_cons je_int (ja_cons je_int (ja_cons je_int (ja_cons je_int (ja_cons je_int (ja_cons je_int (ja_cons je_int (ja_cons je_int (ja_cons je_int (ja_cons je_int (ja_cons je_int (ja_cons je_int ja_nil))))))))))))))) ja_nil))))
  (jss_cons (js_asg 2 scN.nd (je_ix (je_lst (ja_cons je_int (ja_cons je_int (ja_cons je_int (ja_cons je_int (ja_cons je_int (ja_cons je_int (ja_cons je_int (ja_cons je_int (ja_cons je_int ja_nil)))))))))) (je_ix (je_var 1) je_int)))
  (jss_cons (js_if (jt_cmp (p2_eq hr.units) (je_ix (je_var 1) je_int) je_int)
  (jss_one (js_asg 2 scN.nd (je_bin p2_add je_int (je_ix (je_var 1) je_int))))
  jss_nil)
  (jss_cons (js_asg 3 scN.nd (je_ix (je_lst (ja_cons je_int (ja_cons je_int (ja_cons je_int (ja_cons je_int (ja_cons je_int (ja_cons je_int (ja_cons je_int (ja_cons je_int ja_nil))))))))) (je_ix (je_var 1) je_int)))
  (jss_cons (js_if (jt_cmp (p2_eq hr.units) (je_ix (je_var 1) je_int) je_int)
  (jss_one (js_asg 3 scN.nd (je_bin p2_add je_int (je_ix (je_var 1) je_int))))
  jss_nil)
  (jss_cons (js_asg 4 scN.nd (je_ix (je_lst (ja_cons je_int (ja_cons je_int (ja_cons je_int (ja_cons je_int (ja_cons je_int (ja_cons je_int (ja_cons je_int (ja_cons je_int ja_nil))))))))) (je_ix (je_var 1) je_int)))
  (jss_cons (js_asg 5 scN.nd (je_call c__law_parts (hr.mono (by decide)) (by rfl) (ja_cons (je_call c__law_cell (hr.mono (by decide)) (by rfl) (ja_cons (je_var 0) (ja_cons je_int ja_nil))) (ja_cons (je_var 3) ja_nil))))
  (jss_cons (js_asg 6 scN.nd je_non)
  (jss_cons (js_asg 7 scN.nd (je_var 5))
  (jss_cons (js_if (jt_isN (je_var 5))
  (jss_cons (js_asg 7 scN.nd (je_lc [("k", 22)] rfl scN.nd (ji_range1 (by rfl) m_range (je_var 3)) (blk_by ["script", "shape", "inputs", "count", "cap", "heavy", "other", "parts", "turns", "faults", "spreads", "lengths", "longest", "odd", "at", "many", "best", "next_many", "further", "pair", "fair", "few", "k", "entry", "bit"] (defScope s_law) (by decide +kernel)) (fun _ _ _ _ _ => (jg_name 22 scN.nd)) (by decide) (fun _ _ _ _ _ => jts_nil) (fun _ _ _ _ _ => je_int)))
  (jss_frz 7 (jss_one (js_asgLc 6 [("k", 22)] rfl scN.nd rfl rfl (sw_true rfl rfl rfl (by decide +kernel)) (ji_range1 (by rfl) m_range (je_var 3)) (blk_by ["script", "shape", "inputs", "count", "cap", "heavy", "other", "parts", "turns", "faults", "spreads", "lengths", "longest", "odd", "at", "many", "best", "next_many", "further", "pair", "fair", "few", "k", "entry", "bit"] (defScope s_law) (by decide +kernel)) (fun _ _ _ _ _ => (jg_name 22 scN.nd)) (by decide) (fun _ _ _ _ _ => jts_nil) (fun _ _ _ _ _ => (je_bin p2_add je_int (je_bin p2_mod (je_ty1 p1_int (by rfl) m_int (by decide +kernel) (je_bin p2_add (je_bin p2_mul je_int (je_var 22)) (je_ix (je_var 1) je_int))) je_int)))))))
  jss_nil)
  (jss_cons (js_asg 8 scN.nd (je_cmp p2_gt (je_bin p2_mod (je_ty1 p1_int (by rfl) m_int (by decide +kernel) (je_ix (je_var 1) je_int)) je_int) je_int))
  (jss_cons (js_asgLc 9 [("k", 22)] rfl scN.nd rfl rfl (sw_true rfl rfl rfl (by decide +kernel)) (ji_range1 (by rfl) m_range (je_var 2)) (blk_by ["script", "shape", "inputs", "count", "cap", "heavy", "other", "parts", "turns", "faults", "spreads", "lengths", "longest", "odd", "at", "many", "best", "next_many", "further", "pair", "fair", "few", "k", "entry", "bit"] (defScope s_law) (by decide +kernel)) (fun _ _ _ _ _ => (jg_name 22 scN.nd)) (by decide) (fun _ _ _ _ _ => jts_nil) (fun _ _ _ _ _ => (je_call c__law_wrong_bits (hr.mono (by decide)) (by rfl) (ja_cons (je_call c__law_cell (hr.mono (by decide)) (by rfl) (ja_cons (je_var 0) (ja_cons (je_bin p2_add je_int (je_var 22)) ja_nil))) (ja_cons (je_var 7) (ja_cons (je_and (je_var 8) (je_one (je_cmp (p2_eq hr.units) (je_var 22) je_int))) ja_nil))))))
  (jss_cons (js_if (jt_cmp (p2_eq hr.units) (je_bin p2_mod (je_ty1 p1_int (by rfl) m_int (by decide +kernel) (je_ix (je_var 1) je_int)) je_int) je_int)
  (jss_one (js_put 9 (je_ty1 p1_list (by rfl) m_list (by decide +kernel) (je_ix (je_var 9) je_int)) (je_neg je_int)))
  jss_nil)
  (jss_frz 9 (jss_cons (js_asg 10 scN.nd (je_call c__law_spreads (hr.mono (by decide)) (by rfl) (ja_cons (je_var 9) (ja_cons (je_var 7) (ja_cons (je_var 4) ja_nil)))))
  (jss_cons (js_asg 11 scN.nd (je_call c__law_lengths (hr.mono (by decide)) (by rfl) (ja_cons (je_var 10) (ja_cons (je_b1 (p1_sum rfl) (by rfl) m_sum (by decide +kernel) (je_var 7)) (ja_cons (je_var 4) ja_nil)))))
  (jss_cons (js_asg 12 scN.nd (je_b1 (p1_max rfl) (by rfl) m_max (by decide +kernel) (je_lc [("entry", 23)] rfl scN.nd (ji_seq (je_var 11)) (blk_by ["script", "shape", "inputs", "count", "cap", "heavy", "other", "parts", "turns", "faults", "spreads", "lengths", "longest", "odd", "at", "many", "best", "next_many", "further", "pair", "fair", "few", "k", "entry", "bit"] (defScope s_law) (by decide +kernel)) (fun _ _ _ _ _ => (jg_name 23 scN.nd)) (by decide) (fun _ _ _ _ _ => jts_nil) (fun _ _ _ _ _ => (je_ix (je_var 23) je_int)))))
  (jss_cons (js_asgLc 13 [("entry", 23)] rfl scN.nd rfl rfl (sw_true rfl rfl rfl (by decide +kernel)) (ji_seq (je_var 11)) (blk_by ["script", "shape", "inputs", "count", "cap", "heavy", "other", "parts", "turns", "faults", "spreads", "lengths", "longest", "odd", "at", "many", "best", "next_many", "further", "pair", "fair", "few", "k", "entry", "bit"] (defScope s_law) (by decide +kernel)) (fun _ _ _ _ _ => (jg_name 23 scN.nd)) (by decide) (fun _ _ _ _ _ => (jts_one (jt_cmp (p2_eq hr.units) (je_ix (je_var 23) je_int) (je_var 12)))) (fun _ _ _ _ _ => (je_ix (je_var 23) je_int)))
  (jss_frz 13 (jss_cons (js_asg 14 scN.nd (je_bin p2_mul (je_ix (je_var 1) je_int) (je_bin p2_mod (je_ty1 p1_int (by rfl) m_int (by decide +kernel) (je_ix (je_var 1) je_int)) (je_b1 p1_len (by rfl) m_len (by decide +kernel) (je_var 13)))))
  (jss_cons (js_if (JW.t (jw_and (jt_cmp (p2_eq hr.units) (je_var 14) je_int) (jw_and1 (jt_cmp (p2_eq hr.units) (je_ix (je_var 13) je_int) je_int))))
  (jss_one (js_asg 14 scN.nd (je_b2 (p2c_min rfl) (by rfl) m_min (by decide +kernel) (je_ix (je_var 1) je_int) (je_bin p2_sub (je_b1 p1_len (by rfl) m_len (by decide +kernel) (je_var 13)) je_int))))
  jss_nil)
  (jss_cons (js_asg 15 scN.nd (je_ix (je_var 13) (je_var 14)))
  (jss_cons (js_asg 16 scN.nd (je_b2 (p2c_max rfl) (by rfl) m_max (by decide +kernel) je_int (je_var 12)))
  (jss_cons (js_asg 17 scN.nd (je_bin p2_add je_int (je_bin p2_mul je_int (je_bin p2_mod (je_ty1 p1_int (by rfl) m_int (by decide +kernel) (je_ix (je_var 1) je_int)) (je_bin p2_div (je_bin p2_add (je_var 4) je_int) je_int)))))
  (jss_cons (js_if (JW.t (jw_and (jt_cmp (p2_eq hr.units) (je_var 16) (je_var 2)) (jw_and1 (jt_cmp p2_gt (je_bin p2_mul (je_var 16) (je_var 3)) je_int))))
  (jss_one (js_asg 17 scN.nd (je_b2 (p2c_min rfl) (by rfl) m_min (by decide +kernel) (je_var 17) je_int)))
  jss_nil)
  (jss_cons (js_if (jt_not (jt_val (je_call c__law_checked (hr.mono (by decide)) (by rfl) (ja_cons (je_slice (je_var 9) jo_none (jo_some (je_var 16))) (ja_cons (je_var 5) (ja_cons (je_var 15) (ja_cons (je_slice (je_var 10) jo_none (jo_some (je_var 16))) (ja_cons (je_ix (je_var 1) je_int) ja_nil))))))))
  (jss_one (js_ret je_bl))
  jss_nil)
  (jss_cons (js_asg 18 scN.nd (je_b2 (p2c_max rfl) (by rfl) m_max (by decide +kernel) (je_bin p2_add (je_var 16) je_int) (je_bin p2_mul (je_var 2) (je_ix (je_var 1) je_int))))
  (jss_cons (js_if (jt_not (jt_val (je_call c__law_checked (hr.mono (by decide)) (by rfl) (ja_cons (je_slice (je_var 9) jo_none (jo_some (je_var 18))) (ja_cons (je_var 5) (ja_cons (je_var 17) (ja_cons (je_slice (je_var 10) jo_none (jo_some (je_var 18))) (ja_cons (je_bin p2_sub je_int (je_ix (je_var 1) je_int)) ja_nil))))))))
  (jss_one (js_ret je_bl))
  jss_nil)
  (jss_cons (js_asgM 19 scN.nd (jm_lst (jms_cons (je_ty1 p1_list (by rfl) m_list (by decide +kernel) (je_ix (je_var 9) je_int)) (jms_cons (je_lc [("bit", 24)] rfl scN.nd (ji_seq (je_ix (je_var 9) je_int)) (blk_by ["script", "shape", "inputs", "count", "cap", "heavy", "other", "parts", "turns", "faults", "spreads", "lengths", "longest", "odd", "at", "many", "best", "next_many", "further", "pair", "fair", "few", "k", "entry", "bit"] (defScope s_law) (by decide +kernel)) (fun _ _ _ _ _ => (jg_name 24 scN.nd)) (by decide) (fun _ _ _ _ _ => jts_nil) (fun _ _ _ _ _ => (je_bin p2_sub je_int (je_var 24)))) jms_nil))))
  (jss_frz 6 (jss_cons (js_asg 20 scN.nd (je_var 6))
  (jss_cons (js_if (jt_isN (je_var 6))
  (jss_one (js_asgLc 20 [("k", 22)] rfl scN.nd rfl rfl (sw_true rfl rfl rfl (by decide +kernel)) (ji_range1 (by rfl) m_range (je_var 3)) (blk_by ["script", "shape", "inputs", "count", "cap", "heavy", "other", "parts", "turns", "faults", "spreads", "lengths", "longest", "odd", "at", "many", "best", "next_many", "further", "pair", "fair", "few", "k", "entry", "bit"] (defScope s_law) (by decide +kernel)) (fun _ _ _ _ _ => (jg_name 22 scN.nd)) (by decide) (fun _ _ _ _ _ => jts_nil) (fun _ _ _ _ _ => je_int)))
  jss_nil)
  (jss_cons (js_asg 21 scN.nd (je_bin p2_add je_int (je_bin p2_mul je_int (je_ix (je_var 1) je_int))))
  (jss_frz 6 (jss_frz 20 (jss_cons (js_if (jt_look (jt_not (jt_val (je_call c__law_checked (hr.mono (by decide)) (by rfl) (ja_cons (je_var 19) (ja_cons (je_var 6) (ja_cons (je_var 21) (ja_cons (je_call c__law_spreads (hr.mono (by decide)) (by rfl) (ja_cons (je_var 19) (ja_cons (je_var 20) (ja_cons (je_var 21) ja_nil)))) (ja_cons (je_ix (je_var 1) je_int) ja_nil)))))))))
  (jss_one (js_ret je_bl))
  jss_nil)
  (jss_cons (js_putM 19 je_int je_int (je_bin p2_mod (je_ty1 p1_int (by rfl) m_int (by decide +kernel) (je_ix (je_var 1) je_int)) (je_var 3)))
  (jss_cons (js_putM 19 je_int je_int (je_bin p2_mod (je_ty1 p1_int (by rfl) m_int (by decide +kernel) (je_ix (je_var 1) je_int)) (je_var 3)))
  (jss_frz 6 (jss_frz 20 (jss_cons (js_if (jt_look (jt_not (jt_val (je_call c__law_checked (hr.mono (by decide)) (by rfl) (ja_cons (je_var 19) (ja_cons (je_var 6) (ja_cons (je_var 21) (ja_cons (je_call c__law_spreads (hr.mono (by decide)) (by rfl) (ja_cons (je_var 19) (ja_cons (je_var 20) (ja_cons (je_var 21) ja_nil)))) (ja_cons (je_bin p2_sub je_int (je_ix (je_var 1) je_int)) ja_nil)))))))))
  (jss_one (js_ret je_bl))
  jss_nil)
  (jss_frz 9 (jss_cons (js_if (JW.t (jw_or (jt_not (jt_val (je_call c__law_picked (hr.mono (by decide)) (by rfl) (ja_cons (je_var 9) (ja_cons (je_call c__law_cell (hr.mono (by decide)) (by rfl) (ja_cons (je_var 0) (ja_cons je_int ja_nil))) ja_nil))))) (jw_or1 (jt_not (jt_val (je_call c__law_picked (hr.mono (by decide)) (by rfl) (ja_cons (je_slice (je_var 9) jo_none (jo_some (je_var 16))) (ja_cons (je_call c__law_cell (hr.mono (by decide)) (by rfl) (ja_cons (je_var 0) (ja_cons je_int ja_nil))) ja_nil))))))))
  (jss_one (js_ret je_bl))
  jss_nil)
  (jss_one (js_ret (je_or (je_cmp p2_gt (je_bin p2_mul (je_bin p2_mul (je_var 16) (je_var 3)) (je_var 15)) je_int) (je_one (je_call c__law_checked (hr.mono (by decide)) (by rfl) (ja_cons (je_slice (je_var 9) jo_none (jo_some (je_var 16))) (ja_cons (je_var 5) (ja_cons (je_var 15) (ja_cons (je_slice (je_var 10) jo_none (jo_some (je_var 16))) (ja_cons (je_ix (je_var 1) je_int) ja_nil)))))))))))))))))))))))))))))))))))))))))))))))))))))
end
theorem all_mk {l : PySem.W.OpenLaw} {w : World} {K : PySem.W.Frag} {h : Heap} {mg : Str → Option Value} {fa : Addr} (X : K.In h) (G : h.Ns mainGlobals mg) (hfa : mg "law" = some (.ref fa))
  {f1 f2 f3 f4 f5 f6 f7 f8 f9 f10 f11 f12 f13 f14 f15 f16 f17 f18 f19 f20 f21 f22 f23 f24 f25 : Addr} {od1 an1 od2 an2 od3 an3 od4 an4 od5 an5 od6 an6 od7 an7 od8 an8 od9 an9 od10 an10 od11 an11 od12 an12 od13 an13 od14 an14 od15 an15 od16 an16 od17 an17 od18 an18 od19 an19 od20 an20 od21 an21 od22 an22 od23 an23 od24 an24 od25 an25 : Option Addr} {sl1 sl2 sl3 sl4 sl5 sl6 sl7 sl8 sl9 sl10 sl11 sl12 sl13 sl14 sl15 sl16 sl17 sl18 sl19 sl20 sl21 sl22 sl23 sl24 sl25 : Array (Option Value)} {oc1 dc1 pm1 cd1 ct1 kV1 oc2 dc2 pm2 cd2 ct2 kV2 oc3 dc3 pm3 cd3 ct3 kV3 oc4 dc4 pm4 cd4 ct4 kV4 oc5 dc5 pm5 cd5 ct5 kV5 oc6 dc6 pm6 cd6 ct6 kV6 oc7 dc7 pm7 cd7 ct7 kV7 oc8 dc8 pm8 cd8 ct8 oc9 dc9 pm9 cd9 ct9 kV9 oc10 dc10 pm10 cd10 ct10 kV10 oc11 dc11 pm11 cd11 ct11 kV11 oc12 dc12 pm12 cd12 ct12 kV12 oc13 dc13 pm13 cd13 ct13 kV13 oc14 dc14 pm14 cd14 ct14 kV14 oc15 dc15 pm15 cd15 ct15 kV15 oc16 dc16 pm16 cd16 ct16 kV16 oc17 dc17 pm17 cd17 ct17 kV17 oc18 dc18 pm18 cd18 ct18 kV18 oc19 dc19 pm19 cd19 ct19 kV19 oc20 dc20 pm20 cd20 ct20 kV20 oc21 dc21 pm21 cd21 ct21 kV21 oc22 dc22 pm22 cd22 ct22 kV22 oc23 dc23 pm23 cd23 ct23 kV23 oc24 dc24 pm24 cd24 ct24 kV24 oc25 dc25 pm25 cd25 ct25 kV25 : Value}
  {kD8 : Addr}
  {C_BadAdvice C_BadBits C_BadBlock C_BadGate C_BadLayer C_BadLine C_BadNode C_BadOrder C_BadPlaces C_BadRow C_BadRowText C_BadShareText C_BadWeight C_ChanceError C_EmptySource C_Found C_NotEnoughRows C_NothingToRedo C_NothingToUndo C_UnknownName C_WidthsDiffer C_ZeroBottom : Addr}
  (z_BadAdvice : PySem.W.nsIn K mainGlobals "BadAdvice" = some (some (.ref C_BadAdvice)))
  (z_BadBits : PySem.W.nsIn K mainGlobals "BadBits" = some (some (.ref C_BadBits)))
  (z_BadBlock : PySem.W.nsIn K mainGlobals "BadBlock" = some (some (.ref C_BadBlock)))
  (z_BadGate : PySem.W.nsIn K mainGlobals "BadGate" = some (some (.ref C_BadGate)))
  (z_BadLayer : PySem.W.nsIn K mainGlobals "BadLayer" = some (some (.ref C_BadLayer)))
  (z_BadLine : PySem.W.nsIn K mainGlobals "BadLine" = some (some (.ref C_BadLine)))
  (z_BadNode : PySem.W.nsIn K mainGlobals "BadNode" = some (some (.ref C_BadNode)))
  (z_BadOrder : PySem.W.nsIn K mainGlobals "BadOrder" = some (some (.ref C_BadOrder)))
  (z_BadPlaces : PySem.W.nsIn K mainGlobals "BadPlaces" = some (some (.ref C_BadPlaces)))
  (z_BadRow : PySem.W.nsIn K mainGlobals "BadRow" = some (some (.ref C_BadRow)))
  (z_BadRowText : PySem.W.nsIn K mainGlobals "BadRowText" = some (some (.ref C_BadRowText)))
  (z_BadShareText : PySem.W.nsIn K mainGlobals "BadShareText" = some (some (.ref C_BadShareText)))
  (z_BadWeight : PySem.W.nsIn K mainGlobals "BadWeight" = some (some (.ref C_BadWeight)))
  (z_ChanceError : PySem.W.nsIn K mainGlobals "ChanceError" = some (some (.ref C_ChanceError)))
  (z_EmptySource : PySem.W.nsIn K mainGlobals "EmptySource" = some (some (.ref C_EmptySource)))
  (z_Found : PySem.W.nsIn K mainGlobals "Found" = some (some (.ref C_Found)))
  (z_NotEnoughRows : PySem.W.nsIn K mainGlobals "NotEnoughRows" = some (some (.ref C_NotEnoughRows)))
  (z_NothingToRedo : PySem.W.nsIn K mainGlobals "NothingToRedo" = some (some (.ref C_NothingToRedo)))
  (z_NothingToUndo : PySem.W.nsIn K mainGlobals "NothingToUndo" = some (some (.ref C_NothingToUndo)))
  (z_UnknownName : PySem.W.nsIn K mainGlobals "UnknownName" = some (some (.ref C_UnknownName)))
  (z_WidthsDiffer : PySem.W.nsIn K mainGlobals "WidthsDiffer" = some (some (.ref C_WidthsDiffer)))
  (z_ZeroBottom : PySem.W.nsIn K mainGlobals "ZeroBottom" = some (some (.ref C_ZeroBottom)))
  {fi_Found : Addr} {odi_Found ani_Found : Option Addr} {sli_Found : Array (Option Value)} {oci_Found dci_Found pmi_Found cdi_Found cti_Found kVi_Found : Value}
  (ai_Found : PySem.W.findIn K (.ref C_Found) "__init__" = some (some (.ref fi_Found))) (li_Found : K.lookup fi_Found = some ⟨oci_Found, odi_Found, .func (PySem.W.fnOf "__init__" "Found.__init__" (defArgs si_Found) (defBody si_Found) (defScope si_Found) .none kVi_Found dci_Found pmi_Found ani_Found cdi_Found cti_Found), sli_Found⟩) (ci_Found : PySem.W.codeIn K cdi_Found "Found.__init__" = true) (ki_Found : PySem.W.keepIn K (.ref fi_Found) = true)
  (mi1_Found : PySem.W.makesIn K C_Found = true) (mi2_Found : PySem.W.isFn K (.ref fi_Found) = true) (mi3_Found : PySem.W.keepIn K (.ref C_Found) = true)
  {fi_NotEnoughRows : Addr} {odi_NotEnoughRows ani_NotEnoughRows : Option Addr} {sli_NotEnoughRows : Array (Option Value)} {oci_NotEnoughRows dci_NotEnoughRows pmi_NotEnoughRows cdi_NotEnoughRows cti_NotEnoughRows kVi_NotEnoughRows : Value}
  (ai_NotEnoughRows : PySem.W.findIn K (.ref C_NotEnoughRows) "__init__" = some (some (.ref fi_NotEnoughRows))) (li_NotEnoughRows : K.lookup fi_NotEnoughRows = some ⟨oci_NotEnoughRows, odi_NotEnoughRows, .func (PySem.W.fnOf "__init__" "NotEnoughRows.__init__" (defArgs si_NotEnoughRows) (defBody si_NotEnoughRows) (defScope si_NotEnoughRows) .none kVi_NotEnoughRows dci_NotEnoughRows pmi_NotEnoughRows ani_NotEnoughRows cdi_NotEnoughRows cti_NotEnoughRows), sli_NotEnoughRows⟩) (ci_NotEnoughRows : PySem.W.codeIn K cdi_NotEnoughRows "NotEnoughRows.__init__" = true) (ki_NotEnoughRows : PySem.W.keepIn K (.ref fi_NotEnoughRows) = true)
  (ti_NotEnoughRows : PySem.W.typeIn K (.ref fi_NotEnoughRows) = some (.type "function"))
  (q_ex_NotEnoughRows_ChanceError : PySem.W.exmOne K (.ref C_NotEnoughRows) (.ref C_ChanceError) = some true)
  (q_ek_NotEnoughRows : excB K C_NotEnoughRows = true)
  (q_no_NotEnoughRows_many : PySem.W.findIn K (.ref C_NotEnoughRows) "many" = some none)
  (q_ko_NotEnoughRows_ValueError : PySem.W.kitOne K (.ref C_NotEnoughRows) (.type "ValueError") = some true)
  (q_ko_NotEnoughRows_NotEnoughRows : PySem.W.kitOne K (.ref C_NotEnoughRows) (.ref C_NotEnoughRows) = some true)
  (q_ka_NotEnoughRows_15_10_14_11_13_17_12_9_7_4 : PySem.W.kitAny K (.ref C_NotEnoughRows) [(.ref C_BadAdvice), (.ref C_BadBits), (.ref C_BadBlock), (.ref C_BadGate), (.ref C_BadLayer), (.ref C_BadLine), (.ref C_BadNode), (.ref C_BadOrder), (.ref C_BadPlaces), (.ref C_BadRow)] = some false)
  (q_ka_NotEnoughRows_3_2_5_6_20_19_18 : PySem.W.kitAny K (.ref C_NotEnoughRows) [(.ref C_BadRowText), (.ref C_BadShareText), (.ref C_BadWeight), (.ref C_EmptySource), (.ref C_NothingToRedo), (.ref C_NothingToUndo), (.ref C_UnknownName)] = some false)
  (q_ka_NotEnoughRows_8_1 : PySem.W.kitAny K (.ref C_NotEnoughRows) [(.ref C_WidthsDiffer), (.ref C_ZeroBottom)] = some false)
  (q_ik_Found : insB K C_Found = true)
  (q_no_Found_dangers : PySem.W.findIn K (.ref C_Found) "dangers" = some none)
  (q_no_Found_rows : PySem.W.findIn K (.ref C_Found) "rows" = some none)
  (q_ko_Found_Found : PySem.W.kitOne K (.ref C_Found) (.ref C_Found) = some true)
  (q_ty_Found : tyB K C_Found = true)
  (a1 : PySem.W.nsIn K mainGlobals "lowest" = some (some (.ref f1))) (l1 : K.lookup f1 = some ⟨oc1, od1, .func (PySem.W.fnOf "lowest" "lowest" (defArgs s_lowest) (defBody s_lowest) (defScope s_lowest) .none kV1 dc1 pm1 an1 cd1 ct1), sl1⟩) (c1 : PySem.W.codeIn K cd1 "lowest" = true) (k1 : PySem.W.keepIn K (.ref f1) = true)
  (a2 : PySem.W.nsIn K mainGlobals "powers_of" = some (some (.ref f2))) (l2 : K.lookup f2 = some ⟨oc2, od2, .func (PySem.W.fnOf "powers_of" "powers_of" (defArgs s_powers_of) (defBody s_powers_of) (defScope s_powers_of) .none kV2 dc2 pm2 an2 cd2 ct2), sl2⟩) (c2 : PySem.W.codeIn K cd2 "powers_of" = true) (k2 : PySem.W.keepIn K (.ref f2) = true)
  (a3 : PySem.W.nsIn K mainGlobals "first_fault" = some (some (.ref f3))) (l3 : K.lookup f3 = some ⟨oc3, od3, .func (PySem.W.fnOf "first_fault" "first_fault" (defArgs s_first_fault) (defBody s_first_fault) (defScope s_first_fault) .none kV3 dc3 pm3 an3 cd3 ct3), sl3⟩) (c3 : PySem.W.codeIn K cd3 "first_fault" = true) (k3 : PySem.W.keepIn K (.ref f3) = true)
  (a4 : PySem.W.nsIn K mainGlobals "chance_table" = some (some (.ref f4))) (l4 : K.lookup f4 = some ⟨oc4, od4, .func (PySem.W.fnOf "chance_table" "chance_table" (defArgs s_chance_table) (defBody s_chance_table) (defScope s_chance_table) .none kV4 dc4 pm4 an4 cd4 ct4), sl4⟩) (c4 : PySem.W.codeIn K cd4 "chance_table" = true) (k4 : PySem.W.keepIn K (.ref f4) = true)
  (a5 : PySem.W.nsIn K mainGlobals "fault_tables" = some (some (.ref f5))) (l5 : K.lookup f5 = some ⟨oc5, od5, .func (PySem.W.fnOf "fault_tables" "fault_tables" (defArgs s_fault_tables) (defBody s_fault_tables) (defScope s_fault_tables) .none kV5 dc5 pm5 an5 cd5 ct5), sl5⟩) (c5 : PySem.W.codeIn K cd5 "fault_tables" = true) (k5 : PySem.W.keepIn K (.ref f5) = true)
  (a6 : PySem.W.nsIn K mainGlobals "danger_ways" = some (some (.ref f6))) (l6 : K.lookup f6 = some ⟨oc6, od6, .func (PySem.W.fnOf "danger_ways" "danger_ways" (defArgs s_danger_ways) (defBody s_danger_ways) (defScope s_danger_ways) .none kV6 dc6 pm6 an6 cd6 ct6), sl6⟩) (c6 : PySem.W.codeIn K cd6 "danger_ways" = true) (k6 : PySem.W.keepIn K (.ref f6) = true)
  (a7 : PySem.W.nsIn K mainGlobals "least_row" = some (some (.ref f7))) (l7 : K.lookup f7 = some ⟨oc7, od7, .func (PySem.W.fnOf "least_row" "least_row" (defArgs s_least_row) (defBody s_least_row) (defScope s_least_row) .none kV7 dc7 pm7 an7 cd7 ct7), sl7⟩) (c7 : PySem.W.codeIn K cd7 "least_row" = true) (k7 : PySem.W.keepIn K (.ref f7) = true)
  (a8 : PySem.W.nsIn K mainGlobals "found_rows" = some (some (.ref f8))) (l8 : K.lookup f8 = some ⟨oc8, od8, .func (PySem.W.fnOf "found_rows" "found_rows" (defArgs s_found_rows) (defBody s_found_rows) (defScope s_found_rows) .none (.ref kD8) dc8 pm8 an8 cd8 ct8), sl8⟩) (c8 : PySem.W.codeIn K cd8 "found_rows" = true) (k8 : PySem.W.keepIn K (.ref f8) = true)
  (w8_0 : PySem.W.nsIn K kD8 "weights" = some (some .none))
  (a9 : PySem.W.nsIn K mainGlobals "_law_whole" = some (some (.ref f9))) (l9 : K.lookup f9 = some ⟨oc9, od9, .func (PySem.W.fnOf "_law_whole" "_law_whole" (defArgs s__law_whole) (defBody s__law_whole) (defScope s__law_whole) .none kV9 dc9 pm9 an9 cd9 ct9), sl9⟩) (c9 : PySem.W.codeIn K cd9 "_law_whole" = true) (k9 : PySem.W.keepIn K (.ref f9) = true)
  (a10 : PySem.W.nsIn K mainGlobals "_law_cell" = some (some (.ref f10))) (l10 : K.lookup f10 = some ⟨oc10, od10, .func (PySem.W.fnOf "_law_cell" "_law_cell" (defArgs s__law_cell) (defBody s__law_cell) (defScope s__law_cell) .none kV10 dc10 pm10 an10 cd10 ct10), sl10⟩) (c10 : PySem.W.codeIn K cd10 "_law_cell" = true) (k10 : PySem.W.keepIn K (.ref f10) = true)
  (a11 : PySem.W.nsIn K mainGlobals "_law_digits" = some (some (.ref f11))) (l11 : K.lookup f11 = some ⟨oc11, od11, .func (PySem.W.fnOf "_law_digits" "_law_digits" (defArgs s__law_digits) (defBody s__law_digits) (defScope s__law_digits) .none kV11 dc11 pm11 an11 cd11 ct11), sl11⟩) (c11 : PySem.W.codeIn K cd11 "_law_digits" = true) (k11 : PySem.W.keepIn K (.ref f11) = true)
  (a12 : PySem.W.nsIn K mainGlobals "_law_power" = some (some (.ref f12))) (l12 : K.lookup f12 = some ⟨oc12, od12, .func (PySem.W.fnOf "_law_power" "_law_power" (defArgs s__law_power) (defBody s__law_power) (defScope s__law_power) .none kV12 dc12 pm12 an12 cd12 ct12), sl12⟩) (c12 : PySem.W.codeIn K cd12 "_law_power" = true) (k12 : PySem.W.keepIn K (.ref f12) = true)
  (a13 : PySem.W.nsIn K mainGlobals "_law_long_gcd" = some (some (.ref f13))) (l13 : K.lookup f13 = some ⟨oc13, od13, .func (PySem.W.fnOf "_law_long_gcd" "_law_long_gcd" (defArgs s__law_long_gcd) (defBody s__law_long_gcd) (defScope s__law_long_gcd) .none kV13 dc13 pm13 an13 cd13 ct13), sl13⟩) (c13 : PySem.W.codeIn K cd13 "_law_long_gcd" = true) (k13 : PySem.W.keepIn K (.ref f13) = true)
  (a14 : PySem.W.nsIn K mainGlobals "_law_exactly" = some (some (.ref f14))) (l14 : K.lookup f14 = some ⟨oc14, od14, .func (PySem.W.fnOf "_law_exactly" "_law_exactly" (defArgs s__law_exactly) (defBody s__law_exactly) (defScope s__law_exactly) .none kV14 dc14 pm14 an14 cd14 ct14), sl14⟩) (c14 : PySem.W.codeIn K cd14 "_law_exactly" = true) (k14 : PySem.W.keepIn K (.ref f14) = true)
  (a15 : PySem.W.nsIn K mainGlobals "_law_parts" = some (some (.ref f15))) (l15 : K.lookup f15 = some ⟨oc15, od15, .func (PySem.W.fnOf "_law_parts" "_law_parts" (defArgs s__law_parts) (defBody s__law_parts) (defScope s__law_parts) .none kV15 dc15 pm15 an15 cd15 ct15), sl15⟩) (c15 : PySem.W.codeIn K cd15 "_law_parts" = true) (k15 : PySem.W.keepIn K (.ref f15) = true)
  (a16 : PySem.W.nsIn K mainGlobals "_law_wrong_bits" = some (some (.ref f16))) (l16 : K.lookup f16 = some ⟨oc16, od16, .func (PySem.W.fnOf "_law_wrong_bits" "_law_wrong_bits" (defArgs s__law_wrong_bits) (defBody s__law_wrong_bits) (defScope s__law_wrong_bits) .none kV16 dc16 pm16 an16 cd16 ct16), sl16⟩) (c16 : PySem.W.codeIn K cd16 "_law_wrong_bits" = true) (k16 : PySem.W.keepIn K (.ref f16) = true)
  (a17 : PySem.W.nsIn K mainGlobals "_law_spread" = some (some (.ref f17))) (l17 : K.lookup f17 = some ⟨oc17, od17, .func (PySem.W.fnOf "_law_spread" "_law_spread" (defArgs s__law_spread) (defBody s__law_spread) (defScope s__law_spread) .none kV17 dc17 pm17 an17 cd17 ct17), sl17⟩) (c17 : PySem.W.codeIn K cd17 "_law_spread" = true) (k17 : PySem.W.keepIn K (.ref f17) = true)
  (a18 : PySem.W.nsIn K mainGlobals "_law_spreads" = some (some (.ref f18))) (l18 : K.lookup f18 = some ⟨oc18, od18, .func (PySem.W.fnOf "_law_spreads" "_law_spreads" (defArgs s__law_spreads) (defBody s__law_spreads) (defScope s__law_spreads) .none kV18 dc18 pm18 an18 cd18 ct18), sl18⟩) (c18 : PySem.W.codeIn K cd18 "_law_spreads" = true) (k18 : PySem.W.keepIn K (.ref f18) = true)
  (a19 : PySem.W.nsIn K mainGlobals "_law_lengths" = some (some (.ref f19))) (l19 : K.lookup f19 = some ⟨oc19, od19, .func (PySem.W.fnOf "_law_lengths" "_law_lengths" (defArgs s__law_lengths) (defBody s__law_lengths) (defScope s__law_lengths) .none kV19 dc19 pm19 an19 cd19 ct19), sl19⟩) (c19 : PySem.W.codeIn K cd19 "_law_lengths" = true) (k19 : PySem.W.keepIn K (.ref f19) = true)
  (a20 : PySem.W.nsIn K mainGlobals "_law_path" = some (some (.ref f20))) (l20 : K.lookup f20 = some ⟨oc20, od20, .func (PySem.W.fnOf "_law_path" "_law_path" (defArgs s__law_path) (defBody s__law_path) (defScope s__law_path) .none kV20 dc20 pm20 an20 cd20 ct20), sl20⟩) (c20 : PySem.W.codeIn K cd20 "_law_path" = true) (k20 : PySem.W.keepIn K (.ref f20) = true)
  (a21 : PySem.W.nsIn K mainGlobals "_law_asked" = some (some (.ref f21))) (l21 : K.lookup f21 = some ⟨oc21, od21, .func (PySem.W.fnOf "_law_asked" "_law_asked" (defArgs s__law_asked) (defBody s__law_asked) (defScope s__law_asked) .none kV21 dc21 pm21 an21 cd21 ct21), sl21⟩) (c21 : PySem.W.codeIn K cd21 "_law_asked" = true) (k21 : PySem.W.keepIn K (.ref f21) = true)
  (a22 : PySem.W.nsIn K mainGlobals "_law_right" = some (some (.ref f22))) (l22 : K.lookup f22 = some ⟨oc22, od22, .func (PySem.W.fnOf "_law_right" "_law_right" (defArgs s__law_right) (defBody s__law_right) (defScope s__law_right) .none kV22 dc22 pm22 an22 cd22 ct22), sl22⟩) (c22 : PySem.W.codeIn K cd22 "_law_right" = true) (k22 : PySem.W.keepIn K (.ref f22) = true)
  (a23 : PySem.W.nsIn K mainGlobals "_law_checked" = some (some (.ref f23))) (l23 : K.lookup f23 = some ⟨oc23, od23, .func (PySem.W.fnOf "_law_checked" "_law_checked" (defArgs s__law_checked) (defBody s__law_checked) (defScope s__law_checked) .none kV23 dc23 pm23 an23 cd23 ct23), sl23⟩) (c23 : PySem.W.codeIn K cd23 "_law_checked" = true) (k23 : PySem.W.keepIn K (.ref f23) = true)
  (a24 : PySem.W.nsIn K mainGlobals "_law_picked" = some (some (.ref f24))) (l24 : K.lookup f24 = some ⟨oc24, od24, .func (PySem.W.fnOf "_law_picked" "_law_picked" (defArgs s__law_picked) (defBody s__law_picked) (defScope s__law_picked) .none kV24 dc24 pm24 an24 cd24 ct24), sl24⟩) (c24 : PySem.W.codeIn K cd24 "_law_picked" = true) (k24 : PySem.W.keepIn K (.ref f24) = true)
  (a25 : PySem.W.nsIn K mainGlobals "law" = some (some (.ref f25))) (l25 : K.lookup f25 = some ⟨oc25, od25, .func (PySem.W.fnOf "law" "law" (defArgs s_law) (defBody s_law) (defScope s_law) .none kV25 dc25 pm25 an25 cd25 ct25), sl25⟩) (c25 : PySem.W.codeIn K cd25 "law" = true) (k25 : PySem.W.keepIn K (.ref f25) = true)
  (z_gcd : PySem.W.nsIn K mainGlobals "gcd" = some (some (.builtin "math.gcd")))
  (z_ValueError : PySem.W.nsIn K mainGlobals "ValueError" = some none)
  (z_abs : PySem.W.nsIn K mainGlobals "abs" = some none)
  (z_bool : PySem.W.nsIn K mainGlobals "bool" = some none)
  (z_int : PySem.W.nsIn K mainGlobals "int" = some none)
  (z_isinstance : PySem.W.nsIn K mainGlobals "isinstance" = some none)
  (z_len : PySem.W.nsIn K mainGlobals "len" = some none)
  (z_list : PySem.W.nsIn K mainGlobals "list" = some none)
  (z_max : PySem.W.nsIn K mainGlobals "max" = some none)
  (z_min : PySem.W.nsIn K mainGlobals "min" = some none)
  (z_range : PySem.W.nsIn K mainGlobals "range" = some none)
  (z_sum : PySem.W.nsIn K mainGlobals "sum" = some none)
  (z_tuple : PySem.W.nsIn K mainGlobals "tuple" = some none)
  (z_zip : PySem.W.nsIn K mainGlobals "zip" = some none)
  : ∃ fd : FuncData, (∀ (s : Shared) (v : Value), BindsTo s fd ⟨[v], []⟩ [("script", v)]) ∧ ∀ base : Heap, K.In base → base.Ns mainGlobals mg → FnOk l.prog w K mg base CX0 6 fa fd ["script"] (spP K (fun _ => 0) F_law) := by
  have e := hfa.symm.trans (PySem.W.mg_of X G a25)
  cases e
  have m_gcd := PySem.W.mg_of X G z_gcd
  have m_ValueError := PySem.W.mg_none_of X G z_ValueError
  have m_abs := PySem.W.mg_none_of X G z_abs
  have m_bool := PySem.W.mg_none_of X G z_bool
  have m_int := PySem.W.mg_none_of X G z_int
  have m_isinstance := PySem.W.mg_none_of X G z_isinstance
  have m_len := PySem.W.mg_none_of X G z_len
  have m_list := PySem.W.mg_none_of X G z_list
  have m_max := PySem.W.mg_none_of X G z_max
  have m_min := PySem.W.mg_none_of X G z_min
  have m_range := PySem.W.mg_none_of X G z_range
  have m_sum := PySem.W.mg_none_of X G z_sum
  have m_tuple := PySem.W.mg_none_of X G z_tuple
  have m_zip := PySem.W.mg_none_of X G z_zip
  have m_BadAdvice := PySem.W.mg_of X G z_BadAdvice
  have m_BadBits := PySem.W.mg_of X G z_BadBits
  have m_BadBlock := PySem.W.mg_of X G z_BadBlock
  have m_BadGate := PySem.W.mg_of X G z_BadGate
  have m_BadLayer := PySem.W.mg_of X G z_BadLayer
  have m_BadLine := PySem.W.mg_of X G z_BadLine
  have m_BadNode := PySem.W.mg_of X G z_BadNode
  have m_BadOrder := PySem.W.mg_of X G z_BadOrder
  have m_BadPlaces := PySem.W.mg_of X G z_BadPlaces
  have m_BadRow := PySem.W.mg_of X G z_BadRow
  have m_BadRowText := PySem.W.mg_of X G z_BadRowText
  have m_BadShareText := PySem.W.mg_of X G z_BadShareText
  have m_BadWeight := PySem.W.mg_of X G z_BadWeight
  have m_ChanceError := PySem.W.mg_of X G z_ChanceError
  have m_EmptySource := PySem.W.mg_of X G z_EmptySource
  have m_Found := PySem.W.mg_of X G z_Found
  have m_NotEnoughRows := PySem.W.mg_of X G z_NotEnoughRows
  have m_NothingToRedo := PySem.W.mg_of X G z_NothingToRedo
  have m_NothingToUndo := PySem.W.mg_of X G z_NothingToUndo
  have m_UnknownName := PySem.W.mg_of X G z_UnknownName
  have m_WidthsDiffer := PySem.W.mg_of X G z_WidthsDiffer
  have m_ZeroBottom := PySem.W.mg_of X G z_ZeroBottom
  generalize hcm : ((fun n => [C_ChanceError, C_ZeroBottom, C_BadShareText, C_BadRowText, C_BadRow, C_BadWeight, C_EmptySource, C_BadPlaces, C_WidthsDiffer, C_BadOrder, C_BadBits, C_BadGate, C_BadNode, C_BadLayer, C_BadBlock, C_BadAdvice, C_NotEnoughRows, C_BadLine, C_UnknownName, C_NothingToUndo, C_NothingToRedo, C_Found].getD n 0) : Nat → Addr) = cm
  have hc_BadAdvice : C_BadAdvice = cm 15 := by rw [← hcm]; rfl
  have hc_BadBits : C_BadBits = cm 10 := by rw [← hcm]; rfl
  have hc_BadBlock : C_BadBlock = cm 14 := by rw [← hcm]; rfl
  have hc_BadGate : C_BadGate = cm 11 := by rw [← hcm]; rfl
  have hc_BadLayer : C_BadLayer = cm 13 := by rw [← hcm]; rfl
  have hc_BadLine : C_BadLine = cm 17 := by rw [← hcm]; rfl
  have hc_BadNode : C_BadNode = cm 12 := by rw [← hcm]; rfl
  have hc_BadOrder : C_BadOrder = cm 9 := by rw [← hcm]; rfl
  have hc_BadPlaces : C_BadPlaces = cm 7 := by rw [← hcm]; rfl
  have hc_BadRow : C_BadRow = cm 4 := by rw [← hcm]; rfl
  have hc_BadRowText : C_BadRowText = cm 3 := by rw [← hcm]; rfl
  have hc_BadShareText : C_BadShareText = cm 2 := by rw [← hcm]; rfl
  have hc_BadWeight : C_BadWeight = cm 5 := by rw [← hcm]; rfl
  have hc_ChanceError : C_ChanceError = cm 0 := by rw [← hcm]; rfl
  have hc_EmptySource : C_EmptySource = cm 6 := by rw [← hcm]; rfl
  have hc_Found : C_Found = cm 21 := by rw [← hcm]; rfl
  have hc_NotEnoughRows : C_NotEnoughRows = cm 16 := by rw [← hcm]; rfl
  have hc_NothingToRedo : C_NothingToRedo = cm 20 := by rw [← hcm]; rfl
  have hc_NothingToUndo : C_NothingToUndo = cm 19 := by rw [← hcm]; rfl
  have hc_UnknownName : C_UnknownName = cm 18 := by rw [← hcm]; rfl
  have hc_WidthsDiffer : C_WidthsDiffer = cm 8 := by rw [← hcm]; rfl
  have hc_ZeroBottom : C_ZeroBottom = cm 1 := by rw [← hcm]; rfl
  clear hcm
  subst hc_BadAdvice
  subst hc_BadBits
  subst hc_BadBlock
  subst hc_BadGate
  subst hc_BadLayer
  subst hc_BadLine
  subst hc_BadNode
  subst hc_BadOrder
  subst hc_BadPlaces
  subst hc_BadRow
  subst hc_BadRowText
  subst hc_BadShareText
  subst hc_BadWeight
  subst hc_ChanceError
  subst hc_EmptySource
  subst hc_Found
  subst hc_NotEnoughRows
  subst hc_NothingToRedo
  subst hc_NothingToUndo
  subst hc_UnknownName
  subst hc_WidthsDiffer
  subst hc_ZeroBottom
  have ex_NotEnoughRows_ChanceError := q_ex_NotEnoughRows_ChanceError
  have ek_NotEnoughRows := excB_ok q_ek_NotEnoughRows
  have no_NotEnoughRows_many : NoAttr K (cm 16) "many" := q_no_NotEnoughRows_many
  have ko_NotEnoughRows_ValueError := q_ko_NotEnoughRows_ValueError
  have ko_NotEnoughRows_NotEnoughRows := q_ko_NotEnoughRows_NotEnoughRows
  have ka_NotEnoughRows_15_10_14_11_13_17_12_9_7_4 := q_ka_NotEnoughRows_15_10_14_11_13_17_12_9_7_4
  have ka_NotEnoughRows_3_2_5_6_20_19_18 := q_ka_NotEnoughRows_3_2_5_6_20_19_18
  have ka_NotEnoughRows_8_1 := q_ka_NotEnoughRows_8_1
  have ik_Found := insB_ok q_ik_Found
  have no_Found_dangers : NoAttr K (cm 21) "dangers" := q_no_Found_dangers
  have no_Found_rows : NoAttr K (cm 21) "rows" := q_no_Found_rows
  have ko_Found_Found := q_ko_Found_Found
  have ty_Found := tyB_ok q_ty_Found
  have Fi_Found := fun_mk (st := si_Found) li_Found ci_Found ki_Found
  have bi_Found := Fi_Found.binds (ps := ["self", "rows", "dangers"]) fun _ _ _ _ _ _ us hl => match us, hl with | [_, _, _], _ => rfl
  have Fi_NotEnoughRows := fun_mk (st := si_NotEnoughRows) li_NotEnoughRows ci_NotEnoughRows ki_NotEnoughRows
  have bi_NotEnoughRows := Fi_NotEnoughRows.binds (ps := ["self", "many"]) fun _ _ _ _ _ _ us hl => match us, hl with | [_, _], _ => rfl
  have F1 := fun_mk (st := s_lowest) l1 c1 k1
  have b1 := F1.binds (ps := ["top", "bottom"]) fun _ _ _ _ _ _ us hl => match us, hl with | [_, _], _ => rfl
  have F2 := fun_mk (st := s_powers_of) l2 c2 k2
  have b2 := F2.binds (ps := ["number", "most"]) fun _ _ _ _ _ _ us hl => match us, hl with | [_, _], _ => rfl
  have F3 := fun_mk (st := s_first_fault) l3 c3 k3
  have b3 := F3.binds (ps := ["faults", "rows"]) fun _ _ _ _ _ _ us hl => match us, hl with | [_, _], _ => rfl
  have F4 := fun_mk (st := s_chance_table) l4 c4 k4
  have b4 := F4.binds (ps := ["wrong", "total", "many", "need"]) fun _ _ _ _ _ _ us hl => match us, hl with | [_, _, _, _], _ => rfl
  have F5 := fun_mk (st := s_fault_tables) l5 c5 k5
  have b5 := F5.binds (ps := ["faults", "parts", "many", "need"]) fun _ _ _ _ _ _ us hl => match us, hl with | [_, _, _, _], _ => rfl
  have F6 := fun_mk (st := s_danger_ways) l6 c6 k6
  have b6 := F6.binds (ps := ["tables", "needs", "draws"]) fun _ _ _ _ _ _ us hl => match us, hl with | [_, _, _], _ => rfl
  have F7 := fun_mk (st := s_least_row) l7 c7 k7
  have b7 := F7.binds (ps := ["faults", "tables", "needs", "draws"]) fun _ _ _ _ _ _ us hl => match us, hl with | [_, _, _, _], _ => rfl
  have F8 := fun_mk (st := s_found_rows) l8 c8 k8
  have F9 := fun_mk (st := s__law_whole) l9 c9 k9
  have b9 := F9.binds (ps := ["value"]) fun _ _ _ _ _ _ us hl => match us, hl with | [_], _ => rfl
  have F10 := fun_mk (st := s__law_cell) l10 c10 k10
  have b10 := F10.binds (ps := ["script", "k"]) fun _ _ _ _ _ _ us hl => match us, hl with | [_, _], _ => rfl
  have F11 := fun_mk (st := s__law_digits) l11 c11 k11
  have b11 := F11.binds (ps := ["cell", "sizes"]) fun _ _ _ _ _ _ us hl => match us, hl with | [_, _], _ => rfl
  have F12 := fun_mk (st := s__law_power) l12 c12 k12
  have b12 := F12.binds (ps := ["base", "count"]) fun _ _ _ _ _ _ us hl => match us, hl with | [_, _], _ => rfl
  have F13 := fun_mk (st := s__law_long_gcd) l13 c13 k13
  have b13 := F13.binds (ps := ["one", "two"]) fun _ _ _ _ _ _ us hl => match us, hl with | [_, _], _ => rfl
  have F14 := fun_mk (st := s__law_exactly) l14 c14 k14
  have b14 := F14.binds (ps := ["told", "top", "bottom"]) fun _ _ _ _ _ _ us hl => match us, hl with | [_, _, _], _ => rfl
  have F15 := fun_mk (st := s__law_parts) l15 c15 k15
  have b15 := F15.binds (ps := ["cell", "count"]) fun _ _ _ _ _ _ us hl => match us, hl with | [_, _], _ => rfl
  have F16 := fun_mk (st := s__law_wrong_bits) l16 c16 k16
  have b16 := F16.binds (ps := ["cell", "parts", "always"]) fun _ _ _ _ _ _ us hl => match us, hl with | [_, _, _], _ => rfl
  have F17 := fun_mk (st := s__law_spread) l17 c17 k17
  have b17 := F17.binds (ps := ["wrong", "total", "many"]) fun _ _ _ _ _ _ us hl => match us, hl with | [_, _, _], _ => rfl
  have F18 := fun_mk (st := s__law_spreads) l18 c18 k18
  have b18 := F18.binds (ps := ["faults", "parts", "many"]) fun _ _ _ _ _ _ us hl => match us, hl with | [_, _, _], _ => rfl
  have F19 := fun_mk (st := s__law_lengths) l19 c19 k19
  have b19 := F19.binds (ps := ["spreads", "total", "many"]) fun _ _ _ _ _ _ us hl => match us, hl with | [_, _, _], _ => rfl
  have F20 := fun_mk (st := s__law_path) l20 c20 k20
  have b20 := F20.binds (ps := ["faults", "total", "spreads", "many"]) fun _ _ _ _ _ _ us hl => match us, hl with | [_, _, _, _], _ => rfl
  have F21 := fun_mk (st := s__law_asked) l21 c21 k21
  have b21 := F21.binds (ps := ["faults", "heavy", "many", "style"]) fun _ _ _ _ _ _ us hl => match us, hl with | [_, _, _, _], _ => rfl
  have F22 := fun_mk (st := s__law_right) l22 c22 k22
  have b22 := F22.binds (ps := ["told", "faults", "total", "many", "due"]) fun _ _ _ _ _ _ us hl => match us, hl with | [_, _, _, _, _], _ => rfl
  have F23 := fun_mk (st := s__law_checked) l23 c23 k23
  have b23 := F23.binds (ps := ["faults", "heavy", "many", "spreads", "style"]) fun _ _ _ _ _ _ us hl => match us, hl with | [_, _, _, _, _], _ => rfl
  have F24 := fun_mk (st := s__law_picked) l24 c24 k24
  have b24 := F24.binds (ps := ["faults", "cell"]) fun _ _ _ _ _ _ us hl => match us, hl with | [_, _], _ => rfl
  have F25 := fun_mk (st := s_law) l25 c25 k25
  refine ⟨PySem.W.fnOf "law" "law" (defArgs s_law) (defBody s_law) (defScope s_law) .none kV25 dc25 pm25 an25 cd25 ct25, fun s v => .of_eq rfl, fun base _ _ => ?_⟩
  have mk_Found : MkC l.prog w K mg base cm 1 "Found" 21 ["rows", "dangers"] := ⟨fi_Found, _, _, ⟨mi1_Found, ai_Found, mi2_Found, mi3_Found⟩, oki_Found Fi_Found ik_Found.cls no_Found_rows no_Found_dangers, m_Found, bi_Found⟩
  have er_NotEnoughRows : ErrC l.prog w K mg base cm 1 "NotEnoughRows" 16 ["many"] := ⟨fi_NotEnoughRows, _, _, ek_NotEnoughRows.oex, ai_NotEnoughRows, ti_NotEnoughRows, oki_NotEnoughRows Fi_NotEnoughRows ek_NotEnoughRows.oex no_NotEnoughRows_many, m_NotEnoughRows, bi_NotEnoughRows⟩
  have c_lowest : FnC l.prog w K mg base cm 1 "lowest" F_lowest := fnC_mk F1 (PySem.W.mg_of X G a1) b1 (ok_lowest F1 m_gcd )
  have c_powers_of : FnC l.prog w K mg base cm 1 "powers_of" F_powers_of := fnC_mk F2 (PySem.W.mg_of X G a2) b2 (ok_powers_of F2 m_range )
  have c_first_fault : FnC l.prog w K mg base cm 1 "first_fault" F_first_fault := fnC_mk F3 (PySem.W.mg_of X G a3) b3 (ok_first_fault F3 m_len m_range m_sum )
  have c_chance_table : FnC l.prog w K mg base cm 1 "chance_table" F_chance_table := fnC_mk F4 (PySem.W.mg_of X G a4) b4 (ok_chance_table F4 m_max m_range )
  have c_fault_tables : FnC l.prog w K mg base cm 2 "fault_tables" F_fault_tables := fnC_mk F5 (PySem.W.mg_of X G a5) b5 (ok_fault_tables F5 m_sum m_zip c_chance_table)
  have c_danger_ways : FnC l.prog w K mg base cm 1 "danger_ways" F_danger_ways := fnC_mk F6 (PySem.W.mg_of X G a6) b6 (ok_danger_ways F6 m_max m_sum m_zip )
  have c_least_row : FnC l.prog w K mg base cm 2 "least_row" F_least_row := fnC_mk F7 (PySem.W.mg_of X G a7) b7 (ok_least_row F7 m_len m_range m_zip c_danger_ways)
  have o_found_rows := ok_found_rows (P := l.prog) (w := w) (mg := mg) (base := base) (cm := cm) F8 m_list m_range m_sum m_tuple m_zip c_fault_tables c_powers_of c_lowest c_danger_ways er_NotEnoughRows c_least_row mk_Found
  have U8 : FunD K "found_rows" "found_rows" (defArgs s_found_rows) (defBody s_found_rows) (defScope s_found_rows) [] [("weights", .non)] f8 _ := ⟨⟨_, _, _, _, _, _, _, _, _, _, rfl, l8, c8, .inl ⟨rfl, rfl⟩, .inr ⟨kD8, rfl, fun q hq => by
    simp only [List.mem_cons, List.not_mem_nil, or_false] at hq
    rcases hq with rfl
    · exact ⟨_, w8_0, rfl⟩
⟩⟩, k8⟩
  have xd_found_rows : FnXD l.prog w K mg base cm 3 "found_rows" [.non] F_found_rows := by
    obtain ⟨ds, hv, hb⟩ := U8.binds0 (ps := ["faults", "many", "weights"]) 2 (by simp) rfl fun D doc pm an cdv ct us ks hu hk => match us, ks, hu, hk with | [_, _], [_], _, _ => ⟨_, _, _, _, _, _, rfl, rfl, rfl⟩
    exact ⟨f8, _, _, _, ds, o_found_rows, PySem.W.mg_of X G a8, k8, hb, hv, fun G => (.cons .non .nil)⟩
  have xk_found_rows : FnXK l.prog w K mg base cm 3 "found_rows" 2 ["weights"] F_found_rows := by
    obtain ⟨mv, hb⟩ := U8.kbinds0 (ps := ["faults", "many", "weights"]) 2 ["weights"] [] (fun us _ ws => us ++ ws) (by simp) (fun q hq => by cases hq) (fun r1 _ r3 => r1.append r3) fun D doc pm an cdv ct us mv ws hu hm hw => match us, mv, ws, hu, hm, hw with | [_, _], [], [_], _, _, _ => rfl
    exact ⟨f8, _, _, _, o_found_rows, PySem.W.mg_of X G a8, k8, hb⟩
  have c__law_whole : FnC l.prog w K mg base cm 1 "_law_whole" F__law_whole := fnC_mk F9 (PySem.W.mg_of X G a9) b9 (ok__law_whole F9 m_bool m_int m_isinstance )
  have h__law_whole : FnHC l.prog w K mg base cm 1 "_law_whole" F__law_whole := ⟨f9, _, _, okh__law_whole F9 m_bool m_int m_isinstance , PySem.W.mg_of X G a9, k9, b9⟩
  have c__law_cell : FnC l.prog w K mg base cm 1 "_law_cell" F__law_cell := fnC_mk F10 (PySem.W.mg_of X G a10) b10 (ok__law_cell F10 m_int m_len )
  have c__law_digits : FnC l.prog w K mg base cm 1 "_law_digits" F__law_digits := fnC_mk F11 (PySem.W.mg_of X G a11) b11 (ok__law_digits F11 m_int m_len m_range )
  have c__law_power : FnC l.prog w K mg base cm 1 "_law_power" F__law_power := fnC_mk F12 (PySem.W.mg_of X G a12) b12 (ok__law_power F12 m_range )
  have c__law_long_gcd : FnC l.prog w K mg base cm 1 "_law_long_gcd" F__law_long_gcd := fnC_mk F13 (PySem.W.mg_of X G a13) b13 (ok__law_long_gcd F13 m_abs m_int m_range )
  have c__law_exactly : FnC l.prog w K mg base cm 2 "_law_exactly" F__law_exactly := fnC_mk F14 (PySem.W.mg_of X G a14) b14 (ok__law_exactly F14 m_isinstance m_len m_tuple c__law_whole c__law_long_gcd)
  have c__law_parts : FnC l.prog w K mg base cm 2 "_law_parts" F__law_parts := fnC_mk F15 (PySem.W.mg_of X G a15) b15 (ok__law_parts F15 m_int m_range c__law_digits)
  have c__law_wrong_bits : FnC l.prog w K mg base cm 2 "_law_wrong_bits" F__law_wrong_bits := fnC_mk F16 (PySem.W.mg_of X G a16) b16 (ok__law_wrong_bits F16 m_int m_len m_range m_sum c__law_digits)
  have c__law_spread : FnC l.prog w K mg base cm 1 "_law_spread" F__law_spread := fnC_mk F17 (PySem.W.mg_of X G a17) b17 (ok__law_spread F17 m_range )
  have c__law_spreads : FnC l.prog w K mg base cm 2 "_law_spreads" F__law_spreads := fnC_mk F18 (PySem.W.mg_of X G a18) b18 (ok__law_spreads F18 m_len m_range m_sum c__law_spread)
  have c__law_lengths : FnC l.prog w K mg base cm 2 "_law_lengths" F__law_lengths := fnC_mk F19 (PySem.W.mg_of X G a19) b19 (ok__law_lengths F19 m_range m_sum c__law_power)
  have c__law_path : FnC l.prog w K mg base cm 2 "_law_path" F__law_path := fnC_mk F20 (PySem.W.mg_of X G a20) b20 (ok__law_path F20 m_len m_max m_range m_sum c__law_power)
  have c__law_asked : FnC l.prog w K mg base cm 4 "_law_asked" F__law_asked := fnC_mk F21 (PySem.W.mg_of X G a21) b21 (ok__law_asked F21 m_BadAdvice m_BadBits m_BadBlock m_BadGate m_BadLayer m_BadLine m_BadNode m_BadOrder m_BadPlaces m_BadRow m_BadRowText m_BadShareText m_BadWeight m_ChanceError m_EmptySource m_NotEnoughRows m_NothingToRedo m_NothingToUndo m_UnknownName m_WidthsDiffer m_ZeroBottom m_ValueError m_int m_isinstance m_list m_tuple ex_NotEnoughRows_ChanceError xd_found_rows xk_found_rows ek_NotEnoughRows no_NotEnoughRows_many h__law_whole ko_NotEnoughRows_ValueError ko_NotEnoughRows_NotEnoughRows ka_NotEnoughRows_15_10_14_11_13_17_12_9_7_4 ka_NotEnoughRows_3_2_5_6_20_19_18 ka_NotEnoughRows_8_1)
  have c__law_right : FnC l.prog w K mg base cm 3 "_law_right" F__law_right := fnC_mk F22 (PySem.W.mg_of X G a22) b22 (ok__law_right F22 m_Found m_isinstance m_len m_list m_range m_sum m_tuple ik_Found no_Found_dangers no_Found_rows ko_Found_Found ty_Found c__law_power c__law_exactly c__law_whole c_first_fault)
  have c__law_checked : FnC l.prog w K mg base cm 5 "_law_checked" F__law_checked := fnC_mk F23 (PySem.W.mg_of X G a23) b23 (ok__law_checked F23 m_sum c__law_path c__law_asked c__law_right)
  have c__law_picked : FnC l.prog w K mg base cm 3 "_law_picked" F__law_picked := fnC_mk F24 (PySem.W.mg_of X G a24) b24 (ok__law_picked F24 m_isinstance m_len m_list m_range m_sum m_tuple c__law_digits c_first_fault c__law_whole mk_Found ik_Found no_Found_dangers no_Found_rows)
  exact (ok_law (cm := cm) F25 m_int m_len m_list m_max m_min m_range m_sum c__law_digits c__law_cell c__law_parts c__law_wrong_bits c__law_spreads c__law_lengths c__law_checked c__law_picked).imp fun vs H Q E => law_imp law_shape
end Pyl
open PySem PySem.W PyProof.Rows
set_option maxHeartbeats 0 in
theorem PySem.Challenge.cw_fooledortold_k69_found_rows_whole_holds : PySem.Challenge.rw_fooledortold_k69_found_rows_whole.Holds := by
  w_on; o_law; k_head; (case hw => w_witness2)
  k_fill
  refine L2.walk_of (l := PySem.Challenge.rw_fooledortold_k69_found_rows_whole) (n := 63) (k := 6) (x := "script") (CX := fun _ => L2.CX0) (sp := fun w => Pyl.spP _ (fun _ => 0) Pyl.F_law) rfl (by decide) rfl ⟨rfl, by decide, by decide⟩ (fun w h Y => PySem.W.kIn_of Y) ?F (fun _ _ a ns hl _ hS => Pyl.law_sp Pyl.law_true hl hS) (fun _ _ _ _ _ h => h)
  case F =>
    intro w mg fa h KX G hmg
    refine' Pyl.all_mk KX G hmg ?z_BadAdvice ?z_BadBits ?z_BadBlock ?z_BadGate ?z_BadLayer ?z_BadLine ?z_BadNode ?z_BadOrder ?z_BadPlaces ?z_BadRow ?z_BadRowText ?z_BadShareText ?z_BadWeight ?z_ChanceError ?z_EmptySource ?z_Found ?z_NotEnoughRows ?z_NothingToRedo ?z_NothingToUndo ?z_UnknownName ?z_WidthsDiffer ?z_ZeroBottom ?ai_Found ?li_Found ?ci_Found ?ki_Found ?mi1_Found ?mi2_Found ?mi3_Found ?ai_NotEnoughRows ?li_NotEnoughRows ?ci_NotEnoughRows ?ki_NotEnoughRows ?ti_NotEnoughRows ?q_ex_NotEnoughRows_ChanceError ?q_ek_NotEnoughRows ?q_no_NotEnoughRows_many ?q_ko_NotEnoughRows_ValueError ?q_ko_NotEnoughRows_NotEnoughRows ?q_ka_NotEnoughRows_15_10_14_11_13_17_12_9_7_4 ?q_ka_NotEnoughRows_3_2_5_6_20_19_18 ?q_ka_NotEnoughRows_8_1 ?q_ik_Found ?q_no_Found_dangers ?q_no_Found_rows ?q_ko_Found_Found ?q_ty_Found ?a1 ?l1 ?c1 ?k1 ?a2 ?l2 ?c2 ?k2 ?a3 ?l3 ?c3 ?k3 ?a4 ?l4 ?c4 ?k4 ?a5 ?l5 ?c5 ?k5 ?a6 ?l6 ?c6 ?k6 ?a7 ?l7 ?c7 ?k7 ?a8 ?l8 ?c8 ?k8 ?w8_0 ?a9 ?l9 ?c9 ?k9 ?a10 ?l10 ?c10 ?k10 ?a11 ?l11 ?c11 ?k11 ?a12 ?l12 ?c12 ?k12 ?a13 ?l13 ?c13 ?k13 ?a14 ?l14 ?c14 ?k14 ?a15 ?l15 ?c15 ?k15 ?a16 ?l16 ?c16 ?k16 ?a17 ?l17 ?c17 ?k17 ?a18 ?l18 ?c18 ?k18 ?a19 ?l19 ?c19 ?k19 ?a20 ?l20 ?c20 ?k20 ?a21 ?l21 ?c21 ?k21 ?a22 ?l22 ?c22 ?k22 ?a23 ?l23 ?c23 ?k23 ?a24 ?l24 ?c24 ?k24 ?a25 ?l25 ?c25 ?k25 ?z_gcd ?z_ValueError ?z_abs ?z_bool ?z_int ?z_isinstance ?z_len ?z_list ?z_max ?z_min ?z_range ?z_sum ?z_tuple ?z_zip
    (case z_BadAdvice => k_is)
    (case z_BadBits => k_is)
    (case z_BadBlock => k_is)
    (case z_BadGate => k_is)
    (case z_BadLayer => k_is)
    (case z_BadLine => k_is)
    (case z_BadNode => k_is)
    (case z_BadOrder => k_is)
    (case z_BadPlaces => k_is)
    (case z_BadRow => k_is)
    (case z_BadRowText => k_is)
    (case z_BadShareText => k_is)
    (case z_BadWeight => k_is)
    (case z_ChanceError => k_is)
    (case z_EmptySource => k_is)
    (case z_Found => k_is)
    (case z_NotEnoughRows => k_is)
    (case z_NothingToRedo => k_is)
    (case z_NothingToUndo => k_is)
    (case z_UnknownName => k_is)
    (case z_WidthsDiffer => k_is)
    (case z_ZeroBottom => k_is)
    (case ai_Found => k_is)
    (case li_Found => k_is)
    (case ci_Found => k_is)
    (case ki_Found => k_is)
    (case mi1_Found => first | k_is | kit_is | kernel_rfl)
    (case mi2_Found => first | k_is | kit_is | kernel_rfl)
    (case mi3_Found => first | k_is | kit_is | kernel_rfl)
    (case ai_NotEnoughRows => k_is)
    (case li_NotEnoughRows => k_is)
    (case ci_NotEnoughRows => k_is)
    (case ki_NotEnoughRows => k_is)
    (case ti_NotEnoughRows => k_is)
    (case q_ex_NotEnoughRows_ChanceError => first | k_is | kit_is | kernel_rfl)
    (case q_ek_NotEnoughRows => first | k_is | kit_is | kernel_rfl)
    (case q_no_NotEnoughRows_many => first | k_is | kit_is | kernel_rfl)
    (case q_ko_NotEnoughRows_ValueError => first | k_is | kit_is | kernel_rfl)
    (case q_ko_NotEnoughRows_NotEnoughRows => first | k_is | kit_is | kernel_rfl)
    (case q_ka_NotEnoughRows_15_10_14_11_13_17_12_9_7_4 => first | k_is | kit_is | kernel_rfl)
    (case q_ka_NotEnoughRows_3_2_5_6_20_19_18 => first | k_is | kit_is | kernel_rfl)
    (case q_ka_NotEnoughRows_8_1 => first | k_is | kit_is | kernel_rfl)
    (case q_ik_Found => first | k_is | kit_is | kernel_rfl)
    (case q_no_Found_dangers => first | k_is | kit_is | kernel_rfl)
    (case q_no_Found_rows => first | k_is | kit_is | kernel_rfl)
    (case q_ko_Found_Found => first | k_is | kit_is | kernel_rfl)
    (case q_ty_Found => first | k_is | kit_is | kernel_rfl)
    (case a1 => k_is)
    (case l1 => k_is)
    (case c1 => k_is)
    (case k1 => k_is)
    (case a2 => k_is)
    (case l2 => k_is)
    (case c2 => k_is)
    (case k2 => k_is)
    (case a3 => k_is)
    (case l3 => k_is)
    (case c3 => k_is)
    (case k3 => k_is)
    (case a4 => k_is)
    (case l4 => k_is)
    (case c4 => k_is)
    (case k4 => k_is)
    (case a5 => k_is)
    (case l5 => k_is)
    (case c5 => k_is)
    (case k5 => k_is)
    (case a6 => k_is)
    (case l6 => k_is)
    (case c6 => k_is)
    (case k6 => k_is)
    (case a7 => k_is)
    (case l7 => k_is)
    (case c7 => k_is)
    (case k7 => k_is)
    (case a8 => k_is)
    (case l8 => k_is)
    (case c8 => k_is)
    (case k8 => k_is)
    (case w8_0 => k_is)
    (case a9 => k_is)
    (case l9 => k_is)
    (case c9 => k_is)
    (case k9 => k_is)
    (case a10 => k_is)
    (case l10 => k_is)
    (case c10 => k_is)
    (case k10 => k_is)
    (case a11 => k_is)
    (case l11 => k_is)
    (case c11 => k_is)
    (case k11 => k_is)
    (case a12 => k_is)
    (case l12 => k_is)
    (case c12 => k_is)
    (case k12 => k_is)
    (case a13 => k_is)
    (case l13 => k_is)
    (case c13 => k_is)
    (case k13 => k_is)
    (case a14 => k_is)
    (case l14 => k_is)
    (case c14 => k_is)
    (case k14 => k_is)
    (case a15 => k_is)
    (case l15 => k_is)
    (case c15 => k_is)
    (case k15 => k_is)
    (case a16 => k_is)
    (case l16 => k_is)
    (case c16 => k_is)
    (case k16 => k_is)
    (case a17 => k_is)
    (case l17 => k_is)
    (case c17 => k_is)
    (case k17 => k_is)
    (case a18 => k_is)
    (case l18 => k_is)
    (case c18 => k_is)
    (case k18 => k_is)
    (case a19 => k_is)
    (case l19 => k_is)
    (case c19 => k_is)
    (case k19 => k_is)
    (case a20 => k_is)
    (case l20 => k_is)
    (case c20 => k_is)
    (case k20 => k_is)
    (case a21 => k_is)
    (case l21 => k_is)
    (case c21 => k_is)
    (case k21 => k_is)
    (case a22 => k_is)
    (case l22 => k_is)
    (case c22 => k_is)
    (case k22 => k_is)
    (case a23 => k_is)
    (case l23 => k_is)
    (case c23 => k_is)
    (case k23 => k_is)
    (case a24 => k_is)
    (case l24 => k_is)
    (case c24 => k_is)
    (case k24 => k_is)
    (case a25 => k_is)
    (case l25 => k_is)
    (case c25 => k_is)
    (case k25 => k_is)
    (case z_gcd => k_is)
    (case z_ValueError => k_is)
    (case z_abs => k_is)
    (case z_bool => k_is)
    (case z_int => k_is)
    (case z_isinstance => k_is)
    (case z_len => k_is)
    (case z_list => k_is)
    (case z_max => k_is)
    (case z_min => k_is)
    (case z_range => k_is)
    (case z_sum => k_is)
    (case z_tuple => k_is)
    (case z_zip => k_is)
end
