import PyProof.Rows.All
import Wide.All
import OpenK.AllK
import Wide.FinOn
import PySem.PyData
import PyProof.P3Statements
import PyProof.EqLayable
import PyProof.Rows.Walk
import HandS.ForMost
import HandS.Zip
import HandS.IsInst
import HandS.Wide
import HandS.WideBits
import HandS.TupAny
import KE.KUnpack
import HandS.Gcd
import KE.KMathGC
import PySem.Challenge.RW_fooledortold_k68_rows_told
section
set_option Elab.async false
set_option linter.all false
namespace Pyl
open PySem

/-- data: what a value denotes, without a heap. obj: an instance of the own class number c, by its attributes -/
inductive Dt where
  | non | bl (b : Bool) | int (i : Int) | str (x : Str) | lst (ds : List Dt) | tup (ds : List Dt) | obj (c : Nat) (fs : List (Str × Dt))

/-- an object that one name of the frame alone holds -/
inductive OD where
  | lst (ds : List Dt)
/-- what a name of the frame holds: nothing known | data | an object of its own | an object of its own that a loop walks just now -/
inductive Slot where
  | non | val (d : Dt) | own (o : OD) | take
abbrev Sl := List Slot
/-- what an expression gives: data | an object that a name holds, looked at | a new object -/
inductive R where
  | vis (d : Dt) | bor (d : Dt) | fre (o : OD)
def OD.dt : OD → Dt
  | .lst ds => .lst ds
def R.dt : R → Dt
  | .vis d => d
  | .bor d => d
  | .fre o => o.dt
def R.sh : R → Bool
  | .bor _ => true
  | _ => false

/-! ### expressions -/
abbrev EF := Sl → Option R
abbrev TF := Sl → Option Bool
abbrev AF := Sl → Option (List (Dt × Bool))
def eVar (i : Nat) : EF := fun env => match env[i]? with
  | some (.val d) => some (.vis d)
  | some (.own (.lst ds)) => some (.bor (.lst ds))
  | _ => none
def eC (d : Dt) : EF := fun _ => some (.vis d)
/-- an operation of one, of two data, the answer a scalar or a new object -/
def e1 (p : Dt → Option R) (fa : EF) : EF := fun env => (fa env).bind fun a => p a.dt
def e2 (p : Dt → Dt → Option R) (fa fb : EF) : EF := fun env => (fa env).bind fun a => (fb env).bind fun b => p a.dt b.dt
def aNil : AF := fun _ => some []
def aCons (fa : EF) (fr : AF) : AF := fun env => (fa env).bind fun a => (fr env).bind fun r => some ((a.dt, a.sh) :: r)
/-- all data, none of them borrowed -/
def plain (rs : List (Dt × Bool)) : Option (List Dt) := if rs.any (·.2) then none else some (rs.map (·.1))
def eTup (fa : AF) : EF := fun env => (fa env).bind fun rs => (plain rs).bind fun ds => some (.vis (.tup ds))
def eLst (fa : AF) : EF := fun env => (fa env).bind fun rs => (plain rs).bind fun ds => some (.fre (.lst ds))
def Dt.scalar : Dt → Bool
  | .non | .bl _ | .int _ | .str _ => true
  | _ => false
abbrev FN := List Dt → Option Dt
def eCall (F : FN) (fa : AF) : EF := fun env => (fa env).bind fun rs => (F (rs.map (·.1))).bind fun d => if rs.any (·.2) && !d.scalar then none else some (.vis d)
def eIf (ft : TF) (fa fb : EF) : EF := fun env => (ft env).bind fun t => if t then fa env else fb env
/-- and, or, not as values (bools) -/
def eAnd (fa fb : EF) : EF := fun env => match fa env with
  | some (.vis (.bl true)) => fb env
  | some (.vis (.bl false)) => some (.vis (.bl false))
  | _ => none
def eOr (fa fb : EF) : EF := fun env => match fa env with
  | some (.vis (.bl true)) => some (.vis (.bl true))
  | some (.vis (.bl false)) => fb env
  | _ => none
def eNot (fa : EF) : EF := fun env => match fa env with
  | some (.vis (.bl b)) => some (.vis (.bl (!b)))
  | _ => none
/-! ### tests -/
def tVal (fa : EF) : TF := fun env => match fa env with
  | some (.vis (.bl b)) => some b
  | _ => none
def tAnd (a b : TF) : TF := fun env => (a env).bind fun t => if t then b env else some false
def tOr (a b : TF) : TF := fun env => (a env).bind fun t => if t then some true else b env
def tNot (a : TF) : TF := fun env => (a env).bind fun t => some (!t)

/-! ### operations on data -/
def LIM : Nat := 4194304
@[irreducible] def BIG : Nat := 2 ^ 400000
@[irreducible] def DIVB : Nat := 2 ^ 8999
theorem BIG_eq : BIG = 2 ^ 400000 := by unfold BIG; rfl
theorem DIVB_eq : DIVB = 2 ^ 8999 := by unfold DIVB; rfl
def pIntI (c : Int → Int → Option Int) : Dt → Dt → Option R
  | .int i, .int j => (c i j).map fun k => .vis (.int k)
  | _, _ => none
def pAdd : Dt → Dt → Option R
  | .int i, .int j => some (.vis (.int (i + j)))
  | .lst a, .lst b => if a.length + b.length ≤ LIM then some (.fre (.lst (a ++ b))) else none
  | .tup a, .tup b => if a.length + b.length ≤ LIM then some (.vis (.tup (a ++ b))) else none
  | .str a, .str b => if a.length + b.length ≤ LIM then some (.vis (.str (a ++ b))) else none
  | _, _ => none
def pSub : Dt → Dt → Option R := pIntI fun i j => some (i - j)
def pMul : Dt → Dt → Option R
  | .int i, .int j => if i.natAbs < BIG ∧ j.natAbs < BIG then some (.vis (.int (i * j))) else none
  | _, _ => none
def pDiv : Dt → Dt → Option R := pIntI fun i j => if 0 < j ∧ j.natAbs < DIVB then some (i / j) else none
def pMod : Dt → Dt → Option R := pIntI fun i j => if 0 < j then some (i % j) else none
def pPow : Dt → Dt → Option R := pIntI fun i j => if 0 ≤ j ∧ j ≤ 1000000 ∧ i.natAbs < 2 ^ 64 then some (i ^ j.toNat) else none
def pShl : Dt → Dt → Option R := pIntI fun i j => if 0 ≤ j ∧ j ≤ 100000 ∧ i.natAbs < BIG then some (i * 2 ^ j.toNat) else none
def pShr : Dt → Dt → Option R := pIntI fun i j => if 0 ≤ j then some (i / 2 ^ j.toNat) else none
def pNeg : Dt → Option R
  | .int i => some (.vis (.int (-i)))
  | _ => none
def pCmp (c : Int → Int → Bool) : Dt → Dt → Option R
  | .int i, .int j => some (.vis (.bl (c i j)))
  | _, _ => none
def pLt := pCmp fun i j => decide (i < j)
def pLe := pCmp fun i j => decide (i ≤ j)
def pGt := pCmp fun i j => decide (j < i)
def pGe := pCmp fun i j => decide (j ≤ i)
mutual
def Dt.py : Dt → Option PyData
  | .non => some .none
  | .bl b => some (.bool b)
  | .int i => some (.int i)
  | .str x => some (.str x)
  | .lst ds => (Dt.pyL ds).map .list
  | .tup ds => (Dt.pyL ds).map .tuple
  | .obj _ _ => none
def Dt.pyL : List Dt → Option (List PyData)
  | [] => some []
  | d :: ds => (Dt.py d).bind fun p => (Dt.pyL ds).bind fun r => some (p :: r)
end
/-- == of data -/
def eqD (a b : Dt) : Option Bool := (a.py).bind fun p => (b.py).bind fun q => if SeqAt.shaped p && SeqAt.shaped q then some (PyData.eqv p q) else none
def pEq (a b : Dt) : Option R := (eqD a b).map fun t => .vis (.bl t)
def pNe (a b : Dt) : Option R := (eqD a b).map fun t => .vis (.bl (!t))
def Dt.isNon : Dt → Bool
  | .non => true
  | _ => false
def pIsN (a : Dt) : Option R := some (.vis (.bl a.isNon))
def pNotN (a : Dt) : Option R := some (.vis (.bl (!a.isNon)))
def atL {α : Type} (ds : List α) (i : Int) : Option α := if 0 ≤ i then ds[i.toNat]? else if -(ds.length : Int) ≤ i then ds[(i + ds.length).toNat]? else none
def pIx : Dt → Dt → Option R
  | .lst ds, .int i => (atL ds i).map .vis
  | .tup ds, .int i => (atL ds i).map .vis
  | .str z, .int i => if z.length ≤ LIM then (atL z.cps.toList i).map fun c => .vis (.str ⟨#[c]⟩) else none
  | _, _ => none
/-- the bounds of a slice, as the interpreter makes them -/
def sIx (n : Nat) (dflt : Nat) : Option Int → Nat
  | none => dflt
  | some i => if 0 ≤ i then min i.toNat n else (i + n).toNat
def cutD (ds : List Dt) (lo hi : Option Int) : List Dt := (ds.drop (sIx ds.length 0 lo)).take (sIx ds.length ds.length hi - sIx ds.length 0 lo)
abbrev OF := Sl → Option (Option Int)
def oNone : OF := fun _ => some none
def oSome (fa : EF) : OF := fun env => match fa env with
  | some (.vis (.int i)) => some (some i)
  | _ => none
def eSlice (fa : EF) (lo hi : OF) : EF := fun env => (fa env).bind fun a => (lo env).bind fun l => (hi env).bind fun h => match a.dt with
  | .lst ds => some (.fre (.lst (cutD ds l h)))
  | .tup ds => some (.vis (.tup (cutD ds l h)))
  | _ => none
/-! built-in functions -/
def pLen : Dt → Option R
  | .lst ds => some (.vis (.int ds.length))
  | .tup ds => some (.vis (.int ds.length))
  | _ => none
def pInt : Dt → Option R
  | .int i => some (.vis (.int i))
  | .bl b => some (.vis (.int (if b then 1 else 0)))
  | _ => none
def pAbs : Dt → Option R
  | .int i => some (.vis (.int (if i < 0 then -i else i)))
  | _ => none
def intsOf : List Dt → Option (List Int)
  | [] => some []
  | .int i :: ds => (intsOf ds).map (i :: ·)
  | _ => none
def pSum : Dt → Option R
  | .lst ds => (intsOf ds).map fun ns => .vis (.int ns.sum)
  | _ => none
def pMax2 : Dt → Dt → Option R
  | .int i, .int j => some (.vis (.int (if j > i then j else i)))
  | _, _ => none
def pMin2 : Dt → Dt → Option R
  | .int i, .int j => some (.vis (.int (if j < i then j else i)))
  | _, _ => none
def chooseN : Nat → Nat → Nat
  | _, 0 => 1
  | 0, _ + 1 => 0
  | n + 1, k + 1 => chooseN n k + chooseN n (k + 1)
def pGcd : Dt → Dt → Option R
  | .int i, .int j => some (.vis (.int (Nat.gcd i.natAbs j.natAbs : Nat)))
  | _, _ => none
def pComb : Dt → Dt → Option R
  | .int i, .int j => if 0 ≤ i ∧ i ≤ 9000 ∧ 0 ≤ j then some (.vis (.int (chooseN i.toNat j.toNat : Nat))) else none
  | _, _ => none
/-- a op b op' c -/
def eChain (p q : Dt → Dt → Option R) (fa fb fc : EF) : EF := fun env => (fa env).bind fun a => (fb env).bind fun b => match p a.dt b.dt with
  | some (.vis (.bl true)) => (fc env).bind fun c => q b.dt c.dt
  | some (.vis (.bl false)) => some (.vis (.bl false))
  | _ => none
def pList : Dt → Option R
  | .lst ds => some (.fre (.lst ds))
  | .tup ds => some (.fre (.lst ds))
  | _ => none
def pTuple : Dt → Option R
  | .lst ds => some (.vis (.tup ds))
  | .tup ds => some (.vis (.tup ds))
  | _ => none
/-- isinstance(x, T), T a built-in type by its name -/
def Dt.ty : Dt → Option String
  | .non => some "NoneType"
  | .bl _ => some "bool"
  | .int _ => some "int"
  | .str _ => some "str"
  | .lst _ => some "list"
  | .tup _ => some "tuple"
  | .obj _ _ => none
def isTy (T : String) (d : Dt) : Option Bool := d.ty.map fun t => t == T || (t == "bool" && T == "int")
def pIsi (T : String) (d : Dt) : Option R := (isTy T d).map fun b => .vis (.bl b)

/-! ### what a loop or a comprehension walks -/
abbrev IF := Sl → Option (List Dt × Bool)
def iSeq (fa : EF) : IF := fun env => (fa env).bind fun a => match a.dt with
  | .lst ds => some (ds, a.sh)
  | .tup ds => some (ds, a.sh)
  | _ => none
def rngD (lo : Int) (n : Nat) : List Dt := (List.range n).map fun i : Nat => .int (lo + (i : Int))
def iRange1 (fa : EF) : IF := fun env => match fa env with
  | some (.vis (.int n)) => if n < 4611686018427387904 ∧ -4611686018427387904 ≤ n then some (rngD 0 n.toNat, false) else none
  | _ => none
def iRange2 (fa fb : EF) : IF := fun env => (fa env).bind fun a => (fb env).bind fun b => match a.dt, b.dt with
  | .int lo, .int hi => if -4611686018427387904 ≤ lo ∧ lo < 4611686018427387904 ∧ -4611686018427387904 ≤ hi ∧ hi < 4611686018427387904 then some (rngD lo (hi - lo).toNat, false) else none
  | _, _ => none
/-- how many numbers range(a, b, c) has, c above 0 or -1 -/
def stepN (a b c : Int) : Nat := if 0 < c then (if a < b then ((b - a - 1) / c + 1).toNat else 0) else (a - b).toNat
def stepD (a c : Int) (n : Nat) : List Dt := (List.range n).map fun k : Nat => .int (a + (k : Int) * c)
def iRange3 (fa fb fc : EF) : IF := fun env => (fa env).bind fun a => (fb env).bind fun b => (fc env).bind fun c => match a.dt, b.dt, c.dt with
  | .int i, .int j, .int k => if ((0 < k ∧ k < 1073741824) ∨ k = -1) ∧ (-1099511627776 ≤ i ∧ i ≤ 1099511627776) ∧ -1099511627776 ≤ j ∧ j ≤ 1099511627776 then some (stepD i k (stepN i j k), false) else none
  | _, _, _ => none
def seqOf : Dt → Option (List Dt)
  | .lst ds => some ds
  | .tup ds => some ds
  | _ => none
def iZip (fa fb : EF) : IF := fun env => (fa env).bind fun a => (fb env).bind fun b => (seqOf a.dt).bind fun xs => (seqOf b.dt).bind fun ys =>
  some (List.zipWith (fun x y => Dt.tup [x, y]) xs ys, a.sh || b.sh)
/-- targets -/
abbrev GF := Dt → Sl → Option Sl
def gN (i : Nat) : GF := fun d env => some (env.set i (.val d))
def gsN : List Nat → List Dt → Sl → Option Sl
  | [], [], env => some env
  | i :: is, d :: ds, env => gsN is ds (env.set i (.val d))
  | _, _, _ => none
def gT (is : List Nat) : GF := fun d env => match d with
  | .tup ds => gsN is ds env
  | .lst ds => gsN is ds env
  | _ => none
def wipeS (env : Sl) : List Nat → Sl
  | [] => env
  | i :: is => (wipeS env is).set i .non
/-- one turn of a comprehension -/
def compG (env : Sl) (own : List Nat) (g : GF) (t : TF) (e : EF) (d : Dt) : Option (List Dt) := (g d (wipeS env own)).bind fun env' => (t env').bind fun b => if b then (e env').bind fun r => if r.sh then none else some [r.dt] else some []
def compL (g : Dt → Option (List Dt)) : List Dt → Option (List Dt)
  | [] => some []
  | d :: ds => (g d).bind fun o => (compL g ds).bind fun r => some (o ++ r)
def tYes : TF := fun _ => some true
def eComp (own : List Nat) (i : IF) (g : GF) (t : TF) (e : EF) : EF := fun env => (i env).bind fun ds => (compL (compG env own g t e) ds.1).bind fun out => if ds.1.length ≤ LIM then some (.fre (.lst out)) else none

/-! ### statements -/
structure En where
  nx : Sl → Prop
  rt : Dt → Prop
  bk : Sl → Prop
  ct : Sl → Prop
abbrev WS := En → Sl → Prop
def wNil : WS := fun D env => D.nx env
def wSeq (a b : WS) : WS := fun D env => ∃ M : Sl → Prop, a { D with nx := M } env ∧ ∀ e, M e → b D e
def R.slot : R → Slot
  | .vis d => .val d
  | .fre o => .own o
  | .bor _ => .non
def wAsg (i : Nat) (e : EF) : WS := fun D env => ∃ r, e env = some r ∧ r.sh = false ∧ D.nx (env.set i r.slot)
def wUnp (is : List Nat) (e : EF) : WS := fun D env => ∃ d env', e env = some (.vis d) ∧ gT is d env = some env' ∧ D.nx env'
def wRet (e : EF) : WS := fun D env => ∃ r, e env = some r ∧ r.sh = false ∧ D.rt r.dt
def wRetN : WS := fun D _ => D.rt .non
def wIf (t : TF) (a b : WS) : WS := fun D env => ∃ c, t env = some c ∧ ((c = true → a D env) ∧ (c = false → b D env))
def wDrop (e : EF) : WS := fun D env => ∃ r, e env = some r ∧ D.nx env
def wApp (i : Nat) (e : EF) : WS := fun D env => ∃ ds r, env[i]? = some (.own (.lst ds)) ∧ e env = some r ∧ r.sh = false ∧ ds.length < LIM ∧ D.nx (env.set i (.own (.lst (ds ++ [r.dt]))))
/-- xs[k] = e -/
def wPut (i : Nat) (k e : EF) : WS := fun D env => ∃ ds r j, env[i]? = some (.own (.lst ds)) ∧ e env = some r ∧ r.sh = false ∧ k env = some (.vis (.int j)) ∧ -(ds.length : Int) ≤ j ∧ j < ds.length ∧ D.nx (env.set i (.own (.lst (ds.set (if 0 ≤ j then j else j + ds.length).toNat r.dt))))
/-- never come to -/
def wDead : WS := fun _ _ => False
def wBrk : WS := fun D env => D.bk env
def wCnt : WS := fun D env => D.ct env
def wFor (fi : IF) (g : GF) (b : WS) : WS := fun D env => ∃ ds, fi env = some (ds, false) ∧ ∃ I : Nat → Sl → Prop, I 0 env ∧
  (∀ i env d, ds[i]? = some d → I i env → ∃ env', g d env = some env' ∧ b { D with nx := I (i + 1), bk := D.nx, ct := I (i + 1) } env') ∧ ∀ env, I ds.length env → D.nx env
/-- over a list of one's own, that the body leaves alone -/
def wForO (k : Nat) (g : GF) (b : WS) : WS := fun D env => ∃ ds, env[k]? = some (.own (.lst ds)) ∧ ∃ I : Nat → Sl → Prop, I 0 (env.set k .take) ∧
  (∀ i env d, ds[i]? = some d → I i env → ∃ env', g d env = some env' ∧ b { D with nx := I (i + 1), bk := fun e => e[k]? = some .take ∧ D.nx (e.set k (.own (.lst ds))), ct := I (i + 1) } env') ∧
  ∀ env, I ds.length env → env[k]? = some .take ∧ D.nx (env.set k (.own (.lst ds)))
def wWhile (t : TF) (b : WS) : WS := fun D env => ∃ I : Nat → Sl → Prop, (∃ m, I m env) ∧ ∀ m env, I m env → ∃ c, t env = some c ∧
  ((c = true → b { D with nx := fun e => ∃ m', m' < m ∧ I m' e, bk := D.nx, ct := fun e => ∃ m', m' < m ∧ I m' e } env) ∧ (c = false → D.nx env))
/-- what a name holds is from now on data -/
def frzS (i : Nat) (env : Sl) : Sl := match env[i]? with
  | some (.own o) => env.set i (.val o.dt)
  | _ => env
def wFrz (i : Nat) (a : WS) : WS := fun D env => a D (frzS i env)
def startE (n : Nat) (ds : List Dt) : Sl := ds.map .val ++ List.replicate (n - ds.length) .non
/-- a def keeps the function F -/
def Keeps (n : Nat) (w : WS) (F : FN) : Prop := ∀ ds r, F ds = some r → w ⟨fun _ => r = .non, fun d => d = r, fun _ => False, fun _ => False⟩ (startE n ds)
end Pyl
end
section
set_option Elab.async false
set_option linter.all false
namespace Pyl
open PySem
/-! ### one step at a time: all by what the words mean -/
section
variable {env : Sl} {D : En} {a b : WS} {fa fb : EF} {ft fu : TF} {i : Nat} {d e : Dt} {x y : Int} {ds es : List Dt}
theorem wNil_at : wNil D env = D.nx env := rfl
theorem q_go (h : a { D with nx := b D } env) : wSeq a b D env := ⟨b D, h, fun _ h => h⟩
theorem wAsg_at : wAsg i fa D env = ∃ r, fa env = some r ∧ r.sh = false ∧ D.nx (env.set i r.slot) := rfl
theorem wUnp_at {is : List Nat} : wUnp is fa D env = ∃ d env', fa env = some (.vis d) ∧ gT is d env = some env' ∧ D.nx env' := rfl
theorem wRet_at : wRet fa D env = ∃ r, fa env = some r ∧ r.sh = false ∧ D.rt r.dt := rfl
theorem wRetN_at : wRetN D env = D.rt .non := rfl
theorem wIf_at : wIf ft a b D env = ∃ c, ft env = some c ∧ ((c = true → a D env) ∧ (c = false → b D env)) := rfl
theorem wDrop_at : wDrop fa D env = ∃ r, fa env = some r ∧ D.nx env := rfl
theorem wApp_at : wApp i fa D env = ∃ ds r, env[i]? = some (.own (.lst ds)) ∧ fa env = some r ∧ r.sh = false ∧ ds.length < LIM ∧ D.nx (env.set i (.own (.lst (ds ++ [r.dt])))) := rfl
theorem wPut_at : wPut i fb fa D env = ∃ ds r j, env[i]? = some (.own (.lst ds)) ∧ fa env = some r ∧ r.sh = false ∧ fb env = some (.vis (.int j)) ∧ -(ds.length : Int) ≤ j ∧ j < ds.length ∧ D.nx (env.set i (.own (.lst (ds.set (if 0 ≤ j then j else j + ds.length).toNat r.dt)))) := rfl
theorem wBrk_at : wBrk D env = D.bk env := rfl
theorem wCnt_at : wCnt D env = D.ct env := rfl
theorem wFrz_at : wFrz i a D env = a D (frzS i env) := rfl
theorem frzS_own {o : OD} (h : env[i]? = some (.own o)) : frzS i env = env.set i (.val o.dt) := by unfold frzS; rw [h]
theorem frzS_val (h : env[i]? = some (.val d)) : frzS i env = env := by unfold frzS; rw [h]
theorem frzS_at : frzS i env = match env[i]? with
  | some (.own o) => env.set i (.val o.dt)
  | _ => env := rfl
theorem eVar_at : eVar i env = match env[i]? with
  | some (.val d) => some (.vis d)
  | some (.own (.lst ds)) => some (.bor (.lst ds))
  | _ => none := rfl
theorem eC_at : eC d env = some (.vis d) := rfl
theorem e1_at {p : Dt → Option R} : e1 p fa env = (fa env).bind fun a => p a.dt := rfl
theorem e2_at {p : Dt → Dt → Option R} : e2 p fa fb env = (fa env).bind fun a => (fb env).bind fun b => p a.dt b.dt := rfl
theorem aNil_at : aNil env = some [] := rfl
theorem aCons_at {fr : AF} : aCons fa fr env = (fa env).bind fun a => (fr env).bind fun r => some ((a.dt, a.sh) :: r) := rfl
theorem eTup_at {fr : AF} : eTup fr env = (fr env).bind fun rs => (plain rs).bind fun ds => some (.vis (.tup ds)) := rfl
theorem eLst_at {fr : AF} : eLst fr env = (fr env).bind fun rs => (plain rs).bind fun ds => some (.fre (.lst ds)) := rfl
theorem plain_nil : plain [] = some [] := rfl
theorem plain_cons {rs : List (Dt × Bool)} : plain ((d, false) :: rs) = (plain rs).map (d :: ·) := by
  unfold plain
  rw [List.any_cons, Bool.false_or, List.map_cons]
  split <;> rfl
theorem eCall_at {F : FN} {fr : AF} : eCall F fr env = (fr env).bind fun rs => (F (rs.map (·.1))).bind fun d => if rs.any (·.2) && !d.scalar then none else some (.vis d) := rfl
theorem eIf_at : eIf ft fa fb env = (ft env).bind fun t => if t then fa env else fb env := rfl
theorem eAnd_at : eAnd fa fb env = match fa env with
  | some (.vis (.bl true)) => fb env
  | some (.vis (.bl false)) => some (.vis (.bl false))
  | _ => none := rfl
theorem eOr_at : eOr fa fb env = match fa env with
  | some (.vis (.bl true)) => some (.vis (.bl true))
  | some (.vis (.bl false)) => fb env
  | _ => none := rfl
theorem eNot_at : eNot fa env = match fa env with
  | some (.vis (.bl b)) => some (.vis (.bl (!b)))
  | _ => none := rfl
theorem tVal_at : tVal fa env = match fa env with
  | some (.vis (.bl b)) => some b
  | _ => none := rfl
theorem tAnd_at : tAnd ft fu env = (ft env).bind fun t => if t then fu env else some false := rfl
theorem tOr_at : tOr ft fu env = (ft env).bind fun t => if t then some true else fu env := rfl
theorem tNot_at : tNot ft env = (ft env).bind fun t => some (!t) := rfl
theorem tYes_at : tYes env = some true := rfl
theorem pAdd_int : pAdd (.int x) (.int y) = some (.vis (.int (x + y))) := rfl
theorem pAdd_lst (h : ds.length + es.length ≤ LIM) : pAdd (.lst ds) (.lst es) = some (.fre (.lst (ds ++ es))) := if_pos h
theorem pAdd_tup (h : ds.length + es.length ≤ LIM) : pAdd (.tup ds) (.tup es) = some (.vis (.tup (ds ++ es))) := if_pos h
theorem pSub_int : pSub (.int x) (.int y) = some (.vis (.int (x - y))) := rfl
theorem pMul_int (h1 : x.natAbs < BIG) (h2 : y.natAbs < BIG) : pMul (.int x) (.int y) = some (.vis (.int (x * y))) := if_pos ⟨h1, h2⟩
theorem pDiv_int (h1 : 0 < y) (h2 : y.natAbs < DIVB) : pDiv (.int x) (.int y) = some (.vis (.int (x / y))) := by
  show (if 0 < y ∧ y.natAbs < DIVB then some (x / y) else none).map _ = _
  rw [if_pos ⟨h1, h2⟩]
  rfl
theorem pMod_int (h1 : 0 < y) : pMod (.int x) (.int y) = some (.vis (.int (x % y))) := by
  show (if 0 < y then some (x % y) else none).map _ = _
  rw [if_pos h1]
  rfl
theorem pPow_int (h1 : 0 ≤ y) (h2 : y ≤ 1000000) (h3 : x.natAbs < 2 ^ 64) : pPow (.int x) (.int y) = some (.vis (.int (x ^ y.toNat))) := by
  show (if 0 ≤ y ∧ y ≤ 1000000 ∧ x.natAbs < 2 ^ 64 then some (x ^ y.toNat) else none).map _ = _
  rw [if_pos ⟨h1, h2, h3⟩]
  rfl
theorem pShl_int (h1 : 0 ≤ y) (h2 : y ≤ 100000) (h3 : x.natAbs < BIG) : pShl (.int x) (.int y) = some (.vis (.int (x * 2 ^ y.toNat))) := by
  show (if 0 ≤ y ∧ y ≤ 100000 ∧ x.natAbs < BIG then some (x * 2 ^ y.toNat) else none).map _ = _
  rw [if_pos ⟨h1, h2, h3⟩]
  rfl
theorem pShr_int (h1 : 0 ≤ y) : pShr (.int x) (.int y) = some (.vis (.int (x / 2 ^ y.toNat))) := by
  show (if 0 ≤ y then some (x / 2 ^ y.toNat) else none).map _ = _
  rw [if_pos h1]
  rfl
theorem pNeg_int : pNeg (.int x) = some (.vis (.int (-x))) := rfl
theorem pLt_int : pLt (.int x) (.int y) = some (.vis (.bl (decide (x < y)))) := rfl
theorem pLe_int : pLe (.int x) (.int y) = some (.vis (.bl (decide (x ≤ y)))) := rfl
theorem pGt_int : pGt (.int x) (.int y) = some (.vis (.bl (decide (y < x)))) := rfl
theorem pGe_int : pGe (.int x) (.int y) = some (.vis (.bl (decide (y ≤ x)))) := rfl
theorem shaped_int (x : Int) : SeqAt.shaped (.int x) = true := rfl
theorem eqD_int : eqD (.int x) (.int y) = some (decide (x = y)) := by
  show (if SeqAt.shaped (.int x) && SeqAt.shaped (.int y) then some (PyData.eqv (.int x) (.int y)) else none) = _
  rw [shaped_int, shaped_int]
  show some (x == y) = _
  by_cases h : x = y <;> simp [h]
theorem pEq_int : pEq (.int x) (.int y) = some (.vis (.bl (decide (x = y)))) := by unfold pEq; rw [eqD_int]; rfl
theorem pNe_int : pNe (.int x) (.int y) = some (.vis (.bl (!decide (x = y)))) := by unfold pNe; rw [eqD_int]; rfl
theorem pIsN_at : pIsN d = some (.vis (.bl d.isNon)) := rfl
theorem pNotN_at : pNotN d = some (.vis (.bl (!d.isNon))) := rfl
theorem pIx_lst : pIx (.lst ds) (.int x) = (atL ds x).map .vis := rfl
theorem pIx_tup : pIx (.tup ds) (.int x) = (atL ds x).map .vis := rfl
theorem atL_nat {α : Type} {l : List α} {n : Nat} : atL l (n : Int) = l[n]? := by
  unfold atL
  rw [if_pos (Int.natCast_nonneg n), Int.toNat_natCast]
theorem atL_of_get {α : Type} {l : List α} {z : Int} {v : α} (h0 : 0 ≤ z) (h : l[z.toNat]? = some v) : atL l z = some v := by
  unfold atL
  rw [if_pos h0, h]
theorem atL_zero {α : Type} {a : α} {l : List α} : atL (a :: l) 0 = some a := rfl
theorem atL_last {α : Type} {a : α} {l : List α} : atL (l ++ [a]) (-1) = some a := by
  unfold atL
  rw [if_neg (by decide), if_pos (by rw [List.length_append, List.length_singleton]; omega)]
  rw [show (-1 + ((l ++ [a]).length : Int)).toNat = l.length by rw [List.length_append, List.length_singleton]; omega]
  rw [List.getElem?_append_right (Nat.le_refl _), Nat.sub_self]
  rfl
theorem oNone_at : oNone env = some none := rfl
theorem oSome_at : oSome fa env = match fa env with
  | some (.vis (.int i)) => some (some i)
  | _ => none := rfl
theorem eSlice_at {lo hi : OF} : eSlice fa lo hi env = (fa env).bind fun a => (lo env).bind fun l => (hi env).bind fun h => match a.dt with
  | .lst ds => some (.fre (.lst (cutD ds l h)))
  | .tup ds => some (.vis (.tup (cutD ds l h)))
  | _ => none := rfl
theorem pLen_lst : pLen (.lst ds) = some (.vis (.int ds.length)) := rfl
theorem pLen_tup : pLen (.tup ds) = some (.vis (.int ds.length)) := rfl
theorem pInt_int : pInt (.int x) = some (.vis (.int x)) := rfl
theorem pInt_bl {t : Bool} : pInt (.bl t) = some (.vis (.int (if t then 1 else 0))) := rfl
theorem pAbs_int : pAbs (.int x) = some (.vis (.int (if x < 0 then -x else x))) := rfl
theorem pSum_lst {ns : List Int} (h : intsOf ds = some ns) : pSum (.lst ds) = some (.vis (.int ns.sum)) := by
  show (intsOf ds).map _ = _
  rw [h]
  rfl
theorem intsOf_ints : ∀ ns : List Int, intsOf (ns.map Dt.int) = some ns
  | [] => rfl
  | n :: ns => by
    rw [List.map_cons]
    unfold intsOf
    rw [intsOf_ints ns]
    rfl
theorem pSum_ints {ns : List Int} : pSum (.lst (ns.map .int)) = some (.vis (.int ns.sum)) := pSum_lst (intsOf_ints ns)
theorem pMax2_int : pMax2 (.int x) (.int y) = some (.vis (.int (if y > x then y else x))) := rfl
theorem pMin2_int : pMin2 (.int x) (.int y) = some (.vis (.int (if y < x then y else x))) := rfl
theorem pList_lst : pList (.lst ds) = some (.fre (.lst ds)) := rfl
theorem pList_tup : pList (.tup ds) = some (.fre (.lst ds)) := rfl
theorem pTuple_lst : pTuple (.lst ds) = some (.vis (.tup ds)) := rfl
theorem pTuple_tup : pTuple (.tup ds) = some (.vis (.tup ds)) := rfl
theorem iSeq_at : iSeq fa env = (fa env).bind fun a => match a.dt with
  | .lst ds => some (ds, a.sh)
  | .tup ds => some (ds, a.sh)
  | _ => none := rfl
theorem iRange1_at : iRange1 fa env = match fa env with
  | some (.vis (.int n)) => if n < 4611686018427387904 ∧ -4611686018427387904 ≤ n then some (rngD 0 n.toNat, false) else none
  | _ => none := rfl
theorem eChain_at {p q : Dt → Dt → Option R} {fc : EF} : eChain p q fa fb fc env = (fa env).bind fun a => (fb env).bind fun b => match p a.dt b.dt with
  | some (.vis (.bl true)) => (fc env).bind fun c => q b.dt c.dt
  | some (.vis (.bl false)) => some (.vis (.bl false))
  | _ => none := rfl
theorem pGcd_int : pGcd (.int x) (.int y) = some (.vis (.int (Nat.gcd x.natAbs y.natAbs : Nat))) := rfl
theorem pComb_nat {n k : Nat} (h : n ≤ 9000) : pComb (.int (n : Int)) (.int (k : Int)) = some (.vis (.int (chooseN n k : Nat))) := by
  show (if 0 ≤ (n : Int) ∧ (n : Int) ≤ 9000 ∧ 0 ≤ (k : Int) then some (R.vis (.int (chooseN (n : Int).toNat (k : Int).toNat : Nat))) else none) = _
  rw [if_pos ⟨by omega, by omega, by omega⟩, Int.toNat_natCast, Int.toNat_natCast]
/-- a chain of two comparisons of ints -/
theorem chain_le {fc : EF} {z : Int} (h1 : fa env = some (.vis (.int x))) (h2 : fb env = some (.vis (.int y))) (h3 : fc env = some (.vis (.int z))) : eChain pLe pLe fa fb fc env = some (.vis (.bl (decide (x ≤ y ∧ y ≤ z)))) := by
  rw [eChain_at, h1, h2, h3]
  show (match pLe (.int x) (.int y) with
    | some (.vis (.bl true)) => pLe (.int y) (.int z)
    | some (.vis (.bl false)) => some (.vis (.bl false))
    | _ => none) = _
  rw [pLe_int, pLe_int]
  by_cases h : x ≤ y <;> simp [h]
theorem rng1 {n : Int} (h : fa env = some (.vis (.int n))) (h1 : n < 4611686018427387904) (h2 : -4611686018427387904 ≤ n := by omega) : iRange1 fa env = some (rngD 0 n.toNat, false) := by
  rw [iRange1_at, h]
  exact if_pos ⟨h1, h2⟩
theorem rng2 {lo hi : Int} (h : fa env = some (.vis (.int lo))) (h' : fb env = some (.vis (.int hi))) (h1 : -4611686018427387904 ≤ lo ∧ lo < 4611686018427387904 ∧ -4611686018427387904 ≤ hi ∧ hi < 4611686018427387904 := by omega) : iRange2 fa fb env = some (rngD lo (hi - lo).toNat, false) := by
  show (fa env).bind _ = _
  rw [h]
  show (fb env).bind _ = _
  rw [h']
  exact if_pos h1
theorem rng3 {fc : EF} {i j k : Int} {n : Nat} (h1 : fa env = some (.vis (.int i))) (h2 : fb env = some (.vis (.int j))) (h3 : fc env = some (.vis (.int k))) (hn : stepN i j k = n) (hk : (0 < k ∧ k < 1073741824) ∨ k = -1) (hb : (-1099511627776 ≤ i ∧ i ≤ 1099511627776) ∧ -1099511627776 ≤ j ∧ j ≤ 1099511627776 := by omega) : iRange3 fa fb fc env = some (stepD i k n, false) := by
  show (fa env).bind _ = _
  rw [h1]
  show (fb env).bind _ = _
  rw [h2]
  show (fc env).bind _ = _
  rw [h3, ← hn]
  exact if_pos ⟨hk, hb⟩
theorem stepD_len (a c : Int) (n : Nat) : (stepD a c n).length = n := by
  unfold stepD
  rw [List.length_map, List.length_range]
theorem stepD_at {a c : Int} {n j : Nat} {v : Dt} (h : (stepD a c n)[j]? = some v) : j < n ∧ v = .int (a + (j : Int) * c) := by
  unfold stepD at h
  rw [List.getElem?_map] at h
  cases hj : (List.range n)[j]? with
  | none => rw [hj] at h; cases h
  | some k =>
    rw [hj] at h
    have hl := (List.getElem?_eq_some_iff.mp hj).1
    rw [List.length_range] at hl
    rw [List.getElem?_range hl] at hj
    cases hj
    cases h
    exact ⟨hl, rfl⟩
theorem rngD_at {lo : Int} {n j : Nat} {v : Dt} (h : (rngD lo n)[j]? = some v) : j < n ∧ v = .int (lo + (j : Int)) := by
  unfold rngD at h
  rw [List.getElem?_map] at h
  cases hj : (List.range n)[j]? with
  | none => rw [hj] at h; cases h
  | some k =>
    rw [hj] at h
    have hl := (List.getElem?_eq_some_iff.mp hj).1
    rw [List.length_range] at hl
    rw [List.getElem?_range hl] at hj
    cases hj
    cases h
    exact ⟨hl, rfl⟩
theorem rngD_len (lo : Int) (n : Nat) : (rngD lo n).length = n := by
  unfold rngD
  rw [List.length_map, List.length_range]
theorem gN_at : gN i d env = some (env.set i (.val d)) := rfl
theorem gT_at {is : List Nat} : gT is (.tup ds) env = gsN is ds env := rfl
theorem gT_lst {is : List Nat} : gT is (.lst ds) env = gsN is ds env := rfl
theorem gsN_cons {is : List Nat} : gsN (i :: is) (d :: ds) env = gsN is ds (env.set i (.val d)) := rfl
theorem gsN_nil : gsN [] [] env = some env := rfl
theorem wipeS_cons {is : List Nat} : wipeS env (i :: is) = (wipeS env is).set i .non := rfl
theorem wipeS_nil : wipeS env [] = env := rfl
theorem compG_at {own : List Nat} {g : GF} : compG env own g ft fa d = (g d (wipeS env own)).bind fun env' => (ft env').bind fun b => if b then (fa env').bind fun r => if r.sh then none else some [r.dt] else some [] := rfl
theorem eComp_of {own : List Nat} {fi : IF} {g : GF} {s : Bool} {out : List Dt} (h : fi env = some (ds, s)) (hl : ds.length ≤ LIM) (hc : compL (compG env own g ft fa) ds = some out) : eComp own fi g ft fa env = some (.fre (.lst out)) := by
  show (fi env).bind _ = _
  rw [h]
  show (compL _ ds).bind _ = _
  rw [hc]
  exact if_pos hl
end
/-! ### comprehensions -/
theorem compL_flat {g : Dt → Option (List Dt)} {k : Dt → List Dt} : ∀ {ds : List Dt}, (∀ d ∈ ds, g d = some (k d)) → compL g ds = some (ds.flatMap k)
  | [], _ => rfl
  | d :: ds, h => by
    show (g d).bind _ = _
    rw [h d List.mem_cons_self]
    show (compL g ds).bind _ = _
    rw [compL_flat fun e he => h e (List.mem_cons_of_mem _ he), List.flatMap_cons]
    rfl
/-- the items typed, each gives one item -/
theorem compL_map {α β : Type} {g : Dt → Option (List Dt)} {u : α → Dt} {v : β → Dt} {f : α → β} : ∀ {xs : List α}, (∀ x ∈ xs, g (u x) = some [v (f x)]) → compL g (xs.map u) = some ((xs.map f).map v)
  | [], _ => rfl
  | x :: xs, h => by
    rw [List.map_cons, List.map_cons, List.map_cons]
    show (g (u x)).bind _ = _
    rw [h x List.mem_cons_self]
    show (compL g (xs.map u)).bind _ = _
    rw [compL_map fun y hy => h y (List.mem_cons_of_mem _ hy)]
    rfl
theorem compL_filter {α β : Type} {g : Dt → Option (List Dt)} {u : α → Dt} {v : β → Dt} {p : α → Bool} {f : α → β} : ∀ {xs : List α}, (∀ x ∈ xs, g (u x) = some (if p x then [v (f x)] else [])) → compL g (xs.map u) = some (((xs.filter p).map f).map v)
  | [], _ => rfl
  | x :: xs, h => by
    rw [List.map_cons]
    show (g (u x)).bind _ = _
    rw [h x List.mem_cons_self]
    show (compL g (xs.map u)).bind _ = _
    rw [compL_filter fun y hy => h y (List.mem_cons_of_mem _ hy), List.filter_cons]
    cases p x <;> rfl
/-- by places -/
theorem compL_ix {g : Dt → Option (List Dt)} : ∀ {ds out : List Dt}, ds.length = out.length → (∀ (i : Nat) d o, ds[i]? = some d → out[i]? = some o → g d = some [o]) → compL g ds = some out
  | [], [], _, _ => rfl
  | [], _ :: _, h, _ => by cases h
  | _ :: _, [], h, _ => by cases h
  | d :: ds, o :: out, hl, h => by
    show (g d).bind _ = _
    rw [h 0 d o rfl rfl]
    show (compL g ds).bind _ = _
    rw [compL_ix (by simpa using hl) fun i d' o' h1 h2 => h (i + 1) d' o' h1 h2]
    rfl
/-! ### functions told by what they give -/
/-- the end in which just r is returned -/
def endR (r : Dt) : En := ⟨fun _ => r = .non, fun d => d = r, fun _ => False, fun _ => False⟩
open Classical in
noncomputable def autoF (n : Nat) (w : WS) (P : List Dt → Dt → Prop) : FN := fun ds => if h : ∃ r, P ds r ∧ w (endR r) (startE n ds) then some (choose h) else none
theorem auto_spec {n : Nat} {w : WS} {P : List Dt → Dt → Prop} {ds : List Dt} {r : Dt} (h : autoF n w P ds = some r) : P ds r ∧ w (endR r) (startE n ds) := by
  unfold autoF at h
  split at h
  · rename_i hk
    cases h
    exact Classical.choose_spec hk
  · cases h
theorem auto_keeps {n : Nat} {w : WS} {P : List Dt → Dt → Prop} : Keeps n w (autoF n w P) := fun ds r h => (auto_spec h).2
theorem auto_at {n : Nat} {w : WS} {P : List Dt → Dt → Prop} {ds : List Dt} (h : ∃ r, P ds r ∧ w (endR r) (startE n ds)) : ∃ r, autoF n w P ds = some r ∧ P ds r := by
  unfold autoF
  rw [dif_pos h]
  exact ⟨_, rfl, (Classical.choose_spec h).1⟩
/-! ### loops -/
theorem wFor_of {fi : IF} {g : GF} {b : WS} {D : En} {env : Sl} {ds : List Dt} (I : Nat → Sl → Prop) (h : fi env = some (ds, false)) (h0 : I 0 env)
    (hs : ∀ i env d, ds[i]? = some d → I i env → ∃ env', g d env = some env' ∧ b { D with nx := I (i + 1), bk := D.nx, ct := I (i + 1) } env') (hd : ∀ env, I ds.length env → D.nx env) : wFor fi g b D env := ⟨ds, h, I, h0, hs, hd⟩
/-- over typed items -/
theorem wFor_map {α : Type} {u : α → Dt} {xs : List α} {fi : IF} {g : GF} {b : WS} {D : En} {env : Sl} (I : Nat → Sl → Prop) (h : fi env = some (xs.map u, false)) (h0 : I 0 env)
    (hs : ∀ i env x, xs[i]? = some x → I i env → ∃ env', g (u x) env = some env' ∧ b { D with nx := I (i + 1), bk := D.nx, ct := I (i + 1) } env') (hd : ∀ env, I xs.length env → D.nx env) : wFor fi g b D env := by
  refine ⟨_, h, I, h0, fun i env d hi inv => ?_, fun env inv => hd env (by rw [List.length_map] at inv; exact inv)⟩
  rw [List.getElem?_map] at hi
  cases hx : xs[i]? with
  | none => rw [hx] at hi; cases hi
  | some x =>
    rw [hx] at hi
    cases hi
    exact hs i env x hx inv
theorem wFor_rng {lo : Int} {n : Nat} {fi : IF} {g : GF} {b : WS} {D : En} {env : Sl} (I : Nat → Sl → Prop) (h : fi env = some (rngD lo n, false)) (h0 : I 0 env)
    (hs : ∀ i env, i < n → I i env → ∃ env', g (.int (lo + (i : Int))) env = some env' ∧ b { D with nx := I (i + 1), bk := D.nx, ct := I (i + 1) } env') (hd : ∀ env, I n env → D.nx env) : wFor fi g b D env := by
  refine ⟨_, h, I, h0, fun i env d hi inv => ?_, fun env inv => hd env (by rw [rngD_len] at inv; exact inv)⟩
  obtain ⟨hl, rfl⟩ := rngD_at hi
  exact hs i env hl inv
theorem wWhile_of {t : TF} {b : WS} {D : En} {env : Sl} (I : Nat → Sl → Prop) (m : Nat) (h0 : I m env)
    (hs : ∀ m env, I m env → ∃ c, t env = some c ∧ ((c = true → b { D with nx := fun e => ∃ m', m' < m ∧ I m' e, bk := D.nx, ct := fun e => ∃ m', m' < m ∧ I m' e } env) ∧ (c = false → D.nx env))) : wWhile t b D env := ⟨I, ⟨m, h0⟩, hs⟩
/-! ### sizes -/
theorem big_of {x : Int} {n : Nat} (h : x.natAbs < 2 ^ n) (hn : n ≤ 400000) : x.natAbs < BIG := by
  rw [BIG_eq]
  exact Nat.lt_of_lt_of_le h (Nat.pow_le_pow_right (by decide) hn)
theorem big64 {x : Int} (h1 : -18446744073709551616 < x) (h2 : x < 18446744073709551616) : x.natAbs < BIG := big_of (n := 64) (by omega) (by decide)
theorem div64 {x : Int} (h0 : 0 < x) (h2 : x < 18446744073709551616) : x.natAbs < DIVB := by
  rw [DIVB_eq]
  exact Nat.lt_of_lt_of_le (show x.natAbs < 2 ^ 64 by omega) (Nat.pow_le_pow_right (by decide) (by decide))
theorem lim_of {n : Nat} (h : n ≤ 4000000) : n ≤ LIM := Nat.le_trans h (by decide)
theorem lim_lt {n : Nat} (h : n < 4000000) : n < LIM := Nat.lt_of_lt_of_le h (by decide)
/-! ### results -/
theorem dt_vis {d : Dt} : (R.vis d).dt = d := rfl
theorem dt_bor {d : Dt} : (R.bor d).dt = d := rfl
theorem dt_fre {ds : List Dt} : (R.fre (.lst ds)).dt = .lst ds := rfl
theorem sh_vis {d : Dt} : (R.vis d).sh = false := rfl
theorem sh_bor {d : Dt} : (R.bor d).sh = true := rfl
theorem sh_fre {o : OD} : (R.fre o).sh = false := rfl
theorem slot_vis {d : Dt} : (R.vis d).slot = .val d := rfl
theorem slot_fre {o : OD} : (R.fre o).slot = .own o := rfl
theorem od_dt {ds : List Dt} : (OD.lst ds).dt = .lst ds := rfl
theorem isNon_non : Dt.non.isNon = true := rfl
theorem isNon_int {i : Int} : (Dt.int i).isNon = false := rfl
theorem isNon_lst {ds : List Dt} : (Dt.lst ds).isNon = false := rfl
theorem isNon_tup {ds : List Dt} : (Dt.tup ds).isNon = false := rfl
theorem scalar_int {i : Int} : (Dt.int i).scalar = true := rfl
theorem scalar_bl {i : Bool} : (Dt.bl i).scalar = true := rfl
theorem scalar_non : Dt.non.scalar = true := rfl
/-! ### a statement and the rest -/
section
variable {env env' : Sl} {D : En} {a b rest : WS} {fa fb : EF} {ft fu : TF} {i : Nat} {r : R} {ds : List Dt} {c : Bool}
theorem q_asg (h : fa env = some r) (hs : r.sh = false) (he : env.set i r.slot = env') (k : rest D env') : wSeq (wAsg i fa) rest D env := q_go ⟨r, h, hs, by rw [he]; exact k⟩
theorem s_asg (h : fa env = some r) (hs : r.sh = false) (he : env.set i r.slot = env') (k : D.nx env') : wAsg i fa D env := ⟨r, h, hs, by rw [he]; exact k⟩
theorem s_ret {d : Dt} (h : fa env = some r) (hs : r.sh = false) (hd : r.dt = d) (k : D.rt d) : wRet fa D env := ⟨r, h, hs, by rw [hd]; exact k⟩
theorem q_ret {d : Dt} (h : fa env = some r) (hs : r.sh = false) (hd : r.dt = d) (k : D.rt d) : wSeq (wRet fa) rest D env := q_go ⟨r, h, hs, by rw [hd]; exact k⟩
theorem q_if (h : ft env = some c) (h1 : c = true → a { D with nx := rest D } env) (h2 : c = false → b { D with nx := rest D } env) : wSeq (wIf ft a b) rest D env := q_go ⟨c, h, h1, h2⟩
theorem s_if (h : ft env = some c) (h1 : c = true → a D env) (h2 : c = false → b D env) : wIf ft a b D env := ⟨c, h, h1, h2⟩
/-- by a test of Lean's -/
theorem q_ifD {p : Prop} [Decidable p] (h : ft env = some (decide p)) (h1 : p → a { D with nx := rest D } env) (h2 : ¬ p → b { D with nx := rest D } env) : wSeq (wIf ft a b) rest D env := q_go ⟨_, h, fun e => h1 (of_decide_eq_true e), fun e => h2 (of_decide_eq_false e)⟩
theorem s_ifD {p : Prop} [Decidable p] (h : ft env = some (decide p)) (h1 : p → a D env) (h2 : ¬ p → b D env) : wIf ft a b D env := ⟨_, h, fun e => h1 (of_decide_eq_true e), fun e => h2 (of_decide_eq_false e)⟩
/-- if c: x = e, x known: told by one value -/
theorem q_ifAsg {p : Prop} [Decidable p] {d d1 : Dt} (h : ft env = some (decide p)) (h1 : p → fa env = some (.vis d1)) (h2 : ¬ p → env[i]? = some (.val d)) (k : ∀ d2, d2 = (if p then d1 else d) → rest D (env.set i (.val d2))) : wSeq (wIf ft (wAsg i fa) wNil) rest D env := by
  refine q_ifD h (fun hp => ⟨_, h1 hp, rfl, k d1 (if_pos hp).symm⟩) (fun hp => ?_)
  have q := k d (if_neg hp).symm
  have e : env.set i (.val d) = env := by
    have z := h2 hp
    obtain ⟨hl, hz⟩ := List.getElem?_eq_some_iff.mp z
    rw [← hz, List.set_getElem_self]
  rw [e] at q
  exact q
/-- if c: x = e, of ints: one value -/
theorem q_ifI {p : Prop} [Decidable p] {x y : Int} (h : ft env = some (decide p)) (h1 : p → fa env = some (.vis (.int x))) (h2 : env[i]? = some (.val (.int y))) (k : rest D (env.set i (.val (.int (if p then x else y))))) : wSeq (wIf ft (wAsg i fa) wNil) rest D env :=
  q_ifAsg (d := .int y) (d1 := .int x) h h1 (fun _ => h2) fun d2 e => by
    have e2 : d2 = .int (if p then x else y) := by
      rw [e]
      split <;> rfl
    rw [e2]
    exact k
theorem q_unp {is : List Nat} {d : Dt} (h : fa env = some (.vis d)) (he : gT is d env = some env') (k : rest D env') : wSeq (wUnp is fa) rest D env := q_go ⟨d, env', h, he, k⟩
theorem q_app {d : Dt} (h0 : env[i]? = some (.own (.lst ds))) (h : fa env = some r) (hs : r.sh = false) (hl : ds.length < LIM) (hd : r.dt = d) (he : env.set i (.own (.lst (ds ++ [d]))) = env') (k : rest D env') : wSeq (wApp i fa) rest D env := q_go ⟨ds, r, h0, h, hs, hl, by rw [hd, he]; exact k⟩
theorem s_app {d : Dt} (h0 : env[i]? = some (.own (.lst ds))) (h : fa env = some r) (hs : r.sh = false) (hl : ds.length < LIM) (hd : r.dt = d) (he : env.set i (.own (.lst (ds ++ [d]))) = env') (k : D.nx env') : wApp i fa D env := ⟨ds, r, h0, h, hs, hl, by rw [hd, he]; exact k⟩
theorem q_nil (k : rest D env) : wSeq wNil rest D env := q_go k
theorem s_nil (k : D.nx env) : wNil D env := k
theorem q_frz {o : OD} (h : env[i]? = some (.own o)) (he : env.set i (.val o.dt) = env') (k : a D env') : wFrz i a D env := by
  show a D (frzS i env)
  rw [frzS_own h, he]
  exact k
theorem q_frz0 {d : Dt} (h : env[i]? = some (.val d)) (k : a D env) : wFrz i a D env := by
  show a D (frzS i env)
  rw [frzS_val h]
  exact k
theorem q_cut (M : Sl → Prop) (h : a { D with nx := M } env) (k : ∀ e, M e → rest D e) : wSeq a rest D env := ⟨M, h, k⟩
theorem q_forMap {α : Type} {u : α → Dt} {xs : List α} {fi : IF} {g : GF} (I : Nat → Sl → Prop) (h : fi env = some (xs.map u, false)) (h0 : I 0 env)
    (hs : ∀ i env x, xs[i]? = some x → I i env → ∃ env', g (u x) env = some env' ∧ b { D with nx := I (i + 1), bk := rest D, ct := I (i + 1) } env') (hd : ∀ env, I xs.length env → rest D env) : wSeq (wFor fi g b) rest D env :=
  q_go <| wFor_map (D := { D with nx := rest D }) I h h0 hs hd
theorem q_forRng {lo : Int} {n : Nat} {fi : IF} {g : GF} (I : Nat → Sl → Prop) (h : fi env = some (rngD lo n, false)) (h0 : I 0 env)
    (hs : ∀ i env, i < n → I i env → ∃ env', g (.int (lo + (i : Int))) env = some env' ∧ b { D with nx := I (i + 1), bk := rest D, ct := I (i + 1) } env') (hd : ∀ env, I n env → rest D env) : wSeq (wFor fi g b) rest D env :=
  q_go <| wFor_rng (D := { D with nx := rest D }) I h h0 hs hd
theorem q_for {fi : IF} {g : GF} (I : Nat → Sl → Prop) (h : fi env = some (ds, false)) (h0 : I 0 env)
    (hs : ∀ i env d, ds[i]? = some d → I i env → ∃ env', g d env = some env' ∧ b { D with nx := I (i + 1), bk := rest D, ct := I (i + 1) } env') (hd : ∀ env, I ds.length env → rest D env) : wSeq (wFor fi g b) rest D env :=
  q_go <| wFor_of (D := { D with nx := rest D }) I h h0 hs hd
theorem q_forStep {lo c : Int} {n : Nat} {fi : IF} {g : GF} (I : Nat → Sl → Prop) (h : fi env = some (stepD lo c n, false)) (h0 : I 0 env)
    (hs : ∀ i env, i < n → I i env → ∃ env', g (.int (lo + (i : Int) * c)) env = some env' ∧ b { D with nx := I (i + 1), bk := rest D, ct := I (i + 1) } env') (hd : ∀ env, I n env → rest D env) : wSeq (wFor fi g b) rest D env := by
  refine q_go ⟨_, h, I, h0, fun i env d hi inv => ?_, fun env inv => hd env (by rw [stepD_len] at inv; exact inv)⟩
  obtain ⟨hl, rfl⟩ := stepD_at hi
  exact hs i env hl inv
theorem q_while (I : Nat → Sl → Prop) (m : Nat) (h0 : I m env)
    (hs : ∀ m env, I m env → ∃ c, ft env = some c ∧ ((c = true → b { D with nx := fun e => ∃ m', m' < m ∧ I m' e, bk := rest D, ct := fun e => ∃ m', m' < m ∧ I m' e } env) ∧ (c = false → rest D env))) : wSeq (wWhile ft b) rest D env :=
  q_go <| wWhile_of (D := { D with nx := rest D }) I m h0 hs
end
end Pyl
end
section
set_option Elab.async false
set_option linter.all false
set_option maxHeartbeats 1000000
namespace Pyl
open PySem
/-! ### the helpers that every law has -/
local macro_rules | `(tactic| walk_at "pe") => `(tactic| simp (config := { implicitDefEqProofs := false }) only [eVar_at, eC_at, e1_at, e2_at, aNil_at, aCons_at, eTup_at, eLst_at, plain_nil, plain_cons, eCall_at, eIf_at, eAnd_at, eOr_at, eNot_at, tVal_at, tAnd_at, tOr_at, tNot_at, tYes_at,
  pAdd_int, pSub_int, pNeg_int, pLt_int, pLe_int, pGt_int, pGe_int, pEq_int, pNe_int, pIsN_at, pNotN_at, pIx_lst, pIx_tup, oNone_at, oSome_at, eSlice_at, pLen_lst, pLen_tup, pInt_int, pInt_bl, pAbs_int, pSum_ints, pMax2_int, pMin2_int, pList_lst, pList_tup, pTuple_lst, pTuple_tup, iSeq_at, gN_at, gT_at, gsN_cons, gsN_nil, wipeS_cons, wipeS_nil,
  dt_vis, dt_bor, dt_fre, sh_vis, sh_bor, sh_fre, slot_vis, slot_fre, od_dt, isNon_non, isNon_int, isNon_lst, isNon_tup, scalar_int, scalar_bl, scalar_non, Option.bind_some, Option.bind_none, Option.map_some, Option.map_none, List.getElem?_cons_zero, List.getElem?_cons_succ, List.set_cons_zero, List.set_cons_succ, List.map_cons, List.map_nil, List.any_cons, List.any_nil, Bool.or_false, Bool.false_or, Bool.false_and, Bool.and_true, Bool.true_and, Bool.not_true, Bool.not_false,
  Option.some.injEq, exists_eq_left', exists_eq_left, true_and, and_true, if_true, if_false, Bool.false_eq_true, ite_true, ite_false, reduceIte, decide_eq_true_eq, decide_eq_false_iff_not, R.vis.injEq, R.fre.injEq, Dt.lst.injEq, Dt.tup.injEq, Dt.int.injEq, Slot.own.injEq, OD.lst.injEq, reduceCtorEq, false_and, exists_false, exists_const, Bool.true_eq_false, false_implies, true_implies, implies_true, forall_const])
/-- isinstance(value, int) and not a bool -/
def wholeD : Dt → Option Bool
  | .obj _ _ => none
  | .int _ => some true
  | _ => some false
def F_whole : FN := fun ds => match ds with
  | [d] => (wholeD d).map .bl
  | _ => none
def cw_whole : WS := (wRet (eAnd (e1 (pIsi "int") (eVar 0)) (eNot (e1 (pIsi "bool") (eVar 0)))))
theorem k_whole : Keeps 1 cw_whole F_whole := by
  intro ds r h
  match ds, h with
  | [d], h =>
    cases d <;> first | (cases h; done) | (cases h; exact ⟨_, rfl, rfl, rfl⟩)
def seedM (ns : List Int) : Int := ns.foldl (fun s n => (s * 31 + n % 1000003) % 1000003) 17
def cellM (ns : List Int) (k : Int) : Int := if k < ns.length then ns.getD k.toNat 0 else ((seedM ns + 7) * (k + 3) * 69621) % 2147483647
def F_cell : FN := fun ds => match ds with
  | [.lst xs, .int k] => (intsOf xs).bind fun ns => if 0 ≤ k ∧ k < 4294967296 then some (.int (cellM ns k)) else none
  | _ => none
def cw_cell : WS := (wSeq (wIf (tVal (e2 pLt (eVar 1) (e1 pLen (eVar 0)))) (wRet (e2 pIx (eVar 0) (eVar 1))) wNil)
  (wSeq (wAsg 2 (eC (.int 17)))
  (wSeq (wFor (iSeq (eVar 0)) (gN 3) (wAsg 2 (e2 pMod (e1 pInt (e2 pAdd (e2 pMul (eVar 2) (eC (.int 31))) (e2 pMod (e1 pInt (eVar 3)) (eC (.int 1000003))))) (eC (.int 1000003)))))
  (wRet (e2 pMod (e1 pInt (e2 pMul (e2 pMul (e2 pAdd (eVar 2) (eC (.int 7))) (e2 pAdd (eVar 1) (eC (.int 3)))) (eC (.int 69621)))) (eC (.int 2147483647)))))))
theorem intsOf_some : ∀ {ds : List Dt} {ns : List Int}, intsOf ds = some ns → ds = ns.map .int
  | [], _, h => by cases h; rfl
  | .int i :: ds, _, h => by
    unfold intsOf at h
    obtain ⟨ms, h1, h2⟩ := Option.map_eq_some_iff.mp h
    subst h2
    rw [intsOf_some h1]
    rfl
  | .non :: _, _, e => by simp [intsOf] at e
  | .bl _ :: _, _, e => by simp [intsOf] at e
  | .str _ :: _, _, e => by simp [intsOf] at e
  | .lst _ :: _, _, e => by simp [intsOf] at e
  | .tup _ :: _, _, e => by simp [intsOf] at e
  | .obj _ _ :: _, _, e => by simp [intsOf] at e
theorem seed_bound (ns : List Int) (i : Nat) : 0 ≤ seedM (ns.take i) ∧ seedM (ns.take i) < 1000003 := by
  have h : ∀ (ns : List Int) (s : Int), 0 ≤ s ∧ s < 1000003 → 0 ≤ ns.foldl (fun s n => (s * 31 + n % 1000003) % 1000003) s ∧ ns.foldl (fun s n => (s * 31 + n % 1000003) % 1000003) s < 1000003 := by
    intro ns
    induction ns with
    | nil => exact fun s h => h
    | cons n ns ih => exact fun s h => ih _ ⟨Int.emod_nonneg _ (by decide), Int.emod_lt_of_pos _ (by decide)⟩
  exact h _ 17 (by decide)
theorem foldl_take {α β : Type} {f : β → α → β} {l : List α} {i : Nat} {x : α} {s : β} (h : l[i]? = some x) : (l.take (i + 1)).foldl f s = f ((l.take i).foldl f s) x := by
  rw [List.take_add_one, h, List.foldl_append]
  rfl
theorem k_cell : Keeps 4 cw_cell F_cell := by
  intro ds r h
  match ds, h with
  | [.lst xs, .int k], h =>
    obtain ⟨ns, h1, h⟩ := Option.bind_eq_some_iff.mp h
    split at h
    case isFalse => cases h
    rename_i hk
    cases h
    rw [intsOf_some h1]
    show cw_cell _ [.val (.lst (ns.map .int)), .val (.int k), .non, .non]
    have hsz : (List.map Dt.int ns).length = ns.length := List.length_map _
    refine q_ifD (p := k < (ns.length : Int)) (by walk_at "pe"; rw [hsz]) (fun hlt => ?_) fun hge => ?_
    · have hg : atL (ns.map Dt.int) k = some (.int (cellM ns k)) := by
        refine atL_of_get hk.1 ?_
        unfold cellM
        rw [if_pos hlt, List.getElem?_map, List.getD_eq_getElem?_getD, List.getElem?_eq_getElem (by omega)]
        rfl
      exact s_ret (r := .vis _) (by walk_at "pe"; rw [hg]; rfl) rfl rfl rfl
    · refine q_asg (r := .vis _) (by walk_at "pe"; rfl) rfl rfl ?_
      refine q_forMap (u := Dt.int) (xs := ns) (fun i e => ∃ z, e = [.val (.lst (ns.map .int)), .val (.int k), .val (.int (seedM (ns.take i))), z]) (by walk_at "pe") ⟨_, rfl⟩ ?_ ?_
      · rintro i env x hx ⟨z, rfl⟩
        refine ⟨_, by walk_at "pe"; rfl, ?_⟩
        have hb := seed_bound ns i
        refine s_asg (r := .vis (.int (seedM (ns.take (i + 1))))) ?_ rfl rfl ⟨_, rfl⟩
        walk_at "pe"
        rw [pMul_int (big64 (by omega) (by omega)) (big64 (by decide) (by decide)), pMod_int (by decide)]
        walk_at "pe"
        rw [pMod_int (by decide)]
        unfold seedM
        rw [foldl_take hx]
      · rintro env ⟨z, rfl⟩
        have hb := seed_bound ns ns.length
        rw [List.take_length] at hb ⊢
        refine s_ret (r := .vis (.int (cellM ns k))) ?_ rfl rfl rfl
        walk_at "pe"
        rw [pMul_int (big64 (by omega) (by omega)) (big64 (by omega) (by omega))]
        walk_at "pe"
        rw [pMul_int (big_of (n := 100) ?_ (by decide)) (big64 (by decide) (by decide))]
        · walk_at "pe"
          rw [pMod_int (by decide)]
          unfold cellM
          rw [if_neg hge]
        · have h1 : (seedM ns + 7) * (k + 3) < 1000010 * (k + 3) + 1 := by
            have := Int.mul_le_mul_of_nonneg_right (show seedM ns + 7 ≤ 1000010 by omega) (show (0 : Int) ≤ k + 3 by omega)
            omega
          have h2 : 0 ≤ (seedM ns + 7) * (k + 3) := Int.mul_nonneg (by omega) (by omega)
          omega
/-! the digits of a cell -/
def digA : Int → List Int → List Int
  | _, [] => []
  | r, s :: ss => r % s :: digA (r / s) ss
def stepB (seed : Int) (k : Nat) : Int := (seed * 48271 + 974711 * (k : Int) + 12345) % 2147483647
def takeB (seed : Int) : Int := (seed * (seed / 65537 + 3)) % 2147483629
def digB : Int → Nat → List Int → List Int
  | _, _, [] => []
  | seed, k, s :: ss => takeB (stepB seed k) / 19 % s :: digB (stepB seed k) (k + 1) ss
def digitsM (cell : Int) (sizes : List Int) : List Int := if 1000000000000000000 ≤ cell then digA (cell - 1000000000000000000) sizes else digB (cell % 2147483629) 0 sizes
def sizeOk (sizes : List Int) : Prop := (∀ s ∈ sizes, 0 < s ∧ s < 18446744073709551616) ∧ sizes.length ≤ 100000
instance (sizes : List Int) : Decidable (sizeOk sizes) := by unfold sizeOk; exact inferInstance
def F_digits : FN := fun ds => match ds with
  | [.int c, .lst xs] => (intsOf xs).bind fun ns => if sizeOk ns then some (.lst ((digitsM c ns).map .int)) else none
  | _ => none
theorem digA_len : ∀ (ss : List Int) (r : Int), (digA r ss).length = ss.length
  | [], _ => rfl
  | s :: ss, r => by
    show (digA (r / s) ss).length + 1 = _
    rw [digA_len ss]
    rfl
theorem digB_len : ∀ (ss : List Int) (r : Int) (k : Nat), (digB r k ss).length = ss.length
  | [], _, _ => rfl
  | s :: ss, r, k => by
    show (digB _ (k + 1) ss).length + 1 = _
    rw [digB_len ss]
    rfl
theorem digitsM_len (c : Int) (ss : List Int) : (digitsM c ss).length = ss.length := by
  unfold digitsM
  split
  · exact digA_len _ _
  · exact digB_len _ _ _
theorem digA_get : ∀ {ss : List Int} {r : Int} {i : Nat} {s d : Int}, (∀ s ∈ ss, 0 < s) → ss[i]? = some s → (digA r ss)[i]? = some d → 0 ≤ d ∧ d < s
  | [], _, _, _, _, _, h, _ => by simp at h
  | s' :: ss, r, 0, s, d, hp, h, h2 => by
    cases h
    have e : r % s' = d := Option.some.inj h2
    have := hp s' List.mem_cons_self
    rw [← e]
    exact ⟨Int.emod_nonneg _ (by omega), Int.emod_lt_of_pos _ this⟩
  | s' :: ss, r, i + 1, s, d, hp, h, h2 => digA_get (i := i) (fun x hx => hp x (List.mem_cons_of_mem _ hx)) h h2
theorem digB_get : ∀ {ss : List Int} {r : Int} {k i : Nat} {s d : Int}, (∀ s ∈ ss, 0 < s) → ss[i]? = some s → (digB r k ss)[i]? = some d → 0 ≤ d ∧ d < s
  | [], _, _, _, _, _, _, h, _ => by simp at h
  | s' :: ss, r, k, 0, s, d, hp, h, h2 => by
    cases h
    have e : takeB (stepB r k) / 19 % s' = d := Option.some.inj h2
    have := hp s' List.mem_cons_self
    rw [← e]
    exact ⟨Int.emod_nonneg _ (by omega), Int.emod_lt_of_pos _ this⟩
  | s' :: ss, r, k, i + 1, s, d, hp, h, h2 => digB_get (i := i) (fun x hx => hp x (List.mem_cons_of_mem _ hx)) h h2
theorem digitsM_get {c : Int} {ss : List Int} {i : Nat} {s d : Int} (hp : ∀ s ∈ ss, 0 < s) (h : ss[i]? = some s) (h2 : (digitsM c ss)[i]? = some d) : 0 ≤ d ∧ d < s := by
  unfold digitsM at h2
  split at h2
  · exact digA_get hp h h2
  · exact digB_get hp h h2
def cw_digits : WS := (wSeq (wAsg 2 (eLst aNil))
  (wSeq (wAsg 3 (e1 pInt (eVar 0)))
  (wSeq (wIf (tVal (e2 pGe (eVar 3) (e2 pPow (eC (.int 10)) (eC (.int 18)))))
  (wSeq (wAsg 3 (e2 pSub (eVar 3) (e2 pPow (eC (.int 10)) (eC (.int 18)))))
  (wSeq (wFor (iSeq (eVar 1)) (gN 6)
  (wSeq (wApp 2 (e2 pMod (e1 pInt (eVar 3)) (eVar 6)))
  (wAsg 3 (e2 pDiv (e1 pInt (eVar 3)) (eVar 6)))))
  (wFrz 2 (wRet (eVar 2)))))
  wNil)
  (wSeq (wAsg 4 (e2 pMod (e1 pInt (eVar 3)) (eC (.int 2147483629))))
  (wSeq (wFor (iRange1 (e1 pLen (eVar 1))) (gN 5)
  (wSeq (wAsg 4 (e2 pMod (e1 pInt (e2 pAdd (e2 pAdd (e2 pMul (eVar 4) (eC (.int 48271))) (e2 pMul (eC (.int 974711)) (eVar 5))) (eC (.int 12345)))) (eC (.int 2147483647))))
  (wSeq (wAsg 7 (e2 pMod (e1 pInt (e2 pMul (eVar 4) (e2 pAdd (e2 pDiv (eVar 4) (eC (.int 65537))) (eC (.int 3))))) (eC (.int 2147483629))))
  (wApp 2 (e2 pMod (e2 pDiv (eVar 7) (eC (.int 19))) (e2 pIx (eVar 1) (eVar 5)))))))
  (wFrz 2 (wRet (eVar 2))))))))
theorem pow18 : pPow (.int 10) (.int 18) = some (.vis (.int 1000000000000000000)) := by
  rw [pPow_int (by decide) (by decide) (by decide)]
  rfl
theorem drop_cons_get {α : Type} {l : List α} {i : Nat} {x : α} (h : l[i]? = some x) : l.drop i = x :: l.drop (i + 1) := by
  obtain ⟨hl, e⟩ := List.getElem?_eq_some_iff.mp h
  rw [← e]
  exact List.drop_eq_getElem_cons hl
theorem k_digits : Keeps 8 cw_digits F_digits := by
  intro ds r h
  match ds, h with
  | [.int c, .lst xs], h =>
    obtain ⟨ns, h1, h⟩ := Option.bind_eq_some_iff.mp h
    split at h
    case isFalse => cases h
    rename_i hk
    cases h
    rw [intsOf_some h1]
    obtain ⟨hp, hlen⟩ := hk
    have hsz : (List.map Dt.int ns).length = ns.length := List.length_map _
    show cw_digits _ [.val (.int c), .val (.lst (ns.map .int)), .non, .non, .non, .non, .non, .non]
    refine q_asg (r := .fre (.lst [])) (by walk_at "pe") rfl rfl ?_
    refine q_asg (r := .vis (.int c)) (by walk_at "pe") rfl rfl ?_
    refine q_ifD (p := 1000000000000000000 ≤ c) (by walk_at "pe"; rw [pow18]; walk_at "pe") (fun hge => ?_) fun hlt => ?_
    · refine q_asg (r := .vis (.int (c - 1000000000000000000))) (by walk_at "pe"; rw [pow18]; walk_at "pe") rfl rfl ?_
      refine q_forMap (u := Dt.int) (xs := ns) (fun i e => ∃ z acc rest, e = [.val (.int c), .val (.lst (ns.map .int)), .own (.lst (acc.map .int)), .val (.int rest), .non, .non, z, .non] ∧ acc.length = i ∧ acc ++ digA rest (ns.drop i) = digitsM c ns) (by walk_at "pe") ⟨_, [], c - 1000000000000000000, rfl, rfl, ?_⟩ ?_ ?_
      · unfold digitsM
        rw [if_pos hge]
        rfl
      · rintro i env x hx ⟨z, acc, rest, rfl, hl, he⟩
        have hx2 := hp x (List.mem_of_getElem? hx)
        have hi := (List.getElem?_eq_some_iff.mp hx).1
        refine ⟨_, by walk_at "pe"; rfl, ?_⟩
        refine q_app (d := .int (rest % x)) rfl (r := .vis _) (by walk_at "pe"; rw [pMod_int hx2.1]) rfl (by rw [List.length_map]; exact lim_lt (by omega)) rfl rfl ?_
        refine s_asg (r := .vis (.int (rest / x))) (by walk_at "pe"; rw [pDiv_int hx2.1 (div64 hx2.1 hx2.2)]) rfl rfl ⟨.val (.int x), acc ++ [rest % x], rest / x, ?_, ?_, ?_⟩
        · rw [List.map_append]
          rfl
        · rw [List.length_append, hl]
          rfl
        · rw [List.append_assoc, ← he, drop_cons_get hx]
          rfl
      · rintro env ⟨z, acc, rest, rfl, hl, he⟩
        rw [List.drop_length] at he
        have he : acc = digitsM c ns := by rw [← he]; exact (List.append_nil _).symm
        subst he
        exact q_frz rfl rfl (s_ret (r := .vis _) (by walk_at "pe") rfl rfl rfl)
    · refine s_nil ?_
      refine q_asg (r := .vis (.int (c % 2147483629))) (by walk_at "pe"; rw [pMod_int (by decide)]) rfl rfl ?_
      refine q_forRng (lo := 0) (n := ns.length) (fun i e => ∃ z z7 acc seed, e = [.val (.int c), .val (.lst (ns.map .int)), .own (.lst (acc.map .int)), .val (.int c), .val (.int seed), z, .non, z7] ∧ acc.length = i ∧ 0 ≤ seed ∧ seed < 2147483647 ∧ acc ++ digB seed i (ns.drop i) = digitsM c ns)
        (by rw [rng1 (n := (ns.length : Int)) (by walk_at "pe"; rw [hsz]) (by omega)]; rw [Int.toNat_natCast]) ⟨_, _, [], c % 2147483629, rfl, rfl, Int.emod_nonneg _ (by decide), ?_, ?_⟩ ?_ ?_
      · have := Int.emod_lt_of_pos c (show (0 : Int) < 2147483629 by decide)
        omega
      · unfold digitsM
        rw [if_neg hlt]
        rfl
      · rintro i env hi ⟨z, z7, acc, seed, rfl, hl, hs0, hs1, he⟩
        have hg : ns[i]? = some ns[i] := List.getElem?_eq_getElem hi
        have hx2 := hp ns[i] (List.mem_of_getElem? hg)
        have hb0 : 0 ≤ stepB seed i := Int.emod_nonneg _ (by decide)
        have hb1 : stepB seed i < 2147483647 := Int.emod_lt_of_pos _ (by decide)
        refine ⟨_, by walk_at "pe"; rfl, ?_⟩
        refine q_asg (r := .vis (.int (stepB seed i))) ?_ rfl rfl ?_
        · walk_at "pe"
          rw [pMul_int (big64 (by omega) (by omega)) (big64 (by decide) (by decide)), pMul_int (big64 (by decide) (by decide)) (big64 (by omega) (by omega))]
          walk_at "pe"
          rw [pMod_int (by decide)]
          unfold stepB
          rw [Int.zero_add]
        have hq0 : 0 ≤ stepB seed i / 65537 := Int.ediv_nonneg hb0 (by decide)
        have hq1 : stepB seed i / 65537 < 40000 := by omega
        refine q_asg (r := .vis (.int (takeB (stepB seed i)))) ?_ rfl rfl ?_
        · walk_at "pe"
          rw [pDiv_int (by decide) (div64 (by decide) (by decide))]
          walk_at "pe"
          rw [pMul_int (big64 (by omega) (by omega)) (big64 (by omega) (by omega))]
          walk_at "pe"
          rw [pMod_int (by decide)]
          rfl
        refine s_app (d := .int (takeB (stepB seed i) / 19 % ns[i])) rfl (r := .vis _) ?_ rfl (by rw [List.length_map]; exact lim_lt (by omega)) rfl rfl ⟨.val (.int (0 + (i : Int))), .val (.int (takeB (stepB seed i))), acc ++ [takeB (stepB seed i) / 19 % ns[i]], stepB seed i, ?_, ?_, hb0, hb1, ?_⟩
        · walk_at "pe"
          rw [pDiv_int (by decide) (div64 (by decide) (by decide)), Int.zero_add, atL_nat, List.getElem?_map, hg]
          walk_at "pe"
          rw [pMod_int hx2.1]
        · rw [List.map_append]
          rfl
        · rw [List.length_append, hl]
          rfl
        · rw [List.append_assoc, ← he, drop_cons_get hg]
          rfl
      · rintro env ⟨z, z7, acc, seed, rfl, hl, hs0, hs1, he⟩
        rw [List.drop_length] at he
        have he : acc = digitsM c ns := by rw [← he]; exact (List.append_nil _).symm
        subst he
        exact q_frz rfl rfl (s_ret (r := .vis _) (by walk_at "pe") rfl rfl rfl)
/-! lists of ints as data, and back -/
def ilst (ns : List Int) : Dt := .lst (ns.map .int)
def itup (ns : List Int) : Dt := .tup (ns.map .int)
def imat (m : List (List Int)) : Dt := .lst (m.map ilst)
/-- as a list, as a tuple -/
def iseq (b : Bool) (ns : List Int) : Dt := bif b then itup ns else ilst ns
def imatS (b : Bool) (m : List (List Int)) : Dt := bif b then .tup (m.map itup) else imat m
def Dt.toI : Dt → Int
  | .int i => i
  | _ => 0
def Dt.items : Dt → List Dt
  | .lst ds => ds
  | .tup ds => ds
  | _ => []
def Dt.toIs (d : Dt) : List Int := d.items.map Dt.toI
def Dt.toM (d : Dt) : List (List Int) := d.items.map Dt.toIs
theorem map_toI (ns : List Int) : (ns.map Dt.int).map Dt.toI = ns := by
  rw [List.map_map]
  exact List.map_id _
theorem toIs_ilst (ns : List Int) : (ilst ns).toIs = ns := map_toI ns
theorem toIs_itup (ns : List Int) : (itup ns).toIs = ns := map_toI ns
theorem toIs_iseq (b : Bool) (ns : List Int) : (iseq b ns).toIs = ns := by cases b <;> exact map_toI ns
theorem toM_imat (m : List (List Int)) : (imat m).toM = m := by
  show (m.map ilst).map Dt.toIs = m
  rw [List.map_map, show Dt.toIs ∘ ilst = id from funext toIs_ilst]
  exact List.map_id _
theorem toM_imatS (b : Bool) (m : List (List Int)) : (imatS b m).toM = m := by
  cases b
  · exact toM_imat m
  · show (m.map itup).map Dt.toIs = m
    rw [List.map_map, show Dt.toIs ∘ itup = id from funext toIs_itup]
    exact List.map_id _
theorem seqOf_iseq (b : Bool) (ns : List Int) : seqOf (iseq b ns) = some (ns.map .int) := by cases b <;> rfl
theorem seqOf_imatS (b : Bool) (m : List (List Int)) : seqOf (imatS b m) = some (m.map (iseq b)) := by cases b <;> rfl
theorem pLen_iseq (b : Bool) (ns : List Int) : pLen (iseq b ns) = some (.vis (.int ns.length)) := by
  cases b
  · show some (R.vis (.int ((ns.map Dt.int).length : Nat))) = _
    rw [List.length_map]
  · show some (R.vis (.int ((ns.map Dt.int).length : Nat))) = _
    rw [List.length_map]
theorem pIx_iseq {b : Bool} {ns : List Int} {i : Int} {x : Int} (h0 : 0 ≤ i) (h : ns[i.toNat]? = some x) : pIx (iseq b ns) (.int i) = some (.vis (.int x)) := by
  have e : (ns.map Dt.int)[i.toNat]? = some (.int x) := by
    rw [List.getElem?_map, h]
    rfl
  cases b
  · show (atL (ns.map Dt.int) i).map R.vis = _
    rw [atL_of_get h0 e]
    rfl
  · show (atL (ns.map Dt.int) i).map R.vis = _
    rw [atL_of_get h0 e]
    rfl
theorem pIx_imatS {b : Bool} {m : List (List Int)} {i : Int} {x : List Int} (h0 : 0 ≤ i) (h : m[i.toNat]? = some x) : pIx (imatS b m) (.int i) = some (.vis (iseq b x)) := by
  cases b
  · have e : (m.map ilst)[i.toNat]? = some (ilst x) := by
      rw [List.getElem?_map, h]
      rfl
    show (atL (m.map ilst) i).map R.vis = _
    rw [atL_of_get h0 e]
    rfl
  · have e : (m.map itup)[i.toNat]? = some (itup x) := by
      rw [List.getElem?_map, h]
      rfl
    show (atL (m.map itup) i).map R.vis = _
    rw [atL_of_get h0 e]
    rfl
theorem zipWith_tup {α β : Type} (u : α → Dt) (v : β → Dt) : ∀ (xs : List α) (ys : List β), List.zipWith (fun x y => Dt.tup [x, y]) (xs.map u) (ys.map v) = (xs.zip ys).map fun p => Dt.tup [u p.1, v p.2]
  | [], _ => rfl
  | _ :: _, [] => rfl
  | x :: xs, y :: ys => by
    rw [List.map_cons, List.map_cons, List.zipWith_cons_cons, List.zip_cons_cons, List.map_cons, zipWith_tup u v xs ys]
theorem cutD_map {α : Type} (u : α → Dt) (xs : List α) {lo hi : Option Int} : cutD (xs.map u) lo hi = ((xs.drop (sIx xs.length 0 lo)).take (sIx xs.length xs.length hi - sIx xs.length 0 lo)).map u := by
  unfold cutD
  rw [List.length_map, List.map_take, List.map_drop]
theorem sIx_nat {n d k : Nat} (h : k ≤ n) : sIx n d (some (k : Int)) = k := by
  unfold sIx
  show (if 0 ≤ (k : Int) then min (k : Int).toNat n else ((k : Int) + (n : Int)).toNat) = k
  rw [if_pos (Int.natCast_nonneg k), Int.toNat_natCast, Nat.min_eq_left h]
theorem cut_nat {α : Type} (u : α → Dt) {xs : List α} {a k : Nat} (h : a + k ≤ xs.length) : cutD (xs.map u) (some (a : Int)) (some ((a : Int) + (k : Int))) = ((xs.drop a).take k).map u := by
  rw [cutD_map, sIx_nat (by omega), show ((a : Int) + (k : Int)) = ((a + k : Nat) : Int) by omega, sIx_nat h, Nat.add_sub_cancel_left]
theorem cutD_from {ds : List Dt} {k : Nat} : cutD ds (some (k : Int)) none = ds.drop k := by
  unfold cutD
  have h1 : sIx ds.length 0 (some (k : Int)) = min k ds.length := by
    show (if 0 ≤ (k : Int) then min (k : Int).toNat ds.length else ((k : Int) + (ds.length : Int)).toNat) = _
    rw [if_pos (Int.natCast_nonneg k), Int.toNat_natCast]
  rw [h1]
  show (ds.drop _).take (ds.length - _) = _
  rw [List.take_of_length_le (by rw [List.length_drop]; omega)]
  rcases Nat.le_total k ds.length with h | h
  · rw [Nat.min_eq_left h]
  · rw [Nat.min_eq_right h, List.drop_eq_nil_of_le h, List.drop_length]
theorem cutD_to {ds : List Dt} {k : Nat} : cutD ds none (some (k : Int)) = ds.take k := by
  unfold cutD
  have h1 : sIx ds.length ds.length (some (k : Int)) = min k ds.length := by
    show (if 0 ≤ (k : Int) then min (k : Int).toNat ds.length else ((k : Int) + (ds.length : Int)).toNat) = _
    rw [if_pos (Int.natCast_nonneg k), Int.toNat_natCast]
  rw [h1]
  show (ds.drop 0).take (min k ds.length - 0) = _
  rw [List.drop_zero, Nat.sub_zero]
  rcases Nat.le_total k ds.length with h | h
  · rw [Nat.min_eq_left h]
  · rw [Nat.min_eq_right h, List.take_length, List.take_of_length_le h]
theorem cutD_from1 {ds : List Dt} : cutD ds (some 1) none = ds.drop 1 := cutD_from (k := 1)
theorem sum_bounds {B : Int} : ∀ {l : List Int}, (∀ x ∈ l, 0 ≤ x ∧ x ≤ B) → 0 ≤ l.sum ∧ l.sum ≤ B * l.length
  | [], _ => ⟨Int.le_refl _, by simp⟩
  | x :: l, h => by
    have h1 := h x List.mem_cons_self
    have h2 := sum_bounds (l := l) fun y hy => h y (List.mem_cons_of_mem _ hy)
    rw [List.sum_cons, List.length_cons]
    refine ⟨by omega, ?_⟩
    rw [Int.natCast_add, Int.mul_add]
    omega
/-- digits as they are taken: the sizes given -/
theorem F_digits_at {c : Int} {ns : List Int} (h : sizeOk ns) : F_digits [.int c, ilst ns] = some (ilst (digitsM c ns)) := by
  show (intsOf (ns.map .int)).bind _ = _
  rw [intsOf_ints]
  exact if_pos h
theorem F_cell_at {ns : List Int} {k : Int} (h : 0 ≤ k ∧ k < 4294967296) : F_cell [ilst ns, .int k] = some (.int (cellM ns k)) := by
  show (intsOf (ns.map .int)).bind _ = _
  rw [intsOf_ints]
  exact if_pos h
/-! == of lists of ints -/
theorem pyL_ints : ∀ ns : List Int, Dt.pyL (ns.map .int) = some (ns.map .int)
  | [] => rfl
  | n :: ns => by
    rw [List.map_cons]
    unfold Dt.pyL
    rw [pyL_ints ns]
    rfl
theorem py_ilst (ns : List Int) : (ilst ns).py = some (.list (ns.map .int)) := by
  unfold ilst Dt.py
  rw [pyL_ints]
  rfl
theorem pyL_mat : ∀ m : List (List Int), Dt.pyL (m.map ilst) = some (m.map fun r => .list (r.map .int))
  | [] => rfl
  | n :: m => by
    rw [List.map_cons]
    unfold Dt.pyL
    rw [pyL_mat m, py_ilst]
    rfl
theorem py_imat (m : List (List Int)) : (imat m).py = some (.list (m.map fun r => .list (r.map .int))) := by
  unfold imat Dt.py
  rw [pyL_mat]
  rfl
theorem lay_ints : ∀ ns : List Int, PyData.canLayAll0 (ns.map .int) = true ∧ PyData.depthAll (ns.map .int) ≤ 1
  | [] => ⟨rfl, Nat.zero_le _⟩
  | n :: ns => by
    have h := lay_ints ns
    rw [List.map_cons]
    exact ⟨by simp [PyData.canLayAll0, PyData.canLay0, h.1], by simp only [PyData.depthAll, PyData.depth]; omega⟩
theorem lay_mat : ∀ m : List (List Int), PyData.canLayAll0 (m.map fun r => .list (r.map .int)) = true ∧ PyData.depthAll (m.map fun r => .list (r.map .int)) ≤ 3
  | [] => ⟨rfl, Nat.zero_le _⟩
  | n :: ns => by
    have h := lay_mat ns
    have h1 := lay_ints n
    rw [List.map_cons]
    exact ⟨by simp [PyData.canLayAll0, PyData.canLay0, h.1, h1.1], by simp only [PyData.depthAll, PyData.depth]; omega⟩
theorem eqv_ints : ∀ a b : List Int, PyData.eqvAll (a.map .int) (b.map .int) = decide (a = b)
  | [], [] => rfl
  | [], _ :: _ => by simp [PyData.eqvAll]
  | _ :: _, [] => by simp [PyData.eqvAll]
  | x :: a, y :: b => by
    rw [List.map_cons, List.map_cons]
    simp only [PyData.eqvAll, PyData.eqv, eqv_ints a b, List.cons.injEq]
    by_cases h : x = y <;> by_cases h2 : a = b <;> simp [h, h2]
theorem eqv_mat : ∀ a b : List (List Int), PyData.eqvAll (a.map fun r => .list (r.map .int)) (b.map fun r => .list (r.map .int)) = decide (a = b)
  | [], [] => rfl
  | [], _ :: _ => by simp [PyData.eqvAll]
  | _ :: _, [] => by simp [PyData.eqvAll]
  | x :: a, y :: b => by
    rw [List.map_cons, List.map_cons]
    simp only [PyData.eqvAll, PyData.eqv, eqv_mat a b, eqv_ints x y, List.cons.injEq]
    by_cases h : x = y <;> by_cases h2 : a = b <;> simp [h, h2]
theorem eqD_ilst (a b : List Int) : eqD (ilst a) (ilst b) = some (decide (a = b)) := by
  have h1 := lay_ints a
  have h2 := lay_ints b
  unfold eqD
  rw [py_ilst, py_ilst]
  show (if SeqAt.shaped (.list (a.map .int)) && SeqAt.shaped (.list (b.map .int)) then some (PyData.eqv _ _) else none) = _
  rw [if_pos]
  · simp only [PyData.eqv, eqv_ints]
  · simp only [SeqAt.shaped, PyData.canLay0, PyData.depth, h1.1, h2.1, Bool.and_eq_true, decide_eq_true_eq, true_and, Bool.true_and]
    exact ⟨decide_eq_true (by omega), decide_eq_true (by omega)⟩
theorem eqD_imat (a b : List (List Int)) : eqD (imat a) (imat b) = some (decide (a = b)) := by
  have h1 := lay_mat a
  have h2 := lay_mat b
  unfold eqD
  rw [py_imat, py_imat]
  show (if SeqAt.shaped (.list (a.map fun r => .list (r.map .int))) && SeqAt.shaped (.list (b.map fun r => .list (r.map .int))) then some (PyData.eqv _ _) else none) = _
  rw [if_pos]
  · simp only [PyData.eqv, eqv_mat]
  · simp only [SeqAt.shaped, PyData.canLay0, PyData.depth, h1.1, h2.1, Bool.and_eq_true, decide_eq_true_eq, true_and, Bool.true_and]
    exact ⟨decide_eq_true (by omega), decide_eq_true (by omega)⟩
theorem pEq_ilst (a b : List Int) : pEq (ilst a) (ilst b) = some (.vis (.bl (decide (a = b)))) := by unfold pEq; rw [eqD_ilst]; rfl
theorem pNe_ilst (a b : List Int) : pNe (ilst a) (ilst b) = some (.vis (.bl (!decide (a = b)))) := by unfold pNe; rw [eqD_ilst]; rfl
theorem pEq_imat (a b : List (List Int)) : pEq (imat a) (imat b) = some (.vis (.bl (decide (a = b)))) := by unfold pEq; rw [eqD_imat]; rfl
theorem pNe_imat (a b : List (List Int)) : pNe (imat a) (imat b) = some (.vis (.bl (!decide (a = b)))) := by unfold pNe; rw [eqD_imat]; rfl
/-! all digits at once; tables -/
def Below : List Int → List Int → Prop
  | [], [] => True
  | d :: ds, s :: ss => (0 ≤ d ∧ d < s) ∧ Below ds ss
  | _, _ => False
theorem below_of : ∀ {ds ss : List Int}, ds.length = ss.length → (∀ (i : Nat) s d, ss[i]? = some s → ds[i]? = some d → 0 ≤ d ∧ d < s) → Below ds ss
  | [], [], _, _ => trivial
  | [], _ :: _, h, _ => by cases h
  | _ :: _, [], h, _ => by cases h
  | d :: ds, s :: ss, h, g => ⟨g 0 s d rfl rfl, below_of (by simpa using h) fun i s' d' h1 h2 => g (i + 1) s' d' h1 h2⟩
theorem digits_below {c : Int} {ss : List Int} (hp : ∀ s ∈ ss, 0 < s) : Below (digitsM c ss) ss := below_of (digitsM_len c ss) fun i s d h1 h2 => digitsM_get hp h1 h2
theorem tab {l : List Int} {d : Int} (h0 : 0 ≤ d) (h : d < l.length) : ∃ v, v ∈ l ∧ atL (l.map Dt.int) d = some (.int v) := by
  have hl : d.toNat < l.length := by omega
  refine ⟨l[d.toNat], List.getElem_mem hl, atL_of_get h0 ?_⟩
  rw [List.getElem?_map, List.getElem?_eq_getElem hl]
  rfl
section
variable {α : Type} {a b c d e f g h i j k l m : α} {t : List α}
theorem atL0 : atL (a :: t) 0 = some a := rfl
theorem atL1 : atL (a :: b :: t) 1 = some b := rfl
theorem atL2 : atL (a :: b :: c :: t) 2 = some c := rfl
theorem atL3 : atL (a :: b :: c :: d :: t) 3 = some d := rfl
theorem atL4 : atL (a :: b :: c :: d :: e :: t) 4 = some e := rfl
theorem atL5 : atL (a :: b :: c :: d :: e :: f :: t) 5 = some f := rfl
theorem atL6 : atL (a :: b :: c :: d :: e :: f :: g :: t) 6 = some g := rfl
theorem atL7 : atL (a :: b :: c :: d :: e :: f :: g :: h :: t) 7 = some h := rfl
theorem atL8 : atL (a :: b :: c :: d :: e :: f :: g :: h :: i :: t) 8 = some i := rfl
theorem atL9 : atL (a :: b :: c :: d :: e :: f :: g :: h :: i :: j :: t) 9 = some j := rfl
theorem atL10 : atL (a :: b :: c :: d :: e :: f :: g :: h :: i :: j :: k :: t) 10 = some k := rfl
theorem atL11 : atL (a :: b :: c :: d :: e :: f :: g :: h :: i :: j :: k :: l :: t) 11 = some l := rfl
theorem atL12 : atL (a :: b :: c :: d :: e :: f :: g :: h :: i :: j :: k :: l :: m :: t) 12 = some m := rfl
end
theorem map_ilst (ns : List Int) : Dt.lst (ns.map .int) = ilst ns := rfl
theorem pAdd_ilst {a b : List Int} (h : a.length + b.length ≤ 4000000) : pAdd (ilst a) (ilst b) = some (.fre (.lst ((a ++ b).map .int))) := by
  unfold ilst
  rw [pAdd_lst (by rw [List.length_map, List.length_map]; exact lim_of h), List.map_append]
end Pyl
end
section
set_option Elab.async false
set_option linter.all false
set_option maxHeartbeats 1000000
namespace Pyl
open PySem
/-! tails: what their functions compute, for every law that needs them -/
local macro_rules | `(tactic| walk_at "pe") => `(tactic| simp (config := { implicitDefEqProofs := false }) only [eVar_at, eC_at, e1_at, e2_at, aNil_at, aCons_at, eTup_at, eLst_at, plain_nil, plain_cons, eCall_at, eIf_at, eAnd_at, eOr_at, eNot_at, tVal_at, tAnd_at, tOr_at, tNot_at, tYes_at,
  pAdd_int, pSub_int, pNeg_int, pLt_int, pLe_int, pGt_int, pGe_int, pEq_int, pNe_int, pIsN_at, pNotN_at, pIx_lst, pIx_tup, pGcd_int, atL0, atL1, atL2, atL3, atL4, atL5, atL6, atL7, atL8, oNone_at, oSome_at, eSlice_at, pLen_lst, pLen_tup, pInt_int, pInt_bl, pAbs_int, pSum_ints, pMax2_int, pMin2_int, pList_lst, pList_tup, pTuple_lst, pTuple_tup, iSeq_at, gN_at, gT_at, gsN_cons, gsN_nil, wipeS_cons, wipeS_nil,
  dt_vis, dt_bor, dt_fre, sh_vis, sh_bor, sh_fre, slot_vis, slot_fre, od_dt, isNon_non, isNon_int, isNon_lst, isNon_tup, scalar_int, scalar_bl, scalar_non, Option.bind_some, Option.bind_none, Option.map_some, Option.map_none, List.getElem?_cons_zero, List.getElem?_cons_succ, List.set_cons_zero, List.set_cons_succ, List.map_cons, List.map_nil, List.any_cons, List.any_nil, Bool.or_false, Bool.false_or, Bool.false_and, Bool.and_true, Bool.true_and, Bool.not_true, Bool.not_false,
  Option.some.injEq, exists_eq_left', exists_eq_left, true_and, and_true, if_true, if_false, Bool.false_eq_true, ite_true, ite_false, reduceIte, decide_eq_true_eq, decide_eq_false_iff_not, R.vis.injEq, R.fre.injEq, Dt.lst.injEq, Dt.tup.injEq, Dt.int.injEq, Slot.own.injEq, OD.lst.injEq, reduceCtorEq, false_and, exists_false, exists_const, Bool.true_eq_false, false_implies, true_implies, implies_true, forall_const])
def termM (t m : Int) (n j : Nat) : Int := (chooseN n j : Int) * t ^ j * m ^ (n - j)
def tailS (t m : Int) (n l : Nat) : Int := (((List.range (n + 1)).drop l).map (termM t m n)).sum
def gcdI (a b : Int) : Int := (Nat.gcd a.natAbs b.natAbs : Nat)
def lowT (t b : Int) : Int := t / gcdI t b
def lowB (t b : Int) : Int := b / gcdI t b
def powsM (x : Int) (n : Nat) : List Int := (List.range (n + 1)).map (x ^ ·)
open Classical in
noncomputable def F_lowest : FN := fun ds => match ds with
  | [.int t, .int b] => if 0 < b ∧ b.natAbs < 2 ^ 8000 then some (.tup [.int (lowT t b), .int (lowB t b)]) else none
  | _ => none
open Classical in
noncomputable def F_powers_of : FN := fun ds => match ds with
  | [.int x, .int n] => if 0 ≤ n ∧ n ≤ 1000 ∧ x.natAbs < 2 ^ 20 then some (ilst (powsM x n.toNat)) else none
  | _ => none
open Classical in
noncomputable def F_ways_of : FN := fun ds => match ds with
  | [hp, mp, .int n, .int j] => if (hp = ilst hp.toIs ∧ mp = ilst mp.toIs) ∧ (0 ≤ j ∧ j ≤ n ∧ n ≤ 1000) ∧ (hp.toIs.length = n + 1 ∧ mp.toIs.length = n + 1) ∧ (∀ x ∈ hp.toIs, x.natAbs < 2 ^ 21000) ∧ ∀ x ∈ mp.toIs, x.natAbs < 2 ^ 21000 then
      some (.int ((chooseN n.toNat j.toNat : Int) * hp.toIs.getD j.toNat 0 * mp.toIs.getD (n - j).toNat 0)) else none
  | _ => none
/-- what is handed as a share: top and bottom -/
structure OkSh (T B : Int) : Prop where
  t0 : 0 ≤ T
  tb : T ≤ B
  b0 : 0 < B
  b1 : B ≤ 999999
open Classical in
noncomputable def F_tail : FN := fun ds => match ds with
  | [.int n, sh, .int l] => if (∃ b T B, sh = iseq b [T, B] ∧ OkSh T B) ∧ 0 ≤ n ∧ n ≤ 200 ∧ 0 ≤ l ∧ l ≤ n + 1 then
      (let t := lowT (sh.toIs.getD 0 0) (sh.toIs.getD 1 0); let b := lowB (sh.toIs.getD 0 0) (sh.toIs.getD 1 0); let s := tailS t (b - t) n.toNat l.toNat; let w := b ^ n.toNat
       some (.tup [.int (lowT s w), .int (lowB s w)])) else none
  | _ => none
def cw_lowest : WS := (wSeq (wIf (tVal (e2 pEq (eVar 1) (eC (.int 0))))
  wDead
  wNil)
  (wSeq (wAsg 2 (e2 pGcd (eVar 0) (eVar 1)))
  (wSeq (wIf (tVal (e2 pLt (eVar 1) (eC (.int 0))))
  (wAsg 2 (e1 pNeg (eVar 2)))
  wNil)
  (wRet (eTup (aCons (e2 pDiv (eVar 0) (eVar 2)) (aCons (e2 pDiv (eVar 1) (eVar 2)) aNil)))))))
def cw_powers_of : WS := (wSeq (wAsg 2 (eLst (aCons (eC (.int 1)) aNil)))
  (wSeq (wFor (iRange1 (eVar 1)) (gN 3)
  (wApp 2 (e2 pMul (e2 pIx (eVar 2) (e1 pNeg (eC (.int 1)))) (eVar 0))))
  (wFrz 2 (wRet (eVar 2)))))
def cw_ways_of : WS := (wRet (e2 pMul (e2 pMul (e2 pComb (eVar 2) (eVar 3)) (e2 pIx (eVar 0) (eVar 3))) (e2 pIx (eVar 1) (e2 pSub (eVar 2) (eVar 3)))))
def cw_tail : WS := (wSeq (wUnp [7, 8] (eCall F_lowest (aCons (e2 pIx (eVar 1) (eC (.int 0))) (aCons (e2 pIx (eVar 1) (eC (.int 1))) aNil))))
  (wSeq (wAsg 3 (eCall F_powers_of (aCons (eVar 7) (aCons (eVar 0) aNil))))
  (wSeq (wAsg 4 (eCall F_powers_of (aCons (e2 pSub (eVar 8) (eVar 7)) (aCons (eVar 0) aNil))))
  (wSeq (wAsg 5 (eC (.int 0)))
  (wSeq (wFor (iRange2 (eVar 2) (e2 pAdd (eVar 0) (eC (.int 1)))) (gN 6)
  (wAsg 5 (e2 pAdd (eVar 5) (eCall F_ways_of (aCons (eVar 3) (aCons (eVar 4) (aCons (eVar 0) (aCons (eVar 6) aNil))))))))
  (wRet (eCall F_lowest (aCons (eVar 5) (aCons (e2 pIx (eCall F_powers_of (aCons (eVar 8) (aCons (eVar 0) aNil))) (eVar 0)) aNil)))))))))
/-! sizes of powers -/
theorem pow_bits {x : Int} {k : Nat} (h : x.natAbs ≤ 2 ^ k) (i : Nat) : (x ^ i).natAbs ≤ 2 ^ (k * i) := by
  rw [Int.natAbs_pow, Nat.pow_mul]
  exact Nat.pow_le_pow_left h i
theorem mul_bits {x y : Int} {a b : Nat} (hx : x.natAbs ≤ 2 ^ a) (hy : y.natAbs ≤ 2 ^ b) : (x * y).natAbs ≤ 2 ^ (a + b) := by
  rw [Int.natAbs_mul, Nat.pow_add]
  exact Nat.mul_le_mul hx hy
theorem lt_bits {x a b : Nat} (h : x ≤ 2 ^ a) (hab : a < b) : x < 2 ^ b := Nat.lt_of_le_of_lt h (Nat.pow_lt_pow_right (by decide) hab)
theorem choose_le : ∀ n k : Nat, chooseN n k ≤ 2 ^ n
  | n, 0 => by
    unfold chooseN
    exact Nat.pow_pos (by decide)
  | 0, k + 1 => by
    unfold chooseN
    exact Nat.zero_le _
  | n + 1, k + 1 => by
    have h1 := choose_le n k
    have h2 := choose_le n (k + 1)
    show chooseN n k + chooseN n (k + 1) ≤ _
    rw [Nat.pow_succ]
    omega
theorem ch_zero (n : Nat) : chooseN n 0 = 1 := by unfold chooseN; rfl
theorem ch_above : ∀ {n k : Nat}, n < k → chooseN n k = 0
  | 0, k + 1, _ => by unfold chooseN; rfl
  | n + 1, k + 1, h => by
    unfold chooseN
    rw [ch_above (n := n) (k := k) (by omega), ch_above (n := n) (k := k + 1) (by omega)]
theorem term_bits {t m : Int} {n j : Nat} (ht : t.natAbs ≤ 2 ^ 20) (hm : m.natAbs ≤ 2 ^ 20) (hj : j ≤ n) : (termM t m n j).natAbs ≤ 2 ^ (21 * n) := by
  have h1 : ((chooseN n j : Int)).natAbs ≤ 2 ^ n := by
    rw [Int.natAbs_natCast]
    exact choose_le n j
  have h := mul_bits (mul_bits h1 (pow_bits ht j)) (pow_bits hm (n - j))
  rw [show 21 * n = n + 20 * j + 20 * (n - j) by omega]
  exact h
theorem natAbs_sum {B : Nat} : ∀ {l : List Int}, (∀ x ∈ l, x.natAbs ≤ B) → l.sum.natAbs ≤ B * l.length
  | [], _ => by simp
  | x :: l, h => by
    have h1 := h x List.mem_cons_self
    have h2 := natAbs_sum (l := l) fun y hy => h y (List.mem_cons_of_mem _ hy)
    rw [List.sum_cons, List.length_cons, Nat.mul_add, Nat.mul_one]
    have := Int.natAbs_add_le x l.sum
    omega
theorem tail_bits {t m : Int} {n : Nat} (ht : t.natAbs ≤ 2 ^ 20) (hm : m.natAbs ≤ 2 ^ 20) (hn : n ≤ 200) (l : Nat) : (tailS t m n l).natAbs < 2 ^ 4400 := by
  have h := natAbs_sum (B := 2 ^ (21 * n)) (l := ((List.range (n + 1)).drop l).map (termM t m n)) fun x hx => by
    obtain ⟨j, hj, rfl⟩ := List.mem_map.mp hx
    have := List.mem_range.mp (List.mem_of_mem_drop hj)
    exact term_bits ht hm (by omega)
  have hl : (((List.range (n + 1)).drop l).map (termM t m n)).length ≤ 2 ^ 8 := by
    rw [List.length_map, List.length_drop, List.length_range]
    omega
  refine Nat.lt_of_le_of_lt (Nat.le_trans h (Nat.mul_le_mul_left _ hl)) ?_
  rw [← Nat.pow_add]
  exact Nat.pow_lt_pow_right (by decide) (by omega)
/-! scaling -/
theorem term_scale {c t m : Int} {n j : Nat} (hj : j ≤ n) : termM (c * t) (c * m) n j = c ^ n * termM t m n j := by
  unfold termM
  have e : c ^ n = c ^ j * c ^ (n - j) := by rw [← Int.pow_add]; congr 1; omega
  rw [Int.mul_pow, Int.mul_pow, e]
  ac_rfl
theorem tail_scale {c t m : Int} {n l : Nat} : tailS (c * t) (c * m) n l = c ^ n * tailS t m n l := by
  unfold tailS
  have e : ((List.range (n + 1)).drop l).map (termM (c * t) (c * m) n) = ((List.range (n + 1)).drop l).map fun j => c ^ n * termM t m n j :=
    List.map_congr_left fun j hj => term_scale (by have := List.mem_range.mp (List.mem_of_mem_drop hj); omega)
  rw [e]
  generalize (List.range (n + 1)).drop l = L
  induction L with
  | nil => exact (Int.mul_zero _).symm
  | cons x L ih => rw [List.map_cons, List.map_cons, List.sum_cons, List.sum_cons, ih, Int.mul_add]
theorem gcd_pos {a b : Int} (hb : 0 < b) : 0 < gcdI a b := by
  unfold gcdI
  have := Nat.gcd_pos_of_pos_right a.natAbs (show 0 < b.natAbs by omega)
  omega
theorem gcd_top (a b : Int) : gcdI a b * lowT a b = a := Int.mul_ediv_cancel' (Int.ofNat_dvd_left.mpr (Nat.gcd_dvd_left _ _))
theorem gcd_bot (a b : Int) : gcdI a b * lowB a b = b := Int.mul_ediv_cancel' (Int.ofNat_dvd_left.mpr (Nat.gcd_dvd_right _ _))
theorem low_pos {a b : Int} (hb : 0 < b) : 0 < lowB a b := by
  have h := gcd_bot a b
  have hg := gcd_pos (a := a) hb
  rcases Int.lt_or_le 0 (lowB a b) with h2 | h2
  · exact h2
  · have := Int.mul_nonpos_of_nonneg_of_nonpos (Int.le_of_lt hg) h2
    omega
theorem low_abs {a b : Int} (hb : 0 < b) : (lowT a b).natAbs ≤ a.natAbs ∧ (lowB a b).natAbs ≤ b.natAbs := by
  have hg := gcd_pos (a := a) hb
  have h1 := congrArg Int.natAbs (gcd_top a b)
  have h2 := congrArg Int.natAbs (gcd_bot a b)
  rw [Int.natAbs_mul] at h1 h2
  have hg2 : 0 < (gcdI a b).natAbs := by omega
  exact ⟨by rw [← h1]; exact Nat.le_mul_of_pos_left _ hg2, by rw [← h2]; exact Nat.le_mul_of_pos_left _ hg2⟩
theorem low_gcd {a b : Int} (hb : 0 < b) : gcdI (lowT a b) (lowB a b) = 1 := by
  have hp : 0 < Nat.gcd a.natAbs b.natAbs := Nat.gcd_pos_of_pos_right _ (by omega)
  have h1 := congrArg Int.natAbs (gcd_top a b)
  have h2 := congrArg Int.natAbs (gcd_bot a b)
  rw [Int.natAbs_mul] at h1 h2
  have e : (gcdI a b).natAbs = Nat.gcd a.natAbs b.natAbs := Int.natAbs_natCast _
  rw [e] at h1 h2
  have h : Nat.gcd a.natAbs b.natAbs * Nat.gcd (lowT a b).natAbs (lowB a b).natAbs = Nat.gcd a.natAbs b.natAbs * 1 := by
    rw [← Nat.gcd_mul_left, h1, h2, Nat.mul_one]
  unfold gcdI
  rw [Nat.eq_of_mul_eq_mul_left hp h]
  rfl
/-- what a share's chance is does not turn on how the share is handed -/
theorem told_ok {T B f : Int} {n l : Nat} (hT : 0 ≤ T) (hB : 0 < B) (hf : 0 < f) :
    let t := lowT (T * f) (B * f); let b := lowB (T * f) (B * f); let s := tailS t (b - t) n l
    lowT s (b ^ n) * B ^ n = tailS T (B - T) n l * lowB s (b ^ n) := by
  intro t b s
  have hBf : 0 < B * f := Int.mul_pos hB hf
  have hb : 0 < b := low_pos hBf
  have hbn : 0 < b ^ n := Int.pow_pos hb
  have hg : 0 < gcdI (T * f) (B * f) := gcd_pos hBf
  have e1 : gcdI (T * f) (B * f) * t = T * f := gcd_top _ _
  have e2 : gcdI (T * f) (B * f) * b = B * f := gcd_bot _ _
  generalize gcdI (T * f) (B * f) = g at *
  have e3 : g ^ n * s = f ^ n * tailS T (B - T) n l := by
    rw [← tail_scale, ← tail_scale, e1, Int.mul_sub, e1, e2, Int.mul_comm T, Int.mul_comm B, Int.mul_sub]
  have e4 : g ^ n * b ^ n = f ^ n * B ^ n := by rw [← Int.mul_pow, ← Int.mul_pow, e2, Int.mul_comm B]
  have hgn : 0 < g ^ n := Int.pow_pos hg
  have hfn : 0 < f ^ n := Int.pow_pos hf
  have hG : 0 < gcdI s (b ^ n) := gcd_pos hbn
  have e5 := gcd_top s (b ^ n)
  have e6 := gcd_bot s (b ^ n)
  generalize tailS T (B - T) n l = S at *
  have e7 : s * B ^ n = S * b ^ n := by
    have h : (g ^ n * f ^ n) * (s * B ^ n) = (g ^ n * f ^ n) * (S * b ^ n) := by
      calc (g ^ n * f ^ n) * (s * B ^ n) = (g ^ n * s) * (f ^ n * B ^ n) := by ac_rfl
        _ = (f ^ n * S) * (g ^ n * b ^ n) := by rw [e3, e4]
        _ = (g ^ n * f ^ n) * (S * b ^ n) := by ac_rfl
    exact Int.eq_of_mul_eq_mul_left (Int.ne_of_gt (Int.mul_pos hgn hfn)) h
  refine Int.eq_of_mul_eq_mul_left (Int.ne_of_gt hG) ?_
  calc gcdI s (b ^ n) * (lowT s (b ^ n) * B ^ n) = (gcdI s (b ^ n) * lowT s (b ^ n)) * B ^ n := by ac_rfl
    _ = S * b ^ n := by rw [e5, e7]
    _ = S * (gcdI s (b ^ n) * lowB s (b ^ n)) := by rw [e6]
    _ = gcdI s (b ^ n) * (S * lowB s (b ^ n)) := by ac_rfl
theorem lenk_lowest : ∀ (ds : List Dt) (r : Dt), F_lowest ds = some r → ds.length = 2 := by
  intro ds r h
  match ds, h with
  | [.int _, .int _], _ => rfl
theorem big_lt {x : Int} {n : Nat} (h : x.natAbs < 2 ^ n) (hn : n ≤ 400000 := by decide) : x.natAbs < BIG := big_of h hn
theorem gcd_le {a b : Int} (hb : 0 < b) : (gcdI a b).natAbs ≤ b.natAbs := by
  unfold gcdI
  rw [Int.natAbs_natCast]
  exact Nat.gcd_le_right _ (by omega)
theorem kk_lowest : Keeps 3 cw_lowest F_lowest := by
  intro ds r h
  match ds, h with
  | [.int t, .int b], h =>
    simp only [F_lowest] at h
    split at h
    case isFalse => cases h
    rename_i hk
    cases h
    have hg := gcd_pos (a := t) hk.1
    have hgl : (gcdI t b).natAbs < DIVB := by
      rw [DIVB_eq]
      exact Nat.lt_of_le_of_lt (gcd_le hk.1) (Nat.lt_trans hk.2 (Nat.pow_lt_pow_right (by decide) (by decide)))
    show cw_lowest _ [.val (.int t), .val (.int b), .non]
    refine q_ifD (p := b = 0) (by walk_at "pe") (fun e => absurd e (by omega)) fun _ => s_nil ?_
    refine q_asg (r := .vis (.int (gcdI t b))) (by walk_at "pe"; rfl) rfl rfl ?_
    refine q_ifD (p := b < 0) (by walk_at "pe") (fun e => absurd e (by omega)) fun _ => s_nil ?_
    exact s_ret (r := .vis (.tup [.int (lowT t b), .int (lowB t b)])) (by walk_at "pe"; rw [pDiv_int hg hgl, pDiv_int hg hgl]; walk_at "pe"; rfl) rfl rfl rfl
theorem low_at {t b : Int} (h : 0 < b) (h2 : b.natAbs < 2 ^ 8000) : F_lowest [.int t, .int b] = some (.tup [.int (lowT t b), .int (lowB t b)]) := if_pos ⟨h, h2⟩
theorem lenk_powers_of : ∀ (ds : List Dt) (r : Dt), F_powers_of ds = some r → ds.length = 2 := by
  intro ds r h
  match ds, h with
  | [.int _, .int _], _ => rfl
theorem pows_snoc (x : Int) (n : Nat) : (powsM x n).map Dt.int = ((List.range n).map (x ^ ·)).map Dt.int ++ [.int (x ^ n)] := by
  unfold powsM
  rw [List.range_succ, List.map_append, List.map_append]
  rfl
theorem pows_succ (x : Int) (n : Nat) : powsM x (n + 1) = powsM x n ++ [x ^ n * x] := by
  unfold powsM
  rw [List.range_succ, List.map_append, List.map_cons, List.map_nil, Int.pow_succ]
theorem pows_zero (x : Int) : powsM x 0 = [1] := by
  show [x ^ 0] = [1]
  rw [Int.pow_zero]
theorem pows_len (x : Int) (n : Nat) : (powsM x n).length = n + 1 := by
  unfold powsM
  rw [List.length_map, List.length_range]
theorem pows_get {x : Int} {n i : Nat} (h : i ≤ n) : (powsM x n)[i]? = some (x ^ i) := by
  unfold powsM
  rw [List.getElem?_map, List.getElem?_range (by omega)]
  rfl
theorem kk_powers_of : Keeps 4 cw_powers_of F_powers_of := by
  intro ds r h
  match ds, h with
  | [.int x, .int n], h =>
    simp only [F_powers_of] at h
    split at h
    case isFalse => cases h
    rename_i hk
    cases h
    obtain ⟨n, rfl⟩ : ∃ k : Nat, n = k := ⟨n.toNat, by omega⟩
    rw [Int.toNat_natCast]
    show cw_powers_of _ [.val (.int x), .val (.int n), .non, .non]
    refine q_asg (r := .fre (.lst ((powsM x 0).map .int))) (by walk_at "pe"; rw [pows_zero]; rfl) rfl rfl ?_
    refine q_forRng (lo := 0) (n := n) (fun i e => ∃ z, e = [.val (.int x), .val (.int n), .own (.lst ((powsM x i).map .int)), z]) (by rw [rng1 (n := (n : Int)) rfl (by omega), Int.toNat_natCast]) ⟨_, rfl⟩ ?_ ?_
    · rintro i env hi ⟨z, rfl⟩
      refine ⟨_, by walk_at "pe"; rfl, ?_⟩
      refine s_app (d := .int (x ^ i * x)) rfl (r := .vis (.int (x ^ i * x))) ?_ rfl (by rw [List.length_map, pows_len]; exact lim_lt (by omega)) rfl rfl ⟨.val (.int (0 + (i : Int))), ?_⟩
      · walk_at "pe"
        rw [pows_snoc, atL_last]
        walk_at "pe"
        have hx : x.natAbs ≤ 2 ^ 20 := by omega
        rw [pMul_int (big_lt (n := 20 * i + 1) (lt_bits (pow_bits hx i) (by omega)) (by omega)) (big_lt (n := 20) hk.2.2)]
      · rw [pows_succ, List.map_append]
        rfl
    · rintro env ⟨z, rfl⟩
      exact q_frz rfl rfl (s_ret (r := .vis (ilst (powsM x n))) (by walk_at "pe"; rfl) rfl rfl rfl)
theorem pows_at {x : Int} {n : Nat} (h : n ≤ 1000) (h2 : x.natAbs < 2 ^ 20) : F_powers_of [.int x, .int (n : Int)] = some (ilst (powsM x n)) := by
  show (if 0 ≤ (n : Int) ∧ (n : Int) ≤ 1000 ∧ x.natAbs < 2 ^ 20 then some (ilst (powsM x (n : Int).toNat)) else none) = _
  rw [if_pos ⟨by omega, by omega, h2⟩, Int.toNat_natCast]
theorem lenk_ways_of : ∀ (ds : List Dt) (r : Dt), F_ways_of ds = some r → ds.length = 4 := by
  intro ds r h
  match ds, h with
  | [_, _, .int _, .int _], _ => rfl
theorem kk_ways_of : Keeps 4 cw_ways_of F_ways_of := by
  intro ds r h
  match ds, h with
  | [hp, mp, .int n, .int j], h =>
    simp only [F_ways_of] at h
    split at h
    case isFalse => cases h
    rename_i hk
    obtain ⟨⟨e1, e2⟩, ⟨j0, jn, n1⟩, ⟨l1, l2⟩, b1, b2⟩ := hk
    cases h
    generalize hp.toIs = xs at *
    generalize mp.toIs = ys at *
    subst e1 e2
    obtain ⟨n, rfl⟩ : ∃ k : Nat, n = k := ⟨n.toNat, by omega⟩
    obtain ⟨j, rfl⟩ : ∃ k : Nat, j = k := ⟨j.toNat, by omega⟩
    rw [Int.toNat_natCast, Int.toNat_natCast, show ((n : Int) - (j : Int)).toNat = n - j by omega]
    have g1 : xs[j]? = some (xs.getD j 0) := by
      rw [List.getD_eq_getElem?_getD, List.getElem?_eq_getElem (by omega)]
      rfl
    have g2 : ys[n - j]? = some (ys.getD (n - j) 0) := by
      rw [List.getD_eq_getElem?_getD, List.getElem?_eq_getElem (by omega)]
      rfl
    have z1 := b1 _ (List.mem_of_getElem? g1)
    have z2 := b2 _ (List.mem_of_getElem? g2)
    generalize xs.getD j 0 = x at *
    generalize ys.getD (n - j) 0 = y at *
    have hc : ((chooseN n j : Int)).natAbs ≤ 2 ^ n := by
      rw [Int.natAbs_natCast]
      exact choose_le n j
    show cw_ways_of _ [.val (ilst xs), .val (ilst ys), .val (.int n), .val (.int j)]
    refine s_ret (r := .vis (.int ((chooseN n j : Int) * x * y))) ?_ rfl rfl rfl
    walk_at "pe"
    rw [pComb_nat (by omega), show pIx (ilst xs) (.int (j : Int)) = _ from pIx_iseq (b := false) (Int.natCast_nonneg j) (by rw [Int.toNat_natCast]; exact g1)]
    walk_at "pe"
    rw [pMul_int (big_lt (n := n + 1) (lt_bits hc (by omega)) (by omega)) (big_lt z1), show ((n : Int) - (j : Int)) = ((n - j : Nat) : Int) by omega, show pIx (ilst ys) (.int ((n - j : Nat) : Int)) = _ from pIx_iseq (b := false) (Int.natCast_nonneg _) (by rw [Int.toNat_natCast]; exact g2)]
    walk_at "pe"
    rw [pMul_int (big_lt (n := n + 21000 + 1) (lt_bits (mul_bits hc (Nat.le_of_lt z1)) (by omega)) (by omega)) (big_lt z2)]
theorem ways_at {t m : Int} {n j : Nat} (hj : j ≤ n) (hn : n ≤ 1000) (ht : t.natAbs < 2 ^ 20) (hm : m.natAbs < 2 ^ 20) : F_ways_of [ilst (powsM t n), ilst (powsM m n), .int (n : Int), .int (j : Int)] = some (.int (termM t m n j)) := by
  have hb : ∀ (x : Int), x.natAbs < 2 ^ 20 → ∀ y ∈ powsM x n, y.natAbs < 2 ^ 21000 := fun x hx y hy => by
    obtain ⟨i, hi, rfl⟩ := List.mem_map.mp hy
    have := List.mem_range.mp hi
    exact lt_bits (pow_bits (Nat.le_of_lt hx) i) (by omega)
  simp only [F_ways_of]
  rw [toIs_ilst, toIs_ilst, if_pos]
  · rw [Int.toNat_natCast, Int.toNat_natCast, show ((n : Int) - (j : Int)).toNat = n - j by omega, List.getD_eq_getElem?_getD, List.getD_eq_getElem?_getD, pows_get hj, pows_get (Nat.sub_le n j)]
    rfl
  · exact ⟨⟨rfl, rfl⟩, ⟨by omega, by omega, by omega⟩, ⟨by rw [pows_len]; omega, by rw [pows_len]; omega⟩, hb t ht, hb m hm⟩
theorem lenk_tail : ∀ (ds : List Dt) (r : Dt), F_tail ds = some r → ds.length = 3 := by
  intro ds r h
  match ds, h with
  | [.int _, _, .int _], _ => rfl
theorem sum_take_succ {l : List Int} {i : Nat} {x : Int} (h : l[i]? = some x) : (l.take (i + 1)).sum = (l.take i).sum + x := by
  rw [List.take_add_one, h, List.sum_append]
  simp
theorem sh_bits {T B : Int} (ok : OkSh T B) : (lowT T B).natAbs < 2 ^ 20 ∧ (lowB T B).natAbs < 2 ^ 20 ∧ (lowB T B - lowT T B).natAbs < 2 ^ 20 ∧ 0 < lowB T B := by
  have h := low_abs (a := T) ok.b0
  have hp := low_pos (a := T) ok.b0
  have h1 := ok.t0
  have h2 := ok.tb
  have h3 := ok.b1
  have hg := gcd_pos (a := T) ok.b0
  have ht : 0 ≤ lowT T B := Int.ediv_nonneg h1 (Int.le_of_lt hg)
  omega
theorem kk_tail : Keeps 9 cw_tail F_tail := by
  intro ds r h
  match ds, h with
  | [.int n, sh, .int l], h =>
    simp only [F_tail] at h
    split at h
    case isFalse => cases h
    rename_i hk
    obtain ⟨⟨b, T, B, rfl, ok⟩, n0, n1, l0, l1⟩ := hk
    cases h
    obtain ⟨n, rfl⟩ : ∃ k : Nat, n = k := ⟨n.toNat, by omega⟩
    obtain ⟨l, rfl⟩ : ∃ k : Nat, l = k := ⟨l.toNat, by omega⟩
    rw [toIs_iseq, Int.toNat_natCast, Int.toNat_natCast]
    show cw_tail ⟨_, fun d => d = .tup [.int (lowT (tailS (lowT T B) (lowB T B - lowT T B) n l) (lowB T B ^ n)), .int (lowB (tailS (lowT T B) (lowB T B - lowT T B) n l) (lowB T B ^ n))], _, _⟩ [.val (.int n), .val (iseq b [T, B]), .val (.int l), .non, .non, .non, .non, .non, .non]
    have i0 : pIx (iseq b [T, B]) (.int 0) = some (.vis (.int T)) := pIx_iseq (by decide) rfl
    have i1 : pIx (iseq b [T, B]) (.int 1) = some (.vis (.int B)) := pIx_iseq (by decide) rfl
    have hlow : F_lowest [.int T, .int B] = some (.tup [.int (lowT T B), .int (lowB T B)]) := low_at ok.b0 (Nat.lt_of_lt_of_le (show B.natAbs < 2 ^ 20 by have := ok.b1; have := ok.b0; omega) (Nat.pow_le_pow_right (by decide) (by decide)))
    obtain ⟨z1, z2, z3, z4⟩ := sh_bits ok
    generalize lowT T B = t at *
    generalize lowB T B = c at *
    have hcn : 0 < c ^ n := Int.pow_pos z4
    have hcb : (c ^ n).natAbs < 2 ^ 8000 := lt_bits (pow_bits (Nat.le_of_lt z2) n) (by omega)
    refine q_unp (d := .tup [.int t, .int c]) (by walk_at "pe"; rw [i0, i1]; walk_at "pe"; rw [hlow]; walk_at "pe") rfl ?_
    refine q_asg (r := .vis (ilst (powsM t n))) (by walk_at "pe"; rw [pows_at (by omega) z1]; walk_at "pe") rfl rfl ?_
    refine q_asg (r := .vis (ilst (powsM (c - t) n))) (by walk_at "pe"; rw [pows_at (by omega) z3]; walk_at "pe") rfl rfl ?_
    refine q_asg (r := .vis (.int 0)) (by walk_at "pe") rfl rfl ?_
    generalize hts : ((List.range (n + 1)).drop l).map (termM t (c - t) n) = ts
    have htl : ts.length = n + 1 - l := by rw [← hts, List.length_map, List.length_drop, List.length_range]
    refine q_forRng (lo := (l : Int)) (n := n + 1 - l) (fun i e => ∃ z, e = [.val (.int n), .val (iseq b [T, B]), .val (.int l), .val (ilst (powsM t n)), .val (ilst (powsM (c - t) n)), .val (.int ((ts.take i).sum)), z, .val (.int t), .val (.int c)])
      (by rw [rng2 (lo := (l : Int)) (hi := (n : Int) + 1) rfl (by walk_at "pe"), show ((n : Int) + 1 - (l : Int)).toNat = n + 1 - l by omega]) ⟨_, rfl⟩ ?_ ?_
    · rintro i env hi ⟨z, rfl⟩
      refine ⟨_, by walk_at "pe"; rfl, ?_⟩
      have hg : ts[i]? = some (termM t (c - t) n (l + i)) := by
        rw [← hts, List.getElem?_map, List.getElem?_drop, List.getElem?_range (by omega)]
        rfl
      refine s_asg (r := .vis (.int ((ts.take (i + 1)).sum))) ?_ rfl rfl ⟨_, rfl⟩
      walk_at "pe"
      rw [show ((l : Int) + (i : Int)) = ((l + i : Nat) : Int) by omega, ways_at (by omega) (by omega) z1 z3]
      walk_at "pe"
      rw [sum_take_succ hg]
    · rintro env ⟨z, rfl⟩
      rw [← htl, List.take_length]
      refine s_ret (r := .vis _) ?_ rfl rfl rfl
      walk_at "pe"
      rw [pows_at (by omega) z2]
      walk_at "pe"
      rw [show pIx (ilst (powsM c n)) (.int (n : Int)) = _ from pIx_iseq (b := false) (Int.natCast_nonneg n) (by rw [Int.toNat_natCast]; exact pows_get (Nat.le_refl n))]
      walk_at "pe"
      rw [low_at hcn hcb]
      walk_at "pe"
      rw [← hts]
      rfl
theorem tail_at {b : Bool} {T B : Int} {n l : Nat} (ok : OkSh T B) (hn : n ≤ 200) (hl : l ≤ n + 1) :
    F_tail [.int (n : Int), iseq b [T, B], .int (l : Int)] = some (.tup [.int (lowT (tailS (lowT T B) (lowB T B - lowT T B) n l) (lowB T B ^ n)), .int (lowB (tailS (lowT T B) (lowB T B - lowT T B) n l) (lowB T B ^ n))]) := by
  simp only [F_tail]
  rw [toIs_iseq, if_pos ⟨⟨b, T, B, rfl, ok⟩, by omega, by omega, by omega, by omega⟩, Int.toNat_natCast, Int.toNat_natCast]
  rfl
def rowW (t m : Int) (n : Nat) : List Int := (List.range (n + 1)).map (termM t m n)
theorem rowW_len (t m : Int) (n : Nat) : (rowW t m n).length = n + 1 := by
  unfold rowW
  rw [List.length_map, List.length_range]
theorem rowW_get {t m : Int} {n j : Nat} (h : j ≤ n) : (rowW t m n)[j]? = some (termM t m n j) := by
  unfold rowW
  rw [List.getElem?_map, List.getElem?_range (by omega)]
  rfl
theorem term_above {t m : Int} {n j : Nat} (h : n < j) : termM t m n j = 0 := by
  unfold termM
  rw [ch_above h, Int.natCast_zero, Int.zero_mul, Int.zero_mul]
theorem term_zero {t m : Int} {n : Nat} : termM t m (n + 1) 0 = m * termM t m n 0 := by
  unfold termM
  rw [ch_zero, ch_zero, Nat.sub_zero, Nat.sub_zero, Int.pow_succ, Int.pow_zero]
  simp only [Int.natCast_one, Int.one_mul, Int.mul_one]
  exact Int.mul_comm _ _
theorem term_succ {t m : Int} {n j : Nat} (h : j ≤ n) : termM t m (n + 1) (j + 1) = m * termM t m n (j + 1) + t * termM t m n j := by
  unfold termM
  show ((chooseN n j + chooseN n (j + 1) : Nat) : Int) * t ^ (j + 1) * m ^ (n + 1 - (j + 1)) = _
  rw [Nat.add_sub_add_right, Int.natCast_add, Int.add_mul, Int.add_mul]
  rcases Nat.lt_or_ge j n with h2 | h2
  · have e : n - j = (n - (j + 1)) + 1 := by omega
    rw [e, Int.pow_succ m, Int.pow_succ t]
    rw [Int.add_comm]
    congr 1 <;> ac_rfl
  · have e : j = n := by omega
    subst e
    rw [ch_above (Nat.lt_succ_self j), Int.natCast_zero, Int.zero_mul, Int.zero_mul, Int.zero_mul, Int.mul_zero, Int.add_zero, Int.zero_add, Int.pow_succ]
    ac_rfl
theorem rowW_drop (t m : Int) (n l : Nat) : ((rowW t m n).drop l).sum = tailS t m n l := by
  unfold rowW tailS
  rw [List.map_drop]
end Pyl
end
section
set_option linter.all false
namespace Pyl
open PySem
/-! k68: what its functions compute -/
/-- the wrong majorities among n runs: ways, out of -/
def majS (T B : Int) (i : Nat) : Int := tailS T (B - T) (2 * i + 1) (i + 1)
def entM (T B : Int) (i : Nat) : List Int := [((2 * i + 1 : Nat) : Int), majS T B i, B ^ (2 * i + 1)]
def majL (T B : Int) (k : Nat) : List (List Int) := (List.range k).map (entM T B)
/-- the i-th odd number is enough, as the program tells it -/
def enough (T B inputs : Int) (i : Nat) : Bool :=
  let t := lowT T B; let b := lowB T B; let s := majS t b i; let w := b ^ (2 * i + 1)
  decide (inputs * lowT s w < lowB s w)
def oddD : Option Nat → Dt
  | some i => .int ((2 * i + 1 : Nat) : Int)
  | none => .non
open Classical in
noncomputable def F_rows_told : FN := fun ds => match ds with
  | [.int n, sh] => if (∃ b T B, sh = iseq b [T, B] ∧ OkSh T B) ∧ 0 ≤ n ∧ n ≤ 1000 then some (oddD ((List.range 76).find? (enough (sh.toIs.getD 0 0) (sh.toIs.getD 1 0) n))) else none
  | _ => none
def F__law_whole : FN := F_whole
def F__law_cell : FN := F_cell
def F__law_digits : FN := F_digits
def cw_fault_chance : WS := (wSeq (wAsg 1 (eCall F__law_digits (aCons (eVar 0) (aCons (eLst (aCons (eC (.int 32)) (aCons (eC (.int 12)) (aCons (eC (.int 60)) (aCons (eC (.int 999999)) (aCons (eC (.int 999999)) aNil)))))) aNil))))
  (wSeq (wAsg 2 (e2 pAdd (eC (.int 2)) (e2 pIx (eVar 1) (eC (.int 2)))))
  (wSeq (wIf (tVal (eChain pLe pLe (eC (.int 10)) (e2 pIx (eVar 1) (eC (.int 0))) (eC (.int 15))))
  (wAsg 2 (e2 pAdd (eC (.int 1)) (e2 pIx (eVar 1) (eC (.int 1)))))
  wNil)
  (wSeq (wIf (tOr (tVal (e2 pEq (e2 pIx (eVar 1) (eC (.int 0))) (eC (.int 4)))) (tVal (eChain pLe pLe (eC (.int 6)) (e2 pIx (eVar 1) (eC (.int 0))) (eC (.int 9)))))
  (wAsg 2 (e2 pAdd (eC (.int 1)) (e2 pIx (eVar 1) (eC (.int 3)))))
  wNil)
  (wSeq (wAsg 3 (e2 pMod (e1 pInt (e2 pIx (eVar 1) (eC (.int 4)))) (e2 pAdd (e2 pDiv (e2 pMul (eVar 2) (eC (.int 9))) (eC (.int 20))) (eC (.int 1)))))
  (wSeq (wIf (tVal (e2 pEq (e2 pIx (eVar 1) (eC (.int 0))) (eC (.int 0))))
  (wAsg 3 (eC (.int 0)))
  wNil)
  (wSeq (wIf (tVal (e2 pEq (e2 pIx (eVar 1) (eC (.int 0))) (eC (.int 1))))
  (wAsg 3 (eVar 2))
  wNil)
  (wSeq (wIf (tVal (eChain pLe pLe (eC (.int 2)) (e2 pIx (eVar 1) (eC (.int 0))) (eC (.int 4))))
  (wAsg 3 (e2 pMax2 (eC (.int 0)) (e2 pSub (e2 pDiv (eVar 2) (eC (.int 2))) (e2 pMod (e1 pInt (e2 pIx (eVar 1) (eC (.int 4)))) (e2 pAdd (e2 pDiv (eVar 2) (eC (.int 16))) (eC (.int 2)))))))
  wNil)
  (wSeq (wIf (tOr (tVal (e2 pEq (e2 pIx (eVar 1) (eC (.int 0))) (eC (.int 5)))) (tVal (e2 pEq (e2 pIx (eVar 1) (eC (.int 0))) (eC (.int 6)))))
  (wAsg 3 (e2 pMod (e1 pInt (e2 pIx (eVar 1) (eC (.int 4)))) (e2 pAdd (eVar 2) (eC (.int 1)))))
  wNil)
  (wSeq (wIf (tVal (e2 pEq (e2 pIx (eVar 1) (eC (.int 0))) (eC (.int 9))))
  (wAsg 3 (e2 pMin2 (eVar 2) (e2 pIx (eVar 1) (eC (.int 2)))))
  wNil)
  (wRet (eLst (aCons (eVar 3) (aCons (eVar 2) aNil))))))))))))))
noncomputable def F__law_fault_chance : FN := autoF 4 cw_fault_chance fun ds r => ds.length = 1 ∧ ∃ T B, r = ilst [T, B] ∧ OkSh T B
def cw_majorities : WS := (wSeq (wAsg 2 (eLst aNil))
  (wSeq (wAsg 3 (eLst (aCons (eC (.int 1)) aNil)))
  (wFrz 3 (wSeq (wAsg 4 (eC (.int 1)))
  (wSeq (wFor (iRange2 (eC (.int 1)) (eC (.int 152))) (gN 5)
  (wSeq (wAsg 6 (e2 pAdd (eComp [9] (iSeq (eVar 3)) (gN 9) tYes (e2 pMul (e2 pSub (eVar 1) (eVar 0)) (eVar 9))) (eLst (aCons (eC (.int 0)) aNil))))
  (wFrz 6 (wSeq (wAsg 7 (e2 pAdd (eLst (aCons (eC (.int 0)) aNil)) (eComp [9] (iSeq (eVar 3)) (gN 9) tYes (e2 pMul (eVar 0) (eVar 9)))))
  (wFrz 7 (wSeq (wAsg 3 (eComp [8] (iRange1 (e2 pAdd (eVar 5) (eC (.int 1)))) (gN 8) tYes (e2 pAdd (e2 pIx (eVar 6) (eVar 8)) (e2 pIx (eVar 7) (eVar 8)))))
  (wFrz 3 (wSeq (wAsg 4 (e2 pMul (eVar 4) (eVar 1)))
  (wIf (tVal (e2 pEq (e2 pMod (e1 pInt (eVar 5)) (eC (.int 2))) (eC (.int 1))))
  (wSeq (wApp 2 (eLst (aCons (eVar 5) (aCons (e1 pSum (eSlice (eVar 3) (oSome (e2 pDiv (e2 pAdd (eVar 5) (eC (.int 1))) (eC (.int 2)))) oNone)) (aCons (eVar 4) aNil)))))
  (wIf (tVal (e2 pLt (e2 pMul (eC (.int 1000)) (e2 pIx (e2 pIx (eVar 2) (e1 pNeg (eC (.int 1)))) (eC (.int 1)))) (eVar 4)))
  wBrk
  wNil))
  wNil)))))))))
  (wFrz 2 (wRet (eVar 2))))))))
/-- how far the entries go -/
def OkR (T B : Int) (k : Nat) : Prop := k ≤ 75 ∧ (k = 75 ∨ 1000 * majS T B k < B ^ (2 * k + 1))
noncomputable def F__law_majorities : FN := autoF 10 cw_majorities fun ds r => ds.length = 2 ∧ ∀ T B, ds = [.int T, .int B] → ∃ k, OkR T B k ∧ r = imat (majL T B (k + 1))
def dueD : Option (List Int) → Dt
  | some e => .int (e.getD 0 0)
  | none => .non
open Classical in
noncomputable def F__law_due_number : FN := fun ds => match ds with
  | [es, .int n] => if es = imat es.toM ∧ es.toM.length ≤ 1000 ∧ (0 ≤ n ∧ n ≤ 1000) ∧ ∀ e ∈ es.toM, e.length = 3 ∧ ∀ x ∈ e, x.natAbs < 2 ^ 4400 then some (dueD (es.toM.find? fun e => decide (n * e.getD 1 0 < e.getD 2 0))) else none
  | _ => none
open Classical in
noncomputable def F__law_most_inputs : FN := fun ds => match ds with
  | [.lst [.int r, .int s, .int w]] => if 0 ≤ s ∧ s.natAbs < 2 ^ 4400 then some (.int (if s = 0 then 999 else
      let q := (w - 1) / s; let m := if q > 1 then q else 1; if m < 999 then m else 999)) else none
  | _ => none
open Classical in
noncomputable def F__law_answered : FN := fun ds => match ds with
  | [xs, .int st, .int n, es] => if (0 ≤ n ∧ n ≤ 1000) ∧ ∃ T B f k, xs = ilst [T * f, B * f] ∧ es = imat (majL T B (k + 1)) ∧ OkSh T B ∧ OkSh (T * f) (B * f) ∧ 0 < f ∧ OkR T B k then some (.bl true) else none
  | _ => none
def F_law : FN := fun ds => match ds with
  | [.lst xs] => (intsOf xs).bind fun ns => if ns.length ≤ 63 then some (.bl true) else none
  | _ => none
end Pyl
end
section
set_option linter.all false
namespace Pyl
open PySem
/-! lowest(top, bottom): 0 top 1 bottom 2 common -/
def w_lowest : WS := (wSeq (wIf (tVal (e2 pEq (eVar 1) (eC (.int 0))))
  wDead
  wNil)
  (wSeq (wAsg 2 (e2 pGcd (eVar 0) (eVar 1)))
  (wSeq (wIf (tVal (e2 pLt (eVar 1) (eC (.int 0))))
  (wAsg 2 (e1 pNeg (eVar 2)))
  wNil)
  (wRet (eTup (aCons (e2 pDiv (eVar 0) (eVar 2)) (aCons (e2 pDiv (eVar 1) (eVar 2)) aNil)))))))
/-! powers_of(number, most): 0 number 1 most 2 powers 3 _ -/
def w_powers_of : WS := (wSeq (wAsg 2 (eLst (aCons (eC (.int 1)) aNil)))
  (wSeq (wFor (iRange1 (eVar 1)) (gN 3)
  (wApp 2 (e2 pMul (e2 pIx (eVar 2) (e1 pNeg (eC (.int 1)))) (eVar 0))))
  (wFrz 2 (wRet (eVar 2)))))
/-! ways_of(hit_powers, miss_powers, runs, hits): 0 hit_powers 1 miss_powers 2 runs 3 hits -/
def w_ways_of : WS := (wRet (e2 pMul (e2 pMul (e2 pComb (eVar 2) (eVar 3)) (e2 pIx (eVar 0) (eVar 3))) (e2 pIx (eVar 1) (e2 pSub (eVar 2) (eVar 3)))))
/-! tail(runs, share, least): 0 runs 1 share 2 least 3 hit_powers 4 miss_powers 5 ways 6 hits 7 top 8 bottom -/
def w_tail : WS := (wSeq (wUnp [7, 8] (eCall F_lowest (aCons (e2 pIx (eVar 1) (eC (.int 0))) (aCons (e2 pIx (eVar 1) (eC (.int 1))) aNil))))
  (wSeq (wAsg 3 (eCall F_powers_of (aCons (eVar 7) (aCons (eVar 0) aNil))))
  (wSeq (wAsg 4 (eCall F_powers_of (aCons (e2 pSub (eVar 8) (eVar 7)) (aCons (eVar 0) aNil))))
  (wSeq (wAsg 5 (eC (.int 0)))
  (wSeq (wFor (iRange2 (eVar 2) (e2 pAdd (eVar 0) (eC (.int 1)))) (gN 6)
  (wAsg 5 (e2 pAdd (eVar 5) (eCall F_ways_of (aCons (eVar 3) (aCons (eVar 4) (aCons (eVar 0) (aCons (eVar 6) aNil))))))))
  (wRet (eCall F_lowest (aCons (eVar 5) (aCons (e2 pIx (eCall F_powers_of (aCons (eVar 8) (aCons (eVar 0) aNil))) (eVar 0)) aNil)))))))))
/-! rows_told(inputs, share): 0 inputs 1 share 2 runs 3 danger -/
def w_rows_told : WS := (wSeq (wFor (iRange3 (eC (.int 1)) (e2 pAdd (eC (.int 151)) (eC (.int 1))) (eC (.int 2))) (gN 2)
  (wSeq (wAsg 3 (eCall F_tail (aCons (eVar 2) (aCons (eVar 1) (aCons (e2 pDiv (e2 pAdd (eVar 2) (eC (.int 1))) (eC (.int 2))) aNil)))))
  (wIf (tVal (e2 pLt (e2 pMul (eVar 0) (e2 pIx (eVar 3) (eC (.int 0)))) (e2 pIx (eVar 3) (eC (.int 1)))))
  (wRet (eVar 2))
  wNil)))
  (wRet (eC .non)))
/-! _law_whole(value): 0 value -/
def w__law_whole : WS := (wRet (eAnd (e1 (pIsi "int") (eVar 0)) (eNot (e1 (pIsi "bool") (eVar 0)))))
/-! _law_cell(script, k): 0 script 1 k 2 seed 3 cell -/
def w__law_cell : WS := (wSeq (wIf (tVal (e2 pLt (eVar 1) (e1 pLen (eVar 0))))
  (wRet (e2 pIx (eVar 0) (eVar 1)))
  wNil)
  (wSeq (wAsg 2 (eC (.int 17)))
  (wSeq (wFor (iSeq (eVar 0)) (gN 3)
  (wAsg 2 (e2 pMod (e1 pInt (e2 pAdd (e2 pMul (eVar 2) (eC (.int 31))) (e2 pMod (e1 pInt (eVar 3)) (eC (.int 1000003))))) (eC (.int 1000003)))))
  (wRet (e2 pMod (e1 pInt (e2 pMul (e2 pMul (e2 pAdd (eVar 2) (eC (.int 7))) (e2 pAdd (eVar 1) (eC (.int 3)))) (eC (.int 69621)))) (eC (.int 2147483647)))))))
/-! _law_digits(cell, sizes): 0 cell 1 sizes 2 row 3 rest 4 seed 5 k 6 size 7 twice -/
def w__law_digits : WS := (wSeq (wAsg 2 (eLst aNil))
  (wSeq (wAsg 3 (e1 pInt (eVar 0)))
  (wSeq (wIf (tVal (e2 pGe (eVar 3) (e2 pPow (eC (.int 10)) (eC (.int 18)))))
  (wSeq (wAsg 3 (e2 pSub (eVar 3) (e2 pPow (eC (.int 10)) (eC (.int 18)))))
  (wSeq (wFor (iSeq (eVar 1)) (gN 6)
  (wSeq (wApp 2 (e2 pMod (e1 pInt (eVar 3)) (eVar 6)))
  (wAsg 3 (e2 pDiv (e1 pInt (eVar 3)) (eVar 6)))))
  (wFrz 2 (wRet (eVar 2)))))
  wNil)
  (wSeq (wAsg 4 (e2 pMod (e1 pInt (eVar 3)) (eC (.int 2147483629))))
  (wSeq (wFor (iRange1 (e1 pLen (eVar 1))) (gN 5)
  (wSeq (wAsg 4 (e2 pMod (e1 pInt (e2 pAdd (e2 pAdd (e2 pMul (eVar 4) (eC (.int 48271))) (e2 pMul (eC (.int 974711)) (eVar 5))) (eC (.int 12345)))) (eC (.int 2147483647))))
  (wSeq (wAsg 7 (e2 pMod (e1 pInt (e2 pMul (eVar 4) (e2 pAdd (e2 pDiv (eVar 4) (eC (.int 65537))) (eC (.int 3))))) (eC (.int 2147483629))))
  (wApp 2 (e2 pMod (e2 pDiv (eVar 7) (eC (.int 19))) (e2 pIx (eVar 1) (eVar 5)))))))
  (wFrz 2 (wRet (eVar 2))))))))
/-! _law_fault_chance(cell): 0 cell 1 row 2 bottom 3 top -/
def w__law_fault_chance : WS := (wSeq (wAsg 1 (eCall F__law_digits (aCons (eVar 0) (aCons (eLst (aCons (eC (.int 32)) (aCons (eC (.int 12)) (aCons (eC (.int 60)) (aCons (eC (.int 999999)) (aCons (eC (.int 999999)) aNil)))))) aNil))))
  (wSeq (wAsg 2 (e2 pAdd (eC (.int 2)) (e2 pIx (eVar 1) (eC (.int 2)))))
  (wSeq (wIf (tVal (eChain pLe pLe (eC (.int 10)) (e2 pIx (eVar 1) (eC (.int 0))) (eC (.int 15))))
  (wAsg 2 (e2 pAdd (eC (.int 1)) (e2 pIx (eVar 1) (eC (.int 1)))))
  wNil)
  (wSeq (wIf (tOr (tVal (e2 pEq (e2 pIx (eVar 1) (eC (.int 0))) (eC (.int 4)))) (tVal (eChain pLe pLe (eC (.int 6)) (e2 pIx (eVar 1) (eC (.int 0))) (eC (.int 9)))))
  (wAsg 2 (e2 pAdd (eC (.int 1)) (e2 pIx (eVar 1) (eC (.int 3)))))
  wNil)
  (wSeq (wAsg 3 (e2 pMod (e1 pInt (e2 pIx (eVar 1) (eC (.int 4)))) (e2 pAdd (e2 pDiv (e2 pMul (eVar 2) (eC (.int 9))) (eC (.int 20))) (eC (.int 1)))))
  (wSeq (wIf (tVal (e2 pEq (e2 pIx (eVar 1) (eC (.int 0))) (eC (.int 0))))
  (wAsg 3 (eC (.int 0)))
  wNil)
  (wSeq (wIf (tVal (e2 pEq (e2 pIx (eVar 1) (eC (.int 0))) (eC (.int 1))))
  (wAsg 3 (eVar 2))
  wNil)
  (wSeq (wIf (tVal (eChain pLe pLe (eC (.int 2)) (e2 pIx (eVar 1) (eC (.int 0))) (eC (.int 4))))
  (wAsg 3 (e2 pMax2 (eC (.int 0)) (e2 pSub (e2 pDiv (eVar 2) (eC (.int 2))) (e2 pMod (e1 pInt (e2 pIx (eVar 1) (eC (.int 4)))) (e2 pAdd (e2 pDiv (eVar 2) (eC (.int 16))) (eC (.int 2)))))))
  wNil)
  (wSeq (wIf (tOr (tVal (e2 pEq (e2 pIx (eVar 1) (eC (.int 0))) (eC (.int 5)))) (tVal (e2 pEq (e2 pIx (eVar 1) (eC (.int 0))) (eC (.int 6)))))
  (wAsg 3 (e2 pMod (e1 pInt (e2 pIx (eVar 1) (eC (.int 4)))) (e2 pAdd (eVar 2) (eC (.int 1)))))
  wNil)
  (wSeq (wIf (tVal (e2 pEq (e2 pIx (eVar 1) (eC (.int 0))) (eC (.int 9))))
  (wAsg 3 (e2 pMin2 (eVar 2) (e2 pIx (eVar 1) (eC (.int 2)))))
  wNil)
  (wRet (eLst (aCons (eVar 3) (aCons (eVar 2) aNil))))))))))))))
/-! _law_majorities(top, bottom): 0 top 1 bottom 2 entries 3 ways 4 whole 5 runs 6 failed 7 succeeded 8 j 9 one -/
def w__law_majorities : WS := (wSeq (wAsg 2 (eLst aNil))
  (wSeq (wAsg 3 (eLst (aCons (eC (.int 1)) aNil)))
  (wFrz 3 (wSeq (wAsg 4 (eC (.int 1)))
  (wSeq (wFor (iRange2 (eC (.int 1)) (eC (.int 152))) (gN 5)
  (wSeq (wAsg 6 (e2 pAdd (eComp [9] (iSeq (eVar 3)) (gN 9) tYes (e2 pMul (e2 pSub (eVar 1) (eVar 0)) (eVar 9))) (eLst (aCons (eC (.int 0)) aNil))))
  (wFrz 6 (wSeq (wAsg 7 (e2 pAdd (eLst (aCons (eC (.int 0)) aNil)) (eComp [9] (iSeq (eVar 3)) (gN 9) tYes (e2 pMul (eVar 0) (eVar 9)))))
  (wFrz 7 (wSeq (wAsg 3 (eComp [8] (iRange1 (e2 pAdd (eVar 5) (eC (.int 1)))) (gN 8) tYes (e2 pAdd (e2 pIx (eVar 6) (eVar 8)) (e2 pIx (eVar 7) (eVar 8)))))
  (wFrz 3 (wSeq (wAsg 4 (e2 pMul (eVar 4) (eVar 1)))
  (wIf (tVal (e2 pEq (e2 pMod (e1 pInt (eVar 5)) (eC (.int 2))) (eC (.int 1))))
  (wSeq (wApp 2 (eLst (aCons (eVar 5) (aCons (e1 pSum (eSlice (eVar 3) (oSome (e2 pDiv (e2 pAdd (eVar 5) (eC (.int 1))) (eC (.int 2)))) oNone)) (aCons (eVar 4) aNil)))))
  (wIf (tVal (e2 pLt (e2 pMul (eC (.int 1000)) (e2 pIx (e2 pIx (eVar 2) (e1 pNeg (eC (.int 1)))) (eC (.int 1)))) (eVar 4)))
  wBrk
  wNil))
  wNil)))))))))
  (wFrz 2 (wRet (eVar 2))))))))
/-! _law_due_number(entries, inputs): 0 entries 1 inputs 2 entry -/
def w__law_due_number : WS := (wSeq (wFor (iSeq (eVar 0)) (gN 2)
  (wIf (tVal (e2 pLt (e2 pMul (eVar 1) (e2 pIx (eVar 2) (eC (.int 1)))) (e2 pIx (eVar 2) (eC (.int 2)))))
  (wRet (e2 pIx (eVar 2) (eC (.int 0))))
  wNil))
  (wRet (eC .non)))
/-! _law_most_inputs(entry): 0 entry -/
def w__law_most_inputs : WS := (wSeq (wIf (tVal (e2 pEq (e2 pIx (eVar 0) (eC (.int 1))) (eC (.int 0))))
  (wRet (eC (.int 999)))
  wNil)
  (wRet (e2 pMin2 (eC (.int 999)) (e2 pMax2 (eC (.int 1)) (e2 pDiv (e2 pSub (e2 pIx (eVar 0) (eC (.int 2))) (eC (.int 1))) (e2 pIx (eVar 0) (eC (.int 1))))))))
/-! _law_answered(numbers, as_tuple, inputs, entries): 0 numbers 1 as_tuple 2 inputs 3 entries 4 handed 5 due 6 told -/
def w__law_answered : WS := (wSeq (wAsg 4 (e1 pList (eVar 0)))
  (wFrz 4 (wSeq (wIf (tVal (e2 pEq (eVar 1) (eC (.int 1))))
  (wAsg 6 (eCall F_rows_told (aCons (eVar 2) (aCons (e1 pTuple (eVar 4)) aNil))))
  (wAsg 6 (eCall F_rows_told (aCons (eVar 2) (aCons (eVar 4) aNil)))))
  (wSeq (wAsg 5 (eCall F__law_due_number (aCons (eVar 3) (aCons (eVar 2) aNil))))
  (wSeq (wIf (tVal (e2 pNe (eVar 4) (eVar 0)))
  (wRet (eC (.bl false)))
  wNil)
  (wSeq (wIf (tVal (e1 pIsN (eVar 5)))
  (wRet (e1 pIsN (eVar 6)))
  wNil)
  (wRet (eAnd (eCall F__law_whole (aCons (eVar 6) aNil)) (e2 pEq (eVar 6) (eVar 5))))))))))
/-! law(script): 0 script 1 row 2 inputs 3 factor 4 numbers 5 entries 6 other_entries 7 entry 8 edge 9 due 10 top 11 bottom 12 other_top 13 other_bottom -/
def w_law : WS := (wSeq (wUnp [10, 11] (eCall F__law_fault_chance (aCons (eCall F__law_cell (aCons (eVar 0) (aCons (eC (.int 0)) aNil))) aNil)))
  (wSeq (wUnp [12, 13] (eCall F__law_fault_chance (aCons (eCall F__law_cell (aCons (eVar 0) (aCons (eC (.int 1)) aNil))) aNil)))
  (wSeq (wAsg 1 (eCall F__law_digits (aCons (eCall F__law_cell (aCons (eVar 0) (aCons (eC (.int 2)) aNil))) (aCons (eLst (aCons (eC (.int 4)) (aCons (eC (.int 16)) (aCons (eC (.int 1000)) (aCons (eC (.int 10)) (aCons (eC (.int 2)) (aCons (eC (.int 999999)) (aCons (eC (.int 2)) (aCons (eC (.int 4)) (aCons (eC (.int 76)) aNil)))))))))) aNil))))
  (wSeq (wAsg 2 (e2 pAdd (eC (.int 1)) (e2 pIx (eVar 1) (eC (.int 1)))))
  (wSeq (wIf (tVal (e2 pEq (e2 pIx (eVar 1) (eC (.int 0))) (eC (.int 0))))
  (wAsg 2 (e2 pAdd (eC (.int 1)) (e2 pIx (eVar 1) (eC (.int 2)))))
  wNil)
  (wSeq (wIf (tVal (e2 pEq (e2 pIx (eVar 1) (eC (.int 0))) (eC (.int 1))))
  (wAsg 2 (e2 pShl (eC (.int 1)) (e2 pIx (eVar 1) (eC (.int 3)))))
  wNil)
  (wSeq (wAsg 3 (eC (.int 1)))
  (wSeq (wIf (tVal (e2 pEq (e2 pIx (eVar 1) (eC (.int 4))) (eC (.int 1))))
  (wAsg 3 (e2 pAdd (eC (.int 1)) (e2 pMod (e1 pInt (e2 pIx (eVar 1) (eC (.int 5)))) (e2 pDiv (eC (.int 999999)) (eVar 11)))))
  wNil)
  (wSeq (wAsg 4 (eLst (aCons (e2 pMul (eVar 10) (eVar 3)) (aCons (e2 pMul (eVar 11) (eVar 3)) aNil))))
  (wFrz 4 (wSeq (wAsg 5 (eCall F__law_majorities (aCons (eVar 10) (aCons (eVar 11) aNil))))
  (wSeq (wAsg 6 (eCall F__law_majorities (aCons (eVar 12) (aCons (eVar 13) aNil))))
  (wSeq (wAsg 7 (e2 pIx (eVar 5) (e2 pMod (e1 pInt (e2 pIx (eVar 1) (eC (.int 8)))) (e1 pLen (eVar 5)))))
  (wSeq (wIf (tVal (e2 pEq (e2 pIx (eVar 1) (eC (.int 7))) (eC (.int 0))))
  (wAsg 7 (e2 pIx (eVar 5) (e1 pNeg (eC (.int 1)))))
  wNil)
  (wSeq (wAsg 8 (eCall F__law_most_inputs (aCons (eVar 7) aNil)))
  (wSeq (wIf (tNot (tVal (eCall F__law_answered (aCons (eVar 4) (aCons (e2 pIx (eVar 1) (eC (.int 6))) (aCons (eVar 2) (aCons (eVar 5) aNil)))))))
  (wRet (eC (.bl false)))
  wNil)
  (wSeq (wIf (tNot (tVal (eCall F__law_answered (aCons (eLst (aCons (eVar 12) (aCons (eVar 13) aNil))) (aCons (e2 pSub (eC (.int 1)) (e2 pIx (eVar 1) (eC (.int 6)))) (aCons (eVar 2) (aCons (eVar 6) aNil)))))))
  (wRet (eC (.bl false)))
  wNil)
  (wSeq (wIf (tOr (tNot (tVal (eCall F__law_answered (aCons (eVar 4) (aCons (e2 pIx (eVar 1) (eC (.int 6))) (aCons (eVar 8) (aCons (eVar 5) aNil))))))) (tNot (tVal (eCall F__law_answered (aCons (eVar 4) (aCons (e2 pIx (eVar 1) (eC (.int 6))) (aCons (e2 pAdd (eVar 8) (eC (.int 1))) (aCons (eVar 5) aNil))))))))
  (wRet (eC (.bl false)))
  wNil)
  (wSeq (wAsg 9 (eCall F__law_due_number (aCons (eVar 5) (aCons (eVar 2) aNil))))
  (wSeq (wIf (tOr (tVal (e1 pIsN (eVar 9))) (tVal (e2 pGt (eVar 9) (eC (.int 31)))))
  (wRet (eC (.bl true)))
  wNil)
  (wRet (eCall F__law_answered (aCons (eVar 4) (aCons (e2 pIx (eVar 1) (eC (.int 6))) (aCons (eVar 2) (aCons (eVar 5) aNil))))))))))))))))))))))))))
end Pyl
end
section
set_option Elab.async false
set_option linter.all false
set_option maxHeartbeats 1000000
namespace Pyl
open PySem
local macro_rules | `(tactic| walk_at "pe") => `(tactic| simp (config := { implicitDefEqProofs := false }) only [eVar_at, eC_at, e1_at, e2_at, aNil_at, aCons_at, eTup_at, eLst_at, plain_nil, plain_cons, eCall_at, eIf_at, eAnd_at, eOr_at, eNot_at, tVal_at, tAnd_at, tOr_at, tNot_at, tYes_at,
  pAdd_int, pSub_int, pNeg_int, pLt_int, pLe_int, pGt_int, pGe_int, pEq_int, pNe_int, pIsN_at, pNotN_at, pIx_lst, pIx_tup, pGcd_int, atL0, atL1, atL2, atL3, atL4, atL5, atL6, atL7, atL8, oNone_at, oSome_at, eSlice_at, pLen_lst, pLen_tup, pInt_int, pInt_bl, pAbs_int, pSum_ints, pMax2_int, pMin2_int, pList_lst, pList_tup, pTuple_lst, pTuple_tup, iSeq_at, gN_at, gT_at, gsN_cons, gsN_nil, wipeS_cons, wipeS_nil,
  dt_vis, dt_bor, dt_fre, sh_vis, sh_bor, sh_fre, slot_vis, slot_fre, od_dt, isNon_non, isNon_int, isNon_lst, isNon_tup, scalar_int, scalar_bl, scalar_non, Option.bind_some, Option.bind_none, Option.map_some, Option.map_none, List.getElem?_cons_zero, List.getElem?_cons_succ, List.set_cons_zero, List.set_cons_succ, List.map_cons, List.map_nil, List.any_cons, List.any_nil, Bool.or_false, Bool.false_or, Bool.false_and, Bool.and_true, Bool.true_and, Bool.not_true, Bool.not_false,
  Option.some.injEq, exists_eq_left', exists_eq_left, true_and, and_true, if_true, if_false, Bool.false_eq_true, ite_true, ite_false, reduceIte, decide_eq_true_eq, decide_eq_false_iff_not, R.vis.injEq, R.fre.injEq, Dt.lst.injEq, Dt.tup.injEq, Dt.int.injEq, Slot.own.injEq, OD.lst.injEq, reduceCtorEq, false_and, exists_false, exists_const, Bool.true_eq_false, false_implies, true_implies, implies_true, forall_const])
theorem len_lowest : ∀ (ds : List Dt) (r : Dt), F_lowest ds = some r → ds.length = 2 := lenk_lowest
theorem k_lowest : Keeps 3 w_lowest F_lowest := kk_lowest
theorem len_powers_of : ∀ (ds : List Dt) (r : Dt), F_powers_of ds = some r → ds.length = 2 := lenk_powers_of
theorem k_powers_of : Keeps 4 w_powers_of F_powers_of := kk_powers_of
theorem len_ways_of : ∀ (ds : List Dt) (r : Dt), F_ways_of ds = some r → ds.length = 4 := lenk_ways_of
theorem k_ways_of : Keeps 4 w_ways_of F_ways_of := kk_ways_of
theorem len_tail : ∀ (ds : List Dt) (r : Dt), F_tail ds = some r → ds.length = 3 := lenk_tail
theorem k_tail : Keeps 9 w_tail F_tail := kk_tail
theorem len__law_whole : ∀ (ds : List Dt) (r : Dt), F__law_whole ds = some r → ds.length = 1 := by
  intro ds r h
  match ds, h with
  | [f], _ => rfl
theorem k__law_whole : Keeps 1 w__law_whole F__law_whole := k_whole
theorem len__law_cell : ∀ (ds : List Dt) (r : Dt), F__law_cell ds = some r → ds.length = 2 := by
  intro ds r h
  match ds, h with
  | [.lst _, .int _], _ => rfl
theorem k__law_cell : Keeps 4 w__law_cell F__law_cell := k_cell
theorem len__law_digits : ∀ (ds : List Dt) (r : Dt), F__law_digits ds = some r → ds.length = 2 := by
  intro ds r h
  match ds, h with
  | [.int _, .lst _], _ => rfl
theorem k__law_digits : Keeps 8 w__law_digits F__law_digits := k_digits
/-! the first that is enough -/
theorem find_at {α : Type} {p : α → Bool} : ∀ {l : List α} {i : Nat} {x : α}, l[i]? = some x → p x = true → (∀ (j : Nat) (y : α), j < i → l[j]? = some y → p y = false) → l.find? p = some x
  | [], i, x, h, _, _ => by simp at h
  | a :: l, 0, x, h, hp, _ => by
    cases h
    rw [List.find?_cons, hp]
  | a :: l, i + 1, x, h, hp, hn => by
    rw [List.find?_cons, hn 0 a (Nat.succ_pos i) rfl]
    exact find_at (i := i) h hp fun j y hj hy => hn (j + 1) y (Nat.succ_lt_succ hj) hy
theorem find_not {α : Type} {p : α → Bool} {l : List α} (h : ∀ (j : Nat) (y : α), l[j]? = some y → p y = false) : l.find? p = none := by
  rw [List.find?_eq_none]
  intro x hx
  obtain ⟨j, hj⟩ := List.mem_iff_getElem?.mp hx
  rw [h j x hj]
  exact Bool.false_ne_true
theorem len_rows_told : ∀ (ds : List Dt) (r : Dt), F_rows_told ds = some r → ds.length = 2 := by
  intro ds r h
  match ds, h with
  | [.int _, _], _ => rfl
theorem low_bits {T B : Int} (ok : OkSh T B) (i : Nat) (hi : i < 76) : (lowT (majS (lowT T B) (lowB T B) i) (lowB T B ^ (2 * i + 1))).natAbs < 2 ^ 4400 ∧ 0 < lowB (majS (lowT T B) (lowB T B) i) (lowB T B ^ (2 * i + 1)) := by
  obtain ⟨c1, c2, c3, c4⟩ := sh_bits ok
  have hwp : 0 < lowB T B ^ (2 * i + 1) := Int.pow_pos c4
  have hs := tail_bits (Nat.le_of_lt c1) (Nat.le_of_lt c3) (n := 2 * i + 1) (by omega) (i + 1)
  exact ⟨Nat.lt_of_le_of_lt (low_abs hwp).1 hs, low_pos hwp⟩
theorem k_rows_told : Keeps 4 w_rows_told F_rows_told := by
  intro ds r h
  match ds, h with
  | [.int n, sh], h =>
    simp only [F_rows_told] at h
    split at h
    case isFalse => cases h
    rename_i hk
    obtain ⟨⟨b, T, B, rfl, ok⟩, n0, n1⟩ := hk
    cases h
    rw [toIs_iseq]
    show w_rows_told ⟨_, fun d => d = oddD ((List.range 76).find? (enough T B n)), _, _⟩ [.val (.int n), .val (iseq b [T, B]), .non, .non]
    refine q_forStep (lo := 1) (c := 2) (n := 76) (fun i e => ∃ z2 z3, e = [.val (.int n), .val (iseq b [T, B]), z2, z3] ∧ ∀ j, j < i → enough T B n j = false) (rng3 (i := 1) (j := 152) (k := 2) rfl (by walk_at "pe"; rfl) rfl (by decide) (by omega)) ⟨_, _, rfl, fun j hj => absurd hj (Nat.not_lt_zero j)⟩ ?_ ?_
    · rintro i env hi ⟨z2, z3, rfl, hno⟩
      refine ⟨_, by walk_at "pe"; rfl, ?_⟩
      have e1 : (1 : Int) + (i : Int) * 2 = ((2 * i + 1 : Nat) : Int) := by omega
      rw [e1]
      have ht := tail_at (b := b) (n := 2 * i + 1) (l := i + 1) ok (by omega) (by omega)
      obtain ⟨hb1, hb2⟩ := low_bits ok i hi
      have hen : enough T B n i = decide (n * lowT (majS (lowT T B) (lowB T B) i) (lowB T B ^ (2 * i + 1)) < lowB (majS (lowT T B) (lowB T B) i) (lowB T B ^ (2 * i + 1))) := rfl
      change F_tail _ = some (.tup [.int (lowT (majS (lowT T B) (lowB T B) i) (lowB T B ^ (2 * i + 1))), .int (lowB (majS (lowT T B) (lowB T B) i) (lowB T B ^ (2 * i + 1)))]) at ht
      generalize lowT (majS (lowT T B) (lowB T B) i) (lowB T B ^ (2 * i + 1)) = a at *
      generalize lowB (majS (lowT T B) (lowB T B) i) (lowB T B ^ (2 * i + 1)) = c at *
      refine q_asg (r := .vis (.tup [.int a, .int c])) ?_ rfl rfl ?_
      · walk_at "pe"
        rw [pDiv_int (by decide) (div64 (by decide) (by decide)), show (((2 * i + 1 : Nat) : Int) + 1) / 2 = ((i + 1 : Nat) : Int) by omega]
        walk_at "pe"
        rw [ht]
        walk_at "pe"
      refine s_ifD (p := n * a < c) ?_ (fun hlt => ?_) fun hge => ?_
      · walk_at "pe"
        rw [pMul_int (big64 (by omega) (by omega)) (big_lt hb1)]
        walk_at "pe"
      · have hf : (List.range 76).find? (enough T B n) = some i := find_at (i := i) (List.getElem?_range hi) (by rw [hen]; exact decide_eq_true hlt) fun j y hj hy => by
          rw [List.getElem?_range (by omega)] at hy
          cases hy
          exact hno j hj
        rw [hf]
        exact s_ret (r := .vis (.int ((2 * i + 1 : Nat) : Int))) (by walk_at "pe") rfl rfl rfl
      · refine s_nil ⟨_, _, rfl, fun j hj => ?_⟩
        rcases Nat.lt_succ_iff_lt_or_eq.mp hj with h | h
        · exact hno j h
        · rw [h, hen]
          exact decide_eq_false hge
    · rintro env ⟨z2, z3, rfl, hno⟩
      have hf : (List.range 76).find? (enough T B n) = none := find_not fun j y hy => by
        have hl := (List.getElem?_eq_some_iff.mp hy).1
        rw [List.length_range] at hl
        rw [List.getElem?_range hl] at hy
        cases hy
        exact hno j hl
      rw [hf]
      exact s_ret (r := .vis .non) (by walk_at "pe") rfl rfl rfl
theorem told_at {b : Bool} {T B n : Int} (ok : OkSh T B) (n0 : 0 ≤ n) (n1 : n ≤ 1000) : F_rows_told [.int n, iseq b [T, B]] = some (oddD ((List.range 76).find? (enough T B n))) := by
  simp only [F_rows_told]
  rw [toIs_iseq, if_pos ⟨⟨b, T, B, rfl, ok⟩, n0, n1⟩]
  rfl
theorem len__law_fault_chance : ∀ (ds : List Dt) (r : Dt), F__law_fault_chance ds = some r → ds.length = 1 := fun ds r h => (auto_spec h).1.1
theorem k__law_fault_chance : Keeps 4 w__law_fault_chance F__law_fault_chance := auto_keeps
theorem emod_bounds (x : Int) {m : Int} (h : 0 < m) : 0 ≤ x % m ∧ x % m < m := ⟨Int.emod_nonneg x (by omega), Int.emod_lt_of_pos x h⟩
theorem chance_at (c : Int) : ∃ T B, F__law_fault_chance [.int c] = some (ilst [T, B]) ∧ OkSh T B := by
  have hdig : F__law_digits [.int c, ilst [32, 12, 60, 999999, 999999]] = _ := F_digits_at ⟨by decide, by decide⟩
  have hb := digits_below (c := c) (ss := [32, 12, 60, 999999, 999999]) (by decide)
  match hd : digitsM c [32, 12, 60, 999999, 999999], hb with
  | [d0, d1, d2, d3, d4], ⟨b0, b1, b2, b3, b4, _⟩ =>
  rw [hd] at hdig
  obtain ⟨B1, hB1⟩ : ∃ B1, B1 = if 10 ≤ d0 ∧ d0 ≤ 15 then 1 + d1 else 2 + d2 := ⟨_, rfl⟩
  obtain ⟨B, hB⟩ : ∃ B, B = if d0 = 4 ∨ (6 ≤ d0 ∧ d0 ≤ 9) then 1 + d3 else B1 := ⟨_, rfl⟩
  have kB1 : 1 ≤ B1 ∧ B1 ≤ 999999 := by rw [hB1]; split <;> omega
  have kB : 1 ≤ B ∧ B ≤ 999999 := by rw [hB]; split <;> omega
  obtain ⟨T0, hT0⟩ : ∃ T0, T0 = d4 % (B * 9 / 20 + 1) := ⟨_, rfl⟩
  have kT0 : 0 ≤ T0 ∧ T0 ≤ B := by
    have h1 := emod_bounds d4 (show 0 < B * 9 / 20 + 1 by omega)
    omega
  obtain ⟨T1, hT1⟩ : ∃ T1, T1 = if d0 = 0 then 0 else T0 := ⟨_, rfl⟩
  have kT1 : 0 ≤ T1 ∧ T1 ≤ B := by rw [hT1]; split <;> omega
  obtain ⟨T2, hT2⟩ : ∃ T2, T2 = if d0 = 1 then B else T1 := ⟨_, rfl⟩
  have kT2 : 0 ≤ T2 ∧ T2 ≤ B := by rw [hT2]; split <;> omega
  obtain ⟨Y3, hY3⟩ : ∃ Y3, Y3 = d4 % (B / 16 + 2) := ⟨_, rfl⟩
  have kY3 : 0 ≤ Y3 := by
    have h1 := emod_bounds d4 (show 0 < B / 16 + 2 by omega)
    omega
  obtain ⟨X3, hX3⟩ : ∃ X3, X3 = if B / 2 - Y3 > 0 then B / 2 - Y3 else 0 := ⟨_, rfl⟩
  have kX3 : 0 ≤ X3 ∧ X3 ≤ B := by rw [hX3]; split <;> omega
  obtain ⟨T3, hT3⟩ : ∃ T3, T3 = if 2 ≤ d0 ∧ d0 ≤ 4 then X3 else T2 := ⟨_, rfl⟩
  have kT3 : 0 ≤ T3 ∧ T3 ≤ B := by rw [hT3]; split <;> omega
  obtain ⟨X4, hX4⟩ : ∃ X4, X4 = d4 % (B + 1) := ⟨_, rfl⟩
  have kX4 : 0 ≤ X4 ∧ X4 ≤ B := by
    have h1 := emod_bounds d4 (show 0 < B + 1 by omega)
    omega
  obtain ⟨T4, hT4⟩ : ∃ T4, T4 = if d0 = 5 ∨ d0 = 6 then X4 else T3 := ⟨_, rfl⟩
  have kT4 : 0 ≤ T4 ∧ T4 ≤ B := by rw [hT4]; split <;> omega
  obtain ⟨X5, hX5⟩ : ∃ X5, X5 = if d2 < B then d2 else B := ⟨_, rfl⟩
  have kX5 : 0 ≤ X5 ∧ X5 ≤ B := by rw [hX5]; split <;> omega
  obtain ⟨T5, hT5⟩ : ∃ T5, T5 = if d0 = 9 then X5 else T4 := ⟨_, rfl⟩
  have kT5 : 0 ≤ T5 ∧ T5 ≤ B := by rw [hT5]; split <;> omega
  have ok : OkSh T5 B := ⟨kT5.1, kT5.2, by omega, kB.2⟩
  have main : ∃ r, (([.int c] : List Dt).length = 1 ∧ ∃ T B, r = ilst [T, B] ∧ OkSh T B) ∧ cw_fault_chance (endR r) (startE 4 [.int c]) := by
    refine ⟨ilst [T5, B], ⟨rfl, T5, B, rfl, ok⟩, ?_⟩
    show cw_fault_chance _ [.val (.int c), .non, .non, .non]
    refine q_asg (r := .vis (.lst [.int d0, .int d1, .int d2, .int d3, .int d4])) ?_ rfl rfl ?_
    · walk_at "pe"
      rw [show F__law_digits [.int c, .lst [.int 32, .int 12, .int 60, .int 999999, .int 999999]] = _ from hdig]
      walk_at "pe"
      rfl
    refine q_asg (r := .vis (.int (2 + d2))) (by walk_at "pe") rfl rfl ?_
    refine q_ifI (p := 10 ≤ d0 ∧ d0 ≤ 15) (x := 1 + d1) (y := 2 + d2) (by rw [tVal_at, chain_le (x := 10) (y := d0) (z := 15) rfl (by walk_at "pe") rfl]) (fun _ => by walk_at "pe") rfl ?_
    rw [← hB1]
    refine q_ifI (p := d0 = 4 ∨ (6 ≤ d0 ∧ d0 ≤ 9)) (x := 1 + d3) (y := B1) (by rw [tOr_at, tVal_at, tVal_at, chain_le (x := 6) (y := d0) (z := 9) rfl (by walk_at "pe") rfl]; walk_at "pe"; by_cases h : d0 = 4 <;> simp [h]) (fun _ => by walk_at "pe") rfl ?_
    rw [← hB]
    refine q_asg (r := .vis (.int T0)) (by walk_at "pe"; rw [pMul_int (big64 (by omega) (by omega)) (big64 (by decide) (by decide))]; walk_at "pe"; rw [pDiv_int (by decide) (div64 (by decide) (by decide))]; walk_at "pe"; rw [pMod_int (by omega), hT0]) rfl rfl ?_
    refine q_ifI (p := d0 = 0) (x := 0) (y := T0) (by walk_at "pe") (fun _ => by walk_at "pe") rfl ?_
    rw [← hT1]
    refine q_ifI (p := d0 = 1) (x := B) (y := T1) (by walk_at "pe") (fun _ => by walk_at "pe") rfl ?_
    rw [← hT2]
    refine q_ifI (p := 2 ≤ d0 ∧ d0 ≤ 4) (x := X3) (y := T2) (by rw [tVal_at, chain_le (x := 2) (y := d0) (z := 4) rfl (by walk_at "pe") rfl]) (fun _ => ?_) rfl ?_
    · walk_at "pe"
      rw [pDiv_int (by decide) (div64 (by decide) (by decide)), pDiv_int (by decide) (div64 (by decide) (by decide))]
      walk_at "pe"
      rw [pMod_int (by omega)]
      walk_at "pe"
      rw [← hY3, hX3]
    rw [← hT3]
    refine q_ifI (p := d0 = 5 ∨ d0 = 6) (x := X4) (y := T3) (by walk_at "pe"; by_cases h : d0 = 5 <;> simp [h]) (fun _ => by walk_at "pe"; rw [pMod_int (by omega), hX4]) rfl ?_
    rw [← hT4]
    refine q_ifI (p := d0 = 9) (x := X5) (y := T4) (by walk_at "pe") (fun _ => by walk_at "pe"; rw [hX5]) rfl ?_
    rw [← hT5]
    exact s_ret (r := .fre (.lst [.int T5, .int B])) (by walk_at "pe") rfl rfl rfl
  obtain ⟨r, h1, _, T, B, rfl, h2⟩ := auto_at (n := 4) (w := cw_fault_chance) (P := fun ds r => ds.length = 1 ∧ ∃ T B, r = ilst [T, B] ∧ OkSh T B) (ds := [.int c]) main
  exact ⟨T, B, h1, h2⟩
/-! the entries -/
theorem len__law_majorities : ∀ (ds : List Dt) (r : Dt), F__law_majorities ds = some r → ds.length = 2 := fun ds r h => (auto_spec h).1.1
theorem k__law_majorities : Keeps 10 w__law_majorities F__law_majorities := auto_keeps
theorem least_of (P : Nat → Prop) [DecidablePred P] : ∀ n : Nat, ∃ k, k ≤ n ∧ (∀ j, j < k → ¬ P j) ∧ (k = n ∨ P k)
  | 0 => ⟨0, Nat.le_refl _, fun j hj => absurd hj (Nat.not_lt_zero j), Or.inl rfl⟩
  | n + 1 => by
    obtain ⟨k, h1, h2, h3⟩ := least_of P n
    by_cases hk : P k
    · exact ⟨k, by omega, h2, Or.inr hk⟩
    · rcases h3 with e | e
      · subst e
        refine ⟨k + 1, Nat.le_refl _, fun j hj => ?_, Or.inl rfl⟩
        rcases Nat.lt_succ_iff_lt_or_eq.mp hj with h | h
        · exact h2 j h
        · rw [h]; exact hk
      · exact absurd e hk
theorem majL_succ (T B : Int) (k : Nat) : (majL T B (k + 1)).map ilst = (majL T B k).map ilst ++ [ilst (entM T B k)] := by
  unfold majL
  rw [List.range_succ, List.map_append, List.map_append]
  rfl
theorem majL_len (T B : Int) (k : Nat) : (majL T B k).length = k := by
  unfold majL
  rw [List.length_map, List.length_range]
theorem maj_at {T B : Int} (ok : OkSh T B) : ∃ k, OkR T B k ∧ F__law_majorities [.int T, .int B] = some (imat (majL T B (k + 1))) := by
  have s0 := ok.t0
  have s1 := ok.tb
  have s2 := ok.b0
  have s3 := ok.b1
  have hT : T.natAbs < 2 ^ 20 := by omega
  have hB : B.natAbs < 2 ^ 20 := by omega
  have hM : (B - T).natAbs < 2 ^ 20 := by omega
  obtain ⟨R, hR, hno, hor⟩ := least_of (fun k => 1000 * majS T B k < B ^ (2 * k + 1)) 75
  have main : ∃ r, (([.int T, .int B] : List Dt).length = 2 ∧ ∀ T' B', ([.int T, .int B] : List Dt) = [.int T', .int B'] → ∃ k, OkR T' B' k ∧ r = imat (majL T' B' (k + 1))) ∧ cw_majorities (endR r) (startE 10 [.int T, .int B]) := by
    refine ⟨imat (majL T B (R + 1)), ⟨rfl, fun T' B' e => by cases e; exact ⟨R, ⟨hR, hor⟩, rfl⟩⟩, ?_⟩
    generalize hM' : B - T = M at *
    show cw_majorities _ [.val (.int T), .val (.int B), .non, .non, .non, .non, .non, .non, .non, .non]
    refine q_asg (r := .fre (.lst ((majL T B 0).map ilst))) (by walk_at "pe"; rfl) rfl rfl ?_
    refine q_asg (r := .fre (.lst ((rowW T M 0).map .int))) (by walk_at "pe"; unfold rowW termM; rw [Nat.zero_add, List.range_one, List.map_cons, List.map_nil, ch_zero, Nat.sub_zero, Int.pow_zero, Int.pow_zero]; rfl) rfl rfl ?_
    refine q_frz rfl rfl ?_
    refine q_asg (r := .vis (.int (B ^ 0))) (by walk_at "pe"; rw [Int.pow_zero]) rfl rfl ?_
    have fin : ∀ (z5 z6 z7 : Slot) (ws : Int) (rw' : Dt), (wFrz 2 (wRet (eVar 2))) (endR (imat (majL T B (R + 1)))) [.val (.int T), .val (.int B), .own (.lst ((majL T B (R + 1)).map ilst)), .val rw', .val (.int ws), z5, z6, z7, .non, .non] := fun z5 z6 z7 ws rw' =>
      q_frz rfl rfl (s_ret (r := .vis (imat (majL T B (R + 1)))) (by walk_at "pe"; rfl) rfl rfl rfl)
    refine q_forRng (lo := 1) (n := 151) (fun i e => ∃ z5 z6 z7, e = [.val (.int T), .val (.int B), .own (.lst ((majL T B ((i + 1) / 2)).map ilst)), .val (ilst (rowW T M i)), .val (.int (B ^ i)), z5, z6, z7, .non, .non] ∧ ∀ j, j < (i + 1) / 2 → ¬ 1000 * majS T B j < B ^ (2 * j + 1))
      (by rw [rng2 (lo := 1) (hi := 152) rfl rfl]; rfl) ⟨_, _, _, rfl, fun j hj => absurd hj (Nat.not_lt_zero j)⟩ ?_ ?_
    · rintro i env hi ⟨z5, z6, z7, rfl, hnb⟩
      refine ⟨_, by walk_at "pe"; rfl, ?_⟩
      have e1 : (1 : Int) + (i : Int) = ((i + 1 : Nat) : Int) := by omega
      rw [e1]
      show (wSeq _ _) _ [.val (.int T), .val (.int B), .own (.lst ((majL T B ((i + 1) / 2)).map ilst)), .val (ilst (rowW T M i)), .val (.int (B ^ i)), .val (.int ((i + 1 : Nat) : Int)), z6, z7, .non, .non]
      have hbit : ∀ x ∈ rowW T M i, x.natAbs < 2 ^ 4400 := fun x hx => by
        obtain ⟨j, hj, rfl⟩ := List.mem_map.mp hx
        have := List.mem_range.mp hj
        exact lt_bits (term_bits (Nat.le_of_lt hT) (Nat.le_of_lt hM) (by omega)) (by omega)
      have hlen := rowW_len T M i
      refine q_asg (r := .fre (.lst (((rowW T M i).map (M * ·) ++ [0]).map .int))) ?_ rfl rfl ?_
      · rw [e2_at, eComp_of (ds := (rowW T M i).map .int) (s := false) (out := ((rowW T M i).map (M * ·)).map .int) rfl (by rw [List.length_map]; exact lim_of (by omega))]
        · walk_at "pe"
          rw [pAdd_lst (by rw [List.length_map, List.length_map, List.length_singleton]; exact lim_of (by omega)), List.map_append]
          rfl
        · refine compL_map fun x hx => ?_
          rw [compG_at]
          walk_at "pe"
          rw [hM', pMul_int (big_lt hM) (big_lt (hbit x hx))]
          walk_at "pe"
      refine q_frz rfl rfl ?_
      generalize hA : (rowW T M i).map (M * ·) ++ [0] = As
      show (wSeq _ _) _ [.val (.int T), .val (.int B), .own (.lst ((majL T B ((i + 1) / 2)).map ilst)), .val (ilst (rowW T M i)), .val (.int (B ^ i)), .val (.int ((i + 1 : Nat) : Int)), .val (ilst As), z7, .non, .non]
      refine q_asg (r := .fre (.lst ((0 :: (rowW T M i).map (T * ·)).map .int))) ?_ rfl rfl ?_
      · rw [e2_at, eComp_of (ds := (rowW T M i).map .int) (s := false) (out := ((rowW T M i).map (T * ·)).map .int) rfl (by rw [List.length_map]; exact lim_of (by omega))]
        · walk_at "pe"
          rw [pAdd_lst (by rw [List.length_map, List.length_map, List.length_singleton]; exact lim_of (by omega))]
          rfl
        · refine compL_map fun x hx => ?_
          rw [compG_at]
          walk_at "pe"
          rw [pMul_int (big_lt hT) (big_lt (hbit x hx))]
          walk_at "pe"
      refine q_frz rfl rfl ?_
      generalize hBs : 0 :: (rowW T M i).map (T * ·) = Bs
      show (wSeq _ _) _ [.val (.int T), .val (.int B), .own (.lst ((majL T B ((i + 1) / 2)).map ilst)), .val (ilst (rowW T M i)), .val (.int (B ^ i)), .val (.int ((i + 1 : Nat) : Int)), .val (ilst As), .val (ilst Bs), .non, .non]
      refine q_asg (r := .fre (.lst ((rowW T M (i + 1)).map .int))) ?_ rfl rfl ?_
      · refine eComp_of (ds := rngD 0 (i + 2)) (s := false) ?_ (by rw [rngD_len]; exact lim_of (by omega)) (compL_ix (by rw [rngD_len, List.length_map, rowW_len]) fun j d o h1 h2 => ?_)
        · rw [rng1 (n := ((i + 2 : Nat) : Int)) (by walk_at "pe"; rw [show (((i + 1 : Nat) : Int) + 1) = ((i + 2 : Nat) : Int) by omega]) (by omega), Int.toNat_natCast]
        · obtain ⟨hj, rfl⟩ := rngD_at h1
          rw [List.getElem?_map, rowW_get (by omega)] at h2
          cases h2
          have g5 : As[j]? = some (M * termM T M i j) := by
            rw [← hA]
            rcases Nat.lt_or_ge j (i + 1) with h | h
            · rw [List.getElem?_append_left (by rw [List.length_map, hlen]; exact h), List.getElem?_map, rowW_get (by omega)]
              rfl
            · have e : j = i + 1 := by omega
              subst e
              rw [List.getElem?_append_right (by rw [List.length_map, hlen]; exact Nat.le_refl _), List.length_map, hlen, Nat.sub_self, term_above (Nat.lt_succ_self i), Int.mul_zero]
              rfl
          have g6 : Bs[j]? = some (termM T M (i + 1) j - M * termM T M i j) := by
            rw [← hBs]
            match j, hj with
            | 0, _ =>
              rw [term_zero]
              show some 0 = _
              congr 1
              omega
            | j + 1, hj =>
              show ((rowW T M i).map (T * ·))[j]? = _
              rw [List.getElem?_map, rowW_get (by omega), term_succ (by omega)]
              show some (T * termM T M i j) = _
              congr 1
              omega
          rw [compG_at]
          walk_at "pe"
          rw [Int.zero_add, show pIx (ilst As) (.int (j : Int)) = _ from pIx_iseq (b := false) (Int.natCast_nonneg j) (by rw [Int.toNat_natCast]; exact g5)]
          walk_at "pe"
          rw [show pIx (ilst Bs) (.int (j : Int)) = _ from pIx_iseq (b := false) (Int.natCast_nonneg j) (by rw [Int.toNat_natCast]; exact g6)]
          walk_at "pe"
          congr 2
          congr 1
          omega
      refine q_frz rfl rfl ?_
      have hwb : (B ^ i).natAbs < 2 ^ 4400 := lt_bits (pow_bits (Nat.le_of_lt hB) i) (by omega)
      refine q_asg (r := .vis (.int (B ^ (i + 1)))) (by walk_at "pe"; rw [pMul_int (big_lt hwb) (big_lt hB), Int.pow_succ]) rfl rfl ?_
      show (wIf _ _ _) _ [.val (.int T), .val (.int B), .own (.lst ((majL T B ((i + 1) / 2)).map ilst)), .val (ilst (rowW T M (i + 1))), .val (.int (B ^ (i + 1))), .val (.int ((i + 1 : Nat) : Int)), .val (ilst As), .val (ilst Bs), .non, .non]
      refine s_ifD (p := ((i + 1 : Nat) : Int) % 2 = 1) (by walk_at "pe"; rw [pMod_int (by decide)]; walk_at "pe") (fun hodd => ?_) fun heven => ?_
      · obtain ⟨k, rfl⟩ : ∃ k, i = 2 * k := ⟨i / 2, by omega⟩
        have e2 : (2 * k + 1) / 2 = k := by omega
        have e3 : (2 * k + 1 + 1) / 2 = k + 1 := by omega
        rw [e2] at hnb ⊢
        have hsum : ((rowW T M (2 * k + 1)).drop (k + 1)).sum = majS T B k := by
          rw [rowW_drop, ← hM']
          rfl
        refine q_app (d := ilst (entM T B k)) (r := .fre (.lst ((entM T B k).map .int))) rfl ?_ rfl (by rw [List.length_map, majL_len]; exact lim_lt (by omega)) rfl rfl ?_
        · walk_at "pe"
          rw [pDiv_int (by decide) (div64 (by decide) (by decide)), show (((2 * k + 1 : Nat) : Int) + 1) / 2 = ((k + 1 : Nat) : Int) by omega]
          unfold ilst
          walk_at "pe"
          rw [cutD_from, ← List.map_drop, pSum_ints, hsum]
          walk_at "pe"
          rfl
        rw [← majL_succ]
        show (wIf _ _ _) _ [.val (.int T), .val (.int B), .own (.lst ((majL T B (k + 1)).map ilst)), .val (ilst (rowW T M (2 * k + 1))), .val (.int (B ^ (2 * k + 1))), .val (.int ((2 * k + 1 : Nat) : Int)), .val (ilst As), .val (ilst Bs), .non, .non]
        have hms : (majS T B k).natAbs < 2 ^ 4400 := tail_bits (Nat.le_of_lt hT) (by rw [hM']; exact Nat.le_of_lt hM) (by omega) _
        refine s_ifD (p := 1000 * majS T B k < B ^ (2 * k + 1)) ?_ (fun hlt => ?_) fun hge => ?_
        · walk_at "pe"
          rw [majL_succ, atL_last]
          unfold ilst entM
          walk_at "pe"
          rw [pMul_int (big64 (by decide) (by decide)) (big_lt hms)]
          walk_at "pe"
        · have hk : k = R := by
            have h1 : R ≤ k := by
              rcases Nat.lt_or_ge k R with h | h
              · exact absurd hlt (hno k h)
              · exact h
            rcases hor with e | e
            · omega
            · rcases Nat.lt_or_ge R k with h | h
              · exact absurd e (hnb R h)
              · omega
          subst hk
          exact fin _ _ _ _ _
        · refine s_nil ⟨_, _, _, by rw [e3], fun j hj => ?_⟩
          rw [e3] at hj
          rcases Nat.lt_succ_iff_lt_or_eq.mp hj with h | h
          · exact hnb j h
          · rw [h]; exact hge
      · have e2 : (i + 1 + 1) / 2 = (i + 1) / 2 := by omega
        exact s_nil ⟨_, _, _, by rw [e2], fun j hj => hnb j (by omega)⟩
    · rintro env ⟨z5, z6, z7, rfl, hnb⟩
      have hk : R = 75 := by
        rcases hor with e | e
        · exact e
        · exact absurd e (hnb R (by omega))
      subst hk
      exact fin _ _ _ _ _
  obtain ⟨r, h1, _, h2⟩ := auto_at (n := 10) (w := cw_majorities) (P := fun ds r => ds.length = 2 ∧ ∀ T B, ds = [.int T, .int B] → ∃ k, OkR T B k ∧ r = imat (majL T B (k + 1))) (ds := [.int T, .int B]) main
  obtain ⟨k, h3, h4⟩ := h2 T B rfl
  exact ⟨k, h3, by rw [← h4]; exact h1⟩
/-! who is due -/
theorem len__law_due_number : ∀ (ds : List Dt) (r : Dt), F__law_due_number ds = some r → ds.length = 2 := by
  intro ds r h
  match ds, h with
  | [_, .int _], _ => rfl
theorem k__law_due_number : Keeps 3 w__law_due_number F__law_due_number := by
  intro ds r h
  match ds, h with
  | [es, .int n], h =>
    simp only [F__law_due_number] at h
    split at h
    case isFalse => cases h
    rename_i hk
    obtain ⟨he, hl, hn, hok⟩ := hk
    cases h
    generalize es.toM = m at *
    subst he
    show w__law_due_number _ [.val (imat m), .val (.int n), .non]
    refine q_forMap (u := ilst) (xs := m) (fun i e => ∃ z, e = [.val (imat m), .val (.int n), z] ∧ ∀ (j : Nat) (y : List Int), j < i → m[j]? = some y → decide (n * y.getD 1 0 < y.getD 2 0) = false) (by walk_at "pe"; rfl) ⟨_, rfl, fun j y hj => absurd hj (Nat.not_lt_zero j)⟩ ?_ ?_
    · rintro i env x hx ⟨z, rfl, hno⟩
      refine ⟨_, by walk_at "pe"; rfl, ?_⟩
      obtain ⟨h3, hb⟩ := hok x (List.mem_of_getElem? hx)
      match x, h3, hx, hb with
      | [a, s, w], _, hx, hb =>
        have hs := hb s (by simp)
        refine s_ifD (p := n * s < w) ?_ (fun hlt => ?_) fun hge => s_nil ⟨_, rfl, fun j y hj hy => ?_⟩
        · unfold ilst
          walk_at "pe"
          rw [pMul_int (big64 (by omega) (by omega)) (big_lt hs)]
          walk_at "pe"
        · have hf := find_at (p := fun e : List Int => decide (n * e.getD 1 0 < e.getD 2 0)) hx (decide_eq_true hlt) hno
          rw [hf]
          refine s_ret (r := .vis (.int a)) ?_ rfl rfl rfl
          unfold ilst
          walk_at "pe"
        · rcases Nat.lt_succ_iff_lt_or_eq.mp hj with h | h
          · exact hno j y h hy
          · subst h
            rw [hx] at hy
            cases hy
            exact decide_eq_false hge
    · rintro env ⟨z, rfl, hno⟩
      have hf : m.find? (fun e : List Int => decide (n * e.getD 1 0 < e.getD 2 0)) = none := find_not fun j y hy => hno j y (List.getElem?_eq_some_iff.mp hy).1 hy
      rw [hf]
      exact s_ret (r := .vis .non) (by walk_at "pe") rfl rfl rfl
theorem len__law_most_inputs : ∀ (ds : List Dt) (r : Dt), F__law_most_inputs ds = some r → ds.length = 1 := by
  intro ds r h
  match ds, h with
  | [.lst [.int _, .int _, .int _]], _ => rfl
theorem k__law_most_inputs : Keeps 1 w__law_most_inputs F__law_most_inputs := by
  intro ds r h
  match ds, h with
  | [.lst [.int a, .int s, .int w]], h =>
    simp only [F__law_most_inputs] at h
    split at h
    case isFalse => cases h
    rename_i hk
    have h := Option.some.inj h
    show w__law_most_inputs _ [.val (.lst [.int a, .int s, .int w])]
    refine q_ifD (p := s = 0) (by walk_at "pe") (fun e => ?_) fun e => s_nil ?_
    · rw [if_pos e] at h
      exact s_ret (r := .vis (.int 999)) (by walk_at "pe") rfl rfl h
    · rw [if_neg e] at h
      have hd : s.natAbs < DIVB := by
        rw [DIVB_eq]
        exact Nat.lt_trans hk.2 (Nat.pow_lt_pow_right (by decide) (by decide))
      refine s_ret (r := .vis _) ?_ rfl rfl h
      walk_at "pe"
      rw [pDiv_int (by omega) hd]
      walk_at "pe"
theorem majS_nonneg {T B : Int} (ok : OkSh T B) (i : Nat) : 0 ≤ majS T B i := by
  have s0 := ok.t0
  have s1 := ok.tb
  have h : ∀ l : List Int, (∀ x ∈ l, 0 ≤ x) → 0 ≤ l.sum := fun l hl => by
    induction l with
    | nil => exact Int.le_refl _
    | cons x l ih =>
      rw [List.sum_cons]
      exact Int.add_nonneg (hl x List.mem_cons_self) (ih fun y hy => hl y (List.mem_cons_of_mem _ hy))
  refine h _ fun x hx => ?_
  obtain ⟨j, _, rfl⟩ := List.mem_map.mp hx
  exact Int.mul_nonneg (Int.mul_nonneg (Int.natCast_nonneg _) (Int.pow_nonneg s0)) (Int.pow_nonneg (by omega))
/-- enough, told from the entries -/
theorem enough_is {T B f n : Int} (ok : OkSh T B) (hf : 0 < f) (i : Nat) : enough (T * f) (B * f) n i = decide (n * majS T B i < B ^ (2 * i + 1)) := by
  have hok := told_ok (n := 2 * i + 1) (l := i + 1) ok.t0 ok.b0 hf
  simp only at hok
  have hBf : 0 < B * f := Int.mul_pos ok.b0 hf
  have hw : 0 < lowB (T * f) (B * f) ^ (2 * i + 1) := Int.pow_pos (low_pos hBf)
  have hc := low_pos (a := majS (lowT (T * f) (B * f)) (lowB (T * f) (B * f)) i) hw
  have hW : 0 < B ^ (2 * i + 1) := Int.pow_pos ok.b0
  have e : enough (T * f) (B * f) n i = decide (n * lowT (majS (lowT (T * f) (B * f)) (lowB (T * f) (B * f)) i) (lowB (T * f) (B * f) ^ (2 * i + 1)) < lowB (majS (lowT (T * f) (B * f)) (lowB (T * f) (B * f)) i) (lowB (T * f) (B * f) ^ (2 * i + 1))) := rfl
  rw [e]
  change lowT (majS (lowT (T * f) (B * f)) (lowB (T * f) (B * f)) i) _ * _ = majS T B i * lowB (majS (lowT (T * f) (B * f)) (lowB (T * f) (B * f)) i) _ at hok
  generalize lowT (majS (lowT (T * f) (B * f)) (lowB (T * f) (B * f)) i) (lowB (T * f) (B * f) ^ (2 * i + 1)) = a at *
  generalize lowB (majS (lowT (T * f) (B * f)) (lowB (T * f) (B * f)) i) (lowB (T * f) (B * f) ^ (2 * i + 1)) = c at *
  generalize B ^ (2 * i + 1) = W at *
  generalize majS T B i = S at *
  refine decide_eq_decide.mpr ⟨fun h => ?_, fun h => ?_⟩
  · have h1 : n * a * W < c * W := Int.mul_lt_mul_of_pos_right h hW
    have h2 : n * a * W = (n * S) * c := by rw [Int.mul_assoc, hok, Int.mul_assoc]
    rw [h2, Int.mul_comm c W] at h1
    exact Int.lt_of_mul_lt_mul_right h1 (Int.le_of_lt hc)
  · have h1 : n * S * c < W * c := Int.mul_lt_mul_of_pos_right h hc
    have h2 : n * a * W = (n * S) * c := by rw [Int.mul_assoc, hok, Int.mul_assoc]
    rw [← h2, Int.mul_comm W c] at h1
    exact Int.lt_of_mul_lt_mul_right h1 (Int.le_of_lt hW)
theorem find_map {α β : Type} {p : β → Bool} {g : α → β} : ∀ l : List α, (l.map g).find? p = (l.find? fun x => p (g x)).map g
  | [] => rfl
  | a :: l => by
    rw [List.map_cons, List.find?_cons, List.find?_cons, find_map l]
    cases p (g a) <;> rfl
theorem range_find {p : Nat → Bool} {k m : Nat} (hk : k ≤ m) (h : k = m ∨ ∃ i, i < k ∧ p i = true) : (List.range m).find? p = (List.range k).find? p := by
  rcases h with e | ⟨i, hi, hp⟩
  · rw [e]
  · obtain ⟨d, rfl⟩ : ∃ d, m = k + d := ⟨m - k, by omega⟩
    rw [List.range_add, List.find?_append]
    cases hf : (List.range k).find? p with
    | some x => rfl
    | none => exact absurd hp (by rw [List.find?_eq_none] at hf; exact hf i (List.mem_range.mpr hi))
theorem due_at {T B f n : Int} {k : Nat} (ok : OkSh T B) (hf : 0 < f) (n0 : 0 ≤ n) (n1 : n ≤ 1000) (hR : OkR T B k) :
    F__law_due_number [imat (majL T B (k + 1)), .int n] = some (oddD ((List.range 76).find? (enough (T * f) (B * f) n))) := by
  have s0 := ok.t0
  have s1 := ok.tb
  have s2 := ok.b0
  have s3 := ok.b1
  have hT : T.natAbs < 2 ^ 20 := by omega
  have hB : B.natAbs < 2 ^ 20 := by omega
  have hM : (B - T).natAbs < 2 ^ 20 := by omega
  simp only [F__law_due_number]
  rw [toM_imat, if_pos]
  · have e1 : (enough (T * f) (B * f) n) = fun i => decide (n * majS T B i < B ^ (2 * i + 1)) := funext fun i => enough_is ok hf i
    have e2 : (List.range 76).find? (enough (T * f) (B * f) n) = (List.range (k + 1)).find? (enough (T * f) (B * f) n) := by
      refine range_find (by have := hR.1; omega) ?_
      rcases hR.2 with e | e
      · exact Or.inl (by omega)
      · refine Or.inr ⟨k, Nat.lt_succ_self k, ?_⟩
        rw [e1]
        refine decide_eq_true (Int.lt_of_le_of_lt ?_ e)
        exact Int.mul_le_mul_of_nonneg_right n1 (majS_nonneg ok k)
    rw [e2, e1]
    unfold majL
    rw [find_map]
    have e3 : (fun i : Nat => decide (n * (entM T B i).getD 1 0 < (entM T B i).getD 2 0)) = fun i => decide (n * majS T B i < B ^ (2 * i + 1)) := rfl
    rw [e3]
    cases (List.range (k + 1)).find? fun i => decide (n * majS T B i < B ^ (2 * i + 1)) <;> rfl
  · refine ⟨rfl, by rw [majL_len]; have := hR.1; omega, ⟨n0, n1⟩, fun e he => ?_⟩
    obtain ⟨i, hi, rfl⟩ := List.mem_map.mp he
    have hi2 : i ≤ 75 := by have := List.mem_range.mp hi; have := hR.1; omega
    refine ⟨rfl, fun x hx => ?_⟩
    have h1 : (((2 * i + 1 : Nat) : Int)).natAbs < 2 ^ 4400 := lt_bits (a := 20) (by rw [Int.natAbs_natCast]; omega) (by decide)
    have h2 : (majS T B i).natAbs < 2 ^ 4400 := tail_bits (Nat.le_of_lt hT) (Nat.le_of_lt hM) (by omega) _
    have h3 : (B ^ (2 * i + 1)).natAbs < 2 ^ 4400 := lt_bits (pow_bits (Nat.le_of_lt hB) _) (by omega)
    unfold entM at hx
    simp only [List.mem_cons, List.not_mem_nil, or_false] at hx
    rcases hx with e | e | e
    · rw [e]; exact h1
    · rw [e]; exact h2
    · rw [e]; exact h3
/-! the answers -/
theorem ans_shape {ds : List Dt} {r : Dt} (h : F__law_answered ds = some r) : ∃ n st T B f k, ds = [ilst [T * f, B * f], .int st, .int n, imat (majL T B (k + 1))] ∧ (0 ≤ n ∧ n ≤ 1000) ∧ OkSh T B ∧ OkSh (T * f) (B * f) ∧ 0 < f ∧ OkR T B k ∧ r = .bl true := by
  unfold F__law_answered at h
  split at h
  · rename_i xs st n es
    split at h
    · rename_i hk
      obtain ⟨hn, T, B, f, k, rfl, rfl, h1, h2, h3, h4⟩ := hk
      exact ⟨n, st, T, B, f, k, rfl, hn, h1, h2, h3, h4, (Option.some.inj h).symm⟩
    · cases h
  · cases h
theorem len__law_answered : ∀ (ds : List Dt) (r : Dt), F__law_answered ds = some r → ds.length = 4 := by
  intro ds r h
  obtain ⟨n, st, T, B, f, k, rfl, _⟩ := ans_shape h
  rfl
theorem k__law_answered : Keeps 7 w__law_answered F__law_answered := by
  intro ds r h
  obtain ⟨n, st, T, B, f, k, rfl, hn, ok, okf, hf, hR, rfl⟩ := ans_shape h
  have hd := due_at (n := n) ok hf hn.1 hn.2 hR
  have ht := fun b => told_at (b := b) okf hn.1 hn.2
  generalize (List.range 76).find? (enough (T * f) (B * f) n) = o at *
  generalize [T * f, B * f] = hl at *
  generalize imat (majL T B (k + 1)) = es at *
  show w__law_answered _ [.val (ilst hl), .val (.int st), .val (.int n), .val es, .non, .non, .non]
  refine q_asg (r := .fre (.lst (hl.map .int))) (by walk_at "pe"; unfold ilst; walk_at "pe") rfl rfl ?_
  refine q_frz rfl rfl ?_
  show (wSeq _ _) _ [.val (ilst hl), .val (.int st), .val (.int n), .val es, .val (ilst hl), .non, .non]
  have hw : ∀ i : Int, F__law_whole [.int i] = some (.bl true) := fun i => rfl
  have rest : (wSeq (wAsg 5 (eCall F__law_due_number (aCons (eVar 3) (aCons (eVar 2) aNil)))) (wSeq (wIf (tVal (e2 pNe (eVar 4) (eVar 0))) (wRet (eC (.bl false))) wNil) (wSeq (wIf (tVal (e1 pIsN (eVar 5))) (wRet (e1 pIsN (eVar 6))) wNil)
      (wRet (eAnd (eCall F__law_whole (aCons (eVar 6) aNil)) (e2 pEq (eVar 6) (eVar 5))))))) (endR (.bl true)) [.val (ilst hl), .val (.int st), .val (.int n), .val es, .val (ilst hl), .non, .val (oddD o)] := by
    refine q_asg (r := .vis (oddD o)) (by walk_at "pe"; rw [hd]; walk_at "pe") rfl rfl ?_
    show (wSeq _ _) _ [.val (ilst hl), .val (.int st), .val (.int n), .val es, .val (ilst hl), .val (oddD o), .val (oddD o)]
    refine q_if (c := false) (by walk_at "pe"; rw [pNe_ilst]; simp) (fun e => nomatch e) fun _ => s_nil ?_
    cases o with
    | none =>
      refine q_if (c := true) rfl (fun _ => ?_) fun e => nomatch e
      exact s_ret (r := .vis (.bl true)) rfl rfl rfl rfl
    | some i =>
      refine q_if (c := false) rfl (fun e => nomatch e) fun _ => s_nil ?_
      refine s_ret (r := .vis (.bl true)) ?_ rfl rfl rfl
      show eAnd _ _ [.val (ilst hl), .val (.int st), .val (.int n), .val es, .val (ilst hl), .val (.int ((2 * i + 1 : Nat) : Int)), .val (.int ((2 * i + 1 : Nat) : Int))] = _
      walk_at "pe"
      rw [hw]
      walk_at "pe"
      simp
  refine q_if (c := decide (st = 1)) (by walk_at "pe") (fun _ => ?_) fun _ => ?_
  · refine s_asg (r := .vis (oddD o)) ?_ rfl rfl rest
    walk_at "pe"
    rw [show pTuple (ilst hl) = some (.vis (iseq true hl)) from rfl]
    walk_at "pe"
    rw [ht true]
    walk_at "pe"
  · refine s_asg (r := .vis (oddD o)) ?_ rfl rfl rest
    walk_at "pe"
    rw [show F_rows_told [.int n, ilst hl] = _ from ht false]
    walk_at "pe"
theorem ans_at {T B f n st : Int} {k : Nat} (hn : 0 ≤ n ∧ n ≤ 1000) (ok : OkSh T B) (okf : OkSh (T * f) (B * f)) (hf : 0 < f) (hR : OkR T B k) : F__law_answered [ilst [T * f, B * f], .int st, .int n, imat (majL T B (k + 1))] = some (.bl true) := by
  simp only [F__law_answered]
  exact if_pos ⟨hn, T, B, f, k, rfl, rfl, ok, okf, hf, hR⟩
theorem len_law : ∀ (ds : List Dt) (r : Dt), F_law ds = some r → ds.length = 1 := by
  intro ds r h
  match ds, h with
  | [.lst _], _ => rfl
theorem law_true : ∀ ns : List Int, ns.length ≤ 63 → F_law [.lst (ns.map .int)] = some (.bl true) := by
  intro ns h
  show (intsOf (ns.map .int)).bind _ = _
  rw [intsOf_ints]
  exact if_pos h
theorem most_at {a s w : Int} (h0 : 0 ≤ s) (h1 : s.natAbs < 2 ^ 4400) : ∃ e : Int, F__law_most_inputs [ilst [a, s, w]] = some (.int e) ∧ 1 ≤ e ∧ e ≤ 999 := by
  refine ⟨_, if_pos ⟨h0, h1⟩, ?_⟩
  split
  · omega
  · generalize (w - 1) / s = q
    simp only
    split <;> split <;> omega
theorem k_law : Keeps 14 w_law F_law := by
  intro ds r h
  match ds, h with
  | [.lst xs], h =>
    obtain ⟨ns, h1, h⟩ := Option.bind_eq_some_iff.mp h
    split at h
    case isFalse => cases h
    cases h
    rw [intsOf_some h1, map_ilst]
    show w_law _ [.val (ilst ns), .non, .non, .non, .non, .non, .non, .non, .non, .non, .non, .non, .non, .non]
    have hcell : ∀ k : Nat, k < 200 → F__law_cell [ilst ns, .int (k : Int)] = some (.int (cellM ns k)) := fun k hk => F_cell_at ⟨by omega, by omega⟩
    obtain ⟨T, B, hch, ok⟩ := chance_at (cellM ns ((0 : Nat) : Int))
    obtain ⟨T', B', hch', ok'⟩ := chance_at (cellM ns ((1 : Nat) : Int))
    have hdig : F__law_digits [.int (cellM ns ((2 : Nat) : Int)), ilst [4, 16, 1000, 10, 2, 999999, 2, 4, 76]] = _ := F_digits_at ⟨by decide, by decide⟩
    have hb := digits_below (c := cellM ns ((2 : Nat) : Int)) (ss := [4, 16, 1000, 10, 2, 999999, 2, 4, 76]) (by decide)
    match hd : digitsM (cellM ns ((2 : Nat) : Int)) [4, 16, 1000, 10, 2, 999999, 2, 4, 76], hb with
    | [d0, d1, d2, d3, d4, d5, d6, d7, d8], ⟨b0, b1, b2, b3, b4, b5, b6, b7, b8, _⟩ =>
    rw [hd] at hdig
    obtain ⟨k, hR, hmaj⟩ := maj_at ok
    obtain ⟨k', hR', hmaj'⟩ := maj_at ok'
    have s0 := ok.t0
    have s1 := ok.tb
    have s2 := ok.b0
    have s3 := ok.b1
    obtain ⟨n1, hn1⟩ : ∃ n1, n1 = if d0 = 0 then 1 + d2 else 1 + d1 := ⟨_, rfl⟩
    have kn1 : 1 ≤ n1 ∧ n1 ≤ 1000 := by rw [hn1]; split <;> omega
    obtain ⟨sh, hsh, ksh⟩ : ∃ sh : Int, sh = 1 * 2 ^ d3.toNat ∧ 1 ≤ sh ∧ sh ≤ 1000 := by
      refine ⟨_, rfl, ?_⟩
      have hle : d3.toNat ≤ 9 := by omega
      generalize d3.toNat = q at *
      match q, hle with
      | 0, _ | 1, _ | 2, _ | 3, _ | 4, _ | 5, _ | 6, _ | 7, _ | 8, _ | 9, _ => decide
    obtain ⟨n, hn⟩ : ∃ n, n = if d0 = 1 then sh else n1 := ⟨_, rfl⟩
    have kn : 1 ≤ n ∧ n ≤ 1000 := by rw [hn]; split <;> omega
    have hq : 0 < 999999 / B := by
      have h := Int.ediv_le_ediv s2 s3
      rw [Int.ediv_self (by omega)] at h
      omega
    have hmul : B * (999999 / B) ≤ 999999 := Int.mul_ediv_self_le (by omega)
    obtain ⟨f, hf⟩ : ∃ f, f = if d4 = 1 then 1 + d5 % (999999 / B) else 1 := ⟨_, rfl⟩
    have kf : 0 < f ∧ f ≤ 999999 / B := by
      have h1 := emod_bounds d5 hq
      rw [hf]
      split <;> omega
    have kBf : B * f ≤ 999999 := Int.le_trans (Int.mul_le_mul_of_nonneg_left kf.2 (by omega)) hmul
    have kTf : T * f ≤ B * f := Int.mul_le_mul_of_nonneg_right s1 (by omega)
    have kTf0 : 0 ≤ T * f := Int.mul_nonneg s0 (by omega)
    have hfb : f ≤ 999999 := by
      have h := Int.mul_le_mul_of_nonneg_right (show 1 ≤ B by omega) (show 0 ≤ f by omega)
      omega
    have okf : OkSh (T * f) (B * f) := ⟨kTf0, kTf, Int.mul_pos s2 kf.1, kBf⟩
    have okf' : OkSh (T' * 1) (B' * 1) := by rw [Int.mul_one, Int.mul_one]; exact ok'
    have a1 := fun st n hn => ans_at (st := st) (n := n) hn ok okf kf.1 hR
    have a2 := fun st n hn => ans_at (st := st) (n := n) (f := 1) hn ok' okf' (by decide) hR'
    rw [Int.mul_one, Int.mul_one] at a2
    have hdue := fun n h1 h2 => due_at (n := n) ok kf.1 h1 h2 hR
    have hent : ∀ i, i ≤ k → ∃ e : Int, F__law_most_inputs [ilst (entM T B i)] = some (.int e) ∧ 1 ≤ e ∧ e ≤ 999 := fun i hi => by
      refine most_at (majS_nonneg ok i) ?_
      have := hR.1
      exact tail_bits (by omega) (by omega) (by omega) _
    generalize hnum : [T * f, B * f] = num at *
    generalize hms : majL T B (k + 1) = ms at *
    have hml : ms.length = k + 1 := by rw [← hms, majL_len]
    have hmg : ∀ i, i ≤ k → ms[i]? = some (entM T B i) := fun i hi => by
      rw [← hms]
      unfold majL
      rw [List.getElem?_map, List.getElem?_range (by omega)]
      rfl
    generalize imat (majL T' B' (k' + 1)) = ms' at *
    refine q_unp (d := ilst [T, B]) (env' := [.val (ilst ns), .non, .non, .non, .non, .non, .non, .non, .non, .non, .val (.int T), .val (.int B), .non, .non]) ?_ rfl ?_
    · walk_at "pe"
      rw [show F__law_cell [ilst ns, .int 0] = _ from hcell 0 (by decide)]
      walk_at "pe"
      rw [hch]
      walk_at "pe"
    refine q_unp (d := ilst [T', B']) (env' := [.val (ilst ns), .non, .non, .non, .non, .non, .non, .non, .non, .non, .val (.int T), .val (.int B), .val (.int T'), .val (.int B')]) ?_ rfl ?_
    · walk_at "pe"
      rw [show F__law_cell [ilst ns, .int 1] = _ from hcell 1 (by decide)]
      walk_at "pe"
      rw [hch']
      walk_at "pe"
    generalize hrow : Dt.lst [.int d0, .int d1, .int d2, .int d3, .int d4, .int d5, .int d6, .int d7, .int d8] = row
    refine q_asg (r := .vis row) ?_ rfl rfl ?_
    · walk_at "pe"
      rw [show F__law_cell [ilst ns, .int 2] = _ from hcell 2 (by decide)]
      walk_at "pe"
      rw [show F__law_digits [.int (cellM ns ((2 : Nat) : Int)), .lst [.int 4, .int 16, .int 1000, .int 10, .int 2, .int 999999, .int 2, .int 4, .int 76]] = _ from hdig, ← hrow]
      walk_at "pe"
      rfl
    refine q_asg (r := .vis (.int (1 + d1))) (by rw [← hrow]; walk_at "pe") rfl rfl ?_
    refine q_ifI (p := d0 = 0) (x := 1 + d2) (y := 1 + d1) (by rw [← hrow]; walk_at "pe") (fun _ => by rw [← hrow]; walk_at "pe") rfl ?_
    rw [← hn1]
    refine q_ifI (p := d0 = 1) (x := sh) (y := n1) (by rw [← hrow]; walk_at "pe") (fun _ => by rw [← hrow]; walk_at "pe"; rw [pShl_int (by omega) (by omega) (big64 (by decide) (by decide)), hsh]) rfl ?_
    rw [← hn]
    refine q_asg (r := .vis (.int 1)) (by walk_at "pe") rfl rfl ?_
    refine q_ifI (p := d4 = 1) (x := 1 + d5 % (999999 / B)) (y := 1) (by rw [← hrow]; walk_at "pe") (fun _ => ?_) rfl ?_
    · rw [← hrow]
      walk_at "pe"
      rw [pDiv_int s2 (div64 s2 (by omega))]
      walk_at "pe"
      rw [pMod_int hq]
      walk_at "pe"
    rw [← hf]
    show (wSeq _ _) _ [.val (ilst ns), .val row, .val (.int n), .val (.int f), .non, .non, .non, .non, .non, .non, .val (.int T), .val (.int B), .val (.int T'), .val (.int B')]
    refine q_asg (r := .fre (.lst (num.map .int))) ?_ rfl rfl ?_
    · walk_at "pe"
      rw [pMul_int (big64 (by omega) (by omega)) (big64 (by omega) (by omega)), pMul_int (big64 (by omega) (by omega)) (big64 (by omega) (by omega))]
      walk_at "pe"
      rw [← hnum]
      rfl
    refine q_frz rfl rfl ?_
    refine q_asg (r := .vis (imat ms)) (by walk_at "pe"; rw [hmaj]; walk_at "pe") rfl rfl ?_
    refine q_asg (r := .vis ms') (by walk_at "pe"; rw [hmaj']; walk_at "pe") rfl rfl ?_
    show (wSeq _ _) _ [.val (ilst ns), .val row, .val (.int n), .val (.int f), .val (ilst num), .val (imat ms), .val ms', .non, .non, .non, .val (.int T), .val (.int B), .val (.int T'), .val (.int B')]
    have hkp : (0 : Int) < ms.length := by omega
    obtain ⟨i0, hi0, ki0⟩ : ∃ i : Nat, d8 % (ms.length : Int) = (i : Int) ∧ i ≤ k := by
      have h1 := emod_bounds d8 hkp
      exact ⟨(d8 % (ms.length : Int)).toNat, by omega, by omega⟩
    refine q_asg (r := .vis (ilst (entM T B i0))) ?_ rfl rfl ?_
    · rw [← hrow]
      walk_at "pe"
      have hpl : pLen (imat ms) = some (.vis (.int ms.length)) := by
        unfold imat
        rw [pLen_lst, List.length_map]
      rw [hpl]
      walk_at "pe"
      rw [pMod_int hkp, hi0]
      walk_at "pe"
      exact pIx_imatS (b := false) (Int.natCast_nonneg _) (by rw [Int.toNat_natCast]; exact hmg i0 ki0)
    obtain ⟨i1, hi1⟩ : ∃ i1, i1 = if d7 = 0 then k else i0 := ⟨_, rfl⟩
    have ki1 : i1 ≤ k := by rw [hi1]; split <;> omega
    refine q_ifAsg (p := d7 = 0) (d := ilst (entM T B i0)) (d1 := ilst (entM T B k)) (by rw [← hrow]; walk_at "pe") (fun _ => ?_) (fun _ => rfl) fun d2' hd2 => ?_
    · walk_at "pe"
      unfold imat
      walk_at "pe"
      rw [← hms, majL_succ, atL_last]
      rfl
    have hd2 : d2' = ilst (entM T B i1) := by
      rw [hd2, hi1]
      split <;> rfl
    subst hd2
    obtain ⟨e, he, ke0, ke1⟩ := hent i1 ki1
    refine q_asg (r := .vis (.int e)) (by walk_at "pe"; rw [he]; walk_at "pe") rfl rfl ?_
    show (wSeq _ _) _ [.val (ilst ns), .val row, .val (.int n), .val (.int f), .val (ilst num), .val (imat ms), .val ms', .val (ilst (entM T B i1)), .val (.int e), .non, .val (.int T), .val (.int B), .val (.int T'), .val (.int B')]
    refine q_if (c := false) (by rw [← hrow]; walk_at "pe"; rw [a1 d6 n ⟨by omega, by omega⟩]; walk_at "pe") (fun e => nomatch e) fun _ => s_nil ?_
    refine q_if (c := false) (by rw [← hrow]; walk_at "pe"; rw [show F__law_answered [.lst [.int T', .int B'], .int (1 - d6), .int n, ms'] = _ from a2 (1 - d6) n ⟨by omega, by omega⟩]; walk_at "pe") (fun e => nomatch e) fun _ => s_nil ?_
    refine q_if (c := false) (by rw [← hrow]; walk_at "pe"; rw [a1 d6 e ⟨by omega, by omega⟩]; walk_at "pe"; rw [a1 d6 (e + 1) ⟨by omega, by omega⟩]; walk_at "pe") (fun e => nomatch e) fun _ => s_nil ?_
    have hdn := hdue n (by omega) kn.2
    generalize (List.range 76).find? (enough (T * f) (B * f) n) = o at *
    refine q_asg (r := .vis (oddD o)) (by walk_at "pe"; rw [hdn]; walk_at "pe") rfl rfl ?_
    show (wSeq _ _) _ [.val (ilst ns), .val row, .val (.int n), .val (.int f), .val (ilst num), .val (imat ms), .val ms', .val (ilst (entM T B i1)), .val (.int e), .val (oddD o), .val (.int T), .val (.int B), .val (.int T'), .val (.int B')]
    have fin : (wRet (eCall F__law_answered (aCons (eVar 4) (aCons (e2 pIx (eVar 1) (eC (.int 6))) (aCons (eVar 2) (aCons (eVar 5) aNil)))))) (endR (.bl true)) [.val (ilst ns), .val row, .val (.int n), .val (.int f), .val (ilst num), .val (imat ms), .val ms', .val (ilst (entM T B i1)), .val (.int e), .val (oddD o), .val (.int T), .val (.int B), .val (.int T'), .val (.int B')] := by
      refine s_ret (r := .vis (.bl true)) ?_ rfl rfl rfl
      rw [← hrow]
      walk_at "pe"
      rw [a1 d6 n ⟨by omega, by omega⟩]
      walk_at "pe"
    cases o with
    | none => exact q_if (c := true) rfl (fun _ => s_ret (r := .vis (.bl true)) rfl rfl rfl rfl) fun e => nomatch e
    | some i =>
      refine q_if (c := decide (31 < ((2 * i + 1 : Nat) : Int))) ?_ (fun _ => s_ret (r := .vis (.bl true)) rfl rfl rfl rfl) fun _ => s_nil fin
      show tOr _ _ [.val (ilst ns), .val row, .val (.int n), .val (.int f), .val (ilst num), .val (imat ms), .val ms', .val (ilst (entM T B i1)), .val (.int e), .val (.int ((2 * i + 1 : Nat) : Int)), .val (.int T), .val (.int B), .val (.int T'), .val (.int B')] = _
      walk_at "pe"
end Pyl
end
section
set_option Elab.async false
set_option linter.all false
set_option maxRecDepth 100000
set_option maxHeartbeats 2000000
namespace Pyl
open PySem L2

/-! ### what a value denotes -/
mutual
inductive Den (K : PySem.W.Frag) (cm : Nat → Addr) (G : Hp) : V → Dt → Prop
  | non : Den K cm G .non .non
  | bl (b : Bool) : Den K cm G (.bl b) (.bl b)
  | int (i : Int) : Den K cm G (.int i) (.int i)
  | str (x : Str) : Den K cm G (.str x) (.str x)
  | lst {a : Addr} {vs : List V} {ds : List Dt} : SqL K G a vs → DenL K cm G vs ds → Den K cm G (.ref a) (.lst ds)
  | tup {a : Addr} {vs : List V} {ds : List Dt} : SqT K G a vs → DenL K cm G vs ds → Den K cm G (.ref a) (.tup ds)
  | obj {a dx : Addr} {c : Nat} {fv : List (Str × V)} {fs : List (Str × Dt)} : G a = some (.ins (cm c) dx fv) → DenF K cm G fv fs → Den K cm G (.ref a) (.obj c fs)
inductive DenL (K : PySem.W.Frag) (cm : Nat → Addr) (G : Hp) : List V → List Dt → Prop
  | nil : DenL K cm G [] []
  | cons {v : V} {vs : List V} {d : Dt} {ds : List Dt} : Den K cm G v d → DenL K cm G vs ds → DenL K cm G (v :: vs) (d :: ds)
inductive DenF (K : PySem.W.Frag) (cm : Nat → Addr) (G : Hp) : List (Str × V) → List (Str × Dt) → Prop
  | nil : DenF K cm G [] []
  | cons {x : Str} {v : V} {vs : List (Str × V)} {d : Dt} {ds : List (Str × Dt)} : Den K cm G v d → DenF K cm G vs ds → DenF K cm G ((x, v) :: vs) ((x, d) :: ds)
end

def Exx (H H' : Hp) : Prop := ∀ a o, H a = some o → H' a = some o
theorem Exx.refl (H : Hp) : Exx H H := fun _ _ h => h
theorem Exx.trans {H H1 H2 : Hp} (a : Exx H H1) (b : Exx H1 H2) : Exx H H2 := fun x o h => b x o (a x o h)
theorem Exx.new {H : Hp} {p : Addr} {o : HO} (h : H p = none) : Exx H (upd H p o) := fun a u e => by
  rw [upd_ne (ne_of_none e h)]
  exact e
theorem Exx.rd {H H' : Hp} {a : Addr} {u : HO} (e : Exx H H') (h : Rd H a u) : Rd H' a u := by
  rcases h with h | ⟨o, h⟩
  · exact Or.inl (e a _ h)
  · exact Or.inr ⟨o, e a _ h⟩
theorem Exx.sqL {K : PySem.W.Frag} {H H' : Hp} {a : Addr} {xs : List V} (e : Exx H H') (h : SqL K H a xs) : SqL K H' a xs := by
  rcases h with h | h
  · exact Or.inl (e.rd h)
  · exact Or.inr h
theorem Exx.sqT {K : PySem.W.Frag} {H H' : Hp} {a : Addr} {xs : List V} (e : Exx H H') (h : SqT K H a xs) : SqT K H' a xs := by
  rcases h with h | h
  · exact Or.inl (e.rd h)
  · exact Or.inr h
theorem Exx.back {H H' : Hp} {p : Addr} (e : Exx H H') (h : H' p = none) : H p = none := by
  cases h1 : H p with
  | none => rfl
  | some o =>
    rw [e p o h1] at h
    cases h
section
variable {K : PySem.W.Frag} {cm : Nat → Addr} {G G' : Hp}
mutual
theorem Den.mono (e : Exx G G') : ∀ {v : V} {d : Dt}, Den K cm G v d → Den K cm G' v d
  | _, _, .non => .non
  | _, _, .bl b => .bl b
  | _, _, .int i => .int i
  | _, _, .str x => .str x
  | _, _, .lst h l => .lst (e.sqL h) (DenL.mono e l)
  | _, _, .tup h l => .tup (e.sqT h) (DenL.mono e l)
  | _, _, .obj h l => .obj (e _ _ h) (DenF.mono e l)
theorem DenL.mono (e : Exx G G') : ∀ {vs : List V} {ds : List Dt}, DenL K cm G vs ds → DenL K cm G' vs ds
  | _, _, .nil => .nil
  | _, _, .cons h t => .cons (Den.mono e h) (DenL.mono e t)
theorem DenF.mono (e : Exx G G') : ∀ {vs : List (Str × V)} {ds : List (Str × Dt)}, DenF K cm G vs ds → DenF K cm G' vs ds
  | _, _, .nil => .nil
  | _, _, .cons h t => .cons (Den.mono e h) (DenF.mono e t)
end
theorem DenL.length : ∀ {vs : List V} {ds : List Dt}, DenL K cm G vs ds → vs.length = ds.length
  | _, _, .nil => rfl
  | _, _, .cons _ t => by rw [List.length_cons, List.length_cons, DenL.length t]
theorem DenL.get : ∀ {vs : List V} {ds : List Dt} {i : Nat} {d : Dt}, DenL K cm G vs ds → ds[i]? = some d → ∃ v, vs[i]? = some v ∧ Den K cm G v d
  | _, _, _, _, .nil, e => by simp at e
  | _, _, 0, _, .cons h t, e => by simp at e; subst e; exact ⟨_, rfl, h⟩
  | _, _, i + 1, d, .cons h t, e => by
    obtain ⟨v, h1, h2⟩ := DenL.get (i := i) (d := d) t (by simpa using e)
    exact ⟨v, by simpa using h1, h2⟩
theorem DenL.get' : ∀ {vs : List V} {ds : List Dt} {i : Nat} {v : V}, DenL K cm G vs ds → vs[i]? = some v → ∃ d, ds[i]? = some d ∧ Den K cm G v d
  | _, _, _, _, .nil, e => by simp at e
  | _, _, 0, _, .cons h t, e => by simp at e; subst e; exact ⟨_, rfl, h⟩
  | _, _, i + 1, d, .cons h t, e => by
    obtain ⟨v, h1, h2⟩ := DenL.get' (i := i) (v := d) t (by simpa using e)
    exact ⟨v, by simpa using h1, h2⟩
theorem DenL.append : ∀ {vs ws : List V} {ds es : List Dt}, DenL K cm G vs ds → DenL K cm G ws es → DenL K cm G (vs ++ ws) (ds ++ es)
  | _, _, _, _, .nil, s => s
  | _, _, _, _, .cons h t, s => .cons h (DenL.append t s)
theorem DenL.take : ∀ {vs : List V} {ds : List Dt} (n : Nat), DenL K cm G vs ds → DenL K cm G (vs.take n) (ds.take n)
  | _, _, 0, _ => .nil
  | _, _, n + 1, .nil => .nil
  | _, _, n + 1, .cons h t => .cons h (DenL.take n t)
theorem DenL.drop : ∀ {vs : List V} {ds : List Dt} (n : Nat), DenL K cm G vs ds → DenL K cm G (vs.drop n) (ds.drop n)
  | _, _, 0, r => r
  | _, _, n + 1, .nil => .nil
  | _, _, n + 1, .cons _ t => DenL.drop n t
theorem DenL.set {v : V} {d : Dt} (h : Den K cm G v d) : ∀ {vs : List V} {ds : List Dt} (n : Nat), DenL K cm G vs ds → DenL K cm G (vs.set n v) (ds.set n d)
  | _, _, _, .nil => .nil
  | _, _, 0, .cons _ t => .cons h t
  | _, _, n + 1, .cons q t => .cons q (DenL.set h n t)
theorem DenL.one {v : V} {d : Dt} (h : Den K cm G v d) : DenL K cm G [v] [d] := .cons h .nil
end

/-! ### growth -/
structure Grow (H G H' G' : Hp) : Prop where
  hx : Exx H H'
  gx : Exx G G'
  hid : ∀ a o, H a = some o → G a = none → G' a = none
  sub : Exx G' H'
theorem Grow.refl {H G : Hp} (s : Exx G H) : Grow H G H G := ⟨.refl _, .refl _, fun _ _ _ h => h, s⟩
theorem Grow.trans {H G H1 G1 H2 G2 : Hp} (a : Grow H G H1 G1) (b : Grow H1 G1 H2 G2) : Grow H G H2 G2 :=
  ⟨a.hx.trans b.hx, a.gx.trans b.gx, fun x o h n => b.hid x o (a.hx x o h) (a.hid x o h n), b.sub⟩
/-- a new object, seen by all -/
theorem Grow.new {H G : Hp} {p : Addr} {o : HO} (s : Exx G H) (h : H p = none) : Grow H G (upd H p o) (upd G p o) :=
  ⟨.new h, .new (s.back h), fun a u e n => by rw [upd_ne (ne_of_none e h)]; exact n, fun a u e => by
    by_cases q : a = p
    · subst q; rw [upd_same] at e ⊢; exact e
    · rw [upd_ne q] at e ⊢; exact s a u e⟩
/-- a new object, seen by none -/
theorem Grow.hide {H G : Hp} {p : Addr} {o : HO} (s : Exx G H) (h : H p = none) : Grow H G (upd H p o) G :=
  ⟨.new h, .refl _, fun _ _ _ n => n, fun a u e => by rw [upd_ne (ne_of_none (s a u e) h)]; exact s a u e⟩
/-- what was hidden and new is shown -/
theorem Grow.show {H G H' G' : Hp} {p : Addr} {o : HO} (g : Grow H G H' G') (n : H p = none) (e : H' p = some o) (z : G' p = none) : Grow H G H' (upd G' p o) :=
  ⟨g.hx, fun a u q => by rw [upd_ne (ne_of_none (g.gx a u q) z)]; exact g.gx a u q, fun a u q w => by rw [upd_ne (ne_of_none q n)]; exact g.hid a u q w, fun a u q => by
    by_cases k : a = p
    · subst k; rw [upd_same] at q; cases q; exact e
    · rw [upd_ne k] at q; exact g.sub a u q⟩

/-- a list looked at, that a name of the frame holds -/
def Bor (K : PySem.W.Frag) (cm : Nat → Addr) (H G : Hp) (v : V) (d : Dt) : Prop := ∃ l vs ds, v = .ref l ∧ d = .lst ds ∧ SqL K H l vs ∧ DenL K cm G vs ds
def VR (K : PySem.W.Frag) (cm : Nat → Addr) (H G : Hp) (v : V) (d : Dt) (b : Bool) : Prop := (b = true → Bor K cm H G v d) ∧ (b = false → Den K cm G v d)
def OwnR (K : PySem.W.Frag) (cm : Nat → Addr) (G : Hp) : HO → OD → Prop
  | .lst vs, .lst ds => DenL K cm G vs ds
  | _, _ => False
def RR (K : PySem.W.Frag) (cm : Nat → Addr) (H H' G' : Hp) (v : V) : R → Prop
  | .vis d => Den K cm G' v d
  | .bor d => Bor K cm H' G' v d
  | .fre od => ∃ l o, v = .ref l ∧ H l = none ∧ H' l = some o ∧ G' l = none ∧ OwnR K cm G' o od
section
variable {K : PySem.W.Frag} {cm : Nat → Addr} {H G H' G' : Hp} {v : V} {d : Dt} {b : Bool}
theorem OwnR.mono {o : HO} {od : OD} (e : Exx G G') (h : OwnR K cm G o od) : OwnR K cm G' o od := by
  cases o <;> cases od <;> first | exact DenL.mono e h | exact h
theorem VR.vis (h : Den K cm G v d) : VR K cm H G v d false := ⟨fun e => (nomatch e), fun _ => h⟩
theorem VR.den (h : VR K cm H G v d false) : Den K cm G v d := h.2 rfl
theorem VR.grow (g : Grow H G H' G') (h : VR K cm H G v d b) : VR K cm H' G' v d b := by
  refine ⟨fun e => ?_, fun e => (h.2 e).mono g.gx⟩
  obtain ⟨l, vs, ds, h1, h2, h3, h4⟩ := h.1 e
  exact ⟨l, vs, ds, h1, h2, g.hx.sqL h3, h4.mono g.gx⟩
theorem VR.lst {ds : List Dt} (s : Exx G H) (h : VR K cm H G v (.lst ds) b) : ∃ l vs, v = .ref l ∧ SqL K H l vs ∧ DenL K cm G vs ds := by
  cases b with
  | true =>
    obtain ⟨l, vs, ds', h1, h2, h3, h4⟩ := h.1 rfl
    cases h2
    exact ⟨l, vs, h1, h3, h4⟩
  | false =>
    have q := h.2 rfl
    cases q with
    | lst h1 h2 => exact ⟨_, _, rfl, s.sqL h1, h2⟩
theorem VR.tup {ds : List Dt} (s : Exx G H) (h : VR K cm H G v (.tup ds) b) : ∃ l vs, v = .ref l ∧ SqT K H l vs ∧ SqT K G l vs ∧ DenL K cm G vs ds := by
  cases b with
  | true =>
    obtain ⟨l, vs, ds', h1, h2, h3, h4⟩ := h.1 rfl
    cases h2
  | false =>
    have q := h.2 rfl
    cases q with
    | tup h1 h2 => exact ⟨_, _, rfl, s.sqT h1, h1, h2⟩
theorem VR.int {i : Int} (h : VR K cm H G v (.int i) b) : v = .int i := by
  cases b with
  | true =>
    obtain ⟨l, vs, ds', h1, h2, h3, h4⟩ := h.1 rfl
    cases h2
  | false => cases h.2 rfl; rfl
theorem VR.bl {i : Bool} (h : VR K cm H G v (.bl i) b) : v = .bl i := by
  cases b with
  | true =>
    obtain ⟨l, vs, ds', h1, h2, h3, h4⟩ := h.1 rfl
    cases h2
  | false => cases h.2 rfl; rfl
theorem VR.str {i : Str} (h : VR K cm H G v (.str i) b) : v = .str i := by
  cases b with
  | true =>
    obtain ⟨l, vs, ds', h1, h2, h3, h4⟩ := h.1 rfl
    cases h2
  | false => cases h.2 rfl; rfl
theorem VR.non (h : VR K cm H G v .non b) : v = .non := by
  cases b with
  | true =>
    obtain ⟨l, vs, ds', h1, h2, h3, h4⟩ := h.1 rfl
    cases h2
  | false => cases h.2 rfl; rfl
/-- a result is shown -/
theorem RR.pub {r : R} (g : Grow H G H' G') (h : RR K cm H H' G' v r) : ∃ G2, Grow H G H' G2 ∧ VR K cm H' G2 v r.dt r.sh := by
  cases r with
  | vis d => exact ⟨G', g, .vis h⟩
  | bor d => exact ⟨G', g, ⟨fun _ => h, fun e => (nomatch e)⟩⟩
  | fre od =>
    obtain ⟨l, o, rfl, h1, h2, h3, h4⟩ := h
    cases o <;> cases od <;> first | exact h4.elim | skip
    rename_i vs ds
    exact ⟨_, g.show h1 h2 h3, .vis (.lst (SqL.of upd_same) (DenL.mono (Exx.new h3) h4))⟩
end

/-! ### states -/
structure Rel (K : PySem.W.Frag) (cm : Nat → Addr) (σ : L2.St) (H G : Hp) (env : Sl) : Prop where
  len : σ.length = env.length
  sub : Exx G H
  val : ∀ (i : Nat) (d : Dt), env[i]? = some (.val d) → ∃ v, σ[i]? = some (some v) ∧ Den K cm G v d
  own : ∀ (i : Nat) (od : OD), env[i]? = some (.own od) → ∃ l o, σ[i]? = some (some (.ref l)) ∧ H l = some o ∧ G l = none ∧ OwnR K cm G o od
  dist : ∀ (i j : Nat) (od od' : OD) (a : Addr), env[i]? = some (.own od) → env[j]? = some (.own od') → σ[i]? = some (some (.ref a)) → σ[j]? = some (some (.ref a)) → i = j
section
variable {K : PySem.W.Frag} {cm : Nat → Addr} {σ : L2.St} {H G H' G' : Hp} {env : Sl}
theorem Rel.grow (r : Rel K cm σ H G env) (g : Grow H G H' G') : Rel K cm σ H' G' env :=
  ⟨r.len, g.sub, fun i d h => by
    obtain ⟨v, h1, h2⟩ := r.val i d h
    exact ⟨v, h1, h2.mono g.gx⟩, fun i od h => by
    obtain ⟨l, o, h1, h2, h3, h4⟩ := r.own i od h
    exact ⟨l, o, h1, g.hx l o h2, g.hid l o h2 h3, h4.mono g.gx⟩, r.dist⟩
/-- an address that a name holds as its own -/
def Own (σ : L2.St) (env : Sl) (a : Addr) : Prop := ∃ (i : Nat) (od : OD), env[i]? = some (.own od) ∧ σ[i]? = some (some (.ref a))
end

/-- what code leaves as it was, of the heaps -/
structure FrH (σ : L2.St) (env : Sl) (H G H' G' : Hp) : Prop where
  gx : Exx G G'
  hid : ∀ a o, H a = some o → G a = none → ¬ Own σ env a → G' a = none
  keep : ∀ a o, H a = some o → ¬ Own σ env a → H' a = some o
  there : ∀ a o, H a = some o → ∃ o', H' a = some o'
  sub : Exx G' H'
structure Fr (σ : L2.St) (env : Sl) (H G : Hp) (σ' : L2.St) (env' : Sl) (H' G' : Hp) : Prop extends FrH σ env H G H' G' where
  fresh : ∀ a o, H a = some o → ¬ Own σ env a → ¬ Own σ' env' a
  take : ∀ i : Nat, env'[i]? = some .take → env[i]? = some .take ∧ σ'[i]? = σ[i]?
section
variable {K : PySem.W.Frag} {cm : Nat → Addr} {σ σ1 σ2 : L2.St} {H G H1 G1 H2 G2 : Hp} {env env1 env2 : Sl}
theorem Grow.frH (g : Grow H G H1 G1) : FrH σ env H G H1 G1 := ⟨g.gx, fun a o h n _ => g.hid a o h n, fun a o h _ => g.hx a o h, fun a o h => ⟨o, g.hx a o h⟩, g.sub⟩
theorem Grow.fr (g : Grow H G H1 G1) : Fr σ env H G σ env H1 G1 := { g.frH with fresh := fun _ _ _ h => h, take := fun _ h => ⟨h, rfl⟩ }
theorem Fr.trH (a : Fr σ env H G σ1 env1 H1 G1) (b : FrH σ1 env1 H1 G1 H2 G2) : FrH σ env H G H2 G2 where
  gx := a.gx.trans b.gx
  hid := fun x o h n w => b.hid x o (a.keep x o h w) (a.hid x o h n w) (a.fresh x o h w)
  keep := fun x o h w => b.keep x o (a.keep x o h w) (a.fresh x o h w)
  there := fun x o h => by
    obtain ⟨o1, h1⟩ := a.there x o h
    exact b.there x o1 h1
  sub := b.sub
theorem Fr.trans (a : Fr σ env H G σ1 env1 H1 G1) (b : Fr σ1 env1 H1 G1 σ2 env2 H2 G2) : Fr σ env H G σ2 env2 H2 G2 :=
  { a.trH b.toFrH with
    fresh := fun x o h w => b.fresh x o (a.keep x o h w) (a.fresh x o h w)
    take := fun i h => by
      obtain ⟨h1, e1⟩ := b.take i h
      obtain ⟨h2, e2⟩ := a.take i h1
      exact ⟨h2, e1.trans e2⟩ }
theorem Fr.refl (s : Exx G H) : Fr σ env H G σ env H G := (Grow.refl s).fr
end

/-! ### the weakest readings -/
section
variable (X : Cx)
def wpE (e : Expr) : TE := fun σ H Q => ∀ pins s, Inv X pins σ H s → wpAny (model X.prog X.w) X.A (eval e X.env) (EP X pins σ Q) X.xe s
def wpT (e : Expr) : TT := fun σ H Q => ∀ pins s, Inv X pins σ H s → wpAny (model X.prog X.w) X.A (isTrue e X.env (eval e X.env)) (TP X pins σ Q) X.xe s
def wpA (es : List Expr) : TA := fun σ H Q => ∀ (pos : Pos) pins s, Inv X pins σ H s → wpAny (model X.prog X.w) X.A (spliced (backTo pos (starEach es X.env))) (AP X pins σ Q) X.xe s
def wpS (st : Stmt) : TS := fun D σ H => ∀ pins s, Inv X pins σ H s → wpAny (model X.prog X.w) X.A (exec st X.env) (SP X pins D) X.xe s
def wpSs (st : List Stmt) : TS := fun D σ H => ∀ pins s, Inv X pins σ H s → wpAny (model X.prog X.w) X.A (execs st X.env) (SP X pins D) X.xe s
def wpI (tg iter : Expr) : TI := fun σ H R => ∀ pins s, Inv X pins σ H s → wpAny (model X.prog X.w) X.A (eval iter X.env) (fun v s1 => wpAny (model X.prog X.w) X.A (pyIter v) (PIE X pins σ tg R) X.xe s1) X.xe s
def wpG (tg : Expr) : TG := fun v σ H Q => ∀ pins s u, Inv X pins σ H s → RelV v u → wpAny (model X.prog X.w) X.A (assign tg X.env u) (fun _ s' => ∃ σ' H', Inv X pins σ' H' s' ∧ Q σ' H') X.xe s
end
section
variable {X : Cx}
theorem pe_w {e : Expr} : PE X e (wpE X e) := ⟨fun pins s σ H Q I h => h pins s I⟩
theorem pt_w {e : Expr} : PT X e (wpT X e) := ⟨fun pins s σ H Q I h => h pins s I⟩
theorem pa_w {es : List Expr} : PA X es (wpA X es) := ⟨fun pos pins s σ H Q I h => h pos pins s I⟩
theorem ps_w {st : Stmt} : PS X st (wpS X st) := ⟨fun pins s σ H Q I h => h pins s I⟩
theorem pss_w {st : List Stmt} : PSs X st (wpSs X st) := ⟨fun pins s σ H Q I h => h pins s I⟩
theorem pi_w {tg iter : Expr} : PI X tg iter (wpI X tg iter) := ⟨fun pins s σ H R I h => h pins s I⟩
theorem pg_w {tg : Expr} : PG X tg (wpG X tg) := ⟨fun pins s σ H v u Q I r h => h pins s u I r⟩
theorem to_e {e : Expr} {t : TE} {σ : L2.St} {H : Hp} {Q : VK} (h : PE X e t) (q : t σ H Q) : wpE X e σ H Q := fun pins s I => h.run pins s σ H Q I q
theorem to_t {e : Expr} {t : TT} {σ : L2.St} {H : Hp} {Q : Bool → Hp → Prop} (h : PT X e t) (q : t σ H Q) : wpT X e σ H Q := fun pins s I => h.run pins s σ H Q I q
theorem to_a {e : List Expr} {t : TA} {σ : L2.St} {H : Hp} {Q : List V → Hp → Prop} (h : PA X e t) (q : t σ H Q) : wpA X e σ H Q := fun pos pins s I => h.run pos pins s σ H Q I q
theorem to_s {st : Stmt} {t : TS} {σ : L2.St} {H : Hp} {D : Ends} (h : PS X st t) (q : t D σ H) : wpS X st D σ H := fun pins s I => h.run pins s σ H D I q
theorem to_ss {st : List Stmt} {t : TS} {σ : L2.St} {H : Hp} {D : Ends} (h : PSs X st t) (q : t D σ H) : wpSs X st D σ H := fun pins s I => h.run pins s σ H D I q
theorem to_i {tg iter : Expr} {t : TI} {σ : L2.St} {H : Hp} {Q : It → Hp → Prop} (h : PI X tg iter t) (q : t σ H Q) : wpI X tg iter σ H Q := fun pins s I => h.run pins s σ H Q I q
end
end Pyl
end
section
set_option Elab.async false
set_option linter.all false
set_option maxRecDepth 100000
set_option maxHeartbeats 2000000
namespace Pyl
open PySem L2

/-- the code of e gives f, of the frame's data -/
structure JE (X : Cx) (cm : Nat → Addr) (e : Expr) (f : EF) : Prop where
  run : ∀ (env : Sl) (r : R) (σ : L2.St) (H G : Hp), f env = some r → Rel X.K cm σ H G env → ∀ Q : VK, (∀ v H' G', Grow H G H' G' → RR X.K cm H H' G' v r → Q v H') → wpE X e σ H Q
structure JT (X : Cx) (cm : Nat → Addr) (e : Expr) (f : TF) : Prop where
  run : ∀ (env : Sl) (b : Bool) (σ : L2.St) (H G : Hp), f env = some b → Rel X.K cm σ H G env → ∀ Q : Bool → Hp → Prop, (∀ H' G', Grow H G H' G' → Q b H') → wpT X e σ H Q
inductive VRs (K : PySem.W.Frag) (cm : Nat → Addr) (H G : Hp) : List V → List (Dt × Bool) → Prop
  | nil : VRs K cm H G [] []
  | cons {v : V} {vs : List V} {d : Dt} {b : Bool} {ds : List (Dt × Bool)} : VR K cm H G v d b → VRs K cm H G vs ds → VRs K cm H G (v :: vs) ((d, b) :: ds)
structure JA (X : Cx) (cm : Nat → Addr) (es : List Expr) (f : AF) : Prop where
  run : ∀ (env : Sl) (r : List (Dt × Bool)) (σ : L2.St) (H G : Hp), f env = some r → Rel X.K cm σ H G env → ∀ Q : List V → Hp → Prop, (∀ vs H' G', Grow H G H' G' → VRs X.K cm H' G' vs r → Q vs H') → wpA X es σ H Q
  len : ∀ (env : Sl) (r : List (Dt × Bool)), f env = some r → r.length = es.length
section
variable {X : Cx} {cm : Nat → Addr} {e a b c : Expr} {f fa fb : EF} {σ : L2.St} {H G : Hp} {env : Sl} {pos : Pos}

theorem JE.pub (h : JE X cm e f) {r : R} (hf : f env = some r) (rel : Rel X.K cm σ H G env) {Q : VK} (q : ∀ v H' G', Grow H G H' G' → VR X.K cm H' G' v r.dt r.sh → Q v H') : wpE X e σ H Q := by
  refine h.run env r σ H G hf rel Q fun v H' G' g rr => ?_
  obtain ⟨G2, g2, vr⟩ := RR.pub g rr
  exact q v H' G2 g2 vr

/-! names, constants -/
theorem je_var {x : Str} (i : Nat) (hN : X.N[i]? = some x := by rfl) (hv : Vis X.env.scope x := by first | exact Or.inl rfl | exact Or.inr (Or.inl rfl) | exact Or.inr (Or.inr rfl)) (hd : (x == ("__debug__" : Str)) = false := by decide)
    (hcd : (x == ("__classdict__" : Str)) = false := by decide) : JE X cm (.Name x pos) (eVar i) := by
  refine ⟨fun env r σ H G hf rel Q q => ?_⟩
  unfold eVar at hf
  split at hf
  · rename_i d hd'
    cases hf
    obtain ⟨v, h1, h2⟩ := rel.val i d hd'
    exact to_e (pe_var hN hv hd hcd) ⟨v, h1, q v H G (.refl rel.sub) h2⟩
  · rename_i ds hd'
    cases hf
    obtain ⟨l, o, h1, h2, h3, h4⟩ := rel.own i _ hd'
    cases o with
    | lst vs => exact to_e (pe_var hN hv hd hcd) ⟨_, h1, q _ H G (.refl rel.sub) ⟨l, vs, ds, rfl, rfl, SqL.of h2, h4⟩⟩
    | _ => exact h4.elim
  · cases hf
theorem je_int {i j} : JE X cm (.Constant (.int i) j pos) (eC (.int i)) := ⟨fun env r σ H G hf rel Q q => by
  cases hf
  exact to_e pe_int (q _ H G (.refl rel.sub) (Den.int i))⟩
theorem je_bl {i j} : JE X cm (.Constant (.bool i) j pos) (eC (.bl i)) := ⟨fun env r σ H G hf rel Q q => by
  cases hf
  exact to_e pe_bl (q _ H G (.refl rel.sub) (Den.bl i))⟩
theorem je_non {j} : JE X cm (.Constant .none j pos) (eC .non) := ⟨fun env r σ H G hf rel Q q => by
  cases hf
  exact to_e pe_non (q _ H G (.refl rel.sub) Den.non)⟩
theorem je_str {i j} : JE X cm (.Constant (.str i) j pos) (eC (.str i)) := ⟨fun env r σ H G hf rel Q q => by
  cases hf
  exact to_e pe_str (q _ H G (.refl rel.sub) (Den.str i))⟩

/-! argument lists -/
theorem ja_nil : JA X cm [] aNil := ⟨fun env r σ H G hf rel Q q => by
  cases hf
  exact to_a pa_nil (q _ H G (.refl rel.sub) .nil), fun env r h => by cases h; rfl⟩
theorem VRs.grow {K : PySem.W.Frag} {H G H' G' : Hp} (g : Grow H G H' G') : ∀ {vs : List V} {ds : List (Dt × Bool)}, VRs K cm H G vs ds → VRs K cm H' G' vs ds
  | _, _, .nil => .nil
  | _, _, .cons h t => .cons (h.grow g) (VRs.grow g t)
theorem ja_cons {es : List Expr} {fr : AF} (ha : JE X cm e fa) (hr : JA X cm es fr) (hs : starEach (e :: es) X.env = (false, eval e X.env) :: starEach es X.env := by rfl) : JA X cm (e :: es) (aCons fa fr) := by
  refine ⟨fun env r σ H G hf rel Q q => ?_, fun env r hf => by
    obtain ⟨ra, h1, hf⟩ := Option.bind_eq_some_iff.mp hf
    obtain ⟨rs, h2, hf⟩ := Option.bind_eq_some_iff.mp hf
    cases hf
    rw [List.length_cons, List.length_cons, hr.len env rs h2]⟩
  obtain ⟨ra, h1, hf⟩ := Option.bind_eq_some_iff.mp hf
  obtain ⟨rs, h2, hf⟩ := Option.bind_eq_some_iff.mp hf
  cases hf
  refine to_a (pa_cons pe_w pa_w hs) ?_
  refine ha.pub h1 rel fun v H1 G1 g1 vr => ?_
  refine hr.run env rs σ H1 G1 h2 (rel.grow g1) _ fun vs H2 G2 g2 vrs => ?_
  exact q _ H2 G2 (g1.trans g2) (.cons (vr.grow g2) vrs)
theorem VRs.plain {K : PySem.W.Frag} {H G : Hp} : ∀ {vs : List V} {rs : List (Dt × Bool)}, VRs K cm H G vs rs → rs.any (·.2) = false → DenL K cm G vs (rs.map (·.1))
  | _, _, .nil, _ => .nil
  | _, _, .cons (b := b) h t, e => by
    rw [List.any_cons, Bool.or_eq_false_iff] at e
    have e1 : b = false := e.1
    subst e1
    exact .cons h.den (VRs.plain t e.2)
theorem plain_some {rs : List (Dt × Bool)} {ds : List Dt} (h : plain rs = some ds) : rs.any (·.2) = false ∧ ds = rs.map (·.1) := by
  unfold Pyl.plain at h
  split at h
  · cases h
  · rename_i hn
    cases h
    exact ⟨by simpa using hn, rfl⟩
theorem VRs.length {K : PySem.W.Frag} {H G : Hp} : ∀ {vs : List V} {rs : List (Dt × Bool)}, VRs K cm H G vs rs → vs.length = rs.length
  | _, _, .nil => rfl
  | _, _, .cons h t => by rw [List.length_cons, List.length_cons, VRs.length t]
theorem je_tup {es : List Expr} {ft : AF} {k : Nat} (h : JA X cm es ft) (hz : es.length ≤ 100000 := by decide) : JE X cm (.Tuple es k pos) (eTup ft) := by
  refine ⟨fun env r σ H G hf rel Q q => ?_⟩
  obtain ⟨rs, h1, hf⟩ := Option.bind_eq_some_iff.mp hf
  obtain ⟨ds, h2, hf⟩ := Option.bind_eq_some_iff.mp hf
  cases hf
  obtain ⟨h3, rfl⟩ := plain_some h2
  refine to_e (pe_tup pa_w) ?_
  refine h.run env rs σ H G h1 rel _ fun vs H1 G1 g1 vrs => ⟨?_, fun p hp => ?_⟩
  · rw [vrs.length, h.len env rs h1]
    exact Nat.le_trans hz (by decide)
  · have n := g1.sub.back hp
    exact q _ _ _ (g1.trans (.new g1.sub hp)) (.tup (SqT.of upd_same) ((vrs.plain h3).mono (.new n)))
theorem je_lst {es : List Expr} {ft : AF} (h : JA X cm es ft) (hz : es.length ≤ 100000 := by decide) : JE X cm (.List es pos) (eLst ft) := by
  refine ⟨fun env r σ H G hf rel Q q => ?_⟩
  obtain ⟨rs, h1, hf⟩ := Option.bind_eq_some_iff.mp hf
  obtain ⟨ds, h2, hf⟩ := Option.bind_eq_some_iff.mp hf
  cases hf
  obtain ⟨h3, rfl⟩ := plain_some h2
  refine to_e (pe_lst pa_w) ?_
  refine h.run env rs σ H G h1 rel _ fun vs H1 G1 g1 vrs => ⟨?_, fun p hp => ?_⟩
  · rw [vrs.length, h.len env rs h1]
    exact Nat.le_trans hz (by decide)
  · have n := g1.sub.back hp
    exact q _ _ _ (g1.trans (.hide g1.sub hp)) ⟨p, _, rfl, g1.hx.back hp, upd_same, n, vrs.plain h3⟩

/-! operations -/
def P2 (X : Cx) (cm : Nat → Addr) (f : Value → Value → Sem Value) (p : Dt → Dt → Option R) : Prop :=
  ∀ (d1 d2 : Dt) (b1 b2 : Bool) (out : R) (v1 v2 : V) (H G : Hp), VR X.K cm H G v1 d1 b1 → VR X.K cm H G v2 d2 b2 → Exx G H → p d1 d2 = some out →
    ∃ r : R2, OpR X f r ∧ ∀ Q : VK, (∀ v H' G', Grow H G H' G' → RR X.K cm H H' G' v out → Q v H') → r v1 v2 H Q
theorem RR.hx {K : PySem.W.Frag} {H H0 H1 G1 : Hp} {v : V} {r : R} (e : Exx H0 H) (h : RR K cm H H1 G1 v r) : RR K cm H0 H1 G1 v r := by
  cases r with
  | vis d => exact h
  | bor d => exact h
  | fre od =>
    obtain ⟨l, o, h1, h2, h3⟩ := h
    exact ⟨l, o, h1, e.back h2, h3⟩
theorem run2 {fop : Value → Value → Sem Value} {p : Dt → Dt → Option R} (ok : P2 X cm fop p) (ha : JE X cm a fa) (hb : JE X cm b fb) {r : R} (hf : e2 p fa fb env = some r) (rel : Rel X.K cm σ H G env) {Q : VK}
    (q : ∀ v H' G', Grow H G H' G' → RR X.K cm H H' G' v r → Q v H') {pins : List (Addr × Obj)} {s : Shared} (I : Inv X pins σ H s) :
    wpAny (model X.prog X.w) X.A (eval a X.env) (fun v s₁ => wpAny (model X.prog X.w) X.A (eval b X.env) (fun u s₂ => wpAny (model X.prog X.w) X.A (fop v u) (EP X pins σ Q) X.xe s₂) X.xe s₁) X.xe s := by
  obtain ⟨ra, h1, hf⟩ := Option.bind_eq_some_iff.mp hf
  obtain ⟨rb, h2, hf⟩ := Option.bind_eq_some_iff.mp hf
  refine bin (ta := wpE X a) (tb := wpE X b) pe_w pe_w I (R := fun x y H2 => ∃ rr : R2, OpR X fop rr ∧ rr x y H2 Q) ?_ fun v u s2 x y H2 I2 rx ry hq => ?_
  · refine ha.pub h1 rel fun v H1 G1 g1 vr => ?_
    refine hb.pub h2 (rel.grow g1) fun w H2 G2 g2 wr => ?_
    obtain ⟨rr, ho, hr⟩ := ok _ _ _ _ _ _ _ H2 G2 (vr.grow g2) wr g2.sub hf
    exact ⟨rr, ho, hr Q fun v' H3 G3 g3 rr3 => q v' H3 G3 ((g1.trans g2).trans g3) (rr3.hx (g1.trans g2).hx)⟩
  · obtain ⟨rr, ho, hr⟩ := hq
    exact ho pins s2 σ H2 x y v u Q I2 rx ry hr
theorem je_bin {op : Operator} {p : Dt → Dt → Option R} (ok : P2 X cm (binaryOp op) p) (ha : JE X cm a fa) (hb : JE X cm b fb) : JE X cm (.BinOp a op b pos) (e2 p fa fb) :=
  ⟨fun env r σ H G hf rel Q q pins s I => wpAny_BinOp (run2 ok ha hb hf rel q I)⟩
theorem je_cmp {op : CmpOp} {p : Dt → Dt → Option R} (ok : P2 X cm (compareOp op) p) (ha : JE X cm a fa) (hb : JE X cm b fb) (hm : behindInMarks op b = false := by first | exact nobehind _ (by decide) (by decide) | rfl) : JE X cm (.Compare a [op] [b] pos) (e2 p fa fb) :=
  ⟨fun env r σ H G hf rel Q q pins s I => wpAny_Compare1 (run2 ok ha hb hf rel q I) hm⟩

theorem p2_int {f : Value → Value → Sem Value} {C : Int → Int → Prop} {g : Int → Int → V} {c : Int → Int → Option Int} (ho : OpR X f (rI C g)) (hc : ∀ i j k, c i j = some k → C i j ∧ g i j = .int k) : P2 X cm f (pIntI c) := by
  intro d1 d2 b1 b2 out v1 v2 H G r1 r2 sub hp
  unfold pIntI at hp
  split at hp
  · rename_i i j
    obtain ⟨k, hk, hp⟩ := Option.map_eq_some_iff.mp hp
    subst hp
    have e1 := r1.int
    have e2 := r2.int
    subst e1 e2
    obtain ⟨h1, h2⟩ := hc i j k hk
    exact ⟨_, ho, fun Q q => ⟨i, j, rfl, rfl, h1, by rw [h2]; exact q _ H G (.refl sub) (Den.int k)⟩⟩
  · cases hp
theorem p2_int0 {f : Value → Value → Sem Value} {g : Int → Int → V} {c : Int → Int → Option Int} (ho : OpR X f (rI0 g)) (hc : ∀ i j k, c i j = some k → g i j = .int k) : P2 X cm f (pIntI c) := by
  intro d1 d2 b1 b2 out v1 v2 H G r1 r2 sub hp
  unfold pIntI at hp
  split at hp
  · rename_i i j
    obtain ⟨k, hk, hp⟩ := Option.map_eq_some_iff.mp hp
    subst hp
    have e1 := r1.int
    have e2 := r2.int
    subst e1 e2
    have h2 := hc i j k hk
    exact ⟨_, ho, fun Q q => ⟨i, j, rfl, rfl, by rw [h2]; exact q _ H G (.refl sub) (Den.int k)⟩⟩
  · cases hp
theorem p2_sub : P2 X cm (binaryOp .Sub) pSub := p2_int0 op_sub fun i j k h => by cases h; rfl
theorem p2_mod : P2 X cm (binaryOp .Mod) pMod := p2_int op_mod fun i j k h => by
  split at h
  · rename_i hj
    cases h
    exact ⟨hj, rfl⟩
  · cases h
theorem log2_of {i : Int} {n : Nat} (h : i.natAbs < 2 ^ n) (h0 : 0 < n) : i.natAbs.log2 < n := PySem.Flt.log2_lt_of h0 h
theorem p2_div : P2 X cm (binaryOp .FloorDiv) pDiv := p2_int op_fdivW fun i j k h => by
  split at h
  · rename_i hj
    cases h
    exact ⟨⟨hj.1, Nat.lt_of_lt_of_le (log2_of (n := 8999) (by rw [← DIVB_eq]; exact hj.2) (by decide)) (by decide)⟩, rfl⟩
  · cases h
theorem p2_pow : P2 X cm (binaryOp .Pow) pPow := p2_int op_pow fun i j k h => by
  split at h
  · rename_i hj
    cases h
    exact ⟨hj, rfl⟩
  · cases h
theorem p2_shr : P2 X cm (binaryOp .RShift) pShr := p2_int op_shr fun i j k h => by
  split at h
  · rename_i hj
    cases h
    exact ⟨hj, rfl⟩
  · cases h
theorem p2_shl : P2 X cm (binaryOp .LShift) pShl := p2_int op_shlW fun i j k h => by
  split at h
  · rename_i hj
    cases h
    refine ⟨⟨hj.1, ?_⟩, rfl⟩
    have h2 := log2_of (n := 400000) (by rw [← BIG_eq]; exact hj.2.2) (by decide)
    have h3 : Builtin.Int.intBits i ≤ i.natAbs.log2 + 1 := by
      unfold Builtin.Int.intBits
      split <;> omega
    have h4 := hj.2.1
    have e : ((2 : Int) ^ 27) = 134217728 := by decide
    rw [e]
    omega
  · cases h
theorem p2_mul : P2 X cm (binaryOp .Mult) pMul := by
  intro d1 d2 b1 b2 out v1 v2 H G r1 r2 sub hp
  unfold pMul at hp
  split at hp
  · rename_i i j
    split at hp
    · rename_i hb
      cases hp
      have e1 := r1.int
      have e2 := r2.int
      subst e1 e2
      exact ⟨_, op_mulW, fun Q q => ⟨i, j, rfl, rfl, wide_mul (a := 400000) (b := 400000) (by rw [← BIG_eq]; exact hb.1) (by rw [← BIG_eq]; exact hb.2) (by decide) (by decide) (by decide), q _ H G (.refl sub) (Den.int _)⟩⟩
    · cases hp
  · cases hp
theorem lim_ok {n : Nat} (h : n ≤ LIM) : n ≤ sizeLine := Nat.le_trans h (by decide)
/-- list + list, any two lists that are read -/
def rCatS (K : PySem.W.Frag) : R2 := fun x y H Q => ∃ l b xs zs, x = .ref l ∧ y = .ref b ∧ SqL K H l xs ∧ SqL K H b zs ∧ xs.length + zs.length ≤ sizeLine ∧ ∀ p, H p = none → Q (.ref p) (upd H p (.lst (xs ++ zs)))
end
end Pyl
end
section
set_option Elab.async false
set_option linter.all false
set_option maxRecDepth 100000
set_option maxHeartbeats 2000000
namespace Pyl
open PySem L2
section
variable {X : Cx} {cm : Nat → Addr} {e a b c : Expr} {f fa fb fc : EF} {σ : L2.St} {H G : Hp} {env : Sl} {pos : Pos}

theorem op_catS : OpR X (binaryOp .Add) (rCatS X.K) := by
  intro pins s σ H x y v u Q I rx ry h
  obtain ⟨l, b, xs, zs, rfl, rfl, hH, hB, hz, q⟩ := h
  cases rx
  cases ry
  obtain ⟨its, r, ⟨⟨cls, dd, data, sl⟩, n, ho, hc, hd, hdat⟩, z⟩ := I.list hH
  obtain ⟨its2, r2, ⟨⟨cls2, dd2, data2, sl2⟩, n2, ho2, hc2, hd2, hdat2⟩, z2⟩ := I.list hB
  simp only at hc hd hdat hc2 hd2 hdat2
  subst hc hdat hc2 hdat2
  have l1 := r.length
  have l2 := r2.length
  refine PySem.concat_meets ⟨_, ho, rfl⟩ ⟨_, ho2, rfl⟩ PySem.noFill_list_add PySem.seq_list_add PySem.F.slot_list_add PySem.F.entry_list_add (PySem.F.args_list_add_2 _ _) (PyProof.Rows.list_addW l b its.toArray its2.toArray n n2 dd dd2 sl sl2 (by rw [List.size_toArray, List.size_toArray]; omega)) ⟨ho, ho2, ?_⟩
  have ea : its.toArray ++ its2.toArray = (its ++ its2).toArray := by simp
  rw [ea]
  exact ⟨.ref _, _, I.lnew (t' := s.toks) (r.append r2) (by rw [List.length_append]; omega), rfl, q _ I.fresh⟩
theorem p2_add : P2 X cm (binaryOp .Add) pAdd := by
  intro d1 d2 b1 b2 out v1 v2 H G r1 r2 sub hp
  unfold pAdd at hp
  split at hp
  · cases hp
    have e1 := r1.int
    have e2 := r2.int
    subst e1 e2
    exact ⟨_, op_add, fun Q q => ⟨_, _, rfl, rfl, q _ H G (.refl sub) (Den.int _)⟩⟩
  · rename_i as bs
    split at hp
    · rename_i hl
      cases hp
      obtain ⟨l1, vs1, rfl, s1, n1⟩ := r1.lst sub
      obtain ⟨l2, vs2, rfl, s2, n2⟩ := r2.lst sub
      refine ⟨_, op_catS, fun Q q => ⟨l1, l2, vs1, vs2, rfl, rfl, s1, s2, ?_, fun p hp => ?_⟩⟩
      · rw [n1.length, n2.length]
        exact lim_ok hl
      · exact q _ _ _ (.hide sub hp) ⟨p, _, rfl, hp, upd_same, sub.back hp, n1.append n2⟩
    · cases hp
  · rename_i as bs
    split at hp
    · rename_i hl
      cases hp
      obtain ⟨l1, vs1, rfl, s1, g1, n1⟩ := r1.tup sub
      obtain ⟨l2, vs2, rfl, s2, g2, n2⟩ := r2.tup sub
      refine ⟨_, op_catA, fun Q q => ⟨l1, l2, vs1, vs2, rfl, rfl, s1, s2, ?_, fun h0 => ?_, fun h0 h1 => ?_, fun h0 h1 p hp => ?_⟩⟩
      · rw [n1.length, n2.length]
        exact lim_ok hl
      · subst h0
        cases n1
        exact q _ _ _ (.refl sub) (Den.tup g2 n2)
      · subst h1
        cases n2
        exact q _ _ _ (.refl sub) (by rw [List.append_nil]; exact Den.tup g1 n1)
      · have n := sub.back hp
        exact q _ _ _ (.new sub hp) (Den.tup (SqT.of upd_same) ((n1.append n2).mono (.new n)))
    · cases hp
  · rename_i x y
    split at hp
    · rename_i hl
      cases hp
      have e1 := r1.str
      have e2 := r2.str
      subst e1 e2
      exact ⟨_, op_add_str, fun Q q => ⟨_, _, rfl, rfl, lim_ok hl, q _ H G (.refl sub) (Den.str _)⟩⟩
    · cases hp
  · cases hp

/-! comparisons -/
theorem p2_cmp {f : Value → Value → Sem Value} {g : Int → Int → Bool} (ho : OpR X f (rI0 fun i j => .bl (g i j))) : P2 X cm f (pCmp g) := by
  intro d1 d2 b1 b2 out v1 v2 H G r1 r2 sub hp
  unfold pCmp at hp
  split at hp
  · cases hp
    have e1 := r1.int
    have e2 := r2.int
    subst e1 e2
    exact ⟨_, ho, fun Q q => ⟨_, _, rfl, rfl, q _ H G (.refl sub) (Den.bl _)⟩⟩
  · cases hp
theorem p2_lt : P2 X cm (compareOp .Lt) pLt := p2_cmp op_lt
theorem p2_le : P2 X cm (compareOp .LtE) pLe := p2_cmp op_le
theorem p2_gt : P2 X cm (compareOp .Gt) pGt := p2_cmp op_gt
theorem p2_ge : P2 X cm (compareOp .GtE) pGe := p2_cmp op_ge
section
variable {K : PySem.W.Frag}
mutual
theorem Den.dp (s : Exx G H) : ∀ {d : Dt} {v : V} {p : PyData}, Den K cm G v d → d.py = some p → Dp K H v p
  | .non, _, _, h, e => by
    cases h
    unfold Dt.py at e
    cases e
    exact .non
  | .bl b, _, _, h, e => by
    cases h
    unfold Dt.py at e
    cases e
    exact .bl b
  | .int i, _, _, h, e => by
    cases h
    unfold Dt.py at e
    cases e
    exact .int i
  | .str x, _, _, h, e => by
    cases h
    unfold Dt.py at e
    cases e
    exact .str x
  | .lst ds, _, _, h, e => by
    cases h with
    | lst h1 h2 =>
      unfold Dt.py at e
      obtain ⟨ps, e1, e2⟩ := Option.map_eq_some_iff.mp e
      subst e2
      exact .lst (s.sqL h1) (DenL.dp s h2 e1)
  | .tup ds, _, _, h, e => by
    cases h with
    | tup h1 h2 =>
      unfold Dt.py at e
      obtain ⟨ps, e1, e2⟩ := Option.map_eq_some_iff.mp e
      subst e2
      exact .tup (s.sqT h1) (DenL.dp s h2 e1)
  | .obj _ _, _, _, h, e => by
    unfold Dt.py at e
    cases e
theorem DenL.dp (s : Exx G H) : ∀ {ds : List Dt} {vs : List V} {ps : List PyData}, DenL K cm G vs ds → Dt.pyL ds = some ps → DpAll K H vs ps
  | [], _, _, h, e => by
    cases h
    unfold Dt.pyL at e
    cases e
    exact .nil
  | d :: ds, _, _, h, e => by
    cases h with
    | cons h1 h2 =>
      unfold Dt.pyL at e
      obtain ⟨p, e1, e⟩ := Option.bind_eq_some_iff.mp e
      obtain ⟨ps, e2, e⟩ := Option.bind_eq_some_iff.mp e
      cases e
      exact .cons (Den.dp s h1 e1) (DenL.dp s h2 e2)
end
theorem VR.dp {d : Dt} {v : V} {b : Bool} {p : PyData} (s : Exx G H) (h : VR K cm H G v d b) (e : d.py = some p) : Dp K H v p := by
  cases b with
  | false => exact h.den.dp s e
  | true =>
    obtain ⟨l, vs, ds, h1, h2, h3, h4⟩ := h.1 rfl
    subst h1 h2
    unfold Dt.py at e
    obtain ⟨ps, e1, e2⟩ := Option.map_eq_some_iff.mp e
    subst e2
    exact .lst h3 (h4.dp s e1)
end
theorem eqD_some {d1 d2 : Dt} {t : Bool} (h : eqD d1 d2 = some t) : ∃ p q, d1.py = some p ∧ d2.py = some q ∧ SeqAt.shaped p = true ∧ SeqAt.shaped q = true ∧ t = PyData.eqv p q := by
  unfold eqD at h
  obtain ⟨p, e1, h⟩ := Option.bind_eq_some_iff.mp h
  obtain ⟨q, e2, h⟩ := Option.bind_eq_some_iff.mp h
  split at h
  · rename_i hs
    cases h
    rw [Bool.and_eq_true] at hs
    exact ⟨p, q, e1, e2, hs.1, hs.2, rfl⟩
  · cases h
theorem p2_eq (hu : X.A.units + 64 < cLine) : P2 X cm (compareOp .Eq) pEq := by
  intro d1 d2 b1 b2 out v1 v2 H G r1 r2 sub hp
  obtain ⟨t, ht, hp⟩ := Option.map_eq_some_iff.mp hp
  subst hp
  obtain ⟨p, q', e1, e2, s1, s2, rfl⟩ := eqD_some ht
  exact ⟨_, op_eqD hu, fun Q q => ⟨p, q', r1.dp sub e1, r2.dp sub e2, s1, s2, q _ H G (.refl sub) (Den.bl _)⟩⟩
theorem p2_ne (hu : X.A.units + 64 < cLine) : P2 X cm (compareOp .NotEq) pNe := by
  intro d1 d2 b1 b2 out v1 v2 H G r1 r2 sub hp
  obtain ⟨t, ht, hp⟩ := Option.map_eq_some_iff.mp hp
  subst hp
  obtain ⟨p, q', e1, e2, s1, s2, rfl⟩ := eqD_some ht
  exact ⟨_, op_neD hu, fun Q q => ⟨p, q', r1.dp sub e1, r2.dp sub e2, s1, s2, q _ H G (.refl sub) (Den.bl _)⟩⟩
theorem VR.isNon {K : PySem.W.Frag} {d : Dt} {v : V} {t : Bool} (h : VR K cm H G v d t) : decide (v = .non) = d.isNon := by
  cases t with
  | true =>
    obtain ⟨l, vs, ds, h1, h2, h3, h4⟩ := h.1 rfl
    subst h1 h2
    rfl
  | false =>
    have q := h.2 rfl
    cases q <;> rfl
theorem je_isN {j pos'} (ha : JE X cm a fa) : JE X cm (.Compare a [.Is] [.Constant .none j pos'] pos) (e1 pIsN fa) := by
  refine ⟨fun env r σ H G hf rel Q q => ?_⟩
  obtain ⟨ra, h1, hf⟩ := Option.bind_eq_some_iff.mp hf
  cases hf
  refine to_e (pe_cmp (pc_isN pe_w) rfl) (ha.pub h1 rel fun v H1 G1 g1 vr => ?_)
  rw [vr.isNon]
  exact q _ H1 G1 g1 (Den.bl _)
theorem je_notN {j pos'} (ha : JE X cm a fa) : JE X cm (.Compare a [.IsNot] [.Constant .none j pos'] pos) (e1 pNotN fa) := by
  refine ⟨fun env r σ H G hf rel Q q => ?_⟩
  obtain ⟨ra, h1, hf⟩ := Option.bind_eq_some_iff.mp hf
  cases hf
  refine to_e (pe_cmp (pc_notN pe_w) rfl) (ha.pub h1 rel fun v H1 G1 g1 vr => ?_)
  rw [vr.isNon]
  exact q _ H1 G1 g1 (Den.bl _)
theorem je_neg (ha : JE X cm a fa) : JE X cm (.UnaryOp .USub a pos) (e1 pNeg fa) := by
  refine ⟨fun env r σ H G hf rel Q q => ?_⟩
  obtain ⟨ra, h1, hf⟩ := Option.bind_eq_some_iff.mp hf
  refine to_e (pe_un un_neg pe_w) (ha.pub h1 rel fun v H1 G1 g1 vr => ?_)
  unfold pNeg at hf
  split at hf
  · rename_i i hi
    cases hf
    rw [hi] at vr
    have e := vr.int
    subst e
    exact ⟨i, rfl, q _ H1 G1 g1 (Den.int _)⟩
  · cases hf

/-! subscripts -/
theorem atL_of {α : Type} {ds : List α} {i : Int} {d : α} (h : atL ds i = some d) : ∃ j : Nat, ds[j]? = some d ∧ ∀ {β : Type} (vs : List β) (v : β), vs.length = ds.length → vs[j]? = some v → atI vs i = some v := by
  unfold atL at h
  split at h
  · rename_i h0
    have hlt : i.toNat < ds.length := (List.getElem?_eq_some_iff.mp h).1
    refine ⟨i.toNat, h, fun vs v hl hv => ?_⟩
    unfold atI ixN
    rw [if_pos h0, if_pos (by omega)]
    exact hv
  · rename_i h0
    split at h
    · rename_i h1
      refine ⟨(i + ds.length).toNat, h, fun vs v hl hv => ?_⟩
      unfold atI ixN
      rw [if_neg h0, if_pos (by omega), hl]
      exact hv
    · cases h
theorem je_ix (ha : JE X cm a fa) (hb : JE X cm b fb) (hs : PlainIx b := by exact fun _ _ => rfl) : JE X cm (.Subscript a b pos) (e2 pIx fa fb) := by
  refine ⟨fun env r σ H G hf rel Q q => ?_⟩
  obtain ⟨ra, h1, hf⟩ := Option.bind_eq_some_iff.mp hf
  obtain ⟨rb, h2, hf⟩ := Option.bind_eq_some_iff.mp hf
  refine to_e (pe_ix ix_seq pe_w pe_w hs) ?_
  refine ha.pub h1 rel fun v H1 G1 g1 vr => hb.pub h2 (rel.grow g1) fun w H2 G2 g2 wr => ?_
  have vr2 := vr.grow g2
  unfold pIx at hf
  split at hf
  · rename_i ds i e1 e2
    obtain ⟨d, hd, hf⟩ := Option.map_eq_some_iff.mp hf
    subst hf
    rw [e1] at vr2
    rw [e2] at wr
    have e := wr.int
    subst e
    obtain ⟨l, vs, rfl, s1, n1⟩ := vr2.lst g2.sub
    obtain ⟨j, hj, k⟩ := atL_of hd
    obtain ⟨u, hu, du⟩ := n1.get hj
    exact .inl ⟨l, vs, i, u, rfl, rfl, s1, k vs u n1.length hu, q _ H2 G2 (g1.trans g2) du⟩
  · rename_i ds i e1 e2
    obtain ⟨d, hd, hf⟩ := Option.map_eq_some_iff.mp hf
    subst hf
    rw [e1] at vr2
    rw [e2] at wr
    have e := wr.int
    subst e
    obtain ⟨l, vs, rfl, s1, _, n1⟩ := vr2.tup g2.sub
    obtain ⟨j, hj, k⟩ := atL_of hd
    obtain ⟨u, hu, du⟩ := n1.get hj
    exact .inr (.inl ⟨l, vs, i, u, rfl, rfl, s1, k vs u n1.length hu, q _ H2 G2 (g1.trans g2) du⟩)
  · rename_i z i e1 e2
    split at hf
    · rename_i hz
      obtain ⟨d, hd, hf⟩ := Option.map_eq_some_iff.mp hf
      subst hf
      rw [e1] at vr2
      rw [e2] at wr
      have e := wr.int
      have e' := vr2.str
      subst e e'
      obtain ⟨j, hj, k⟩ := atL_of hd
      exact .inr (.inr ⟨z, i, d, rfl, rfl, lim_ok hz, k _ _ rfl hj, q _ H2 G2 (g1.trans g2) (Den.str _)⟩)
    · cases hf
  · cases hf
def JO (X : Cx) (cm : Nat → Addr) (e : Option Expr) (f : OF) : Prop := ∀ (env : Sl) (r : Option Int) (σ : L2.St) (H G : Hp), f env = some r → Rel X.K cm σ H G env → ∀ Q : Option Int → Hp → Prop, (∀ H' G', Grow H G H' G' → Q r H') →
  ∀ pins s, Inv X pins σ H s → wpAny (model X.prog X.w) X.A (evalPart e X.env) (fun u s' => ∃ o H', Inv X pins σ H' s' ∧ IsPart u o ∧ Q o H') X.xe s
theorem jo_none : JO X cm none oNone := fun env r σ H G hf rel Q q pins s I => by
  cases hf
  exact po_none.run pins s σ H Q I (q H G (.refl rel.sub))
theorem jo_some (ha : JE X cm a fa) : JO X cm (some a) (oSome fa) := fun env r σ H G hf rel Q q pins s I => by
  unfold oSome at hf
  split at hf
  · rename_i i h1
    cases hf
    refine (po_some pe_w).run pins s σ H Q I (ha.pub h1 rel fun v H1 G1 g1 vr => ?_)
    have e := vr.int
    subst e
    exact ⟨i, rfl, q H1 G1 g1⟩
  · cases hf
def wpO (X : Cx) (e : Option Expr) : TO := fun σ H Q => ∀ pins s, Inv X pins σ H s → wpAny (model X.prog X.w) X.A (evalPart e X.env) (fun u s' => ∃ o H', Inv X pins σ H' s' ∧ IsPart u o ∧ Q o H') X.xe s
theorem po_w {o : Option Expr} : PO X o (wpO X o) := ⟨fun pins s σ H Q I h => h pins s I⟩
theorem sIx_eq (n d : Nat) (o : Option Int) : HT.sIx n d o = sIx n d o := by
  cases o with
  | none => rfl
  | some v =>
    show (if v < 0 then (v + (n : Int)).toNat else min v.toNat n) = if 0 ≤ v then min v.toNat n else (v + n).toNat
    by_cases h : v < 0
    · rw [if_pos h, if_neg (by omega)]
    · rw [if_neg h, if_pos (by omega)]
theorem DenL.cut {K : PySem.W.Frag} {vs : List V} {ds : List Dt} (h : DenL K cm G vs ds) (lo hi : Option Int) : DenL K cm G (cutV vs lo hi) (cutD ds lo hi) := by
  unfold cutV cutD
  rw [h.length, sIx_eq, sIx_eq]
  exact (h.drop _).take _
theorem cutD_all {ds : List Dt} {lo hi : Option Int} (h : sIx ds.length 0 lo = 0 ∧ sIx ds.length ds.length hi = ds.length) : cutD ds lo hi = ds := by
  unfold cutD
  rw [h.1, h.2, List.drop_zero, Nat.sub_zero, List.take_length]
theorem je_slice {lo hi : Option Expr} {ol oh : OF} {p2 : Pos} (ha : JE X cm a fa) (hl : JO X cm lo ol) (hh : JO X cm hi oh) : JE X cm (.Subscript a (.Slice lo hi none p2) pos) (eSlice fa ol oh) := by
  refine ⟨fun env r σ H G hf rel Q q => ?_⟩
  obtain ⟨ra, h1, hf⟩ := Option.bind_eq_some_iff.mp hf
  obtain ⟨il, h2, hf⟩ := Option.bind_eq_some_iff.mp hf
  obtain ⟨ih, h3, hf⟩ := Option.bind_eq_some_iff.mp hf
  refine to_e (pe_slice (SlR.or sl_list sl_tupA) pe_w po_w po_w) ?_
  refine ha.pub h1 rel fun v H1 G1 g1 vr => hl env il σ H1 G1 h2 (rel.grow g1) _ fun H2 G2 g2 => hh env ih σ H2 G2 h3 ((rel.grow g1).grow g2) _ fun H3 G3 g3 => ?_
  have vr3 := (vr.grow g2).grow g3
  have g := (g1.trans g2).trans g3
  split at hf
  · rename_i ds e1
    cases hf
    rw [e1] at vr3
    obtain ⟨l, vs, rfl, s1, n1⟩ := vr3.lst g3.sub
    refine .inl ⟨l, vs, rfl, s1, fun p hp => ?_⟩
    exact q _ _ _ (g.trans (.hide g3.sub hp)) ⟨p, _, rfl, g.hx.back hp, upd_same, g3.sub.back hp, n1.cut _ _⟩
  · rename_i ds e1
    cases hf
    rw [e1] at vr3
    obtain ⟨l, vs, rfl, s1, t1, n1⟩ := vr3.tup g3.sub
    refine .inr ⟨l, vs, rfl, s1, fun hw => ?_, fun hw p hp => ?_⟩
    · rw [n1.length, sIx_eq, sIx_eq] at hw
      refine q _ _ _ g ?_
      show Den _ _ _ _ _
      rw [cutD_all hw]
      exact .tup t1 n1
    · have n := g3.sub.back hp
      exact q _ _ _ (g.trans (.new g3.sub hp)) (Den.tup (SqT.of upd_same) ((n1.cut _ _).mono (.new n)))
  · cases hf
end
end Pyl
end
section
set_option Elab.async false
set_option linter.all false
set_option maxRecDepth 100000
set_option maxHeartbeats 2000000
namespace Pyl
open PySem L2
section
variable {X : Cx} {cm : Nat → Addr} {e a b c : Expr} {f fa fb fc : EF} {σ : L2.St} {H G : Hp} {env : Sl} {pos p : Pos} {x : Str} {id T : String}

/-! built-in functions of one argument, of two -/
def P1 (X : Cx) (cm : Nat → Addr) (f : Value) (pf : Dt → Option R) : Prop := ∃ r : List V → Hp → VK → Prop, CallR X f r ∧
  ∀ (d : Dt) (b : Bool) (out : R) (v : V) (H G : Hp), VR X.K cm H G v d b → Exx G H → pf d = some out → ∀ Q : VK, (∀ v H' G', Grow H G H' G' → RR X.K cm H H' G' v out → Q v H') → r [v] H Q
theorem je_b1 {pf : Dt → Option R} (ok : P1 X cm (.builtin id) pf) (hg : Gl X x) (hm : X.mg x = none) (hv : bootBuiltins x = some (.builtin id)) (ha : JE X cm a fa) (hn : x ≠ "__name__" := by decide) (hdb : (x == ("__debug__" : Str)) = false := by decide)
    (he : starEach [a] X.env = (false, eval a X.env) :: starEach [] X.env := by rfl) (hpl : (backTo pos (starEach [] X.env)).any (·.1) = false := by rfl) : JE X cm (.Call (.Name x p) [a] [] pos) (e1 pf fa) := by
  refine ⟨fun env r σ H G hf rel Q q => ?_⟩
  obtain ⟨ra, h1, hf⟩ := Option.bind_eq_some_iff.mp hf
  obtain ⟨rr, hc, hr⟩ := ok
  refine to_e (pe_callB hc hg hm hv (pa_cons pe_w pa_nil he) hn hdb he hpl) (ha.pub h1 rel fun v H1 G1 g1 vr => ?_)
  exact hr _ _ _ v H1 G1 vr g1.sub hf Q fun v' H2 G2 g2 rr2 => q v' H2 G2 (g1.trans g2) (rr2.hx g1.hx)
theorem je_ty1 {pf : Dt → Option R} (ok : P1 X cm (.type T) pf) (hg : Gl X x) (hm : X.mg x = none) (hv : bootBuiltins x = some (.type T)) (ha : JE X cm a fa) (hn : x ≠ "__name__" := by decide) (hdb : (x == ("__debug__" : Str)) = false := by decide)
    (he : starEach [a] X.env = (false, eval a X.env) :: starEach [] X.env := by rfl) (hpl : (backTo pos (starEach [] X.env)).any (·.1) = false := by rfl) : JE X cm (.Call (.Name x p) [a] [] pos) (e1 pf fa) := by
  refine ⟨fun env r σ H G hf rel Q q => ?_⟩
  obtain ⟨ra, h1, hf⟩ := Option.bind_eq_some_iff.mp hf
  obtain ⟨rr, hc, hr⟩ := ok
  refine to_e (pe_callTy hc hg hm hv (pa_cons pe_w pa_nil he) hn hdb he hpl) (ha.pub h1 rel fun v H1 G1 g1 vr => ?_)
  exact hr _ _ _ v H1 G1 vr g1.sub hf Q fun v' H2 G2 g2 rr2 => q v' H2 G2 (g1.trans g2) (rr2.hx g1.hx)
def P2c (X : Cx) (cm : Nat → Addr) (f : Value) (pf : Dt → Dt → Option R) : Prop := ∃ r : List V → Hp → VK → Prop, CallR X f r ∧
  ∀ (d d2 : Dt) (b b2 : Bool) (out : R) (v v2 : V) (H G : Hp), VR X.K cm H G v d b → VR X.K cm H G v2 d2 b2 → Exx G H → pf d d2 = some out → ∀ Q : VK, (∀ v H' G', Grow H G H' G' → RR X.K cm H H' G' v out → Q v H') → r [v, v2] H Q
theorem je_b2 {pf : Dt → Dt → Option R} (ok : P2c X cm (.builtin id) pf) (hg : Gl X x) (hm : X.mg x = none) (hv : bootBuiltins x = some (.builtin id)) (ha : JE X cm a fa) (hb : JE X cm b fb) (hn : x ≠ "__name__" := by decide) (hdb : (x == ("__debug__" : Str)) = false := by decide)
    (h0 : starEach [b] X.env = (false, eval b X.env) :: starEach [] X.env := by rfl) (he : starEach [a, b] X.env = (false, eval a X.env) :: starEach [b] X.env := by rfl) (hpl : (backTo pos (starEach [b] X.env)).any (·.1) = false := by rfl) : JE X cm (.Call (.Name x p) [a, b] [] pos) (e2 pf fa fb) := by
  refine ⟨fun env r σ H G hf rel Q q => ?_⟩
  obtain ⟨ra, h1, hf⟩ := Option.bind_eq_some_iff.mp hf
  obtain ⟨rb, h2, hf⟩ := Option.bind_eq_some_iff.mp hf
  obtain ⟨rr, hc, hr⟩ := ok
  refine to_e (pe_callB hc hg hm hv (pa_cons pe_w (pa_cons pe_w pa_nil h0) he) hn hdb he hpl) (ha.pub h1 rel fun v H1 G1 g1 vr => hb.pub h2 (rel.grow g1) fun w H2 G2 g2 wr => ?_)
  exact hr _ _ _ _ _ v w H2 G2 (vr.grow g2) wr g2.sub hf Q fun v' H3 G3 g3 rr3 => q v' H3 G3 ((g1.trans g2).trans g3) (rr3.hx (g1.trans g2).hx)

theorem p1_len : P1 X cm (.builtin "len") pLen := ⟨_, call_len, fun d b out v H G vr sub hp Q q => by
  unfold pLen at hp
  split at hp
  · cases hp
    obtain ⟨l, vs, rfl, s1, n1⟩ := vr.lst sub
    exact ⟨_, vs.length, rfl, .inl ⟨vs, s1, rfl⟩, by rw [n1.length]; exact q _ _ _ (.refl sub) (Den.int _)⟩
  · cases hp
    obtain ⟨l, vs, rfl, s1, _, n1⟩ := vr.tup sub
    exact ⟨_, vs.length, rfl, .inr ⟨vs, s1, rfl⟩, by rw [n1.length]; exact q _ _ _ (.refl sub) (Den.int _)⟩
  · cases hp⟩
theorem p1_int : P1 X cm (.type "int") pInt := ⟨_, call_int1, fun d b out v H G vr sub hp Q q => by
  unfold pInt at hp
  split at hp
  · cases hp
    have e := vr.int
    subst e
    exact .inl ⟨_, rfl, q _ _ _ (.refl sub) (Den.int _)⟩
  · cases hp
    have e := vr.bl
    subst e
    exact .inr ⟨_, rfl, q _ _ _ (.refl sub) (Den.int _)⟩
  · cases hp⟩
theorem p1_abs : P1 X cm (.builtin "abs") pAbs := ⟨_, call_abs, fun d b out v H G vr sub hp Q q => by
  unfold pAbs at hp
  split at hp
  · cases hp
    have e := vr.int
    subst e
    exact ⟨_, rfl, q _ _ _ (.refl sub) (Den.int _)⟩
  · cases hp⟩
theorem DenL.ints {K : PySem.W.Frag} : ∀ {ds : List Dt} {vs : List V} {ns : List Int}, DenL K cm G vs ds → intsOf ds = some ns → vs = ns.map V.int
  | [], _, _, h, e => by
    cases h
    unfold intsOf at e
    cases e
    rfl
  | .int i :: ds, _, _, h, e => by
    cases h with
    | cons h1 h2 =>
      unfold intsOf at e
      obtain ⟨ms, e1, e2⟩ := Option.map_eq_some_iff.mp e
      subst e2
      cases h1
      rw [List.map_cons, DenL.ints h2 e1]
  | .non :: _, _, _, _, e => by simp [intsOf] at e
  | .bl _ :: _, _, _, _, e => by simp [intsOf] at e
  | .str _ :: _, _, _, _, e => by simp [intsOf] at e
  | .lst _ :: _, _, _, _, e => by simp [intsOf] at e
  | .tup _ :: _, _, _, _, e => by simp [intsOf] at e
  | .obj _ _ :: _, _, _, _, e => by simp [intsOf] at e
theorem p1_sum (hc : X.calm = true) : P1 X cm (.builtin "sum") pSum := ⟨_, cr_sum hc, fun d b out v H G vr sub hp Q q => by
  unfold pSum at hp
  split at hp
  · obtain ⟨ns, h1, hp⟩ := Option.map_eq_some_iff.mp hp
    subst hp
    obtain ⟨l, vs, rfl, s1, n1⟩ := vr.lst sub
    have e := n1.ints h1
    subst e
    exact ⟨l, ns, rfl, s1, q _ _ _ (.refl sub) (Den.int _)⟩
  · cases hp⟩
theorem p2c_max (hc : X.calm = true) : P2c X cm (.builtin "max") pMax2 := ⟨_, call_max2 hc, fun d d2 b b2 out v v2 H G vr vr2 sub hp Q q => by
  unfold pMax2 at hp
  split at hp
  · cases hp
    have e := vr.int
    have e2 := vr2.int
    subst e e2
    exact ⟨_, _, rfl, q _ _ _ (.refl sub) (Den.int _)⟩
  · cases hp⟩
theorem p2c_min (hc : X.calm = true) : P2c X cm (.builtin "min") pMin2 := ⟨_, call_min2 hc, fun d d2 b b2 out v v2 H G vr vr2 sub hp Q q => by
  unfold pMin2 at hp
  split at hp
  · cases hp
    have e := vr.int
    have e2 := vr2.int
    subst e e2
    exact ⟨_, _, rfl, q _ _ _ (.refl sub) (Den.int _)⟩
  · cases hp⟩
theorem p1_list : P1 X cm (.type "list") pList := ⟨_, call_list_of, fun d b out v H G vr sub hp Q q => by
  unfold pList at hp
  split at hp
  · cases hp
    obtain ⟨l, vs, rfl, s1, n1⟩ := vr.lst sub
    exact ⟨l, vs, rfl, .inl s1, fun m hm => q _ _ _ (.hide sub hm) ⟨m, _, rfl, hm, upd_same, sub.back hm, n1⟩⟩
  · cases hp
    obtain ⟨l, vs, rfl, s1, _, n1⟩ := vr.tup sub
    exact ⟨l, vs, rfl, .inr s1, fun m hm => q _ _ _ (.hide sub hm) ⟨m, _, rfl, hm, upd_same, sub.back hm, n1⟩⟩
  · cases hp⟩
theorem p1_tuple : P1 X cm (.type "tuple") pTuple := ⟨_, call_tuple_of, fun d b out v H G vr sub hp Q q => by
  unfold pTuple at hp
  split at hp
  · cases hp
    obtain ⟨l, vs, rfl, s1, n1⟩ := vr.lst sub
    exact ⟨l, vs, rfl, .inl ⟨s1, fun m hm => q _ _ _ (.new sub hm) (Den.tup (SqT.of upd_same) (n1.mono (.new (sub.back hm))))⟩⟩
  · cases hp
    obtain ⟨l, vs, rfl, s1, t1, n1⟩ := vr.tup sub
    exact ⟨l, vs, rfl, .inr ⟨s1, q _ _ _ (.refl sub) (Den.tup t1 n1)⟩⟩
  · cases hp⟩

/-! isinstance(x, T) -/
theorem TyX.sqL {K : PySem.W.Frag} {l : Addr} {vs : List V} (h : SqL K H l vs) : TyX K H (.ref l) (.type "list") := by
  rcases h with (h | ⟨o, h⟩) | ⟨o, its, n, hk, hc, _⟩
  · exact .base (.lst h)
  · exact .base (.frz h)
  · exact .kList hk hc
theorem TyX.sqT {K : PySem.W.Frag} {l : Addr} {vs : List V} (h : SqT K H l vs) : TyX K H (.ref l) (.type "tuple") := by
  rcases h with (h | ⟨o, h⟩) | ⟨o, its, n, hk, hc, _⟩
  · exact .base (.tup h)
  · exact .fTuple h
  · exact .kTuple hk hc
theorem VR.tyX {K : PySem.W.Frag} {d : Dt} {v : V} {b : Bool} {t : String} (sub : Exx G H) (h : VR K cm H G v d b) (e : d.ty = some t) : TyX K H v (.type t) := by
  cases d with
  | non => cases e; have q := h.non; subst q; exact .base .non
  | bl x => cases e; have q := h.bl; subst q; exact .base (.bl x)
  | int i => cases e; have q := h.int; subst q; exact .base (.int i)
  | str z => cases e; have q := h.str; subst q; exact .base (.str z)
  | lst ds =>
    cases e
    obtain ⟨l, vs, rfl, s1, n1⟩ := h.lst sub
    exact TyX.sqL s1
  | tup ds =>
    cases e
    obtain ⟨l, vs, rfl, s1, _, n1⟩ := h.tup sub
    exact TyX.sqT s1
  | obj c fs => cases e
theorem je_isi {p2 : Pos} (hk : ∀ t ∈ (["NoneType", "bool", "int", "str", "list", "tuple"] : List String), kitB t T = some (t == T || (t == "bool" && T == "int"))) (hg : Gl X "isinstance") (hm : X.mg "isinstance" = none) (hg2 : Gl X x) (hm2 : X.mg x = none)
    (hv2 : bootBuiltins x = some (.type T)) (ha : JE X cm a fa) (hn2 : x ≠ "__name__" := by decide) (hd2 : (x == ("__debug__" : Str)) = false := by decide)
    (h0 : starEach [.Name x p2] X.env = (false, eval (.Name x p2) X.env) :: starEach [] X.env := by rfl) (he : starEach [a, .Name x p2] X.env = (false, eval a X.env) :: starEach [.Name x p2] X.env := by rfl)
    (hpl : (backTo pos (starEach [.Name x p2] X.env)).any (·.1) = false := by rfl) : JE X cm (.Call (.Name "isinstance" p) [a, .Name x p2] [] pos) (e1 (pIsi T) fa) := by
  refine ⟨fun env r σ H G hf rel Q q => ?_⟩
  obtain ⟨ra, h1, hf⟩ := Option.bind_eq_some_iff.mp hf
  obtain ⟨t, ht, hf⟩ := Option.map_eq_some_iff.mp hf
  subst hf
  obtain ⟨ty, hty, ht⟩ := Option.map_eq_some_iff.mp ht
  subst ht
  refine to_e (pe_callB call_isi hg hm (by decide +kernel) (pa_cons pe_w (pa_cons (pe_bltn (v := .ty T) hg2 hm2 hv2 rfl hn2 hd2) pa_nil h0) he) (by decide) (by decide) he hpl) (ha.pub h1 rel fun v H1 G1 g1 vr => ?_)
  refine ⟨v, .ty T, .type ty, .type T, _, rfl, .ty T, vr.tyX g1.sub hty, kit_ty (hk ty ?_), q _ _ _ g1 (Den.bl _)⟩
  generalize ra.dt = d at hty
  cases d <;> cases hty <;> simp

/-! calls -/
theorem VRs.denH {K : PySem.W.Frag} (sub : Exx G H) : ∀ {vs : List V} {rs : List (Dt × Bool)}, VRs K cm H G vs rs → DenL K cm H vs (rs.map (·.1))
  | _, _, .nil => .nil
  | _, _, .cons (b := b) (d := d) h t => by
    refine .cons ?_ (VRs.denH sub t)
    cases b with
    | false => exact h.den.mono sub
    | true =>
      obtain ⟨l, vs, ds, h1, h2, h3, h4⟩ := h.1 rfl
      subst h1 h2
      exact .lst h3 (h4.mono sub)
/-- the promise of a def that keeps F -/
def spP (K : PySem.W.Frag) (cm : Nat → Addr) (F : FN) : Sp := fun vs H Q _ => ∃ (G : Hp) (ds : List Dt) (r : Dt), Exx G H ∧ DenL K cm G vs ds ∧ F ds = some r ∧ ∀ v H' G', Grow H G H' G' → Den K cm G' v r → Q v H'
/-- a def of the module that keeps F -/
structure FnC (P : Program) (w : World) (K : PySem.W.Frag) (mg : Str → Option Value) (base : Heap) (cm : Nat → Addr) (k : Nat) (x : Str) (F : FN) : Prop where
  ex : ∃ (f : Addr) (fd : FuncData) (ps : List Str), FnOk P w K mg base CX0 k f fd ps (spP K cm F) ∧ mg x = some (.ref f) ∧ PySem.W.keepIn K (.ref f) = true ∧ Binds K fd ps []
theorem Dt.scalar_den {K : PySem.W.Frag} {v : V} {d : Dt} {G' : Hp} (h : Den K cm G v d) (s : d.scalar = true) : Den K cm G' v d := by
  cases h <;> first | exact Den.non | exact Den.bl _ | exact Den.int _ | exact Den.str _ | cases s
theorem je_call {es : List Expr} {ft : AF} {F : FN} {k : Nat} (C : FnC X.prog X.w X.K X.mg X.base cm k x F) (hr : Room k X.A) (hg : Gl X x) (ha : JA X cm (e :: es) ft) (hdb : (x == ("__debug__" : Str)) = false := by decide)
    (he : starEach (e :: es) X.env = (false, eval e X.env) :: starEach es X.env := by rfl) (hpl : (backTo pos (starEach es X.env)).any (·.1) = false := by rfl) : JE X cm (.Call (.Name x p) (e :: es) [] pos) (eCall F ft) := by
  refine ⟨fun env r σ H G hf rel Q q => ?_⟩
  obtain ⟨rs, h1, hf⟩ := Option.bind_eq_some_iff.mp hf
  obtain ⟨d, h2, hf⟩ := Option.bind_eq_some_iff.mp hf
  obtain ⟨f, fd, ps, hF, hm, hk, hb⟩ := C.ex
  refine to_e (pe_call hF hr hg hm hk hb .nil pass0 pa_w hdb he hpl) (ha.run env rs σ H G h1 rel _ fun vs H1 G1 g1 vrs => ?_)
  show spP X.K cm F (vs ++ []) H1 Q E0
  rw [List.append_nil]
  by_cases hs : rs.any (·.2) = true
  · split at hf
    · cases hf
    · rename_i hn
      cases hf
      have sc : d.scalar = true := by
        cases hd : d.scalar with
        | true => rfl
        | false => exact absurd (by rw [hs, hd]; rfl) hn
      refine ⟨H1, _, d, .refl _, vrs.denH g1.sub, h2, fun v H' G' g hden => ?_⟩
      exact q v H' G1 (g1.trans ⟨g.hx, .refl _, fun _ _ _ n => n, g1.sub.trans g.hx⟩) (Dt.scalar_den hden sc)
  · have hs' : rs.any (·.2) = false := by simpa using hs
    split at hf
    · rename_i hn
      rw [hs'] at hn
      cases hn
    · cases hf
      exact ⟨G1, _, d, g1.sub, vrs.plain hs', h2, fun v H' G' g hden => q v H' G' (g1.trans g) hden⟩

/-! and, or, not; if .. else -/
theorem je_one {op} (h : JE X cm a fa) : JE X cm (.BoolOp op [a] pos) fa := ⟨fun env r σ H G hf rel Q q => to_e (pe_one pe_w) (h.run env r σ H G hf rel Q q)⟩
theorem je_and {rest : List Expr} (ha : JE X cm a fa) (hb : JE X cm (.BoolOp .And (b :: rest) pos) fb) : JE X cm (.BoolOp .And (a :: b :: rest) pos) (eAnd fa fb) := by
  refine ⟨fun env r σ H G hf rel Q q => ?_⟩
  refine to_e (pe_and pe_w pe_w) ?_
  unfold eAnd at hf
  split at hf
  · rename_i h1
    refine ha.run env _ σ H G h1 rel _ fun v H1 G1 g1 vr => ?_
    cases (show Den _ _ _ _ _ from vr)
    exact ⟨true, rfl, iteT (hb.run env r σ H1 G1 hf (rel.grow g1) Q fun v' H2 G2 g2 r2 => q v' H2 G2 (g1.trans g2) (r2.hx g1.hx))⟩
  · rename_i h1
    cases hf
    refine ha.run env _ σ H G h1 rel _ fun v H1 G1 g1 vr => ?_
    cases (show Den _ _ _ _ _ from vr)
    exact ⟨false, rfl, iteF (q _ H1 G1 g1 (Den.bl _))⟩
  · cases hf
theorem je_or {rest : List Expr} (ha : JE X cm a fa) (hb : JE X cm (.BoolOp .Or (b :: rest) pos) fb) : JE X cm (.BoolOp .Or (a :: b :: rest) pos) (eOr fa fb) := by
  refine ⟨fun env r σ H G hf rel Q q => ?_⟩
  refine to_e (pe_or pe_w pe_w) ?_
  unfold eOr at hf
  split at hf
  · rename_i h1
    cases hf
    refine ha.run env _ σ H G h1 rel _ fun v H1 G1 g1 vr => ?_
    cases (show Den _ _ _ _ _ from vr)
    exact ⟨true, rfl, iteT (q _ H1 G1 g1 (Den.bl _))⟩
  · rename_i h1
    refine ha.run env _ σ H G h1 rel _ fun v H1 G1 g1 vr => ?_
    cases (show Den _ _ _ _ _ from vr)
    exact ⟨false, rfl, iteF (hb.run env r σ H1 G1 hf (rel.grow g1) Q fun v' H2 G2 g2 r2 => q v' H2 G2 (g1.trans g2) (r2.hx g1.hx))⟩
  · cases hf
theorem je_not (ha : JE X cm a fa) : JE X cm (.UnaryOp .Not a pos) (eNot fa) := by
  refine ⟨fun env r σ H G hf rel Q q => ?_⟩
  refine to_e (pe_not pe_w) ?_
  unfold eNot at hf
  split at hf
  · rename_i b h1
    cases hf
    refine ha.run env _ σ H G h1 rel _ fun v H1 G1 g1 vr => ?_
    cases (show Den _ _ _ _ _ from vr)
    exact ⟨b, rfl, q _ H1 G1 g1 (Den.bl _)⟩
  · cases hf
/-! tests -/
structure JW (X : Cx) (cm : Nat → Addr) (e : Expr) (f : TF) : Prop where
  run : ∀ (env : Sl) (b : Bool) (σ : L2.St) (H G : Hp), f env = some b → Rel X.K cm σ H G env → ∀ Q : Bool → Hp → Prop, (∀ H' G', Grow H G H' G' → Q b H') →
    ∀ (whole : Sem Value) pins s, Inv X pins σ H s → wpAny (model X.prog X.w) X.A (isTrue e X.env whole) (TP X pins σ Q) X.xe s
variable {ta tb : TF}
theorem JW.t (h : JW X cm e ta) : JT X cm e ta := ⟨fun env b σ H G hf rel Q q pins s I => h.run env b σ H G hf rel Q q _ pins s I⟩
theorem jt_val (h : JE X cm e f) (he : ∀ whole, isTrue e X.env whole = (do let v ← whole; standAt e.pos; holding [v] (truthy v)) := by intro _; rfl) : JT X cm e (tVal f) := by
  refine ⟨fun env r σ H G hf rel Q q => ?_⟩
  refine to_t (pt_val pe_w he) ?_
  unfold tVal at hf
  split at hf
  · rename_i b h1
    cases hf
    refine h.run env _ σ H G h1 rel _ fun v H1 G1 g1 vr => ?_
    cases (show Den _ _ _ _ _ from vr)
    exact ⟨_, rfl, q H1 G1 g1⟩
  · cases hf
theorem jt_cmp {op : CmpOp} {pf : Dt → Dt → Option R} (ok : P2 X cm (compareOp op) pf) (ha : JE X cm a fa) (hb : JE X cm b fb) (hm : behindInMarks op b = false := by first | exact nobehind _ (by decide) (by decide) | rfl) : JT X cm (.Compare a [op] [b] pos) (tVal (e2 pf fa fb)) := by
  refine ⟨fun env r σ H G hf rel Q q pins s I => ?_⟩
  unfold tVal at hf
  split at hf
  · rename_i b' h1
    cases hf
    refine wpAny_isTrue_Compare1 (thn (run2 (Q := fun v H' => ∃ k, v = .bl k ∧ Q k H') ok ha hb h1 rel (fun v H' G' g vr => ?_) I) fun v s1 h1 => thn h1 fun u s2 h2 => thn h2 fun c s3 ⟨x, H1, I1, r1, q1⟩ => ?_) hm
    · cases (show Den _ _ _ _ _ from vr)
      exact ⟨_, rfl, q H' G' g⟩
    · obtain ⟨d, rfl, q⟩ := q1
      cases r1
      exact wpAny_truthy_bool ⟨H1, I1, q⟩
  · cases hf
theorem jt_isN {j pos'} (ha : JE X cm a fa) : JT X cm (.Compare a [.Is] [.Constant .none j pos'] pos) (tVal (e1 pIsN fa)) := by
  refine ⟨fun env r σ H G hf rel Q q => ?_⟩
  unfold tVal at hf
  split at hf
  · rename_i b' h1
    cases hf
    obtain ⟨ra, h2, h3⟩ := Option.bind_eq_some_iff.mp h1
    refine to_t (pt_cmp (pc_isN pe_w) rfl) (ha.pub h2 rel fun v H1 G1 g1 vr => ⟨_, rfl, ?_⟩)
    rw [vr.isNon]
    cases h3
    exact q _ _ g1
  · cases hf
theorem jt_notN {j pos'} (ha : JE X cm a fa) : JT X cm (.Compare a [.IsNot] [.Constant .none j pos'] pos) (tVal (e1 pNotN fa)) := by
  refine ⟨fun env r σ H G hf rel Q q => ?_⟩
  unfold tVal at hf
  split at hf
  · rename_i b' h1
    cases hf
    obtain ⟨ra, h2, h3⟩ := Option.bind_eq_some_iff.mp h1
    refine to_t (pt_cmp (pc_notN pe_w) rfl) (ha.pub h2 rel fun v H1 G1 g1 vr => ⟨_, rfl, ?_⟩)
    rw [vr.isNon]
    cases h3
    exact q _ _ g1
  · cases hf
theorem jw_and1 (ha : JT X cm a ta) : JW X cm (.BoolOp .And [a] pos) ta := ⟨fun env r σ H G hf rel Q q wh pins s I => (pw_and1 pt_w).run wh pins s σ H Q I (ha.run env r σ H G hf rel Q q)⟩
theorem jw_or1 (ha : JT X cm a ta) : JW X cm (.BoolOp .Or [a] pos) ta := ⟨fun env r σ H G hf rel Q q wh pins s I => (pw_or1 pt_w).run wh pins s σ H Q I (ha.run env r σ H G hf rel Q q)⟩
def wpW (X : Cx) (e : Expr) : TT := fun σ H Q => ∀ (whole : Sem Value) pins s, Inv X pins σ H s → wpAny (model X.prog X.w) X.A (isTrue e X.env whole) (TP X pins σ Q) X.xe s
theorem pw_w {e : Expr} : PW X e (wpW X e) := ⟨fun wh pins s σ H Q I h => h wh pins s I⟩
theorem jw_and {rest : List Expr} (ha : JT X cm a ta) (hb : JW X cm (.BoolOp .And (b :: rest) pos) tb) : JW X cm (.BoolOp .And (a :: b :: rest) pos) (tAnd ta tb) := by
  refine ⟨fun env r σ H G hf rel Q q wh pins s I => ?_⟩
  obtain ⟨t, h1, hf⟩ := Option.bind_eq_some_iff.mp hf
  refine (pw_and pt_w pw_w).run wh pins s σ H Q I (ha.run env t σ H G h1 rel _ fun H1 G1 g1 => ?_)
  cases t with
  | true => exact iteT (hb.run env r σ H1 G1 hf (rel.grow g1) Q fun H2 G2 g2 => q H2 G2 (g1.trans g2))
  | false =>
    cases hf
    exact iteF (q H1 G1 g1)
theorem jw_or {rest : List Expr} (ha : JT X cm a ta) (hb : JW X cm (.BoolOp .Or (b :: rest) pos) tb) : JW X cm (.BoolOp .Or (a :: b :: rest) pos) (tOr ta tb) := by
  refine ⟨fun env r σ H G hf rel Q q wh pins s I => ?_⟩
  obtain ⟨t, h1, hf⟩ := Option.bind_eq_some_iff.mp hf
  refine (pw_or pt_w pw_w).run wh pins s σ H Q I (ha.run env t σ H G h1 rel _ fun H1 G1 g1 => ?_)
  cases t with
  | true =>
    cases hf
    exact iteT (q H1 G1 g1)
  | false => exact iteF (hb.run env r σ H1 G1 hf (rel.grow g1) Q fun H2 G2 g2 => q H2 G2 (g1.trans g2))
theorem jt_not (ha : JT X cm a ta) : JT X cm (.UnaryOp .Not a pos) (tNot ta) := by
  refine ⟨fun env r σ H G hf rel Q q => ?_⟩
  obtain ⟨t, h1, hf⟩ := Option.bind_eq_some_iff.mp hf
  cases hf
  exact to_t (pt_not pt_w) (ha.run env t σ H G h1 rel _ fun H1 G1 g1 => q H1 G1 g1)
theorem je_if (hc : JT X cm c ta) (ha : JE X cm a fa) (hb : JE X cm b fb) : JE X cm (.IfExp c a b pos) (eIf ta fa fb) := by
  refine ⟨fun env r σ H G hf rel Q q => ?_⟩
  obtain ⟨t, h1, hf⟩ := Option.bind_eq_some_iff.mp hf
  refine to_e (pe_ifExp pt_w pe_w pe_w) (hc.run env t σ H G h1 rel _ fun H1 G1 g1 => ?_)
  cases t with
  | true => exact iteT (ha.run env r σ H1 G1 hf (rel.grow g1) Q fun v H2 G2 g2 r2 => q v H2 G2 (g1.trans g2) (r2.hx g1.hx))
  | false => exact iteF (hb.run env r σ H1 G1 hf (rel.grow g1) Q fun v H2 G2 g2 r2 => q v H2 G2 (g1.trans g2) (r2.hx g1.hx))
end
end Pyl
end
section
set_option Elab.async false
set_option linter.all false
set_option maxRecDepth 100000
set_option maxHeartbeats 2000000
namespace Pyl
open PySem L2

/-! ### what is walked -/
/-- the heaps at a turn, behind the making of the iterator at H0, G0; b: what is walked is borrowed -/
structure StK (H0 G0 : Hp) (b : Bool) (H G : Hp) : Prop where
  sub : Exx G H
  gx : Exx G0 G
  hx : b = true → Exx H0 H
structure ItOk (K : PySem.W.Frag) (cm : Nat → Addr) (J : It) (ds : List Dt) (b : Bool) (H0 G0 : Hp) : Prop where
  go : ∀ (i : Nat) (H G : Hp), StK H0 G0 b H G → i < ds.length → J.go i H
  yl : ∀ (i : Nat) (H G : Hp) (v : V) (H' : Hp), StK H0 G0 b H G → i < ds.length → J.yld i H v H' → ∃ (G' : Hp) (d : Dt), ds[i]? = some d ∧ Grow H G H' G' ∧ Den K cm G' v d
  stop : ∀ (i : Nat) (H G : Hp), StK H0 G0 b H G → ds.length ≤ i → J.stop i H
structure JI (X : Cx) (cm : Nat → Addr) (tg iter : Expr) (f : IF) : Prop where
  run : ∀ (env : Sl) (ds : List Dt) (b : Bool) (σ : L2.St) (H G : Hp), f env = some (ds, b) → Rel X.K cm σ H G env → ∀ Q : It → Hp → Prop, (∀ J H' G', Grow H G H' G' → ItOk X.K cm J ds b H' G' → Q J H') → wpI X tg iter σ H Q
section
variable {X : Cx} {cm : Nat → Addr} {e a b c tg iter : Expr} {f fa fb fc : EF} {σ : L2.St} {H G : Hp} {env : Sl} {pos p : Pos}
theorem itl_ok {K : PySem.W.Frag} {l : Addr} {vs : List V} {ds : List Dt} {t : Bool} {H0 G0 : Hp} (h : ∀ H G, StK H0 G0 t H G → SqL K H l vs) (n : DenL K cm G0 vs ds) : ItOk K cm (Itl K l) ds t H0 G0 where
  go := fun i H G s hi => by
    have hi' : i < vs.length := by rw [n.length]; exact hi
    exact ⟨vs, vs[i], h H G s, List.getElem?_eq_getElem hi'⟩
  yl := fun i H G v H' s hi y => by
    obtain ⟨rfl, y⟩ := y
    obtain ⟨d, hd, dn⟩ := n.get' (y vs (h _ _ s))
    exact ⟨G, d, hd, .refl s.sub, dn.mono s.gx⟩
  stop := fun i H G s hi => ⟨vs, h H G s, by rw [n.length]; exact hi⟩
theorem itt_ok {K : PySem.W.Frag} {l : Addr} {vs : List V} {ds : List Dt} {t : Bool} {H0 G0 : Hp} (h : SqT K G0 l vs) (n : DenL K cm G0 vs ds) : ItOk K cm (Itt K l) ds t H0 G0 where
  go := fun i H G s hi => by
    have hi' : i < vs.length := by rw [n.length]; exact hi
    exact ⟨vs, vs[i], s.sub.sqT (s.gx.sqT h), List.getElem?_eq_getElem hi'⟩
  yl := fun i H G v H' s hi y => by
    obtain ⟨rfl, y⟩ := y
    obtain ⟨d, hd, dn⟩ := n.get' (y vs (s.sub.sqT (s.gx.sqT h)))
    exact ⟨G, d, hd, .refl s.sub, dn.mono s.gx⟩
  stop := fun i H G s hi => ⟨vs, s.sub.sqT (s.gx.sqT h), by rw [n.length]; exact hi⟩
theorem rngD_get {lo : Int} {n i : Nat} (h : i < n) : (rngD lo n)[i]? = some (.int (lo + (i : Int))) := by
  unfold rngD
  rw [List.getElem?_map, List.getElem?_range h]
  rfl
theorem rngD_length (lo : Int) (n : Nat) : (rngD lo n).length = n := by
  unfold rngD
  rw [List.length_map, List.length_range]
theorem itr_ok {K : PySem.W.Frag} {lo : Int} {n : Nat} {t : Bool} {H0 G0 : Hp} : ItOk K cm (Itr lo n) (rngD lo n) t H0 G0 where
  go := fun i H G s hi => by
    rw [rngD_length] at hi
    exact hi
  yl := fun i H G v H' s hi y => by
    obtain ⟨rfl, rfl⟩ := y
    rw [rngD_length] at hi
    exact ⟨G, _, rngD_get hi, .refl s.sub, .int _⟩
  stop := fun i H G s hi => by
    rw [rngD_length] at hi
    exact hi
theorem ji_seq (ha : JE X cm iter fa) : JI X cm tg iter (iSeq fa) := by
  refine ⟨fun env ds t σ H G hf rel Q q => ?_⟩
  obtain ⟨ra, h1, hf⟩ := Option.bind_eq_some_iff.mp hf
  split at hf
  · rename_i ds' e1
    cases hf
    refine to_i (pi_list pe_w) (ha.pub h1 rel fun v H1 G1 g1 vr => ?_)
    rw [e1] at vr
    cases hsh : ra.sh with
    | false =>
      rw [hsh] at vr
      cases vr.den with
      | lst s1 n1 => exact ⟨_, rfl, ⟨_, g1.sub.sqL s1⟩, q _ H1 G1 g1 (by rw [hsh]; exact itl_ok (fun H G s => s.sub.sqL (s.gx.sqL s1)) n1)⟩
    | true =>
      rw [hsh] at vr
      obtain ⟨l, vs, ds'', h1, h2, h3, h4⟩ := vr.1 rfl
      subst h1
      cases h2
      exact ⟨_, rfl, ⟨_, h3⟩, q _ H1 G1 g1 (by rw [hsh]; exact itl_ok (fun H G s => (s.hx rfl).sqL h3) h4)⟩
  · rename_i ds' e1
    cases hf
    refine to_i (pi_tup pe_w) (ha.pub h1 rel fun v H1 G1 g1 vr => ?_)
    rw [e1] at vr
    obtain ⟨l, vs, rfl, s1, t1, n1⟩ := vr.tup g1.sub
    exact ⟨_, rfl, ⟨_, s1⟩, q _ H1 G1 g1 (itt_ok t1 n1)⟩
  · cases hf
theorem ji_range1 (hg : Gl X "range") (hm : X.mg "range" = none) (ha : JE X cm a fa) (hs : starEach [a] X.env = [(false, eval a X.env)] := by rfl) (he : starEach [a] X.env = (false, eval a X.env) :: starEach [] X.env := by rfl) :
    JI X cm tg (.Call (.Name "range" p) [a] [] pos) (iRange1 fa) := by
  refine ⟨fun env ds t σ H G hf rel Q q => ?_⟩
  unfold iRange1 at hf
  split at hf
  · rename_i n h1
    split at hf
    · rename_i hn
      cases hf
      refine to_i (pi_range1 hg hm (pa_cons pe_w pa_nil he) hs) (ha.run env _ σ H G h1 rel _ fun v H1 G1 g1 vr => ?_)
      cases (show Den _ _ _ _ _ from vr)
      exact ⟨n, rfl, by omega, by omega, q _ H1 G1 g1 itr_ok⟩
    · cases hf
  · cases hf
theorem ji_range2 (hg : Gl X "range") (hm : X.mg "range" = none) (ha : JE X cm a fa) (hb : JE X cm b fb) (hs : starEach [a, b] X.env = [(false, eval a X.env), (false, eval b X.env)] := by rfl) (hs2 : starEach [b] X.env = [(false, eval b X.env)] := by rfl)
    (he : starEach [a, b] X.env = (false, eval a X.env) :: starEach [b] X.env := by rfl) (he2 : starEach [b] X.env = (false, eval b X.env) :: starEach [] X.env := by rfl) : JI X cm tg (.Call (.Name "range" p) [a, b] [] pos) (iRange2 fa fb) := by
  refine ⟨fun env ds t σ H G hf rel Q q => ?_⟩
  obtain ⟨ra, h1, hf⟩ := Option.bind_eq_some_iff.mp hf
  obtain ⟨rb, h2, hf⟩ := Option.bind_eq_some_iff.mp hf
  split at hf
  · rename_i lo hi e1 e2
    split at hf
    · rename_i hn
      cases hf
      refine to_i (pi_range2 hg hm (pa_cons pe_w (pa_cons pe_w pa_nil he2) he) hs hs2) (ha.pub h1 rel fun v H1 G1 g1 vr => hb.pub h2 (rel.grow g1) fun w H2 G2 g2 wr => ?_)
      rw [e1] at vr
      rw [e2] at wr
      have ev := vr.int
      have ew := wr.int
      subst ev ew
      exact ⟨lo, hi, rfl, ⟨by omega, by omega, by omega, by omega⟩, q _ H2 G2 (g1.trans g2) itr_ok⟩
    · cases hf
  · cases hf

/-! ### targets -/
structure JG (X : Cx) (cm : Nat → Addr) (tg : Expr) (is : List Nat) (g : GF) : Prop where
  run : ∀ (env env' : Sl) (d : Dt) (v : V) (σ : L2.St) (H G : Hp), g d env = some env' → Rel X.K cm σ H G env → Den X.K cm G v d → ∀ Q : L2.St → Hp → Prop,
    (∀ σ', Rel X.K cm σ' H G env' → Fr σ env H G σ' env' H G → (∀ j : Nat, j ∉ is → σ'[j]? = σ[j]?) → σ'.length = σ.length → Q σ' H) → wpG X tg v σ H Q
theorem get_set {α : Type} {l : List α} {i j : Nat} {x y : α} (h : (l.set i x)[j]? = some y) : (i = j ∧ y = x ∧ j < l.length) ∨ (i ≠ j ∧ l[j]? = some y) := by
  by_cases e : i = j
  · subst e
    have hl : i < (l.set i x).length := (List.getElem?_eq_some_iff.mp h).1
    rw [List.length_set] at hl
    rw [List.getElem?_set_self hl] at h
    exact .inl ⟨rfl, (Option.some.inj h).symm, hl⟩
  · rw [List.getElem?_set_ne e] at h
    exact .inr ⟨e, h⟩
/-- a name gets data -/
theorem Rel.setVal {K : PySem.W.Frag} {i : Nat} {v : V} {d : Dt} (r : Rel K cm σ H G env) (h : Den K cm G v d) : Rel K cm (σ.set i (some v)) H G (env.set i (.val d)) where
  len := by rw [List.length_set, List.length_set, r.len]
  sub := r.sub
  val := fun j d' hj => by
    rcases get_set hj with ⟨rfl, e, hl⟩ | ⟨ne, hj⟩
    · cases e
      exact ⟨v, List.getElem?_set_self (by rw [r.len]; exact hl), h⟩
    · obtain ⟨w, h1, h2⟩ := r.val j d' hj
      exact ⟨w, by rw [List.getElem?_set_ne ne]; exact h1, h2⟩
  own := fun j od hj => by
    rcases get_set hj with ⟨rfl, e, hl⟩ | ⟨ne, hj⟩
    · cases e
    · obtain ⟨l, o, h1, h2, h3, h4⟩ := r.own j od hj
      exact ⟨l, o, by rw [List.getElem?_set_ne ne]; exact h1, h2, h3, h4⟩
  dist := fun j k od od' a hj hk ej ek => by
    rcases get_set hj with ⟨rfl, e, hl⟩ | ⟨ne, hj⟩
    · cases e
    · rcases get_set hk with ⟨rfl, e, hl⟩ | ⟨ne', hk⟩
      · cases e
      · rw [List.getElem?_set_ne ne] at ej
        rw [List.getElem?_set_ne ne'] at ek
        exact r.dist j k od od' a hj hk ej ek
theorem Fr.setVal {i : Nat} {v : V} {d : Dt} (s : Exx G H) : Fr σ env H G (σ.set i (some v)) (env.set i (.val d)) H G where
  gx := .refl _
  hid := fun _ _ _ n _ => n
  keep := fun _ _ h _ => h
  there := fun a o h => ⟨o, h⟩
  sub := s
  fresh := fun a o h n => by
    rintro ⟨j, od, hj, ej⟩
    rcases get_set hj with ⟨rfl, e, hl⟩ | ⟨ne, hj⟩
    · cases e
    · rw [List.getElem?_set_ne ne] at ej
      exact n ⟨j, od, hj, ej⟩
  take := fun j hj => by
    rcases get_set hj with ⟨rfl, e, hl⟩ | ⟨ne, hj⟩
    · cases e
    · exact ⟨hj, List.getElem?_set_ne ne⟩
theorem jg_name {x : Str} (i : Nat) (hN : X.N.Nodup) (hi : X.N[i]? = some x := by rfl) (hx : Loc X.env.scope x := by first | exact Or.inl rfl | exact Or.inr rfl) (hf : X.fn x = true ∨ X.env.scope.names.lookup x = some .local := by first | exact .inl rfl | exact .inr rfl | assumption) : JG X cm (.Name x pos) [i] (gN i) := by
  refine ⟨fun env env' d v σ H G hg rel hd Q q pins s u I r => ?_⟩
  cases hg
  refine (pg_name hN hi hx hf).run pins s σ H v u _ I r ?_
  exact q _ (rel.setVal hd) (.setVal rel.sub) (fun j hj => List.getElem?_set_ne (fun e => hj (by rw [e]; exact List.mem_singleton.mpr rfl))) (List.length_set ..)
end
/-- several names -/
structure JGs (X : Cx) (cm : Nat → Addr) (tgs : List Expr) (is : List Nat) : Prop where
  run : ∀ (env env' : Sl) (ds : List Dt) (vs : List V) (σ : L2.St) (H G : Hp), gsN is ds env = some env' → Rel X.K cm σ H G env → DenL X.K cm G vs ds → ∀ Q : L2.St → Hp → Prop,
    (∀ σ', Rel X.K cm σ' H G env' → Fr σ env H G σ' env' H G → (∀ j : Nat, j ∉ is → σ'[j]? = σ[j]?) → σ'.length = σ.length → Q σ' H) →
    ∀ pins s us, Inv X pins σ H s → Vals vs us → wpAny (model X.prog X.w) X.A (assignInOrder ((assignEach tgs X.env).map (·.2)) us) (fun _ s' => ∃ σ' H', Inv X pins σ' H' s' ∧ Q σ' H') X.xe s
def wpGs (X : Cx) (tgs : List Expr) : TGs := fun vs σ H Q => ∀ pins s us, Inv X pins σ H s → Vals vs us → wpAny (model X.prog X.w) X.A (assignInOrder ((assignEach tgs X.env).map (·.2)) us) (fun _ s' => ∃ σ' H', Inv X pins σ' H' s' ∧ Q σ' H') X.xe s
theorem pgs_w {X : Cx} {tgs : List Expr} : PGs X tgs (wpGs X tgs) := ⟨fun pins s σ H vs us Q I r h => h pins s us I r⟩
section
variable {X : Cx} {cm : Nat → Addr} {pos : Pos}
theorem jgs_nil : JGs X cm [] [] := ⟨fun env env' ds vs σ H G hg rel hd Q q pins s us I r => by
  cases ds with
  | nil =>
    cases hg
    cases hd
    exact pgs_nil.run pins s σ H _ us Q I r ⟨rfl, q σ rel (.refl rel.sub) (fun _ _ => rfl) rfl⟩
  | cons d ds => cases hg⟩
theorem jgs_cons {x : Str} {tgs : List Expr} {is : List Nat} (i : Nat) (hN : X.N.Nodup) (hr : JGs X cm tgs is) (hi : X.N[i]? = some x := by rfl) (hx : Loc X.env.scope x := by first | exact Or.inl rfl | exact Or.inr rfl)
    (hf : X.fn x = true ∨ X.env.scope.names.lookup x = some .local := by first | exact .inl rfl | exact .inr rfl | assumption)
    (hs : (assignEach (.Name x pos :: tgs) X.env).map (·.2) = assign (.Name x pos) X.env :: (assignEach tgs X.env).map (·.2) := by rfl) : JGs X cm (.Name x pos :: tgs) (i :: is) := by
  refine ⟨fun env env' ds vs σ H G hg rel hd Q q pins s us I r => ?_⟩
  cases ds with
  | nil => cases hg
  | cons d ds =>
    cases hd with
    | cons d1 dr =>
      refine (pgs_cons (pg_name hN hi hx hf) pgs_w hs).run pins s σ H _ us Q I r ⟨_, _, rfl, ?_⟩
      refine hr.run _ _ ds _ _ H G hg (rel.setVal d1) dr Q fun σ' rel' fr' same len => ?_
      refine q σ' rel' ((Fr.setVal rel.sub).trans fr') (fun j hj => ?_) (by rw [len, List.length_set])
      have h1 : j ≠ i := fun e => hj (by rw [e]; exact List.mem_cons_self)
      have h2 : j ∉ is := fun e => hj (List.mem_cons_of_mem _ e)
      rw [same j h2, List.getElem?_set_ne h1.symm]
theorem gsN_len : ∀ {is : List Nat} {ds : List Dt} {env env' : Sl}, gsN is ds env = some env' → ds.length = is.length
  | [], [], _, _, _ => rfl
  | i :: is, d :: ds, _, _, h => by
    have h' : gsN is ds _ = _ := h
    rw [List.length_cons, List.length_cons, gsN_len h']
  | [], _ :: _, _, _, h => by cases h
  | _ :: _, [], _, _, h => by cases h
/-- (a, b, ..) = a list of that length -/
def gLst (K : PySem.W.Frag) (n : Nat) (t : TGs) : TG := fun v σ H Q => ∃ a xs, v = .ref a ∧ SqL K H a xs ∧ xs.length = n ∧ t xs σ H Q
theorem pg_lst {es : List Expr} {k : Nat} {t : TGs} {n : Nat} (hc : X.calm = true) (h : PGs X es t) (hn : (assignEach es X.env).length = n) (hst : (assignEach es X.env).findIdx? (·.1) = none) : PG X (.Tuple es k pos) (gLst X.K n t) := by
  refine ⟨fun pins s σ H v u Q I r hw => ?_⟩
  obtain ⟨a, xs, rfl, hq, hl, hw⟩ := hw
  cases r
  obtain ⟨its, rv, p, _⟩ := I.list hq
  have e : (assignEach es X.env).length = its.toArray.size := by rw [hn, ← hl, rv.length, List.size_toArray]
  rw [PyProof.Rows.assign_Tuple]
  refine wpAny_bind (wpAny_standAt ?_)
  unfold PySem.unpack
  rw [e, hst]
  refine wpAny_bind (wpAny_holding (PySem.W.kun_itemsOf (I.ok.hd hc) p.isList fun g up => ?_))
  have I1 : Inv X pins σ H { s with heap := g } := I.kept (t' := s.toks) fun b o z => up b o (Nat.ne_of_lt (Heap.lt_size z)) z
  exact h.run pins _ σ H xs _ Q I1 (by simpa using rv) hw
theorem jg_tup {es : List Expr} {k : Nat} {is : List Nat} (hc : X.calm = true) (h : JGs X cm es is) (hn : (assignEach es X.env).length = is.length := by rfl) (hst : (assignEach es X.env).findIdx? (·.1) = none := by rfl) : JG X cm (.Tuple es k pos) is (gT is) := by
  refine ⟨fun env env' d v σ H G hg rel hd Q q pins s u I r => ?_⟩
  unfold gT at hg
  split at hg
  · rename_i ds
    cases hd with
    | tup h1 h2 =>
      refine (pg_tup hc pgs_w hn hst).run pins s σ H _ u Q I r ⟨_, _, rfl, rel.sub.sqT h1, ?_, ?_⟩
      · rw [h2.length, gsN_len hg]
      · exact h.run env env' ds _ σ H G hg rel h2 Q q
  · rename_i ds
    cases hd with
    | lst h1 h2 =>
      refine (pg_lst hc pgs_w hn hst).run pins s σ H _ u Q I r ⟨_, _, rfl, rel.sub.sqL h1, ?_, ?_⟩
      · rw [h2.length, gsN_len hg]
      · exact h.run env env' ds _ σ H G hg rel h2 Q q
  · cases hg
end
end Pyl
end
section
set_option Elab.async false
set_option linter.all false
set_option maxRecDepth 100000
set_option maxHeartbeats 4000000
/-! zip of two sequences, each a list (kind true) or a tuple (kind false) -/
namespace Pyl
open PySem L2
/-- a sequence of the kind k at an address; its iterator -/
def KSeq (k : Bool) (h : Heap) (l : Addr) (its : Array Value) : Prop := match k with
  | true => h.IsList l its
  | false => h.IsTuple l its
def KIt (k : Bool) (h : Heap) (p l : Addr) (n : Nat) : Prop := match k with
  | true => h.IsListIter p l n
  | false => h.IsTupleIter p l n
def itName (k : Bool) : String := bif k then "list_iterator" else "tuple_iterator"
def itObj (k : Bool) (l : Addr) : Obj := { cls := .type (itName k), data := .fields #[.ref l, .int 0 0] }
theorem KSeq.ex {k : Bool} {h : Heap} {l : Addr} {its : Array Value} (q : KSeq k h l its) : ∃ o, h.get? l = some o ∧ ∀ h2 : Heap, h2.get? l = some o → KSeq k h2 l its := by
  cases k <;> (obtain ⟨o, e, r⟩ := q; exact ⟨o, e, fun h2 e2 => ⟨o, e2, r⟩⟩)
theorem KIt.ex {k : Bool} {h : Heap} {p l : Addr} {n : Nat} (q : KIt k h p l n) : ∃ o, h.get? p = some o ∧ (∀ v, o.data ≠ .cell v) ∧ ∀ h2 : Heap, h2.get? p = some o → KIt k h2 p l n := by
  cases k <;> (obtain ⟨o, e, c, d⟩ := q; exact ⟨o, e, fun v z => (by rw [d] at z; cases z), fun h2 e2 => ⟨o, e2, c, d⟩⟩)
theorem KSeq.to {k : Bool} {h h2 : Heap} {l : Addr} {its : Array Value} (q : KSeq k h l its) (e : ∀ o, h.get? l = some o → h2.get? l = some o) : KSeq k h2 l its := by
  obtain ⟨o, e1, f⟩ := q.ex
  exact f h2 (e o e1)
theorem KIt.to {k : Bool} {h h2 : Heap} {p l : Addr} {n : Nat} (q : KIt k h p l n) (e : ∀ o, h.get? p = some o → h2.get? p = some o) : KIt k h2 p l n := by
  obtain ⟨o, e1, _, f⟩ := q.ex
  exact f h2 (e o e1)
theorem KSeq.lt {k : Bool} {h : Heap} {l : Addr} {its : Array Value} (q : KSeq k h l its) : l < h.objs.size := by
  obtain ⟨o, e, _⟩ := q.ex
  exact Heap.lt_size e
theorem KIt.lt {k : Bool} {h : Heap} {p l : Addr} {n : Nat} (q : KIt k h p l n) : p < h.objs.size := by
  obtain ⟨o, e, _⟩ := q.ex
  exact Heap.lt_size e
section
variable {pg : Program} {wd : World} {ar : Around} {B : Value → Shared → Prop} {t : Shared}
theorem k_next {k : Bool} {p l : Addr} {n : Nat} {its : Array Value} {u : Value} {R : Value → Shared → Prop} (hp : KIt k t.heap p l n) (hl : KSeq k t.heap l its) (hu : its[n]? = some u)
    (hR : ∀ g, KIt k g p l (n + 1) → Heap.SameBut p t.heap g → R u { t with heap := g }) : wpAny (model pg wd) ar (Builtin.SmallTypes.nextOf (.ref p)) R B t := by
  cases k
  · exact RZ.nextOf_tuple_item hp hl hu hR
  · exact wpAny_nextOf_list_item hp hl hu hR
theorem k_last {k : Bool} {p l : Addr} {n : Nat} {its : Array Value} {R : Value → Shared → Prop} (hd : ar.handled = none) (hp : KIt k t.heap p l n) (hl : KSeq k t.heap l its) (hu : its[n]? = none)
    (hB : ∀ g e, Heap.ExtBut p t.heap g → (∃ o, g.get? e = some o ∧ o.cls = .type "StopIteration") → B (.ref e) { t with heap := g }) : wpAny (model pg wd) ar (Builtin.SmallTypes.nextOf (.ref p)) R B t := by
  cases k
  · exact RZ.nextOf_tuple_end hd hp hl hu hB
  · exact wpAny_nextOf_list_end hd hp hl hu hB
theorem k_iter {k : Bool} {l : Addr} {its : Array Value} {R : Value → Shared → Prop} (hl : KSeq k t.heap l its) (hR : R (.ref t.heap.objs.size) { t with heap := t.heap.push (itObj k l) }) : wpAny (model pg wd) ar (pyIter (.ref l)) R B t := by
  cases k
  · exact wpAny_pyIter_tuple hl hR
  · exact wpAny_pyIter_list hl hR

variable {c d : Bool} {q QI QO p1 p2 m1 m2 : Addr} {n : Nat} {us ws : Array Value} {u v f g : Value}
/-- what of a zip's turn stays the same -/
structure ZSt (c d : Bool) (h : Heap) (q QI QO p1 p2 m1 m2 : Addr) (n : Nat) (f : Value) : Prop where
  z : IsZip h q QI QO f
  i : IsPair h QI (.ref p1) (.ref p2)
  o : ∃ a b, IsPair h QO a b
  a : KIt c h p1 m1 n
  b : KIt d h p2 m2 n
theorem k_turn {R : Value → Shared → Prop} (D : ZipApart q QI QO p1 p2 m1 m2) (S : ZSt c d t.heap q QI QO p1 p2 m1 m2 n .none) (hu : KSeq c t.heap m1 us) (hw : KSeq d t.heap m2 ws) (eu : us[n]? = some u) (ew : ws[n]? = some v)
    (hR : ∀ g, ZSt c d g q QI QO p1 p2 m1 m2 (n + 1) (rawInt t.heap.objs.size) → IsPair g t.heap.objs.size u v →
      (∀ a o, a ≠ q → a ≠ QO → a ≠ p1 → a ≠ p2 → t.heap.get? a = some o → g.get? a = some o) → R (.ref t.heap.objs.size) { t with heap := g }) :
    wpAny (model pg wd) ar (Builtin.«zip.__next__» ⟨[.ref q], []⟩) (fun fin t2 => ∃ x, fin = .done (.ret x) ∧ R x t2) B t := by
  obtain ⟨gz, gi, ⟨f, g, go⟩, g1, g2⟩ := S
  show wpAny _ _ (field (.ref q) 2 >>= _) _ _ _
  refine wpAny_bind <| wpAny_field gz rfl (x := .bool false) rfl ?_
  show wpAny _ _ (field (.ref q) 3 >>= _) _ _ _
  refine wpAny_bind <| wpAny_field gz rfl (x := .ref QI) rfl (wpAny_bind (wpAny_seqItems gi rfl ?_))
  show wpAny _ _ (Builtin.SmallTypes.ownedTupleIsFree (.ref q) >>= _) _ _ _
  refine wpAny_bind ?_
  unfold Builtin.SmallTypes.ownedTupleIsFree
  refine wpAny_bind <| wpAny_field gz rfl (x := .none) rfl (wpAny_pure ?_)
  simp only [if_true]
  refine wpAny_bind <| wpAny_rule <| wpAny_bind <| wpAny_field gz rfl (x := .ref QO) rfl ?_
  refine wpAny_bind <| wpAny_setField_rec gz (by simp) fun x1 gz1 e1 => ?_
  replace gz1 : IsZip x1 q QI QO .ellipsis := gz1
  refine wpAny_bind ?_
  simp only [List.zipIdx_cons, List.forIn_cons, List.zipIdx_nil, List.forIn_nil]
  refine wpAny_bind <| wpAny_bind <| wpAny_onRaise ?_
  show wpAny _ _ (Builtin.SmallTypes.nextOf (.ref p1) >>= _) _ _ _
  refine wpAny_bind <| k_next (g1.to fun _ => e1.extBut _ _ D.i1z) (hu.to fun _ => e1.extBut _ _ D.l1z) eu fun x2 g12 e2 => wpAny_pure ?_
  have go2 : IsPair x2 QO f g := e2.extBut _ _ D.TOi1 (e1.extBut _ _ D.TOz go)
  refine wpAny_bind <| wpAny_seqItems go2 rfl <| wpAny_bind <| wpAny_updateSeq_pair go2 fun x3 go3 e3 => ?_
  replace go3 : IsPair x3 QO u g := go3
  refine wpAny_bind <| wpAny_letGo <| wpAny_pure ?_
  refine wpAny_bind <| wpAny_bind <| wpAny_onRaise ?_
  show wpAny _ _ (Builtin.SmallTypes.nextOf (.ref p2) >>= _) _ _ _
  refine wpAny_bind <| k_next (g2.to fun _ z => e3.extBut _ _ D.TOi2.symm (e2.extBut _ _ D.i12.symm (e1.extBut _ _ D.i2z z))) (hw.to fun _ z => e3.extBut _ _ D.l2TO (e2.extBut _ _ D.l2i1 (e1.extBut _ _ D.l2z z))) ew fun x4 g24 e4 => wpAny_pure ?_
  have go4 : IsPair x4 QO u g := e4.extBut _ _ D.TOi2 go3
  refine wpAny_bind <| wpAny_seqItems go4 rfl <| wpAny_bind <| wpAny_updateSeq_pair go4 fun x5 go5 e5 => ?_
  replace go5 : IsPair x5 QO u v := go5
  refine wpAny_bind <| wpAny_letGo <| wpAny_pure <| wpAny_pure ?_
  refine wpAny_bind <| wpAny_seqItems go5 rfl <| wpAny_bind <| wpAny_newTuple ?_
  have ez : x5.objs.size = t.heap.objs.size := by rw [e5.1, e4.1, e3.1, e2.1, e1.1]
  have gz5 : IsZip x5 q QI QO .ellipsis := e5.extBut _ _ D.TOz.symm (e4.extBut _ _ D.i2z.symm (e3.extBut _ _ D.TOz.symm (e2.extBut _ _ D.i1z.symm gz1)))
  have up5 : ∀ a o, a ≠ q → a ≠ QO → a ≠ p1 → a ≠ p2 → t.heap.get? a = some o → x5.get? a = some o := fun a o n1 n2 n3 n4 z =>
    e5.extBut _ _ n2 (e4.extBut _ _ n4 (e3.extBut _ _ n2 (e2.extBut _ _ n3 (e1.extBut _ _ n1 z))))
  have g15 : KIt c x5 p1 m1 (n + 1) := g12.to fun _ z => e5.extBut _ _ D.TOi1.symm (e4.extBut _ _ D.i12 (e3.extBut _ _ D.TOi1.symm z))
  have g25 : KIt d x5 p2 m2 (n + 1) := g24.to fun _ z => e5.extBut _ _ D.TOi2.symm z
  have lq : q < x5.objs.size := Heap.lt_size gz5
  show wpAny _ _ (Builtin.SmallTypes.ownedTupleHandOut (.ref q) (.ref x5.objs.size) >>= _) _ _ _
  refine wpAny_bind (by
    unfold Builtin.SmallTypes.ownedTupleHandOut
    have gz6 : IsZip (x5.push { cls := .type "tuple", data := .seq #[u, v] }) q QI QO .ellipsis := Heap.get?_push_of_some _ gz5
    refine wpAny_bind <| wpAny_setField_rec gz6 (by simp) fun x7 gz7 e7 => ?_
    replace gz7 : IsZip x7 q QI QO (rawInt x5.objs.size) := gz7
    refine wpAny_setField_rec gz7 (by simp) fun x8 gz8 e8 => ?_
    replace gz8 : IsZip x8 q QI QO (rawInt x5.objs.size) := gz8
    have up : ∀ a o, a ≠ q → x5.get? a = some o → x8.get? a = some o := fun a o n1 z => e8.extBut _ _ n1 (e7.extBut _ _ n1 (Heap.get?_push_of_some _ z))
    have gT : IsPair x8 x5.objs.size u v := e8.extBut _ _ (Nat.ne_of_gt lq) (e7.extBut _ _ (Nat.ne_of_gt lq) (Heap.get?_push_size _ rfl))
    rw [ez] at gz8 gT
    refine wpAny_pure ⟨_, rfl, ?_⟩
    show R (.ref x5.objs.size) _
    rw [ez]
    exact hR x8 ⟨gz8, up _ _ D.TIz (up5 _ _ D.TIz D.TITO D.TIi1 D.TIi2 gi), ⟨_, _, up _ _ D.TOz go5⟩, g15.to fun _ => up _ _ D.i1z, g25.to fun _ => up _ _ D.i2z⟩ gT fun a o n1 n2 n3 n4 z => up a o n1 (up5 a o n1 n2 n3 n4 z))
theorem k_stop {R : PySem.Fin → Shared → Prop} (hd : ar.handled = none) (D : ZipApart q QI QO p1 p2 m1 m2) (S : ZSt c d t.heap q QI QO p1 p2 m1 m2 n .none) (hu : KSeq c t.heap m1 us) (hw : KSeq d t.heap m2 ws) (en : us[n]? = none ∨ ws[n]? = none)
    (hB : ∀ g e, (∀ a o, a ≠ q → a ≠ QO → a ≠ p1 → a ≠ p2 → t.heap.get? a = some o → g.get? a = some o) → (∃ o, g.get? e = some o ∧ o.cls = .type "StopIteration") → B (.ref e) { t with heap := g }) :
    wpAny (model pg wd) ar (Builtin.«zip.__next__» ⟨[.ref q], []⟩) R B t := by
  obtain ⟨gz, gi, ⟨f, g, go⟩, g1, g2⟩ := S
  show wpAny _ _ (field (.ref q) 2 >>= _) _ _ _
  refine wpAny_bind <| wpAny_field gz rfl (x := .bool false) rfl ?_
  show wpAny _ _ (field (.ref q) 3 >>= _) _ _ _
  refine wpAny_bind <| wpAny_field gz rfl (x := .ref QI) rfl (wpAny_bind (wpAny_seqItems gi rfl ?_))
  show wpAny _ _ (Builtin.SmallTypes.ownedTupleIsFree (.ref q) >>= _) _ _ _
  refine wpAny_bind ?_
  unfold Builtin.SmallTypes.ownedTupleIsFree
  refine wpAny_bind <| wpAny_field gz rfl (x := .none) rfl (wpAny_pure ?_)
  simp only [if_true]
  refine wpAny_bind <| wpAny_rule <| wpAny_bind <| wpAny_field gz rfl (x := .ref QO) rfl ?_
  refine wpAny_bind <| wpAny_setField_rec gz (by simp) fun x1 gz1 e1 => ?_
  replace gz1 : IsZip x1 q QI QO .ellipsis := gz1
  refine wpAny_bind ?_
  simp only [List.zipIdx_cons, List.forIn_cons, List.zipIdx_nil, List.forIn_nil]
  refine wpAny_bind <| wpAny_bind <| wpAny_onRaise ?_
  show wpAny _ _ (Builtin.SmallTypes.nextOf (.ref p1) >>= _) _ _ _
  have fin : ∀ (y : Heap) (e : Addr), IsZip y q QI QO .ellipsis → (∃ o, y.get? e = some o ∧ o.cls = .type "StopIteration") → (∀ a o, a ≠ q → a ≠ QO → a ≠ p1 → a ≠ p2 → t.heap.get? a = some o → y.get? a = some o) →
      wpAny (model pg wd) ar (setField (.ref q) 0 .none) (fun _ => B (.ref e)) B { t with heap := y } := fun y e zy he k => by
    obtain ⟨oe, w1, w2⟩ := he
    have ne : e ≠ q := fun x => by subst x; rw [zy] at w1; cases w1; simp at w2
    exact wpAny_setField_rec zy (by simp) fun y2 _ ey => hB y2 e (fun a o n1 n2 n3 n4 x => ey.extBut _ _ n1 (k a o n1 n2 n3 n4 x)) ⟨oe, ey.extBut _ _ ne w1, w2⟩
  cases eu : us[n]? with
  | none =>
    refine wpAny_bind <| k_last hd (g1.to fun _ => e1.extBut _ _ D.i1z) (hu.to fun _ => e1.extBut _ _ D.l1z) eu fun x2 e e2 he => ?_
    exact fin x2 e (e2 _ _ D.i1z.symm gz1) he fun a o n1 _ n3 _ x => e2 _ _ n3 (e1.extBut _ _ n1 x)
  | some u =>
    have ew : ws[n]? = none := by
      rcases en with z | z
      · rw [eu] at z; cases z
      · exact z
    refine wpAny_bind <| k_next (g1.to fun _ => e1.extBut _ _ D.i1z) (hu.to fun _ => e1.extBut _ _ D.l1z) eu fun x2 g12 e2 => wpAny_pure ?_
    have go2 : IsPair x2 QO f g := e2.extBut _ _ D.TOi1 (e1.extBut _ _ D.TOz go)
    refine wpAny_bind <| wpAny_seqItems go2 rfl <| wpAny_bind <| wpAny_updateSeq_pair go2 fun x3 go3 e3 => ?_
    refine wpAny_bind <| wpAny_letGo <| wpAny_pure ?_
    refine wpAny_bind <| wpAny_bind <| wpAny_onRaise ?_
    show wpAny _ _ (Builtin.SmallTypes.nextOf (.ref p2) >>= _) _ _ _
    refine wpAny_bind <| k_last hd (g2.to fun _ z => e3.extBut _ _ D.TOi2.symm (e2.extBut _ _ D.i12.symm (e1.extBut _ _ D.i2z z))) (hw.to fun _ z => e3.extBut _ _ D.l2TO (e2.extBut _ _ D.l2i1 (e1.extBut _ _ D.l2z z))) ew fun x4 e e4 he => ?_
    exact fin x4 e (e4 _ _ D.i2z.symm (e3.extBut _ _ D.TOz.symm (e2.extBut _ _ D.i1z.symm gz1))) he fun a o n1 n2 n3 n4 x => e4 _ _ n4 (e3.extBut _ _ n2 (e2.extBut _ _ n3 (e1.extBut _ _ n1 x)))
theorem k_pyNext {R : Option Value → Shared → Prop} (D : ZipApart q QI QO p1 p2 m1 m2) (S : ZSt c d t.heap q QI QO p1 p2 m1 m2 n .none) (hu : KSeq c t.heap m1 us) (hw : KSeq d t.heap m2 ws) (eu : us[n]? = some u) (ew : ws[n]? = some v)
    (hR : ∀ g, ZSt c d g q QI QO p1 p2 m1 m2 (n + 1) (rawInt t.heap.objs.size) → IsPair g t.heap.objs.size u v →
      (∀ a o, a ≠ q → a ≠ QO → a ≠ p1 → a ≠ p2 → t.heap.get? a = some o → g.get? a = some o) → R (some (.ref t.heap.objs.size)) { t with heap := g }) :
    wpAny (model pg wd) ar (pyNext (.ref q)) R B t := by
  have ty : t.TypeIs (.ref q) "zip" := ⟨_, S.z, rfl⟩
  unfold pyNext
  refine wpAny_bind <| wpAny_attempt <| wpAny_callSpecial?_slot (name := Str.ofString "__next__") ty F.slot_zip_next ?_
  exact wpAny_call_entry F.slot_zip_next ty F.entry_zip_next (k_turn D S hu hw eu ew fun g s1 s2 s3 => wpAny_pure (hR g s1 s2 s3)) (F.args_zip_next_1 _)
theorem k_pyStop {R : Option Value → Shared → Prop} (hd : ar.handled = none) (D : ZipApart q QI QO p1 p2 m1 m2) (S : ZSt c d t.heap q QI QO p1 p2 m1 m2 n .none) (hu : KSeq c t.heap m1 us) (hw : KSeq d t.heap m2 ws) (en : us[n]? = none ∨ ws[n]? = none)
    (hR : ∀ g, (∀ a o, a ≠ q → a ≠ QO → a ≠ p1 → a ≠ p2 → t.heap.get? a = some o → g.get? a = some o) → R none { t with heap := g }) : wpAny (model pg wd) ar (pyNext (.ref q)) R B t := by
  have ty : t.TypeIs (.ref q) "zip" := ⟨_, S.z, rfl⟩
  unfold pyNext
  refine wpAny_bind <| wpAny_attempt <| wpAny_callSpecial?_slot (name := Str.ofString "__next__") ty F.slot_zip_next ?_
  refine wpAny_call_entry F.slot_zip_next ty F.entry_zip_next (k_stop hd D S hu hw en fun g e k he => ?_) (F.args_zip_next_1 _)
  obtain ⟨o, e1, e2⟩ := he
  exact wpAny_bind <| wpAny_isInstance (T := "StopIteration") (b := true) ⟨o, e1, e2⟩ isSubtype_stop <| wpAny_pure (hR _ k)
end
/-! the making -/
abbrev zA (c : Bool) (h : Heap) (m1 : Addr) : Heap := h.push (itObj c m1)
abbrev zB (c d : Bool) (h : Heap) (m1 m2 : Addr) : Heap := (zA c h m1).push (itObj d m2)
abbrev zC (c d : Bool) (h : Heap) (m1 m2 : Addr) : Heap := (zB c d h m1 m2).push { cls := .type "tuple", data := .seq #[.ref h.objs.size, .ref (zA c h m1).objs.size] }
abbrev zD (c d : Bool) (h : Heap) (m1 m2 : Addr) : Heap := (zC c d h m1 m2).push { cls := .type "tuple", data := .seq #[.none, .none] }
abbrev zE (c d : Bool) (h : Heap) (m1 m2 : Addr) : Heap := (zD c d h m1 m2).push { cls := .type "zip", data := .fields #[.none, .bool false, .bool false, .ref (zB c d h m1 m2).objs.size, .ref (zC c d h m1 m2).objs.size] }
theorem k_made (c d : Bool) (m1 m2 : Addr) (us ws : Array Value) : Meets (Builtin.«zip.__new__» ⟨[.type "zip", .ref m1, .ref m2], []⟩)
    (fun _ R t => KSeq c t.heap m1 us ∧ KSeq d t.heap m2 ws ∧ R (.ok (.ret (.ref (zD c d t.heap m1 m2).objs.size))) { t with heap := zE c d t.heap m1 m2 }) :=
  .of_wp fun pg wd ar R t z => by
    obtain ⟨hp, g, dd, tk, os⟩ := t
    obtain ⟨z1, z2, z⟩ := z
    have hsub := sub_zip
    have q1 : KSeq c (Shared.heap ⟨hp, g, dd, tk, os⟩) m1 us := z1
    have q2 : KSeq d (Shared.heap ⟨hp.push (itObj c m1), g, dd, tk, os⟩) m2 ws := z2.to fun o e => Heap.get?_push_of_some _ e
    wp_walk using k_iter q1, k_iter q2
    exact ⟨_, rfl, z⟩
theorem itObj_it (k : Bool) {h : Heap} {p l : Addr} (e : h.get? p = some (itObj k l)) : KIt k h p l 0 := by
  cases k <;> exact ⟨_, e, rfl, rfl⟩
section
variable {pg : Program} {wd : World} {ar : Around} {B : Value → Shared → Prop} {t : Shared} {c d : Bool} {us ws : Array Value} {m1 m2 : Addr}
theorem k_zip {R : Value → Shared → Prop} (hu : KSeq c t.heap m1 us) (hw : KSeq d t.heap m2 ws)
    (hR : ∀ g, ZSt c d g (t.heap.objs.size + 4) (t.heap.objs.size + 2) (t.heap.objs.size + 3) t.heap.objs.size (t.heap.objs.size + 1) m1 m2 0 .none →
      (∀ a o, t.heap.get? a = some o → g.get? a = some o) → R (.ref (t.heap.objs.size + 4)) { t with heap := g }) :
    wpAny (model pg wd) ar (call (.type "zip") [.ref m1, .ref m2]) R B t := by
  refine callType_new F.called_zip (by decide) (F.typeCall_zip_2 _ _) (F.newCall_zip_2 _ _) (fun ob => F.args_object_init_3 ob _ _) F.entry_zip_new (k_made c d m1 m2 us ws) ⟨hu, hw, ?_⟩
  have sA : (zA c t.heap m1).objs.size = t.heap.objs.size + 1 := Heap.size_push ..
  have sB : (zB c d t.heap m1 m2).objs.size = t.heap.objs.size + 2 := by rw [Heap.size_push, sA]
  have sC : (zC c d t.heap m1 m2).objs.size = t.heap.objs.size + 3 := by rw [Heap.size_push, sB]
  have sD : (zD c d t.heap m1 m2).objs.size = t.heap.objs.size + 4 := by rw [Heap.size_push, sC]
  have up := fun (h : Heap) (ob : Obj) (a : Addr) (o : Obj) (e : h.get? a = some o) => Heap.get?_push_of_some (h := h) ob e
  have gE : (zE c d t.heap m1 m2).get? (zD c d t.heap m1 m2).objs.size = some _ := Heap.get?_push_size _ rfl
  have gD : (zE c d t.heap m1 m2).get? (zC c d t.heap m1 m2).objs.size = some _ := up _ _ _ _ (Heap.get?_push_size _ rfl)
  have gC : (zE c d t.heap m1 m2).get? (zB c d t.heap m1 m2).objs.size = some _ := up _ _ _ _ (up _ _ _ _ (Heap.get?_push_size _ rfl))
  have gB : (zE c d t.heap m1 m2).get? (zA c t.heap m1).objs.size = some _ := up _ _ _ _ (up _ _ _ _ (up _ _ _ _ (Heap.get?_push_size _ rfl)))
  have gA : (zE c d t.heap m1 m2).get? t.heap.objs.size = some _ := up _ _ _ _ (up _ _ _ _ (up _ _ _ _ (up _ _ _ _ (Heap.get?_push_size _ rfl))))
  show _ ∧ _
  rw [sB, sC, sD] at gE
  rw [sA, sB] at gC
  rw [sC] at gD
  rw [sA] at gB
  rw [sD]
  exact ⟨⟨_, gE, rfl⟩, hR _ ⟨gE, gC, ⟨_, _, gD⟩, itObj_it c gA, itObj_it d gB⟩ fun a o e => up _ _ _ _ (up _ _ _ _ (up _ _ _ _ (up _ _ _ _ (up _ _ _ _ e))))⟩
end
/-! the walk over it -/
def SqK (K : PySem.W.Frag) (k : Bool) (H : Hp) (a : Addr) (vs : List V) : Prop := match k with
  | true => SqL K H a vs
  | false => SqT K H a vs
theorem inv_sq {X : Cx} {pins : List (Addr × Obj)} {σ : L2.St} {H : Hp} {s : Shared} {k : Bool} {a : Addr} {vs : List V} (I : Inv X pins σ H s) (h : SqK X.K k H a vs) : ∃ its : List Value, Vals vs its ∧ KSeq k s.heap a its.toArray := by
  cases k
  · obtain ⟨its, r, p, _⟩ := I.tuple h
    exact ⟨its, r, p⟩
  · obtain ⟨its, r, p, _⟩ := I.list h
    exact ⟨its, r, p.isList⟩
theorem inv_one {X : Cx} {pins : List (Addr × Obj)} {σ : L2.St} {H : Hp} {s : Shared} {k : Bool} {a : Addr} {vs ws : List V} (I : Inv X pins σ H s) (h : SqK X.K k H a vs) (h' : SqK X.K k H a ws) : vs = ws := by
  cases k
  · exact I.tuple_inj h h'
  · exact I.list_inj h h'
def ItK (K : PySem.W.Frag) (c d : Bool) (a b : Addr) : It where
  go := fun i H => ∃ vs ws x y, SqK K c H a vs ∧ SqK K d H b ws ∧ vs[i]? = some x ∧ ws[i]? = some y
  yld := fun i H v H' => ∃ T x y, (v = .ref T ∧ H T = none ∧ H' = upd H T (.tup [x, y])) ∧ (∀ vs, SqK K c H a vs → vs[i]? = some x) ∧ ∀ ws, SqK K d H b ws → ws[i]? = some y
  stop := fun i H => ∃ vs ws, SqK K c H a vs ∧ SqK K d H b ws ∧ (vs.length ≤ i ∨ ws.length ≤ i)
theorem five {q QI QO p1 p2 a : Addr} {P : Addr → Prop} (ha : a ∈ [q, QI, QO, p1, p2]) (h1 : P q) (h2 : P QI) (h3 : P QO) (h4 : P p1) (h5 : P p2) : P a := by
  have e : a = q ∨ a = QI ∨ a = QO ∨ a = p1 ∨ a = p2 := by simpa using ha
  rcases e with e | e | e | e | e <;> (rw [e]; assumption)
theorem k_walk {P : Program} {w : World} {K : PySem.W.Frag} {elts : List Expr} {kk : Nat} {tpos : Pos} {c d : Bool} {a b q QI QO p1 p2 : Addr} (D : ZipApart q QI QO p1 p2 a b) :
    Turn P w K (.Tuple elts kk tpos) (ItK K c d a b) [q, QI, QO, p1, p2] q (fun i h => ZSt c d h q QI QO p1 p2 a b i .none) where
  mem := List.mem_cons_self
  obj := fun i h S x hx => by
    obtain ⟨f, g, go⟩ := S.o
    obtain ⟨o1, e1, f1, _⟩ := S.a.ex
    obtain ⟨o2, e2, f2, _⟩ := S.b.ex
    exact five (P := fun x => ∃ o, h.get? x = some o ∧ ∀ v, o.data ≠ .cell v) hx ⟨_, S.z, fun v z => nomatch z⟩ ⟨_, S.i, fun v z => nomatch z⟩ ⟨_, go, fun v z => nomatch z⟩ ⟨o1, e1, f1⟩ ⟨o2, e2, f2⟩
  keep := fun i h h' S k => by
    obtain ⟨f, g, go⟩ := S.o
    exact ⟨k q (by simp) _ S.z, k QI (by simp) _ S.i, ⟨f, g, k QO (by simp) _ go⟩, S.a.to fun o z => k p1 (by simp) o z, S.b.to fun o z => k p2 (by simp) o z⟩
  item := by
    intro X hP hw hK hc i pins s σ H E I hf S hg
    subst hP hw hK
    obtain ⟨vs, ws, x, y, hv, hw, ex, ey⟩ := hg
    obtain ⟨us1, r1, k1⟩ := inv_sq I hv
    obtain ⟨us2, r2, k2⟩ := inv_sq I hw
    obtain ⟨u, eu, ru⟩ := r1.get ex
    obtain ⟨u2, eu2, ru2⟩ := r2.get ey
    have lz : q < s.heap.objs.size := Heap.lt_size S.z
    refine k_pyNext D S k1 k2 (u := u) (v := u2) (by simpa using eu) (by simpa using eu2) fun g S' gT up => ?_
    refine ⟨_, rfl, wpAny_letOwnedTupleGo_zip (s := { s with heap := g }) S'.z fun g2 z2 sb => ?_⟩
    have gT2 : g2.get? s.heap.objs.size = some { cls := .type "tuple", data := .seq #[u, u2] } := (sb.2 _ (Nat.ne_of_gt lz)).trans gT
    have mk : ObjOk X.prog X.w (upd H s.heap.objs.size (.tup [x, y])) g2 s.heap.objs.size (.tup [x, y]) := ⟨by show 2 ≤ sizeLine; decide, [u, u2], .cons ru (.cons ru2 .nil), ⟨_, gT2, rfl, _, rfl⟩⟩
    have kp : ∀ (a : Addr) o, a ∉ [q, QI, QO, p1, p2] → s.heap.get? a = some o → g2.get? a = some o := fun a o na e =>
      (sb.2 a fun z => na (by simp [z])).trans (up a o (fun z => na (by simp [z])) (fun z => na (by simp [z])) (fun z => na (by simp [z])) (fun z => na (by simp [z])) e)
    have I2 : Inv X pins σ (upd H s.heap.objs.size (.tup [x, y])) { s with heap := g2 } := I.turnedNew (t' := s.toks) (ch := [q, QI, QO, p1, p2]) kp hf (Nat.le_refl _) mk
    have tail : ZSt c d g2 q QI QO p1 p2 a b (i + 1) .none := by
      obtain ⟨f, g, go⟩ := S'.o
      exact ⟨z2, (sb.2 _ D.TIz).trans S'.i, ⟨f, g, (sb.2 _ D.TOz).trans go⟩, S'.a.to fun o z => (sb.2 _ D.i1z).trans z, S'.b.to fun o z => (sb.2 _ D.i2z).trans z⟩
    refine ⟨.ref s.heap.objs.size, _, I2, rfl, ⟨_, x, y, ⟨rfl, I.hok.fresh (Nat.le_refl _), rfl⟩, fun l hl => by rw [inv_one I hl hv]; exact ex, fun l hl => by rw [inv_one I hl hw]; exact ey⟩, tail, fun z hz => ?_⟩
    obtain ⟨f, g, go⟩ := S.o
    have lt : z < s.heap.objs.size := five (P := fun z => z < s.heap.objs.size) hz lz (Heap.lt_size S.i) (Heap.lt_size go) S.a.lt S.b.lt
    rw [upd_ne (Nat.ne_of_lt lt)]
    exact (hf z hz).1
  done := by
    intro X hP hw hK hc i pins s σ H E I hf S hg
    subst hP hw hK
    obtain ⟨vs, ws, hv, hw, en⟩ := hg
    obtain ⟨us1, r1, k1⟩ := inv_sq I hv
    obtain ⟨us2, r2, k2⟩ := inv_sq I hw
    have l1 := r1.length
    have l2 := r2.length
    have he : us1.toArray[i]? = none ∨ us2.toArray[i]? = none := by
      rcases en with z | z
      · exact Or.inl (by simp; omega)
      · exact Or.inr (by simp; omega)
    exact k_pyStop (I.ok.hd hc) D S k1 k2 he fun g up => ⟨rfl, I.turnedL (t' := s.toks) (ch := [q, QI, QO, p1, p2]) (fun a o na e => up a o (fun z => na (by simp [z])) (fun z => na (by simp [z])) (fun z => na (by simp [z])) (fun z => na (by simp [z])) e) hf⟩
  self := fun A i s Q E S h => wpAny_pyIter_zip S.z h
def zipT (K : PySem.W.Frag) (ta : TA) : TI := fun σ H R => ta σ H fun vs H1 => ∃ c d a b xs ys, vs = [.ref a, .ref b] ∧ SqK K c H1 a xs ∧ SqK K d H1 b ys ∧ R (ItK K c d a b) H1
theorem k_over {X : Cx} {e e2 : Expr} {ta : TA} {p pos tpos : Pos} {elts : List Expr} {kk : Nat} (hg : Gl X "zip") (hm : X.mg "zip" = none) (ha : PA X [e, e2] ta)
    (h1 : starEach [e, e2] X.env = (false, eval e X.env) :: starEach [e2] X.env) (h2 : (backTo pos (starEach [e2] X.env)).any (·.1) = false) :
    PI X (.Tuple elts kk tpos) (.Call (.Name "zip" p) [e, e2] [] pos) (zipT X.K ta) := by
  refine ⟨fun pins s σ H R I h => PyProof.Rows.Call_ (ld_blt I hg hm PyProof.Rows.boot_zip (PyProof.Rows.callWith_type1 (thn (ha.run pos pins s σ H _ I h) fun us s1 z => ?_) h1 h2))⟩
  obtain ⟨vs, H1, I1, r1, c, d, a, b, xs, ys, rfl, qx, qy, z⟩ := z
  match us, r1 with
  | [_, _], .cons ra (.cons rb .nil) =>
    cases ra
    cases rb
    obtain ⟨us1, _, k1⟩ := inv_sq I1 qx
    obtain ⟨us2, _, k2⟩ := inv_sq I1 qy
    refine k_zip k1 k2 fun g S up => wpAny_pyIter_zip S.z ?_
    have fr : ∀ i : Nat, FpOk X pins H1 (s1.heap.objs.size + i) := fun i => I1.fpOk (Nat.le_add_right _ _) (I1.hok.fresh (Nat.le_add_right _ _))
    exact ⟨_, _, _, _, H1, rfl, I1.kept (t' := s1.toks) up, k_walk (PySem.W.ktu_apart s1.heap.objs.size a b k1.lt k2.lt), S, fun x hx => five hx (fr 4) (fr 2) (fr 3) (fr 0) (fr 1), z⟩
theorem itk_ok {K : PySem.W.Frag} {cm : Nat → Addr} {c d t : Bool} {a b : Addr} {vs ws : List V} {ds es : List Dt} {H0 G0 : Hp} (h1 : ∀ H G, StK H0 G0 t H G → SqK K c H a vs) (h2 : ∀ H G, StK H0 G0 t H G → SqK K d H b ws) (n1 : DenL K cm G0 vs ds) (n2 : DenL K cm G0 ws es) :
    ItOk K cm (ItK K c d a b) (List.zipWith (fun x y => Dt.tup [x, y]) ds es) t H0 G0 where
  go := fun i H G s hi => by
    rw [List.length_zipWith] at hi
    have i1 : i < vs.length := by rw [n1.length]; omega
    have i2 : i < ws.length := by rw [n2.length]; omega
    exact ⟨vs, ws, vs[i], ws[i], h1 H G s, h2 H G s, List.getElem?_eq_getElem i1, List.getElem?_eq_getElem i2⟩
  yl := fun i H G v H' s hi y => by
    obtain ⟨T, x, y, ⟨rfl, hT, rfl⟩, y1, y2⟩ := y
    obtain ⟨d1, e1, dn1⟩ := n1.get' (y1 vs (h1 _ _ s))
    obtain ⟨d2, e2, dn2⟩ := n2.get' (y2 ws (h2 _ _ s))
    have g := Grow.new (o := .tup [x, y]) s.sub hT
    refine ⟨_, .tup [d1, d2], ?_, g, .tup (SqT.of upd_same) (.cons ((dn1.mono s.gx).mono g.gx) (.one ((dn2.mono s.gx).mono g.gx)))⟩
    rw [List.getElem?_zipWith, e1, e2]
  stop := fun i H G s hi => by
    rw [List.length_zipWith] at hi
    refine ⟨vs, ws, h1 H G s, h2 H G s, ?_⟩
    rw [n1.length, n2.length]
    omega
theorem VR.seq {K : PySem.W.Frag} {cm : Nat → Addr} {H G : Hp} {v : V} {d : Dt} {t : Bool} {ds : List Dt} (s : Exx G H) (r : VR K cm H G v d t) (e : seqOf d = some ds) :
    ∃ c a vs, v = .ref a ∧ DenL K cm G vs ds ∧ SqK K c H a vs ∧ (t = false → SqK K c G a vs) := by
  cases t with
  | false =>
    cases r.2 rfl with
    | lst s1 n1 => cases e; exact ⟨true, _, _, rfl, n1, s.sqL s1, fun _ => s1⟩
    | tup s1 n1 => cases e; exact ⟨false, _, _, rfl, n1, s.sqT s1, fun _ => s1⟩
    | non => cases e
    | bl => cases e
    | int => cases e
    | str => cases e
    | obj => cases e
  | true =>
    obtain ⟨l, vs, ds', rfl, rfl, s1, n1⟩ := r.1 rfl
    cases e
    exact ⟨true, l, vs, rfl, n1, s1, fun z => nomatch z⟩
theorem SqK.ex {K : PySem.W.Frag} {c : Bool} {H H' : Hp} {a : Addr} {vs : List V} (e : Exx H H') (h : SqK K c H a vs) : SqK K c H' a vs := by
  cases c
  · exact e.sqT h
  · exact e.sqL h
theorem ji_zip {X : Cx} {cm : Nat → Addr} {a b : Expr} {fa fb : EF} {p pos tpos : Pos} {elts : List Expr} {kk : Nat} (hg : Gl X "zip") (hm : X.mg "zip" = none) (ha : JE X cm a fa) (hb : JE X cm b fb)
    (he : starEach [a, b] X.env = (false, eval a X.env) :: starEach [b] X.env := by rfl) (he2 : starEach [b] X.env = (false, eval b X.env) :: starEach [] X.env := by rfl) (hpl : (backTo pos (starEach [b] X.env)).any (·.1) = false := by rfl) : JI X cm (.Tuple elts kk tpos) (.Call (.Name "zip" p) [a, b] [] pos) (iZip fa fb) := by
  refine ⟨fun env ds t σ H G hf rel Q q => ?_⟩
  obtain ⟨ra, h1, hf⟩ := Option.bind_eq_some_iff.mp hf
  obtain ⟨rb, h2, hf⟩ := Option.bind_eq_some_iff.mp hf
  obtain ⟨xs, e1, hf⟩ := Option.bind_eq_some_iff.mp hf
  obtain ⟨ys, e2, hf⟩ := Option.bind_eq_some_iff.mp hf
  cases hf
  refine to_i (k_over hg hm (pa_cons pe_w (pa_cons pe_w pa_nil he2) he) he hpl) (ha.pub h1 rel fun v H1 G1 g1 vr => hb.pub h2 (rel.grow g1) fun w H2 G2 g2 wr => ?_)
  obtain ⟨c, l1, vs, rfl, n1, s1, t1⟩ := vr.seq g1.sub e1
  obtain ⟨d, l2, ws, rfl, n2, s2, t2⟩ := wr.seq g2.sub e2
  refine ⟨c, d, l1, l2, vs, ws, rfl, s1.ex g2.hx, s2, q _ H2 G2 (g1.trans g2) (itk_ok (fun H G s => ?_) (fun H G s => ?_) (n1.mono g2.gx) n2)⟩
  · cases ht : ra.sh with
    | false => exact ((t1 ht).ex g2.gx).ex (s.gx.trans s.sub)
    | true => exact (s1.ex g2.hx).ex (s.hx (by rw [ht]; rfl))
  · cases ht : rb.sh with
    | false => exact (t2 ht).ex (s.gx.trans s.sub)
    | true => exact s2.ex (s.hx (by rw [ht, Bool.or_true]))
end Pyl
end
section
set_option Elab.async false
set_option linter.all false
set_option maxRecDepth 100000
set_option maxHeartbeats 4000000
namespace Pyl
open PySem L2
/-! ### comprehensions -/
section
variable {X : Cx} {cm : Nat → Addr} {σ : L2.St} {H G : Hp} {env : Sl}
theorem wipeS_length (env : Sl) : ∀ is : List Nat, (wipeS env is).length = env.length
  | [] => rfl
  | i :: is => by unfold wipeS; rw [List.length_set, wipeS_length env is]
theorem wipeS_get {env : Sl} {j : Nat} {s : Slot} : ∀ {is : List Nat}, (wipeS env is)[j]? = some s → s = .non ∨ (env[j]? = some s ∧ j ∉ is)
  | [], h => .inr ⟨h, fun m => by cases m⟩
  | i :: is, h => by
    unfold wipeS at h
    rcases get_set h with ⟨_, e, _⟩ | ⟨ne, h⟩
    · exact .inl e
    · rcases wipeS_get h with e | ⟨e, n⟩
      · exact .inl e
      · refine .inr ⟨e, fun m => ?_⟩
        rcases List.mem_cons.mp m with q | q
        · exact ne q.symm
        · exact n q
theorem wipe_get {σ : L2.St} {j : Nat} : ∀ {is : List Nat}, j ∉ is → (wipe σ is)[j]? = σ[j]?
  | [], _ => rfl
  | i :: is, h => by
    unfold wipe
    rw [List.getElem?_set_ne (fun e => h (by rw [e]; exact List.mem_cons_self)), wipe_get (fun m => h (List.mem_cons_of_mem _ m))]
theorem Rel.wipe {K : PySem.W.Frag} (r : Rel K cm σ H G env) (is : List Nat) : Rel K cm (wipe σ is) H G (wipeS env is) where
  len := by rw [wipe_length, wipeS_length, r.len]
  sub := r.sub
  val := fun j d hj => by
    rcases wipeS_get hj with e | ⟨e, n⟩
    · cases e
    · rw [wipe_get n]
      exact r.val j d e
  own := fun j od hj => by
    rcases wipeS_get hj with e | ⟨e, n⟩
    · cases e
    · rw [wipe_get n]
      exact r.own j od e
  dist := fun j k od od' a hj hk ej ek => by
    rcases wipeS_get hj with e | ⟨e, n⟩
    · cases e
    · rcases wipeS_get hk with e' | ⟨e', n'⟩
      · cases e'
      · rw [wipe_get n] at ej
        rw [wipe_get n'] at ek
        exact r.dist j k od od' a e e' ej ek
theorem ext_get {α : Type} {l l' : List α} (hl : l.length = l'.length) (h : ∀ j : Nat, l[j]? = l'[j]?) : l = l' := List.ext_getElem? h
theorem wipe_at {σ : L2.St} {j : Nat} : ∀ {is : List Nat}, j ∈ is → (wipe σ is)[j]? = if j < σ.length then some none else none
  | [], h => by cases h
  | i :: is, h => by
    unfold L2.wipe
    by_cases e : i = j
    · subst e
      by_cases hl : i < σ.length
      · rw [if_pos hl, List.getElem?_set_self (by rw [wipe_length]; exact hl)]
      · rw [if_neg hl, List.getElem?_eq_none (by rw [List.length_set, wipe_length]; omega)]
    · rw [List.getElem?_set_ne e]
      rcases List.mem_cons.mp h with q | q
      · exact absurd q.symm e
      · exact wipe_at q
theorem wipe_eq {σ σ' : L2.St} {is js : List Nat} (hl : σ'.length = σ.length) (hs : ∀ j : Nat, j ∉ js → σ'[j]? = (L2.wipe σ is)[j]?) (sub : ∀ j ∈ js, j ∈ is) : L2.wipe σ' is = L2.wipe σ is := by
  refine List.ext_getElem? fun j => ?_
  by_cases h : j ∈ is
  · rw [wipe_at h, wipe_at h, hl]
  · rw [wipe_get h, hs j (fun m => h (sub j m))]
theorem compL_cons {g : Dt → Option (List Dt)} {d : Dt} {ds out : List Dt} (h : compL g (d :: ds) = some out) : ∃ o r, g d = some o ∧ compL g ds = some r ∧ out = o ++ r := by
  obtain ⟨o, h1, h⟩ := Option.bind_eq_some_iff.mp h
  obtain ⟨r, h2, h⟩ := Option.bind_eq_some_iff.mp h
  cases h
  exact ⟨o, r, h1, h2, rfl⟩
theorem drop_get {α : Type} {l : List α} {i : Nat} {x : α} (h : l[i]? = some x) : l.drop i = x :: l.drop (i + 1) := by
  obtain ⟨hl, e⟩ := List.getElem?_eq_some_iff.mp h
  rw [← e]
  exact List.drop_eq_getElem_cons hl
/-- the tests of a comprehension: none or one -/
structure JTs (X : Cx) (cm : Nat → Addr) (ifs : List Expr) (f : TF) : Prop where
  ex : ∀ (env : Sl) (b : Bool) (σ : L2.St) (H G : Hp), f env = some b → Rel X.K cm σ H G env → ∀ Q : Bool → Hp → Prop, (∀ H' G', Grow H G H' G' → Q b H') → ∃ t : TT, PTs X ifs t ∧ t σ H Q
theorem jts_nil : JTs X cm [] tYes := ⟨fun env b σ H G hf rel Q q => ⟨_, pts_nil, by cases hf; exact q H G (.refl rel.sub)⟩⟩
theorem jts_one {c : Expr} {t : TF} (h : JT X cm c t) : JTs X cm [c] t := ⟨fun env b σ H G hf rel Q q => ⟨_, pts_one pt_w, h.run env b σ H G hf rel Q q⟩⟩
def wpTs (X : Cx) (ifs : List Expr) : TT := fun σ H Q => ∃ t : TT, PTs X ifs t ∧ t σ H Q
theorem pts_w {ifs : List Expr} : PTs X ifs (wpTs X ifs) := ⟨fun pins s σ H Q I h => by
  obtain ⟨t, h1, h2⟩ := h
  exact h1.run pins s σ H Q I h2⟩

/-- the weakest readings in every block -/
def gB (X : Cx) (scope : Scope) (tg : Expr) : TG := fun v σ H Q => ∀ (s : Shared) (H0 : Hp) (C : Addr) (cl : List (Str × Addr)) (fp : List Addr), wpG (X.blk s H0 scope (compEnvC scope cl C X.env) fp) tg v σ H Q
def tB' (X : Cx) (scope : Scope) (ifs : List Expr) : TT := fun σ H Q => ∀ (s : Shared) (H0 : Hp) (C : Addr) (cl : List (Str × Addr)) (fp : List Addr), wpTs (X.blk s H0 scope (compEnvC scope cl C X.env) fp) ifs σ H Q
def eB (X : Cx) (scope : Scope) (elt : Expr) : TE := fun σ H Q => ∀ (s : Shared) (H0 : Hp) (C : Addr) (cl : List (Str × Addr)) (fp : List Addr), wpE (X.blk s H0 scope (compEnvC scope cl C X.env) fp) elt σ H Q
theorem pg_B {scope : Scope} {tg : Expr} {s : Shared} {H0 : Hp} {C : Addr} {cl : List (Str × Addr)} {fp : List Addr} : PG (X.blk s H0 scope (compEnvC scope cl C X.env) fp) tg (gB X scope tg) := ⟨fun pins s1 σ H v u Q I r h => h s H0 C cl fp pins s1 u I r⟩
theorem pt_B {scope : Scope} {ifs : List Expr} {s : Shared} {H0 : Hp} {C : Addr} {cl : List (Str × Addr)} {fp : List Addr} : PTs (X.blk s H0 scope (compEnvC scope cl C X.env) fp) ifs (tB' X scope ifs) := ⟨fun pins s1 σ H Q I h => pts_w.run pins s1 σ H Q I (h s H0 C cl fp)⟩
theorem pe_B {scope : Scope} {elt : Expr} {s : Shared} {H0 : Hp} {C : Addr} {cl : List (Str × Addr)} {fp : List Addr} : PE (X.blk s H0 scope (compEnvC scope cl C X.env) fp) elt (eB X scope elt) := ⟨fun pins s1 σ H Q I h => h s H0 C cl fp pins s1 I⟩
/-- a comprehension's reading: its parts in every block -/
theorem je_comp {elt tg iter : Expr} {ifs : List Expr} {scope : Scope} {own : List (Str × Nat)} {js : List Nat} {fi : IF} {g : GF} {ft : TF} {fe : EF} (hc : X.calm = true) (hN : X.N.Nodup) (hi : JI X cm tg iter fi) (ok : blkC X.N X.env.scope scope own = true)
    (hg : ∀ (s : Shared) (H : Hp) (C : Addr) (cl : List (Str × Addr)) (fp : List Addr), JG (X.blk s H scope (compEnvC scope cl C X.env) fp) cm tg js g) (hj : ∀ j ∈ js, j ∈ own.map (·.2))
    (ht : ∀ (s : Shared) (H : Hp) (C : Addr) (cl : List (Str × Addr)) (fp : List Addr), JTs (X.blk s H scope (compEnvC scope cl C X.env) fp) cm ifs ft)
    (he : ∀ (s : Shared) (H : Hp) (C : Addr) (cl : List (Str × Addr)) (fp : List Addr), JE (X.blk s H scope (compEnvC scope cl C X.env) fp) cm elt fe) (hs : ∀ x, foldedSetIterable iter X.env x = pure x := by intro _; rfl) :
    (∀ (env : Sl) (r : R) (σ : L2.St) (H G : Hp), eComp (own.map (·.2)) fi g ft fe env = some r → Rel X.K cm σ H G env → ∀ Q : VK, (∀ v H' G', Grow H G H' G' → RR X.K cm H H' G' v r → Q v H') →
      tLc (wpI X tg iter) (gB X scope tg) (tB' X scope ifs) (eB X scope elt) (own.map (·.2)) σ H Q) := by
  intro env r σ H G hf rel Q q
  obtain ⟨⟨ds, bb⟩, h1, hf⟩ := Option.bind_eq_some_iff.mp hf
  obtain ⟨out, h2, hf⟩ := Option.bind_eq_some_iff.mp hf
  dsimp only at h2 hf
  split at hf
  case isFalse => cases hf
  rename_i hlen
  cases hf
  refine hi.run env ds bb σ H G h1 rel _ fun J H1 G1 g1 jok => fun D hD => ?_
  have rel1 := rel.grow g1
  have hl := jok
  -- the invariant
  refine ⟨fun i m H' => m = ds.length - i ∧ i ≤ ds.length ∧ ∃ (G' : Hp) (av : List V) (ad ro : List Dt), Exx G' H' ∧ Exx G1 G' ∧ Exx H1 H' ∧ (∀ a o, H1 a = some o → G1 a = none → G' a = none) ∧ H' D = some (.lst av) ∧ G' D = none ∧ DenL X.K cm G' av ad ∧ ad.length ≤ i ∧
    compL (compG env (own.map (·.2)) g ft fe) (ds.drop i) = some ro ∧ out = ad ++ ro, ⟨ds.length, rfl, Nat.zero_le _, G1, [], [], out, (Grow.hide g1.sub hD).sub, .refl _, .new hD, fun _ _ _ n => n, upd_same, g1.sub.back hD, .nil, Nat.le_refl _, by rw [List.drop_zero]; exact h2, rfl⟩, ?_⟩
  rintro i m H' ⟨rfl, hi', G', av, ad, ro, sub, gx, hx, hid, hHD, hGD, den, hal, hro, hout⟩
  have st : StK H1 G1 bb H' G' := ⟨sub, gx, fun _ => hx⟩
  by_cases hlt : i < ds.length
  · refine .inr ⟨jok.go i H' G' st hlt, fun H2 => i + 1 ≤ ds.length ∧ ∃ (G' : Hp) (av : List V) (ad ro : List Dt), Exx G' H2 ∧ Exx G1 G' ∧ Exx H1 H2 ∧ (∀ a o, H1 a = some o → G1 a = none → G' a = none) ∧ H2 D = some (.lst av) ∧ G' D = none ∧ DenL X.K cm G' av ad ∧ ad.length ≤ i + 1 ∧
      compL (compG env (own.map (·.2)) g ft fe) (ds.drop (i + 1)) = some ro ∧ out = ad ++ ro, fun H2 hw => ⟨ds.length - (i + 1), by omega, rfl, hw⟩, fun v H2 hy => ?_⟩
    obtain ⟨G2, d, hd, g2, dn⟩ := jok.yl i H' G' v H2 st hlt hy
    rw [drop_get hd] at hro
    obtain ⟨o, ro', ho, hro', rfl⟩ := compL_cons hro
    obtain ⟨env', hg', ho⟩ := Option.bind_eq_some_iff.mp ho
    obtain ⟨t, ht', ho⟩ := Option.bind_eq_some_iff.mp ho
    have relb : Rel X.K cm (L2.wipe σ (own.map (·.2))) H2 G2 (wipeS env (own.map (·.2))) := by
      refine ((Rel.grow rel1 (H' := H') (G' := G') ⟨hx, gx, hid, sub⟩).grow g2).wipe _
    intro s H0 C cl fp
    refine (hg s H0 C cl fp).run _ env' d v _ H2 G2 hg' relb dn _ fun σ' rel' fr' same len => ⟨wipe_eq (len.trans (wipe_length _ _)) same hj, ?_⟩
    intro s H0 C cl fp
    refine (ht s H0 C cl fp).ex env' t σ' H2 G2 ht' rel' _ fun H3 G3 g3 => ?_
    have g23 := g2.trans g3
    have hx3 := hx.trans g23.hx
    have gx3 := gx.trans g23.gx
    have hid3 : ∀ a o, H1 a = some o → G1 a = none → G3 a = none := fun a o h n => g23.hid a o (hx a o h) (hid a o h n)
    have hD3 := g23.hx D _ hHD
    have gD3 := g23.hid D _ hHD hGD
    cases t with
    | false =>
      cases ho
      exact iteF ⟨hlt, G3, av, ad, ro', g3.sub, gx3, hx3, hid3, hD3, gD3, den.mono g23.gx, by omega, hro', hout⟩
    | true =>
      obtain ⟨re, he', ho⟩ := Option.bind_eq_some_iff.mp ho
      split at ho
      · cases ho
      · rename_i hsh
        cases ho
        refine iteT ?_
        intro s H0 C cl fp
        refine (he s H0 C cl fp).pub he' (rel'.grow g3) fun y H4 G4 g4 vr => ?_
        have hsh' : re.sh = false := by simpa using hsh
        rw [hsh'] at vr
        have g24 := g23.trans g4
        refine ⟨av, g24.hx D _ hHD, ?_, hlt, G4, av ++ [y], ad ++ [re.dt], ro', ?_, gx.trans g24.gx, ?_, fun a o h n => g24.hid a o (hx a o h) (hid a o h n), upd_same, g24.hid D _ hHD hGD, ?_, ?_, hro', ?_⟩
        · rw [den.length]
          exact Nat.lt_of_le_of_lt hal (Nat.lt_of_lt_of_le (Nat.lt_of_lt_of_le hlt hlen) (lim_ok (Nat.le_refl _)))
        · intro a o h
          by_cases e : a = D
          · subst e
            rw [g24.hid _ _ hHD hGD] at h
            cases h
          · rw [upd_ne e]
            exact g4.sub a o h
        · intro a o h
          rw [upd_ne (ne_of_none h hD)]
          exact g24.hx a o (hx a o h)
        · exact (den.mono g24.gx).append (.one vr.den)
        · rw [List.length_append, List.length_singleton]
          omega
        · rw [List.append_assoc]
          exact hout
  · have e : i = ds.length := by omega
    subst e
    refine .inl ⟨jok.stop _ H' G' st (Nat.le_refl _), ?_⟩
    rw [List.drop_length] at hro
    cases hro
    rw [List.append_nil] at hout
    subst hout
    refine q _ H' G' (g1.trans ⟨hx, gx, hid, sub⟩) ⟨D, _, rfl, g1.hx.back hD, hHD, hGD, den⟩
end
end Pyl
end
section
set_option Elab.async false
set_option linter.all false
set_option maxRecDepth 100000
set_option maxHeartbeats 4000000
namespace Pyl
open PySem L2
/-! ### a comprehension as a value -/
section
variable {X : Cx} {cm : Nat → Addr} {elt tg iter : Expr} {ifs : List Expr} {scope : Scope} {pos : Pos} {js : List Nat} {fi : IF} {g : GF} {ft : TF} {fe : EF}
theorem je_lc (own : List (Str × Nat)) (hc : X.calm = true) (hN : X.N.Nodup) (hi : JI X cm tg iter fi) (ok : blkC X.N X.env.scope scope own = true)
    (hg : ∀ (s : Shared) (H : Hp) (C : Addr) (cl : List (Str × Addr)) (fp : List Addr), JG (X.blk s H scope (compEnvC scope cl C X.env) fp) cm tg js g) (hj : ∀ j ∈ js, j ∈ own.map (·.2))
    (ht : ∀ (s : Shared) (H : Hp) (C : Addr) (cl : List (Str × Addr)) (fp : List Addr), JTs (X.blk s H scope (compEnvC scope cl C X.env) fp) cm ifs ft)
    (he : ∀ (s : Shared) (H : Hp) (C : Addr) (cl : List (Str × Addr)) (fp : List Addr), JE (X.blk s H scope (compEnvC scope cl C X.env) fp) cm elt fe) (hs : ∀ x, foldedSetIterable iter X.env x = pure x := by intro _; rfl) :
    JE X cm (.ListComp elt [⟨tg, iter, ifs, 0⟩] scope pos) (eComp (own.map (·.2)) fi g ft fe) :=
  ⟨fun env r σ H G hf rel Q q => to_e (pe_lc hc hN pi_w (blkOk_by ok) (fun _ _ _ _ _ => pg_B) (fun _ _ _ _ _ => pt_B) (fun _ _ _ _ _ => pe_B) hs) (je_comp hc hN hi ok hg hj ht he hs env r σ H G hf rel Q q)⟩
end

/-! ### statements -/
/-- how the ends that are wanted of the heaps follow from those that are wanted of the data -/
structure EndsOk (K : PySem.W.Frag) (cm : Nat → Addr) (σ : L2.St) (env : Sl) (H G : Hp) (D' : En) (D : Ends) : Prop where
  nx : ∀ σ' H' G' env', Rel K cm σ' H' G' env' → Fr σ env H G σ' env' H' G' → D'.nx env' → D.nx σ' H'
  rt : ∀ v H' G' d, FrH σ env H G H' G' → Den K cm G' v d → D'.rt d → D.rt v H'
  bk : ∀ σ' H' G' env', Rel K cm σ' H' G' env' → Fr σ env H G σ' env' H' G' → D'.bk env' → D.bk σ' H'
  ct : ∀ σ' H' G' env', Rel K cm σ' H' G' env' → Fr σ env H G σ' env' H' G' → D'.ct env' → D.ct σ' H'
structure JS (X : Cx) (cm : Nat → Addr) (st : Stmt) (w : WS) : Prop where
  run : ∀ (env : Sl) (D' : En) (σ : L2.St) (H G : Hp), w D' env → Rel X.K cm σ H G env → ∀ D : Ends, EndsOk X.K cm σ env H G D' D → wpS X st D σ H
structure JSs (X : Cx) (cm : Nat → Addr) (st : List Stmt) (w : WS) : Prop where
  run : ∀ (env : Sl) (D' : En) (σ : L2.St) (H G : Hp), w D' env → Rel X.K cm σ H G env → ∀ D : Ends, EndsOk X.K cm σ env H G D' D → wpSs X st D σ H
/-- from a later state on -/
theorem EndsOk.later {K : PySem.W.Frag} {cm : Nat → Addr} {σ σ1 : L2.St} {env env1 : Sl} {H G H1 G1 : Hp} {D' : En} {D : Ends} (o : EndsOk K cm σ env H G D' D) (f : Fr σ env H G σ1 env1 H1 G1) : EndsOk K cm σ1 env1 H1 G1 D' D :=
  ⟨fun σ' H' G' env' r g => o.nx σ' H' G' env' r (f.trans g), fun v H' G' d g => o.rt v H' G' d (f.trH g), fun σ' H' G' env' r g => o.bk σ' H' G' env' r (f.trans g), fun σ' H' G' env' r g => o.ct σ' H' G' env' r (f.trans g)⟩
section
variable {X : Cx} {cm : Nat → Addr} {e a b c tg iter : Expr} {f fa fb fc : EF} {σ : L2.St} {H G : Hp} {env : Sl} {pos p : Pos} {st : Stmt} {sts rest body : List Stmt} {w u wb : WS} {x : Str} {t : TF}
theorem jss_nil : JSs X cm [] wNil := ⟨fun env D' σ H G hw rel D o => to_ss pss_nil (o.nx σ H G env rel (.refl rel.sub) hw)⟩
theorem jss_cons (h1 : JS X cm st w) (h2 : JSs X cm rest u) : JSs X cm (st :: rest) (wSeq w u) := by
  refine ⟨fun env D' σ H G hw rel D o => to_ss (pss_cons ps_w pss_w) ?_⟩
  obtain ⟨M, hw, hk⟩ := hw
  refine h1.run env { D' with nx := M } σ H G hw rel _ ⟨fun σ' H' G' env' r g n => ?_, o.rt, o.bk, o.ct⟩
  exact h2.run env' D' σ' H' G' (hk env' n) r D (o.later g)
theorem jss_one (h1 : JS X cm st w) : JSs X cm [st] w := ⟨fun env D' σ H G hw rel D o => to_ss (pss_one ps_w) (h1.run env D' σ H G hw rel D o)⟩
/-- nothing happens but that a name's own list is data from now on -/
theorem Rel.frz {K : PySem.W.Frag} {i : Nat} (r : Rel K cm σ H G env) : ∃ G', Rel K cm σ H G' (frzS i env) ∧ Fr σ env H G σ (frzS i env) H G' := by
  unfold frzS
  split
  case h_2 => exact ⟨G, r, .refl r.sub⟩
  rename_i od hi
  obtain ⟨l, o, h1, h2, h3, h4⟩ := r.own i od hi
  cases o <;> cases od <;> first | exact h4.elim | skip
  rename_i vs ds
  have e : Exx G (upd G l (.lst vs)) := .new h3
  refine ⟨upd G l (.lst vs), ⟨by rw [List.length_set, r.len], fun a o h => ?_, fun j d hj => ?_, fun j od hj => ?_, fun j k od od' a hj hk ej ek => ?_⟩, ⟨⟨e, fun a o h n w => ?_, fun _ _ h _ => h, fun a o h => ⟨o, h⟩, fun a o h => ?_⟩, fun a o h n => ?_, fun j hj => ?_⟩⟩
  · by_cases q : a = l
    · subst q; rw [upd_same] at h; cases h; exact h2
    · rw [upd_ne q] at h; exact r.sub a o h
  · rcases get_set hj with ⟨rfl, q, hl⟩ | ⟨ne, hj⟩
    · cases q
      exact ⟨_, h1, .lst (SqL.of upd_same) (DenL.mono e h4)⟩
    · obtain ⟨v, k1, k2⟩ := r.val j d hj
      exact ⟨v, k1, k2.mono e⟩
  · rcases get_set hj with ⟨rfl, q, hl⟩ | ⟨ne, hj⟩
    · cases q
    · obtain ⟨l', o', k1, k2, k3, k4⟩ := r.own j od hj
      have nl : l' ≠ l := fun q => by
        subst q
        exact ne (r.dist _ _ _ _ _ hi hj h1 k1)
      exact ⟨l', o', k1, k2, by rw [upd_ne nl]; exact k3, k4.mono e⟩
  · rcases get_set hj with ⟨rfl, q, hl⟩ | ⟨ne, hj⟩
    · cases q
    · rcases get_set hk with ⟨rfl, q, hl⟩ | ⟨ne', hk⟩
      · cases q
      · exact r.dist j k od od' a hj hk ej ek
  · have nl : a ≠ l := fun q => by
      subst q
      exact w ⟨i, _, hi, h1⟩
    rw [upd_ne nl]
    exact n
  · by_cases q : a = l
    · subst q; rw [upd_same] at h; cases h; exact h2
    · rw [upd_ne q] at h; exact r.sub a o h
  · rintro ⟨j, od, hj, ej⟩
    rcases get_set hj with ⟨rfl, q, hl⟩ | ⟨ne, hj⟩
    · cases q
    · exact n ⟨j, od, hj, ej⟩
  · rcases get_set hj with ⟨rfl, q, hl⟩ | ⟨ne, hj⟩
    · cases q
    · exact ⟨hj, rfl⟩
theorem jss_frz (i : Nat) (h : JSs X cm sts w) : JSs X cm sts (wFrz i w) := by
  refine ⟨fun env D' σ H G hw rel D o => ?_⟩
  obtain ⟨G', rel', fr⟩ := rel.frz (i := i)
  exact h.run _ D' σ H G' hw rel' D (o.later fr)
theorem js_pass : JS X cm (.Pass pos) wNil := ⟨fun env D' σ H G hw rel D o => to_s ps_pass (o.nx σ H G env rel (.refl rel.sub) hw)⟩
theorem js_break : JS X cm (.Break pos) wBrk := ⟨fun env D' σ H G hw rel D o => to_s ps_break (o.bk σ H G env rel (.refl rel.sub) hw)⟩
theorem js_continue : JS X cm (.Continue pos) wCnt := ⟨fun env D' σ H G hw rel D o => to_s ps_continue (o.ct σ H G env rel (.refl rel.sub) hw)⟩
theorem js_ret (he : JE X cm e f) : JS X cm (.Return (some e) pos) (wRet f) := by
  refine ⟨fun env D' σ H G hw rel D o => to_s (ps_ret pe_w) ?_⟩
  obtain ⟨r, h1, h2, h3⟩ := hw
  refine he.pub h1 rel fun v H1 G1 g1 vr => ?_
  rw [h2] at vr
  exact o.rt v H1 G1 _ g1.frH vr.den h3
theorem js_retN : JS X cm (.Return none pos) wRetN := ⟨fun env D' σ H G hw rel D o => to_s ps_retN (o.rt _ H G _ (Grow.refl rel.sub).frH Den.non hw)⟩
theorem js_drop (he : JE X cm e f) (hs : swapsWith e none pos.line X.env = pure false := by rfl) : JS X cm (.Expr e pos) (wDrop f) := by
  refine ⟨fun env D' σ H G hw rel D o => to_s (ps_expr pe_w hs) ?_⟩
  obtain ⟨r, h1, h2⟩ := hw
  refine he.pub h1 rel fun v H1 G1 g1 vr => ?_
  exact o.nx σ H1 G1 env (rel.grow g1) g1.fr h2
theorem js_if {as bs : List Stmt} {wa : WS} (hc : JT X cm c t) (ha : JSs X cm as wa) (hb : JSs X cm bs wb) : JS X cm (.If c as bs pos) (wIf t wa wb) := by
  refine ⟨fun env D' σ H G hw rel D o => to_s (ps_if pt_w pss_w pss_w) ?_⟩
  obtain ⟨k, h1, h2, h3⟩ := hw
  refine hc.run env k σ H G h1 rel _ fun H1 G1 g1 => ?_
  cases k with
  | true => exact iteT (ha.run env D' σ H1 G1 (h2 rfl) (rel.grow g1) D (o.later g1.fr))
  | false => exact iteF (hb.run env D' σ H1 G1 (h3 rfl) (rel.grow g1) D (o.later g1.fr))
/-- a name gets a new object of its own -/
theorem Rel.setOwn {K : PySem.W.Frag} {i : Nat} {l : Addr} {o : HO} {od : OD} (r : Rel K cm σ H G env) (h1 : H l = some o) (h2 : G l = none) (h3 : OwnR K cm G o od) (h4 : ∀ (j : Nat) (od' : OD), i ≠ j → env[j]? = some (.own od') → σ[j]? ≠ some (some (.ref l))) :
    Rel K cm (σ.set i (some (.ref l))) H G (env.set i (.own od)) where
  len := by rw [List.length_set, List.length_set, r.len]
  sub := r.sub
  val := fun j d' hj => by
    rcases get_set hj with ⟨rfl, e, hl⟩ | ⟨ne, hj⟩
    · cases e
    · obtain ⟨w, h1, h2⟩ := r.val j d' hj
      exact ⟨w, by rw [List.getElem?_set_ne ne]; exact h1, h2⟩
  own := fun j od' hj => by
    rcases get_set hj with ⟨rfl, e, hl⟩ | ⟨ne, hj⟩
    · cases e
      exact ⟨l, o, List.getElem?_set_self (by rw [r.len]; exact hl), h1, h2, h3⟩
    · obtain ⟨l', o', k1, k2, k3, k4⟩ := r.own j od' hj
      exact ⟨l', o', by rw [List.getElem?_set_ne ne]; exact k1, k2, k3, k4⟩
  dist := fun j k od1 od2 a hj hk ej ek => by
    rcases get_set hj with ⟨rfl, e, hl⟩ | ⟨ne, hj⟩
    · rcases get_set hk with ⟨rfl, e', hl'⟩ | ⟨ne', hk⟩
      · rfl
      · rw [List.getElem?_set_self (by rw [r.len]; exact hl)] at ej
        rw [List.getElem?_set_ne ne'] at ek
        cases ej
        exact absurd ek (h4 k od2 ne' hk)
    · rcases get_set hk with ⟨rfl, e', hl'⟩ | ⟨ne', hk⟩
      · rw [List.getElem?_set_self (by rw [r.len]; exact hl')] at ek
        rw [List.getElem?_set_ne ne] at ej
        cases ek
        exact absurd ej (h4 j od1 ne hj)
      · rw [List.getElem?_set_ne ne] at ej
        rw [List.getElem?_set_ne ne'] at ek
        exact r.dist j k od1 od2 a hj hk ej ek
/-- what an assignment leaves, from the heaps H, G ahead of the expression -/
theorem asg_own {K : PySem.W.Frag} {i : Nat} {l : Addr} {o : HO} {od : OD} {H1 G1 : Hp} (r : Rel K cm σ H G env) (g : Grow H G H1 G1) (n : H l = none) (h1 : H1 l = some o) (h2 : G1 l = none) (h3 : OwnR K cm G1 o od) :
    Rel K cm (σ.set i (some (.ref l))) H1 G1 (env.set i (.own od)) ∧ Fr σ env H G (σ.set i (some (.ref l))) (env.set i (.own od)) H1 G1 := by
  have no : ∀ (j : Nat) (od' : OD), env[j]? = some (.own od') → σ[j]? ≠ some (some (.ref l)) := fun j od' hj ej => by
    obtain ⟨l', o', k1, k2, k3, k4⟩ := r.own j od' hj
    rw [ej] at k1
    cases k1
    rw [n] at k2
    cases k2
  refine ⟨(r.grow g).setOwn h1 h2 h3 fun j od' _ => no j od', { g.frH with fresh := fun a o' h w => ?_, take := fun j hj => ?_ }⟩
  · rintro ⟨j, od', hj, ej⟩
    rcases get_set hj with ⟨rfl, e, hl⟩ | ⟨ne, hj⟩
    · rw [List.getElem?_set_self (by rw [r.len]; exact hl)] at ej
      cases ej
      rw [n] at h
      cases h
    · rw [List.getElem?_set_ne ne] at ej
      exact w ⟨j, od', hj, ej⟩
  · rcases get_set hj with ⟨rfl, e, hl⟩ | ⟨ne, hj⟩
    · cases e
    · exact ⟨hj, List.getElem?_set_ne ne⟩
theorem asg_nx {K : PySem.W.Frag} {i : Nat} {r : R} {v : V} {H1 G1 : Hp} {D' : En} {D : Ends} (rel : Rel K cm σ H G env) (g : Grow H G H1 G1) (rr : RR K cm H H1 G1 v r) (hs : r.sh = false) (hn : D'.nx (env.set i r.slot)) (o : EndsOk K cm σ env H G D' D) : D.nx (σ.set i (some v)) H1 := by
  cases r with
  | vis d => exact o.nx _ _ _ _ ((rel.grow g).setVal rr) (g.fr.trans (.setVal g.sub)) hn
  | bor d => cases hs
  | fre od =>
    obtain ⟨l, ob, rfl, h1, h2, h3, h4⟩ := rr
    obtain ⟨q1, q2⟩ := asg_own (i := i) rel g h1 h2 h3 h4
    exact o.nx _ _ _ _ q1 q2 hn
theorem js_asg (i : Nat) {pos' : Pos} (hN : X.N.Nodup) (he : JE X cm e f) (hi : X.N[i]? = some x := by rfl) (hx : Loc X.env.scope x := by first | exact Or.inl rfl | exact Or.inr rfl) (hs : swapsWith e (some (.Name x pos')) pos.line X.env = pure false := by rfl)
    (hf : X.fn x = true ∨ X.env.scope.names.lookup x = some .local := by first | exact .inl rfl | exact .inr rfl | assumption) : JS X cm (.Assign [.Name x pos'] e pos) (wAsg i f) := by
  refine ⟨fun env D' σ H G hw rel D o => to_s (ps_set hN hi hx pe_w hs hf) ?_⟩
  obtain ⟨r, h1, h2, h3⟩ := hw
  refine he.run env r σ H G h1 rel _ fun v H1 G1 g1 rr => ?_
  exact asg_nx rel g1 rr h2 h3 o
/-- name = [comprehension] -/
theorem js_asgLc {elt : Expr} {ifs : List Expr} {scope : Scope} {js : List Nat} {fi : IF} {g : GF} {ft : TF} {fe : EF} {py : Pos} (i : Nat) (own : List (Str × Nat)) (hc : X.calm = true) (hN : X.N.Nodup) (hy : X.N[i]? = some x) (hyl : X.env.scope.names.lookup x = some .local)
    (hsw : swapsWith (.ListComp elt [⟨tg, iter, ifs, 0⟩] scope p) (some (.Name x py)) pos.line X.env = pure true) (hi : JI X cm tg iter fi) (ok : blkC X.N X.env.scope scope own = true)
    (hg : ∀ (s : Shared) (H : Hp) (C : Addr) (cl : List (Str × Addr)) (fp : List Addr), JG (X.blk s H scope (compEnvC scope cl C X.env) fp) cm tg js g) (hj : ∀ j ∈ js, j ∈ own.map (·.2))
    (ht : ∀ (s : Shared) (H : Hp) (C : Addr) (cl : List (Str × Addr)) (fp : List Addr), JTs (X.blk s H scope (compEnvC scope cl C X.env) fp) cm ifs ft)
    (he : ∀ (s : Shared) (H : Hp) (C : Addr) (cl : List (Str × Addr)) (fp : List Addr), JE (X.blk s H scope (compEnvC scope cl C X.env) fp) cm elt fe) (hs : ∀ x, foldedSetIterable iter X.env x = pure x := by intro _; rfl) :
    JS X cm (.Assign [.Name x py] (.ListComp elt [⟨tg, iter, ifs, 0⟩] scope p) pos) (wAsg i (eComp (own.map (·.2)) fi g ft fe)) := by
  refine ⟨fun env D' σ H G hw rel D o => to_s (ps_setLc hc hN hy hyl hsw pi_w (blkOk_by ok) (fun _ _ _ _ _ => pg_B) (fun _ _ _ _ _ => pt_B) (fun _ _ _ _ _ => pe_B) hs) ?_⟩
  obtain ⟨r, h1, h2, h3⟩ := hw
  refine je_comp hc hN hi ok hg hj ht he hs env r σ H G h1 rel _ fun v H1 G1 g1 rr => ?_
  exact asg_nx rel g1 rr h2 h3 o
/-- a, b = e, e a tuple -/
theorem js_unp {es : List Expr} {k : Nat} {is : List Nat} {pt : Pos} (hc : X.calm = true) (he : JE X cm e f) (hg : JGs X cm es is) (hn : (assignEach es X.env).length = is.length := by rfl) (hst : (assignEach es X.env).findIdx? (·.1) = none := by rfl)
    (hs : swapsWithSole [.Tuple es k pt] e pos.line X.env = pure false := by rfl) (hw : swappedStores [.Tuple es k pt] e X.env = pure none := by rfl) (h1 : (assignEach [.Tuple es k pt] X.env).map (·.2) = [assign (.Tuple es k pt) X.env] := by rfl) :
    JS X cm (.Assign [.Tuple es k pt] e pos) (wUnp is f) := by
  refine ⟨fun env D' σ H G hww rel D o => to_s (ps_asg pe_w pg_w hs hw h1) ?_⟩
  obtain ⟨d, env', k1, k2, k3⟩ := hww
  refine he.run env _ σ H G k1 rel _ fun v H1 G1 g1 rr => ?_
  refine (jg_tup hc hg hn hst).run env env' d v σ H1 G1 k2 (rel.grow g1) rr _ fun σ' rel' fr' _ _ => ?_
  exact o.nx _ _ _ _ rel' (g1.fr.trans fr') k3
/-- an object of a name's own is changed -/
theorem own_upd {K : PySem.W.Frag} {i : Nat} {l : Addr} {o o' : HO} {od od' : OD} {H1 G1 : Hp} (r : Rel K cm σ H G env) (g : Grow H G H1 G1) (hi : env[i]? = some (.own od)) (hl : σ[i]? = some (some (.ref l))) (h1 : H l = some o) (h2 : G l = none) (h3 : OwnR K cm G1 o' od') :
    Rel K cm σ (upd H1 l o') G1 (env.set i (.own od')) ∧ Fr σ env H G σ (env.set i (.own od')) (upd H1 l o') G1 := by
  have hlt : i < env.length := (List.getElem?_eq_some_iff.mp hi).1
  have hlt' : i < σ.length := by rw [r.len]; exact hlt
  have gl : G1 l = none := g.hid l o h1 h2
  have sub : Exx G1 (upd H1 l o') := fun a u e => by
    rw [upd_ne (ne_of_none e gl)]
    exact g.sub a u e
  have r1 := r.grow g
  refine ⟨⟨by rw [List.length_set]; exact r.len, sub, fun j d' hj => ?_, fun j od1 hj => ?_, fun j k od1 od2 a hj hk ej ek => ?_⟩, ⟨⟨g.gx, fun a u h n _ => g.hid a u h n, fun a u h w => ?_, fun a u h => ?_, sub⟩, fun a u h w => ?_, fun j hj => ?_⟩⟩
  · rcases get_set hj with ⟨rfl, e, _⟩ | ⟨ne, hj⟩
    · cases e
    · exact r1.val j d' hj
  · rcases get_set hj with ⟨rfl, e, _⟩ | ⟨ne, hj⟩
    · cases e
      exact ⟨l, o', hl, upd_same, gl, h3⟩
    · obtain ⟨l', u, k1, k2, k3, k4⟩ := r1.own j od1 hj
      have nl : l' ≠ l := fun q => by
        subst q
        exact ne (r.dist _ _ _ _ _ hi hj hl k1)
      exact ⟨l', u, k1, by rw [upd_ne nl]; exact k2, k3, k4⟩
  · rcases get_set hj with ⟨rfl, e, _⟩ | ⟨ne, hj⟩
    · rcases get_set hk with ⟨rfl, e', _⟩ | ⟨ne', hk⟩
      · rfl
      · exact r.dist _ k od od2 a hi hk ej ek
    · rcases get_set hk with ⟨rfl, e', _⟩ | ⟨ne', hk⟩
      · exact r.dist j _ od1 od a hj hi ej ek
      · exact r.dist j k od1 od2 a hj hk ej ek
  · have nl : a ≠ l := fun q => by
      subst q
      exact w ⟨i, od, hi, hl⟩
    rw [upd_ne nl]
    exact g.hx a u h
  · by_cases q : a = l
    · exact ⟨o', by rw [q]; exact upd_same⟩
    · exact ⟨u, by rw [upd_ne q]; exact g.hx a u h⟩
  · rintro ⟨j, od1, hj, ej⟩
    rcases get_set hj with ⟨rfl, e, _⟩ | ⟨ne, hj⟩
    · exact w ⟨_, od, hi, ej⟩
    · exact w ⟨j, od1, hj, ej⟩
  · rcases get_set hj with ⟨rfl, e, _⟩ | ⟨ne, hj⟩
    · cases e
    · exact ⟨hj, rfl⟩
/-- xs.append(e), xs a list of one's own -/
theorem js_app (i : Nat) {p1 p2 p3 : Pos} (he : JE X cm e f) (hN : X.N[i]? = some x := by rfl) (hv : Vis X.env.scope x := by first | exact Or.inl rfl | exact Or.inr (Or.inl rfl) | exact Or.inr (Or.inr rfl)) (hd : (x == ("__debug__" : Str)) = false := by decide)
    (hcd : (x == ("__classdict__" : Str)) = false := by decide) (hst : starEach [e] X.env = (false, eval e X.env) :: starEach [] X.env := by rfl)
    (hbm : ∀ {t : TE}, PE X (.Name x p3) t → ∀ {u : TA}, PA X [e] u → PE X (.Call (.Attribute (.Name x p3) "append" p2) [e] [] p1) (tBM X.K "list" rAppend t u) := by intro t h u h2; exact pe_bm PySem.F.plainAttrs_list PySem.F.slot_list_append PySem.F.type_list_append mt_append h h2)
    (hs : swapsWith (.Call (.Attribute (.Name x p3) "append" p2) [e] [] p1) none pos.line X.env = pure false := by rfl) : JS X cm (.Expr (.Call (.Attribute (.Name x p3) "append" p2) [e] [] p1) pos) (wApp i f) := by
  refine ⟨fun env D' σ H G hw rel D o => to_s (ps_expr (hbm (pe_var hN hv hd hcd) (pa_cons pe_w pa_nil hst)) hs) ?_⟩
  obtain ⟨ds, r, h1, h2, h3, h4, h5⟩ := hw
  obtain ⟨l, ob, k1, k2, k3, k4⟩ := rel.own i _ h1
  cases ob <;> first | exact k4.elim | skip
  rename_i vs
  have k4 : DenL X.K cm G vs ds := k4
  refine ⟨_, k1, .inl ⟨rfl, _, SqL.of k2⟩, he.pub h2 rel fun v H1 G1 g1 vr => ?_⟩
  rw [h3] at vr
  refine ⟨l, vs, v, rfl, rfl, g1.hx l _ k2, ?_, ?_⟩
  · rw [k4.length]
    exact Nat.lt_of_lt_of_le h4 (lim_ok (Nat.le_refl _))
  · obtain ⟨q1, q2⟩ := own_upd (o' := .lst (vs ++ [v])) (od' := .lst (ds ++ [r.dt])) rel g1 h1 k1 k2 k3 ((k4.mono g1.gx).append (.one vr.den))
    exact o.nx _ _ _ _ q1 q2 h5
/-- xs[k] = e, xs a list of one's own -/
theorem js_put (i : Nat) {k : Expr} {fk : EF} {p2 p3 : Pos} (he : JE X cm e f) (hk : JE X cm k fk) (hN : X.N[i]? = some x := by rfl) (hv : Vis X.env.scope x := by first | exact Or.inl rfl | exact Or.inr (Or.inl rfl) | exact Or.inr (Or.inr rfl)) (hd : (x == ("__debug__" : Str)) = false := by decide)
    (hcd : (x == ("__classdict__" : Str)) = false := by decide)
    (ha : ∀ v, assign (.Subscript (.Name x p3) k p2) X.env v = (do
      let ov ← holding [v] (eval (.Name x p3) X.env)
      let iv ← holding [v, ov] (eval k X.env)
      standAt p2
      holding [v, ov, iv] (setItem ov iv v)
      release [v, ov, iv] []) := by intro _; rfl)
    (hs : swapsWithSole [.Subscript (.Name x p3) k p2] e pos.line X.env = pure false := by rfl) (hw : swappedStores [.Subscript (.Name x p3) k p2] e X.env = pure none := by rfl) (h1 : (assignEach [.Subscript (.Name x p3) k p2] X.env).map (·.2) = [assign (.Subscript (.Name x p3) k p2) X.env] := by rfl) :
    JS X cm (.Assign [.Subscript (.Name x p3) k p2] e pos) (wPut i fk f) := by
  refine ⟨fun env D' σ H G hww rel D o => to_s (ps_asg pe_w (pg_sub (pe_var hN hv hd hcd) pe_w set_list ha) hs hw h1) ?_⟩
  obtain ⟨ds, r, j, h1, h2, h3, h4, h5, h6, h7⟩ := hww
  refine he.pub h2 rel fun v H1 G1 g1 vr => ?_
  rw [h3] at vr
  obtain ⟨l, ob, k1, k2, k3, k4⟩ := rel.own i _ h1
  cases ob <;> first | exact k4.elim | skip
  rename_i vs
  have k4 : DenL X.K cm G vs ds := k4
  refine ⟨_, k1, hk.run env _ σ H1 G1 h4 (rel.grow g1) _ fun kv H2 G2 g2 kr => ?_⟩
  cases (show Den _ _ _ _ _ from kr)
  have g := g1.trans g2
  refine ⟨l, vs, j, (if 0 ≤ j then j else j + ds.length).toNat, rfl, rfl, g.hx l _ k2, ?_, ?_⟩
  · unfold ixN
    rw [k4.length]
    by_cases h0 : 0 ≤ j
    · rw [if_pos h0, if_pos h6, if_pos h0]
    · rw [if_neg h0, if_pos h5, if_neg h0]
  · obtain ⟨q1, q2⟩ := own_upd (o' := .lst (vs.set (if 0 ≤ j then j else j + ds.length).toNat v)) (od' := .lst (ds.set (if 0 ≤ j then j else j + ds.length).toNat r.dt)) rel g h1 k1 k2 k3 (DenL.set (vr.den.mono g2.gx) _ (k4.mono g.gx))
    exact o.nx _ _ _ _ q1 q2 h7
/-! loops -/
theorem js_for {is : List Nat} {fi : IF} {g : GF} (hp : PassesOwn (model X.prog X.w) X.A X.env X.xe) (hc : X.calm = true) (hi : JI X cm tg iter fi) (hg : JG X cm tg is g) (hb : JSs X cm body wb) (hs : ∀ x, foldedSetIterable iter X.env x = pure x := by intro _; rfl) :
    JS X cm (.For tg iter body [] pos) (wFor fi g wb) := by
  refine ⟨fun env D' σ H G hw rel D o => to_s (ps_for hp hc pi_w pg_w pss_w hs) ?_⟩
  obtain ⟨ds, h1, I, i0, hturn, hend⟩ := hw
  refine hi.run env ds false σ H G h1 rel _ fun J H1 G1 g1 jok => ?_
  refine ⟨fun i m σ' H' => m = ds.length - i ∧ i ≤ ds.length ∧ ∃ G' env', Rel X.K cm σ' H' G' env' ∧ Fr σ env H1 G1 σ' env' H' G' ∧ I i env', ⟨ds.length, rfl, Nat.zero_le _, G1, env, rel.grow g1, .refl g1.sub, i0⟩, ?_⟩
  rintro i m σ' H' ⟨rfl, hi', G', env', rel', fr', inv⟩
  have st : StK H1 G1 false H' G' := ⟨rel'.sub, fr'.gx, fun e => (nomatch e)⟩
  by_cases hlt : i < ds.length
  · refine .inr ⟨jok.go i H' G' st hlt, fun σ2 H2 => ∃ G2 env2, Rel X.K cm σ2 H2 G2 env2 ∧ Fr σ env H1 G1 σ2 env2 H2 G2 ∧ I (i + 1) env2, fun σ2 H2 hw => ⟨ds.length - (i + 1), by omega, rfl, hlt, hw⟩, fun v H2 hy => ?_⟩
    obtain ⟨G2, d, hd, g2, dn⟩ := jok.yl i H' G' v H2 st hlt hy
    obtain ⟨env2, hg2, hb2⟩ := hturn i env' d hd inv
    refine hg.run env' env2 d v σ' H2 G2 hg2 (rel'.grow g2) dn _ fun σ3 rel3 fr3 _ _ => ?_
    have fr13 := (fr'.trans g2.fr).trans fr3
    have fr0 := g1.fr (σ := σ) (env := env) |>.trans fr13
    exact hb.run env2 _ σ3 H2 G2 hb2 rel3 _ ⟨fun σ4 H4 G4 env4 r4 f4 n4 => ⟨G4, env4, r4, fr13.trans f4, n4⟩, (o.later fr0).rt, (o.later fr0).nx, fun σ4 H4 G4 env4 r4 f4 n4 => ⟨G4, env4, r4, fr13.trans f4, n4⟩⟩
  · have e : i = ds.length := by omega
    subst e
    exact .inl ⟨jok.stop _ H' G' st (Nat.le_refl _), o.nx σ' H' G' env' rel' (g1.fr.trans fr') (hend env' inv)⟩
theorem js_while (hp : PassesOwn (model X.prog X.w) X.A X.env X.xe) (hc : JT X cm c t) (hb : JSs X cm body wb) : JS X cm (.While c body [] pos) (wWhile t wb) := by
  refine ⟨fun env D' σ H G hw rel D o => to_s (ps_while hp pt_w pss_w) ?_⟩
  obtain ⟨I, ⟨m0, i0⟩, hturn⟩ := hw
  refine ⟨fun m σ' H' => ∃ G' env', Rel X.K cm σ' H' G' env' ∧ Fr σ env H G σ' env' H' G' ∧ I m env', ⟨m0, G, env, rel, .refl rel.sub, i0⟩, ?_⟩
  rintro m σ' H' ⟨G', env', rel', fr', inv⟩
  obtain ⟨k, h1, h2, h3⟩ := hturn m env' inv
  refine hc.run env' k σ' H' G' h1 rel' _ fun H1 G1 g1 => ?_
  have fr1 := fr'.trans g1.fr
  cases k with
  | true =>
    refine iteT ⟨fun σ2 H2 => ∃ m', m' < m ∧ ∃ G2 env2, Rel X.K cm σ2 H2 G2 env2 ∧ Fr σ env H G σ2 env2 H2 G2 ∧ I m' env2, fun σ2 H2 ⟨m', hm, q⟩ => ⟨m', hm, q⟩, ?_⟩
    exact hb.run env' _ σ' H1 G1 (h2 rfl) (rel'.grow g1) _ ⟨fun σ4 H4 G4 env4 r4 f4 ⟨m', hm, n4⟩ => ⟨m', hm, G4, env4, r4, fr1.trans f4, n4⟩, (o.later fr1).rt, (o.later fr1).nx, fun σ4 H4 G4 env4 r4 f4 ⟨m', hm, n4⟩ => ⟨m', hm, G4, env4, r4, fr1.trans f4, n4⟩⟩
  | false => exact iteF (o.nx σ' H1 G1 env' (rel'.grow g1) fr1 (h3 rfl))
end
end Pyl
end
section
set_option Elab.async false
set_option linter.all false
set_option maxRecDepth 100000
set_option maxHeartbeats 4000000
namespace Pyl
open PySem L2
theorem start_get {N : List Str} {vs : List V} {i : Nat} {v : V} (h : vs[i]? = some v) : (start N vs)[i]? = some (some v) := by
  unfold L2.start
  have hl : i < vs.length := (List.getElem?_eq_some_iff.mp h).1
  rw [List.getElem?_append_left (by simpa using hl), List.getElem?_map, h]
  rfl
theorem startE_get {n : Nat} {ds : List Dt} {i : Nat} {s : Slot} (h : (startE n ds)[i]? = some s) : (∃ d, ds[i]? = some d ∧ s = .val d) ∨ s = .non := by
  unfold startE at h
  by_cases hl : i < ds.length
  · rw [List.getElem?_append_left (by simpa using hl), List.getElem?_map, List.getElem?_eq_getElem hl] at h
    cases h
    exact .inl ⟨_, List.getElem?_eq_getElem hl, rfl⟩
  · rw [List.getElem?_append_right (by simpa using hl), List.getElem?_replicate] at h
    split at h
    · cases h
      exact .inr rfl
    · cases h
theorem rel_start {K : PySem.W.Frag} {cm : Nat → Addr} {N : List Str} {vs : List V} {ds : List Dt} {H G : Hp} (s : Exx G H) (h : DenL K cm G vs ds) : Rel K cm (start N vs) H G (startE N.length ds) where
  len := by
    unfold L2.start startE
    rw [List.length_append, List.length_append, List.length_map, List.length_map, List.length_replicate, List.length_replicate, h.length]
  sub := s
  val := fun i d hi => by
    rcases startE_get hi with ⟨d', h1, e⟩ | e
    · cases e
      obtain ⟨v, h2, h3⟩ := h.get h1
      exact ⟨v, start_get h2, h3⟩
    · cases e
  own := fun i od hi => by
    rcases startE_get hi with ⟨d', h1, e⟩ | e <;> cases e
  dist := fun i j od od' a hi hj => by
    rcases startE_get hi with ⟨d', h1, e⟩ | e <;> cases e
theorem no_own {σ : L2.St} {n : Nat} {ds : List Dt} {a : Addr} : ¬ Own σ (startE n ds) a := by
  rintro ⟨i, od, hi, _⟩
  rcases startE_get hi with ⟨d', h1, e⟩ | e <;> cases e
theorem FrH.grow {σ : L2.St} {n : Nat} {ds : List Dt} {H G H' G' : Hp} (f : FrH σ (startE n ds) H G H' G') : Grow H G H' G' := ⟨fun a o h => f.keep a o h no_own, f.gx, fun a o h n => f.hid a o h n no_own, f.sub⟩
section
variable {P : Program} {w : World} {K : PySem.W.Frag} {mg : Str → Option Value} {base : Heap} {cm : Nat → Addr}
/-- the context of a def's body in which nothing is raised -/
abbrev cxN (P : Program) (w : World) (K : PySem.W.Frag) (mg : Str → Option Value) (base : Heap) (N : List Str) (qual : Str) (st : Stmt) (f : Addr) (cdv : Value) (A : Around) (outer : List Env) (s : Shared) (H : Hp) (E : XK) : Cx := (cxOf CX0 P w K mg base N qual (defScope st) f cdv A outer s H E).nox
theorem fn_ok {x qual : Str} {st : Stmt} {f : Addr} {fd : FuncData} {N ps : List Str} {k : Nat} {F : FN} (Fu : Fun K x qual st f fd) (S : FnScope N ps (defScope st)) (hlen : ∀ ds r, F ds = some r → ds.length = ps.length) (wd : WS) (hk : Keeps N.length wd F)
    (hb : ∀ (cdv : Value) (A : Around) (outer : List Env) (s : Shared) (H : Hp) (E : XK), Room k (A.deeper (PyProof.Rows.envOfC qual (defScope st) s.heap.objs.size f cdv)) → JSs (cxN P w K mg base N qual st f cdv A outer s H E) cm (defBody st) wd) :
    FnOk P w K mg base CX0 (k + 1) f fd ps (spP K cm F) := by
  refine Fu.ok S (fun vs H Q E h => ?_) (fun cdv A outer s H vs Q E hr h => ⟨_, pss_w, ?_⟩)
  · obtain ⟨G, ds, r, _, h2, h3, _⟩ := h
    rw [h2.length]
    exact hlen ds r h3
  · obtain ⟨G, ds, r, h1, h2, h3, h4⟩ := h
    refine (hb cdv A outer s H E hr).run (startE N.length ds) _ (start N vs) H G (hk ds r h3) (rel_start h1 h2) _ ⟨fun σ' H' G' env' rel fr e => ?_, fun v H' G' d fr den e => ?_, fun _ _ _ _ _ _ z => z.elim, fun _ _ _ _ _ _ z => z.elim⟩
    · have e : r = .non := e
      subst e
      exact h4 _ H' G' fr.toFrH.grow Den.non
    · have e : d = r := e
      subst e
      exact h4 v H' G' fr.grow den
/-- a def of the text as it stands behind the top -/
theorem fnC_mk {x : Str} {st : Stmt} {f : Addr} {fd : FuncData} {ps : List Str} {k : Nat} {F : FN} (Fu : Fun K x x st f fd) (hm : mg x = some (.ref f)) (hb : Binds K fd ps []) (ok : FnOk P w K mg base CX0 k f fd ps (spP K cm F)) : FnC P w K mg base cm k x F :=
  ⟨f, fd, ps, ok, hm, Fu.kp, hb⟩
theorem blk_by (N : List Str) (sc : Scope) {scope : Scope} {own : List (Str × Nat)} (h : blkC N sc scope own = true) : blkC N sc scope own = true := h
/-- the law: of every script True -/
def lawF (g : List Int → Bool) : FN := fun ds => match ds with
  | [.lst xs] => (intsOf xs).bind fun ns => if ns.length ≤ 63 then some (.bl (g ns)) else none
  | _ => none
theorem intsOf_map : ∀ ns : List Int, intsOf (ns.map Dt.int) = some ns
  | [] => rfl
  | n :: ns => by
    rw [List.map_cons]
    unfold intsOf
    rw [intsOf_map ns]
    rfl
theorem denL_ints {G : Hp} : ∀ ns : List Int, DenL K cm G (ns.map V.int) (ns.map Dt.int)
  | [] => .nil
  | n :: ns => .cons (.int n) (denL_ints ns)
/-- what the promise of the law asks of a script -/
theorem law_sp {F : FN} {H : Hp} {a : Addr} {ns : List Int} (hF : ∀ ns : List Int, ns.length ≤ 63 → F [.lst (ns.map .int)] = some (.bl true)) (hl : ns.length ≤ 63) (hS : SqL K H a (ns.map V.int)) : spP K cm F [.ref a] H (fun v _ => v = .bl true) fun _ _ _ => False :=
  ⟨H, _, _, .refl H, .one (.lst hS (denL_ints ns)), hF ns hl, fun v H' G' _ den => by cases den; rfl⟩
end
end Pyl
end
section
set_option Elab.async false
set_option linter.all false
set_option maxRecDepth 100000
set_option maxHeartbeats 2000000
namespace Pyl
open PySem L2
section
variable {X : Cx} {cm : Nat → Addr} {a b c : Expr} {fa fb fc : EF} {σ : L2.St} {H G : Hp} {env : Sl} {pos p : Pos} {st : Stmt} {x : Str}
theorem js_dead : JS X cm st wDead := ⟨fun env D' σ H G hw rel D o => hw.elim⟩
/-- whatever rule fits -/
def rAny (X : Cx) (f : Value → Value → Sem Value) : R2 := fun x y H Q => ∃ rr : R2, OpR X f rr ∧ rr x y H Q
theorem op_any {f : Value → Value → Sem Value} : OpR X f (rAny X f) := by
  intro pins s σ H x y v u Q I rx ry q
  obtain ⟨rr, ho, hr⟩ := q
  exact ho pins s σ H x y v u Q I rx ry hr
theorem p2_any {f : Value → Value → Sem Value} {pf : Dt → Dt → Option R} (ok : P2 X cm f pf) {d1 d2 : Dt} {b1 b2 : Bool} {out : R} {v1 v2 : V} (r1 : VR X.K cm H G v1 d1 b1) (r2 : VR X.K cm H G v2 d2 b2) (s : Exx G H) (e : pf d1 d2 = some out) {Q : VK}
    (q : ∀ v H' G', Grow H G H' G' → RR X.K cm H H' G' v out → Q v H') : rAny X f v1 v2 H Q := by
  obtain ⟨rr, ho, hr⟩ := ok _ _ _ _ _ _ _ H G r1 r2 s e
  exact ⟨rr, ho, hr Q q⟩
theorem chain_ok {f f' : Value → Value → Sem Value} {pf qf : Dt → Dt → Option R} (ok : P2 X cm f pf) (ok' : P2 X cm f' qf) (ha : JE X cm a fa) (hb : JE X cm b fb) (hc : JE X cm c fc) {r : R} (hf : eChain pf qf fa fb fc env = some r) (rel : Rel X.K cm σ H G env) {Q : VK}
    (q : ∀ v H' G', Grow H G H' G' → RR X.K cm H H' G' v r → Q v H') : tChain (rAny X f) (rAny X f') (wpE X a) (wpE X b) (wpE X c) σ H Q := by
  obtain ⟨ra, h1, hf⟩ := Option.bind_eq_some_iff.mp hf
  obtain ⟨rb, h2, hf⟩ := Option.bind_eq_some_iff.mp hf
  refine ha.pub h1 rel fun v H1 G1 g1 vr => hb.pub h2 (rel.grow g1) fun w H2 G2 g2 wr => ?_
  have g12 := g1.trans g2
  split at hf
  · rename_i e
    obtain ⟨rc, h3, hf⟩ := Option.bind_eq_some_iff.mp hf
    refine p2_any ok (vr.grow g2) wr g2.sub e fun z H3 G3 g3 zr => ?_
    cases (show Den _ _ _ _ _ from zr)
    refine ⟨true, rfl, ?_⟩
    rw [if_pos rfl]
    refine hc.pub h3 (rel.grow (g12.trans g3)) fun u H4 G4 g4 ur => ?_
    have g14 := (g12.trans g3).trans g4
    exact p2_any ok' (wr.grow (g3.trans g4)) ur g4.sub hf fun z' H5 G5 g5 zr' => q z' H5 G5 (g14.trans g5) (zr'.hx g14.hx)
  · rename_i e
    cases hf
    refine p2_any ok (vr.grow g2) wr g2.sub e fun z H3 G3 g3 zr => ?_
    cases (show Den _ _ _ _ _ from zr)
    refine ⟨false, rfl, ?_⟩
    rw [if_neg Bool.false_ne_true]
    exact q _ H3 G3 (g12.trans g3) (Den.bl _)
  · cases hf
theorem je_chain {op op' : CmpOp} {pf qf : Dt → Dt → Option R} (ok : P2 X cm (compareOp op) pf) (ok' : P2 X cm (compareOp op') qf) (ha : JE X cm a fa) (hb : JE X cm b fb) (hc : JE X cm c fc)
    (hm : lastMarks [op, op'] [b, c] = false := by with_unfolding_all rfl) : JE X cm (.Compare a [op, op'] [b, c] pos) (eChain pf qf fa fb fc) :=
  ⟨fun env r σ H G hf rel Q q => to_e (pe_chain op_any op_any pe_w pe_w pe_w hm) (chain_ok ok ok' ha hb hc hf rel q)⟩
theorem jt_chain {op op' : CmpOp} {pf qf : Dt → Dt → Option R} (ok : P2 X cm (compareOp op) pf) (ok' : P2 X cm (compareOp op') qf) (ha : JE X cm a fa) (hb : JE X cm b fb) (hc : JE X cm c fc)
    (hm : lastMarks [op, op'] [b, c] = false := by with_unfolding_all rfl) : JT X cm (.Compare a [op, op'] [b, c] pos) (tVal (eChain pf qf fa fb fc)) := by
  refine ⟨fun env r σ H G hf rel Q q pins s I => ?_⟩
  unfold tVal at hf
  split at hf
  · rename_i b' h1
    cases hf
    refine (pt_chain op_any op_any pe_w pe_w pe_w hm).run pins s σ H _ I (chain_ok ok ok' ha hb hc h1 rel fun v H' G' g vr => ?_)
    cases (show Den _ _ _ _ _ from vr)
    exact ⟨_, rfl, q H' G' g⟩
  · cases hf
/-! math.gcd, math.comb -/
theorem je_f2 {id : String} {pf : Dt → Dt → Option R} (ok : P2c X cm (.builtin id) pf) (hg : Gl X x) (hm : X.mg x = some (.builtin id)) (ha : JE X cm a fa) (hb : JE X cm b fb) (hdb : (x == ("__debug__" : Str)) = false := by decide)
    (h0 : starEach [b] X.env = (false, eval b X.env) :: starEach [] X.env := by rfl) (he : starEach [a, b] X.env = (false, eval a X.env) :: starEach [b] X.env := by rfl) (hpl : (backTo pos (starEach [b] X.env)).any (·.1) = false := by rfl) : JE X cm (.Call (.Name x p) [a, b] [] pos) (e2 pf fa fb) := by
  refine ⟨fun env r σ H G hf rel Q q => ?_⟩
  obtain ⟨ra, h1, hf⟩ := Option.bind_eq_some_iff.mp hf
  obtain ⟨rb, h2, hf⟩ := Option.bind_eq_some_iff.mp hf
  obtain ⟨rr, hc, hr⟩ := ok
  refine to_e (pe_callBfun hc hg hm (pa_cons pe_w (pa_cons pe_w pa_nil h0) he) hdb he hpl) (ha.pub h1 rel fun v H1 G1 g1 vr => hb.pub h2 (rel.grow g1) fun w H2 G2 g2 wr => ?_)
  exact hr _ _ _ _ _ v w H2 G2 (vr.grow g2) wr g2.sub hf Q fun v' H3 G3 g3 rr3 => q v' H3 G3 ((g1.trans g2).trans g3) (rr3.hx (g1.trans g2).hx)
theorem p2c_gcd : P2c X cm (.builtin "math.gcd") pGcd := ⟨_, cr_gcd, fun d d2 b b2 out v v2 H G vr vr2 sub hp Q q => by
  unfold pGcd at hp
  split at hp
  · cases hp
    have e := vr.int
    have e2 := vr2.int
    subst e e2
    exact ⟨_, _, rfl, q _ _ _ (.refl sub) (Den.int _)⟩
  · cases hp⟩
theorem fp_up (n : Int) : ∀ k : Nat, Builtin.Math.fallingProduct (n + 1) (k + 1) = (n + 1) * Builtin.Math.fallingProduct n k
  | 0 => by rw [PySem.W.mc_fp_one, PySem.W.mc_fp_zero, Int.mul_one]
  | k + 1 => by
    rw [PySem.W.mc_fp_succ (n + 1) (k + 1), fp_up n k, PySem.W.mc_fp_succ n k, Int.mul_assoc]
    congr 2
    omega
theorem fp_choose : ∀ n k : Nat, Builtin.Math.fallingProduct n k = chooseN n k * Builtin.Math.fallingProduct k k
  | n, 0 => by unfold chooseN; rfl
  | 0, k + 1 => by
    unfold chooseN
    rw [PySem.W.mc_fp_succ]
    have h : ∀ j : Nat, Builtin.Math.fallingProduct ((0 : Nat) : Int) (j + 1) = 0 := fun j => by
      induction j with
      | zero => rfl
      | succ j ih => rw [PySem.W.mc_fp_succ, ih, Int.zero_mul]
    rw [← PySem.W.mc_fp_succ, h k]
    exact (Int.zero_mul _).symm
  | n + 1, k + 1 => by
    have h1 := fp_choose n k
    have h2 := fp_choose n (k + 1)
    rw [PySem.W.mc_fp_succ] at h2
    have e1 : Builtin.Math.fallingProduct (((n + 1 : Nat)) : Int) (k + 1) = ((n : Int) + 1) * Builtin.Math.fallingProduct n k := fp_up n k
    have e2 : Builtin.Math.fallingProduct (((k + 1 : Nat)) : Int) (k + 1) = ((k : Int) + 1) * Builtin.Math.fallingProduct k k := fp_up k k
    rw [e1]
    show _ = ((chooseN n k + chooseN n (k + 1) : Nat) : Int) * _
    generalize Builtin.Math.fallingProduct (((k + 1 : Nat)) : Int) (k + 1) = z at *
    generalize Builtin.Math.fallingProduct (n : Int) k = y at *
    have e3 : (chooseN n k : Int) * z = ((k : Int) + 1) * y := by
      rw [h1, e2, Int.mul_left_comm]
    rw [Int.natCast_add, Int.add_mul (chooseN n k : Int), ← h2, e3, Int.mul_comm y, ← Int.add_mul]
    congr 1
    omega
theorem choose_zero (n : Nat) : chooseN n 0 = 1 := by unfold chooseN; rfl
theorem choose_above : ∀ {n k : Nat}, n < k → chooseN n k = 0
  | 0, k + 1, _ => by unfold chooseN; rfl
  | n + 1, k + 1, h => by
    unfold chooseN
    rw [choose_above (n := n) (k := k) (by omega), choose_above (n := n) (k := k + 1) (by omega)]
theorem choose_self : ∀ n : Nat, chooseN n n = 1
  | 0 => by unfold chooseN; rfl
  | n + 1 => by
    unfold chooseN
    rw [choose_self n, choose_above (Nat.lt_succ_self n)]
theorem choose_symm : ∀ n a b : Nat, a + b = n → chooseN n a = chooseN n b
  | n, 0, b, h => by
    rw [Nat.zero_add] at h
    subst h
    rw [choose_zero, choose_self]
  | n, a + 1, 0, h => by
    rw [Nat.add_zero] at h
    subst h
    rw [choose_zero, choose_self]
  | n + 1, a + 1, b + 1, h => by
    show chooseN n a + chooseN n (a + 1) = chooseN n b + chooseN n (b + 1)
    rw [choose_symm n a (b + 1) (by omega), choose_symm n (a + 1) b (by omega)]
    omega
theorem comb_choose (n k : Nat) : PySem.W.mcComb n k = chooseN n k := by
  by_cases h : k ≤ n
  · have hd : ∀ m : Nat, m ≤ n → Builtin.Math.fallingProduct n m / Builtin.Math.fallingProduct m m = chooseN n m := fun m hm => by
      have hp := PySem.W.mc_fp_pos (n := m) m (Int.le_refl _)
      rw [fp_choose n m]
      exact Int.mul_ediv_cancel _ (by omega)
    rcases Nat.le_total k (n - k) with h2 | h2
    · rw [PySem.W.mcComb_at (m := k) (by omega) (by omega) (by omega), Int.toNat_natCast]
      exact hd k h
    · rw [PySem.W.mcComb_at (m := ((n - k : Nat) : Int)) (by omega) (by omega) (by omega), Int.toNat_natCast, hd (n - k) (Nat.sub_le _ _), choose_symm n (n - k) k (by omega)]
  · rw [PySem.W.mcComb_above (by omega), choose_above (by omega)]
    rfl
def rComb : List V → Hp → VK → Prop := fun vs H Q => ∃ a b : Int, vs = [.int a, .int b] ∧ (0 ≤ a ∧ a ≤ 9000 ∧ 0 ≤ b) ∧ Q (.int (chooseN a.toNat b.toNat : Nat)) H
theorem cr_comb : CallR X (.builtin "math.comb") rComb := by
  intro pins s σ H vs us Q I r h
  obtain ⟨a, b, rfl, ⟨h1, h2, h3⟩, q⟩ := h
  obtain ⟨t, u, rfl⟩ := Vals.int2 r
  obtain ⟨a, rfl⟩ : ∃ z : Nat, a = z := ⟨a.toNat, by omega⟩
  obtain ⟨b, rfl⟩ : ∃ z : Nat, b = z := ⟨b.toNat, by omega⟩
  rw [Int.toNat_natCast, Int.toNat_natCast, ← comb_choose] at q
  exact PySem.W.mc_comb h1 h3 (by omega) (Or.inr (by omega)) fun _ => ⟨.int _, H, I.tok _, ⟨_, rfl⟩, q⟩
theorem p2c_comb : P2c X cm (.builtin "math.comb") pComb := ⟨_, cr_comb, fun d d2 b b2 out v v2 H G vr vr2 sub hp Q q => by
  unfold pComb at hp
  split at hp
  · split at hp
    · rename_i hk
      cases hp
      have e := vr.int
      have e2 := vr2.int
      subst e e2
      exact ⟨_, _, rfl, hk, q _ _ _ (.refl sub) (Den.int _)⟩
    · cases hp
  · cases hp⟩
theorem je_gcd (hg : Gl X "gcd") (hm : X.mg "gcd" = some (.builtin "math.gcd")) (ha : JE X cm a fa) (hb : JE X cm b fb)
    (h0 : starEach [b] X.env = (false, eval b X.env) :: starEach [] X.env := by rfl) (he : starEach [a, b] X.env = (false, eval a X.env) :: starEach [b] X.env := by rfl) (hpl : (backTo pos (starEach [b] X.env)).any (·.1) = false := by rfl) : JE X cm (.Call (.Name "gcd" p) [a, b] [] pos) (e2 pGcd fa fb) := je_f2 p2c_gcd hg hm ha hb (by decide) h0 he hpl
theorem je_comb (hg : Gl X "comb") (hm : X.mg "comb" = some (.builtin "math.comb")) (ha : JE X cm a fa) (hb : JE X cm b fb)
    (h0 : starEach [b] X.env = (false, eval b X.env) :: starEach [] X.env := by rfl) (he : starEach [a, b] X.env = (false, eval a X.env) :: starEach [b] X.env := by rfl) (hpl : (backTo pos (starEach [b] X.env)).any (·.1) = false := by rfl) : JE X cm (.Call (.Name "comb" p) [a, b] [] pos) (e2 pComb fa fb) := je_f2 p2c_comb hg hm ha hb (by decide) h0 he hpl
/-! a global name of an int -/
theorem je_gint {i : Int} {k : Tok} (hg : Gl X x) (hm : X.mg x = some (.int i k)) (hd : (x == ("__debug__" : Str)) = false := by decide) : JE X cm (.Name x p) (eC (.int i)) := ⟨fun env r σ H G hf rel Q q => by
  cases hf
  exact to_e (pe_glob hg hm (v := .int i) ⟨_, rfl⟩ hd) (q _ H G (.refl rel.sub) (Den.int i))⟩
/-! range with a step -/
theorem stepD_length (a c : Int) (n : Nat) : (stepD a c n).length = n := by
  unfold stepD
  rw [List.length_map, List.length_range]
theorem itc_ok {K : PySem.W.Frag} {lo c : Int} {n : Nat} {t : Bool} {H0 G0 : Hp} : ItOk K cm (Itc lo c n) (stepD lo c n) t H0 G0 where
  go := fun i H G s hi => by
    rw [stepD_length] at hi
    exact hi
  yl := fun i H G v H' s hi y => by
    obtain ⟨rfl, rfl⟩ := y
    rw [stepD_length] at hi
    refine ⟨G, .int (lo + (i : Int) * c), ?_, .refl s.sub, .int _⟩
    unfold stepD
    rw [List.getElem?_map, List.getElem?_range hi]
    rfl
  stop := fun i H G s hi => by
    rw [stepD_length] at hi
    exact hi
theorem rgc_of {i j k : Int} (hk : (0 < k ∧ k < 1073741824) ∨ k = -1) (hi : -1099511627776 ≤ i ∧ i ≤ 1099511627776) (hj : -1099511627776 ≤ j ∧ j ≤ 1099511627776) : RgC i j k (stepN i j k) := by
  rcases hk with ⟨h0, h1⟩ | rfl
  · have hs : Builtin.Range.rangeSize i j k = (stepN i j k : Nat) ∧ (stepN i j k : Int) ≤ 2199023255552 := by
      unfold Builtin.Range.rangeSize stepN
      rw [if_pos h0, if_pos h0]
      split
      · have h2 : (j - i - 1) / k ≤ j - i - 1 := Int.ediv_le_self _ (by omega)
        have h3 : 0 ≤ (j - i - 1) / k := Int.ediv_nonneg (by omega) (by omega)
        omega
      · omega
    refine ⟨by omega, by omega, ?_, hs.1⟩
    unfold Builtin.Range.small
    rw [hs.1]
    generalize stepN i j k = n at *
    have h4 : k > 0 := h0
    rw [if_pos h4]
    simp only [Builtin.Range.rangeFitsLong, Bool.and_eq_true, Bool.or_eq_true, decide_eq_true_eq, beq_iff_eq]
    omega
  · have e : stepN i j (-1) = (i - j).toNat := by
      unfold stepN
      rw [if_neg (by decide)]
    rw [e]
    exact RgC.neg (by omega) (by omega) (by omega) (by omega)
theorem ji_range3 {tg : Expr} (hg : Gl X "range") (hm : X.mg "range" = none) (ha : JE X cm a fa) (hb : JE X cm b fb) (hc : JE X cm c fc) (hs : starEach [a, b, c] X.env = (false, eval a X.env) :: starEach [b, c] X.env := by rfl) (hpl : (backTo pos (starEach [b, c] X.env)).any (·.1) = false := by rfl)
    (he2 : starEach [b, c] X.env = (false, eval b X.env) :: starEach [c] X.env := by rfl) (he3 : starEach [c] X.env = (false, eval c X.env) :: starEach [] X.env := by rfl) : JI X cm tg (.Call (.Name "range" p) [a, b, c] [] pos) (iRange3 fa fb fc) := by
  refine ⟨fun env ds t σ H G hf rel Q q => ?_⟩
  obtain ⟨ra, h1, hf⟩ := Option.bind_eq_some_iff.mp hf
  obtain ⟨rb, h2, hf⟩ := Option.bind_eq_some_iff.mp hf
  obtain ⟨rc, h3, hf⟩ := Option.bind_eq_some_iff.mp hf
  split at hf
  · rename_i i j k e1 e2 e3
    split at hf
    · rename_i hn
      cases hf
      refine to_i (pi_range3 hg hm (pa_cons pe_w (pa_cons pe_w (pa_cons pe_w pa_nil he3) he2) hs) hs hpl) (ha.pub h1 rel fun v H1 G1 g1 vr => hb.pub h2 (rel.grow g1) fun w H2 G2 g2 wr => hc.pub h3 (rel.grow (g1.trans g2)) fun u H3 G3 g3 ur => ?_)
      rw [e1] at vr
      rw [e2] at wr
      rw [e3] at ur
      have ev := vr.int
      have ew := wr.int
      have eu := ur.int
      subst ev ew eu
      exact ⟨i, j, k, _, rfl, rgc_of hn.1 hn.2.1 hn.2.2, q _ H3 G3 ((g1.trans g2).trans g3) itc_ok⟩
    · cases hf
  · cases hf
end
end Pyl
end
section
set_option Elab.async false
set_option linter.all false
set_option maxRecDepth 100000
set_option maxHeartbeats 4000000
namespace Pyl
open PySem L2
def topS (i : Nat) : Stmt := PySem.Challenge.pw_fooledortold_k68_rows_told.main.body.getD i (.Pass ⟨0, 0, 0, 0⟩)
abbrev s_lowest : Stmt := topS 5
abbrev s_powers_of : Stmt := topS 8
abbrev s_ways_of : Stmt := topS 9
abbrev s_tail : Stmt := topS 10
abbrev s_rows_told : Stmt := topS 11
abbrev s__law_whole : Stmt := topS 13
abbrev s__law_cell : Stmt := topS 14
abbrev s__law_digits : Stmt := topS 15
abbrev s__law_fault_chance : Stmt := topS 16
abbrev s__law_majorities : Stmt := topS 17
abbrev s__law_due_number : Stmt := topS 18
abbrev s__law_most_inputs : Stmt := topS 19
abbrev s__law_answered : Stmt := topS 20
abbrev s_law : Stmt := topS 21
section
variable {P : Program} {w : World} {K : PySem.W.Frag} {mg : Str → Option Value} {base : Heap} {cm : Nat → Addr} {f : Addr} {fd : FuncData}
theorem sc_lowest : FnScope ["top", "bottom", "common"] ["top", "bottom"] (defScope s_lowest) := ⟨rfl, rfl, rfl, by decide +kernel, rfl, by decide +kernel, by decide +kernel⟩
theorem ok_lowest (Fu : Fun K "lowest" "lowest" s_lowest f fd) (m_gcd : mg "gcd" = some (.builtin "math.gcd"))  : FnOk P w K mg base CX0 1 f fd ["top", "bottom"] (spP K cm F_lowest) :=
  have scN := sc_lowest
  fn_ok Fu scN len_lowest w_lowest k_lowest fun cdv A outer s H E hr =>
  (jss_cons (js_if (jt_cmp (p2_eq hr.units) (je_var 1) je_int)
  (jss_one js_dead)
  jss_nil)
  (jss_cons (js_asg 2 scN.nd (je_gcd (by rfl) m_gcd (je_var 0) (je_var 1)))
  (jss_cons (js_if (jt_cmp p2_lt (je_var 1) je_int)
  (jss_one (js_asg 2 scN.nd (je_neg (je_var 2))))
  jss_nil)
  (jss_one (js_ret (je_tup (ja_cons (je_bin p2_div (je_var 0) (je_var 2)) (ja_cons (je_bin p2_div (je_var 1) (je_var 2)) ja_nil))))))))
theorem sc_powers_of : FnScope ["number", "most", "powers", "_"] ["number", "most"] (defScope s_powers_of) := ⟨rfl, rfl, rfl, by decide +kernel, rfl, by decide +kernel, by decide +kernel⟩
theorem ok_powers_of (Fu : Fun K "powers_of" "powers_of" s_powers_of f fd) (m_range : mg "range" = none)  : FnOk P w K mg base CX0 1 f fd ["number", "most"] (spP K cm F_powers_of) :=
  have scN := sc_powers_of
  fn_ok Fu scN len_powers_of w_powers_of k_powers_of fun cdv A outer s H E hr =>
  (jss_cons (js_asg 2 scN.nd (je_lst (ja_cons je_int ja_nil)))
  (jss_cons (js_for PassesOwn.never rfl (ji_range1 (by rfl) m_range (je_var 1)) (jg_name 3 scN.nd)
  (jss_one (js_app 2 (je_bin p2_mul (je_ix (je_var 2) (je_neg je_int)) (je_var 0)))))
  (jss_frz 2 (jss_one (js_ret (je_var 2))))))
theorem sc_ways_of : FnScope ["hit_powers", "miss_powers", "runs", "hits"] ["hit_powers", "miss_powers", "runs", "hits"] (defScope s_ways_of) := ⟨rfl, rfl, rfl, by decide +kernel, rfl, by decide +kernel, by decide +kernel⟩
theorem ok_ways_of (Fu : Fun K "ways_of" "ways_of" s_ways_of f fd) (m_comb : mg "comb" = some (.builtin "math.comb"))  : FnOk P w K mg base CX0 1 f fd ["hit_powers", "miss_powers", "runs", "hits"] (spP K cm F_ways_of) :=
  have scN := sc_ways_of
  fn_ok Fu scN len_ways_of w_ways_of k_ways_of fun cdv A outer s H E hr =>
  (jss_one (js_ret (je_bin p2_mul (je_bin p2_mul (je_comb (by rfl) m_comb (je_var 2) (je_var 3)) (je_ix (je_var 0) (je_var 3))) (je_ix (je_var 1) (je_bin p2_sub (je_var 2) (je_var 3))))))
theorem sc_tail : FnScope ["runs", "share", "least", "hit_powers", "miss_powers", "ways", "hits", "top", "bottom"] ["runs", "share", "least"] (defScope s_tail) := ⟨rfl, rfl, rfl, by decide +kernel, rfl, by decide +kernel, by decide +kernel⟩
theorem ok_tail (Fu : Fun K "tail" "tail" s_tail f fd) (m_range : mg "range" = none) (c_lowest : FnC P w K mg base cm 1 "lowest" F_lowest) (c_powers_of : FnC P w K mg base cm 1 "powers_of" F_powers_of) (c_ways_of : FnC P w K mg base cm 1 "ways_of" F_ways_of) : FnOk P w K mg base CX0 2 f fd ["runs", "share", "least"] (spP K cm F_tail) :=
  have scN := sc_tail
  fn_ok Fu scN len_tail w_tail k_tail fun cdv A outer s H E hr =>
  (jss_cons (js_unp rfl (je_call c_lowest (hr.mono (by decide)) (by rfl) (ja_cons (je_ix (je_var 1) je_int) (ja_cons (je_ix (je_var 1) je_int) ja_nil))) (jgs_cons 7 scN.nd (jgs_cons 8 scN.nd jgs_nil)))
  (jss_cons (js_asg 3 scN.nd (je_call c_powers_of (hr.mono (by decide)) (by rfl) (ja_cons (je_var 7) (ja_cons (je_var 0) ja_nil))))
  (jss_cons (js_asg 4 scN.nd (je_call c_powers_of (hr.mono (by decide)) (by rfl) (ja_cons (je_bin p2_sub (je_var 8) (je_var 7)) (ja_cons (je_var 0) ja_nil))))
  (jss_cons (js_asg 5 scN.nd je_int)
  (jss_cons (js_for PassesOwn.never rfl (ji_range2 (by rfl) m_range (je_var 2) (je_bin p2_add (je_var 0) je_int)) (jg_name 6 scN.nd)
  (jss_one (js_asg 5 scN.nd (je_bin p2_add (je_var 5) (je_call c_ways_of (hr.mono (by decide)) (by rfl) (ja_cons (je_var 3) (ja_cons (je_var 4) (ja_cons (je_var 0) (ja_cons (je_var 6) ja_nil)))))))))
  (jss_one (js_ret (je_call c_lowest (hr.mono (by decide)) (by rfl) (ja_cons (je_var 5) (ja_cons (je_ix (je_call c_powers_of (hr.mono (by decide)) (by rfl) (ja_cons (je_var 8) (ja_cons (je_var 0) ja_nil))) (je_var 0)) ja_nil))))))))))
theorem sc_rows_told : FnScope ["inputs", "share", "runs", "danger"] ["inputs", "share"] (defScope s_rows_told) := ⟨rfl, rfl, rfl, by decide +kernel, rfl, by decide +kernel, by decide +kernel⟩
theorem ok_rows_told (Fu : Fun K "rows_told" "rows_told" s_rows_told f fd) {t_MOST_RUNS : Tok} (m_MOST_RUNS : mg "MOST_RUNS" = some (.int 151 t_MOST_RUNS)) (m_range : mg "range" = none) (c_tail : FnC P w K mg base cm 2 "tail" F_tail) : FnOk P w K mg base CX0 3 f fd ["inputs", "share"] (spP K cm F_rows_told) :=
  have scN := sc_rows_told
  fn_ok Fu scN len_rows_told w_rows_told k_rows_told fun cdv A outer s H E hr =>
  (jss_cons (js_for PassesOwn.never rfl (ji_range3 (by rfl) m_range je_int (je_bin p2_add (je_gint (by rfl) m_MOST_RUNS) je_int) je_int) (jg_name 2 scN.nd)
  (jss_cons (js_asg 3 scN.nd (je_call c_tail (hr.mono (by decide)) (by rfl) (ja_cons (je_var 2) (ja_cons (je_var 1) (ja_cons (je_bin p2_div (je_bin p2_add (je_var 2) je_int) je_int) ja_nil)))))
  (jss_one (js_if (jt_cmp p2_lt (je_bin p2_mul (je_var 0) (je_ix (je_var 3) je_int)) (je_ix (je_var 3) je_int))
  (jss_one (js_ret (je_var 2)))
  jss_nil))))
  (jss_one (js_ret je_non)))
theorem sc__law_whole : FnScope ["value"] ["value"] (defScope s__law_whole) := ⟨rfl, rfl, rfl, by decide +kernel, rfl, by decide +kernel, by decide +kernel⟩
theorem ok__law_whole (Fu : Fun K "_law_whole" "_law_whole" s__law_whole f fd) (m_bool : mg "bool" = none) (m_int : mg "int" = none) (m_isinstance : mg "isinstance" = none)  : FnOk P w K mg base CX0 1 f fd ["value"] (spP K cm F__law_whole) :=
  have scN := sc__law_whole
  fn_ok Fu scN len__law_whole w__law_whole k__law_whole fun cdv A outer s H E hr =>
  (jss_one (js_ret (je_and (je_isi (T := "int") (by decide +kernel) (by rfl) m_isinstance (by rfl) m_int (by decide +kernel) (je_var 0)) (je_one (je_not (je_isi (T := "bool") (by decide +kernel) (by rfl) m_isinstance (by rfl) m_bool (by decide +kernel) (je_var 0)))))))
theorem sc__law_cell : FnScope ["script", "k", "seed", "cell"] ["script", "k"] (defScope s__law_cell) := ⟨rfl, rfl, rfl, by decide +kernel, rfl, by decide +kernel, by decide +kernel⟩
theorem ok__law_cell (Fu : Fun K "_law_cell" "_law_cell" s__law_cell f fd) (m_int : mg "int" = none) (m_len : mg "len" = none)  : FnOk P w K mg base CX0 1 f fd ["script", "k"] (spP K cm F__law_cell) :=
  have scN := sc__law_cell
  fn_ok Fu scN len__law_cell w__law_cell k__law_cell fun cdv A outer s H E hr =>
  (jss_cons (js_if (jt_cmp p2_lt (je_var 1) (je_b1 p1_len (by rfl) m_len (by decide +kernel) (je_var 0)))
  (jss_one (js_ret (je_ix (je_var 0) (je_var 1))))
  jss_nil)
  (jss_cons (js_asg 2 scN.nd je_int)
  (jss_cons (js_for PassesOwn.never rfl (ji_seq (je_var 0)) (jg_name 3 scN.nd)
  (jss_one (js_asg 2 scN.nd (je_bin p2_mod (je_ty1 p1_int (by rfl) m_int (by decide +kernel) (je_bin p2_add (je_bin p2_mul (je_var 2) je_int) (je_bin p2_mod (je_ty1 p1_int (by rfl) m_int (by decide +kernel) (je_var 3)) je_int))) je_int))))
  (jss_one (js_ret (je_bin p2_mod (je_ty1 p1_int (by rfl) m_int (by decide +kernel) (je_bin p2_mul (je_bin p2_mul (je_bin p2_add (je_var 2) je_int) (je_bin p2_add (je_var 1) je_int)) je_int)) je_int))))))
theorem sc__law_digits : FnScope ["cell", "sizes", "row", "rest", "seed", "k", "size", "twice"] ["cell", "sizes"] (defScope s__law_digits) := ⟨rfl, rfl, rfl, by decide +kernel, rfl, by decide +kernel, by decide +kernel⟩
theorem ok__law_digits (Fu : Fun K "_law_digits" "_law_digits" s__law_digits f fd) (m_int : mg "int" = none) (m_len : mg "len" = none) (m_range : mg "range" = none)  : FnOk P w K mg base CX0 1 f fd ["cell", "sizes"] (spP K cm F__law_digits) :=
  have scN := sc__law_digits
  fn_ok Fu scN len__law_digits w__law_digits k__law_digits fun cdv A outer s H E hr =>
  (jss_cons (js_asg 2 scN.nd (je_lst ja_nil))
  (jss_cons (js_asg 3 scN.nd (je_ty1 p1_int (by rfl) m_int (by decide +kernel) (je_var 0)))
  (jss_cons (js_if (jt_cmp p2_ge (je_var 3) (je_bin p2_pow je_int je_int))
  (jss_cons (js_asg 3 scN.nd (je_bin p2_sub (je_var 3) (je_bin p2_pow je_int je_int)))
  (jss_cons (js_for PassesOwn.never rfl (ji_seq (je_var 1)) (jg_name 6 scN.nd)
  (jss_cons (js_app 2 (je_bin p2_mod (je_ty1 p1_int (by rfl) m_int (by decide +kernel) (je_var 3)) (je_var 6)))
  (jss_one (js_asg 3 scN.nd (je_bin p2_div (je_ty1 p1_int (by rfl) m_int (by decide +kernel) (je_var 3)) (je_var 6))))))
  (jss_frz 2 (jss_one (js_ret (je_var 2))))))
  jss_nil)
  (jss_cons (js_asg 4 scN.nd (je_bin p2_mod (je_ty1 p1_int (by rfl) m_int (by decide +kernel) (je_var 3)) je_int))
  (jss_cons (js_for PassesOwn.never rfl (ji_range1 (by rfl) m_range (je_b1 p1_len (by rfl) m_len (by decide +kernel) (je_var 1))) (jg_name 5 scN.nd)
  (jss_cons (js_asg 4 scN.nd (je_bin p2_mod (je_ty1 p1_int (by rfl) m_int (by decide +kernel) (je_bin p2_add (je_bin p2_add (je_bin p2_mul (je_var 4) je_int) (je_bin p2_mul je_int (je_var 5))) je_int)) je_int))
  (jss_cons (js_asg 7 scN.nd (je_bin p2_mod (je_ty1 p1_int (by rfl) m_int (by decide +kernel) (je_bin p2_mul (je_var 4) (je_bin p2_add (je_bin p2_div (je_var 4) je_int) je_int))) je_int))
  (jss_one (js_app 2 (je_bin p2_mod (je_bin p2_div (je_var 7) je_int) (je_ix (je_var 1) (je_var 5))))))))
  (jss_frz 2 (jss_one (js_ret (je_var 2)))))))))
theorem sc__law_fault_chance : FnScope ["cell", "row", "bottom", "top"] ["cell"] (defScope s__law_fault_chance) := ⟨rfl, rfl, rfl, by decide +kernel, rfl, by decide +kernel, by decide +kernel⟩
theorem ok__law_fault_chance (Fu : Fun K "_law_fault_chance" "_law_fault_chance" s__law_fault_chance f fd) (m_int : mg "int" = none) (m_max : mg "max" = none) (m_min : mg "min" = none) (c__law_digits : FnC P w K mg base cm 1 "_law_digits" F__law_digits) : FnOk P w K mg base CX0 2 f fd ["cell"] (spP K cm F__law_fault_chance) :=
  have scN := sc__law_fault_chance
  fn_ok Fu scN len__law_fault_chance w__law_fault_chance k__law_fault_chance fun cdv A outer s H E hr =>
  (jss_cons (js_asg 1 scN.nd (je_call c__law_digits (hr.mono (by decide)) (by rfl) (ja_cons (je_var 0) (ja_cons (je_lst (ja_cons je_int (ja_cons je_int (ja_cons je_int (ja_cons je_int (ja_cons je_int ja_nil)))))) ja_nil))))
  (jss_cons (js_asg 2 scN.nd (je_bin p2_add je_int (je_ix (je_var 1) je_int)))
  (jss_cons (js_if (jt_chain p2_le p2_le je_int (je_ix (je_var 1) je_int) je_int)
  (jss_one (js_asg 2 scN.nd (je_bin p2_add je_int (je_ix (je_var 1) je_int))))
  jss_nil)
  (jss_cons (js_if (JW.t (jw_or (jt_cmp (p2_eq hr.units) (je_ix (je_var 1) je_int) je_int) (jw_or1 (jt_chain p2_le p2_le je_int (je_ix (je_var 1) je_int) je_int))))
  (jss_one (js_asg 2 scN.nd (je_bin p2_add je_int (je_ix (je_var 1) je_int))))
  jss_nil)
  (jss_cons (js_asg 3 scN.nd (je_bin p2_mod (je_ty1 p1_int (by rfl) m_int (by decide +kernel) (je_ix (je_var 1) je_int)) (je_bin p2_add (je_bin p2_div (je_bin p2_mul (je_var 2) je_int) je_int) je_int)))
  (jss_cons (js_if (jt_cmp (p2_eq hr.units) (je_ix (je_var 1) je_int) je_int)
  (jss_one (js_asg 3 scN.nd je_int))
  jss_nil)
  (jss_cons (js_if (jt_cmp (p2_eq hr.units) (je_ix (je_var 1) je_int) je_int)
  (jss_one (js_asg 3 scN.nd (je_var 2)))
  jss_nil)
  (jss_cons (js_if (jt_chain p2_le p2_le je_int (je_ix (je_var 1) je_int) je_int)
  (jss_one (js_asg 3 scN.nd (je_b2 (p2c_max rfl) (by rfl) m_max (by decide +kernel) je_int (je_bin p2_sub (je_bin p2_div (je_var 2) je_int) (je_bin p2_mod (je_ty1 p1_int (by rfl) m_int (by decide +kernel) (je_ix (je_var 1) je_int)) (je_bin p2_add (je_bin p2_div (je_var 2) je_int) je_int))))))
  jss_nil)
  (jss_cons (js_if (JW.t (jw_or (jt_cmp (p2_eq hr.units) (je_ix (je_var 1) je_int) je_int) (jw_or1 (jt_cmp (p2_eq hr.units) (je_ix (je_var 1) je_int) je_int))))
  (jss_one (js_asg 3 scN.nd (je_bin p2_mod (je_ty1 p1_int (by rfl) m_int (by decide +kernel) (je_ix (je_var 1) je_int)) (je_bin p2_add (je_var 2) je_int))))
  jss_nil)
  (jss_cons (js_if (jt_cmp (p2_eq hr.units) (je_ix (je_var 1) je_int) je_int)
  (jss_one (js_asg 3 scN.nd (je_b2 (p2c_min rfl) (by rfl) m_min (by decide +kernel) (je_var 2) (je_ix (je_var 1) je_int))))
  jss_nil)
  (jss_one (js_ret (je_lst (ja_cons (je_var 3) (ja_cons (je_var 2) ja_nil)))))))))))))))
theorem sc__law_majorities : FnScope ["top", "bottom", "entries", "ways", "whole", "runs", "failed", "succeeded", "j", "one"] ["top", "bottom"] (defScope s__law_majorities) := ⟨rfl, rfl, rfl, by decide +kernel, rfl, by decide +kernel, by decide +kernel⟩
theorem ok__law_majorities (Fu : Fun K "_law_majorities" "_law_majorities" s__law_majorities f fd) (m_int : mg "int" = none) (m_range : mg "range" = none) (m_sum : mg "sum" = none)  : FnOk P w K mg base CX0 1 f fd ["top", "bottom"] (spP K cm F__law_majorities) :=
  have scN := sc__law_majorities
  fn_ok Fu scN len__law_majorities w__law_majorities k__law_majorities fun cdv A outer s H E hr =>
  (jss_cons (js_asg 2 scN.nd (je_lst ja_nil))
  (jss_cons (js_asg 3 scN.nd (je_lst (ja_cons je_int ja_nil)))
  (jss_frz 3 (jss_cons (js_asg 4 scN.nd je_int)
  (jss_cons (js_for PassesOwn.never rfl (ji_range2 (by rfl) m_range je_int je_int) (jg_name 5 scN.nd)
  (jss_cons (js_asg 6 scN.nd (je_bin p2_add (je_lc [("one", 9)] rfl scN.nd (ji_seq (je_var 3)) (blk_by ["top", "bottom", "entries", "ways", "whole", "runs", "failed", "succeeded", "j", "one"] (defScope s__law_majorities) (by decide +kernel)) (fun _ _ _ _ _ => (jg_name 9 scN.nd)) (by decide) (fun _ _ _ _ _ => jts_nil) (fun _ _ _ _ _ => (je_bin p2_mul (je_bin p2_sub (je_var 1) (je_var 0)) (je_var 9)))) (je_lst (ja_cons je_int ja_nil))))
  (jss_frz 6 (jss_cons (js_asg 7 scN.nd (je_bin p2_add (je_lst (ja_cons je_int ja_nil)) (je_lc [("one", 9)] rfl scN.nd (ji_seq (je_var 3)) (blk_by ["top", "bottom", "entries", "ways", "whole", "runs", "failed", "succeeded", "j", "one"] (defScope s__law_majorities) (by decide +kernel)) (fun _ _ _ _ _ => (jg_name 9 scN.nd)) (by decide) (fun _ _ _ _ _ => jts_nil) (fun _ _ _ _ _ => (je_bin p2_mul (je_var 0) (je_var 9))))))
  (jss_frz 7 (jss_cons (js_asgLc 3 [("j", 8)] rfl scN.nd rfl rfl (sw_true rfl rfl rfl (by decide +kernel)) (ji_range1 (by rfl) m_range (je_bin p2_add (je_var 5) je_int)) (blk_by ["top", "bottom", "entries", "ways", "whole", "runs", "failed", "succeeded", "j", "one"] (defScope s__law_majorities) (by decide +kernel)) (fun _ _ _ _ _ => (jg_name 8 scN.nd)) (by decide) (fun _ _ _ _ _ => jts_nil) (fun _ _ _ _ _ => (je_bin p2_add (je_ix (je_var 6) (je_var 8)) (je_ix (je_var 7) (je_var 8)))))
  (jss_frz 3 (jss_cons (js_asg 4 scN.nd (je_bin p2_mul (je_var 4) (je_var 1)))
  (jss_one (js_if (jt_cmp (p2_eq hr.units) (je_bin p2_mod (je_ty1 p1_int (by rfl) m_int (by decide +kernel) (je_var 5)) je_int) je_int)
  (jss_cons (js_app 2 (je_lst (ja_cons (je_var 5) (ja_cons (je_b1 (p1_sum rfl) (by rfl) m_sum (by decide +kernel) (je_slice (je_var 3) (jo_some (je_bin p2_div (je_bin p2_add (je_var 5) je_int) je_int)) jo_none)) (ja_cons (je_var 4) ja_nil)))))
  (jss_one (js_if (jt_cmp p2_lt (je_bin p2_mul je_int (je_ix (je_ix (je_var 2) (je_neg je_int)) je_int)) (je_var 4))
  (jss_one js_break)
  jss_nil)))
  jss_nil))))))))))
  (jss_frz 2 (jss_one (js_ret (je_var 2)))))))))
theorem sc__law_due_number : FnScope ["entries", "inputs", "entry"] ["entries", "inputs"] (defScope s__law_due_number) := ⟨rfl, rfl, rfl, by decide +kernel, rfl, by decide +kernel, by decide +kernel⟩
theorem ok__law_due_number (Fu : Fun K "_law_due_number" "_law_due_number" s__law_due_number f fd)   : FnOk P w K mg base CX0 1 f fd ["entries", "inputs"] (spP K cm F__law_due_number) :=
  have scN := sc__law_due_number
  fn_ok Fu scN len__law_due_number w__law_due_number k__law_due_number fun cdv A outer s H E hr =>
  (jss_cons (js_for PassesOwn.never rfl (ji_seq (je_var 0)) (jg_name 2 scN.nd)
  (jss_one (js_if (jt_cmp p2_lt (je_bin p2_mul (je_var 1) (je_ix (je_var 2) je_int)) (je_ix (je_var 2) je_int))
  (jss_one (js_ret (je_ix (je_var 2) je_int)))
  jss_nil)))
  (jss_one (js_ret je_non)))
theorem sc__law_most_inputs : FnScope ["entry"] ["entry"] (defScope s__law_most_inputs) := ⟨rfl, rfl, rfl, by decide +kernel, rfl, by decide +kernel, by decide +kernel⟩
theorem ok__law_most_inputs (Fu : Fun K "_law_most_inputs" "_law_most_inputs" s__law_most_inputs f fd) (m_max : mg "max" = none) (m_min : mg "min" = none)  : FnOk P w K mg base CX0 1 f fd ["entry"] (spP K cm F__law_most_inputs) :=
  have scN := sc__law_most_inputs
  fn_ok Fu scN len__law_most_inputs w__law_most_inputs k__law_most_inputs fun cdv A outer s H E hr =>
  (jss_cons (js_if (jt_cmp (p2_eq hr.units) (je_ix (je_var 0) je_int) je_int)
  (jss_one (js_ret je_int))
  jss_nil)
  (jss_one (js_ret (je_b2 (p2c_min rfl) (by rfl) m_min (by decide +kernel) je_int (je_b2 (p2c_max rfl) (by rfl) m_max (by decide +kernel) je_int (je_bin p2_div (je_bin p2_sub (je_ix (je_var 0) je_int) je_int) (je_ix (je_var 0) je_int)))))))
theorem sc__law_answered : FnScope ["numbers", "as_tuple", "inputs", "entries", "handed", "due", "told"] ["numbers", "as_tuple", "inputs", "entries"] (defScope s__law_answered) := ⟨rfl, rfl, rfl, by decide +kernel, rfl, by decide +kernel, by decide +kernel⟩
theorem ok__law_answered (Fu : Fun K "_law_answered" "_law_answered" s__law_answered f fd) (m_list : mg "list" = none) (m_tuple : mg "tuple" = none) (c_rows_told : FnC P w K mg base cm 3 "rows_told" F_rows_told) (c__law_due_number : FnC P w K mg base cm 1 "_law_due_number" F__law_due_number) (c__law_whole : FnC P w K mg base cm 1 "_law_whole" F__law_whole) : FnOk P w K mg base CX0 4 f fd ["numbers", "as_tuple", "inputs", "entries"] (spP K cm F__law_answered) :=
  have scN := sc__law_answered
  fn_ok Fu scN len__law_answered w__law_answered k__law_answered fun cdv A outer s H E hr =>
  (jss_cons (js_asg 4 scN.nd (je_ty1 p1_list (by rfl) m_list (by decide +kernel) (je_var 0)))
  (jss_frz 4 (jss_cons (js_if (jt_cmp (p2_eq hr.units) (je_var 1) je_int)
  (jss_one (js_asg 6 scN.nd (je_call c_rows_told (hr.mono (by decide)) (by rfl) (ja_cons (je_var 2) (ja_cons (je_ty1 p1_tuple (by rfl) m_tuple (by decide +kernel) (je_var 4)) ja_nil)))))
  (jss_one (js_asg 6 scN.nd (je_call c_rows_told (hr.mono (by decide)) (by rfl) (ja_cons (je_var 2) (ja_cons (je_var 4) ja_nil))))))
  (jss_cons (js_asg 5 scN.nd (je_call c__law_due_number (hr.mono (by decide)) (by rfl) (ja_cons (je_var 3) (ja_cons (je_var 2) ja_nil))))
  (jss_cons (js_if (jt_cmp (p2_ne hr.units) (je_var 4) (je_var 0))
  (jss_one (js_ret je_bl))
  jss_nil)
  (jss_cons (js_if (jt_isN (je_var 5))
  (jss_one (js_ret (je_isN (je_var 6))))
  jss_nil)
  (jss_one (js_ret (je_and (je_call c__law_whole (hr.mono (by decide)) (by rfl) (ja_cons (je_var 6) ja_nil)) (je_one (je_cmp (p2_eq hr.units) (je_var 6) (je_var 5))))))))))))
theorem sc_law : FnScope ["script", "row", "inputs", "factor", "numbers", "entries", "other_entries", "entry", "edge", "due", "top", "bottom", "other_top", "other_bottom"] ["script"] (defScope s_law) := ⟨rfl, rfl, rfl, by decide +kernel, rfl, by decide +kernel, by decide +kernel⟩
theorem ok_law (Fu : Fun K "law" "law" s_law f fd) (m_int : mg "int" = none) (m_len : mg "len" = none) (c__law_fault_chance : FnC P w K mg base cm 2 "_law_fault_chance" F__law_fault_chance) (c__law_cell : FnC P w K mg base cm 1 "_law_cell" F__law_cell) (c__law_digits : FnC P w K mg base cm 1 "_law_digits" F__law_digits) (c__law_majorities : FnC P w K mg base cm 1 "_law_majorities" F__law_majorities) (c__law_most_inputs : FnC P w K mg base cm 1 "_law_most_inputs" F__law_most_inputs) (c__law_answered : FnC P w K mg base cm 4 "_law_answered" F__law_answered) (c__law_due_number : FnC P w K mg base cm 1 "_law_due_number" F__law_due_number) : FnOk P w K mg base CX0 5 f fd ["script"] (spP K cm F_law) :=
  have scN := sc_law
  fn_ok Fu scN len_law w_law k_law fun cdv A outer s H E hr =>
  (jss_cons (js_unp rfl (je_call c__law_fault_chance (hr.mono (by decide)) (by rfl) (ja_cons (je_call c__law_cell (hr.mono (by decide)) (by rfl) (ja_cons (je_var 0) (ja_cons je_int ja_nil))) ja_nil)) (jgs_cons 10 scN.nd (jgs_cons 11 scN.nd jgs_nil)))
  (jss_cons (js_unp rfl (je_call c__law_fault_chance (hr.mono (by decide)) (by rfl) (ja_cons (je_call c__law_cell (hr.mono (by decide)) (by rfl) (ja_cons (je_var 0) (ja_cons je_int ja_nil))) ja_nil)) (jgs_cons 12 scN.nd (jgs_cons 13 scN.nd jgs_nil)))
  (jss_cons (js_asg 1 scN.nd (je_call c__law_digits (hr.mono (by decide)) (by rfl) (ja_cons (je_call c__law_cell (hr.mono (by decide)) (by rfl) (ja_cons (je_var 0) (ja_cons je_int ja_nil))) (ja_cons (je_lst (ja_cons je_int (ja_cons je_int (ja_cons je_int (ja_cons je_int (ja_cons je_int (ja_cons je_int (ja_cons je_int (ja_cons je_int (ja_cons je_int ja_nil)))))))))) ja_nil))))
  (jss_cons (js_asg 2 scN.nd (je_bin p2_add je_int (je_ix (je_var 1) je_int)))
  (jss_cons (js_if (jt_cmp (p2_eq hr.units) (je_ix (je_var 1) je_int) je_int)
  (jss_one (js_asg 2 scN.nd (je_bin p2_add je_int (je_ix (je_var 1) je_int))))
  jss_nil)
  (jss_cons (js_if (jt_cmp (p2_eq hr.units) (je_ix (je_var 1) je_int) je_int)
  (jss_one (js_asg 2 scN.nd (je_bin p2_shl je_int (je_ix (je_var 1) je_int))))
  jss_nil)
  (jss_cons (js_asg 3 scN.nd je_int)
  (jss_cons (js_if (jt_cmp (p2_eq hr.units) (je_ix (je_var 1) je_int) je_int)
  (jss_one (js_asg 3 scN.nd (je_bin p2_add je_int (je_bin p2_mod (je_ty1 p1_int (by rfl) m_int (by decide +kernel) (je_ix (je_var 1) je_int)) (je_bin p2_div je_int (je_var 11))))))
  jss_nil)
  (jss_cons (js_asg 4 scN.nd (je_lst (ja_cons (je_bin p2_mul (je_var 10) (je_var 3)) (ja_cons (je_bin p2_mul (je_var 11) (je_var 3)) ja_nil))))
  (jss_frz 4 (jss_cons (js_asg 5 scN.nd (je_call c__law_majorities (hr.mono (by decide)) (by rfl) (ja_cons (je_var 10) (ja_cons (je_var 11) ja_nil))))
  (jss_cons (js_asg 6 scN.nd (je_call c__law_majorities (hr.mono (by decide)) (by rfl) (ja_cons (je_var 12) (ja_cons (je_var 13) ja_nil))))
  (jss_cons (js_asg 7 scN.nd (je_ix (je_var 5) (je_bin p2_mod (je_ty1 p1_int (by rfl) m_int (by decide +kernel) (je_ix (je_var 1) je_int)) (je_b1 p1_len (by rfl) m_len (by decide +kernel) (je_var 5)))))
  (jss_cons (js_if (jt_cmp (p2_eq hr.units) (je_ix (je_var 1) je_int) je_int)
  (jss_one (js_asg 7 scN.nd (je_ix (je_var 5) (je_neg je_int))))
  jss_nil)
  (jss_cons (js_asg 8 scN.nd (je_call c__law_most_inputs (hr.mono (by decide)) (by rfl) (ja_cons (je_var 7) ja_nil)))
  (jss_cons (js_if (jt_not (jt_val (je_call c__law_answered (hr.mono (by decide)) (by rfl) (ja_cons (je_var 4) (ja_cons (je_ix (je_var 1) je_int) (ja_cons (je_var 2) (ja_cons (je_var 5) ja_nil)))))))
  (jss_one (js_ret je_bl))
  jss_nil)
  (jss_cons (js_if (jt_not (jt_val (je_call c__law_answered (hr.mono (by decide)) (by rfl) (ja_cons (je_lst (ja_cons (je_var 12) (ja_cons (je_var 13) ja_nil))) (ja_cons (je_bin p2_sub je_int (je_ix (je_var 1) je_int)) (ja_cons (je_var 2) (ja_cons (je_var 6) ja_nil)))))))
  (jss_one (js_ret je_bl))
  jss_nil)
  (jss_cons (js_if (JW.t (jw_or (jt_not (jt_val (je_call c__law_answered (hr.mono (by decide)) (by rfl) (ja_cons (je_var 4) (ja_cons (je_ix (je_var 1) je_int) (ja_cons (je_var 8) (ja_cons (je_var 5) ja_nil))))))) (jw_or1 (jt_not (jt_val (je_call c__law_answered (hr.mono (by decide)) (by rfl) (ja_cons (je_var 4) (ja_cons (je_ix (je_var 1) je_int) (ja_cons (je_bin p2_add (je_var 8) je_int) (ja_cons (je_var 5) ja_nil))))))))))
  (jss_one (js_ret je_bl))
  jss_nil)
  (jss_cons (js_asg 9 scN.nd (je_call c__law_due_number (hr.mono (by decide)) (by rfl) (ja_cons (je_var 5) (ja_cons (je_var 2) ja_nil))))
  (jss_cons (js_if (JW.t (jw_or (jt_isN (je_var 9)) (jw_or1 (jt_cmp p2_gt (je_var 9) je_int))))
  (jss_one (js_ret je_bl))
  jss_nil)
  (jss_one (js_ret (je_call c__law_answered (hr.mono (by decide)) (by rfl) (ja_cons (je_var 4) (ja_cons (je_ix (je_var 1) je_int) (ja_cons (je_var 2) (ja_cons (je_var 5) ja_nil)))))))))))))))))))))))))))
end
theorem all_mk {l : PySem.W.OpenLaw} {w : World} {K : PySem.W.Frag} {h : Heap} {mg : Str → Option Value} {fa : Addr} (X : K.In h) (G : h.Ns mainGlobals mg) (hfa : mg "law" = some (.ref fa))
  {f1 f2 f3 f4 f5 f6 f7 f8 f9 f10 f11 f12 f13 f14 : Addr} {od1 an1 od2 an2 od3 an3 od4 an4 od5 an5 od6 an6 od7 an7 od8 an8 od9 an9 od10 an10 od11 an11 od12 an12 od13 an13 od14 an14 : Option Addr} {sl1 sl2 sl3 sl4 sl5 sl6 sl7 sl8 sl9 sl10 sl11 sl12 sl13 sl14 : Array (Option Value)} {oc1 kV1 dc1 pm1 cd1 ct1 oc2 kV2 dc2 pm2 cd2 ct2 oc3 kV3 dc3 pm3 cd3 ct3 oc4 kV4 dc4 pm4 cd4 ct4 oc5 kV5 dc5 pm5 cd5 ct5 oc6 kV6 dc6 pm6 cd6 ct6 oc7 kV7 dc7 pm7 cd7 ct7 oc8 kV8 dc8 pm8 cd8 ct8 oc9 kV9 dc9 pm9 cd9 ct9 oc10 kV10 dc10 pm10 cd10 ct10 oc11 kV11 dc11 pm11 cd11 ct11 oc12 kV12 dc12 pm12 cd12 ct12 oc13 kV13 dc13 pm13 cd13 ct13 oc14 kV14 dc14 pm14 cd14 ct14 : Value}
  (a1 : PySem.W.nsIn K mainGlobals "lowest" = some (some (.ref f1))) (l1 : K.lookup f1 = some ⟨oc1, od1, .func (PySem.W.fnOf "lowest" "lowest" (defArgs s_lowest) (defBody s_lowest) (defScope s_lowest) .none kV1 dc1 pm1 an1 cd1 ct1), sl1⟩) (c1 : PySem.W.codeIn K cd1 "lowest" = true) (k1 : PySem.W.keepIn K (.ref f1) = true)
  (a2 : PySem.W.nsIn K mainGlobals "powers_of" = some (some (.ref f2))) (l2 : K.lookup f2 = some ⟨oc2, od2, .func (PySem.W.fnOf "powers_of" "powers_of" (defArgs s_powers_of) (defBody s_powers_of) (defScope s_powers_of) .none kV2 dc2 pm2 an2 cd2 ct2), sl2⟩) (c2 : PySem.W.codeIn K cd2 "powers_of" = true) (k2 : PySem.W.keepIn K (.ref f2) = true)
  (a3 : PySem.W.nsIn K mainGlobals "ways_of" = some (some (.ref f3))) (l3 : K.lookup f3 = some ⟨oc3, od3, .func (PySem.W.fnOf "ways_of" "ways_of" (defArgs s_ways_of) (defBody s_ways_of) (defScope s_ways_of) .none kV3 dc3 pm3 an3 cd3 ct3), sl3⟩) (c3 : PySem.W.codeIn K cd3 "ways_of" = true) (k3 : PySem.W.keepIn K (.ref f3) = true)
  (a4 : PySem.W.nsIn K mainGlobals "tail" = some (some (.ref f4))) (l4 : K.lookup f4 = some ⟨oc4, od4, .func (PySem.W.fnOf "tail" "tail" (defArgs s_tail) (defBody s_tail) (defScope s_tail) .none kV4 dc4 pm4 an4 cd4 ct4), sl4⟩) (c4 : PySem.W.codeIn K cd4 "tail" = true) (k4 : PySem.W.keepIn K (.ref f4) = true)
  (a5 : PySem.W.nsIn K mainGlobals "rows_told" = some (some (.ref f5))) (l5 : K.lookup f5 = some ⟨oc5, od5, .func (PySem.W.fnOf "rows_told" "rows_told" (defArgs s_rows_told) (defBody s_rows_told) (defScope s_rows_told) .none kV5 dc5 pm5 an5 cd5 ct5), sl5⟩) (c5 : PySem.W.codeIn K cd5 "rows_told" = true) (k5 : PySem.W.keepIn K (.ref f5) = true)
  (a6 : PySem.W.nsIn K mainGlobals "_law_whole" = some (some (.ref f6))) (l6 : K.lookup f6 = some ⟨oc6, od6, .func (PySem.W.fnOf "_law_whole" "_law_whole" (defArgs s__law_whole) (defBody s__law_whole) (defScope s__law_whole) .none kV6 dc6 pm6 an6 cd6 ct6), sl6⟩) (c6 : PySem.W.codeIn K cd6 "_law_whole" = true) (k6 : PySem.W.keepIn K (.ref f6) = true)
  (a7 : PySem.W.nsIn K mainGlobals "_law_cell" = some (some (.ref f7))) (l7 : K.lookup f7 = some ⟨oc7, od7, .func (PySem.W.fnOf "_law_cell" "_law_cell" (defArgs s__law_cell) (defBody s__law_cell) (defScope s__law_cell) .none kV7 dc7 pm7 an7 cd7 ct7), sl7⟩) (c7 : PySem.W.codeIn K cd7 "_law_cell" = true) (k7 : PySem.W.keepIn K (.ref f7) = true)
  (a8 : PySem.W.nsIn K mainGlobals "_law_digits" = some (some (.ref f8))) (l8 : K.lookup f8 = some ⟨oc8, od8, .func (PySem.W.fnOf "_law_digits" "_law_digits" (defArgs s__law_digits) (defBody s__law_digits) (defScope s__law_digits) .none kV8 dc8 pm8 an8 cd8 ct8), sl8⟩) (c8 : PySem.W.codeIn K cd8 "_law_digits" = true) (k8 : PySem.W.keepIn K (.ref f8) = true)
  (a9 : PySem.W.nsIn K mainGlobals "_law_fault_chance" = some (some (.ref f9))) (l9 : K.lookup f9 = some ⟨oc9, od9, .func (PySem.W.fnOf "_law_fault_chance" "_law_fault_chance" (defArgs s__law_fault_chance) (defBody s__law_fault_chance) (defScope s__law_fault_chance) .none kV9 dc9 pm9 an9 cd9 ct9), sl9⟩) (c9 : PySem.W.codeIn K cd9 "_law_fault_chance" = true) (k9 : PySem.W.keepIn K (.ref f9) = true)
  (a10 : PySem.W.nsIn K mainGlobals "_law_majorities" = some (some (.ref f10))) (l10 : K.lookup f10 = some ⟨oc10, od10, .func (PySem.W.fnOf "_law_majorities" "_law_majorities" (defArgs s__law_majorities) (defBody s__law_majorities) (defScope s__law_majorities) .none kV10 dc10 pm10 an10 cd10 ct10), sl10⟩) (c10 : PySem.W.codeIn K cd10 "_law_majorities" = true) (k10 : PySem.W.keepIn K (.ref f10) = true)
  (a11 : PySem.W.nsIn K mainGlobals "_law_due_number" = some (some (.ref f11))) (l11 : K.lookup f11 = some ⟨oc11, od11, .func (PySem.W.fnOf "_law_due_number" "_law_due_number" (defArgs s__law_due_number) (defBody s__law_due_number) (defScope s__law_due_number) .none kV11 dc11 pm11 an11 cd11 ct11), sl11⟩) (c11 : PySem.W.codeIn K cd11 "_law_due_number" = true) (k11 : PySem.W.keepIn K (.ref f11) = true)
  (a12 : PySem.W.nsIn K mainGlobals "_law_most_inputs" = some (some (.ref f12))) (l12 : K.lookup f12 = some ⟨oc12, od12, .func (PySem.W.fnOf "_law_most_inputs" "_law_most_inputs" (defArgs s__law_most_inputs) (defBody s__law_most_inputs) (defScope s__law_most_inputs) .none kV12 dc12 pm12 an12 cd12 ct12), sl12⟩) (c12 : PySem.W.codeIn K cd12 "_law_most_inputs" = true) (k12 : PySem.W.keepIn K (.ref f12) = true)
  (a13 : PySem.W.nsIn K mainGlobals "_law_answered" = some (some (.ref f13))) (l13 : K.lookup f13 = some ⟨oc13, od13, .func (PySem.W.fnOf "_law_answered" "_law_answered" (defArgs s__law_answered) (defBody s__law_answered) (defScope s__law_answered) .none kV13 dc13 pm13 an13 cd13 ct13), sl13⟩) (c13 : PySem.W.codeIn K cd13 "_law_answered" = true) (k13 : PySem.W.keepIn K (.ref f13) = true)
  (a14 : PySem.W.nsIn K mainGlobals "law" = some (some (.ref f14))) (l14 : K.lookup f14 = some ⟨oc14, od14, .func (PySem.W.fnOf "law" "law" (defArgs s_law) (defBody s_law) (defScope s_law) .none kV14 dc14 pm14 an14 cd14 ct14), sl14⟩) (c14 : PySem.W.codeIn K cd14 "law" = true) (k14 : PySem.W.keepIn K (.ref f14) = true)
  (z_comb : PySem.W.nsIn K mainGlobals "comb" = some (some (.builtin "math.comb")))
  (z_gcd : PySem.W.nsIn K mainGlobals "gcd" = some (some (.builtin "math.gcd")))
  {t_MOST_RUNS : Tok} (z_MOST_RUNS : PySem.W.nsIn K mainGlobals "MOST_RUNS" = some (some (.int 151 t_MOST_RUNS)))
  (z_bool : PySem.W.nsIn K mainGlobals "bool" = some none)
  (z_int : PySem.W.nsIn K mainGlobals "int" = some none)
  (z_isinstance : PySem.W.nsIn K mainGlobals "isinstance" = some none)
  (z_len : PySem.W.nsIn K mainGlobals "len" = some none)
  (z_list : PySem.W.nsIn K mainGlobals "list" = some none)
  (z_max : PySem.W.nsIn K mainGlobals "max" = some none)
  (z_min : PySem.W.nsIn K mainGlobals "min" = some none)
  (z_range : PySem.W.nsIn K mainGlobals "range" = some none)
  (z_sum : PySem.W.nsIn K mainGlobals "sum" = some none)
  (z_tuple : PySem.W.nsIn K mainGlobals "tuple" = some none)
  : ∃ fd : FuncData, (∀ (s : Shared) (v : Value), BindsTo s fd ⟨[v], []⟩ [("script", v)]) ∧ ∀ base : Heap, K.In base → base.Ns mainGlobals mg → FnOk l.prog w K mg base CX0 5 fa fd ["script"] (spP K (fun _ => 0) F_law) := by
  have e := hfa.symm.trans (PySem.W.mg_of X G a14)
  cases e
  have m_comb := PySem.W.mg_of X G z_comb
  have m_gcd := PySem.W.mg_of X G z_gcd
  have m_MOST_RUNS := PySem.W.mg_of X G z_MOST_RUNS
  have m_bool := PySem.W.mg_none_of X G z_bool
  have m_int := PySem.W.mg_none_of X G z_int
  have m_isinstance := PySem.W.mg_none_of X G z_isinstance
  have m_len := PySem.W.mg_none_of X G z_len
  have m_list := PySem.W.mg_none_of X G z_list
  have m_max := PySem.W.mg_none_of X G z_max
  have m_min := PySem.W.mg_none_of X G z_min
  have m_range := PySem.W.mg_none_of X G z_range
  have m_sum := PySem.W.mg_none_of X G z_sum
  have m_tuple := PySem.W.mg_none_of X G z_tuple
  have F1 := fun_mk (st := s_lowest) l1 c1 k1
  have b1 := F1.binds (ps := ["top", "bottom"]) fun _ _ _ _ _ _ us hl => match us, hl with | [_, _], _ => rfl
  have F2 := fun_mk (st := s_powers_of) l2 c2 k2
  have b2 := F2.binds (ps := ["number", "most"]) fun _ _ _ _ _ _ us hl => match us, hl with | [_, _], _ => rfl
  have F3 := fun_mk (st := s_ways_of) l3 c3 k3
  have b3 := F3.binds (ps := ["hit_powers", "miss_powers", "runs", "hits"]) fun _ _ _ _ _ _ us hl => match us, hl with | [_, _, _, _], _ => rfl
  have F4 := fun_mk (st := s_tail) l4 c4 k4
  have b4 := F4.binds (ps := ["runs", "share", "least"]) fun _ _ _ _ _ _ us hl => match us, hl with | [_, _, _], _ => rfl
  have F5 := fun_mk (st := s_rows_told) l5 c5 k5
  have b5 := F5.binds (ps := ["inputs", "share"]) fun _ _ _ _ _ _ us hl => match us, hl with | [_, _], _ => rfl
  have F6 := fun_mk (st := s__law_whole) l6 c6 k6
  have b6 := F6.binds (ps := ["value"]) fun _ _ _ _ _ _ us hl => match us, hl with | [_], _ => rfl
  have F7 := fun_mk (st := s__law_cell) l7 c7 k7
  have b7 := F7.binds (ps := ["script", "k"]) fun _ _ _ _ _ _ us hl => match us, hl with | [_, _], _ => rfl
  have F8 := fun_mk (st := s__law_digits) l8 c8 k8
  have b8 := F8.binds (ps := ["cell", "sizes"]) fun _ _ _ _ _ _ us hl => match us, hl with | [_, _], _ => rfl
  have F9 := fun_mk (st := s__law_fault_chance) l9 c9 k9
  have b9 := F9.binds (ps := ["cell"]) fun _ _ _ _ _ _ us hl => match us, hl with | [_], _ => rfl
  have F10 := fun_mk (st := s__law_majorities) l10 c10 k10
  have b10 := F10.binds (ps := ["top", "bottom"]) fun _ _ _ _ _ _ us hl => match us, hl with | [_, _], _ => rfl
  have F11 := fun_mk (st := s__law_due_number) l11 c11 k11
  have b11 := F11.binds (ps := ["entries", "inputs"]) fun _ _ _ _ _ _ us hl => match us, hl with | [_, _], _ => rfl
  have F12 := fun_mk (st := s__law_most_inputs) l12 c12 k12
  have b12 := F12.binds (ps := ["entry"]) fun _ _ _ _ _ _ us hl => match us, hl with | [_], _ => rfl
  have F13 := fun_mk (st := s__law_answered) l13 c13 k13
  have b13 := F13.binds (ps := ["numbers", "as_tuple", "inputs", "entries"]) fun _ _ _ _ _ _ us hl => match us, hl with | [_, _, _, _], _ => rfl
  have F14 := fun_mk (st := s_law) l14 c14 k14
  refine ⟨PySem.W.fnOf "law" "law" (defArgs s_law) (defBody s_law) (defScope s_law) .none kV14 dc14 pm14 an14 cd14 ct14, fun s v => .of_eq rfl, fun base _ _ => ?_⟩
  have c_lowest : FnC l.prog w K mg base (fun _ => 0) 1 "lowest" F_lowest := fnC_mk F1 (PySem.W.mg_of X G a1) b1 (ok_lowest F1 m_gcd )
  have c_powers_of : FnC l.prog w K mg base (fun _ => 0) 1 "powers_of" F_powers_of := fnC_mk F2 (PySem.W.mg_of X G a2) b2 (ok_powers_of F2 m_range )
  have c_ways_of : FnC l.prog w K mg base (fun _ => 0) 1 "ways_of" F_ways_of := fnC_mk F3 (PySem.W.mg_of X G a3) b3 (ok_ways_of F3 m_comb )
  have c_tail : FnC l.prog w K mg base (fun _ => 0) 2 "tail" F_tail := fnC_mk F4 (PySem.W.mg_of X G a4) b4 (ok_tail F4 m_range c_lowest c_powers_of c_ways_of)
  have c_rows_told : FnC l.prog w K mg base (fun _ => 0) 3 "rows_told" F_rows_told := fnC_mk F5 (PySem.W.mg_of X G a5) b5 (ok_rows_told F5 m_MOST_RUNS m_range c_tail)
  have c__law_whole : FnC l.prog w K mg base (fun _ => 0) 1 "_law_whole" F__law_whole := fnC_mk F6 (PySem.W.mg_of X G a6) b6 (ok__law_whole F6 m_bool m_int m_isinstance )
  have c__law_cell : FnC l.prog w K mg base (fun _ => 0) 1 "_law_cell" F__law_cell := fnC_mk F7 (PySem.W.mg_of X G a7) b7 (ok__law_cell F7 m_int m_len )
  have c__law_digits : FnC l.prog w K mg base (fun _ => 0) 1 "_law_digits" F__law_digits := fnC_mk F8 (PySem.W.mg_of X G a8) b8 (ok__law_digits F8 m_int m_len m_range )
  have c__law_fault_chance : FnC l.prog w K mg base (fun _ => 0) 2 "_law_fault_chance" F__law_fault_chance := fnC_mk F9 (PySem.W.mg_of X G a9) b9 (ok__law_fault_chance F9 m_int m_max m_min c__law_digits)
  have c__law_majorities : FnC l.prog w K mg base (fun _ => 0) 1 "_law_majorities" F__law_majorities := fnC_mk F10 (PySem.W.mg_of X G a10) b10 (ok__law_majorities F10 m_int m_range m_sum )
  have c__law_due_number : FnC l.prog w K mg base (fun _ => 0) 1 "_law_due_number" F__law_due_number := fnC_mk F11 (PySem.W.mg_of X G a11) b11 (ok__law_due_number F11  )
  have c__law_most_inputs : FnC l.prog w K mg base (fun _ => 0) 1 "_law_most_inputs" F__law_most_inputs := fnC_mk F12 (PySem.W.mg_of X G a12) b12 (ok__law_most_inputs F12 m_max m_min )
  have c__law_answered : FnC l.prog w K mg base (fun _ => 0) 4 "_law_answered" F__law_answered := fnC_mk F13 (PySem.W.mg_of X G a13) b13 (ok__law_answered F13 m_list m_tuple c_rows_told c__law_due_number c__law_whole)
  exact ok_law F14 m_int m_len c__law_fault_chance c__law_cell c__law_digits c__law_majorities c__law_most_inputs c__law_answered c__law_due_number
end Pyl
open PySem PySem.W PyProof.Rows
set_option maxHeartbeats 0 in
theorem PySem.Challenge.cw_fooledortold_k68_rows_told_holds : PySem.Challenge.rw_fooledortold_k68_rows_told.Holds := by
  w_on; o_law; k_head; (case hw => w_witness2)
  k_fill
  refine L2.walk_of (l := PySem.Challenge.rw_fooledortold_k68_rows_told) (n := 63) (k := 5) (x := "script") (CX := fun _ => L2.CX0) (sp := fun w => Pyl.spP _ (fun _ => 0) Pyl.F_law) rfl (by decide) rfl ⟨rfl, by decide, by decide⟩ (fun w h Y => PySem.W.kIn_of Y) ?F (fun _ _ a ns hl _ hS => Pyl.law_sp Pyl.law_true hl hS) (fun _ _ _ _ _ h => h)
  case F =>
    intro w mg fa h KX G hmg
    refine' Pyl.all_mk KX G hmg ?a1 ?l1 ?c1 ?k1 ?a2 ?l2 ?c2 ?k2 ?a3 ?l3 ?c3 ?k3 ?a4 ?l4 ?c4 ?k4 ?a5 ?l5 ?c5 ?k5 ?a6 ?l6 ?c6 ?k6 ?a7 ?l7 ?c7 ?k7 ?a8 ?l8 ?c8 ?k8 ?a9 ?l9 ?c9 ?k9 ?a10 ?l10 ?c10 ?k10 ?a11 ?l11 ?c11 ?k11 ?a12 ?l12 ?c12 ?k12 ?a13 ?l13 ?c13 ?k13 ?a14 ?l14 ?c14 ?k14 ?z_comb ?z_gcd ?z_MOST_RUNS ?z_bool ?z_int ?z_isinstance ?z_len ?z_list ?z_max ?z_min ?z_range ?z_sum ?z_tuple
    (case a1 => k_is)
    (case l1 => k_is)
    (case c1 => k_is)
    (case k1 => k_is)
    (case a2 => k_is)
    (case l2 => k_is)
    (case c2 => k_is)
    (case k2 => k_is)
    (case a3 => k_is)
    (case l3 => k_is)
    (case c3 => k_is)
    (case k3 => k_is)
    (case a4 => k_is)
    (case l4 => k_is)
    (case c4 => k_is)
    (case k4 => k_is)
    (case a5 => k_is)
    (case l5 => k_is)
    (case c5 => k_is)
    (case k5 => k_is)
    (case a6 => k_is)
    (case l6 => k_is)
    (case c6 => k_is)
    (case k6 => k_is)
    (case a7 => k_is)
    (case l7 => k_is)
    (case c7 => k_is)
    (case k7 => k_is)
    (case a8 => k_is)
    (case l8 => k_is)
    (case c8 => k_is)
    (case k8 => k_is)
    (case a9 => k_is)
    (case l9 => k_is)
    (case c9 => k_is)
    (case k9 => k_is)
    (case a10 => k_is)
    (case l10 => k_is)
    (case c10 => k_is)
    (case k10 => k_is)
    (case a11 => k_is)
    (case l11 => k_is)
    (case c11 => k_is)
    (case k11 => k_is)
    (case a12 => k_is)
    (case l12 => k_is)
    (case c12 => k_is)
    (case k12 => k_is)
    (case a13 => k_is)
    (case l13 => k_is)
    (case c13 => k_is)
    (case k13 => k_is)
    (case a14 => k_is)
    (case l14 => k_is)
    (case c14 => k_is)
    (case k14 => k_is)
    (case z_comb => k_is)
    (case z_gcd => k_is)
    (case z_MOST_RUNS => k_is)
    (case z_bool => k_is)
    (case z_int => k_is)
    (case z_isinstance => k_is)
    (case z_len => k_is)
    (case z_list => k_is)
    (case z_max => k_is)
    (case z_min => k_is)
    (case z_range => k_is)
    (case z_sum => k_is)
    (case z_tuple => k_is)
end
