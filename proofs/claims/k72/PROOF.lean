import PyProof.Rows.All
import Wide.All
import OpenK.AllK
import Wide.FinOn
import PySem.PyData
import PyProof.P3Statements
import PyProof.EqLayable
import PyProof.Rows.Walk
import HandS.ForMost
import HandS.Zip
import HandS.IsInst
import HandS.Wide
import HandS.WideBits
import HandS.TupAny
import KE.KUnpack
import HandS.Gcd
import KE.KMathGC
import PySem.Challenge.RW_fooledortold_k72_fewest_rows
section
set_option Elab.async false
set_option linter.all false
namespace Pyl
open PySem

/-- data: what a value denotes, without a heap. obj: an instance of the own class number c, by its attributes -/
inductive Dt where
  | non | bl (b : Bool) | int (i : Int) | str (x : Str) | lst (ds : List Dt) | tup (ds : List Dt) | obj (c : Nat) (fs : List (Str × Dt))

/-- an object that one name of the frame alone holds -/
inductive OD where
  | lst (ds : List Dt)
/-- what a name of the frame holds: nothing known | data | an object of its own | an object of its own that a loop walks just now -/
inductive Slot where
  | non | val (d : Dt) | own (o : OD) | take
abbrev Sl := List Slot
/-- what an expression gives: data | an object that a name holds, looked at | a new object -/
inductive R where
  | vis (d : Dt) | bor (d : Dt) | fre (o : OD)
def OD.dt : OD → Dt
  | .lst ds => .lst ds
def R.dt : R → Dt
  | .vis d => d
  | .bor d => d
  | .fre o => o.dt
def R.sh : R → Bool
  | .bor _ => true
  | _ => false

/-! ### expressions -/
abbrev EF := Sl → Option R
abbrev TF := Sl → Option Bool
abbrev AF := Sl → Option (List (Dt × Bool))
def eVar (i : Nat) : EF := fun env => match env[i]? with
  | some (.val d) => some (.vis d)
  | some (.own (.lst ds)) => some (.bor (.lst ds))
  | _ => none
def eC (d : Dt) : EF := fun _ => some (.vis d)
/-- an operation of one, of two data, the answer a scalar or a new object -/
def e1 (p : Dt → Option R) (fa : EF) : EF := fun env => (fa env).bind fun a => p a.dt
def e2 (p : Dt → Dt → Option R) (fa fb : EF) : EF := fun env => (fa env).bind fun a => (fb env).bind fun b => p a.dt b.dt
def aNil : AF := fun _ => some []
def aCons (fa : EF) (fr : AF) : AF := fun env => (fa env).bind fun a => (fr env).bind fun r => some ((a.dt, a.sh) :: r)
/-- all data, none of them borrowed -/
def plain (rs : List (Dt × Bool)) : Option (List Dt) := if rs.any (·.2) then none else some (rs.map (·.1))
def eTup (fa : AF) : EF := fun env => (fa env).bind fun rs => (plain rs).bind fun ds => some (.vis (.tup ds))
def eLst (fa : AF) : EF := fun env => (fa env).bind fun rs => (plain rs).bind fun ds => some (.fre (.lst ds))
def Dt.scalar : Dt → Bool
  | .non | .bl _ | .int _ | .str _ => true
  | _ => false
abbrev FN := List Dt → Option Dt
def eCall (F : FN) (fa : AF) : EF := fun env => (fa env).bind fun rs => (F (rs.map (·.1))).bind fun d => if rs.any (·.2) && !d.scalar then none else some (.vis d)
def eIf (ft : TF) (fa fb : EF) : EF := fun env => (ft env).bind fun t => if t then fa env else fb env
/-- and, or, not as values (bools) -/
def eAnd (fa fb : EF) : EF := fun env => match fa env with
  | some (.vis (.bl true)) => fb env
  | some (.vis (.bl false)) => some (.vis (.bl false))
  | _ => none
def eOr (fa fb : EF) : EF := fun env => match fa env with
  | some (.vis (.bl true)) => some (.vis (.bl true))
  | some (.vis (.bl false)) => fb env
  | _ => none
def eNot (fa : EF) : EF := fun env => match fa env with
  | some (.vis (.bl b)) => some (.vis (.bl (!b)))
  | _ => none
/-! ### tests -/
def tVal (fa : EF) : TF := fun env => match fa env with
  | some (.vis (.bl b)) => some b
  | _ => none
def tAnd (a b : TF) : TF := fun env => (a env).bind fun t => if t then b env else some false
def tOr (a b : TF) : TF := fun env => (a env).bind fun t => if t then some true else b env
def tNot (a : TF) : TF := fun env => (a env).bind fun t => some (!t)

/-! ### operations on data -/
def LIM : Nat := 4194304
@[irreducible] def BIG : Nat := 2 ^ 400000
@[irreducible] def DIVB : Nat := 2 ^ 8999
theorem BIG_eq : BIG = 2 ^ 400000 := by unfold BIG; rfl
theorem DIVB_eq : DIVB = 2 ^ 8999 := by unfold DIVB; rfl
def pIntI (c : Int → Int → Option Int) : Dt → Dt → Option R
  | .int i, .int j => (c i j).map fun k => .vis (.int k)
  | _, _ => none
def pAdd : Dt → Dt → Option R
  | .int i, .int j => some (.vis (.int (i + j)))
  | .lst a, .lst b => if a.length + b.length ≤ LIM then some (.fre (.lst (a ++ b))) else none
  | .tup a, .tup b => if a.length + b.length ≤ LIM then some (.vis (.tup (a ++ b))) else none
  | .str a, .str b => if a.length + b.length ≤ LIM then some (.vis (.str (a ++ b))) else none
  | _, _ => none
def pSub : Dt → Dt → Option R := pIntI fun i j => some (i - j)
def pMul : Dt → Dt → Option R
  | .int i, .int j => if i.natAbs < BIG ∧ j.natAbs < BIG then some (.vis (.int (i * j))) else none
  | _, _ => none
def pDiv : Dt → Dt → Option R := pIntI fun i j => if 0 < j ∧ j.natAbs < DIVB then some (i / j) else none
def pMod : Dt → Dt → Option R := pIntI fun i j => if 0 < j then some (i % j) else none
def pPow : Dt → Dt → Option R := pIntI fun i j => if 0 ≤ j ∧ j ≤ 1000000 ∧ i.natAbs < 2 ^ 64 then some (i ^ j.toNat) else none
def pShl : Dt → Dt → Option R := pIntI fun i j => if 0 ≤ j ∧ j ≤ 100000 ∧ i.natAbs < BIG then some (i * 2 ^ j.toNat) else none
def pShr : Dt → Dt → Option R := pIntI fun i j => if 0 ≤ j then some (i / 2 ^ j.toNat) else none
def pNeg : Dt → Option R
  | .int i => some (.vis (.int (-i)))
  | _ => none
def pCmp (c : Int → Int → Bool) : Dt → Dt → Option R
  | .int i, .int j => some (.vis (.bl (c i j)))
  | _, _ => none
def pLt := pCmp fun i j => decide (i < j)
def pLe := pCmp fun i j => decide (i ≤ j)
def pGt := pCmp fun i j => decide (j < i)
def pGe := pCmp fun i j => decide (j ≤ i)
mutual
def Dt.py : Dt → Option PyData
  | .non => some .none
  | .bl b => some (.bool b)
  | .int i => some (.int i)
  | .str x => some (.str x)
  | .lst ds => (Dt.pyL ds).map .list
  | .tup ds => (Dt.pyL ds).map .tuple
  | .obj _ _ => none
def Dt.pyL : List Dt → Option (List PyData)
  | [] => some []
  | d :: ds => (Dt.py d).bind fun p => (Dt.pyL ds).bind fun r => some (p :: r)
end
/-- == of data -/
def eqD (a b : Dt) : Option Bool := (a.py).bind fun p => (b.py).bind fun q => if SeqAt.shaped p && SeqAt.shaped q then some (PyData.eqv p q) else none
def pEq (a b : Dt) : Option R := (eqD a b).map fun t => .vis (.bl t)
def pNe (a b : Dt) : Option R := (eqD a b).map fun t => .vis (.bl (!t))
def Dt.isNon : Dt → Bool
  | .non => true
  | _ => false
def pIsN (a : Dt) : Option R := some (.vis (.bl a.isNon))
def pNotN (a : Dt) : Option R := some (.vis (.bl (!a.isNon)))
def atL {α : Type} (ds : List α) (i : Int) : Option α := if 0 ≤ i then ds[i.toNat]? else if -(ds.length : Int) ≤ i then ds[(i + ds.length).toNat]? else none
def pIx : Dt → Dt → Option R
  | .lst ds, .int i => (atL ds i).map .vis
  | .tup ds, .int i => (atL ds i).map .vis
  | .str z, .int i => if z.length ≤ LIM then (atL z.cps.toList i).map fun c => .vis (.str ⟨#[c]⟩) else none
  | _, _ => none
/-- the bounds of a slice, as the interpreter makes them -/
def sIx (n : Nat) (dflt : Nat) : Option Int → Nat
  | none => dflt
  | some i => if 0 ≤ i then min i.toNat n else (i + n).toNat
def cutD (ds : List Dt) (lo hi : Option Int) : List Dt := (ds.drop (sIx ds.length 0 lo)).take (sIx ds.length ds.length hi - sIx ds.length 0 lo)
abbrev OF := Sl → Option (Option Int)
def oNone : OF := fun _ => some none
def oSome (fa : EF) : OF := fun env => match fa env with
  | some (.vis (.int i)) => some (some i)
  | _ => none
def eSlice (fa : EF) (lo hi : OF) : EF := fun env => (fa env).bind fun a => (lo env).bind fun l => (hi env).bind fun h => match a.dt with
  | .lst ds => some (.fre (.lst (cutD ds l h)))
  | .tup ds => some (.vis (.tup (cutD ds l h)))
  | _ => none
/-! built-in functions -/
def pLen : Dt → Option R
  | .lst ds => some (.vis (.int ds.length))
  | .tup ds => some (.vis (.int ds.length))
  | _ => none
def pInt : Dt → Option R
  | .int i => some (.vis (.int i))
  | .bl b => some (.vis (.int (if b then 1 else 0)))
  | _ => none
def pAbs : Dt → Option R
  | .int i => some (.vis (.int (if i < 0 then -i else i)))
  | _ => none
def intsOf : List Dt → Option (List Int)
  | [] => some []
  | .int i :: ds => (intsOf ds).map (i :: ·)
  | _ => none
def pSum : Dt → Option R
  | .lst ds => (intsOf ds).map fun ns => .vis (.int ns.sum)
  | _ => none
def pMaxL : Dt → Option R
  | .lst ds => (intsOf ds).bind fun ns => match ns with
    | [] => none
    | n :: ns => some (.vis (.int (ns.foldl (fun m x => if x > m then x else m) n)))
  | _ => none
def pMinL : Dt → Option R
  | .lst ds => (intsOf ds).bind fun ns => match ns with
    | [] => none
    | n :: ns => some (.vis (.int (ns.foldl (fun m x => if x < m then x else m) n)))
  | _ => none
/-- an int among ints -/
def inInts : Dt → Dt → Option Bool
  | .int i, .lst ds => (intsOf ds).map fun ns => decide (i ∈ ns)
  | .int i, .tup ds => (intsOf ds).map fun ns => decide (i ∈ ns)
  | _, _ => none
def pIn (a b : Dt) : Option R := (inInts a b).map fun t => .vis (.bl t)
def pNotIn (a b : Dt) : Option R := (inInts a b).map fun t => .vis (.bl (!t))
def pMax2 : Dt → Dt → Option R
  | .int i, .int j => some (.vis (.int (if j > i then j else i)))
  | _, _ => none
def pMin2 : Dt → Dt → Option R
  | .int i, .int j => some (.vis (.int (if j < i then j else i)))
  | _, _ => none
def chooseN : Nat → Nat → Nat
  | _, 0 => 1
  | 0, _ + 1 => 0
  | n + 1, k + 1 => chooseN n k + chooseN n (k + 1)
def pGcd : Dt → Dt → Option R
  | .int i, .int j => some (.vis (.int (Nat.gcd i.natAbs j.natAbs : Nat)))
  | _, _ => none
def pComb : Dt → Dt → Option R
  | .int i, .int j => if 0 ≤ i ∧ i ≤ 9000 ∧ 0 ≤ j then some (.vis (.int (chooseN i.toNat j.toNat : Nat))) else none
  | _, _ => none
/-- a op b op' c -/
def eChain (p q : Dt → Dt → Option R) (fa fb fc : EF) : EF := fun env => (fa env).bind fun a => (fb env).bind fun b => match p a.dt b.dt with
  | some (.vis (.bl true)) => (fc env).bind fun c => q b.dt c.dt
  | some (.vis (.bl false)) => some (.vis (.bl false))
  | _ => none
def pList : Dt → Option R
  | .lst ds => some (.fre (.lst ds))
  | .tup ds => some (.fre (.lst ds))
  | _ => none
def pTuple : Dt → Option R
  | .lst ds => some (.vis (.tup ds))
  | .tup ds => some (.vis (.tup ds))
  | _ => none
/-- isinstance(x, T), T a built-in type by its name -/
def Dt.ty : Dt → Option String
  | .non => some "NoneType"
  | .bl _ => some "bool"
  | .int _ => some "int"
  | .str _ => some "str"
  | .lst _ => some "list"
  | .tup _ => some "tuple"
  | .obj _ _ => none
def isTy (T : String) (d : Dt) : Option Bool := d.ty.map fun t => t == T || (t == "bool" && T == "int")
def pIsi (T : String) (d : Dt) : Option R := (isTy T d).map fun b => .vis (.bl b)

/-! ### what a loop or a comprehension walks -/
abbrev IF := Sl → Option (List Dt × Bool)
def iSeq (fa : EF) : IF := fun env => (fa env).bind fun a => match a.dt with
  | .lst ds => some (ds, a.sh)
  | .tup ds => some (ds, a.sh)
  | _ => none
def rngD (lo : Int) (n : Nat) : List Dt := (List.range n).map fun i : Nat => .int (lo + (i : Int))
def iRange1 (fa : EF) : IF := fun env => match fa env with
  | some (.vis (.int n)) => if n < 4611686018427387904 ∧ -4611686018427387904 ≤ n then some (rngD 0 n.toNat, false) else none
  | _ => none
def iRange2 (fa fb : EF) : IF := fun env => (fa env).bind fun a => (fb env).bind fun b => match a.dt, b.dt with
  | .int lo, .int hi => if -4611686018427387904 ≤ lo ∧ lo < 4611686018427387904 ∧ -4611686018427387904 ≤ hi ∧ hi < 4611686018427387904 then some (rngD lo (hi - lo).toNat, false) else none
  | _, _ => none
/-- how many numbers range(a, b, c) has, c above 0 or -1 -/
def stepN (a b c : Int) : Nat := if 0 < c then (if a < b then ((b - a - 1) / c + 1).toNat else 0) else (a - b).toNat
def stepD (a c : Int) (n : Nat) : List Dt := (List.range n).map fun k : Nat => .int (a + (k : Int) * c)
def iRange3 (fa fb fc : EF) : IF := fun env => (fa env).bind fun a => (fb env).bind fun b => (fc env).bind fun c => match a.dt, b.dt, c.dt with
  | .int i, .int j, .int k => if ((0 < k ∧ k < 1073741824) ∨ k = -1) ∧ (-1099511627776 ≤ i ∧ i ≤ 1099511627776) ∧ -1099511627776 ≤ j ∧ j ≤ 1099511627776 then some (stepD i k (stepN i j k), false) else none
  | _, _, _ => none
def seqOf : Dt → Option (List Dt)
  | .lst ds => some ds
  | .tup ds => some ds
  | _ => none
def iZip (fa fb : EF) : IF := fun env => (fa env).bind fun a => (fb env).bind fun b => (seqOf a.dt).bind fun xs => (seqOf b.dt).bind fun ys =>
  some (List.zipWith (fun x y => Dt.tup [x, y]) xs ys, a.sh || b.sh)
/-- targets -/
abbrev GF := Dt → Sl → Option Sl
def gN (i : Nat) : GF := fun d env => some (env.set i (.val d))
def gsN : List Nat → List Dt → Sl → Option Sl
  | [], [], env => some env
  | i :: is, d :: ds, env => gsN is ds (env.set i (.val d))
  | _, _, _ => none
def gT (is : List Nat) : GF := fun d env => match d with
  | .tup ds => gsN is ds env
  | .lst ds => gsN is ds env
  | _ => none
def wipeS (env : Sl) : List Nat → Sl
  | [] => env
  | i :: is => (wipeS env is).set i .non
/-- one turn of a comprehension -/
def compG (env : Sl) (own : List Nat) (g : GF) (t : TF) (e : EF) (d : Dt) : Option (List Dt) := (g d (wipeS env own)).bind fun env' => (t env').bind fun b => if b then (e env').bind fun r => if r.sh then none else some [r.dt] else some []
def compL (g : Dt → Option (List Dt)) : List Dt → Option (List Dt)
  | [] => some []
  | d :: ds => (g d).bind fun o => (compL g ds).bind fun r => some (o ++ r)
def tYes : TF := fun _ => some true
def eComp (own : List Nat) (i : IF) (g : GF) (t : TF) (e : EF) : EF := fun env => (i env).bind fun ds => (compL (compG env own g t e) ds.1).bind fun out => if ds.1.length ≤ LIM then some (.fre (.lst out)) else none

/-! ### statements -/
structure En where
  nx : Sl → Prop
  rt : Dt → Prop
  bk : Sl → Prop
  ct : Sl → Prop
abbrev WS := En → Sl → Prop
def wNil : WS := fun D env => D.nx env
def wSeq (a b : WS) : WS := fun D env => ∃ M : Sl → Prop, a { D with nx := M } env ∧ ∀ e, M e → b D e
def R.slot : R → Slot
  | .vis d => .val d
  | .fre o => .own o
  | .bor _ => .non
def wAsg (i : Nat) (e : EF) : WS := fun D env => ∃ r, e env = some r ∧ r.sh = false ∧ D.nx (env.set i r.slot)
def wUnp (is : List Nat) (e : EF) : WS := fun D env => ∃ d env', e env = some (.vis d) ∧ gT is d env = some env' ∧ D.nx env'
def wRet (e : EF) : WS := fun D env => ∃ r, e env = some r ∧ r.sh = false ∧ D.rt r.dt
def wRetN : WS := fun D _ => D.rt .non
def wIf (t : TF) (a b : WS) : WS := fun D env => ∃ c, t env = some c ∧ ((c = true → a D env) ∧ (c = false → b D env))
def wDrop (e : EF) : WS := fun D env => ∃ r, e env = some r ∧ D.nx env
def wApp (i : Nat) (e : EF) : WS := fun D env => ∃ ds r, env[i]? = some (.own (.lst ds)) ∧ e env = some r ∧ r.sh = false ∧ ds.length < LIM ∧ D.nx (env.set i (.own (.lst (ds ++ [r.dt]))))
/-- xs[k] = e -/
def wPut (i : Nat) (k e : EF) : WS := fun D env => ∃ ds r j, env[i]? = some (.own (.lst ds)) ∧ e env = some r ∧ r.sh = false ∧ k env = some (.vis (.int j)) ∧ -(ds.length : Int) ≤ j ∧ j < ds.length ∧ D.nx (env.set i (.own (.lst (ds.set (if 0 ≤ j then j else j + ds.length).toNat r.dt))))
/-- never come to -/
def wDead : WS := fun _ _ => False
def wBrk : WS := fun D env => D.bk env
def wCnt : WS := fun D env => D.ct env
def wFor (fi : IF) (g : GF) (b : WS) : WS := fun D env => ∃ ds, fi env = some (ds, false) ∧ ∃ I : Nat → Sl → Prop, I 0 env ∧
  (∀ i env d, ds[i]? = some d → I i env → ∃ env', g d env = some env' ∧ b { D with nx := I (i + 1), bk := D.nx, ct := I (i + 1) } env') ∧ ∀ env, I ds.length env → D.nx env
/-- over a list of one's own, that the body leaves alone -/
def wForO (k : Nat) (g : GF) (b : WS) : WS := fun D env => ∃ ds, env[k]? = some (.own (.lst ds)) ∧ ∃ I : Nat → Sl → Prop, I 0 (env.set k .take) ∧
  (∀ i env d, ds[i]? = some d → I i env → ∃ env', g d env = some env' ∧ b { D with nx := I (i + 1), bk := fun e => e[k]? = some .take ∧ D.nx (e.set k (.own (.lst ds))), ct := I (i + 1) } env') ∧
  ∀ env, I ds.length env → env[k]? = some .take ∧ D.nx (env.set k (.own (.lst ds)))
def wWhile (t : TF) (b : WS) : WS := fun D env => ∃ I : Nat → Sl → Prop, (∃ m, I m env) ∧ ∀ m env, I m env → ∃ c, t env = some c ∧
  ((c = true → b { D with nx := fun e => ∃ m', m' < m ∧ I m' e, bk := D.nx, ct := fun e => ∃ m', m' < m ∧ I m' e } env) ∧ (c = false → D.nx env))
/-- what a name holds is from now on data -/
def frzS (i : Nat) (env : Sl) : Sl := match env[i]? with
  | some (.own o) => env.set i (.val o.dt)
  | _ => env
def wFrz (i : Nat) (a : WS) : WS := fun D env => a D (frzS i env)
def startE (n : Nat) (ds : List Dt) : Sl := ds.map .val ++ List.replicate (n - ds.length) .non
/-- a def keeps the function F -/
def Keeps (n : Nat) (w : WS) (F : FN) : Prop := ∀ ds r, F ds = some r → w ⟨fun _ => r = .non, fun d => d = r, fun _ => False, fun _ => False⟩ (startE n ds)
end Pyl
end
section
set_option Elab.async false
set_option linter.all false
namespace Pyl
open PySem
/-! ### one step at a time: all by what the words mean -/
section
variable {env : Sl} {D : En} {a b : WS} {fa fb : EF} {ft fu : TF} {i : Nat} {d e : Dt} {x y : Int} {ds es : List Dt}
theorem wNil_at : wNil D env = D.nx env := rfl
theorem q_go (h : a { D with nx := b D } env) : wSeq a b D env := ⟨b D, h, fun _ h => h⟩
theorem wAsg_at : wAsg i fa D env = ∃ r, fa env = some r ∧ r.sh = false ∧ D.nx (env.set i r.slot) := rfl
theorem wUnp_at {is : List Nat} : wUnp is fa D env = ∃ d env', fa env = some (.vis d) ∧ gT is d env = some env' ∧ D.nx env' := rfl
theorem wRet_at : wRet fa D env = ∃ r, fa env = some r ∧ r.sh = false ∧ D.rt r.dt := rfl
theorem wRetN_at : wRetN D env = D.rt .non := rfl
theorem wIf_at : wIf ft a b D env = ∃ c, ft env = some c ∧ ((c = true → a D env) ∧ (c = false → b D env)) := rfl
theorem wDrop_at : wDrop fa D env = ∃ r, fa env = some r ∧ D.nx env := rfl
theorem wApp_at : wApp i fa D env = ∃ ds r, env[i]? = some (.own (.lst ds)) ∧ fa env = some r ∧ r.sh = false ∧ ds.length < LIM ∧ D.nx (env.set i (.own (.lst (ds ++ [r.dt])))) := rfl
theorem wPut_at : wPut i fb fa D env = ∃ ds r j, env[i]? = some (.own (.lst ds)) ∧ fa env = some r ∧ r.sh = false ∧ fb env = some (.vis (.int j)) ∧ -(ds.length : Int) ≤ j ∧ j < ds.length ∧ D.nx (env.set i (.own (.lst (ds.set (if 0 ≤ j then j else j + ds.length).toNat r.dt)))) := rfl
theorem wBrk_at : wBrk D env = D.bk env := rfl
theorem wCnt_at : wCnt D env = D.ct env := rfl
theorem wFrz_at : wFrz i a D env = a D (frzS i env) := rfl
theorem frzS_own {o : OD} (h : env[i]? = some (.own o)) : frzS i env = env.set i (.val o.dt) := by unfold frzS; rw [h]
theorem frzS_val (h : env[i]? = some (.val d)) : frzS i env = env := by unfold frzS; rw [h]
theorem frzS_at : frzS i env = match env[i]? with
  | some (.own o) => env.set i (.val o.dt)
  | _ => env := rfl
theorem eVar_at : eVar i env = match env[i]? with
  | some (.val d) => some (.vis d)
  | some (.own (.lst ds)) => some (.bor (.lst ds))
  | _ => none := rfl
theorem eC_at : eC d env = some (.vis d) := rfl
theorem e1_at {p : Dt → Option R} : e1 p fa env = (fa env).bind fun a => p a.dt := rfl
theorem e2_at {p : Dt → Dt → Option R} : e2 p fa fb env = (fa env).bind fun a => (fb env).bind fun b => p a.dt b.dt := rfl
theorem aNil_at : aNil env = some [] := rfl
theorem aCons_at {fr : AF} : aCons fa fr env = (fa env).bind fun a => (fr env).bind fun r => some ((a.dt, a.sh) :: r) := rfl
theorem eTup_at {fr : AF} : eTup fr env = (fr env).bind fun rs => (plain rs).bind fun ds => some (.vis (.tup ds)) := rfl
theorem eLst_at {fr : AF} : eLst fr env = (fr env).bind fun rs => (plain rs).bind fun ds => some (.fre (.lst ds)) := rfl
theorem plain_nil : plain [] = some [] := rfl
theorem plain_cons {rs : List (Dt × Bool)} : plain ((d, false) :: rs) = (plain rs).map (d :: ·) := by
  unfold plain
  rw [List.any_cons, Bool.false_or, List.map_cons]
  split <;> rfl
theorem eCall_at {F : FN} {fr : AF} : eCall F fr env = (fr env).bind fun rs => (F (rs.map (·.1))).bind fun d => if rs.any (·.2) && !d.scalar then none else some (.vis d) := rfl
theorem eIf_at : eIf ft fa fb env = (ft env).bind fun t => if t then fa env else fb env := rfl
theorem eAnd_at : eAnd fa fb env = match fa env with
  | some (.vis (.bl true)) => fb env
  | some (.vis (.bl false)) => some (.vis (.bl false))
  | _ => none := rfl
theorem eOr_at : eOr fa fb env = match fa env with
  | some (.vis (.bl true)) => some (.vis (.bl true))
  | some (.vis (.bl false)) => fb env
  | _ => none := rfl
theorem eNot_at : eNot fa env = match fa env with
  | some (.vis (.bl b)) => some (.vis (.bl (!b)))
  | _ => none := rfl
theorem tVal_at : tVal fa env = match fa env with
  | some (.vis (.bl b)) => some b
  | _ => none := rfl
theorem tAnd_at : tAnd ft fu env = (ft env).bind fun t => if t then fu env else some false := rfl
theorem tOr_at : tOr ft fu env = (ft env).bind fun t => if t then some true else fu env := rfl
theorem tNot_at : tNot ft env = (ft env).bind fun t => some (!t) := rfl
theorem tYes_at : tYes env = some true := rfl
theorem pAdd_int : pAdd (.int x) (.int y) = some (.vis (.int (x + y))) := rfl
theorem pAdd_lst (h : ds.length + es.length ≤ LIM) : pAdd (.lst ds) (.lst es) = some (.fre (.lst (ds ++ es))) := if_pos h
theorem pAdd_tup (h : ds.length + es.length ≤ LIM) : pAdd (.tup ds) (.tup es) = some (.vis (.tup (ds ++ es))) := if_pos h
theorem pSub_int : pSub (.int x) (.int y) = some (.vis (.int (x - y))) := rfl
theorem pMul_int (h1 : x.natAbs < BIG) (h2 : y.natAbs < BIG) : pMul (.int x) (.int y) = some (.vis (.int (x * y))) := if_pos ⟨h1, h2⟩
theorem pDiv_int (h1 : 0 < y) (h2 : y.natAbs < DIVB) : pDiv (.int x) (.int y) = some (.vis (.int (x / y))) := by
  show (if 0 < y ∧ y.natAbs < DIVB then some (x / y) else none).map _ = _
  rw [if_pos ⟨h1, h2⟩]
  rfl
theorem pMod_int (h1 : 0 < y) : pMod (.int x) (.int y) = some (.vis (.int (x % y))) := by
  show (if 0 < y then some (x % y) else none).map _ = _
  rw [if_pos h1]
  rfl
theorem pPow_int (h1 : 0 ≤ y) (h2 : y ≤ 1000000) (h3 : x.natAbs < 2 ^ 64) : pPow (.int x) (.int y) = some (.vis (.int (x ^ y.toNat))) := by
  show (if 0 ≤ y ∧ y ≤ 1000000 ∧ x.natAbs < 2 ^ 64 then some (x ^ y.toNat) else none).map _ = _
  rw [if_pos ⟨h1, h2, h3⟩]
  rfl
theorem pShl_int (h1 : 0 ≤ y) (h2 : y ≤ 100000) (h3 : x.natAbs < BIG) : pShl (.int x) (.int y) = some (.vis (.int (x * 2 ^ y.toNat))) := by
  show (if 0 ≤ y ∧ y ≤ 100000 ∧ x.natAbs < BIG then some (x * 2 ^ y.toNat) else none).map _ = _
  rw [if_pos ⟨h1, h2, h3⟩]
  rfl
theorem pShr_int (h1 : 0 ≤ y) : pShr (.int x) (.int y) = some (.vis (.int (x / 2 ^ y.toNat))) := by
  show (if 0 ≤ y then some (x / 2 ^ y.toNat) else none).map _ = _
  rw [if_pos h1]
  rfl
theorem pNeg_int : pNeg (.int x) = some (.vis (.int (-x))) := rfl
theorem pLt_int : pLt (.int x) (.int y) = some (.vis (.bl (decide (x < y)))) := rfl
theorem pLe_int : pLe (.int x) (.int y) = some (.vis (.bl (decide (x ≤ y)))) := rfl
theorem pGt_int : pGt (.int x) (.int y) = some (.vis (.bl (decide (y < x)))) := rfl
theorem pGe_int : pGe (.int x) (.int y) = some (.vis (.bl (decide (y ≤ x)))) := rfl
theorem shaped_int (x : Int) : SeqAt.shaped (.int x) = true := rfl
theorem eqD_int : eqD (.int x) (.int y) = some (decide (x = y)) := by
  show (if SeqAt.shaped (.int x) && SeqAt.shaped (.int y) then some (PyData.eqv (.int x) (.int y)) else none) = _
  rw [shaped_int, shaped_int]
  show some (x == y) = _
  by_cases h : x = y <;> simp [h]
theorem pEq_int : pEq (.int x) (.int y) = some (.vis (.bl (decide (x = y)))) := by unfold pEq; rw [eqD_int]; rfl
theorem pNe_int : pNe (.int x) (.int y) = some (.vis (.bl (!decide (x = y)))) := by unfold pNe; rw [eqD_int]; rfl
theorem pIsN_at : pIsN d = some (.vis (.bl d.isNon)) := rfl
theorem pNotN_at : pNotN d = some (.vis (.bl (!d.isNon))) := rfl
theorem pIx_lst : pIx (.lst ds) (.int x) = (atL ds x).map .vis := rfl
theorem pIx_tup : pIx (.tup ds) (.int x) = (atL ds x).map .vis := rfl
theorem atL_nat {α : Type} {l : List α} {n : Nat} : atL l (n : Int) = l[n]? := by
  unfold atL
  rw [if_pos (Int.natCast_nonneg n), Int.toNat_natCast]
theorem atL_of_get {α : Type} {l : List α} {z : Int} {v : α} (h0 : 0 ≤ z) (h : l[z.toNat]? = some v) : atL l z = some v := by
  unfold atL
  rw [if_pos h0, h]
theorem atL_zero {α : Type} {a : α} {l : List α} : atL (a :: l) 0 = some a := rfl
theorem atL_last {α : Type} {a : α} {l : List α} : atL (l ++ [a]) (-1) = some a := by
  unfold atL
  rw [if_neg (by decide), if_pos (by rw [List.length_append, List.length_singleton]; omega)]
  rw [show (-1 + ((l ++ [a]).length : Int)).toNat = l.length by rw [List.length_append, List.length_singleton]; omega]
  rw [List.getElem?_append_right (Nat.le_refl _), Nat.sub_self]
  rfl
theorem oNone_at : oNone env = some none := rfl
theorem oSome_at : oSome fa env = match fa env with
  | some (.vis (.int i)) => some (some i)
  | _ => none := rfl
theorem eSlice_at {lo hi : OF} : eSlice fa lo hi env = (fa env).bind fun a => (lo env).bind fun l => (hi env).bind fun h => match a.dt with
  | .lst ds => some (.fre (.lst (cutD ds l h)))
  | .tup ds => some (.vis (.tup (cutD ds l h)))
  | _ => none := rfl
theorem pLen_lst : pLen (.lst ds) = some (.vis (.int ds.length)) := rfl
theorem pLen_tup : pLen (.tup ds) = some (.vis (.int ds.length)) := rfl
theorem pInt_int : pInt (.int x) = some (.vis (.int x)) := rfl
theorem pInt_bl {t : Bool} : pInt (.bl t) = some (.vis (.int (if t then 1 else 0))) := rfl
theorem pAbs_int : pAbs (.int x) = some (.vis (.int (if x < 0 then -x else x))) := rfl
theorem pSum_lst {ns : List Int} (h : intsOf ds = some ns) : pSum (.lst ds) = some (.vis (.int ns.sum)) := by
  show (intsOf ds).map _ = _
  rw [h]
  rfl
theorem intsOf_ints : ∀ ns : List Int, intsOf (ns.map Dt.int) = some ns
  | [] => rfl
  | n :: ns => by
    rw [List.map_cons]
    unfold intsOf
    rw [intsOf_ints ns]
    rfl
theorem pSum_ints {ns : List Int} : pSum (.lst (ns.map .int)) = some (.vis (.int ns.sum)) := pSum_lst (intsOf_ints ns)
theorem pMax2_int : pMax2 (.int x) (.int y) = some (.vis (.int (if y > x then y else x))) := rfl
theorem pMin2_int : pMin2 (.int x) (.int y) = some (.vis (.int (if y < x then y else x))) := rfl
theorem pList_lst : pList (.lst ds) = some (.fre (.lst ds)) := rfl
theorem pList_tup : pList (.tup ds) = some (.fre (.lst ds)) := rfl
theorem pTuple_lst : pTuple (.lst ds) = some (.vis (.tup ds)) := rfl
theorem pTuple_tup : pTuple (.tup ds) = some (.vis (.tup ds)) := rfl
theorem iSeq_at : iSeq fa env = (fa env).bind fun a => match a.dt with
  | .lst ds => some (ds, a.sh)
  | .tup ds => some (ds, a.sh)
  | _ => none := rfl
theorem iRange1_at : iRange1 fa env = match fa env with
  | some (.vis (.int n)) => if n < 4611686018427387904 ∧ -4611686018427387904 ≤ n then some (rngD 0 n.toNat, false) else none
  | _ => none := rfl
theorem eChain_at {p q : Dt → Dt → Option R} {fc : EF} : eChain p q fa fb fc env = (fa env).bind fun a => (fb env).bind fun b => match p a.dt b.dt with
  | some (.vis (.bl true)) => (fc env).bind fun c => q b.dt c.dt
  | some (.vis (.bl false)) => some (.vis (.bl false))
  | _ => none := rfl
theorem pGcd_int : pGcd (.int x) (.int y) = some (.vis (.int (Nat.gcd x.natAbs y.natAbs : Nat))) := rfl
theorem pComb_nat {n k : Nat} (h : n ≤ 9000) : pComb (.int (n : Int)) (.int (k : Int)) = some (.vis (.int (chooseN n k : Nat))) := by
  show (if 0 ≤ (n : Int) ∧ (n : Int) ≤ 9000 ∧ 0 ≤ (k : Int) then some (R.vis (.int (chooseN (n : Int).toNat (k : Int).toNat : Nat))) else none) = _
  rw [if_pos ⟨by omega, by omega, by omega⟩, Int.toNat_natCast, Int.toNat_natCast]
/-- a chain of two comparisons of ints -/
theorem chain_le {fc : EF} {z : Int} (h1 : fa env = some (.vis (.int x))) (h2 : fb env = some (.vis (.int y))) (h3 : fc env = some (.vis (.int z))) : eChain pLe pLe fa fb fc env = some (.vis (.bl (decide (x ≤ y ∧ y ≤ z)))) := by
  rw [eChain_at, h1, h2, h3]
  show (match pLe (.int x) (.int y) with
    | some (.vis (.bl true)) => pLe (.int y) (.int z)
    | some (.vis (.bl false)) => some (.vis (.bl false))
    | _ => none) = _
  rw [pLe_int, pLe_int]
  by_cases h : x ≤ y <;> simp [h]
theorem rng1 {n : Int} (h : fa env = some (.vis (.int n))) (h1 : n < 4611686018427387904) (h2 : -4611686018427387904 ≤ n := by omega) : iRange1 fa env = some (rngD 0 n.toNat, false) := by
  rw [iRange1_at, h]
  exact if_pos ⟨h1, h2⟩
theorem rng2 {lo hi : Int} (h : fa env = some (.vis (.int lo))) (h' : fb env = some (.vis (.int hi))) (h1 : -4611686018427387904 ≤ lo ∧ lo < 4611686018427387904 ∧ -4611686018427387904 ≤ hi ∧ hi < 4611686018427387904 := by omega) : iRange2 fa fb env = some (rngD lo (hi - lo).toNat, false) := by
  show (fa env).bind _ = _
  rw [h]
  show (fb env).bind _ = _
  rw [h']
  exact if_pos h1
theorem rng3 {fc : EF} {i j k : Int} {n : Nat} (h1 : fa env = some (.vis (.int i))) (h2 : fb env = some (.vis (.int j))) (h3 : fc env = some (.vis (.int k))) (hn : stepN i j k = n) (hk : (0 < k ∧ k < 1073741824) ∨ k = -1) (hb : (-1099511627776 ≤ i ∧ i ≤ 1099511627776) ∧ -1099511627776 ≤ j ∧ j ≤ 1099511627776 := by omega) : iRange3 fa fb fc env = some (stepD i k n, false) := by
  show (fa env).bind _ = _
  rw [h1]
  show (fb env).bind _ = _
  rw [h2]
  show (fc env).bind _ = _
  rw [h3, ← hn]
  exact if_pos ⟨hk, hb⟩
theorem stepD_len (a c : Int) (n : Nat) : (stepD a c n).length = n := by
  unfold stepD
  rw [List.length_map, List.length_range]
theorem stepD_at {a c : Int} {n j : Nat} {v : Dt} (h : (stepD a c n)[j]? = some v) : j < n ∧ v = .int (a + (j : Int) * c) := by
  unfold stepD at h
  rw [List.getElem?_map] at h
  cases hj : (List.range n)[j]? with
  | none => rw [hj] at h; cases h
  | some k =>
    rw [hj] at h
    have hl := (List.getElem?_eq_some_iff.mp hj).1
    rw [List.length_range] at hl
    rw [List.getElem?_range hl] at hj
    cases hj
    cases h
    exact ⟨hl, rfl⟩
theorem rngD_at {lo : Int} {n j : Nat} {v : Dt} (h : (rngD lo n)[j]? = some v) : j < n ∧ v = .int (lo + (j : Int)) := by
  unfold rngD at h
  rw [List.getElem?_map] at h
  cases hj : (List.range n)[j]? with
  | none => rw [hj] at h; cases h
  | some k =>
    rw [hj] at h
    have hl := (List.getElem?_eq_some_iff.mp hj).1
    rw [List.length_range] at hl
    rw [List.getElem?_range hl] at hj
    cases hj
    cases h
    exact ⟨hl, rfl⟩
theorem rngD_len (lo : Int) (n : Nat) : (rngD lo n).length = n := by
  unfold rngD
  rw [List.length_map, List.length_range]
theorem gN_at : gN i d env = some (env.set i (.val d)) := rfl
theorem gT_at {is : List Nat} : gT is (.tup ds) env = gsN is ds env := rfl
theorem gT_lst {is : List Nat} : gT is (.lst ds) env = gsN is ds env := rfl
theorem gsN_cons {is : List Nat} : gsN (i :: is) (d :: ds) env = gsN is ds (env.set i (.val d)) := rfl
theorem gsN_nil : gsN [] [] env = some env := rfl
theorem wipeS_cons {is : List Nat} : wipeS env (i :: is) = (wipeS env is).set i .non := rfl
theorem wipeS_nil : wipeS env [] = env := rfl
theorem compG_at {own : List Nat} {g : GF} : compG env own g ft fa d = (g d (wipeS env own)).bind fun env' => (ft env').bind fun b => if b then (fa env').bind fun r => if r.sh then none else some [r.dt] else some [] := rfl
theorem eComp_of {own : List Nat} {fi : IF} {g : GF} {s : Bool} {out : List Dt} (h : fi env = some (ds, s)) (hl : ds.length ≤ LIM) (hc : compL (compG env own g ft fa) ds = some out) : eComp own fi g ft fa env = some (.fre (.lst out)) := by
  show (fi env).bind _ = _
  rw [h]
  show (compL _ ds).bind _ = _
  rw [hc]
  exact if_pos hl
end
/-! ### comprehensions -/
theorem compL_flat {g : Dt → Option (List Dt)} {k : Dt → List Dt} : ∀ {ds : List Dt}, (∀ d ∈ ds, g d = some (k d)) → compL g ds = some (ds.flatMap k)
  | [], _ => rfl
  | d :: ds, h => by
    show (g d).bind _ = _
    rw [h d List.mem_cons_self]
    show (compL g ds).bind _ = _
    rw [compL_flat fun e he => h e (List.mem_cons_of_mem _ he), List.flatMap_cons]
    rfl
/-- the items typed, each gives one item -/
theorem compL_map {α β : Type} {g : Dt → Option (List Dt)} {u : α → Dt} {v : β → Dt} {f : α → β} : ∀ {xs : List α}, (∀ x ∈ xs, g (u x) = some [v (f x)]) → compL g (xs.map u) = some ((xs.map f).map v)
  | [], _ => rfl
  | x :: xs, h => by
    rw [List.map_cons, List.map_cons, List.map_cons]
    show (g (u x)).bind _ = _
    rw [h x List.mem_cons_self]
    show (compL g (xs.map u)).bind _ = _
    rw [compL_map fun y hy => h y (List.mem_cons_of_mem _ hy)]
    rfl
theorem compL_filter {α β : Type} {g : Dt → Option (List Dt)} {u : α → Dt} {v : β → Dt} {p : α → Bool} {f : α → β} : ∀ {xs : List α}, (∀ x ∈ xs, g (u x) = some (if p x then [v (f x)] else [])) → compL g (xs.map u) = some (((xs.filter p).map f).map v)
  | [], _ => rfl
  | x :: xs, h => by
    rw [List.map_cons]
    show (g (u x)).bind _ = _
    rw [h x List.mem_cons_self]
    show (compL g (xs.map u)).bind _ = _
    rw [compL_filter fun y hy => h y (List.mem_cons_of_mem _ hy), List.filter_cons]
    cases p x <;> rfl
/-- by places -/
theorem compL_ix {g : Dt → Option (List Dt)} : ∀ {ds out : List Dt}, ds.length = out.length → (∀ (i : Nat) d o, ds[i]? = some d → out[i]? = some o → g d = some [o]) → compL g ds = some out
  | [], [], _, _ => rfl
  | [], _ :: _, h, _ => by cases h
  | _ :: _, [], h, _ => by cases h
  | d :: ds, o :: out, hl, h => by
    show (g d).bind _ = _
    rw [h 0 d o rfl rfl]
    show (compL g ds).bind _ = _
    rw [compL_ix (by simpa using hl) fun i d' o' h1 h2 => h (i + 1) d' o' h1 h2]
    rfl
/-! ### functions told by what they give -/
/-- the end in which just r is returned -/
def endR (r : Dt) : En := ⟨fun _ => r = .non, fun d => d = r, fun _ => False, fun _ => False⟩
open Classical in
noncomputable def autoF (n : Nat) (w : WS) (P : List Dt → Dt → Prop) : FN := fun ds => if h : ∃ r, P ds r ∧ w (endR r) (startE n ds) then some (choose h) else none
theorem auto_spec {n : Nat} {w : WS} {P : List Dt → Dt → Prop} {ds : List Dt} {r : Dt} (h : autoF n w P ds = some r) : P ds r ∧ w (endR r) (startE n ds) := by
  unfold autoF at h
  split at h
  · rename_i hk
    cases h
    exact Classical.choose_spec hk
  · cases h
theorem auto_keeps {n : Nat} {w : WS} {P : List Dt → Dt → Prop} : Keeps n w (autoF n w P) := fun ds r h => (auto_spec h).2
theorem auto_at {n : Nat} {w : WS} {P : List Dt → Dt → Prop} {ds : List Dt} (h : ∃ r, P ds r ∧ w (endR r) (startE n ds)) : ∃ r, autoF n w P ds = some r ∧ P ds r := by
  unfold autoF
  rw [dif_pos h]
  exact ⟨_, rfl, (Classical.choose_spec h).1⟩
/-! ### loops -/
theorem wFor_of {fi : IF} {g : GF} {b : WS} {D : En} {env : Sl} {ds : List Dt} (I : Nat → Sl → Prop) (h : fi env = some (ds, false)) (h0 : I 0 env)
    (hs : ∀ i env d, ds[i]? = some d → I i env → ∃ env', g d env = some env' ∧ b { D with nx := I (i + 1), bk := D.nx, ct := I (i + 1) } env') (hd : ∀ env, I ds.length env → D.nx env) : wFor fi g b D env := ⟨ds, h, I, h0, hs, hd⟩
/-- over typed items -/
theorem wFor_map {α : Type} {u : α → Dt} {xs : List α} {fi : IF} {g : GF} {b : WS} {D : En} {env : Sl} (I : Nat → Sl → Prop) (h : fi env = some (xs.map u, false)) (h0 : I 0 env)
    (hs : ∀ i env x, xs[i]? = some x → I i env → ∃ env', g (u x) env = some env' ∧ b { D with nx := I (i + 1), bk := D.nx, ct := I (i + 1) } env') (hd : ∀ env, I xs.length env → D.nx env) : wFor fi g b D env := by
  refine ⟨_, h, I, h0, fun i env d hi inv => ?_, fun env inv => hd env (by rw [List.length_map] at inv; exact inv)⟩
  rw [List.getElem?_map] at hi
  cases hx : xs[i]? with
  | none => rw [hx] at hi; cases hi
  | some x =>
    rw [hx] at hi
    cases hi
    exact hs i env x hx inv
theorem wFor_rng {lo : Int} {n : Nat} {fi : IF} {g : GF} {b : WS} {D : En} {env : Sl} (I : Nat → Sl → Prop) (h : fi env = some (rngD lo n, false)) (h0 : I 0 env)
    (hs : ∀ i env, i < n → I i env → ∃ env', g (.int (lo + (i : Int))) env = some env' ∧ b { D with nx := I (i + 1), bk := D.nx, ct := I (i + 1) } env') (hd : ∀ env, I n env → D.nx env) : wFor fi g b D env := by
  refine ⟨_, h, I, h0, fun i env d hi inv => ?_, fun env inv => hd env (by rw [rngD_len] at inv; exact inv)⟩
  obtain ⟨hl, rfl⟩ := rngD_at hi
  exact hs i env hl inv
theorem wWhile_of {t : TF} {b : WS} {D : En} {env : Sl} (I : Nat → Sl → Prop) (m : Nat) (h0 : I m env)
    (hs : ∀ m env, I m env → ∃ c, t env = some c ∧ ((c = true → b { D with nx := fun e => ∃ m', m' < m ∧ I m' e, bk := D.nx, ct := fun e => ∃ m', m' < m ∧ I m' e } env) ∧ (c = false → D.nx env))) : wWhile t b D env := ⟨I, ⟨m, h0⟩, hs⟩
/-! ### sizes -/
theorem big_of {x : Int} {n : Nat} (h : x.natAbs < 2 ^ n) (hn : n ≤ 400000) : x.natAbs < BIG := by
  rw [BIG_eq]
  exact Nat.lt_of_lt_of_le h (Nat.pow_le_pow_right (by decide) hn)
theorem big64 {x : Int} (h1 : -18446744073709551616 < x) (h2 : x < 18446744073709551616) : x.natAbs < BIG := big_of (n := 64) (by omega) (by decide)
theorem div64 {x : Int} (h0 : 0 < x) (h2 : x < 18446744073709551616) : x.natAbs < DIVB := by
  rw [DIVB_eq]
  exact Nat.lt_of_lt_of_le (show x.natAbs < 2 ^ 64 by omega) (Nat.pow_le_pow_right (by decide) (by decide))
theorem lim_of {n : Nat} (h : n ≤ 4000000) : n ≤ LIM := Nat.le_trans h (by decide)
theorem lim_lt {n : Nat} (h : n < 4000000) : n < LIM := Nat.lt_of_lt_of_le h (by decide)
/-! ### results -/
theorem dt_vis {d : Dt} : (R.vis d).dt = d := rfl
theorem dt_bor {d : Dt} : (R.bor d).dt = d := rfl
theorem dt_fre {ds : List Dt} : (R.fre (.lst ds)).dt = .lst ds := rfl
theorem sh_vis {d : Dt} : (R.vis d).sh = false := rfl
theorem sh_bor {d : Dt} : (R.bor d).sh = true := rfl
theorem sh_fre {o : OD} : (R.fre o).sh = false := rfl
theorem slot_vis {d : Dt} : (R.vis d).slot = .val d := rfl
theorem slot_fre {o : OD} : (R.fre o).slot = .own o := rfl
theorem od_dt {ds : List Dt} : (OD.lst ds).dt = .lst ds := rfl
theorem isNon_non : Dt.non.isNon = true := rfl
theorem isNon_int {i : Int} : (Dt.int i).isNon = false := rfl
theorem isNon_lst {ds : List Dt} : (Dt.lst ds).isNon = false := rfl
theorem isNon_tup {ds : List Dt} : (Dt.tup ds).isNon = false := rfl
theorem scalar_int {i : Int} : (Dt.int i).scalar = true := rfl
theorem scalar_bl {i : Bool} : (Dt.bl i).scalar = true := rfl
theorem scalar_non : Dt.non.scalar = true := rfl
/-! ### a statement and the rest -/
section
variable {env env' : Sl} {D : En} {a b rest : WS} {fa fb : EF} {ft fu : TF} {i : Nat} {r : R} {ds : List Dt} {c : Bool}
theorem q_asg (h : fa env = some r) (hs : r.sh = false) (he : env.set i r.slot = env') (k : rest D env') : wSeq (wAsg i fa) rest D env := q_go ⟨r, h, hs, by rw [he]; exact k⟩
theorem s_asg (h : fa env = some r) (hs : r.sh = false) (he : env.set i r.slot = env') (k : D.nx env') : wAsg i fa D env := ⟨r, h, hs, by rw [he]; exact k⟩
theorem s_ret {d : Dt} (h : fa env = some r) (hs : r.sh = false) (hd : r.dt = d) (k : D.rt d) : wRet fa D env := ⟨r, h, hs, by rw [hd]; exact k⟩
theorem q_ret {d : Dt} (h : fa env = some r) (hs : r.sh = false) (hd : r.dt = d) (k : D.rt d) : wSeq (wRet fa) rest D env := q_go ⟨r, h, hs, by rw [hd]; exact k⟩
theorem q_if (h : ft env = some c) (h1 : c = true → a { D with nx := rest D } env) (h2 : c = false → b { D with nx := rest D } env) : wSeq (wIf ft a b) rest D env := q_go ⟨c, h, h1, h2⟩
theorem s_if (h : ft env = some c) (h1 : c = true → a D env) (h2 : c = false → b D env) : wIf ft a b D env := ⟨c, h, h1, h2⟩
/-- by a test of Lean's -/
theorem q_ifD {p : Prop} [Decidable p] (h : ft env = some (decide p)) (h1 : p → a { D with nx := rest D } env) (h2 : ¬ p → b { D with nx := rest D } env) : wSeq (wIf ft a b) rest D env := q_go ⟨_, h, fun e => h1 (of_decide_eq_true e), fun e => h2 (of_decide_eq_false e)⟩
theorem s_ifD {p : Prop} [Decidable p] (h : ft env = some (decide p)) (h1 : p → a D env) (h2 : ¬ p → b D env) : wIf ft a b D env := ⟨_, h, fun e => h1 (of_decide_eq_true e), fun e => h2 (of_decide_eq_false e)⟩
/-- if c: x = e, x known: told by one value -/
theorem q_ifAsg {p : Prop} [Decidable p] {d d1 : Dt} (h : ft env = some (decide p)) (h1 : p → fa env = some (.vis d1)) (h2 : ¬ p → env[i]? = some (.val d)) (k : ∀ d2, d2 = (if p then d1 else d) → rest D (env.set i (.val d2))) : wSeq (wIf ft (wAsg i fa) wNil) rest D env := by
  refine q_ifD h (fun hp => ⟨_, h1 hp, rfl, k d1 (if_pos hp).symm⟩) (fun hp => ?_)
  have q := k d (if_neg hp).symm
  have e : env.set i (.val d) = env := by
    have z := h2 hp
    obtain ⟨hl, hz⟩ := List.getElem?_eq_some_iff.mp z
    rw [← hz, List.set_getElem_self]
  rw [e] at q
  exact q
/-- if c: x = e, of ints: one value -/
theorem q_ifI {p : Prop} [Decidable p] {x y : Int} (h : ft env = some (decide p)) (h1 : p → fa env = some (.vis (.int x))) (h2 : env[i]? = some (.val (.int y))) (k : rest D (env.set i (.val (.int (if p then x else y))))) : wSeq (wIf ft (wAsg i fa) wNil) rest D env :=
  q_ifAsg (d := .int y) (d1 := .int x) h h1 (fun _ => h2) fun d2 e => by
    have e2 : d2 = .int (if p then x else y) := by
      rw [e]
      split <;> rfl
    rw [e2]
    exact k
theorem q_unp {is : List Nat} {d : Dt} (h : fa env = some (.vis d)) (he : gT is d env = some env') (k : rest D env') : wSeq (wUnp is fa) rest D env := q_go ⟨d, env', h, he, k⟩
theorem q_app {d : Dt} (h0 : env[i]? = some (.own (.lst ds))) (h : fa env = some r) (hs : r.sh = false) (hl : ds.length < LIM) (hd : r.dt = d) (he : env.set i (.own (.lst (ds ++ [d]))) = env') (k : rest D env') : wSeq (wApp i fa) rest D env := q_go ⟨ds, r, h0, h, hs, hl, by rw [hd, he]; exact k⟩
theorem s_app {d : Dt} (h0 : env[i]? = some (.own (.lst ds))) (h : fa env = some r) (hs : r.sh = false) (hl : ds.length < LIM) (hd : r.dt = d) (he : env.set i (.own (.lst (ds ++ [d]))) = env') (k : D.nx env') : wApp i fa D env := ⟨ds, r, h0, h, hs, hl, by rw [hd, he]; exact k⟩
theorem q_nil (k : rest D env) : wSeq wNil rest D env := q_go k
theorem s_nil (k : D.nx env) : wNil D env := k
theorem q_frz {o : OD} (h : env[i]? = some (.own o)) (he : env.set i (.val o.dt) = env') (k : a D env') : wFrz i a D env := by
  show a D (frzS i env)
  rw [frzS_own h, he]
  exact k
theorem q_frz0 {d : Dt} (h : env[i]? = some (.val d)) (k : a D env) : wFrz i a D env := by
  show a D (frzS i env)
  rw [frzS_val h]
  exact k
theorem q_cut (M : Sl → Prop) (h : a { D with nx := M } env) (k : ∀ e, M e → rest D e) : wSeq a rest D env := ⟨M, h, k⟩
theorem q_forMap {α : Type} {u : α → Dt} {xs : List α} {fi : IF} {g : GF} (I : Nat → Sl → Prop) (h : fi env = some (xs.map u, false)) (h0 : I 0 env)
    (hs : ∀ i env x, xs[i]? = some x → I i env → ∃ env', g (u x) env = some env' ∧ b { D with nx := I (i + 1), bk := rest D, ct := I (i + 1) } env') (hd : ∀ env, I xs.length env → rest D env) : wSeq (wFor fi g b) rest D env :=
  q_go <| wFor_map (D := { D with nx := rest D }) I h h0 hs hd
theorem q_forRng {lo : Int} {n : Nat} {fi : IF} {g : GF} (I : Nat → Sl → Prop) (h : fi env = some (rngD lo n, false)) (h0 : I 0 env)
    (hs : ∀ i env, i < n → I i env → ∃ env', g (.int (lo + (i : Int))) env = some env' ∧ b { D with nx := I (i + 1), bk := rest D, ct := I (i + 1) } env') (hd : ∀ env, I n env → rest D env) : wSeq (wFor fi g b) rest D env :=
  q_go <| wFor_rng (D := { D with nx := rest D }) I h h0 hs hd
theorem q_for {fi : IF} {g : GF} (I : Nat → Sl → Prop) (h : fi env = some (ds, false)) (h0 : I 0 env)
    (hs : ∀ i env d, ds[i]? = some d → I i env → ∃ env', g d env = some env' ∧ b { D with nx := I (i + 1), bk := rest D, ct := I (i + 1) } env') (hd : ∀ env, I ds.length env → rest D env) : wSeq (wFor fi g b) rest D env :=
  q_go <| wFor_of (D := { D with nx := rest D }) I h h0 hs hd
theorem q_forStep {lo c : Int} {n : Nat} {fi : IF} {g : GF} (I : Nat → Sl → Prop) (h : fi env = some (stepD lo c n, false)) (h0 : I 0 env)
    (hs : ∀ i env, i < n → I i env → ∃ env', g (.int (lo + (i : Int) * c)) env = some env' ∧ b { D with nx := I (i + 1), bk := rest D, ct := I (i + 1) } env') (hd : ∀ env, I n env → rest D env) : wSeq (wFor fi g b) rest D env := by
  refine q_go ⟨_, h, I, h0, fun i env d hi inv => ?_, fun env inv => hd env (by rw [stepD_len] at inv; exact inv)⟩
  obtain ⟨hl, rfl⟩ := stepD_at hi
  exact hs i env hl inv
theorem q_while (I : Nat → Sl → Prop) (m : Nat) (h0 : I m env)
    (hs : ∀ m env, I m env → ∃ c, ft env = some c ∧ ((c = true → b { D with nx := fun e => ∃ m', m' < m ∧ I m' e, bk := rest D, ct := fun e => ∃ m', m' < m ∧ I m' e } env) ∧ (c = false → rest D env))) : wSeq (wWhile ft b) rest D env :=
  q_go <| wWhile_of (D := { D with nx := rest D }) I m h0 hs
end
end Pyl
end
section
set_option Elab.async false
set_option linter.all false
set_option maxHeartbeats 1000000
namespace Pyl
open PySem
/-! ### the helpers that every law has -/
local macro_rules | `(tactic| walk_at "pe") => `(tactic| simp (config := { implicitDefEqProofs := false }) only [eVar_at, eC_at, e1_at, e2_at, aNil_at, aCons_at, eTup_at, eLst_at, plain_nil, plain_cons, eCall_at, eIf_at, eAnd_at, eOr_at, eNot_at, tVal_at, tAnd_at, tOr_at, tNot_at, tYes_at,
  pAdd_int, pSub_int, pNeg_int, pLt_int, pLe_int, pGt_int, pGe_int, pEq_int, pNe_int, pIsN_at, pNotN_at, pIx_lst, pIx_tup, oNone_at, oSome_at, eSlice_at, pLen_lst, pLen_tup, pInt_int, pInt_bl, pAbs_int, pSum_ints, pMax2_int, pMin2_int, pList_lst, pList_tup, pTuple_lst, pTuple_tup, iSeq_at, gN_at, gT_at, gsN_cons, gsN_nil, wipeS_cons, wipeS_nil,
  dt_vis, dt_bor, dt_fre, sh_vis, sh_bor, sh_fre, slot_vis, slot_fre, od_dt, isNon_non, isNon_int, isNon_lst, isNon_tup, scalar_int, scalar_bl, scalar_non, Option.bind_some, Option.bind_none, Option.map_some, Option.map_none, List.getElem?_cons_zero, List.getElem?_cons_succ, List.set_cons_zero, List.set_cons_succ, List.map_cons, List.map_nil, List.any_cons, List.any_nil, Bool.or_false, Bool.false_or, Bool.false_and, Bool.and_true, Bool.true_and, Bool.not_true, Bool.not_false,
  Option.some.injEq, exists_eq_left', exists_eq_left, true_and, and_true, if_true, if_false, Bool.false_eq_true, ite_true, ite_false, reduceIte, decide_eq_true_eq, decide_eq_false_iff_not, R.vis.injEq, R.fre.injEq, Dt.lst.injEq, Dt.tup.injEq, Dt.int.injEq, Slot.own.injEq, OD.lst.injEq, reduceCtorEq, false_and, exists_false, exists_const, Bool.true_eq_false, false_implies, true_implies, implies_true, forall_const])
/-- isinstance(value, int) and not a bool -/
def wholeD : Dt → Option Bool
  | .obj _ _ => none
  | .int _ => some true
  | _ => some false
def F_whole : FN := fun ds => match ds with
  | [d] => (wholeD d).map .bl
  | _ => none
def cw_whole : WS := (wRet (eAnd (e1 (pIsi "int") (eVar 0)) (eNot (e1 (pIsi "bool") (eVar 0)))))
theorem k_whole : Keeps 1 cw_whole F_whole := by
  intro ds r h
  match ds, h with
  | [d], h =>
    cases d <;> first | (cases h; done) | (cases h; exact ⟨_, rfl, rfl, rfl⟩)
def seedM (ns : List Int) : Int := ns.foldl (fun s n => (s * 31 + n % 1000003) % 1000003) 17
def cellM (ns : List Int) (k : Int) : Int := if k < ns.length then ns.getD k.toNat 0 else ((seedM ns + 7) * (k + 3) * 69621) % 2147483647
def F_cell : FN := fun ds => match ds with
  | [.lst xs, .int k] => (intsOf xs).bind fun ns => if 0 ≤ k ∧ k < 4294967296 then some (.int (cellM ns k)) else none
  | _ => none
def cw_cell : WS := (wSeq (wIf (tVal (e2 pLt (eVar 1) (e1 pLen (eVar 0)))) (wRet (e2 pIx (eVar 0) (eVar 1))) wNil)
  (wSeq (wAsg 2 (eC (.int 17)))
  (wSeq (wFor (iSeq (eVar 0)) (gN 3) (wAsg 2 (e2 pMod (e1 pInt (e2 pAdd (e2 pMul (eVar 2) (eC (.int 31))) (e2 pMod (e1 pInt (eVar 3)) (eC (.int 1000003))))) (eC (.int 1000003)))))
  (wRet (e2 pMod (e1 pInt (e2 pMul (e2 pMul (e2 pAdd (eVar 2) (eC (.int 7))) (e2 pAdd (eVar 1) (eC (.int 3)))) (eC (.int 69621)))) (eC (.int 2147483647)))))))
theorem intsOf_some : ∀ {ds : List Dt} {ns : List Int}, intsOf ds = some ns → ds = ns.map .int
  | [], _, h => by cases h; rfl
  | .int i :: ds, _, h => by
    unfold intsOf at h
    obtain ⟨ms, h1, h2⟩ := Option.map_eq_some_iff.mp h
    subst h2
    rw [intsOf_some h1]
    rfl
  | .non :: _, _, e => by simp [intsOf] at e
  | .bl _ :: _, _, e => by simp [intsOf] at e
  | .str _ :: _, _, e => by simp [intsOf] at e
  | .lst _ :: _, _, e => by simp [intsOf] at e
  | .tup _ :: _, _, e => by simp [intsOf] at e
  | .obj _ _ :: _, _, e => by simp [intsOf] at e
theorem seed_bound (ns : List Int) (i : Nat) : 0 ≤ seedM (ns.take i) ∧ seedM (ns.take i) < 1000003 := by
  have h : ∀ (ns : List Int) (s : Int), 0 ≤ s ∧ s < 1000003 → 0 ≤ ns.foldl (fun s n => (s * 31 + n % 1000003) % 1000003) s ∧ ns.foldl (fun s n => (s * 31 + n % 1000003) % 1000003) s < 1000003 := by
    intro ns
    induction ns with
    | nil => exact fun s h => h
    | cons n ns ih => exact fun s h => ih _ ⟨Int.emod_nonneg _ (by decide), Int.emod_lt_of_pos _ (by decide)⟩
  exact h _ 17 (by decide)
theorem foldl_take {α β : Type} {f : β → α → β} {l : List α} {i : Nat} {x : α} {s : β} (h : l[i]? = some x) : (l.take (i + 1)).foldl f s = f ((l.take i).foldl f s) x := by
  rw [List.take_add_one, h, List.foldl_append]
  rfl
theorem k_cell : Keeps 4 cw_cell F_cell := by
  intro ds r h
  match ds, h with
  | [.lst xs, .int k], h =>
    obtain ⟨ns, h1, h⟩ := Option.bind_eq_some_iff.mp h
    split at h
    case isFalse => cases h
    rename_i hk
    cases h
    rw [intsOf_some h1]
    show cw_cell _ [.val (.lst (ns.map .int)), .val (.int k), .non, .non]
    have hsz : (List.map Dt.int ns).length = ns.length := List.length_map _
    refine q_ifD (p := k < (ns.length : Int)) (by walk_at "pe"; rw [hsz]) (fun hlt => ?_) fun hge => ?_
    · have hg : atL (ns.map Dt.int) k = some (.int (cellM ns k)) := by
        refine atL_of_get hk.1 ?_
        unfold cellM
        rw [if_pos hlt, List.getElem?_map, List.getD_eq_getElem?_getD, List.getElem?_eq_getElem (by omega)]
        rfl
      exact s_ret (r := .vis _) (by walk_at "pe"; rw [hg]; rfl) rfl rfl rfl
    · refine q_asg (r := .vis _) (by walk_at "pe"; rfl) rfl rfl ?_
      refine q_forMap (u := Dt.int) (xs := ns) (fun i e => ∃ z, e = [.val (.lst (ns.map .int)), .val (.int k), .val (.int (seedM (ns.take i))), z]) (by walk_at "pe") ⟨_, rfl⟩ ?_ ?_
      · rintro i env x hx ⟨z, rfl⟩
        refine ⟨_, by walk_at "pe"; rfl, ?_⟩
        have hb := seed_bound ns i
        refine s_asg (r := .vis (.int (seedM (ns.take (i + 1))))) ?_ rfl rfl ⟨_, rfl⟩
        walk_at "pe"
        rw [pMul_int (big64 (by omega) (by omega)) (big64 (by decide) (by decide)), pMod_int (by decide)]
        walk_at "pe"
        rw [pMod_int (by decide)]
        unfold seedM
        rw [foldl_take hx]
      · rintro env ⟨z, rfl⟩
        have hb := seed_bound ns ns.length
        rw [List.take_length] at hb ⊢
        refine s_ret (r := .vis (.int (cellM ns k))) ?_ rfl rfl rfl
        walk_at "pe"
        rw [pMul_int (big64 (by omega) (by omega)) (big64 (by omega) (by omega))]
        walk_at "pe"
        rw [pMul_int (big_of (n := 100) ?_ (by decide)) (big64 (by decide) (by decide))]
        · walk_at "pe"
          rw [pMod_int (by decide)]
          unfold cellM
          rw [if_neg hge]
        · have h1 : (seedM ns + 7) * (k + 3) < 1000010 * (k + 3) + 1 := by
            have := Int.mul_le_mul_of_nonneg_right (show seedM ns + 7 ≤ 1000010 by omega) (show (0 : Int) ≤ k + 3 by omega)
            omega
          have h2 : 0 ≤ (seedM ns + 7) * (k + 3) := Int.mul_nonneg (by omega) (by omega)
          omega
/-! the digits of a cell -/
def digA : Int → List Int → List Int
  | _, [] => []
  | r, s :: ss => r % s :: digA (r / s) ss
def stepB (seed : Int) (k : Nat) : Int := (seed * 48271 + 974711 * (k : Int) + 12345) % 2147483647
def takeB (seed : Int) : Int := (seed * (seed / 65537 + 3)) % 2147483629
def digB : Int → Nat → List Int → List Int
  | _, _, [] => []
  | seed, k, s :: ss => takeB (stepB seed k) / 19 % s :: digB (stepB seed k) (k + 1) ss
def digitsM (cell : Int) (sizes : List Int) : List Int := if 1000000000000000000 ≤ cell then digA (cell - 1000000000000000000) sizes else digB (cell % 2147483629) 0 sizes
def sizeOk (sizes : List Int) : Prop := (∀ s ∈ sizes, 0 < s ∧ s < 18446744073709551616) ∧ sizes.length ≤ 100000
instance (sizes : List Int) : Decidable (sizeOk sizes) := by unfold sizeOk; exact inferInstance
def F_digits : FN := fun ds => match ds with
  | [.int c, .lst xs] => (intsOf xs).bind fun ns => if sizeOk ns then some (.lst ((digitsM c ns).map .int)) else none
  | _ => none
theorem digA_len : ∀ (ss : List Int) (r : Int), (digA r ss).length = ss.length
  | [], _ => rfl
  | s :: ss, r => by
    show (digA (r / s) ss).length + 1 = _
    rw [digA_len ss]
    rfl
theorem digB_len : ∀ (ss : List Int) (r : Int) (k : Nat), (digB r k ss).length = ss.length
  | [], _, _ => rfl
  | s :: ss, r, k => by
    show (digB _ (k + 1) ss).length + 1 = _
    rw [digB_len ss]
    rfl
theorem digitsM_len (c : Int) (ss : List Int) : (digitsM c ss).length = ss.length := by
  unfold digitsM
  split
  · exact digA_len _ _
  · exact digB_len _ _ _
theorem digA_get : ∀ {ss : List Int} {r : Int} {i : Nat} {s d : Int}, (∀ s ∈ ss, 0 < s) → ss[i]? = some s → (digA r ss)[i]? = some d → 0 ≤ d ∧ d < s
  | [], _, _, _, _, _, h, _ => by simp at h
  | s' :: ss, r, 0, s, d, hp, h, h2 => by
    cases h
    have e : r % s' = d := Option.some.inj h2
    have := hp s' List.mem_cons_self
    rw [← e]
    exact ⟨Int.emod_nonneg _ (by omega), Int.emod_lt_of_pos _ this⟩
  | s' :: ss, r, i + 1, s, d, hp, h, h2 => digA_get (i := i) (fun x hx => hp x (List.mem_cons_of_mem _ hx)) h h2
theorem digB_get : ∀ {ss : List Int} {r : Int} {k i : Nat} {s d : Int}, (∀ s ∈ ss, 0 < s) → ss[i]? = some s → (digB r k ss)[i]? = some d → 0 ≤ d ∧ d < s
  | [], _, _, _, _, _, _, h, _ => by simp at h
  | s' :: ss, r, k, 0, s, d, hp, h, h2 => by
    cases h
    have e : takeB (stepB r k) / 19 % s' = d := Option.some.inj h2
    have := hp s' List.mem_cons_self
    rw [← e]
    exact ⟨Int.emod_nonneg _ (by omega), Int.emod_lt_of_pos _ this⟩
  | s' :: ss, r, k, i + 1, s, d, hp, h, h2 => digB_get (i := i) (fun x hx => hp x (List.mem_cons_of_mem _ hx)) h h2
theorem digitsM_get {c : Int} {ss : List Int} {i : Nat} {s d : Int} (hp : ∀ s ∈ ss, 0 < s) (h : ss[i]? = some s) (h2 : (digitsM c ss)[i]? = some d) : 0 ≤ d ∧ d < s := by
  unfold digitsM at h2
  split at h2
  · exact digA_get hp h h2
  · exact digB_get hp h h2
def cw_digits : WS := (wSeq (wAsg 2 (eLst aNil))
  (wSeq (wAsg 3 (e1 pInt (eVar 0)))
  (wSeq (wIf (tVal (e2 pGe (eVar 3) (e2 pPow (eC (.int 10)) (eC (.int 18)))))
  (wSeq (wAsg 3 (e2 pSub (eVar 3) (e2 pPow (eC (.int 10)) (eC (.int 18)))))
  (wSeq (wFor (iSeq (eVar 1)) (gN 6)
  (wSeq (wApp 2 (e2 pMod (e1 pInt (eVar 3)) (eVar 6)))
  (wAsg 3 (e2 pDiv (e1 pInt (eVar 3)) (eVar 6)))))
  (wFrz 2 (wRet (eVar 2)))))
  wNil)
  (wSeq (wAsg 4 (e2 pMod (e1 pInt (eVar 3)) (eC (.int 2147483629))))
  (wSeq (wFor (iRange1 (e1 pLen (eVar 1))) (gN 5)
  (wSeq (wAsg 4 (e2 pMod (e1 pInt (e2 pAdd (e2 pAdd (e2 pMul (eVar 4) (eC (.int 48271))) (e2 pMul (eC (.int 974711)) (eVar 5))) (eC (.int 12345)))) (eC (.int 2147483647))))
  (wSeq (wAsg 7 (e2 pMod (e1 pInt (e2 pMul (eVar 4) (e2 pAdd (e2 pDiv (eVar 4) (eC (.int 65537))) (eC (.int 3))))) (eC (.int 2147483629))))
  (wApp 2 (e2 pMod (e2 pDiv (eVar 7) (eC (.int 19))) (e2 pIx (eVar 1) (eVar 5)))))))
  (wFrz 2 (wRet (eVar 2))))))))
theorem pow18 : pPow (.int 10) (.int 18) = some (.vis (.int 1000000000000000000)) := by
  rw [pPow_int (by decide) (by decide) (by decide)]
  rfl
theorem drop_cons_get {α : Type} {l : List α} {i : Nat} {x : α} (h : l[i]? = some x) : l.drop i = x :: l.drop (i + 1) := by
  obtain ⟨hl, e⟩ := List.getElem?_eq_some_iff.mp h
  rw [← e]
  exact List.drop_eq_getElem_cons hl
theorem k_digits : Keeps 8 cw_digits F_digits := by
  intro ds r h
  match ds, h with
  | [.int c, .lst xs], h =>
    obtain ⟨ns, h1, h⟩ := Option.bind_eq_some_iff.mp h
    split at h
    case isFalse => cases h
    rename_i hk
    cases h
    rw [intsOf_some h1]
    obtain ⟨hp, hlen⟩ := hk
    have hsz : (List.map Dt.int ns).length = ns.length := List.length_map _
    show cw_digits _ [.val (.int c), .val (.lst (ns.map .int)), .non, .non, .non, .non, .non, .non]
    refine q_asg (r := .fre (.lst [])) (by walk_at "pe") rfl rfl ?_
    refine q_asg (r := .vis (.int c)) (by walk_at "pe") rfl rfl ?_
    refine q_ifD (p := 1000000000000000000 ≤ c) (by walk_at "pe"; rw [pow18]; walk_at "pe") (fun hge => ?_) fun hlt => ?_
    · refine q_asg (r := .vis (.int (c - 1000000000000000000))) (by walk_at "pe"; rw [pow18]; walk_at "pe") rfl rfl ?_
      refine q_forMap (u := Dt.int) (xs := ns) (fun i e => ∃ z acc rest, e = [.val (.int c), .val (.lst (ns.map .int)), .own (.lst (acc.map .int)), .val (.int rest), .non, .non, z, .non] ∧ acc.length = i ∧ acc ++ digA rest (ns.drop i) = digitsM c ns) (by walk_at "pe") ⟨_, [], c - 1000000000000000000, rfl, rfl, ?_⟩ ?_ ?_
      · unfold digitsM
        rw [if_pos hge]
        rfl
      · rintro i env x hx ⟨z, acc, rest, rfl, hl, he⟩
        have hx2 := hp x (List.mem_of_getElem? hx)
        have hi := (List.getElem?_eq_some_iff.mp hx).1
        refine ⟨_, by walk_at "pe"; rfl, ?_⟩
        refine q_app (d := .int (rest % x)) rfl (r := .vis _) (by walk_at "pe"; rw [pMod_int hx2.1]) rfl (by rw [List.length_map]; exact lim_lt (by omega)) rfl rfl ?_
        refine s_asg (r := .vis (.int (rest / x))) (by walk_at "pe"; rw [pDiv_int hx2.1 (div64 hx2.1 hx2.2)]) rfl rfl ⟨.val (.int x), acc ++ [rest % x], rest / x, ?_, ?_, ?_⟩
        · rw [List.map_append]
          rfl
        · rw [List.length_append, hl]
          rfl
        · rw [List.append_assoc, ← he, drop_cons_get hx]
          rfl
      · rintro env ⟨z, acc, rest, rfl, hl, he⟩
        rw [List.drop_length] at he
        have he : acc = digitsM c ns := by rw [← he]; exact (List.append_nil _).symm
        subst he
        exact q_frz rfl rfl (s_ret (r := .vis _) (by walk_at "pe") rfl rfl rfl)
    · refine s_nil ?_
      refine q_asg (r := .vis (.int (c % 2147483629))) (by walk_at "pe"; rw [pMod_int (by decide)]) rfl rfl ?_
      refine q_forRng (lo := 0) (n := ns.length) (fun i e => ∃ z z7 acc seed, e = [.val (.int c), .val (.lst (ns.map .int)), .own (.lst (acc.map .int)), .val (.int c), .val (.int seed), z, .non, z7] ∧ acc.length = i ∧ 0 ≤ seed ∧ seed < 2147483647 ∧ acc ++ digB seed i (ns.drop i) = digitsM c ns)
        (by rw [rng1 (n := (ns.length : Int)) (by walk_at "pe"; rw [hsz]) (by omega)]; rw [Int.toNat_natCast]) ⟨_, _, [], c % 2147483629, rfl, rfl, Int.emod_nonneg _ (by decide), ?_, ?_⟩ ?_ ?_
      · have := Int.emod_lt_of_pos c (show (0 : Int) < 2147483629 by decide)
        omega
      · unfold digitsM
        rw [if_neg hlt]
        rfl
      · rintro i env hi ⟨z, z7, acc, seed, rfl, hl, hs0, hs1, he⟩
        have hg : ns[i]? = some ns[i] := List.getElem?_eq_getElem hi
        have hx2 := hp ns[i] (List.mem_of_getElem? hg)
        have hb0 : 0 ≤ stepB seed i := Int.emod_nonneg _ (by decide)
        have hb1 : stepB seed i < 2147483647 := Int.emod_lt_of_pos _ (by decide)
        refine ⟨_, by walk_at "pe"; rfl, ?_⟩
        refine q_asg (r := .vis (.int (stepB seed i))) ?_ rfl rfl ?_
        · walk_at "pe"
          rw [pMul_int (big64 (by omega) (by omega)) (big64 (by decide) (by decide)), pMul_int (big64 (by decide) (by decide)) (big64 (by omega) (by omega))]
          walk_at "pe"
          rw [pMod_int (by decide)]
          unfold stepB
          rw [Int.zero_add]
        have hq0 : 0 ≤ stepB seed i / 65537 := Int.ediv_nonneg hb0 (by decide)
        have hq1 : stepB seed i / 65537 < 40000 := by omega
        refine q_asg (r := .vis (.int (takeB (stepB seed i)))) ?_ rfl rfl ?_
        · walk_at "pe"
          rw [pDiv_int (by decide) (div64 (by decide) (by decide))]
          walk_at "pe"
          rw [pMul_int (big64 (by omega) (by omega)) (big64 (by omega) (by omega))]
          walk_at "pe"
          rw [pMod_int (by decide)]
          rfl
        refine s_app (d := .int (takeB (stepB seed i) / 19 % ns[i])) rfl (r := .vis _) ?_ rfl (by rw [List.length_map]; exact lim_lt (by omega)) rfl rfl ⟨.val (.int (0 + (i : Int))), .val (.int (takeB (stepB seed i))), acc ++ [takeB (stepB seed i) / 19 % ns[i]], stepB seed i, ?_, ?_, hb0, hb1, ?_⟩
        · walk_at "pe"
          rw [pDiv_int (by decide) (div64 (by decide) (by decide)), Int.zero_add, atL_nat, List.getElem?_map, hg]
          walk_at "pe"
          rw [pMod_int hx2.1]
        · rw [List.map_append]
          rfl
        · rw [List.length_append, hl]
          rfl
        · rw [List.append_assoc, ← he, drop_cons_get hg]
          rfl
      · rintro env ⟨z, z7, acc, seed, rfl, hl, hs0, hs1, he⟩
        rw [List.drop_length] at he
        have he : acc = digitsM c ns := by rw [← he]; exact (List.append_nil _).symm
        subst he
        exact q_frz rfl rfl (s_ret (r := .vis _) (by walk_at "pe") rfl rfl rfl)
/-! lists of ints as data, and back -/
def ilst (ns : List Int) : Dt := .lst (ns.map .int)
def itup (ns : List Int) : Dt := .tup (ns.map .int)
def imat (m : List (List Int)) : Dt := .lst (m.map ilst)
/-- as a list, as a tuple -/
def iseq (b : Bool) (ns : List Int) : Dt := bif b then itup ns else ilst ns
def imatS (b : Bool) (m : List (List Int)) : Dt := bif b then .tup (m.map itup) else imat m
def Dt.toI : Dt → Int
  | .int i => i
  | _ => 0
def Dt.items : Dt → List Dt
  | .lst ds => ds
  | .tup ds => ds
  | _ => []
def Dt.toIs (d : Dt) : List Int := d.items.map Dt.toI
def Dt.toM (d : Dt) : List (List Int) := d.items.map Dt.toIs
theorem map_toI (ns : List Int) : (ns.map Dt.int).map Dt.toI = ns := by
  rw [List.map_map]
  exact List.map_id _
theorem toIs_ilst (ns : List Int) : (ilst ns).toIs = ns := map_toI ns
theorem toIs_itup (ns : List Int) : (itup ns).toIs = ns := map_toI ns
theorem toIs_iseq (b : Bool) (ns : List Int) : (iseq b ns).toIs = ns := by cases b <;> exact map_toI ns
theorem toM_imat (m : List (List Int)) : (imat m).toM = m := by
  show (m.map ilst).map Dt.toIs = m
  rw [List.map_map, show Dt.toIs ∘ ilst = id from funext toIs_ilst]
  exact List.map_id _
theorem toM_imatS (b : Bool) (m : List (List Int)) : (imatS b m).toM = m := by
  cases b
  · exact toM_imat m
  · show (m.map itup).map Dt.toIs = m
    rw [List.map_map, show Dt.toIs ∘ itup = id from funext toIs_itup]
    exact List.map_id _
theorem seqOf_iseq (b : Bool) (ns : List Int) : seqOf (iseq b ns) = some (ns.map .int) := by cases b <;> rfl
theorem seqOf_imatS (b : Bool) (m : List (List Int)) : seqOf (imatS b m) = some (m.map (iseq b)) := by cases b <;> rfl
theorem pLen_iseq (b : Bool) (ns : List Int) : pLen (iseq b ns) = some (.vis (.int ns.length)) := by
  cases b
  · show some (R.vis (.int ((ns.map Dt.int).length : Nat))) = _
    rw [List.length_map]
  · show some (R.vis (.int ((ns.map Dt.int).length : Nat))) = _
    rw [List.length_map]
theorem pIx_iseq {b : Bool} {ns : List Int} {i : Int} {x : Int} (h0 : 0 ≤ i) (h : ns[i.toNat]? = some x) : pIx (iseq b ns) (.int i) = some (.vis (.int x)) := by
  have e : (ns.map Dt.int)[i.toNat]? = some (.int x) := by
    rw [List.getElem?_map, h]
    rfl
  cases b
  · show (atL (ns.map Dt.int) i).map R.vis = _
    rw [atL_of_get h0 e]
    rfl
  · show (atL (ns.map Dt.int) i).map R.vis = _
    rw [atL_of_get h0 e]
    rfl
theorem pIx_imatS {b : Bool} {m : List (List Int)} {i : Int} {x : List Int} (h0 : 0 ≤ i) (h : m[i.toNat]? = some x) : pIx (imatS b m) (.int i) = some (.vis (iseq b x)) := by
  cases b
  · have e : (m.map ilst)[i.toNat]? = some (ilst x) := by
      rw [List.getElem?_map, h]
      rfl
    show (atL (m.map ilst) i).map R.vis = _
    rw [atL_of_get h0 e]
    rfl
  · have e : (m.map itup)[i.toNat]? = some (itup x) := by
      rw [List.getElem?_map, h]
      rfl
    show (atL (m.map itup) i).map R.vis = _
    rw [atL_of_get h0 e]
    rfl
theorem zipWith_tup {α β : Type} (u : α → Dt) (v : β → Dt) : ∀ (xs : List α) (ys : List β), List.zipWith (fun x y => Dt.tup [x, y]) (xs.map u) (ys.map v) = (xs.zip ys).map fun p => Dt.tup [u p.1, v p.2]
  | [], _ => rfl
  | _ :: _, [] => rfl
  | x :: xs, y :: ys => by
    rw [List.map_cons, List.map_cons, List.zipWith_cons_cons, List.zip_cons_cons, List.map_cons, zipWith_tup u v xs ys]
theorem cutD_map {α : Type} (u : α → Dt) (xs : List α) {lo hi : Option Int} : cutD (xs.map u) lo hi = ((xs.drop (sIx xs.length 0 lo)).take (sIx xs.length xs.length hi - sIx xs.length 0 lo)).map u := by
  unfold cutD
  rw [List.length_map, List.map_take, List.map_drop]
theorem sIx_nat {n d k : Nat} (h : k ≤ n) : sIx n d (some (k : Int)) = k := by
  unfold sIx
  show (if 0 ≤ (k : Int) then min (k : Int).toNat n else ((k : Int) + (n : Int)).toNat) = k
  rw [if_pos (Int.natCast_nonneg k), Int.toNat_natCast, Nat.min_eq_left h]
theorem cut_nat {α : Type} (u : α → Dt) {xs : List α} {a k : Nat} (h : a + k ≤ xs.length) : cutD (xs.map u) (some (a : Int)) (some ((a : Int) + (k : Int))) = ((xs.drop a).take k).map u := by
  rw [cutD_map, sIx_nat (by omega), show ((a : Int) + (k : Int)) = ((a + k : Nat) : Int) by omega, sIx_nat h, Nat.add_sub_cancel_left]
theorem cutD_from {ds : List Dt} {k : Nat} : cutD ds (some (k : Int)) none = ds.drop k := by
  unfold cutD
  have h1 : sIx ds.length 0 (some (k : Int)) = min k ds.length := by
    show (if 0 ≤ (k : Int) then min (k : Int).toNat ds.length else ((k : Int) + (ds.length : Int)).toNat) = _
    rw [if_pos (Int.natCast_nonneg k), Int.toNat_natCast]
  rw [h1]
  show (ds.drop _).take (ds.length - _) = _
  rw [List.take_of_length_le (by rw [List.length_drop]; omega)]
  rcases Nat.le_total k ds.length with h | h
  · rw [Nat.min_eq_left h]
  · rw [Nat.min_eq_right h, List.drop_eq_nil_of_le h, List.drop_length]
theorem cutD_to {ds : List Dt} {k : Nat} : cutD ds none (some (k : Int)) = ds.take k := by
  unfold cutD
  have h1 : sIx ds.length ds.length (some (k : Int)) = min k ds.length := by
    show (if 0 ≤ (k : Int) then min (k : Int).toNat ds.length else ((k : Int) + (ds.length : Int)).toNat) = _
    rw [if_pos (Int.natCast_nonneg k), Int.toNat_natCast]
  rw [h1]
  show (ds.drop 0).take (min k ds.length - 0) = _
  rw [List.drop_zero, Nat.sub_zero]
  rcases Nat.le_total k ds.length with h | h
  · rw [Nat.min_eq_left h]
  · rw [Nat.min_eq_right h, List.take_length, List.take_of_length_le h]
theorem cutD_from1 {ds : List Dt} : cutD ds (some 1) none = ds.drop 1 := cutD_from (k := 1)
theorem sum_bounds {B : Int} : ∀ {l : List Int}, (∀ x ∈ l, 0 ≤ x ∧ x ≤ B) → 0 ≤ l.sum ∧ l.sum ≤ B * l.length
  | [], _ => ⟨Int.le_refl _, by simp⟩
  | x :: l, h => by
    have h1 := h x List.mem_cons_self
    have h2 := sum_bounds (l := l) fun y hy => h y (List.mem_cons_of_mem _ hy)
    rw [List.sum_cons, List.length_cons]
    refine ⟨by omega, ?_⟩
    rw [Int.natCast_add, Int.mul_add]
    omega
/-- digits as they are taken: the sizes given -/
theorem F_digits_at {c : Int} {ns : List Int} (h : sizeOk ns) : F_digits [.int c, ilst ns] = some (ilst (digitsM c ns)) := by
  show (intsOf (ns.map .int)).bind _ = _
  rw [intsOf_ints]
  exact if_pos h
theorem F_cell_at {ns : List Int} {k : Int} (h : 0 ≤ k ∧ k < 4294967296) : F_cell [ilst ns, .int k] = some (.int (cellM ns k)) := by
  show (intsOf (ns.map .int)).bind _ = _
  rw [intsOf_ints]
  exact if_pos h
/-! == of lists of ints -/
theorem pyL_ints : ∀ ns : List Int, Dt.pyL (ns.map .int) = some (ns.map .int)
  | [] => rfl
  | n :: ns => by
    rw [List.map_cons]
    unfold Dt.pyL
    rw [pyL_ints ns]
    rfl
theorem py_ilst (ns : List Int) : (ilst ns).py = some (.list (ns.map .int)) := by
  unfold ilst Dt.py
  rw [pyL_ints]
  rfl
theorem pyL_mat : ∀ m : List (List Int), Dt.pyL (m.map ilst) = some (m.map fun r => .list (r.map .int))
  | [] => rfl
  | n :: m => by
    rw [List.map_cons]
    unfold Dt.pyL
    rw [pyL_mat m, py_ilst]
    rfl
theorem py_imat (m : List (List Int)) : (imat m).py = some (.list (m.map fun r => .list (r.map .int))) := by
  unfold imat Dt.py
  rw [pyL_mat]
  rfl
theorem lay_ints : ∀ ns : List Int, PyData.canLayAll0 (ns.map .int) = true ∧ PyData.depthAll (ns.map .int) ≤ 1
  | [] => ⟨rfl, Nat.zero_le _⟩
  | n :: ns => by
    have h := lay_ints ns
    rw [List.map_cons]
    exact ⟨by simp [PyData.canLayAll0, PyData.canLay0, h.1], by simp only [PyData.depthAll, PyData.depth]; omega⟩
theorem lay_mat : ∀ m : List (List Int), PyData.canLayAll0 (m.map fun r => .list (r.map .int)) = true ∧ PyData.depthAll (m.map fun r => .list (r.map .int)) ≤ 3
  | [] => ⟨rfl, Nat.zero_le _⟩
  | n :: ns => by
    have h := lay_mat ns
    have h1 := lay_ints n
    rw [List.map_cons]
    exact ⟨by simp [PyData.canLayAll0, PyData.canLay0, h.1, h1.1], by simp only [PyData.depthAll, PyData.depth]; omega⟩
theorem eqv_ints : ∀ a b : List Int, PyData.eqvAll (a.map .int) (b.map .int) = decide (a = b)
  | [], [] => rfl
  | [], _ :: _ => by simp [PyData.eqvAll]
  | _ :: _, [] => by simp [PyData.eqvAll]
  | x :: a, y :: b => by
    rw [List.map_cons, List.map_cons]
    simp only [PyData.eqvAll, PyData.eqv, eqv_ints a b, List.cons.injEq]
    by_cases h : x = y <;> by_cases h2 : a = b <;> simp [h, h2]
theorem eqv_mat : ∀ a b : List (List Int), PyData.eqvAll (a.map fun r => .list (r.map .int)) (b.map fun r => .list (r.map .int)) = decide (a = b)
  | [], [] => rfl
  | [], _ :: _ => by simp [PyData.eqvAll]
  | _ :: _, [] => by simp [PyData.eqvAll]
  | x :: a, y :: b => by
    rw [List.map_cons, List.map_cons]
    simp only [PyData.eqvAll, PyData.eqv, eqv_mat a b, eqv_ints x y, List.cons.injEq]
    by_cases h : x = y <;> by_cases h2 : a = b <;> simp [h, h2]
theorem eqD_ilst (a b : List Int) : eqD (ilst a) (ilst b) = some (decide (a = b)) := by
  have h1 := lay_ints a
  have h2 := lay_ints b
  unfold eqD
  rw [py_ilst, py_ilst]
  show (if SeqAt.shaped (.list (a.map .int)) && SeqAt.shaped (.list (b.map .int)) then some (PyData.eqv _ _) else none) = _
  rw [if_pos]
  · simp only [PyData.eqv, eqv_ints]
  · simp only [SeqAt.shaped, PyData.canLay0, PyData.depth, h1.1, h2.1, Bool.and_eq_true, decide_eq_true_eq, true_and, Bool.true_and]
    exact ⟨decide_eq_true (by omega), decide_eq_true (by omega)⟩
theorem eqD_imat (a b : List (List Int)) : eqD (imat a) (imat b) = some (decide (a = b)) := by
  have h1 := lay_mat a
  have h2 := lay_mat b
  unfold eqD
  rw [py_imat, py_imat]
  show (if SeqAt.shaped (.list (a.map fun r => .list (r.map .int))) && SeqAt.shaped (.list (b.map fun r => .list (r.map .int))) then some (PyData.eqv _ _) else none) = _
  rw [if_pos]
  · simp only [PyData.eqv, eqv_mat]
  · simp only [SeqAt.shaped, PyData.canLay0, PyData.depth, h1.1, h2.1, Bool.and_eq_true, decide_eq_true_eq, true_and, Bool.true_and]
    exact ⟨decide_eq_true (by omega), decide_eq_true (by omega)⟩
theorem pEq_ilst (a b : List Int) : pEq (ilst a) (ilst b) = some (.vis (.bl (decide (a = b)))) := by unfold pEq; rw [eqD_ilst]; rfl
theorem pNe_ilst (a b : List Int) : pNe (ilst a) (ilst b) = some (.vis (.bl (!decide (a = b)))) := by unfold pNe; rw [eqD_ilst]; rfl
theorem pEq_imat (a b : List (List Int)) : pEq (imat a) (imat b) = some (.vis (.bl (decide (a = b)))) := by unfold pEq; rw [eqD_imat]; rfl
theorem pNe_imat (a b : List (List Int)) : pNe (imat a) (imat b) = some (.vis (.bl (!decide (a = b)))) := by unfold pNe; rw [eqD_imat]; rfl
/-! all digits at once; tables -/
def Below : List Int → List Int → Prop
  | [], [] => True
  | d :: ds, s :: ss => (0 ≤ d ∧ d < s) ∧ Below ds ss
  | _, _ => False
theorem below_of : ∀ {ds ss : List Int}, ds.length = ss.length → (∀ (i : Nat) s d, ss[i]? = some s → ds[i]? = some d → 0 ≤ d ∧ d < s) → Below ds ss
  | [], [], _, _ => trivial
  | [], _ :: _, h, _ => by cases h
  | _ :: _, [], h, _ => by cases h
  | d :: ds, s :: ss, h, g => ⟨g 0 s d rfl rfl, below_of (by simpa using h) fun i s' d' h1 h2 => g (i + 1) s' d' h1 h2⟩
theorem digits_below {c : Int} {ss : List Int} (hp : ∀ s ∈ ss, 0 < s) : Below (digitsM c ss) ss := below_of (digitsM_len c ss) fun i s d h1 h2 => digitsM_get hp h1 h2
theorem tab {l : List Int} {d : Int} (h0 : 0 ≤ d) (h : d < l.length) : ∃ v, v ∈ l ∧ atL (l.map Dt.int) d = some (.int v) := by
  have hl : d.toNat < l.length := by omega
  refine ⟨l[d.toNat], List.getElem_mem hl, atL_of_get h0 ?_⟩
  rw [List.getElem?_map, List.getElem?_eq_getElem hl]
  rfl
section
variable {α : Type} {a b c d e f g h i j k l m : α} {t : List α}
theorem atL0 : atL (a :: t) 0 = some a := rfl
theorem atL1 : atL (a :: b :: t) 1 = some b := rfl
theorem atL2 : atL (a :: b :: c :: t) 2 = some c := rfl
theorem atL3 : atL (a :: b :: c :: d :: t) 3 = some d := rfl
theorem atL4 : atL (a :: b :: c :: d :: e :: t) 4 = some e := rfl
theorem atL5 : atL (a :: b :: c :: d :: e :: f :: t) 5 = some f := rfl
theorem atL6 : atL (a :: b :: c :: d :: e :: f :: g :: t) 6 = some g := rfl
theorem atL7 : atL (a :: b :: c :: d :: e :: f :: g :: h :: t) 7 = some h := rfl
theorem atL8 : atL (a :: b :: c :: d :: e :: f :: g :: h :: i :: t) 8 = some i := rfl
theorem atL9 : atL (a :: b :: c :: d :: e :: f :: g :: h :: i :: j :: t) 9 = some j := rfl
theorem atL10 : atL (a :: b :: c :: d :: e :: f :: g :: h :: i :: j :: k :: t) 10 = some k := rfl
theorem atL11 : atL (a :: b :: c :: d :: e :: f :: g :: h :: i :: j :: k :: l :: t) 11 = some l := rfl
theorem atL12 : atL (a :: b :: c :: d :: e :: f :: g :: h :: i :: j :: k :: l :: m :: t) 12 = some m := rfl
end
theorem map_ilst (ns : List Int) : Dt.lst (ns.map .int) = ilst ns := rfl
theorem pAdd_ilst {a b : List Int} (h : a.length + b.length ≤ 4000000) : pAdd (ilst a) (ilst b) = some (.fre (.lst ((a ++ b).map .int))) := by
  unfold ilst
  rw [pAdd_lst (by rw [List.length_map, List.length_map]; exact lim_of h), List.map_append]
end Pyl
end
section
set_option linter.all false
namespace Pyl
open PySem
/-! k72: what its functions compute -/
structure Ok72 (m : List (List Int)) (c : Nat) : Prop where
  pos : 0 < m.length
  few : m.length ≤ 100
  c0 : 0 < c
  c1 : c ≤ 100
  bits : ∀ r ∈ m, r.length = c ∧ ∀ b ∈ r, 0 ≤ b ∧ b ≤ 1
def colsN (m : List (List Int)) : Nat := (m.headD []).length
def sumT (t : List Int) (bits : List Int) : Int := (t.map fun x => bits.getD x.toNat 0).sum
def badI (m : List (List Int)) (t : List Int) (i : Nat) : Bool := decide ((t.length : Int) < 2 * sumT t (m.getD i []))
def okT (m : List (List Int)) (t : List Int) : Bool := ((List.range m.length).find? (badI m t)).isNone
def ixD : Option Nat → Dt
  | some i => .int (i : Int)
  | none => .non
def tD : Option (List Int) → Dt
  | some t => itup t
  | none => .non
def lD : Option (List Int) → Dt
  | some t => ilst t
  | none => .non
/-- a choice of rows: indexes below c -/
def OkT (c : Nat) (t : List Int) : Prop := t.length ≤ 100 ∧ ∀ x ∈ t, 0 ≤ x ∧ x < (c : Int)
/-- the next choice: none less than the one before it -/
def nextT (c : Int) : List Int → Option (List Int)
  | [] => none
  | x :: t => match nextT c t with
    | some t' => some (x :: t')
    | none => if x < c - 1 then some (List.replicate (t.length + 1) (x + 1)) else none
def lastZ (t : List Int) : Int := t.getLastD 0
def rangeI (lo : Int) (c : Nat) : List Int := (List.range ((c : Int) - lo).toNat).map fun k : Nat => lo + (k : Int)
def widerL (c : Nat) (T : List (List Int)) : List (List Int) := T.flatMap fun t => (rangeI (lastZ t) c).map fun k => t ++ [k]
/-- all choices of n + 1 rows, in their order -/
def allT (c : Nat) : Nat → List (List Int)
  | 0 => (List.range c).map fun k : Nat => [(k : Int)]
  | n + 1 => widerL c (allT c n)
def firstT (m : List (List Int)) (n : Nat) : Option (List Int) := (allT (colsN m) n).find? (okT m)
def fewT (m : List (List Int)) (k : Nat) : Option (List Int) := (List.range k).findSome? fun i => firstT m (2 * i)
open Classical in
noncomputable def F_first_fault : FN := fun ds => match ds with
  | [f, r] => if (∃ b, f = imatS b f.toM) ∧ r = itup r.toIs ∧ Ok72 f.toM (colsN f.toM) ∧ OkT (colsN f.toM) r.toIs then some (ixD ((List.range f.toM.length).find? (badI f.toM r.toIs))) else none
  | _ => none
open Classical in
noncomputable def F_next_choice : FN := fun ds => match ds with
  | [r, .int c] => if r = itup r.toIs ∧ r.toIs.length ≤ 100 then some (tD (nextT c r.toIs)) else none
  | _ => none
open Classical in
noncomputable def F_first_choice : FN := fun ds => match ds with
  | [f, .int s] => if (∃ b, f = imatS b f.toM) ∧ Ok72 f.toM (colsN f.toM) ∧ 1 ≤ s ∧ s ≤ 9 then some (tD (firstT f.toM (s.toNat - 1))) else none
  | _ => none
open Classical in
noncomputable def F_fewest_rows : FN := fun ds => match ds with
  | [f, .int k] => if (∃ b, f = imatS b f.toM) ∧ Ok72 f.toM (colsN f.toM) ∧ 1 ≤ k ∧ k ≤ 9 then some (tD (fewT f.toM ((k.toNat + 1) / 2))) else none
  | _ => none
def F__law_whole : FN := F_whole
def F__law_cell : FN := F_cell
def F__law_digits : FN := F_digits
def takeM : Nat → List Int → List Int → List Int
  | n + 1, d :: ds, rest => rest.getD (d % (rest.length : Int)).toNat 0 :: takeM n ds (rest.take (d % (rest.length : Int)).toNat ++ rest.drop ((d % (rest.length : Int)).toNat + 1))
  | _, _, _ => []
open Classical in
noncomputable def F__law_drawn_rows : FN := fun ds => match ds with
  | [d, .int n] => if d = ilst d.toIs ∧ 0 ≤ n ∧ n ≤ 100 ∧ n ≤ d.toIs.length then some (ilst (takeM n.toNat d.toIs ((List.range n.toNat).map fun k : Nat => (k : Int)))) else none
  | _ => none
def putB (b drawn : List Int) (g : Nat → Int) (n : Nat) : List Int := (List.range n).foldl (fun b k => b.set (drawn.getD k 0).toNat (g k)) b
def pairsM : List (List Int) := [[0, 1], [0, 2], [0, 3], [0, 4], [1, 2], [1, 3], [1, 4], [2, 3], [2, 4], [3, 4]]
def bits0 (cell style : Int) (n : Nat) : List Int :=
  let row := digitsM cell (6 :: 10 :: 3 :: List.replicate n 60)
  let least := if 2 < style ∧ style < 7 then 12 else [42, 36, 30, 48, 24, 15].getD (row.getD 0 0).toNat 0
  (row.drop 3).map fun x => if least ≤ x then 1 else 0
def bits1 (cell i style : Int) (drawn : List Int) : List Int :=
  let row := digitsM cell (6 :: 10 :: 3 :: List.replicate drawn.length 60)
  let wrong := if i < 3 then i else row.getD 2 0
  if style = 3 ∨ style = 4 then putB (bits0 cell style drawn.length) drawn (fun k => if (k : Int) = wrong then 1 else 0) (min 3 drawn.length) else bits0 cell style drawn.length
def bits2 (cell i style : Int) (drawn : List Int) : List Int :=
  let row := digitsM cell (6 :: 10 :: 3 :: List.replicate drawn.length 60)
  let pair := pairsM.getD (if i < 10 then i else row.getD 1 0).toNat []
  if style = 5 ∨ style = 6 then putB (bits1 cell i style drawn) drawn (fun k => if (k : Int) ∈ pair then 1 else 0) (min 5 drawn.length) else bits1 cell i style drawn
open Classical in
noncomputable def F__law_input_bits : FN := fun ds => match ds with
  | [.int cell, .int i, .int style, d] => if d = ilst d.toIs ∧ 0 ≤ i ∧ d.toIs.length ≤ 100 ∧ ∀ x ∈ d.toIs, 0 ≤ x ∧ x < (d.toIs.length : Int) then some (ilst (bits2 cell i style d.toIs)) else none
  | _ => none
def pairD (e : List Int × List Int) : Dt := .lst [ilst e.1, ilst e.2]
def toE (d : Dt) : List (List Int × List Int) := d.items.map fun x => ((x.items.getD 0 .non).toIs, (x.items.getD 1 .non).toIs)
def addZ (a b : List Int) : List Int := List.zipWith (· + ·) a b
def widerE (cols : List (List Int)) (E : List (List Int × List Int)) : List (List Int × List Int) := E.flatMap fun e => (rangeI (lastZ e.1) cols.length).map fun k => (e.1 ++ [k], addZ e.2 (cols.getD k.toNat []))
open Classical in
noncomputable def F__law_wider : FN := fun ds => match ds with
  | [es, cs] => if es = .lst ((toE es).map pairD) ∧ cs = imat cs.toM ∧ (toE es).length ≤ 30000 ∧ cs.toM.length ≤ 100 ∧ ∃ h : Nat, h ≤ 100 ∧ (∀ c ∈ cs.toM, c.length = h) ∧ ∀ e ∈ toE es, e.1 ≠ [] ∧ e.1.length ≤ 100 ∧ 0 ≤ lastZ e.1 ∧ lastZ e.1 < (cs.toM.length : Int) ∧ e.2.length = h then
      some (.lst ((widerE cs.toM (toE es)).map pairD)) else none
  | _ => none
def maxZ : List Int → Int
  | [] => 0
  | n :: ns => ns.foldl (fun m x => if x > m then x else m) n
open Classical in
noncomputable def F__law_first : FN := fun ds => match ds with
  | [es] => if es = .lst ((toE es).map pairD) ∧ ∀ e ∈ toE es, e.2 ≠ [] ∧ ∀ x ∈ e.2, 0 ≤ x ∧ x ≤ 1000 then some (lD (((toE es).find? fun e => decide (2 * maxZ e.2 ≤ (e.1.length : Int))).map (·.1))) else none
  | _ => none
open Classical in
noncomputable def F__law_firsts : FN := fun ds => match ds with
  | [f, .int c] => if f = imat f.toM ∧ Ok72 f.toM (colsN f.toM) ∧ colsN f.toM ≤ 12 ∧ c = (colsN f.toM : Int) then some (.lst ([firstT f.toM 0, firstT f.toM 2, firstT f.toM 4].map lD)) else none
  | _ => none
def clearM (m : List (List Int)) (r : Nat) : List (List Int) := m.map fun b => b.take r ++ [0] ++ b.drop (r + 1)
open Classical in
noncomputable def F__law_cleared : FN := fun ds => match ds with
  | [f, .int r] => if f = imat f.toM ∧ 0 ≤ r ∧ f.toM.length ≤ 100 ∧ ∀ b ∈ f.toM, b.length ≤ 100 then some (imat (clearM f.toM r.toNat)) else none
  | _ => none
def toO : Dt → Option (List Int)
  | .non => none
  | d => some d.toIs
open Classical in
noncomputable def F__law_answered : FN := fun ds => match ds with
  | [f, fs, .int g, .int st] => if f = imat f.toM ∧ fs = .lst ((fs.items.map toO).map lD) ∧ fs.items.length ≤ 100 ∧ Ok72 f.toM (colsN f.toM) ∧ 1 ≤ g ∧ g ≤ 9 ∧ ((fs.items.map toO).take ((g.toNat + 1) / 2)).findSome? id = fewT f.toM ((g.toNat + 1) / 2) then some (.bl true) else none
  | _ => none
def F_law : FN := fun ds => match ds with
  | [.lst xs] => (intsOf xs).bind fun ns => if ns.length ≤ 63 then some (.bl true) else none
  | _ => none
end Pyl
end
section
set_option Elab.async false
set_option linter.all false
set_option maxHeartbeats 1000000
namespace Pyl
open PySem
/-! the order of the choices -/
theorem next_len {c : Int} : ∀ {t t' : List Int}, nextT c t = some t' → t'.length = t.length
  | [], _, h => by cases h
  | x :: t, t', h => by
    unfold nextT at h
    cases hn : nextT c t with
    | some u =>
      rw [hn] at h
      cases h
      rw [List.length_cons, List.length_cons, next_len hn]
    | none =>
      rw [hn] at h
      simp only at h
      split at h
      · cases h
        rw [List.length_replicate, List.length_cons]
      · cases h
theorem next_up {c k : Int} (hk : k < c - 1) : ∀ t : List Int, nextT c (t ++ [k]) = some (t ++ [k + 1])
  | [] => by
    show (match nextT c [] with
      | some t' => some (k :: t')
      | none => if k < c - 1 then some (List.replicate 1 (k + 1)) else none) = _
    show (if k < c - 1 then some (List.replicate 1 (k + 1)) else none) = _
    rw [if_pos hk]
    rfl
  | x :: t => by
    rw [List.cons_append, List.cons_append]
    unfold nextT
    rw [next_up hk t]
theorem last_cons {x : Int} {t : List Int} (h : t ≠ []) : lastZ (x :: t) = lastZ t := by
  match t, h with
  | y :: t, _ => rfl
theorem last_rep (n : Nat) (x : Int) : lastZ (List.replicate (n + 1) x) = x := by
  induction n with
  | zero => rfl
  | succ n ih =>
    rw [List.replicate_succ, last_cons (by rw [List.replicate_succ]; exact List.cons_ne_nil _ _)]
    exact ih
theorem last_app (t : List Int) (k : Int) : lastZ (t ++ [k]) = k := by
  induction t with
  | nil => rfl
  | cons x t ih =>
    rw [List.cons_append, last_cons (by simp)]
    exact ih
theorem next_full {c : Int} : ∀ t : List Int, nextT c (t ++ [c - 1]) = (nextT c t).map fun t' => t' ++ [lastZ t']
  | [] => by
    show (if c - 1 < c - 1 then some (List.replicate 1 (c - 1 + 1)) else none) = _
    rw [if_neg (Int.lt_irrefl _)]
    rfl
  | x :: t => by
    rw [List.cons_append]
    unfold nextT
    rw [next_full t]
    cases hn : nextT c t with
    | some u =>
      have hl := next_len hn
      have hne : u ≠ [] := by
        intro e
        subst e
        have : t = [] := List.length_eq_zero_iff.mp hl.symm
        subst this
        cases hn
      show some (x :: (u ++ [lastZ u])) = some ((x :: u) ++ [lastZ (x :: u)])
      rw [last_cons hne]
      rfl
    | none =>
      show (if x < c - 1 then some (List.replicate ((t ++ [c - 1]).length + 1) (x + 1)) else none) = _
      by_cases h : x < c - 1
      · rw [if_pos h]
        show some _ = (if x < c - 1 then some (List.replicate (t.length + 1) (x + 1)) else none).map _
        rw [if_pos h, Option.map_some, last_rep, List.length_append, List.length_singleton]
        congr 1
        exact List.replicate_succ'
      · rw [if_neg h]
        show _ = (if x < c - 1 then some (List.replicate (t.length + 1) (x + 1)) else none).map _
        rw [if_neg h]
        rfl
/-- each one is the next of the one before it, and the last one has none -/
def Chn (c : Int) : List (List Int) → Prop
  | [] => True
  | t :: L => nextT c t = L.head? ∧ Chn c L
theorem chn_get {c : Int} : ∀ {L : List (List Int)} {i : Nat} {t : List Int}, Chn c L → L[i]? = some t → nextT c t = L[i + 1]?
  | [], i, t, _, h => by simp at h
  | a :: L, 0, t, hc, h => by
    cases h
    rw [hc.1]
    cases L <;> rfl
  | a :: L, i + 1, t, hc, h => chn_get (i := i) hc.2 h
/-- one block and what is behind it -/
theorem chn_block {c : Nat} {t : List Int} {W : List (List Int)} (hW : Chn c W) (hn : nextT c (t ++ [(c : Int) - 1]) = W.head?) : ∀ (n : Nat) (lo : Int), lo + (n : Int) = c → 0 < n → Chn c (((List.range n).map fun k : Nat => t ++ [lo + (k : Int)]) ++ W)
  | 0, _, _, h => absurd h (Nat.lt_irrefl 0)
  | 1, lo, h, _ => by
    show nextT c (t ++ [lo + ((0 : Nat) : Int)]) = W.head? ∧ Chn c W
    have e : lo + ((0 : Nat) : Int) = (c : Int) - 1 := by omega
    rw [e]
    exact ⟨hn, hW⟩
  | n + 2, lo, h, _ => by
    have ih := chn_block hW hn (n + 1) (lo + 1) (by omega) (Nat.succ_pos n)
    have e : ((List.range (n + 2)).map fun k : Nat => t ++ [lo + (k : Int)]) = (t ++ [lo + ((0 : Nat) : Int)]) :: ((List.range (n + 1)).map fun k : Nat => t ++ [lo + 1 + (k : Int)]) := by
      rw [List.range_succ_eq_map, List.map_cons, List.map_map]
      congr 1
      refine List.map_congr_left fun k _ => ?_
      show t ++ [lo + ((k + 1 : Nat) : Int)] = _
      rw [show lo + ((k + 1 : Nat) : Int) = lo + 1 + (k : Int) by omega]
    rw [e]
    refine ⟨?_, ih⟩
    rw [next_up (by omega)]
    rw [List.range_succ_eq_map]
    show some _ = some _
    rw [show lo + ((0 : Nat) : Int) + 1 = lo + 1 + ((0 : Nat) : Int) by omega]
theorem chn_wider {c : Nat} : ∀ {L : List (List Int)}, Chn c L → (∀ t ∈ L, 0 ≤ lastZ t ∧ lastZ t < c) → Chn c (widerL c L)
  | [], _, _ => trivial
  | t :: L, hc, hl => by
    have h0 := hl t List.mem_cons_self
    have ih := chn_wider hc.2 fun u hu => hl u (List.mem_cons_of_mem _ hu)
    have e : widerL c (t :: L) = ((List.range ((c : Int) - lastZ t).toNat).map fun k : Nat => t ++ [lastZ t + (k : Int)]) ++ widerL c L := by
      unfold widerL
      rw [List.flatMap_cons]
      unfold rangeI
      rw [List.map_map]
      rfl
    rw [e]
    refine chn_block ih ?_ _ _ (by omega) (by omega)
    rw [next_full, hc.1]
    cases L with
    | nil => rfl
    | cons u L =>
      have h1 := hl u (List.mem_cons_of_mem _ List.mem_cons_self)
      show some (u ++ [lastZ u]) = _
      unfold widerL
      rw [List.flatMap_cons]
      unfold rangeI
      obtain ⟨n, hn⟩ : ∃ n, ((c : Int) - lastZ u).toNat = n + 1 := ⟨((c : Int) - lastZ u).toNat - 1, by omega⟩
      rw [hn, List.range_succ_eq_map, List.map_cons, List.map_cons, List.cons_append]
      show _ = some (u ++ [lastZ u + ((0 : Nat) : Int)])
      rw [show lastZ u + ((0 : Nat) : Int) = lastZ u by omega]
theorem wider_mem {c : Nat} {L : List (List Int)} {t : List Int} (h : t ∈ widerL c L) : ∃ u k, u ∈ L ∧ t = u ++ [k] ∧ lastZ u ≤ k ∧ k < c := by
  unfold widerL at h
  obtain ⟨u, hu, h⟩ := List.mem_flatMap.mp h
  obtain ⟨k, hk, rfl⟩ := List.mem_map.mp h
  unfold rangeI at hk
  obtain ⟨j, hj, rfl⟩ := List.mem_map.mp hk
  have := List.mem_range.mp hj
  exact ⟨u, _, hu, rfl, by omega, by omega⟩
theorem all_ok {c : Nat} : ∀ (n : Nat), Chn c (allT c n) ∧ (∀ t ∈ allT c n, t.length = n + 1 ∧ (∀ x ∈ t, 0 ≤ x ∧ x < (c : Int)) ∧ 0 ≤ lastZ t ∧ lastZ t < c)
  | 0 => by
    refine ⟨?_, fun t ht => ?_⟩
    · rcases Nat.eq_zero_or_pos c with e | e
      · subst e
        exact trivial
      · have h := chn_block (c := c) (t := []) (W := []) trivial (by rw [next_full]; rfl) c 0 (by omega) e
        rw [List.append_nil] at h
        have e2 : ((List.range c).map fun k : Nat => ([] : List Int) ++ [(0 : Int) + (k : Int)]) = allT c 0 := by
          show _ = (List.range c).map fun k : Nat => [(k : Int)]
          refine List.map_congr_left fun k _ => ?_
          rw [Int.zero_add]
          rfl
        rw [e2] at h
        exact h
    · obtain ⟨k, hk, rfl⟩ := List.mem_map.mp ht
      have := List.mem_range.mp hk
      refine ⟨rfl, fun x hx => ?_, ?_⟩
      · rw [List.mem_singleton.mp hx]
        omega
      · show 0 ≤ (k : Int) ∧ (k : Int) < c
        omega
  | n + 1 => by
    obtain ⟨h1, h2⟩ := all_ok (c := c) n
    refine ⟨chn_wider h1 fun t ht => (h2 t ht).2.2, fun t ht => ?_⟩
    obtain ⟨u, k, hu, rfl, hk0, hk1⟩ := wider_mem ht
    obtain ⟨a1, a2, a3, a4⟩ := h2 u hu
    refine ⟨by rw [List.length_append, a1]; rfl, fun x hx => ?_, ?_⟩
    · rcases List.mem_append.mp hx with h | h
      · exact a2 x h
      · rw [List.mem_singleton.mp h]
        omega
    · rw [last_app]
      omega
theorem all_head {c : Nat} (hc : 0 < c) : ∀ n : Nat, (allT c n)[0]? = some (List.replicate (n + 1) 0)
  | 0 => by
    show ((List.range c).map fun k : Nat => [(k : Int)])[0]? = _
    rw [List.getElem?_map, List.getElem?_range hc]
    rfl
  | n + 1 => by
    have ih := all_head hc n
    show (widerL c (allT c n))[0]? = _
    match hL : allT c n, ih with
    | t :: L, ih =>
      have e : t = List.replicate (n + 1) 0 := Option.some.inj ih
      subst e
      unfold widerL
      rw [List.flatMap_cons, last_rep]
      unfold rangeI
      obtain ⟨k, hk⟩ : ∃ k, ((c : Int) - 0).toNat = k + 1 := ⟨c - 1, by omega⟩
      rw [hk, List.range_succ_eq_map, List.map_cons, List.map_cons, List.cons_append]
      show some (List.replicate (n + 1) 0 ++ [0 + ((0 : Nat) : Int)]) = _
      rw [List.replicate_succ' (n := n + 1)]
      rfl
end Pyl
end
section
set_option linter.all false
namespace Pyl
open PySem
/-! first_fault(faults, rows): 0 faults 1 rows 2 index 3 wrong 4 row -/
def w_first_fault : WS := (wSeq (wFor (iRange1 (e1 pLen (eVar 0))) (gN 2)
  (wSeq (wAsg 3 (e1 pSum (eComp [4] (iSeq (eVar 1)) (gN 4) tYes (e2 pIx (e2 pIx (eVar 0) (eVar 2)) (eVar 4)))))
  (wIf (tVal (e2 pGt (e2 pMul (eC (.int 2)) (eVar 3)) (e1 pLen (eVar 1))))
  (wRet (eVar 2))
  wNil)))
  (wRet (eC .non)))
/-! next_choice(indexes, count): 0 indexes 1 count 2 back 3 at 4 _ -/
def w_next_choice : WS := (wSeq (wFor (iRange1 (e1 pLen (eVar 0))) (gN 2)
  (wSeq (wAsg 3 (e2 pSub (e2 pSub (e1 pLen (eVar 0)) (eC (.int 1))) (eVar 2)))
  (wIf (tVal (e2 pLt (e2 pIx (eVar 0) (eVar 3)) (e2 pSub (eVar 1) (eC (.int 1)))))
  (wRet (e2 pAdd (eSlice (eVar 0) oNone (oSome (eVar 3))) (e1 pTuple (eComp [4] (iRange1 (e2 pSub (e1 pLen (eVar 0)) (eVar 3))) (gN 4) tYes (e2 pAdd (e2 pIx (eVar 0) (eVar 3)) (eC (.int 1)))))))
  wNil)))
  (wRet (eC .non)))
/-! first_choice(faults, size): 0 faults 1 size 2 indexes 3 _ -/
def w_first_choice : WS := (wSeq (wAsg 2 (e1 pTuple (eComp [3] (iRange1 (eVar 1)) (gN 3) tYes (eC (.int 0)))))
  (wSeq (wWhile (tVal (e1 pNotN (eVar 2)))
  (wSeq (wIf (tVal (e1 pIsN (eCall F_first_fault (aCons (eVar 0) (aCons (eVar 2) aNil)))))
  (wRet (eVar 2))
  wNil)
  (wAsg 2 (eCall F_next_choice (aCons (eVar 2) (aCons (e1 pLen (e2 pIx (eVar 0) (eC (.int 0)))) aNil))))))
  (wRet (eC .non))))
/-! fewest_rows(faults, most): 0 faults 1 most 2 size 3 indexes -/
def w_fewest_rows : WS := (wSeq (wFor (iRange3 (eC (.int 1)) (e2 pAdd (eVar 1) (eC (.int 1))) (eC (.int 2))) (gN 2)
  (wSeq (wAsg 3 (eCall F_first_choice (aCons (eVar 0) (aCons (eVar 2) aNil))))
  (wIf (tVal (e1 pNotN (eVar 3)))
  (wRet (eVar 3))
  wNil)))
  (wRet (eC .non)))
/-! _law_whole(value): 0 value -/
def w__law_whole : WS := (wRet (eAnd (e1 (pIsi "int") (eVar 0)) (eNot (e1 (pIsi "bool") (eVar 0)))))
/-! _law_cell(script, k): 0 script 1 k 2 seed 3 cell -/
def w__law_cell : WS := (wSeq (wIf (tVal (e2 pLt (eVar 1) (e1 pLen (eVar 0))))
  (wRet (e2 pIx (eVar 0) (eVar 1)))
  wNil)
  (wSeq (wAsg 2 (eC (.int 17)))
  (wSeq (wFor (iSeq (eVar 0)) (gN 3)
  (wAsg 2 (e2 pMod (e1 pInt (e2 pAdd (e2 pMul (eVar 2) (eC (.int 31))) (e2 pMod (e1 pInt (eVar 3)) (eC (.int 1000003))))) (eC (.int 1000003)))))
  (wRet (e2 pMod (e1 pInt (e2 pMul (e2 pMul (e2 pAdd (eVar 2) (eC (.int 7))) (e2 pAdd (eVar 1) (eC (.int 3)))) (eC (.int 69621)))) (eC (.int 2147483647)))))))
/-! _law_digits(cell, sizes): 0 cell 1 sizes 2 row 3 rest 4 seed 5 k 6 size 7 twice -/
def w__law_digits : WS := (wSeq (wAsg 2 (eLst aNil))
  (wSeq (wAsg 3 (e1 pInt (eVar 0)))
  (wSeq (wIf (tVal (e2 pGe (eVar 3) (e2 pPow (eC (.int 10)) (eC (.int 18)))))
  (wSeq (wAsg 3 (e2 pSub (eVar 3) (e2 pPow (eC (.int 10)) (eC (.int 18)))))
  (wSeq (wFor (iSeq (eVar 1)) (gN 6)
  (wSeq (wApp 2 (e2 pMod (e1 pInt (eVar 3)) (eVar 6)))
  (wAsg 3 (e2 pDiv (e1 pInt (eVar 3)) (eVar 6)))))
  (wFrz 2 (wRet (eVar 2)))))
  wNil)
  (wSeq (wAsg 4 (e2 pMod (e1 pInt (eVar 3)) (eC (.int 2147483629))))
  (wSeq (wFor (iRange1 (e1 pLen (eVar 1))) (gN 5)
  (wSeq (wAsg 4 (e2 pMod (e1 pInt (e2 pAdd (e2 pAdd (e2 pMul (eVar 4) (eC (.int 48271))) (e2 pMul (eC (.int 974711)) (eVar 5))) (eC (.int 12345)))) (eC (.int 2147483647))))
  (wSeq (wAsg 7 (e2 pMod (e1 pInt (e2 pMul (eVar 4) (e2 pAdd (e2 pDiv (eVar 4) (eC (.int 65537))) (eC (.int 3))))) (eC (.int 2147483629))))
  (wApp 2 (e2 pMod (e2 pDiv (eVar 7) (eC (.int 19))) (e2 pIx (eVar 1) (eVar 5)))))))
  (wFrz 2 (wRet (eVar 2))))))))
/-! _law_drawn_rows(digits, count): 0 digits 1 count 2 rest 3 taken 4 k 5 at -/
def w__law_drawn_rows : WS := (wSeq (wAsg 2 (eComp [4] (iRange1 (eVar 1)) (gN 4) tYes (eVar 4)))
  (wFrz 2 (wSeq (wAsg 3 (eLst aNil))
  (wSeq (wFor (iRange1 (eVar 1)) (gN 4)
  (wSeq (wAsg 5 (e2 pMod (e1 pInt (e2 pIx (eVar 0) (eVar 4))) (e1 pLen (eVar 2))))
  (wSeq (wApp 3 (e2 pIx (eVar 2) (eVar 5)))
  (wAsg 2 (e2 pAdd (eSlice (eVar 2) oNone (oSome (eVar 5))) (eSlice (eVar 2) (oSome (e2 pAdd (eVar 5) (eC (.int 1)))) oNone))))))
  (wFrz 3 (wRet (eVar 3)))))))
/-! _law_input_bits(cell, i, style, drawn): 0 cell 1 i 2 style 3 drawn 4 count 5 row 6 least 7 bits 8 wrong 9 k 10 pairs 11 pair 12 one -/
def w__law_input_bits : WS := (wSeq (wAsg 4 (e1 pLen (eVar 3)))
  (wSeq (wAsg 5 (eCall F__law_digits (aCons (eVar 0) (aCons (e2 pAdd (eLst (aCons (eC (.int 6)) (aCons (eC (.int 10)) (aCons (eC (.int 3)) aNil)))) (eComp [9] (iRange1 (eVar 4)) (gN 9) tYes (eC (.int 60)))) aNil))))
  (wSeq (wAsg 6 (e2 pIx (eLst (aCons (eC (.int 42)) (aCons (eC (.int 36)) (aCons (eC (.int 30)) (aCons (eC (.int 48)) (aCons (eC (.int 24)) (aCons (eC (.int 15)) aNil))))))) (e2 pIx (eVar 5) (eC (.int 0)))))
  (wSeq (wIf (tAnd (tVal (e2 pGt (eVar 2) (eC (.int 2)))) (tVal (e2 pLt (eVar 2) (eC (.int 7)))))
  (wAsg 6 (eC (.int 12)))
  wNil)
  (wSeq (wAsg 7 (eComp [12] (iSeq (eSlice (eVar 5) (oSome (eC (.int 3))) oNone)) (gN 12) tYes (e1 pInt (e2 pGe (eVar 12) (eVar 6)))))
  (wSeq (wIf (tOr (tVal (e2 pEq (eVar 2) (eC (.int 3)))) (tVal (e2 pEq (eVar 2) (eC (.int 4)))))
  (wSeq (wAsg 8 (e2 pIx (eVar 5) (eC (.int 2))))
  (wSeq (wIf (tVal (e2 pLt (eVar 1) (eC (.int 3))))
  (wAsg 8 (eVar 1))
  wNil)
  (wFor (iRange1 (e2 pMin2 (eC (.int 3)) (eVar 4))) (gN 9)
  (wPut 7 (e2 pIx (eVar 3) (eVar 9)) (e1 pInt (e2 pEq (eVar 9) (eVar 8)))))))
  wNil)
  (wSeq (wIf (tOr (tVal (e2 pEq (eVar 2) (eC (.int 5)))) (tVal (e2 pEq (eVar 2) (eC (.int 6)))))
  (wSeq (wAsg 10 (eLst (aCons (eLst (aCons (eC (.int 0)) (aCons (eC (.int 1)) aNil))) (aCons (eLst (aCons (eC (.int 0)) (aCons (eC (.int 2)) aNil))) (aCons (eLst (aCons (eC (.int 0)) (aCons (eC (.int 3)) aNil))) (aCons (eLst (aCons (eC (.int 0)) (aCons (eC (.int 4)) aNil))) (aCons (eLst (aCons (eC (.int 1)) (aCons (eC (.int 2)) aNil))) (aCons (eLst (aCons (eC (.int 1)) (aCons (eC (.int 3)) aNil))) (aCons (eLst (aCons (eC (.int 1)) (aCons (eC (.int 4)) aNil))) (aCons (eLst (aCons (eC (.int 2)) (aCons (eC (.int 3)) aNil))) (aCons (eLst (aCons (eC (.int 2)) (aCons (eC (.int 4)) aNil))) (aCons (eLst (aCons (eC (.int 3)) (aCons (eC (.int 4)) aNil))) aNil))))))))))))
  (wFrz 10 (wSeq (wAsg 11 (e2 pIx (eVar 10) (e2 pIx (eVar 5) (eC (.int 1)))))
  (wSeq (wIf (tVal (e2 pLt (eVar 1) (eC (.int 10))))
  (wAsg 11 (e2 pIx (eVar 10) (eVar 1)))
  wNil)
  (wFor (iRange1 (e2 pMin2 (eC (.int 5)) (eVar 4))) (gN 9)
  (wPut 7 (e2 pIx (eVar 3) (eVar 9)) (e1 pInt (e2 pIn (eVar 9) (eVar 11)))))))))
  wNil)
  (wFrz 7 (wRet (eVar 7))))))))))
/-! _law_wider(entries, columns): 0 entries 1 columns 2 wider 3 entry 4 k 5 i -/
def w__law_wider : WS := (wSeq (wAsg 2 (eLst aNil))
  (wSeq (wFor (iSeq (eVar 0)) (gN 3)
  (wFor (iRange2 (e2 pIx (e2 pIx (eVar 3) (eC (.int 0))) (e1 pNeg (eC (.int 1)))) (e1 pLen (eVar 1))) (gN 4)
  (wApp 2 (eLst (aCons (e2 pAdd (e2 pIx (eVar 3) (eC (.int 0))) (eLst (aCons (eVar 4) aNil))) (aCons (eComp [5] (iRange1 (e1 pLen (e2 pIx (eVar 1) (eVar 4)))) (gN 5) tYes (e2 pAdd (e2 pIx (e2 pIx (eVar 3) (eC (.int 1))) (eVar 5)) (e2 pIx (e2 pIx (eVar 1) (eVar 4)) (eVar 5)))) aNil))))))
  (wFrz 2 (wRet (eVar 2)))))
/-! _law_first(entries): 0 entries 1 entry -/
def w__law_first : WS := (wSeq (wFor (iSeq (eVar 0)) (gN 1)
  (wIf (tVal (e2 pLe (e2 pMul (eC (.int 2)) (e1 pMaxL (e2 pIx (eVar 1) (eC (.int 1))))) (e1 pLen (e2 pIx (eVar 1) (eC (.int 0))))))
  (wRet (e2 pIx (eVar 1) (eC (.int 0))))
  wNil))
  (wRet (eC .non)))
/-! _law_firsts(faults, count): 0 faults 1 count 2 columns 3 single 4 triple 5 k 6 bits -/
def w__law_firsts : WS := (wSeq (wAsg 2 (eComp [5] (iRange1 (eVar 1)) (gN 5) tYes (eComp [6] (iSeq (eVar 0)) (gN 6) tYes (e2 pIx (eVar 6) (eVar 5)))))
  (wFrz 2 (wSeq (wAsg 3 (eComp [5] (iRange1 (eVar 1)) (gN 5) tYes (eLst (aCons (eLst (aCons (eVar 5) aNil)) (aCons (e2 pIx (eVar 2) (eVar 5)) aNil)))))
  (wFrz 3 (wSeq (wAsg 4 (eCall F__law_wider (aCons (eCall F__law_wider (aCons (eVar 3) (aCons (eVar 2) aNil))) (aCons (eVar 2) aNil))))
  (wRet (eLst (aCons (eCall F__law_first (aCons (eVar 3) aNil)) (aCons (eCall F__law_first (aCons (eVar 4) aNil)) (aCons (eCall F__law_first (aCons (eCall F__law_wider (aCons (eCall F__law_wider (aCons (eVar 4) (aCons (eVar 2) aNil))) (aCons (eVar 2) aNil))) aNil)) aNil))))))))))
/-! _law_cleared(faults, row): 0 faults 1 row 2 bits -/
def w__law_cleared : WS := (wRet (eComp [2] (iSeq (eVar 0)) (gN 2) tYes (e2 pAdd (e2 pAdd (eSlice (eVar 2) oNone (oSome (eVar 1))) (eLst (aCons (eC (.int 0)) aNil))) (eSlice (eVar 2) (oSome (e2 pAdd (eVar 1) (eC (.int 1)))) oNone))))
/-! _law_answered(faults, firsts, greatest_size, as_tuple): 0 faults 1 firsts 2 greatest_size 3 as_tuple 4 handed 5 told 6 due 7 k 8 bits -/
def w__law_answered : WS := (wSeq (wAsg 4 (eComp [8] (iSeq (eVar 0)) (gN 8) tYes (e1 pList (eVar 8))))
  (wFrz 4 (wSeq (wIf (tVal (e2 pEq (eVar 3) (eC (.int 1))))
  (wAsg 4 (e1 pTuple (eComp [8] (iSeq (eVar 0)) (gN 8) tYes (e1 pTuple (eVar 8)))))
  wNil)
  (wSeq (wAsg 5 (eCall F_fewest_rows (aCons (eVar 4) (aCons (eVar 2) aNil))))
  (wSeq (wAsg 6 (eC .non))
  (wSeq (wFor (iRange1 (e1 pLen (eVar 1))) (gN 7)
  (wIf (tAnd (tVal (e1 pIsN (eVar 6))) (tVal (e2 pLt (e2 pMul (eC (.int 2)) (eVar 7)) (eVar 2))))
  (wAsg 6 (e2 pIx (eVar 1) (eVar 7)))
  wNil))
  (wSeq (wIf (tVal (e2 pNe (eComp [8] (iSeq (eVar 4)) (gN 8) tYes (e1 pList (eVar 8))) (eVar 0)))
  (wRet (eC (.bl false)))
  wNil)
  (wSeq (wIf (tVal (e1 pIsN (eVar 6)))
  (wRet (e1 pIsN (eVar 5)))
  wNil)
  (wSeq (wIf (tOr (tNot (tVal (e1 (pIsi "tuple") (eVar 5)))) (tVal (e2 pNe (e1 pLen (eVar 5)) (e1 pLen (eVar 6)))))
  (wRet (eC (.bl false)))
  wNil)
  (wSeq (wFor (iRange1 (e1 pLen (eVar 6))) (gN 7)
  (wIf (tOr (tNot (tVal (eCall F__law_whole (aCons (e2 pIx (eVar 5) (eVar 7)) aNil)))) (tVal (e2 pNe (e2 pIx (eVar 5) (eVar 7)) (e2 pIx (eVar 6) (eVar 7)))))
  (wRet (eC (.bl false)))
  wNil))
  (wRet (eC (.bl true)))))))))))))
/-! law(script): 0 script 1 shape 2 count 3 style 4 inputs 5 drawn 6 faults 7 firsts 8 cleared 9 clean 10 k 11 turned 12 bits -/
def w_law : WS := (wSeq (wAsg 1 (eCall F__law_digits (aCons (eCall F__law_cell (aCons (eVar 0) (aCons (eC (.int 0)) aNil))) (aCons (eLst (aCons (eC (.int 8)) (aCons (eC (.int 8)) (aCons (eC (.int 5)) (aCons (eC (.int 7)) (aCons (eC (.int 2)) (aCons (eC (.int 4)) (aCons (eC (.int 10)) (aCons (eC (.int 7)) (aCons (eC (.int 2)) aNil)))))))))) aNil))))
  (wSeq (wAsg 2 (e2 pIx (eLst (aCons (eC (.int 3)) (aCons (eC (.int 5)) (aCons (eC (.int 4)) (aCons (eC (.int 7)) (aCons (eC (.int 6)) (aCons (eC (.int 2)) (aCons (eC (.int 1)) aNil)))))))) (e2 pIx (eVar 1) (eC (.int 3)))))
  (wSeq (wIf (tVal (e2 pEq (e2 pIx (eVar 1) (eC (.int 1))) (eC (.int 0))))
  (wAsg 2 (e2 pAdd (eC (.int 8)) (e2 pIx (eVar 1) (eC (.int 2)))))
  wNil)
  (wSeq (wAsg 3 (e2 pIx (eVar 1) (eC (.int 0))))
  (wSeq (wAsg 4 (e2 pIx (eLst (aCons (eC (.int 4)) (aCons (eC (.int 3)) (aCons (eC (.int 5)) (aCons (eC (.int 6)) (aCons (eC (.int 7)) (aCons (eC (.int 2)) (aCons (eC (.int 1)) aNil)))))))) (e2 pIx (eVar 1) (eC (.int 7)))))
  (wSeq (wIf (tOr (tVal (e2 pEq (eVar 3) (eC (.int 5)))) (tVal (e2 pEq (eVar 3) (eC (.int 6)))))
  (wSeq (wAsg 2 (e2 pMax2 (eC (.int 5)) (eVar 2)))
  (wAsg 4 (eC (.int 10))))
  wNil)
  (wSeq (wIf (tVal (e2 pEq (e2 pIx (eVar 1) (eC (.int 4))) (eC (.int 1))))
  (wAsg 4 (e2 pMin2 (eC (.int 16)) (e2 pAdd (eVar 4) (e2 pIx (eVar 1) (eC (.int 6))))))
  wNil)
  (wSeq (wAsg 5 (eCall F__law_drawn_rows (aCons (eCall F__law_digits (aCons (eCall F__law_cell (aCons (eVar 0) (aCons (eC (.int 1)) aNil))) (aCons (eComp [10] (iRange1 (eVar 2)) (gN 10) tYes (eC (.int 12))) aNil))) (aCons (eVar 2) aNil))))
  (wSeq (wAsg 6 (eComp [10] (iRange1 (eVar 4)) (gN 10) tYes (eCall F__law_input_bits (aCons (eCall F__law_cell (aCons (eVar 0) (aCons (e2 pAdd (eC (.int 2)) (eVar 10)) aNil))) (aCons (eVar 10) (aCons (eVar 3) (aCons (eVar 5) aNil)))))))
  (wSeq (wIf (tVal (e2 pEq (eVar 3) (eC (.int 7))))
  (wPut 6 (e2 pMod (e1 pInt (e2 pIx (eVar 1) (eC (.int 6)))) (eVar 4)) (eComp [10] (iRange1 (eVar 2)) (gN 10) tYes (eC (.int 1))))
  wNil)
  (wFrz 6 (wSeq (wAsg 7 (eCall F__law_firsts (aCons (eVar 6) (aCons (eVar 2) aNil))))
  (wFrz 6 (wSeq (wIf (tNot (tVal (eCall F__law_answered (aCons (eVar 6) (aCons (eVar 7) (aCons (eC (.int 5)) (aCons (e2 pIx (eVar 1) (eC (.int 8))) aNil)))))))
  (wRet (eC (.bl false)))
  wNil)
  (wFrz 6 (wSeq (wAsg 8 (eCall F__law_cleared (aCons (eVar 6) (aCons (e2 pIx (eVar 5) (e1 pNeg (eC (.int 1)))) aNil))))
  (wSeq (wAsg 9 (eComp [10] (iRange1 (eVar 2)) (gN 10) (tVal (e2 pEq (e1 pSum (eComp [12] (iSeq (eVar 8)) (gN 12) tYes (e2 pIx (eVar 12) (eVar 10)))) (eC (.int 0)))) (eVar 10)))
  (wFrz 9 (wSeq (wIf (tNot (tVal (eCall F__law_answered (aCons (eVar 8) (aCons (eLst (aCons (eLst (aCons (e2 pIx (eVar 9) (eC (.int 0))) aNil)) aNil)) (aCons (e2 pAdd (eC (.int 1)) (e2 pIx (eVar 1) (eC (.int 5)))) (aCons (eC (.int 1)) aNil)))))))
  (wRet (eC (.bl false)))
  wNil)
  (wSeq (wIf (tVal (e2 pGt (eVar 2) (eC (.int 7))))
  (wFrz 6 (wRet (eCall F__law_answered (aCons (eVar 6) (aCons (eVar 7) (aCons (e2 pAdd (eC (.int 1)) (e2 pIx (eVar 1) (eC (.int 5)))) (aCons (e2 pSub (eC (.int 1)) (e2 pIx (eVar 1) (eC (.int 8)))) aNil)))))))
  wNil)
  (wSeq (wFor (iRange2 (eC (.int 1)) (eC (.int 5))) (gN 10)
  (wFrz 6 (wIf (tNot (tVal (eCall F__law_answered (aCons (eVar 6) (aCons (eVar 7) (aCons (eVar 10) (aCons (e2 pMod (e1 pInt (e2 pAdd (eVar 10) (e2 pIx (eVar 1) (eC (.int 8))))) (eC (.int 2))) aNil)))))))
  (wRet (eC (.bl false)))
  wNil)))
  (wSeq (wAsg 11 (eComp [12] (iSeq (eVar 6)) (gN 12) tYes (eComp [10] (iRange1 (eVar 2)) (gN 10) tYes (e2 pIx (eVar 12) (e2 pSub (e2 pSub (eVar 2) (eC (.int 1))) (eVar 10))))))
  (wFrz 11 (wSeq (wIf (tNot (tVal (eCall F__law_answered (aCons (eVar 11) (aCons (eCall F__law_firsts (aCons (eVar 11) (aCons (eVar 2) aNil))) (aCons (eC (.int 5)) (aCons (e2 pSub (eC (.int 1)) (e2 pIx (eVar 1) (eC (.int 8)))) aNil)))))))
  (wRet (eC (.bl false)))
  wNil)
  (wFrz 6 (wRet (eCall F__law_answered (aCons (eVar 6) (aCons (eVar 7) (aCons (eC (.int 5)) (aCons (e2 pIx (eVar 1) (eC (.int 8))) aNil)))))))))))))))))))))))))))))))
end Pyl
end
section
set_option Elab.async false
set_option linter.all false
set_option maxHeartbeats 1000000
namespace Pyl
open PySem
local macro_rules | `(tactic| walk_at "pe") => `(tactic| simp (config := { implicitDefEqProofs := false }) only [eVar_at, eC_at, e1_at, e2_at, aNil_at, aCons_at, eTup_at, eLst_at, plain_nil, plain_cons, eCall_at, eIf_at, eAnd_at, eOr_at, eNot_at, tVal_at, tAnd_at, tOr_at, tNot_at, tYes_at,
  pAdd_int, pSub_int, pNeg_int, pLt_int, pLe_int, pGt_int, pGe_int, pEq_int, pNe_int, pIsN_at, pNotN_at, pIx_lst, pIx_tup, pGcd_int, atL0, atL1, atL2, atL3, atL4, atL5, atL6, atL7, atL8, oNone_at, oSome_at, eSlice_at, pLen_lst, pLen_tup, pInt_int, pInt_bl, pAbs_int, pSum_ints, pMax2_int, pMin2_int, pList_lst, pList_tup, pTuple_lst, pTuple_tup, iSeq_at, gN_at, gT_at, gsN_cons, gsN_nil, wipeS_cons, wipeS_nil,
  dt_vis, dt_bor, dt_fre, sh_vis, sh_bor, sh_fre, slot_vis, slot_fre, od_dt, isNon_non, isNon_int, isNon_lst, isNon_tup, scalar_int, scalar_bl, scalar_non, Option.bind_some, Option.bind_none, Option.map_some, Option.map_none, List.getElem?_cons_zero, List.getElem?_cons_succ, List.set_cons_zero, List.set_cons_succ, List.map_cons, List.map_nil, List.any_cons, List.any_nil, Bool.or_false, Bool.false_or, Bool.false_and, Bool.and_true, Bool.true_and, Bool.not_true, Bool.not_false,
  Option.some.injEq, exists_eq_left', exists_eq_left, true_and, and_true, if_true, if_false, Bool.false_eq_true, ite_true, ite_false, reduceIte, decide_eq_true_eq, decide_eq_false_iff_not, R.vis.injEq, R.fre.injEq, Dt.lst.injEq, Dt.tup.injEq, Dt.int.injEq, Slot.own.injEq, OD.lst.injEq, reduceCtorEq, false_and, exists_false, exists_const, Bool.true_eq_false, false_implies, true_implies, implies_true, forall_const])

theorem comp_const {env : Sl} {own : List Nat} {g : GF} {x : Int} {n : Nat} (h : ∀ d, ∃ env', g d (wipeS env own) = some env') : compL (compG env own g tYes (eC (.int x))) (rngD 0 n) = some ((List.replicate n x).map .int) := by
  refine compL_ix (by rw [rngD_len, List.length_map, List.length_replicate]) fun i d o h1 h2 => ?_
  obtain ⟨env', he⟩ := h d
  rw [compG_at, he]
  rw [List.getElem?_map] at h2
  obtain ⟨hl, _⟩ := rngD_at h1
  rw [List.getElem?_replicate, if_pos hl] at h2
  cases h2
  rfl
theorem comp_consts {env : Sl} {own : List Nat} {fa : EF} {i n : Nat} {x : Int} (h : fa env = some (.vis (.int n))) (hn : n ≤ 4000000) : eComp own (iRange1 fa) (gN i) tYes (eC (.int x)) env = some (.fre (.lst ((List.replicate n x).map .int))) :=
  eComp_of (ds := rngD 0 n) (s := false) (rng1 h (by omega)) (by rw [rngD_len]; exact lim_of hn) (comp_const fun d => ⟨_, rfl⟩)
theorem find_at {α : Type} {p : α → Bool} : ∀ {l : List α} {i : Nat} {x : α}, l[i]? = some x → p x = true → (∀ (j : Nat) (y : α), j < i → l[j]? = some y → p y = false) → l.find? p = some x
  | [], i, x, h, _, _ => by simp at h
  | a :: l, 0, x, h, hp, _ => by
    cases h
    rw [List.find?_cons, hp]
  | a :: l, i + 1, x, h, hp, hn => by
    rw [List.find?_cons, hn 0 a (Nat.succ_pos i) rfl]
    exact find_at (i := i) h hp fun j y hj hy => hn (j + 1) y (Nat.succ_lt_succ hj) hy
theorem find_not {α : Type} {p : α → Bool} {l : List α} (h : ∀ (j : Nat) (y : α), l[j]? = some y → p y = false) : l.find? p = none := by
  rw [List.find?_eq_none]
  intro x hx
  obtain ⟨j, hj⟩ := List.mem_iff_getElem?.mp hx
  rw [h j x hj]
  exact Bool.false_ne_true
theorem colsN_eq {m : List (List Int)} {c : Nat} (ok : Ok72 m c) : colsN m = c := by
  match m, ok with
  | r :: rs, ok => exact (ok.bits r List.mem_cons_self).1
  | [], ok => exact absurd ok.pos (by decide)
theorem getD_bit {m : List (List Int)} {c : Nat} {r : List Int} (ok : Ok72 m c) (hr : r ∈ m) (k : Nat) : 0 ≤ r.getD k 0 ∧ r.getD k 0 ≤ 1 := by
  rw [List.getD_eq_getElem?_getD]
  cases hg : r[k]? with
  | none => decide
  | some b => exact (ok.bits r hr).2 b (List.mem_of_getElem? hg)
theorem sumT_bound {m : List (List Int)} {c : Nat} {t r : List Int} (ok : Ok72 m c) (hr : r ∈ m) : 0 ≤ sumT t r ∧ sumT t r ≤ t.length := by
  have h := sum_bounds (B := 1) (l := t.map fun x => r.getD x.toNat 0) fun y hy => by
    obtain ⟨x, _, rfl⟩ := List.mem_map.mp hy
    exact getD_bit ok hr _
  rw [List.length_map, Int.one_mul] at h
  exact h
theorem len_first_fault : ∀ (ds : List Dt) (r : Dt), F_first_fault ds = some r → ds.length = 2 := by
  intro ds r h
  match ds, h with
  | [_, _], _ => rfl
theorem k_first_fault : Keeps 5 w_first_fault F_first_fault := by
  intro ds r h
  match ds, h with
  | [f, w], h =>
    simp only [F_first_fault] at h
    split at h
    case isFalse => cases h
    rename_i hk
    obtain ⟨⟨b, hf⟩, hw, ok, okt⟩ := hk
    cases h
    generalize f.toM = m at *
    generalize w.toIs = t at *
    subst hf hw
    generalize hc : colsN m = c at *
    have hfew := ok.few
    have hc1 := ok.c1
    show w_first_fault _ [.val (imatS b m), .val (itup t), .non, .non, .non]
    have hpl : pLen (imatS b m) = some (.vis (.int m.length)) := by
      cases b
      · show some (R.vis (.int ((m.map ilst).length : Nat))) = _
        rw [List.length_map]
      · show some (R.vis (.int ((m.map itup).length : Nat))) = _
        rw [List.length_map]
    refine q_forRng (lo := 0) (n := m.length) (fun i e => ∃ z2 z3, e = [.val (imatS b m), .val (itup t), z2, z3, .non] ∧ ∀ (j y : Nat), j < i → (List.range m.length)[j]? = some y → badI m t y = false) (by rw [rng1 (n := (m.length : Int)) (by walk_at "pe"; rw [hpl]) (by omega), Int.toNat_natCast]) ⟨_, _, rfl, fun j y hj => absurd hj (Nat.not_lt_zero j)⟩ ?_ ?_
    · rintro i env hi ⟨z2, z3, rfl, hno⟩
      have hg : m[i]? = some m[i] := List.getElem?_eq_getElem hi
      have hmem := List.mem_of_getElem? hg
      have hsb := sumT_bound (t := t) ok hmem
      have hbad : badI m t i = decide ((t.length : Int) < 2 * sumT t m[i]) := by
        unfold badI
        rw [List.getD_eq_getElem?_getD, hg]
        rfl
      refine ⟨_, by walk_at "pe"; rfl, ?_⟩
      refine q_asg (r := .vis (.int (sumT t m[i]))) ?_ rfl rfl ?_
      · rw [e1_at, eComp_of (ds := t.map .int) (s := false) (out := (t.map fun x => m[i].getD x.toNat 0).map .int)]
        · walk_at "pe"
          rfl
        · unfold itup
          walk_at "pe"
        · rw [List.length_map]
          exact lim_of (by have := okt.1; omega)
        · refine compL_map fun x hx => ?_
          have hx := okt.2 x hx
          have hl := (ok.bits _ hmem).1
          rw [compG_at]
          walk_at "pe"
          rw [Int.zero_add, pIx_imatS (Int.natCast_nonneg i) (by rw [Int.toNat_natCast]; exact hg)]
          walk_at "pe"
          rw [pIx_iseq (x := m[i].getD x.toNat 0) hx.1 (by rw [List.getD_eq_getElem?_getD, List.getElem?_eq_getElem (by omega)]; rfl)]
          walk_at "pe"
      refine s_ifD (p := (t.length : Int) < 2 * sumT t m[i]) ?_ (fun hlt => ?_) fun hge => s_nil ⟨_, _, rfl, fun j y hj hy => ?_⟩
      · have ht1 := okt.1
        walk_at "pe"
        rw [pMul_int (big64 (by decide) (by decide)) (big64 (by omega) (by omega)), show pLen (itup t) = _ from pLen_iseq true t]
        walk_at "pe"
      · have hf : (List.range m.length).find? (badI m t) = some i := find_at (List.getElem?_range hi) (by rw [hbad]; exact decide_eq_true hlt) fun j y hj hy => hno j y hj hy
        rw [hf]
        exact s_ret (r := .vis (.int (i : Int))) (by walk_at "pe"; rw [Int.zero_add]) rfl rfl rfl
      · rcases Nat.lt_succ_iff_lt_or_eq.mp hj with h | h
        · exact hno j y h hy
        · subst h
          rw [List.getElem?_range hi] at hy
          cases hy
          rw [hbad]
          exact decide_eq_false hge
    · rintro env ⟨z2, z3, rfl, hno⟩
      have hf : (List.range m.length).find? (badI m t) = none := find_not fun j y hy => hno j y (by have := (List.getElem?_eq_some_iff.mp hy).1; rw [List.length_range] at this; exact this) hy
      rw [hf]
      exact s_ret (r := .vis .non) (by walk_at "pe") rfl rfl rfl
theorem fault_at {b : Bool} {m : List (List Int)} {t : List Int} (ok : Ok72 m (colsN m)) (okt : OkT (colsN m) t) : ∃ d, F_first_fault [imatS b m, itup t] = some d ∧ d.isNon = okT m t ∧ d.scalar = true := by
  refine ⟨ixD ((List.range m.length).find? (badI m t)), ?_, ?_, ?_⟩
  · simp only [F_first_fault]
    rw [toM_imatS, toIs_itup, if_pos ⟨⟨b, rfl⟩, rfl, ok, okt⟩]
  · unfold okT
    cases (List.range m.length).find? (badI m t) <;> rfl
  · cases (List.range m.length).find? (badI m t) <;> rfl
/-! the next choice -/
theorem len_next_choice : ∀ (ds : List Dt) (r : Dt), F_next_choice ds = some r → ds.length = 2 := by
  intro ds r h
  match ds, h with
  | [_, .int _], _ => rfl
theorem next_none {c : Int} : ∀ {t : List Int}, (∀ x ∈ t, c - 1 ≤ x) → nextT c t = none
  | [], _ => rfl
  | x :: t, h => by
    unfold nextT
    rw [next_none fun y hy => h y (List.mem_cons_of_mem _ hy)]
    have := h x List.mem_cons_self
    exact if_neg (by omega)
theorem next_pos {c : Int} : ∀ {t : List Int} {p : Nat} {x : Int}, t[p]? = some x → x < c - 1 → (∀ (q : Nat) (y : Int), p < q → t[q]? = some y → c - 1 ≤ y) → nextT c t = some (t.take p ++ List.replicate (t.length - p) (x + 1))
  | [], p, x, h, _, _ => by simp at h
  | a :: t, 0, x, h, hx, hq => by
    cases h
    unfold nextT
    rw [next_none fun y hy => by
      obtain ⟨j, hj⟩ := List.mem_iff_getElem?.mp hy
      exact hq (j + 1) y (Nat.succ_pos j) hj]
    exact if_pos hx
  | a :: t, p + 1, x, h, hx, hq => by
    unfold nextT
    rw [next_pos (p := p) h hx fun q y hpq hy => hq (q + 1) y (Nat.succ_lt_succ hpq) hy]
    rw [List.length_cons, Nat.add_sub_add_right]
    rfl
theorem k_next_choice : Keeps 5 w_next_choice F_next_choice := by
  intro ds r h
  match ds, h with
  | [w, .int c], h =>
    simp only [F_next_choice] at h
    split at h
    case isFalse => cases h
    rename_i hk
    obtain ⟨hw, hl⟩ := hk
    cases h
    generalize w.toIs = t at *
    subst hw
    show w_next_choice _ [.val (itup t), .val (.int c), .non, .non, .non]
    have hpl : pLen (itup t) = some (.vis (.int t.length)) := pLen_iseq true t
    refine q_forRng (lo := 0) (n := t.length) (fun i e => ∃ z2 z3, e = [.val (itup t), .val (.int c), z2, z3, .non] ∧ ∀ (q : Nat) (y : Int), t.length - i ≤ q → t[q]? = some y → c - 1 ≤ y) (by rw [rng1 (n := (t.length : Int)) (by walk_at "pe"; rw [hpl]) (by omega), Int.toNat_natCast]) ⟨_, _, rfl, fun q y hq hy => ?_⟩ ?_ ?_
    · have := (List.getElem?_eq_some_iff.mp hy).1
      omega
    · rintro i env hi ⟨z2, z3, rfl, hno⟩
      refine ⟨_, by walk_at "pe"; rfl, ?_⟩
      obtain ⟨p, hp⟩ : ∃ p, p = t.length - 1 - i := ⟨_, rfl⟩
      have hpl2 : p < t.length := by omega
      have hg : t[p]? = some t[p] := List.getElem?_eq_getElem hpl2
      have hpix : pIx (itup t) (.int (p : Int)) = some (.vis (.int t[p])) := pIx_iseq (b := true) (Int.natCast_nonneg p) (by rw [Int.toNat_natCast]; exact hg)
      refine q_asg (r := .vis (.int (p : Int))) (by walk_at "pe"; rw [hpl]; walk_at "pe"; rw [show ((t.length : Int) - 1 - (0 + (i : Int))) = (p : Int) by omega]) rfl rfl ?_
      refine s_ifD (p := t[p] < c - 1) (by walk_at "pe"; rw [hpix]; walk_at "pe") (fun hlt => ?_) fun hge => s_nil ⟨_, _, rfl, fun q y hq hy => ?_⟩
      · rw [next_pos hg hlt fun q y hpq hy => hno q y (by omega) hy]
        refine s_ret (r := .vis (itup (t.take p ++ List.replicate (t.length - p) (t[p] + 1)))) ?_ rfl rfl rfl
        rw [e2_at, e1_at, eComp_of (ds := rngD 0 (t.length - p)) (s := false) (out := (List.replicate (t.length - p) (t[p] + 1)).map .int)]
        · unfold itup
          walk_at "pe"
          rw [cutD_to, ← List.map_take, pAdd_tup (by rw [List.length_map, List.length_map, List.length_take, List.length_replicate]; exact lim_of (by omega)), List.map_append]
        · rw [rng1 (n := ((t.length - p : Nat) : Int)) (by walk_at "pe"; rw [hpl]; walk_at "pe"; rw [show ((t.length : Int) - (p : Int)) = ((t.length - p : Nat) : Int) by omega]) (by omega), Int.toNat_natCast]
        · rw [rngD_len]
          exact lim_of (by omega)
        · refine compL_ix (by rw [rngD_len, List.length_map, List.length_replicate]) fun j d o h1 h2 => ?_
          obtain ⟨hj, rfl⟩ := rngD_at h1
          rw [List.getElem?_map, List.getElem?_replicate, if_pos hj] at h2
          cases h2
          rw [compG_at]
          walk_at "pe"
          rw [hpix]
          walk_at "pe"
      · by_cases e : q = p
        · subst e
          rw [hg] at hy
          cases hy
          omega
        · exact hno q y (by omega) hy
    · rintro env ⟨z2, z3, rfl, hno⟩
      rw [next_none fun y hy => by
        obtain ⟨j, hj⟩ := List.mem_iff_getElem?.mp hy
        exact hno j y (by omega) hj]
      exact s_ret (r := .vis .non) (by walk_at "pe") rfl rfl rfl
theorem nextc_at {t : List Int} {c : Int} (h : t.length ≤ 100) : F_next_choice [itup t, .int c] = some (tD (nextT c t)) := by
  simp only [F_next_choice]
  rw [toIs_itup, if_pos ⟨rfl, h⟩]
theorem len_first_choice : ∀ (ds : List Dt) (r : Dt), F_first_choice ds = some r → ds.length = 2 := by
  intro ds r h
  match ds, h with
  | [_, .int _], _ => rfl
theorem tD_nn (o : Option (List Int)) : (tD o).isNon = o.isNone := by cases o <;> rfl
theorem pLen_row {b : Bool} {m : List (List Int)} {c : Nat} (ok : Ok72 m c) : ∃ r, pIx (imatS b m) (.int 0) = some (.vis (iseq b r)) ∧ r.length = c := by
  have hp := ok.pos
  have hg : m[0]? = some m[0] := List.getElem?_eq_getElem hp
  exact ⟨m[0], pIx_imatS (by decide) hg, (ok.bits _ (List.mem_of_getElem? hg)).1⟩
theorem k_first_choice : Keeps 4 w_first_choice F_first_choice := by
  intro ds r h
  match ds, h with
  | [f, .int s], h =>
    simp only [F_first_choice] at h
    split at h
    case isFalse => cases h
    rename_i hk
    obtain ⟨⟨b, hf⟩, ok, s0, s1⟩ := hk
    cases h
    generalize f.toM = m at *
    subst hf
    obtain ⟨n, rfl⟩ : ∃ n : Nat, s = ((n + 1 : Nat) : Int) := ⟨s.toNat - 1, by omega⟩
    rw [show (((n + 1 : Nat) : Int)).toNat - 1 = n by omega]
    obtain ⟨hch, hall⟩ := all_ok (c := colsN m) n
    have hhead := all_head ok.c0 n
    obtain ⟨r0, hr0, hrl⟩ := pLen_row (b := b) ok
    unfold firstT
    generalize hL : allT (colsN m) n = L at *
    show w_first_choice _ [.val (imatS b m), .val (.int ((n + 1 : Nat) : Int)), .non, .non]
    refine q_asg (r := .vis (tD (L[0]?))) ?_ rfl rfl ?_
    · rw [e1_at, comp_consts (n := n + 1) rfl (by omega), hhead]
      rfl
    refine q_while (fun k e => ∃ i, k = L.length - i ∧ i ≤ L.length ∧ e = [.val (imatS b m), .val (.int ((n + 1 : Nat) : Int)), .val (tD (L[i]?)), .non] ∧ ∀ (j : Nat) (y : List Int), j < i → L[j]? = some y → okT m y = false) L.length ⟨0, by omega, Nat.zero_le _, rfl, fun j y hj => absurd hj (Nat.not_lt_zero j)⟩ ?_
    rintro k env ⟨i, rfl, hi, rfl, hno⟩
    refine ⟨!(tD (L[i]?)).isNon, by walk_at "pe", fun hc => ?_, fun hc => ?_⟩
    · rw [tD_nn] at hc
      cases hg : L[i]? with
      | none => rw [hg] at hc; cases hc
      | some t =>
        have hil := (List.getElem?_eq_some_iff.mp hg).1
        have hmem := List.mem_of_getElem? hg
        obtain ⟨a1, a2, a3, a4⟩ := hall t hmem
        have okt : OkT (colsN m) t := ⟨by omega, a2⟩
        obtain ⟨d, hd, hdn, hds⟩ := fault_at (b := b) ok okt
        show (wSeq _ _) _ [.val (imatS b m), .val (.int ((n + 1 : Nat) : Int)), .val (itup t), .non]
        refine q_if (c := okT m t) ?_ (fun e => ?_) fun e => s_nil ?_
        · walk_at "pe"
          rw [hd]
          walk_at "pe"
          rw [hdn]
        · have hfd : L.find? (okT m) = some t := find_at hg e hno
          rw [hfd]
          exact s_ret (r := .vis (itup t)) (by walk_at "pe") rfl rfl rfl
        · refine s_asg (r := .vis (tD (L[i + 1]?))) ?_ rfl rfl ⟨L.length - (i + 1), by omega, i + 1, rfl, hil, rfl, fun j y hj hy => ?_⟩
          · walk_at "pe"
            rw [hr0]
            walk_at "pe"
            rw [pLen_iseq, hrl]
            walk_at "pe"
            rw [nextc_at (by omega), chn_get hch hg]
            walk_at "pe"
          · rcases Nat.lt_succ_iff_lt_or_eq.mp hj with h | h
            · exact hno j y h hy
            · subst h
              rw [hg] at hy
              cases hy
              exact e
    · rw [tD_nn] at hc
      have hn : L[i]? = none := by
        cases hg : L[i]? with
        | none => rfl
        | some t => rw [hg] at hc; cases hc
      have hil : L.length ≤ i := List.getElem?_eq_none_iff.mp hn
      have hfd : L.find? (okT m) = none := find_not fun j y hy => hno j y (by have := (List.getElem?_eq_some_iff.mp hy).1; omega) hy
      rw [hfd]
      exact s_ret (r := .vis .non) (by walk_at "pe") rfl rfl rfl
theorem firstc_at {b : Bool} {m : List (List Int)} {n : Nat} (ok : Ok72 m (colsN m)) (h : n ≤ 8) : F_first_choice [imatS b m, .int ((n + 1 : Nat) : Int)] = some (tD (firstT m n)) := by
  simp only [F_first_choice]
  rw [toM_imatS, if_pos ⟨⟨b, rfl⟩, ok, by omega, by omega⟩]
  rfl
theorem len_fewest_rows : ∀ (ds : List Dt) (r : Dt), F_fewest_rows ds = some r → ds.length = 2 := by
  intro ds r h
  match ds, h with
  | [_, .int _], _ => rfl
theorem some_at {α β : Type} {g : α → Option β} : ∀ {l : List α} {i : Nat} {x : α} {y : β}, l[i]? = some x → g x = some y → (∀ (j : Nat) (z : α), j < i → l[j]? = some z → g z = none) → l.findSome? g = some y
  | [], i, x, y, h, _, _ => by simp at h
  | a :: l, 0, x, y, h, hp, _ => by
    cases h
    rw [List.findSome?_cons, hp]
  | a :: l, i + 1, x, y, h, hp, hn => by
    rw [List.findSome?_cons, hn 0 a (Nat.succ_pos i) rfl]
    exact some_at (i := i) h hp fun j z hj hz => hn (j + 1) z (Nat.succ_lt_succ hj) hz
theorem some_not {α β : Type} {g : α → Option β} : ∀ {l : List α}, (∀ (j : Nat) (z : α), l[j]? = some z → g z = none) → l.findSome? g = none
  | [], _ => rfl
  | a :: l, h => by
    rw [List.findSome?_cons, h 0 a rfl]
    exact some_not fun j z hz => h (j + 1) z hz
theorem k_fewest_rows : Keeps 4 w_fewest_rows F_fewest_rows := by
  intro ds r h
  match ds, h with
  | [f, .int k], h =>
    simp only [F_fewest_rows] at h
    split at h
    case isFalse => cases h
    rename_i hk
    obtain ⟨⟨b, hf⟩, ok, k0, k1⟩ := hk
    cases h
    generalize f.toM = m at *
    subst hf
    obtain ⟨k, rfl⟩ : ∃ n : Nat, k = n := ⟨k.toNat, by omega⟩
    rw [Int.toNat_natCast]
    have hst : stepN 1 ((k : Int) + 1) 2 = (k + 1) / 2 := by
      unfold stepN
      rw [if_pos (by decide)]
      split <;> omega
    show w_fewest_rows _ [.val (imatS b m), .val (.int k), .non, .non]
    refine q_forStep (lo := 1) (c := 2) (n := (k + 1) / 2) (fun i e => ∃ z2 z3, e = [.val (imatS b m), .val (.int k), z2, z3] ∧ ∀ (j z : Nat), j < i → (List.range ((k + 1) / 2))[j]? = some z → firstT m (2 * z) = none) (rng3 (i := 1) (j := (k : Int) + 1) (k := 2) rfl (by walk_at "pe") rfl hst (by omega)) ⟨_, _, rfl, fun j z hj => absurd hj (Nat.not_lt_zero j)⟩ ?_ ?_
    · rintro i env hi ⟨z2, z3, rfl, hno⟩
      refine ⟨_, by walk_at "pe"; rfl, ?_⟩
      have e1 : (1 : Int) + (i : Int) * 2 = ((2 * i + 1 : Nat) : Int) := by omega
      rw [e1]
      refine q_asg (r := .vis (tD (firstT m (2 * i)))) (by walk_at "pe"; rw [firstc_at ok (by omega)]; walk_at "pe") rfl rfl ?_
      refine s_if (c := !(tD (firstT m (2 * i))).isNon) (by walk_at "pe") (fun e => ?_) fun e => s_nil ⟨_, _, rfl, fun j z hj hz => ?_⟩
      · rw [tD_nn] at e
        cases hg : firstT m (2 * i) with
        | none => rw [hg] at e; cases e
        | some t =>
          have hfs : fewT m ((k + 1) / 2) = some t := some_at (List.getElem?_range hi) hg fun j z hj hz => hno j z hj hz
          rw [hfs]
          exact s_ret (r := .vis (itup t)) (by walk_at "pe"; rfl) rfl rfl rfl
      · rw [tD_nn] at e
        rcases Nat.lt_succ_iff_lt_or_eq.mp hj with h | h
        · exact hno j z h hz
        · subst h
          rw [List.getElem?_range hi] at hz
          cases hz
          cases hg : firstT m (2 * j) with
          | none => rfl
          | some t => rw [hg] at e; cases e
    · rintro env ⟨z2, z3, rfl, hno⟩
      have hfs : fewT m ((k + 1) / 2) = none := some_not fun j z hz => hno j z (by have := (List.getElem?_eq_some_iff.mp hz).1; rw [List.length_range] at this; exact this) hz
      rw [hfs]
      exact s_ret (r := .vis .non) (by walk_at "pe") rfl rfl rfl
theorem few_at {b : Bool} {m : List (List Int)} {k : Int} (ok : Ok72 m (colsN m)) (h0 : 1 ≤ k) (h : k ≤ 9) : F_fewest_rows [imatS b m, .int k] = some (tD (fewT m ((k.toNat + 1) / 2))) := by
  simp only [F_fewest_rows]
  rw [toM_imatS, if_pos ⟨⟨b, rfl⟩, ok, h0, h⟩]
theorem len__law_whole : ∀ (ds : List Dt) (r : Dt), F__law_whole ds = some r → ds.length = 1 := by
  intro ds r h
  match ds, h with
  | [f], _ => rfl
theorem k__law_whole : Keeps 1 w__law_whole F__law_whole := k_whole
theorem len__law_cell : ∀ (ds : List Dt) (r : Dt), F__law_cell ds = some r → ds.length = 2 := by
  intro ds r h
  match ds, h with
  | [.lst _, .int _], _ => rfl
theorem k__law_cell : Keeps 4 w__law_cell F__law_cell := k_cell
theorem len__law_digits : ∀ (ds : List Dt) (r : Dt), F__law_digits ds = some r → ds.length = 2 := by
  intro ds r h
  match ds, h with
  | [.int _, .lst _], _ => rfl
theorem k__law_digits : Keeps 8 w__law_digits F__law_digits := k_digits
theorem len__law_first : ∀ (ds : List Dt) (r : Dt), F__law_first ds = some r → ds.length = 1 := by
  intro ds r h
  match ds, h with
  | [_], _ => rfl
theorem maxZ_max {ns : List Int} (h : ns ≠ []) : pMaxL (ilst ns) = some (.vis (.int (maxZ ns))) := by
  match ns, h with
  | n :: ns, _ =>
    show (intsOf ((n :: ns).map .int)).bind _ = _
    rw [intsOf_ints]
    rfl
theorem foldm (ns : List Int) : ∀ n : Int, (ns.foldl (fun m x => if x > m then x else m) n) ∈ n :: ns ∧ ∀ y ∈ n :: ns, y ≤ ns.foldl (fun m x => if x > m then x else m) n := by
  induction ns with
  | nil => exact fun n => ⟨List.mem_cons_self, fun y hy => by rw [List.mem_singleton.mp hy]; exact Int.le_refl _⟩
  | cons a ns ih =>
    intro n
    obtain ⟨h1, h2⟩ := ih (if a > n then a else n)
    rw [List.foldl_cons]
    refine ⟨?_, fun y hy => ?_⟩
    · rcases List.mem_cons.mp h1 with e | e
      · rw [e]
        split
        · exact List.mem_cons_of_mem _ List.mem_cons_self
        · exact List.mem_cons_self
      · exact List.mem_cons_of_mem _ (List.mem_cons_of_mem _ e)
    · have h0 := h2 _ List.mem_cons_self
      rcases List.mem_cons.mp hy with e | e
      · subst e
        exact Int.le_trans (show y ≤ if a > y then a else y by split <;> omega) h0
      · rcases List.mem_cons.mp e with e | e
        · subst e
          exact Int.le_trans (show y ≤ if y > n then y else n by split <;> omega) h0
        · exact h2 y (List.mem_cons_of_mem _ e)
theorem maxZ_is {ns : List Int} (h : ns ≠ []) : maxZ ns ∈ ns ∧ ∀ y ∈ ns, y ≤ maxZ ns := by
  match ns, h with
  | n :: ns, _ => exact foldm ns n
theorem k__law_first : Keeps 2 w__law_first F__law_first := by
  intro ds r h
  match ds, h with
  | [es], h =>
    simp only [F__law_first] at h
    split at h
    case isFalse => cases h
    rename_i hk
    obtain ⟨he, hok⟩ := hk
    cases h
    generalize toE es = E at *
    subst he
    show w__law_first _ [.val (.lst (E.map pairD)), .non]
    refine q_forMap (u := pairD) (xs := E) (fun i e => ∃ z, e = [.val (.lst (E.map pairD)), z] ∧ ∀ (j : Nat) (y : List Int × List Int), j < i → E[j]? = some y → decide (2 * maxZ y.2 ≤ (y.1.length : Int)) = false) (by walk_at "pe") ⟨_, rfl, fun j y hj => absurd hj (Nat.not_lt_zero j)⟩ ?_ ?_
    · rintro i env ⟨t, ss⟩ hx ⟨z, rfl, hno⟩
      refine ⟨_, by walk_at "pe"; rfl, ?_⟩
      obtain ⟨hne, hb⟩ := hok _ (List.mem_of_getElem? hx)
      have hm := maxZ_is hne
      have hmb := hb _ hm.1
      have h0 : pIx (pairD (t, ss)) (.int 0) = some (.vis (ilst t)) := rfl
      have h1 : pIx (pairD (t, ss)) (.int 1) = some (.vis (ilst ss)) := rfl
      simp only at hne hmb hm
      refine s_ifD (p := 2 * maxZ ss ≤ (t.length : Int)) ?_ (fun hlt => ?_) fun hge => s_nil ⟨_, rfl, fun j y hj hy => ?_⟩
      · walk_at "pe"
        rw [h0, h1]
        walk_at "pe"
        rw [maxZ_max hne, show pLen (ilst t) = _ from pLen_iseq false t]
        walk_at "pe"
        rw [pMul_int (big64 (by decide) (by decide)) (big64 (by omega) (by omega))]
        walk_at "pe"
      · have hf := find_at (p := fun e : List Int × List Int => decide (2 * maxZ e.2 ≤ (e.1.length : Int))) hx (decide_eq_true hlt) hno
        rw [hf]
        exact s_ret (r := .vis (ilst t)) (by walk_at "pe"; rw [h0]) rfl rfl rfl
      · rcases Nat.lt_succ_iff_lt_or_eq.mp hj with h | h
        · exact hno j y h hy
        · subst h
          rw [hx] at hy
          cases hy
          exact decide_eq_false hge
    · rintro env ⟨z, rfl, hno⟩
      have hf : E.find? (fun e : List Int × List Int => decide (2 * maxZ e.2 ≤ (e.1.length : Int))) = none := find_not fun j y hy => hno j y (List.getElem?_eq_some_iff.mp hy).1 hy
      rw [hf]
      exact s_ret (r := .vis .non) (by walk_at "pe") rfl rfl rfl
/-! the drawn rows -/
theorem len__law_drawn_rows : ∀ (ds : List Dt) (r : Dt), F__law_drawn_rows ds = some r → ds.length = 2 := by
  intro ds r h
  match ds, h with
  | [_, .int _], _ => rfl
theorem getD_some {l : List Int} {i : Nat} (h : i < l.length) : l[i]? = some (l.getD i 0) := by
  rw [List.getD_eq_getElem?_getD, List.getElem?_eq_getElem h]
  rfl
theorem k__law_drawn_rows : Keeps 6 w__law_drawn_rows F__law_drawn_rows := by
  intro ds r h
  match ds, h with
  | [w, .int n], h =>
    simp only [F__law_drawn_rows] at h
    split at h
    case isFalse => cases h
    rename_i hk
    obtain ⟨hw, n0, n1, hlen⟩ := hk
    cases h
    generalize w.toIs = ds at *
    subst hw
    obtain ⟨n, rfl⟩ : ∃ k : Nat, n = k := ⟨n.toNat, by omega⟩
    rw [Int.toNat_natCast]
    generalize hfin : takeM n ds ((List.range n).map fun k : Nat => (k : Int)) = fin
    show w__law_drawn_rows _ [.val (ilst ds), .val (.int n), .non, .non, .non, .non]
    refine q_asg (r := .fre (.lst (((List.range n).map fun k : Nat => (k : Int)).map .int))) ?_ rfl rfl ?_
    · refine eComp_of (ds := rngD 0 n) (s := false) (rng1 (n := (n : Int)) rfl (by omega)) (by rw [rngD_len]; exact lim_of (by omega)) (compL_ix (by rw [rngD_len, List.length_map, List.length_map, List.length_range]) fun j d o h1 h2 => ?_)
      obtain ⟨hj, rfl⟩ := rngD_at h1
      rw [List.getElem?_map, List.getElem?_map, List.getElem?_range hj] at h2
      cases h2
      rw [compG_at]
      walk_at "pe"
      rw [Int.zero_add]
    refine q_frz rfl rfl ?_
    refine q_asg (r := .fre (.lst [])) (by walk_at "pe") rfl rfl ?_
    refine q_forRng (lo := 0) (n := n) (fun i e => ∃ (acc rest : List Int) (s z4 z5 : Slot), (s = .val (ilst rest) ∨ s = .own (.lst (rest.map .int))) ∧ e = [.val (ilst ds), .val (.int n), s, .own (.lst (acc.map .int)), z4, z5] ∧ acc.length = i ∧ rest.length = n - i ∧ acc ++ takeM (n - i) (ds.drop i) rest = fin)
      (by rw [rng1 (n := (n : Int)) rfl (by omega), Int.toNat_natCast]) ⟨[], (List.range n).map fun k : Nat => (k : Int), _, _, _, Or.inl rfl, rfl, rfl, by rw [List.length_map, List.length_range]; rfl, by rw [List.nil_append, List.drop_zero, Nat.sub_zero]; exact hfin⟩ ?_ ?_
    · rintro i env hi ⟨acc, rest, s, z4, z5, hs, rfl, hacc, hrest, hf⟩
      have hil : i < ds.length := by omega
      have hg : ds[i]? = some (ds.getD i 0) := getD_some hil
      generalize ds.getD i 0 = d at *
      have hrp : (0 : Int) < rest.length := by omega
      obtain ⟨a, ha, ha2⟩ : ∃ a : Nat, d % (rest.length : Int) = (a : Int) ∧ a < rest.length := by
        have h1 := Int.emod_nonneg d (show (rest.length : Int) ≠ 0 by omega)
        have h2 := Int.emod_lt_of_pos d hrp
        exact ⟨(d % (rest.length : Int)).toNat, by omega, by omega⟩
      have hra := getD_some ha2
      have hpd : pIx (ilst ds) (.int (i : Int)) = some (.vis (.int d)) := pIx_iseq (b := false) (Int.natCast_nonneg i) (by rw [Int.toNat_natCast]; exact hg)
      have hpa : pIx (.lst (rest.map .int)) (.int (a : Int)) = some (.vis (.int (rest.getD a 0))) := pIx_iseq (b := false) (Int.natCast_nonneg a) (by rw [Int.toNat_natCast]; exact hra)
      refine ⟨_, by walk_at "pe"; rfl, ?_⟩
      have ev : ∀ (x3 x4 x5 : Slot), ∃ rr : R, eVar 2 [.val (ilst ds), .val (.int n), s, x3, x4, x5] = some rr ∧ rr.dt = .lst (rest.map .int) := fun x3 x4 x5 => by
        rcases hs with rfl | rfl
        · exact ⟨_, rfl, rfl⟩
        · exact ⟨_, rfl, rfl⟩
      show (wSeq _ _) _ [.val (ilst ds), .val (.int n), s, .own (.lst (acc.map .int)), .val (.int (0 + (i : Int))), z5]
      refine q_asg (r := .vis (.int (a : Int))) ?_ rfl rfl ?_
      · obtain ⟨rr, e1, e2⟩ := ev (.own (.lst (acc.map .int))) (.val (.int (0 + (i : Int)))) z5
        rw [e2_at, e1_at, e1_at, e1, Option.bind_some, e2]
        walk_at "pe"
        rw [Int.zero_add, hpd]
        walk_at "pe"
        rw [List.length_map, pMod_int hrp, ha]
      show (wSeq _ _) _ [.val (ilst ds), .val (.int n), s, .own (.lst (acc.map .int)), .val (.int (0 + (i : Int))), .val (.int (a : Int))]
      refine q_app (d := .int (rest.getD a 0)) rfl (r := .vis (.int (rest.getD a 0))) ?_ rfl (by rw [List.length_map]; exact lim_lt (by omega)) rfl rfl ?_
      · obtain ⟨rr, e1, e2⟩ := ev (.own (.lst (acc.map .int))) (.val (.int (0 + (i : Int)))) (.val (.int (a : Int)))
        rw [e2_at, e1, Option.bind_some, e2]
        walk_at "pe"
        exact hpa
      show (wAsg _ _) _ [.val (ilst ds), .val (.int n), s, .own (.lst (acc.map .int ++ [.int (rest.getD a 0)])), .val (.int (0 + (i : Int))), .val (.int (a : Int))]
      refine s_asg (r := .fre (.lst ((rest.take a ++ rest.drop (a + 1)).map .int))) ?_ rfl rfl ⟨acc ++ [rest.getD a 0], rest.take a ++ rest.drop (a + 1), .own (.lst ((rest.take a ++ rest.drop (a + 1)).map .int)), .val (.int (0 + (i : Int))), .val (.int (a : Int)), Or.inr rfl, ?_, by rw [List.length_append, hacc]; rfl, by rw [List.length_append, List.length_take, List.length_drop]; omega, ?_⟩
      · obtain ⟨rr, e1, e2⟩ := ev (.own (.lst (acc.map .int ++ [.int (rest.getD a 0)]))) (.val (.int (0 + (i : Int)))) (.val (.int (a : Int)))
        rw [e2_at, eSlice_at, eSlice_at, e1, Option.bind_some, Option.bind_some, e2]
        walk_at "pe"
        rw [cutD_to, show ((a : Int) + 1) = ((a + 1 : Nat) : Int) by omega, cutD_from, pAdd_lst (by rw [List.length_take, List.length_drop, List.length_map]; exact lim_of (by omega)), List.map_append, List.map_take, List.map_drop]
      · rw [List.map_append (l₁ := acc)]
        rfl
      · obtain ⟨k, hk⟩ : ∃ k, n - i = k + 1 := ⟨n - i - 1, by omega⟩
        have hk2 : n - (i + 1) = k := by omega
        rw [hk, drop_cons_get hg] at hf
        unfold takeM at hf
        rw [ha, Int.toNat_natCast] at hf
        rw [hk2, List.append_assoc]
        exact hf
    · rintro env ⟨acc, rest, s, z4, z5, hs, rfl, hacc, hrest, hf⟩
      rw [Nat.sub_self] at hf
      have e : acc = fin := by
        rw [← hf]
        unfold takeM
        exact (List.append_nil _).symm
      subst e
      exact q_frz rfl rfl (s_ret (r := .vis (ilst acc)) (by walk_at "pe"; rfl) rfl rfl rfl)
theorem takeM_ok : ∀ {n : Nat} {ds rest : List Int}, n ≤ ds.length → rest.length = n → (takeM n ds rest).length = n ∧ ∀ x ∈ takeM n ds rest, x ∈ rest
  | 0, ds, rest, _, _ => by
    unfold takeM
    exact ⟨rfl, fun x hx => by cases hx⟩
  | n + 1, [], rest, h, _ => absurd h (by simp)
  | n + 1, d :: ds, rest, h, hr => by
    have hrp : (0 : Int) < rest.length := by omega
    have h1 := Int.emod_nonneg d (show (rest.length : Int) ≠ 0 by omega)
    have h2 := Int.emod_lt_of_pos d hrp
    have ha : (d % (rest.length : Int)).toNat < rest.length := by omega
    unfold takeM
    generalize (d % (rest.length : Int)).toNat = a at *
    obtain ⟨i1, i2⟩ := takeM_ok (n := n) (ds := ds) (rest := rest.take a ++ rest.drop (a + 1)) (by simpa using h) (by rw [List.length_append, List.length_take, List.length_drop]; omega)
    refine ⟨by rw [List.length_cons, i1], fun x hx => ?_⟩
    rcases List.mem_cons.mp hx with e | e
    · rw [e]
      exact List.mem_of_getElem? (getD_some ha)
    · rcases List.mem_append.mp (i2 x e) with h | h
      · exact List.mem_of_mem_take h
      · exact List.mem_of_mem_drop h
/-! the faults of one input -/
theorem tabD {l : List Int} {d : Int} (h0 : 0 ≤ d) (h : d < l.length) : atL (l.map Dt.int) d = some (.int (l.getD d.toNat 0)) := by
  refine atL_of_get h0 ?_
  rw [List.getElem?_map, getD_some (by omega)]
  rfl
theorem putB_succ (b d : List Int) (g : Nat → Int) (n : Nat) : putB b d g (n + 1) = (putB b d g n).set (d.getD n 0).toNat (g n) := by
  unfold putB
  rw [List.range_succ, List.foldl_append]
  rfl
theorem putB_len (b d : List Int) (g : Nat → Int) : ∀ n, (putB b d g n).length = b.length
  | 0 => rfl
  | n + 1 => by rw [putB_succ, List.length_set, putB_len b d g n]
theorem putB_all {P : Int → Prop} {b d : List Int} {g : Nat → Int} (hb : ∀ x ∈ b, P x) (hg : ∀ n, P (g n)) : ∀ n, ∀ x ∈ putB b d g n, P x
  | 0 => hb
  | n + 1 => by
    rw [putB_succ]
    intro x hx
    rcases List.mem_or_eq_of_mem_set hx with h | h
    · exact putB_all hb hg n x h
    · rw [h]; exact hg n
theorem s_put {env env' : Sl} {D : En} {fa fb : EF} {i : Nat} {b : List Int} {v j : Int} (h0 : env[i]? = some (.own (.lst (b.map .int)))) (h : fa env = some (.vis (.int v))) (hk : fb env = some (.vis (.int j))) (j0 : 0 ≤ j) (j1 : j < b.length) (he : env.set i (.own (.lst ((b.set j.toNat v).map .int))) = env') (k : D.nx env') : wPut i fb fa D env := by
  refine ⟨b.map .int, .vis (.int v), j, h0, h, rfl, hk, by rw [List.length_map]; omega, by rw [List.length_map]; exact j1, ?_⟩
  rw [if_pos j0]
  have e : (b.map Dt.int).set j.toNat (R.vis (.int v)).dt = (b.set j.toNat v).map .int := by
    rw [List.map_set]
    rfl
  rw [e, he]
  exact k
theorem len__law_input_bits : ∀ (ds : List Dt) (r : Dt), F__law_input_bits ds = some r → ds.length = 4 := by
  intro ds r h
  match ds, h with
  | [.int _, .int _, .int _, _], _ => rfl
theorem bit01 (p : Prop) [Decidable p] : 0 ≤ (if p then (1 : Int) else 0) ∧ (if p then (1 : Int) else 0) ≤ 1 := by split <;> decide
theorem bits_ok {cell i style : Int} {d : List Int} : (bits2 cell i style d).length = d.length ∧ ∀ x ∈ bits2 cell i style d, 0 ≤ x ∧ x ≤ 1 := by
  have h0 : (bits0 cell style d.length).length = d.length ∧ ∀ x ∈ bits0 cell style d.length, 0 ≤ x ∧ x ≤ 1 := by
    unfold bits0
    refine ⟨by rw [List.length_map, List.length_drop, digitsM_len, List.length_cons, List.length_cons, List.length_cons, List.length_replicate]; omega, fun x hx => ?_⟩
    obtain ⟨y, _, rfl⟩ := List.mem_map.mp hx
    exact bit01 _
  have h1 : (bits1 cell i style d).length = d.length ∧ ∀ x ∈ bits1 cell i style d, 0 ≤ x ∧ x ≤ 1 := by
    unfold bits1
    simp only
    split
    · exact ⟨by rw [putB_len]; exact h0.1, putB_all h0.2 (fun n => bit01 _) _⟩
    · exact h0
  unfold bits2
  simp only
  split
  · exact ⟨by rw [putB_len]; exact h1.1, putB_all h1.2 (fun n => bit01 _) _⟩
  · exact h1
theorem k__law_input_bits : Keeps 13 w__law_input_bits F__law_input_bits := by
  intro ds r h
  match ds, h with
  | [.int cell, .int i, .int style, w], h =>
    simp only [F__law_input_bits] at h
    split at h
    case isFalse => cases h
    rename_i hk
    obtain ⟨hw, hi0, hlen, hd⟩ := hk
    cases h
    generalize w.toIs = d at *
    subst hw
    generalize hn : d.length = n at *
    have hok : sizeOk (6 :: 10 :: 3 :: List.replicate n 60) := by
      refine ⟨fun s hs => ?_, by simp; omega⟩
      simp only [List.mem_cons, List.mem_replicate] at hs
      omega
    have hrl : (digitsM cell (6 :: 10 :: 3 :: List.replicate n 60)).length = n + 3 := by rw [digitsM_len, List.length_cons, List.length_cons, List.length_cons, List.length_replicate]
    have hp := fun s hs => (hok.1 s hs).1
    have g0 := fun d0 h => digitsM_get (c := cell) (i := 0) (s := 6) (d := d0) hp rfl h
    have g1 := fun d0 h => digitsM_get (c := cell) (i := 1) (s := 10) (d := d0) hp rfl h
    have hdig := F_digits_at (c := cell) hok
    have hb0 : (bits0 cell style n).length = n := by
      unfold bits0
      rw [List.length_map, List.length_drop, hrl]
      omega
    have hb0e : bits0 cell style n = ((digitsM cell (6 :: 10 :: 3 :: List.replicate n 60)).drop 3).map fun x => if (if 2 < style ∧ style < 7 then 12 else [42, 36, 30, 48, 24, 15].getD ((digitsM cell (6 :: 10 :: 3 :: List.replicate n 60)).getD 0 0).toNat 0) ≤ x then (1 : Int) else 0 := rfl
    have hb1e : bits1 cell i style d = if style = 3 ∨ style = 4 then putB (bits0 cell style d.length) d (fun k => if (k : Int) = (if i < 3 then i else (digitsM cell (6 :: 10 :: 3 :: List.replicate d.length 60)).getD 2 0) then 1 else 0) (min 3 d.length) else bits0 cell style d.length := rfl
    have hb2e : bits2 cell i style d = if style = 5 ∨ style = 6 then putB (bits1 cell i style d) d (fun k => if (k : Int) ∈ pairsM.getD (if i < 10 then i else (digitsM cell (6 :: 10 :: 3 :: List.replicate d.length 60)).getD 1 0).toNat [] then 1 else 0) (min 5 d.length) else bits1 cell i style d := rfl
    rw [hn] at hb1e hb2e
    generalize hrow : digitsM cell (6 :: 10 :: 3 :: List.replicate n 60) = row at *
    generalize hB0 : bits0 cell style n = B0 at *
    generalize hB1 : bits1 cell i style d = B1 at *
    generalize hB2 : bits2 cell i style d = B2 at *
    match row, hrl with
    | d0 :: d1 :: d2 :: rs, _ =>
    have k0 := g0 d0 rfl
    have k1 := g1 d1 rfl
    have hb1l : B1.length = n := by
      rw [hb1e]
      split
      · rw [putB_len, hb0]
      · exact hb0
    show w__law_input_bits _ [.val (.int cell), .val (.int i), .val (.int style), .val (ilst d), .non, .non, .non, .non, .non, .non, .non, .non, .non]
    refine q_asg (r := .vis (.int (n : Int))) (by walk_at "pe"; rw [show pLen (ilst d) = _ from pLen_iseq false d, hn]) rfl rfl ?_
    refine q_asg (r := .vis (ilst (d0 :: d1 :: d2 :: rs))) ?_ rfl rfl ?_
    · walk_at "pe"
      rw [comp_consts (n := n) (fa := eVar 4) rfl (by omega)]
      walk_at "pe"
      rw [pAdd_lst (by rw [List.length_map, List.length_replicate]; exact lim_of (by show 3 + n ≤ 4000000; omega))]
      walk_at "pe"
      rw [show F__law_digits [.int cell, .lst ([.int 6, .int 10, .int 3] ++ (List.replicate n 60).map Dt.int)] = _ from hdig]
      walk_at "pe"
    generalize hR : ilst (d0 :: d1 :: d2 :: rs) = R at *
    have p0 : pIx R (.int 0) = some (.vis (.int d0)) := by rw [← hR]; rfl
    have p1 : pIx R (.int 1) = some (.vis (.int d1)) := by rw [← hR]; rfl
    have p2 : pIx R (.int 2) = some (.vis (.int d2)) := by rw [← hR]; rfl
    generalize hl0 : [42, 36, 30, 48, 24, 15].getD d0.toNat (0 : Int) = l0 at *
    have htab : atL [Dt.int 42, Dt.int 36, Dt.int 30, Dt.int 48, Dt.int 24, Dt.int 15] d0 = some (.int l0) := by
      rw [← hl0]
      exact tabD (l := [42, 36, 30, 48, 24, 15]) k0.1 k0.2
    refine q_asg (r := .vis (.int l0)) (by walk_at "pe"; rw [p0]; walk_at "pe"; rw [htab]; walk_at "pe") rfl rfl ?_
    refine q_ifI (p := 2 < style ∧ style < 7) (x := 12) (y := l0) (by walk_at "pe"; by_cases h : 2 < style <;> simp [h]) (fun _ => by walk_at "pe") rfl ?_
    generalize hle : (if 2 < style ∧ style < 7 then 12 else l0) = least at *
    have hb0e2 : B0 = rs.map fun x => if least ≤ x then (1 : Int) else 0 := by
      rw [hb0e]
      show rs.map (fun x => if (if 2 < style ∧ style < 7 then 12 else [42, 36, 30, 48, 24, 15].getD d0.toNat 0) ≤ x then (1 : Int) else 0) = _
      rw [hl0, hle]
    show (wSeq _ _) _ [.val (.int cell), .val (.int i), .val (.int style), .val (ilst d), .val (.int n), .val R, .val (.int least), .non, .non, .non, .non, .non, .non]
    refine q_asg (r := .fre (.lst (B0.map .int))) ?_ rfl rfl ?_
    · rw [hb0e2]
      refine eComp_of (ds := rs.map .int) (s := false) ?_ (by rw [List.length_map]; have := congrArg List.length hb0e2; rw [hb0, List.length_map] at this; exact lim_of (by omega)) (compL_map fun x _ => ?_)
      · rw [← hR]
        unfold ilst
        walk_at "pe"
        rw [show cutD (Dt.int d0 :: Dt.int d1 :: Dt.int d2 :: rs.map Dt.int) (some 3) none = _ from cutD_from (k := 3)]
        rfl
      · rw [compG_at]
        walk_at "pe"
    have hget : ∀ k : Nat, k < n → ∃ x, pIx (ilst d) (.int (k : Int)) = some (.vis (.int x)) ∧ x = d.getD k 0 ∧ 0 ≤ x ∧ x < n := fun k hk => by
      have hg := getD_some (l := d) (i := k) (by omega)
      exact ⟨_, pIx_iseq (b := false) (Int.natCast_nonneg k) (by rw [Int.toNat_natCast]; exact hg), rfl, hd _ (List.mem_of_getElem? hg)⟩
    refine q_cut (fun e => ∃ z8 z9, e = [.val (.int cell), .val (.int i), .val (.int style), .val (ilst d), .val (.int n), .val R, .val (.int least), .own (.lst (B1.map .int)), z8, z9, .non, .non, .non]) ?_ ?_
    · refine s_ifD (p := style = 3 ∨ style = 4) (by walk_at "pe"; by_cases h : style = 3 <;> simp [h]) (fun hp => ?_) fun hp => s_nil ⟨_, _, by rw [hb1e, if_neg hp]; rfl⟩
      rw [if_pos hp] at hb1e
      refine q_asg (r := .vis (.int d2)) (by walk_at "pe"; rw [p2]) rfl rfl ?_
      refine q_ifI (p := i < 3) (x := i) (y := d2) (by walk_at "pe") (fun _ => by walk_at "pe") rfl ?_
      have hb1f : B1 = putB B0 d (fun k => if (k : Int) = (if i < 3 then i else d2) then 1 else 0) (min 3 n) := hb1e
      generalize (if i < 3 then i else d2) = wrong at *
      refine wFor_rng (lo := 0) (n := min 3 n) (fun k e => ∃ z9, e = [.val (.int cell), .val (.int i), .val (.int style), .val (ilst d), .val (.int n), .val R, .val (.int least), .own (.lst ((putB B0 d (fun k => if (k : Int) = wrong then 1 else 0) k).map .int)), .val (.int wrong), z9, .non, .non, .non]) ?_ ⟨_, rfl⟩ ?_ ?_
      · rw [rng1 (n := ((min 3 n : Nat) : Int)) (by walk_at "pe"; congr 3; split <;> omega) (by omega), Int.toNat_natCast]
      · rintro k env hk ⟨z9, rfl⟩
        refine ⟨_, by walk_at "pe"; rfl, ?_⟩
        obtain ⟨x, hx, hx2, hx0, hx1⟩ := hget k (by omega)
        refine s_put (b := putB B0 d (fun k => if (k : Int) = wrong then 1 else 0) k) (v := if (k : Int) = wrong then 1 else 0) (j := x) rfl ?_ ?_ hx0 (by rw [putB_len, hb0]; exact hx1) rfl ⟨.val (.int (0 + (k : Int))), ?_⟩
        · walk_at "pe"
          rw [Int.zero_add]
        · walk_at "pe"
          rw [Int.zero_add, hx]
        · rw [putB_succ, ← hx2]
          rfl
      · rintro env ⟨z9, rfl⟩
        exact ⟨_, _, by rw [hb1f]⟩
    rintro env ⟨z8, z9, rfl⟩
    refine q_cut (fun e => ∃ z8 z9 z10 z11, e = [.val (.int cell), .val (.int i), .val (.int style), .val (ilst d), .val (.int n), .val R, .val (.int least), .own (.lst (B2.map .int)), z8, z9, z10, z11, .non]) ?_ ?_
    · refine s_ifD (p := style = 5 ∨ style = 6) (by walk_at "pe"; by_cases h : style = 5 <;> simp [h]) (fun hp => ?_) fun hp => s_nil ⟨_, _, _, _, by rw [hb2e, if_neg hp]⟩
      rw [if_pos hp] at hb2e
      refine q_asg (r := .fre (.lst (pairsM.map ilst))) (by walk_at "pe"; rfl) rfl rfl ?_
      refine q_frz rfl rfl ?_
      show (wSeq _ _) _ [.val (.int cell), .val (.int i), .val (.int style), .val (ilst d), .val (.int n), .val R, .val (.int least), .own (.lst (B1.map .int)), z8, z9, .val (imat pairsM), .non, .non]
      have hpr : ∀ x : Int, 0 ≤ x → x < 10 → pIx (imat pairsM) (.int x) = some (.vis (ilst (pairsM.getD x.toNat []))) := fun x h0 h1 => by
        refine pIx_imatS (b := false) h0 ?_
        rw [List.getD_eq_getElem?_getD, List.getElem?_eq_getElem (by show x.toNat < 10; omega)]
        rfl
      refine q_asg (r := .vis (ilst (pairsM.getD d1.toNat []))) (by walk_at "pe"; rw [p1]; walk_at "pe"; rw [hpr d1 k1.1 k1.2]) rfl rfl ?_
      refine q_ifAsg (p := i < 10) (d := ilst (pairsM.getD d1.toNat [])) (d1 := ilst (pairsM.getD i.toNat [])) (by walk_at "pe") (fun h => by walk_at "pe"; rw [hpr i hi0 h]) (fun _ => rfl) fun dd hdd => ?_
      have hdd2 : dd = ilst (pairsM.getD (if i < 10 then i else d1).toNat []) := by
        rw [hdd]
        split <;> rfl
      subst hdd2
      have hb2f : B2 = putB B1 d (fun k => if (k : Int) ∈ pairsM.getD (if i < 10 then i else d1).toNat [] then 1 else 0) (min 5 n) := hb2e
      generalize pairsM.getD (if i < 10 then i else d1).toNat [] = pr at *
      refine wFor_rng (lo := 0) (n := min 5 n) (fun k e => ∃ z9, e = [.val (.int cell), .val (.int i), .val (.int style), .val (ilst d), .val (.int n), .val R, .val (.int least), .own (.lst ((putB B1 d (fun k => if (k : Int) ∈ pr then 1 else 0) k).map .int)), z8, z9, .val (imat pairsM), .val (ilst pr), .non]) ?_ ⟨_, rfl⟩ ?_ ?_
      · rw [rng1 (n := ((min 5 n : Nat) : Int)) (by walk_at "pe"; congr 3; split <;> omega) (by omega), Int.toNat_natCast]
      · rintro k env hk ⟨z9, rfl⟩
        refine ⟨_, by walk_at "pe"; rfl, ?_⟩
        obtain ⟨x, hx, hx2, hx0, hx1⟩ := hget k (by omega)
        refine s_put (b := putB B1 d (fun k => if (k : Int) ∈ pr then 1 else 0) k) (v := if (k : Int) ∈ pr then 1 else 0) (j := x) rfl ?_ ?_ hx0 (by rw [putB_len, hb1l]; exact hx1) rfl ⟨.val (.int (0 + (k : Int))), ?_⟩
        · walk_at "pe"
          rw [Int.zero_add, show pIn (.int (k : Int)) (ilst pr) = some (.vis (.bl (decide ((k : Int) ∈ pr)))) by
            show ((intsOf (pr.map .int)).map fun ns => decide ((k : Int) ∈ ns)).map _ = _
            rw [intsOf_ints]
            rfl]
          walk_at "pe"
        · walk_at "pe"
          rw [Int.zero_add, hx]
        · rw [putB_succ, ← hx2]
          rfl
      · rintro env ⟨z9, rfl⟩
        exact ⟨_, _, _, _, by rw [hb2f]⟩
    rintro env ⟨z8, z9, z10, z11, rfl⟩
    exact q_frz rfl rfl (s_ret (r := .vis (ilst B2)) (by walk_at "pe"; rfl) rfl rfl rfl)
theorem bits_at {cell i style : Int} {d : List Int} (h0 : 0 ≤ i) (h1 : d.length ≤ 100) (h : ∀ x ∈ d, 0 ≤ x ∧ x < (d.length : Int)) : F__law_input_bits [.int cell, .int i, .int style, ilst d] = some (ilst (bits2 cell i style d)) := by
  simp only [F__law_input_bits]
  rw [toIs_ilst, if_pos ⟨rfl, h0, h1, h⟩]
theorem drawn_at {d : List Int} {n : Nat} (h0 : n ≤ 100) (h : n ≤ d.length) : F__law_drawn_rows [ilst d, .int (n : Int)] = some (ilst (takeM n d ((List.range n).map fun k : Nat => (k : Int)))) := by
  simp only [F__law_drawn_rows]
  rw [toIs_ilst, if_pos ⟨rfl, by omega, by omega, by omega⟩, Int.toNat_natCast]
/-! wider -/
theorem len__law_wider : ∀ (ds : List Dt) (r : Dt), F__law_wider ds = some r → ds.length = 2 := by
  intro ds r h
  match ds, h with
  | [_, _], _ => rfl
theorem last_ix {t : List Int} (h : t ≠ []) : pIx (ilst t) (.int (-1)) = some (.vis (.int (lastZ t))) := by
  obtain ⟨u, k, rfl⟩ : ∃ u k, t = u ++ [k] := ⟨t.dropLast, t.getLast h, (List.dropLast_concat_getLast h).symm⟩
  rw [last_app]
  show (atL ((u ++ [k]).map Dt.int) (-1)).map R.vis = _
  rw [List.map_append]
  show (atL (u.map Dt.int ++ [.int k]) (-1)).map R.vis = _
  rw [atL_last]
  rfl
theorem pairD_0 (t ss : List Int) : pIx (pairD (t, ss)) (.int 0) = some (.vis (ilst t)) := rfl
theorem pairD_1 (t ss : List Int) : pIx (pairD (t, ss)) (.int 1) = some (.vis (ilst ss)) := rfl
theorem addZ_get {a b : List Int} {i : Nat} (ha : i < a.length) (hb : i < b.length) : (addZ a b)[i]? = some (a.getD i 0 + b.getD i 0) := by
  unfold addZ
  rw [List.getElem?_zipWith, getD_some ha, getD_some hb]
def blkE (cols : List (List Int)) (e : List Int × List Int) : List (List Int × List Int) := (rangeI (lastZ e.1) cols.length).map fun k => (e.1 ++ [k], addZ e.2 (cols.getD k.toNat []))
theorem k__law_wider : Keeps 6 w__law_wider F__law_wider := by
  intro ds r h
  match ds, h with
  | [es, cs], h =>
    simp only [F__law_wider] at h
    split at h
    case isFalse => cases h
    rename_i hk
    obtain ⟨he, hc, hl, hcl, hh, hh1, hcols, hE⟩ := hk
    cases h
    generalize toE es = E at *
    generalize cs.toM = cols at *
    subst he hc
    have hblk : ∀ e ∈ E, (blkE cols e).length = ((cols.length : Int) - lastZ e.1).toNat ∧ (blkE cols e).length ≤ 100 := fun e he => by
      obtain ⟨a1, a2, a3, a4, a5⟩ := hE e he
      unfold blkE rangeI
      rw [List.length_map, List.length_map, List.length_range]
      omega
    have hfl : ∀ i, ((E.take i).flatMap (blkE cols)).length ≤ 100 * i := fun i => by
      induction i with
      | zero => exact Nat.le_refl _
      | succ i ih =>
        rcases Nat.lt_or_ge i E.length with h | h
        · rw [List.take_add_one, List.getElem?_eq_getElem h, List.flatMap_append, List.length_append]
          have := (hblk E[i] (List.getElem_mem h)).2
          show _ + ([E[i]].flatMap (blkE cols)).length ≤ _
          rw [List.flatMap_singleton]
          omega
        · rw [List.take_of_length_le (by omega)]
          rw [List.take_of_length_le (by omega)] at ih
          omega
    have hfin : widerE cols E = E.flatMap (blkE cols) := rfl
    rw [hfin]
    show w__law_wider _ [.val (.lst (E.map pairD)), .val (imat cols), .non, .non, .non, .non]
    refine q_asg (r := .fre (.lst [])) (by walk_at "pe") rfl rfl ?_
    refine q_forMap (u := pairD) (xs := E) (fun i e => ∃ z3 z4, e = [.val (.lst (E.map pairD)), .val (imat cols), .own (.lst (((E.take i).flatMap (blkE cols)).map pairD)), z3, z4, .non]) (by walk_at "pe") ⟨_, _, rfl⟩ ?_ ?_
    · rintro i env ⟨t, ss⟩ hx ⟨z3, z4, rfl⟩
      refine ⟨_, by walk_at "pe"; rfl, ?_⟩
      obtain ⟨a1, a2, a3, a4, a5⟩ := hE _ (List.mem_of_getElem? hx)
      obtain ⟨b1, b2⟩ := hblk _ (List.mem_of_getElem? hx)
      simp only at a1 a2 a3 a4 a5 b1
      have hi := (List.getElem?_eq_some_iff.mp hx).1
      have hfi := hfl i
      have hpl : pLen (imat cols) = some (.vis (.int cols.length)) := by
        unfold imat
        rw [pLen_lst, List.length_map]
      refine wFor_rng (lo := lastZ t) (n := (blkE cols (t, ss)).length) (fun j e => ∃ z4, e = [.val (.lst (E.map pairD)), .val (imat cols), .own (.lst (((E.take i).flatMap (blkE cols) ++ (blkE cols (t, ss)).take j).map pairD)), .val (pairD (t, ss)), z4, .non]) ?_ ⟨z4, ?_⟩ ?_ ?_
      · rw [rng2 (lo := lastZ t) (hi := (cols.length : Int)) (by walk_at "pe"; rw [pairD_0]; walk_at "pe"; rw [last_ix a1]) (by walk_at "pe"; rw [hpl]), b1]
      · rw [List.take_zero, List.append_nil]
      · rintro j env hj ⟨z4, rfl⟩
        have hj1 : j < ((cols.length : Int) - lastZ t).toNat := by rw [← b1]; exact hj
        refine ⟨_, by walk_at "pe"; rfl, ?_⟩
        obtain ⟨k, hk⟩ : ∃ k : Nat, lastZ t + (j : Int) = (k : Int) := ⟨(lastZ t + (j : Int)).toNat, by omega⟩
        have hkc : k < cols.length := by omega
        have hcol : cols[k]? = some (cols.getD k []) := by
          rw [List.getD_eq_getElem?_getD, List.getElem?_eq_getElem hkc]
          rfl
        have hcm := hcols _ (List.mem_of_getElem? hcol)
        have hpc : pIx (imat cols) (.int (k : Int)) = some (.vis (ilst (cols.getD k []))) := pIx_imatS (b := false) (Int.natCast_nonneg k) (by rw [Int.toNat_natCast]; exact hcol)
        have hbg : (blkE cols (t, ss))[j]? = some (t ++ [(k : Int)], addZ ss (cols.getD k [])) := by
          unfold blkE rangeI
          rw [List.getElem?_map, List.getElem?_map, List.getElem?_range hj1]
          show some (t ++ [lastZ t + (j : Int)], addZ ss (cols.getD (lastZ t + (j : Int)).toNat [])) = _
          rw [hk, Int.toNat_natCast]
        generalize cols.getD k [] = col at *
        rw [hk]
        show (wApp _ _) _ [.val (.lst (E.map pairD)), .val (imat cols), .own (.lst (((E.take i).flatMap (blkE cols) ++ (blkE cols (t, ss)).take j).map pairD)), .val (pairD (t, ss)), .val (.int (k : Int)), .non]
        refine s_app (d := pairD (t ++ [(k : Int)], addZ ss col)) (r := .fre (.lst [ilst (t ++ [(k : Int)]), ilst (addZ ss col)])) rfl ?_ rfl (by rw [List.length_map, List.length_append, List.length_take]; exact lim_lt (by omega)) rfl rfl ⟨.val (.int (k : Int)), ?_⟩
        · rw [eLst_at, aCons_at, aCons_at, eComp_of (ds := rngD 0 hh) (s := false) (out := (addZ ss col).map .int)]
          · walk_at "pe"
            rw [pairD_0]
            unfold ilst
            walk_at "pe"
            rw [pAdd_lst (by rw [List.length_map, List.length_singleton]; exact lim_of (by omega)), List.map_append]
            walk_at "pe"
          · rw [rng1 (n := (hh : Int)) (by walk_at "pe"; rw [hpc]; walk_at "pe"; rw [show pLen (ilst col) = _ from pLen_iseq false col, hcm]) (by omega), Int.toNat_natCast]
          · rw [rngD_len]
            exact lim_of (by omega)
          · refine compL_ix (by rw [rngD_len, List.length_map]; unfold addZ; rw [List.length_zipWith]; omega) fun x d o h1 h2 => ?_
            obtain ⟨hx1, rfl⟩ := rngD_at h1
            rw [List.getElem?_map, addZ_get (by omega) (by omega)] at h2
            cases h2
            rw [compG_at]
            walk_at "pe"
            rw [Int.zero_add, pairD_1, hpc]
            walk_at "pe"
            rw [show pIx (ilst ss) (.int (x : Int)) = _ from pIx_iseq (b := false) (Int.natCast_nonneg x) (by rw [Int.toNat_natCast]; exact getD_some (by omega)), show pIx (ilst col) (.int (x : Int)) = _ from pIx_iseq (b := false) (Int.natCast_nonneg x) (by rw [Int.toNat_natCast]; exact getD_some (by omega))]
            walk_at "pe"
        · rw [List.take_add_one, hbg, ← List.append_assoc, List.map_append (l₁ := (E.take i).flatMap (blkE cols) ++ (blkE cols (t, ss)).take j)]
          rfl
      · rintro env ⟨z4, rfl⟩
        refine ⟨.val (pairD (t, ss)), z4, ?_⟩
        rw [List.take_length, List.take_add_one, hx, List.flatMap_append, show (some (t, ss)).toList = [(t, ss)] from rfl, List.flatMap_singleton]
    · rintro env ⟨z3, z4, rfl⟩
      rw [List.take_length]
      exact q_frz rfl rfl (s_ret (r := .vis (.lst ((E.flatMap (blkE cols)).map pairD))) (by walk_at "pe") rfl rfl rfl)
theorem toE_is (E : List (List Int × List Int)) : toE (.lst (E.map pairD)) = E := by
  unfold toE
  show (E.map pairD).map _ = E
  rw [List.map_map]
  have e : ((fun x : Dt => ((x.items.getD 0 .non).toIs, (x.items.getD 1 .non).toIs)) ∘ pairD) = id := funext fun p => by
    show ((ilst p.1).toIs, (ilst p.2).toIs) = p
    rw [toIs_ilst, toIs_ilst]
  rw [e]
  exact List.map_id _
def entE (m : List (List Int)) (t : List Int) : List Int × List Int := (t, m.map (sumT t))
def colM (m : List (List Int)) (c : Nat) : List (List Int) := (List.range c).map fun k => m.map fun r => r.getD k 0
theorem sumT_app (t : List Int) (k : Int) (r : List Int) : sumT (t ++ [k]) r = sumT t r + r.getD k.toNat 0 := by
  unfold sumT
  rw [List.map_append, List.sum_append]
  simp
theorem addZ_map (m : List (List Int)) (f g : List Int → Int) : addZ (m.map f) (m.map g) = m.map fun r => f r + g r := by
  unfold addZ
  induction m with
  | nil => rfl
  | cons r m ih => rw [List.map_cons, List.map_cons, List.map_cons, List.zipWith_cons_cons, ih]
theorem colM_get {m : List (List Int)} {c k : Nat} (h : k < c) : (colM m c).getD k [] = m.map fun r => r.getD k 0 := by
  unfold colM
  rw [List.getD_eq_getElem?_getD, List.getElem?_map, List.getElem?_range h]
  rfl
theorem wider_ent {m : List (List Int)} {c : Nat} : ∀ {T : List (List Int)}, (∀ t ∈ T, 0 ≤ lastZ t) → widerE (colM m c) (T.map (entE m)) = (widerL c T).map (entE m)
  | [], _ => rfl
  | t :: T, h => by
    have ih := wider_ent (m := m) (c := c) fun u hu => h u (List.mem_cons_of_mem _ hu)
    have h0 := h t List.mem_cons_self
    unfold widerE widerL at ih ⊢
    rw [List.map_cons, List.flatMap_cons, List.flatMap_cons, List.map_append, ih]
    congr 1
    have hcl : (colM m c).length = c := by
      unfold colM
      rw [List.length_map, List.length_range]
    rw [hcl, List.map_map]
    refine List.map_congr_left fun k hk => ?_
    unfold rangeI at hk
    obtain ⟨j, hj, rfl⟩ := List.mem_map.mp hk
    have hj : j < ((c : Int) - lastZ t).toNat := List.mem_range.mp hj
    show (t ++ [lastZ t + (j : Int)], addZ (m.map (sumT t)) ((colM m c).getD (lastZ t + (j : Int)).toNat [])) = (t ++ [lastZ t + (j : Int)], m.map (sumT (t ++ [lastZ t + (j : Int)])))
    rw [colM_get (by omega), addZ_map]
    congr 1
    exact List.map_congr_left fun r _ => (sumT_app t _ r).symm
theorem flat_len {α β : Type} {g : α → List β} {k : Nat} : ∀ {l : List α}, (∀ x ∈ l, (g x).length ≤ k) → (l.flatMap g).length ≤ l.length * k
  | [], _ => by simp
  | a :: l, h => by
    rw [List.flatMap_cons, List.length_append, List.length_cons, Nat.add_mul, Nat.one_mul]
    have h1 := h a List.mem_cons_self
    have h2 := flat_len (l := l) fun x hx => h x (List.mem_cons_of_mem _ hx)
    omega
theorem all_len {c : Nat} : ∀ n : Nat, (allT c n).length ≤ c ^ (n + 1)
  | 0 => by
    show ((List.range c).map _).length ≤ _
    rw [List.length_map, List.length_range]
    simp
  | n + 1 => by
    have ih := all_len (c := c) n
    have h := flat_len (k := c) (l := allT c n) (g := fun t => (rangeI (lastZ t) c).map fun k => t ++ [k]) fun t ht => by
      have := ((all_ok (c := c) n).2 t ht).2.2
      unfold rangeI
      rw [List.length_map, List.length_map, List.length_range]
      omega
    rw [Nat.pow_succ]
    exact Nat.le_trans h (Nat.mul_le_mul_right c ih)
theorem wider_at {m : List (List Int)} {n : Nat} (ok : Ok72 m (colsN m)) (hc : colsN m ≤ 12) (hn : n ≤ 3) :
    F__law_wider [.lst (((allT (colsN m) n).map (entE m)).map pairD), imat (colM m (colsN m))] = some (.lst (((allT (colsN m) (n + 1)).map (entE m)).map pairD)) := by
  have hall := (all_ok (c := colsN m) n).2
  have hcl : (colM m (colsN m)).length = colsN m := by
    unfold colM
    rw [List.length_map, List.length_range]
  simp only [F__law_wider]
  rw [toE_is, toM_imat, if_pos]
  · rw [wider_ent fun t ht => (hall t ht).2.2.1]
    rfl
  · refine ⟨rfl, rfl, ?_, by rw [hcl]; omega, m.length, ok.few, fun r hr => ?_, fun e he => ?_⟩
    · rw [List.length_map]
      have h1 := all_len (c := colsN m) n
      have h2 : colsN m ^ (n + 1) ≤ 12 ^ (n + 1) := Nat.pow_le_pow_left hc _
      have h3 : 12 ^ (n + 1) ≤ 12 ^ 4 := Nat.pow_le_pow_right (by decide) (by omega)
      have h4 : 12 ^ 4 ≤ 30000 := by decide
      omega
    · obtain ⟨k, _, rfl⟩ := List.mem_map.mp hr
      rw [List.length_map]
    · obtain ⟨t, ht, rfl⟩ := List.mem_map.mp he
      obtain ⟨a1, a2, a3, a4⟩ := hall t ht
      exact ⟨fun e => (by have e : t = [] := e; subst e; cases a1), (by show t.length ≤ 100; omega), a3, by rw [hcl]; exact a4, by show (m.map (sumT t)).length = _; rw [List.length_map]⟩
theorem okT_max {m : List (List Int)} {t : List Int} (hm : 0 < m.length) : okT m t = decide (2 * maxZ (m.map (sumT t)) ≤ (t.length : Int)) := by
  have hne : m.map (sumT t) ≠ [] := fun e => by
    have := congrArg List.length e
    rw [List.length_map] at this
    simp at this
    subst this
    cases hm
  obtain ⟨h1, h2⟩ := maxZ_is hne
  rw [Bool.eq_iff_iff, decide_eq_true_iff]
  unfold okT
  rw [Option.isNone_iff_eq_none, List.find?_eq_none]
  constructor
  · intro h
    obtain ⟨r, hr, e⟩ := List.mem_map.mp h1
    obtain ⟨i, hi⟩ := List.mem_iff_getElem?.mp hr
    have hb := h i (List.mem_range.mpr (List.getElem?_eq_some_iff.mp hi).1)
    unfold badI at hb
    rw [List.getD_eq_getElem?_getD, hi] at hb
    simp only [Option.getD_some, decide_eq_true_eq] at hb
    omega
  · intro h i hi
    have hi := List.mem_range.mp hi
    unfold badI
    rw [List.getD_eq_getElem?_getD, List.getElem?_eq_getElem hi]
    simp only [Option.getD_some, decide_eq_true_eq]
    have := h2 (sumT t m[i]) (List.mem_map.mpr ⟨_, List.getElem_mem hi, rfl⟩)
    omega
theorem find_map {α β : Type} {p : β → Bool} {g : α → β} : ∀ l : List α, (l.map g).find? p = (l.find? fun x => p (g x)).map g
  | [] => rfl
  | a :: l => by
    rw [List.map_cons, List.find?_cons, List.find?_cons, find_map l]
    cases p (g a) <;> rfl
theorem first_at {m : List (List Int)} {n : Nat} (ok : Ok72 m (colsN m)) (hn : n ≤ 8) : F__law_first [.lst (((allT (colsN m) n).map (entE m)).map pairD)] = some (lD (firstT m n)) := by
  have hall := (all_ok (c := colsN m) n).2
  simp only [F__law_first]
  rw [toE_is, if_pos]
  · rw [find_map]
    unfold firstT
    have e : (fun t : List Int => decide (2 * maxZ (entE m t).2 ≤ ((entE m t).1.length : Int))) = okT m := funext fun t => (okT_max ok.pos).symm
    rw [e]
    cases (allT (colsN m) n).find? (okT m) <;> rfl
  · refine ⟨rfl, fun e he => ?_⟩
    obtain ⟨t, ht, rfl⟩ := List.mem_map.mp he
    refine ⟨fun e => ?_, fun x hx => ?_⟩
    · have h3 := congrArg List.length (show m.map (sumT t) = [] from e)
      rw [List.length_map] at h3
      exact absurd ok.pos (by rw [h3]; decide)
    · obtain ⟨r, hr, rfl⟩ := List.mem_map.mp hx
      have h1 := sumT_bound (t := t) ok hr
      have h2 := (hall t ht).1
      omega
/-! the firsts -/
theorem len__law_firsts : ∀ (ds : List Dt) (r : Dt), F__law_firsts ds = some r → ds.length = 2 := by
  intro ds r h
  match ds, h with
  | [_, .int _], _ => rfl
theorem k__law_firsts : Keeps 7 w__law_firsts F__law_firsts := by
  intro ds r h
  match ds, h with
  | [f, .int c], h =>
    simp only [F__law_firsts] at h
    split at h
    case isFalse => cases h
    rename_i hk
    obtain ⟨hf, ok, hc12, rfl⟩ := hk
    cases h
    generalize f.toM = m at *
    subst hf
    have hw := fun n hn => wider_at (n := n) ok hc12 hn
    have hfi := fun n hn => first_at (n := n) ok hn
    have hsing : (allT (colsN m) 0).map (entE m) = (List.range (colsN m)).map fun k : Nat => ([(k : Int)], (colM m (colsN m)).getD k []) := by
      show ((List.range (colsN m)).map fun k : Nat => [(k : Int)]).map (entE m) = _
      rw [List.map_map]
      refine List.map_congr_left fun k hk => ?_
      rw [colM_get (List.mem_range.mp hk)]
      show ([(k : Int)], m.map (sumT [(k : Int)])) = _
      congr 1
      refine List.map_congr_left fun r _ => ?_
      show ([(k : Int)].map fun x => r.getD x.toNat 0).sum = _
      simp
    have hfew := ok.few
    have hcl : (colM m (colsN m)).length = colsN m := by
      unfold colM
      rw [List.length_map, List.length_range]
    have hbit := ok.bits
    generalize hc : colsN m = c at *
    generalize hcm : colM m c = cm at *
    show w__law_firsts _ [.val (imat m), .val (.int c), .non, .non, .non, .non, .non]
    refine q_asg (r := .fre (.lst (cm.map ilst))) ?_ rfl rfl ?_
    · refine eComp_of (ds := rngD 0 c) (s := false) (rng1 (n := (c : Int)) rfl (by omega)) (by rw [rngD_len]; exact lim_of (by omega)) (compL_ix (by rw [rngD_len, List.length_map, hcl]) fun j d o h1 h2 => ?_)
      obtain ⟨hj, rfl⟩ := rngD_at h1
      rw [List.getElem?_map, ← hcm] at h2
      unfold colM at h2
      rw [List.getElem?_map, List.getElem?_range hj] at h2
      cases h2
      rw [compG_at]
      walk_at "pe"
      rw [eComp_of (ds := m.map ilst) (s := false) (out := (m.map fun r => r.getD j 0).map .int) rfl (by rw [List.length_map]; exact lim_of (by omega))]
      · walk_at "pe"
        rfl
      · refine compL_map fun r hr => ?_
        rw [compG_at]
        walk_at "pe"
        rw [Int.zero_add, show pIx (ilst r) (.int (j : Int)) = _ from pIx_iseq (b := false) (Int.natCast_nonneg j) (by rw [Int.toNat_natCast]; exact getD_some (by rw [(hbit r hr).1]; exact hj))]
        walk_at "pe"
    refine q_frz rfl rfl ?_
    show (wSeq _ _) _ [.val (imat m), .val (.int c), .val (imat cm), .non, .non, .non, .non]
    refine q_asg (r := .fre (.lst (((allT c 0).map (entE m)).map pairD))) ?_ rfl rfl ?_
    · rw [hsing]
      refine eComp_of (ds := rngD 0 c) (s := false) (rng1 (n := (c : Int)) rfl (by omega)) (by rw [rngD_len]; exact lim_of (by omega)) (compL_ix (by rw [rngD_len, List.length_map, List.length_map, List.length_range]) fun j d o h1 h2 => ?_)
      obtain ⟨hj, rfl⟩ := rngD_at h1
      rw [List.getElem?_map, List.getElem?_map, List.getElem?_range hj] at h2
      cases h2
      rw [compG_at]
      walk_at "pe"
      rw [Int.zero_add, show pIx (imat cm) (.int (j : Int)) = some (.vis (ilst (cm.getD j []))) from pIx_imatS (b := false) (Int.natCast_nonneg j) (by
        rw [Int.toNat_natCast, List.getD_eq_getElem?_getD, List.getElem?_eq_getElem (by omega)]
        rfl)]
      walk_at "pe"
      rfl
    refine q_frz rfl rfl ?_
    show (wSeq _ _) _ [.val (imat m), .val (.int c), .val (imat cm), .val (.lst (((allT c 0).map (entE m)).map pairD)), .non, .non, .non]
    refine q_asg (r := .vis (.lst (((allT c 2).map (entE m)).map pairD))) ?_ rfl rfl ?_
    · walk_at "pe"
      rw [hw 0 (by decide)]
      walk_at "pe"
      rw [hw 1 (by decide)]
      walk_at "pe"
    · refine s_ret (r := .fre (.lst ([firstT m 0, firstT m 2, firstT m 4].map lD))) ?_ rfl rfl rfl
      walk_at "pe"
      rw [hfi 0 (by decide)]
      walk_at "pe"
      rw [hfi 2 (by decide)]
      walk_at "pe"
      rw [hw 2 (by decide)]
      walk_at "pe"
      rw [hw 3 (by decide)]
      walk_at "pe"
      rw [hfi 4 (by decide)]
      walk_at "pe"
theorem firsts_at {m : List (List Int)} (ok : Ok72 m (colsN m)) (h : colsN m ≤ 12) : F__law_firsts [imat m, .int (colsN m : Int)] = some (.lst ([firstT m 0, firstT m 2, firstT m 4].map lD)) := by
  simp only [F__law_firsts]
  rw [toM_imat, if_pos ⟨rfl, ok, h, rfl⟩]
theorem len__law_cleared : ∀ (ds : List Dt) (r : Dt), F__law_cleared ds = some r → ds.length = 2 := by
  intro ds r h
  match ds, h with
  | [_, .int _], _ => rfl
theorem k__law_cleared : Keeps 3 w__law_cleared F__law_cleared := by
  intro ds r h
  match ds, h with
  | [f, .int k], h =>
    simp only [F__law_cleared] at h
    split at h
    case isFalse => cases h
    rename_i hk
    obtain ⟨hf, k0, hl, hb⟩ := hk
    cases h
    generalize f.toM = m at *
    subst hf
    obtain ⟨k, rfl⟩ : ∃ n : Nat, k = n := ⟨k.toNat, by omega⟩
    rw [Int.toNat_natCast]
    show w__law_cleared _ [.val (imat m), .val (.int k), .non]
    refine s_ret (r := .fre (.lst ((clearM m k).map ilst))) ?_ rfl rfl rfl
    unfold clearM
    refine eComp_of (ds := m.map ilst) (s := false) rfl (by rw [List.length_map]; exact lim_of (by omega)) (compL_map (v := ilst) fun r hr => ?_)
    have := hb r hr
    rw [compG_at]
    unfold ilst
    walk_at "pe"
    rw [cutD_to, show ((k : Int) + 1) = ((k + 1 : Nat) : Int) by omega, cutD_from, pAdd_lst (by rw [List.length_take, List.length_map, List.length_singleton]; exact lim_of (by omega))]
    walk_at "pe"
    rw [pAdd_lst (by rw [List.length_append, List.length_take, List.length_drop, List.length_map, List.length_singleton]; exact lim_of (by omega)), List.map_append, List.map_append, List.map_take, List.map_drop]
    walk_at "pe"
theorem clear_at {m : List (List Int)} {k : Nat} (h : m.length ≤ 100) (hb : ∀ b ∈ m, b.length ≤ 100) : F__law_cleared [imat m, .int (k : Int)] = some (imat (clearM m k)) := by
  simp only [F__law_cleared]
  rw [toM_imat, if_pos ⟨rfl, by omega, h, hb⟩, Int.toNat_natCast]
/-! the answers -/
theorem toO_lD (o : Option (List Int)) : toO (lD o) = o := by
  cases o with
  | none => rfl
  | some t =>
    show some (ilst t).toIs = _
    rw [toIs_ilst]
theorem ans_shape {ds : List Dt} {r : Dt} (h : F__law_answered ds = some r) : ∃ (m : List (List Int)) (fs : List (Option (List Int))) (g st : Int), ds = [imat m, .lst (fs.map lD), .int g, .int st] ∧ fs.length ≤ 100 ∧ Ok72 m (colsN m) ∧ (1 ≤ g ∧ g ≤ 9) ∧ (fs.take ((g.toNat + 1) / 2)).findSome? id = fewT m ((g.toNat + 1) / 2) ∧ r = .bl true := by
  unfold F__law_answered at h
  split at h
  · rename_i f fs g st
    split at h
    · rename_i hk
      obtain ⟨h1, h2, h3, h4, h5, h6, h7⟩ := hk
      exact ⟨f.toM, fs.items.map toO, g, st, by rw [← h1, ← h2], by rw [List.length_map]; exact h3, h4, ⟨h5, h6⟩, h7, (Option.some.inj h).symm⟩
    · cases h
  · cases h
theorem len__law_answered : ∀ (ds : List Dt) (r : Dt), F__law_answered ds = some r → ds.length = 4 := by
  intro ds r h
  obtain ⟨m, fs, g, st, rfl, _⟩ := ans_shape h
  rfl
theorem comp_lists {env : Sl} {i : Nat} {b : Bool} {m : List (List Int)} (hi : i < env.length) : compL (compG env [i] (gN i) tYes (e1 pList (eVar i))) (m.map (iseq b)) = some (m.map ilst) := by
  refine (compL_map (f := fun r : List Int => r) (v := ilst) fun r _ => ?_).trans (by rw [List.map_id'])
  have e : (((wipeS env [i]).set i (.val (iseq b r)))[i]?) = some (.val (iseq b r)) := List.getElem?_set_self (by rw [wipeS_cons, wipeS_nil, List.length_set]; exact hi)
  show ((e1 pList (eVar i) ((wipeS env [i]).set i (.val (iseq b r)))).bind fun r => if r.sh then none else some [r.dt]) = _
  rw [e1_at, eVar_at, e]
  cases b <;> rfl
theorem comp_tups {env : Sl} {i : Nat} {m : List (List Int)} (hi : i < env.length) : compL (compG env [i] (gN i) tYes (e1 pTuple (eVar i))) (m.map ilst) = some (m.map itup) := by
  refine compL_map (u := ilst) (f := fun r : List Int => r) (v := itup) (fun r _ => ?_) |>.trans (by rw [List.map_id'])
  have e : (((wipeS env [i]).set i (.val (ilst r)))[i]?) = some (.val (ilst r)) := List.getElem?_set_self (by rw [wipeS_cons, wipeS_nil, List.length_set]; exact hi)
  show ((e1 pTuple (eVar i) ((wipeS env [i]).set i (.val (ilst r)))).bind fun r => if r.sh then none else some [r.dt]) = _
  rw [e1_at, eVar_at, e]
  rfl
theorem lD_nn (o : Option (List Int)) : (lD o).isNon = o.isNone := by cases o <;> rfl
theorem find_take {fs : List (Option (List Int))} {i : Nat} {x : Option (List Int)} (h : fs[i]? = some x) : (fs.take (i + 1)).findSome? id = ((fs.take i).findSome? id).or x := by
  rw [List.take_add_one, h, List.findSome?_append]
  cases x <;> rfl
theorem find_cap {fs : List (Option (List Int))} {i : Nat} (h : fs.length ≤ i) : (fs.take i).findSome? id = fs.findSome? id := by rw [List.take_of_length_le h]
theorem few_len {m : List (List Int)} {k : Nat} {t : List Int} (h : fewT m k = some t) : t.length ≤ 2 * k := by
  unfold fewT at h
  obtain ⟨i, hi, hf⟩ := List.exists_of_findSome?_eq_some h
  unfold firstT at hf
  have h1 := ((all_ok (c := colsN m) (2 * i)).2 t (List.mem_of_find?_eq_some hf)).1
  have := List.mem_range.mp hi
  omega
theorem k__law_answered : Keeps 9 w__law_answered F__law_answered := by
  intro ds r h
  obtain ⟨m, fs, g, st, rfl, hfl, ok, ⟨g0, g1⟩, hfind, rfl⟩ := ans_shape h
  have hfew := ok.few
  have hlist : ∀ (env : Sl) (b : Bool) (i : Nat), env[i]? = some (.val (imatS b m)) → 8 < env.length → eComp [8] (iSeq (eVar i)) (gN 8) tYes (e1 pList (eVar 8)) env = some (.fre (.lst (m.map ilst))) := fun env b i he hl => by
    refine eComp_of (ds := m.map (iseq b)) (s := false) ?_ (by rw [List.length_map]; exact lim_of (by omega)) (comp_lists hl)
    rw [iSeq_at, eVar_at, he]
    cases b <;> rfl
  have hfewD := fun b => few_at (b := b) ok g0 g1
  generalize hFS : Dt.lst (fs.map lD) = FS
  have hpl : pLen FS = some (.vis (.int fs.length)) := by
    rw [← hFS, pLen_lst, List.length_map]
  show w__law_answered _ [.val (imat m), .val FS, .val (.int g), .val (.int st), .non, .non, .non, .non, .non]
  refine q_asg (r := .fre (.lst (m.map ilst))) (hlist _ false 0 rfl (by show 8 < 9; decide)) rfl rfl ?_
  refine q_frz rfl rfl ?_
  refine q_ifAsg (p := st = 1) (d := imat m) (d1 := .tup (m.map itup)) (by walk_at "pe") (fun _ => ?_) (fun _ => rfl) fun d2 hd2 => ?_
  · rw [e1_at, eComp_of (ds := m.map ilst) (s := false) (out := m.map itup) rfl (by rw [List.length_map]; exact lim_of (by omega)) (comp_tups (by show 8 < 9; decide))]
    rfl
  obtain ⟨b, hb⟩ : ∃ b, d2 = imatS b m := by
    rw [hd2]
    split
    · exact ⟨true, rfl⟩
    · exact ⟨false, rfl⟩
  subst hb
  have hol : ∀ t, fewT m ((g.toNat + 1) / 2) = some t → t.length ≤ 1000 := fun t h => by
    have := few_len h
    omega
  generalize fewT m ((g.toNat + 1) / 2) = o at *
  refine q_asg (r := .vis (tD o)) (by walk_at "pe"; rw [hfewD b]; walk_at "pe") rfl rfl ?_
  refine q_asg (r := .vis .non) (by walk_at "pe") rfl rfl ?_
  show (wSeq _ _) _ [.val (imat m), .val FS, .val (.int g), .val (.int st), .val (imatS b m), .val (tD o), .val .non, .non, .non]
  refine q_forRng (lo := 0) (n := fs.length) (fun i e => ∃ z7, e = [.val (imat m), .val FS, .val (.int g), .val (.int st), .val (imatS b m), .val (tD o), .val (lD ((fs.take (min i ((g.toNat + 1) / 2))).findSome? id)), z7, .non]) (by rw [rng1 (n := (fs.length : Int)) (by walk_at "pe"; rw [hpl]) (by omega), Int.toNat_natCast]) ⟨_, by rw [Nat.zero_min]; rfl⟩ ?_ ?_
  · rintro i env hi ⟨z7, rfl⟩
    have hg : fs[i]? = some fs[i] := List.getElem?_eq_getElem hi
    refine ⟨_, by walk_at "pe"; rfl, ?_⟩
    generalize hcur : (fs.take (min i ((g.toNat + 1) / 2))).findSome? id = cur
    have hnext : (fs.take (min (i + 1) ((g.toNat + 1) / 2))).findSome? id = if cur = none ∧ 2 * (i : Int) < g then fs[i] else cur := by
      by_cases h2 : 2 * (i : Int) < g
      · have e1 : min i ((g.toNat + 1) / 2) = i := by omega
        have e2 : min (i + 1) ((g.toNat + 1) / 2) = i + 1 := by omega
        rw [e1] at hcur
        rw [e2, find_take hg, hcur]
        cases cur with
        | none => rw [if_pos ⟨rfl, h2⟩]; rfl
        | some t => rw [if_neg (fun h => by cases h.1)]; rfl
      · have e1 : min (i + 1) ((g.toNat + 1) / 2) = min i ((g.toNat + 1) / 2) := by omega
        rw [e1, hcur, if_neg (fun h => h2 h.2)]
    show (wIf _ _ _) _ [.val (imat m), .val FS, .val (.int g), .val (.int st), .val (imatS b m), .val (tD o), .val (lD cur), .val (.int (0 + (i : Int))), .non]
    refine s_ifD (p := cur = none ∧ 2 * (i : Int) < g) ?_ (fun hp => ?_) fun hp => s_nil ⟨_, by rw [hnext, if_neg hp]⟩
    · walk_at "pe"
      rw [Int.zero_add, lD_nn, pMul_int (big64 (by decide) (by decide)) (big64 (by omega) (by omega))]
      walk_at "pe"
      cases cur <;> simp
    · refine s_asg (r := .vis (lD fs[i])) ?_ rfl rfl ⟨.val (.int (0 + (i : Int))), by rw [hnext, if_pos hp]; rfl⟩
      walk_at "pe"
      rw [← hFS, Int.zero_add]
      walk_at "pe"
      rw [atL_nat, List.getElem?_map, hg]
      walk_at "pe"
  · rintro env ⟨z7, rfl⟩
    have hend : (fs.take (min fs.length ((g.toNat + 1) / 2))).findSome? id = o := by
      rw [← hfind]
      rcases Nat.le_total fs.length ((g.toNat + 1) / 2) with h | h
      · rw [Nat.min_eq_left h, List.take_length, List.take_of_length_le h]
      · rw [Nat.min_eq_right h]
    rw [hend]
    refine q_if (c := false) ?_ (fun e => nomatch e) fun _ => s_nil ?_
    · rw [tVal_at, e2_at, hlist _ b 4 rfl (by show 8 < 9; decide)]
      walk_at "pe"
      rw [show pNe (.lst (m.map ilst)) (imat m) = _ from pNe_imat m m]
      simp
    cases o with
    | none => exact q_if (c := true) rfl (fun _ => s_ret (r := .vis (.bl true)) rfl rfl rfl rfl) fun e => nomatch e
    | some t =>
      refine q_if (c := false) rfl (fun e => nomatch e) fun _ => s_nil ?_
      show (wSeq _ _) _ [.val (imat m), .val FS, .val (.int g), .val (.int st), .val (imatS b m), .val (itup t), .val (ilst t), z7, .non]
      refine q_if (c := false) ?_ (fun e => nomatch e) fun _ => s_nil ?_
      · walk_at "pe"
        rw [show pIsi "tuple" (itup t) = some (.vis (.bl true)) from rfl, show pLen (itup t) = _ from pLen_iseq true t, show pLen (ilst t) = _ from pLen_iseq false t]
        walk_at "pe"
        simp
      have hwh : ∀ x : Int, F__law_whole [.int x] = some (.bl true) := fun x => rfl
      have htl := hol t rfl
      refine q_forRng (lo := 0) (n := t.length) (fun i e => ∃ z7, e = [.val (imat m), .val FS, .val (.int g), .val (.int st), .val (imatS b m), .val (itup t), .val (ilst t), z7, .non]) (by rw [rng1 (n := (t.length : Int)) (by walk_at "pe"; rw [show pLen (ilst t) = _ from pLen_iseq false t]) (by omega), Int.toNat_natCast]) ⟨_, rfl⟩ ?_ ?_
      · rintro i env hi ⟨z7, rfl⟩
        refine ⟨_, by walk_at "pe"; rfl, ?_⟩
        have hg := getD_some hi
        refine s_if (c := false) ?_ (fun e => nomatch e) fun _ => s_nil ⟨_, rfl⟩
        walk_at "pe"
        rw [Int.zero_add, show pIx (itup t) (.int (i : Int)) = _ from pIx_iseq (b := true) (Int.natCast_nonneg i) (by rw [Int.toNat_natCast]; exact hg), show pIx (ilst t) (.int (i : Int)) = _ from pIx_iseq (b := false) (Int.natCast_nonneg i) (by rw [Int.toNat_natCast]; exact hg)]
        walk_at "pe"
        rw [hwh]
        walk_at "pe"
        simp
      · rintro env ⟨z7, rfl⟩
        exact s_ret (r := .vis (.bl true)) (by walk_at "pe") rfl rfl rfl
theorem ans_at {m : List (List Int)} {fs : List (Option (List Int))} {g st : Int} (ok : Ok72 m (colsN m)) (hl : fs.length ≤ 100) (g0 : 1 ≤ g) (g1 : g ≤ 9) (h : (fs.take ((g.toNat + 1) / 2)).findSome? id = fewT m ((g.toNat + 1) / 2)) : F__law_answered [imat m, .lst (fs.map lD), .int g, .int st] = some (.bl true) := by
  simp only [F__law_answered]
  have e : (Dt.lst (fs.map lD)).items.map toO = fs := by
    show (fs.map lD).map toO = fs
    rw [List.map_map, show toO ∘ lD = id from funext toO_lD]
    exact List.map_id _
  rw [e, toM_imat]
  exact if_pos ⟨rfl, rfl, by show (fs.map lD).length ≤ 100; rw [List.length_map]; exact hl, ok, g0, g1, h⟩
/-! the law -/
theorem len_law : ∀ (ds : List Dt) (r : Dt), F_law ds = some r → ds.length = 1 := by
  intro ds r h
  match ds, h with
  | [.lst _], _ => rfl
theorem law_true : ∀ ns : List Int, ns.length ≤ 63 → F_law [.lst (ns.map .int)] = some (.bl true) := by
  intro ns h
  show (intsOf (ns.map .int)).bind _ = _
  rw [intsOf_ints]
  exact if_pos h
theorem take_few (m : List (List Int)) : ∀ k : Nat, k ≤ 3 → ([firstT m 0, firstT m 2, firstT m 4].take k).findSome? id = fewT m k
  | 0, _ => rfl
  | 1, _ => rfl
  | 2, _ => rfl
  | 3, _ => rfl
  | k + 4, h => absurd h (by omega)
theorem sum_zero_iff : ∀ {l : List Int}, (∀ x ∈ l, 0 ≤ x) → (l.sum = 0 ↔ ∀ x ∈ l, x = 0)
  | [], _ => by simp
  | a :: l, h => by
    have h1 := h a List.mem_cons_self
    have ih := sum_zero_iff (l := l) fun x hx => h x (List.mem_cons_of_mem _ hx)
    have h2 : 0 ≤ l.sum := by
      have : ∀ l : List Int, (∀ x ∈ l, 0 ≤ x) → 0 ≤ l.sum := fun l hl => by
        induction l with
        | nil => exact Int.le_refl _
        | cons x l ih =>
          rw [List.sum_cons]
          exact Int.add_nonneg (hl x List.mem_cons_self) (ih fun y hy => hl y (List.mem_cons_of_mem _ hy))
      exact this l fun x hx => h x (List.mem_cons_of_mem _ hx)
    rw [List.sum_cons]
    constructor
    · intro e x hx
      rcases List.mem_cons.mp hx with rfl | hx
      · omega
      · exact ih.mp (by omega) x hx
    · intro e
      have e1 := e a List.mem_cons_self
      have e2 := ih.mpr fun x hx => e x (List.mem_cons_of_mem _ hx)
      omega
/-- one row alone is enough just where no input is wrong -/
theorem okT_one {m : List (List Int)} {c : Nat} (ok : Ok72 m c) (k : Nat) : okT m [(k : Int)] = decide ((m.map fun r => r.getD k 0).sum = 0) := by
  rw [okT_max ok.pos, Bool.eq_iff_iff, decide_eq_true_iff, decide_eq_true_iff]
  have e : m.map (sumT [(k : Int)]) = m.map fun r => r.getD k 0 := List.map_congr_left fun r _ => by
    show ([(k : Int)].map fun x => r.getD x.toNat 0).sum = _
    simp
  rw [e]
  have hb : ∀ x ∈ m.map (fun r => r.getD k 0), 0 ≤ x ∧ x ≤ 1 := fun x hx => by
    obtain ⟨r, hr, rfl⟩ := List.mem_map.mp hx
    exact getD_bit ok hr k
  have hne : m.map (fun r => r.getD k 0) ≠ [] := fun e => by
    have h3 := congrArg List.length e
    rw [List.length_map] at h3
    exact absurd ok.pos (by rw [h3]; decide)
  obtain ⟨h1, h2⟩ := maxZ_is hne
  rw [sum_zero_iff fun x hx => (hb x hx).1]
  show 2 * maxZ _ ≤ ((1 : Nat) : Int) ↔ _
  constructor
  · intro h x hx
    have := h2 x hx
    have := (hb x hx).1
    omega
  · intro h
    have := h _ h1
    omega
theorem k_law : Keeps 13 w_law F_law := by
  intro ds r h
  match ds, h with
  | [.lst xs], h =>
    obtain ⟨ns, h1, h⟩ := Option.bind_eq_some_iff.mp h
    split at h
    case isFalse => cases h
    cases h
    rw [intsOf_some h1, map_ilst]
    show w_law _ [.val (ilst ns), .non, .non, .non, .non, .non, .non, .non, .non, .non, .non, .non, .non]
    have hcell : ∀ k : Nat, k < 200 → F__law_cell [ilst ns, .int (k : Int)] = some (.int (cellM ns k)) := fun k hk => F_cell_at ⟨by omega, by omega⟩
    have hdig : F__law_digits [.int (cellM ns ((0 : Nat) : Int)), ilst [8, 8, 5, 7, 2, 4, 10, 7, 2]] = _ := F_digits_at ⟨by decide, by decide⟩
    have hb := digits_below (c := cellM ns ((0 : Nat) : Int)) (ss := [8, 8, 5, 7, 2, 4, 10, 7, 2]) (by decide)
    match hd : digitsM (cellM ns ((0 : Nat) : Int)) [8, 8, 5, 7, 2, 4, 10, 7, 2], hb with
    | [d0, d1, d2, d3, d4, d5, d6, d7, d8], ⟨b0, b1, b2, b3, b4, b5, b6, b7, b8, _⟩ =>
    rw [hd] at hdig
    generalize hR : ilst [d0, d1, d2, d3, d4, d5, d6, d7, d8] = R at *
    have p0 : pIx R (.int 0) = some (.vis (.int d0)) := by rw [← hR]; rfl
    have p1 : pIx R (.int 1) = some (.vis (.int d1)) := by rw [← hR]; rfl
    have p2 : pIx R (.int 2) = some (.vis (.int d2)) := by rw [← hR]; rfl
    have p3 : pIx R (.int 3) = some (.vis (.int d3)) := by rw [← hR]; rfl
    have p4 : pIx R (.int 4) = some (.vis (.int d4)) := by rw [← hR]; rfl
    have p5 : pIx R (.int 5) = some (.vis (.int d5)) := by rw [← hR]; rfl
    have p6 : pIx R (.int 6) = some (.vis (.int d6)) := by rw [← hR]; rfl
    have p7 : pIx R (.int 7) = some (.vis (.int d7)) := by rw [← hR]; rfl
    have p8 : pIx R (.int 8) = some (.vis (.int d8)) := by rw [← hR]; rfl
    refine q_asg (r := .vis R) ?_ rfl rfl ?_
    · walk_at "pe"
      rw [show F__law_cell [ilst ns, .int 0] = _ from hcell 0 (by decide)]
      walk_at "pe"
      rw [show F__law_digits [.int (cellM ns ((0 : Nat) : Int)), .lst [.int 8, .int 8, .int 5, .int 7, .int 2, .int 4, .int 10, .int 7, .int 2]] = _ from hdig]
      walk_at "pe"
    obtain ⟨t3, m3, a3⟩ := tab (l := [3, 5, 4, 7, 6, 2, 1]) b3.1 b3.2
    obtain ⟨t7, m7, a7⟩ := tab (l := [4, 3, 5, 6, 7, 2, 1]) b7.1 b7.2
    simp only [List.map_cons, List.map_nil] at a3 a7
    have m3 : 1 ≤ t3 ∧ t3 ≤ 7 := by simp at m3; omega
    have m7 : 1 ≤ t7 ∧ t7 ≤ 7 := by simp at m7; omega
    refine q_asg (r := .vis (.int t3)) (by walk_at "pe"; rw [p3]; walk_at "pe"; rw [a3]; walk_at "pe") rfl rfl ?_
    refine q_ifI (p := d1 = 0) (x := 8 + d2) (y := t3) (by walk_at "pe"; rw [p1]; walk_at "pe") (fun _ => by walk_at "pe"; rw [p2]; walk_at "pe") rfl ?_
    obtain ⟨c1, hc1⟩ : ∃ c1, c1 = if d1 = 0 then 8 + d2 else t3 := ⟨_, rfl⟩
    have kc1 : 1 ≤ c1 ∧ c1 ≤ 12 := by rw [hc1]; split <;> omega
    rw [← hc1]
    refine q_asg (r := .vis (.int d0)) (by walk_at "pe"; rw [p0]) rfl rfl ?_
    refine q_asg (r := .vis (.int t7)) (by walk_at "pe"; rw [p7]; walk_at "pe"; rw [a7]; walk_at "pe") rfl rfl ?_
    refine q_cut (fun e => ∃ (c : Nat) (i1 : Int), e = [.val (ilst ns), .val R, .val (.int (c : Int)), .val (.int d0), .val (.int i1), .non, .non, .non, .non, .non, .non, .non, .non] ∧ 1 ≤ c ∧ c ≤ 12 ∧ 1 ≤ i1 ∧ i1 ≤ 10) ?_ ?_
    · refine s_ifD (p := d0 = 5 ∨ d0 = 6) (by walk_at "pe"; by_cases h : d0 = 5 <;> simp [h]) (fun hp => ?_) fun hp => s_nil ⟨c1.toNat, t7, by rw [Int.toNat_of_nonneg (by omega)]; rfl, by omega, by omega, by omega, by omega⟩
      refine q_asg (r := .vis (.int (if c1 > 5 then c1 else 5))) (by walk_at "pe") rfl rfl ?_
      refine s_asg (r := .vis (.int 10)) (by walk_at "pe") rfl rfl ⟨(if c1 > 5 then c1 else 5).toNat, 10, by rw [Int.toNat_of_nonneg (by split <;> omega)]; rfl, by split <;> omega, by split <;> omega, by decide, by decide⟩
    rintro env ⟨c, i1, rfl, c0, c12, i0, i10⟩
    refine q_ifI (p := d4 = 1) (x := if i1 + d6 < 16 then i1 + d6 else 16) (y := i1) (by walk_at "pe"; rw [p4]; walk_at "pe") (fun _ => by walk_at "pe"; rw [p6]; walk_at "pe") rfl ?_
    obtain ⟨n, hn, n0, n1⟩ : ∃ n : Nat, (if d4 = 1 then (if i1 + d6 < 16 then i1 + d6 else 16) else i1) = (n : Int) ∧ 1 ≤ n ∧ n ≤ 16 := by
      refine ⟨(if d4 = 1 then (if i1 + d6 < 16 then i1 + d6 else 16) else i1).toNat, ?_, ?_, ?_⟩ <;> (split <;> (try split) <;> omega)
    rw [hn]
    have hok12 : sizeOk (List.replicate c 12) := ⟨fun s hs => by rw [(List.mem_replicate.mp hs).2]; decide, by rw [List.length_replicate]; omega⟩
    obtain ⟨tl, tm⟩ := takeM_ok (n := c) (ds := digitsM (cellM ns ((1 : Nat) : Int)) (List.replicate c 12)) (rest := (List.range c).map fun k : Nat => (k : Int)) (by rw [digitsM_len, List.length_replicate]; exact Nat.le_refl _) (by rw [List.length_map, List.length_range])
    have hdr := drawn_at (d := digitsM (cellM ns ((1 : Nat) : Int)) (List.replicate c 12)) (n := c) (by omega) (by rw [digitsM_len, List.length_replicate]; exact Nat.le_refl _)
    have tb : ∀ x ∈ takeM c (digitsM (cellM ns ((1 : Nat) : Int)) (List.replicate c 12)) ((List.range c).map fun k : Nat => (k : Int)), 0 ≤ x ∧ x < (c : Int) := fun x hx => by
      obtain ⟨k, hk, rfl⟩ := List.mem_map.mp (tm x hx)
      have := List.mem_range.mp hk
      omega
    generalize takeM c (digitsM (cellM ns ((1 : Nat) : Int)) (List.replicate c 12)) ((List.range c).map fun k : Nat => (k : Int)) = dr at *
    show (wSeq _ _) _ [.val (ilst ns), .val R, .val (.int (c : Int)), .val (.int d0), .val (.int (n : Int)), .non, .non, .non, .non, .non, .non, .non, .non]
    refine q_asg (r := .vis (ilst dr)) ?_ rfl rfl ?_
    · walk_at "pe"
      rw [show F__law_cell [ilst ns, .int 1] = _ from hcell 1 (by decide), comp_consts (n := c) (fa := eVar 2) rfl (by omega)]
      walk_at "pe"
      rw [show F__law_digits [.int (cellM ns ((1 : Nat) : Int)), .lst ((List.replicate c 12).map .int)] = _ from F_digits_at hok12]
      walk_at "pe"
      rw [hdr]
      walk_at "pe"
    have hbits := fun (cell i : Int) (h0 : 0 ≤ i) => bits_at (cell := cell) (i := i) (style := d0) (d := dr) h0 (by omega) (by rw [tl]; exact tb)
    have hbok := fun (cell i : Int) => bits_ok (cell := cell) (i := i) (style := d0) (d := dr)
    rw [tl] at hbok
    generalize hm0 : (List.range n).map (fun k : Nat => bits2 (cellM ns ((2 + k : Nat) : Int)) (k : Int) d0 dr) = m0
    have hm0l : m0.length = n := by rw [← hm0, List.length_map, List.length_range]
    have hm0b : ∀ r ∈ m0, r.length = c ∧ ∀ b ∈ r, 0 ≤ b ∧ b ≤ 1 := fun r hr => by
      rw [← hm0] at hr
      obtain ⟨k, _, rfl⟩ := List.mem_map.mp hr
      exact hbok _ _
    refine q_asg (r := .fre (.lst (m0.map ilst))) ?_ rfl rfl ?_
    · refine eComp_of (ds := rngD 0 n) (s := false) (rng1 (n := (n : Int)) rfl (by omega)) (by rw [rngD_len]; exact lim_of (by omega)) (compL_ix (by rw [rngD_len, List.length_map, hm0l]) fun j d o h1 h2 => ?_)
      obtain ⟨hj, rfl⟩ := rngD_at h1
      rw [List.getElem?_map, ← hm0, List.getElem?_map, List.getElem?_range hj] at h2
      cases h2
      rw [compG_at]
      walk_at "pe"
      rw [Int.zero_add, show (2 + (j : Int)) = ((2 + j : Nat) : Int) by omega, hcell (2 + j) (by omega)]
      walk_at "pe"
      rw [hbits _ _ (Int.natCast_nonneg j)]
      walk_at "pe"
    refine q_cut (fun e => ∃ m : List (List Int), e = [.val (ilst ns), .val R, .val (.int (c : Int)), .val (.int d0), .val (.int (n : Int)), .val (ilst dr), .own (.lst (m.map ilst)), .non, .non, .non, .non, .non, .non] ∧ m.length = n ∧ ∀ r ∈ m, r.length = c ∧ ∀ b ∈ r, 0 ≤ b ∧ b ≤ 1) ?_ ?_
    · refine s_ifD (p := d0 = 7) (by walk_at "pe") (fun hp => ?_) fun hp => s_nil ⟨m0, rfl, hm0l, hm0b⟩
      have hnp : (0 : Int) < n := by omega
      obtain ⟨a, ha, ha2⟩ : ∃ a : Nat, d6 % (n : Int) = (a : Int) ∧ a < n := by
        have h1 := Int.emod_nonneg d6 (show (n : Int) ≠ 0 by omega)
        have h2 := Int.emod_lt_of_pos d6 hnp
        exact ⟨(d6 % (n : Int)).toNat, by omega, by omega⟩
      refine ⟨m0.map ilst, .fre (.lst ((List.replicate c 1).map .int)), (a : Int), rfl, comp_consts rfl (by omega), rfl, ?_, by omega, by rw [List.length_map]; omega, m0.set a (List.replicate c 1), ?_, by rw [List.length_set]; exact hm0l, fun r hr => ?_⟩
      · walk_at "pe"
        rw [p6]
        walk_at "pe"
        rw [pMod_int hnp, ha]
      · rw [if_pos (Int.natCast_nonneg a), Int.toNat_natCast]
        have e : (m0.map ilst).set a (Pyl.R.fre (.lst ((List.replicate c 1).map .int))).dt = (m0.set a (List.replicate c 1)).map ilst := by
          rw [List.map_set]
          rfl
        rw [e]
        rfl
      · rcases List.mem_or_eq_of_mem_set hr with h | h
        · exact hm0b r h
        · subst h
          refine ⟨List.length_replicate, fun b hb => ?_⟩
          rw [(List.mem_replicate.mp hb).2]
          decide
    rintro env ⟨m, rfl, hml, hmb⟩
    have ok : Ok72 m c := ⟨by omega, by omega, by omega, by omega, hmb⟩
    have hcm := colsN_eq ok
    have okc : Ok72 m (colsN m) := by rw [hcm]; exact ok
    refine q_frz rfl rfl ?_
    have hfs := firsts_at okc (by omega)
    rw [hcm] at hfs
    have hans := fun (g st : Int) (g0 : 1 ≤ g) (g1 : g ≤ 6) => ans_at (fs := [firstT m 0, firstT m 2, firstT m 4]) (g := g) (st := st) okc (by show (3 : Nat) ≤ 100; decide) g0 (by omega) (take_few m _ (by omega))
    generalize hFS : Dt.lst ([firstT m 0, firstT m 2, firstT m 4].map lD) = FS at *
    show (wSeq _ _) _ [.val (ilst ns), .val R, .val (.int (c : Int)), .val (.int d0), .val (.int (n : Int)), .val (ilst dr), .val (imat m), .non, .non, .non, .non, .non, .non]
    refine q_asg (r := .vis FS) (by walk_at "pe"; rw [hfs]; walk_at "pe") rfl rfl ?_
    show wFrz 6 _ _ [.val (ilst ns), .val R, .val (.int (c : Int)), .val (.int d0), .val (.int (n : Int)), .val (ilst dr), .val (imat m), .val FS, .non, .non, .non, .non, .non]
    refine q_frz0 rfl ?_
    refine q_if (c := false) (by walk_at "pe"; rw [p8]; walk_at "pe"; rw [hans 5 d8 (by decide) (by decide)]; walk_at "pe") (fun e => nomatch e) fun _ => s_nil ?_
    dsimp only
    refine q_frz0 rfl ?_
    have hdne : dr ≠ [] := fun e => by rw [e] at tl; simp at tl; omega
    have hlast : lastZ dr ∈ dr := by
      obtain ⟨u, k, e⟩ : ∃ u k, dr = u ++ [k] := ⟨dr.dropLast, dr.getLast hdne, (List.dropLast_concat_getLast hdne).symm⟩
      rw [e, last_app]
      simp
    have hlb := tb _ hlast
    obtain ⟨q, hq, hqc⟩ : ∃ q : Nat, lastZ dr = (q : Int) ∧ q < c := ⟨(lastZ dr).toNat, by omega, by omega⟩
    have hclr := clear_at (m := m) (k := q) (by omega) fun b hb => by rw [(hmb b hb).1]; omega
    have hcl1 : (clearM m q).length = n := by unfold clearM; rw [List.length_map, hml]
    have hclb : ∀ r ∈ clearM m q, r.length = c ∧ ∀ b ∈ r, 0 ≤ b ∧ b ≤ 1 := fun r hr => by
      unfold clearM at hr
      obtain ⟨b, hb, rfl⟩ := List.mem_map.mp hr
      obtain ⟨e1, e2⟩ := hmb b hb
      refine ⟨by rw [List.length_append, List.length_append, List.length_take, List.length_drop, List.length_singleton]; omega, fun x hx => ?_⟩
      rcases List.mem_append.mp hx with hx | hx
      · rcases List.mem_append.mp hx with hx | hx
        · exact e2 x (List.mem_of_mem_take hx)
        · rw [List.mem_singleton.mp hx]; decide
      · exact e2 x (List.mem_of_mem_drop hx)
    have okC : Ok72 (clearM m q) c := ⟨by omega, by omega, by omega, by omega, hclb⟩
    have hcolC := colsN_eq okC
    have hzero : ((clearM m q).map fun r => r.getD q 0).sum = 0 := by
      rw [sum_zero_iff fun x hx => by
        obtain ⟨r, hr, rfl⟩ := List.mem_map.mp hx
        exact (getD_bit okC hr q).1]
      intro x hx
      unfold clearM at hx
      rw [List.map_map] at hx
      obtain ⟨b, hb, rfl⟩ := List.mem_map.mp hx
      show (b.take q ++ [0] ++ b.drop (q + 1)).getD q 0 = 0
      have e1 := (hmb b hb).1
      rw [List.getD_eq_getElem?_getD, List.getElem?_append_left (by rw [List.length_append, List.length_take, List.length_singleton]; omega), List.getElem?_append_right (by rw [List.length_take]; omega), List.length_take, Nat.min_eq_left (by omega), Nat.sub_self]
      rfl
    generalize clearM m q = cl at *
    refine q_asg (r := .vis (imat cl)) (by walk_at "pe"; rw [last_ix hdne]; walk_at "pe"; rw [hq, hclr]; walk_at "pe") rfl rfl ?_
    generalize hp : (fun k : Nat => decide ((cl.map fun r => r.getD k 0).sum = 0)) = p
    generalize hcn : (List.range c).filter p = cn
    have hcne : ∃ k0 rest, cn = k0 :: rest := by
      have : q ∈ cn := by
        rw [← hcn, List.mem_filter, ← hp]
        exact ⟨List.mem_range.mpr hqc, decide_eq_true hzero⟩
      match cn, this with
      | k0 :: rest, _ => exact ⟨k0, rest, rfl⟩
    obtain ⟨k0, rest, hk0⟩ := hcne
    subst hk0
    show (wSeq _ _) _ [.val (ilst ns), .val R, .val (.int (c : Int)), .val (.int d0), .val (.int (n : Int)), .val (ilst dr), .val (imat m), .val FS, .val (imat cl), .non, .non, .non, .non]
    refine q_asg (r := .fre (.lst ((((k0 :: rest).map fun k : Nat => (k : Int))).map .int))) ?_ rfl rfl ?_
    · rw [← hcn]
      refine eComp_of (ds := (List.range c).map fun k : Nat => Dt.int (0 + (k : Int))) (s := false) ?_ (by rw [List.length_map, List.length_range]; exact lim_of (by omega)) (compL_filter (u := fun k : Nat => Dt.int (0 + (k : Int))) (v := Dt.int) (f := fun k : Nat => (k : Int)) fun k hk => ?_)
      · exact rng1 (n := (c : Int)) rfl (by omega)
      · have hk := List.mem_range.mp hk
        rw [compG_at]
        walk_at "pe"
        rw [eComp_of (ds := cl.map ilst) (s := false) (out := (cl.map fun r => r.getD k 0).map .int) rfl (by rw [List.length_map]; exact lim_of (by omega))]
        · walk_at "pe"
          rw [show p k = decide ((cl.map fun r => r.getD k 0).sum = 0) by rw [← hp], Int.zero_add]
          by_cases h : (cl.map fun r => r.getD k 0).sum = 0
          · rw [if_pos (decide_eq_true h), if_pos h]
          · rw [if_neg (fun e => h (of_decide_eq_true e)), if_neg h]
        · refine compL_map fun r hr => ?_
          rw [compG_at]
          walk_at "pe"
          rw [Int.zero_add, show pIx (ilst r) (.int (k : Int)) = _ from pIx_iseq (b := false) (Int.natCast_nonneg k) (by rw [Int.toNat_natCast]; exact getD_some (by rw [(hclb r hr).1]; exact hk))]
          walk_at "pe"
    refine q_frz rfl rfl ?_
    have hfirst : firstT cl 0 = some [(k0 : Int)] := by
      unfold firstT
      rw [hcolC]
      show ((List.range c).map fun k : Nat => [(k : Int)]).find? (okT cl) = _
      rw [find_map]
      have e : (fun k : Nat => okT cl [(k : Int)]) = p := by
        rw [← hp]
        exact funext fun k => okT_one okC k
      rw [e]
      have e2 : (List.range c).find? p = some k0 := by
        rw [← List.head?_filter, hcn]
        rfl
      rw [e2]
      rfl
    have okC2 : Ok72 cl (colsN cl) := by rw [hcolC]; exact okC
    have hansC : F__law_answered [imat cl, .lst [.lst [.int (k0 : Int)]], .int (1 + d5), .int 1] = some (.bl true) := by
      refine ans_at (fs := [some [(k0 : Int)]]) okC2 (by show (1 : Nat) ≤ 100; decide) (by omega) (by omega) ?_
      obtain ⟨j, hj⟩ : ∃ j, ((1 + d5).toNat + 1) / 2 = j + 1 := ⟨((1 + d5).toNat + 1) / 2 - 1, by omega⟩
      rw [hj]
      unfold fewT
      rw [List.range_succ_eq_map, List.findSome?_cons]
      simp only [Nat.mul_zero, hfirst]
      rfl
    refine q_if (c := false) (by walk_at "pe"; rw [p5]; walk_at "pe"; rw [hansC]; walk_at "pe") (fun e => nomatch e) fun _ => s_nil ?_
    show (wSeq _ _) _ [.val (ilst ns), .val R, .val (.int (c : Int)), .val (.int d0), .val (.int (n : Int)), .val (ilst dr), .val (imat m), .val FS, .val (imat cl), .val (.lst (((k0 :: rest).map fun k : Nat => (k : Int)).map .int)), .non, .non, .non]
    generalize Dt.lst (((k0 :: rest).map fun k : Nat => (k : Int)).map .int) = CN
    refine q_if (c := decide (7 < (c : Int))) (by walk_at "pe") (fun _ => ?_) fun _ => s_nil ?_
    · refine q_frz0 rfl (s_ret (r := .vis (.bl true)) ?_ rfl rfl rfl)
      walk_at "pe"
      rw [p5, p8]
      walk_at "pe"
      rw [hans (1 + d5) (1 - d8) (by omega) (by omega)]
      walk_at "pe"
    refine q_forRng (lo := 1) (n := 4) (fun i e => ∃ z, e = [.val (ilst ns), .val R, .val (.int (c : Int)), .val (.int d0), .val (.int (n : Int)), .val (ilst dr), .val (imat m), .val FS, .val (imat cl), .val CN, z, .non, .non]) (by rw [rng2 (lo := 1) (hi := 5) rfl rfl]; rfl) ⟨_, rfl⟩ ?_ ?_
    · rintro i env hi ⟨z, rfl⟩
      refine ⟨_, by walk_at "pe"; rfl, ?_⟩
      refine q_frz0 rfl (s_if (c := false) ?_ (fun e => nomatch e) fun _ => s_nil ⟨_, rfl⟩)
      walk_at "pe"
      rw [p8]
      walk_at "pe"
      rw [pMod_int (by decide)]
      walk_at "pe"
      rw [hans (1 + (i : Int)) ((1 + (i : Int) + d8) % 2) (by omega) (by omega)]
      walk_at "pe"
    · rintro env ⟨z, rfl⟩
      generalize htn : (m.map fun b => (List.range c).map fun k : Nat => b.getD (c - 1 - k) 0) = tn
      have htnl : tn.length = n := by rw [← htn, List.length_map, hml]
      have htnb : ∀ r ∈ tn, r.length = c ∧ ∀ b ∈ r, 0 ≤ b ∧ b ≤ 1 := fun r hr => by
        rw [← htn] at hr
        obtain ⟨b, hb, rfl⟩ := List.mem_map.mp hr
        refine ⟨by rw [List.length_map, List.length_range], fun x hx => ?_⟩
        obtain ⟨k, _, rfl⟩ := List.mem_map.mp hx
        exact getD_bit ok hb _
      have okT' : Ok72 tn c := ⟨by omega, by omega, by omega, by omega, htnb⟩
      have hcolT := colsN_eq okT'
      have okT2 : Ok72 tn (colsN tn) := by rw [hcolT]; exact okT'
      have hfsT := firsts_at okT2 (by omega)
      rw [hcolT] at hfsT
      have hansT := ans_at (fs := [firstT tn 0, firstT tn 2, firstT tn 4]) (g := 5) (st := 1 - d8) okT2 (by show (3 : Nat) ≤ 100; decide) (by decide) (by decide) (take_few tn _ (by decide))
      refine q_asg (r := .fre (.lst (tn.map ilst))) ?_ rfl rfl ?_
      · rw [← htn]
        refine eComp_of (ds := m.map ilst) (s := false) rfl (by rw [List.length_map]; exact lim_of (by omega)) (compL_map (v := ilst) fun b hb => ?_)
        rw [compG_at]
        walk_at "pe"
        rw [eComp_of (ds := rngD 0 c) (s := false) (out := ((List.range c).map fun k : Nat => b.getD (c - 1 - k) 0).map .int) (rng1 (n := (c : Int)) rfl (by omega)) (by rw [rngD_len]; exact lim_of (by omega))]
        · walk_at "pe"
          rfl
        · refine compL_ix (by rw [rngD_len, List.length_map, List.length_map, List.length_range]) fun j d o h1 h2 => ?_
          obtain ⟨hj, rfl⟩ := rngD_at h1
          rw [List.getElem?_map, List.getElem?_map, List.getElem?_range hj] at h2
          cases h2
          rw [compG_at]
          walk_at "pe"
          rw [show ((c : Int) - 1 - (0 + (j : Int))) = ((c - 1 - j : Nat) : Int) by omega, show pIx (ilst b) (.int ((c - 1 - j : Nat) : Int)) = _ from pIx_iseq (b := false) (Int.natCast_nonneg _) (by rw [Int.toNat_natCast]; exact getD_some (by rw [(hmb b hb).1]; omega))]
          walk_at "pe"
      refine q_frz rfl rfl ?_
      show (wSeq _ _) _ [.val (ilst ns), .val R, .val (.int (c : Int)), .val (.int d0), .val (.int (n : Int)), .val (ilst dr), .val (imat m), .val FS, .val (imat cl), .val CN, z, .val (imat tn), .non]
      refine q_if (c := false) ?_ (fun e => nomatch e) fun _ => s_nil ?_
      · walk_at "pe"
        rw [hfsT, p8]
        walk_at "pe"
        rw [show F__law_answered [imat tn, .lst [lD (firstT tn 0), lD (firstT tn 2), lD (firstT tn 4)], .int 5, .int (1 - d8)] = _ from hansT]
        walk_at "pe"
      · dsimp only
        refine q_frz0 rfl (s_ret (r := .vis (.bl true)) ?_ rfl rfl rfl)
        walk_at "pe"
        rw [p8]
        walk_at "pe"
        rw [hans 5 d8 (by decide) (by decide)]
        walk_at "pe"
end Pyl
end
section
set_option Elab.async false
set_option linter.all false
set_option maxRecDepth 100000
set_option maxHeartbeats 2000000
namespace Pyl
open PySem L2

/-! ### what a value denotes -/
mutual
inductive Den (K : PySem.W.Frag) (cm : Nat → Addr) (G : Hp) : V → Dt → Prop
  | non : Den K cm G .non .non
  | bl (b : Bool) : Den K cm G (.bl b) (.bl b)
  | int (i : Int) : Den K cm G (.int i) (.int i)
  | str (x : Str) : Den K cm G (.str x) (.str x)
  | lst {a : Addr} {vs : List V} {ds : List Dt} : SqL K G a vs → DenL K cm G vs ds → Den K cm G (.ref a) (.lst ds)
  | tup {a : Addr} {vs : List V} {ds : List Dt} : SqT K G a vs → DenL K cm G vs ds → Den K cm G (.ref a) (.tup ds)
  | obj {a dx : Addr} {c : Nat} {fv : List (Str × V)} {fs : List (Str × Dt)} : G a = some (.ins (cm c) dx fv) → DenF K cm G fv fs → Den K cm G (.ref a) (.obj c fs)
inductive DenL (K : PySem.W.Frag) (cm : Nat → Addr) (G : Hp) : List V → List Dt → Prop
  | nil : DenL K cm G [] []
  | cons {v : V} {vs : List V} {d : Dt} {ds : List Dt} : Den K cm G v d → DenL K cm G vs ds → DenL K cm G (v :: vs) (d :: ds)
inductive DenF (K : PySem.W.Frag) (cm : Nat → Addr) (G : Hp) : List (Str × V) → List (Str × Dt) → Prop
  | nil : DenF K cm G [] []
  | cons {x : Str} {v : V} {vs : List (Str × V)} {d : Dt} {ds : List (Str × Dt)} : Den K cm G v d → DenF K cm G vs ds → DenF K cm G ((x, v) :: vs) ((x, d) :: ds)
end

def Exx (H H' : Hp) : Prop := ∀ a o, H a = some o → H' a = some o
theorem Exx.refl (H : Hp) : Exx H H := fun _ _ h => h
theorem Exx.trans {H H1 H2 : Hp} (a : Exx H H1) (b : Exx H1 H2) : Exx H H2 := fun x o h => b x o (a x o h)
theorem Exx.new {H : Hp} {p : Addr} {o : HO} (h : H p = none) : Exx H (upd H p o) := fun a u e => by
  rw [upd_ne (ne_of_none e h)]
  exact e
theorem Exx.rd {H H' : Hp} {a : Addr} {u : HO} (e : Exx H H') (h : Rd H a u) : Rd H' a u := by
  rcases h with h | ⟨o, h⟩
  · exact Or.inl (e a _ h)
  · exact Or.inr ⟨o, e a _ h⟩
theorem Exx.sqL {K : PySem.W.Frag} {H H' : Hp} {a : Addr} {xs : List V} (e : Exx H H') (h : SqL K H a xs) : SqL K H' a xs := by
  rcases h with h | h
  · exact Or.inl (e.rd h)
  · exact Or.inr h
theorem Exx.sqT {K : PySem.W.Frag} {H H' : Hp} {a : Addr} {xs : List V} (e : Exx H H') (h : SqT K H a xs) : SqT K H' a xs := by
  rcases h with h | h
  · exact Or.inl (e.rd h)
  · exact Or.inr h
theorem Exx.back {H H' : Hp} {p : Addr} (e : Exx H H') (h : H' p = none) : H p = none := by
  cases h1 : H p with
  | none => rfl
  | some o =>
    rw [e p o h1] at h
    cases h
section
variable {K : PySem.W.Frag} {cm : Nat → Addr} {G G' : Hp}
mutual
theorem Den.mono (e : Exx G G') : ∀ {v : V} {d : Dt}, Den K cm G v d → Den K cm G' v d
  | _, _, .non => .non
  | _, _, .bl b => .bl b
  | _, _, .int i => .int i
  | _, _, .str x => .str x
  | _, _, .lst h l => .lst (e.sqL h) (DenL.mono e l)
  | _, _, .tup h l => .tup (e.sqT h) (DenL.mono e l)
  | _, _, .obj h l => .obj (e _ _ h) (DenF.mono e l)
theorem DenL.mono (e : Exx G G') : ∀ {vs : List V} {ds : List Dt}, DenL K cm G vs ds → DenL K cm G' vs ds
  | _, _, .nil => .nil
  | _, _, .cons h t => .cons (Den.mono e h) (DenL.mono e t)
theorem DenF.mono (e : Exx G G') : ∀ {vs : List (Str × V)} {ds : List (Str × Dt)}, DenF K cm G vs ds → DenF K cm G' vs ds
  | _, _, .nil => .nil
  | _, _, .cons h t => .cons (Den.mono e h) (DenF.mono e t)
end
theorem DenL.length : ∀ {vs : List V} {ds : List Dt}, DenL K cm G vs ds → vs.length = ds.length
  | _, _, .nil => rfl
  | _, _, .cons _ t => by rw [List.length_cons, List.length_cons, DenL.length t]
theorem DenL.get : ∀ {vs : List V} {ds : List Dt} {i : Nat} {d : Dt}, DenL K cm G vs ds → ds[i]? = some d → ∃ v, vs[i]? = some v ∧ Den K cm G v d
  | _, _, _, _, .nil, e => by simp at e
  | _, _, 0, _, .cons h t, e => by simp at e; subst e; exact ⟨_, rfl, h⟩
  | _, _, i + 1, d, .cons h t, e => by
    obtain ⟨v, h1, h2⟩ := DenL.get (i := i) (d := d) t (by simpa using e)
    exact ⟨v, by simpa using h1, h2⟩
theorem DenL.get' : ∀ {vs : List V} {ds : List Dt} {i : Nat} {v : V}, DenL K cm G vs ds → vs[i]? = some v → ∃ d, ds[i]? = some d ∧ Den K cm G v d
  | _, _, _, _, .nil, e => by simp at e
  | _, _, 0, _, .cons h t, e => by simp at e; subst e; exact ⟨_, rfl, h⟩
  | _, _, i + 1, d, .cons h t, e => by
    obtain ⟨v, h1, h2⟩ := DenL.get' (i := i) (v := d) t (by simpa using e)
    exact ⟨v, by simpa using h1, h2⟩
theorem DenL.append : ∀ {vs ws : List V} {ds es : List Dt}, DenL K cm G vs ds → DenL K cm G ws es → DenL K cm G (vs ++ ws) (ds ++ es)
  | _, _, _, _, .nil, s => s
  | _, _, _, _, .cons h t, s => .cons h (DenL.append t s)
theorem DenL.take : ∀ {vs : List V} {ds : List Dt} (n : Nat), DenL K cm G vs ds → DenL K cm G (vs.take n) (ds.take n)
  | _, _, 0, _ => .nil
  | _, _, n + 1, .nil => .nil
  | _, _, n + 1, .cons h t => .cons h (DenL.take n t)
theorem DenL.drop : ∀ {vs : List V} {ds : List Dt} (n : Nat), DenL K cm G vs ds → DenL K cm G (vs.drop n) (ds.drop n)
  | _, _, 0, r => r
  | _, _, n + 1, .nil => .nil
  | _, _, n + 1, .cons _ t => DenL.drop n t
theorem DenL.set {v : V} {d : Dt} (h : Den K cm G v d) : ∀ {vs : List V} {ds : List Dt} (n : Nat), DenL K cm G vs ds → DenL K cm G (vs.set n v) (ds.set n d)
  | _, _, _, .nil => .nil
  | _, _, 0, .cons _ t => .cons h t
  | _, _, n + 1, .cons q t => .cons q (DenL.set h n t)
theorem DenL.one {v : V} {d : Dt} (h : Den K cm G v d) : DenL K cm G [v] [d] := .cons h .nil
end

/-! ### growth -/
structure Grow (H G H' G' : Hp) : Prop where
  hx : Exx H H'
  gx : Exx G G'
  hid : ∀ a o, H a = some o → G a = none → G' a = none
  sub : Exx G' H'
theorem Grow.refl {H G : Hp} (s : Exx G H) : Grow H G H G := ⟨.refl _, .refl _, fun _ _ _ h => h, s⟩
theorem Grow.trans {H G H1 G1 H2 G2 : Hp} (a : Grow H G H1 G1) (b : Grow H1 G1 H2 G2) : Grow H G H2 G2 :=
  ⟨a.hx.trans b.hx, a.gx.trans b.gx, fun x o h n => b.hid x o (a.hx x o h) (a.hid x o h n), b.sub⟩
/-- a new object, seen by all -/
theorem Grow.new {H G : Hp} {p : Addr} {o : HO} (s : Exx G H) (h : H p = none) : Grow H G (upd H p o) (upd G p o) :=
  ⟨.new h, .new (s.back h), fun a u e n => by rw [upd_ne (ne_of_none e h)]; exact n, fun a u e => by
    by_cases q : a = p
    · subst q; rw [upd_same] at e ⊢; exact e
    · rw [upd_ne q] at e ⊢; exact s a u e⟩
/-- a new object, seen by none -/
theorem Grow.hide {H G : Hp} {p : Addr} {o : HO} (s : Exx G H) (h : H p = none) : Grow H G (upd H p o) G :=
  ⟨.new h, .refl _, fun _ _ _ n => n, fun a u e => by rw [upd_ne (ne_of_none (s a u e) h)]; exact s a u e⟩
/-- what was hidden and new is shown -/
theorem Grow.show {H G H' G' : Hp} {p : Addr} {o : HO} (g : Grow H G H' G') (n : H p = none) (e : H' p = some o) (z : G' p = none) : Grow H G H' (upd G' p o) :=
  ⟨g.hx, fun a u q => by rw [upd_ne (ne_of_none (g.gx a u q) z)]; exact g.gx a u q, fun a u q w => by rw [upd_ne (ne_of_none q n)]; exact g.hid a u q w, fun a u q => by
    by_cases k : a = p
    · subst k; rw [upd_same] at q; cases q; exact e
    · rw [upd_ne k] at q; exact g.sub a u q⟩

/-- a list looked at, that a name of the frame holds -/
def Bor (K : PySem.W.Frag) (cm : Nat → Addr) (H G : Hp) (v : V) (d : Dt) : Prop := ∃ l vs ds, v = .ref l ∧ d = .lst ds ∧ SqL K H l vs ∧ DenL K cm G vs ds
def VR (K : PySem.W.Frag) (cm : Nat → Addr) (H G : Hp) (v : V) (d : Dt) (b : Bool) : Prop := (b = true → Bor K cm H G v d) ∧ (b = false → Den K cm G v d)
def OwnR (K : PySem.W.Frag) (cm : Nat → Addr) (G : Hp) : HO → OD → Prop
  | .lst vs, .lst ds => DenL K cm G vs ds
  | _, _ => False
def RR (K : PySem.W.Frag) (cm : Nat → Addr) (H H' G' : Hp) (v : V) : R → Prop
  | .vis d => Den K cm G' v d
  | .bor d => Bor K cm H' G' v d
  | .fre od => ∃ l o, v = .ref l ∧ H l = none ∧ H' l = some o ∧ G' l = none ∧ OwnR K cm G' o od
section
variable {K : PySem.W.Frag} {cm : Nat → Addr} {H G H' G' : Hp} {v : V} {d : Dt} {b : Bool}
theorem OwnR.mono {o : HO} {od : OD} (e : Exx G G') (h : OwnR K cm G o od) : OwnR K cm G' o od := by
  cases o <;> cases od <;> first | exact DenL.mono e h | exact h
theorem VR.vis (h : Den K cm G v d) : VR K cm H G v d false := ⟨fun e => (nomatch e), fun _ => h⟩
theorem VR.den (h : VR K cm H G v d false) : Den K cm G v d := h.2 rfl
theorem VR.grow (g : Grow H G H' G') (h : VR K cm H G v d b) : VR K cm H' G' v d b := by
  refine ⟨fun e => ?_, fun e => (h.2 e).mono g.gx⟩
  obtain ⟨l, vs, ds, h1, h2, h3, h4⟩ := h.1 e
  exact ⟨l, vs, ds, h1, h2, g.hx.sqL h3, h4.mono g.gx⟩
theorem VR.lst {ds : List Dt} (s : Exx G H) (h : VR K cm H G v (.lst ds) b) : ∃ l vs, v = .ref l ∧ SqL K H l vs ∧ DenL K cm G vs ds := by
  cases b with
  | true =>
    obtain ⟨l, vs, ds', h1, h2, h3, h4⟩ := h.1 rfl
    cases h2
    exact ⟨l, vs, h1, h3, h4⟩
  | false =>
    have q := h.2 rfl
    cases q with
    | lst h1 h2 => exact ⟨_, _, rfl, s.sqL h1, h2⟩
theorem VR.tup {ds : List Dt} (s : Exx G H) (h : VR K cm H G v (.tup ds) b) : ∃ l vs, v = .ref l ∧ SqT K H l vs ∧ SqT K G l vs ∧ DenL K cm G vs ds := by
  cases b with
  | true =>
    obtain ⟨l, vs, ds', h1, h2, h3, h4⟩ := h.1 rfl
    cases h2
  | false =>
    have q := h.2 rfl
    cases q with
    | tup h1 h2 => exact ⟨_, _, rfl, s.sqT h1, h1, h2⟩
theorem VR.int {i : Int} (h : VR K cm H G v (.int i) b) : v = .int i := by
  cases b with
  | true =>
    obtain ⟨l, vs, ds', h1, h2, h3, h4⟩ := h.1 rfl
    cases h2
  | false => cases h.2 rfl; rfl
theorem VR.bl {i : Bool} (h : VR K cm H G v (.bl i) b) : v = .bl i := by
  cases b with
  | true =>
    obtain ⟨l, vs, ds', h1, h2, h3, h4⟩ := h.1 rfl
    cases h2
  | false => cases h.2 rfl; rfl
theorem VR.str {i : Str} (h : VR K cm H G v (.str i) b) : v = .str i := by
  cases b with
  | true =>
    obtain ⟨l, vs, ds', h1, h2, h3, h4⟩ := h.1 rfl
    cases h2
  | false => cases h.2 rfl; rfl
theorem VR.non (h : VR K cm H G v .non b) : v = .non := by
  cases b with
  | true =>
    obtain ⟨l, vs, ds', h1, h2, h3, h4⟩ := h.1 rfl
    cases h2
  | false => cases h.2 rfl; rfl
/-- a result is shown -/
theorem RR.pub {r : R} (g : Grow H G H' G') (h : RR K cm H H' G' v r) : ∃ G2, Grow H G H' G2 ∧ VR K cm H' G2 v r.dt r.sh := by
  cases r with
  | vis d => exact ⟨G', g, .vis h⟩
  | bor d => exact ⟨G', g, ⟨fun _ => h, fun e => (nomatch e)⟩⟩
  | fre od =>
    obtain ⟨l, o, rfl, h1, h2, h3, h4⟩ := h
    cases o <;> cases od <;> first | exact h4.elim | skip
    rename_i vs ds
    exact ⟨_, g.show h1 h2 h3, .vis (.lst (SqL.of upd_same) (DenL.mono (Exx.new h3) h4))⟩
end

/-! ### states -/
structure Rel (K : PySem.W.Frag) (cm : Nat → Addr) (σ : L2.St) (H G : Hp) (env : Sl) : Prop where
  len : σ.length = env.length
  sub : Exx G H
  val : ∀ (i : Nat) (d : Dt), env[i]? = some (.val d) → ∃ v, σ[i]? = some (some v) ∧ Den K cm G v d
  own : ∀ (i : Nat) (od : OD), env[i]? = some (.own od) → ∃ l o, σ[i]? = some (some (.ref l)) ∧ H l = some o ∧ G l = none ∧ OwnR K cm G o od
  dist : ∀ (i j : Nat) (od od' : OD) (a : Addr), env[i]? = some (.own od) → env[j]? = some (.own od') → σ[i]? = some (some (.ref a)) → σ[j]? = some (some (.ref a)) → i = j
section
variable {K : PySem.W.Frag} {cm : Nat → Addr} {σ : L2.St} {H G H' G' : Hp} {env : Sl}
theorem Rel.grow (r : Rel K cm σ H G env) (g : Grow H G H' G') : Rel K cm σ H' G' env :=
  ⟨r.len, g.sub, fun i d h => by
    obtain ⟨v, h1, h2⟩ := r.val i d h
    exact ⟨v, h1, h2.mono g.gx⟩, fun i od h => by
    obtain ⟨l, o, h1, h2, h3, h4⟩ := r.own i od h
    exact ⟨l, o, h1, g.hx l o h2, g.hid l o h2 h3, h4.mono g.gx⟩, r.dist⟩
/-- an address that a name holds as its own -/
def Own (σ : L2.St) (env : Sl) (a : Addr) : Prop := ∃ (i : Nat) (od : OD), env[i]? = some (.own od) ∧ σ[i]? = some (some (.ref a))
end

/-- what code leaves as it was, of the heaps -/
structure FrH (σ : L2.St) (env : Sl) (H G H' G' : Hp) : Prop where
  gx : Exx G G'
  hid : ∀ a o, H a = some o → G a = none → ¬ Own σ env a → G' a = none
  keep : ∀ a o, H a = some o → ¬ Own σ env a → H' a = some o
  there : ∀ a o, H a = some o → ∃ o', H' a = some o'
  sub : Exx G' H'
structure Fr (σ : L2.St) (env : Sl) (H G : Hp) (σ' : L2.St) (env' : Sl) (H' G' : Hp) : Prop extends FrH σ env H G H' G' where
  fresh : ∀ a o, H a = some o → ¬ Own σ env a → ¬ Own σ' env' a
  take : ∀ i : Nat, env'[i]? = some .take → env[i]? = some .take ∧ σ'[i]? = σ[i]?
section
variable {K : PySem.W.Frag} {cm : Nat → Addr} {σ σ1 σ2 : L2.St} {H G H1 G1 H2 G2 : Hp} {env env1 env2 : Sl}
theorem Grow.frH (g : Grow H G H1 G1) : FrH σ env H G H1 G1 := ⟨g.gx, fun a o h n _ => g.hid a o h n, fun a o h _ => g.hx a o h, fun a o h => ⟨o, g.hx a o h⟩, g.sub⟩
theorem Grow.fr (g : Grow H G H1 G1) : Fr σ env H G σ env H1 G1 := { g.frH with fresh := fun _ _ _ h => h, take := fun _ h => ⟨h, rfl⟩ }
theorem Fr.trH (a : Fr σ env H G σ1 env1 H1 G1) (b : FrH σ1 env1 H1 G1 H2 G2) : FrH σ env H G H2 G2 where
  gx := a.gx.trans b.gx
  hid := fun x o h n w => b.hid x o (a.keep x o h w) (a.hid x o h n w) (a.fresh x o h w)
  keep := fun x o h w => b.keep x o (a.keep x o h w) (a.fresh x o h w)
  there := fun x o h => by
    obtain ⟨o1, h1⟩ := a.there x o h
    exact b.there x o1 h1
  sub := b.sub
theorem Fr.trans (a : Fr σ env H G σ1 env1 H1 G1) (b : Fr σ1 env1 H1 G1 σ2 env2 H2 G2) : Fr σ env H G σ2 env2 H2 G2 :=
  { a.trH b.toFrH with
    fresh := fun x o h w => b.fresh x o (a.keep x o h w) (a.fresh x o h w)
    take := fun i h => by
      obtain ⟨h1, e1⟩ := b.take i h
      obtain ⟨h2, e2⟩ := a.take i h1
      exact ⟨h2, e1.trans e2⟩ }
theorem Fr.refl (s : Exx G H) : Fr σ env H G σ env H G := (Grow.refl s).fr
end

/-! ### the weakest readings -/
section
variable (X : Cx)
def wpE (e : Expr) : TE := fun σ H Q => ∀ pins s, Inv X pins σ H s → wpAny (model X.prog X.w) X.A (eval e X.env) (EP X pins σ Q) X.xe s
def wpT (e : Expr) : TT := fun σ H Q => ∀ pins s, Inv X pins σ H s → wpAny (model X.prog X.w) X.A (isTrue e X.env (eval e X.env)) (TP X pins σ Q) X.xe s
def wpA (es : List Expr) : TA := fun σ H Q => ∀ (pos : Pos) pins s, Inv X pins σ H s → wpAny (model X.prog X.w) X.A (spliced (backTo pos (starEach es X.env))) (AP X pins σ Q) X.xe s
def wpS (st : Stmt) : TS := fun D σ H => ∀ pins s, Inv X pins σ H s → wpAny (model X.prog X.w) X.A (exec st X.env) (SP X pins D) X.xe s
def wpSs (st : List Stmt) : TS := fun D σ H => ∀ pins s, Inv X pins σ H s → wpAny (model X.prog X.w) X.A (execs st X.env) (SP X pins D) X.xe s
def wpI (tg iter : Expr) : TI := fun σ H R => ∀ pins s, Inv X pins σ H s → wpAny (model X.prog X.w) X.A (eval iter X.env) (fun v s1 => wpAny (model X.prog X.w) X.A (pyIter v) (PIE X pins σ tg R) X.xe s1) X.xe s
def wpG (tg : Expr) : TG := fun v σ H Q => ∀ pins s u, Inv X pins σ H s → RelV v u → wpAny (model X.prog X.w) X.A (assign tg X.env u) (fun _ s' => ∃ σ' H', Inv X pins σ' H' s' ∧ Q σ' H') X.xe s
end
section
variable {X : Cx}
theorem pe_w {e : Expr} : PE X e (wpE X e) := ⟨fun pins s σ H Q I h => h pins s I⟩
theorem pt_w {e : Expr} : PT X e (wpT X e) := ⟨fun pins s σ H Q I h => h pins s I⟩
theorem pa_w {es : List Expr} : PA X es (wpA X es) := ⟨fun pos pins s σ H Q I h => h pos pins s I⟩
theorem ps_w {st : Stmt} : PS X st (wpS X st) := ⟨fun pins s σ H Q I h => h pins s I⟩
theorem pss_w {st : List Stmt} : PSs X st (wpSs X st) := ⟨fun pins s σ H Q I h => h pins s I⟩
theorem pi_w {tg iter : Expr} : PI X tg iter (wpI X tg iter) := ⟨fun pins s σ H R I h => h pins s I⟩
theorem pg_w {tg : Expr} : PG X tg (wpG X tg) := ⟨fun pins s σ H v u Q I r h => h pins s u I r⟩
theorem to_e {e : Expr} {t : TE} {σ : L2.St} {H : Hp} {Q : VK} (h : PE X e t) (q : t σ H Q) : wpE X e σ H Q := fun pins s I => h.run pins s σ H Q I q
theorem to_t {e : Expr} {t : TT} {σ : L2.St} {H : Hp} {Q : Bool → Hp → Prop} (h : PT X e t) (q : t σ H Q) : wpT X e σ H Q := fun pins s I => h.run pins s σ H Q I q
theorem to_a {e : List Expr} {t : TA} {σ : L2.St} {H : Hp} {Q : List V → Hp → Prop} (h : PA X e t) (q : t σ H Q) : wpA X e σ H Q := fun pos pins s I => h.run pos pins s σ H Q I q
theorem to_s {st : Stmt} {t : TS} {σ : L2.St} {H : Hp} {D : Ends} (h : PS X st t) (q : t D σ H) : wpS X st D σ H := fun pins s I => h.run pins s σ H D I q
theorem to_ss {st : List Stmt} {t : TS} {σ : L2.St} {H : Hp} {D : Ends} (h : PSs X st t) (q : t D σ H) : wpSs X st D σ H := fun pins s I => h.run pins s σ H D I q
theorem to_i {tg iter : Expr} {t : TI} {σ : L2.St} {H : Hp} {Q : It → Hp → Prop} (h : PI X tg iter t) (q : t σ H Q) : wpI X tg iter σ H Q := fun pins s I => h.run pins s σ H Q I q
end
end Pyl
end
section
set_option Elab.async false
set_option linter.all false
set_option maxRecDepth 100000
set_option maxHeartbeats 2000000
namespace Pyl
open PySem L2

/-- the code of e gives f, of the frame's data -/
structure JE (X : Cx) (cm : Nat → Addr) (e : Expr) (f : EF) : Prop where
  run : ∀ (env : Sl) (r : R) (σ : L2.St) (H G : Hp), f env = some r → Rel X.K cm σ H G env → ∀ Q : VK, (∀ v H' G', Grow H G H' G' → RR X.K cm H H' G' v r → Q v H') → wpE X e σ H Q
structure JT (X : Cx) (cm : Nat → Addr) (e : Expr) (f : TF) : Prop where
  run : ∀ (env : Sl) (b : Bool) (σ : L2.St) (H G : Hp), f env = some b → Rel X.K cm σ H G env → ∀ Q : Bool → Hp → Prop, (∀ H' G', Grow H G H' G' → Q b H') → wpT X e σ H Q
inductive VRs (K : PySem.W.Frag) (cm : Nat → Addr) (H G : Hp) : List V → List (Dt × Bool) → Prop
  | nil : VRs K cm H G [] []
  | cons {v : V} {vs : List V} {d : Dt} {b : Bool} {ds : List (Dt × Bool)} : VR K cm H G v d b → VRs K cm H G vs ds → VRs K cm H G (v :: vs) ((d, b) :: ds)
structure JA (X : Cx) (cm : Nat → Addr) (es : List Expr) (f : AF) : Prop where
  run : ∀ (env : Sl) (r : List (Dt × Bool)) (σ : L2.St) (H G : Hp), f env = some r → Rel X.K cm σ H G env → ∀ Q : List V → Hp → Prop, (∀ vs H' G', Grow H G H' G' → VRs X.K cm H' G' vs r → Q vs H') → wpA X es σ H Q
  len : ∀ (env : Sl) (r : List (Dt × Bool)), f env = some r → r.length = es.length
section
variable {X : Cx} {cm : Nat → Addr} {e a b c : Expr} {f fa fb : EF} {σ : L2.St} {H G : Hp} {env : Sl} {pos : Pos}

theorem JE.pub (h : JE X cm e f) {r : R} (hf : f env = some r) (rel : Rel X.K cm σ H G env) {Q : VK} (q : ∀ v H' G', Grow H G H' G' → VR X.K cm H' G' v r.dt r.sh → Q v H') : wpE X e σ H Q := by
  refine h.run env r σ H G hf rel Q fun v H' G' g rr => ?_
  obtain ⟨G2, g2, vr⟩ := RR.pub g rr
  exact q v H' G2 g2 vr

/-! names, constants -/
theorem je_var {x : Str} (i : Nat) (hN : X.N[i]? = some x := by rfl) (hv : Vis X.env.scope x := by first | exact Or.inl rfl | exact Or.inr (Or.inl rfl) | exact Or.inr (Or.inr rfl)) (hd : (x == ("__debug__" : Str)) = false := by decide)
    (hcd : (x == ("__classdict__" : Str)) = false := by decide) : JE X cm (.Name x pos) (eVar i) := by
  refine ⟨fun env r σ H G hf rel Q q => ?_⟩
  unfold eVar at hf
  split at hf
  · rename_i d hd'
    cases hf
    obtain ⟨v, h1, h2⟩ := rel.val i d hd'
    exact to_e (pe_var hN hv hd hcd) ⟨v, h1, q v H G (.refl rel.sub) h2⟩
  · rename_i ds hd'
    cases hf
    obtain ⟨l, o, h1, h2, h3, h4⟩ := rel.own i _ hd'
    cases o with
    | lst vs => exact to_e (pe_var hN hv hd hcd) ⟨_, h1, q _ H G (.refl rel.sub) ⟨l, vs, ds, rfl, rfl, SqL.of h2, h4⟩⟩
    | _ => exact h4.elim
  · cases hf
theorem je_int {i j} : JE X cm (.Constant (.int i) j pos) (eC (.int i)) := ⟨fun env r σ H G hf rel Q q => by
  cases hf
  exact to_e pe_int (q _ H G (.refl rel.sub) (Den.int i))⟩
theorem je_bl {i j} : JE X cm (.Constant (.bool i) j pos) (eC (.bl i)) := ⟨fun env r σ H G hf rel Q q => by
  cases hf
  exact to_e pe_bl (q _ H G (.refl rel.sub) (Den.bl i))⟩
theorem je_non {j} : JE X cm (.Constant .none j pos) (eC .non) := ⟨fun env r σ H G hf rel Q q => by
  cases hf
  exact to_e pe_non (q _ H G (.refl rel.sub) Den.non)⟩
theorem je_str {i j} : JE X cm (.Constant (.str i) j pos) (eC (.str i)) := ⟨fun env r σ H G hf rel Q q => by
  cases hf
  exact to_e pe_str (q _ H G (.refl rel.sub) (Den.str i))⟩

/-! argument lists -/
theorem ja_nil : JA X cm [] aNil := ⟨fun env r σ H G hf rel Q q => by
  cases hf
  exact to_a pa_nil (q _ H G (.refl rel.sub) .nil), fun env r h => by cases h; rfl⟩
theorem VRs.grow {K : PySem.W.Frag} {H G H' G' : Hp} (g : Grow H G H' G') : ∀ {vs : List V} {ds : List (Dt × Bool)}, VRs K cm H G vs ds → VRs K cm H' G' vs ds
  | _, _, .nil => .nil
  | _, _, .cons h t => .cons (h.grow g) (VRs.grow g t)
theorem ja_cons {es : List Expr} {fr : AF} (ha : JE X cm e fa) (hr : JA X cm es fr) (hs : starEach (e :: es) X.env = (false, eval e X.env) :: starEach es X.env := by rfl) : JA X cm (e :: es) (aCons fa fr) := by
  refine ⟨fun env r σ H G hf rel Q q => ?_, fun env r hf => by
    obtain ⟨ra, h1, hf⟩ := Option.bind_eq_some_iff.mp hf
    obtain ⟨rs, h2, hf⟩ := Option.bind_eq_some_iff.mp hf
    cases hf
    rw [List.length_cons, List.length_cons, hr.len env rs h2]⟩
  obtain ⟨ra, h1, hf⟩ := Option.bind_eq_some_iff.mp hf
  obtain ⟨rs, h2, hf⟩ := Option.bind_eq_some_iff.mp hf
  cases hf
  refine to_a (pa_cons pe_w pa_w hs) ?_
  refine ha.pub h1 rel fun v H1 G1 g1 vr => ?_
  refine hr.run env rs σ H1 G1 h2 (rel.grow g1) _ fun vs H2 G2 g2 vrs => ?_
  exact q _ H2 G2 (g1.trans g2) (.cons (vr.grow g2) vrs)
theorem VRs.plain {K : PySem.W.Frag} {H G : Hp} : ∀ {vs : List V} {rs : List (Dt × Bool)}, VRs K cm H G vs rs → rs.any (·.2) = false → DenL K cm G vs (rs.map (·.1))
  | _, _, .nil, _ => .nil
  | _, _, .cons (b := b) h t, e => by
    rw [List.any_cons, Bool.or_eq_false_iff] at e
    have e1 : b = false := e.1
    subst e1
    exact .cons h.den (VRs.plain t e.2)
theorem plain_some {rs : List (Dt × Bool)} {ds : List Dt} (h : plain rs = some ds) : rs.any (·.2) = false ∧ ds = rs.map (·.1) := by
  unfold Pyl.plain at h
  split at h
  · cases h
  · rename_i hn
    cases h
    exact ⟨by simpa using hn, rfl⟩
theorem VRs.length {K : PySem.W.Frag} {H G : Hp} : ∀ {vs : List V} {rs : List (Dt × Bool)}, VRs K cm H G vs rs → vs.length = rs.length
  | _, _, .nil => rfl
  | _, _, .cons h t => by rw [List.length_cons, List.length_cons, VRs.length t]
theorem je_tup {es : List Expr} {ft : AF} {k : Nat} (h : JA X cm es ft) (hz : es.length ≤ 100000 := by decide) : JE X cm (.Tuple es k pos) (eTup ft) := by
  refine ⟨fun env r σ H G hf rel Q q => ?_⟩
  obtain ⟨rs, h1, hf⟩ := Option.bind_eq_some_iff.mp hf
  obtain ⟨ds, h2, hf⟩ := Option.bind_eq_some_iff.mp hf
  cases hf
  obtain ⟨h3, rfl⟩ := plain_some h2
  refine to_e (pe_tup pa_w) ?_
  refine h.run env rs σ H G h1 rel _ fun vs H1 G1 g1 vrs => ⟨?_, fun p hp => ?_⟩
  · rw [vrs.length, h.len env rs h1]
    exact Nat.le_trans hz (by decide)
  · have n := g1.sub.back hp
    exact q _ _ _ (g1.trans (.new g1.sub hp)) (.tup (SqT.of upd_same) ((vrs.plain h3).mono (.new n)))
theorem je_lst {es : List Expr} {ft : AF} (h : JA X cm es ft) (hz : es.length ≤ 100000 := by decide) : JE X cm (.List es pos) (eLst ft) := by
  refine ⟨fun env r σ H G hf rel Q q => ?_⟩
  obtain ⟨rs, h1, hf⟩ := Option.bind_eq_some_iff.mp hf
  obtain ⟨ds, h2, hf⟩ := Option.bind_eq_some_iff.mp hf
  cases hf
  obtain ⟨h3, rfl⟩ := plain_some h2
  refine to_e (pe_lst pa_w) ?_
  refine h.run env rs σ H G h1 rel _ fun vs H1 G1 g1 vrs => ⟨?_, fun p hp => ?_⟩
  · rw [vrs.length, h.len env rs h1]
    exact Nat.le_trans hz (by decide)
  · have n := g1.sub.back hp
    exact q _ _ _ (g1.trans (.hide g1.sub hp)) ⟨p, _, rfl, g1.hx.back hp, upd_same, n, vrs.plain h3⟩

/-! operations -/
def P2 (X : Cx) (cm : Nat → Addr) (f : Value → Value → Sem Value) (p : Dt → Dt → Option R) : Prop :=
  ∀ (d1 d2 : Dt) (b1 b2 : Bool) (out : R) (v1 v2 : V) (H G : Hp), VR X.K cm H G v1 d1 b1 → VR X.K cm H G v2 d2 b2 → Exx G H → p d1 d2 = some out →
    ∃ r : R2, OpR X f r ∧ ∀ Q : VK, (∀ v H' G', Grow H G H' G' → RR X.K cm H H' G' v out → Q v H') → r v1 v2 H Q
theorem RR.hx {K : PySem.W.Frag} {H H0 H1 G1 : Hp} {v : V} {r : R} (e : Exx H0 H) (h : RR K cm H H1 G1 v r) : RR K cm H0 H1 G1 v r := by
  cases r with
  | vis d => exact h
  | bor d => exact h
  | fre od =>
    obtain ⟨l, o, h1, h2, h3⟩ := h
    exact ⟨l, o, h1, e.back h2, h3⟩
theorem run2 {fop : Value → Value → Sem Value} {p : Dt → Dt → Option R} (ok : P2 X cm fop p) (ha : JE X cm a fa) (hb : JE X cm b fb) {r : R} (hf : e2 p fa fb env = some r) (rel : Rel X.K cm σ H G env) {Q : VK}
    (q : ∀ v H' G', Grow H G H' G' → RR X.K cm H H' G' v r → Q v H') {pins : List (Addr × Obj)} {s : Shared} (I : Inv X pins σ H s) :
    wpAny (model X.prog X.w) X.A (eval a X.env) (fun v s₁ => wpAny (model X.prog X.w) X.A (eval b X.env) (fun u s₂ => wpAny (model X.prog X.w) X.A (fop v u) (EP X pins σ Q) X.xe s₂) X.xe s₁) X.xe s := by
  obtain ⟨ra, h1, hf⟩ := Option.bind_eq_some_iff.mp hf
  obtain ⟨rb, h2, hf⟩ := Option.bind_eq_some_iff.mp hf
  refine bin (ta := wpE X a) (tb := wpE X b) pe_w pe_w I (R := fun x y H2 => ∃ rr : R2, OpR X fop rr ∧ rr x y H2 Q) ?_ fun v u s2 x y H2 I2 rx ry hq => ?_
  · refine ha.pub h1 rel fun v H1 G1 g1 vr => ?_
    refine hb.pub h2 (rel.grow g1) fun w H2 G2 g2 wr => ?_
    obtain ⟨rr, ho, hr⟩ := ok _ _ _ _ _ _ _ H2 G2 (vr.grow g2) wr g2.sub hf
    exact ⟨rr, ho, hr Q fun v' H3 G3 g3 rr3 => q v' H3 G3 ((g1.trans g2).trans g3) (rr3.hx (g1.trans g2).hx)⟩
  · obtain ⟨rr, ho, hr⟩ := hq
    exact ho pins s2 σ H2 x y v u Q I2 rx ry hr
theorem je_bin {op : Operator} {p : Dt → Dt → Option R} (ok : P2 X cm (binaryOp op) p) (ha : JE X cm a fa) (hb : JE X cm b fb) : JE X cm (.BinOp a op b pos) (e2 p fa fb) :=
  ⟨fun env r σ H G hf rel Q q pins s I => wpAny_BinOp (run2 ok ha hb hf rel q I)⟩
theorem je_cmp {op : CmpOp} {p : Dt → Dt → Option R} (ok : P2 X cm (compareOp op) p) (ha : JE X cm a fa) (hb : JE X cm b fb) (hm : behindInMarks op b = false := by first | exact nobehind _ (by decide) (by decide) | rfl) : JE X cm (.Compare a [op] [b] pos) (e2 p fa fb) :=
  ⟨fun env r σ H G hf rel Q q pins s I => wpAny_Compare1 (run2 ok ha hb hf rel q I) hm⟩

theorem p2_int {f : Value → Value → Sem Value} {C : Int → Int → Prop} {g : Int → Int → V} {c : Int → Int → Option Int} (ho : OpR X f (rI C g)) (hc : ∀ i j k, c i j = some k → C i j ∧ g i j = .int k) : P2 X cm f (pIntI c) := by
  intro d1 d2 b1 b2 out v1 v2 H G r1 r2 sub hp
  unfold pIntI at hp
  split at hp
  · rename_i i j
    obtain ⟨k, hk, hp⟩ := Option.map_eq_some_iff.mp hp
    subst hp
    have e1 := r1.int
    have e2 := r2.int
    subst e1 e2
    obtain ⟨h1, h2⟩ := hc i j k hk
    exact ⟨_, ho, fun Q q => ⟨i, j, rfl, rfl, h1, by rw [h2]; exact q _ H G (.refl sub) (Den.int k)⟩⟩
  · cases hp
theorem p2_int0 {f : Value → Value → Sem Value} {g : Int → Int → V} {c : Int → Int → Option Int} (ho : OpR X f (rI0 g)) (hc : ∀ i j k, c i j = some k → g i j = .int k) : P2 X cm f (pIntI c) := by
  intro d1 d2 b1 b2 out v1 v2 H G r1 r2 sub hp
  unfold pIntI at hp
  split at hp
  · rename_i i j
    obtain ⟨k, hk, hp⟩ := Option.map_eq_some_iff.mp hp
    subst hp
    have e1 := r1.int
    have e2 := r2.int
    subst e1 e2
    have h2 := hc i j k hk
    exact ⟨_, ho, fun Q q => ⟨i, j, rfl, rfl, by rw [h2]; exact q _ H G (.refl sub) (Den.int k)⟩⟩
  · cases hp
theorem p2_sub : P2 X cm (binaryOp .Sub) pSub := p2_int0 op_sub fun i j k h => by cases h; rfl
theorem p2_mod : P2 X cm (binaryOp .Mod) pMod := p2_int op_mod fun i j k h => by
  split at h
  · rename_i hj
    cases h
    exact ⟨hj, rfl⟩
  · cases h
theorem log2_of {i : Int} {n : Nat} (h : i.natAbs < 2 ^ n) (h0 : 0 < n) : i.natAbs.log2 < n := PySem.Flt.log2_lt_of h0 h
theorem p2_div : P2 X cm (binaryOp .FloorDiv) pDiv := p2_int op_fdivW fun i j k h => by
  split at h
  · rename_i hj
    cases h
    exact ⟨⟨hj.1, Nat.lt_of_lt_of_le (log2_of (n := 8999) (by rw [← DIVB_eq]; exact hj.2) (by decide)) (by decide)⟩, rfl⟩
  · cases h
theorem p2_pow : P2 X cm (binaryOp .Pow) pPow := p2_int op_pow fun i j k h => by
  split at h
  · rename_i hj
    cases h
    exact ⟨hj, rfl⟩
  · cases h
theorem p2_shr : P2 X cm (binaryOp .RShift) pShr := p2_int op_shr fun i j k h => by
  split at h
  · rename_i hj
    cases h
    exact ⟨hj, rfl⟩
  · cases h
theorem p2_shl : P2 X cm (binaryOp .LShift) pShl := p2_int op_shlW fun i j k h => by
  split at h
  · rename_i hj
    cases h
    refine ⟨⟨hj.1, ?_⟩, rfl⟩
    have h2 := log2_of (n := 400000) (by rw [← BIG_eq]; exact hj.2.2) (by decide)
    have h3 : Builtin.Int.intBits i ≤ i.natAbs.log2 + 1 := by
      unfold Builtin.Int.intBits
      split <;> omega
    have h4 := hj.2.1
    have e : ((2 : Int) ^ 27) = 134217728 := by decide
    rw [e]
    omega
  · cases h
theorem p2_mul : P2 X cm (binaryOp .Mult) pMul := by
  intro d1 d2 b1 b2 out v1 v2 H G r1 r2 sub hp
  unfold pMul at hp
  split at hp
  · rename_i i j
    split at hp
    · rename_i hb
      cases hp
      have e1 := r1.int
      have e2 := r2.int
      subst e1 e2
      exact ⟨_, op_mulW, fun Q q => ⟨i, j, rfl, rfl, wide_mul (a := 400000) (b := 400000) (by rw [← BIG_eq]; exact hb.1) (by rw [← BIG_eq]; exact hb.2) (by decide) (by decide) (by decide), q _ H G (.refl sub) (Den.int _)⟩⟩
    · cases hp
  · cases hp
theorem lim_ok {n : Nat} (h : n ≤ LIM) : n ≤ sizeLine := Nat.le_trans h (by decide)
/-- list + list, any two lists that are read -/
def rCatS (K : PySem.W.Frag) : R2 := fun x y H Q => ∃ l b xs zs, x = .ref l ∧ y = .ref b ∧ SqL K H l xs ∧ SqL K H b zs ∧ xs.length + zs.length ≤ sizeLine ∧ ∀ p, H p = none → Q (.ref p) (upd H p (.lst (xs ++ zs)))
end
end Pyl
end
section
set_option Elab.async false
set_option linter.all false
set_option maxRecDepth 100000
set_option maxHeartbeats 2000000
namespace Pyl
open PySem L2
section
variable {X : Cx} {cm : Nat → Addr} {e a b c : Expr} {f fa fb fc : EF} {σ : L2.St} {H G : Hp} {env : Sl} {pos : Pos}

theorem op_catS : OpR X (binaryOp .Add) (rCatS X.K) := by
  intro pins s σ H x y v u Q I rx ry h
  obtain ⟨l, b, xs, zs, rfl, rfl, hH, hB, hz, q⟩ := h
  cases rx
  cases ry
  obtain ⟨its, r, ⟨⟨cls, dd, data, sl⟩, n, ho, hc, hd, hdat⟩, z⟩ := I.list hH
  obtain ⟨its2, r2, ⟨⟨cls2, dd2, data2, sl2⟩, n2, ho2, hc2, hd2, hdat2⟩, z2⟩ := I.list hB
  simp only at hc hd hdat hc2 hd2 hdat2
  subst hc hdat hc2 hdat2
  have l1 := r.length
  have l2 := r2.length
  refine PySem.concat_meets ⟨_, ho, rfl⟩ ⟨_, ho2, rfl⟩ PySem.noFill_list_add PySem.seq_list_add PySem.F.slot_list_add PySem.F.entry_list_add (PySem.F.args_list_add_2 _ _) (PyProof.Rows.list_addW l b its.toArray its2.toArray n n2 dd dd2 sl sl2 (by rw [List.size_toArray, List.size_toArray]; omega)) ⟨ho, ho2, ?_⟩
  have ea : its.toArray ++ its2.toArray = (its ++ its2).toArray := by simp
  rw [ea]
  exact ⟨.ref _, _, I.lnew (t' := s.toks) (r.append r2) (by rw [List.length_append]; omega), rfl, q _ I.fresh⟩
theorem p2_add : P2 X cm (binaryOp .Add) pAdd := by
  intro d1 d2 b1 b2 out v1 v2 H G r1 r2 sub hp
  unfold pAdd at hp
  split at hp
  · cases hp
    have e1 := r1.int
    have e2 := r2.int
    subst e1 e2
    exact ⟨_, op_add, fun Q q => ⟨_, _, rfl, rfl, q _ H G (.refl sub) (Den.int _)⟩⟩
  · rename_i as bs
    split at hp
    · rename_i hl
      cases hp
      obtain ⟨l1, vs1, rfl, s1, n1⟩ := r1.lst sub
      obtain ⟨l2, vs2, rfl, s2, n2⟩ := r2.lst sub
      refine ⟨_, op_catS, fun Q q => ⟨l1, l2, vs1, vs2, rfl, rfl, s1, s2, ?_, fun p hp => ?_⟩⟩
      · rw [n1.length, n2.length]
        exact lim_ok hl
      · exact q _ _ _ (.hide sub hp) ⟨p, _, rfl, hp, upd_same, sub.back hp, n1.append n2⟩
    · cases hp
  · rename_i as bs
    split at hp
    · rename_i hl
      cases hp
      obtain ⟨l1, vs1, rfl, s1, g1, n1⟩ := r1.tup sub
      obtain ⟨l2, vs2, rfl, s2, g2, n2⟩ := r2.tup sub
      refine ⟨_, op_catA, fun Q q => ⟨l1, l2, vs1, vs2, rfl, rfl, s1, s2, ?_, fun h0 => ?_, fun h0 h1 => ?_, fun h0 h1 p hp => ?_⟩⟩
      · rw [n1.length, n2.length]
        exact lim_ok hl
      · subst h0
        cases n1
        exact q _ _ _ (.refl sub) (Den.tup g2 n2)
      · subst h1
        cases n2
        exact q _ _ _ (.refl sub) (by rw [List.append_nil]; exact Den.tup g1 n1)
      · have n := sub.back hp
        exact q _ _ _ (.new sub hp) (Den.tup (SqT.of upd_same) ((n1.append n2).mono (.new n)))
    · cases hp
  · rename_i x y
    split at hp
    · rename_i hl
      cases hp
      have e1 := r1.str
      have e2 := r2.str
      subst e1 e2
      exact ⟨_, op_add_str, fun Q q => ⟨_, _, rfl, rfl, lim_ok hl, q _ H G (.refl sub) (Den.str _)⟩⟩
    · cases hp
  · cases hp

/-! comparisons -/
theorem p2_cmp {f : Value → Value → Sem Value} {g : Int → Int → Bool} (ho : OpR X f (rI0 fun i j => .bl (g i j))) : P2 X cm f (pCmp g) := by
  intro d1 d2 b1 b2 out v1 v2 H G r1 r2 sub hp
  unfold pCmp at hp
  split at hp
  · cases hp
    have e1 := r1.int
    have e2 := r2.int
    subst e1 e2
    exact ⟨_, ho, fun Q q => ⟨_, _, rfl, rfl, q _ H G (.refl sub) (Den.bl _)⟩⟩
  · cases hp
theorem p2_lt : P2 X cm (compareOp .Lt) pLt := p2_cmp op_lt
theorem p2_le : P2 X cm (compareOp .LtE) pLe := p2_cmp op_le
theorem p2_gt : P2 X cm (compareOp .Gt) pGt := p2_cmp op_gt
theorem p2_ge : P2 X cm (compareOp .GtE) pGe := p2_cmp op_ge
section
variable {K : PySem.W.Frag}
mutual
theorem Den.dp (s : Exx G H) : ∀ {d : Dt} {v : V} {p : PyData}, Den K cm G v d → d.py = some p → Dp K H v p
  | .non, _, _, h, e => by
    cases h
    unfold Dt.py at e
    cases e
    exact .non
  | .bl b, _, _, h, e => by
    cases h
    unfold Dt.py at e
    cases e
    exact .bl b
  | .int i, _, _, h, e => by
    cases h
    unfold Dt.py at e
    cases e
    exact .int i
  | .str x, _, _, h, e => by
    cases h
    unfold Dt.py at e
    cases e
    exact .str x
  | .lst ds, _, _, h, e => by
    cases h with
    | lst h1 h2 =>
      unfold Dt.py at e
      obtain ⟨ps, e1, e2⟩ := Option.map_eq_some_iff.mp e
      subst e2
      exact .lst (s.sqL h1) (DenL.dp s h2 e1)
  | .tup ds, _, _, h, e => by
    cases h with
    | tup h1 h2 =>
      unfold Dt.py at e
      obtain ⟨ps, e1, e2⟩ := Option.map_eq_some_iff.mp e
      subst e2
      exact .tup (s.sqT h1) (DenL.dp s h2 e1)
  | .obj _ _, _, _, h, e => by
    unfold Dt.py at e
    cases e
theorem DenL.dp (s : Exx G H) : ∀ {ds : List Dt} {vs : List V} {ps : List PyData}, DenL K cm G vs ds → Dt.pyL ds = some ps → DpAll K H vs ps
  | [], _, _, h, e => by
    cases h
    unfold Dt.pyL at e
    cases e
    exact .nil
  | d :: ds, _, _, h, e => by
    cases h with
    | cons h1 h2 =>
      unfold Dt.pyL at e
      obtain ⟨p, e1, e⟩ := Option.bind_eq_some_iff.mp e
      obtain ⟨ps, e2, e⟩ := Option.bind_eq_some_iff.mp e
      cases e
      exact .cons (Den.dp s h1 e1) (DenL.dp s h2 e2)
end
theorem VR.dp {d : Dt} {v : V} {b : Bool} {p : PyData} (s : Exx G H) (h : VR K cm H G v d b) (e : d.py = some p) : Dp K H v p := by
  cases b with
  | false => exact h.den.dp s e
  | true =>
    obtain ⟨l, vs, ds, h1, h2, h3, h4⟩ := h.1 rfl
    subst h1 h2
    unfold Dt.py at e
    obtain ⟨ps, e1, e2⟩ := Option.map_eq_some_iff.mp e
    subst e2
    exact .lst h3 (h4.dp s e1)
end
theorem eqD_some {d1 d2 : Dt} {t : Bool} (h : eqD d1 d2 = some t) : ∃ p q, d1.py = some p ∧ d2.py = some q ∧ SeqAt.shaped p = true ∧ SeqAt.shaped q = true ∧ t = PyData.eqv p q := by
  unfold eqD at h
  obtain ⟨p, e1, h⟩ := Option.bind_eq_some_iff.mp h
  obtain ⟨q, e2, h⟩ := Option.bind_eq_some_iff.mp h
  split at h
  · rename_i hs
    cases h
    rw [Bool.and_eq_true] at hs
    exact ⟨p, q, e1, e2, hs.1, hs.2, rfl⟩
  · cases h
theorem p2_eq (hu : X.A.units + 64 < cLine) : P2 X cm (compareOp .Eq) pEq := by
  intro d1 d2 b1 b2 out v1 v2 H G r1 r2 sub hp
  obtain ⟨t, ht, hp⟩ := Option.map_eq_some_iff.mp hp
  subst hp
  obtain ⟨p, q', e1, e2, s1, s2, rfl⟩ := eqD_some ht
  exact ⟨_, op_eqD hu, fun Q q => ⟨p, q', r1.dp sub e1, r2.dp sub e2, s1, s2, q _ H G (.refl sub) (Den.bl _)⟩⟩
theorem p2_ne (hu : X.A.units + 64 < cLine) : P2 X cm (compareOp .NotEq) pNe := by
  intro d1 d2 b1 b2 out v1 v2 H G r1 r2 sub hp
  obtain ⟨t, ht, hp⟩ := Option.map_eq_some_iff.mp hp
  subst hp
  obtain ⟨p, q', e1, e2, s1, s2, rfl⟩ := eqD_some ht
  exact ⟨_, op_neD hu, fun Q q => ⟨p, q', r1.dp sub e1, r2.dp sub e2, s1, s2, q _ H G (.refl sub) (Den.bl _)⟩⟩
theorem VR.isNon {K : PySem.W.Frag} {d : Dt} {v : V} {t : Bool} (h : VR K cm H G v d t) : decide (v = .non) = d.isNon := by
  cases t with
  | true =>
    obtain ⟨l, vs, ds, h1, h2, h3, h4⟩ := h.1 rfl
    subst h1 h2
    rfl
  | false =>
    have q := h.2 rfl
    cases q <;> rfl
theorem je_isN {j pos'} (ha : JE X cm a fa) : JE X cm (.Compare a [.Is] [.Constant .none j pos'] pos) (e1 pIsN fa) := by
  refine ⟨fun env r σ H G hf rel Q q => ?_⟩
  obtain ⟨ra, h1, hf⟩ := Option.bind_eq_some_iff.mp hf
  cases hf
  refine to_e (pe_cmp (pc_isN pe_w) rfl) (ha.pub h1 rel fun v H1 G1 g1 vr => ?_)
  rw [vr.isNon]
  exact q _ H1 G1 g1 (Den.bl _)
theorem je_notN {j pos'} (ha : JE X cm a fa) : JE X cm (.Compare a [.IsNot] [.Constant .none j pos'] pos) (e1 pNotN fa) := by
  refine ⟨fun env r σ H G hf rel Q q => ?_⟩
  obtain ⟨ra, h1, hf⟩ := Option.bind_eq_some_iff.mp hf
  cases hf
  refine to_e (pe_cmp (pc_notN pe_w) rfl) (ha.pub h1 rel fun v H1 G1 g1 vr => ?_)
  rw [vr.isNon]
  exact q _ H1 G1 g1 (Den.bl _)
theorem je_neg (ha : JE X cm a fa) : JE X cm (.UnaryOp .USub a pos) (e1 pNeg fa) := by
  refine ⟨fun env r σ H G hf rel Q q => ?_⟩
  obtain ⟨ra, h1, hf⟩ := Option.bind_eq_some_iff.mp hf
  refine to_e (pe_un un_neg pe_w) (ha.pub h1 rel fun v H1 G1 g1 vr => ?_)
  unfold pNeg at hf
  split at hf
  · rename_i i hi
    cases hf
    rw [hi] at vr
    have e := vr.int
    subst e
    exact ⟨i, rfl, q _ H1 G1 g1 (Den.int _)⟩
  · cases hf

/-! subscripts -/
theorem atL_of {α : Type} {ds : List α} {i : Int} {d : α} (h : atL ds i = some d) : ∃ j : Nat, ds[j]? = some d ∧ ∀ {β : Type} (vs : List β) (v : β), vs.length = ds.length → vs[j]? = some v → atI vs i = some v := by
  unfold atL at h
  split at h
  · rename_i h0
    have hlt : i.toNat < ds.length := (List.getElem?_eq_some_iff.mp h).1
    refine ⟨i.toNat, h, fun vs v hl hv => ?_⟩
    unfold atI ixN
    rw [if_pos h0, if_pos (by omega)]
    exact hv
  · rename_i h0
    split at h
    · rename_i h1
      refine ⟨(i + ds.length).toNat, h, fun vs v hl hv => ?_⟩
      unfold atI ixN
      rw [if_neg h0, if_pos (by omega), hl]
      exact hv
    · cases h
theorem je_ix (ha : JE X cm a fa) (hb : JE X cm b fb) (hs : PlainIx b := by exact fun _ _ => rfl) : JE X cm (.Subscript a b pos) (e2 pIx fa fb) := by
  refine ⟨fun env r σ H G hf rel Q q => ?_⟩
  obtain ⟨ra, h1, hf⟩ := Option.bind_eq_some_iff.mp hf
  obtain ⟨rb, h2, hf⟩ := Option.bind_eq_some_iff.mp hf
  refine to_e (pe_ix ix_seq pe_w pe_w hs) ?_
  refine ha.pub h1 rel fun v H1 G1 g1 vr => hb.pub h2 (rel.grow g1) fun w H2 G2 g2 wr => ?_
  have vr2 := vr.grow g2
  unfold pIx at hf
  split at hf
  · rename_i ds i e1 e2
    obtain ⟨d, hd, hf⟩ := Option.map_eq_some_iff.mp hf
    subst hf
    rw [e1] at vr2
    rw [e2] at wr
    have e := wr.int
    subst e
    obtain ⟨l, vs, rfl, s1, n1⟩ := vr2.lst g2.sub
    obtain ⟨j, hj, k⟩ := atL_of hd
    obtain ⟨u, hu, du⟩ := n1.get hj
    exact .inl ⟨l, vs, i, u, rfl, rfl, s1, k vs u n1.length hu, q _ H2 G2 (g1.trans g2) du⟩
  · rename_i ds i e1 e2
    obtain ⟨d, hd, hf⟩ := Option.map_eq_some_iff.mp hf
    subst hf
    rw [e1] at vr2
    rw [e2] at wr
    have e := wr.int
    subst e
    obtain ⟨l, vs, rfl, s1, _, n1⟩ := vr2.tup g2.sub
    obtain ⟨j, hj, k⟩ := atL_of hd
    obtain ⟨u, hu, du⟩ := n1.get hj
    exact .inr (.inl ⟨l, vs, i, u, rfl, rfl, s1, k vs u n1.length hu, q _ H2 G2 (g1.trans g2) du⟩)
  · rename_i z i e1 e2
    split at hf
    · rename_i hz
      obtain ⟨d, hd, hf⟩ := Option.map_eq_some_iff.mp hf
      subst hf
      rw [e1] at vr2
      rw [e2] at wr
      have e := wr.int
      have e' := vr2.str
      subst e e'
      obtain ⟨j, hj, k⟩ := atL_of hd
      exact .inr (.inr ⟨z, i, d, rfl, rfl, lim_ok hz, k _ _ rfl hj, q _ H2 G2 (g1.trans g2) (Den.str _)⟩)
    · cases hf
  · cases hf
def JO (X : Cx) (cm : Nat → Addr) (e : Option Expr) (f : OF) : Prop := ∀ (env : Sl) (r : Option Int) (σ : L2.St) (H G : Hp), f env = some r → Rel X.K cm σ H G env → ∀ Q : Option Int → Hp → Prop, (∀ H' G', Grow H G H' G' → Q r H') →
  ∀ pins s, Inv X pins σ H s → wpAny (model X.prog X.w) X.A (evalPart e X.env) (fun u s' => ∃ o H', Inv X pins σ H' s' ∧ IsPart u o ∧ Q o H') X.xe s
theorem jo_none : JO X cm none oNone := fun env r σ H G hf rel Q q pins s I => by
  cases hf
  exact po_none.run pins s σ H Q I (q H G (.refl rel.sub))
theorem jo_some (ha : JE X cm a fa) : JO X cm (some a) (oSome fa) := fun env r σ H G hf rel Q q pins s I => by
  unfold oSome at hf
  split at hf
  · rename_i i h1
    cases hf
    refine (po_some pe_w).run pins s σ H Q I (ha.pub h1 rel fun v H1 G1 g1 vr => ?_)
    have e := vr.int
    subst e
    exact ⟨i, rfl, q H1 G1 g1⟩
  · cases hf
def wpO (X : Cx) (e : Option Expr) : TO := fun σ H Q => ∀ pins s, Inv X pins σ H s → wpAny (model X.prog X.w) X.A (evalPart e X.env) (fun u s' => ∃ o H', Inv X pins σ H' s' ∧ IsPart u o ∧ Q o H') X.xe s
theorem po_w {o : Option Expr} : PO X o (wpO X o) := ⟨fun pins s σ H Q I h => h pins s I⟩
theorem sIx_eq (n d : Nat) (o : Option Int) : HT.sIx n d o = sIx n d o := by
  cases o with
  | none => rfl
  | some v =>
    show (if v < 0 then (v + (n : Int)).toNat else min v.toNat n) = if 0 ≤ v then min v.toNat n else (v + n).toNat
    by_cases h : v < 0
    · rw [if_pos h, if_neg (by omega)]
    · rw [if_neg h, if_pos (by omega)]
theorem DenL.cut {K : PySem.W.Frag} {vs : List V} {ds : List Dt} (h : DenL K cm G vs ds) (lo hi : Option Int) : DenL K cm G (cutV vs lo hi) (cutD ds lo hi) := by
  unfold cutV cutD
  rw [h.length, sIx_eq, sIx_eq]
  exact (h.drop _).take _
theorem cutD_all {ds : List Dt} {lo hi : Option Int} (h : sIx ds.length 0 lo = 0 ∧ sIx ds.length ds.length hi = ds.length) : cutD ds lo hi = ds := by
  unfold cutD
  rw [h.1, h.2, List.drop_zero, Nat.sub_zero, List.take_length]
theorem je_slice {lo hi : Option Expr} {ol oh : OF} {p2 : Pos} (ha : JE X cm a fa) (hl : JO X cm lo ol) (hh : JO X cm hi oh) : JE X cm (.Subscript a (.Slice lo hi none p2) pos) (eSlice fa ol oh) := by
  refine ⟨fun env r σ H G hf rel Q q => ?_⟩
  obtain ⟨ra, h1, hf⟩ := Option.bind_eq_some_iff.mp hf
  obtain ⟨il, h2, hf⟩ := Option.bind_eq_some_iff.mp hf
  obtain ⟨ih, h3, hf⟩ := Option.bind_eq_some_iff.mp hf
  refine to_e (pe_slice (SlR.or sl_list sl_tupA) pe_w po_w po_w) ?_
  refine ha.pub h1 rel fun v H1 G1 g1 vr => hl env il σ H1 G1 h2 (rel.grow g1) _ fun H2 G2 g2 => hh env ih σ H2 G2 h3 ((rel.grow g1).grow g2) _ fun H3 G3 g3 => ?_
  have vr3 := (vr.grow g2).grow g3
  have g := (g1.trans g2).trans g3
  split at hf
  · rename_i ds e1
    cases hf
    rw [e1] at vr3
    obtain ⟨l, vs, rfl, s1, n1⟩ := vr3.lst g3.sub
    refine .inl ⟨l, vs, rfl, s1, fun p hp => ?_⟩
    exact q _ _ _ (g.trans (.hide g3.sub hp)) ⟨p, _, rfl, g.hx.back hp, upd_same, g3.sub.back hp, n1.cut _ _⟩
  · rename_i ds e1
    cases hf
    rw [e1] at vr3
    obtain ⟨l, vs, rfl, s1, t1, n1⟩ := vr3.tup g3.sub
    refine .inr ⟨l, vs, rfl, s1, fun hw => ?_, fun hw p hp => ?_⟩
    · rw [n1.length, sIx_eq, sIx_eq] at hw
      refine q _ _ _ g ?_
      show Den _ _ _ _ _
      rw [cutD_all hw]
      exact .tup t1 n1
    · have n := g3.sub.back hp
      exact q _ _ _ (g.trans (.new g3.sub hp)) (Den.tup (SqT.of upd_same) ((n1.cut _ _).mono (.new n)))
  · cases hf
end
end Pyl
end
section
set_option Elab.async false
set_option linter.all false
set_option maxRecDepth 100000
set_option maxHeartbeats 2000000
namespace Pyl
open PySem L2
section
variable {X : Cx} {cm : Nat → Addr} {e a b c : Expr} {f fa fb fc : EF} {σ : L2.St} {H G : Hp} {env : Sl} {pos p : Pos} {x : Str} {id T : String}

/-! built-in functions of one argument, of two -/
def P1 (X : Cx) (cm : Nat → Addr) (f : Value) (pf : Dt → Option R) : Prop := ∃ r : List V → Hp → VK → Prop, CallR X f r ∧
  ∀ (d : Dt) (b : Bool) (out : R) (v : V) (H G : Hp), VR X.K cm H G v d b → Exx G H → pf d = some out → ∀ Q : VK, (∀ v H' G', Grow H G H' G' → RR X.K cm H H' G' v out → Q v H') → r [v] H Q
theorem je_b1 {pf : Dt → Option R} (ok : P1 X cm (.builtin id) pf) (hg : Gl X x) (hm : X.mg x = none) (hv : bootBuiltins x = some (.builtin id)) (ha : JE X cm a fa) (hn : x ≠ "__name__" := by decide) (hdb : (x == ("__debug__" : Str)) = false := by decide)
    (he : starEach [a] X.env = (false, eval a X.env) :: starEach [] X.env := by rfl) (hpl : (backTo pos (starEach [] X.env)).any (·.1) = false := by rfl) : JE X cm (.Call (.Name x p) [a] [] pos) (e1 pf fa) := by
  refine ⟨fun env r σ H G hf rel Q q => ?_⟩
  obtain ⟨ra, h1, hf⟩ := Option.bind_eq_some_iff.mp hf
  obtain ⟨rr, hc, hr⟩ := ok
  refine to_e (pe_callB hc hg hm hv (pa_cons pe_w pa_nil he) hn hdb he hpl) (ha.pub h1 rel fun v H1 G1 g1 vr => ?_)
  exact hr _ _ _ v H1 G1 vr g1.sub hf Q fun v' H2 G2 g2 rr2 => q v' H2 G2 (g1.trans g2) (rr2.hx g1.hx)
theorem je_ty1 {pf : Dt → Option R} (ok : P1 X cm (.type T) pf) (hg : Gl X x) (hm : X.mg x = none) (hv : bootBuiltins x = some (.type T)) (ha : JE X cm a fa) (hn : x ≠ "__name__" := by decide) (hdb : (x == ("__debug__" : Str)) = false := by decide)
    (he : starEach [a] X.env = (false, eval a X.env) :: starEach [] X.env := by rfl) (hpl : (backTo pos (starEach [] X.env)).any (·.1) = false := by rfl) : JE X cm (.Call (.Name x p) [a] [] pos) (e1 pf fa) := by
  refine ⟨fun env r σ H G hf rel Q q => ?_⟩
  obtain ⟨ra, h1, hf⟩ := Option.bind_eq_some_iff.mp hf
  obtain ⟨rr, hc, hr⟩ := ok
  refine to_e (pe_callTy hc hg hm hv (pa_cons pe_w pa_nil he) hn hdb he hpl) (ha.pub h1 rel fun v H1 G1 g1 vr => ?_)
  exact hr _ _ _ v H1 G1 vr g1.sub hf Q fun v' H2 G2 g2 rr2 => q v' H2 G2 (g1.trans g2) (rr2.hx g1.hx)
def P2c (X : Cx) (cm : Nat → Addr) (f : Value) (pf : Dt → Dt → Option R) : Prop := ∃ r : List V → Hp → VK → Prop, CallR X f r ∧
  ∀ (d d2 : Dt) (b b2 : Bool) (out : R) (v v2 : V) (H G : Hp), VR X.K cm H G v d b → VR X.K cm H G v2 d2 b2 → Exx G H → pf d d2 = some out → ∀ Q : VK, (∀ v H' G', Grow H G H' G' → RR X.K cm H H' G' v out → Q v H') → r [v, v2] H Q
theorem je_b2 {pf : Dt → Dt → Option R} (ok : P2c X cm (.builtin id) pf) (hg : Gl X x) (hm : X.mg x = none) (hv : bootBuiltins x = some (.builtin id)) (ha : JE X cm a fa) (hb : JE X cm b fb) (hn : x ≠ "__name__" := by decide) (hdb : (x == ("__debug__" : Str)) = false := by decide)
    (h0 : starEach [b] X.env = (false, eval b X.env) :: starEach [] X.env := by rfl) (he : starEach [a, b] X.env = (false, eval a X.env) :: starEach [b] X.env := by rfl) (hpl : (backTo pos (starEach [b] X.env)).any (·.1) = false := by rfl) : JE X cm (.Call (.Name x p) [a, b] [] pos) (e2 pf fa fb) := by
  refine ⟨fun env r σ H G hf rel Q q => ?_⟩
  obtain ⟨ra, h1, hf⟩ := Option.bind_eq_some_iff.mp hf
  obtain ⟨rb, h2, hf⟩ := Option.bind_eq_some_iff.mp hf
  obtain ⟨rr, hc, hr⟩ := ok
  refine to_e (pe_callB hc hg hm hv (pa_cons pe_w (pa_cons pe_w pa_nil h0) he) hn hdb he hpl) (ha.pub h1 rel fun v H1 G1 g1 vr => hb.pub h2 (rel.grow g1) fun w H2 G2 g2 wr => ?_)
  exact hr _ _ _ _ _ v w H2 G2 (vr.grow g2) wr g2.sub hf Q fun v' H3 G3 g3 rr3 => q v' H3 G3 ((g1.trans g2).trans g3) (rr3.hx (g1.trans g2).hx)

theorem p1_len : P1 X cm (.builtin "len") pLen := ⟨_, call_len, fun d b out v H G vr sub hp Q q => by
  unfold pLen at hp
  split at hp
  · cases hp
    obtain ⟨l, vs, rfl, s1, n1⟩ := vr.lst sub
    exact ⟨_, vs.length, rfl, .inl ⟨vs, s1, rfl⟩, by rw [n1.length]; exact q _ _ _ (.refl sub) (Den.int _)⟩
  · cases hp
    obtain ⟨l, vs, rfl, s1, _, n1⟩ := vr.tup sub
    exact ⟨_, vs.length, rfl, .inr ⟨vs, s1, rfl⟩, by rw [n1.length]; exact q _ _ _ (.refl sub) (Den.int _)⟩
  · cases hp⟩
theorem p1_int : P1 X cm (.type "int") pInt := ⟨_, call_int1, fun d b out v H G vr sub hp Q q => by
  unfold pInt at hp
  split at hp
  · cases hp
    have e := vr.int
    subst e
    exact .inl ⟨_, rfl, q _ _ _ (.refl sub) (Den.int _)⟩
  · cases hp
    have e := vr.bl
    subst e
    exact .inr ⟨_, rfl, q _ _ _ (.refl sub) (Den.int _)⟩
  · cases hp⟩
theorem p1_abs : P1 X cm (.builtin "abs") pAbs := ⟨_, call_abs, fun d b out v H G vr sub hp Q q => by
  unfold pAbs at hp
  split at hp
  · cases hp
    have e := vr.int
    subst e
    exact ⟨_, rfl, q _ _ _ (.refl sub) (Den.int _)⟩
  · cases hp⟩
theorem DenL.ints {K : PySem.W.Frag} : ∀ {ds : List Dt} {vs : List V} {ns : List Int}, DenL K cm G vs ds → intsOf ds = some ns → vs = ns.map V.int
  | [], _, _, h, e => by
    cases h
    unfold intsOf at e
    cases e
    rfl
  | .int i :: ds, _, _, h, e => by
    cases h with
    | cons h1 h2 =>
      unfold intsOf at e
      obtain ⟨ms, e1, e2⟩ := Option.map_eq_some_iff.mp e
      subst e2
      cases h1
      rw [List.map_cons, DenL.ints h2 e1]
  | .non :: _, _, _, _, e => by simp [intsOf] at e
  | .bl _ :: _, _, _, _, e => by simp [intsOf] at e
  | .str _ :: _, _, _, _, e => by simp [intsOf] at e
  | .lst _ :: _, _, _, _, e => by simp [intsOf] at e
  | .tup _ :: _, _, _, _, e => by simp [intsOf] at e
  | .obj _ _ :: _, _, _, _, e => by simp [intsOf] at e
theorem p1_sum (hc : X.calm = true) : P1 X cm (.builtin "sum") pSum := ⟨_, cr_sum hc, fun d b out v H G vr sub hp Q q => by
  unfold pSum at hp
  split at hp
  · obtain ⟨ns, h1, hp⟩ := Option.map_eq_some_iff.mp hp
    subst hp
    obtain ⟨l, vs, rfl, s1, n1⟩ := vr.lst sub
    have e := n1.ints h1
    subst e
    exact ⟨l, ns, rfl, s1, q _ _ _ (.refl sub) (Den.int _)⟩
  · cases hp⟩
theorem p2c_max (hc : X.calm = true) : P2c X cm (.builtin "max") pMax2 := ⟨_, call_max2 hc, fun d d2 b b2 out v v2 H G vr vr2 sub hp Q q => by
  unfold pMax2 at hp
  split at hp
  · cases hp
    have e := vr.int
    have e2 := vr2.int
    subst e e2
    exact ⟨_, _, rfl, q _ _ _ (.refl sub) (Den.int _)⟩
  · cases hp⟩
theorem p2c_min (hc : X.calm = true) : P2c X cm (.builtin "min") pMin2 := ⟨_, call_min2 hc, fun d d2 b b2 out v v2 H G vr vr2 sub hp Q q => by
  unfold pMin2 at hp
  split at hp
  · cases hp
    have e := vr.int
    have e2 := vr2.int
    subst e e2
    exact ⟨_, _, rfl, q _ _ _ (.refl sub) (Den.int _)⟩
  · cases hp⟩
theorem p1_list : P1 X cm (.type "list") pList := ⟨_, call_list_of, fun d b out v H G vr sub hp Q q => by
  unfold pList at hp
  split at hp
  · cases hp
    obtain ⟨l, vs, rfl, s1, n1⟩ := vr.lst sub
    exact ⟨l, vs, rfl, .inl s1, fun m hm => q _ _ _ (.hide sub hm) ⟨m, _, rfl, hm, upd_same, sub.back hm, n1⟩⟩
  · cases hp
    obtain ⟨l, vs, rfl, s1, _, n1⟩ := vr.tup sub
    exact ⟨l, vs, rfl, .inr s1, fun m hm => q _ _ _ (.hide sub hm) ⟨m, _, rfl, hm, upd_same, sub.back hm, n1⟩⟩
  · cases hp⟩
theorem p1_tuple : P1 X cm (.type "tuple") pTuple := ⟨_, call_tuple_of, fun d b out v H G vr sub hp Q q => by
  unfold pTuple at hp
  split at hp
  · cases hp
    obtain ⟨l, vs, rfl, s1, n1⟩ := vr.lst sub
    exact ⟨l, vs, rfl, .inl ⟨s1, fun m hm => q _ _ _ (.new sub hm) (Den.tup (SqT.of upd_same) (n1.mono (.new (sub.back hm))))⟩⟩
  · cases hp
    obtain ⟨l, vs, rfl, s1, t1, n1⟩ := vr.tup sub
    exact ⟨l, vs, rfl, .inr ⟨s1, q _ _ _ (.refl sub) (Den.tup t1 n1)⟩⟩
  · cases hp⟩

/-! isinstance(x, T) -/
theorem TyX.sqL {K : PySem.W.Frag} {l : Addr} {vs : List V} (h : SqL K H l vs) : TyX K H (.ref l) (.type "list") := by
  rcases h with (h | ⟨o, h⟩) | ⟨o, its, n, hk, hc, _⟩
  · exact .base (.lst h)
  · exact .base (.frz h)
  · exact .kList hk hc
theorem TyX.sqT {K : PySem.W.Frag} {l : Addr} {vs : List V} (h : SqT K H l vs) : TyX K H (.ref l) (.type "tuple") := by
  rcases h with (h | ⟨o, h⟩) | ⟨o, its, n, hk, hc, _⟩
  · exact .base (.tup h)
  · exact .fTuple h
  · exact .kTuple hk hc
theorem VR.tyX {K : PySem.W.Frag} {d : Dt} {v : V} {b : Bool} {t : String} (sub : Exx G H) (h : VR K cm H G v d b) (e : d.ty = some t) : TyX K H v (.type t) := by
  cases d with
  | non => cases e; have q := h.non; subst q; exact .base .non
  | bl x => cases e; have q := h.bl; subst q; exact .base (.bl x)
  | int i => cases e; have q := h.int; subst q; exact .base (.int i)
  | str z => cases e; have q := h.str; subst q; exact .base (.str z)
  | lst ds =>
    cases e
    obtain ⟨l, vs, rfl, s1, n1⟩ := h.lst sub
    exact TyX.sqL s1
  | tup ds =>
    cases e
    obtain ⟨l, vs, rfl, s1, _, n1⟩ := h.tup sub
    exact TyX.sqT s1
  | obj c fs => cases e
theorem je_isi {p2 : Pos} (hk : ∀ t ∈ (["NoneType", "bool", "int", "str", "list", "tuple"] : List String), kitB t T = some (t == T || (t == "bool" && T == "int"))) (hg : Gl X "isinstance") (hm : X.mg "isinstance" = none) (hg2 : Gl X x) (hm2 : X.mg x = none)
    (hv2 : bootBuiltins x = some (.type T)) (ha : JE X cm a fa) (hn2 : x ≠ "__name__" := by decide) (hd2 : (x == ("__debug__" : Str)) = false := by decide)
    (h0 : starEach [.Name x p2] X.env = (false, eval (.Name x p2) X.env) :: starEach [] X.env := by rfl) (he : starEach [a, .Name x p2] X.env = (false, eval a X.env) :: starEach [.Name x p2] X.env := by rfl)
    (hpl : (backTo pos (starEach [.Name x p2] X.env)).any (·.1) = false := by rfl) : JE X cm (.Call (.Name "isinstance" p) [a, .Name x p2] [] pos) (e1 (pIsi T) fa) := by
  refine ⟨fun env r σ H G hf rel Q q => ?_⟩
  obtain ⟨ra, h1, hf⟩ := Option.bind_eq_some_iff.mp hf
  obtain ⟨t, ht, hf⟩ := Option.map_eq_some_iff.mp hf
  subst hf
  obtain ⟨ty, hty, ht⟩ := Option.map_eq_some_iff.mp ht
  subst ht
  refine to_e (pe_callB call_isi hg hm (by decide +kernel) (pa_cons pe_w (pa_cons (pe_bltn (v := .ty T) hg2 hm2 hv2 rfl hn2 hd2) pa_nil h0) he) (by decide) (by decide) he hpl) (ha.pub h1 rel fun v H1 G1 g1 vr => ?_)
  refine ⟨v, .ty T, .type ty, .type T, _, rfl, .ty T, vr.tyX g1.sub hty, kit_ty (hk ty ?_), q _ _ _ g1 (Den.bl _)⟩
  generalize ra.dt = d at hty
  cases d <;> cases hty <;> simp

/-! calls -/
theorem VRs.denH {K : PySem.W.Frag} (sub : Exx G H) : ∀ {vs : List V} {rs : List (Dt × Bool)}, VRs K cm H G vs rs → DenL K cm H vs (rs.map (·.1))
  | _, _, .nil => .nil
  | _, _, .cons (b := b) (d := d) h t => by
    refine .cons ?_ (VRs.denH sub t)
    cases b with
    | false => exact h.den.mono sub
    | true =>
      obtain ⟨l, vs, ds, h1, h2, h3, h4⟩ := h.1 rfl
      subst h1 h2
      exact .lst h3 (h4.mono sub)
/-- the promise of a def that keeps F -/
def spP (K : PySem.W.Frag) (cm : Nat → Addr) (F : FN) : Sp := fun vs H Q _ => ∃ (G : Hp) (ds : List Dt) (r : Dt), Exx G H ∧ DenL K cm G vs ds ∧ F ds = some r ∧ ∀ v H' G', Grow H G H' G' → Den K cm G' v r → Q v H'
/-- a def of the module that keeps F -/
structure FnC (P : Program) (w : World) (K : PySem.W.Frag) (mg : Str → Option Value) (base : Heap) (cm : Nat → Addr) (k : Nat) (x : Str) (F : FN) : Prop where
  ex : ∃ (f : Addr) (fd : FuncData) (ps : List Str), FnOk P w K mg base CX0 k f fd ps (spP K cm F) ∧ mg x = some (.ref f) ∧ PySem.W.keepIn K (.ref f) = true ∧ Binds K fd ps []
theorem Dt.scalar_den {K : PySem.W.Frag} {v : V} {d : Dt} {G' : Hp} (h : Den K cm G v d) (s : d.scalar = true) : Den K cm G' v d := by
  cases h <;> first | exact Den.non | exact Den.bl _ | exact Den.int _ | exact Den.str _ | cases s
theorem je_call {es : List Expr} {ft : AF} {F : FN} {k : Nat} (C : FnC X.prog X.w X.K X.mg X.base cm k x F) (hr : Room k X.A) (hg : Gl X x) (ha : JA X cm (e :: es) ft) (hdb : (x == ("__debug__" : Str)) = false := by decide)
    (he : starEach (e :: es) X.env = (false, eval e X.env) :: starEach es X.env := by rfl) (hpl : (backTo pos (starEach es X.env)).any (·.1) = false := by rfl) : JE X cm (.Call (.Name x p) (e :: es) [] pos) (eCall F ft) := by
  refine ⟨fun env r σ H G hf rel Q q => ?_⟩
  obtain ⟨rs, h1, hf⟩ := Option.bind_eq_some_iff.mp hf
  obtain ⟨d, h2, hf⟩ := Option.bind_eq_some_iff.mp hf
  obtain ⟨f, fd, ps, hF, hm, hk, hb⟩ := C.ex
  refine to_e (pe_call hF hr hg hm hk hb .nil pass0 pa_w hdb he hpl) (ha.run env rs σ H G h1 rel _ fun vs H1 G1 g1 vrs => ?_)
  show spP X.K cm F (vs ++ []) H1 Q E0
  rw [List.append_nil]
  by_cases hs : rs.any (·.2) = true
  · split at hf
    · cases hf
    · rename_i hn
      cases hf
      have sc : d.scalar = true := by
        cases hd : d.scalar with
        | true => rfl
        | false => exact absurd (by rw [hs, hd]; rfl) hn
      refine ⟨H1, _, d, .refl _, vrs.denH g1.sub, h2, fun v H' G' g hden => ?_⟩
      exact q v H' G1 (g1.trans ⟨g.hx, .refl _, fun _ _ _ n => n, g1.sub.trans g.hx⟩) (Dt.scalar_den hden sc)
  · have hs' : rs.any (·.2) = false := by simpa using hs
    split at hf
    · rename_i hn
      rw [hs'] at hn
      cases hn
    · cases hf
      exact ⟨G1, _, d, g1.sub, vrs.plain hs', h2, fun v H' G' g hden => q v H' G' (g1.trans g) hden⟩

/-! and, or, not; if .. else -/
theorem je_one {op} (h : JE X cm a fa) : JE X cm (.BoolOp op [a] pos) fa := ⟨fun env r σ H G hf rel Q q => to_e (pe_one pe_w) (h.run env r σ H G hf rel Q q)⟩
theorem je_and {rest : List Expr} (ha : JE X cm a fa) (hb : JE X cm (.BoolOp .And (b :: rest) pos) fb) : JE X cm (.BoolOp .And (a :: b :: rest) pos) (eAnd fa fb) := by
  refine ⟨fun env r σ H G hf rel Q q => ?_⟩
  refine to_e (pe_and pe_w pe_w) ?_
  unfold eAnd at hf
  split at hf
  · rename_i h1
    refine ha.run env _ σ H G h1 rel _ fun v H1 G1 g1 vr => ?_
    cases (show Den _ _ _ _ _ from vr)
    exact ⟨true, rfl, iteT (hb.run env r σ H1 G1 hf (rel.grow g1) Q fun v' H2 G2 g2 r2 => q v' H2 G2 (g1.trans g2) (r2.hx g1.hx))⟩
  · rename_i h1
    cases hf
    refine ha.run env _ σ H G h1 rel _ fun v H1 G1 g1 vr => ?_
    cases (show Den _ _ _ _ _ from vr)
    exact ⟨false, rfl, iteF (q _ H1 G1 g1 (Den.bl _))⟩
  · cases hf
theorem je_or {rest : List Expr} (ha : JE X cm a fa) (hb : JE X cm (.BoolOp .Or (b :: rest) pos) fb) : JE X cm (.BoolOp .Or (a :: b :: rest) pos) (eOr fa fb) := by
  refine ⟨fun env r σ H G hf rel Q q => ?_⟩
  refine to_e (pe_or pe_w pe_w) ?_
  unfold eOr at hf
  split at hf
  · rename_i h1
    cases hf
    refine ha.run env _ σ H G h1 rel _ fun v H1 G1 g1 vr => ?_
    cases (show Den _ _ _ _ _ from vr)
    exact ⟨true, rfl, iteT (q _ H1 G1 g1 (Den.bl _))⟩
  · rename_i h1
    refine ha.run env _ σ H G h1 rel _ fun v H1 G1 g1 vr => ?_
    cases (show Den _ _ _ _ _ from vr)
    exact ⟨false, rfl, iteF (hb.run env r σ H1 G1 hf (rel.grow g1) Q fun v' H2 G2 g2 r2 => q v' H2 G2 (g1.trans g2) (r2.hx g1.hx))⟩
  · cases hf
theorem je_not (ha : JE X cm a fa) : JE X cm (.UnaryOp .Not a pos) (eNot fa) := by
  refine ⟨fun env r σ H G hf rel Q q => ?_⟩
  refine to_e (pe_not pe_w) ?_
  unfold eNot at hf
  split at hf
  · rename_i b h1
    cases hf
    refine ha.run env _ σ H G h1 rel _ fun v H1 G1 g1 vr => ?_
    cases (show Den _ _ _ _ _ from vr)
    exact ⟨b, rfl, q _ H1 G1 g1 (Den.bl _)⟩
  · cases hf
/-! tests -/
structure JW (X : Cx) (cm : Nat → Addr) (e : Expr) (f : TF) : Prop where
  run : ∀ (env : Sl) (b : Bool) (σ : L2.St) (H G : Hp), f env = some b → Rel X.K cm σ H G env → ∀ Q : Bool → Hp → Prop, (∀ H' G', Grow H G H' G' → Q b H') →
    ∀ (whole : Sem Value) pins s, Inv X pins σ H s → wpAny (model X.prog X.w) X.A (isTrue e X.env whole) (TP X pins σ Q) X.xe s
variable {ta tb : TF}
theorem JW.t (h : JW X cm e ta) : JT X cm e ta := ⟨fun env b σ H G hf rel Q q pins s I => h.run env b σ H G hf rel Q q _ pins s I⟩
theorem jt_val (h : JE X cm e f) (he : ∀ whole, isTrue e X.env whole = (do let v ← whole; standAt e.pos; holding [v] (truthy v)) := by intro _; rfl) : JT X cm e (tVal f) := by
  refine ⟨fun env r σ H G hf rel Q q => ?_⟩
  refine to_t (pt_val pe_w he) ?_
  unfold tVal at hf
  split at hf
  · rename_i b h1
    cases hf
    refine h.run env _ σ H G h1 rel _ fun v H1 G1 g1 vr => ?_
    cases (show Den _ _ _ _ _ from vr)
    exact ⟨_, rfl, q H1 G1 g1⟩
  · cases hf
theorem jt_cmp {op : CmpOp} {pf : Dt → Dt → Option R} (ok : P2 X cm (compareOp op) pf) (ha : JE X cm a fa) (hb : JE X cm b fb) (hm : behindInMarks op b = false := by first | exact nobehind _ (by decide) (by decide) | rfl) : JT X cm (.Compare a [op] [b] pos) (tVal (e2 pf fa fb)) := by
  refine ⟨fun env r σ H G hf rel Q q pins s I => ?_⟩
  unfold tVal at hf
  split at hf
  · rename_i b' h1
    cases hf
    refine wpAny_isTrue_Compare1 (thn (run2 (Q := fun v H' => ∃ k, v = .bl k ∧ Q k H') ok ha hb h1 rel (fun v H' G' g vr => ?_) I) fun v s1 h1 => thn h1 fun u s2 h2 => thn h2 fun c s3 ⟨x, H1, I1, r1, q1⟩ => ?_) hm
    · cases (show Den _ _ _ _ _ from vr)
      exact ⟨_, rfl, q H' G' g⟩
    · obtain ⟨d, rfl, q⟩ := q1
      cases r1
      exact wpAny_truthy_bool ⟨H1, I1, q⟩
  · cases hf
theorem jt_isN {j pos'} (ha : JE X cm a fa) : JT X cm (.Compare a [.Is] [.Constant .none j pos'] pos) (tVal (e1 pIsN fa)) := by
  refine ⟨fun env r σ H G hf rel Q q => ?_⟩
  unfold tVal at hf
  split at hf
  · rename_i b' h1
    cases hf
    obtain ⟨ra, h2, h3⟩ := Option.bind_eq_some_iff.mp h1
    refine to_t (pt_cmp (pc_isN pe_w) rfl) (ha.pub h2 rel fun v H1 G1 g1 vr => ⟨_, rfl, ?_⟩)
    rw [vr.isNon]
    cases h3
    exact q _ _ g1
  · cases hf
theorem jt_notN {j pos'} (ha : JE X cm a fa) : JT X cm (.Compare a [.IsNot] [.Constant .none j pos'] pos) (tVal (e1 pNotN fa)) := by
  refine ⟨fun env r σ H G hf rel Q q => ?_⟩
  unfold tVal at hf
  split at hf
  · rename_i b' h1
    cases hf
    obtain ⟨ra, h2, h3⟩ := Option.bind_eq_some_iff.mp h1
    refine to_t (pt_cmp (pc_notN pe_w) rfl) (ha.pub h2 rel fun v H1 G1 g1 vr => ⟨_, rfl, ?_⟩)
    rw [vr.isNon]
    cases h3
    exact q _ _ g1
  · cases hf
theorem jw_and1 (ha : JT X cm a ta) : JW X cm (.BoolOp .And [a] pos) ta := ⟨fun env r σ H G hf rel Q q wh pins s I => (pw_and1 pt_w).run wh pins s σ H Q I (ha.run env r σ H G hf rel Q q)⟩
theorem jw_or1 (ha : JT X cm a ta) : JW X cm (.BoolOp .Or [a] pos) ta := ⟨fun env r σ H G hf rel Q q wh pins s I => (pw_or1 pt_w).run wh pins s σ H Q I (ha.run env r σ H G hf rel Q q)⟩
def wpW (X : Cx) (e : Expr) : TT := fun σ H Q => ∀ (whole : Sem Value) pins s, Inv X pins σ H s → wpAny (model X.prog X.w) X.A (isTrue e X.env whole) (TP X pins σ Q) X.xe s
theorem pw_w {e : Expr} : PW X e (wpW X e) := ⟨fun wh pins s σ H Q I h => h wh pins s I⟩
theorem jw_and {rest : List Expr} (ha : JT X cm a ta) (hb : JW X cm (.BoolOp .And (b :: rest) pos) tb) : JW X cm (.BoolOp .And (a :: b :: rest) pos) (tAnd ta tb) := by
  refine ⟨fun env r σ H G hf rel Q q wh pins s I => ?_⟩
  obtain ⟨t, h1, hf⟩ := Option.bind_eq_some_iff.mp hf
  refine (pw_and pt_w pw_w).run wh pins s σ H Q I (ha.run env t σ H G h1 rel _ fun H1 G1 g1 => ?_)
  cases t with
  | true => exact iteT (hb.run env r σ H1 G1 hf (rel.grow g1) Q fun H2 G2 g2 => q H2 G2 (g1.trans g2))
  | false =>
    cases hf
    exact iteF (q H1 G1 g1)
theorem jw_or {rest : List Expr} (ha : JT X cm a ta) (hb : JW X cm (.BoolOp .Or (b :: rest) pos) tb) : JW X cm (.BoolOp .Or (a :: b :: rest) pos) (tOr ta tb) := by
  refine ⟨fun env r σ H G hf rel Q q wh pins s I => ?_⟩
  obtain ⟨t, h1, hf⟩ := Option.bind_eq_some_iff.mp hf
  refine (pw_or pt_w pw_w).run wh pins s σ H Q I (ha.run env t σ H G h1 rel _ fun H1 G1 g1 => ?_)
  cases t with
  | true =>
    cases hf
    exact iteT (q H1 G1 g1)
  | false => exact iteF (hb.run env r σ H1 G1 hf (rel.grow g1) Q fun H2 G2 g2 => q H2 G2 (g1.trans g2))
theorem jt_not (ha : JT X cm a ta) : JT X cm (.UnaryOp .Not a pos) (tNot ta) := by
  refine ⟨fun env r σ H G hf rel Q q => ?_⟩
  obtain ⟨t, h1, hf⟩ := Option.bind_eq_some_iff.mp hf
  cases hf
  exact to_t (pt_not pt_w) (ha.run env t σ H G h1 rel _ fun H1 G1 g1 => q H1 G1 g1)
theorem je_if (hc : JT X cm c ta) (ha : JE X cm a fa) (hb : JE X cm b fb) : JE X cm (.IfExp c a b pos) (eIf ta fa fb) := by
  refine ⟨fun env r σ H G hf rel Q q => ?_⟩
  obtain ⟨t, h1, hf⟩ := Option.bind_eq_some_iff.mp hf
  refine to_e (pe_ifExp pt_w pe_w pe_w) (hc.run env t σ H G h1 rel _ fun H1 G1 g1 => ?_)
  cases t with
  | true => exact iteT (ha.run env r σ H1 G1 hf (rel.grow g1) Q fun v H2 G2 g2 r2 => q v H2 G2 (g1.trans g2) (r2.hx g1.hx))
  | false => exact iteF (hb.run env r σ H1 G1 hf (rel.grow g1) Q fun v H2 G2 g2 r2 => q v H2 G2 (g1.trans g2) (r2.hx g1.hx))
end
end Pyl
end
section
set_option Elab.async false
set_option linter.all false
set_option maxRecDepth 100000
set_option maxHeartbeats 2000000
namespace Pyl
open PySem L2

/-! ### what is walked -/
/-- the heaps at a turn, behind the making of the iterator at H0, G0; b: what is walked is borrowed -/
structure StK (H0 G0 : Hp) (b : Bool) (H G : Hp) : Prop where
  sub : Exx G H
  gx : Exx G0 G
  hx : b = true → Exx H0 H
structure ItOk (K : PySem.W.Frag) (cm : Nat → Addr) (J : It) (ds : List Dt) (b : Bool) (H0 G0 : Hp) : Prop where
  go : ∀ (i : Nat) (H G : Hp), StK H0 G0 b H G → i < ds.length → J.go i H
  yl : ∀ (i : Nat) (H G : Hp) (v : V) (H' : Hp), StK H0 G0 b H G → i < ds.length → J.yld i H v H' → ∃ (G' : Hp) (d : Dt), ds[i]? = some d ∧ Grow H G H' G' ∧ Den K cm G' v d
  stop : ∀ (i : Nat) (H G : Hp), StK H0 G0 b H G → ds.length ≤ i → J.stop i H
structure JI (X : Cx) (cm : Nat → Addr) (tg iter : Expr) (f : IF) : Prop where
  run : ∀ (env : Sl) (ds : List Dt) (b : Bool) (σ : L2.St) (H G : Hp), f env = some (ds, b) → Rel X.K cm σ H G env → ∀ Q : It → Hp → Prop, (∀ J H' G', Grow H G H' G' → ItOk X.K cm J ds b H' G' → Q J H') → wpI X tg iter σ H Q
section
variable {X : Cx} {cm : Nat → Addr} {e a b c tg iter : Expr} {f fa fb fc : EF} {σ : L2.St} {H G : Hp} {env : Sl} {pos p : Pos}
theorem itl_ok {K : PySem.W.Frag} {l : Addr} {vs : List V} {ds : List Dt} {t : Bool} {H0 G0 : Hp} (h : ∀ H G, StK H0 G0 t H G → SqL K H l vs) (n : DenL K cm G0 vs ds) : ItOk K cm (Itl K l) ds t H0 G0 where
  go := fun i H G s hi => by
    have hi' : i < vs.length := by rw [n.length]; exact hi
    exact ⟨vs, vs[i], h H G s, List.getElem?_eq_getElem hi'⟩
  yl := fun i H G v H' s hi y => by
    obtain ⟨rfl, y⟩ := y
    obtain ⟨d, hd, dn⟩ := n.get' (y vs (h _ _ s))
    exact ⟨G, d, hd, .refl s.sub, dn.mono s.gx⟩
  stop := fun i H G s hi => ⟨vs, h H G s, by rw [n.length]; exact hi⟩
theorem itt_ok {K : PySem.W.Frag} {l : Addr} {vs : List V} {ds : List Dt} {t : Bool} {H0 G0 : Hp} (h : SqT K G0 l vs) (n : DenL K cm G0 vs ds) : ItOk K cm (Itt K l) ds t H0 G0 where
  go := fun i H G s hi => by
    have hi' : i < vs.length := by rw [n.length]; exact hi
    exact ⟨vs, vs[i], s.sub.sqT (s.gx.sqT h), List.getElem?_eq_getElem hi'⟩
  yl := fun i H G v H' s hi y => by
    obtain ⟨rfl, y⟩ := y
    obtain ⟨d, hd, dn⟩ := n.get' (y vs (s.sub.sqT (s.gx.sqT h)))
    exact ⟨G, d, hd, .refl s.sub, dn.mono s.gx⟩
  stop := fun i H G s hi => ⟨vs, s.sub.sqT (s.gx.sqT h), by rw [n.length]; exact hi⟩
theorem rngD_get {lo : Int} {n i : Nat} (h : i < n) : (rngD lo n)[i]? = some (.int (lo + (i : Int))) := by
  unfold rngD
  rw [List.getElem?_map, List.getElem?_range h]
  rfl
theorem rngD_length (lo : Int) (n : Nat) : (rngD lo n).length = n := by
  unfold rngD
  rw [List.length_map, List.length_range]
theorem itr_ok {K : PySem.W.Frag} {lo : Int} {n : Nat} {t : Bool} {H0 G0 : Hp} : ItOk K cm (Itr lo n) (rngD lo n) t H0 G0 where
  go := fun i H G s hi => by
    rw [rngD_length] at hi
    exact hi
  yl := fun i H G v H' s hi y => by
    obtain ⟨rfl, rfl⟩ := y
    rw [rngD_length] at hi
    exact ⟨G, _, rngD_get hi, .refl s.sub, .int _⟩
  stop := fun i H G s hi => by
    rw [rngD_length] at hi
    exact hi
theorem ji_seq (ha : JE X cm iter fa) : JI X cm tg iter (iSeq fa) := by
  refine ⟨fun env ds t σ H G hf rel Q q => ?_⟩
  obtain ⟨ra, h1, hf⟩ := Option.bind_eq_some_iff.mp hf
  split at hf
  · rename_i ds' e1
    cases hf
    refine to_i (pi_list pe_w) (ha.pub h1 rel fun v H1 G1 g1 vr => ?_)
    rw [e1] at vr
    cases hsh : ra.sh with
    | false =>
      rw [hsh] at vr
      cases vr.den with
      | lst s1 n1 => exact ⟨_, rfl, ⟨_, g1.sub.sqL s1⟩, q _ H1 G1 g1 (by rw [hsh]; exact itl_ok (fun H G s => s.sub.sqL (s.gx.sqL s1)) n1)⟩
    | true =>
      rw [hsh] at vr
      obtain ⟨l, vs, ds'', h1, h2, h3, h4⟩ := vr.1 rfl
      subst h1
      cases h2
      exact ⟨_, rfl, ⟨_, h3⟩, q _ H1 G1 g1 (by rw [hsh]; exact itl_ok (fun H G s => (s.hx rfl).sqL h3) h4)⟩
  · rename_i ds' e1
    cases hf
    refine to_i (pi_tup pe_w) (ha.pub h1 rel fun v H1 G1 g1 vr => ?_)
    rw [e1] at vr
    obtain ⟨l, vs, rfl, s1, t1, n1⟩ := vr.tup g1.sub
    exact ⟨_, rfl, ⟨_, s1⟩, q _ H1 G1 g1 (itt_ok t1 n1)⟩
  · cases hf
theorem ji_range1 (hg : Gl X "range") (hm : X.mg "range" = none) (ha : JE X cm a fa) (hs : starEach [a] X.env = [(false, eval a X.env)] := by rfl) (he : starEach [a] X.env = (false, eval a X.env) :: starEach [] X.env := by rfl) :
    JI X cm tg (.Call (.Name "range" p) [a] [] pos) (iRange1 fa) := by
  refine ⟨fun env ds t σ H G hf rel Q q => ?_⟩
  unfold iRange1 at hf
  split at hf
  · rename_i n h1
    split at hf
    · rename_i hn
      cases hf
      refine to_i (pi_range1 hg hm (pa_cons pe_w pa_nil he) hs) (ha.run env _ σ H G h1 rel _ fun v H1 G1 g1 vr => ?_)
      cases (show Den _ _ _ _ _ from vr)
      exact ⟨n, rfl, by omega, by omega, q _ H1 G1 g1 itr_ok⟩
    · cases hf
  · cases hf
theorem ji_range2 (hg : Gl X "range") (hm : X.mg "range" = none) (ha : JE X cm a fa) (hb : JE X cm b fb) (hs : starEach [a, b] X.env = [(false, eval a X.env), (false, eval b X.env)] := by rfl) (hs2 : starEach [b] X.env = [(false, eval b X.env)] := by rfl)
    (he : starEach [a, b] X.env = (false, eval a X.env) :: starEach [b] X.env := by rfl) (he2 : starEach [b] X.env = (false, eval b X.env) :: starEach [] X.env := by rfl) : JI X cm tg (.Call (.Name "range" p) [a, b] [] pos) (iRange2 fa fb) := by
  refine ⟨fun env ds t σ H G hf rel Q q => ?_⟩
  obtain ⟨ra, h1, hf⟩ := Option.bind_eq_some_iff.mp hf
  obtain ⟨rb, h2, hf⟩ := Option.bind_eq_some_iff.mp hf
  split at hf
  · rename_i lo hi e1 e2
    split at hf
    · rename_i hn
      cases hf
      refine to_i (pi_range2 hg hm (pa_cons pe_w (pa_cons pe_w pa_nil he2) he) hs hs2) (ha.pub h1 rel fun v H1 G1 g1 vr => hb.pub h2 (rel.grow g1) fun w H2 G2 g2 wr => ?_)
      rw [e1] at vr
      rw [e2] at wr
      have ev := vr.int
      have ew := wr.int
      subst ev ew
      exact ⟨lo, hi, rfl, ⟨by omega, by omega, by omega, by omega⟩, q _ H2 G2 (g1.trans g2) itr_ok⟩
    · cases hf
  · cases hf

/-! ### targets -/
structure JG (X : Cx) (cm : Nat → Addr) (tg : Expr) (is : List Nat) (g : GF) : Prop where
  run : ∀ (env env' : Sl) (d : Dt) (v : V) (σ : L2.St) (H G : Hp), g d env = some env' → Rel X.K cm σ H G env → Den X.K cm G v d → ∀ Q : L2.St → Hp → Prop,
    (∀ σ', Rel X.K cm σ' H G env' → Fr σ env H G σ' env' H G → (∀ j : Nat, j ∉ is → σ'[j]? = σ[j]?) → σ'.length = σ.length → Q σ' H) → wpG X tg v σ H Q
theorem get_set {α : Type} {l : List α} {i j : Nat} {x y : α} (h : (l.set i x)[j]? = some y) : (i = j ∧ y = x ∧ j < l.length) ∨ (i ≠ j ∧ l[j]? = some y) := by
  by_cases e : i = j
  · subst e
    have hl : i < (l.set i x).length := (List.getElem?_eq_some_iff.mp h).1
    rw [List.length_set] at hl
    rw [List.getElem?_set_self hl] at h
    exact .inl ⟨rfl, (Option.some.inj h).symm, hl⟩
  · rw [List.getElem?_set_ne e] at h
    exact .inr ⟨e, h⟩
/-- a name gets data -/
theorem Rel.setVal {K : PySem.W.Frag} {i : Nat} {v : V} {d : Dt} (r : Rel K cm σ H G env) (h : Den K cm G v d) : Rel K cm (σ.set i (some v)) H G (env.set i (.val d)) where
  len := by rw [List.length_set, List.length_set, r.len]
  sub := r.sub
  val := fun j d' hj => by
    rcases get_set hj with ⟨rfl, e, hl⟩ | ⟨ne, hj⟩
    · cases e
      exact ⟨v, List.getElem?_set_self (by rw [r.len]; exact hl), h⟩
    · obtain ⟨w, h1, h2⟩ := r.val j d' hj
      exact ⟨w, by rw [List.getElem?_set_ne ne]; exact h1, h2⟩
  own := fun j od hj => by
    rcases get_set hj with ⟨rfl, e, hl⟩ | ⟨ne, hj⟩
    · cases e
    · obtain ⟨l, o, h1, h2, h3, h4⟩ := r.own j od hj
      exact ⟨l, o, by rw [List.getElem?_set_ne ne]; exact h1, h2, h3, h4⟩
  dist := fun j k od od' a hj hk ej ek => by
    rcases get_set hj with ⟨rfl, e, hl⟩ | ⟨ne, hj⟩
    · cases e
    · rcases get_set hk with ⟨rfl, e, hl⟩ | ⟨ne', hk⟩
      · cases e
      · rw [List.getElem?_set_ne ne] at ej
        rw [List.getElem?_set_ne ne'] at ek
        exact r.dist j k od od' a hj hk ej ek
theorem Fr.setVal {i : Nat} {v : V} {d : Dt} (s : Exx G H) : Fr σ env H G (σ.set i (some v)) (env.set i (.val d)) H G where
  gx := .refl _
  hid := fun _ _ _ n _ => n
  keep := fun _ _ h _ => h
  there := fun a o h => ⟨o, h⟩
  sub := s
  fresh := fun a o h n => by
    rintro ⟨j, od, hj, ej⟩
    rcases get_set hj with ⟨rfl, e, hl⟩ | ⟨ne, hj⟩
    · cases e
    · rw [List.getElem?_set_ne ne] at ej
      exact n ⟨j, od, hj, ej⟩
  take := fun j hj => by
    rcases get_set hj with ⟨rfl, e, hl⟩ | ⟨ne, hj⟩
    · cases e
    · exact ⟨hj, List.getElem?_set_ne ne⟩
theorem jg_name {x : Str} (i : Nat) (hN : X.N.Nodup) (hi : X.N[i]? = some x := by rfl) (hx : Loc X.env.scope x := by first | exact Or.inl rfl | exact Or.inr rfl) (hf : X.fn x = true ∨ X.env.scope.names.lookup x = some .local := by first | exact .inl rfl | exact .inr rfl | assumption) : JG X cm (.Name x pos) [i] (gN i) := by
  refine ⟨fun env env' d v σ H G hg rel hd Q q pins s u I r => ?_⟩
  cases hg
  refine (pg_name hN hi hx hf).run pins s σ H v u _ I r ?_
  exact q _ (rel.setVal hd) (.setVal rel.sub) (fun j hj => List.getElem?_set_ne (fun e => hj (by rw [e]; exact List.mem_singleton.mpr rfl))) (List.length_set ..)
end
/-- several names -/
structure JGs (X : Cx) (cm : Nat → Addr) (tgs : List Expr) (is : List Nat) : Prop where
  run : ∀ (env env' : Sl) (ds : List Dt) (vs : List V) (σ : L2.St) (H G : Hp), gsN is ds env = some env' → Rel X.K cm σ H G env → DenL X.K cm G vs ds → ∀ Q : L2.St → Hp → Prop,
    (∀ σ', Rel X.K cm σ' H G env' → Fr σ env H G σ' env' H G → (∀ j : Nat, j ∉ is → σ'[j]? = σ[j]?) → σ'.length = σ.length → Q σ' H) →
    ∀ pins s us, Inv X pins σ H s → Vals vs us → wpAny (model X.prog X.w) X.A (assignInOrder ((assignEach tgs X.env).map (·.2)) us) (fun _ s' => ∃ σ' H', Inv X pins σ' H' s' ∧ Q σ' H') X.xe s
def wpGs (X : Cx) (tgs : List Expr) : TGs := fun vs σ H Q => ∀ pins s us, Inv X pins σ H s → Vals vs us → wpAny (model X.prog X.w) X.A (assignInOrder ((assignEach tgs X.env).map (·.2)) us) (fun _ s' => ∃ σ' H', Inv X pins σ' H' s' ∧ Q σ' H') X.xe s
theorem pgs_w {X : Cx} {tgs : List Expr} : PGs X tgs (wpGs X tgs) := ⟨fun pins s σ H vs us Q I r h => h pins s us I r⟩
section
variable {X : Cx} {cm : Nat → Addr} {pos : Pos}
theorem jgs_nil : JGs X cm [] [] := ⟨fun env env' ds vs σ H G hg rel hd Q q pins s us I r => by
  cases ds with
  | nil =>
    cases hg
    cases hd
    exact pgs_nil.run pins s σ H _ us Q I r ⟨rfl, q σ rel (.refl rel.sub) (fun _ _ => rfl) rfl⟩
  | cons d ds => cases hg⟩
theorem jgs_cons {x : Str} {tgs : List Expr} {is : List Nat} (i : Nat) (hN : X.N.Nodup) (hr : JGs X cm tgs is) (hi : X.N[i]? = some x := by rfl) (hx : Loc X.env.scope x := by first | exact Or.inl rfl | exact Or.inr rfl)
    (hf : X.fn x = true ∨ X.env.scope.names.lookup x = some .local := by first | exact .inl rfl | exact .inr rfl | assumption)
    (hs : (assignEach (.Name x pos :: tgs) X.env).map (·.2) = assign (.Name x pos) X.env :: (assignEach tgs X.env).map (·.2) := by rfl) : JGs X cm (.Name x pos :: tgs) (i :: is) := by
  refine ⟨fun env env' ds vs σ H G hg rel hd Q q pins s us I r => ?_⟩
  cases ds with
  | nil => cases hg
  | cons d ds =>
    cases hd with
    | cons d1 dr =>
      refine (pgs_cons (pg_name hN hi hx hf) pgs_w hs).run pins s σ H _ us Q I r ⟨_, _, rfl, ?_⟩
      refine hr.run _ _ ds _ _ H G hg (rel.setVal d1) dr Q fun σ' rel' fr' same len => ?_
      refine q σ' rel' ((Fr.setVal rel.sub).trans fr') (fun j hj => ?_) (by rw [len, List.length_set])
      have h1 : j ≠ i := fun e => hj (by rw [e]; exact List.mem_cons_self)
      have h2 : j ∉ is := fun e => hj (List.mem_cons_of_mem _ e)
      rw [same j h2, List.getElem?_set_ne h1.symm]
theorem gsN_len : ∀ {is : List Nat} {ds : List Dt} {env env' : Sl}, gsN is ds env = some env' → ds.length = is.length
  | [], [], _, _, _ => rfl
  | i :: is, d :: ds, _, _, h => by
    have h' : gsN is ds _ = _ := h
    rw [List.length_cons, List.length_cons, gsN_len h']
  | [], _ :: _, _, _, h => by cases h
  | _ :: _, [], _, _, h => by cases h
/-- (a, b, ..) = a list of that length -/
def gLst (K : PySem.W.Frag) (n : Nat) (t : TGs) : TG := fun v σ H Q => ∃ a xs, v = .ref a ∧ SqL K H a xs ∧ xs.length = n ∧ t xs σ H Q
theorem pg_lst {es : List Expr} {k : Nat} {t : TGs} {n : Nat} (hc : X.calm = true) (h : PGs X es t) (hn : (assignEach es X.env).length = n) (hst : (assignEach es X.env).findIdx? (·.1) = none) : PG X (.Tuple es k pos) (gLst X.K n t) := by
  refine ⟨fun pins s σ H v u Q I r hw => ?_⟩
  obtain ⟨a, xs, rfl, hq, hl, hw⟩ := hw
  cases r
  obtain ⟨its, rv, p, _⟩ := I.list hq
  have e : (assignEach es X.env).length = its.toArray.size := by rw [hn, ← hl, rv.length, List.size_toArray]
  rw [PyProof.Rows.assign_Tuple]
  refine wpAny_bind (wpAny_standAt ?_)
  unfold PySem.unpack
  rw [e, hst]
  refine wpAny_bind (wpAny_holding (PySem.W.kun_itemsOf (I.ok.hd hc) p.isList fun g up => ?_))
  have I1 : Inv X pins σ H { s with heap := g } := I.kept (t' := s.toks) fun b o z => up b o (Nat.ne_of_lt (Heap.lt_size z)) z
  exact h.run pins _ σ H xs _ Q I1 (by simpa using rv) hw
theorem jg_tup {es : List Expr} {k : Nat} {is : List Nat} (hc : X.calm = true) (h : JGs X cm es is) (hn : (assignEach es X.env).length = is.length := by rfl) (hst : (assignEach es X.env).findIdx? (·.1) = none := by rfl) : JG X cm (.Tuple es k pos) is (gT is) := by
  refine ⟨fun env env' d v σ H G hg rel hd Q q pins s u I r => ?_⟩
  unfold gT at hg
  split at hg
  · rename_i ds
    cases hd with
    | tup h1 h2 =>
      refine (pg_tup hc pgs_w hn hst).run pins s σ H _ u Q I r ⟨_, _, rfl, rel.sub.sqT h1, ?_, ?_⟩
      · rw [h2.length, gsN_len hg]
      · exact h.run env env' ds _ σ H G hg rel h2 Q q
  · rename_i ds
    cases hd with
    | lst h1 h2 =>
      refine (pg_lst hc pgs_w hn hst).run pins s σ H _ u Q I r ⟨_, _, rfl, rel.sub.sqL h1, ?_, ?_⟩
      · rw [h2.length, gsN_len hg]
      · exact h.run env env' ds _ σ H G hg rel h2 Q q
  · cases hg
end
end Pyl
end
section
set_option Elab.async false
set_option linter.all false
set_option maxRecDepth 100000
set_option maxHeartbeats 4000000
/-! zip of two sequences, each a list (kind true) or a tuple (kind false) -/
namespace Pyl
open PySem L2
/-- a sequence of the kind k at an address; its iterator -/
def KSeq (k : Bool) (h : Heap) (l : Addr) (its : Array Value) : Prop := match k with
  | true => h.IsList l its
  | false => h.IsTuple l its
def KIt (k : Bool) (h : Heap) (p l : Addr) (n : Nat) : Prop := match k with
  | true => h.IsListIter p l n
  | false => h.IsTupleIter p l n
def itName (k : Bool) : String := bif k then "list_iterator" else "tuple_iterator"
def itObj (k : Bool) (l : Addr) : Obj := { cls := .type (itName k), data := .fields #[.ref l, .int 0 0] }
theorem KSeq.ex {k : Bool} {h : Heap} {l : Addr} {its : Array Value} (q : KSeq k h l its) : ∃ o, h.get? l = some o ∧ ∀ h2 : Heap, h2.get? l = some o → KSeq k h2 l its := by
  cases k <;> (obtain ⟨o, e, r⟩ := q; exact ⟨o, e, fun h2 e2 => ⟨o, e2, r⟩⟩)
theorem KIt.ex {k : Bool} {h : Heap} {p l : Addr} {n : Nat} (q : KIt k h p l n) : ∃ o, h.get? p = some o ∧ (∀ v, o.data ≠ .cell v) ∧ ∀ h2 : Heap, h2.get? p = some o → KIt k h2 p l n := by
  cases k <;> (obtain ⟨o, e, c, d⟩ := q; exact ⟨o, e, fun v z => (by rw [d] at z; cases z), fun h2 e2 => ⟨o, e2, c, d⟩⟩)
theorem KSeq.to {k : Bool} {h h2 : Heap} {l : Addr} {its : Array Value} (q : KSeq k h l its) (e : ∀ o, h.get? l = some o → h2.get? l = some o) : KSeq k h2 l its := by
  obtain ⟨o, e1, f⟩ := q.ex
  exact f h2 (e o e1)
theorem KIt.to {k : Bool} {h h2 : Heap} {p l : Addr} {n : Nat} (q : KIt k h p l n) (e : ∀ o, h.get? p = some o → h2.get? p = some o) : KIt k h2 p l n := by
  obtain ⟨o, e1, _, f⟩ := q.ex
  exact f h2 (e o e1)
theorem KSeq.lt {k : Bool} {h : Heap} {l : Addr} {its : Array Value} (q : KSeq k h l its) : l < h.objs.size := by
  obtain ⟨o, e, _⟩ := q.ex
  exact Heap.lt_size e
theorem KIt.lt {k : Bool} {h : Heap} {p l : Addr} {n : Nat} (q : KIt k h p l n) : p < h.objs.size := by
  obtain ⟨o, e, _⟩ := q.ex
  exact Heap.lt_size e
section
variable {pg : Program} {wd : World} {ar : Around} {B : Value → Shared → Prop} {t : Shared}
theorem k_next {k : Bool} {p l : Addr} {n : Nat} {its : Array Value} {u : Value} {R : Value → Shared → Prop} (hp : KIt k t.heap p l n) (hl : KSeq k t.heap l its) (hu : its[n]? = some u)
    (hR : ∀ g, KIt k g p l (n + 1) → Heap.SameBut p t.heap g → R u { t with heap := g }) : wpAny (model pg wd) ar (Builtin.SmallTypes.nextOf (.ref p)) R B t := by
  cases k
  · exact RZ.nextOf_tuple_item hp hl hu hR
  · exact wpAny_nextOf_list_item hp hl hu hR
theorem k_last {k : Bool} {p l : Addr} {n : Nat} {its : Array Value} {R : Value → Shared → Prop} (hd : ar.handled = none) (hp : KIt k t.heap p l n) (hl : KSeq k t.heap l its) (hu : its[n]? = none)
    (hB : ∀ g e, Heap.ExtBut p t.heap g → (∃ o, g.get? e = some o ∧ o.cls = .type "StopIteration") → B (.ref e) { t with heap := g }) : wpAny (model pg wd) ar (Builtin.SmallTypes.nextOf (.ref p)) R B t := by
  cases k
  · exact RZ.nextOf_tuple_end hd hp hl hu hB
  · exact wpAny_nextOf_list_end hd hp hl hu hB
theorem k_iter {k : Bool} {l : Addr} {its : Array Value} {R : Value → Shared → Prop} (hl : KSeq k t.heap l its) (hR : R (.ref t.heap.objs.size) { t with heap := t.heap.push (itObj k l) }) : wpAny (model pg wd) ar (pyIter (.ref l)) R B t := by
  cases k
  · exact wpAny_pyIter_tuple hl hR
  · exact wpAny_pyIter_list hl hR

variable {c d : Bool} {q QI QO p1 p2 m1 m2 : Addr} {n : Nat} {us ws : Array Value} {u v f g : Value}
/-- what of a zip's turn stays the same -/
structure ZSt (c d : Bool) (h : Heap) (q QI QO p1 p2 m1 m2 : Addr) (n : Nat) (f : Value) : Prop where
  z : IsZip h q QI QO f
  i : IsPair h QI (.ref p1) (.ref p2)
  o : ∃ a b, IsPair h QO a b
  a : KIt c h p1 m1 n
  b : KIt d h p2 m2 n
theorem k_turn {R : Value → Shared → Prop} (D : ZipApart q QI QO p1 p2 m1 m2) (S : ZSt c d t.heap q QI QO p1 p2 m1 m2 n .none) (hu : KSeq c t.heap m1 us) (hw : KSeq d t.heap m2 ws) (eu : us[n]? = some u) (ew : ws[n]? = some v)
    (hR : ∀ g, ZSt c d g q QI QO p1 p2 m1 m2 (n + 1) (rawInt t.heap.objs.size) → IsPair g t.heap.objs.size u v →
      (∀ a o, a ≠ q → a ≠ QO → a ≠ p1 → a ≠ p2 → t.heap.get? a = some o → g.get? a = some o) → R (.ref t.heap.objs.size) { t with heap := g }) :
    wpAny (model pg wd) ar (Builtin.«zip.__next__» ⟨[.ref q], []⟩) (fun fin t2 => ∃ x, fin = .done (.ret x) ∧ R x t2) B t := by
  obtain ⟨gz, gi, ⟨f, g, go⟩, g1, g2⟩ := S
  show wpAny _ _ (field (.ref q) 2 >>= _) _ _ _
  refine wpAny_bind <| wpAny_field gz rfl (x := .bool false) rfl ?_
  show wpAny _ _ (field (.ref q) 3 >>= _) _ _ _
  refine wpAny_bind <| wpAny_field gz rfl (x := .ref QI) rfl (wpAny_bind (wpAny_seqItems gi rfl ?_))
  show wpAny _ _ (Builtin.SmallTypes.ownedTupleIsFree (.ref q) >>= _) _ _ _
  refine wpAny_bind ?_
  unfold Builtin.SmallTypes.ownedTupleIsFree
  refine wpAny_bind <| wpAny_field gz rfl (x := .none) rfl (wpAny_pure ?_)
  simp only [if_true]
  refine wpAny_bind <| wpAny_rule <| wpAny_bind <| wpAny_field gz rfl (x := .ref QO) rfl ?_
  refine wpAny_bind <| wpAny_setField_rec gz (by simp) fun x1 gz1 e1 => ?_
  replace gz1 : IsZip x1 q QI QO .ellipsis := gz1
  refine wpAny_bind ?_
  simp only [List.zipIdx_cons, List.forIn_cons, List.zipIdx_nil, List.forIn_nil]
  refine wpAny_bind <| wpAny_bind <| wpAny_onRaise ?_
  show wpAny _ _ (Builtin.SmallTypes.nextOf (.ref p1) >>= _) _ _ _
  refine wpAny_bind <| k_next (g1.to fun _ => e1.extBut _ _ D.i1z) (hu.to fun _ => e1.extBut _ _ D.l1z) eu fun x2 g12 e2 => wpAny_pure ?_
  have go2 : IsPair x2 QO f g := e2.extBut _ _ D.TOi1 (e1.extBut _ _ D.TOz go)
  refine wpAny_bind <| wpAny_seqItems go2 rfl <| wpAny_bind <| wpAny_updateSeq_pair go2 fun x3 go3 e3 => ?_
  replace go3 : IsPair x3 QO u g := go3
  refine wpAny_bind <| wpAny_letGo <| wpAny_pure ?_
  refine wpAny_bind <| wpAny_bind <| wpAny_onRaise ?_
  show wpAny _ _ (Builtin.SmallTypes.nextOf (.ref p2) >>= _) _ _ _
  refine wpAny_bind <| k_next (g2.to fun _ z => e3.extBut _ _ D.TOi2.symm (e2.extBut _ _ D.i12.symm (e1.extBut _ _ D.i2z z))) (hw.to fun _ z => e3.extBut _ _ D.l2TO (e2.extBut _ _ D.l2i1 (e1.extBut _ _ D.l2z z))) ew fun x4 g24 e4 => wpAny_pure ?_
  have go4 : IsPair x4 QO u g := e4.extBut _ _ D.TOi2 go3
  refine wpAny_bind <| wpAny_seqItems go4 rfl <| wpAny_bind <| wpAny_updateSeq_pair go4 fun x5 go5 e5 => ?_
  replace go5 : IsPair x5 QO u v := go5
  refine wpAny_bind <| wpAny_letGo <| wpAny_pure <| wpAny_pure ?_
  refine wpAny_bind <| wpAny_seqItems go5 rfl <| wpAny_bind <| wpAny_newTuple ?_
  have ez : x5.objs.size = t.heap.objs.size := by rw [e5.1, e4.1, e3.1, e2.1, e1.1]
  have gz5 : IsZip x5 q QI QO .ellipsis := e5.extBut _ _ D.TOz.symm (e4.extBut _ _ D.i2z.symm (e3.extBut _ _ D.TOz.symm (e2.extBut _ _ D.i1z.symm gz1)))
  have up5 : ∀ a o, a ≠ q → a ≠ QO → a ≠ p1 → a ≠ p2 → t.heap.get? a = some o → x5.get? a = some o := fun a o n1 n2 n3 n4 z =>
    e5.extBut _ _ n2 (e4.extBut _ _ n4 (e3.extBut _ _ n2 (e2.extBut _ _ n3 (e1.extBut _ _ n1 z))))
  have g15 : KIt c x5 p1 m1 (n + 1) := g12.to fun _ z => e5.extBut _ _ D.TOi1.symm (e4.extBut _ _ D.i12 (e3.extBut _ _ D.TOi1.symm z))
  have g25 : KIt d x5 p2 m2 (n + 1) := g24.to fun _ z => e5.extBut _ _ D.TOi2.symm z
  have lq : q < x5.objs.size := Heap.lt_size gz5
  show wpAny _ _ (Builtin.SmallTypes.ownedTupleHandOut (.ref q) (.ref x5.objs.size) >>= _) _ _ _
  refine wpAny_bind (by
    unfold Builtin.SmallTypes.ownedTupleHandOut
    have gz6 : IsZip (x5.push { cls := .type "tuple", data := .seq #[u, v] }) q QI QO .ellipsis := Heap.get?_push_of_some _ gz5
    refine wpAny_bind <| wpAny_setField_rec gz6 (by simp) fun x7 gz7 e7 => ?_
    replace gz7 : IsZip x7 q QI QO (rawInt x5.objs.size) := gz7
    refine wpAny_setField_rec gz7 (by simp) fun x8 gz8 e8 => ?_
    replace gz8 : IsZip x8 q QI QO (rawInt x5.objs.size) := gz8
    have up : ∀ a o, a ≠ q → x5.get? a = some o → x8.get? a = some o := fun a o n1 z => e8.extBut _ _ n1 (e7.extBut _ _ n1 (Heap.get?_push_of_some _ z))
    have gT : IsPair x8 x5.objs.size u v := e8.extBut _ _ (Nat.ne_of_gt lq) (e7.extBut _ _ (Nat.ne_of_gt lq) (Heap.get?_push_size _ rfl))
    rw [ez] at gz8 gT
    refine wpAny_pure ⟨_, rfl, ?_⟩
    show R (.ref x5.objs.size) _
    rw [ez]
    exact hR x8 ⟨gz8, up _ _ D.TIz (up5 _ _ D.TIz D.TITO D.TIi1 D.TIi2 gi), ⟨_, _, up _ _ D.TOz go5⟩, g15.to fun _ => up _ _ D.i1z, g25.to fun _ => up _ _ D.i2z⟩ gT fun a o n1 n2 n3 n4 z => up a o n1 (up5 a o n1 n2 n3 n4 z))
theorem k_stop {R : PySem.Fin → Shared → Prop} (hd : ar.handled = none) (D : ZipApart q QI QO p1 p2 m1 m2) (S : ZSt c d t.heap q QI QO p1 p2 m1 m2 n .none) (hu : KSeq c t.heap m1 us) (hw : KSeq d t.heap m2 ws) (en : us[n]? = none ∨ ws[n]? = none)
    (hB : ∀ g e, (∀ a o, a ≠ q → a ≠ QO → a ≠ p1 → a ≠ p2 → t.heap.get? a = some o → g.get? a = some o) → (∃ o, g.get? e = some o ∧ o.cls = .type "StopIteration") → B (.ref e) { t with heap := g }) :
    wpAny (model pg wd) ar (Builtin.«zip.__next__» ⟨[.ref q], []⟩) R B t := by
  obtain ⟨gz, gi, ⟨f, g, go⟩, g1, g2⟩ := S
  show wpAny _ _ (field (.ref q) 2 >>= _) _ _ _
  refine wpAny_bind <| wpAny_field gz rfl (x := .bool false) rfl ?_
  show wpAny _ _ (field (.ref q) 3 >>= _) _ _ _
  refine wpAny_bind <| wpAny_field gz rfl (x := .ref QI) rfl (wpAny_bind (wpAny_seqItems gi rfl ?_))
  show wpAny _ _ (Builtin.SmallTypes.ownedTupleIsFree (.ref q) >>= _) _ _ _
  refine wpAny_bind ?_
  unfold Builtin.SmallTypes.ownedTupleIsFree
  refine wpAny_bind <| wpAny_field gz rfl (x := .none) rfl (wpAny_pure ?_)
  simp only [if_true]
  refine wpAny_bind <| wpAny_rule <| wpAny_bind <| wpAny_field gz rfl (x := .ref QO) rfl ?_
  refine wpAny_bind <| wpAny_setField_rec gz (by simp) fun x1 gz1 e1 => ?_
  replace gz1 : IsZip x1 q QI QO .ellipsis := gz1
  refine wpAny_bind ?_
  simp only [List.zipIdx_cons, List.forIn_cons, List.zipIdx_nil, List.forIn_nil]
  refine wpAny_bind <| wpAny_bind <| wpAny_onRaise ?_
  show wpAny _ _ (Builtin.SmallTypes.nextOf (.ref p1) >>= _) _ _ _
  have fin : ∀ (y : Heap) (e : Addr), IsZip y q QI QO .ellipsis → (∃ o, y.get? e = some o ∧ o.cls = .type "StopIteration") → (∀ a o, a ≠ q → a ≠ QO → a ≠ p1 → a ≠ p2 → t.heap.get? a = some o → y.get? a = some o) →
      wpAny (model pg wd) ar (setField (.ref q) 0 .none) (fun _ => B (.ref e)) B { t with heap := y } := fun y e zy he k => by
    obtain ⟨oe, w1, w2⟩ := he
    have ne : e ≠ q := fun x => by subst x; rw [zy] at w1; cases w1; simp at w2
    exact wpAny_setField_rec zy (by simp) fun y2 _ ey => hB y2 e (fun a o n1 n2 n3 n4 x => ey.extBut _ _ n1 (k a o n1 n2 n3 n4 x)) ⟨oe, ey.extBut _ _ ne w1, w2⟩
  cases eu : us[n]? with
  | none =>
    refine wpAny_bind <| k_last hd (g1.to fun _ => e1.extBut _ _ D.i1z) (hu.to fun _ => e1.extBut _ _ D.l1z) eu fun x2 e e2 he => ?_
    exact fin x2 e (e2 _ _ D.i1z.symm gz1) he fun a o n1 _ n3 _ x => e2 _ _ n3 (e1.extBut _ _ n1 x)
  | some u =>
    have ew : ws[n]? = none := by
      rcases en with z | z
      · rw [eu] at z; cases z
      · exact z
    refine wpAny_bind <| k_next (g1.to fun _ => e1.extBut _ _ D.i1z) (hu.to fun _ => e1.extBut _ _ D.l1z) eu fun x2 g12 e2 => wpAny_pure ?_
    have go2 : IsPair x2 QO f g := e2.extBut _ _ D.TOi1 (e1.extBut _ _ D.TOz go)
    refine wpAny_bind <| wpAny_seqItems go2 rfl <| wpAny_bind <| wpAny_updateSeq_pair go2 fun x3 go3 e3 => ?_
    refine wpAny_bind <| wpAny_letGo <| wpAny_pure ?_
    refine wpAny_bind <| wpAny_bind <| wpAny_onRaise ?_
    show wpAny _ _ (Builtin.SmallTypes.nextOf (.ref p2) >>= _) _ _ _
    refine wpAny_bind <| k_last hd (g2.to fun _ z => e3.extBut _ _ D.TOi2.symm (e2.extBut _ _ D.i12.symm (e1.extBut _ _ D.i2z z))) (hw.to fun _ z => e3.extBut _ _ D.l2TO (e2.extBut _ _ D.l2i1 (e1.extBut _ _ D.l2z z))) ew fun x4 e e4 he => ?_
    exact fin x4 e (e4 _ _ D.i2z.symm (e3.extBut _ _ D.TOz.symm (e2.extBut _ _ D.i1z.symm gz1))) he fun a o n1 n2 n3 n4 x => e4 _ _ n4 (e3.extBut _ _ n2 (e2.extBut _ _ n3 (e1.extBut _ _ n1 x)))
theorem k_pyNext {R : Option Value → Shared → Prop} (D : ZipApart q QI QO p1 p2 m1 m2) (S : ZSt c d t.heap q QI QO p1 p2 m1 m2 n .none) (hu : KSeq c t.heap m1 us) (hw : KSeq d t.heap m2 ws) (eu : us[n]? = some u) (ew : ws[n]? = some v)
    (hR : ∀ g, ZSt c d g q QI QO p1 p2 m1 m2 (n + 1) (rawInt t.heap.objs.size) → IsPair g t.heap.objs.size u v →
      (∀ a o, a ≠ q → a ≠ QO → a ≠ p1 → a ≠ p2 → t.heap.get? a = some o → g.get? a = some o) → R (some (.ref t.heap.objs.size)) { t with heap := g }) :
    wpAny (model pg wd) ar (pyNext (.ref q)) R B t := by
  have ty : t.TypeIs (.ref q) "zip" := ⟨_, S.z, rfl⟩
  unfold pyNext
  refine wpAny_bind <| wpAny_attempt <| wpAny_callSpecial?_slot (name := Str.ofString "__next__") ty F.slot_zip_next ?_
  exact wpAny_call_entry F.slot_zip_next ty F.entry_zip_next (k_turn D S hu hw eu ew fun g s1 s2 s3 => wpAny_pure (hR g s1 s2 s3)) (F.args_zip_next_1 _)
theorem k_pyStop {R : Option Value → Shared → Prop} (hd : ar.handled = none) (D : ZipApart q QI QO p1 p2 m1 m2) (S : ZSt c d t.heap q QI QO p1 p2 m1 m2 n .none) (hu : KSeq c t.heap m1 us) (hw : KSeq d t.heap m2 ws) (en : us[n]? = none ∨ ws[n]? = none)
    (hR : ∀ g, (∀ a o, a ≠ q → a ≠ QO → a ≠ p1 → a ≠ p2 → t.heap.get? a = some o → g.get? a = some o) → R none { t with heap := g }) : wpAny (model pg wd) ar (pyNext (.ref q)) R B t := by
  have ty : t.TypeIs (.ref q) "zip" := ⟨_, S.z, rfl⟩
  unfold pyNext
  refine wpAny_bind <| wpAny_attempt <| wpAny_callSpecial?_slot (name := Str.ofString "__next__") ty F.slot_zip_next ?_
  refine wpAny_call_entry F.slot_zip_next ty F.entry_zip_next (k_stop hd D S hu hw en fun g e k he => ?_) (F.args_zip_next_1 _)
  obtain ⟨o, e1, e2⟩ := he
  exact wpAny_bind <| wpAny_isInstance (T := "StopIteration") (b := true) ⟨o, e1, e2⟩ isSubtype_stop <| wpAny_pure (hR _ k)
end
/-! the making -/
abbrev zA (c : Bool) (h : Heap) (m1 : Addr) : Heap := h.push (itObj c m1)
abbrev zB (c d : Bool) (h : Heap) (m1 m2 : Addr) : Heap := (zA c h m1).push (itObj d m2)
abbrev zC (c d : Bool) (h : Heap) (m1 m2 : Addr) : Heap := (zB c d h m1 m2).push { cls := .type "tuple", data := .seq #[.ref h.objs.size, .ref (zA c h m1).objs.size] }
abbrev zD (c d : Bool) (h : Heap) (m1 m2 : Addr) : Heap := (zC c d h m1 m2).push { cls := .type "tuple", data := .seq #[.none, .none] }
abbrev zE (c d : Bool) (h : Heap) (m1 m2 : Addr) : Heap := (zD c d h m1 m2).push { cls := .type "zip", data := .fields #[.none, .bool false, .bool false, .ref (zB c d h m1 m2).objs.size, .ref (zC c d h m1 m2).objs.size] }
theorem k_made (c d : Bool) (m1 m2 : Addr) (us ws : Array Value) : Meets (Builtin.«zip.__new__» ⟨[.type "zip", .ref m1, .ref m2], []⟩)
    (fun _ R t => KSeq c t.heap m1 us ∧ KSeq d t.heap m2 ws ∧ R (.ok (.ret (.ref (zD c d t.heap m1 m2).objs.size))) { t with heap := zE c d t.heap m1 m2 }) :=
  .of_wp fun pg wd ar R t z => by
    obtain ⟨hp, g, dd, tk, os⟩ := t
    obtain ⟨z1, z2, z⟩ := z
    have hsub := sub_zip
    have q1 : KSeq c (Shared.heap ⟨hp, g, dd, tk, os⟩) m1 us := z1
    have q2 : KSeq d (Shared.heap ⟨hp.push (itObj c m1), g, dd, tk, os⟩) m2 ws := z2.to fun o e => Heap.get?_push_of_some _ e
    wp_walk using k_iter q1, k_iter q2
    exact ⟨_, rfl, z⟩
theorem itObj_it (k : Bool) {h : Heap} {p l : Addr} (e : h.get? p = some (itObj k l)) : KIt k h p l 0 := by
  cases k <;> exact ⟨_, e, rfl, rfl⟩
section
variable {pg : Program} {wd : World} {ar : Around} {B : Value → Shared → Prop} {t : Shared} {c d : Bool} {us ws : Array Value} {m1 m2 : Addr}
theorem k_zip {R : Value → Shared → Prop} (hu : KSeq c t.heap m1 us) (hw : KSeq d t.heap m2 ws)
    (hR : ∀ g, ZSt c d g (t.heap.objs.size + 4) (t.heap.objs.size + 2) (t.heap.objs.size + 3) t.heap.objs.size (t.heap.objs.size + 1) m1 m2 0 .none →
      (∀ a o, t.heap.get? a = some o → g.get? a = some o) → R (.ref (t.heap.objs.size + 4)) { t with heap := g }) :
    wpAny (model pg wd) ar (call (.type "zip") [.ref m1, .ref m2]) R B t := by
  refine callType_new F.called_zip (by decide) (F.typeCall_zip_2 _ _) (F.newCall_zip_2 _ _) (fun ob => F.args_object_init_3 ob _ _) F.entry_zip_new (k_made c d m1 m2 us ws) ⟨hu, hw, ?_⟩
  have sA : (zA c t.heap m1).objs.size = t.heap.objs.size + 1 := Heap.size_push ..
  have sB : (zB c d t.heap m1 m2).objs.size = t.heap.objs.size + 2 := by rw [Heap.size_push, sA]
  have sC : (zC c d t.heap m1 m2).objs.size = t.heap.objs.size + 3 := by rw [Heap.size_push, sB]
  have sD : (zD c d t.heap m1 m2).objs.size = t.heap.objs.size + 4 := by rw [Heap.size_push, sC]
  have up := fun (h : Heap) (ob : Obj) (a : Addr) (o : Obj) (e : h.get? a = some o) => Heap.get?_push_of_some (h := h) ob e
  have gE : (zE c d t.heap m1 m2).get? (zD c d t.heap m1 m2).objs.size = some _ := Heap.get?_push_size _ rfl
  have gD : (zE c d t.heap m1 m2).get? (zC c d t.heap m1 m2).objs.size = some _ := up _ _ _ _ (Heap.get?_push_size _ rfl)
  have gC : (zE c d t.heap m1 m2).get? (zB c d t.heap m1 m2).objs.size = some _ := up _ _ _ _ (up _ _ _ _ (Heap.get?_push_size _ rfl))
  have gB : (zE c d t.heap m1 m2).get? (zA c t.heap m1).objs.size = some _ := up _ _ _ _ (up _ _ _ _ (up _ _ _ _ (Heap.get?_push_size _ rfl)))
  have gA : (zE c d t.heap m1 m2).get? t.heap.objs.size = some _ := up _ _ _ _ (up _ _ _ _ (up _ _ _ _ (up _ _ _ _ (Heap.get?_push_size _ rfl))))
  show _ ∧ _
  rw [sB, sC, sD] at gE
  rw [sA, sB] at gC
  rw [sC] at gD
  rw [sA] at gB
  rw [sD]
  exact ⟨⟨_, gE, rfl⟩, hR _ ⟨gE, gC, ⟨_, _, gD⟩, itObj_it c gA, itObj_it d gB⟩ fun a o e => up _ _ _ _ (up _ _ _ _ (up _ _ _ _ (up _ _ _ _ (up _ _ _ _ e))))⟩
end
/-! the walk over it -/
def SqK (K : PySem.W.Frag) (k : Bool) (H : Hp) (a : Addr) (vs : List V) : Prop := match k with
  | true => SqL K H a vs
  | false => SqT K H a vs
theorem inv_sq {X : Cx} {pins : List (Addr × Obj)} {σ : L2.St} {H : Hp} {s : Shared} {k : Bool} {a : Addr} {vs : List V} (I : Inv X pins σ H s) (h : SqK X.K k H a vs) : ∃ its : List Value, Vals vs its ∧ KSeq k s.heap a its.toArray := by
  cases k
  · obtain ⟨its, r, p, _⟩ := I.tuple h
    exact ⟨its, r, p⟩
  · obtain ⟨its, r, p, _⟩ := I.list h
    exact ⟨its, r, p.isList⟩
theorem inv_one {X : Cx} {pins : List (Addr × Obj)} {σ : L2.St} {H : Hp} {s : Shared} {k : Bool} {a : Addr} {vs ws : List V} (I : Inv X pins σ H s) (h : SqK X.K k H a vs) (h' : SqK X.K k H a ws) : vs = ws := by
  cases k
  · exact I.tuple_inj h h'
  · exact I.list_inj h h'
def ItK (K : PySem.W.Frag) (c d : Bool) (a b : Addr) : It where
  go := fun i H => ∃ vs ws x y, SqK K c H a vs ∧ SqK K d H b ws ∧ vs[i]? = some x ∧ ws[i]? = some y
  yld := fun i H v H' => ∃ T x y, (v = .ref T ∧ H T = none ∧ H' = upd H T (.tup [x, y])) ∧ (∀ vs, SqK K c H a vs → vs[i]? = some x) ∧ ∀ ws, SqK K d H b ws → ws[i]? = some y
  stop := fun i H => ∃ vs ws, SqK K c H a vs ∧ SqK K d H b ws ∧ (vs.length ≤ i ∨ ws.length ≤ i)
theorem five {q QI QO p1 p2 a : Addr} {P : Addr → Prop} (ha : a ∈ [q, QI, QO, p1, p2]) (h1 : P q) (h2 : P QI) (h3 : P QO) (h4 : P p1) (h5 : P p2) : P a := by
  have e : a = q ∨ a = QI ∨ a = QO ∨ a = p1 ∨ a = p2 := by simpa using ha
  rcases e with e | e | e | e | e <;> (rw [e]; assumption)
theorem k_walk {P : Program} {w : World} {K : PySem.W.Frag} {elts : List Expr} {kk : Nat} {tpos : Pos} {c d : Bool} {a b q QI QO p1 p2 : Addr} (D : ZipApart q QI QO p1 p2 a b) :
    Turn P w K (.Tuple elts kk tpos) (ItK K c d a b) [q, QI, QO, p1, p2] q (fun i h => ZSt c d h q QI QO p1 p2 a b i .none) where
  mem := List.mem_cons_self
  obj := fun i h S x hx => by
    obtain ⟨f, g, go⟩ := S.o
    obtain ⟨o1, e1, f1, _⟩ := S.a.ex
    obtain ⟨o2, e2, f2, _⟩ := S.b.ex
    exact five (P := fun x => ∃ o, h.get? x = some o ∧ ∀ v, o.data ≠ .cell v) hx ⟨_, S.z, fun v z => nomatch z⟩ ⟨_, S.i, fun v z => nomatch z⟩ ⟨_, go, fun v z => nomatch z⟩ ⟨o1, e1, f1⟩ ⟨o2, e2, f2⟩
  keep := fun i h h' S k => by
    obtain ⟨f, g, go⟩ := S.o
    exact ⟨k q (by simp) _ S.z, k QI (by simp) _ S.i, ⟨f, g, k QO (by simp) _ go⟩, S.a.to fun o z => k p1 (by simp) o z, S.b.to fun o z => k p2 (by simp) o z⟩
  item := by
    intro X hP hw hK hc i pins s σ H E I hf S hg
    subst hP hw hK
    obtain ⟨vs, ws, x, y, hv, hw, ex, ey⟩ := hg
    obtain ⟨us1, r1, k1⟩ := inv_sq I hv
    obtain ⟨us2, r2, k2⟩ := inv_sq I hw
    obtain ⟨u, eu, ru⟩ := r1.get ex
    obtain ⟨u2, eu2, ru2⟩ := r2.get ey
    have lz : q < s.heap.objs.size := Heap.lt_size S.z
    refine k_pyNext D S k1 k2 (u := u) (v := u2) (by simpa using eu) (by simpa using eu2) fun g S' gT up => ?_
    refine ⟨_, rfl, wpAny_letOwnedTupleGo_zip (s := { s with heap := g }) S'.z fun g2 z2 sb => ?_⟩
    have gT2 : g2.get? s.heap.objs.size = some { cls := .type "tuple", data := .seq #[u, u2] } := (sb.2 _ (Nat.ne_of_gt lz)).trans gT
    have mk : ObjOk X.prog X.w (upd H s.heap.objs.size (.tup [x, y])) g2 s.heap.objs.size (.tup [x, y]) := ⟨by show 2 ≤ sizeLine; decide, [u, u2], .cons ru (.cons ru2 .nil), ⟨_, gT2, rfl, _, rfl⟩⟩
    have kp : ∀ (a : Addr) o, a ∉ [q, QI, QO, p1, p2] → s.heap.get? a = some o → g2.get? a = some o := fun a o na e =>
      (sb.2 a fun z => na (by simp [z])).trans (up a o (fun z => na (by simp [z])) (fun z => na (by simp [z])) (fun z => na (by simp [z])) (fun z => na (by simp [z])) e)
    have I2 : Inv X pins σ (upd H s.heap.objs.size (.tup [x, y])) { s with heap := g2 } := I.turnedNew (t' := s.toks) (ch := [q, QI, QO, p1, p2]) kp hf (Nat.le_refl _) mk
    have tail : ZSt c d g2 q QI QO p1 p2 a b (i + 1) .none := by
      obtain ⟨f, g, go⟩ := S'.o
      exact ⟨z2, (sb.2 _ D.TIz).trans S'.i, ⟨f, g, (sb.2 _ D.TOz).trans go⟩, S'.a.to fun o z => (sb.2 _ D.i1z).trans z, S'.b.to fun o z => (sb.2 _ D.i2z).trans z⟩
    refine ⟨.ref s.heap.objs.size, _, I2, rfl, ⟨_, x, y, ⟨rfl, I.hok.fresh (Nat.le_refl _), rfl⟩, fun l hl => by rw [inv_one I hl hv]; exact ex, fun l hl => by rw [inv_one I hl hw]; exact ey⟩, tail, fun z hz => ?_⟩
    obtain ⟨f, g, go⟩ := S.o
    have lt : z < s.heap.objs.size := five (P := fun z => z < s.heap.objs.size) hz lz (Heap.lt_size S.i) (Heap.lt_size go) S.a.lt S.b.lt
    rw [upd_ne (Nat.ne_of_lt lt)]
    exact (hf z hz).1
  done := by
    intro X hP hw hK hc i pins s σ H E I hf S hg
    subst hP hw hK
    obtain ⟨vs, ws, hv, hw, en⟩ := hg
    obtain ⟨us1, r1, k1⟩ := inv_sq I hv
    obtain ⟨us2, r2, k2⟩ := inv_sq I hw
    have l1 := r1.length
    have l2 := r2.length
    have he : us1.toArray[i]? = none ∨ us2.toArray[i]? = none := by
      rcases en with z | z
      · exact Or.inl (by simp; omega)
      · exact Or.inr (by simp; omega)
    exact k_pyStop (I.ok.hd hc) D S k1 k2 he fun g up => ⟨rfl, I.turnedL (t' := s.toks) (ch := [q, QI, QO, p1, p2]) (fun a o na e => up a o (fun z => na (by simp [z])) (fun z => na (by simp [z])) (fun z => na (by simp [z])) (fun z => na (by simp [z])) e) hf⟩
  self := fun A i s Q E S h => wpAny_pyIter_zip S.z h
def zipT (K : PySem.W.Frag) (ta : TA) : TI := fun σ H R => ta σ H fun vs H1 => ∃ c d a b xs ys, vs = [.ref a, .ref b] ∧ SqK K c H1 a xs ∧ SqK K d H1 b ys ∧ R (ItK K c d a b) H1
theorem k_over {X : Cx} {e e2 : Expr} {ta : TA} {p pos tpos : Pos} {elts : List Expr} {kk : Nat} (hg : Gl X "zip") (hm : X.mg "zip" = none) (ha : PA X [e, e2] ta)
    (h1 : starEach [e, e2] X.env = (false, eval e X.env) :: starEach [e2] X.env) (h2 : (backTo pos (starEach [e2] X.env)).any (·.1) = false) :
    PI X (.Tuple elts kk tpos) (.Call (.Name "zip" p) [e, e2] [] pos) (zipT X.K ta) := by
  refine ⟨fun pins s σ H R I h => PyProof.Rows.Call_ (ld_blt I hg hm PyProof.Rows.boot_zip (PyProof.Rows.callWith_type1 (thn (ha.run pos pins s σ H _ I h) fun us s1 z => ?_) h1 h2))⟩
  obtain ⟨vs, H1, I1, r1, c, d, a, b, xs, ys, rfl, qx, qy, z⟩ := z
  match us, r1 with
  | [_, _], .cons ra (.cons rb .nil) =>
    cases ra
    cases rb
    obtain ⟨us1, _, k1⟩ := inv_sq I1 qx
    obtain ⟨us2, _, k2⟩ := inv_sq I1 qy
    refine k_zip k1 k2 fun g S up => wpAny_pyIter_zip S.z ?_
    have fr : ∀ i : Nat, FpOk X pins H1 (s1.heap.objs.size + i) := fun i => I1.fpOk (Nat.le_add_right _ _) (I1.hok.fresh (Nat.le_add_right _ _))
    exact ⟨_, _, _, _, H1, rfl, I1.kept (t' := s1.toks) up, k_walk (PySem.W.ktu_apart s1.heap.objs.size a b k1.lt k2.lt), S, fun x hx => five hx (fr 4) (fr 2) (fr 3) (fr 0) (fr 1), z⟩
theorem itk_ok {K : PySem.W.Frag} {cm : Nat → Addr} {c d t : Bool} {a b : Addr} {vs ws : List V} {ds es : List Dt} {H0 G0 : Hp} (h1 : ∀ H G, StK H0 G0 t H G → SqK K c H a vs) (h2 : ∀ H G, StK H0 G0 t H G → SqK K d H b ws) (n1 : DenL K cm G0 vs ds) (n2 : DenL K cm G0 ws es) :
    ItOk K cm (ItK K c d a b) (List.zipWith (fun x y => Dt.tup [x, y]) ds es) t H0 G0 where
  go := fun i H G s hi => by
    rw [List.length_zipWith] at hi
    have i1 : i < vs.length := by rw [n1.length]; omega
    have i2 : i < ws.length := by rw [n2.length]; omega
    exact ⟨vs, ws, vs[i], ws[i], h1 H G s, h2 H G s, List.getElem?_eq_getElem i1, List.getElem?_eq_getElem i2⟩
  yl := fun i H G v H' s hi y => by
    obtain ⟨T, x, y, ⟨rfl, hT, rfl⟩, y1, y2⟩ := y
    obtain ⟨d1, e1, dn1⟩ := n1.get' (y1 vs (h1 _ _ s))
    obtain ⟨d2, e2, dn2⟩ := n2.get' (y2 ws (h2 _ _ s))
    have g := Grow.new (o := .tup [x, y]) s.sub hT
    refine ⟨_, .tup [d1, d2], ?_, g, .tup (SqT.of upd_same) (.cons ((dn1.mono s.gx).mono g.gx) (.one ((dn2.mono s.gx).mono g.gx)))⟩
    rw [List.getElem?_zipWith, e1, e2]
  stop := fun i H G s hi => by
    rw [List.length_zipWith] at hi
    refine ⟨vs, ws, h1 H G s, h2 H G s, ?_⟩
    rw [n1.length, n2.length]
    omega
theorem VR.seq {K : PySem.W.Frag} {cm : Nat → Addr} {H G : Hp} {v : V} {d : Dt} {t : Bool} {ds : List Dt} (s : Exx G H) (r : VR K cm H G v d t) (e : seqOf d = some ds) :
    ∃ c a vs, v = .ref a ∧ DenL K cm G vs ds ∧ SqK K c H a vs ∧ (t = false → SqK K c G a vs) := by
  cases t with
  | false =>
    cases r.2 rfl with
    | lst s1 n1 => cases e; exact ⟨true, _, _, rfl, n1, s.sqL s1, fun _ => s1⟩
    | tup s1 n1 => cases e; exact ⟨false, _, _, rfl, n1, s.sqT s1, fun _ => s1⟩
    | non => cases e
    | bl => cases e
    | int => cases e
    | str => cases e
    | obj => cases e
  | true =>
    obtain ⟨l, vs, ds', rfl, rfl, s1, n1⟩ := r.1 rfl
    cases e
    exact ⟨true, l, vs, rfl, n1, s1, fun z => nomatch z⟩
theorem SqK.ex {K : PySem.W.Frag} {c : Bool} {H H' : Hp} {a : Addr} {vs : List V} (e : Exx H H') (h : SqK K c H a vs) : SqK K c H' a vs := by
  cases c
  · exact e.sqT h
  · exact e.sqL h
theorem ji_zip {X : Cx} {cm : Nat → Addr} {a b : Expr} {fa fb : EF} {p pos tpos : Pos} {elts : List Expr} {kk : Nat} (hg : Gl X "zip") (hm : X.mg "zip" = none) (ha : JE X cm a fa) (hb : JE X cm b fb)
    (he : starEach [a, b] X.env = (false, eval a X.env) :: starEach [b] X.env := by rfl) (he2 : starEach [b] X.env = (false, eval b X.env) :: starEach [] X.env := by rfl) (hpl : (backTo pos (starEach [b] X.env)).any (·.1) = false := by rfl) : JI X cm (.Tuple elts kk tpos) (.Call (.Name "zip" p) [a, b] [] pos) (iZip fa fb) := by
  refine ⟨fun env ds t σ H G hf rel Q q => ?_⟩
  obtain ⟨ra, h1, hf⟩ := Option.bind_eq_some_iff.mp hf
  obtain ⟨rb, h2, hf⟩ := Option.bind_eq_some_iff.mp hf
  obtain ⟨xs, e1, hf⟩ := Option.bind_eq_some_iff.mp hf
  obtain ⟨ys, e2, hf⟩ := Option.bind_eq_some_iff.mp hf
  cases hf
  refine to_i (k_over hg hm (pa_cons pe_w (pa_cons pe_w pa_nil he2) he) he hpl) (ha.pub h1 rel fun v H1 G1 g1 vr => hb.pub h2 (rel.grow g1) fun w H2 G2 g2 wr => ?_)
  obtain ⟨c, l1, vs, rfl, n1, s1, t1⟩ := vr.seq g1.sub e1
  obtain ⟨d, l2, ws, rfl, n2, s2, t2⟩ := wr.seq g2.sub e2
  refine ⟨c, d, l1, l2, vs, ws, rfl, s1.ex g2.hx, s2, q _ H2 G2 (g1.trans g2) (itk_ok (fun H G s => ?_) (fun H G s => ?_) (n1.mono g2.gx) n2)⟩
  · cases ht : ra.sh with
    | false => exact ((t1 ht).ex g2.gx).ex (s.gx.trans s.sub)
    | true => exact (s1.ex g2.hx).ex (s.hx (by rw [ht]; rfl))
  · cases ht : rb.sh with
    | false => exact (t2 ht).ex (s.gx.trans s.sub)
    | true => exact s2.ex (s.hx (by rw [ht, Bool.or_true]))
end Pyl
end
section
set_option Elab.async false
set_option linter.all false
set_option maxRecDepth 100000
set_option maxHeartbeats 4000000
namespace Pyl
open PySem L2
/-! ### comprehensions -/
section
variable {X : Cx} {cm : Nat → Addr} {σ : L2.St} {H G : Hp} {env : Sl}
theorem wipeS_length (env : Sl) : ∀ is : List Nat, (wipeS env is).length = env.length
  | [] => rfl
  | i :: is => by unfold wipeS; rw [List.length_set, wipeS_length env is]
theorem wipeS_get {env : Sl} {j : Nat} {s : Slot} : ∀ {is : List Nat}, (wipeS env is)[j]? = some s → s = .non ∨ (env[j]? = some s ∧ j ∉ is)
  | [], h => .inr ⟨h, fun m => by cases m⟩
  | i :: is, h => by
    unfold wipeS at h
    rcases get_set h with ⟨_, e, _⟩ | ⟨ne, h⟩
    · exact .inl e
    · rcases wipeS_get h with e | ⟨e, n⟩
      · exact .inl e
      · refine .inr ⟨e, fun m => ?_⟩
        rcases List.mem_cons.mp m with q | q
        · exact ne q.symm
        · exact n q
theorem wipe_get {σ : L2.St} {j : Nat} : ∀ {is : List Nat}, j ∉ is → (wipe σ is)[j]? = σ[j]?
  | [], _ => rfl
  | i :: is, h => by
    unfold wipe
    rw [List.getElem?_set_ne (fun e => h (by rw [e]; exact List.mem_cons_self)), wipe_get (fun m => h (List.mem_cons_of_mem _ m))]
theorem Rel.wipe {K : PySem.W.Frag} (r : Rel K cm σ H G env) (is : List Nat) : Rel K cm (wipe σ is) H G (wipeS env is) where
  len := by rw [wipe_length, wipeS_length, r.len]
  sub := r.sub
  val := fun j d hj => by
    rcases wipeS_get hj with e | ⟨e, n⟩
    · cases e
    · rw [wipe_get n]
      exact r.val j d e
  own := fun j od hj => by
    rcases wipeS_get hj with e | ⟨e, n⟩
    · cases e
    · rw [wipe_get n]
      exact r.own j od e
  dist := fun j k od od' a hj hk ej ek => by
    rcases wipeS_get hj with e | ⟨e, n⟩
    · cases e
    · rcases wipeS_get hk with e' | ⟨e', n'⟩
      · cases e'
      · rw [wipe_get n] at ej
        rw [wipe_get n'] at ek
        exact r.dist j k od od' a e e' ej ek
theorem ext_get {α : Type} {l l' : List α} (hl : l.length = l'.length) (h : ∀ j : Nat, l[j]? = l'[j]?) : l = l' := List.ext_getElem? h
theorem wipe_at {σ : L2.St} {j : Nat} : ∀ {is : List Nat}, j ∈ is → (wipe σ is)[j]? = if j < σ.length then some none else none
  | [], h => by cases h
  | i :: is, h => by
    unfold L2.wipe
    by_cases e : i = j
    · subst e
      by_cases hl : i < σ.length
      · rw [if_pos hl, List.getElem?_set_self (by rw [wipe_length]; exact hl)]
      · rw [if_neg hl, List.getElem?_eq_none (by rw [List.length_set, wipe_length]; omega)]
    · rw [List.getElem?_set_ne e]
      rcases List.mem_cons.mp h with q | q
      · exact absurd q.symm e
      · exact wipe_at q
theorem wipe_eq {σ σ' : L2.St} {is js : List Nat} (hl : σ'.length = σ.length) (hs : ∀ j : Nat, j ∉ js → σ'[j]? = (L2.wipe σ is)[j]?) (sub : ∀ j ∈ js, j ∈ is) : L2.wipe σ' is = L2.wipe σ is := by
  refine List.ext_getElem? fun j => ?_
  by_cases h : j ∈ is
  · rw [wipe_at h, wipe_at h, hl]
  · rw [wipe_get h, hs j (fun m => h (sub j m))]
theorem compL_cons {g : Dt → Option (List Dt)} {d : Dt} {ds out : List Dt} (h : compL g (d :: ds) = some out) : ∃ o r, g d = some o ∧ compL g ds = some r ∧ out = o ++ r := by
  obtain ⟨o, h1, h⟩ := Option.bind_eq_some_iff.mp h
  obtain ⟨r, h2, h⟩ := Option.bind_eq_some_iff.mp h
  cases h
  exact ⟨o, r, h1, h2, rfl⟩
theorem drop_get {α : Type} {l : List α} {i : Nat} {x : α} (h : l[i]? = some x) : l.drop i = x :: l.drop (i + 1) := by
  obtain ⟨hl, e⟩ := List.getElem?_eq_some_iff.mp h
  rw [← e]
  exact List.drop_eq_getElem_cons hl
/-- the tests of a comprehension: none or one -/
structure JTs (X : Cx) (cm : Nat → Addr) (ifs : List Expr) (f : TF) : Prop where
  ex : ∀ (env : Sl) (b : Bool) (σ : L2.St) (H G : Hp), f env = some b → Rel X.K cm σ H G env → ∀ Q : Bool → Hp → Prop, (∀ H' G', Grow H G H' G' → Q b H') → ∃ t : TT, PTs X ifs t ∧ t σ H Q
theorem jts_nil : JTs X cm [] tYes := ⟨fun env b σ H G hf rel Q q => ⟨_, pts_nil, by cases hf; exact q H G (.refl rel.sub)⟩⟩
theorem jts_one {c : Expr} {t : TF} (h : JT X cm c t) : JTs X cm [c] t := ⟨fun env b σ H G hf rel Q q => ⟨_, pts_one pt_w, h.run env b σ H G hf rel Q q⟩⟩
def wpTs (X : Cx) (ifs : List Expr) : TT := fun σ H Q => ∃ t : TT, PTs X ifs t ∧ t σ H Q
theorem pts_w {ifs : List Expr} : PTs X ifs (wpTs X ifs) := ⟨fun pins s σ H Q I h => by
  obtain ⟨t, h1, h2⟩ := h
  exact h1.run pins s σ H Q I h2⟩

/-- the weakest readings in every block -/
def gB (X : Cx) (scope : Scope) (tg : Expr) : TG := fun v σ H Q => ∀ (s : Shared) (H0 : Hp) (C : Addr) (cl : List (Str × Addr)) (fp : List Addr), wpG (X.blk s H0 scope (compEnvC scope cl C X.env) fp) tg v σ H Q
def tB' (X : Cx) (scope : Scope) (ifs : List Expr) : TT := fun σ H Q => ∀ (s : Shared) (H0 : Hp) (C : Addr) (cl : List (Str × Addr)) (fp : List Addr), wpTs (X.blk s H0 scope (compEnvC scope cl C X.env) fp) ifs σ H Q
def eB (X : Cx) (scope : Scope) (elt : Expr) : TE := fun σ H Q => ∀ (s : Shared) (H0 : Hp) (C : Addr) (cl : List (Str × Addr)) (fp : List Addr), wpE (X.blk s H0 scope (compEnvC scope cl C X.env) fp) elt σ H Q
theorem pg_B {scope : Scope} {tg : Expr} {s : Shared} {H0 : Hp} {C : Addr} {cl : List (Str × Addr)} {fp : List Addr} : PG (X.blk s H0 scope (compEnvC scope cl C X.env) fp) tg (gB X scope tg) := ⟨fun pins s1 σ H v u Q I r h => h s H0 C cl fp pins s1 u I r⟩
theorem pt_B {scope : Scope} {ifs : List Expr} {s : Shared} {H0 : Hp} {C : Addr} {cl : List (Str × Addr)} {fp : List Addr} : PTs (X.blk s H0 scope (compEnvC scope cl C X.env) fp) ifs (tB' X scope ifs) := ⟨fun pins s1 σ H Q I h => pts_w.run pins s1 σ H Q I (h s H0 C cl fp)⟩
theorem pe_B {scope : Scope} {elt : Expr} {s : Shared} {H0 : Hp} {C : Addr} {cl : List (Str × Addr)} {fp : List Addr} : PE (X.blk s H0 scope (compEnvC scope cl C X.env) fp) elt (eB X scope elt) := ⟨fun pins s1 σ H Q I h => h s H0 C cl fp pins s1 I⟩
/-- a comprehension's reading: its parts in every block -/
theorem je_comp {elt tg iter : Expr} {ifs : List Expr} {scope : Scope} {own : List (Str × Nat)} {js : List Nat} {fi : IF} {g : GF} {ft : TF} {fe : EF} (hc : X.calm = true) (hN : X.N.Nodup) (hi : JI X cm tg iter fi) (ok : blkC X.N X.env.scope scope own = true)
    (hg : ∀ (s : Shared) (H : Hp) (C : Addr) (cl : List (Str × Addr)) (fp : List Addr), JG (X.blk s H scope (compEnvC scope cl C X.env) fp) cm tg js g) (hj : ∀ j ∈ js, j ∈ own.map (·.2))
    (ht : ∀ (s : Shared) (H : Hp) (C : Addr) (cl : List (Str × Addr)) (fp : List Addr), JTs (X.blk s H scope (compEnvC scope cl C X.env) fp) cm ifs ft)
    (he : ∀ (s : Shared) (H : Hp) (C : Addr) (cl : List (Str × Addr)) (fp : List Addr), JE (X.blk s H scope (compEnvC scope cl C X.env) fp) cm elt fe) (hs : ∀ x, foldedSetIterable iter X.env x = pure x := by intro _; rfl) :
    (∀ (env : Sl) (r : R) (σ : L2.St) (H G : Hp), eComp (own.map (·.2)) fi g ft fe env = some r → Rel X.K cm σ H G env → ∀ Q : VK, (∀ v H' G', Grow H G H' G' → RR X.K cm H H' G' v r → Q v H') →
      tLc (wpI X tg iter) (gB X scope tg) (tB' X scope ifs) (eB X scope elt) (own.map (·.2)) σ H Q) := by
  intro env r σ H G hf rel Q q
  obtain ⟨⟨ds, bb⟩, h1, hf⟩ := Option.bind_eq_some_iff.mp hf
  obtain ⟨out, h2, hf⟩ := Option.bind_eq_some_iff.mp hf
  dsimp only at h2 hf
  split at hf
  case isFalse => cases hf
  rename_i hlen
  cases hf
  refine hi.run env ds bb σ H G h1 rel _ fun J H1 G1 g1 jok => fun D hD => ?_
  have rel1 := rel.grow g1
  have hl := jok
  -- the invariant
  refine ⟨fun i m H' => m = ds.length - i ∧ i ≤ ds.length ∧ ∃ (G' : Hp) (av : List V) (ad ro : List Dt), Exx G' H' ∧ Exx G1 G' ∧ Exx H1 H' ∧ (∀ a o, H1 a = some o → G1 a = none → G' a = none) ∧ H' D = some (.lst av) ∧ G' D = none ∧ DenL X.K cm G' av ad ∧ ad.length ≤ i ∧
    compL (compG env (own.map (·.2)) g ft fe) (ds.drop i) = some ro ∧ out = ad ++ ro, ⟨ds.length, rfl, Nat.zero_le _, G1, [], [], out, (Grow.hide g1.sub hD).sub, .refl _, .new hD, fun _ _ _ n => n, upd_same, g1.sub.back hD, .nil, Nat.le_refl _, by rw [List.drop_zero]; exact h2, rfl⟩, ?_⟩
  rintro i m H' ⟨rfl, hi', G', av, ad, ro, sub, gx, hx, hid, hHD, hGD, den, hal, hro, hout⟩
  have st : StK H1 G1 bb H' G' := ⟨sub, gx, fun _ => hx⟩
  by_cases hlt : i < ds.length
  · refine .inr ⟨jok.go i H' G' st hlt, fun H2 => i + 1 ≤ ds.length ∧ ∃ (G' : Hp) (av : List V) (ad ro : List Dt), Exx G' H2 ∧ Exx G1 G' ∧ Exx H1 H2 ∧ (∀ a o, H1 a = some o → G1 a = none → G' a = none) ∧ H2 D = some (.lst av) ∧ G' D = none ∧ DenL X.K cm G' av ad ∧ ad.length ≤ i + 1 ∧
      compL (compG env (own.map (·.2)) g ft fe) (ds.drop (i + 1)) = some ro ∧ out = ad ++ ro, fun H2 hw => ⟨ds.length - (i + 1), by omega, rfl, hw⟩, fun v H2 hy => ?_⟩
    obtain ⟨G2, d, hd, g2, dn⟩ := jok.yl i H' G' v H2 st hlt hy
    rw [drop_get hd] at hro
    obtain ⟨o, ro', ho, hro', rfl⟩ := compL_cons hro
    obtain ⟨env', hg', ho⟩ := Option.bind_eq_some_iff.mp ho
    obtain ⟨t, ht', ho⟩ := Option.bind_eq_some_iff.mp ho
    have relb : Rel X.K cm (L2.wipe σ (own.map (·.2))) H2 G2 (wipeS env (own.map (·.2))) := by
      refine ((Rel.grow rel1 (H' := H') (G' := G') ⟨hx, gx, hid, sub⟩).grow g2).wipe _
    intro s H0 C cl fp
    refine (hg s H0 C cl fp).run _ env' d v _ H2 G2 hg' relb dn _ fun σ' rel' fr' same len => ⟨wipe_eq (len.trans (wipe_length _ _)) same hj, ?_⟩
    intro s H0 C cl fp
    refine (ht s H0 C cl fp).ex env' t σ' H2 G2 ht' rel' _ fun H3 G3 g3 => ?_
    have g23 := g2.trans g3
    have hx3 := hx.trans g23.hx
    have gx3 := gx.trans g23.gx
    have hid3 : ∀ a o, H1 a = some o → G1 a = none → G3 a = none := fun a o h n => g23.hid a o (hx a o h) (hid a o h n)
    have hD3 := g23.hx D _ hHD
    have gD3 := g23.hid D _ hHD hGD
    cases t with
    | false =>
      cases ho
      exact iteF ⟨hlt, G3, av, ad, ro', g3.sub, gx3, hx3, hid3, hD3, gD3, den.mono g23.gx, by omega, hro', hout⟩
    | true =>
      obtain ⟨re, he', ho⟩ := Option.bind_eq_some_iff.mp ho
      split at ho
      · cases ho
      · rename_i hsh
        cases ho
        refine iteT ?_
        intro s H0 C cl fp
        refine (he s H0 C cl fp).pub he' (rel'.grow g3) fun y H4 G4 g4 vr => ?_
        have hsh' : re.sh = false := by simpa using hsh
        rw [hsh'] at vr
        have g24 := g23.trans g4
        refine ⟨av, g24.hx D _ hHD, ?_, hlt, G4, av ++ [y], ad ++ [re.dt], ro', ?_, gx.trans g24.gx, ?_, fun a o h n => g24.hid a o (hx a o h) (hid a o h n), upd_same, g24.hid D _ hHD hGD, ?_, ?_, hro', ?_⟩
        · rw [den.length]
          exact Nat.lt_of_le_of_lt hal (Nat.lt_of_lt_of_le (Nat.lt_of_lt_of_le hlt hlen) (lim_ok (Nat.le_refl _)))
        · intro a o h
          by_cases e : a = D
          · subst e
            rw [g24.hid _ _ hHD hGD] at h
            cases h
          · rw [upd_ne e]
            exact g4.sub a o h
        · intro a o h
          rw [upd_ne (ne_of_none h hD)]
          exact g24.hx a o (hx a o h)
        · exact (den.mono g24.gx).append (.one vr.den)
        · rw [List.length_append, List.length_singleton]
          omega
        · rw [List.append_assoc]
          exact hout
  · have e : i = ds.length := by omega
    subst e
    refine .inl ⟨jok.stop _ H' G' st (Nat.le_refl _), ?_⟩
    rw [List.drop_length] at hro
    cases hro
    rw [List.append_nil] at hout
    subst hout
    refine q _ H' G' (g1.trans ⟨hx, gx, hid, sub⟩) ⟨D, _, rfl, g1.hx.back hD, hHD, hGD, den⟩
end
end Pyl
end
section
set_option Elab.async false
set_option linter.all false
set_option maxRecDepth 100000
set_option maxHeartbeats 4000000
namespace Pyl
open PySem L2
/-! ### a comprehension as a value -/
section
variable {X : Cx} {cm : Nat → Addr} {elt tg iter : Expr} {ifs : List Expr} {scope : Scope} {pos : Pos} {js : List Nat} {fi : IF} {g : GF} {ft : TF} {fe : EF}
theorem je_lc (own : List (Str × Nat)) (hc : X.calm = true) (hN : X.N.Nodup) (hi : JI X cm tg iter fi) (ok : blkC X.N X.env.scope scope own = true)
    (hg : ∀ (s : Shared) (H : Hp) (C : Addr) (cl : List (Str × Addr)) (fp : List Addr), JG (X.blk s H scope (compEnvC scope cl C X.env) fp) cm tg js g) (hj : ∀ j ∈ js, j ∈ own.map (·.2))
    (ht : ∀ (s : Shared) (H : Hp) (C : Addr) (cl : List (Str × Addr)) (fp : List Addr), JTs (X.blk s H scope (compEnvC scope cl C X.env) fp) cm ifs ft)
    (he : ∀ (s : Shared) (H : Hp) (C : Addr) (cl : List (Str × Addr)) (fp : List Addr), JE (X.blk s H scope (compEnvC scope cl C X.env) fp) cm elt fe) (hs : ∀ x, foldedSetIterable iter X.env x = pure x := by intro _; rfl) :
    JE X cm (.ListComp elt [⟨tg, iter, ifs, 0⟩] scope pos) (eComp (own.map (·.2)) fi g ft fe) :=
  ⟨fun env r σ H G hf rel Q q => to_e (pe_lc hc hN pi_w (blkOk_by ok) (fun _ _ _ _ _ => pg_B) (fun _ _ _ _ _ => pt_B) (fun _ _ _ _ _ => pe_B) hs) (je_comp hc hN hi ok hg hj ht he hs env r σ H G hf rel Q q)⟩
end

/-! ### statements -/
/-- how the ends that are wanted of the heaps follow from those that are wanted of the data -/
structure EndsOk (K : PySem.W.Frag) (cm : Nat → Addr) (σ : L2.St) (env : Sl) (H G : Hp) (D' : En) (D : Ends) : Prop where
  nx : ∀ σ' H' G' env', Rel K cm σ' H' G' env' → Fr σ env H G σ' env' H' G' → D'.nx env' → D.nx σ' H'
  rt : ∀ v H' G' d, FrH σ env H G H' G' → Den K cm G' v d → D'.rt d → D.rt v H'
  bk : ∀ σ' H' G' env', Rel K cm σ' H' G' env' → Fr σ env H G σ' env' H' G' → D'.bk env' → D.bk σ' H'
  ct : ∀ σ' H' G' env', Rel K cm σ' H' G' env' → Fr σ env H G σ' env' H' G' → D'.ct env' → D.ct σ' H'
structure JS (X : Cx) (cm : Nat → Addr) (st : Stmt) (w : WS) : Prop where
  run : ∀ (env : Sl) (D' : En) (σ : L2.St) (H G : Hp), w D' env → Rel X.K cm σ H G env → ∀ D : Ends, EndsOk X.K cm σ env H G D' D → wpS X st D σ H
structure JSs (X : Cx) (cm : Nat → Addr) (st : List Stmt) (w : WS) : Prop where
  run : ∀ (env : Sl) (D' : En) (σ : L2.St) (H G : Hp), w D' env → Rel X.K cm σ H G env → ∀ D : Ends, EndsOk X.K cm σ env H G D' D → wpSs X st D σ H
/-- from a later state on -/
theorem EndsOk.later {K : PySem.W.Frag} {cm : Nat → Addr} {σ σ1 : L2.St} {env env1 : Sl} {H G H1 G1 : Hp} {D' : En} {D : Ends} (o : EndsOk K cm σ env H G D' D) (f : Fr σ env H G σ1 env1 H1 G1) : EndsOk K cm σ1 env1 H1 G1 D' D :=
  ⟨fun σ' H' G' env' r g => o.nx σ' H' G' env' r (f.trans g), fun v H' G' d g => o.rt v H' G' d (f.trH g), fun σ' H' G' env' r g => o.bk σ' H' G' env' r (f.trans g), fun σ' H' G' env' r g => o.ct σ' H' G' env' r (f.trans g)⟩
section
variable {X : Cx} {cm : Nat → Addr} {e a b c tg iter : Expr} {f fa fb fc : EF} {σ : L2.St} {H G : Hp} {env : Sl} {pos p : Pos} {st : Stmt} {sts rest body : List Stmt} {w u wb : WS} {x : Str} {t : TF}
theorem jss_nil : JSs X cm [] wNil := ⟨fun env D' σ H G hw rel D o => to_ss pss_nil (o.nx σ H G env rel (.refl rel.sub) hw)⟩
theorem jss_cons (h1 : JS X cm st w) (h2 : JSs X cm rest u) : JSs X cm (st :: rest) (wSeq w u) := by
  refine ⟨fun env D' σ H G hw rel D o => to_ss (pss_cons ps_w pss_w) ?_⟩
  obtain ⟨M, hw, hk⟩ := hw
  refine h1.run env { D' with nx := M } σ H G hw rel _ ⟨fun σ' H' G' env' r g n => ?_, o.rt, o.bk, o.ct⟩
  exact h2.run env' D' σ' H' G' (hk env' n) r D (o.later g)
theorem jss_one (h1 : JS X cm st w) : JSs X cm [st] w := ⟨fun env D' σ H G hw rel D o => to_ss (pss_one ps_w) (h1.run env D' σ H G hw rel D o)⟩
/-- nothing happens but that a name's own list is data from now on -/
theorem Rel.frz {K : PySem.W.Frag} {i : Nat} (r : Rel K cm σ H G env) : ∃ G', Rel K cm σ H G' (frzS i env) ∧ Fr σ env H G σ (frzS i env) H G' := by
  unfold frzS
  split
  case h_2 => exact ⟨G, r, .refl r.sub⟩
  rename_i od hi
  obtain ⟨l, o, h1, h2, h3, h4⟩ := r.own i od hi
  cases o <;> cases od <;> first | exact h4.elim | skip
  rename_i vs ds
  have e : Exx G (upd G l (.lst vs)) := .new h3
  refine ⟨upd G l (.lst vs), ⟨by rw [List.length_set, r.len], fun a o h => ?_, fun j d hj => ?_, fun j od hj => ?_, fun j k od od' a hj hk ej ek => ?_⟩, ⟨⟨e, fun a o h n w => ?_, fun _ _ h _ => h, fun a o h => ⟨o, h⟩, fun a o h => ?_⟩, fun a o h n => ?_, fun j hj => ?_⟩⟩
  · by_cases q : a = l
    · subst q; rw [upd_same] at h; cases h; exact h2
    · rw [upd_ne q] at h; exact r.sub a o h
  · rcases get_set hj with ⟨rfl, q, hl⟩ | ⟨ne, hj⟩
    · cases q
      exact ⟨_, h1, .lst (SqL.of upd_same) (DenL.mono e h4)⟩
    · obtain ⟨v, k1, k2⟩ := r.val j d hj
      exact ⟨v, k1, k2.mono e⟩
  · rcases get_set hj with ⟨rfl, q, hl⟩ | ⟨ne, hj⟩
    · cases q
    · obtain ⟨l', o', k1, k2, k3, k4⟩ := r.own j od hj
      have nl : l' ≠ l := fun q => by
        subst q
        exact ne (r.dist _ _ _ _ _ hi hj h1 k1)
      exact ⟨l', o', k1, k2, by rw [upd_ne nl]; exact k3, k4.mono e⟩
  · rcases get_set hj with ⟨rfl, q, hl⟩ | ⟨ne, hj⟩
    · cases q
    · rcases get_set hk with ⟨rfl, q, hl⟩ | ⟨ne', hk⟩
      · cases q
      · exact r.dist j k od od' a hj hk ej ek
  · have nl : a ≠ l := fun q => by
      subst q
      exact w ⟨i, _, hi, h1⟩
    rw [upd_ne nl]
    exact n
  · by_cases q : a = l
    · subst q; rw [upd_same] at h; cases h; exact h2
    · rw [upd_ne q] at h; exact r.sub a o h
  · rintro ⟨j, od, hj, ej⟩
    rcases get_set hj with ⟨rfl, q, hl⟩ | ⟨ne, hj⟩
    · cases q
    · exact n ⟨j, od, hj, ej⟩
  · rcases get_set hj with ⟨rfl, q, hl⟩ | ⟨ne, hj⟩
    · cases q
    · exact ⟨hj, rfl⟩
theorem jss_frz (i : Nat) (h : JSs X cm sts w) : JSs X cm sts (wFrz i w) := by
  refine ⟨fun env D' σ H G hw rel D o => ?_⟩
  obtain ⟨G', rel', fr⟩ := rel.frz (i := i)
  exact h.run _ D' σ H G' hw rel' D (o.later fr)
theorem js_pass : JS X cm (.Pass pos) wNil := ⟨fun env D' σ H G hw rel D o => to_s ps_pass (o.nx σ H G env rel (.refl rel.sub) hw)⟩
theorem js_break : JS X cm (.Break pos) wBrk := ⟨fun env D' σ H G hw rel D o => to_s ps_break (o.bk σ H G env rel (.refl rel.sub) hw)⟩
theorem js_continue : JS X cm (.Continue pos) wCnt := ⟨fun env D' σ H G hw rel D o => to_s ps_continue (o.ct σ H G env rel (.refl rel.sub) hw)⟩
theorem js_ret (he : JE X cm e f) : JS X cm (.Return (some e) pos) (wRet f) := by
  refine ⟨fun env D' σ H G hw rel D o => to_s (ps_ret pe_w) ?_⟩
  obtain ⟨r, h1, h2, h3⟩ := hw
  refine he.pub h1 rel fun v H1 G1 g1 vr => ?_
  rw [h2] at vr
  exact o.rt v H1 G1 _ g1.frH vr.den h3
theorem js_retN : JS X cm (.Return none pos) wRetN := ⟨fun env D' σ H G hw rel D o => to_s ps_retN (o.rt _ H G _ (Grow.refl rel.sub).frH Den.non hw)⟩
theorem js_drop (he : JE X cm e f) (hs : swapsWith e none pos.line X.env = pure false := by rfl) : JS X cm (.Expr e pos) (wDrop f) := by
  refine ⟨fun env D' σ H G hw rel D o => to_s (ps_expr pe_w hs) ?_⟩
  obtain ⟨r, h1, h2⟩ := hw
  refine he.pub h1 rel fun v H1 G1 g1 vr => ?_
  exact o.nx σ H1 G1 env (rel.grow g1) g1.fr h2
theorem js_if {as bs : List Stmt} {wa : WS} (hc : JT X cm c t) (ha : JSs X cm as wa) (hb : JSs X cm bs wb) : JS X cm (.If c as bs pos) (wIf t wa wb) := by
  refine ⟨fun env D' σ H G hw rel D o => to_s (ps_if pt_w pss_w pss_w) ?_⟩
  obtain ⟨k, h1, h2, h3⟩ := hw
  refine hc.run env k σ H G h1 rel _ fun H1 G1 g1 => ?_
  cases k with
  | true => exact iteT (ha.run env D' σ H1 G1 (h2 rfl) (rel.grow g1) D (o.later g1.fr))
  | false => exact iteF (hb.run env D' σ H1 G1 (h3 rfl) (rel.grow g1) D (o.later g1.fr))
/-- a name gets a new object of its own -/
theorem Rel.setOwn {K : PySem.W.Frag} {i : Nat} {l : Addr} {o : HO} {od : OD} (r : Rel K cm σ H G env) (h1 : H l = some o) (h2 : G l = none) (h3 : OwnR K cm G o od) (h4 : ∀ (j : Nat) (od' : OD), i ≠ j → env[j]? = some (.own od') → σ[j]? ≠ some (some (.ref l))) :
    Rel K cm (σ.set i (some (.ref l))) H G (env.set i (.own od)) where
  len := by rw [List.length_set, List.length_set, r.len]
  sub := r.sub
  val := fun j d' hj => by
    rcases get_set hj with ⟨rfl, e, hl⟩ | ⟨ne, hj⟩
    · cases e
    · obtain ⟨w, h1, h2⟩ := r.val j d' hj
      exact ⟨w, by rw [List.getElem?_set_ne ne]; exact h1, h2⟩
  own := fun j od' hj => by
    rcases get_set hj with ⟨rfl, e, hl⟩ | ⟨ne, hj⟩
    · cases e
      exact ⟨l, o, List.getElem?_set_self (by rw [r.len]; exact hl), h1, h2, h3⟩
    · obtain ⟨l', o', k1, k2, k3, k4⟩ := r.own j od' hj
      exact ⟨l', o', by rw [List.getElem?_set_ne ne]; exact k1, k2, k3, k4⟩
  dist := fun j k od1 od2 a hj hk ej ek => by
    rcases get_set hj with ⟨rfl, e, hl⟩ | ⟨ne, hj⟩
    · rcases get_set hk with ⟨rfl, e', hl'⟩ | ⟨ne', hk⟩
      · rfl
      · rw [List.getElem?_set_self (by rw [r.len]; exact hl)] at ej
        rw [List.getElem?_set_ne ne'] at ek
        cases ej
        exact absurd ek (h4 k od2 ne' hk)
    · rcases get_set hk with ⟨rfl, e', hl'⟩ | ⟨ne', hk⟩
      · rw [List.getElem?_set_self (by rw [r.len]; exact hl')] at ek
        rw [List.getElem?_set_ne ne] at ej
        cases ek
        exact absurd ej (h4 j od1 ne hj)
      · rw [List.getElem?_set_ne ne] at ej
        rw [List.getElem?_set_ne ne'] at ek
        exact r.dist j k od1 od2 a hj hk ej ek
/-- what an assignment leaves, from the heaps H, G ahead of the expression -/
theorem asg_own {K : PySem.W.Frag} {i : Nat} {l : Addr} {o : HO} {od : OD} {H1 G1 : Hp} (r : Rel K cm σ H G env) (g : Grow H G H1 G1) (n : H l = none) (h1 : H1 l = some o) (h2 : G1 l = none) (h3 : OwnR K cm G1 o od) :
    Rel K cm (σ.set i (some (.ref l))) H1 G1 (env.set i (.own od)) ∧ Fr σ env H G (σ.set i (some (.ref l))) (env.set i (.own od)) H1 G1 := by
  have no : ∀ (j : Nat) (od' : OD), env[j]? = some (.own od') → σ[j]? ≠ some (some (.ref l)) := fun j od' hj ej => by
    obtain ⟨l', o', k1, k2, k3, k4⟩ := r.own j od' hj
    rw [ej] at k1
    cases k1
    rw [n] at k2
    cases k2
  refine ⟨(r.grow g).setOwn h1 h2 h3 fun j od' _ => no j od', { g.frH with fresh := fun a o' h w => ?_, take := fun j hj => ?_ }⟩
  · rintro ⟨j, od', hj, ej⟩
    rcases get_set hj with ⟨rfl, e, hl⟩ | ⟨ne, hj⟩
    · rw [List.getElem?_set_self (by rw [r.len]; exact hl)] at ej
      cases ej
      rw [n] at h
      cases h
    · rw [List.getElem?_set_ne ne] at ej
      exact w ⟨j, od', hj, ej⟩
  · rcases get_set hj with ⟨rfl, e, hl⟩ | ⟨ne, hj⟩
    · cases e
    · exact ⟨hj, List.getElem?_set_ne ne⟩
theorem asg_nx {K : PySem.W.Frag} {i : Nat} {r : R} {v : V} {H1 G1 : Hp} {D' : En} {D : Ends} (rel : Rel K cm σ H G env) (g : Grow H G H1 G1) (rr : RR K cm H H1 G1 v r) (hs : r.sh = false) (hn : D'.nx (env.set i r.slot)) (o : EndsOk K cm σ env H G D' D) : D.nx (σ.set i (some v)) H1 := by
  cases r with
  | vis d => exact o.nx _ _ _ _ ((rel.grow g).setVal rr) (g.fr.trans (.setVal g.sub)) hn
  | bor d => cases hs
  | fre od =>
    obtain ⟨l, ob, rfl, h1, h2, h3, h4⟩ := rr
    obtain ⟨q1, q2⟩ := asg_own (i := i) rel g h1 h2 h3 h4
    exact o.nx _ _ _ _ q1 q2 hn
theorem js_asg (i : Nat) {pos' : Pos} (hN : X.N.Nodup) (he : JE X cm e f) (hi : X.N[i]? = some x := by rfl) (hx : Loc X.env.scope x := by first | exact Or.inl rfl | exact Or.inr rfl) (hs : swapsWith e (some (.Name x pos')) pos.line X.env = pure false := by rfl)
    (hf : X.fn x = true ∨ X.env.scope.names.lookup x = some .local := by first | exact .inl rfl | exact .inr rfl | assumption) : JS X cm (.Assign [.Name x pos'] e pos) (wAsg i f) := by
  refine ⟨fun env D' σ H G hw rel D o => to_s (ps_set hN hi hx pe_w hs hf) ?_⟩
  obtain ⟨r, h1, h2, h3⟩ := hw
  refine he.run env r σ H G h1 rel _ fun v H1 G1 g1 rr => ?_
  exact asg_nx rel g1 rr h2 h3 o
/-- name = [comprehension] -/
theorem js_asgLc {elt : Expr} {ifs : List Expr} {scope : Scope} {js : List Nat} {fi : IF} {g : GF} {ft : TF} {fe : EF} {py : Pos} (i : Nat) (own : List (Str × Nat)) (hc : X.calm = true) (hN : X.N.Nodup) (hy : X.N[i]? = some x) (hyl : X.env.scope.names.lookup x = some .local)
    (hsw : swapsWith (.ListComp elt [⟨tg, iter, ifs, 0⟩] scope p) (some (.Name x py)) pos.line X.env = pure true) (hi : JI X cm tg iter fi) (ok : blkC X.N X.env.scope scope own = true)
    (hg : ∀ (s : Shared) (H : Hp) (C : Addr) (cl : List (Str × Addr)) (fp : List Addr), JG (X.blk s H scope (compEnvC scope cl C X.env) fp) cm tg js g) (hj : ∀ j ∈ js, j ∈ own.map (·.2))
    (ht : ∀ (s : Shared) (H : Hp) (C : Addr) (cl : List (Str × Addr)) (fp : List Addr), JTs (X.blk s H scope (compEnvC scope cl C X.env) fp) cm ifs ft)
    (he : ∀ (s : Shared) (H : Hp) (C : Addr) (cl : List (Str × Addr)) (fp : List Addr), JE (X.blk s H scope (compEnvC scope cl C X.env) fp) cm elt fe) (hs : ∀ x, foldedSetIterable iter X.env x = pure x := by intro _; rfl) :
    JS X cm (.Assign [.Name x py] (.ListComp elt [⟨tg, iter, ifs, 0⟩] scope p) pos) (wAsg i (eComp (own.map (·.2)) fi g ft fe)) := by
  refine ⟨fun env D' σ H G hw rel D o => to_s (ps_setLc hc hN hy hyl hsw pi_w (blkOk_by ok) (fun _ _ _ _ _ => pg_B) (fun _ _ _ _ _ => pt_B) (fun _ _ _ _ _ => pe_B) hs) ?_⟩
  obtain ⟨r, h1, h2, h3⟩ := hw
  refine je_comp hc hN hi ok hg hj ht he hs env r σ H G h1 rel _ fun v H1 G1 g1 rr => ?_
  exact asg_nx rel g1 rr h2 h3 o
/-- a, b = e, e a tuple -/
theorem js_unp {es : List Expr} {k : Nat} {is : List Nat} {pt : Pos} (hc : X.calm = true) (he : JE X cm e f) (hg : JGs X cm es is) (hn : (assignEach es X.env).length = is.length := by rfl) (hst : (assignEach es X.env).findIdx? (·.1) = none := by rfl)
    (hs : swapsWithSole [.Tuple es k pt] e pos.line X.env = pure false := by rfl) (hw : swappedStores [.Tuple es k pt] e X.env = pure none := by rfl) (h1 : (assignEach [.Tuple es k pt] X.env).map (·.2) = [assign (.Tuple es k pt) X.env] := by rfl) :
    JS X cm (.Assign [.Tuple es k pt] e pos) (wUnp is f) := by
  refine ⟨fun env D' σ H G hww rel D o => to_s (ps_asg pe_w pg_w hs hw h1) ?_⟩
  obtain ⟨d, env', k1, k2, k3⟩ := hww
  refine he.run env _ σ H G k1 rel _ fun v H1 G1 g1 rr => ?_
  refine (jg_tup hc hg hn hst).run env env' d v σ H1 G1 k2 (rel.grow g1) rr _ fun σ' rel' fr' _ _ => ?_
  exact o.nx _ _ _ _ rel' (g1.fr.trans fr') k3
/-- an object of a name's own is changed -/
theorem own_upd {K : PySem.W.Frag} {i : Nat} {l : Addr} {o o' : HO} {od od' : OD} {H1 G1 : Hp} (r : Rel K cm σ H G env) (g : Grow H G H1 G1) (hi : env[i]? = some (.own od)) (hl : σ[i]? = some (some (.ref l))) (h1 : H l = some o) (h2 : G l = none) (h3 : OwnR K cm G1 o' od') :
    Rel K cm σ (upd H1 l o') G1 (env.set i (.own od')) ∧ Fr σ env H G σ (env.set i (.own od')) (upd H1 l o') G1 := by
  have hlt : i < env.length := (List.getElem?_eq_some_iff.mp hi).1
  have hlt' : i < σ.length := by rw [r.len]; exact hlt
  have gl : G1 l = none := g.hid l o h1 h2
  have sub : Exx G1 (upd H1 l o') := fun a u e => by
    rw [upd_ne (ne_of_none e gl)]
    exact g.sub a u e
  have r1 := r.grow g
  refine ⟨⟨by rw [List.length_set]; exact r.len, sub, fun j d' hj => ?_, fun j od1 hj => ?_, fun j k od1 od2 a hj hk ej ek => ?_⟩, ⟨⟨g.gx, fun a u h n _ => g.hid a u h n, fun a u h w => ?_, fun a u h => ?_, sub⟩, fun a u h w => ?_, fun j hj => ?_⟩⟩
  · rcases get_set hj with ⟨rfl, e, _⟩ | ⟨ne, hj⟩
    · cases e
    · exact r1.val j d' hj
  · rcases get_set hj with ⟨rfl, e, _⟩ | ⟨ne, hj⟩
    · cases e
      exact ⟨l, o', hl, upd_same, gl, h3⟩
    · obtain ⟨l', u, k1, k2, k3, k4⟩ := r1.own j od1 hj
      have nl : l' ≠ l := fun q => by
        subst q
        exact ne (r.dist _ _ _ _ _ hi hj hl k1)
      exact ⟨l', u, k1, by rw [upd_ne nl]; exact k2, k3, k4⟩
  · rcases get_set hj with ⟨rfl, e, _⟩ | ⟨ne, hj⟩
    · rcases get_set hk with ⟨rfl, e', _⟩ | ⟨ne', hk⟩
      · rfl
      · exact r.dist _ k od od2 a hi hk ej ek
    · rcases get_set hk with ⟨rfl, e', _⟩ | ⟨ne', hk⟩
      · exact r.dist j _ od1 od a hj hi ej ek
      · exact r.dist j k od1 od2 a hj hk ej ek
  · have nl : a ≠ l := fun q => by
      subst q
      exact w ⟨i, od, hi, hl⟩
    rw [upd_ne nl]
    exact g.hx a u h
  · by_cases q : a = l
    · exact ⟨o', by rw [q]; exact upd_same⟩
    · exact ⟨u, by rw [upd_ne q]; exact g.hx a u h⟩
  · rintro ⟨j, od1, hj, ej⟩
    rcases get_set hj with ⟨rfl, e, _⟩ | ⟨ne, hj⟩
    · exact w ⟨_, od, hi, ej⟩
    · exact w ⟨j, od1, hj, ej⟩
  · rcases get_set hj with ⟨rfl, e, _⟩ | ⟨ne, hj⟩
    · cases e
    · exact ⟨hj, rfl⟩
/-- xs.append(e), xs a list of one's own -/
theorem js_app (i : Nat) {p1 p2 p3 : Pos} (he : JE X cm e f) (hN : X.N[i]? = some x := by rfl) (hv : Vis X.env.scope x := by first | exact Or.inl rfl | exact Or.inr (Or.inl rfl) | exact Or.inr (Or.inr rfl)) (hd : (x == ("__debug__" : Str)) = false := by decide)
    (hcd : (x == ("__classdict__" : Str)) = false := by decide) (hst : starEach [e] X.env = (false, eval e X.env) :: starEach [] X.env := by rfl)
    (hbm : ∀ {t : TE}, PE X (.Name x p3) t → ∀ {u : TA}, PA X [e] u → PE X (.Call (.Attribute (.Name x p3) "append" p2) [e] [] p1) (tBM X.K "list" rAppend t u) := by intro t h u h2; exact pe_bm PySem.F.plainAttrs_list PySem.F.slot_list_append PySem.F.type_list_append mt_append h h2)
    (hs : swapsWith (.Call (.Attribute (.Name x p3) "append" p2) [e] [] p1) none pos.line X.env = pure false := by rfl) : JS X cm (.Expr (.Call (.Attribute (.Name x p3) "append" p2) [e] [] p1) pos) (wApp i f) := by
  refine ⟨fun env D' σ H G hw rel D o => to_s (ps_expr (hbm (pe_var hN hv hd hcd) (pa_cons pe_w pa_nil hst)) hs) ?_⟩
  obtain ⟨ds, r, h1, h2, h3, h4, h5⟩ := hw
  obtain ⟨l, ob, k1, k2, k3, k4⟩ := rel.own i _ h1
  cases ob <;> first | exact k4.elim | skip
  rename_i vs
  have k4 : DenL X.K cm G vs ds := k4
  refine ⟨_, k1, .inl ⟨rfl, _, SqL.of k2⟩, he.pub h2 rel fun v H1 G1 g1 vr => ?_⟩
  rw [h3] at vr
  refine ⟨l, vs, v, rfl, rfl, g1.hx l _ k2, ?_, ?_⟩
  · rw [k4.length]
    exact Nat.lt_of_lt_of_le h4 (lim_ok (Nat.le_refl _))
  · obtain ⟨q1, q2⟩ := own_upd (o' := .lst (vs ++ [v])) (od' := .lst (ds ++ [r.dt])) rel g1 h1 k1 k2 k3 ((k4.mono g1.gx).append (.one vr.den))
    exact o.nx _ _ _ _ q1 q2 h5
/-- xs[k] = e, xs a list of one's own -/
theorem js_put (i : Nat) {k : Expr} {fk : EF} {p2 p3 : Pos} (he : JE X cm e f) (hk : JE X cm k fk) (hN : X.N[i]? = some x := by rfl) (hv : Vis X.env.scope x := by first | exact Or.inl rfl | exact Or.inr (Or.inl rfl) | exact Or.inr (Or.inr rfl)) (hd : (x == ("__debug__" : Str)) = false := by decide)
    (hcd : (x == ("__classdict__" : Str)) = false := by decide)
    (ha : ∀ v, assign (.Subscript (.Name x p3) k p2) X.env v = (do
      let ov ← holding [v] (eval (.Name x p3) X.env)
      let iv ← holding [v, ov] (eval k X.env)
      standAt p2
      holding [v, ov, iv] (setItem ov iv v)
      release [v, ov, iv] []) := by intro _; rfl)
    (hs : swapsWithSole [.Subscript (.Name x p3) k p2] e pos.line X.env = pure false := by rfl) (hw : swappedStores [.Subscript (.Name x p3) k p2] e X.env = pure none := by rfl) (h1 : (assignEach [.Subscript (.Name x p3) k p2] X.env).map (·.2) = [assign (.Subscript (.Name x p3) k p2) X.env] := by rfl) :
    JS X cm (.Assign [.Subscript (.Name x p3) k p2] e pos) (wPut i fk f) := by
  refine ⟨fun env D' σ H G hww rel D o => to_s (ps_asg pe_w (pg_sub (pe_var hN hv hd hcd) pe_w set_list ha) hs hw h1) ?_⟩
  obtain ⟨ds, r, j, h1, h2, h3, h4, h5, h6, h7⟩ := hww
  refine he.pub h2 rel fun v H1 G1 g1 vr => ?_
  rw [h3] at vr
  obtain ⟨l, ob, k1, k2, k3, k4⟩ := rel.own i _ h1
  cases ob <;> first | exact k4.elim | skip
  rename_i vs
  have k4 : DenL X.K cm G vs ds := k4
  refine ⟨_, k1, hk.run env _ σ H1 G1 h4 (rel.grow g1) _ fun kv H2 G2 g2 kr => ?_⟩
  cases (show Den _ _ _ _ _ from kr)
  have g := g1.trans g2
  refine ⟨l, vs, j, (if 0 ≤ j then j else j + ds.length).toNat, rfl, rfl, g.hx l _ k2, ?_, ?_⟩
  · unfold ixN
    rw [k4.length]
    by_cases h0 : 0 ≤ j
    · rw [if_pos h0, if_pos h6, if_pos h0]
    · rw [if_neg h0, if_pos h5, if_neg h0]
  · obtain ⟨q1, q2⟩ := own_upd (o' := .lst (vs.set (if 0 ≤ j then j else j + ds.length).toNat v)) (od' := .lst (ds.set (if 0 ≤ j then j else j + ds.length).toNat r.dt)) rel g h1 k1 k2 k3 (DenL.set (vr.den.mono g2.gx) _ (k4.mono g.gx))
    exact o.nx _ _ _ _ q1 q2 h7
/-! loops -/
theorem js_for {is : List Nat} {fi : IF} {g : GF} (hp : PassesOwn (model X.prog X.w) X.A X.env X.xe) (hc : X.calm = true) (hi : JI X cm tg iter fi) (hg : JG X cm tg is g) (hb : JSs X cm body wb) (hs : ∀ x, foldedSetIterable iter X.env x = pure x := by intro _; rfl) :
    JS X cm (.For tg iter body [] pos) (wFor fi g wb) := by
  refine ⟨fun env D' σ H G hw rel D o => to_s (ps_for hp hc pi_w pg_w pss_w hs) ?_⟩
  obtain ⟨ds, h1, I, i0, hturn, hend⟩ := hw
  refine hi.run env ds false σ H G h1 rel _ fun J H1 G1 g1 jok => ?_
  refine ⟨fun i m σ' H' => m = ds.length - i ∧ i ≤ ds.length ∧ ∃ G' env', Rel X.K cm σ' H' G' env' ∧ Fr σ env H1 G1 σ' env' H' G' ∧ I i env', ⟨ds.length, rfl, Nat.zero_le _, G1, env, rel.grow g1, .refl g1.sub, i0⟩, ?_⟩
  rintro i m σ' H' ⟨rfl, hi', G', env', rel', fr', inv⟩
  have st : StK H1 G1 false H' G' := ⟨rel'.sub, fr'.gx, fun e => (nomatch e)⟩
  by_cases hlt : i < ds.length
  · refine .inr ⟨jok.go i H' G' st hlt, fun σ2 H2 => ∃ G2 env2, Rel X.K cm σ2 H2 G2 env2 ∧ Fr σ env H1 G1 σ2 env2 H2 G2 ∧ I (i + 1) env2, fun σ2 H2 hw => ⟨ds.length - (i + 1), by omega, rfl, hlt, hw⟩, fun v H2 hy => ?_⟩
    obtain ⟨G2, d, hd, g2, dn⟩ := jok.yl i H' G' v H2 st hlt hy
    obtain ⟨env2, hg2, hb2⟩ := hturn i env' d hd inv
    refine hg.run env' env2 d v σ' H2 G2 hg2 (rel'.grow g2) dn _ fun σ3 rel3 fr3 _ _ => ?_
    have fr13 := (fr'.trans g2.fr).trans fr3
    have fr0 := g1.fr (σ := σ) (env := env) |>.trans fr13
    exact hb.run env2 _ σ3 H2 G2 hb2 rel3 _ ⟨fun σ4 H4 G4 env4 r4 f4 n4 => ⟨G4, env4, r4, fr13.trans f4, n4⟩, (o.later fr0).rt, (o.later fr0).nx, fun σ4 H4 G4 env4 r4 f4 n4 => ⟨G4, env4, r4, fr13.trans f4, n4⟩⟩
  · have e : i = ds.length := by omega
    subst e
    exact .inl ⟨jok.stop _ H' G' st (Nat.le_refl _), o.nx σ' H' G' env' rel' (g1.fr.trans fr') (hend env' inv)⟩
theorem js_while (hp : PassesOwn (model X.prog X.w) X.A X.env X.xe) (hc : JT X cm c t) (hb : JSs X cm body wb) : JS X cm (.While c body [] pos) (wWhile t wb) := by
  refine ⟨fun env D' σ H G hw rel D o => to_s (ps_while hp pt_w pss_w) ?_⟩
  obtain ⟨I, ⟨m0, i0⟩, hturn⟩ := hw
  refine ⟨fun m σ' H' => ∃ G' env', Rel X.K cm σ' H' G' env' ∧ Fr σ env H G σ' env' H' G' ∧ I m env', ⟨m0, G, env, rel, .refl rel.sub, i0⟩, ?_⟩
  rintro m σ' H' ⟨G', env', rel', fr', inv⟩
  obtain ⟨k, h1, h2, h3⟩ := hturn m env' inv
  refine hc.run env' k σ' H' G' h1 rel' _ fun H1 G1 g1 => ?_
  have fr1 := fr'.trans g1.fr
  cases k with
  | true =>
    refine iteT ⟨fun σ2 H2 => ∃ m', m' < m ∧ ∃ G2 env2, Rel X.K cm σ2 H2 G2 env2 ∧ Fr σ env H G σ2 env2 H2 G2 ∧ I m' env2, fun σ2 H2 ⟨m', hm, q⟩ => ⟨m', hm, q⟩, ?_⟩
    exact hb.run env' _ σ' H1 G1 (h2 rfl) (rel'.grow g1) _ ⟨fun σ4 H4 G4 env4 r4 f4 ⟨m', hm, n4⟩ => ⟨m', hm, G4, env4, r4, fr1.trans f4, n4⟩, (o.later fr1).rt, (o.later fr1).nx, fun σ4 H4 G4 env4 r4 f4 ⟨m', hm, n4⟩ => ⟨m', hm, G4, env4, r4, fr1.trans f4, n4⟩⟩
  | false => exact iteF (o.nx σ' H1 G1 env' (rel'.grow g1) fr1 (h3 rfl))
end
end Pyl
end
section
set_option Elab.async false
set_option linter.all false
set_option maxRecDepth 100000
set_option maxHeartbeats 4000000
namespace Pyl
open PySem L2
theorem start_get {N : List Str} {vs : List V} {i : Nat} {v : V} (h : vs[i]? = some v) : (start N vs)[i]? = some (some v) := by
  unfold L2.start
  have hl : i < vs.length := (List.getElem?_eq_some_iff.mp h).1
  rw [List.getElem?_append_left (by simpa using hl), List.getElem?_map, h]
  rfl
theorem startE_get {n : Nat} {ds : List Dt} {i : Nat} {s : Slot} (h : (startE n ds)[i]? = some s) : (∃ d, ds[i]? = some d ∧ s = .val d) ∨ s = .non := by
  unfold startE at h
  by_cases hl : i < ds.length
  · rw [List.getElem?_append_left (by simpa using hl), List.getElem?_map, List.getElem?_eq_getElem hl] at h
    cases h
    exact .inl ⟨_, List.getElem?_eq_getElem hl, rfl⟩
  · rw [List.getElem?_append_right (by simpa using hl), List.getElem?_replicate] at h
    split at h
    · cases h
      exact .inr rfl
    · cases h
theorem rel_start {K : PySem.W.Frag} {cm : Nat → Addr} {N : List Str} {vs : List V} {ds : List Dt} {H G : Hp} (s : Exx G H) (h : DenL K cm G vs ds) : Rel K cm (start N vs) H G (startE N.length ds) where
  len := by
    unfold L2.start startE
    rw [List.length_append, List.length_append, List.length_map, List.length_map, List.length_replicate, List.length_replicate, h.length]
  sub := s
  val := fun i d hi => by
    rcases startE_get hi with ⟨d', h1, e⟩ | e
    · cases e
      obtain ⟨v, h2, h3⟩ := h.get h1
      exact ⟨v, start_get h2, h3⟩
    · cases e
  own := fun i od hi => by
    rcases startE_get hi with ⟨d', h1, e⟩ | e <;> cases e
  dist := fun i j od od' a hi hj => by
    rcases startE_get hi with ⟨d', h1, e⟩ | e <;> cases e
theorem no_own {σ : L2.St} {n : Nat} {ds : List Dt} {a : Addr} : ¬ Own σ (startE n ds) a := by
  rintro ⟨i, od, hi, _⟩
  rcases startE_get hi with ⟨d', h1, e⟩ | e <;> cases e
theorem FrH.grow {σ : L2.St} {n : Nat} {ds : List Dt} {H G H' G' : Hp} (f : FrH σ (startE n ds) H G H' G') : Grow H G H' G' := ⟨fun a o h => f.keep a o h no_own, f.gx, fun a o h n => f.hid a o h n no_own, f.sub⟩
section
variable {P : Program} {w : World} {K : PySem.W.Frag} {mg : Str → Option Value} {base : Heap} {cm : Nat → Addr}
/-- the context of a def's body in which nothing is raised -/
abbrev cxN (P : Program) (w : World) (K : PySem.W.Frag) (mg : Str → Option Value) (base : Heap) (N : List Str) (qual : Str) (st : Stmt) (f : Addr) (cdv : Value) (A : Around) (outer : List Env) (s : Shared) (H : Hp) (E : XK) : Cx := (cxOf CX0 P w K mg base N qual (defScope st) f cdv A outer s H E).nox
theorem fn_ok {x qual : Str} {st : Stmt} {f : Addr} {fd : FuncData} {N ps : List Str} {k : Nat} {F : FN} (Fu : Fun K x qual st f fd) (S : FnScope N ps (defScope st)) (hlen : ∀ ds r, F ds = some r → ds.length = ps.length) (wd : WS) (hk : Keeps N.length wd F)
    (hb : ∀ (cdv : Value) (A : Around) (outer : List Env) (s : Shared) (H : Hp) (E : XK), Room k (A.deeper (PyProof.Rows.envOfC qual (defScope st) s.heap.objs.size f cdv)) → JSs (cxN P w K mg base N qual st f cdv A outer s H E) cm (defBody st) wd) :
    FnOk P w K mg base CX0 (k + 1) f fd ps (spP K cm F) := by
  refine Fu.ok S (fun vs H Q E h => ?_) (fun cdv A outer s H vs Q E hr h => ⟨_, pss_w, ?_⟩)
  · obtain ⟨G, ds, r, _, h2, h3, _⟩ := h
    rw [h2.length]
    exact hlen ds r h3
  · obtain ⟨G, ds, r, h1, h2, h3, h4⟩ := h
    refine (hb cdv A outer s H E hr).run (startE N.length ds) _ (start N vs) H G (hk ds r h3) (rel_start h1 h2) _ ⟨fun σ' H' G' env' rel fr e => ?_, fun v H' G' d fr den e => ?_, fun _ _ _ _ _ _ z => z.elim, fun _ _ _ _ _ _ z => z.elim⟩
    · have e : r = .non := e
      subst e
      exact h4 _ H' G' fr.toFrH.grow Den.non
    · have e : d = r := e
      subst e
      exact h4 v H' G' fr.grow den
/-- a def of the text as it stands behind the top -/
theorem fnC_mk {x : Str} {st : Stmt} {f : Addr} {fd : FuncData} {ps : List Str} {k : Nat} {F : FN} (Fu : Fun K x x st f fd) (hm : mg x = some (.ref f)) (hb : Binds K fd ps []) (ok : FnOk P w K mg base CX0 k f fd ps (spP K cm F)) : FnC P w K mg base cm k x F :=
  ⟨f, fd, ps, ok, hm, Fu.kp, hb⟩
theorem blk_by (N : List Str) (sc : Scope) {scope : Scope} {own : List (Str × Nat)} (h : blkC N sc scope own = true) : blkC N sc scope own = true := h
/-- the law: of every script True -/
def lawF (g : List Int → Bool) : FN := fun ds => match ds with
  | [.lst xs] => (intsOf xs).bind fun ns => if ns.length ≤ 63 then some (.bl (g ns)) else none
  | _ => none
theorem intsOf_map : ∀ ns : List Int, intsOf (ns.map Dt.int) = some ns
  | [] => rfl
  | n :: ns => by
    rw [List.map_cons]
    unfold intsOf
    rw [intsOf_map ns]
    rfl
theorem denL_ints {G : Hp} : ∀ ns : List Int, DenL K cm G (ns.map V.int) (ns.map Dt.int)
  | [] => .nil
  | n :: ns => .cons (.int n) (denL_ints ns)
/-- what the promise of the law asks of a script -/
theorem law_sp {F : FN} {H : Hp} {a : Addr} {ns : List Int} (hF : ∀ ns : List Int, ns.length ≤ 63 → F [.lst (ns.map .int)] = some (.bl true)) (hl : ns.length ≤ 63) (hS : SqL K H a (ns.map V.int)) : spP K cm F [.ref a] H (fun v _ => v = .bl true) fun _ _ _ => False :=
  ⟨H, _, _, .refl H, .one (.lst hS (denL_ints ns)), hF ns hl, fun v H' G' _ den => by cases den; rfl⟩
end
end Pyl
end
section
set_option Elab.async false
set_option linter.all false
set_option maxRecDepth 100000
set_option maxHeartbeats 2000000
namespace Pyl
open PySem L2
section
variable {X : Cx} {cm : Nat → Addr} {a b c : Expr} {fa fb fc : EF} {σ : L2.St} {H G : Hp} {env : Sl} {pos p : Pos} {st : Stmt} {x : Str}
theorem js_dead : JS X cm st wDead := ⟨fun env D' σ H G hw rel D o => hw.elim⟩
/-- whatever rule fits -/
def rAny (X : Cx) (f : Value → Value → Sem Value) : R2 := fun x y H Q => ∃ rr : R2, OpR X f rr ∧ rr x y H Q
theorem op_any {f : Value → Value → Sem Value} : OpR X f (rAny X f) := by
  intro pins s σ H x y v u Q I rx ry q
  obtain ⟨rr, ho, hr⟩ := q
  exact ho pins s σ H x y v u Q I rx ry hr
theorem p2_any {f : Value → Value → Sem Value} {pf : Dt → Dt → Option R} (ok : P2 X cm f pf) {d1 d2 : Dt} {b1 b2 : Bool} {out : R} {v1 v2 : V} (r1 : VR X.K cm H G v1 d1 b1) (r2 : VR X.K cm H G v2 d2 b2) (s : Exx G H) (e : pf d1 d2 = some out) {Q : VK}
    (q : ∀ v H' G', Grow H G H' G' → RR X.K cm H H' G' v out → Q v H') : rAny X f v1 v2 H Q := by
  obtain ⟨rr, ho, hr⟩ := ok _ _ _ _ _ _ _ H G r1 r2 s e
  exact ⟨rr, ho, hr Q q⟩
theorem chain_ok {f f' : Value → Value → Sem Value} {pf qf : Dt → Dt → Option R} (ok : P2 X cm f pf) (ok' : P2 X cm f' qf) (ha : JE X cm a fa) (hb : JE X cm b fb) (hc : JE X cm c fc) {r : R} (hf : eChain pf qf fa fb fc env = some r) (rel : Rel X.K cm σ H G env) {Q : VK}
    (q : ∀ v H' G', Grow H G H' G' → RR X.K cm H H' G' v r → Q v H') : tChain (rAny X f) (rAny X f') (wpE X a) (wpE X b) (wpE X c) σ H Q := by
  obtain ⟨ra, h1, hf⟩ := Option.bind_eq_some_iff.mp hf
  obtain ⟨rb, h2, hf⟩ := Option.bind_eq_some_iff.mp hf
  refine ha.pub h1 rel fun v H1 G1 g1 vr => hb.pub h2 (rel.grow g1) fun w H2 G2 g2 wr => ?_
  have g12 := g1.trans g2
  split at hf
  · rename_i e
    obtain ⟨rc, h3, hf⟩ := Option.bind_eq_some_iff.mp hf
    refine p2_any ok (vr.grow g2) wr g2.sub e fun z H3 G3 g3 zr => ?_
    cases (show Den _ _ _ _ _ from zr)
    refine ⟨true, rfl, ?_⟩
    rw [if_pos rfl]
    refine hc.pub h3 (rel.grow (g12.trans g3)) fun u H4 G4 g4 ur => ?_
    have g14 := (g12.trans g3).trans g4
    exact p2_any ok' (wr.grow (g3.trans g4)) ur g4.sub hf fun z' H5 G5 g5 zr' => q z' H5 G5 (g14.trans g5) (zr'.hx g14.hx)
  · rename_i e
    cases hf
    refine p2_any ok (vr.grow g2) wr g2.sub e fun z H3 G3 g3 zr => ?_
    cases (show Den _ _ _ _ _ from zr)
    refine ⟨false, rfl, ?_⟩
    rw [if_neg Bool.false_ne_true]
    exact q _ H3 G3 (g12.trans g3) (Den.bl _)
  · cases hf
theorem je_chain {op op' : CmpOp} {pf qf : Dt → Dt → Option R} (ok : P2 X cm (compareOp op) pf) (ok' : P2 X cm (compareOp op') qf) (ha : JE X cm a fa) (hb : JE X cm b fb) (hc : JE X cm c fc)
    (hm : lastMarks [op, op'] [b, c] = false := by with_unfolding_all rfl) : JE X cm (.Compare a [op, op'] [b, c] pos) (eChain pf qf fa fb fc) :=
  ⟨fun env r σ H G hf rel Q q => to_e (pe_chain op_any op_any pe_w pe_w pe_w hm) (chain_ok ok ok' ha hb hc hf rel q)⟩
theorem jt_chain {op op' : CmpOp} {pf qf : Dt → Dt → Option R} (ok : P2 X cm (compareOp op) pf) (ok' : P2 X cm (compareOp op') qf) (ha : JE X cm a fa) (hb : JE X cm b fb) (hc : JE X cm c fc)
    (hm : lastMarks [op, op'] [b, c] = false := by with_unfolding_all rfl) : JT X cm (.Compare a [op, op'] [b, c] pos) (tVal (eChain pf qf fa fb fc)) := by
  refine ⟨fun env r σ H G hf rel Q q pins s I => ?_⟩
  unfold tVal at hf
  split at hf
  · rename_i b' h1
    cases hf
    refine (pt_chain op_any op_any pe_w pe_w pe_w hm).run pins s σ H _ I (chain_ok ok ok' ha hb hc h1 rel fun v H' G' g vr => ?_)
    cases (show Den _ _ _ _ _ from vr)
    exact ⟨_, rfl, q H' G' g⟩
  · cases hf
/-! math.gcd, math.comb -/
theorem je_f2 {id : String} {pf : Dt → Dt → Option R} (ok : P2c X cm (.builtin id) pf) (hg : Gl X x) (hm : X.mg x = some (.builtin id)) (ha : JE X cm a fa) (hb : JE X cm b fb) (hdb : (x == ("__debug__" : Str)) = false := by decide)
    (h0 : starEach [b] X.env = (false, eval b X.env) :: starEach [] X.env := by rfl) (he : starEach [a, b] X.env = (false, eval a X.env) :: starEach [b] X.env := by rfl) (hpl : (backTo pos (starEach [b] X.env)).any (·.1) = false := by rfl) : JE X cm (.Call (.Name x p) [a, b] [] pos) (e2 pf fa fb) := by
  refine ⟨fun env r σ H G hf rel Q q => ?_⟩
  obtain ⟨ra, h1, hf⟩ := Option.bind_eq_some_iff.mp hf
  obtain ⟨rb, h2, hf⟩ := Option.bind_eq_some_iff.mp hf
  obtain ⟨rr, hc, hr⟩ := ok
  refine to_e (pe_callBfun hc hg hm (pa_cons pe_w (pa_cons pe_w pa_nil h0) he) hdb he hpl) (ha.pub h1 rel fun v H1 G1 g1 vr => hb.pub h2 (rel.grow g1) fun w H2 G2 g2 wr => ?_)
  exact hr _ _ _ _ _ v w H2 G2 (vr.grow g2) wr g2.sub hf Q fun v' H3 G3 g3 rr3 => q v' H3 G3 ((g1.trans g2).trans g3) (rr3.hx (g1.trans g2).hx)
theorem p2c_gcd : P2c X cm (.builtin "math.gcd") pGcd := ⟨_, cr_gcd, fun d d2 b b2 out v v2 H G vr vr2 sub hp Q q => by
  unfold pGcd at hp
  split at hp
  · cases hp
    have e := vr.int
    have e2 := vr2.int
    subst e e2
    exact ⟨_, _, rfl, q _ _ _ (.refl sub) (Den.int _)⟩
  · cases hp⟩
theorem fp_up (n : Int) : ∀ k : Nat, Builtin.Math.fallingProduct (n + 1) (k + 1) = (n + 1) * Builtin.Math.fallingProduct n k
  | 0 => by rw [PySem.W.mc_fp_one, PySem.W.mc_fp_zero, Int.mul_one]
  | k + 1 => by
    rw [PySem.W.mc_fp_succ (n + 1) (k + 1), fp_up n k, PySem.W.mc_fp_succ n k, Int.mul_assoc]
    congr 2
    omega
theorem fp_choose : ∀ n k : Nat, Builtin.Math.fallingProduct n k = chooseN n k * Builtin.Math.fallingProduct k k
  | n, 0 => by unfold chooseN; rfl
  | 0, k + 1 => by
    unfold chooseN
    rw [PySem.W.mc_fp_succ]
    have h : ∀ j : Nat, Builtin.Math.fallingProduct ((0 : Nat) : Int) (j + 1) = 0 := fun j => by
      induction j with
      | zero => rfl
      | succ j ih => rw [PySem.W.mc_fp_succ, ih, Int.zero_mul]
    rw [← PySem.W.mc_fp_succ, h k]
    exact (Int.zero_mul _).symm
  | n + 1, k + 1 => by
    have h1 := fp_choose n k
    have h2 := fp_choose n (k + 1)
    rw [PySem.W.mc_fp_succ] at h2
    have e1 : Builtin.Math.fallingProduct (((n + 1 : Nat)) : Int) (k + 1) = ((n : Int) + 1) * Builtin.Math.fallingProduct n k := fp_up n k
    have e2 : Builtin.Math.fallingProduct (((k + 1 : Nat)) : Int) (k + 1) = ((k : Int) + 1) * Builtin.Math.fallingProduct k k := fp_up k k
    rw [e1]
    show _ = ((chooseN n k + chooseN n (k + 1) : Nat) : Int) * _
    generalize Builtin.Math.fallingProduct (((k + 1 : Nat)) : Int) (k + 1) = z at *
    generalize Builtin.Math.fallingProduct (n : Int) k = y at *
    have e3 : (chooseN n k : Int) * z = ((k : Int) + 1) * y := by
      rw [h1, e2, Int.mul_left_comm]
    rw [Int.natCast_add, Int.add_mul (chooseN n k : Int), ← h2, e3, Int.mul_comm y, ← Int.add_mul]
    congr 1
    omega
theorem choose_zero (n : Nat) : chooseN n 0 = 1 := by unfold chooseN; rfl
theorem choose_above : ∀ {n k : Nat}, n < k → chooseN n k = 0
  | 0, k + 1, _ => by unfold chooseN; rfl
  | n + 1, k + 1, h => by
    unfold chooseN
    rw [choose_above (n := n) (k := k) (by omega), choose_above (n := n) (k := k + 1) (by omega)]
theorem choose_self : ∀ n : Nat, chooseN n n = 1
  | 0 => by unfold chooseN; rfl
  | n + 1 => by
    unfold chooseN
    rw [choose_self n, choose_above (Nat.lt_succ_self n)]
theorem choose_symm : ∀ n a b : Nat, a + b = n → chooseN n a = chooseN n b
  | n, 0, b, h => by
    rw [Nat.zero_add] at h
    subst h
    rw [choose_zero, choose_self]
  | n, a + 1, 0, h => by
    rw [Nat.add_zero] at h
    subst h
    rw [choose_zero, choose_self]
  | n + 1, a + 1, b + 1, h => by
    show chooseN n a + chooseN n (a + 1) = chooseN n b + chooseN n (b + 1)
    rw [choose_symm n a (b + 1) (by omega), choose_symm n (a + 1) b (by omega)]
    omega
theorem comb_choose (n k : Nat) : PySem.W.mcComb n k = chooseN n k := by
  by_cases h : k ≤ n
  · have hd : ∀ m : Nat, m ≤ n → Builtin.Math.fallingProduct n m / Builtin.Math.fallingProduct m m = chooseN n m := fun m hm => by
      have hp := PySem.W.mc_fp_pos (n := m) m (Int.le_refl _)
      rw [fp_choose n m]
      exact Int.mul_ediv_cancel _ (by omega)
    rcases Nat.le_total k (n - k) with h2 | h2
    · rw [PySem.W.mcComb_at (m := k) (by omega) (by omega) (by omega), Int.toNat_natCast]
      exact hd k h
    · rw [PySem.W.mcComb_at (m := ((n - k : Nat) : Int)) (by omega) (by omega) (by omega), Int.toNat_natCast, hd (n - k) (Nat.sub_le _ _), choose_symm n (n - k) k (by omega)]
  · rw [PySem.W.mcComb_above (by omega), choose_above (by omega)]
    rfl
def rComb : List V → Hp → VK → Prop := fun vs H Q => ∃ a b : Int, vs = [.int a, .int b] ∧ (0 ≤ a ∧ a ≤ 9000 ∧ 0 ≤ b) ∧ Q (.int (chooseN a.toNat b.toNat : Nat)) H
theorem cr_comb : CallR X (.builtin "math.comb") rComb := by
  intro pins s σ H vs us Q I r h
  obtain ⟨a, b, rfl, ⟨h1, h2, h3⟩, q⟩ := h
  obtain ⟨t, u, rfl⟩ := Vals.int2 r
  obtain ⟨a, rfl⟩ : ∃ z : Nat, a = z := ⟨a.toNat, by omega⟩
  obtain ⟨b, rfl⟩ : ∃ z : Nat, b = z := ⟨b.toNat, by omega⟩
  rw [Int.toNat_natCast, Int.toNat_natCast, ← comb_choose] at q
  exact PySem.W.mc_comb h1 h3 (by omega) (Or.inr (by omega)) fun _ => ⟨.int _, H, I.tok _, ⟨_, rfl⟩, q⟩
theorem p2c_comb : P2c X cm (.builtin "math.comb") pComb := ⟨_, cr_comb, fun d d2 b b2 out v v2 H G vr vr2 sub hp Q q => by
  unfold pComb at hp
  split at hp
  · split at hp
    · rename_i hk
      cases hp
      have e := vr.int
      have e2 := vr2.int
      subst e e2
      exact ⟨_, _, rfl, hk, q _ _ _ (.refl sub) (Den.int _)⟩
    · cases hp
  · cases hp⟩
theorem je_gcd (hg : Gl X "gcd") (hm : X.mg "gcd" = some (.builtin "math.gcd")) (ha : JE X cm a fa) (hb : JE X cm b fb)
    (h0 : starEach [b] X.env = (false, eval b X.env) :: starEach [] X.env := by rfl) (he : starEach [a, b] X.env = (false, eval a X.env) :: starEach [b] X.env := by rfl) (hpl : (backTo pos (starEach [b] X.env)).any (·.1) = false := by rfl) : JE X cm (.Call (.Name "gcd" p) [a, b] [] pos) (e2 pGcd fa fb) := je_f2 p2c_gcd hg hm ha hb (by decide) h0 he hpl
theorem je_comb (hg : Gl X "comb") (hm : X.mg "comb" = some (.builtin "math.comb")) (ha : JE X cm a fa) (hb : JE X cm b fb)
    (h0 : starEach [b] X.env = (false, eval b X.env) :: starEach [] X.env := by rfl) (he : starEach [a, b] X.env = (false, eval a X.env) :: starEach [b] X.env := by rfl) (hpl : (backTo pos (starEach [b] X.env)).any (·.1) = false := by rfl) : JE X cm (.Call (.Name "comb" p) [a, b] [] pos) (e2 pComb fa fb) := je_f2 p2c_comb hg hm ha hb (by decide) h0 he hpl
/-! a global name of an int -/
theorem je_gint {i : Int} {k : Tok} (hg : Gl X x) (hm : X.mg x = some (.int i k)) (hd : (x == ("__debug__" : Str)) = false := by decide) : JE X cm (.Name x p) (eC (.int i)) := ⟨fun env r σ H G hf rel Q q => by
  cases hf
  exact to_e (pe_glob hg hm (v := .int i) ⟨_, rfl⟩ hd) (q _ H G (.refl rel.sub) (Den.int i))⟩
/-! range with a step -/
theorem stepD_length (a c : Int) (n : Nat) : (stepD a c n).length = n := by
  unfold stepD
  rw [List.length_map, List.length_range]
theorem itc_ok {K : PySem.W.Frag} {lo c : Int} {n : Nat} {t : Bool} {H0 G0 : Hp} : ItOk K cm (Itc lo c n) (stepD lo c n) t H0 G0 where
  go := fun i H G s hi => by
    rw [stepD_length] at hi
    exact hi
  yl := fun i H G v H' s hi y => by
    obtain ⟨rfl, rfl⟩ := y
    rw [stepD_length] at hi
    refine ⟨G, .int (lo + (i : Int) * c), ?_, .refl s.sub, .int _⟩
    unfold stepD
    rw [List.getElem?_map, List.getElem?_range hi]
    rfl
  stop := fun i H G s hi => by
    rw [stepD_length] at hi
    exact hi
theorem rgc_of {i j k : Int} (hk : (0 < k ∧ k < 1073741824) ∨ k = -1) (hi : -1099511627776 ≤ i ∧ i ≤ 1099511627776) (hj : -1099511627776 ≤ j ∧ j ≤ 1099511627776) : RgC i j k (stepN i j k) := by
  rcases hk with ⟨h0, h1⟩ | rfl
  · have hs : Builtin.Range.rangeSize i j k = (stepN i j k : Nat) ∧ (stepN i j k : Int) ≤ 2199023255552 := by
      unfold Builtin.Range.rangeSize stepN
      rw [if_pos h0, if_pos h0]
      split
      · have h2 : (j - i - 1) / k ≤ j - i - 1 := Int.ediv_le_self _ (by omega)
        have h3 : 0 ≤ (j - i - 1) / k := Int.ediv_nonneg (by omega) (by omega)
        omega
      · omega
    refine ⟨by omega, by omega, ?_, hs.1⟩
    unfold Builtin.Range.small
    rw [hs.1]
    generalize stepN i j k = n at *
    have h4 : k > 0 := h0
    rw [if_pos h4]
    simp only [Builtin.Range.rangeFitsLong, Bool.and_eq_true, Bool.or_eq_true, decide_eq_true_eq, beq_iff_eq]
    omega
  · have e : stepN i j (-1) = (i - j).toNat := by
      unfold stepN
      rw [if_neg (by decide)]
    rw [e]
    exact RgC.neg (by omega) (by omega) (by omega) (by omega)
theorem ji_range3 {tg : Expr} (hg : Gl X "range") (hm : X.mg "range" = none) (ha : JE X cm a fa) (hb : JE X cm b fb) (hc : JE X cm c fc) (hs : starEach [a, b, c] X.env = (false, eval a X.env) :: starEach [b, c] X.env := by rfl) (hpl : (backTo pos (starEach [b, c] X.env)).any (·.1) = false := by rfl)
    (he2 : starEach [b, c] X.env = (false, eval b X.env) :: starEach [c] X.env := by rfl) (he3 : starEach [c] X.env = (false, eval c X.env) :: starEach [] X.env := by rfl) : JI X cm tg (.Call (.Name "range" p) [a, b, c] [] pos) (iRange3 fa fb fc) := by
  refine ⟨fun env ds t σ H G hf rel Q q => ?_⟩
  obtain ⟨ra, h1, hf⟩ := Option.bind_eq_some_iff.mp hf
  obtain ⟨rb, h2, hf⟩ := Option.bind_eq_some_iff.mp hf
  obtain ⟨rc, h3, hf⟩ := Option.bind_eq_some_iff.mp hf
  split at hf
  · rename_i i j k e1 e2 e3
    split at hf
    · rename_i hn
      cases hf
      refine to_i (pi_range3 hg hm (pa_cons pe_w (pa_cons pe_w (pa_cons pe_w pa_nil he3) he2) hs) hs hpl) (ha.pub h1 rel fun v H1 G1 g1 vr => hb.pub h2 (rel.grow g1) fun w H2 G2 g2 wr => hc.pub h3 (rel.grow (g1.trans g2)) fun u H3 G3 g3 ur => ?_)
      rw [e1] at vr
      rw [e2] at wr
      rw [e3] at ur
      have ev := vr.int
      have ew := wr.int
      have eu := ur.int
      subst ev ew eu
      exact ⟨i, j, k, _, rfl, rgc_of hn.1 hn.2.1 hn.2.2, q _ H3 G3 ((g1.trans g2).trans g3) itc_ok⟩
    · cases hf
  · cases hf
/-! max, min of a list of ints -/
theorem foldmax (ns : List Int) : ∀ n : Int, (ns.foldl (fun m x => if x > m then x else m) n) ∈ n :: ns ∧ ∀ y ∈ n :: ns, y ≤ ns.foldl (fun m x => if x > m then x else m) n := by
  induction ns with
  | nil => exact fun n => ⟨List.mem_cons_self, fun y hy => by rw [List.mem_singleton.mp hy]; exact Int.le_refl _⟩
  | cons a ns ih =>
    intro n
    obtain ⟨h1, h2⟩ := ih (if a > n then a else n)
    rw [List.foldl_cons]
    refine ⟨?_, fun y hy => ?_⟩
    · rcases List.mem_cons.mp h1 with e | e
      · rw [e]
        split
        · exact List.mem_cons_of_mem _ List.mem_cons_self
        · exact List.mem_cons_self
      · exact List.mem_cons_of_mem _ (List.mem_cons_of_mem _ e)
    · have h0 := h2 _ List.mem_cons_self
      rcases List.mem_cons.mp hy with e | e
      · subst e
        exact Int.le_trans (show y ≤ if a > y then a else y by split <;> omega) h0
      · rcases List.mem_cons.mp e with e | e
        · subst e
          exact Int.le_trans (show y ≤ if y > n then y else n by split <;> omega) h0
        · exact h2 y (List.mem_cons_of_mem _ e)
theorem foldmin (ns : List Int) : ∀ n : Int, (ns.foldl (fun m x => if x < m then x else m) n) ∈ n :: ns ∧ ∀ y ∈ n :: ns, ns.foldl (fun m x => if x < m then x else m) n ≤ y := by
  induction ns with
  | nil => exact fun n => ⟨List.mem_cons_self, fun y hy => by rw [List.mem_singleton.mp hy]; exact Int.le_refl _⟩
  | cons a ns ih =>
    intro n
    obtain ⟨h1, h2⟩ := ih (if a < n then a else n)
    rw [List.foldl_cons]
    refine ⟨?_, fun y hy => ?_⟩
    · rcases List.mem_cons.mp h1 with e | e
      · rw [e]
        split
        · exact List.mem_cons_of_mem _ List.mem_cons_self
        · exact List.mem_cons_self
      · exact List.mem_cons_of_mem _ (List.mem_cons_of_mem _ e)
    · have h0 := h2 _ List.mem_cons_self
      rcases List.mem_cons.mp hy with e | e
      · subst e
        exact Int.le_trans h0 (show (if a < y then a else y) ≤ y by split <;> omega)
      · rcases List.mem_cons.mp e with e | e
        · subst e
          exact Int.le_trans h0 (show (if y < n then y else n) ≤ y by split <;> omega)
        · exact h2 y (List.mem_cons_of_mem _ e)
theorem VR.lstI {v : V} {b : Bool} {ds : List Dt} {ns : List Int} (sub : Exx G H) (vr : VR X.K cm H G v (.lst ds) b) (e : intsOf ds = some ns) : ∃ l, v = .ref l ∧ SqL X.K H l (ns.map V.int) := by
  cases b with
  | true =>
    obtain ⟨l, vs, ds', h1, h2, h3, h4⟩ := vr.1 rfl
    cases h2
    rw [DenL.ints h4 e] at h3
    exact ⟨l, h1, h3⟩
  | false =>
    cases vr.2 rfl with
    | lst h3 h4 =>
      rw [DenL.ints h4 e] at h3
      exact ⟨_, rfl, sub.sqL h3⟩
theorem p1_max (hc : X.calm = true) : P1 X cm (.builtin "max") pMaxL := ⟨_, cr_max hc, fun d b out v H G vr sub hp Q q => by
  unfold pMaxL at hp
  split at hp
  · rename_i ds
    obtain ⟨ns, e, hp⟩ := Option.bind_eq_some_iff.mp hp
    split at hp
    · cases hp
    · rename_i n ns
      cases hp
      obtain ⟨l, rfl, h⟩ := vr.lstI sub e
      obtain ⟨f1, f2⟩ := foldmax ns n
      refine ⟨l, n :: ns, rfl, h, by simp, fun m h1 h2 => ?_⟩
      have em : m = ns.foldl (fun m x => if x > m then x else m) n := Int.le_antisymm (f2 m h1) (h2 _ f1)
      rw [em]
      exact q _ _ _ (.refl sub) (Den.int _)
  · cases hp⟩
theorem p1_min (hc : X.calm = true) : P1 X cm (.builtin "min") pMinL := ⟨_, cr_min hc, fun d b out v H G vr sub hp Q q => by
  unfold pMinL at hp
  split at hp
  · rename_i ds
    obtain ⟨ns, e, hp⟩ := Option.bind_eq_some_iff.mp hp
    split at hp
    · cases hp
    · rename_i n ns
      cases hp
      obtain ⟨l, rfl, h⟩ := vr.lstI sub e
      obtain ⟨f1, f2⟩ := foldmin ns n
      refine ⟨l, n :: ns, rfl, h, by simp, fun m h1 h2 => ?_⟩
      have em : m = ns.foldl (fun m x => if x < m then x else m) n := Int.le_antisymm (h2 _ f1) (f2 m h1)
      rw [em]
      exact q _ _ _ (.refl sub) (Den.int _)
  · cases hp⟩
/-! an int among ints -/
theorem inV_ints (i : Int) (ns : List Int) : inV (.int i) (ns.map V.int) = decide (i ∈ ns) := by
  unfold inV
  rw [List.any_map]
  rw [Bool.eq_iff_iff, List.any_eq_true, decide_eq_true_iff]
  constructor
  · rintro ⟨y, hy, e⟩
    have e2 : y = i := by simpa [eqV] using e
    rw [← e2]
    exact hy
  · intro h
    exact ⟨i, h, by simp [eqV]⟩
theorem flat_ints (ns : List Int) : (ns.map V.int).all flatV = true := by
  rw [List.all_eq_true]
  intro x hx
  obtain ⟨n, _, rfl⟩ := List.mem_map.mp hx
  rfl
theorem in_some {d1 d2 : Dt} {t b1 b2 : Bool} {v1 v2 : V} (h : inInts d1 d2 = some t) (r1 : VR X.K cm H G v1 d1 b1) (r2 : VR X.K cm H G v2 d2 b2) (sub : Exx G H) :
    ∃ (i : Int) (ns : List Int) (p : Addr), v1 = .int i ∧ v2 = .ref p ∧ (SqL X.K H p (ns.map V.int) ∨ SqT X.K H p (ns.map V.int)) ∧ t = decide (i ∈ ns) := by
  unfold inInts at h
  split at h
  · obtain ⟨ns, e, rfl⟩ := Option.map_eq_some_iff.mp h
    obtain ⟨l, rfl, hq⟩ := r2.lstI sub e
    exact ⟨_, ns, l, r1.int, rfl, Or.inl hq, rfl⟩
  · obtain ⟨ns, e, rfl⟩ := Option.map_eq_some_iff.mp h
    obtain ⟨l, vs, rfl, s1, t1, n1⟩ := r2.tup sub
    rw [DenL.ints n1 e] at s1
    exact ⟨_, ns, l, r1.int, rfl, Or.inr s1, rfl⟩
  · cases h
theorem p2_in : P2 X cm (compareOp .In) pIn := by
  intro d1 d2 b1 b2 out v1 v2 H G r1 r2 sub hp
  unfold pIn at hp
  obtain ⟨t, h1, rfl⟩ := Option.map_eq_some_iff.mp hp
  obtain ⟨i, ns, p, rfl, rfl, hq, rfl⟩ := in_some h1 r1 r2 sub
  refine ⟨_, op_in_seq, fun Q q => ⟨p, _, rfl, hq, rfl, flat_ints ns, ?_⟩⟩
  rw [inV_ints]
  exact q _ _ _ (.refl sub) (Den.bl _)
theorem p2_notin : P2 X cm (compareOp .NotIn) pNotIn := by
  intro d1 d2 b1 b2 out v1 v2 H G r1 r2 sub hp
  unfold pNotIn at hp
  obtain ⟨t, h1, rfl⟩ := Option.map_eq_some_iff.mp hp
  obtain ⟨i, ns, p, rfl, rfl, hq, rfl⟩ := in_some h1 r1 r2 sub
  refine ⟨_, op_notIn_seq, fun Q q => ⟨p, _, rfl, hq, rfl, flat_ints ns, ?_⟩⟩
  rw [inV_ints]
  exact q _ _ _ (.refl sub) (Den.bl _)
end
end Pyl
end
section
set_option Elab.async false
set_option linter.all false
set_option maxRecDepth 100000
set_option maxHeartbeats 4000000
namespace Pyl
open PySem L2
def topS (i : Nat) : Stmt := PySem.Challenge.pw_fooledortold_k72_fewest_rows.main.body.getD i (.Pass ⟨0, 0, 0, 0⟩)
abbrev s_first_fault : Stmt := topS 1
abbrev s_next_choice : Stmt := topS 3
abbrev s_first_choice : Stmt := topS 4
abbrev s_fewest_rows : Stmt := topS 5
abbrev s__law_whole : Stmt := topS 7
abbrev s__law_cell : Stmt := topS 8
abbrev s__law_digits : Stmt := topS 9
abbrev s__law_drawn_rows : Stmt := topS 10
abbrev s__law_input_bits : Stmt := topS 11
abbrev s__law_wider : Stmt := topS 12
abbrev s__law_first : Stmt := topS 13
abbrev s__law_firsts : Stmt := topS 14
abbrev s__law_cleared : Stmt := topS 15
abbrev s__law_answered : Stmt := topS 16
abbrev s_law : Stmt := topS 17
section
variable {P : Program} {w : World} {K : PySem.W.Frag} {mg : Str → Option Value} {base : Heap} {cm : Nat → Addr} {f : Addr} {fd : FuncData}
theorem sc_first_fault : FnScope ["faults", "rows", "index", "wrong", "row"] ["faults", "rows"] (defScope s_first_fault) := ⟨rfl, rfl, rfl, by decide +kernel, rfl, by decide +kernel, by decide +kernel⟩
theorem ok_first_fault (Fu : Fun K "first_fault" "first_fault" s_first_fault f fd) (m_len : mg "len" = none) (m_range : mg "range" = none) (m_sum : mg "sum" = none)  : FnOk P w K mg base CX0 1 f fd ["faults", "rows"] (spP K cm F_first_fault) :=
  have scN := sc_first_fault
  fn_ok Fu scN len_first_fault w_first_fault k_first_fault fun cdv A outer s H E hr =>
  (jss_cons (js_for PassesOwn.never rfl (ji_range1 (by rfl) m_range (je_b1 p1_len (by rfl) m_len (by decide +kernel) (je_var 0))) (jg_name 2 scN.nd)
  (jss_cons (js_asg 3 scN.nd (je_b1 (p1_sum rfl) (by rfl) m_sum (by decide +kernel) (je_lc [("row", 4)] rfl scN.nd (ji_seq (je_var 1)) (blk_by ["faults", "rows", "index", "wrong", "row"] (defScope s_first_fault) (by decide +kernel)) (fun _ _ _ _ _ => (jg_name 4 scN.nd)) (by decide) (fun _ _ _ _ _ => jts_nil) (fun _ _ _ _ _ => (je_ix (je_ix (je_var 0) (je_var 2)) (je_var 4))))))
  (jss_one (js_if (jt_cmp p2_gt (je_bin p2_mul je_int (je_var 3)) (je_b1 p1_len (by rfl) m_len (by decide +kernel) (je_var 1)))
  (jss_one (js_ret (je_var 2)))
  jss_nil))))
  (jss_one (js_ret je_non)))
theorem sc_next_choice : FnScope ["indexes", "count", "back", "at", "_"] ["indexes", "count"] (defScope s_next_choice) := ⟨rfl, rfl, rfl, by decide +kernel, rfl, by decide +kernel, by decide +kernel⟩
theorem ok_next_choice (Fu : Fun K "next_choice" "next_choice" s_next_choice f fd) (m_len : mg "len" = none) (m_range : mg "range" = none) (m_tuple : mg "tuple" = none)  : FnOk P w K mg base CX0 1 f fd ["indexes", "count"] (spP K cm F_next_choice) :=
  have scN := sc_next_choice
  fn_ok Fu scN len_next_choice w_next_choice k_next_choice fun cdv A outer s H E hr =>
  (jss_cons (js_for PassesOwn.never rfl (ji_range1 (by rfl) m_range (je_b1 p1_len (by rfl) m_len (by decide +kernel) (je_var 0))) (jg_name 2 scN.nd)
  (jss_cons (js_asg 3 scN.nd (je_bin p2_sub (je_bin p2_sub (je_b1 p1_len (by rfl) m_len (by decide +kernel) (je_var 0)) je_int) (je_var 2)))
  (jss_one (js_if (jt_cmp p2_lt (je_ix (je_var 0) (je_var 3)) (je_bin p2_sub (je_var 1) je_int))
  (jss_one (js_ret (je_bin p2_add (je_slice (je_var 0) jo_none (jo_some (je_var 3))) (je_ty1 p1_tuple (by rfl) m_tuple (by decide +kernel) (je_lc [("_", 4)] rfl scN.nd (ji_range1 (by rfl) m_range (je_bin p2_sub (je_b1 p1_len (by rfl) m_len (by decide +kernel) (je_var 0)) (je_var 3))) (blk_by ["indexes", "count", "back", "at", "_"] (defScope s_next_choice) (by decide +kernel)) (fun _ _ _ _ _ => (jg_name 4 scN.nd)) (by decide) (fun _ _ _ _ _ => jts_nil) (fun _ _ _ _ _ => (je_bin p2_add (je_ix (je_var 0) (je_var 3)) je_int)))))))
  jss_nil))))
  (jss_one (js_ret je_non)))
theorem sc_first_choice : FnScope ["faults", "size", "indexes", "_"] ["faults", "size"] (defScope s_first_choice) := ⟨rfl, rfl, rfl, by decide +kernel, rfl, by decide +kernel, by decide +kernel⟩
theorem ok_first_choice (Fu : Fun K "first_choice" "first_choice" s_first_choice f fd) (m_len : mg "len" = none) (m_range : mg "range" = none) (m_tuple : mg "tuple" = none) (c_first_fault : FnC P w K mg base cm 1 "first_fault" F_first_fault) (c_next_choice : FnC P w K mg base cm 1 "next_choice" F_next_choice) : FnOk P w K mg base CX0 2 f fd ["faults", "size"] (spP K cm F_first_choice) :=
  have scN := sc_first_choice
  fn_ok Fu scN len_first_choice w_first_choice k_first_choice fun cdv A outer s H E hr =>
  (jss_cons (js_asg 2 scN.nd (je_ty1 p1_tuple (by rfl) m_tuple (by decide +kernel) (je_lc [("_", 3)] rfl scN.nd (ji_range1 (by rfl) m_range (je_var 1)) (blk_by ["faults", "size", "indexes", "_"] (defScope s_first_choice) (by decide +kernel)) (fun _ _ _ _ _ => (jg_name 3 scN.nd)) (by decide) (fun _ _ _ _ _ => jts_nil) (fun _ _ _ _ _ => je_int))))
  (jss_cons (js_while PassesOwn.never (jt_notN (je_var 2))
  (jss_cons (js_if (jt_isN (je_call c_first_fault (hr.mono (by decide)) (by rfl) (ja_cons (je_var 0) (ja_cons (je_var 2) ja_nil))))
  (jss_one (js_ret (je_var 2)))
  jss_nil)
  (jss_one (js_asg 2 scN.nd (je_call c_next_choice (hr.mono (by decide)) (by rfl) (ja_cons (je_var 2) (ja_cons (je_b1 p1_len (by rfl) m_len (by decide +kernel) (je_ix (je_var 0) je_int)) ja_nil)))))))
  (jss_one (js_ret je_non))))
theorem sc_fewest_rows : FnScope ["faults", "most", "size", "indexes"] ["faults", "most"] (defScope s_fewest_rows) := ⟨rfl, rfl, rfl, by decide +kernel, rfl, by decide +kernel, by decide +kernel⟩
theorem ok_fewest_rows (Fu : Fun K "fewest_rows" "fewest_rows" s_fewest_rows f fd) (m_range : mg "range" = none) (c_first_choice : FnC P w K mg base cm 2 "first_choice" F_first_choice) : FnOk P w K mg base CX0 3 f fd ["faults", "most"] (spP K cm F_fewest_rows) :=
  have scN := sc_fewest_rows
  fn_ok Fu scN len_fewest_rows w_fewest_rows k_fewest_rows fun cdv A outer s H E hr =>
  (jss_cons (js_for PassesOwn.never rfl (ji_range3 (by rfl) m_range je_int (je_bin p2_add (je_var 1) je_int) je_int) (jg_name 2 scN.nd)
  (jss_cons (js_asg 3 scN.nd (je_call c_first_choice (hr.mono (by decide)) (by rfl) (ja_cons (je_var 0) (ja_cons (je_var 2) ja_nil))))
  (jss_one (js_if (jt_notN (je_var 3))
  (jss_one (js_ret (je_var 3)))
  jss_nil))))
  (jss_one (js_ret je_non)))
theorem sc__law_whole : FnScope ["value"] ["value"] (defScope s__law_whole) := ⟨rfl, rfl, rfl, by decide +kernel, rfl, by decide +kernel, by decide +kernel⟩
theorem ok__law_whole (Fu : Fun K "_law_whole" "_law_whole" s__law_whole f fd) (m_bool : mg "bool" = none) (m_int : mg "int" = none) (m_isinstance : mg "isinstance" = none)  : FnOk P w K mg base CX0 1 f fd ["value"] (spP K cm F__law_whole) :=
  have scN := sc__law_whole
  fn_ok Fu scN len__law_whole w__law_whole k__law_whole fun cdv A outer s H E hr =>
  (jss_one (js_ret (je_and (je_isi (T := "int") (by decide +kernel) (by rfl) m_isinstance (by rfl) m_int (by decide +kernel) (je_var 0)) (je_one (je_not (je_isi (T := "bool") (by decide +kernel) (by rfl) m_isinstance (by rfl) m_bool (by decide +kernel) (je_var 0)))))))
theorem sc__law_cell : FnScope ["script", "k", "seed", "cell"] ["script", "k"] (defScope s__law_cell) := ⟨rfl, rfl, rfl, by decide +kernel, rfl, by decide +kernel, by decide +kernel⟩
theorem ok__law_cell (Fu : Fun K "_law_cell" "_law_cell" s__law_cell f fd) (m_int : mg "int" = none) (m_len : mg "len" = none)  : FnOk P w K mg base CX0 1 f fd ["script", "k"] (spP K cm F__law_cell) :=
  have scN := sc__law_cell
  fn_ok Fu scN len__law_cell w__law_cell k__law_cell fun cdv A outer s H E hr =>
  (jss_cons (js_if (jt_cmp p2_lt (je_var 1) (je_b1 p1_len (by rfl) m_len (by decide +kernel) (je_var 0)))
  (jss_one (js_ret (je_ix (je_var 0) (je_var 1))))
  jss_nil)
  (jss_cons (js_asg 2 scN.nd je_int)
  (jss_cons (js_for PassesOwn.never rfl (ji_seq (je_var 0)) (jg_name 3 scN.nd)
  (jss_one (js_asg 2 scN.nd (je_bin p2_mod (je_ty1 p1_int (by rfl) m_int (by decide +kernel) (je_bin p2_add (je_bin p2_mul (je_var 2) je_int) (je_bin p2_mod (je_ty1 p1_int (by rfl) m_int (by decide +kernel) (je_var 3)) je_int))) je_int))))
  (jss_one (js_ret (je_bin p2_mod (je_ty1 p1_int (by rfl) m_int (by decide +kernel) (je_bin p2_mul (je_bin p2_mul (je_bin p2_add (je_var 2) je_int) (je_bin p2_add (je_var 1) je_int)) je_int)) je_int))))))
theorem sc__law_digits : FnScope ["cell", "sizes", "row", "rest", "seed", "k", "size", "twice"] ["cell", "sizes"] (defScope s__law_digits) := ⟨rfl, rfl, rfl, by decide +kernel, rfl, by decide +kernel, by decide +kernel⟩
theorem ok__law_digits (Fu : Fun K "_law_digits" "_law_digits" s__law_digits f fd) (m_int : mg "int" = none) (m_len : mg "len" = none) (m_range : mg "range" = none)  : FnOk P w K mg base CX0 1 f fd ["cell", "sizes"] (spP K cm F__law_digits) :=
  have scN := sc__law_digits
  fn_ok Fu scN len__law_digits w__law_digits k__law_digits fun cdv A outer s H E hr =>
  (jss_cons (js_asg 2 scN.nd (je_lst ja_nil))
  (jss_cons (js_asg 3 scN.nd (je_ty1 p1_int (by rfl) m_int (by decide +kernel) (je_var 0)))
  (jss_cons (js_if (jt_cmp p2_ge (je_var 3) (je_bin p2_pow je_int je_int))
  (jss_cons (js_asg 3 scN.nd (je_bin p2_sub (je_var 3) (je_bin p2_pow je_int je_int)))
  (jss_cons (js_for PassesOwn.never rfl (ji_seq (je_var 1)) (jg_name 6 scN.nd)
  (jss_cons (js_app 2 (je_bin p2_mod (je_ty1 p1_int (by rfl) m_int (by decide +kernel) (je_var 3)) (je_var 6)))
  (jss_one (js_asg 3 scN.nd (je_bin p2_div (je_ty1 p1_int (by rfl) m_int (by decide +kernel) (je_var 3)) (je_var 6))))))
  (jss_frz 2 (jss_one (js_ret (je_var 2))))))
  jss_nil)
  (jss_cons (js_asg 4 scN.nd (je_bin p2_mod (je_ty1 p1_int (by rfl) m_int (by decide +kernel) (je_var 3)) je_int))
  (jss_cons (js_for PassesOwn.never rfl (ji_range1 (by rfl) m_range (je_b1 p1_len (by rfl) m_len (by decide +kernel) (je_var 1))) (jg_name 5 scN.nd)
  (jss_cons (js_asg 4 scN.nd (je_bin p2_mod (je_ty1 p1_int (by rfl) m_int (by decide +kernel) (je_bin p2_add (je_bin p2_add (je_bin p2_mul (je_var 4) je_int) (je_bin p2_mul je_int (je_var 5))) je_int)) je_int))
  (jss_cons (js_asg 7 scN.nd (je_bin p2_mod (je_ty1 p1_int (by rfl) m_int (by decide +kernel) (je_bin p2_mul (je_var 4) (je_bin p2_add (je_bin p2_div (je_var 4) je_int) je_int))) je_int))
  (jss_one (js_app 2 (je_bin p2_mod (je_bin p2_div (je_var 7) je_int) (je_ix (je_var 1) (je_var 5))))))))
  (jss_frz 2 (jss_one (js_ret (je_var 2)))))))))
theorem sc__law_drawn_rows : FnScope ["digits", "count", "rest", "taken", "k", "at"] ["digits", "count"] (defScope s__law_drawn_rows) := ⟨rfl, rfl, rfl, by decide +kernel, rfl, by decide +kernel, by decide +kernel⟩
theorem ok__law_drawn_rows (Fu : Fun K "_law_drawn_rows" "_law_drawn_rows" s__law_drawn_rows f fd) (m_int : mg "int" = none) (m_len : mg "len" = none) (m_range : mg "range" = none)  : FnOk P w K mg base CX0 1 f fd ["digits", "count"] (spP K cm F__law_drawn_rows) :=
  have scN := sc__law_drawn_rows
  fn_ok Fu scN len__law_drawn_rows w__law_drawn_rows k__law_drawn_rows fun cdv A outer s H E hr =>
  (jss_cons (js_asgLc 2 [("k", 4)] rfl scN.nd rfl rfl (sw_true rfl rfl rfl (by decide +kernel)) (ji_range1 (by rfl) m_range (je_var 1)) (blk_by ["digits", "count", "rest", "taken", "k", "at"] (defScope s__law_drawn_rows) (by decide +kernel)) (fun _ _ _ _ _ => (jg_name 4 scN.nd)) (by decide) (fun _ _ _ _ _ => jts_nil) (fun _ _ _ _ _ => (je_var 4)))
  (jss_frz 2 (jss_cons (js_asg 3 scN.nd (je_lst ja_nil))
  (jss_cons (js_for PassesOwn.never rfl (ji_range1 (by rfl) m_range (je_var 1)) (jg_name 4 scN.nd)
  (jss_cons (js_asg 5 scN.nd (je_bin p2_mod (je_ty1 p1_int (by rfl) m_int (by decide +kernel) (je_ix (je_var 0) (je_var 4))) (je_b1 p1_len (by rfl) m_len (by decide +kernel) (je_var 2))))
  (jss_cons (js_app 3 (je_ix (je_var 2) (je_var 5)))
  (jss_one (js_asg 2 scN.nd (je_bin p2_add (je_slice (je_var 2) jo_none (jo_some (je_var 5))) (je_slice (je_var 2) (jo_some (je_bin p2_add (je_var 5) je_int)) jo_none)))))))
  (jss_frz 3 (jss_one (js_ret (je_var 3))))))))
theorem sc__law_input_bits : FnScope ["cell", "i", "style", "drawn", "count", "row", "least", "bits", "wrong", "k", "pairs", "pair", "one"] ["cell", "i", "style", "drawn"] (defScope s__law_input_bits) := ⟨rfl, rfl, rfl, by decide +kernel, rfl, by decide +kernel, by decide +kernel⟩
theorem ok__law_input_bits (Fu : Fun K "_law_input_bits" "_law_input_bits" s__law_input_bits f fd) (m_int : mg "int" = none) (m_len : mg "len" = none) (m_min : mg "min" = none) (m_range : mg "range" = none) (c__law_digits : FnC P w K mg base cm 1 "_law_digits" F__law_digits) : FnOk P w K mg base CX0 2 f fd ["cell", "i", "style", "drawn"] (spP K cm F__law_input_bits) :=
  have scN := sc__law_input_bits
  fn_ok Fu scN len__law_input_bits w__law_input_bits k__law_input_bits fun cdv A outer s H E hr =>
  (jss_cons (js_asg 4 scN.nd (je_b1 p1_len (by rfl) m_len (by decide +kernel) (je_var 3)))
  (jss_cons (js_asg 5 scN.nd (je_call c__law_digits (hr.mono (by decide)) (by rfl) (ja_cons (je_var 0) (ja_cons (je_bin p2_add (je_lst (ja_cons je_int (ja_cons je_int (ja_cons je_int ja_nil)))) (je_lc [("k", 9)] rfl scN.nd (ji_range1 (by rfl) m_range (je_var 4)) (blk_by ["cell", "i", "style", "drawn", "count", "row", "least", "bits", "wrong", "k", "pairs", "pair", "one"] (defScope s__law_input_bits) (by decide +kernel)) (fun _ _ _ _ _ => (jg_name 9 scN.nd)) (by decide) (fun _ _ _ _ _ => jts_nil) (fun _ _ _ _ _ => je_int))) ja_nil))))
  (jss_cons (js_asg 6 scN.nd (je_ix (je_lst (ja_cons je_int (ja_cons je_int (ja_cons je_int (ja_cons je_int (ja_cons je_int (ja_cons je_int ja_nil))))))) (je_ix (je_var 5) je_int)))
  (jss_cons (js_if (JW.t (jw_and (jt_cmp p2_gt (je_var 2) je_int) (jw_and1 (jt_cmp p2_lt (je_var 2) je_int))))
  (jss_one (js_asg 6 scN.nd je_int))
  jss_nil)
  (jss_cons (js_asgLc 7 [("one", 12)] rfl scN.nd rfl rfl (sw_true rfl rfl rfl (by decide +kernel)) (ji_seq (je_slice (je_var 5) (jo_some je_int) jo_none)) (blk_by ["cell", "i", "style", "drawn", "count", "row", "least", "bits", "wrong", "k", "pairs", "pair", "one"] (defScope s__law_input_bits) (by decide +kernel)) (fun _ _ _ _ _ => (jg_name 12 scN.nd)) (by decide) (fun _ _ _ _ _ => jts_nil) (fun _ _ _ _ _ => (je_ty1 p1_int (by rfl) m_int (by decide +kernel) (je_cmp p2_ge (je_var 12) (je_var 6)))))
  (jss_cons (js_if (JW.t (jw_or (jt_cmp (p2_eq hr.units) (je_var 2) je_int) (jw_or1 (jt_cmp (p2_eq hr.units) (je_var 2) je_int))))
  (jss_cons (js_asg 8 scN.nd (je_ix (je_var 5) je_int))
  (jss_cons (js_if (jt_cmp p2_lt (je_var 1) je_int)
  (jss_one (js_asg 8 scN.nd (je_var 1)))
  jss_nil)
  (jss_one (js_for PassesOwn.never rfl (ji_range1 (by rfl) m_range (je_b2 (p2c_min rfl) (by rfl) m_min (by decide +kernel) je_int (je_var 4))) (jg_name 9 scN.nd)
  (jss_one (js_put 7 (je_ty1 p1_int (by rfl) m_int (by decide +kernel) (je_cmp (p2_eq hr.units) (je_var 9) (je_var 8))) (je_ix (je_var 3) (je_var 9))))))))
  jss_nil)
  (jss_cons (js_if (JW.t (jw_or (jt_cmp (p2_eq hr.units) (je_var 2) je_int) (jw_or1 (jt_cmp (p2_eq hr.units) (je_var 2) je_int))))
  (jss_cons (js_asg 10 scN.nd (je_lst (ja_cons (je_lst (ja_cons je_int (ja_cons je_int ja_nil))) (ja_cons (je_lst (ja_cons je_int (ja_cons je_int ja_nil))) (ja_cons (je_lst (ja_cons je_int (ja_cons je_int ja_nil))) (ja_cons (je_lst (ja_cons je_int (ja_cons je_int ja_nil))) (ja_cons (je_lst (ja_cons je_int (ja_cons je_int ja_nil))) (ja_cons (je_lst (ja_cons je_int (ja_cons je_int ja_nil))) (ja_cons (je_lst (ja_cons je_int (ja_cons je_int ja_nil))) (ja_cons (je_lst (ja_cons je_int (ja_cons je_int ja_nil))) (ja_cons (je_lst (ja_cons je_int (ja_cons je_int ja_nil))) (ja_cons (je_lst (ja_cons je_int (ja_cons je_int ja_nil))) ja_nil))))))))))))
  (jss_frz 10 (jss_cons (js_asg 11 scN.nd (je_ix (je_var 10) (je_ix (je_var 5) je_int)))
  (jss_cons (js_if (jt_cmp p2_lt (je_var 1) je_int)
  (jss_one (js_asg 11 scN.nd (je_ix (je_var 10) (je_var 1))))
  jss_nil)
  (jss_one (js_for PassesOwn.never rfl (ji_range1 (by rfl) m_range (je_b2 (p2c_min rfl) (by rfl) m_min (by decide +kernel) je_int (je_var 4))) (jg_name 9 scN.nd)
  (jss_one (js_put 7 (je_ty1 p1_int (by rfl) m_int (by decide +kernel) (je_cmp p2_in (je_var 9) (je_var 11) (by rfl))) (je_ix (je_var 3) (je_var 9))))))))))
  jss_nil)
  (jss_frz 7 (jss_one (js_ret (je_var 7)))))))))))
theorem sc__law_wider : FnScope ["entries", "columns", "wider", "entry", "k", "i"] ["entries", "columns"] (defScope s__law_wider) := ⟨rfl, rfl, rfl, by decide +kernel, rfl, by decide +kernel, by decide +kernel⟩
theorem ok__law_wider (Fu : Fun K "_law_wider" "_law_wider" s__law_wider f fd) (m_len : mg "len" = none) (m_range : mg "range" = none)  : FnOk P w K mg base CX0 1 f fd ["entries", "columns"] (spP K cm F__law_wider) :=
  have scN := sc__law_wider
  fn_ok Fu scN len__law_wider w__law_wider k__law_wider fun cdv A outer s H E hr =>
  (jss_cons (js_asg 2 scN.nd (je_lst ja_nil))
  (jss_cons (js_for PassesOwn.never rfl (ji_seq (je_var 0)) (jg_name 3 scN.nd)
  (jss_one (js_for PassesOwn.never rfl (ji_range2 (by rfl) m_range (je_ix (je_ix (je_var 3) je_int) (je_neg je_int)) (je_b1 p1_len (by rfl) m_len (by decide +kernel) (je_var 1))) (jg_name 4 scN.nd)
  (jss_one (js_app 2 (je_lst (ja_cons (je_bin p2_add (je_ix (je_var 3) je_int) (je_lst (ja_cons (je_var 4) ja_nil))) (ja_cons (je_lc [("i", 5)] rfl scN.nd (ji_range1 (by rfl) m_range (je_b1 p1_len (by rfl) m_len (by decide +kernel) (je_ix (je_var 1) (je_var 4)))) (blk_by ["entries", "columns", "wider", "entry", "k", "i"] (defScope s__law_wider) (by decide +kernel)) (fun _ _ _ _ _ => (jg_name 5 scN.nd)) (by decide) (fun _ _ _ _ _ => jts_nil) (fun _ _ _ _ _ => (je_bin p2_add (je_ix (je_ix (je_var 3) je_int) (je_var 5)) (je_ix (je_ix (je_var 1) (je_var 4)) (je_var 5))))) ja_nil))))))))
  (jss_frz 2 (jss_one (js_ret (je_var 2))))))
theorem sc__law_first : FnScope ["entries", "entry"] ["entries"] (defScope s__law_first) := ⟨rfl, rfl, rfl, by decide +kernel, rfl, by decide +kernel, by decide +kernel⟩
theorem ok__law_first (Fu : Fun K "_law_first" "_law_first" s__law_first f fd) (m_len : mg "len" = none) (m_max : mg "max" = none)  : FnOk P w K mg base CX0 1 f fd ["entries"] (spP K cm F__law_first) :=
  have scN := sc__law_first
  fn_ok Fu scN len__law_first w__law_first k__law_first fun cdv A outer s H E hr =>
  (jss_cons (js_for PassesOwn.never rfl (ji_seq (je_var 0)) (jg_name 1 scN.nd)
  (jss_one (js_if (jt_cmp p2_le (je_bin p2_mul je_int (je_b1 (p1_max rfl) (by rfl) m_max (by decide +kernel) (je_ix (je_var 1) je_int))) (je_b1 p1_len (by rfl) m_len (by decide +kernel) (je_ix (je_var 1) je_int)))
  (jss_one (js_ret (je_ix (je_var 1) je_int)))
  jss_nil)))
  (jss_one (js_ret je_non)))
theorem sc__law_firsts : FnScope ["faults", "count", "columns", "single", "triple", "k", "bits"] ["faults", "count"] (defScope s__law_firsts) := ⟨rfl, rfl, rfl, by decide +kernel, rfl, by decide +kernel, by decide +kernel⟩
theorem ok__law_firsts (Fu : Fun K "_law_firsts" "_law_firsts" s__law_firsts f fd) (m_range : mg "range" = none) (c__law_wider : FnC P w K mg base cm 1 "_law_wider" F__law_wider) (c__law_first : FnC P w K mg base cm 1 "_law_first" F__law_first) : FnOk P w K mg base CX0 2 f fd ["faults", "count"] (spP K cm F__law_firsts) :=
  have scN := sc__law_firsts
  fn_ok Fu scN len__law_firsts w__law_firsts k__law_firsts fun cdv A outer s H E hr =>
  (jss_cons (js_asg 2 scN.nd (je_lc [("k", 5)] rfl scN.nd (ji_range1 (by rfl) m_range (je_var 1)) (blk_by ["faults", "count", "columns", "single", "triple", "k", "bits"] (defScope s__law_firsts) (by decide +kernel)) (fun _ _ _ _ _ => (jg_name 5 scN.nd)) (by decide) (fun _ _ _ _ _ => jts_nil) (fun _ _ _ _ _ => (je_lc [("bits", 6)] rfl scN.nd (ji_seq (je_var 0)) (blk_by ["faults", "count", "columns", "single", "triple", "k", "bits"] (relS _ (defScope s__law_firsts)) (by decide +kernel)) (fun _ _ _ _ _ => (jg_name 6 scN.nd)) (by decide) (fun _ _ _ _ _ => jts_nil) (fun _ _ _ _ _ => (je_ix (je_var 6) (je_var 5)))))))
  (jss_frz 2 (jss_cons (js_asgLc 3 [("k", 5)] rfl scN.nd rfl rfl (sw_true rfl rfl rfl (by decide +kernel)) (ji_range1 (by rfl) m_range (je_var 1)) (blk_by ["faults", "count", "columns", "single", "triple", "k", "bits"] (defScope s__law_firsts) (by decide +kernel)) (fun _ _ _ _ _ => (jg_name 5 scN.nd)) (by decide) (fun _ _ _ _ _ => jts_nil) (fun _ _ _ _ _ => (je_lst (ja_cons (je_lst (ja_cons (je_var 5) ja_nil)) (ja_cons (je_ix (je_var 2) (je_var 5)) ja_nil)))))
  (jss_frz 3 (jss_cons (js_asg 4 scN.nd (je_call c__law_wider (hr.mono (by decide)) (by rfl) (ja_cons (je_call c__law_wider (hr.mono (by decide)) (by rfl) (ja_cons (je_var 3) (ja_cons (je_var 2) ja_nil))) (ja_cons (je_var 2) ja_nil))))
  (jss_one (js_ret (je_lst (ja_cons (je_call c__law_first (hr.mono (by decide)) (by rfl) (ja_cons (je_var 3) ja_nil)) (ja_cons (je_call c__law_first (hr.mono (by decide)) (by rfl) (ja_cons (je_var 4) ja_nil)) (ja_cons (je_call c__law_first (hr.mono (by decide)) (by rfl) (ja_cons (je_call c__law_wider (hr.mono (by decide)) (by rfl) (ja_cons (je_call c__law_wider (hr.mono (by decide)) (by rfl) (ja_cons (je_var 4) (ja_cons (je_var 2) ja_nil))) (ja_cons (je_var 2) ja_nil))) ja_nil)) ja_nil)))))))))))
theorem sc__law_cleared : FnScope ["faults", "row", "bits"] ["faults", "row"] (defScope s__law_cleared) := ⟨rfl, rfl, rfl, by decide +kernel, rfl, by decide +kernel, by decide +kernel⟩
theorem ok__law_cleared (Fu : Fun K "_law_cleared" "_law_cleared" s__law_cleared f fd)   : FnOk P w K mg base CX0 1 f fd ["faults", "row"] (spP K cm F__law_cleared) :=
  have scN := sc__law_cleared
  fn_ok Fu scN len__law_cleared w__law_cleared k__law_cleared fun cdv A outer s H E hr =>
  (jss_one (js_ret (je_lc [("bits", 2)] rfl scN.nd (ji_seq (je_var 0)) (blk_by ["faults", "row", "bits"] (defScope s__law_cleared) (by decide +kernel)) (fun _ _ _ _ _ => (jg_name 2 scN.nd)) (by decide) (fun _ _ _ _ _ => jts_nil) (fun _ _ _ _ _ => (je_bin p2_add (je_bin p2_add (je_slice (je_var 2) jo_none (jo_some (je_var 1))) (je_lst (ja_cons je_int ja_nil))) (je_slice (je_var 2) (jo_some (je_bin p2_add (je_var 1) je_int)) jo_none))))))
theorem sc__law_answered : FnScope ["faults", "firsts", "greatest_size", "as_tuple", "handed", "told", "due", "k", "bits"] ["faults", "firsts", "greatest_size", "as_tuple"] (defScope s__law_answered) := ⟨rfl, rfl, rfl, by decide +kernel, rfl, by decide +kernel, by decide +kernel⟩
theorem ok__law_answered (Fu : Fun K "_law_answered" "_law_answered" s__law_answered f fd) (m_isinstance : mg "isinstance" = none) (m_len : mg "len" = none) (m_list : mg "list" = none) (m_range : mg "range" = none) (m_tuple : mg "tuple" = none) (c_fewest_rows : FnC P w K mg base cm 3 "fewest_rows" F_fewest_rows) (c__law_whole : FnC P w K mg base cm 1 "_law_whole" F__law_whole) : FnOk P w K mg base CX0 4 f fd ["faults", "firsts", "greatest_size", "as_tuple"] (spP K cm F__law_answered) :=
  have scN := sc__law_answered
  fn_ok Fu scN len__law_answered w__law_answered k__law_answered fun cdv A outer s H E hr =>
  (jss_cons (js_asgLc 4 [("bits", 8)] rfl scN.nd rfl rfl (sw_true rfl rfl rfl (by decide +kernel)) (ji_seq (je_var 0)) (blk_by ["faults", "firsts", "greatest_size", "as_tuple", "handed", "told", "due", "k", "bits"] (defScope s__law_answered) (by decide +kernel)) (fun _ _ _ _ _ => (jg_name 8 scN.nd)) (by decide) (fun _ _ _ _ _ => jts_nil) (fun _ _ _ _ _ => (je_ty1 p1_list (by rfl) m_list (by decide +kernel) (je_var 8))))
  (jss_frz 4 (jss_cons (js_if (jt_cmp (p2_eq hr.units) (je_var 3) je_int)
  (jss_one (js_asg 4 scN.nd (je_ty1 p1_tuple (by rfl) m_tuple (by decide +kernel) (je_lc [("bits", 8)] rfl scN.nd (ji_seq (je_var 0)) (blk_by ["faults", "firsts", "greatest_size", "as_tuple", "handed", "told", "due", "k", "bits"] (defScope s__law_answered) (by decide +kernel)) (fun _ _ _ _ _ => (jg_name 8 scN.nd)) (by decide) (fun _ _ _ _ _ => jts_nil) (fun _ _ _ _ _ => (je_ty1 p1_tuple (by rfl) m_tuple (by decide +kernel) (je_var 8)))))))
  jss_nil)
  (jss_cons (js_asg 5 scN.nd (je_call c_fewest_rows (hr.mono (by decide)) (by rfl) (ja_cons (je_var 4) (ja_cons (je_var 2) ja_nil))))
  (jss_cons (js_asg 6 scN.nd je_non)
  (jss_cons (js_for PassesOwn.never rfl (ji_range1 (by rfl) m_range (je_b1 p1_len (by rfl) m_len (by decide +kernel) (je_var 1))) (jg_name 7 scN.nd)
  (jss_one (js_if (JW.t (jw_and (jt_isN (je_var 6)) (jw_and1 (jt_cmp p2_lt (je_bin p2_mul je_int (je_var 7)) (je_var 2)))))
  (jss_one (js_asg 6 scN.nd (je_ix (je_var 1) (je_var 7))))
  jss_nil)))
  (jss_cons (js_if (jt_cmp (p2_ne hr.units) (je_lc [("bits", 8)] rfl scN.nd (ji_seq (je_var 4)) (blk_by ["faults", "firsts", "greatest_size", "as_tuple", "handed", "told", "due", "k", "bits"] (defScope s__law_answered) (by decide +kernel)) (fun _ _ _ _ _ => (jg_name 8 scN.nd)) (by decide) (fun _ _ _ _ _ => jts_nil) (fun _ _ _ _ _ => (je_ty1 p1_list (by rfl) m_list (by decide +kernel) (je_var 8)))) (je_var 0))
  (jss_one (js_ret je_bl))
  jss_nil)
  (jss_cons (js_if (jt_isN (je_var 6))
  (jss_one (js_ret (je_isN (je_var 5))))
  jss_nil)
  (jss_cons (js_if (JW.t (jw_or (jt_not (jt_val (je_isi (T := "tuple") (by decide +kernel) (by rfl) m_isinstance (by rfl) m_tuple (by decide +kernel) (je_var 5)))) (jw_or1 (jt_cmp (p2_ne hr.units) (je_b1 p1_len (by rfl) m_len (by decide +kernel) (je_var 5)) (je_b1 p1_len (by rfl) m_len (by decide +kernel) (je_var 6))))))
  (jss_one (js_ret je_bl))
  jss_nil)
  (jss_cons (js_for PassesOwn.never rfl (ji_range1 (by rfl) m_range (je_b1 p1_len (by rfl) m_len (by decide +kernel) (je_var 6))) (jg_name 7 scN.nd)
  (jss_one (js_if (JW.t (jw_or (jt_not (jt_val (je_call c__law_whole (hr.mono (by decide)) (by rfl) (ja_cons (je_ix (je_var 5) (je_var 7)) ja_nil)))) (jw_or1 (jt_cmp (p2_ne hr.units) (je_ix (je_var 5) (je_var 7)) (je_ix (je_var 6) (je_var 7))))))
  (jss_one (js_ret je_bl))
  jss_nil)))
  (jss_one (js_ret je_bl))))))))))))
theorem sc_law : FnScope ["script", "shape", "count", "style", "inputs", "drawn", "faults", "firsts", "cleared", "clean", "k", "turned", "bits"] ["script"] (defScope s_law) := ⟨rfl, rfl, rfl, by decide +kernel, rfl, by decide +kernel, by decide +kernel⟩
theorem ok_law (Fu : Fun K "law" "law" s_law f fd) (m_int : mg "int" = none) (m_max : mg "max" = none) (m_min : mg "min" = none) (m_range : mg "range" = none) (m_sum : mg "sum" = none) (c__law_digits : FnC P w K mg base cm 1 "_law_digits" F__law_digits) (c__law_cell : FnC P w K mg base cm 1 "_law_cell" F__law_cell) (c__law_drawn_rows : FnC P w K mg base cm 1 "_law_drawn_rows" F__law_drawn_rows) (c__law_input_bits : FnC P w K mg base cm 2 "_law_input_bits" F__law_input_bits) (c__law_firsts : FnC P w K mg base cm 2 "_law_firsts" F__law_firsts) (c__law_answered : FnC P w K mg base cm 4 "_law_answered" F__law_answered) (c__law_cleared : FnC P w K mg base cm 1 "_law_cleared" F__law_cleared) : FnOk P w K mg base CX0 5 f fd ["script"] (spP K cm F_law) :=
  have scN := sc_law
  fn_ok Fu scN len_law w_law k_law fun cdv A outer s H E hr =>
  (jss_cons (js_asg 1 scN.nd (je_call c__law_digits (hr.mono (by decide)) (by rfl) (ja_cons (je_call c__law_cell (hr.mono (by decide)) (by rfl) (ja_cons (je_var 0) (ja_cons je_int ja_nil))) (ja_cons (je_lst (ja_cons je_int (ja_cons je_int (ja_cons je_int (ja_cons je_int (ja_cons je_int (ja_cons je_int (ja_cons je_int (ja_cons je_int (ja_cons je_int ja_nil)))))))))) ja_nil))))
  (jss_cons (js_asg 2 scN.nd (je_ix (je_lst (ja_cons je_int (ja_cons je_int (ja_cons je_int (ja_cons je_int (ja_cons je_int (ja_cons je_int (ja_cons je_int ja_nil)))))))) (je_ix (je_var 1) je_int)))
  (jss_cons (js_if (jt_cmp (p2_eq hr.units) (je_ix (je_var 1) je_int) je_int)
  (jss_one (js_asg 2 scN.nd (je_bin p2_add je_int (je_ix (je_var 1) je_int))))
  jss_nil)
  (jss_cons (js_asg 3 scN.nd (je_ix (je_var 1) je_int))
  (jss_cons (js_asg 4 scN.nd (je_ix (je_lst (ja_cons je_int (ja_cons je_int (ja_cons je_int (ja_cons je_int (ja_cons je_int (ja_cons je_int (ja_cons je_int ja_nil)))))))) (je_ix (je_var 1) je_int)))
  (jss_cons (js_if (JW.t (jw_or (jt_cmp (p2_eq hr.units) (je_var 3) je_int) (jw_or1 (jt_cmp (p2_eq hr.units) (je_var 3) je_int))))
  (jss_cons (js_asg 2 scN.nd (je_b2 (p2c_max rfl) (by rfl) m_max (by decide +kernel) je_int (je_var 2)))
  (jss_one (js_asg 4 scN.nd je_int)))
  jss_nil)
  (jss_cons (js_if (jt_cmp (p2_eq hr.units) (je_ix (je_var 1) je_int) je_int)
  (jss_one (js_asg 4 scN.nd (je_b2 (p2c_min rfl) (by rfl) m_min (by decide +kernel) je_int (je_bin p2_add (je_var 4) (je_ix (je_var 1) je_int)))))
  jss_nil)
  (jss_cons (js_asg 5 scN.nd (je_call c__law_drawn_rows (hr.mono (by decide)) (by rfl) (ja_cons (je_call c__law_digits (hr.mono (by decide)) (by rfl) (ja_cons (je_call c__law_cell (hr.mono (by decide)) (by rfl) (ja_cons (je_var 0) (ja_cons je_int ja_nil))) (ja_cons (je_lc [("k", 10)] rfl scN.nd (ji_range1 (by rfl) m_range (je_var 2)) (blk_by ["script", "shape", "count", "style", "inputs", "drawn", "faults", "firsts", "cleared", "clean", "k", "turned", "bits"] (defScope s_law) (by decide +kernel)) (fun _ _ _ _ _ => (jg_name 10 scN.nd)) (by decide) (fun _ _ _ _ _ => jts_nil) (fun _ _ _ _ _ => je_int)) ja_nil))) (ja_cons (je_var 2) ja_nil))))
  (jss_cons (js_asgLc 6 [("k", 10)] rfl scN.nd rfl rfl (sw_true rfl rfl rfl (by decide +kernel)) (ji_range1 (by rfl) m_range (je_var 4)) (blk_by ["script", "shape", "count", "style", "inputs", "drawn", "faults", "firsts", "cleared", "clean", "k", "turned", "bits"] (defScope s_law) (by decide +kernel)) (fun _ _ _ _ _ => (jg_name 10 scN.nd)) (by decide) (fun _ _ _ _ _ => jts_nil) (fun _ _ _ _ _ => (je_call c__law_input_bits (hr.mono (by decide)) (by rfl) (ja_cons (je_call c__law_cell (hr.mono (by decide)) (by rfl) (ja_cons (je_var 0) (ja_cons (je_bin p2_add je_int (je_var 10)) ja_nil))) (ja_cons (je_var 10) (ja_cons (je_var 3) (ja_cons (je_var 5) ja_nil)))))))
  (jss_cons (js_if (jt_cmp (p2_eq hr.units) (je_var 3) je_int)
  (jss_one (js_put 6 (je_lc [("k", 10)] rfl scN.nd (ji_range1 (by rfl) m_range (je_var 2)) (blk_by ["script", "shape", "count", "style", "inputs", "drawn", "faults", "firsts", "cleared", "clean", "k", "turned", "bits"] (defScope s_law) (by decide +kernel)) (fun _ _ _ _ _ => (jg_name 10 scN.nd)) (by decide) (fun _ _ _ _ _ => jts_nil) (fun _ _ _ _ _ => je_int)) (je_bin p2_mod (je_ty1 p1_int (by rfl) m_int (by decide +kernel) (je_ix (je_var 1) je_int)) (je_var 4))))
  jss_nil)
  (jss_frz 6 (jss_cons (js_asg 7 scN.nd (je_call c__law_firsts (hr.mono (by decide)) (by rfl) (ja_cons (je_var 6) (ja_cons (je_var 2) ja_nil))))
  (jss_frz 6 (jss_cons (js_if (jt_not (jt_val (je_call c__law_answered (hr.mono (by decide)) (by rfl) (ja_cons (je_var 6) (ja_cons (je_var 7) (ja_cons je_int (ja_cons (je_ix (je_var 1) je_int) ja_nil)))))))
  (jss_one (js_ret je_bl))
  jss_nil)
  (jss_frz 6 (jss_cons (js_asg 8 scN.nd (je_call c__law_cleared (hr.mono (by decide)) (by rfl) (ja_cons (je_var 6) (ja_cons (je_ix (je_var 5) (je_neg je_int)) ja_nil))))
  (jss_cons (js_asgLc 9 [("k", 10)] rfl scN.nd rfl rfl (sw_true rfl rfl rfl (by decide +kernel)) (ji_range1 (by rfl) m_range (je_var 2)) (blk_by ["script", "shape", "count", "style", "inputs", "drawn", "faults", "firsts", "cleared", "clean", "k", "turned", "bits"] (defScope s_law) (by decide +kernel)) (fun _ _ _ _ _ => (jg_name 10 scN.nd)) (by decide) (fun _ _ _ _ _ => (jts_one (jt_cmp (p2_eq hr.units) (je_b1 (p1_sum rfl) (by rfl) m_sum (by decide +kernel) (je_lc [("bits", 12)] rfl scN.nd (ji_seq (je_var 8)) (blk_by ["script", "shape", "count", "style", "inputs", "drawn", "faults", "firsts", "cleared", "clean", "k", "turned", "bits"] (relS _ (defScope s_law)) (by decide +kernel)) (fun _ _ _ _ _ => (jg_name 12 scN.nd)) (by decide) (fun _ _ _ _ _ => jts_nil) (fun _ _ _ _ _ => (je_ix (je_var 12) (je_var 10))))) je_int))) (fun _ _ _ _ _ => (je_var 10)))
  (jss_frz 9 (jss_cons (js_if (jt_not (jt_val (je_call c__law_answered (hr.mono (by decide)) (by rfl) (ja_cons (je_var 8) (ja_cons (je_lst (ja_cons (je_lst (ja_cons (je_ix (je_var 9) je_int) ja_nil)) ja_nil)) (ja_cons (je_bin p2_add je_int (je_ix (je_var 1) je_int)) (ja_cons je_int ja_nil)))))))
  (jss_one (js_ret je_bl))
  jss_nil)
  (jss_cons (js_if (jt_cmp p2_gt (je_var 2) je_int)
  (jss_frz 6 (jss_one (js_ret (je_call c__law_answered (hr.mono (by decide)) (by rfl) (ja_cons (je_var 6) (ja_cons (je_var 7) (ja_cons (je_bin p2_add je_int (je_ix (je_var 1) je_int)) (ja_cons (je_bin p2_sub je_int (je_ix (je_var 1) je_int)) ja_nil))))))))
  jss_nil)
  (jss_cons (js_for PassesOwn.never rfl (ji_range2 (by rfl) m_range je_int je_int) (jg_name 10 scN.nd)
  (jss_frz 6 (jss_one (js_if (jt_not (jt_val (je_call c__law_answered (hr.mono (by decide)) (by rfl) (ja_cons (je_var 6) (ja_cons (je_var 7) (ja_cons (je_var 10) (ja_cons (je_bin p2_mod (je_ty1 p1_int (by rfl) m_int (by decide +kernel) (je_bin p2_add (je_var 10) (je_ix (je_var 1) je_int))) je_int) ja_nil)))))))
  (jss_one (js_ret je_bl))
  jss_nil))))
  (jss_cons (js_asgLc 11 [("bits", 12)] rfl scN.nd rfl rfl (sw_true rfl rfl rfl (by decide +kernel)) (ji_seq (je_var 6)) (blk_by ["script", "shape", "count", "style", "inputs", "drawn", "faults", "firsts", "cleared", "clean", "k", "turned", "bits"] (defScope s_law) (by decide +kernel)) (fun _ _ _ _ _ => (jg_name 12 scN.nd)) (by decide) (fun _ _ _ _ _ => jts_nil) (fun _ _ _ _ _ => (je_lc [("k", 10)] rfl scN.nd (ji_range1 (by rfl) m_range (je_var 2)) (blk_by ["script", "shape", "count", "style", "inputs", "drawn", "faults", "firsts", "cleared", "clean", "k", "turned", "bits"] (relS _ (defScope s_law)) (by decide +kernel)) (fun _ _ _ _ _ => (jg_name 10 scN.nd)) (by decide) (fun _ _ _ _ _ => jts_nil) (fun _ _ _ _ _ => (je_ix (je_var 12) (je_bin p2_sub (je_bin p2_sub (je_var 2) je_int) (je_var 10)))))))
  (jss_frz 11 (jss_cons (js_if (jt_not (jt_val (je_call c__law_answered (hr.mono (by decide)) (by rfl) (ja_cons (je_var 11) (ja_cons (je_call c__law_firsts (hr.mono (by decide)) (by rfl) (ja_cons (je_var 11) (ja_cons (je_var 2) ja_nil))) (ja_cons je_int (ja_cons (je_bin p2_sub je_int (je_ix (je_var 1) je_int)) ja_nil)))))))
  (jss_one (js_ret je_bl))
  jss_nil)
  (jss_frz 6 (jss_one (js_ret (je_call c__law_answered (hr.mono (by decide)) (by rfl) (ja_cons (je_var 6) (ja_cons (je_var 7) (ja_cons je_int (ja_cons (je_ix (je_var 1) je_int) ja_nil))))))))))))))))))))))))))))))))
end
theorem all_mk {l : PySem.W.OpenLaw} {w : World} {K : PySem.W.Frag} {h : Heap} {mg : Str → Option Value} {fa : Addr} (X : K.In h) (G : h.Ns mainGlobals mg) (hfa : mg "law" = some (.ref fa))
  {f1 f2 f3 f4 f5 f6 f7 f8 f9 f10 f11 f12 f13 f14 f15 : Addr} {od1 an1 od2 an2 od3 an3 od4 an4 od5 an5 od6 an6 od7 an7 od8 an8 od9 an9 od10 an10 od11 an11 od12 an12 od13 an13 od14 an14 od15 an15 : Option Addr} {sl1 sl2 sl3 sl4 sl5 sl6 sl7 sl8 sl9 sl10 sl11 sl12 sl13 sl14 sl15 : Array (Option Value)} {oc1 kV1 dc1 pm1 cd1 ct1 oc2 kV2 dc2 pm2 cd2 ct2 oc3 kV3 dc3 pm3 cd3 ct3 oc4 kV4 dc4 pm4 cd4 ct4 oc5 kV5 dc5 pm5 cd5 ct5 oc6 kV6 dc6 pm6 cd6 ct6 oc7 kV7 dc7 pm7 cd7 ct7 oc8 kV8 dc8 pm8 cd8 ct8 oc9 kV9 dc9 pm9 cd9 ct9 oc10 kV10 dc10 pm10 cd10 ct10 oc11 kV11 dc11 pm11 cd11 ct11 oc12 kV12 dc12 pm12 cd12 ct12 oc13 kV13 dc13 pm13 cd13 ct13 oc14 kV14 dc14 pm14 cd14 ct14 oc15 kV15 dc15 pm15 cd15 ct15 : Value}
  (a1 : PySem.W.nsIn K mainGlobals "first_fault" = some (some (.ref f1))) (l1 : K.lookup f1 = some ⟨oc1, od1, .func (PySem.W.fnOf "first_fault" "first_fault" (defArgs s_first_fault) (defBody s_first_fault) (defScope s_first_fault) .none kV1 dc1 pm1 an1 cd1 ct1), sl1⟩) (c1 : PySem.W.codeIn K cd1 "first_fault" = true) (k1 : PySem.W.keepIn K (.ref f1) = true)
  (a2 : PySem.W.nsIn K mainGlobals "next_choice" = some (some (.ref f2))) (l2 : K.lookup f2 = some ⟨oc2, od2, .func (PySem.W.fnOf "next_choice" "next_choice" (defArgs s_next_choice) (defBody s_next_choice) (defScope s_next_choice) .none kV2 dc2 pm2 an2 cd2 ct2), sl2⟩) (c2 : PySem.W.codeIn K cd2 "next_choice" = true) (k2 : PySem.W.keepIn K (.ref f2) = true)
  (a3 : PySem.W.nsIn K mainGlobals "first_choice" = some (some (.ref f3))) (l3 : K.lookup f3 = some ⟨oc3, od3, .func (PySem.W.fnOf "first_choice" "first_choice" (defArgs s_first_choice) (defBody s_first_choice) (defScope s_first_choice) .none kV3 dc3 pm3 an3 cd3 ct3), sl3⟩) (c3 : PySem.W.codeIn K cd3 "first_choice" = true) (k3 : PySem.W.keepIn K (.ref f3) = true)
  (a4 : PySem.W.nsIn K mainGlobals "fewest_rows" = some (some (.ref f4))) (l4 : K.lookup f4 = some ⟨oc4, od4, .func (PySem.W.fnOf "fewest_rows" "fewest_rows" (defArgs s_fewest_rows) (defBody s_fewest_rows) (defScope s_fewest_rows) .none kV4 dc4 pm4 an4 cd4 ct4), sl4⟩) (c4 : PySem.W.codeIn K cd4 "fewest_rows" = true) (k4 : PySem.W.keepIn K (.ref f4) = true)
  (a5 : PySem.W.nsIn K mainGlobals "_law_whole" = some (some (.ref f5))) (l5 : K.lookup f5 = some ⟨oc5, od5, .func (PySem.W.fnOf "_law_whole" "_law_whole" (defArgs s__law_whole) (defBody s__law_whole) (defScope s__law_whole) .none kV5 dc5 pm5 an5 cd5 ct5), sl5⟩) (c5 : PySem.W.codeIn K cd5 "_law_whole" = true) (k5 : PySem.W.keepIn K (.ref f5) = true)
  (a6 : PySem.W.nsIn K mainGlobals "_law_cell" = some (some (.ref f6))) (l6 : K.lookup f6 = some ⟨oc6, od6, .func (PySem.W.fnOf "_law_cell" "_law_cell" (defArgs s__law_cell) (defBody s__law_cell) (defScope s__law_cell) .none kV6 dc6 pm6 an6 cd6 ct6), sl6⟩) (c6 : PySem.W.codeIn K cd6 "_law_cell" = true) (k6 : PySem.W.keepIn K (.ref f6) = true)
  (a7 : PySem.W.nsIn K mainGlobals "_law_digits" = some (some (.ref f7))) (l7 : K.lookup f7 = some ⟨oc7, od7, .func (PySem.W.fnOf "_law_digits" "_law_digits" (defArgs s__law_digits) (defBody s__law_digits) (defScope s__law_digits) .none kV7 dc7 pm7 an7 cd7 ct7), sl7⟩) (c7 : PySem.W.codeIn K cd7 "_law_digits" = true) (k7 : PySem.W.keepIn K (.ref f7) = true)
  (a8 : PySem.W.nsIn K mainGlobals "_law_drawn_rows" = some (some (.ref f8))) (l8 : K.lookup f8 = some ⟨oc8, od8, .func (PySem.W.fnOf "_law_drawn_rows" "_law_drawn_rows" (defArgs s__law_drawn_rows) (defBody s__law_drawn_rows) (defScope s__law_drawn_rows) .none kV8 dc8 pm8 an8 cd8 ct8), sl8⟩) (c8 : PySem.W.codeIn K cd8 "_law_drawn_rows" = true) (k8 : PySem.W.keepIn K (.ref f8) = true)
  (a9 : PySem.W.nsIn K mainGlobals "_law_input_bits" = some (some (.ref f9))) (l9 : K.lookup f9 = some ⟨oc9, od9, .func (PySem.W.fnOf "_law_input_bits" "_law_input_bits" (defArgs s__law_input_bits) (defBody s__law_input_bits) (defScope s__law_input_bits) .none kV9 dc9 pm9 an9 cd9 ct9), sl9⟩) (c9 : PySem.W.codeIn K cd9 "_law_input_bits" = true) (k9 : PySem.W.keepIn K (.ref f9) = true)
  (a10 : PySem.W.nsIn K mainGlobals "_law_wider" = some (some (.ref f10))) (l10 : K.lookup f10 = some ⟨oc10, od10, .func (PySem.W.fnOf "_law_wider" "_law_wider" (defArgs s__law_wider) (defBody s__law_wider) (defScope s__law_wider) .none kV10 dc10 pm10 an10 cd10 ct10), sl10⟩) (c10 : PySem.W.codeIn K cd10 "_law_wider" = true) (k10 : PySem.W.keepIn K (.ref f10) = true)
  (a11 : PySem.W.nsIn K mainGlobals "_law_first" = some (some (.ref f11))) (l11 : K.lookup f11 = some ⟨oc11, od11, .func (PySem.W.fnOf "_law_first" "_law_first" (defArgs s__law_first) (defBody s__law_first) (defScope s__law_first) .none kV11 dc11 pm11 an11 cd11 ct11), sl11⟩) (c11 : PySem.W.codeIn K cd11 "_law_first" = true) (k11 : PySem.W.keepIn K (.ref f11) = true)
  (a12 : PySem.W.nsIn K mainGlobals "_law_firsts" = some (some (.ref f12))) (l12 : K.lookup f12 = some ⟨oc12, od12, .func (PySem.W.fnOf "_law_firsts" "_law_firsts" (defArgs s__law_firsts) (defBody s__law_firsts) (defScope s__law_firsts) .none kV12 dc12 pm12 an12 cd12 ct12), sl12⟩) (c12 : PySem.W.codeIn K cd12 "_law_firsts" = true) (k12 : PySem.W.keepIn K (.ref f12) = true)
  (a13 : PySem.W.nsIn K mainGlobals "_law_cleared" = some (some (.ref f13))) (l13 : K.lookup f13 = some ⟨oc13, od13, .func (PySem.W.fnOf "_law_cleared" "_law_cleared" (defArgs s__law_cleared) (defBody s__law_cleared) (defScope s__law_cleared) .none kV13 dc13 pm13 an13 cd13 ct13), sl13⟩) (c13 : PySem.W.codeIn K cd13 "_law_cleared" = true) (k13 : PySem.W.keepIn K (.ref f13) = true)
  (a14 : PySem.W.nsIn K mainGlobals "_law_answered" = some (some (.ref f14))) (l14 : K.lookup f14 = some ⟨oc14, od14, .func (PySem.W.fnOf "_law_answered" "_law_answered" (defArgs s__law_answered) (defBody s__law_answered) (defScope s__law_answered) .none kV14 dc14 pm14 an14 cd14 ct14), sl14⟩) (c14 : PySem.W.codeIn K cd14 "_law_answered" = true) (k14 : PySem.W.keepIn K (.ref f14) = true)
  (a15 : PySem.W.nsIn K mainGlobals "law" = some (some (.ref f15))) (l15 : K.lookup f15 = some ⟨oc15, od15, .func (PySem.W.fnOf "law" "law" (defArgs s_law) (defBody s_law) (defScope s_law) .none kV15 dc15 pm15 an15 cd15 ct15), sl15⟩) (c15 : PySem.W.codeIn K cd15 "law" = true) (k15 : PySem.W.keepIn K (.ref f15) = true)
  (z_bool : PySem.W.nsIn K mainGlobals "bool" = some none)
  (z_int : PySem.W.nsIn K mainGlobals "int" = some none)
  (z_isinstance : PySem.W.nsIn K mainGlobals "isinstance" = some none)
  (z_len : PySem.W.nsIn K mainGlobals "len" = some none)
  (z_list : PySem.W.nsIn K mainGlobals "list" = some none)
  (z_max : PySem.W.nsIn K mainGlobals "max" = some none)
  (z_min : PySem.W.nsIn K mainGlobals "min" = some none)
  (z_range : PySem.W.nsIn K mainGlobals "range" = some none)
  (z_sum : PySem.W.nsIn K mainGlobals "sum" = some none)
  (z_tuple : PySem.W.nsIn K mainGlobals "tuple" = some none)
  : ∃ fd : FuncData, (∀ (s : Shared) (v : Value), BindsTo s fd ⟨[v], []⟩ [("script", v)]) ∧ ∀ base : Heap, K.In base → base.Ns mainGlobals mg → FnOk l.prog w K mg base CX0 5 fa fd ["script"] (spP K (fun _ => 0) F_law) := by
  have e := hfa.symm.trans (PySem.W.mg_of X G a15)
  cases e
  have m_bool := PySem.W.mg_none_of X G z_bool
  have m_int := PySem.W.mg_none_of X G z_int
  have m_isinstance := PySem.W.mg_none_of X G z_isinstance
  have m_len := PySem.W.mg_none_of X G z_len
  have m_list := PySem.W.mg_none_of X G z_list
  have m_max := PySem.W.mg_none_of X G z_max
  have m_min := PySem.W.mg_none_of X G z_min
  have m_range := PySem.W.mg_none_of X G z_range
  have m_sum := PySem.W.mg_none_of X G z_sum
  have m_tuple := PySem.W.mg_none_of X G z_tuple
  have F1 := fun_mk (st := s_first_fault) l1 c1 k1
  have b1 := F1.binds (ps := ["faults", "rows"]) fun _ _ _ _ _ _ us hl => match us, hl with | [_, _], _ => rfl
  have F2 := fun_mk (st := s_next_choice) l2 c2 k2
  have b2 := F2.binds (ps := ["indexes", "count"]) fun _ _ _ _ _ _ us hl => match us, hl with | [_, _], _ => rfl
  have F3 := fun_mk (st := s_first_choice) l3 c3 k3
  have b3 := F3.binds (ps := ["faults", "size"]) fun _ _ _ _ _ _ us hl => match us, hl with | [_, _], _ => rfl
  have F4 := fun_mk (st := s_fewest_rows) l4 c4 k4
  have b4 := F4.binds (ps := ["faults", "most"]) fun _ _ _ _ _ _ us hl => match us, hl with | [_, _], _ => rfl
  have F5 := fun_mk (st := s__law_whole) l5 c5 k5
  have b5 := F5.binds (ps := ["value"]) fun _ _ _ _ _ _ us hl => match us, hl with | [_], _ => rfl
  have F6 := fun_mk (st := s__law_cell) l6 c6 k6
  have b6 := F6.binds (ps := ["script", "k"]) fun _ _ _ _ _ _ us hl => match us, hl with | [_, _], _ => rfl
  have F7 := fun_mk (st := s__law_digits) l7 c7 k7
  have b7 := F7.binds (ps := ["cell", "sizes"]) fun _ _ _ _ _ _ us hl => match us, hl with | [_, _], _ => rfl
  have F8 := fun_mk (st := s__law_drawn_rows) l8 c8 k8
  have b8 := F8.binds (ps := ["digits", "count"]) fun _ _ _ _ _ _ us hl => match us, hl with | [_, _], _ => rfl
  have F9 := fun_mk (st := s__law_input_bits) l9 c9 k9
  have b9 := F9.binds (ps := ["cell", "i", "style", "drawn"]) fun _ _ _ _ _ _ us hl => match us, hl with | [_, _, _, _], _ => rfl
  have F10 := fun_mk (st := s__law_wider) l10 c10 k10
  have b10 := F10.binds (ps := ["entries", "columns"]) fun _ _ _ _ _ _ us hl => match us, hl with | [_, _], _ => rfl
  have F11 := fun_mk (st := s__law_first) l11 c11 k11
  have b11 := F11.binds (ps := ["entries"]) fun _ _ _ _ _ _ us hl => match us, hl with | [_], _ => rfl
  have F12 := fun_mk (st := s__law_firsts) l12 c12 k12
  have b12 := F12.binds (ps := ["faults", "count"]) fun _ _ _ _ _ _ us hl => match us, hl with | [_, _], _ => rfl
  have F13 := fun_mk (st := s__law_cleared) l13 c13 k13
  have b13 := F13.binds (ps := ["faults", "row"]) fun _ _ _ _ _ _ us hl => match us, hl with | [_, _], _ => rfl
  have F14 := fun_mk (st := s__law_answered) l14 c14 k14
  have b14 := F14.binds (ps := ["faults", "firsts", "greatest_size", "as_tuple"]) fun _ _ _ _ _ _ us hl => match us, hl with | [_, _, _, _], _ => rfl
  have F15 := fun_mk (st := s_law) l15 c15 k15
  refine ⟨PySem.W.fnOf "law" "law" (defArgs s_law) (defBody s_law) (defScope s_law) .none kV15 dc15 pm15 an15 cd15 ct15, fun s v => .of_eq rfl, fun base _ _ => ?_⟩
  have c_first_fault : FnC l.prog w K mg base (fun _ => 0) 1 "first_fault" F_first_fault := fnC_mk F1 (PySem.W.mg_of X G a1) b1 (ok_first_fault F1 m_len m_range m_sum )
  have c_next_choice : FnC l.prog w K mg base (fun _ => 0) 1 "next_choice" F_next_choice := fnC_mk F2 (PySem.W.mg_of X G a2) b2 (ok_next_choice F2 m_len m_range m_tuple )
  have c_first_choice : FnC l.prog w K mg base (fun _ => 0) 2 "first_choice" F_first_choice := fnC_mk F3 (PySem.W.mg_of X G a3) b3 (ok_first_choice F3 m_len m_range m_tuple c_first_fault c_next_choice)
  have c_fewest_rows : FnC l.prog w K mg base (fun _ => 0) 3 "fewest_rows" F_fewest_rows := fnC_mk F4 (PySem.W.mg_of X G a4) b4 (ok_fewest_rows F4 m_range c_first_choice)
  have c__law_whole : FnC l.prog w K mg base (fun _ => 0) 1 "_law_whole" F__law_whole := fnC_mk F5 (PySem.W.mg_of X G a5) b5 (ok__law_whole F5 m_bool m_int m_isinstance )
  have c__law_cell : FnC l.prog w K mg base (fun _ => 0) 1 "_law_cell" F__law_cell := fnC_mk F6 (PySem.W.mg_of X G a6) b6 (ok__law_cell F6 m_int m_len )
  have c__law_digits : FnC l.prog w K mg base (fun _ => 0) 1 "_law_digits" F__law_digits := fnC_mk F7 (PySem.W.mg_of X G a7) b7 (ok__law_digits F7 m_int m_len m_range )
  have c__law_drawn_rows : FnC l.prog w K mg base (fun _ => 0) 1 "_law_drawn_rows" F__law_drawn_rows := fnC_mk F8 (PySem.W.mg_of X G a8) b8 (ok__law_drawn_rows F8 m_int m_len m_range )
  have c__law_input_bits : FnC l.prog w K mg base (fun _ => 0) 2 "_law_input_bits" F__law_input_bits := fnC_mk F9 (PySem.W.mg_of X G a9) b9 (ok__law_input_bits F9 m_int m_len m_min m_range c__law_digits)
  have c__law_wider : FnC l.prog w K mg base (fun _ => 0) 1 "_law_wider" F__law_wider := fnC_mk F10 (PySem.W.mg_of X G a10) b10 (ok__law_wider F10 m_len m_range )
  have c__law_first : FnC l.prog w K mg base (fun _ => 0) 1 "_law_first" F__law_first := fnC_mk F11 (PySem.W.mg_of X G a11) b11 (ok__law_first F11 m_len m_max )
  have c__law_firsts : FnC l.prog w K mg base (fun _ => 0) 2 "_law_firsts" F__law_firsts := fnC_mk F12 (PySem.W.mg_of X G a12) b12 (ok__law_firsts F12 m_range c__law_wider c__law_first)
  have c__law_cleared : FnC l.prog w K mg base (fun _ => 0) 1 "_law_cleared" F__law_cleared := fnC_mk F13 (PySem.W.mg_of X G a13) b13 (ok__law_cleared F13  )
  have c__law_answered : FnC l.prog w K mg base (fun _ => 0) 4 "_law_answered" F__law_answered := fnC_mk F14 (PySem.W.mg_of X G a14) b14 (ok__law_answered F14 m_isinstance m_len m_list m_range m_tuple c_fewest_rows c__law_whole)
  exact ok_law F15 m_int m_max m_min m_range m_sum c__law_digits c__law_cell c__law_drawn_rows c__law_input_bits c__law_firsts c__law_answered c__law_cleared
end Pyl
open PySem PySem.W PyProof.Rows
set_option maxHeartbeats 0 in
theorem PySem.Challenge.cw_fooledortold_k72_fewest_rows_holds : PySem.Challenge.rw_fooledortold_k72_fewest_rows.Holds := by
  w_on; o_law; k_head; (case hw => w_witness2)
  k_fill
  refine L2.walk_of (l := PySem.Challenge.rw_fooledortold_k72_fewest_rows) (n := 63) (k := 5) (x := "script") (CX := fun _ => L2.CX0) (sp := fun w => Pyl.spP _ (fun _ => 0) Pyl.F_law) rfl (by decide) rfl ⟨rfl, by decide, by decide⟩ (fun w h Y => PySem.W.kIn_of Y) ?F (fun _ _ a ns hl _ hS => Pyl.law_sp Pyl.law_true hl hS) (fun _ _ _ _ _ h => h)
  case F =>
    intro w mg fa h KX G hmg
    refine' Pyl.all_mk KX G hmg ?a1 ?l1 ?c1 ?k1 ?a2 ?l2 ?c2 ?k2 ?a3 ?l3 ?c3 ?k3 ?a4 ?l4 ?c4 ?k4 ?a5 ?l5 ?c5 ?k5 ?a6 ?l6 ?c6 ?k6 ?a7 ?l7 ?c7 ?k7 ?a8 ?l8 ?c8 ?k8 ?a9 ?l9 ?c9 ?k9 ?a10 ?l10 ?c10 ?k10 ?a11 ?l11 ?c11 ?k11 ?a12 ?l12 ?c12 ?k12 ?a13 ?l13 ?c13 ?k13 ?a14 ?l14 ?c14 ?k14 ?a15 ?l15 ?c15 ?k15 ?z_bool ?z_int ?z_isinstance ?z_len ?z_list ?z_max ?z_min ?z_range ?z_sum ?z_tuple
    (case a1 => k_is)
    (case l1 => k_is)
    (case c1 => k_is)
    (case k1 => k_is)
    (case a2 => k_is)
    (case l2 => k_is)
    (case c2 => k_is)
    (case k2 => k_is)
    (case a3 => k_is)
    (case l3 => k_is)
    (case c3 => k_is)
    (case k3 => k_is)
    (case a4 => k_is)
    (case l4 => k_is)
    (case c4 => k_is)
    (case k4 => k_is)
    (case a5 => k_is)
    (case l5 => k_is)
    (case c5 => k_is)
    (case k5 => k_is)
    (case a6 => k_is)
    (case l6 => k_is)
    (case c6 => k_is)
    (case k6 => k_is)
    (case a7 => k_is)
    (case l7 => k_is)
    (case c7 => k_is)
    (case k7 => k_is)
    (case a8 => k_is)
    (case l8 => k_is)
    (case c8 => k_is)
    (case k8 => k_is)
    (case a9 => k_is)
    (case l9 => k_is)
    (case c9 => k_is)
    (case k9 => k_is)
    (case a10 => k_is)
    (case l10 => k_is)
    (case c10 => k_is)
    (case k10 => k_is)
    (case a11 => k_is)
    (case l11 => k_is)
    (case c11 => k_is)
    (case k11 => k_is)
    (case a12 => k_is)
    (case l12 => k_is)
    (case c12 => k_is)
    (case k12 => k_is)
    (case a13 => k_is)
    (case l13 => k_is)
    (case c13 => k_is)
    (case k13 => k_is)
    (case a14 => k_is)
    (case l14 => k_is)
    (case c14 => k_is)
    (case k14 => k_is)
    (case a15 => k_is)
    (case l15 => k_is)
    (case c15 => k_is)
    (case k15 => k_is)
    (case z_bool => k_is)
    (case z_int => k_is)
    (case z_isinstance => k_is)
    (case z_len => k_is)
    (case z_list => k_is)
    (case z_max => k_is)
    (case z_min => k_is)
    (case z_range => k_is)
    (case z_sum => k_is)
    (case z_tuple => k_is)
end
