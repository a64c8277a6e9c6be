import PyProof.Rows.All
import Wide.All
import OpenK.AllK
import Wide.FinOn
import HandS.ForMost
import HandS.Wide
import HandS.Deep
import HandS.Style
import HandS.IsInst
import PyProof.ReprRoads
import HandS.Ends
import HandS.Dict
import HandS.More
import PyProof.ReprLen
import PySem.Challenge.RW_cutandlaid_k14_groups
set_option Elab.async false
set_option linter.all false
set_option maxRecDepth 100000
set_option maxHeartbeats 4000000
set_option autoImplicit false
/-! Dn: a reading of defs by plain data: what stands in a def's names is told as trees of data, and an expression, a statement, a body is a plain function of them. -/
namespace Dn
open PySem PySem.Spec PyProof.Rows L2
abbrev D := PyData

/-! ### 1. the plain functions -/
/-- what an object of a name's own holds: a list, a dict by ints and texts, a dict by tuples of them -/
inductive Cont where
  | lst (ds : List D)
  | dk (kvs : List (Key × D))
  | dt (kvs : List (List Key × D))
inductive Slot where
  | un
  | val (d : D)
  | ow (c : Cont)
abbrev Slot.own (ds : List D) : Slot := .ow (.lst ds)
abbrev Env := List Slot
abbrev GE := Env → Option D
abbrev GA := Env → Option (List D)
abbrev GB := Env → Option Bool
inductive Out where
  | nx (e : Env)
  | ret (d : D)
  | bk (e : Env)
  | ct (e : Env)
abbrev GS := Env → Option Out

def look : Option Slot → Option D
  | some (.val d) => some d
  | _ => none
def lookB : Option Slot → Option D
  | some (.val d) => some d
  | some (.ow (.lst ds)) => some (.list ds)
  | _ => none
def gVar (i : Nat) : GE := fun env => look env[i]?
def gVarB (i : Nat) : GE := fun env => lookB env[i]?
def gC (d : D) : GE := fun _ => some d
def g1 (f : D → Option D) (a : GE) : GE := fun env => (a env).bind f
def g2 (f : D → D → Option D) (a b : GE) : GE := fun env => (a env).bind fun x => (b env).bind fun y => f x y
def aNil : GA := fun _ => some []
def aCons (a : GE) (r : GA) : GA := fun env => (a env).bind fun x => (r env).bind fun xs => some (x :: xs)
def gArgs (f : List D → Option D) (r : GA) : GE := fun env => (r env).bind f
def vTup (ds : List D) : Option D := some (.tuple ds)
def vLst (ds : List D) : Option D := some (.list ds)

def lim : Nat := 16777216
theorem lim_eq : lim = sizeLine := by rw [sizeLine_eq]; rfl
def mulOk (x y : Int) : Bool := decide (x.natAbs < 2 ^ 64) || decide (y.natAbs < 2 ^ 64) || decide (x.natAbs.log2 + y.natAbs.log2 < 100000000)
def b2z (b : Bool) : Int := if b then 1 else 0
def vAdd : D → D → Option D
  | .int x, .int y => some (.int (x + y))
  | .list x, .list y => if x.length + y.length ≤ lim then some (.list (x ++ y)) else none
  | .str x, .str y => if x.length + y.length ≤ lim then some (.str (x ++ y)) else none
  | _, _ => none
def vIAdd : D → D → Option D
  | .int x, .int y => some (.int (x + y))
  | _, _ => none
def vSub : D → D → Option D
  | .int x, .int y => some (.int (x - y))
  | .bool x, .bool y => some (.int (b2z x - b2z y))
  | _, _ => none
def vMul : D → D → Option D
  | .int x, .int y => if mulOk x y then some (.int (x * y)) else none
  | _, _ => none
def divOk (y : Int) : Bool := decide (y ≠ 0) && decide (y.natAbs.log2 < 9000)
def vFdiv : D → D → Option D
  | .int x, .int y => if divOk y then some (.int (x.fdiv y)) else none
  | _, _ => none
def vMod : D → D → Option D
  | .int x, .int y => if y = 0 then none else some (.int (x.fmod y))
  | _, _ => none
def vPow : D → D → Option D
  | .int x, .int y => if 0 ≤ y ∧ y ≤ 1000000 ∧ x.natAbs < 2 ^ 64 then some (.int (x ^ y.toNat)) else none
  | _, _ => none
def vNeg : D → Option D
  | .int x => some (.int (-x))
  | _ => none
def vCmp (p : Int → Int → Bool) : D → D → Option D
  | .int x, .int y => some (.bool (p x y))
  | _, _ => none
def vLt (x y : D) : Option D := vCmp (fun i j => decide (i < j)) x y
def vLe (x y : D) : Option D := vCmp (fun i j => decide (i ≤ j)) x y
def vGt (x y : D) : Option D := vCmp (fun i j => decide (j < i)) x y
def vGe (x y : D) : Option D := vCmp (fun i j => decide (j ≤ i)) x y
def vEqG (x y : D) : Option D := if SeqAt.shaped x && SeqAt.shaped y then some (.bool (PyData.eqv x y)) else none
def vEq : D → D → Option D
  | .str a, .str b => some (.bool (decide (a = b)))
  | .int a, .int b => some (.bool (decide (a = b)))
  | x, y => vEqG x y
def vNeG (x y : D) : Option D := if SeqAt.shaped x && SeqAt.shaped y then some (.bool (!PyData.eqv x y)) else none
def vNe : D → D → Option D
  | .str a, .str b => some (.bool (!decide (a = b)))
  | .int a, .int b => some (.bool (!decide (a = b)))
  | x, y => vNeG x y
def isNone : D → Bool
  | .none => true
  | _ => false
def vIsN (x : D) : Option D := some (.bool (isNone x))
def vNotN (x : D) : Option D := some (.bool (!isNone x))
def vTruth : D → Option Bool
  | .none => some false
  | .bool b => some b
  | .int i => some (i != 0)
  | .str y => if y.length ≤ lim then some ((y.length : Int) != 0) else none
  | .list ds => some (!ds.isEmpty)
  | .tuple ds => some (!ds.isEmpty)
  | _ => none
def asBool : D → Option Bool
  | .bool b => some b
  | _ => none
/-- an index of any sign -/
def atD (xs : List D) (i : Int) : Option D :=
  if i < 0 then (if 0 ≤ i + xs.length then xs[(i + xs.length).toNat]? else none) else xs[i.toNat]?
def vIx : D → D → Option D
  | .list xs, .int i => atD xs i
  | .tuple xs, .int i => atD xs i
  | _, _ => none
def vLen : D → Option D
  | .list xs => some (.int xs.length)
  | .tuple xs => some (.int xs.length)
  | .str y => if y.length ≤ lim then some (.int y.length) else none
  | _ => none
def vAbs : D → Option D
  | .int i => some (.int (if i < 0 then -i else i))
  | _ => none
def vToI : D → Option D
  | .int i => some (.int i)
  | .bool b => some (.int (b2z b))
  | _ => none
def l1 (f : D → Option D) : List D → Option D
  | [x] => f x
  | _ => none
def l2 (f : D → D → Option D) : List D → Option D
  | [x, y] => f x y
  | _ => none
def vMin2 : D → D → Option D
  | .int i, .int j => some (.int (if j < i then j else i))
  | _, _ => none
def vMax2 : D → D → Option D
  | .int i, .int j => some (.int (if j > i then j else i))
  | _, _ => none

def gTest (a : GE) : GB := fun env => (a env).bind asBool
def gTruth (a : GE) : GB := fun env => (a env).bind vTruth
def gAnd (a b : GB) : GB := fun env => (a env).bind fun c => if c = true then b env else some false
def gOr (a b : GB) : GB := fun env => (a env).bind fun c => if c = true then some true else b env
def gNot (a : GB) : GB := fun env => (a env).bind fun c => some (!c)
def gAndV (a b : GE) : GE := fun env => (a env).bind fun x => (asBool x).bind fun c => if c = true then b env else some (.bool false)
def gOrV (a b : GE) : GE := fun env => (a env).bind fun x => (asBool x).bind fun c => if c = true then some (.bool true) else b env
def gNotV (a : GE) : GE := fun env => (a env).bind fun x => (asBool x).bind fun c => some (.bool (!c))
def gIfE (c : GB) (a b : GE) : GE := fun env => (c env).bind fun k => if k = true then a env else b env

def sNx : GS := fun env => some (.nx env)
def thenS (b : GS) : Out → Option Out
  | .nx e => b e
  | .ret d => some (.ret d)
  | .bk e => some (.bk e)
  | .ct e => some (.ct e)
def sSeq (a b : GS) : GS := fun env => (a env).bind (thenS b)
def sRet (a : GE) : GS := fun env => (a env).bind fun d => some (.ret d)
def sRetN : GS := fun _ => some (.ret .none)
def sBk : GS := fun env => some (.bk env)
def sCt : GS := fun env => some (.ct env)
def sIf (c : GB) (a b : GS) : GS := fun env => (c env).bind fun k => if k = true then a env else b env
def sSet (i : Nat) (a : GE) : GS := fun env => (a env).bind fun d => some (.nx (env.set i (.val d)))
def sDrop (a : GE) : GS := fun env => (a env).bind fun _ => some (.nx env)
/-- a new list of its own -/
def sOwn (i : Nat) (a : GA) : GS := fun env => (a env).bind fun ds => some (.nx (env.set i (.own ds)))
def appS (env : Env) (i : Nat) (d : D) : Option Slot → Option Out
  | some (.ow (.lst ds)) => if ds.length < lim then some (.nx (env.set i (.own (ds ++ [d])))) else none
  | _ => none
def sApp (i : Nat) (a : GE) : GS := fun env => (a env).bind fun d => appS env i d env[i]?
def frzS (env : Env) (i : Nat) : Option Slot → Env
  | some (.ow (.lst ds)) => env.set i (.val (.list ds))
  | _ => env
def frz (i : Nat) (env : Env) : Env := frzS env i env[i]?
def sFrz (i : Nat) : GS := fun env => some (.nx (frz i env))
/-- targets -/
abbrev GT := D → Env → Option Env
def tName (i : Nat) : GT := fun d env => some (env.set i (.val d))
def tTup2 : List GT → List D → Env → Option Env
  | [], [], env => some env
  | t :: ts, d :: ds, env => (t d env).bind fun e => tTup2 ts ds e
  | _, _, _ => none
def asTpl : D → Option (List D)
  | .tuple ds => some ds
  | _ => none
def asLst : D → Option (List D)
  | .list ds => some ds
  | _ => none
def tTuple (ts : List GT) : GT := fun d env => (asTpl d).bind fun ds => tTup2 ts ds env
def sAsg (a : GE) (t : GT) : GS := fun env => (a env).bind fun d => (t d env).bind fun e => some (.nx e)
def sPar (i j : Nat) (a b : GE) : GS := fun env => (a env).bind fun x => (b env).bind fun y => some (.nx ((env.set i (.val x)).set j (.val y)))
def sAug (i : Nat) (f : D → D → Option D) (a : GE) : GS := fun env => (gVar i env).bind fun x => (a env).bind fun y => (f x y).bind fun z => some (.nx (env.set i (.val z)))
/-- behind a turn of a loop -/
def turnS (k : Env → Option Out) : Out → Option Out
  | .nx e => k e
  | .ct e => k e
  | .bk e => some (.nx e)
  | .ret d => some (.ret d)
def forG (t : GT) (body : GS) : List D → Env → Option Out
  | [], env => some (.nx env)
  | d :: ds, env => (t d env).bind fun e => (body e).bind (turnS (forG t body ds))
def seqOf : D → Option (List D)
  | .list ds => some ds
  | .tuple ds => some ds
  | _ => none
def sFor (a : GA) (t : GT) (body : GS) : GS := fun env => (a env).bind fun ds => forG t body ds env
def whileG (c : GB) (body : GS) : Nat → Env → Option Out
  | 0, _ => none
  | n + 1, env => (c env).bind fun k => if k = true then (body env).bind (turnS (whileG c body n)) else some (.nx env)
def rngD (lo : Int) (n : Nat) : List D := (List.range n).map fun (i : Nat) => PyData.int (lo + (i : Int))
def rgOk (n : Int) : Bool := decide (n.natAbs.log2 < 60)
theorem rgOk_of {n : Int} (h : rgOk n = true) : n < 2 ^ 62 ∧ -(2 ^ 62) ≤ n := by
  have h : n.natAbs.log2 < 60 := of_decide_eq_true h
  have h2 : n.natAbs < 2 ^ 60 := by
    by_cases e : n.natAbs = 0
    · rw [e]; decide
    · exact (Nat.log2_lt e).mp h
  omega
def vRange1 : D → Option (List D)
  | .int n => if rgOk n then some (rngD 0 n.toNat) else none
  | _ => none
def vRange2 : D → D → Option (List D)
  | .int a, .int b => if rgOk a && rgOk b then some (rngD a (b - a).toNat) else none
  | _, _ => none
def gSeqOf (a : GE) : GA := fun env => (a env).bind seqOf
def gRange1 (a : GE) : GA := fun env => (a env).bind vRange1
def gRange2 (a b : GE) : GA := fun env => (a env).bind fun x => (b env).bind fun y => vRange2 x y
def startE (n : Nat) (ds : List D) : Env := ds.map .val ++ List.replicate (n - ds.length) .un
/-- a def's value -/
def endF : Out → Option D
  | .ret d => some d
  | .nx _ => some .none
  | _ => none
def runF (n k : Nat) (body : GS) (ds : List D) : Option D := if ds.length = k then (body (startE n ds)).bind endF else none
end Dn

namespace Dn
open PySem PySem.Spec PyProof.Rows L2
abbrev Sg := L2.St

/-! ### 2. the heap behind the data -/
theorem seqT {K : PySem.W.Frag} {H H' : Hp} {a : Addr} {xs : List V} (e : Same H H') (h : SqT K H a xs) : SqT K H' a xs := by
  rcases h with h | h
  · rcases h with h | ⟨o, h⟩
    · exact .inl (.inl (e _ _ h))
    · exact .inl (.inr ⟨o, e _ _ h⟩)
  · exact .inr h
mutual
theorem Dp_mono {K : PySem.W.Frag} {H H' : Hp} (e : Same H H') : ∀ (d : D) (v : V), Dp K H v d → Dp K H' v d
  | .none, _, .non => .non
  | .bool _, _, .bl b => .bl b
  | .int _, _, .int i => .int i
  | .str _, _, .str x => .str x
  | .list ds, _, .lst h a => .lst (e.seq h) (DpAll_mono e ds _ a)
  | .tuple ds, _, .tup h a => .tup (seqT e h) (DpAll_mono e ds _ a)
theorem DpAll_mono {K : PySem.W.Frag} {H H' : Hp} (e : Same H H') : ∀ (ds : List D) (vs : List V), DpAll K H vs ds → DpAll K H' vs ds
  | [], _, .nil => .nil
  | d :: ds, _, .cons h t => .cons (Dp_mono e d _ h) (DpAll_mono e ds _ t)
end
theorem DpAll_len {K : PySem.W.Frag} {H : Hp} : ∀ {vs : List V} {ds : List D}, DpAll K H vs ds → vs.length = ds.length
  | _, _, .nil => rfl
  | _, _, .cons _ t => by rw [List.length_cons, List.length_cons, DpAll_len t]
theorem DpAll_get {K : PySem.W.Frag} {H : Hp} : ∀ {vs : List V} {ds : List D} {i : Nat} {d : D}, DpAll K H vs ds → ds[i]? = some d → ∃ v, vs[i]? = some v ∧ Dp K H v d
  | _, _, _, _, .nil, e => by simp at e
  | _, _, 0, d, .cons (v := v) h _, e => ⟨v, rfl, by simp at e; subst e; exact h⟩
  | _, _, i + 1, d, .cons _ t, e => by
    obtain ⟨v, h1, h2⟩ := DpAll_get (i := i) t (by simpa using e)
    exact ⟨v, by simpa using h1, h2⟩
theorem DpAll_app {K : PySem.W.Frag} {H : Hp} : ∀ {vs ws : List V} {ds es : List D}, DpAll K H vs ds → DpAll K H ws es → DpAll K H (vs ++ ws) (ds ++ es)
  | _, _, _, _, .nil, s => s
  | _, _, _, _, .cons h t, s => .cons h (DpAll_app t s)
theorem DpAll_drop {K : PySem.W.Frag} {H : Hp} : ∀ {vs : List V} {ds : List D} (n : Nat), DpAll K H vs ds → DpAll K H (vs.drop n) (ds.drop n)
  | _, _, 0, h => h
  | _, _, _ + 1, .nil => .nil
  | _, _, n + 1, .cons _ t => DpAll_drop n t
theorem DpAll_take {K : PySem.W.Frag} {H : Hp} : ∀ {vs : List V} {ds : List D} (n : Nat), DpAll K H vs ds → DpAll K H (vs.take n) (ds.take n)
  | _, _, 0, _ => .nil
  | _, _, _ + 1, .nil => .nil
  | _, _, n + 1, .cons h t => .cons h (DpAll_take n t)
theorem DpAll_rev {K : PySem.W.Frag} {H : Hp} : ∀ {vs : List V} {ds : List D}, DpAll K H vs ds → DpAll K H vs.reverse ds.reverse
  | _, _, .nil => .nil
  | _, _, .cons h t => by
    rw [List.reverse_cons, List.reverse_cons]
    exact DpAll_app (DpAll_rev t) (.cons h .nil)
theorem DpAll_ints {K : PySem.W.Frag} {H : Hp} : ∀ (ns : List Int), DpAll K H (ns.map V.int) (ns.map PyData.int)
  | [] => .nil
  | n :: ns => .cons (.int n) (DpAll_ints ns)
theorem DpAll_ints_inv {K : PySem.W.Frag} {H : Hp} : ∀ (ns : List Int) (vs : List V), DpAll K H vs (ns.map PyData.int) → vs = ns.map V.int
  | [], _, .nil => rfl
  | n :: ns, _, .cons (.int _) t => by rw [DpAll_ints_inv ns _ t]; rfl

/-- the heap with some of it out of sight -/
noncomputable def vw (P : Addr → Prop) (H : Hp) : Hp := fun a => open Classical in if P a then none else H a
theorem vw_some {P : Addr → Prop} {H : Hp} {a : Addr} {o : HO} (h : vw P H a = some o) : ¬ P a ∧ H a = some o := by
  unfold vw at h
  by_cases hp : P a
  · rw [if_pos hp] at h; cases h
  · rw [if_neg hp] at h; exact ⟨hp, h⟩
theorem vw_of {P : Addr → Prop} {H : Hp} {a : Addr} {o : HO} (hp : ¬ P a) (h : H a = some o) : vw P H a = some o := by
  unfold vw; rw [if_neg hp]; exact h
theorem vw_same {P P' : Addr → Prop} {H H' : Hp} (e : Same H H') (hp : ∀ a o, H a = some o → P' a → P a) : Same (vw P H) (vw P' H') := fun b o h => by
  obtain ⟨h1, h2⟩ := vw_some h
  exact vw_of (fun q => h1 (hp b o h2 q)) (e b o h2)
theorem vw_le {P : Addr → Prop} {H : Hp} : Same (vw P H) H := fun b o h => (vw_some h).2
theorem same_upd {H : Hp} {p : Addr} {o : HO} (h : H p = none) : Same H (upd H p o) := fun b x e => by
  rw [upd_ne (ne_of_none e h)]
  exact e

/-- what is held -/
inductive Ct (K : PySem.W.Frag) (H : Hp) : HO → Cont → Prop
  | lst {vs : List V} {ds : List D} : DpAll K H vs ds → Ct K H (.lst vs) (.lst ds)
  | dk {vs : List (Key × V)} {kvs : List (Key × D)} : vs.map (·.1) = kvs.map (·.1) → DpAll K H (vs.map (·.2)) (kvs.map (·.2)) → Ct K H (.dK vs) (.dk kvs)
  | dt {vs : List (List Key × V)} {kvs : List (List Key × D)} : vs.map (·.1) = kvs.map (·.1) → DpAll K H (vs.map (·.2)) (kvs.map (·.2)) → Ct K H (.dT vs) (.dt kvs)
theorem Ct.mono {K : PySem.W.Frag} {H H' : Hp} {o : HO} {c : Cont} (e : Same H H') (h : Ct K H o c) : Ct K H' o c := by
  cases h with
  | lst h => exact .lst (DpAll_mono e _ _ h)
  | dk h1 h => exact .dk h1 (DpAll_mono e _ _ h)
  | dt h1 h => exact .dt h1 (DpAll_mono e _ _ h)
/-- the objects that names own -/
def Ow (env : Env) (pa : Nat → Addr) (a : Addr) : Prop := ∃ (i : Nat) (ds : Cont), env[i]? = some (Slot.ow ds) ∧ pa i = a
abbrev Hd (M : Addr → Prop) (env : Env) (pa : Nat → Addr) : Addr → Prop := fun a => M a ∨ Ow env pa a
/-- what the names hold: H0 is to stay, M is out of sight -/
structure EO (K : PySem.W.Frag) (H0 : Hp) (M : Addr → Prop) (env : Env) (σ : Sg) (H : Hp) (pa : Nat → Addr) : Prop where
  same : Same H0 H
  hid : ∀ a, M a → H a ≠ none
  len : σ.length = env.length
  val : ∀ (i : Nat) (d : D), env[i]? = some (.val d) → ∃ v : V, σ[i]? = some (some v) ∧ Dp K (vw (Hd M env pa) H) v d
  ow : ∀ (i : Nat) (c : Cont), env[i]? = some (.ow c) → σ[i]? = some (some (.ref (pa i))) ∧ (H0 (pa i) = none ∧ ¬ M (pa i)) ∧ ∃ o, H (pa i) = some o ∧ Ct K (vw (Hd M env pa) H) o c
  inj : ∀ (i j : Nat) (ds es : Cont), env[i]? = some (.ow ds) → env[j]? = some (.ow es) → pa i = pa j → i = j
theorem EO.own {K : PySem.W.Frag} {H0 H : Hp} {M : Addr → Prop} {env : Env} {σ : Sg} {pa : Nat → Addr} (E : EO K H0 M env σ H pa) (i : Nat) (ds : List D) (h : env[i]? = some (.own ds)) :
    σ[i]? = some (some (.ref (pa i))) ∧ (H0 (pa i) = none ∧ ¬ M (pa i)) ∧ ∃ vs, H (pa i) = some (.lst vs) ∧ DpAll K (vw (Hd M env pa) H) vs ds := by
  obtain ⟨h1, h2, o, h3, h4⟩ := E.ow i _ h
  cases h4 with
  | lst h4 => exact ⟨h1, h2, _, h3, h4⟩
section
variable {K : PySem.W.Frag} {H0 H H' : Hp} {M : Addr → Prop} {env : Env} {σ : Sg} {pa : Nat → Addr}
theorem EO.hidden (E : EO K H0 M env σ H pa) {a : Addr} (h : Hd M env pa a) : H a ≠ none := by
  rcases h with h | ⟨i, ds, h1, h2⟩
  · exact E.hid a h
  · obtain ⟨_, _, vs, h3, _⟩ := E.ow i ds h1
    rw [← h2, h3]
    exact fun q => by cases q
theorem EO.up (E : EO K H0 M env σ H pa) (e : Same H H') : EO K H0 M env σ H' pa := by
  have ms : Same (vw (Hd M env pa) H) (vw (Hd M env pa) H') := vw_same e fun _ _ _ q => q
  refine ⟨E.same.trans e, fun a h q => E.hid a h (e.free q), E.len, fun i d h => ?_, fun i ds h => ?_, E.inj⟩
  · obtain ⟨v, h1, h2⟩ := E.val i d h
    exact ⟨v, h1, Dp_mono ms _ _ h2⟩
  · obtain ⟨h1, h2, vs, h3, h4⟩ := E.ow i ds h
    exact ⟨h1, h2, vs, e _ _ h3, Ct.mono ms h4⟩
theorem set_some {α : Type} {l : List α} {i j : Nat} {x y : α} (h : (l.set i x)[j]? = some y) : (j = i ∧ y = x ∧ i < l.length) ∨ (j ≠ i ∧ l[j]? = some y) := by
  by_cases e : i = j
  · subst e
    by_cases hl : i < l.length
    · rw [List.getElem?_set_self hl] at h
      cases h
      exact .inl ⟨rfl, rfl, hl⟩
    · rw [List.getElem?_eq_none (by simpa using hl)] at h
      cases h
  · rw [List.getElem?_set_ne e] at h
    exact .inr ⟨fun q => e q.symm, h⟩
theorem ow_set_val {i : Nat} {d : D} {a : Addr} (h : Ow (env.set i (.val d)) pa a) : Ow env pa a := by
  obtain ⟨j, ds, h1, h2⟩ := h
  rcases set_some h1 with ⟨_, e, _⟩ | ⟨_, e⟩
  · cases e
  · exact ⟨j, ds, e, h2⟩
theorem EO.setVal {i : Nat} {v : V} {d : D} (E : EO K H0 M env σ H pa) (hv : Dp K (vw (Hd M env pa) H) v d) : EO K H0 M (env.set i (.val d)) (σ.set i (some v)) H pa := by
  have ms : Same (vw (Hd M env pa) H) (vw (Hd M (env.set i (.val d)) pa) H) := vw_same (Same.refl H) fun a _ _ q => by
    rcases q with q | q
    · exact .inl q
    · exact .inr (ow_set_val q)
  refine ⟨E.same, E.hid, by simp [E.len], fun j e h => ?_, fun j ds h => ?_, fun j k ds es h1 h2 h3 => ?_⟩
  · rcases set_some h with ⟨rfl, q, hl⟩ | ⟨ne, q⟩
    · cases q
      exact ⟨v, by rw [List.getElem?_set_self (by rw [E.len]; exact hl)], Dp_mono ms _ _ hv⟩
    · obtain ⟨u, h1, h2⟩ := E.val j e q
      exact ⟨u, by rw [List.getElem?_set_ne (Ne.symm ne)]; exact h1, Dp_mono ms _ _ h2⟩
  · rcases set_some h with ⟨_, q, _⟩ | ⟨ne, q⟩
    · cases q
    · obtain ⟨h1, h2, vs, h3, h4⟩ := E.ow j ds q
      exact ⟨by rw [List.getElem?_set_ne (Ne.symm ne)]; exact h1, h2, vs, h3, Ct.mono ms h4⟩
  · rcases set_some h1 with ⟨_, q, _⟩ | ⟨_, q⟩
    · cases q
    · rcases set_some h2 with ⟨_, r, _⟩ | ⟨_, r⟩
      · cases r
      · exact E.inj j k ds es q r h3
/-- a new object, owned -/
theorem EO.setOw {i : Nat} {p : Addr} {vs : HO} {ds : Cont} (E : EO K H0 M env σ H pa) (hn : H p = none) (hv : Ct K (vw (Hd M env pa) H) vs ds) :
    EO K H0 M (env.set i (.ow ds)) (σ.set i (some (.ref p))) (upd H p vs) (fun j => if j = i then p else pa j) := by
  have ms : Same (vw (Hd M env pa) H) (vw (Hd M (env.set i (.ow ds)) (fun j => if j = i then p else pa j)) (upd H p vs)) := fun b o q => by
    obtain ⟨q1, q2⟩ := vw_some q
    have nb : b ≠ p := ne_of_none q2 hn
    refine vw_of (fun z => ?_) (by rw [upd_ne nb]; exact q2)
    rcases z with z | ⟨j, es, z1, z2⟩
    · exact q1 (.inl z)
    · rcases set_some z1 with ⟨rfl, _, _⟩ | ⟨ne, z3⟩
      · simp only [if_true] at z2
        exact nb z2.symm
      · simp only [if_neg ne] at z2
        exact q1 (.inr ⟨j, es, z3, z2⟩)
  refine ⟨E.same.trans (same_upd hn), fun a h q => E.hid a h ((same_upd hn).free q), by simp [E.len], fun j e h => ?_, fun j es h => ?_, fun j k as bs h1 h2 h3 => ?_⟩
  · rcases set_some h with ⟨_, q, _⟩ | ⟨ne, q⟩
    · cases q
    · obtain ⟨u, h1, h2⟩ := E.val j e q
      exact ⟨u, by rw [List.getElem?_set_ne (Ne.symm ne)]; exact h1, Dp_mono ms _ _ h2⟩
  · rcases set_some h with ⟨rfl, q, hl⟩ | ⟨ne, q⟩
    · cases q
      refine ⟨by rw [List.getElem?_set_self (by rw [E.len]; exact hl)]; simp, ⟨by simp only [if_true]; exact E.same.free hn, by simp only [if_true]; exact fun z => E.hid p z hn⟩, vs, by simp only [if_true]; exact upd_same, Ct.mono ms hv⟩
    · obtain ⟨h1, h2, ws, h3, h4⟩ := E.ow j es q
      have np : pa j ≠ p := ne_of_none h3 hn
      refine ⟨by rw [List.getElem?_set_ne (Ne.symm ne)]; simp only [if_neg ne]; exact h1, by simp only [if_neg ne]; exact h2, ws, by simp only [if_neg ne]; rw [upd_ne np]; exact h3, Ct.mono ms h4⟩
  · have key : ∀ (j : Nat) (as : Cont), (env.set i (Slot.ow ds))[j]? = some (.ow as) → j ≠ i → pa j ≠ p := fun j as h ne => by
      rcases set_some h with ⟨rfl, _, _⟩ | ⟨_, q⟩
      · exact absurd rfl ne
      · obtain ⟨_, _, ws, h3, _⟩ := E.ow j as q
        exact ne_of_none h3 hn
    by_cases ej : j = i
    · by_cases ek : k = i
      · rw [ej, ek]
      · simp only [if_pos ej, if_neg ek] at h3
        exact absurd h3.symm (key k bs h2 ek)
    · by_cases ek : k = i
      · simp only [if_neg ej, if_pos ek] at h3
        exact absurd h3 (key j as h1 ej)
      · simp only [if_neg ej, if_neg ek] at h3
        rcases set_some h1 with ⟨z, _, _⟩ | ⟨_, q⟩
        · exact absurd z ej
        · rcases set_some h2 with ⟨z, _, _⟩ | ⟨_, r⟩
          · exact absurd z ek
          · exact E.inj j k as bs q r h3
/-- an owned list is written -/
theorem EO.writeC {i : Nat} {ds es : Cont} {ws : HO} (E : EO K H0 M env σ H pa) (hi : env[i]? = some (.ow ds)) (hv : Ct K (vw (Hd M env pa) H) ws es) :
    EO K H0 M (env.set i (.ow es)) σ (upd H (pa i) ws) pa := by
  have hil : i < env.length := (List.getElem?_eq_some_iff.mp hi).1
  obtain ⟨g1, g2, vs, g3, g4⟩ := E.ow i ds hi
  have ow : ∀ a, Ow (env.set i (.ow es)) pa a → Ow env pa a := fun a ⟨j, as, z1, z2⟩ => by
    rcases set_some z1 with ⟨rfl, _, _⟩ | ⟨_, q⟩
    · exact ⟨j, ds, hi, z2⟩
    · exact ⟨j, as, q, z2⟩
  have ms : Same (vw (Hd M env pa) H) (vw (Hd M (env.set i (.ow es)) pa) (upd H (pa i) ws)) := fun b o q => by
    obtain ⟨q1, q2⟩ := vw_some q
    have nb : b ≠ pa i := fun z => q1 (.inr ⟨i, ds, hi, z.symm⟩)
    refine vw_of (fun z => ?_) (by rw [upd_ne nb]; exact q2)
    rcases z with z | z
    · exact q1 (.inl z)
    · exact q1 (.inr (ow b z))
  refine ⟨fun b o q => ?_, fun a h q => ?_, by simp [E.len], fun j e h => ?_, fun j as h => ?_, fun j k as bs h1 h2 h3 => ?_⟩
  · have nb : b ≠ pa i := ne_of_none q g2.1
    rw [upd_ne nb]
    exact E.same b o q
  · by_cases e : a = pa i
    · rw [e, upd_same] at q
      cases q
    · rw [upd_ne e] at q
      exact E.hid a h q
  · rcases set_some h with ⟨_, q, _⟩ | ⟨ne, q⟩
    · cases q
    · obtain ⟨u, h1, h2⟩ := E.val j e q
      exact ⟨u, h1, Dp_mono ms _ _ h2⟩
  · rcases set_some h with ⟨rfl, q, hl⟩ | ⟨ne, q⟩
    · cases q
      exact ⟨g1, g2, ws, upd_same, Ct.mono ms hv⟩
    · obtain ⟨h1, h2, us, h3, h4⟩ := E.ow j as q
      have np : pa j ≠ pa i := fun z => ne (E.inj j i as ds q hi z)
      exact ⟨h1, h2, us, by rw [upd_ne np]; exact h3, Ct.mono ms h4⟩
  · have back : ∀ (j : Nat) (as : Cont), (env.set i (Slot.ow es))[j]? = some (.ow as) → ∃ bs : Cont, env[j]? = some (Slot.ow bs) := fun j as h => by
      rcases set_some h with ⟨rfl, _, _⟩ | ⟨_, q⟩
      · exact ⟨ds, hi⟩
      · exact ⟨as, q⟩
    obtain ⟨_, a1⟩ := back j as h1
    obtain ⟨_, a2⟩ := back k bs h2
    exact E.inj j k _ _ a1 a2 h3
/-- a new list, owned -/
theorem EO.setOwn {i : Nat} {p : Addr} {vs : List V} {ds : List D} (E : EO K H0 M env σ H pa) (hn : H p = none) (hv : DpAll K (vw (Hd M env pa) H) vs ds) :
    EO K H0 M (env.set i (.own ds)) (σ.set i (some (.ref p))) (upd H p (.lst vs)) (fun j => if j = i then p else pa j) := E.setOw hn (.lst hv)
theorem EO.write {i : Nat} {ds es : List D} {ws : List V} (E : EO K H0 M env σ H pa) (hi : env[i]? = some (.own ds)) (hv : DpAll K (vw (Hd M env pa) H) ws es) :
    EO K H0 M (env.set i (.own es)) σ (upd H (pa i) (.lst ws)) pa := E.writeC hi (.lst hv)
/-- an owned list is given up: it stays from now on as it is -/
theorem EO.frz (E : EO K H0 M env σ H pa) (i : Nat) : EO K H0 M (frz i env) σ H pa := by
  unfold Dn.frz frzS
  split
  · rename_i ds hi
    obtain ⟨g1, g2, vs, g3, g4⟩ := E.own i ds hi
    have hil : i < env.length := (List.getElem?_eq_some_iff.mp hi).1
    have ms : Same (vw (Hd M env pa) H) (vw (Hd M (env.set i (.val (.list ds))) pa) H) := vw_same (Same.refl H) fun a _ _ q => by
      rcases q with q | q
      · exact .inl q
      · exact .inr (ow_set_val q)
    have nP : ¬ Hd M (env.set i (.val (.list ds))) pa (pa i) := fun z => by
      rcases z with z | ⟨j, as, z1, z2⟩
      · exact g2.2 z
      · rcases set_some z1 with ⟨_, e, _⟩ | ⟨ne, q⟩
        · cases e
        · exact ne (E.inj j i as _ q hi z2)
    have hv : Dp K (vw (Hd M (env.set i (.val (.list ds))) pa) H) (.ref (pa i)) (.list ds) := .lst (.inl (.inl (vw_of nP g3))) (DpAll_mono ms _ _ g4)
    refine ⟨E.same, E.hid, by simp [E.len], fun j e h => ?_, fun j as h => ?_, fun j k as bs h1 h2 h3 => ?_⟩
    · rcases set_some h with ⟨rfl, q, hl⟩ | ⟨ne, q⟩
      · cases q
        exact ⟨_, g1, hv⟩
      · obtain ⟨u, h1, h2⟩ := E.val j e q
        exact ⟨u, h1, Dp_mono ms _ _ h2⟩
    · rcases set_some h with ⟨_, q, _⟩ | ⟨ne, q⟩
      · cases q
      · obtain ⟨h1, h2, us, h3, h4⟩ := E.ow j as q
        exact ⟨h1, h2, us, h3, Ct.mono ms h4⟩
    · rcases set_some h1 with ⟨_, q, _⟩ | ⟨_, q⟩
      · cases q
      · rcases set_some h2 with ⟨_, r, _⟩ | ⟨_, r⟩
        · cases r
        · exact E.inj j k as bs q r h3
  · exact E
end
end Dn

namespace Dn
open PySem PySem.Spec PyProof.Rows L2

/-! ### 3. expressions -/
/-- what is out of sight for a value: with b the lists of names may stand in it -/
abbrev Vs (b : Bool) (M : Addr → Prop) (env : Env) (pa : Nat → Addr) : Addr → Prop := if b = true then M else Hd M env pa
def PEd (X : Cx) (b : Bool) (e : Expr) (g : GE) : Prop := ∃ t, PE X e t ∧ ∀ (H0 : Hp) (M : Addr → Prop) (env : Env) (σ : Sg) (H : Hp) (pa : Nat → Addr) (d : D) (Q : VK), EO X.K H0 M env σ H pa → g env = some d →
  (∀ v H', Same H H' → Dp X.K (vw (Vs b M env pa) H') v d → Q v H') → t σ H Q
def PAd (X : Cx) (b : Bool) (es : List Expr) (g : GA) : Prop := ∃ t, PA X es t ∧ ∀ (H0 : Hp) (M : Addr → Prop) (env : Env) (σ : Sg) (H : Hp) (pa : Nat → Addr) (ds : List D) (Q : List V → Hp → Prop), EO X.K H0 M env σ H pa → g env = some ds →
  (∀ vs H', Same H H' → DpAll X.K (vw (Vs b M env pa) H') vs ds → ds.length = es.length → Q vs H') → t σ H Q
def PTd (X : Cx) (e : Expr) (g : GB) : Prop := ∃ t, PT X e t ∧ ∀ (H0 : Hp) (M : Addr → Prop) (env : Env) (σ : Sg) (H : Hp) (pa : Nat → Addr) (k : Bool) (Q : Bool → Hp → Prop), EO X.K H0 M env σ H pa → g env = some k →
  (∀ H', Same H H' → Q k H') → t σ H Q
def PWd (X : Cx) (e : Expr) (g : GB) : Prop := ∃ t, PW X e t ∧ ∀ (H0 : Hp) (M : Addr → Prop) (env : Env) (σ : Sg) (H : Hp) (pa : Nat → Addr) (k : Bool) (Q : Bool → Hp → Prop), EO X.K H0 M env σ H pa → g env = some k →
  (∀ H', Same H H' → Q k H') → t σ H Q
/-- nothing hidden is a free place -/
abbrev NF (P : Addr → Prop) (H : Hp) : Prop := ∀ p, P p → H p ≠ none
theorem Vs_nf {K : PySem.W.Frag} {H0 : Hp} {M : Addr → Prop} {env : Env} {σ : Sg} {H : Hp} {pa : Nat → Addr} (b : Bool) (E : EO K H0 M env σ H pa) : NF (Vs b M env pa) H := fun p h => by
  cases b with
  | true => exact E.hidden (.inl h)
  | false => exact E.hidden h
theorem vw_up {P : Addr → Prop} {H H' : Hp} (e : Same H H') : Same (vw P H) (vw P H') := vw_same e fun _ _ _ q => q
theorem NF.up {P : Addr → Prop} {H H' : Hp} (n : NF P H) (e : Same H H') : NF P H' := fun p h q => n p h (e.free q)
/-- two-place operations on data -/
def OpD (K : PySem.W.Frag) (r : R2) (f : D → D → Option D) : Prop := ∀ (P : Addr → Prop) (H : Hp) (x y : V) (d e z : D) (Q : VK), NF P H → Dp K (vw P H) x d → Dp K (vw P H) y e → f d e = some z →
  (∀ v H', Same H H' → Dp K (vw P H') v z → Q v H') → r x y H Q
def UnD (K : PySem.W.Frag) (r : V → Hp → VK → Prop) (f : D → Option D) : Prop := ∀ (P : Addr → Prop) (H : Hp) (x : V) (d z : D) (Q : VK), NF P H → Dp K (vw P H) x d → f d = some z →
  (∀ v H', Same H H' → Dp K (vw P H') v z → Q v H') → r x H Q
def CaD (K : PySem.W.Frag) (r : List V → Hp → VK → Prop) (f : List D → Option D) : Prop := ∀ (P : Addr → Prop) (H : Hp) (xs : List V) (ds : List D) (z : D) (Q : VK), NF P H → DpAll K (vw P H) xs ds → f ds = some z →
  (∀ v H', Same H H' → Dp K (vw P H') v z → Q v H') → r xs H Q
section
variable {X : Cx} {b : Bool} {e a c : Expr} {es : List Expr} {pos : Pos} {ga gb : GE}

theorem pd_var {i : Nat} {x : Str} (hN : X.N[i]? = some x) (hv : Vis X.env.scope x) (hd : (x == ("__debug__" : Str)) = false := by decide) (hcd : (x == ("__classdict__" : Str)) = false := by decide) : PEd X b (.Name x pos) (gVar i) := by
  refine ⟨_, pe_var hN hv hd hcd, fun H0 M env σ H pa d Q E h q => ?_⟩
  unfold gVar look at h
  split at h
  · rename_i d' hi
    cases h
    obtain ⟨v, h1, h2⟩ := E.val i _ hi
    refine ⟨v, h1, q v H (Same.refl H) ?_⟩
    cases b with
    | false => exact h2
    | true => exact Dp_mono (vw_same (Same.refl H) fun _ _ _ z => .inl z) _ _ h2
  · cases h
theorem pd_varB {i : Nat} {x : Str} (hN : X.N[i]? = some x) (hv : Vis X.env.scope x) (hd : (x == ("__debug__" : Str)) = false := by decide) (hcd : (x == ("__classdict__" : Str)) = false := by decide) : PEd X true (.Name x pos) (gVarB i) := by
  refine ⟨_, pe_var hN hv hd hcd, fun H0 M env σ H pa d Q E h q => ?_⟩
  have sm : Same (vw (Hd M env pa) H) (vw M H) := vw_same (Same.refl H) fun _ _ _ z => .inl z
  unfold gVarB lookB at h
  split at h
  · rename_i d' hi
    cases h
    obtain ⟨v, h1, h2⟩ := E.val i _ hi
    exact ⟨v, h1, q v H (Same.refl H) (Dp_mono sm _ _ h2)⟩
  · rename_i ds hi
    cases h
    obtain ⟨h1, h2, vs, h3, h4⟩ := E.own i _ hi
    refine ⟨_, h1, q _ H (Same.refl H) (.lst (.inl (.inl (vw_of (fun z => ?_) h3))) (DpAll_mono sm _ _ h4))⟩
    exact h2.2 z
  · cases h
/-- what bears no list is no list of a name's -/
def flat : D → Bool
  | .none => true
  | .bool _ => true
  | .int _ => true
  | .str _ => true
  | .tuple ds => flatAll ds
  | _ => false
where flatAll : List D → Bool
  | [] => true
  | d :: ds => flat d && flatAll ds
mutual
theorem Dp_flat {K : PySem.W.Frag} {H0 : Hp} {M : Addr → Prop} {env : Env} {σ : Sg} {H : Hp} {pa : Nat → Addr} (E : EO K H0 M env σ H pa) : ∀ (d : D) (v : V), flat d = true → Dp K (vw M H) v d → Dp K (vw (Hd M env pa) H) v d
  | .none, _, _, .non => .non
  | .bool _, _, _, .bl b => .bl b
  | .int _, _, _, .int i => .int i
  | .str _, _, _, .str x => .str x
  | .list _, _, h, _ => by cases h
  | .dict _, _, h, _ => by cases h
  | .tuple ds, _, h, .tup (a := a) hs ha => by
    refine .tup ?_ (DpAll_flat E ds _ h ha)
    rcases hs with (hs | ⟨o, hs⟩) | hs
    · obtain ⟨h1, h2⟩ := vw_some hs
      refine .inl (.inl (vw_of (fun z => ?_) h2))
      rcases z with z | ⟨i, es, z1, z2⟩
      · exact h1 z
      · obtain ⟨_, _, vs, h3, h4⟩ := E.ow i es z1
        rw [z2, h2] at h3
        cases h3
        cases h4
    · obtain ⟨h1, h2⟩ := vw_some hs
      refine .inl (.inr ⟨o, vw_of (fun z => ?_) h2⟩)
      rcases z with z | ⟨i, es, z1, z2⟩
      · exact h1 z
      · obtain ⟨_, _, vs, h3, h4⟩ := E.ow i es z1
        rw [z2, h2] at h3
        cases h3
        cases h4
    · exact .inr hs
theorem DpAll_flat {K : PySem.W.Frag} {H0 : Hp} {M : Addr → Prop} {env : Env} {σ : Sg} {H : Hp} {pa : Nat → Addr} (E : EO K H0 M env σ H pa) : ∀ (ds : List D) (vs : List V), flat.flatAll ds = true → DpAll K (vw M H) vs ds → DpAll K (vw (Hd M env pa) H) vs ds
  | [], _, _, .nil => .nil
  | d :: ds, _, h, .cons h1 h2 => by
    have hh := Bool.and_eq_true_iff.mp (show (flat d && flat.flatAll ds) = true from h)
    exact .cons (Dp_flat E d _ hh.1 h1) (DpAll_flat E ds _ hh.2 h2)
end
def gFlat (a : GE) : GE := fun env => (a env).bind fun d => if flat d = true then some d else none
theorem pd_flat (h : PEd X true e ga) : PEd X b e (gFlat ga) := by
  obtain ⟨t, ht, hh⟩ := h
  refine ⟨t, ht, fun H0 M env σ H pa d Q E h q => ?_⟩
  unfold gFlat at h
  cases ha : ga env with
  | none => rw [ha] at h; cases h
  | some d' =>
    rw [ha] at h
    have h : (if flat d' = true then some d' else none) = some d := h
    split at h
    · rename_i hf
      cases h
      refine hh H0 M env σ H pa d Q E ha fun v H' sm hv => q v H' sm ?_
      cases b with
      | true => exact hv
      | false => exact Dp_flat (E.up sm) d v hf hv
    · cases h
theorem pd_weak (h : PEd X false e ga) : PEd X true e ga := by
  obtain ⟨t, ht, hh⟩ := h
  exact ⟨t, ht, fun H0 M env σ H pa d Q E h q => hh H0 M env σ H pa d Q E h fun v H' sm hv => q v H' sm (Dp_mono (vw_same (Same.refl _) fun _ _ _ z => .inl z) _ _ hv)⟩
theorem pd_int {i j} : PEd X b (.Constant (.int i) j pos) (gC (.int i)) := ⟨_, pe_int, fun _ _ _ _ H _ _ Q _ h q => by cases h; exact q _ H (Same.refl H) (.int i)⟩
theorem pd_bl {k j} : PEd X b (.Constant (.bool k) j pos) (gC (.bool k)) := ⟨_, pe_bl, fun _ _ _ _ H _ _ Q _ h q => by cases h; exact q _ H (Same.refl H) (.bl k)⟩
theorem pd_non {j} : PEd X b (.Constant .none j pos) (gC .none) := ⟨_, pe_non, fun _ _ _ _ H _ _ Q _ h q => by cases h; exact q _ H (Same.refl H) .non⟩
theorem pd_str {x j} : PEd X b (.Constant (.str x) j pos) (gC (.str x)) := ⟨_, pe_str, fun _ _ _ _ H _ _ Q _ h q => by cases h; exact q _ H (Same.refl H) (.str x)⟩
/-- a constant of the module that is data in K -/
theorem pd_glob {x : Str} {v : V} {u : Value} {d : D} (hg : Gl X x) (hm : X.mg x = some u) (r : RelV v u) (hd : ∀ H, Dp X.K H v d) (hdb : (x == ("__debug__" : Str)) = false := by decide) : PEd X b (.Name x pos) (gC d) :=
  ⟨_, pe_glob hg hm r hdb, fun _ _ _ _ H _ _ Q _ h q => by cases h; exact q _ H (Same.refl H) (hd _)⟩

theorem two {ta tb : TE} {H0 : Hp} {M : Addr → Prop} {env : Env} {σ : Sg} {H : Hp} {pa : Nat → Addr} {d e' : D} {R : V → V → Hp → Prop} (E : EO X.K H0 M env σ H pa)
    (ha : ∀ (H0 : Hp) (M : Addr → Prop) (env : Env) (σ : Sg) (H : Hp) (pa : Nat → Addr) (d : D) (Q : VK), EO X.K H0 M env σ H pa → ga env = some d → (∀ v H', Same H H' → Dp X.K (vw (Vs b M env pa) H') v d → Q v H') → ta σ H Q)
    (hb : ∀ (H0 : Hp) (M : Addr → Prop) (env : Env) (σ : Sg) (H : Hp) (pa : Nat → Addr) (d : D) (Q : VK), EO X.K H0 M env σ H pa → gb env = some d → (∀ v H', Same H H' → Dp X.K (vw (Vs b M env pa) H') v d → Q v H') → tb σ H Q)
    (h1 : ga env = some d) (h2 : gb env = some e') (k : ∀ x y H', Same H H' → Dp X.K (vw (Vs b M env pa) H') x d → Dp X.K (vw (Vs b M env pa) H') y e' → R x y H') : ta σ H fun x H1 => tb σ H1 fun y H2 => R x y H2 :=
  ha H0 M env σ H pa d _ E h1 fun x H1 s1 hx => hb H0 M env σ H1 pa e' _ (E.up s1) h2 fun y H2 s2 hy => k x y H2 (s1.trans s2) (Dp_mono (vw_up s2) _ _ hx) hy
theorem bind2 {α β γ : Type} {x : Option α} {y : Option β} {f : α → β → Option γ} {z : γ} (h : (x.bind fun u => y.bind fun v => f u v) = some z) : ∃ u v, x = some u ∧ y = some v ∧ f u v = some z := by
  cases x with
  | none => cases h
  | some u =>
    cases y with
    | none => cases h
    | some v => exact ⟨u, v, rfl, rfl, h⟩
theorem bind1 {α γ : Type} {x : Option α} {f : α → Option γ} {z : γ} (h : x.bind f = some z) : ∃ u, x = some u ∧ f u = some z := by
  cases x with
  | none => cases h
  | some u => exact ⟨u, rfl, h⟩
theorem pd_op {op : Operator} {r : R2} {f : D → D → Option D} (ho : OpR X (binaryOp op) r) (hf : OpD X.K r f) (ha : PEd X b a ga) (hb : PEd X b c gb) : PEd X b (.BinOp a op c pos) (g2 f ga gb) := by
  obtain ⟨ta, pa', ha⟩ := ha
  obtain ⟨tb, pb', hb⟩ := hb
  refine ⟨_, pe_op ho pa' pb', fun H0 M env σ H pa d Q E h q => ?_⟩
  obtain ⟨d1, d2, h1, h2, h3⟩ := bind2 h
  exact two E ha hb h1 h2 fun x y H' s hx hy => hf _ H' x y d1 d2 d Q (Vs_nf b (E.up s)) hx hy h3 fun v H'' s' hv => q v H'' (s.trans s') hv
theorem pd_un {op : UnaryOp} {r : V → Hp → VK → Prop} {f : D → Option D} (ho : UnR X (unaryOp op) r) (hf : UnD X.K r f) (ha : PEd X b a ga) : PEd X b (.UnaryOp op a pos) (g1 f ga) := by
  obtain ⟨ta, pa', ha⟩ := ha
  refine ⟨_, pe_un ho pa', fun H0 M env σ H pa d Q E h q => ?_⟩
  obtain ⟨d1, h1, h3⟩ := bind1 h
  exact ha H0 M env σ H pa d1 _ E h1 fun x H' s hx => hf _ H' x d1 d Q (Vs_nf b (E.up s)) hx h3 fun v H'' s' hv => q v H'' (s.trans s') hv
theorem pd_cmp {op : CmpOp} {r : R2} {f : D → D → Option D} (ho : OpR X (compareOp op) r) (hf : OpD X.K r f) (ha : PEd X b a ga) (hb : PEd X b c gb) (hm : behindInMarks op c = false) : PEd X b (.Compare a [op] [c] pos) (g2 f ga gb) := by
  obtain ⟨ta, pa', ha⟩ := ha
  obtain ⟨tb, pb', hb⟩ := hb
  refine ⟨_, pe_cmpR ho pa' pb' hm, fun H0 M env σ H pa d Q E h q => ?_⟩
  obtain ⟨d1, d2, h1, h2, h3⟩ := bind2 h
  exact two E ha hb h1 h2 fun x y H' s hx hy => hf _ H' x y d1 d2 d Q (Vs_nf b (E.up s)) hx hy h3 fun v H'' s' hv => q v H'' (s.trans s') hv
theorem asBool_some {d : D} {k : Bool} (h : asBool d = some k) : d = .bool k := by
  cases d <;> cases h
  rfl
theorem pt_cmpD {op : CmpOp} {r : R2} {f : D → D → Option D} (ho : OpR X (compareOp op) r) (hf : OpD X.K r f) (ha : PEd X true a ga) (hb : PEd X true c gb) (hm : behindInMarks op c = false) : PTd X (.Compare a [op] [c] pos) (gTest (g2 f ga gb)) := by
  obtain ⟨ta, pa', ha⟩ := ha
  obtain ⟨tb, pb', hb⟩ := hb
  refine ⟨_, pt_cmpR ho pa' pb' hm, fun H0 M env σ H pa k Q E h q => ?_⟩
  obtain ⟨d, h0, hk⟩ := bind1 h
  have hk := asBool_some hk
  subst hk
  obtain ⟨d1, d2, h1, h2, h3⟩ := bind2 h0
  exact two E ha hb h1 h2 fun x y H' s hx hy => hf _ H' x y d1 d2 _ _ (Vs_nf true (E.up s)) hx hy h3 fun v H'' s' hv => by
    cases hv
    exact ⟨k, rfl, q H'' (s.trans s')⟩
/-- an expression whose value is a bool, as a test -/
theorem pt_valD (ha : PEd X true e ga) (he : ∀ whole, isTrue e X.env whole = (do let v ← whole; standAt e.pos; holding [v] (truthy v)) := by intro _; rfl) : PTd X e (gTest ga) := by
  obtain ⟨ta, pa', ha⟩ := ha
  refine ⟨_, pt_val pa' he, fun H0 M env σ H pa k Q E h q => ?_⟩
  obtain ⟨d, h0, hk⟩ := bind1 h
  have hk := asBool_some hk
  subst hk
  exact ha H0 M env σ H pa _ _ E h0 fun v H' s hv => by
    cases hv
    exact ⟨k, rfl, q H' s⟩
theorem truD {K : PySem.W.Frag} {P : Addr → Prop} {H : Hp} {v : V} {d : D} {k : Bool} (hv : Dp K (vw P H) v d) (h : vTruth d = some k) : TruV K v H k := by
  cases hv with
  | non => cases h; rfl
  | bl b => cases h; rfl
  | int i => cases h; rfl
  | str x =>
    have h : (if x.length ≤ lim then some ((x.length : Int) != 0) else none) = some k := h
    split at h
    · rename_i hl
      cases h
      exact ⟨by rw [← lim_eq]; exact hl, rfl⟩
    · cases h
  | lst hs ha =>
    cases h
    refine .inl ⟨_, vw_le.seq hs, ?_⟩
    cases ha <;> rfl
  | tup hs ha =>
    cases h
    refine .inr (.inl ⟨_, seqT vw_le hs, ?_⟩)
    cases ha <;> rfl
theorem pt_truthD (ha : PEd X true e ga) (he : ∀ whole, isTrue e X.env whole = (do let v ← whole; standAt e.pos; holding [v] (truthy v)) := by intro _; rfl) : PTd X e (gTruth ga) := by
  obtain ⟨ta, pa', ha⟩ := ha
  refine ⟨_, pt_truth pa' he, fun H0 M env σ H pa k Q E h q => ?_⟩
  obtain ⟨d, h0, hk⟩ := bind1 h
  exact ha H0 M env σ H pa _ _ E h0 fun v H' s hv => ⟨k, truD hv hk, q H' s⟩
variable {gA gB : GB} {rest : List Expr}
theorem PWd.pt (h : PWd X e gA) : PTd X e gA := by
  obtain ⟨t, ht, hh⟩ := h
  exact ⟨t, ht.pt, hh⟩
theorem pw_and1D (ha : PTd X a gA) : PWd X (.BoolOp .And [a] pos) gA := by
  obtain ⟨t, ht, hh⟩ := ha
  exact ⟨t, pw_and1 ht, hh⟩
theorem pw_or1D (ha : PTd X a gA) : PWd X (.BoolOp .Or [a] pos) gA := by
  obtain ⟨t, ht, hh⟩ := ha
  exact ⟨t, pw_or1 ht, hh⟩
theorem pw_andD (ha : PTd X a gA) (hb : PWd X (.BoolOp .And (c :: rest) pos) gB) : PWd X (.BoolOp .And (a :: c :: rest) pos) (gAnd gA gB) := by
  obtain ⟨t, ht, hh⟩ := ha
  obtain ⟨u, hu, hh'⟩ := hb
  refine ⟨_, pw_and ht hu, fun H0 M env σ H pa k Q E h q => ?_⟩
  obtain ⟨k1, h1, h2⟩ := bind1 h
  refine hh H0 M env σ H pa k1 _ E h1 fun H' s => ?_
  cases k1 with
  | true =>
    rw [if_pos rfl] at h2 ⊢
    exact hh' H0 M env σ H' pa k Q (E.up s) h2 fun H'' s' => q H'' (s.trans s')
  | false =>
    rw [if_neg (by decide)] at h2 ⊢
    cases h2
    exact q H' s
theorem pw_orD (ha : PTd X a gA) (hb : PWd X (.BoolOp .Or (c :: rest) pos) gB) : PWd X (.BoolOp .Or (a :: c :: rest) pos) (gOr gA gB) := by
  obtain ⟨t, ht, hh⟩ := ha
  obtain ⟨u, hu, hh'⟩ := hb
  refine ⟨_, pw_or ht hu, fun H0 M env σ H pa k Q E h q => ?_⟩
  obtain ⟨k1, h1, h2⟩ := bind1 h
  refine hh H0 M env σ H pa k1 _ E h1 fun H' s => ?_
  cases k1 with
  | false =>
    rw [if_neg (by decide)] at h2 ⊢
    exact hh' H0 M env σ H' pa k Q (E.up s) h2 fun H'' s' => q H'' (s.trans s')
  | true =>
    rw [if_pos rfl] at h2 ⊢
    cases h2
    exact q H' s
theorem pt_notD (ha : PTd X a gA) : PTd X (.UnaryOp .Not a pos) (gNot gA) := by
  obtain ⟨t, ht, hh⟩ := ha
  refine ⟨_, pt_not ht, fun H0 M env σ H pa k Q E h q => ?_⟩
  obtain ⟨k1, h1, h2⟩ := bind1 h
  cases h2
  exact hh H0 M env σ H pa k1 _ E h1 fun H' s => q H' s
theorem pd_one {op} (h : PEd X b a ga) : PEd X b (.BoolOp op [a] pos) ga := by
  obtain ⟨t, ht, hh⟩ := h
  exact ⟨t, pe_one ht, hh⟩
theorem pd_and (ha : PEd X b a ga) (hb : PEd X b (.BoolOp .And (c :: rest) pos) gb) : PEd X b (.BoolOp .And (a :: c :: rest) pos) (gAndV ga gb) := by
  obtain ⟨t, ht, hh⟩ := ha
  obtain ⟨u, hu, hh'⟩ := hb
  refine ⟨_, pe_and ht hu, fun H0 M env σ H pa d Q E h q => ?_⟩
  obtain ⟨d1, h1, h2⟩ := bind1 h
  obtain ⟨k1, h3, h4⟩ := bind1 h2
  have h3 := asBool_some h3
  subst h3
  refine hh H0 M env σ H pa _ _ E h1 fun v H' s hv => ?_
  cases hv
  refine ⟨k1, rfl, ?_⟩
  cases k1 with
  | true =>
    rw [if_pos rfl] at h4 ⊢
    exact hh' H0 M env σ H' pa d Q (E.up s) h4 fun v H'' s' => q v H'' (s.trans s')
  | false =>
    rw [if_neg (by decide)] at h4 ⊢
    cases h4
    exact q _ H' s (.bl false)
theorem pd_or (ha : PEd X b a ga) (hb : PEd X b (.BoolOp .Or (c :: rest) pos) gb) : PEd X b (.BoolOp .Or (a :: c :: rest) pos) (gOrV ga gb) := by
  obtain ⟨t, ht, hh⟩ := ha
  obtain ⟨u, hu, hh'⟩ := hb
  refine ⟨_, pe_or ht hu, fun H0 M env σ H pa d Q E h q => ?_⟩
  obtain ⟨d1, h1, h2⟩ := bind1 h
  obtain ⟨k1, h3, h4⟩ := bind1 h2
  have h3 := asBool_some h3
  subst h3
  refine hh H0 M env σ H pa _ _ E h1 fun v H' s hv => ?_
  cases hv
  refine ⟨k1, rfl, ?_⟩
  cases k1 with
  | false =>
    rw [if_neg (by decide)] at h4 ⊢
    exact hh' H0 M env σ H' pa d Q (E.up s) h4 fun v H'' s' => q v H'' (s.trans s')
  | true =>
    rw [if_pos rfl] at h4 ⊢
    cases h4
    exact q _ H' s (.bl true)
theorem pd_not (ha : PEd X b a ga) : PEd X b (.UnaryOp .Not a pos) (gNotV ga) := by
  obtain ⟨t, ht, hh⟩ := ha
  refine ⟨_, pe_not ht, fun H0 M env σ H pa d Q E h q => ?_⟩
  obtain ⟨d1, h1, h2⟩ := bind1 h
  obtain ⟨k1, h3, h4⟩ := bind1 h2
  have h3 := asBool_some h3
  subst h3
  cases h4
  refine hh H0 M env σ H pa _ _ E h1 fun v H' s hv => ?_
  cases hv
  exact ⟨k1, rfl, q _ H' s (.bl _)⟩
theorem pd_if {t : Expr} (hc : PTd X t gA) (ha : PEd X b a ga) (hb : PEd X b c gb) : PEd X b (.IfExp t a c pos) (gIfE gA ga gb) := by
  obtain ⟨t0, ht, hh⟩ := hc
  obtain ⟨t1, ht1, hh1⟩ := ha
  obtain ⟨t2, ht2, hh2⟩ := hb
  refine ⟨_, pe_ifExp ht ht1 ht2, fun H0 M env σ H pa d Q E h q => ?_⟩
  obtain ⟨k, h1, h2⟩ := bind1 h
  refine hh H0 M env σ H pa k _ E h1 fun H' s => ?_
  cases k with
  | true =>
    rw [if_pos rfl] at h2 ⊢
    exact hh1 H0 M env σ H' pa d Q (E.up s) h2 fun v H'' s' => q v H'' (s.trans s')
  | false =>
    rw [if_neg (by decide)] at h2 ⊢
    exact hh2 H0 M env σ H' pa d Q (E.up s) h2 fun v H'' s' => q v H'' (s.trans s')

/-! arguments, displays, calls -/
variable {gs : GA}
theorem pad_nil : PAd X b [] aNil := ⟨_, pa_nil, fun _ _ _ _ H _ _ Q _ h q => by cases h; exact q [] H (Same.refl H) .nil rfl⟩
theorem pad_cons (ha : PEd X b e ga) (hr : PAd X b es gs) (hs : starEach (e :: es) X.env = (false, eval e X.env) :: starEach es X.env := by rfl) : PAd X b (e :: es) (aCons ga gs) := by
  obtain ⟨t, ht, hh⟩ := ha
  obtain ⟨u, hu, hh'⟩ := hr
  refine ⟨_, pa_cons ht hu hs, fun H0 M env σ H pa ds Q E h q => ?_⟩
  obtain ⟨d, ds', h1, h2, h3⟩ := bind2 h
  cases h3
  refine hh H0 M env σ H pa d _ E h1 fun v H1 s1 hv => hh' H0 M env σ H1 pa ds' _ (E.up s1) h2 fun vs H2 s2 hvs hl => ?_
  exact q _ H2 (s1.trans s2) (.cons (Dp_mono (vw_up s2) _ _ hv) hvs) (by rw [List.length_cons, List.length_cons, hl])
theorem pd_tup {x1} (h : PAd X b es gs) (hz : es.length ≤ lim := by decide) : PEd X b (.Tuple es x1 pos) (gArgs vTup gs) := by
  obtain ⟨t, ht, hh⟩ := h
  refine ⟨_, pe_tup ht, fun H0 M env σ H pa d Q E h q => ?_⟩
  obtain ⟨ds, h1, h2⟩ := bind1 h
  cases h2
  refine hh H0 M env σ H pa ds _ E h1 fun vs H' s hv hl => ⟨by rw [DpAll_len hv, hl, ← lim_eq]; exact hz, fun p hp => ?_⟩
  have nP := fun z => Vs_nf b (E.up s) p z hp
  refine q _ _ (s.trans (same_upd hp)) (.tup (.inl (.inl (vw_of nP upd_same))) (DpAll_mono (vw_up (same_upd hp)) _ _ hv))
theorem pd_lst (h : PAd X b es gs) (hz : es.length ≤ lim := by decide) : PEd X b (.List es pos) (gArgs vLst gs) := by
  obtain ⟨t, ht, hh⟩ := h
  refine ⟨_, pe_lst ht, fun H0 M env σ H pa d Q E h q => ?_⟩
  obtain ⟨ds, h1, h2⟩ := bind1 h
  cases h2
  refine hh H0 M env σ H pa ds _ E h1 fun vs H' s hv hl => ⟨by rw [DpAll_len hv, hl, ← lim_eq]; exact hz, fun p hp => ?_⟩
  have nP := fun z => Vs_nf b (E.up s) p z hp
  refine q _ _ (s.trans (same_upd hp)) (.lst (.inl (.inl (vw_of nP upd_same))) (DpAll_mono (vw_up (same_upd hp)) _ _ hv))
/-- a def's promise by data -/
def SpD (K : PySem.W.Frag) (n : Nat) (F : List D → Option D) : Sp := fun vs H Q _ => ∃ ds d P, DpAll K (vw P H) vs ds ∧ F ds = some d ∧ ds.length = n ∧ NF P H ∧ ∀ v H', Same H H' → Dp K (vw P H') v d → Q v H'
theorem SpD.len {K : PySem.W.Frag} {n : Nat} {F : List D → Option D} {vs : List V} {H : Hp} {Q : VK} {E : XK} (h : SpD K n F vs H Q E) : vs.length = n := by
  obtain ⟨ds, d, P, h1, _, h3, _⟩ := h
  rw [DpAll_len h1, h3]
theorem pd_call {k : Nat} {f : Addr} {fd : FuncData} {ps : List Str} {x : Str} {p : Pos} {F : List D → Option D} (G : FnOk X.prog X.w X.K X.mg X.base CX0 k f fd ps (SpD X.K (e :: es).length F)) (hr : Room k X.A) (hg : Gl X x) (hm : X.mg x = some (.ref f)) (hk : PySem.W.keepIn X.K (.ref f) = true) (hb : Binds X.K fd ps [])
    (ha : PAd X b (e :: es) gs) (hdb : (x == ("__debug__" : Str)) = false := by decide) (he : starEach (e :: es) X.env = (false, eval e X.env) :: starEach es X.env := by rfl) (hpl : (backTo pos (starEach es X.env)).any (·.1) = false := by rfl) :
    PEd X b (.Call (.Name x p) (e :: es) [] pos) (gArgs F gs) := by
  obtain ⟨t, ht, hh⟩ := ha
  refine ⟨_, pe_call (E := fun _ _ _ => False) G hr hg hm hk hb .nil pass0 ht hdb he hpl, fun H0 M env σ H pa d Q E h q => ?_⟩
  obtain ⟨ds, h1, h2⟩ := bind1 h
  refine hh H0 M env σ H pa ds _ E h1 fun vs H' s hv hl => ?_
  refine ⟨ds, d, _, by rw [List.append_nil]; exact hv, h2, hl, Vs_nf b (E.up s), fun v H'' s' hv' => q v H'' (s.trans s') hv'⟩
theorem pd_callB {x : Str} {p : Pos} {id : String} {r : List V → Hp → VK → Prop} {f : List D → Option D} (hc : CallR X (.builtin id) r) (hf : CaD X.K r f) (hg : Gl X x) (hm : X.mg x = none) (hv : bootBuiltins x = some (.builtin id)) (ha : PAd X b (e :: es) gs) (hn : x ≠ "__name__" := by decide) (hdb : (x == ("__debug__" : Str)) = false := by decide)
    (he : starEach (e :: es) X.env = (false, eval e X.env) :: starEach es X.env := by rfl) (hpl : (backTo pos (starEach es X.env)).any (·.1) = false := by rfl) : PEd X b (.Call (.Name x p) (e :: es) [] pos) (gArgs f gs) := by
  obtain ⟨t, ht, hh⟩ := ha
  refine ⟨_, pe_callB hc hg hm hv ht hn hdb he hpl, fun H0 M env σ H pa d Q E h q => ?_⟩
  obtain ⟨ds, h1, h2⟩ := bind1 h
  refine hh H0 M env σ H pa ds _ E h1 fun vs H' s hv hl => ?_
  exact hf _ H' vs ds d Q (Vs_nf b (E.up s)) hv h2 fun v H'' s' hv' => q v H'' (s.trans s') hv'
theorem pd_callTy {x : Str} {p : Pos} {T : String} {r : List V → Hp → VK → Prop} {f : List D → Option D} (hc : CallR X (.type T) r) (hf : CaD X.K r f) (hg : Gl X x) (hm : X.mg x = none) (hv : bootBuiltins x = some (.type T)) (ha : PAd X b (e :: es) gs) (hn : x ≠ "__name__" := by decide) (hdb : (x == ("__debug__" : Str)) = false := by decide)
    (he : starEach (e :: es) X.env = (false, eval e X.env) :: starEach es X.env := by rfl) (hpl : (backTo pos (starEach es X.env)).any (·.1) = false := by rfl) : PEd X b (.Call (.Name x p) (e :: es) [] pos) (gArgs f gs) := by
  obtain ⟨t, ht, hh⟩ := ha
  refine ⟨_, pe_callTy hc hg hm hv ht hn hdb he hpl, fun H0 M env σ H pa d Q E h q => ?_⟩
  obtain ⟨ds, h1, h2⟩ := bind1 h
  refine hh H0 M env σ H pa ds _ E h1 fun vs H' s hv hl => ?_
  exact hf _ H' vs ds d Q (Vs_nf b (E.up s)) hv h2 fun v H'' s' hv' => q v H'' (s.trans s') hv'
end
end Dn

namespace Dn
open PySem PySem.Spec PyProof.Rows L2

/-! ### 4. statements -/
def Post (K : PySem.W.Frag) (H0 : Hp) (M : Addr → Prop) (o : Out) (T : Ends) : Prop := match o with
  | .nx env => ∀ σ H pa, EO K H0 M env σ H pa → T.nx σ H
  | .ret d => ∀ v H, Same H0 H → Dp K (vw M H) v d → T.rt v H
  | .bk env => ∀ σ H pa, EO K H0 M env σ H pa → T.bk σ H
  | .ct env => ∀ σ H pa, EO K H0 M env σ H pa → T.ct σ H
def RdS (K : PySem.W.Frag) (t : TS) (g : GS) : Prop := ∀ (H0 : Hp) (M : Addr → Prop) (env : Env) (σ : Sg) (H : Hp) (pa : Nat → Addr) (o : Out) (T : Ends), EO K H0 M env σ H pa → g env = some o → Post K H0 M o T → t T σ H
def PSd (X : Cx) (st : Stmt) (g : GS) : Prop := ∃ t, PS X st t ∧ RdS X.K t g
def PSsd (X : Cx) (sts : List Stmt) (g : GS) : Prop := ∃ t, PSs X sts t ∧ RdS X.K t g
/-- a target -/
def PGd (X : Cx) (tg : Expr) (t : GT) : Prop := ∃ g, PG X tg g ∧ ∀ (H0 : Hp) (M : Addr → Prop) (env : Env) (σ : Sg) (H : Hp) (pa : Nat → Addr) (v : V) (d : D) (env' : Env) (Q : Sg → Hp → Prop), EO X.K H0 M env σ H pa → Dp X.K (vw (Hd M env pa) H) v d → t d env = some env' →
  (∀ σ' H' pa', EO X.K H0 M env' σ' H' pa' → Q σ' H') → g v σ H Q
def PGsd (X : Cx) (tgs : List Expr) (ts : List GT) : Prop := ∃ g, PGs X tgs g ∧ ∀ (H0 : Hp) (M : Addr → Prop) (env : Env) (σ : Sg) (H : Hp) (pa : Nat → Addr) (vs : List V) (ds : List D) (env' : Env) (Q : Sg → Hp → Prop), EO X.K H0 M env σ H pa → DpAll X.K (vw (Hd M env pa) H) vs ds → tTup2 ts ds env = some env' →
  (∀ σ' H' pa', EO X.K H0 M env' σ' H' pa' → Q σ' H') → g vs σ H Q
/-- what a loop walks -/
structure Wk (K : PySem.W.Frag) (Hc : Hp) (J : It) (ds : List D) : Prop where
  stop : ∀ H2, Same Hc H2 → J.stop ds.length H2
  go : ∀ (i : Nat) (d : D) H2, Same Hc H2 → ds[i]? = some d → J.go i H2 ∧ ∀ x H3, J.yld i H2 x H3 → Same H2 H3 ∧ ∀ P, NF P H2 → Same Hc (vw P H2) → Dp K (vw P H3) x d
def PId (X : Cx) (tg iter : Expr) (b : Bool) (g : GA) : Prop := ∃ wi, PI X tg iter wi ∧ ∀ (H0 : Hp) (M : Addr → Prop) (env : Env) (σ : Sg) (H : Hp) (pa : Nat → Addr) (ds : List D) (R : It → Hp → Prop), EO X.K H0 M env σ H pa → g env = some ds →
  (∀ J H', Same H H' → Wk X.K (vw (Vs b M env pa) H') J ds → R J H') → wi σ H R
section
variable {X : Cx} {b : Bool} {e a c tg iter : Expr} {es tgs : List Expr} {pos : Pos} {ga gb : GE} {gS gT' : GS} {st : Stmt} {sts body : List Stmt} {cB : GB}

theorem psd_nil : PSsd X [] sNx := ⟨_, pss_nil, fun H0 M env σ H pa o T E h q => by cases h; exact q σ H pa E⟩
theorem psd_cons (h1 : PSd X st gS) (h2 : PSsd X sts gT') : PSsd X (st :: sts) (sSeq gS gT') := by
  obtain ⟨t, ht, hh⟩ := h1
  obtain ⟨u, hu, hh'⟩ := h2
  refine ⟨_, pss_cons ht hu, fun H0 M env σ H pa o T E h q => ?_⟩
  obtain ⟨o1, h1, h2⟩ := bind1 h
  refine hh H0 M env σ H pa o1 { T with nx := u T } E h1 ?_
  cases o1 with
  | nx env1 => exact fun σ' H' pa' E' => hh' H0 M env1 σ' H' pa' o T E' h2 q
  | ret d => cases h2; exact q
  | bk env1 => cases h2; exact q
  | ct env1 => cases h2; exact q
theorem psd_one (h1 : PSd X st gS) : PSsd X [st] gS := by
  obtain ⟨t, ht, hh⟩ := h1
  exact ⟨t, pss_one ht, hh⟩
/-- a name's own list is given up ahead of what follows -/
theorem psd_frz (i : Nat) (h : PSsd X sts gS) : PSsd X sts (fun env => gS (frz i env)) := by
  obtain ⟨t, ht, hh⟩ := h
  exact ⟨t, ht, fun H0 M env σ H pa o T E h q => hh H0 M _ σ H pa o T (E.frz i) h q⟩
theorem ps_frz (i : Nat) (h : PSd X st gS) : PSd X st (fun env => gS (frz i env)) := by
  obtain ⟨t, ht, hh⟩ := h
  exact ⟨t, ht, fun H0 M env σ H pa o T E h q => hh H0 M _ σ H pa o T (E.frz i) h q⟩
theorem sd_pass : PSd X (.Pass pos) sNx := ⟨_, ps_pass, fun H0 M env σ H pa o T E h q => by cases h; exact q σ H pa E⟩
theorem sd_break : PSd X (.Break pos) sBk := ⟨_, ps_break, fun H0 M env σ H pa o T E h q => by cases h; exact q σ H pa E⟩
theorem sd_cont : PSd X (.Continue pos) sCt := ⟨_, ps_continue, fun H0 M env σ H pa o T E h q => by cases h; exact q σ H pa E⟩
theorem sd_ret (he : PEd X true e ga) : PSd X (.Return (some e) pos) (sRet ga) := by
  obtain ⟨t, ht, hh⟩ := he
  refine ⟨_, ps_ret ht, fun H0 M env σ H pa o T E h q => ?_⟩
  obtain ⟨d, h1, h2⟩ := bind1 h
  cases h2
  exact hh H0 M env σ H pa d _ E h1 fun v H' s hv => q v H' (E.same.trans s) hv
theorem sd_retN : PSd X (.Return none pos) sRetN := ⟨_, ps_retN, fun H0 M env σ H pa o T E h q => by cases h; exact q _ H E.same .non⟩
theorem sd_if (hc : PTd X c cB) (ha : PSsd X sts gS) (hb : PSsd X body gT') : PSd X (.If c sts body pos) (sIf cB gS gT') := by
  obtain ⟨t0, ht0, hh0⟩ := hc
  obtain ⟨t1, ht1, hh1⟩ := ha
  obtain ⟨t2, ht2, hh2⟩ := hb
  refine ⟨_, ps_if ht0 ht1 ht2, fun H0 M env σ H pa o T E h q => ?_⟩
  obtain ⟨k, h1, h2⟩ := bind1 h
  refine hh0 H0 M env σ H pa k _ E h1 fun H' s => ?_
  cases k with
  | true =>
    rw [if_pos rfl] at h2 ⊢
    exact hh1 H0 M env σ H' pa o T (E.up s) h2 q
  | false =>
    rw [if_neg (by decide)] at h2 ⊢
    exact hh2 H0 M env σ H' pa o T (E.up s) h2 q
theorem gd_name {i : Nat} {x : Str} (hN : X.N.Nodup) (hi : X.N[i]? = some x) (hx : Loc X.env.scope x) (hf : X.fn x = true ∨ X.env.scope.names.lookup x = some .local := by first | exact .inl rfl | exact .inr rfl | assumption) : PGd X (.Name x pos) (tName i) := by
  refine ⟨_, pg_name hN hi hx hf, fun H0 M env σ H pa v d env' Q E hv h q => ?_⟩
  cases h
  exact q _ H pa (E.setVal hv)
theorem gsd_nil : PGsd X [] [] := by
  refine ⟨_, pgs_nil, fun H0 M env σ H pa vs ds env' Q E hv h q => ?_⟩
  cases hv with
  | nil => cases h; exact ⟨rfl, q _ _ _ E⟩
  | cons _ _ => cases h
/-- the values still to come stay as data while the first names are set -/
theorem gsd_cons {t : GT} {ts : List GT} (h1 : PGd X e t) (h2 : PGsd X es ts) (hs : (assignEach (e :: es) X.env).map (·.2) = assign e X.env :: (assignEach es X.env).map (·.2) := by rfl)
    (hm : ∀ d env env' pa a, t d env = some env' → Ow env' pa a → Ow env pa a) (hh : ∃ g, PG X e g ∧ ∀ (H0 : Hp) (M : Addr → Prop) (env : Env) (σ : Sg) (H : Hp) (pa : Nat → Addr) (v : V) (d : D) (env' : Env) (Q : Sg → Hp → Prop), EO X.K H0 M env σ H pa → Dp X.K (vw (Hd M env pa) H) v d → t d env = some env' →
      (∀ σ' H', Same H H' → EO X.K H0 M env' σ' H' pa → Q σ' H') → g v σ H Q) : PGsd X (e :: es) (t :: ts) := by
  obtain ⟨g, hg, hh⟩ := hh
  obtain ⟨u, hu, hh'⟩ := h2
  refine ⟨_, pgs_cons hg hu hs, fun H0 M env σ H pa vs ds env' Q E hv h q => ?_⟩
  cases hv with
  | nil => cases h
  | cons hv1 hv2 =>
    obtain ⟨env1, h1, h2⟩ := bind1 h
    refine ⟨_, _, rfl, hh H0 M env σ H pa _ _ env1 _ E hv1 h1 fun σ' H' s E' => ?_⟩
    refine hh' H0 M env1 σ' H' pa _ _ env' Q E' (DpAll_mono (vw_same s fun a o _ z => ?_) _ _ hv2) h2 q
    rcases z with z | z
    · exact .inl z
    · exact .inr (hm _ _ _ _ _ h1 z)
/-- a target that is a name or a tuple of names: no heap is written -/
def PGq (X : Cx) (tg : Expr) (t : GT) : Prop := ∃ g, PG X tg g ∧ (∀ d env env' pa a, t d env = some env' → Ow env' pa a → Ow env pa a) ∧ ∀ (H0 : Hp) (M : Addr → Prop) (env : Env) (σ : Sg) (H : Hp) (pa : Nat → Addr) (v : V) (d : D) (env' : Env) (Q : Sg → Hp → Prop), EO X.K H0 M env σ H pa → Dp X.K (vw (Hd M env pa) H) v d → t d env = some env' →
      (∀ σ' H', Same H H' → EO X.K H0 M env' σ' H' pa → Q σ' H') → g v σ H Q
theorem PGq.d {t : GT} (h : PGq X tg t) : PGd X tg t := by
  obtain ⟨g, hg, _, hh⟩ := h
  exact ⟨g, hg, fun H0 M env σ H pa v d env' Q E hv h q => hh H0 M env σ H pa v d env' Q E hv h fun σ' H' _ E' => q σ' H' pa E'⟩
theorem gq_name {i : Nat} {x : Str} (hN : X.N.Nodup) (hi : X.N[i]? = some x) (hx : Loc X.env.scope x) (hf : X.fn x = true ∨ X.env.scope.names.lookup x = some .local := by first | exact .inl rfl | exact .inr rfl | assumption) : PGq X (.Name x pos) (tName i) := by
  refine ⟨_, pg_name hN hi hx hf, fun d env env' pa a h z => ?_, fun H0 M env σ H pa v d env' Q E hv h q => ?_⟩
  · cases h
    exact ow_set_val z
  · cases h
    exact q _ H (Same.refl H) (E.setVal hv)
def PGsq (X : Cx) (tgs : List Expr) (ts : List GT) : Prop := ∃ g, PGs X tgs g ∧ (∀ ds env env' pa a, tTup2 ts ds env = some env' → Ow env' pa a → Ow env pa a) ∧ ∀ (H0 : Hp) (M : Addr → Prop) (env : Env) (σ : Sg) (H : Hp) (pa : Nat → Addr) (vs : List V) (ds : List D) (env' : Env) (Q : Sg → Hp → Prop), EO X.K H0 M env σ H pa → DpAll X.K (vw (Hd M env pa) H) vs ds → tTup2 ts ds env = some env' →
      (∀ σ' H', Same H H' → EO X.K H0 M env' σ' H' pa → Q σ' H') → g vs σ H Q
theorem gsq_nil : PGsq X [] [] := by
  refine ⟨_, pgs_nil, fun ds env env' pa a h z => ?_, fun H0 M env σ H pa vs ds env' Q E hv h q => ?_⟩
  · cases ds with
    | nil => cases h; exact z
    | cons _ _ => cases h
  · cases hv with
    | nil => cases h; exact ⟨rfl, q _ _ (Same.refl H) E⟩
    | cons _ _ => cases h
theorem gsq_cons {t : GT} {ts : List GT} (h1 : PGq X e t) (h2 : PGsq X es ts) (hs : (assignEach (e :: es) X.env).map (·.2) = assign e X.env :: (assignEach es X.env).map (·.2) := by rfl) : PGsq X (e :: es) (t :: ts) := by
  obtain ⟨g, hg, hm, hh⟩ := h1
  obtain ⟨u, hu, hm', hh'⟩ := h2
  refine ⟨_, pgs_cons hg hu hs, fun ds env env' pa a h z => ?_, fun H0 M env σ H pa vs ds env' Q E hv h q => ?_⟩
  · cases ds with
    | nil => cases h
    | cons d ds =>
      obtain ⟨env1, h1, h2⟩ := bind1 h
      exact hm _ _ _ _ _ h1 (hm' _ _ _ _ _ h2 z)
  · cases hv with
    | nil => cases h
    | cons hv1 hv2 =>
      obtain ⟨env1, h1, h2⟩ := bind1 h
      refine ⟨_, _, rfl, hh H0 M env σ H pa _ _ env1 _ E hv1 h1 fun σ' H' s E' => ?_⟩
      refine hh' H0 M env1 σ' H' pa _ _ env' Q E' (DpAll_mono (vw_same s fun a o _ z => ?_) _ _ hv2) h2 fun σ'' H'' s' => q σ'' H'' (s.trans s')
      rcases z with z | z
      · exact .inl z
      · exact .inr (hm _ _ _ _ _ h1 z)
theorem gq_tup {k : Nat} {ts : List GT} (hc : X.calm = true) (h : PGsq X es ts) (hl : ts.length = es.length := by rfl) (hn : (assignEach es X.env).length = es.length := by rfl) (hst : (assignEach es X.env).findIdx? (·.1) = none := by rfl) : PGq X (.Tuple es k pos) (tTuple ts) := by
  obtain ⟨g, hg, hm, hh⟩ := h
  refine ⟨_, pg_tup (n := es.length) hc hg hn hst, fun d env env' pa a h z => ?_, fun H0 M env σ H pa v d env' Q E hv h q => ?_⟩
  · cases d with
    | tuple ds => exact hm ds env env' pa a h z
    | _ => cases h
  · cases hv with
    | tup hs ha =>
      have h : tTup2 ts _ env = some env' := h
      have len : ∀ (ts : List GT) (ds : List D) (env env' : Env), tTup2 ts ds env = some env' → ds.length = ts.length := by
        intro ts
        induction ts with
        | nil => intro ds env env' h; cases ds with
          | nil => rfl
          | cons _ _ => cases h
        | cons t ts ih => intro ds env env' h; cases ds with
          | nil => cases h
          | cons d ds =>
            obtain ⟨env1, h1, h2⟩ := bind1 h
            rw [List.length_cons, List.length_cons, ih ds env1 env' h2]
      refine ⟨_, _, rfl, seqT vw_le hs, by rw [DpAll_len ha, len _ _ _ _ h, hl], hh H0 M env σ H pa _ _ env' Q E ha h q⟩
    | _ => cases h
theorem sd_asg {t : GT} (he : PEd X false e ga) (hg : PGd X tg t) (hs : swapsWithSole [tg] e pos.line X.env = pure false := by rfl) (hw : swappedStores [tg] e X.env = pure none := by rfl)
    (h1 : (assignEach [tg] X.env).map (·.2) = [assign tg X.env] := by rfl) : PSd X (.Assign [tg] e pos) (sAsg ga t) := by
  obtain ⟨t0, ht, hh⟩ := he
  obtain ⟨g, hg, hh'⟩ := hg
  refine ⟨_, ps_asg ht hg hs hw h1, fun H0 M env σ H pa o T E h q => ?_⟩
  obtain ⟨d, h1, h2⟩ := bind1 h
  obtain ⟨env', h3, h4⟩ := bind1 h2
  cases h4
  exact hh H0 M env σ H pa d _ E h1 fun v H' s hv => hh' H0 M env σ H' pa v d env' _ (E.up s) hv h3 q
theorem sd_set {i : Nat} {x : Str} {pos' : Pos} (hN : X.N.Nodup) (hi : X.N[i]? = some x) (hx : Loc X.env.scope x) (he : PEd X false e ga) (hs : swapsWith e (some (.Name x pos')) pos.line X.env = pure false := by rfl) (hf : X.fn x = true ∨ X.env.scope.names.lookup x = some .local := by first | exact .inl rfl | exact .inr rfl | assumption) :
    PSd X (.Assign [.Name x pos'] e pos) (sSet i ga) := by
  obtain ⟨t0, ht, hh⟩ := he
  refine ⟨_, ps_set hN hi hx ht hs hf, fun H0 M env σ H pa o T E h q => ?_⟩
  obtain ⟨d, h1, h2⟩ := bind1 h
  cases h2
  exact hh H0 M env σ H pa d _ E h1 fun v H' s hv => q _ H' pa ((E.up s).setVal hv)
theorem sd_par {i j : Nat} {x y : Str} {px py pt : Pos} {kt k2 pt2} (hc : X.calm = true) (hN : X.N.Nodup) (hi : X.N[i]? = some x) (hj : X.N[j]? = some y) (hij : i ≠ j)
    (hx : X.env.scope.names.lookup x = some .local) (hy : X.env.scope.names.lookup y = some .local) (ha : PEd X false a ga) (hb : PEd X false c gb)
    (hw : swappedStores [.Tuple [.Name x px, .Name y py] kt pt] (.Tuple [a, c] k2 pt2) X.env = pure (some [x, y]) := by rfl)
    (hs : swapsWithSole [.Tuple [.Name x px, .Name y py] kt pt] (.Tuple [a, c] k2 pt2) pos.line X.env = pure false := by rfl)
    (hs1 : starEach [a, c] X.env = (false, eval a X.env) :: starEach [c] X.env := by rfl) (hs2 : starEach [c] X.env = (false, eval c X.env) :: starEach [] X.env := by rfl) :
    PSd X (.Assign [.Tuple [.Name x px, .Name y py] kt pt] (.Tuple [a, c] k2 pt2) pos) (sPar i j ga gb) := by
  obtain ⟨t1, ht1, hh1⟩ := ha
  obtain ⟨t2, ht2, hh2⟩ := hb
  refine ⟨_, ps_par hc hN hi hj hij hx hy (pa_cons ht1 (pa_cons ht2 pa_nil hs2) hs1) hw hs, fun H0 M env σ H pa o T E h q => ?_⟩
  obtain ⟨d1, d2, h1, h2, h3⟩ := bind2 h
  cases h3
  refine hh1 H0 M env σ H pa d1 _ E h1 fun v H1 s1 hv => hh2 H0 M env σ H1 pa d2 _ (E.up s1) h2 fun u H2 s2 hu => ⟨v, u, rfl, ?_⟩
  have E2 := (E.up s1).up s2
  refine q _ H2 pa ((E2.setVal (Dp_mono (vw_up s2) _ _ hv)).setVal (Dp_mono (vw_same (Same.refl _) fun a o _ z => ?_) _ _ hu))
  rcases z with z | z
  · exact .inl z
  · exact .inr (ow_set_val z)
theorem sd_aug {i : Nat} {x : Str} {op : Operator} {r : R2} {f : D → D → Option D} {pos' : Pos} (hN : X.N.Nodup) (hi : X.N[i]? = some x) (hx : Loc X.env.scope x) (ho : OpR X (inplaceOp op) r) (hf : OpD X.K r f) (he : PEd X false e ga) (hfn : X.fn x = true ∨ X.env.scope.names.lookup x = some .local := by first | exact .inl rfl | exact .inr rfl | assumption) :
    PSd X (.AugAssign (.Name x pos') op e pos) (sAug i f ga) := by
  obtain ⟨t0, ht, hh⟩ := he
  refine ⟨_, ps_aug hN hi hx ht ho hfn, fun H0 M env σ H pa o T E h q => ?_⟩
  obtain ⟨d1, d2, h1, h2, h3⟩ := bind2 h
  obtain ⟨z, h4, h5⟩ := bind1 h3
  cases h5
  have hi' : env[i]? = some (Slot.val d1) := by
    unfold gVar look at h1
    split at h1
    · rename_i d' hi
      cases h1
      exact hi
    · cases h1
  obtain ⟨v, g1, g2⟩ := E.val i d1 hi'
  refine ⟨v, g1, hh H0 M env σ H pa d2 _ E h2 fun u H' s hu => ?_⟩
  exact hf _ H' v u d1 d2 z _ (Vs_nf false (E.up s)) (Dp_mono (vw_up s) _ _ g2) hu h4 fun w H'' s' hw => q _ H'' pa (((E.up s).up s').setVal hw)
theorem sd_expr (he : PEd X true e ga) (hs : swapsWith e none pos.line X.env = pure false := by rfl) : PSd X (.Expr e pos) (sDrop ga) := by
  obtain ⟨t0, ht, hh⟩ := he
  refine ⟨_, ps_expr ht hs, fun H0 M env σ H pa o T E h q => ?_⟩
  obtain ⟨d, h1, h2⟩ := bind1 h
  cases h2
  exact hh H0 M env σ H pa d _ E h1 fun v H' s hv => q _ H' pa (E.up s)
/-- name = [..], a list of its own -/
theorem sd_own {i : Nat} {x : Str} {pos' pl : Pos} {gs : GA} (hN : X.N.Nodup) (hi : X.N[i]? = some x) (hx : Loc X.env.scope x) (he : PAd X false es gs) (hz : es.length ≤ lim := by decide) (hs : swapsWith (.List es pl) (some (.Name x pos')) pos.line X.env = pure false := by rfl) (hf : X.fn x = true ∨ X.env.scope.names.lookup x = some .local := by first | exact .inl rfl | exact .inr rfl | assumption) :
    PSd X (.Assign [.Name x pos'] (.List es pl) pos) (sOwn i gs) := by
  obtain ⟨t0, ht, hh⟩ := he
  refine ⟨_, ps_set hN hi hx (pe_lst ht) hs hf, fun H0 M env σ H pa o T E h q => ?_⟩
  obtain ⟨ds, h1, h2⟩ := bind1 h
  cases h2
  refine hh H0 M env σ H pa ds _ E h1 fun vs H' s hv hl => ⟨by rw [DpAll_len hv, hl, ← lim_eq]; exact hz, fun p hp => ?_⟩
  exact q _ _ _ ((E.up s).setOwn hp hv)

/-! loops -/
theorem Wk.list {K : PySem.W.Frag} {P : Addr → Prop} {H : Hp} {v : V} {ds : List D} (h : Dp K (vw P H) v (.list ds)) : ∃ a, v = .ref a ∧ (∃ xs, SqL K H a xs) ∧ Wk K (vw P H) (Itl K a) ds := by
  cases h with
  | lst hs ha =>
    rename_i a xs
    refine ⟨a, rfl, ⟨xs, vw_le.seq hs⟩, ⟨fun H2 s => ⟨xs, s.seq hs, by rw [DpAll_len ha]; exact Nat.le_refl _⟩, fun i d H2 s hd => ?_⟩⟩
    obtain ⟨x, hx, dx⟩ := DpAll_get ha hd
    refine ⟨⟨xs, x, s.seq hs, hx⟩, fun y H3 hy => ?_⟩
    obtain ⟨rfl, hy⟩ := hy
    refine ⟨Same.refl _, fun P' _ s' => ?_⟩
    have e : y = x := Option.some.inj ((hy xs (s.seq hs)).symm.trans hx)
    rw [e]
    exact Dp_mono s' _ _ dx
theorem Wk.tup {K : PySem.W.Frag} {P : Addr → Prop} {H : Hp} {v : V} {ds : List D} (h : Dp K (vw P H) v (.tuple ds)) : ∃ a, v = .ref a ∧ (∃ xs, SqT K H a xs) ∧ Wk K (vw P H) (Itt K a) ds := by
  cases h with
  | tup hs ha =>
    rename_i a xs
    refine ⟨a, rfl, ⟨xs, seqT vw_le hs⟩, ⟨fun H2 s => ⟨xs, seqT s hs, by rw [DpAll_len ha]; exact Nat.le_refl _⟩, fun i d H2 s hd => ?_⟩⟩
    obtain ⟨x, hx, dx⟩ := DpAll_get ha hd
    refine ⟨⟨xs, x, seqT s hs, hx⟩, fun y H3 hy => ?_⟩
    obtain ⟨rfl, hy⟩ := hy
    refine ⟨Same.refl _, fun P' _ s' => ?_⟩
    have e : y = x := Option.some.inj ((hy xs (seqT s hs)).symm.trans hx)
    rw [e]
    exact Dp_mono s' _ _ dx
theorem Wk.range {K : PySem.W.Frag} {Hc : Hp} (lo : Int) (n : Nat) : Wk K Hc (Itr lo n) (rngD lo n) := by
  refine ⟨fun H2 s => ?_, fun i d H2 s hd => ?_⟩
  · show n ≤ (rngD lo n).length
    unfold rngD
    rw [List.length_map, List.length_range]
    exact Nat.le_refl _
  · unfold rngD at hd
    rw [List.getElem?_map] at hd
    by_cases hi : i < n
    · rw [List.getElem?_range hi] at hd
      cases hd
      refine ⟨hi, fun x H3 hx => ?_⟩
      obtain ⟨rfl, rfl⟩ := hx
      exact ⟨Same.refl _, fun P _ _ => .int _⟩
    · rw [List.getElem?_eq_none (by rw [List.length_range]; omega)] at hd
      cases hd
/-- a list -/
def gLst (a : GE) : GA := fun env => (a env).bind asLst
def gTpl (a : GE) : GA := fun env => (a env).bind asTpl
theorem id_list (he : PEd X b iter ga) : PId X tg iter b (gLst ga) := by
  obtain ⟨t0, ht, hh⟩ := he
  refine ⟨_, pi_list ht, fun H0 M env σ H pa ds R E h q => ?_⟩
  obtain ⟨d, h1, h2⟩ := bind1 h
  cases d with
  | list ds' =>
    cases h2
    refine hh H0 M env σ H pa _ _ E h1 fun v H' s hv => ?_
    obtain ⟨a, rfl, hx, w⟩ := Wk.list hv
    exact ⟨a, rfl, hx, q _ H' s w⟩
  | _ => cases h2
theorem id_tup (he : PEd X b iter ga) : PId X tg iter b (gTpl ga) := by
  obtain ⟨t0, ht, hh⟩ := he
  refine ⟨_, pi_tup ht, fun H0 M env σ H pa ds R E h q => ?_⟩
  obtain ⟨d, h1, h2⟩ := bind1 h
  cases d with
  | tuple ds' =>
    cases h2
    refine hh H0 M env σ H pa _ _ E h1 fun v H' s hv => ?_
    obtain ⟨a, rfl, hx, w⟩ := Wk.tup hv
    exact ⟨a, rfl, hx, q _ H' s w⟩
  | _ => cases h2
theorem id_range1 {p : Pos} (hg : Gl X "range") (hm : X.mg "range" = none) (ha : PEd X true a ga) (hs : starEach [a] X.env = [(false, eval a X.env)] := by rfl) (hs1 : starEach [a] X.env = (false, eval a X.env) :: starEach [] X.env := by rfl) : PId X tg (.Call (.Name "range" p) [a] [] pos) b (gRange1 ga) := by
  obtain ⟨t0, ht, hh⟩ := ha
  refine ⟨_, pi_range1 hg hm (pa_cons ht pa_nil hs1) hs, fun H0 M env σ H pa ds R E h q => ?_⟩
  obtain ⟨d, h1, h2⟩ := bind1 h
  cases d with
  | int n =>
    have h2 : (if rgOk n = true then some (rngD 0 n.toNat) else none) = some ds := h2
    split at h2
    · rename_i hn
      have hn := rgOk_of hn
      cases h2
      refine hh H0 M env σ H pa _ _ E h1 fun v H' s hv => ?_
      cases hv
      exact ⟨n, rfl, hn.2, hn.1, q _ H' s (Wk.range 0 n.toNat)⟩
    · cases h2
  | _ => cases h2
theorem id_range2 {p : Pos} (hg : Gl X "range") (hm : X.mg "range" = none) (ha : PEd X true a ga) (hb : PEd X true c gb) (hs : starEach [a, c] X.env = [(false, eval a X.env), (false, eval c X.env)] := by rfl) (hs2 : starEach [c] X.env = [(false, eval c X.env)] := by rfl)
    (hs3 : starEach [a, c] X.env = (false, eval a X.env) :: starEach [c] X.env := by rfl) (hs4 : starEach [c] X.env = (false, eval c X.env) :: starEach [] X.env := by rfl) : PId X tg (.Call (.Name "range" p) [a, c] [] pos) b (gRange2 ga gb) := by
  obtain ⟨t1, ht1, hh1⟩ := ha
  obtain ⟨t2, ht2, hh2⟩ := hb
  refine ⟨_, pi_range2 hg hm (pa_cons ht1 (pa_cons ht2 pa_nil hs4) hs3) hs hs2, fun H0 M env σ H pa ds R E h q => ?_⟩
  obtain ⟨d1, d2, h1, h2, h3⟩ := bind2 h
  cases d1 with
  | int i =>
    cases d2 with
    | int j =>
      have h3 : (if (rgOk i && rgOk j) = true then some (rngD i (j - i).toNat) else none) = some ds := h3
      split at h3
      · rename_i hn
        have hn := Bool.and_eq_true_iff.mp hn
        have hi := rgOk_of hn.1
        have hj := rgOk_of hn.2
        have hn := And.intro hi.2 (And.intro hi.1 (And.intro hj.2 hj.1))
        cases h3
        refine hh1 H0 M env σ H pa _ _ E h1 fun v H1 s1 hv => hh2 H0 M env σ H1 pa _ _ (E.up s1) h2 fun u H2 s2 hu => ?_
        cases hv
        cases hu
        exact ⟨i, j, rfl, hn, q _ H2 (s1.trans s2) (Wk.range i _)⟩
      · cases h3
    | _ => cases h3
  | _ => cases h3
theorem ow_hidden {H : Hp} {env : Env} {pa : Nat → Addr} {K : PySem.W.Frag} {H0 : Hp} {M : Addr → Prop} {σ : Sg} (E : EO K H0 M env σ H pa) : EO K (vw (Ow env pa) H) M env σ H pa := by
  refine ⟨vw_le, E.hid, E.len, E.val, fun i ds h => ?_, E.inj⟩
  · obtain ⟨h1, h2, h3⟩ := E.ow i ds h
    refine ⟨h1, ⟨?_, h2.2⟩, h3⟩
    cases q : vw (Ow env pa) H (pa i) with
    | none => rfl
    | some o => exact absurd ⟨i, ds, h, rfl⟩ (vw_some q).1
/-- from what was kept inside a loop back to what the caller wants kept -/
theorem EO.back {H : Hp} {env env' : Env} {pa pa' : Nat → Addr} {K : PySem.W.Frag} {H0 H1 : Hp} {M : Addr → Prop} {σ σ' : Sg} (E : EO K H0 M env σ H1 pa) (E' : EO K (vw (Ow env pa) H1) M env' σ' H pa') : EO K H0 M env' σ' H pa' := by
  have le : Same H0 (vw (Ow env pa) H1) := fun b o h => vw_of (fun ⟨i, ds, h1, h2⟩ => by
    obtain ⟨_, q, _⟩ := E.ow i ds h1
    rw [h2, h] at q
    cases q.1) (E.same b o h)
  refine ⟨le.trans E'.same, E'.hid, E'.len, E'.val, fun i ds h => ?_, E'.inj⟩
  obtain ⟨h1, h2, h3⟩ := E'.ow i ds h
  exact ⟨h1, ⟨le.free h2.1, h2.2⟩, h3⟩
theorem sd_for {t : GT} {gi : GA} (hp : PassesOwn (model X.prog X.w) X.A X.env X.xe) (hc : X.calm = true) (hi : PId X tg iter false gi) (hg : PGd X tg t) (hb : PSsd X body gS) (hs : ∀ x, foldedSetIterable iter X.env x = pure x := by intro _; rfl) : PSd X (.For tg iter body [] pos) (sFor gi t gS) := by
  obtain ⟨wi, hwi, hhi⟩ := hi
  obtain ⟨g, hg, hhg⟩ := hg
  obtain ⟨tb, htb, hhb⟩ := hb
  refine ⟨_, ps_for hp hc hwi hg htb hs, fun H0 M env σ H pa o T E h q => ?_⟩
  obtain ⟨ds, h1, h2⟩ := bind1 h
  refine hhi H0 M env σ H pa ds _ E h1 fun J H1 s1 w => ?_
  have E1 := E.up s1
  have Eo := ow_hidden E1
  refine ⟨fun i m σ2 H2 => ∃ env2 pa2, EO X.K (vw (Ow env pa) H1) M env2 σ2 H2 pa2 ∧ m = ds.length - i ∧ i ≤ ds.length ∧ forG t gS (ds.drop i) env2 = some o, ⟨ds.length, env, pa, Eo, by simp, Nat.zero_le _, h2⟩, ?_⟩
  rintro i m σ2 H2 ⟨env2, pa2, E2, rfl, hi, h3⟩
  -- what is walked stands as it stood
  have le : Same (vw (Hd M env pa) H1) (vw (Ow env pa) H1) := vw_same (Same.refl _) fun _ _ _ z => .inr z
  have vis : Same (vw (Hd M env pa) H1) (vw (Hd M env2 pa2) H2) := fun a u hu => by
    obtain ⟨g1, g2⟩ := vw_some hu
    have k := le a u hu
    refine vw_of (fun z => ?_) (E2.same a u k)
    rcases z with z | ⟨j, es, z1, z2⟩
    · exact g1 (.inl z)
    · obtain ⟨_, g3, _⟩ := E2.ow j es z1
      rw [z2, k] at g3
      cases g3.1
  have to2 : Same (vw (Hd M env pa) H1) H2 := vis.trans vw_le
  by_cases hlt : i < ds.length
  · have hd : ds[i]? = some ds[i] := List.getElem?_eq_getElem hlt
    obtain ⟨go, yl⟩ := w.go i ds[i] H2 to2 hd
    have hdr : ds.drop i = ds[i] :: ds.drop (i + 1) := List.drop_eq_getElem_cons hlt
    rw [hdr] at h3
    obtain ⟨env3, h4, h5⟩ := bind1 (show (t ds[i] env2).bind _ = some o from h3)
    obtain ⟨ob, h6, h7⟩ := bind1 h5
    refine .inr ⟨go, fun σ' H' => ∃ env' pa', EO X.K (vw (Ow env pa) H1) M env' σ' H' pa' ∧ forG t gS (ds.drop (i + 1)) env' = some o, fun σ' H' ⟨env', pa', E', h'⟩ => ⟨ds.length - (i + 1), by omega, env', pa', E', rfl, hlt, h'⟩, fun x H3 hy => ?_⟩
    obtain ⟨s3, dx⟩ := yl x H3 hy
    have dx := dx (Hd M env2 pa2) (fun p hp' => E2.hidden hp') vis
    refine hhg _ M env2 σ2 H3 pa2 x ds[i] env3 _ (E2.up s3) dx h4 fun σ4 H4 pa4 E4 => ?_
    refine hhb _ M env3 σ4 H4 pa4 ob _ E4 h6 ?_
    cases ob with
    | nx env5 => exact fun σ5 H5 pa5 E5 => ⟨env5, pa5, E5, h7⟩
    | ct env5 => exact fun σ5 H5 pa5 E5 => ⟨env5, pa5, E5, h7⟩
    | bk env5 =>
      cases h7
      exact fun σ5 H5 pa5 E5 => q σ5 H5 pa5 (E1.back E5)
    | ret d =>
      cases h7
      refine fun v H5 s5 hv => q v H5 (fun a u hu => s5 a u ?_) hv
      have := E1.same a u hu
      exact vw_of (fun ⟨j, es, z1, z2⟩ => by
        obtain ⟨_, g3, _⟩ := E1.ow j es z1
        rw [z2, hu] at g3
        cases g3.1) this
  · have e : i = ds.length := by omega
    subst e
    refine .inl ⟨w.stop H2 to2, ?_⟩
    rw [List.drop_length] at h3
    cases h3
    exact q σ2 H2 pa2 (E1.back E2)
theorem sd_while (n : Nat) (hp : PassesOwn (model X.prog X.w) X.A X.env X.xe) (hc : PTd X c cB) (hb : PSsd X body gS) : PSd X (.While c body [] pos) (fun env => whileG cB gS n env) := by
  obtain ⟨tc, htc, hhc⟩ := hc
  obtain ⟨tb, htb, hhb⟩ := hb
  refine ⟨_, ps_while hp htc htb, fun H0 M env σ H pa o T E h q => ?_⟩
  refine ⟨fun m σ2 H2 => ∃ env2 pa2, EO X.K H0 M env2 σ2 H2 pa2 ∧ whileG cB gS m env2 = some o, ⟨n, env, pa, E, h⟩, ?_⟩
  rintro m σ2 H2 ⟨env2, pa2, E2, h2⟩
  cases m with
  | zero => cases h2
  | succ m =>
    obtain ⟨k, h3, h4⟩ := bind1 (show (cB env2).bind _ = some o from h2)
    refine hhc H0 M env2 σ2 H2 pa2 k _ E2 h3 fun H3 s3 => ?_
    cases k with
    | false =>
      rw [if_neg (by decide)] at h4 ⊢
      cases h4
      exact q σ2 H3 pa2 (E2.up s3)
    | true =>
      rw [if_pos rfl] at h4 ⊢
      obtain ⟨ob, h5, h6⟩ := bind1 h4
      refine ⟨fun σ' H' => ∃ env' pa', EO X.K H0 M env' σ' H' pa' ∧ whileG cB gS m env' = some o, fun σ' H' ⟨env', pa', E', h'⟩ => ⟨m, Nat.lt_succ_self m, env', pa', E', h'⟩, ?_⟩
      refine hhb H0 M env2 σ2 H3 pa2 ob _ (E2.up s3) h5 ?_
      cases ob with
      | nx env5 => exact fun σ5 H5 pa5 E5 => ⟨env5, pa5, E5, h6⟩
      | ct env5 => exact fun σ5 H5 pa5 E5 => ⟨env5, pa5, E5, h6⟩
      | bk env5 => cases h6; exact q
      | ret d => cases h6; exact q
/-! a def -/
theorem fn_d {N : List Str} {n : Nat} {vs : List V} {H : Hp} {Q : VK} {E : XK} (hb : PSsd X body gS) (hl : n ≤ N.length) (h : SpD X.K n (runF N.length n gS) vs H Q E) :
    ∃ t, PSs X body t ∧ t { nx := fun _ H' => Q .non H', rt := Q } (L2.start N vs) H := by
  obtain ⟨t, ht, hh⟩ := hb
  obtain ⟨ds, d, M, hv, hF, hn, nf, q⟩ := h
  have hlen := DpAll_len hv
  refine ⟨t, ht, ?_⟩
  unfold runF at hF
  rw [if_pos hn] at hF
  obtain ⟨o, h1, h2⟩ := bind1 hF
  have noown : ∀ (i : Nat) (es : Cont), (startE N.length ds)[i]? ≠ some (Slot.ow es) := fun i es z => by
    unfold startE at z
    by_cases hi : i < ds.length
    · rw [List.getElem?_append_left (by simpa using hi), List.getElem?_map] at z
      cases hx : ds[i]? with
      | none => rw [hx] at z; cases z
      | some u => rw [hx] at z; cases z
    · rw [List.getElem?_append_right (by simpa using hi), List.getElem?_replicate] at z
      split at z <;> cases z
  have E0 : EO X.K H M (startE N.length ds) (L2.start N vs) H (fun _ => 0) := by
    refine ⟨Same.refl H, nf, ?_, fun i e z => ?_, fun i es z => absurd z (noown i es), fun i j es fs z => absurd z (noown i es)⟩
    · unfold startE L2.start
      simp only [List.length_append, List.length_map, List.length_replicate]
      omega
    · unfold startE at z
      by_cases hi : i < ds.length
      · rw [List.getElem?_append_left (by simpa using hi), List.getElem?_map] at z
        cases hx : ds[i]? with
        | none => rw [hx] at z; cases z
        | some u =>
          rw [hx] at z
          cases z
          obtain ⟨v, hv1, hv2⟩ := DpAll_get hv hx
          refine ⟨v, ?_, Dp_mono (vw_same (Same.refl H) fun a _ _ z => ?_) _ _ hv2⟩
          · unfold L2.start
            rw [List.getElem?_append_left (by rw [List.length_map]; omega), List.getElem?_map, hv1]
            rfl
          · rcases z with z | ⟨j, es, z, _⟩
            · exact z
            · exact absurd z (noown j es)
      · rw [List.getElem?_append_right (by simpa using hi), List.getElem?_replicate] at z
        split at z <;> cases z
  refine hh H M _ _ H _ o _ E0 h1 ?_
  cases o with
  | nx env => cases h2; exact fun σ' H' pa' E' => q _ H' E'.same .non
  | ret d' => cases h2; exact q
  | bk env => cases h2
  | ct env => cases h2
end
end Dn

namespace Dn
open PySem PySem.Spec PyProof.Rows L2

/-! ### 5. operations -/
theorem CMulBig {i j : Int} (h : mulOk i j = true) : IntMulOk i j := by
  have h : (decide (i.natAbs < 2 ^ 64) || decide (j.natAbs < 2 ^ 64) || decide (i.natAbs.log2 + j.natAbs.log2 < 100000000)) = true := h
  rcases Bool.or_eq_true_iff.mp h with h | h
  · rcases Bool.or_eq_true_iff.mp h with h | h
    · have h := of_decide_eq_true h
      exact .of_left (intBits_le_64 (by omega) (by omega))
    · have h := of_decide_eq_true h
      exact .of_right (intBits_le_64 (by omega) (by omega))
  have b : ∀ x : Int, Builtin.Int.intBits x ≤ x.natAbs.log2 + 1 := fun x => by
    unfold Builtin.Int.intBits
    split <;> omega
  have h1 := b i
  have h2 := b j
  have h3 : i.natAbs.log2 + j.natAbs.log2 < 100000000 := of_decide_eq_true h
  have e : bitsLine = 134217728 := by decide
  unfold IntMulOk
  intro z
  rw [Bool.and_eq_true] at z
  have z2 := z.2
  unfold Builtin.Int.intTooBig at z2
  have z3 := of_decide_eq_true z2
  rw [e] at z3
  omega
section
variable {X : Cx}
theorem op_mulB : OpR X (binaryOp .Mult) (rI (fun i j => mulOk i j = true) fun i j => .int (i * j)) := opI fun _ _ _ _ _ _ _ hc q => mul_int q (CMulBig hc)
theorem op_fdivB : OpR X (binaryOp .FloorDiv) (rI (fun _ j => divOk j = true) fun i j => .int (i.fdiv j)) := opI fun i j _ _ _ _ _ hc q => by
  have h := Bool.and_eq_true_iff.mp (show (decide (j ≠ 0) && decide (j.natAbs.log2 < 9000)) = true from hc)
  exact floordiv_int (of_decide_eq_true h.1) q (.inl (PyProof.noPylong_of_log2 (of_decide_eq_true h.2)))
/-- list + list, whatever each of them is -/
def rCatL (K : PySem.W.Frag) : R2 := fun x y H Q => ∃ l b xs zs, x = .ref l ∧ y = .ref b ∧ SqL K H l xs ∧ SqL K H b zs ∧ xs.length + zs.length ≤ sizeLine ∧ ∀ p, H p = none → Q (.ref p) (upd H p (.lst (xs ++ zs)))
theorem op_catL : OpR X (binaryOp .Add) (rCatL X.K) := by
  intro pins s σ H x y v u Q I rx ry h
  obtain ⟨l, b, xs, zs, rfl, rfl, hH, hB, hz, q⟩ := h
  cases rx
  cases ry
  obtain ⟨its, r, p1, hl1⟩ := I.list hH
  obtain ⟨its2, r2, p2, hl2⟩ := I.list hB
  have e1 := r.length
  have e2 := r2.length
  obtain ⟨⟨cls, dd, data, sl⟩, ho, hc, n, hd⟩ := id p1.isList
  obtain ⟨⟨cls2, dd2, data2, sl2⟩, ho2, hc2, n2, hd2⟩ := id p2.isList
  simp only at hc hd hc2 hd2
  subst hc hd hc2 hd2
  have e : its.toArray ++ its2.toArray = (its ++ its2).toArray := by simp
  refine concat_meets ⟨_, ho, rfl⟩ ⟨_, ho2, rfl⟩ noFill_list_add seq_list_add PySem.F.slot_list_add PySem.F.entry_list_add (PySem.F.args_list_add_2 _ _) (list_addW l b its.toArray its2.toArray n n2 dd dd2 sl sl2 (by rw [List.size_toArray, List.size_toArray]; omega)) ⟨ho, ho2, ?_⟩
  rw [e]
  exact ⟨.ref _, _, I.lnew (t' := s.toks) (r.append r2) (by rw [List.length_append]; omega), rfl, q _ I.fresh⟩
abbrev rAddA (K : PySem.W.Frag) : R2 := fun x y H Q => rI0 (fun i j => .int (i + j)) x y H Q ∨ (rCatL K x y H Q ∨ ∃ i j, x = .str i ∧ y = .str j ∧ i.length + j.length ≤ sizeLine ∧ Q (.str (i ++ j)) H)
theorem op_addA : OpR X (binaryOp .Add) (rAddA X.K) := op_add.or (op_catL.or op_add_str)
theorem iop_addA : OpR X (inplaceOp .Add) (rI0 fun i j => .int (i + j)) := iop_add
theorem op_eqA (hu : X.A.units + 64 < cLine) : OpR X (compareOp .Eq) (fun x y H Q => rEq x y H Q ∨ rEqD X.K x y H Q) := op_eq.or (op_eqD hu)
theorem op_neA (hu : X.A.units + 64 < cLine) : OpR X (compareOp .NotEq) (fun x y H Q => rNe x y H Q ∨ rNeD X.K x y H Q) := op_ne.or (op_neD hu)
end
section
variable {K : PySem.W.Frag}
theorem Dp_int {H : Hp} {v : V} {i : Int} (h : Dp K H v (.int i)) : v = .int i := by cases h; rfl
theorem Dp_bool {H : Hp} {v : V} {b : Bool} (h : Dp K H v (.bool b)) : v = .bl b := by cases h; rfl
theorem Dp_str {H : Hp} {v : V} {b : Str} (h : Dp K H v (.str b)) : v = .str b := by cases h; rfl
theorem od_add : OpD K (rAddA K) vAdd := by
  intro P H x y d e z Q nf hx hy h q
  cases d with
  | int i =>
    cases e with
    | int j =>
      cases h
      exact .inl ⟨i, j, Dp_int hx, Dp_int hy, q _ H (Same.refl H) (.int _)⟩
    | _ => cases h
  | str i =>
    cases e with
    | str j =>
      have h : (if i.length + j.length ≤ lim then some (PyData.str (i ++ j)) else none) = some z := h
      split at h
      · rename_i hl
        cases h
        exact .inr (.inr ⟨i, j, Dp_str hx, Dp_str hy, by rw [← lim_eq]; exact hl, q _ H (Same.refl H) (.str _)⟩)
      · cases h
    | _ => cases h
  | list xs =>
    cases e with
    | list ys =>
      have h : (if xs.length + ys.length ≤ lim then some (PyData.list (xs ++ ys)) else none) = some z := h
      split at h
      · rename_i hl
        cases h
        cases hx with
        | lst hs ha =>
          cases hy with
          | lst hs' ha' =>
            refine .inr (.inl ⟨_, _, _, _, rfl, rfl, vw_le.seq hs, vw_le.seq hs', by rw [DpAll_len ha, DpAll_len ha', ← lim_eq]; exact hl, fun p hp => ?_⟩)
            exact q _ _ (same_upd hp) (.lst (.inl (.inl (vw_of (fun z => nf p z hp) upd_same))) (DpAll_mono (vw_up (same_upd hp)) _ _ (DpAll_app ha ha')))
      · cases h
    | _ => cases h
  | _ => cases h
theorem od_iadd : OpD K (rI0 fun i j => .int (i + j)) (fun d e => match d, e with
    | .int x, .int y => some (.int (x + y))
    | _, _ => none) := by
  intro P H x y d e z Q nf hx hy h q
  cases d with
  | int i =>
    cases e with
    | int j =>
      cases h
      exact ⟨i, j, Dp_int hx, Dp_int hy, q _ H (Same.refl H) (.int _)⟩
    | _ => cases h
  | _ => cases h
theorem od_mul : OpD K (rI (fun i j => mulOk i j = true) fun i j => .int (i * j)) vMul := by
  intro P H x y d e z Q nf hx hy h q
  cases d with
  | int i =>
    cases e with
    | int j =>
      have h : (if mulOk i j = true then some (PyData.int (i * j)) else none) = some z := h
      split at h
      · rename_i hm
        cases h
        exact ⟨i, j, Dp_int hx, Dp_int hy, hm, q _ H (Same.refl H) (.int _)⟩
      · cases h
    | _ => cases h
  | _ => cases h
theorem od_fdiv : OpD K (rI (fun _ j => divOk j = true) fun i j => .int (i.fdiv j)) vFdiv := by
  intro P H x y d e z Q nf hx hy h q
  cases d with
  | int i =>
    cases e with
    | int j =>
      have h : (if divOk j = true then some (PyData.int (i.fdiv j)) else none) = some z := h
      split at h
      · rename_i hm
        cases h
        exact ⟨i, j, Dp_int hx, Dp_int hy, hm, q _ H (Same.refl H) (.int _)⟩
      · cases h
    | _ => cases h
  | _ => cases h
theorem od_mod : OpD K (rI (fun _ j => j ≠ 0) fun i j => .int (i.fmod j)) vMod := by
  intro P H x y d e z Q nf hx hy h q
  cases d with
  | int i =>
    cases e with
    | int j =>
      have h : (if j = 0 then none else some (PyData.int (i.fmod j))) = some z := h
      split at h
      · cases h
      · rename_i hm
        cases h
        exact ⟨i, j, Dp_int hx, Dp_int hy, hm, q _ H (Same.refl H) (.int _)⟩
    | _ => cases h
  | _ => cases h
theorem od_pow : OpD K (rI CPow fun i j => .int (i ^ j.toNat)) vPow := by
  intro P H x y d e z Q nf hx hy h q
  cases d with
  | int i =>
    cases e with
    | int j =>
      have h : (if 0 ≤ j ∧ j ≤ 1000000 ∧ i.natAbs < 2 ^ 64 then some (PyData.int (i ^ j.toNat)) else none) = some z := h
      split at h
      · rename_i hm
        cases h
        exact ⟨i, j, Dp_int hx, Dp_int hy, hm, q _ H (Same.refl H) (.int _)⟩
      · cases h
    | _ => cases h
  | _ => cases h
theorem od_cmp {p : Int → Int → Bool} : OpD K (rI0 fun i j => .bl (p i j)) (vCmp p) := by
  intro P H x y d e z Q nf hx hy h q
  cases d with
  | int i =>
    cases e with
    | int j =>
      cases h
      exact ⟨i, j, Dp_int hx, Dp_int hy, q _ H (Same.refl H) (.bl _)⟩
    | _ => cases h
  | _ => cases h
abbrev rEqA (K : PySem.W.Frag) : R2 := fun x y H Q => rEq x y H Q ∨ rEqD K x y H Q
abbrev rNeA (K : PySem.W.Frag) : R2 := fun x y H Q => rNe x y H Q ∨ rNeD K x y H Q
theorem od_eqG {P : Addr → Prop} {H : Hp} {x y : V} {d e z : D} {Q : VK} (hx : Dp K (vw P H) x d) (hy : Dp K (vw P H) y e) (h : vEqG d e = some z) (q : ∀ v H', Same H H' → Dp K (vw P H') v z → Q v H') : rEqA K x y H Q := by
  unfold vEqG at h
  split at h
  · rename_i hs
    cases h
    have hs := Bool.and_eq_true_iff.mp hs
    exact .inr ⟨d, e, Dp_mono vw_le _ _ hx, Dp_mono vw_le _ _ hy, hs.1, hs.2, q _ H (Same.refl H) (.bl _)⟩
  · cases h
theorem od_neG {P : Addr → Prop} {H : Hp} {x y : V} {d e z : D} {Q : VK} (hx : Dp K (vw P H) x d) (hy : Dp K (vw P H) y e) (h : vNeG d e = some z) (q : ∀ v H', Same H H' → Dp K (vw P H') v z → Q v H') : rNeA K x y H Q := by
  unfold vNeG at h
  split at h
  · rename_i hs
    cases h
    have hs := Bool.and_eq_true_iff.mp hs
    exact .inr ⟨d, e, Dp_mono vw_le _ _ hx, Dp_mono vw_le _ _ hy, hs.1, hs.2, q _ H (Same.refl H) (.bl _)⟩
  · cases h
theorem dec_vint {a b : Int} : decide (V.int a = V.int b) = decide (a = b) := by
  rw [Bool.eq_iff_iff]; simp
theorem dec_vstr {a b : Str} : decide (V.str a = V.str b) = decide (a = b) := by
  rw [Bool.eq_iff_iff]; simp
theorem od_eq : OpD K (rEqA K) vEq := by
  intro P H x y d e z Q nf hx hy h q
  unfold vEq at h
  split at h
  · cases h
    have hx := Dp_str hx
    have hy := Dp_str hy
    subst hx hy
    exact .inl ⟨rfl, q _ H (Same.refl H) (by rw [dec_vstr]; exact .bl _)⟩
  · cases h
    have hx := Dp_int hx
    have hy := Dp_int hy
    subst hx hy
    exact .inl ⟨rfl, q _ H (Same.refl H) (by rw [dec_vint]; exact .bl _)⟩
  · exact od_eqG hx hy h q
theorem od_ne : OpD K (rNeA K) vNe := by
  intro P H x y d e z Q nf hx hy h q
  unfold vNe at h
  split at h
  · cases h
    have hx := Dp_str hx
    have hy := Dp_str hy
    subst hx hy
    exact .inl ⟨rfl, q _ H (Same.refl H) (by rw [dec_vstr]; exact .bl _)⟩
  · cases h
    have hx := Dp_int hx
    have hy := Dp_int hy
    subst hx hy
    exact .inl ⟨rfl, q _ H (Same.refl H) (by rw [dec_vint]; exact .bl _)⟩
  · exact od_neG hx hy h q
theorem ud_neg : UnD K (rU fun i => .int (-i)) vNeg := by
  intro P H x d z Q nf hx h q
  cases d with
  | int i => cases h; exact ⟨i, Dp_int hx, q _ H (Same.refl H) (.int _)⟩
  | _ => cases h
/-! built-ins -/
theorem ca_1 {r : V → Hp → VK → Prop} {f : D → Option D} (h : UnD K r f) : CaD K (fun xs H Q => ∃ x, xs = [x] ∧ r x H Q) (l1 f) := by
  intro P H xs ds z Q nf hx hf q
  cases hx with
  | nil => cases hf
  | cons h1 h2 =>
    cases h2 with
    | nil => exact ⟨_, rfl, h P H _ _ z Q nf h1 hf q⟩
    | cons _ _ => cases hf
theorem ca_abs : CaD K (fun xs H Q => ∃ i, xs = [.int i] ∧ Q (.int (if i < 0 then -i else i)) H) (l1 vAbs) := by
  intro P H xs ds z Q nf hx hf q
  cases hx with
  | nil => cases hf
  | cons h1 h2 =>
    cases h2 with
    | nil =>
      cases h1 with
      | int i => cases hf; exact ⟨i, rfl, q _ H (Same.refl H) (.int _)⟩
      | _ => cases hf
    | cons _ _ => cases hf
theorem ca_int : CaD K (fun xs H Q => (∃ i, xs = [.int i] ∧ Q (.int i) H) ∨ ∃ k, xs = [.bl k] ∧ Q (.int (if k then 1 else 0)) H) (l1 vToI) := by
  intro P H xs ds z Q nf hx hf q
  cases hx with
  | nil => cases hf
  | cons h1 h2 =>
    cases h2 with
    | nil =>
      cases h1 with
      | int i => cases hf; exact .inl ⟨i, rfl, q _ H (Same.refl H) (.int _)⟩
      | bl b => cases hf; exact .inr ⟨b, rfl, q _ H (Same.refl H) (.int _)⟩
      | _ => cases hf
    | cons _ _ => cases hf
theorem ca_len : CaD K (fun xs H Q => ∃ x n, xs = [x] ∧ LenV K x H n ∧ Q (.int n) H) (l1 vLen) := by
  intro P H xs ds z Q nf hx hf q
  cases hx with
  | nil => cases hf
  | cons h1 h2 =>
    cases h2 with
    | nil =>
      cases h1 with
      | lst hs ha => cases hf; exact ⟨_, _, rfl, .inl ⟨_, vw_le.seq hs, (DpAll_len ha).symm⟩, q _ H (Same.refl H) (.int _)⟩
      | tup hs ha => cases hf; exact ⟨_, _, rfl, .inr ⟨_, seqT vw_le hs, (DpAll_len ha).symm⟩, q _ H (Same.refl H) (.int _)⟩
      | str x =>
        have hf : (if x.length ≤ lim then some (PyData.int x.length) else none) = some z := hf
        split at hf
        · rename_i hl
          cases hf
          exact ⟨_, _, rfl, ⟨by rw [← lim_eq]; exact hl, rfl⟩, q _ H (Same.refl H) (.int _)⟩
        · cases hf
      | _ => cases hf
    | cons _ _ => cases hf
theorem ca_min2 : CaD K (fun xs H Q => ∃ i j, xs = [.int i, .int j] ∧ Q (.int (if j < i then j else i)) H) (l2 vMin2) := by
  intro P H xs ds z Q nf hx hf q
  cases hx with
  | nil => cases hf
  | cons h1 h2 =>
    cases h2 with
    | nil => cases hf
    | cons h2 h3 =>
      cases h3 with
      | cons _ _ => cases hf
      | nil =>
        cases h1 with
        | int i =>
          cases h2 with
          | int j => cases hf; exact ⟨i, j, rfl, q _ H (Same.refl H) (.int _)⟩
          | _ => cases hf
        | _ => cases hf
theorem ca_max2 : CaD K (fun xs H Q => ∃ i j, xs = [.int i, .int j] ∧ Q (.int (if j > i then j else i)) H) (l2 vMax2) := by
  intro P H xs ds z Q nf hx hf q
  cases hx with
  | nil => cases hf
  | cons h1 h2 =>
    cases h2 with
    | nil => cases hf
    | cons h2 h3 =>
      cases h3 with
      | cons _ _ => cases hf
      | nil =>
        cases h1 with
        | int i =>
          cases h2 with
          | int j => cases hf; exact ⟨i, j, rfl, q _ H (Same.refl H) (.int _)⟩
          | _ => cases hf
        | _ => cases hf
def vTuple : D → Option D
  | .list ds => some (.tuple ds)
  | .tuple ds => some (.tuple ds)
  | _ => none
theorem ca_tuple : CaD K (fun xs H Q => ∃ p ys, xs = [.ref p] ∧ ((SqL K H p ys ∧ ∀ l, H l = none → Q (.ref l) (upd H l (.tup ys))) ∨ (SqT K H p ys ∧ Q (.ref p) H))) (l1 vTuple) := by
  intro P H xs ds z Q nf hx hf q
  cases hx with
  | nil => cases hf
  | cons h1 h2 =>
    cases h2 with
    | nil =>
      cases h1 with
      | lst hs ha =>
        cases hf
        refine ⟨_, _, rfl, .inl ⟨vw_le.seq hs, fun p hp => ?_⟩⟩
        exact q _ _ (same_upd hp) (.tup (.inl (.inl (vw_of (fun z => nf p z hp) upd_same))) (DpAll_mono (vw_up (same_upd hp)) _ _ ha))
      | tup hs ha =>
        cases hf
        exact ⟨_, _, rfl, .inr ⟨seqT vw_le hs, q _ H (Same.refl H) (.tup hs ha)⟩⟩
      | _ => cases hf
    | cons _ _ => cases hf
def vList : D → Option D
  | .list ds => some (.list ds)
  | .tuple ds => some (.list ds)
  | _ => none
theorem ca_list : CaD K (fun xs H Q => ∃ p ys, xs = [.ref p] ∧ (SqL K H p ys ∨ SqT K H p ys) ∧ ∀ l, H l = none → Q (.ref l) (upd H l (.lst ys))) (l1 vList) := by
  intro P H xs ds z Q nf hx hf q
  cases hx with
  | nil => cases hf
  | cons h1 h2 =>
    cases h2 with
    | nil =>
      cases h1 with
      | lst hs ha =>
        cases hf
        refine ⟨_, _, rfl, .inl (vw_le.seq hs), fun p hp => ?_⟩
        exact q _ _ (same_upd hp) (.lst (.inl (.inl (vw_of (fun z => nf p z hp) upd_same))) (DpAll_mono (vw_up (same_upd hp)) _ _ ha))
      | tup hs ha =>
        cases hf
        refine ⟨_, _, rfl, .inr (seqT vw_le hs), fun p hp => ?_⟩
        exact q _ _ (same_upd hp) (.lst (.inl (.inl (vw_of (fun z => nf p z hp) upd_same))) (DpAll_mono (vw_up (same_upd hp)) _ _ ha))
      | _ => cases hf
    | cons _ _ => cases hf
theorem DpAll_at {H : Hp} {vs : List V} {ds : List D} {i : Int} {d : D} (h : DpAll K H vs ds) (e : atD ds i = some d) : ∃ v, atI vs i = some v ∧ Dp K H v d := by
  have hl := DpAll_len h
  unfold atD at e
  unfold atI ixN
  split at e
  · rename_i h0
    split at e
    · rename_i h1
      rw [if_neg (by omega), if_pos (by rw [hl]; omega), hl]
      exact DpAll_get h e
    · cases e
  · rename_i h0
    have hlt := (List.getElem?_eq_some_iff.mp e).1
    rw [if_pos (by omega), if_pos (by rw [hl]; omega)]
    exact DpAll_get h e
end
section
variable {X : Cx} {b : Bool} {a c e : Expr} {pos : Pos} {ga gb : GE}
theorem od_ix {K : PySem.W.Frag} : OpD K (rIx K) vIx := by
  intro P H x y d e z Q nf hx hy h q
  cases e with
  | int i =>
    have hy := Dp_int hy
    subst hy
    cases hx with
    | lst hs ha =>
      obtain ⟨v, h1, h2⟩ := DpAll_at ha (show atD _ i = some z from h)
      exact .inl ⟨_, _, i, v, rfl, rfl, vw_le.seq hs, h1, q v H (Same.refl H) h2⟩
    | tup hs ha =>
      obtain ⟨v, h1, h2⟩ := DpAll_at ha (show atD _ i = some z from h)
      exact .inr (.inl ⟨_, _, i, v, rfl, rfl, seqT vw_le hs, h1, q v H (Same.refl H) h2⟩)
    | _ => cases h
  | _ => cases d <;> cases h
theorem pd_ix (ha : PEd X b a ga) (hb : PEd X b c gb) (hs : PlainIx c) : PEd X b (.Subscript a c pos) (g2 vIx ga gb) := by
  obtain ⟨ta, pa', ha⟩ := ha
  obtain ⟨tb, pb', hb⟩ := hb
  refine ⟨_, pe_ix ix_seq pa' pb' hs, fun H0 M env σ H pa d Q E h q => ?_⟩
  obtain ⟨d1, d2, h1, h2, h3⟩ := bind2 h
  exact two E ha hb h1 h2 fun x y H' s hx hy => od_ix _ H' x y d1 d2 d Q (Vs_nf b (E.up s)) hx hy h3 fun v H'' s' hv => q v H'' (s.trans s') hv
/-! slices -/
abbrev GO := Env → Option (Option Int)
def oNone : GO := fun _ => some none
def asPart : D → Option (Option Int)
  | .int i => some (some i)
  | _ => none
def oSome (a : GE) : GO := fun env => (a env).bind asPart
def POd (X : Cx) (e : Option Expr) (g : GO) : Prop := ∃ t, PO X e t ∧ ∀ (H0 : Hp) (M : Addr → Prop) (env : Env) (σ : Sg) (H : Hp) (pa : Nat → Addr) (o : Option Int) (Q : Option Int → Hp → Prop), EO X.K H0 M env σ H pa → g env = some o → (∀ H', Same H H' → Q o H') → t σ H Q
theorem od_none : POd X none oNone := ⟨_, po_none, fun H0 M env σ H pa o Q E h q => by cases h; exact q H (Same.refl H)⟩
theorem od_some (ha : PEd X true a ga) : POd X (some a) (oSome ga) := by
  obtain ⟨ta, pa', ha⟩ := ha
  refine ⟨_, po_some pa', fun H0 M env σ H pa o Q E h q => ?_⟩
  obtain ⟨d, h1, h2⟩ := bind1 h
  cases d with
  | int i =>
    cases h2
    exact ha H0 M env σ H pa _ _ E h1 fun v H' s hv => ⟨i, Dp_int hv, q H' s⟩
  | _ => cases h2
def cutD (ds : List D) (lo hi : Option Int) : List D := (ds.drop (HT.sIx ds.length 0 lo)).take (HT.sIx ds.length ds.length hi - HT.sIx ds.length 0 lo)
def vSlice : D → Option Int → Option Int → Option D
  | .list ds, lo, hi => some (.list (cutD ds lo hi))
  | .tuple ds, lo, hi => if HT.sIx ds.length 0 lo = 0 ∧ HT.sIx ds.length ds.length hi = ds.length then none else some (.tuple (cutD ds lo hi))
  | .str x, lo, hi => if x.length ≤ lim then some (.str (cutS x lo hi)) else none
  | _, _, _ => none
def gSlice (a : GE) (lo hi : GO) : GE := fun env => (a env).bind fun d => (lo env).bind fun l => (hi env).bind fun h => vSlice d l h
abbrev rSlA (K : PySem.W.Frag) : V → Option Int → Option Int → Hp → VK → Prop := fun x lo hi H Q => rSlL K x lo hi H Q ∨ (rSlT K x lo hi H Q ∨ rSlS x lo hi H Q)
theorem DpAll_cut {K : PySem.W.Frag} {H : Hp} {vs : List V} {ds : List D} (h : DpAll K H vs ds) (lo hi : Option Int) : DpAll K H (cutV vs lo hi) (cutD ds lo hi) := by
  unfold cutV cutD
  rw [DpAll_len h]
  exact DpAll_take _ (DpAll_drop _ h)
theorem pd_slice {lo hi : Option Expr} {gl gh : GO} {p2 : Pos} (ha : PEd X b a ga) (hl : POd X lo gl) (hh : POd X hi gh) : PEd X b (.Subscript a (.Slice lo hi none p2) pos) (gSlice ga gl gh) := by
  obtain ⟨ta, pa', ha⟩ := ha
  obtain ⟨tl, pl', hl⟩ := hl
  obtain ⟨th, ph', hh⟩ := hh
  refine ⟨_, pe_slice (sl_list.or (sl_tup.or sl_str)) pa' pl' ph', fun H0 M env σ H pa d Q E h q => ?_⟩
  obtain ⟨d1, h1, h⟩ := bind1 h
  obtain ⟨l, h2, h⟩ := bind1 h
  obtain ⟨u, h3, h⟩ := bind1 h
  refine ha H0 M env σ H pa d1 _ E h1 fun x H1 s1 hx => hl H0 M env σ H1 pa l _ (E.up s1) h2 fun H2 s2 => hh H0 M env σ H2 pa u _ ((E.up s1).up s2) h3 fun H3 s3 => ?_
  have nf := Vs_nf b (((E.up s1).up s2).up s3)
  have hx := Dp_mono (vw_up (s2.trans s3)) _ _ hx
  have s := (s1.trans s2).trans s3
  cases hx with
  | lst hs hall =>
    cases h
    refine .inl ⟨_, _, rfl, vw_le.seq hs, fun p hp => ?_⟩
    exact q _ _ (s.trans (same_upd hp)) (.lst (.inl (.inl (vw_of (fun z => nf p z hp) upd_same))) (DpAll_mono (vw_up (same_upd hp)) _ _ (DpAll_cut hall l u)))
  | @tup a' xs ds hs hall =>
    have h : (if HT.sIx ds.length 0 l = 0 ∧ HT.sIx ds.length ds.length u = ds.length then none else some (PyData.tuple (cutD ds l u))) = some d := h
    split at h
    · cases h
    · rename_i hno
      cases h
      refine .inr (.inl ⟨_, _, rfl, seqT vw_le hs, by rw [DpAll_len hall]; exact hno, fun p hp => ?_⟩)
      exact q _ _ (s.trans (same_upd hp)) (.tup (.inl (.inl (vw_of (fun z => nf p z hp) upd_same))) (DpAll_mono (vw_up (same_upd hp)) _ _ (DpAll_cut hall l u)))
  | str x =>
    have h : (if x.length ≤ lim then some (PyData.str (cutS x l u)) else none) = some d := h
    split at h
    · rename_i hx
      cases h
      exact .inr (.inr ⟨x, rfl, by rw [← lim_eq]; exact hx, q _ _ s (.str _)⟩)
    · cases h
  | _ => cases h
/-- xs[::-1] -/
def vRev : D → Option D
  | .list ds => some (.list ds.reverse)
  | _ => none
theorem pd_rev {k : Nat} {p1 p2 p3 : Pos} (ha : PEd X b e ga) : PEd X b (.Subscript e (.Slice none none (some (.UnaryOp .USub (.Constant (.int 1) k p1) p2)) p3) pos) (g1 vRev ga) := by
  obtain ⟨ta, pa', ha⟩ := ha
  refine ⟨_, pe_revL pa', fun H0 M env σ H pa d Q E h q => ?_⟩
  obtain ⟨d1, h1, h2⟩ := bind1 h
  refine ha H0 M env σ H pa d1 _ E h1 fun x H1 s1 hx => ?_
  have nf := Vs_nf b (E.up s1)
  cases hx with
  | lst hs hall =>
    cases h2
    refine ⟨_, _, rfl, vw_le.seq hs, fun p hp => ?_⟩
    exact q _ _ (s1.trans (same_upd hp)) (.lst (.inl (.inl (vw_of (fun z => nf p z hp) upd_same))) (DpAll_mono (vw_up (same_upd hp)) _ _ (DpAll_rev hall)))
  | _ => cases h2
/-! methods of a name's own list -/
theorem sd_app {i : Nat} {x : Str} {apos cpos px : Pos} (hN : X.N[i]? = some x) (hv : Vis X.env.scope x) (he : PEd X false e ga) (hd : (x == ("__debug__" : Str)) = false := by decide) (hcd : (x == ("__classdict__" : Str)) = false := by decide)
    (hbase : attributeBase (.Name x px) "append" X.env (eval (.Name x px) X.env) = eval (.Name x px) X.env := by rfl)
    (hfew : ((backTo cpos (starEach (e :: []) X.env)).all (fun x => !x.1) && (backToKw cpos (keywordEach [] X.env)).all (fun x => x.1.isSome)
      && decide ((e :: []).length + ([] : List Keyword).length + (if ([] : List Keyword).isEmpty then 0 else 1) < 30)) = true := by rfl)
    (hline : (apos.endLine == cpos.line) = true := by rfl) (hs : starEach (e :: []) X.env = (false, eval e X.env) :: starEach [] X.env := by rfl) (hplain : (backTo cpos (starEach [] X.env)).any (·.1) = false := by rfl)
    (hsw : swapsWith (.Call (.Attribute (.Name x px) "append" apos) [e] [] cpos) none pos.line X.env = pure false := by rfl) :
    PSd X (.Expr (.Call (.Attribute (.Name x px) "append" apos) [e] [] cpos) pos) (sApp i ga) := by
  obtain ⟨t0, ht, hh⟩ := he
  refine ⟨_, ps_expr (pe_bm PySem.F.plainAttrs_list PySem.F.slot_list_append PySem.F.type_list_append mt_append (pe_var hN hv hd hcd) (pa_cons ht pa_nil hs) hbase hfew hline hs hplain) hsw, fun H0 M env σ H pa o T E h q => ?_⟩
  obtain ⟨d, h1, h2⟩ := bind1 h
  cases hi : env[i]? with
  | none => rw [hi] at h2; cases h2
  | some sl =>
    rw [hi] at h2
    cases sl with
    | un => cases h2
    | val _ => cases h2
    | ow c =>
      cases c with
      | dk _ => cases h2
      | dt _ => cases h2
      | lst ds =>
        have h2 : (if ds.length < lim then some (Out.nx (env.set i (.own (ds ++ [d])))) else none) = some o := h2
        split at h2
        · rename_i hl
          cases h2
          obtain ⟨g1, g2, vs, g3, g4⟩ := E.own i ds hi
          refine ⟨_, g1, .inl ⟨rfl, vs, SqL.of g3⟩, hh H0 M env σ H pa d _ E h1 fun v H' s hv => ?_⟩
          refine ⟨_, vs, v, rfl, rfl, s _ _ g3, by rw [DpAll_len g4, ← lim_eq]; exact hl, ?_⟩
          exact q σ _ pa ((E.up s).write hi (DpAll_app (DpAll_mono (vw_up s) _ _ g4) (.cons hv .nil)))
        · cases h2
def popS (env : Env) (i : Nat) : Option Slot → Option Out
  | some (.ow (.lst ds)) => if ds.isEmpty then none else some (.nx (env.set i (.own ds.dropLast)))
  | _ => none
def sPop (i : Nat) : GS := fun env => popS env i env[i]?
def revS (env : Env) (i : Nat) : Option Slot → Option Out
  | some (.ow (.lst ds)) => some (.nx (env.set i (.own ds.reverse)))
  | _ => none
def sRevIn (i : Nat) : GS := fun env => revS env i env[i]?
theorem DpAll_dropLast {K : PySem.W.Frag} {H : Hp} {vs : List V} {ds : List D} (h : DpAll K H vs ds) : DpAll K H vs.dropLast ds.dropLast := by
  rw [List.dropLast_eq_take, List.dropLast_eq_take, DpAll_len h]
  exact DpAll_take _ h
theorem sd_pop {i : Nat} {x : Str} {apos cpos px : Pos} (hN : X.N[i]? = some x) (hv : Vis X.env.scope x) (hd : (x == ("__debug__" : Str)) = false := by decide) (hcd : (x == ("__classdict__" : Str)) = false := by decide)
    (hbase : attributeBase (.Name x px) "pop" X.env (eval (.Name x px) X.env) = eval (.Name x px) X.env := by rfl) (hline : (apos.endLine == cpos.line) = true := by rfl)
    (hsw : swapsWith (.Call (.Attribute (.Name x px) "pop" apos) [] [] cpos) none pos.line X.env = pure false := by rfl) :
    PSd X (.Expr (.Call (.Attribute (.Name x px) "pop" apos) [] [] cpos) pos) (sPop i) := by
  refine ⟨_, ps_expr (pe_bm0 PySem.F.plainAttrs_list PySem.F.slot_list_pop PySem.F.type_list_pop mt_pop (pe_var hN hv hd hcd) hbase hline) hsw, fun H0 M env σ H pa o T E h q => ?_⟩
  unfold sPop at h
  cases hi : env[i]? with
  | none => rw [hi] at h; cases h
  | some sl =>
    rw [hi] at h
    cases sl with
    | un => cases h
    | val _ => cases h
    | ow c =>
      cases c with
      | dk _ => cases h
      | dt _ => cases h
      | lst ds =>
        have h : (if ds.isEmpty = true then none else some (Out.nx (env.set i (.own ds.dropLast)))) = some o := h
        split at h
        · cases h
        · rename_i hne
          have hne : ds ≠ [] := fun z => hne (by rw [z]; rfl)
          cases h
          obtain ⟨g1, g2, vs, g3, g4⟩ := E.own i ds hi
          have hl := DpAll_len g4
          have hp : 0 < ds.length := List.length_pos_iff.mpr hne
          have hlt : vs.length - 1 < vs.length := by omega
          refine ⟨_, g1, .inl ⟨rfl, vs, SqL.of g3⟩, _, vs, vs[vs.length - 1], rfl, rfl, g3, List.getElem?_eq_getElem hlt, ?_⟩
          exact q σ _ pa (E.write hi (DpAll_dropLast g4))
theorem sd_revIn {i : Nat} {x : Str} {apos cpos px : Pos} (hN : X.N[i]? = some x) (hv : Vis X.env.scope x) (hd : (x == ("__debug__" : Str)) = false := by decide) (hcd : (x == ("__classdict__" : Str)) = false := by decide)
    (hbase : attributeBase (.Name x px) "reverse" X.env (eval (.Name x px) X.env) = eval (.Name x px) X.env := by rfl) (hline : (apos.endLine == cpos.line) = true := by rfl)
    (hsw : swapsWith (.Call (.Attribute (.Name x px) "reverse" apos) [] [] cpos) none pos.line X.env = pure false := by rfl) :
    PSd X (.Expr (.Call (.Attribute (.Name x px) "reverse" apos) [] [] cpos) pos) (sRevIn i) := by
  refine ⟨_, ps_expr (pe_bm0 PySem.F.plainAttrs_list PySem.F.slot_list_reverse PySem.F.type_list_reverse mt_reverse (pe_var hN hv hd hcd) hbase hline) hsw, fun H0 M env σ H pa o T E h q => ?_⟩
  unfold sRevIn at h
  cases hi : env[i]? with
  | none => rw [hi] at h; cases h
  | some sl =>
    rw [hi] at h
    cases sl with
    | un => cases h
    | val _ => cases h
    | ow c =>
      cases c with
      | dk _ => cases h
      | dt _ => cases h
      | lst ds =>
        cases h
        obtain ⟨g1, g2, vs, g3, g4⟩ := E.own i ds hi
        refine ⟨_, g1, .inl ⟨rfl, vs, SqL.of g3⟩, _, vs, rfl, rfl, g3, ?_⟩
        exact q σ _ pa (E.write hi (DpAll_rev g4))
end
end Dn

namespace Dn
open PySem PySem.Spec PyProof.Rows L2

/-! ### 6. a def's contract; nothing is shown by repr around its call -/
structure FnG (P : Program) (w : World) (K : PySem.W.Frag) (mg : Str → Option Value) (base : Heap) (k : Nat) (f : Addr) (fd : FuncData) (ps : List Str) (sp : Sp) : Prop where
  len : ∀ zs H Q E, sp zs H Q E → zs.length = ps.length
  run : ∀ (A : Around) (out : List PySem.Env) (s : Shared) (H : Hp) (ar : Args) (us : List Value) (zs : List V) (Q : VK), Room k A → A.guards = some [] → Env0 P w K mg base A out s H → BindsTo s fd ar (ps.zip us) → Vals zs us → sp zs H Q E0 →
    codeAny (model P w) A (.call (.ref f) ar) (CR CX0 out P w H s Q E0) s
end Dn
namespace Dn
open PySem PySem.Spec PyProof.Rows L2
theorem FnG.mono {P : Program} {w : World} {K : PySem.W.Frag} {mg : Str → Option Value} {base : Heap} {j k : Nat} {f : Addr} {fd : FuncData} {ps : List Str} {sp : Sp} (F : FnG P w K mg base j f fd ps sp) (h : j ≤ k) : FnG P w K mg base k f fd ps sp :=
  ⟨F.len, fun A out s H ar us zs Q hr => F.run A out s H ar us zs Q (hr.mono h)⟩
theorem FnG.imp {P : Program} {w : World} {K : PySem.W.Frag} {mg : Str → Option Value} {base : Heap} {k : Nat} {f : Addr} {fd : FuncData} {ps : List Str} {sp sp' : Sp} (F : FnG P w K mg base k f fd ps sp) (h : ∀ zs H Q E, sp' zs H Q E → sp zs H Q E) : FnG P w K mg base k f fd ps sp' :=
  ⟨fun zs H Q E q => F.len zs H Q E (h _ _ _ _ q), fun A out s H ar us zs Q hr hg he hb hv hs => F.run A out s H ar us zs Q hr hg he hb hv (h _ _ _ _ hs)⟩
section
variable {X : Cx} {k : Nat} {f : Addr} {fd : FuncData} {ps : List Str} {sp : Sp} {x : Str} {p pos : Pos} {e : Expr} {es : List Expr} {t : TA}
theorem run_g {pins : List (Addr × Obj)} {σ : Sg} {H : Hp} {s : Shared} {Q : VK} {us : List Value} {zs : List V} (F : FnG X.prog X.w X.K X.mg X.base k f fd ps sp) (hr : Room k X.A) (hG : X.A.guards = some []) (hb : Binds X.K fd ps [])
    (I : Inv X pins σ H s) (r : Vals zs us) (h : sp zs H Q E0) : wpAny (model X.prog X.w) X.A (call (.ref f) us) (EP X pins σ Q) X.xe s := by
  have hl : (us ++ []).length = ps.length := by rw [List.append_nil, ← r.length]; exact F.len _ _ _ _ h
  have hB := hb s us I.kIn hl
  rw [List.append_nil] at hB
  refine wpAny_call (codeAny_mono (F.run X.A X.stack s H ⟨us, []⟩ us zs Q hr hG I.env0 hB r h) fun rr s' hq => ?_)
  cases rr with
  | error z => exact hq.elim
  | ok fl => cases fl with
    | ret u => exact I.after hq
    | _ => exact False.elim hq
theorem pe_callG (F : FnG X.prog X.w X.K X.mg X.base k f fd ps sp) (hr : Room k X.A) (hG : X.A.guards = some []) (hg : Gl X x) (hm : X.mg x = some (.ref f)) (hk : PySem.W.keepIn X.K (.ref f) = true) (hb : Binds X.K fd ps [])
    (ha : PA X (e :: es) t) (hdb : (x == ("__debug__" : Str)) = false) (he : starEach (e :: es) X.env = (false, eval e X.env) :: starEach es X.env) (hpl : (backTo pos (starEach es X.env)).any (·.1) = false) :
    PE X (.Call (.Name x p) (e :: es) [] pos) (fun σ H Q => t σ H fun zs H1 => sp zs H1 Q E0) := ⟨fun pins s σ H Q I h =>
  wpAny_Call_Name_kw (ld_glob I hg hm (PySem.W.callWith_K (h₀ := X.base) I.ok.mod.kin hk (thn (ha.run pos pins s σ H _ I h) fun us s1 hh => ⟨hh.elim fun _ z => z.elim fun _ z => z.1.kIn, hh.elim fun zs z => z.elim fun H1 z => run_g F hr hG hb z.1 z.2.1 z.2.2⟩) he hpl) hdb)⟩
end
section
variable {P : Program} {w : World} {K : PySem.W.Frag} {mg : Str → Option Value} {base : Heap}
/-- a def by its body -/
theorem fn_g {name qual : Str} {st : Stmt} {f : Addr} {fd : FuncData} {N ps : List Str} {k : Nat} {sp : Sp} (F : Fun K name qual st f fd) (S : FnScope N ps (defScope st)) (len : ∀ zs H Q E, sp zs H Q E → zs.length = ps.length)
    (body : ∀ (cdv : Value) (A : Around) (out : List PySem.Env) (s : Shared) (H : Hp) (zs : List V) (Q : VK), Room k (A.deeper (envOfC qual (defScope st) s.heap.objs.size f cdv)) → (A.deeper (envOfC qual (defScope st) s.heap.objs.size f cdv)).guards = some [] → sp zs H Q E0 →
      ∃ t, PSs (cxOf CX0 P w K mg base N qual (defScope st) f cdv A out s H E0).nox (defBody st) t ∧ t { nx := fun _ H' => Q .non H', rt := Q } (L2.start N zs) H) : FnG P w K mg base (k + 1) f fd ps sp := by
  obtain ⟨oc, od, kV, doc, pm, an, cdv, ct, osl, rfl, lk, hcd⟩ := F.ex
  refine ⟨len, fun A out s H ar us zs Q hr hG e0 hb r hsp => ?_⟩
  have hl := len _ _ _ _ hsp
  have up : ∀ b o, base.get? b = some o → s.heap.get? b = some o := fun b o e => (e0.bs b o e).1
  have KX : K.In s.heap := e0.mod.kin.keeps up
  have lim : s.heap.NoLimit := e0.mod.nolimit.keeps up
  refine codeAny_call_function hr.depth (KX _ _ lk) rfl S.co S.gen rfl (PySem.W.codeRec_of KX hcd) (hb _ _ _ _ ?_)
  refine wpAny_newFunctionEnv_cells S.kind (fun y hy => ?_) fun env he s1 x => ?_
  · rcases S.par y.1 (List.of_mem_zip (show (y.1, y.2) ∈ ps.zip us from hy)).1 with q | q
    · exact .inl q
    · exact .inr ⟨q, PySem.W.cellsFrom_some _ _ _ (.inl q)⟩
  subst he
  refine ⟨lim.keeps x.toInCall.keep, codeAny_func ?_⟩
  obtain ⟨t, ht, hq⟩ := body cdv A out s H zs Q (hr.deeper _) hG hsp
  have ht := ht.nox
  have I : Inv (cxOf CX0 P w K mg base N qual (defScope st) f cdv A out s H E0) [] (L2.start N zs) H s1 := inv_start S hr.hd e0 hl r x
  refine wpAny_mono (ht.run [] s1 (L2.start N zs) H _ I hq) (fun fl s' hs => ?_) fun e s' hs => hs
  cases fl with
  | ret u =>
    obtain ⟨v, σ', H', J, rv, q⟩ := hs
    exact ⟨v, H', J.os, J.bare, J.base, J.hok, rv, q⟩
  | next =>
    obtain ⟨σ', H', J, q⟩ := hs
    exact ⟨V.non, H', J.os, J.bare, J.base, J.hok, (rfl : Value.none = Value.none), q⟩
  | brk => exact (hs.elim fun _ z => z.elim fun _ z => z.2).elim
  | cont => exact (hs.elim fun _ z => z.elim fun _ z => z.2).elim
/-- a def of the text that keeps a promise by data, known by its name -/
def Ok (P : Program) (w : World) (K : PySem.W.Frag) (mg : Str → Option Value) (base : Heap) (name : Str) (k n : Nat) (F : List D → Option D) : Prop :=
  ∃ f fd ps, mg name = some (.ref f) ∧ PySem.W.keepIn K (.ref f) = true ∧ Binds K fd ps [] ∧ FnG P w K mg base k f fd ps (SpD K n F)
/-- a def of the text as it stands -/
def Df (K : PySem.W.Frag) (mg : Str → Option Value) (name : Str) (st : Stmt) (ps : List Str) : Prop :=
  ∃ f fd, Fun K name name st f fd ∧ mg name = some (.ref f) ∧ Binds K fd ps []
theorem ok_of {name : Str} {st : Stmt} {N ps : List Str} {k : Nat} {g : GS} (T : Df K mg name st ps) (S : FnScope N ps (defScope st)) (hl : ps.length ≤ N.length)
    (body : ∀ (f : Addr) (cdv : Value) (A : Around) (out : List PySem.Env) (s : Shared) (H : Hp), Room k (A.deeper (envOfC name (defScope st) s.heap.objs.size f cdv)) → (A.deeper (envOfC name (defScope st) s.heap.objs.size f cdv)).guards = some [] →
      PSsd (cxOf CX0 P w K mg base N name (defScope st) f cdv A out s H E0).nox (defBody st) g) : Ok P w K mg base name (k + 1) ps.length (runF N.length ps.length g) := by
  obtain ⟨f, fd, F, hm, hb⟩ := T
  exact ⟨f, fd, ps, hm, F.kp, hb, fn_g F S (fun zs H Q E h => h.len) fun cdv A out s H zs Q hr hG hsp => fn_d (body f cdv A out s H hr hG) hl hsp⟩
end
section
variable {X : Cx} {b : Bool} {k n : Nat} {x : Str} {p pos : Pos} {e : Expr} {es : List Expr} {gs : GA} {F : List D → Option D}
theorem pd_fn (O : Ok X.prog X.w X.K X.mg X.base x k (es.length + 1) F) (hr : Room k X.A) (hG : X.A.guards = some []) (ha : PAd X b (e :: es) gs) (hg : Gl X x := by rfl) (hdb : (x == ("__debug__" : Str)) = false := by decide)
    (he : starEach (e :: es) X.env = (false, eval e X.env) :: starEach es X.env := by rfl) (hpl : (backTo pos (starEach es X.env)).any (·.1) = false := by rfl) : PEd X b (.Call (.Name x p) (e :: es) [] pos) (gArgs F gs) := by
  obtain ⟨f, fd, ps, hm, hk, hb, G⟩ := O
  obtain ⟨t, ht, hh⟩ := ha
  refine ⟨_, pe_callG G hr hG hg hm hk hb ht hdb he hpl, fun H0 M env σ H pa d Q E h q => ?_⟩
  obtain ⟨ds, h1, h2⟩ := bind1 h
  exact hh H0 M env σ H pa ds _ E h1 fun vs H' s hv hl => ⟨ds, d, _, hv, h2, hl, Vs_nf b (E.up s), fun v H'' s' hv' => q v H'' (s.trans s') hv'⟩

/-! is None -/
variable {a : Expr} {ga : GE}
theorem dp_none {K : PySem.W.Frag} {H : Hp} {v : V} {d : D} (h : Dp K H v d) : decide (v = .non) = isNone d := by cases h <;> rfl
theorem pd_isN {j pos'} (ha : PEd X b a ga) : PEd X b (.Compare a [.Is] [.Constant .none j pos'] pos) (g1 vIsN ga) := by
  obtain ⟨t, ht, hh⟩ := ha
  refine ⟨_, pe_cmp (pc_isN ht) rfl, fun H0 M env σ H pa d Q E h q => ?_⟩
  obtain ⟨d1, h1, h2⟩ := bind1 h
  cases h2
  exact hh H0 M env σ H pa d1 _ E h1 fun v H' s hv => q _ H' s (by rw [dp_none hv]; exact .bl _)
theorem pd_notN {j pos'} (ha : PEd X b a ga) : PEd X b (.Compare a [.IsNot] [.Constant .none j pos'] pos) (g1 vNotN ga) := by
  obtain ⟨t, ht, hh⟩ := ha
  refine ⟨_, pe_cmp (pc_notN ht) rfl, fun H0 M env σ H pa d Q E h q => ?_⟩
  obtain ⟨d1, h1, h2⟩ := bind1 h
  cases h2
  exact hh H0 M env σ H pa d1 _ E h1 fun v H' s hv => q _ H' s (by rw [dp_none hv]; exact .bl _)
theorem pt_isN {j pos'} (ha : PEd X true a ga) : PTd X (.Compare a [.Is] [.Constant .none j pos'] pos) (gTest (g1 vIsN ga)) := by
  obtain ⟨t, ht, hh⟩ := ha
  refine ⟨_, pt_cmp (pc_isN ht) rfl, fun H0 M env σ H pa k Q E h q => ?_⟩
  obtain ⟨d, h0, hk⟩ := bind1 h
  obtain ⟨d1, h1, h2⟩ := bind1 h0
  cases h2
  cases hk
  exact hh H0 M env σ H pa d1 _ E h1 fun v H' s hv => ⟨_, by rw [dp_none hv], q H' s⟩
theorem pt_notN {j pos'} (ha : PEd X true a ga) : PTd X (.Compare a [.IsNot] [.Constant .none j pos'] pos) (gTest (g1 vNotN ga)) := by
  obtain ⟨t, ht, hh⟩ := ha
  refine ⟨_, pt_cmp (pc_notN ht) rfl, fun H0 M env σ H pa k Q E h q => ?_⟩
  obtain ⟨d, h0, hk⟩ := bind1 h
  obtain ⟨d1, h1, h2⟩ := bind1 h0
  cases h2
  cases hk
  exact hh H0 M env σ H pa d1 _ E h1 fun v H' s hv => ⟨_, by rw [dp_none hv], q H' s⟩
end

/-! isinstance -/
def tyName : D → Option String
  | .bool _ => some "bool"
  | .int _ => some "int"
  | .str _ => some "str"
  | .list _ => some "list"
  | .tuple _ => some "tuple"
  | .none => some "NoneType"
  | _ => none
end Dn

namespace Dn
open PySem PySem.Spec PyProof.Rows L2

/-! ### 7. isinstance, repr, in -/
def isSub (t T : String) : Bool := t == T || (t == "bool" && T == "int")
def vIsi (T : String) : List D → Option D
  | [x] => (tyName x).bind fun t => some (.bool (isSub t T))
  | _ => none
theorem tyX {K : PySem.W.Frag} {H : Hp} {v : V} {d : D} {t : String} (h : Dp K H v d) (e : tyName d = some t) : TyX K H v (.type t) := by
  cases h with
  | non => cases e; exact .base .non
  | bl b => cases e; exact .base (.bl b)
  | int i => cases e; exact .base (.int i)
  | str x => cases e; exact .base (.str x)
  | lst hs _ =>
    cases e
    rcases hs with (hs | ⟨o, hs⟩) | ⟨o, its, n, hk, hc, _⟩
    · exact .base (.lst hs)
    · exact .base (.frz hs)
    · exact .kList hk hc
  | tup hs _ =>
    cases e
    rcases hs with (hs | ⟨o, hs⟩) | ⟨o, its, n, hk, hc, _⟩
    · exact .base (.tup hs)
    · exact .fTuple hs
    · exact .kTuple hk hc
def kitTab (T : String) : Prop := ∀ t ∈ ["bool", "int", "str", "list", "tuple", "NoneType"], kitB t T = some (isSub t T)
theorem kit_bool : kitTab "bool" := by unfold kitTab; decide +kernel
theorem kit_int : kitTab "int" := by unfold kitTab; decide +kernel
theorem kit_tuple : kitTab "tuple" := by unfold kitTab; decide +kernel
theorem kit_list : kitTab "list" := by unfold kitTab; decide +kernel
theorem kit_str : kitTab "str" := by unfold kitTab; decide +kernel
theorem tyName_mem {d : D} {t : String} (e : tyName d = some t) : t ∈ ["bool", "int", "str", "list", "tuple", "NoneType"] := by
  cases d <;> cases e <;> decide
section
variable {X : Cx} {b : Bool} {x y : Str} {p p1 p2 pos : Pos} {a c e elt tg iter : Expr} {ga gb : GE}
theorem pd_isi {T : String} (hT : kitTab T) (hg : Gl X "isinstance") (hm : X.mg "isinstance" = none) (hg2 : Gl X y) (hm2 : X.mg y = none) (hv2 : bootBuiltins y = some (.type T)) (ha : PEd X b a ga)
    (hn : y ≠ "__name__" := by decide) (hd : (y == ("__debug__" : Str)) = false := by decide)
    (hs1 : starEach [a, .Name y p2] X.env = (false, eval a X.env) :: starEach [.Name y p2] X.env := by rfl) (hs2 : starEach [.Name y p2] X.env = (false, eval (.Name y p2) X.env) :: starEach [] X.env := by rfl) (hpl : (backTo pos (starEach [.Name y p2] X.env)).any (·.1) = false := by rfl) :
    PEd X b (.Call (.Name "isinstance" p) [a, .Name y p2] [] pos) (gArgs (vIsi T) (aCons ga aNil)) := by
  obtain ⟨t, ht, hh⟩ := ha
  refine ⟨_, pe_callB (x := "isinstance") call_isi hg hm (by decide +kernel) (pa_cons ht (pa_cons (pe_bltn hg2 hm2 hv2 (v := .ty T) (show RelV (.ty T) (.type T) from rfl) hn hd) pa_nil hs2) hs1) (by decide) (by decide) hs1 hpl, fun H0 M env σ H pa d Q E h q => ?_⟩
  obtain ⟨ds, h1, h2⟩ := bind1 h
  obtain ⟨d1, ds', h3, h4, h5⟩ := bind2 h1
  cases h4
  cases h5
  obtain ⟨tn, h6, h7⟩ := bind1 h2
  cases h7
  refine hh H0 M env σ H pa d1 _ E h3 fun v H' s hv => ?_
  exact ⟨v, .ty T, .type tn, .type T, _, rfl, .ty T, tyX (Dp_mono vw_le _ _ hv) h6, kit_ty (hT tn (tyName_mem h6)), q _ H' s (.bl _)⟩
/-- what repr shows, of a bounded size -/
def okShow (d : D) : Bool := d.showable && !d.hasDict && decide (d.depth ≤ 60) && decide (d.shown.length ≤ lim)
def vRepr (d : D) : Option D := if okShow d then some (.str d.shown) else none
def isRefD : D → Bool
  | .list _ => true
  | .tuple _ => true
  | _ => false
def vRepr1 (d : D) : Option D := if isRefD d then vRepr d else none
theorem call_reprD (hG : X.A.guards = some []) (hu : X.A.units + 200 < cLine) : CallR X (.builtin "repr") (fun xs H Q => ∃ (a : Addr) (d : D), xs = [.ref a] ∧ Dp X.K H (.ref a) d ∧ okShow d = true ∧ Q (.str d.shown) H) := by
  intro pins s σ H xs us Q I r h
  obtain ⟨a, d, rfl, hd, ho, q⟩ := h
  obtain ⟨u, rfl, rx⟩ := vals1 r
  obtain ⟨as, hr⟩ := Dp.reads I d _ u hd rx
  cases rx
  have h1 := Bool.and_eq_true_iff.mp (show (d.showable && !d.hasDict && decide (d.depth ≤ 60) && decide (d.shown.length ≤ lim)) = true from ho)
  have h2 := Bool.and_eq_true_iff.mp h1.1
  have h3 := Bool.and_eq_true_iff.mp h2.1
  have h4 := of_decide_eq_true h2.2
  have h5 := of_decide_eq_true h1.2
  have nd : d.hasDict = false := by simpa using h3.2
  refine repr_of_reads' hr h3.1 (fun z => by rw [nd] at z; cases z) hG (by omega) (fun _ _ z => z) (fun h' u' tk kp => ?_) (by rw [← lim_eq]; exact h5)
  exact ⟨.str d.shown, H, I.kept kp, ⟨u', rfl⟩, q⟩
theorem pd_repr (hG : X.A.guards = some []) (hu : X.A.units + 200 < cLine) (hg : Gl X "repr") (hm : X.mg "repr" = none) (ha : PEd X b a ga) (hs1 : starEach [a] X.env = (false, eval a X.env) :: starEach [] X.env := by rfl) (hpl : (backTo pos (starEach [] X.env)).any (·.1) = false := by rfl) :
    PEd X b (.Call (.Name "repr" p) [a] [] pos) (g1 vRepr1 ga) := by
  obtain ⟨t, ht, hh⟩ := ha
  refine ⟨_, pe_callB (x := "repr") (call_reprD hG hu) hg hm (by decide +kernel) (pa_cons ht pa_nil hs1) (by decide) (by decide) hs1 hpl, fun H0 M env σ H pa d Q E h q => ?_⟩
  obtain ⟨d1, h1, h2⟩ := bind1 h
  refine hh H0 M env σ H pa d1 _ E h1 fun v H' s hv => ?_
  have h2 : (if isRefD d1 = true then vRepr d1 else none) = some d := h2
  split at h2
  · have h3 : (if okShow d1 = true then some (PyData.str d1.shown) else none) = some d := h2
    split at h3
    · rename_i ho
      cases h3
      cases hv with
      | lst hs hall => exact ⟨_, _, rfl, .lst (vw_le.seq hs) (DpAll_mono vw_le _ _ hall), ho, q _ H' s (.str _)⟩
      | tup hs hall => exact ⟨_, _, rfl, .tup (seqT vw_le hs) (DpAll_mono vw_le _ _ hall), ho, q _ H' s (.str _)⟩
      | _ => rename_i hr; cases hr
    · cases h3
  · cases h2
def flatD : D → Bool
  | .none => true
  | .bool _ => true
  | .int _ => true
  | .str _ => true
  | _ => false
/-- x in y: a list of data of any depth, a tuple of flat ones -/
def vIn : D → D → Option D
  | x, .list ds => if SeqAt.shaped x && SeqAt.shaped (.list ds) then some (.bool (ds.any fun z => PyData.eqv z x)) else none
  | x, .tuple ds => if flatD x && ds.all flatD then some (.bool (ds.any fun z => PyData.eqv z x)) else none
  | _, _ => none
def vNotIn : D → D → Option D
  | x, .list ds => if SeqAt.shaped x && SeqAt.shaped (.list ds) then some (.bool (!ds.any fun z => PyData.eqv z x)) else none
  | x, .tuple ds => if flatD x && ds.all flatD then some (.bool (!ds.any fun z => PyData.eqv z x)) else none
  | _, _ => none
theorem flat_of {K : PySem.W.Frag} {H : Hp} {v : V} {d : D} (h : Dp K H v d) (f : flatD d = true) : flatV v = true := by
  cases h <;> first | rfl | cases f
theorem eqv_of {K : PySem.W.Frag} {H : Hp} {u v : V} {d e : D} (hu : Dp K H u d) (hv : Dp K H v e) (f : flatD d = true) (f' : flatD e = true) : eqV u v = PyData.eqv d e := by
  cases hu <;> cases hv <;> first | (exact absurd f Bool.false_ne_true) | (exact absurd f' Bool.false_ne_true) | (simp only [eqV, PyData.eqv])
theorem any_of {K : PySem.W.Frag} {H : Hp} {v : V} {e : D} (hv : Dp K H v e) (f' : flatD e = true) : ∀ {us : List V} {ds : List D}, DpAll K H us ds → ds.all flatD = true → us.all flatV = true ∧ inV v us = ds.any fun z => PyData.eqv z e
  | _, _, .nil, _ => ⟨rfl, rfl⟩
  | _, _, .cons h t, f => by
    rw [List.all_cons, Bool.and_eq_true] at f
    obtain ⟨h1, h2⟩ := any_of hv f' t f.2
    refine ⟨by rw [List.all_cons, flat_of h f.1, h1]; rfl, ?_⟩
    unfold inV at h2 ⊢
    rw [List.any_cons, List.any_cons, h2, eqv_of h hv f.1 f']
abbrev rInA (K : PySem.W.Frag) : R2 := fun x y H Q => rInD K x y H Q ∨ rIn K false x y H Q
abbrev rNotInA (K : PySem.W.Frag) : R2 := fun x y H Q => rNotInD K x y H Q ∨ rIn K true x y H Q
theorem op_inA (hu : X.A.units + 65 < cLine) : OpR X (compareOp .In) (rInA X.K) := (op_inD hu).or op_in_seq
theorem op_notInA (hu : X.A.units + 65 < cLine) : OpR X (compareOp .NotIn) (rNotInA X.K) := (op_notInD hu).or op_notIn_seq
theorem od_in {K : PySem.W.Frag} : OpD K (rInA K) vIn := by
  intro P H x y d e z Q nf hx hy h q
  cases hy with
  | @lst a xs ds hs ha =>
    have h : (if (SeqAt.shaped d && SeqAt.shaped (.list ds)) = true then some (PyData.bool (ds.any fun z => PyData.eqv z d)) else none) = some z := h
    split at h
    · rename_i hsh
      cases h
      have hsh := Bool.and_eq_true_iff.mp hsh
      exact .inl ⟨d, ds, Dp_mono vw_le _ _ hx, .lst (vw_le.seq hs) (DpAll_mono vw_le _ _ ha), hsh.1, hsh.2, q _ H (Same.refl H) (.bl _)⟩
    · cases h
  | @tup a xs ds hs ha =>
    have h : (if (flatD d && ds.all flatD) = true then some (PyData.bool (ds.any fun z => PyData.eqv z d)) else none) = some z := h
    split at h
    · rename_i hsh
      cases h
      have hsh := Bool.and_eq_true_iff.mp hsh
      obtain ⟨h1, h2⟩ := any_of hx hsh.1 ha hsh.2
      exact .inr ⟨_, _, rfl, .inr (seqT vw_le hs), flat_of hx hsh.1, h1, q _ H (Same.refl H) (by simp only [Bool.false_eq_true, if_false]; rw [h2]; exact .bl _)⟩
    · cases h
  | _ => cases d <;> cases h
theorem od_notIn {K : PySem.W.Frag} : OpD K (rNotInA K) vNotIn := by
  intro P H x y d e z Q nf hx hy h q
  cases hy with
  | @lst a xs ds hs ha =>
    have h : (if (SeqAt.shaped d && SeqAt.shaped (.list ds)) = true then some (PyData.bool (!ds.any fun z => PyData.eqv z d)) else none) = some z := h
    split at h
    · rename_i hsh
      cases h
      have hsh := Bool.and_eq_true_iff.mp hsh
      exact .inl ⟨d, ds, Dp_mono vw_le _ _ hx, .lst (vw_le.seq hs) (DpAll_mono vw_le _ _ ha), hsh.1, hsh.2, q _ H (Same.refl H) (.bl _)⟩
    · cases h
  | @tup a xs ds hs ha =>
    have h : (if (flatD d && ds.all flatD) = true then some (PyData.bool (!ds.any fun z => PyData.eqv z d)) else none) = some z := h
    split at h
    · rename_i hsh
      cases h
      have hsh := Bool.and_eq_true_iff.mp hsh
      obtain ⟨h1, h2⟩ := any_of hx hsh.1 ha hsh.2
      exact .inr ⟨_, _, rfl, .inr (seqT vw_le hs), flat_of hx hsh.1, h1, q _ H (Same.refl H) (by simp only [if_true]; rw [h2]; exact .bl _)⟩
    · cases h
  | _ => cases d <;> cases h

/-! ### 8. comprehensions -/
def wipeE (env : Env) : List Nat → Env
  | [] => env
  | v :: vs => (wipeE env vs).set v .un
def compG (t : GT) (c : GB) (e : GE) (env : Env) : List D → Option (List D)
  | [] => some []
  | d :: ds => (t d env).bind fun env1 => (c env1).bind fun k => if k = true then (e env1).bind fun y => (compG t c e env ds).bind fun r => some (y :: r) else compG t c e env ds
def gYes : GB := fun _ => some true
def isOwn : Option Slot → Bool
  | some (.ow _) => true
  | _ => false
def noOwB (env : Env) : List Nat → Bool
  | [] => true
  | i :: vs => !isOwn env[i]? && noOwB env vs
def gComp (vs : List Nat) (gi : GA) (t : GT) (c : GB) (e : GE) : GE := fun env => (gi env).bind fun ds => if noOwB env vs && decide (ds.length < lim) then (compG t c e (wipeE env vs) ds).bind fun r => some (.list r) else none
theorem EO.setUn {K : PySem.W.Frag} {H0 H : Hp} {M : Addr → Prop} {env : Env} {σ : Sg} {pa : Nat → Addr} (E : EO K H0 M env σ H pa) (i : Nat) : EO K H0 M (env.set i .un) (σ.set i none) H pa := by
  have ow : ∀ a, Ow (env.set i .un) pa a → Ow env pa a := fun a ⟨j, ds, h1, h2⟩ => by
    rcases set_some h1 with ⟨_, e, _⟩ | ⟨_, e⟩
    · cases e
    · exact ⟨j, ds, e, h2⟩
  have ms : Same (vw (Hd M env pa) H) (vw (Hd M (env.set i .un) pa) H) := vw_same (Same.refl H) fun a _ _ q => by
    rcases q with q | q
    · exact .inl q
    · exact .inr (ow a q)
  refine ⟨E.same, E.hid, by simp [E.len], fun j e h => ?_, fun j ds h => ?_, fun j k ds es h1 h2 h3 => ?_⟩
  · rcases set_some h with ⟨_, q, _⟩ | ⟨ne, q⟩
    · cases q
    · obtain ⟨u, h1, h2⟩ := E.val j e q
      exact ⟨u, by rw [List.getElem?_set_ne (Ne.symm ne)]; exact h1, Dp_mono ms _ _ h2⟩
  · rcases set_some h with ⟨_, q, _⟩ | ⟨ne, q⟩
    · cases q
    · obtain ⟨h1, h2, vs, h3, h4⟩ := E.ow j ds q
      exact ⟨by rw [List.getElem?_set_ne (Ne.symm ne)]; exact h1, h2, vs, h3, Ct.mono ms h4⟩
  · rcases set_some h1 with ⟨_, q, _⟩ | ⟨_, q⟩
    · cases q
    · rcases set_some h2 with ⟨_, r, _⟩ | ⟨_, r⟩
      · cases r
      · exact E.inj j k ds es q r h3
theorem EO.wipe {K : PySem.W.Frag} {H0 H : Hp} {M : Addr → Prop} {env : Env} {σ : Sg} {pa : Nat → Addr} (E : EO K H0 M env σ H pa) : ∀ vs : List Nat, EO K H0 M (wipeE env vs) (L2.wipe σ vs) H pa
  | [] => E
  | v :: vs => (EO.wipe E vs).setUn v
theorem ow_wipe {env : Env} {pa : Nat → Addr} {a : Addr} : ∀ {vs : List Nat}, Ow (wipeE env vs) pa a → Ow env pa a
  | [], h => h
  | v :: vs, ⟨j, ds, h1, h2⟩ => by
    rcases set_some h1 with ⟨_, e, _⟩ | ⟨_, e⟩
    · cases e
    · exact ow_wipe (vs := vs) ⟨j, ds, e, h2⟩
/-- the readings that stand for themselves -/
def tOf (K : PySem.W.Frag) (b : Bool) (g : GE) : TE := fun σ H Q => ∃ (H0 : Hp) (M : Addr → Prop) (env : Env) (pa : Nat → Addr) (d : D), EO K H0 M env σ H pa ∧ g env = some d ∧ ∀ v H', Same H H' → Dp K (vw (Vs b M env pa) H') v d → Q v H'
theorem PEd.can {g : GE} (h : PEd X b e g) : PE X e (tOf X.K b g) := by
  obtain ⟨t, ht, hh⟩ := h
  exact ⟨fun pins s σ H Q I ⟨H0, M, env, pa, d, E, h, q⟩ => ht.run pins s σ H Q I (hh H0 M env σ H pa d Q E h q)⟩
def uOf (K : PySem.W.Frag) (g : GB) : TT := fun σ H Q => ∃ (H0 : Hp) (M : Addr → Prop) (env : Env) (pa : Nat → Addr) (k : Bool), EO K H0 M env σ H pa ∧ g env = some k ∧ ∀ H', Same H H' → Q k H'
theorem PTd.can {g : GB} (h : PTd X e g) : PT X e (uOf X.K g) := by
  obtain ⟨t, ht, hh⟩ := h
  exact ⟨fun pins s σ H Q I ⟨H0, M, env, pa, d, E, h, q⟩ => ht.run pins s σ H Q I (hh H0 M env σ H pa d Q E h q)⟩
def PTsd (X : Cx) (ifs : List Expr) (g : GB) : Prop := PTs X ifs (uOf X.K g)
theorem ptsd_nil : PTsd X [] gYes := ⟨fun pins s σ H Q I ⟨H0, M, env, pa, k, E, h, q⟩ => by cases h; exact pts_nil.run pins s σ H Q I (q H (Same.refl H))⟩
theorem ptsd_one {g : GB} (h : PTd X e g) : PTsd X [e] g := pts_one h.can
def NoOw (vs : List Nat) (env : Env) : Prop := ∀ i ∈ vs, ∀ ds : Cont, env[i]? ≠ some (Slot.ow ds)
theorem noOw_of {env : Env} : ∀ {vs : List Nat}, noOwB env vs = true → NoOw vs env
  | [], _ => fun i h => by cases h
  | v :: vs, h => fun i hi ds z => by
    have h := Bool.and_eq_true_iff.mp (show (!isOwn env[v]? && noOwB env vs) = true from h)
    rcases List.mem_cons.mp hi with rfl | hi
    · rw [z] at h
      exact absurd h.1 Bool.false_ne_true
    · exact noOw_of h.2 i hi ds z
theorem ow_wipe2 {env : Env} {pa : Nat → Addr} {a : Addr} : ∀ {vs : List Nat}, NoOw vs env → Ow env pa a → Ow (wipeE env vs) pa a
  | [], _, h => h
  | v :: vs, n, h => by
    obtain ⟨j, ds, h1, h2⟩ := ow_wipe2 (vs := vs) (fun i hi => n i (List.mem_cons_of_mem _ hi)) h
    refine ⟨j, ds, ?_, h2⟩
    show ((wipeE env vs).set v .un)[j]? = _
    have ne : v ≠ j := fun e => by
      subst e
      have back : ∀ (ws : List Nat), (wipeE env ws)[v]? = some (Slot.ow ds) → env[v]? = some (Slot.ow ds) := by
        intro ws
        induction ws with
        | nil => exact id
        | cons w ws ih =>
          intro q
          rcases set_some q with ⟨_, q, _⟩ | ⟨_, q⟩
          · cases q
          · exact ih q
      exact n v List.mem_cons_self ds (back vs h1)
    rw [List.getElem?_set_ne ne]
    exact h1
theorem noOw_wipe {env : Env} : ∀ {vs : List Nat}, NoOw vs (wipeE env vs)
  | [], i, h => by cases h
  | v :: vs, i, h => fun ds z => by
    rcases set_some (show ((wipeE env vs).set v .un)[i]? = some (Slot.ow ds) from z) with ⟨_, q, _⟩ | ⟨ne, q⟩
    · cases q
    · rcases List.mem_cons.mp h with rfl | h
      · exact ne rfl
      · exact noOw_wipe (vs := vs) i h ds q
/-- a comprehension's target: it stores at the slots vs alone -/
structure TGc (vs : List Nat) (t : GT) : Prop where
  fw : ∀ d env env' pa a, t d env = some env' → Ow env' pa a → Ow env pa a
  bw : ∀ d env env' pa a, NoOw vs env → t d env = some env' → Ow env pa a → Ow env' pa a
  no : ∀ d env env', NoOw vs env → t d env = some env' → NoOw vs env'
structure TGsc (vs : List Nat) (ts : List GT) : Prop where
  fw : ∀ ds env env' pa a, tTup2 ts ds env = some env' → Ow env' pa a → Ow env pa a
  bw : ∀ ds env env' pa a, NoOw vs env → tTup2 ts ds env = some env' → Ow env pa a → Ow env' pa a
  no : ∀ ds env env', NoOw vs env → tTup2 ts ds env = some env' → NoOw vs env'
def PGc (X : Cx) (vs : List Nat) (tg : Expr) (t : GT) : Prop := TGc vs t ∧ ∃ g, PG X tg g ∧ ∀ (H0 : Hp) (M : Addr → Prop) (env : Env) (σ : Sg) (H : Hp) (pa : Nat → Addr) (v : V) (d : D) (env' : Env) (Q : Sg → Hp → Prop), EO X.K H0 M env σ H pa → Dp X.K (vw (Hd M env pa) H) v d → t d env = some env' →
      (∀ σ' H', Same H H' → L2.wipe σ' vs = L2.wipe σ vs → EO X.K H0 M env' σ' H' pa → Q σ' H') → g v σ H Q
def PGsc (X : Cx) (vs : List Nat) (tgs : List Expr) (ts : List GT) : Prop := TGsc vs ts ∧ ∃ g, PGs X tgs g ∧ ∀ (H0 : Hp) (M : Addr → Prop) (env : Env) (σ : Sg) (H : Hp) (pa : Nat → Addr) (ws : List V) (ds : List D) (env' : Env) (Q : Sg → Hp → Prop), EO X.K H0 M env σ H pa → DpAll X.K (vw (Hd M env pa) H) ws ds → tTup2 ts ds env = some env' →
      (∀ σ' H', Same H H' → L2.wipe σ' vs = L2.wipe σ vs → EO X.K H0 M env' σ' H' pa → Q σ' H') → g ws σ H Q
theorem wipe_set {σ : Sg} {i : Nat} {o : Option V} : ∀ {vs : List Nat}, i ∈ vs → L2.wipe (σ.set i o) vs = L2.wipe σ vs
  | [], h => by cases h
  | v :: vs, h => by
    show (L2.wipe (σ.set i o) vs).set v none = (L2.wipe σ vs).set v none
    by_cases hm : i ∈ vs
    · rw [wipe_set hm]
    · have e : i = v := by
        rcases List.mem_cons.mp h with h | h
        · exact h
        · exact absurd h hm
      subst e
      have out : ∀ (ws : List Nat), i ∉ ws → L2.wipe (σ.set i o) ws = (L2.wipe σ ws).set i o := by
        intro ws
        induction ws with
        | nil => intro _; rfl
        | cons w ws ih =>
          intro hn
          have h1 : i ≠ w := fun z => hn (by rw [z]; exact List.mem_cons_self)
          have h2 : i ∉ ws := fun z => hn (List.mem_cons_of_mem _ z)
          show (L2.wipe (σ.set i o) ws).set w none = ((L2.wipe σ ws).set w none).set i o
          rw [ih h2, List.set_comm _ _ h1]
      rw [out vs hm, List.set_set]
theorem wipe_idem {σ : Sg} {vs : List Nat} : L2.wipe (L2.wipe σ vs) vs = L2.wipe σ vs := by
  have : ∀ ws : List Nat, (∀ i ∈ ws, i ∈ vs) → L2.wipe (L2.wipe σ ws) vs = L2.wipe σ vs := by
    intro ws
    induction ws with
    | nil => intro _; rfl
    | cons w ws ih =>
      intro h
      show L2.wipe ((L2.wipe σ ws).set w none) vs = _
      rw [wipe_set (h w List.mem_cons_self), ih fun i hi => h i (List.mem_cons_of_mem _ hi)]
  exact this vs fun _ h => h
theorem tgc_name {i : Nat} {vs : List Nat} (hv : i ∈ vs) : TGc vs (tName i) := by
  refine ⟨fun d env env' pa a h z => ?_, fun d env env' pa a n h z => ?_, fun d env env' n h => ?_⟩
  · cases h
    exact ow_set_val z
  · cases h
    obtain ⟨j, ds, h1, h2⟩ := z
    refine ⟨j, ds, ?_, h2⟩
    have ne : i ≠ j := fun e => by subst e; exact n i hv ds h1
    rw [List.getElem?_set_ne ne]
    exact h1
  · cases h
    intro j hj ds z
    rcases set_some z with ⟨_, q, _⟩ | ⟨_, q⟩
    · cases q
    · exact n j hj ds q
theorem gc_name {i : Nat} {vs : List Nat} (hN : X.N.Nodup) (hi : X.N[i]? = some x) (hx : Loc X.env.scope x) (hv : i ∈ vs := by decide) (hf : X.fn x = true ∨ X.env.scope.names.lookup x = some .local := by first | exact .inl rfl | exact .inr rfl | assumption) : PGc X vs (.Name x pos) (tName i) := by
  refine ⟨tgc_name hv, _, pg_name hN hi hx hf, fun H0 M env σ H pa v d env' Q E hv' h q => ?_⟩
  cases h
  exact q _ H (Same.refl H) (wipe_set hv) (E.setVal hv')
theorem gsc_nil {vs : List Nat} : PGsc X vs [] [] := by
  refine ⟨⟨fun ds env env' pa a h z => ?_, fun ds env env' pa a n h z => ?_, fun ds env env' n h => ?_⟩, _, pgs_nil, fun H0 M env σ H pa ws ds env' Q E hv h q => ?_⟩
  · cases ds with
    | nil => cases h; exact z
    | cons _ _ => cases h
  · cases ds with
    | nil => cases h; exact z
    | cons _ _ => cases h
  · cases ds with
    | nil => cases h; exact n
    | cons _ _ => cases h
  · cases hv with
    | nil => cases h; exact ⟨rfl, q _ _ (Same.refl H) rfl E⟩
    | cons _ _ => cases h
theorem gsc_cons {vs : List Nat} {es : List Expr} {t : GT} {ts : List GT} (h1 : PGc X vs e t) (h2 : PGsc X vs es ts) (hs : (assignEach (e :: es) X.env).map (·.2) = assign e X.env :: (assignEach es X.env).map (·.2) := by rfl) : PGsc X vs (e :: es) (t :: ts) := by
  obtain ⟨T1, g, hg, hh⟩ := h1
  obtain ⟨T2, u, hu, hh'⟩ := h2
  refine ⟨⟨fun ds env env' pa a h z => ?_, fun ds env env' pa a n h z => ?_, fun ds env env' n h => ?_⟩, _, pgs_cons hg hu hs, fun H0 M env σ H pa ws ds env' Q E hv h q => ?_⟩
  · cases ds with
    | nil => cases h
    | cons d ds =>
      obtain ⟨env1, h1, h2⟩ := bind1 h
      exact T1.fw _ _ _ _ _ h1 (T2.fw _ _ _ _ _ h2 z)
  · cases ds with
    | nil => cases h
    | cons d ds =>
      obtain ⟨env1, h1, h2⟩ := bind1 h
      exact T2.bw _ _ _ _ _ (T1.no _ _ _ n h1) h2 (T1.bw _ _ _ _ _ n h1 z)
  · cases ds with
    | nil => cases h
    | cons d ds =>
      obtain ⟨env1, h1, h2⟩ := bind1 h
      exact T2.no _ _ _ (T1.no _ _ _ n h1) h2
  · cases hv with
    | nil => cases h
    | cons hv1 hv2 =>
      obtain ⟨env1, h1, h2⟩ := bind1 h
      refine ⟨_, _, rfl, hh H0 M env σ H pa _ _ env1 _ E hv1 h1 fun σ' H' s w E' => ?_⟩
      refine hh' H0 M env1 σ' H' pa _ _ env' Q E' (DpAll_mono (vw_same s fun a o _ z => ?_) _ _ hv2) h2 fun σ'' H'' s' w' => q σ'' H'' (s.trans s') (w'.trans w)
      rcases z with z | z
      · exact .inl z
      · exact .inr (T1.fw _ _ _ _ _ h1 z)
theorem tup2_len : ∀ (ts : List GT) (ds : List D) (env env' : Env), tTup2 ts ds env = some env' → ds.length = ts.length
  | [], [], _, _, _ => rfl
  | [], _ :: _, _, _, h => by cases h
  | _ :: _, [], _, _, h => by cases h
  | t :: ts, d :: ds, env, env', h => by
    obtain ⟨env1, _, h2⟩ := bind1 (show (t d env).bind (fun e => tTup2 ts ds e) = some env' from h)
    rw [List.length_cons, List.length_cons, tup2_len ts ds env1 env' h2]
theorem gc_tup {vs : List Nat} {es : List Expr} {k : Nat} {ts : List GT} (hc : X.calm = true) (h : PGsc X vs es ts) (hl : ts.length = es.length := by rfl) (hn : (assignEach es X.env).length = es.length := by rfl) (hst : (assignEach es X.env).findIdx? (·.1) = none := by rfl) : PGc X vs (.Tuple es k pos) (tTuple ts) := by
  obtain ⟨T, g, hg, hh⟩ := h
  refine ⟨⟨fun d env env' pa a h z => ?_, fun d env env' pa a n h z => ?_, fun d env env' n h => ?_⟩, _, pg_tup (n := es.length) hc hg hn hst, fun H0 M env σ H pa v d env' Q E hv h q => ?_⟩
  · cases d with
    | tuple ds => exact T.fw ds env env' pa a h z
    | _ => cases h
  · cases d with
    | tuple ds => exact T.bw ds env env' pa a n h z
    | _ => cases h
  · cases d with
    | tuple ds => exact T.no ds env env' n h
    | _ => cases h
  · cases hv with
    | tup hs ha =>
      have h : tTup2 ts _ env = some env' := h
      exact ⟨_, _, rfl, seqT vw_le hs, by rw [DpAll_len ha, tup2_len _ _ _ _ h, hl], hh H0 M env σ H pa _ _ env' Q E ha h q⟩
    | _ => cases h
def gOf (K : PySem.W.Frag) (vs : List Nat) (t : GT) : TG := fun v σ H Q => ∃ (H0 : Hp) (M : Addr → Prop) (env : Env) (pa : Nat → Addr) (d : D) (env' : Env), EO K H0 M env σ H pa ∧ Dp K (vw (Hd M env pa) H) v d ∧ t d env = some env' ∧
  (∀ σ' H', Same H H' → L2.wipe σ' vs = L2.wipe σ vs → EO K H0 M env' σ' H' pa → Q σ' H')
theorem PGc.can {vs : List Nat} {t : GT} (h : PGc X vs tg t) : PG X tg (gOf X.K vs t) := by
  obtain ⟨_, g, hg, hh⟩ := h
  exact ⟨fun pins s σ H v u Q I r ⟨H0, M, env, pa, d, env', E, hd, h, q⟩ => hg.run pins s σ H v u Q I r (hh H0 M env σ H pa v d env' Q E hd h q)⟩
/-- the context of a comprehension's block -/
abbrev BX (X : Cx) (scope : Scope) (s : Shared) (H : Hp) (C : Addr) (cl : List (Str × Addr)) (fp : List Addr) : Cx := X.blk s H scope (compEnvC scope cl C X.env) fp
theorem comp_run {vs : List Nat} {gi : GA} {wi : TI} {t : GT} {gc : GB} {ge : GE} (T : TGc vs t)
    (hhi : ∀ (H0 : Hp) (M : Addr → Prop) (env : Env) (σ : Sg) (H : Hp) (pa : Nat → Addr) (ds : List D) (R : It → Hp → Prop), EO X.K H0 M env σ H pa → gi env = some ds → (∀ J H', Same H H' → Wk X.K (vw (Vs false M env pa) H') J ds → R J H') → wi σ H R)
    (H0 : Hp) (M : Addr → Prop) (env : Env) (σ : Sg) (H : Hp) (pa : Nat → Addr) (d : D) (Q : VK) (E : EO X.K H0 M env σ H pa) (h : gComp vs gi t gc ge env = some d)
    (q : ∀ p ws ds H', Same H H' → H p = none → H' p = some (.lst ws) → d = .list ds → DpAll X.K (vw (fun a => Hd M env pa a ∨ a = p) H') ws ds → Q (.ref p) H') : tLc wi (gOf X.K vs t) (uOf X.K gc) (tOf X.K false ge) vs σ H Q := by
  obtain ⟨ds, h1, h2⟩ := bind1 h
  have h2 : (if (noOwB env vs && decide (ds.length < lim)) = true then (compG t gc ge (wipeE env vs) ds).bind fun r => some (PyData.list r) else none) = some d := h2
  split at h2
  case isFalse => cases h2
  rename_i hcond
  have hcond := Bool.and_eq_true_iff.mp hcond
  have hno := noOw_of hcond.1
  have hlim := of_decide_eq_true hcond.2
  obtain ⟨r, h3, h4⟩ := bind1 h2
  cases h4
  refine hhi H0 M env σ H pa ds _ E h1 fun J H1 s1 w L hL => ?_
  have E1 := E.up s1
  have Eo := ow_hidden E1
  -- the state ahead of each turn
  refine ⟨fun i m H2 => ∃ acc done, H2 L = some (.lst acc) ∧ Same H1 H2 ∧ DpAll X.K (vw (fun a => Hd M env pa a ∨ a = L) H2) acc done ∧ done.length ≤ i ∧ m = ds.length - i ∧ i ≤ ds.length ∧ ∃ r2, compG t gc ge (wipeE env vs) (ds.drop i) = some r2 ∧ done ++ r2 = r,
    ⟨ds.length, [], [], upd_same, same_upd hL, .nil, Nat.zero_le _, by simp, Nat.zero_le _, r, h3, rfl⟩, ?_⟩
  rintro i m H2 ⟨acc, done, hacc, sm2, hall, hdl, rfl, hi, r2, h5, h6⟩
  have to2 : Same (vw (Hd M env pa) H1) H2 := vw_le.trans sm2
  by_cases hlt : i < ds.length
  · have hd : ds[i]? = some ds[i] := List.getElem?_eq_getElem hlt
    obtain ⟨go, yl⟩ := w.go i ds[i] H2 to2 hd
    have hdr : ds.drop i = ds[i] :: ds.drop (i + 1) := List.drop_eq_getElem_cons hlt
    rw [hdr] at h5
    obtain ⟨env3, h7, h8⟩ := bind1 (show (t ds[i] (wipeE env vs)).bind _ = some r2 from h5)
    obtain ⟨k, h9, h10⟩ := bind1 h8
    refine .inr ⟨go, fun H' => ∃ acc done, H' L = some (.lst acc) ∧ Same H1 H' ∧ DpAll X.K (vw (fun a => Hd M env pa a ∨ a = L) H') acc done ∧ done.length ≤ i + 1 ∧ ∃ r2, compG t gc ge (wipeE env vs) (ds.drop (i + 1)) = some r2 ∧ done ++ r2 = r,
      fun H' ⟨acc, done, a1, a2, a3, a4, a5⟩ => ⟨ds.length - (i + 1), by omega, acc, done, a1, a2, a3, a4, rfl, hlt, a5⟩, fun x H3 hy => ?_⟩
    obtain ⟨s3, dx⟩ := yl x H3 hy
    -- the block's own world: the list that grows is hidden
    have EB : EO X.K (vw (Ow env pa) H1) (fun a => M a ∨ a = L) env σ H2 pa := by
      have ms : Same (vw (Hd M env pa) H1) (vw (Hd (fun a => M a ∨ a = L) env pa) H2) := fun a o ho => by
        obtain ⟨z1, z2⟩ := vw_some ho
        refine vw_of (fun z => ?_) (sm2 a o z2)
        rcases z with (z | rfl) | z
        · exact z1 (.inl z)
        · rw [hL] at z2; cases z2
        · exact z1 (.inr z)
      refine ⟨vw_le.trans sm2, fun a ha z => ?_, E1.len, fun j e hj => ?_, fun j es hj => ?_, E1.inj⟩
      · rcases ha with ha | rfl
        · exact E1.hid a ha (sm2.free z)
        · rw [hacc] at z; cases z
      · obtain ⟨v, g1, g2⟩ := E1.val j e hj
        exact ⟨v, g1, Dp_mono ms _ _ g2⟩
      · obtain ⟨g1, g2, ws, g3, g4⟩ := E1.ow j es hj
        obtain ⟨_, g5, _⟩ := Eo.ow j es hj
        refine ⟨g1, ⟨g5.1, fun z => ?_⟩, ws, sm2 _ _ g3, Ct.mono ms g4⟩
        rcases z with z | z
        · exact g2.2 z
        · rw [z, hL] at g3; cases g3
    have EW := EO.wipe EB vs
    have dx := dx (Hd (fun a => M a ∨ a = L) (wipeE env vs) pa) (fun p hp => EW.hidden hp) (fun a o ho => by
      obtain ⟨z1, z2⟩ := vw_some ho
      refine vw_of (fun z => ?_) (sm2 a o z2)
      rcases z with (z | rfl) | z
      · exact z1 (.inl z)
      · rw [hL] at z2; cases z2
      · exact z1 (.inr (ow_wipe z)))
    refine ⟨_, _, _, pa, ds[i], env3, EW.up s3, dx, h7, fun σ4 H4 s4 w4 E4 => ⟨w4.trans wipe_idem, _, _, _, pa, k, E4, h9, fun H5 s5 => ?_⟩⟩
    have E5 := E4.up s5
    cases k with
    | false =>
      rw [if_neg (by decide)] at h10
      refine iteF ?_
      have s25 : Same H2 H5 := (s3.trans s4).trans s5
      refine ⟨acc, done, s25 _ _ hacc, sm2.trans s25, DpAll_mono (vw_up s25) _ _ hall, by omega, r2, h10, h6⟩
    | true =>
      rw [if_pos rfl] at h10
      refine iteT ?_
      obtain ⟨y, h11, h12⟩ := bind1 h10
      obtain ⟨r3, h13, h14⟩ := bind1 h12
      cases h14
      refine ⟨_, _, _, pa, y, E5, h11, fun v H6 s6 hv => ?_⟩
      have s26 : Same H2 H6 := ((s3.trans s4).trans s5).trans s6
      refine ⟨acc, s26 _ _ hacc, by rw [DpAll_len hall, ← lim_eq]; omega, acc ++ [v], done ++ [y], upd_same, fun a o ho => ?_, DpAll_app (DpAll_mono (fun a o ho => ?_) _ _ hall) (.cons (Dp_mono (fun a o ho => ?_) _ _ hv) .nil), by rw [List.length_append, List.length_singleton]; omega, r3, h13, by rw [List.append_assoc]; exact h6⟩
      · have na : a ≠ L := ne_of_none ho hL
        rw [upd_ne na]
        exact s26 a o (sm2 a o ho)
      · obtain ⟨z1, z2⟩ := vw_some ho
        have na : a ≠ L := fun z => z1 (.inr z)
        exact vw_of z1 (by rw [upd_ne na]; exact s26 a o z2)
      · obtain ⟨z1, z2⟩ := vw_some ho
        have na : a ≠ L := fun z => z1 (.inl (.inr z))
        refine vw_of (fun z => ?_) (by rw [upd_ne na]; exact z2)
        rcases z with (z | z) | z
        · exact z1 (.inl (.inl z))
        · exact z1 (.inr (T.bw _ _ _ _ _ noOw_wipe h7 (ow_wipe2 hno z)))
        · exact na z
  · have e : i = ds.length := by omega
    subst e
    refine .inl ⟨w.stop H2 to2, ?_⟩
    rw [List.drop_length] at h5
    cases h5
    rw [List.append_nil] at h6
    subst h6
    exact q L acc done H2 (s1.trans sm2) (s1.free hL) hacc rfl hall
variable {ifs : List Expr} {scope : Scope} {own : List (Str × Nat)} {gi : GA} {t : GT} {gc : GB} {ge : GE}
theorem pd_lc (hc : X.calm = true) (hN : X.N.Nodup) (hi : PId X tg iter false gi) (ok : BlkOk X.N X.env.scope scope own)
    (hg : ∀ (s : Shared) (H : Hp) (C : Addr) (cl : List (Str × Addr)) (fp : List Addr), PGc (BX X scope s H C cl fp) (own.map (·.2)) tg t) (ht : ∀ (s : Shared) (H : Hp) (C : Addr) (cl : List (Str × Addr)) (fp : List Addr), PTsd (BX X scope s H C cl fp) ifs gc)
    (he : ∀ (s : Shared) (H : Hp) (C : Addr) (cl : List (Str × Addr)) (fp : List Addr), PEd (BX X scope s H C cl fp) false elt ge) (hT : TGc (own.map (·.2)) t) (hs : ∀ x, foldedSetIterable iter X.env x = pure x := by intro _; rfl) :
    PEd X b (.ListComp elt [⟨tg, iter, ifs, 0⟩] scope pos) (gComp (own.map (·.2)) gi t gc ge) := by
  obtain ⟨wi, hwi, hhi⟩ := hi
  refine ⟨_, pe_lc (g := gOf X.K (own.map (·.2)) t) (tt := uOf X.K gc) (te := tOf X.K false ge) hc hN hwi ok (fun s H C cl fp => (hg s H C cl fp).can) (fun s H C cl fp => ht s H C cl fp) (fun s H C cl fp => (he s H C cl fp).can) hs, fun H0 M env σ H pa d Q E h q => ?_⟩
  refine comp_run hT hhi H0 M env σ H pa d Q E h fun p ws ds H' s hp hpl hd hall => ?_
  subst hd
  have np : ¬ Hd M env pa p := fun z => E.hidden z hp
  have np' : ¬ Vs b M env pa p := by
    cases b with
    | true => exact fun z => np (.inl z)
    | false => exact np
  refine q _ H' s (.lst (.inl (.inl (vw_of np' hpl))) (DpAll_mono (vw_same (Same.refl _) fun a _ _ z => ?_) _ _ hall))
  cases b with
  | true => exact .inl (.inl z)
  | false => exact .inl z
theorem sd_setLc {i : Nat} {y : Str} {py spos : Pos} (hc : X.calm = true) (hN : X.N.Nodup) (hy : X.N[i]? = some y) (hyl : X.env.scope.names.lookup y = some .local) (hsw : swapsWith (.ListComp elt [⟨tg, iter, ifs, 0⟩] scope pos) (some (.Name y py)) spos.line X.env = pure true) (hi : PId X tg iter false gi) (ok : BlkOk X.N X.env.scope scope own)
    (hg : ∀ (s : Shared) (H : Hp) (C : Addr) (cl : List (Str × Addr)) (fp : List Addr), PGc (BX X scope s H C cl fp) (own.map (·.2)) tg t) (ht : ∀ (s : Shared) (H : Hp) (C : Addr) (cl : List (Str × Addr)) (fp : List Addr), PTsd (BX X scope s H C cl fp) ifs gc)
    (he : ∀ (s : Shared) (H : Hp) (C : Addr) (cl : List (Str × Addr)) (fp : List Addr), PEd (BX X scope s H C cl fp) false elt ge) (hT : TGc (own.map (·.2)) t) (hs : ∀ x, foldedSetIterable iter X.env x = pure x := by intro _; rfl) :
    PSd X (.Assign [.Name y py] (.ListComp elt [⟨tg, iter, ifs, 0⟩] scope pos) spos) (sSet i (gComp (own.map (·.2)) gi t gc ge)) := by
  obtain ⟨wi, hwi, hhi⟩ := hi
  refine ⟨_, ps_setLc (g := gOf X.K (own.map (·.2)) t) (tt := uOf X.K gc) (te := tOf X.K false ge) hc hN hy hyl hsw hwi ok (fun s H C cl fp => (hg s H C cl fp).can) (fun s H C cl fp => ht s H C cl fp) (fun s H C cl fp => (he s H C cl fp).can) hs, fun H0 M env σ H pa o T E h q => ?_⟩
  obtain ⟨d, h1, h2⟩ := bind1 h
  cases h2
  refine comp_run hT hhi H0 M env σ H pa d _ E h1 fun p ws ds H' s hp hpl hd hall => ?_
  subst hd
  exact q _ H' pa ((E.up s).setVal (.lst (.inl (.inl (vw_of (fun z => E.hidden z hp) hpl))) (DpAll_mono (vw_same (Same.refl _) fun a _ _ z => .inl z) _ _ hall)))
def gListOf (a : GE) : GA := fun env => (a env).bind asLst
theorem EO.setOwn2 {K : PySem.W.Frag} {H0 H H' : Hp} {M : Addr → Prop} {env : Env} {σ : Sg} {pa : Nat → Addr} {i : Nat} {p : Addr} {ws : List V} {ds : List D} (E : EO K H0 M env σ H pa) (s : Same H H') (hp : H p = none) (hpl : H' p = some (.lst ws)) (hall : DpAll K (vw (fun a => Hd M env pa a ∨ a = p) H') ws ds) :
    EO K H0 M (env.set i (.own ds)) (σ.set i (some (.ref p))) H' (fun j => if j = i then p else pa j) := by
  have e : upd (fun a => if a = p then none else H' a) p (.lst ws) = H' := by
    funext a
    by_cases z : a = p
    · subst z; rw [upd_same, hpl]
    · rw [upd_ne z, if_neg z]
  have sm : Same H (fun a => if a = p then none else H' a) := fun a o ho => by
    have na : a ≠ p := ne_of_none ho hp
    show (if a = p then none else H' a) = some o
    rw [if_neg na]
    exact s a o ho
  have := EO.setOwn (i := i) (p := p) (vs := ws) (ds := ds) (E.up sm) (by simp) (DpAll_mono (fun a o ho => ?_) _ _ hall)
  · rw [e] at this
    exact this
  · obtain ⟨z1, z2⟩ := vw_some ho
    refine vw_of (fun z => z1 (.inl z)) ?_
    show (if a = p then none else H' a) = some o
    rw [if_neg fun z => z1 (.inr z)]
    exact z2
theorem sd_ownLc {i : Nat} {y : Str} {py spos : Pos} (hc : X.calm = true) (hN : X.N.Nodup) (hy : X.N[i]? = some y) (hyl : X.env.scope.names.lookup y = some .local) (hsw : swapsWith (.ListComp elt [⟨tg, iter, ifs, 0⟩] scope pos) (some (.Name y py)) spos.line X.env = pure true) (hi : PId X tg iter false gi) (ok : BlkOk X.N X.env.scope scope own)
    (hg : ∀ (s : Shared) (H : Hp) (C : Addr) (cl : List (Str × Addr)) (fp : List Addr), PGc (BX X scope s H C cl fp) (own.map (·.2)) tg t) (ht : ∀ (s : Shared) (H : Hp) (C : Addr) (cl : List (Str × Addr)) (fp : List Addr), PTsd (BX X scope s H C cl fp) ifs gc)
    (he : ∀ (s : Shared) (H : Hp) (C : Addr) (cl : List (Str × Addr)) (fp : List Addr), PEd (BX X scope s H C cl fp) false elt ge) (hT : TGc (own.map (·.2)) t) (hs : ∀ x, foldedSetIterable iter X.env x = pure x := by intro _; rfl) :
    PSd X (.Assign [.Name y py] (.ListComp elt [⟨tg, iter, ifs, 0⟩] scope pos) spos) (sOwn i (gListOf (gComp (own.map (·.2)) gi t gc ge))) := by
  obtain ⟨wi, hwi, hhi⟩ := hi
  refine ⟨_, ps_setLc (g := gOf X.K (own.map (·.2)) t) (tt := uOf X.K gc) (te := tOf X.K false ge) hc hN hy hyl hsw hwi ok (fun s H C cl fp => (hg s H C cl fp).can) (fun s H C cl fp => ht s H C cl fp) (fun s H C cl fp => (he s H C cl fp).can) hs, fun H0 M env σ H pa o T E h q => ?_⟩
  obtain ⟨ds, h0, h2⟩ := bind1 h
  cases h2
  obtain ⟨d, h1, h3⟩ := bind1 h0
  refine comp_run hT hhi H0 M env σ H pa d _ E h1 fun p ws ds' H' s hp hpl hd hall => ?_
  subst hd
  cases h3
  exact q _ H' _ (E.setOwn2 s hp hpl hall)
end
end Dn

namespace Dn
open PySem PySem.Spec PyProof.Rows L2

/-! ### 9. the law's call -/
/-- the abstract heap ahead of the law's call: the script alone -/
def onlyAt (a : Addr) (vs : List Value) (ns : List Int) : Hp := fun b => if b = a then some (.frz { cls := .type "list", data := .seq vs.toArray } (.lst (ns.map V.int))) else none
theorem law_g {P : Program} {w : World} {K : PySem.W.Frag} {mg mb : Str → Option Value} {k : Nat} {fa a : Addr} {F : List D → Option D} {s₁ : Shared} {vs : List Value} {ns : List Int}
    (KX : K.In s₁.heap) (hns : s₁.heap.Ns mainGlobals mg) (hb : s₁.heap.Ns builtinsNs mb) (hbb : ∀ x : Str, x ≠ "__name__" → mb x = bootBuiltins x) (hlim : s₁.heap.NoLimit) (hg : s₁.gens = #[])
    (ha : s₁.heap.get? a = some { cls := .type "list", data := .seq vs.toArray }) (hi : IntsAre vs ns) (hl : ns.length ≤ sizeLine) (hr : Room k callerA) (hmg : mg "law" = some (.ref fa))
    (O : ∀ base : Heap, K.In base → base.Ns mainGlobals mg → Ok P w K mg base "law" k 1 F) (hF : F [.list (ns.map PyData.int)] = some (.bool true)) :
    codeAny (model P w) callerA (.call (.ref fa) ⟨[.ref a], []⟩) (fun r s' => r = .ok (.ret (.bool true)) ∧ OldK s₁.heap s'.heap ∧ s'.os = s₁.os ∧ AllBare s'.gens) s₁ := by
  have rv : Vals (ns.map V.int) vs := vals_ints hi
  have lenV := hi.length
  -- the script is the module's own, or it is tracked as it stands
  obtain ⟨H, hH, hS, hok, hKn⟩ : ∃ H : Hp, (∀ b u, H b = some u → b = a ∧ ∃ o, u = .frz o (.lst (ns.map V.int))) ∧ SqL K H a (ns.map V.int) ∧ HOk P w H s₁.heap ∧ (H a ≠ none → K.lookup a = none) := by
    cases hk : K.lookup a with
    | some o =>
      have e := KX a o hk
      rw [ha] at e
      cases e
      exact ⟨fun _ => none, fun b u z => (nomatch z), .inr ⟨_, vs.toArray, _, hk, rfl, rfl, rfl, by rw [List.size_toArray, lenV]; exact hl, by simpa using rv⟩, fun b u z => (nomatch z), fun z => absurd rfl z⟩
    | none =>
      refine ⟨onlyAt a vs ns, fun b u z => ?_, .inl (.inr ⟨_, if_pos rfl⟩), fun b u z => ?_, fun _ => rfl⟩
      · unfold onlyAt at z
        split at z
        · cases z; exact ⟨by assumption, _, rfl⟩
        · cases z
      · unfold onlyAt at z
        split at z
        · rename_i e
          cases z
          subst e
          exact ⟨ha, by rw [List.length_map]; exact hl, vs, _, rv, ha⟩
        · cases z
  have outA : ∀ {b : Addr} {o : Obj}, s₁.heap.get? b = some o → (H b ≠ none → o.data = .seq vs.toArray 0) := fun {b o} e z => by
    cases q : H b with
    | none => exact absurd q z
    | some u =>
      obtain ⟨rfl, _⟩ := hH b u q
      rw [ha] at e
      cases e
      rfl
  have noD : ∀ {b : Addr} {o : Obj} {es : Array DictEntry} {ep : Nat}, s₁.heap.get? b = some o → o.data = .dict es ep → H b = none := fun {b o es ep} e d => by
    cases q : H b with
    | none => rfl
    | some u =>
      have := outA e (by rw [q]; simp)
      rw [d] at this
      cases this
  have nsK : ∀ {b : Addr} {m : Str → Option Value}, s₁.heap.Ns b m → (hidT s₁.heap H).Ns b m := fun {b m} ⟨o, es, ep, e, d, r⟩ => ⟨o, es, ep, hidT_get e (noD e d), d, r⟩
  have hKb : K.In (hidT s₁.heap H) := fun b o e => hidT_get (KX b o e) (by
    cases q : H b with
    | none => rfl
    | some u =>
      obtain ⟨rfl, _⟩ := hH b u q
      rw [hKn (by rw [q]; simp)] at e
      cases e)
  have hM : Mod K mg (hidT s₁.heap H) := ⟨hKb, nsK hns, ⟨mb, nsK hb, hbb⟩, hlim.elim fun mc z => ⟨mc, nsK z.1, z.2⟩⟩
  have e0 : Env0 P w K mg (hidT s₁.heap H) callerA [] s₁ H := ⟨rfl, hM, fun b o e => of_hidT e, Nat.le_of_eq (hidT_size _ _), trivial, fun b hb => absurd (show b ∈ ([] : List Addr) from hb) (by simp), hok, .of_eq hg⟩
  obtain ⟨f, fd, ps, hm, hk, hB, G⟩ := O _ hKb (nsK hns)
  rw [hmg] at hm
  cases hm
  have sp : SpD K 1 F [.ref a] H (fun v _ => v = .bl true) E0 := ⟨[.list (ns.map PyData.int)], .bool true, fun _ => False, .cons (.lst (by
    rcases hS with (z | ⟨o, z⟩) | z
    · exact .inl (.inl (vw_of id z))
    · exact .inl (.inr ⟨o, vw_of id z⟩)
    · exact .inr z) (DpAll_ints ns)) .nil, hF, rfl, fun p z => z.elim, fun v H' _ hv => Dp_bool hv⟩
  have lp : ([] ++ [Value.ref a]).length = ps.length := by
    have := G.len _ _ _ _ sp
    simpa using this
  have hBB : BindsTo s₁ fd ⟨[.ref a], []⟩ (ps.zip [.ref a]) := by
    have := hB s₁ [.ref a] KX (by simpa using lp)
    simpa using this
  refine codeAny_mono (G.run callerA [] s₁ H ⟨[.ref a], []⟩ [.ref a] [.ref a] _ hr rfl e0 hBB (.cons rfl .nil) sp) fun r s' h => ?_
  cases r with
  | error e => exact h.elim
  | ok fl => cases fl with
    | ret u =>
      obtain ⟨v, H', os, bare, un, hok', r', q⟩ := h
      have q' : v = .bl true := q
      subst q'
      obtain rfl : u = Value.bool true := r'
      refine ⟨rfl, OldK.of_keep fun b o e => ?_, os, bare⟩
      cases q : H b with
      | none => exact un.keep b o e q (fun z => absurd (show b ∈ ([] : List Addr) from z) (by simp)) (by simp)
      | some u =>
        obtain ⟨rfl, ob, rfl⟩ := hH b u q
        have z2 := un.frzs b ob _ q
        obtain ⟨e1, _⟩ := hok b _ q
        obtain ⟨e2, _⟩ := hok' b _ z2
        rw [e] at e1
        cases e1
        exact e2
    | _ => exact False.elim h
/-- the goal behind the head -/
theorem walk_g {l : PySem.W.OpenLaw} {n k : Nat} {q : Program} {loose : List Str} {XP : (Str → Option Value) → Heap → Prop} {YP : World → Heap → Prop} {d : DefRec} {K : Params → PySem.W.Frag} {F : List D → Option D}
    (hn : l.most = some n) (hn2 : n ≤ sizeLine) (hdf : d.params.defaults = []) (hname : d.name = "law") (hr : Room k callerA)
    (hY : ∀ (w : World) (h : Heap), YP w h → (K w.params).In h)
    (O : ∀ (w : World) (mg : Str → Option Value) (h : Heap), (K w.params).In h → h.Ns mainGlobals mg → ∀ base : Heap, (K w.params).In base → base.Ns mainGlobals mg → Ok l.prog w (K w.params) mg base "law" k 1 F)
    (hF : ∀ ns : List Int, ns.length ≤ n → F [.list (ns.map PyData.int)] = some (.bool true)) :
    PySem.W.WalkO q loose XP YP l.row.toRowW d [] (fun f vs => PySem.call f vs) := by
  refine Att.attach_call hn hdf fun w s₀ s₁ mg mb fa o pm cd doc a vs ns G Y ho hd hcd hmg hobj hints hlen hg => ?_
  have KX := hY w _ Y
  rw [hname] at hmg
  exact law_g KX G.T.g G.T.b G.T.builtins G.T.nolimit hg hobj hints (Nat.le_trans hlen hn2) hr hmg (O w mg _ KX G.T.g) (hF ns hlen)
end Dn

namespace Dn
open PySem PySem.Spec PyProof.Rows L2

/-! ### 10. in short -/
theorem hu64 {k : Nat} {A : Around} (r : Room k A) : A.units + 64 < cLine := by have := r.un; omega
theorem hu65 {k : Nat} {A : Around} (r : Room k A) : A.units + 65 < cLine := by have := r.un; omega
theorem hu200 {k : Nat} {A : Around} (r : Room k A) : A.units + 200 < cLine := by have := r.un; omega
section
variable {X : Cx} {b : Bool} {x : Str} {pos p : Pos}
theorem pdv (i : Nat) (hN : X.N[i]? = some x := by rfl) (hv : Vis X.env.scope x := by first | exact Or.inl rfl | exact Or.inr (Or.inl rfl) | exact Or.inr (Or.inr rfl)) (hd : (x == ("__debug__" : Str)) = false := by decide)
    (hcd : (x == ("__classdict__" : Str)) = false := by decide) : PEd X b (.Name x pos) (gVar i) := pd_var hN hv hd hcd
theorem pdw (i : Nat) (hN : X.N[i]? = some x := by rfl) (hv : Vis X.env.scope x := by first | exact Or.inl rfl | exact Or.inr (Or.inl rfl) | exact Or.inr (Or.inr rfl)) (hd : (x == ("__debug__" : Str)) = false := by decide)
    (hcd : (x == ("__classdict__" : Str)) = false := by decide) : PEd X true (.Name x pos) (gVarB i) := pd_varB hN hv hd hcd
theorem op_subA : OpR X (binaryOp .Sub) (fun x y H Q => rI0 (fun i j => .int (i - j)) x y H Q ∨ ∃ i j, x = .bl i ∧ y = .bl j ∧ Q (.int (b2i i - b2i j)) H) := by
  refine op_sub.or ?_
  intro pins s σ H x y v u Q I rx ry h
  obtain ⟨i, j, rfl, rfl, q⟩ := h
  cases rx
  cases ry
  exact PyProof.Rows.sub_bool ⟨.int _, H, I.tok _, ⟨_, rfl⟩, q⟩
end
theorem b2z_eq (b : Bool) : b2z b = b2i b := by cases b <;> rfl
theorem od_sub {K : PySem.W.Frag} : OpD K (fun x y H Q => rI0 (fun i j => .int (i - j)) x y H Q ∨ ∃ i j, x = .bl i ∧ y = .bl j ∧ Q (.int (b2i i - b2i j)) H) vSub := by
  intro P H x y d e z Q nf hx hy h q
  cases d with
  | int i =>
    cases e with
    | int j => cases h; exact .inl ⟨i, j, Dp_int hx, Dp_int hy, q _ H (Same.refl H) (.int _)⟩
    | _ => cases h
  | bool i =>
    cases e with
    | bool j =>
      cases h
      refine .inr ⟨i, j, Dp_bool hx, Dp_bool hy, q _ H (Same.refl H) ?_⟩
      rw [b2z_eq, b2z_eq]
      exact .int _
    | _ => cases h
  | _ => cases h
theorem od_iadd2 {K : PySem.W.Frag} : OpD K (rI0 fun i j => .int (i + j)) vIAdd := by
  intro P H x y d e z Q nf hx hy h q
  cases d with
  | int i =>
    cases e with
    | int j => cases h; exact ⟨i, j, Dp_int hx, Dp_int hy, q _ H (Same.refl H) (.int _)⟩
    | _ => cases h
  | _ => cases h
theorem sd_never {X : Cx} {st : Stmt} : PSd X st (fun _ => none) := ⟨_, ps_never, fun _ _ _ _ _ _ _ _ _ h _ => by cases h⟩
/-- a constant of the module -/
def Gc (K : PySem.W.Frag) (mg : Str → Option Value) (name : Str) (d : D) : Prop := ∃ u v, mg name = some u ∧ RelV v u ∧ ∀ H, Dp K H v d
theorem pd_gc {X : Cx} {b : Bool} {x : Str} {d : D} {pos : Pos} (g : Gc X.K X.mg x d) (hg : Gl X x := by rfl) (hdb : (x == ("__debug__" : Str)) = false := by decide) : PEd X b (.Name x pos) (gC d) := by
  obtain ⟨u, v, h1, h2, h3⟩ := g
  exact pd_glob hg h1 h2 h3 hdb
/-- values of the written part as data -/
def dOf : Value → Option D
  | .none => some .none
  | .bool b => some (.bool b)
  | .int i _ => some (.int i)
  | .str x _ => some (.str x)
  | _ => none
def dsOf : List Value → Option (List D)
  | [] => some []
  | v :: vs => (dOf v).bind fun d => (dsOf vs).bind fun ds => some (d :: ds)
theorem dp_of {K : PySem.W.Frag} {H : Hp} : ∀ {u : Value} {d : D}, dOf u = some d → ∃ v, RelV v u ∧ Dp K H v d := fun {u d} h => by
  cases u <;> cases h
  · exact ⟨.non, rfl, .non⟩
  · exact ⟨.bl _, rfl, .bl _⟩
  · exact ⟨.int _, ⟨_, rfl⟩, .int _⟩
  · exact ⟨.str _, ⟨_, rfl⟩, .str _⟩
theorem dps_of {K : PySem.W.Frag} {H : Hp} : ∀ {us : List Value} {ds : List D}, dsOf us = some ds → ∃ vs, Vals vs us ∧ DpAll K H vs ds
  | [], _, h => by cases h; exact ⟨[], .nil, .nil⟩
  | u :: us, ds, h => by
    obtain ⟨d, h1, h2⟩ := bind1 (show (dOf u).bind _ = some ds from h)
    obtain ⟨ds', h3, h4⟩ := bind1 h2
    cases h4
    obtain ⟨v, r, p⟩ := dp_of (K := K) (H := H) h1
    obtain ⟨vs, rs, ps⟩ := dps_of (K := K) (H := H) h3
    exact ⟨v :: vs, .cons r rs, .cons p ps⟩
/-- a tuple of flat things at the module's top -/
theorem gc_tup_mk {K : PySem.W.Frag} {h : Heap} {mg : Str → Option Value} {name : Str} {a : Addr} {dd : Option Addr} {us : List Value} {n : Nat} {sl : Array (Option Value)} {ds : List D} (X : K.In h) (G : h.Ns mainGlobals mg)
    (ha : PySem.W.nsIn K mainGlobals name = some (some (.ref a))) (l : K.lookup a = some ⟨.type "tuple", dd, .seq us.toArray n, sl⟩) (hd : dsOf us = some ds) (hz : us.length ≤ 1000 := by decide) : Gc K mg name (.tuple ds) := by
  refine ⟨.ref a, .ref a, PySem.W.mg_of X G ha, rfl, fun H => ?_⟩
  obtain ⟨vs, rs, ps⟩ := dps_of (K := K) (H := H) hd
  exact .tup (.inr ⟨_, us.toArray, n, l, rfl, rfl, by rw [List.size_toArray]; exact Nat.le_of_lt (small1000 hz), by simpa using rs⟩) ps
theorem df_mk {K : PySem.W.Frag} {h : Heap} {mg : Str → Option Value} {name : Str} {st : Stmt} {ps : List Str} {f : Addr} {oc : Value} {od an : Option Addr} {osl : Array (Option Value)} {kV doc pm cdv ct : Value} (X : K.In h) (G : h.Ns mainGlobals mg)
    (ha : PySem.W.nsIn K mainGlobals name = some (some (.ref f))) (l : K.lookup f = some ⟨oc, od, .func (PySem.W.fnOf name name (defArgs st) (defBody st) (defScope st) .none kV doc pm an cdv ct), osl⟩)
    (c : PySem.W.codeIn K cdv name = true) (k : PySem.W.keepIn K (.ref f) = true)
    (hb : ∀ (kV doc pm : Value) (an : Option Addr) (cdv ct : Value) (us : List Value), us.length = ps.length → bindArgs (PySem.W.fnOf name name (defArgs st) (defBody st) (defScope st) .none kV doc pm an cdv ct) ⟨us, []⟩ = pure (ps.zip us)) : Df K mg name st ps :=
  ⟨f, _, fun_mk l c k, PySem.W.mg_of X G ha, (fun_mk l c k).binds hb⟩
theorem ok_by {P : Program} {w : World} {K : PySem.W.Frag} {mg : Str → Option Value} {base : Heap} {name : Str} {st : Stmt} {k k' n m : Nat} {F : List D → Option D} (N ps : List Str) (g : GS) (T : Df K mg name st ps) (S : FnScope N ps (defScope st)) (hl : ps.length ≤ N.length) (hN : N.length = m) (hn : ps.length = n) (hk : k' = k + 1) (hF : runF m n g = F)
    (body : ∀ (f : Addr) (cdv : Value) (A : Around) (out : List PySem.Env) (s : Shared) (H : Hp), Room k (A.deeper (envOfC name (defScope st) s.heap.objs.size f cdv)) → (A.deeper (envOfC name (defScope st) s.heap.objs.size f cdv)).guards = some [] →
      PSsd (cxOf CX0 P w K mg base N name (defScope st) f cdv A out s H E0).nox (defBody st) g) : Ok P w K mg base name k' n F := by
  subst hN hn hk hF
  exact ok_of T S hl body
end Dn

namespace Dn
open PySem PySem.Spec PyProof.Rows L2

theorem hu1 {k : Nat} {A : Around} (r : Room k A) : A.units + 1 < cLine := by have := r.un; omega
/-! ### 11. dicts: those of the module's top -/
/-- at some texts: what stands there -/
abbrev Tb := List (Str × Option D)
def tbAt : Tb → Str → Option (Option D)
  | [], _ => none
  | p :: r, z => if p.1 = z then some p.2 else tbAt r z
theorem tbAt_mem : ∀ {t : Tb} {z : Str} {r : Option D}, tbAt t z = some r → (z, r) ∈ t
  | [], _, _, h => by cases h
  | p :: t, z, r, h => by
    unfold tbAt at h
    split at h
    · rename_i e
      cases h
      subst e
      exact List.mem_cons_self
    · exact List.mem_cons_of_mem _ (tbAt_mem h)
def asStr : D → Option Str
  | .str x => some x
  | _ => none
theorem asStr_some {d : D} {x : Str} (h : asStr d = some x) : d = .str x := by
  cases d <;> cases h; rfl
def gCIx (t : Tb) (a : GE) : GE := fun env => (a env).bind fun y => (asStr y).bind fun z => (tbAt t z).bind id
def gCGet (t : Tb) (a d : GE) : GE := fun env => (a env).bind fun y => (d env).bind fun u => (asStr y).bind fun z => (tbAt t z).bind fun r => some (r.getD u)
/-- a table: an entry holds -/
def TbOk (K : PySem.W.Frag) (a : Addr) : Str × Option D → Prop
  | (z, none) => PySem.W.nsIn K a z = some none
  | (z, some d) => ∃ u v, PySem.W.nsIn K a z = some (some u) ∧ RelV v u ∧ ∀ H, Dp K H v d
def Gt (K : PySem.W.Frag) (w : World) (mg : Str → Option Value) (name : Str) (t : Tb) : Prop := ∃ a es n, mg name = some (.ref a) ∧ KDict K w a es n ∧ ∀ q ∈ t, TbOk K a q
section
variable {X : Cx} {b : Bool} {x : Str} {p pos apos : Pos} {a c e : Expr} {ga gb gd : GE} {t : Tb}
theorem pd_cix (g : Gt X.K X.w X.mg x t) (hc : PEd X b c gb) (hs : PlainIx c) (hg : Gl X x := by rfl) (hdb : (x == ("__debug__" : Str)) = false := by decide) : PEd X b (.Subscript (.Name x p) c pos) (gCIx t gb) := by
  obtain ⟨a, es, n, hm, kd, ht⟩ := g
  obtain ⟨tb, pb', hb⟩ := hc
  refine ⟨_, pe_ix ix_kdict (pe_glob (v := .ref a) hg hm rfl hdb) pb' hs, fun H0 M env σ H pa d Q E h q => ?_⟩
  obtain ⟨y, h1, h2⟩ := bind1 h
  obtain ⟨z, h3, h4⟩ := bind1 h2
  obtain ⟨r, h5, h6⟩ := bind1 h4
  have h6 : r = some d := h6
  subst h6
  have := asStr_some h3
  subst this
  obtain ⟨u, v, g1, g2, g3⟩ := ht _ (tbAt_mem h5)
  refine hb H0 M env σ H pa _ _ E h1 fun y H' s hy => ?_
  have := Dp_str hy
  subst this
  exact ⟨a, z, v, rfl, rfl, ⟨es, n, u, kd.at_, kd.lit, g1, g2⟩, q v H' s (g3 _)⟩
theorem kd_get2 {pins : List (Addr × Obj)} {σ : L2.St} {H : Hp} {s : Shared} {a : Addr} {es : Array DictEntry} {n : Nat} {z : Str} {k : Tok} {r : Value} {ru : Option Value} {A : Around} {EE : Value → Shared → Prop} {Q : Value → Shared → Prop} (kd : KDict X.K X.w a es n) (I : Inv X pins σ H s) (hn : PySem.W.nsIn X.K a z = some ru)
    (h : ∀ s', Inv X pins σ H s' → Q (ru.getD r) s') : wpAny (model X.prog X.w) A (call (.builtin "dict.get") [.ref a, .str z k, r]) Q EE s := by
  have hm := PySem.W.mapOf_K (prog := X.prog) (w := X.w) I.kIn kd.at_ kd.lit
  refine call_meetsIn PySem.F.slot_dict_get hm.typeIs PySem.F.entry_dict_get (PySem.F.args_dict_get_3 _ _ _) (meets_dict_get_default (strKind X.prog X.w) a (strKind_is X.prog X.w z k) kd.low r) ⟨_, hm, ?_⟩
  rw [PySem.W.find_K kd.at_ hn]
  exact h _ (I.tok _)
def tKGet (K : PySem.W.Frag) (a : Addr) (ty tx : TE) : TE := fun σ H Q => ty σ H fun y H2 => tx σ H2 fun z H3 => ∃ (x : Str) (ru : Option Value), y = .str x ∧ PySem.W.nsIn K a x = some ru ∧ (∀ u, ru = some u → ∃ v, RelV v u ∧ Q v H3) ∧ (ru = none → Q z H3)
theorem pe_kget2 {f : Expr} {ty tx : TE} {es : Array DictEntry} {n : Nat} {ad : Addr} (kd : KDict X.K X.w ad es n) (hm : X.mg x = some (.ref ad)) (hg : Gl X x) (he : PE X e ty) (hf : PE X f tx) (m : M2 X (.Name x p) "get" apos e f pos) (hdb : (x == ("__debug__" : Str)) = false := by decide) : PE X (.Call (.Attribute (.Name x p) "get" apos) [e, f] [] pos) (tKGet X.K ad ty tx) := by
  refine ⟨fun pins s σ H Q I h => ?_⟩
  refine wpAny_Call_method m.base m.few m.line PySem.F.plainAttrs_dict PySem.F.slot_dict_get PySem.F.type_dict_get (thn ((pe_glob (v := .ref ad) hg hm rfl hdb).run pins s σ H (fun v H' => v = .ref ad ∧ tKGet X.K ad ty tx σ H' Q) I ⟨rfl, h⟩) fun u s1 ⟨y, H1, I1, rx, ey, q1⟩ => ?_)
  subst ey
  obtain rfl : u = Value.ref ad := rx
  have hm' := PySem.W.mapOf_K (prog := X.prog) (w := X.w) I1.kIn kd.at_ kd.lit
  refine ⟨hm'.typeIs, fun b q => ?_, ?_⟩
  · cases q
    exact ⟨_, I1.kIn _ _ kd.at_, rfl⟩
  rw [m.trees]
  refine Calls.callWith_builtin rfl (Calls.evalArgs_plain (Calls.spliced_cons (thn (he.run pins s1 σ H1 _ I1 q1) fun iv s2 ⟨y, H2, I2, ry, q2⟩ =>
    Calls.spliced_cons (thn (hf.run pins s2 σ H2 _ I2 q2) fun fv s3 ⟨z, H3, I3, rz, z', ru, ey, g, q3, q4⟩ => Calls.spliced_nil ?_))))
  subst ey
  obtain ⟨k, rfl⟩ := ry
  refine kd_get2 kd I3 g fun s4 I4 => ?_
  cases ru with
  | none => exact ⟨_, H3, I4, rz, q4 rfl⟩
  | some u =>
    obtain ⟨v, r, q⟩ := q3 u rfl
    exact ⟨_, H3, I4, r, q⟩
theorem pd_cget {f : Expr} (g : Gt X.K X.w X.mg x t) (hc : PEd X b e gb) (hd : PEd X b f gd) (m : M2 X (.Name x p) "get" apos e f pos) (hg : Gl X x := by rfl) (hdb : (x == ("__debug__" : Str)) = false := by decide) : PEd X b (.Call (.Attribute (.Name x p) "get" apos) [e, f] [] pos) (gCGet t gb gd) := by
  obtain ⟨a, es, n, hm, kd, ht⟩ := g
  obtain ⟨tb, pb', hb⟩ := hc
  obtain ⟨td, pd', hd⟩ := hd
  refine ⟨_, pe_kget2 kd hm hg pb' pd' m hdb, fun H0 M env σ H pa d Q E h q => ?_⟩
  obtain ⟨y, h1, h2⟩ := bind1 h
  obtain ⟨w, hw, h2⟩ := bind1 h2
  obtain ⟨z, h3, h4⟩ := bind1 h2
  obtain ⟨r, h5, h6⟩ := bind1 h4
  have := asStr_some h3
  subst this
  cases h6
  have tk := ht _ (tbAt_mem h5)
  refine hb H0 M env σ H pa _ _ E h1 fun y H' s hy => ?_
  have := Dp_str hy
  subst this
  refine hd H0 M env σ H' pa _ _ (E.up s) hw fun z' H'' s' hz => ?_
  cases r with
  | none => exact ⟨z, none, rfl, tk, fun u e => (by cases e), fun _ => q z' H'' (s.trans s') hz⟩
  | some d =>
    obtain ⟨u, v, g1, g2, g3⟩ := tk
    exact ⟨z, some u, rfl, g1, fun u' e => (by cases e; exact ⟨v, g2, q v H'' (s.trans s') (g3 _)⟩), fun e => (by cases e)⟩
end
theorem gt_mk {K : PySem.W.Frag} {h : Heap} {w : World} {mg : Str → Option Value} {name : Str} {a : Addr} {es : Array DictEntry} {n : Nat} {t : Tb} (X : K.In h) (G : h.Ns mainGlobals mg)
    (ha : PySem.W.nsIn K mainGlobals name = some (some (.ref a))) (l : K.lookup a = some ⟨.type "dict", none, .dict es n, #[]⟩) (hk : PySem.W.KeysLit w.params es.toList) (hs : (a == sysModules) = false) (ht : ∀ q ∈ t, TbOk K a q) : Gt K w mg name t :=
  ⟨a, es, n, PySem.W.mg_of X G ha, ⟨l, hk, hs⟩, ht⟩
/-- an entry that is a tuple of flat things -/
theorem tb_tup {K : PySem.W.Frag} {a p : Addr} {z : Str} {us : List Value} {dd : Option Addr} {n : Nat} {sl : Array (Option Value)} {ds : List D} (e : PySem.W.nsIn K a z = some (some (.ref p))) (l : K.lookup p = some ⟨.type "tuple", dd, .seq us.toArray n, sl⟩) (hd : dsOf us = some ds) (hz : us.length ≤ 1000 := by decide) : TbOk K a (z, some (.tuple ds)) := by
  refine ⟨.ref p, .ref p, e, rfl, fun H => ?_⟩
  obtain ⟨vs, rs, ps⟩ := dps_of (K := K) (H := H) hd
  exact .tup (.inr ⟨_, us.toArray, n, l, rfl, rfl, by rw [List.size_toArray]; exact Nat.le_of_lt (small1000 hz), by simpa using rs⟩) ps
theorem tb_flat {K : PySem.W.Frag} {a : Addr} {z : Str} {u : Value} {d : D} (e : PySem.W.nsIn K a z = some (some u)) (hd : dOf u = some d) : TbOk K a (z, some d) := by
  cases u <;> cases hd
  · exact ⟨_, .non, e, rfl, fun _ => .non⟩
  · exact ⟨_, .bl _, e, rfl, fun _ => .bl _⟩
  · exact ⟨_, .int _, e, ⟨_, rfl⟩, fun _ => .int _⟩
  · exact ⟨_, .str _, e, ⟨_, rfl⟩, fun _ => .str _⟩

/-! ### 12. dicts of a name's own, by ints and texts -/
def keyD : D → Option Key
  | .int i => some (.inl i)
  | .str x => some (.inr x)
  | _ => none
theorem keyD_dp {K : PySem.W.Frag} {H : Hp} {v : V} {d : D} {k : Key} (h : keyD d = some k) (hv : Dp K H v d) : v = kV k := by
  cases d <;> cases h
  · exact Dp_int hv
  · exact Dp_str hv
def atK : List (Key × D) → Key → Option D
  | [], _ => none
  | p :: r, k => if p.1 = k then some p.2 else atK r k
def anyK : List (Key × D) → Key → Bool
  | [], _ => false
  | p :: r, k => decide (p.1 = k) || anyK r k
def mapK : List (Key × D) → Key → D → List (Key × D)
  | [], _, _ => []
  | p :: r, k, d => (if p.1 = k then (p.1, d) else p) :: mapK r k d
def putD (kvs : List (Key × D)) (k : Key) (d : D) : List (Key × D) := if anyK kvs k = true then mapK kvs k d else kvs ++ [(k, d)]
def mrgD : List (Key × D) → List (Key × D) → List (Key × D)
  | acc, [] => acc
  | acc, p :: r => mrgD (putD acc p.1 p.2) r
structure Rk (K : PySem.W.Frag) (H : Hp) (vs : List (Key × V)) (kvs : List (Key × D)) : Prop where
  ks : vs.map (·.1) = kvs.map (·.1)
  ds : DpAll K H (vs.map (·.2)) (kvs.map (·.2))
section
variable {K : PySem.W.Frag} {H : Hp}
theorem Rk.nil : Rk K H [] [] := ⟨rfl, .nil⟩
theorem Rk.cons {k : Key} {v : V} {d : D} {vs : List (Key × V)} {kvs : List (Key × D)} (h : Dp K H v d) (r : Rk K H vs kvs) : Rk K H ((k, v) :: vs) ((k, d) :: kvs) := ⟨by rw [List.map_cons, List.map_cons, r.ks], .cons h r.ds⟩
theorem Rk.unc {p : Key × V} {q : Key × D} {vs : List (Key × V)} {kvs : List (Key × D)} (h : Rk K H (p :: vs) (q :: kvs)) : p.1 = q.1 ∧ Dp K H p.2 q.2 ∧ Rk K H vs kvs := by
  have h1 : p.1 :: vs.map (·.1) = q.1 :: kvs.map (·.1) := h.ks
  cases h.ds with
  | cons a b => exact ⟨(List.cons.inj h1).1, a, ⟨(List.cons.inj h1).2, b⟩⟩
theorem Rk.mono {H' : Hp} (e : Same H H') {vs : List (Key × V)} {kvs : List (Key × D)} (r : Rk K H vs kvs) : Rk K H' vs kvs := ⟨r.ks, DpAll_mono e _ _ r.ds⟩
theorem Rk.len {vs : List (Key × V)} {kvs : List (Key × D)} (r : Rk K H vs kvs) : vs.length = kvs.length := by
  have := congrArg List.length r.ks
  simpa using this
theorem Rk.at : ∀ {vs : List (Key × V)} {kvs : List (Key × D)} {k : Key}, Rk K H vs kvs → (∀ d, atK kvs k = some d → ∃ v, valV vs k = some v ∧ Dp K H v d) ∧ (atK kvs k = none → valV vs k = none)
  | [], [], k, _ => ⟨fun d h => (by cases h), fun _ => rfl⟩
  | [], _ :: _, k, r => by cases r.ds
  | _ :: _, [], k, r => by cases r.ds
  | p :: vs, q :: kvs, k, r => by
    obtain ⟨e, h, r'⟩ := r.unc
    have ih := Rk.at (k := k) r'
    unfold atK
    by_cases z : q.1 = k
    · rw [if_pos z, valV_pos (e.trans z)]
      exact ⟨fun d y => (by cases y; exact ⟨_, rfl, h⟩), fun y => (by cases y)⟩
    · rw [if_neg z, valV_neg (fun y => z (e.symm.trans y))]
      exact ih
theorem Rk.any : ∀ {vs : List (Key × V)} {kvs : List (Key × D)} {k : Key}, Rk K H vs kvs → (vs.any fun kv => decide (kv.1 = k)) = anyK kvs k
  | [], [], k, _ => rfl
  | [], _ :: _, k, r => by cases r.ds
  | _ :: _, [], k, r => by cases r.ds
  | p :: vs, q :: kvs, k, r => by
    obtain ⟨e, h, r'⟩ := r.unc
    rw [List.any_cons, Rk.any r', e]
    rfl
theorem Rk.map {v : V} {d : D} (hv : Dp K H v d) : ∀ {vs : List (Key × V)} {kvs : List (Key × D)} {k : Key}, Rk K H vs kvs → Rk K H (vs.map fun kv => if kv.1 = k then (kv.1, v) else kv) (mapK kvs k d)
  | [], [], k, _ => .nil
  | [], _ :: _, k, r => by cases r.ds
  | _ :: _, [], k, r => by cases r.ds
  | p :: vs, q :: kvs, k, r => by
    obtain ⟨e, h, r'⟩ := r.unc
    have ih := Rk.map hv (k := k) r'
    obtain ⟨p1, p2⟩ := p
    obtain ⟨q1, q2⟩ := q
    have e : p1 = q1 := e
    subst e
    rw [List.map_cons]
    unfold mapK
    by_cases z : p1 = k
    · rw [if_pos z, if_pos z]; exact .cons hv ih
    · rw [if_neg z, if_neg z]; exact .cons h ih
theorem Rk.snoc {k : Key} {v : V} {d : D} (hv : Dp K H v d) : ∀ {vs : List (Key × V)} {kvs : List (Key × D)}, Rk K H vs kvs → Rk K H (vs ++ [(k, v)]) (kvs ++ [(k, d)])
  | [], [], _ => .cons hv .nil
  | [], _ :: _, r => by cases r.ds
  | _ :: _, [], r => by cases r.ds
  | (p1, p2) :: vs, (q1, q2) :: kvs, r => by
    obtain ⟨e, h, r'⟩ := r.unc
    have e : p1 = q1 := e
    subst e
    exact .cons h (Rk.snoc hv r')
theorem Rk.put {k : Key} {v : V} {d : D} {vs : List (Key × V)} {kvs : List (Key × D)} (hv : Dp K H v d) (r : Rk K H vs kvs) : Rk K H (putK vs k v) (putD kvs k d) := by
  unfold putK putD
  rw [r.any]
  split
  · exact Rk.map hv r
  · exact Rk.snoc hv r
theorem Rk.mrg : ∀ {ws vs : List (Key × V)} {kvs jvs : List (Key × D)}, Rk K H vs kvs → Rk K H ws jvs → Rk K H (mergeK vs ws) (mrgD kvs jvs)
  | [], _, _, [], r, _ => r
  | [], _, _, _ :: _, _, s => by cases s.ds
  | _ :: _, _, _, [], _, s => by cases s.ds
  | (p1, p2) :: ws, vs, kvs, (q1, q2) :: jvs, r, s => by
    obtain ⟨e, h, s'⟩ := s.unc
    have e : p1 = q1 := e
    subst e
    show Rk K H (mergeK (putK vs p1 p2) ws) (mrgD (putD kvs p1 q2) jvs)
    exact Rk.mrg (r.put h) s'
theorem Rk.ct {vs : List (Key × V)} {kvs : List (Key × D)} (r : Rk K H vs kvs) : Ct K H (.dK vs) (.dk kvs) := .dk r.ks r.ds
end
theorem EO.dk {K : PySem.W.Frag} {H0 H : Hp} {M : Addr → Prop} {env : Env} {σ : Sg} {pa : Nat → Addr} (E : EO K H0 M env σ H pa) {i : Nat} {kvs : List (Key × D)} (h : env[i]? = some (.ow (.dk kvs))) :
    σ[i]? = some (some (.ref (pa i))) ∧ ∃ vs, H (pa i) = some (.dK vs) ∧ Rk K (vw (Hd M env pa) H) vs kvs := by
  obtain ⟨h1, _, o, h3, h4⟩ := E.ow i _ h
  cases h4 with
  | dk h4 h5 => exact ⟨h1, _, h3, h4, h5⟩
def dkIx : Option Slot → D → Option D
  | some (.ow (.dk kvs)), y => (keyD y).bind (atK kvs)
  | _, _ => none
theorem dkIx_some {o : Option Slot} {y z : D} (h : dkIx o y = some z) : ∃ kvs k, o = some (.ow (.dk kvs)) ∧ keyD y = some k ∧ atK kvs k = some z := by
  unfold dkIx at h
  split at h
  · obtain ⟨k, h1, h2⟩ := bind1 h
    exact ⟨_, k, rfl, h1, h2⟩
  · cases h
def gDIx (i : Nat) (a : GE) : GE := fun env => (a env).bind fun y => dkIx env[i]? y
def dkSet (env : Env) (i : Nat) : Option Slot → D → D → Option Out
  | some (.ow (.dk kvs)), y, d => (keyD y).bind fun k => if kvs.length < lim then some (.nx (env.set i (.ow (.dk (putD kvs k d))))) else none
  | _, _, _ => none
theorem dkSet_some {env : Env} {i : Nat} {o : Option Slot} {y d : D} {r : Out} (h : dkSet env i o y d = some r) : ∃ kvs k, o = some (.ow (.dk kvs)) ∧ keyD y = some k ∧ kvs.length < lim ∧ r = .nx (env.set i (.ow (.dk (putD kvs k d)))) := by
  unfold dkSet at h
  split at h
  · obtain ⟨k, h1, h2⟩ := bind1 h
    split at h2
    · rename_i hl
      cases h2
      exact ⟨_, k, rfl, h1, hl, rfl⟩
    · cases h2
  · cases h
def sDSet (i : Nat) (a v : GE) : GS := fun env => (v env).bind fun d => (a env).bind fun y => dkSet env i env[i]? y d
abbrev GP := Env → Option (List (Key × D))
def kNil : GP := fun _ => some []
def kCons (x : Str) (a : GE) (r : GP) : GP := fun env => (a env).bind fun d => (r env).bind fun kvs => some ((.inr x, d) :: kvs)
def sDNew (i : Nat) (g : GP) : GS := fun env => (g env).bind fun kvs => if kvs.length ≤ 15 then some (.nx (env.set i (.ow (.dk (mrgD [] kvs))))) else none
section
variable {X : Cx} {b : Bool} {x : Str} {p pos apos px : Pos} {a c e v : Expr} {ga gb gd : GE} {i : Nat}
theorem pd_dix (hu : X.A.units + 1 < cLine) (hN : X.N[i]? = some x) (hv : Vis X.env.scope x) (hc : PEd X b c gb) (hs : NoSl c) (hd : (x == ("__debug__" : Str)) = false := by decide) (hcd : (x == ("__classdict__" : Str)) = false := by decide) : PEd X b (.Subscript (.Name x p) c pos) (gDIx i gb) := by
  obtain ⟨tb, pb', hb⟩ := hc
  refine ⟨_, pe_dget hu (pe_var hN hv hd hcd) pb' hs, fun H0 M env σ H pa d Q E h q => ?_⟩
  obtain ⟨y, h1, h2⟩ := bind1 h
  obtain ⟨kvs, k, g1, g2, g3⟩ := dkIx_some h2
  obtain ⟨e1, vs, e2, e3⟩ := E.dk g1
  refine ⟨_, e1, hb H0 M env σ H pa _ _ E h1 fun y' H' s hy => ?_⟩
  have := keyD_dp g2 hy
  subst this
  obtain ⟨v, w1, w2⟩ := e3.at.1 _ g3
  refine ⟨pa i, v, rfl, by rw [← w1]; exact DGet.k (s _ _ e2), q v H' s ?_⟩
  have up : Same (vw (Hd M env pa) H) (vw (Hd M env pa) H') := vw_up s
  refine Dp_mono (up.trans (vw_same (Same.refl _) fun a o _ z => ?_)) _ _ w2
  cases b
  · exact z
  · exact .inl z
theorem sd_dset (hu : X.A.units + 1 < cLine) (hN : X.N[i]? = some x) (hv : Vis X.env.scope x) (hc : PEd X false c gb) (he : PEd X false e ga) (hs : swapsWith e (some (.Subscript (.Name x px) c p)) pos.line X.env = pure false := by rfl) (hd : (x == ("__debug__" : Str)) = false := by decide) (hcd : (x == ("__classdict__" : Str)) = false := by decide) :
    PSd X (.Assign [.Subscript (.Name x px) c p] e pos) (sDSet i gb ga) := by
  obtain ⟨tb, pb', hb⟩ := hc
  obtain ⟨ta, pa', ha⟩ := he
  refine ⟨_, ps_dput hu (pe_var hN hv hd hcd) pb' pa' hs, fun H0 M env σ H pa o T E h q => ?_⟩
  obtain ⟨d, h1, h2⟩ := bind1 h
  obtain ⟨y, h3, h4⟩ := bind1 h2
  obtain ⟨kvs, k, g1, g2, g3, g4⟩ := dkSet_some h4
  subst g4
  refine ha H0 M env σ H pa _ _ E h1 fun v H1 s hv1 => ?_
  have E1 := E.up s
  obtain ⟨e1, vs, e2, e3⟩ := E1.dk g1
  refine ⟨_, e1, hb H0 M env σ H1 pa _ _ E1 h3 fun y' H' s' hy => ?_⟩
  have := keyD_dp g2 hy
  subst this
  refine ⟨pa i, _, rfl, DPut.k (s' _ _ e2) (by rw [e3.len, ← lim_eq]; exact g3), ?_⟩
  refine q σ _ pa ((E1.up s').writeC g1 ?_)
  exact ((e3.mono (vw_up s')).put (Dp_mono (vw_up s') _ _ hv1)).ct
/-- the pairs of a display -/
def PPd (X : Cx) (pos : Pos) (keys : List (Option Expr)) (values : List Expr) (g : GP) : Prop := ∃ trs, PPs X pos keys values trs ∧ ∀ (H0 : Hp) (M : Addr → Prop) (env : Env) (σ : Sg) (H : Hp) (pa : Nat → Addr) (kvs : List (Key × D)) (Q : List (V × V) → Hp → Prop), EO X.K H0 M env σ H pa → g env = some kvs →
  (∀ (vs : List (Key × V)) H', Same H H' → Rk X.K (vw (Hd M env pa) H') vs kvs → Q (vs.map fun kv => (kV kv.1, kv.2)) H') → tPairs trs σ H Q
theorem ppd_nil : PPd X pos [] [] kNil := ⟨_, pps_nil, fun H0 M env σ H pa kvs Q E h q => by cases h; exact q [] H (Same.refl H) .nil⟩
theorem ppd_cons {j : Nat} {ks : List (Option Expr)} {vs : List Expr} {gr : GP} (ha : PEd X false v ga) (hr : PPd X pos ks vs gr) : PPd X pos (some (.Constant (.str x) j p) :: ks) (v :: vs) (kCons x ga gr) := by
  obtain ⟨ta, pa', ha⟩ := ha
  obtain ⟨trs, pr, hr⟩ := hr
  refine ⟨_, pps_cons pe_str pa' pr, fun H0 M env σ H pa kvs Q E h q => ?_⟩
  obtain ⟨d, h1, h2⟩ := bind1 h
  obtain ⟨kvs', h3, h4⟩ := bind1 h2
  cases h4
  refine ha H0 M env σ H pa _ _ E h1 fun v H1 s hv => hr H0 M env σ H1 pa _ _ (E.up s) h3 fun vs H2 s2 rk => ?_
  exact q ((.inr x, v) :: vs) H2 (s.trans s2) (.cons (Dp_mono (vw_up s2) _ _ hv) rk)
mutual
theorem Dp_off {K : PySem.W.Frag} {P : Addr → Prop} {H : Hp} {p : Addr} {kvs : List (Key × V)} {o : HO} (hp : H p = some (.dK kvs)) : ∀ (d : D) (v : V), Dp K (vw P H) v d → Dp K (vw (fun a => P a ∨ a = p) (upd H p o)) v d
  | .none, _, .non => .non
  | .bool _, _, .bl b => .bl b
  | .int _, _, .int i => .int i
  | .str _, _, .str x => .str x
  | .list ds, _, .lst (a := a) hs ha => by
    refine .lst ?_ (DpAll_off hp ds _ ha)
    rcases hs with (hs | ⟨o', hs⟩) | hs
    · obtain ⟨h1, h2⟩ := vw_some hs
      have ne : a ≠ p := fun z => by rw [z, hp] at h2; cases h2
      exact .inl (.inl (vw_of (fun z => z.elim h1 ne) (by rw [upd_ne ne]; exact h2)))
    · obtain ⟨h1, h2⟩ := vw_some hs
      have ne : a ≠ p := fun z => by rw [z, hp] at h2; cases h2
      exact .inl (.inr ⟨o', vw_of (fun z => z.elim h1 ne) (by rw [upd_ne ne]; exact h2)⟩)
    · exact .inr hs
  | .tuple ds, _, .tup (a := a) hs ha => by
    refine .tup ?_ (DpAll_off hp ds _ ha)
    rcases hs with (hs | ⟨o', hs⟩) | hs
    · obtain ⟨h1, h2⟩ := vw_some hs
      have ne : a ≠ p := fun z => by rw [z, hp] at h2; cases h2
      exact .inl (.inl (vw_of (fun z => z.elim h1 ne) (by rw [upd_ne ne]; exact h2)))
    · obtain ⟨h1, h2⟩ := vw_some hs
      have ne : a ≠ p := fun z => by rw [z, hp] at h2; cases h2
      exact .inl (.inr ⟨o', vw_of (fun z => z.elim h1 ne) (by rw [upd_ne ne]; exact h2)⟩)
    · exact .inr hs
theorem DpAll_off {K : PySem.W.Frag} {P : Addr → Prop} {H : Hp} {p : Addr} {kvs : List (Key × V)} {o : HO} (hp : H p = some (.dK kvs)) : ∀ (ds : List D) (vs : List V), DpAll K (vw P H) vs ds → DpAll K (vw (fun a => P a ∨ a = p) (upd H p o)) vs ds
  | [], _, .nil => .nil
  | d :: ds, _, .cons h t => .cons (Dp_off hp d _ h) (DpAll_off hp ds _ t)
end
theorem EO.setOw2 {K : PySem.W.Frag} {H0 H H' : Hp} {M : Addr → Prop} {env : Env} {σ : Sg} {pa : Nat → Addr} {i : Nat} {p : Addr} {o : HO} {c : Cont} (E : EO K H0 M env σ H pa) (s : Same H H') (hp : H p = none) (hpl : H' p = some o) (hall : Ct K (vw (fun a => Hd M env pa a ∨ a = p) H') o c) :
    EO K H0 M (env.set i (.ow c)) (σ.set i (some (.ref p))) H' (fun j => if j = i then p else pa j) := by
  have e : upd (fun a => if a = p then none else H' a) p o = H' := by
    funext a
    by_cases z : a = p
    · subst z; rw [upd_same, hpl]
    · rw [upd_ne z, if_neg z]
  have sm : Same H (fun a => if a = p then none else H' a) := fun a o ho => by
    have na : a ≠ p := ne_of_none ho hp
    show (if a = p then none else H' a) = some o
    rw [if_neg na]
    exact s a o ho
  have := EO.setOw (i := i) (p := p) (vs := o) (ds := c) (E.up sm) (by simp) (hall.mono fun a o ho => ?_)
  · rw [e] at this
    exact this
  · obtain ⟨z1, z2⟩ := vw_some ho
    refine vw_of (fun z => z1 (.inl z)) ?_
    show (if a = p then none else H' a) = some o
    rw [if_neg fun z => z1 (.inr z)]
    exact z2
theorem sd_dnew {keys : List (Option Expr)} {values : List Expr} {dpos : Pos} {gp : GP} (hN : X.N.Nodup) (hi : X.N[i]? = some x) (hx : Loc X.env.scope x) (h : PPd X dpos keys values gp) (hall : keys.all (·.isSome) = true) (hl : keys.length = values.length) (h0 : keys ≠ []) (h15 : keys.length ≤ 15)
    (hs : swapsWith (.Dict keys values dpos) (some (.Name x px)) pos.line X.env = pure false := by rfl) (hf : X.fn x = true ∨ X.env.scope.names.lookup x = some .local := by first | exact .inl rfl | exact .inr rfl | assumption) : PSd X (.Assign [.Name x px] (.Dict keys values dpos) pos) (sDNew i gp) := by
  obtain ⟨trs, pt, ht⟩ := h
  refine ⟨_, ps_set hN hi hx (pe_disp pt hall hl h0 h15) hs hf, fun H0 M env σ H pa o T E h q => ?_⟩
  obtain ⟨kvs, h1, h2⟩ := bind1 h
  split at h2
  · rename_i hlen
    cases h2
    intro p hp
    have s0 : Same H (upd H p (.dK [])) := same_upd hp
    refine ht H0 M env σ _ pa _ _ (E.up s0) h1 fun vs H2 s rk => ?_
    have hp2 : H2 p = some (.dK []) := s _ _ upd_same
    refine ⟨hp2, vs, rfl, by rw [rk.len]; exact hlen, ?_⟩
    have rk' : Rk X.K (vw (fun a => Hd M env pa a ∨ a = p) (upd H2 p (.dK (mergeK [] vs)))) vs kvs := ⟨rk.ks, DpAll_off hp2 _ _ rk.ds⟩
    refine q _ _ _ (E.setOw2 (p := p) (fun a o ho => ?_) hp upd_same (Rk.nil.mrg rk').ct)
    have ne : a ≠ p := ne_of_none ho hp
    rw [upd_ne ne]
    exact s _ _ (by rw [upd_ne ne]; exact ho)
  · cases h2
end
end Dn

namespace Dn
open PySem
/-! ### how the readings compute -/
theorem vAdd_int (a b : Int) : vAdd (.int a) (.int b) = some (.int (a + b)) := rfl
theorem vIAdd_int (a b : Int) : vIAdd (.int a) (.int b) = some (.int (a + b)) := rfl
theorem vSub_int (a b : Int) : vSub (.int a) (.int b) = some (.int (a - b)) := rfl
theorem vSub_bool (a b : Bool) : vSub (.bool a) (.bool b) = some (.int (b2z a - b2z b)) := rfl
theorem vNeg_int (a : Int) : vNeg (.int a) = some (.int (-a)) := rfl
theorem vLt_int (a b : Int) : vLt (.int a) (.int b) = some (.bool (decide (a < b))) := rfl
theorem vLe_int (a b : Int) : vLe (.int a) (.int b) = some (.bool (decide (a ≤ b))) := rfl
theorem vGt_int (a b : Int) : vGt (.int a) (.int b) = some (.bool (decide (b < a))) := rfl
theorem vGe_int (a b : Int) : vGe (.int a) (.int b) = some (.bool (decide (b ≤ a))) := rfl
theorem vEq_int (a b : Int) : vEq (.int a) (.int b) = some (.bool (decide (a = b))) := rfl
theorem vNe_int (a b : Int) : vNe (.int a) (.int b) = some (.bool (!decide (a = b))) := rfl
theorem vEq_str (a b : Str) : vEq (.str a) (.str b) = some (.bool (decide (a = b))) := rfl
theorem vNe_str (a b : Str) : vNe (.str a) (.str b) = some (.bool (!decide (a = b))) := rfl
theorem vIx_list (xs : List D) (i : Int) : vIx (.list xs) (.int i) = atD xs i := rfl
theorem vIx_tup (xs : List D) (i : Int) : vIx (.tuple xs) (.int i) = atD xs i := rfl
theorem vLen_list (xs : List D) : vLen (.list xs) = some (.int xs.length) := rfl
theorem vLen_tup (xs : List D) : vLen (.tuple xs) = some (.int xs.length) := rfl
theorem vAbs_int (a : Int) : vAbs (.int a) = some (.int (if a < 0 then -a else a)) := rfl
theorem vToI_int (a : Int) : vToI (.int a) = some (.int a) := rfl
theorem vToI_bool (a : Bool) : vToI (.bool a) = some (.int (b2z a)) := rfl
theorem vTruth_int (a : Int) : vTruth (.int a) = some (a != 0) := rfl
theorem vTruth_bool (a : Bool) : vTruth (.bool a) = some a := rfl
theorem vTruth_none  : vTruth .none = some false := rfl
theorem vTruth_list (xs : List D) : vTruth (.list xs) = some (!xs.isEmpty) := rfl
theorem vTruth_tup (xs : List D) : vTruth (.tuple xs) = some (!xs.isEmpty) := rfl
theorem asBool_bool (a : Bool) : asBool (.bool a) = some a := rfl
theorem vTup_l (xs : List D) : vTup xs = some (.tuple xs) := rfl
theorem vLst_l (xs : List D) : vLst xs = some (.list xs) := rfl
theorem vTuple_list (xs : List D) : vTuple (.list xs) = some (.tuple xs) := rfl
theorem vTuple_tup (xs : List D) : vTuple (.tuple xs) = some (.tuple xs) := rfl
theorem vList_list (xs : List D) : vList (.list xs) = some (.list xs) := rfl
theorem vList_tup (xs : List D) : vList (.tuple xs) = some (.list xs) := rfl
theorem vRev_list (xs : List D) : vRev (.list xs) = some (.list xs.reverse) := rfl
theorem l1_1 (f : D → Option D) (x : D) : l1 f [x] = f x := rfl
theorem l2_2 (f : D → D → Option D) (x y : D) : l2 f [x, y] = f x y := rfl
theorem look_val (d : D) : look (some (.val d)) = some d := rfl
theorem lookB_val (d : D) : lookB (some (.val d)) = some d := rfl
theorem lookB_own (ds : List D) : lookB (some (.own ds)) = some (.list ds) := rfl
theorem thenS_nx (b : GS) (e : Dn.Env) : thenS b (.nx e) = b e := rfl
theorem thenS_ret (b : GS) (d : D) : thenS b (.ret d) = some (.ret d) := rfl
theorem thenS_bk (b : GS) (e : Dn.Env) : thenS b (.bk e) = some (.bk e) := rfl
theorem thenS_ct (b : GS) (e : Dn.Env) : thenS b (.ct e) = some (.ct e) := rfl
theorem turnS_nx (k : Dn.Env → Option Out) (e : Dn.Env) : turnS k (.nx e) = k e := rfl
theorem turnS_ct (k : Dn.Env → Option Out) (e : Dn.Env) : turnS k (.ct e) = k e := rfl
theorem turnS_bk (k : Dn.Env → Option Out) (e : Dn.Env) : turnS k (.bk e) = some (.nx e) := rfl
theorem turnS_ret (k : Dn.Env → Option Out) (d : D) : turnS k (.ret d) = some (.ret d) := rfl
theorem endF_ret (d : D) : endF (.ret d) = some d := rfl
theorem endF_nx (e : Dn.Env) : endF (.nx e) = some .none := rfl
theorem asTpl_tup (xs : List D) : asTpl (.tuple xs) = some xs := rfl
theorem asLst_list (xs : List D) : asLst (.list xs) = some xs := rfl
theorem appS_own (e : Dn.Env) (i : Nat) (d : D) (ds : List D) : appS e i d (some (.own ds)) = if ds.length < lim then some (.nx (e.set i (.own (ds ++ [d])))) else none := rfl
theorem popS_own (e : Dn.Env) (i : Nat) (ds : List D) : popS e i (some (.own ds)) = if ds.isEmpty then none else some (.nx (e.set i (.own ds.dropLast))) := rfl
theorem revS_own (e : Dn.Env) (i : Nat) (ds : List D) : revS e i (some (.own ds)) = some (.nx (e.set i (.own ds.reverse))) := rfl
theorem frzS_own (e : Dn.Env) (i : Nat) (ds : List D) : frzS e i (some (.own ds)) = e.set i (.val (.list ds)) := rfl
theorem frzS_val (e : Dn.Env) (i : Nat) (d : D) : frzS e i (some (.val d)) = e := rfl
theorem asPart_int (a : Int) : asPart (.int a) = some (some a) := rfl
theorem isNone_none  : isNone .none = true := rfl
theorem isNone_tup (xs : List D) : isNone (.tuple xs) = false := rfl
theorem isNone_list (xs : List D) : isNone (.list xs) = false := rfl
theorem isNone_int (a : Int) : isNone (.int a) = false := rfl
theorem forG_nil (t : GT) (b : GS) (e : Dn.Env) : forG t b [] e = some (.nx e) := rfl
theorem forG_cons (t : GT) (b : GS) (d : D) (ds : List D) (e : Dn.Env) : forG t b (d :: ds) e = (t d e).bind fun e => (b e).bind (turnS (forG t b ds)) := rfl
theorem compG_nil (t : GT) (c : GB) (e : GE) (env : Dn.Env) : compG t c e env [] = some [] := rfl
theorem compG_cons (t : GT) (c : GB) (e : GE) (env : Dn.Env) (d : D) (ds : List D) : compG t c e env (d :: ds) = (t d env).bind fun env1 => (c env1).bind fun k => if k = true then (e env1).bind fun y => (compG t c e env ds).bind fun r => some (y :: r) else compG t c e env ds := rfl
theorem noOwB_nil (e : Dn.Env) : noOwB e [] = true := rfl
theorem noOwB_cons (e : Dn.Env) (i : Nat) (vs : List Nat) : noOwB e (i :: vs) = (!isOwn e[i]? && noOwB e vs) := rfl
theorem isOwn_val (d : D) : isOwn (some (.val d)) = false := rfl
theorem isOwn_un  : isOwn (some .un) = false := rfl
theorem wipeE_nil (e : Dn.Env) : wipeE e [] = e := rfl
theorem wipeE_cons (e : Dn.Env) (i : Nat) (vs : List Nat) : wipeE e (i :: vs) = (wipeE e vs).set i .un := rfl
theorem tTup2_nil (e : Dn.Env) : tTup2 [] [] e = some e := rfl
theorem tTup2_cons (t : GT) (ts : List GT) (d : D) (ds : List D) (e : Dn.Env) : tTup2 (t :: ts) (d :: ds) e = (t d e).bind fun e => tTup2 ts ds e := rfl
end Dn

namespace Dn
open PySem PySem.Spec PyProof.Rows L2
/-! ### Euclid -/
/-- so many turns are enough -/
theorem half_lt {a b : Nat} (h : b ≤ a) (hb : 0 < b) : 2 * (b * (a % b)) < a * b := by
  have h1 : a % b < b := Nat.mod_lt a hb
  have h2 : b * (a / b) + a % b = a := Nat.div_add_mod a b
  have h3 : 1 ≤ a / b := (Nat.one_le_div_iff hb).mpr h
  have h4 : b * 1 ≤ b * (a / b) := Nat.mul_le_mul_left b h3
  have h5 : 2 * (a % b) < a := by omega
  calc 2 * (b * (a % b)) = (2 * (a % b)) * b := by rw [Nat.mul_comm b, Nat.mul_assoc]
    _ < a * b := Nat.mul_lt_mul_of_pos_right h5 hb
/-- an abstract loop: R n a b g: with n turns at hand it comes from a, b to g -/
theorem euclid (R : Nat → Nat → Nat → Nat → Prop) (h0 : ∀ n a, R (n + 1) a 0 a) (h1 : ∀ n a b g, 0 < b → R n b (a % b) g → R (n + 1) a b g) :
    ∀ (m n a b : Nat), b ≤ a → a * b < 2 ^ m → m + 1 ≤ n → R n a b (Nat.gcd a b) := by
  intro m
  induction m with
  | zero =>
    intro n a b hab hp hn
    obtain ⟨k, rfl⟩ : ∃ k, n = k + 1 := ⟨n - 1, by omega⟩
    have hb : b = 0 := by
      rcases Nat.eq_zero_or_pos b with h | h
      · exact h
      · have : 1 * 1 ≤ a * b := Nat.mul_le_mul (by omega) h
        omega
    subst hb
    rw [Nat.gcd_zero_right]
    exact h0 k a
  | succ m ih =>
    intro n a b hab hp hn
    obtain ⟨k, rfl⟩ : ∃ k, n = k + 1 := ⟨n - 1, by omega⟩
    rcases Nat.eq_zero_or_pos b with h | h
    · subst h
      rw [Nat.gcd_zero_right]
      exact h0 k a
    · have q := half_lt hab h
      have e : Nat.gcd a b = Nat.gcd b (a % b) := by rw [Nat.gcd_comm a b, Nat.gcd_rec b a, Nat.gcd_comm]
      rw [e]
      exact h1 k a b _ h (ih k b (a % b) (Nat.le_of_lt (Nat.mod_lt a h)) (by rw [Nat.pow_succ] at hp; omega) (by omega))
theorem euclid2 (R : Nat → Nat → Nat → Nat → Prop) (h0 : ∀ n a, R (n + 1) a 0 a) (h1 : ∀ n a b g, 0 < b → R n b (a % b) g → R (n + 1) a b g)
    (m n a b : Nat) (ha : a < 2 ^ m) (hb : b < 2 ^ m) (hn : 2 * m + 2 ≤ n) : R n a b (Nat.gcd a b) := by
  have hp : a * b < 2 ^ (2 * m) := by
    rw [Nat.two_mul, Nat.pow_add]
    exact Nat.mul_lt_mul'' ha hb
  by_cases h : b ≤ a
  · exact euclid R h0 h1 (2 * m) n a b h hp (by omega)
  · obtain ⟨k, rfl⟩ : ∃ k, n = k + 1 := ⟨n - 1, by omega⟩
    refine h1 k a b _ (by omega) ?_
    rw [Nat.mod_eq_of_lt (show a < b by omega)]
    have e : Nat.gcd a b = Nat.gcd b a := Nat.gcd_comm a b
    rw [e]
    exact euclid R h0 h1 (2 * m) k b a (by omega) (by rw [Nat.mul_comm]; exact hp) (by omega)
/-! ### sizes -/
def Bd (k : Nat) (x : Int) : Prop := x.natAbs < 2 ^ k
theorem Bd.mono {j k : Nat} {x : Int} (h : Bd j x) (l : j ≤ k) : Bd k x := Nat.lt_of_lt_of_le h (Nat.pow_le_pow_right (by decide) l)
theorem Bd.neg {k : Nat} {x : Int} (h : Bd k x) : Bd k (-x) := by unfold Bd at *; omega
theorem Bd.mul {j k l : Nat} {x y : Int} (h : Bd j x) (h' : Bd k y) (e : j + k ≤ l) : Bd l (x * y) := by
  refine Bd.mono (j := j + k) ?_ e
  unfold Bd at *
  rw [Int.natAbs_mul, Nat.pow_add]
  exact Nat.mul_lt_mul'' h h'
theorem Bd.add {k l : Nat} {x y : Int} (h : Bd k x) (h' : Bd k y) (e : k + 1 ≤ l) : Bd l (x + y) := by
  refine Bd.mono (j := k + 1) ?_ e
  unfold Bd at *
  rw [Nat.pow_succ]
  omega
theorem Bd.sub {k l : Nat} {x y : Int} (h : Bd k x) (h' : Bd k y) (e : k + 1 ≤ l) : Bd l (x - y) := by
  refine Bd.mono (j := k + 1) ?_ e
  unfold Bd at *
  rw [Nat.pow_succ]
  omega
theorem Bd.log {k : Nat} {x : Int} (h : Bd k x) (hk : 0 < k) : x.natAbs.log2 < k := PySem.Flt.log2_lt_of hk h
theorem mulOk_of {j k : Nat} {x y : Int} (h : Bd j x) (h' : Bd k y) (hj : 0 < j) (hk : 0 < k) (e : j + k ≤ 100000000) : mulOk x y = true := by
  unfold mulOk
  have h1 := h.log hj
  have h2 := h'.log hk
  have : decide (x.natAbs.log2 + y.natAbs.log2 < 100000000) = true := decide_eq_true (by omega)
  rw [this, Bool.or_true]
theorem mulOk_right {x y : Int} (h : Bd 64 y) : mulOk x y = true := by
  unfold mulOk
  have : decide (y.natAbs < 2 ^ 64) = true := decide_eq_true h
  rw [this, Bool.or_true, Bool.true_or]
theorem mulOk_left {x y : Int} (h : Bd 64 x) : mulOk x y = true := by
  unfold mulOk
  have : decide (x.natAbs < 2 ^ 64) = true := decide_eq_true h
  rw [this, Bool.true_or, Bool.true_or]
theorem divOk_of {k : Nat} {y : Int} (h : Bd k y) (h0 : y ≠ 0) (hk : 0 < k) (e : k ≤ 9000) : divOk y = true := by
  unfold divOk
  have h1 := h.log hk
  rw [decide_eq_true h0, decide_eq_true (show y.natAbs.log2 < 9000 by omega)]
  rfl
theorem Bd.of_le {k : Nat} {x y : Int} (h : Bd k y) (l : x.natAbs ≤ y.natAbs) : Bd k x := Nat.lt_of_le_of_lt l h
theorem Bd.gcd_left {k : Nat} {x y : Int} (h : Bd k x) (h0 : x ≠ 0) : Bd k ((Int.gcd x y : Nat) : Int) := by
  unfold Bd
  rw [Int.natAbs_natCast]
  exact Nat.lt_of_le_of_lt (Nat.gcd_le_left _ (by omega)) h
theorem Bd.gcd_right {k : Nat} {x y : Int} (h : Bd k y) (h0 : y ≠ 0) : Bd k ((Int.gcd x y : Nat) : Int) := by
  unfold Bd
  rw [Int.natAbs_natCast]
  exact Nat.lt_of_le_of_lt (Nat.gcd_le_right _ (by omega)) h
theorem abs_nat (a : Int) : (if a < 0 then -a else a) = ((a.natAbs : Nat) : Int) := by
  split <;> omega
theorem fmod_nat (a b : Nat) : Int.fmod (a : Int) (b : Int) = ((a % b : Nat) : Int) := by
  rw [Int.fmod_eq_emod_of_nonneg _ (by omega)]
  rfl
theorem rngD_length (lo : Int) (n : Nat) : (rngD lo n).length = n := by
  unfold rngD
  rw [List.length_map, List.length_range]
theorem rgOk_small {n : Int} (h : n.natAbs < 2 ^ 59) : rgOk n = true := by
  unfold rgOk
  refine decide_eq_true ?_
  by_cases e : n.natAbs = 0
  · rw [e]; decide
  · exact (Nat.log2_lt e).mpr (by omega)
theorem vRange1_int {n : Int} (h : n.natAbs < 2 ^ 59) : vRange1 (.int n) = some (rngD 0 n.toNat) := by
  show (if rgOk n = true then some (rngD 0 n.toNat) else none) = _
  rw [if_pos (rgOk_small h)]
theorem vRange2_int {a b : Int} (h : a.natAbs < 2 ^ 59) (h' : b.natAbs < 2 ^ 59) : vRange2 (.int a) (.int b) = some (rngD a (b - a).toNat) := by
  show (if (rgOk a && rgOk b) = true then some (rngD a (b - a).toNat) else none) = _
  rw [rgOk_small h, rgOk_small h']
  rfl
/-- the number for n / d -/
def nmN (n d : Int) : Int := (if d < 0 then -n else n) / ((Int.gcd n d : Nat) : Int)
def nmD (n d : Int) : Int := (if d < 0 then -d else d) / ((Int.gcd n d : Nat) : Int)
def pr (n d : Int) : D := .tuple [.int n, .int d]
theorem fdiv_nat (a : Int) (b : Nat) : Int.fdiv a (b : Int) = a / (b : Int) := Int.fdiv_eq_ediv_of_nonneg _ (by omega)
theorem gcd_ne {n d : Int} (h : d ≠ 0) : ((Int.gcd n d : Nat) : Int) ≠ 0 := by
  intro z
  have : Int.gcd n d = 0 := by omega
  rw [Int.gcd_eq_zero_iff] at this
  exact h this.2
theorem gcd_ok {k : Nat} {n d : Int} (h : d ≠ 0) (b : Bd k d) (h0 : 0 < k) (hk : k ≤ 9000) : divOk ((Int.gcd n d : Nat) : Int) = true := divOk_of (Bd.gcd_right b h) (gcd_ne h) h0 hk
theorem rngD_zero (lo : Int) : rngD lo 0 = [] := rfl
theorem rngD_succ (lo : Int) (n : Nat) : rngD lo (n + 1) = PyData.int lo :: rngD (lo + 1) n := by
  unfold rngD
  rw [List.range_succ_eq_map, List.map_cons, List.map_map]
  congr 1
  · show PyData.int (lo + ((0 : Nat) : Int)) = _
    rw [Int.natCast_zero, Int.add_zero]
  · apply List.map_congr_left
    intro i _
    show PyData.int (lo + ((i + 1 : Nat) : Int)) = PyData.int (lo + 1 + (i : Int))
    congr 1
    omega
/-- drawn parts lie below their sizes -/
inductive Fit : List Int → List Int → Prop
  | nil : Fit [] []
  | cons {p s : Int} {ps ss : List Int} : 0 ≤ p → p < s → Fit ps ss → Fit (p :: ps) (s :: ss)
theorem Fit.snoc {p s : Int} (h0 : 0 ≤ p) (h : p < s) : ∀ {ps ss : List Int}, Fit ps ss → Fit (ps ++ [p]) (ss ++ [s])
  | _, _, .nil => .cons h0 h .nil
  | _, _, .cons a b t => .cons a b (Fit.snoc h0 h t)
theorem Fit.length : ∀ {ps ss : List Int}, Fit ps ss → ps.length = ss.length
  | _, _, .nil => rfl
  | _, _, .cons _ _ t => by rw [List.length_cons, List.length_cons, Fit.length t]
def dI (ns : List Int) : List D := ns.map PyData.int
theorem dI_get (ns : List Int) (i : Nat) : (dI ns)[i]? = (ns[i]?).map PyData.int := List.getElem?_map
theorem dI_app (ns ms : List Int) : dI ns ++ dI ms = dI (ns ++ ms) := (List.map_append ..).symm
theorem dI_length (ns : List Int) : (dI ns).length = ns.length := List.length_map ..
theorem dI_cons (n : Int) (ns : List Int) : dI (n :: ns) = .int n :: dI ns := rfl
theorem dI_nil : dI [] = [] := rfl
theorem atD_nat (xs : List D) (k : Nat) : atD xs (k : Int) = xs[k]? := by
  unfold atD
  rw [if_neg (by omega), Int.toNat_natCast]
theorem atD_0 (xs : List D) : atD xs 0 = xs[0]? := atD_nat xs 0
theorem atD_1 (xs : List D) : atD xs 1 = xs[1]? := atD_nat xs 1
theorem atD_2 (xs : List D) : atD xs 2 = xs[2]? := atD_nat xs 2
theorem atD_3 (xs : List D) : atD xs 3 = xs[3]? := atD_nat xs 3
theorem atD_4 (xs : List D) : atD xs 4 = xs[4]? := atD_nat xs 4
theorem atD_5 (xs : List D) : atD xs 5 = xs[5]? := atD_nat xs 5
theorem atD_6 (xs : List D) : atD xs 6 = xs[6]? := atD_nat xs 6
theorem atD_7 (xs : List D) : atD xs 7 = xs[7]? := atD_nat xs 7
theorem atD_8 (xs : List D) : atD xs 8 = xs[8]? := atD_nat xs 8
theorem atD_9 (xs : List D) : atD xs 9 = xs[9]? := atD_nat xs 9
theorem atD_10 (xs : List D) : atD xs 10 = xs[10]? := atD_nat xs 10
theorem atD_11 (xs : List D) : atD xs 11 = xs[11]? := atD_nat xs 11
theorem fmod_pos {a b : Int} (h : 0 < b) : a.fmod b = a % b := Int.fmod_eq_emod_of_nonneg _ (by omega)
theorem fdiv_pos {a b : Int} (h : 0 < b) : a.fdiv b = a / b := Int.fdiv_eq_ediv_of_nonneg _ (by omega)
theorem vMod_pos {a b : Int} (h : 0 < b) : vMod (.int a) (.int b) = some (.int (a % b)) := by
  show (if b = 0 then none else some (PyData.int (a.fmod b))) = _
  rw [if_neg (by omega), fmod_pos h]
theorem vFdiv_pos {k : Nat} {a b : Int} (h : 0 < b) (hb : Bd k b) (h0 : 0 < k) (hk : k ≤ 9000) : vFdiv (.int a) (.int b) = some (.int (a / b)) := by
  show (if divOk b = true then some (PyData.int (a.fdiv b)) else none) = _
  rw [if_pos (divOk_of hb (by omega) h0 hk), fdiv_pos h]
theorem vMul_ok {a b : Int} (h : mulOk a b = true) : vMul (.int a) (.int b) = some (.int (a * b)) := by
  show (if mulOk a b = true then some (PyData.int (a * b)) else none) = _
  rw [if_pos h]
theorem bd_lit {k : Nat} {x : Int} (h : decide (x.natAbs < 2 ^ k) = true) : Bd k x := show x.natAbs < 2 ^ k from of_decide_eq_true h
theorem bd_range {k : Nat} {x : Int} (lo hi : Int) (h1 : lo ≤ x) (h2 : x ≤ hi) (hl : decide (lo.natAbs < 2 ^ k) = true) (hh : decide (hi.natAbs < 2 ^ k) = true) : Bd k x := by
  have a := of_decide_eq_true hl
  have b := of_decide_eq_true hh
  unfold Bd
  omega
theorem vPow_ok {a b : Int} (h0 : 0 ≤ b) (h1 : b ≤ 1000000) (h2 : a.natAbs < 2 ^ 64) : vPow (.int a) (.int b) = some (.int (a ^ b.toNat)) := by
  show (if 0 ≤ b ∧ b ≤ 1000000 ∧ a.natAbs < 2 ^ 64 then some (PyData.int (a ^ b.toNat)) else none) = _
  rw [if_pos ⟨h0, h1, h2⟩]
theorem vPow_10_18 : vPow (.int 10) (.int 18) = some (.int 1000000000000000000) := by
  rw [vPow_ok (by decide) (by decide) (by decide)]
  rfl
theorem nm_facts {n d : Int} (h : d ≠ 0) : ∃ g : Int, 0 < g ∧ g * nmN n d = (if d < 0 then -n else n) ∧ g * nmD n d = (if d < 0 then -d else d) := by
  have g0 := gcd_ne (n := n) h
  refine ⟨((Int.gcd n d : Nat) : Int), by omega, ?_, ?_⟩
  · unfold nmN
    rw [Int.mul_ediv_cancel']
    split
    · exact Int.dvd_neg.mpr (Int.gcd_dvd_left _ _)
    · exact Int.gcd_dvd_left _ _
  · unfold nmD
    rw [Int.mul_ediv_cancel']
    split
    · exact Int.dvd_neg.mpr (Int.gcd_dvd_right _ _)
    · exact Int.gcd_dvd_right _ _
theorem nat_factor {g q x : Int} (hg : 0 < g) (e : g * q = x) : q.natAbs ≤ x.natAbs := by
  rw [← e, Int.natAbs_mul]
  exact Nat.le_mul_of_pos_left _ (by omega)
theorem nmN_bd {k : Nat} {n d : Int} (h : d ≠ 0) (b : Bd k n) : Bd k (nmN n d) := by
  obtain ⟨g, hg, h1, _⟩ := nm_facts (n := n) h
  have := nat_factor hg h1
  unfold Bd at *
  split at this <;> omega
theorem nmD_bd {k : Nat} {n d : Int} (h : d ≠ 0) (b : Bd k d) : Bd k (nmD n d) := by
  obtain ⟨g, hg, _, h1⟩ := nm_facts (n := n) h
  have := nat_factor hg h1
  unfold Bd at *
  split at this <;> omega
theorem nmD_pos {n d : Int} (h : d ≠ 0) : 0 < nmD n d := by
  obtain ⟨g, hg, _, h1⟩ := nm_facts (n := n) h
  refine Int.not_le.mp fun z => ?_
  have : g * nmD n d ≤ 0 := Int.mul_nonpos_of_nonneg_of_nonpos (by omega) z
  split at h1 <;> omega
end Dn

namespace Dn
open PySem
/-! ### what repr shows is not too long -/
mutual
def nodes : D → Nat
  | .list xs => 1 + nodesAll xs
  | .tuple xs => 1 + nodesAll xs
  | _ => 1
def nodesAll : List D → Nat
  | [] => 0
  | x :: xs => nodes x + nodesAll xs
end
mutual
def smI : D → Bool
  | .int i => decide (i.natAbs.log2 < 1000)
  | .bool _ => true
  | .none => true
  | .list xs => smAll xs
  | .tuple xs => smAll xs
  | _ => false
def smAll : List D → Bool
  | [] => true
  | x :: xs => smI x && smAll xs
end
theorem nodes_pos (d : D) : 1 ≤ nodes d := by cases d <;> simp only [nodes] <;> omega
theorem int_shown {i : Int} (h : i.natAbs.log2 < 1000) : (PyData.shown (.int i)).length ≤ 1001 := by
  have := int_text_length_le (by decide) h
  show (Str.ofString (toString i)).length ≤ 1001
  rw [ofString_length]
  exact this
mutual
theorem shown_le : ∀ d : D, smI d = true → d.shown.length + 2 ≤ 1010 * nodes d
  | .int i, h => by
    have := int_shown (of_decide_eq_true h)
    simp only [nodes]
    omega
  | .bool b, _ => by cases b <;> decide
  | .none, _ => by decide
  | .str _, h => by cases h
  | .dict _, h => by cases h
  | .list xs, h => by
    have h1 := shownAll_le xs h
    have h2 := listText_len_le (PyData.shownAll xs)
    show (listText (PyData.shownAll xs)).length + 2 ≤ 1010 * (1 + nodesAll xs)
    omega
  | .tuple xs, h => by
    have h1 := shownAll_le xs h
    have h2 := tupleText_len_le (PyData.shownAll xs)
    show (tupleText (PyData.shownAll xs)).length + 2 ≤ 1010 * (1 + nodesAll xs)
    omega
theorem shownAll_le : ∀ xs : List D, smAll xs = true → ((PyData.shownAll xs).map (·.length)).sum + 2 * (PyData.shownAll xs).length ≤ 1010 * nodesAll xs
  | [], _ => by decide
  | x :: xs, h => by
    have h := Bool.and_eq_true_iff.mp (show (smI x && smAll xs) = true from h)
    have h1 := shown_le x h.1
    have h2 := shownAll_le xs h.2
    show (x.shown.length + ((PyData.shownAll xs).map (·.length)).sum) + 2 * ((PyData.shownAll xs).length + 1) ≤ 1010 * (nodes x + nodesAll xs)
    omega
end
mutual
theorem sm_show : ∀ d : D, smI d = true → d.showable = true ∧ d.hasDict = false
  | .int i, h => ⟨decide_eq_true (by have := of_decide_eq_true h; omega), rfl⟩
  | .bool b, _ => ⟨rfl, rfl⟩
  | .none, _ => ⟨rfl, rfl⟩
  | .str _, h => by cases h
  | .dict _, h => by cases h
  | .list xs, h => smAll_show xs h
  | .tuple xs, h => smAll_show xs h
theorem smAll_show : ∀ xs : List D, smAll xs = true → PyData.showableAll xs = true ∧ PyData.hasDictAll xs = false
  | [], _ => ⟨rfl, rfl⟩
  | x :: xs, h => by
    have h := Bool.and_eq_true_iff.mp (show (smI x && smAll xs) = true from h)
    have h1 := sm_show x h.1
    have h2 := smAll_show xs h.2
    constructor
    · show (x.showable && PyData.showableAll xs) = true
      rw [h1.1, h2.1]; rfl
    · show (x.hasDict || PyData.hasDictAll xs) = false
      rw [h1.2, h2.2]; rfl
end
theorem okShow_of {d : D} (h : smI d = true) (hd : d.depth ≤ 60) (hn : nodes d ≤ 16000) : okShow d = true := by
  have h1 := sm_show d h
  have h2 := shown_le d h
  unfold okShow
  rw [h1.1, h1.2, decide_eq_true hd, decide_eq_true (show d.shown.length ≤ lim by unfold lim; omega)]
  rfl
theorem vRepr1_of {d : D} (hr : isRefD d = true) (h : okShow d = true) : vRepr1 d = some (.str d.shown) := by
  unfold vRepr1 vRepr
  rw [if_pos hr, if_pos h]
theorem log_of_bd {k : Nat} {i : Int} (h : Bd k i) (hk : k ≤ 1000) : decide (i.natAbs.log2 < 1000) = true := by
  refine decide_eq_true ?_
  rcases Nat.eq_zero_or_pos k with e | e
  · subst e
    have : i.natAbs = 0 := by unfold Bd at h; omega
    rw [this]; decide
  · have := h.log e
    omega
theorem pr_show {k : Nat} {a b : Int} (ha : Bd k a) (hb : Bd k b) (hk : k ≤ 1000) : vRepr1 (pr a b) = some (.str (pr a b).shown) := by
  refine vRepr1_of rfl (okShow_of ?_ (Nat.le_of_ble_eq_true rfl) (Nat.le_of_ble_eq_true rfl))
  show (decide (a.natAbs.log2 < 1000) && (decide (b.natAbs.log2 < 1000) && true)) = true
  rw [log_of_bd ha hk, log_of_bd hb hk]
  rfl
def pt (a b c : Int) : D := .tuple [.int a, .int b, .int c]
theorem pt_show {k : Nat} {a b c : Int} (ha : Bd k a) (hb : Bd k b) (hc : Bd k c) (hk : k ≤ 1000) : vRepr1 (pt a b c) = some (.str (pt a b c).shown) := by
  refine vRepr1_of rfl (okShow_of ?_ (Nat.le_of_ble_eq_true rfl) (Nat.le_of_ble_eq_true rfl))
  show (decide (a.natAbs.log2 < 1000) && (decide (b.natAbs.log2 < 1000) && (decide (c.natAbs.log2 < 1000) && true))) = true
  rw [log_of_bd ha hk, log_of_bd hb hk, log_of_bd hc hk]
  rfl
theorem pt_shaped (a b c : Int) : SeqAt.shaped (pt a b c) = true := rfl
theorem pt_eqv (a b c d e f : Int) : PyData.eqv (pt a b c) (pt d e f) = (decide (a = d) && (decide (b = e) && decide (c = f))) := by
  show ((a == d) && ((b == e) && ((c == f) && true))) = _
  rw [Bool.and_true]
  rfl
theorem vNe_pt (a b c d e f : Int) : vNe (pt a b c) (pt d e f) = some (.bool (!(decide (a = d) && (decide (b = e) && decide (c = f))))) := by
  show vNeG (pt a b c) (pt d e f) = _
  unfold vNeG
  rw [pt_shaped, pt_shaped, pt_eqv]
  rfl
theorem vEq_pt (a b c d e f : Int) : vEq (pt a b c) (pt d e f) = some (.bool (decide (a = d) && (decide (b = e) && decide (c = f)))) := by
  show vEqG (pt a b c) (pt d e f) = _
  unfold vEqG
  rw [pt_shaped, pt_shaped, pt_eqv]
  rfl
/-! ### the one triple of a place -/
def gg (x y w : Int) : Int := ((Int.gcd ((Int.gcd x y : Nat) : Int) w : Nat) : Int)
def ptX (x w : Int) (g : Int) : Int := (if w < 0 then -x else x) / g
/-- a, b, c have no common divisor, c is above 0 -/
structure Nf (a b c : Int) : Prop where
  pos : 0 < c
  one : Int.gcd ((Int.gcd a b : Nat) : Int) c = 1
theorem gg_pos {x y w : Int} (h : w ≠ 0) : 0 < gg x y w := by
  have := gcd_ne (n := ((Int.gcd x y : Nat) : Int)) h
  unfold gg
  omega
theorem gg_dvd (x y w : Int) : gg x y w ∣ x ∧ gg x y w ∣ y ∧ gg x y w ∣ w := by
  have h1 : gg x y w ∣ ((Int.gcd x y : Nat) : Int) := Int.gcd_dvd_left _ _
  exact ⟨Int.dvd_trans h1 (Int.gcd_dvd_left _ _), Int.dvd_trans h1 (Int.gcd_dvd_right _ _), Int.gcd_dvd_right _ _⟩
theorem nf_unique {a b c a' b' c' : Int} (h : Nf a b c) (h' : Nf a' b' c') (e1 : a * c' = a' * c) (e2 : b * c' = b' * c) : a = a' ∧ b = b' ∧ c = c' := by
  have key : ∀ {a b c a' b' c' : Int}, Nf a b c → a * c' = a' * c → b * c' = b' * c → c.natAbs ∣ c'.natAbs := by
    intro a b c a' b' c' h e1 e2
    have d1 : c.natAbs ∣ a.natAbs * c'.natAbs := by rw [← Int.natAbs_mul, e1, Int.natAbs_mul]; exact Nat.dvd_mul_left _ _
    have d2 : c.natAbs ∣ b.natAbs * c'.natAbs := by rw [← Int.natAbs_mul, e2, Int.natAbs_mul]; exact Nat.dvd_mul_left _ _
    have d3 : c.natAbs ∣ c.natAbs * c'.natAbs := Nat.dvd_mul_right _ _
    have d4 := Nat.dvd_gcd (Nat.dvd_gcd d1 d2) d3
    rw [Nat.gcd_mul_right, Nat.gcd_mul_right] at d4
    have o := h.one
    rw [Int.gcd_eq_natAbs_gcd_natAbs, Int.natAbs_natCast, Int.gcd_eq_natAbs_gcd_natAbs] at o
    rw [o, Nat.one_mul] at d4
    exact d4
  have q := Nat.dvd_antisymm (key h e1 e2) (key h' e1.symm e2.symm)
  have ec : c = c' := by have := h.pos; have := h'.pos; omega
  subst ec
  have hc : c ≠ 0 := by have := h.pos; omega
  exact ⟨Int.eq_of_mul_eq_mul_right hc e1, Int.eq_of_mul_eq_mul_right hc e2, rfl⟩
end Dn

namespace Dn
open PySem
def p1 (x y w : Int) : Int := ptX x w (gg x y w)
def p2 (x y w : Int) : Int := ptX y w (gg x y w)
def p3 (x y w : Int) : Int := ptX w w (gg x y w)
theorem ptX_mul {x w g : Int} (h : g ∣ x) : g * ptX x w g = if w < 0 then -x else x := by
  unfold ptX
  rw [Int.mul_ediv_cancel']
  split
  · exact Int.dvd_neg.mpr h
  · exact h
theorem p_facts {x y w : Int} (h : w ≠ 0) : ∃ g : Int, 0 < g ∧ g * p1 x y w = (if w < 0 then -x else x) ∧ g * p2 x y w = (if w < 0 then -y else y) ∧ g * p3 x y w = (if w < 0 then -w else w) ∧ g = gg x y w := by
  obtain ⟨d1, d2, d3⟩ := gg_dvd x y w
  exact ⟨gg x y w, gg_pos h, ptX_mul d1, ptX_mul d2, ptX_mul d3, rfl⟩
theorem gg_nat (x y w : Int) : (gg x y w).natAbs = Nat.gcd (Nat.gcd x.natAbs y.natAbs) w.natAbs := by
  unfold gg
  rw [Int.natAbs_natCast, Int.gcd_eq_natAbs_gcd_natAbs, Int.natAbs_natCast, Int.gcd_eq_natAbs_gcd_natAbs]
theorem p_nf {x y w : Int} (h : w ≠ 0) : Nf (p1 x y w) (p2 x y w) (p3 x y w) := by
  obtain ⟨g, hg, e1, e2, e3, eg⟩ := p_facts (x := x) (y := y) h
  constructor
  · refine Int.not_le.mp fun z => ?_
    have : g * p3 x y w ≤ 0 := Int.mul_nonpos_of_nonneg_of_nonpos (by omega) z
    split at e3 <;> omega
  · have f1 : x.natAbs = (p1 x y w).natAbs * g.natAbs := by
      rw [← Int.natAbs_mul, Int.mul_comm, e1]; split <;> omega
    have f2 : y.natAbs = (p2 x y w).natAbs * g.natAbs := by
      rw [← Int.natAbs_mul, Int.mul_comm, e2]; split <;> omega
    have f3 : w.natAbs = (p3 x y w).natAbs * g.natAbs := by
      rw [← Int.natAbs_mul, Int.mul_comm, e3]; split <;> omega
    have q := gg_nat x y w
    rw [f1, f2, f3, Nat.gcd_mul_right, Nat.gcd_mul_right, ← eg] at q
    rw [Int.gcd_eq_natAbs_gcd_natAbs, Int.natAbs_natCast, Int.gcd_eq_natAbs_gcd_natAbs]
    have hp : 0 < g.natAbs := by omega
    have q2 : g.natAbs * 1 = g.natAbs * Nat.gcd (Nat.gcd (p1 x y w).natAbs (p2 x y w).natAbs) (p3 x y w).natAbs := by rw [Nat.mul_one, Nat.mul_comm]; exact q
    exact (Nat.eq_of_mul_eq_mul_left hp q2).symm
theorem p_cross {x y w : Int} (h : w ≠ 0) : p1 x y w * w = x * p3 x y w ∧ p2 x y w * w = y * p3 x y w := by
  obtain ⟨g, hg, e1, e2, e3, _⟩ := p_facts (x := x) (y := y) h
  have hg' : g ≠ 0 := by omega
  constructor
  · refine Int.eq_of_mul_eq_mul_left hg' ?_
    have l : g * (p1 x y w * w) = (g * p1 x y w) * w := by rw [Int.mul_assoc]
    have r : g * (x * p3 x y w) = x * (g * p3 x y w) := by rw [Int.mul_left_comm]
    rw [l, r, e1, e3]
    split
    · rw [Int.neg_mul, Int.mul_neg]
    · rfl
  · refine Int.eq_of_mul_eq_mul_left hg' ?_
    have l : g * (p2 x y w * w) = (g * p2 x y w) * w := by rw [Int.mul_assoc]
    have r : g * (y * p3 x y w) = y * (g * p3 x y w) := by rw [Int.mul_left_comm]
    rw [l, r, e2, e3]
    split
    · rw [Int.neg_mul, Int.mul_neg]
    · rfl
/-- one place, one triple -/
theorem p_same {x y w x' y' w' : Int} (h : w ≠ 0) (h' : w' ≠ 0) (e1 : x * w' = x' * w) (e2 : y * w' = y' * w) : p1 x y w = p1 x' y' w' ∧ p2 x y w = p2 x' y' w' ∧ p3 x y w = p3 x' y' w' := by
  obtain ⟨a1, a2⟩ := p_cross (x := x) (y := y) h
  obtain ⟨b1, b2⟩ := p_cross (x := x') (y := y') h'
  have hh : w * w' ≠ 0 := Int.mul_ne_zero h h'
  refine nf_unique (p_nf h) (p_nf h') ?_ ?_
  · refine Int.eq_of_mul_eq_mul_right hh ?_
    grind
  · refine Int.eq_of_mul_eq_mul_right hh ?_
    grind
/-- a triple that is in its form stays -/
theorem p_id {a b c : Int} (h : Nf a b c) : p1 a b c = a ∧ p2 a b c = b ∧ p3 a b c = c := by
  have h0 : c ≠ 0 := by have := h.pos; omega
  obtain ⟨a1, a2⟩ := p_cross (x := a) (y := b) h0
  exact nf_unique (p_nf h0) h a1 a2
theorem p1_bd {k : Nat} {x y w : Int} (h : w ≠ 0) (b : Bd k x) : Bd k (p1 x y w) := by
  obtain ⟨g, hg, e, _⟩ := p_facts (x := x) (y := y) h
  have := nat_factor hg e
  unfold Bd at *
  split at this <;> omega
theorem p2_bd {k : Nat} {x y w : Int} (h : w ≠ 0) (b : Bd k y) : Bd k (p2 x y w) := by
  obtain ⟨g, hg, _, e, _⟩ := p_facts (x := x) (y := y) h
  have := nat_factor hg e
  unfold Bd at *
  split at this <;> omega
theorem p3_bd {k : Nat} {x y w : Int} (h : w ≠ 0) (b : Bd k w) : Bd k (p3 x y w) := by
  obtain ⟨g, hg, _, _, e, _⟩ := p_facts (x := x) (y := y) h
  have := nat_factor hg e
  unfold Bd at *
  split at this <;> omega
theorem p3_pos {x y w : Int} (h : w ≠ 0) : 0 < p3 x y w := (p_nf h).pos
def P (x y w : Int) : D := pt (p1 x y w) (p2 x y w) (p3 x y w)
theorem P_same {x y w x' y' w' : Int} (h : w ≠ 0) (h' : w' ≠ 0) (e1 : x * w' = x' * w) (e2 : y * w' = y' * w) : P x y w = P x' y' w' := by
  obtain ⟨a, b, c⟩ := p_same h h' e1 e2
  unfold P
  rw [a, b, c]
theorem fdiv_neg_exact {x g : Int} (hg : 0 < g) (h : g ∣ x) : x.fdiv (-g) = -x / g := by
  obtain ⟨q, rfl⟩ := h
  have e : g * q = (-g) * (-q) := by rw [Int.neg_mul_neg]
  rw [e, Int.mul_fdiv_cancel_left _ (by omega), ← e, Int.neg_mul_eq_mul_neg g q, Int.mul_ediv_cancel_left _ (by omega)]
/-! ### numbers: one fraction, one pair -/
theorem nm_cross {n d : Int} (h : d ≠ 0) : nmN n d * d = n * nmD n d := by
  obtain ⟨g, hg, e1, e2⟩ := nm_facts (n := n) h
  refine Int.eq_of_mul_eq_mul_left (show g ≠ 0 by omega) ?_
  have l : g * (nmN n d * d) = (g * nmN n d) * d := by rw [Int.mul_assoc]
  have r : g * (n * nmD n d) = n * (g * nmD n d) := by rw [Int.mul_left_comm]
  rw [l, r, e1, e2]
  split
  · rw [Int.neg_mul, Int.mul_neg]
  · rfl
end Dn

namespace Dn
open PySem
/-- sizes in doublings of 64 bits -/
structure S (k : Nat) (x : Int) : Prop where
  b : Bd (64 * 2 ^ k) x
theorem S.up {k : Nat} {x : Int} (h : S k x) : S (k + 1) x := .mk <| Bd.mono h.b (by rw [Nat.pow_succ]; omega)
theorem S.mul {k : Nat} {x y : Int} (h : S k x) (h' : S k y) : S (k + 1) (x * y) := .mk <| Bd.mul h.b h'.b (by rw [Nat.pow_succ]; omega)
theorem S.add {k : Nat} {x y : Int} (h : S k x) (h' : S k y) : S (k + 1) (x + y) := .mk <| Bd.add h.b h'.b (by have := Nat.pow_pos (n := k) (show 0 < 2 by decide); rw [Nat.pow_succ]; omega)
theorem S.sub {k : Nat} {x y : Int} (h : S k x) (h' : S k y) : S (k + 1) (x - y) := .mk <| Bd.sub h.b h'.b (by have := Nat.pow_pos (n := k) (show 0 < 2 by decide); rw [Nat.pow_succ]; omega)
theorem S.neg {k : Nat} {x : Int} (h : S k x) : S k (-x) := .mk <| Bd.neg h.b
theorem S.mono {j k : Nat} {x : Int} (h : S j x) (l : j ≤ k) : S k x := .mk <| Bd.mono h.b (Nat.mul_le_mul_left _ (Nat.pow_le_pow_right (by decide) l))
theorem S.of {k : Nat} {x : Int} (h : Bd 64 x) : S k x := .mk <| Bd.mono h (by have := Nat.pow_pos (n := k) (show 0 < 2 by decide); omega)
theorem S.lit {k : Nat} {x : Int} (h : decide (x.natAbs < 2 ^ 64) = true) : S k x := S.of (bd_lit h)
theorem S.pos (k : Nat) : 0 < 64 * 2 ^ k := by have := Nat.pow_pos (n := k) (show 0 < 2 by decide); omega
theorem vMul_S {a b : Int} (h : S 12 a) (h' : S 12 b) : vMul (.int a) (.int b) = some (.int (a * b)) := vMul_ok (mulOk_of h.b h'.b (by decide) (by decide) (by decide))
theorem P_S {k : Nat} {x y w : Int} (h : w ≠ 0) (a : S k x) (b : S k y) (c : S k w) : S k (p1 x y w) ∧ S k (p2 x y w) ∧ S k (p3 x y w) := ⟨⟨p1_bd h a.b⟩, ⟨p2_bd h b.b⟩, ⟨p3_bd h c.b⟩⟩
theorem pt_show_S {a b c : Int} (ha : S 3 a) (hb : S 3 b) (hc : S 3 c) : vRepr1 (pt a b c) = some (.str (pt a b c).shown) := pt_show (k := 64 * 2 ^ 3) ha.b hb.b hc.b (by decide)
theorem nm_S {k : Nat} {n d : Int} (h : d ≠ 0) (a : S k n) (b : S k d) : S k (nmN n d) ∧ S k (nmD n d) := ⟨⟨nmN_bd h a.b⟩, ⟨nmD_bd h b.b⟩⟩
end Dn

namespace Dn
open PySem
/-! ### quarter turns -/
def tX (k x y : Int) : Int := if k = 1 then -y else if k = 2 then -x else if k = 3 then y else x
def tY (k x y : Int) : Int := if k = 1 then x else if k = 2 then -y else if k = 3 then -x else y
def co (k : Int) : Int := if k = 0 then 1 else if k = 2 then -1 else 0
def si (k : Int) : Int := if k = 1 then 1 else if k = 3 then -1 else 0
structure Qt (k : Int) : Prop where
  h0 : 0 ≤ k
  h4 : k < 4
theorem Qt.or {k : Int} (h : Qt k) : k = 0 ∨ k = 1 ∨ k = 2 ∨ k = 3 := by have := h.h0; have := h.h4; omega
theorem tX_lin {k : Int} (h : Qt k) (x y : Int) : tX k x y = co k * x - si k * y := by
  rcases h.or with rfl | rfl | rfl | rfl
  · show x = 1 * x - 0 * y; omega
  · show -y = 0 * x - 1 * y; omega
  · show -x = -1 * x - 0 * y; omega
  · show y = 0 * x - -1 * y; omega
theorem tY_lin {k : Int} (h : Qt k) (x y : Int) : tY k x y = si k * x + co k * y := by
  rcases h.or with rfl | rfl | rfl | rfl
  · show y = 0 * x + 1 * y; omega
  · show x = 1 * x + 0 * y; omega
  · show -y = 0 * x + -1 * y; omega
  · show -x = -1 * x + 0 * y; omega
theorem cs_one {k : Int} (h : Qt k) : co k * co k + si k * si k = 1 := by
  rcases h.or with rfl | rfl | rfl | rfl <;> rfl
theorem qt_back {k : Int} (h : Qt k) : Qt ((4 - k) % 4) ∧ co ((4 - k) % 4) = co k ∧ si ((4 - k) % 4) = - si k ∧ (4 - (4 - k) % 4) % 4 = k ∧ (k + (4 - k) % 4) % 4 = 0 ∧ ((4 - k) % 4 + k) % 4 = 0 := by
  rcases h.or with rfl | rfl | rfl | rfl <;> exact ⟨⟨by decide, by decide⟩, rfl, rfl, rfl, rfl, rfl⟩
theorem qt_add {k l : Int} (h : Qt k) (h' : Qt l) : Qt ((k + l) % 4) ∧ co ((k + l) % 4) = co k * co l - si k * si l ∧ si ((k + l) % 4) = si k * co l + co k * si l := by
  rcases h.or with rfl | rfl | rfl | rfl <;> rcases h'.or with rfl | rfl | rfl | rfl <;> exact ⟨⟨by decide, by decide⟩, rfl, rfl⟩
theorem S_t {n : Nat} {k x y : Int} (hk : Qt k) (hx : S n x) (hy : S n y) : S n (tX k x y) ∧ S n (tY k x y) := by
  rcases hk.or with rfl | rfl | rfl | rfl
  · exact ⟨hx, hy⟩
  · exact ⟨hy.neg, hx⟩
  · exact ⟨hx.neg, hy.neg⟩
  · exact ⟨hy, hx.neg⟩
theorem Nf.neg {a b c : Int} (h : Nf a b c) : Nf (-a) (-b) c := ⟨h.pos, by rw [Int.neg_gcd, Int.gcd_neg]; exact h.one⟩
theorem Nf.turn {k a b c : Int} (hk : Qt k) (h : Nf a b c) : Nf (tX k a b) (tY k a b) c := by
  rcases hk.or with rfl | rfl | rfl | rfl
  · exact h
  · exact ⟨h.pos, by show Int.gcd ((Int.gcd (-b) a : Nat) : Int) c = 1; rw [Int.neg_gcd, Int.gcd_comm b a]; exact h.one⟩
  · exact h.neg
  · exact ⟨h.pos, by show Int.gcd ((Int.gcd b (-a) : Nat) : Int) c = 1; rw [Int.gcd_neg, Int.gcd_comm b a]; exact h.one⟩
def mo (k a b c : Int) : D := .tuple [.int k, pt a b c]
theorem mo_eqv (k a b c l d e f : Int) : PyData.eqv (mo k a b c) (mo l d e f) = (decide (k = l) && (decide (a = d) && (decide (b = e) && decide (c = f)))) := by
  show ((k == l) && ((PyData.eqv (pt a b c) (pt d e f)) && true)) = _
  rw [Bool.and_true, pt_eqv]
  rfl
theorem vEq_mo (k a b c l d e f : Int) : vEq (mo k a b c) (mo l d e f) = some (.bool (decide (k = l) && (decide (a = d) && (decide (b = e) && decide (c = f))))) := by
  show vEqG (mo k a b c) (mo l d e f) = _
  unfold vEqG
  rw [show SeqAt.shaped (mo k a b c) = true from rfl, show SeqAt.shaped (mo l d e f) = true from rfl, mo_eqv]
  rfl
theorem eq_cancel {s l r : Int} (h : s ≠ 0) (e : l * s = r * s) : l = r := Int.eq_of_mul_eq_mul_right h e
end Dn

namespace Law
open PySem Dn
/-! ### the defs as plain functions of data -/
def c_GROUPS : D := (.tuple [(.str "level"), (.str "grid"), (.str "grid2"), (.str "grid4"), (.str "free"), (.str "free2"), (.str "free4")])
def c_GRIDS : D := (.tuple [(.str "grid"), (.str "grid2"), (.str "grid4")])
def c_TURNS : Tb := [("level", some (.tuple [(.int 0)])), ("grid", some (.tuple [(.int 0)])), ("grid2", some (.tuple [(.int 0), (.int 2)])), ("free", some (.tuple [(.int 0)])), ("free2", some (.tuple [(.int 0), (.int 2)])), ("grid4", none), ("free4", none)]
def c_ABOVE : Tb := [("level", some (.tuple [(.str "level"), (.str "free"), (.str "free2"), (.str "free4")])), ("grid", some (.tuple [(.str "grid"), (.str "grid2"), (.str "grid4"), (.str "free"), (.str "free2"), (.str "free4")])), ("grid2", some (.tuple [(.str "grid2"), (.str "grid4"), (.str "free2"), (.str "free4")])), ("grid4", some (.tuple [(.str "grid4"), (.str "free4")])), ("free", some (.tuple [(.str "free"), (.str "free2"), (.str "free4")])), ("free2", some (.tuple [(.str "free2"), (.str "free4")])), ("free4", some (.tuple [(.str "free4")]))]
def g_law_parts : GS := (sSeq (sOwn 2 aNil)
    (sSeq (sSet 3 (g2 vSub (gVar 0) (g2 vPow (gC (.int 10)) (gC (.int 18)))))
    (sSeq (sFor (gRange1 (gArgs (l1 vLen) (aCons (gVar 1) aNil))) (tName 4) (sIf (gTest (g2 vGe (gVar 3) (gC (.int 0)))) (sSeq (sApp 2 (g2 vMod (gArgs (l1 vToI) (aCons (gVar 3) aNil)) (g2 vIx (gVar 1) (gVar 4))))
    (sSet 3 (g2 vFdiv (gVar 3) (g2 vIx (gVar 1) (gVar 4))))) (sSeq (sSet 5 (g2 vMod (gArgs (l1 vToI) (aCons (g2 vAdd (g2 vAdd (g2 vMul (gVar 0) (gC (.int 48271))) (g2 vMul (gVar 4) (gC (.int 69621)))) (gC (.int 11))) aNil)) (gC (.int 2147483647))))
    (sSeq (sSet 5 (g2 vMod (gArgs (l1 vToI) (aCons (g2 vAdd (g2 vAdd (g2 vMul (gVar 5) (gVar 5)) (g2 vMul (gC (.int 16807)) (gVar 4))) (gC (.int 5))) aNil)) (gC (.int 998244353))))
    (sApp 2 (g2 vMod (gArgs (l1 vToI) (aCons (gVar 5) aNil)) (g2 vIx (gVar 1) (gVar 4))))))))
    (sRet (gVarB 2)))))
def F_law_parts : List D → Option D := runF 6 2 g_law_parts
def g_law_divisor : GS := (sSeq (sSet 0 (gArgs (l1 vAbs) (aCons (gVar 0) aNil)))
    (sSeq (sSet 1 (gArgs (l1 vAbs) (aCons (gVar 1) aNil)))
    (sSeq (sFor (gRange1 (gC (.int 40000))) (tName 2) (sSeq (sIf (gTest (g2 vEq (gVar 1) (gC (.int 0)))) (sRet (gVar 0)) sNx)
    (sPar 0 1 (gVar 1) (g2 vMod (gArgs (l1 vToI) (aCons (gVar 0) aNil)) (gVar 1)))))
    (sRet (gVar 0)))))
def F_law_divisor : List D → Option D := runF 3 2 g_law_divisor
def g_law_point : GS := (sSeq (sSet 3 (gArgs F_law_divisor (aCons (gArgs F_law_divisor (aCons (gVar 0) (aCons (gVar 1) aNil))) (aCons (gVar 2) aNil))))
    (sRet (gArgs vTup (aCons (g2 vFdiv (gVar 0) (gVar 3)) (aCons (g2 vFdiv (gVar 1) (gVar 3)) (aCons (g2 vFdiv (gVar 2) (gVar 3)) aNil))))))
def F_law_point : List D → Option D := runF 4 3 g_law_point
def g_in_group : GS := (sSeq (sAsg (gVar 0) (tTuple [(tName 2), (tName 3)]))
    (sSeq (sIf (gTest (g2 vNotIn (gVar 2) (gCGet c_TURNS (gVar 1) (gArgs vTup (aCons (gC (.int 0)) (aCons (gC (.int 1)) (aCons (gC (.int 2)) (aCons (gC (.int 3)) aNil)))))))) (sRet (gC (.bool false))) sNx)
    (sSeq (sIf (gTest (g2 vEq (gVar 1) (gC (.str "level")))) (sRet (g2 vEq (g2 vIx (gVar 3) (gC (.int 1))) (gC (.int 0)))) sNx)
    (sRet (gOrV (g2 vNotIn (gVar 1) (gC c_GRIDS)) (g2 vEq (g2 vIx (gVar 3) (gC (.int 2))) (gC (.int 1))))))))
def F_in_group : List D → Option D := runF 4 2 g_in_group
def g_lies_in : GS := (sRet (g2 vIn (gVar 1) (gCIx c_ABOVE (gVar 0))))
def F_lies_in : List D → Option D := runF 2 2 g_lies_in
def g_law_is_of : GS := (sSeq (sAsg (gVar 0) (tTuple [(tName 2), (tName 3)]))
    (sSeq (sIf (gOr (gAnd (gTest (g2 vIn (gVar 1) (gArgs vLst (aCons (gC (.str "level")) (aCons (gC (.str "grid")) (aCons (gC (.str "free")) aNil)))))) (gTest (g2 vNe (gVar 2) (gC (.int 0))))) (gAnd (gTest (g2 vIn (gVar 1) (gArgs vLst (aCons (gC (.str "grid2")) (aCons (gC (.str "free2")) aNil))))) (gTest (g2 vNotIn (gVar 2) (gArgs vLst (aCons (gC (.int 0)) (aCons (gC (.int 2)) aNil))))))) (sRet (gC (.bool false))) sNx)
    (sSeq (sIf (gAnd (gTest (g2 vEq (gVar 1) (gC (.str "level")))) (gTest (g2 vNe (g2 vIx (gVar 3) (gC (.int 1))) (gC (.int 0))))) (sRet (gC (.bool false))) sNx)
    (sRet (gOrV (g2 vNotIn (gVar 1) (gArgs vLst (aCons (gC (.str "grid")) (aCons (gC (.str "grid2")) (aCons (gC (.str "grid4")) aNil))))) (g2 vEq (g2 vIx (gVar 3) (gC (.int 2))) (gC (.int 1))))))))
def F_law_is_of : List D → Option D := runF 4 2 g_law_is_of
def g_law_above : GS := (sSeq (sDNew 1 (kCons "level" (gArgs vLst (aCons (gC (.str "level")) (aCons (gC (.str "free")) (aCons (gC (.str "free2")) (aCons (gC (.str "free4")) aNil))))) (kCons "grid4" (gArgs vLst (aCons (gC (.str "grid4")) (aCons (gC (.str "free4")) aNil))) (kCons "free4" (gArgs vLst (aCons (gC (.str "free4")) aNil)) kNil))))
    (sSeq (sDSet 1 (gC (.str "grid")) (gArgs vLst (aCons (gC (.str "grid")) (aCons (gC (.str "grid2")) (aCons (gC (.str "grid4")) (aCons (gC (.str "free")) (aCons (gC (.str "free2")) (aCons (gC (.str "free4")) aNil))))))))
    (sSeq (sDSet 1 (gC (.str "grid2")) (gArgs vLst (aCons (gC (.str "grid2")) (aCons (gC (.str "grid4")) (aCons (gC (.str "free2")) (aCons (gC (.str "free4")) aNil))))))
    (sSeq (sDSet 1 (gC (.str "free")) (gArgs vLst (aCons (gC (.str "free")) (aCons (gC (.str "free2")) (aCons (gC (.str "free4")) aNil)))))
    (sSeq (sDSet 1 (gC (.str "free2")) (gArgs vLst (aCons (gC (.str "free2")) (aCons (gC (.str "free4")) aNil))))
    (sRet (gDIx 1 (gVar 0))))))))
def F_law_above : List D → Option D := runF 2 1 g_law_above
def g_law : GS := (sSeq (sSet 1 (gArgs vLst (aCons (gC (.str "level")) (aCons (gC (.str "grid")) (aCons (gC (.str "grid2")) (aCons (gC (.str "grid4")) (aCons (gC (.str "free")) (aCons (gC (.str "free2")) (aCons (gC (.str "free4")) aNil)))))))))
    (sSeq (sIf (gTest (g2 vNe (gC c_GROUPS) (gArgs (l1 vTuple) (aCons (gVar 1) aNil)))) (sRet (gC (.bool false))) sNx)
    (sSeq (sFor (gLst (gSlice (g2 vAdd (gArgs vLst (aCons (gC (.int 0)) (aCons (gC (.int 1)) (aCons (gC (.int 2)) aNil)))) (gVar 0)) oNone (oSome (gC (.int 20))))) (tName 2) (sSeq (sSet 4 (gArgs F_law_parts (aCons (gVar 2) (aCons (gArgs vLst (aCons (gC (.int 4)) (aCons (gC (.int 15)) (aCons (gC (.int 15)) (aCons (gC (.int 4)) (aCons (gC (.int 2)) aNil)))))) aNil))))
    (sSeq (sSet 5 (g2 vMul (g2 vSub (g2 vIx (gVar 4) (gC (.int 2))) (gC (.int 7))) (g2 vIx (gVar 4) (gC (.int 4)))))
    (sSeq (sSet 6 (gArgs vTup (aCons (g2 vIx (gVar 4) (gC (.int 0))) (aCons (gArgs F_law_point (aCons (g2 vSub (g2 vIx (gVar 4) (gC (.int 1))) (gC (.int 7))) (aCons (gVar 5) (aCons (g2 vAdd (gC (.int 1)) (g2 vFdiv (g2 vIx (gVar 4) (gC (.int 3))) (gC (.int 2)))) aNil)))) aNil))))
    (sFor (gLst (gVar 1)) (tName 3) (sSeq (sSet 8 (gArgs F_in_group (aCons (gVar 6) (aCons (gVar 3) aNil))))
    (sIf (gOr (gNot (gTest (gArgs (vIsi "bool") (aCons (gVar 8) aNil)))) (gTest (g2 vNe (gVar 8) (gArgs F_law_is_of (aCons (gVar 6) (aCons (gVar 3) aNil)))))) (sRet (gC (.bool false))) sNx)))))))
    (sSeq (sFor (gLst (gVar 1)) (tName 3) (sFor (gLst (gVar 1)) (tName 7) (sSeq (sSet 8 (gArgs F_lies_in (aCons (gVar 3) (aCons (gVar 7) aNil))))
    (sIf (gOr (gNot (gTest (gArgs (vIsi "bool") (aCons (gVar 8) aNil)))) (gTest (g2 vNe (gVar 8) (g2 vIn (gVar 7) (gArgs F_law_above (aCons (gVar 3) aNil)))))) (sRet (gC (.bool false))) sNx))))
    (sRet (gC (.bool true)))))))
def F_law : List D → Option D := runF 9 1 g_law
local macro_rules | `(tactic| walk_at "dn") => `(tactic| try simp -implicitDefEqProofs only [runF, gComp, startE, sSeq, sIf, sSet, sOwn, sApp, sRet, sNx, sPar, sAsg, sAug, sFor, sFrz, oNone, oSome, sPop, sRevIn, sDrop, sBk, sCt, sRetN, gYes, gListOf, gSlice, frz, tName, tTuple, gVar, gVarB, gC, g1, g2, aCons, aNil, gArgs, gTest, gTruth, gAnd, gOr, gNot, gAndV, gOrV, gNotV, gIfE, gRange1, gRange2, gLst, gTpl, vIsN, vNotN, vAdd_int, vIAdd_int, vSub_int, vSub_bool, vNeg_int, vLt_int, vLe_int, vGt_int, vGe_int, vEq_int, vNe_int, vEq_str, vNe_str, vIx_list, vIx_tup, vLen_list, vLen_tup, vAbs_int, vToI_int, vToI_bool, vTruth_int, vTruth_bool, vTruth_none, vTruth_list, vTruth_tup, asBool_bool, vTup_l, vLst_l, vTuple_list, vTuple_tup, vList_list, vList_tup, vRev_list, l1_1, l2_2, look_val, lookB_val, lookB_own, thenS_nx, thenS_ret, thenS_bk, thenS_ct, turnS_nx, turnS_ct, turnS_bk, turnS_ret, endF_ret, endF_nx, asTpl_tup, asLst_list, appS_own, popS_own, revS_own, frzS_own, frzS_val, asPart_int, isNone_none, isNone_tup, isNone_list, isNone_int, forG_nil, forG_cons, compG_nil, compG_cons, noOwB_nil, noOwB_cons, isOwn_val, isOwn_un, wipeE_nil, wipeE_cons, tTup2_nil, tTup2_cons, atD_0, atD_1, atD_2, atD_3, atD_4, atD_5, atD_6, atD_7, atD_8, atD_9, atD_10, atD_11, Option.bind_some, Option.bind_none, List.length_cons, List.length_nil, List.map_cons, List.map_nil, List.replicate, List.getElem?_cons_zero, List.getElem?_cons_succ, List.set_cons_zero, List.set_cons_succ, List.cons_append, List.nil_append, Nat.add_sub_cancel, Nat.sub_self, Nat.reduceAdd, Nat.reduceSub, if_true, if_false, reduceIte, Bool.not_true, Bool.not_false, Bool.false_eq_true, Bool.true_and, Bool.and_true, Bool.false_and, Bool.and_false, Bool.true_or, Bool.or_true, Bool.false_or, Bool.or_false, Int.toNat_natCast, Int.reduceLT, Int.reduceToNat, decide_true, decide_false])
local macro_rules | `(tactic| walk_at "bd") => `(tactic| (repeat' (first | exact S.mono (by assumption) (by decide) | exact S.lit (by decide) | apply S.mul | apply S.add | apply S.sub | apply S.neg | apply S.up)))
theorem law_divisor_eq {k : Nat} {a b : Int} (ha : Bd k a) (hb : Bd k b) (hk : k ≤ 18000) : F_law_divisor [.int a, .int b] = some (.int ((Int.gcd a b : Nat) : Int)) := by
  have key := euclid2 (fun n x y g => ∀ (ds : List D) (s : Slot), ds.length = n → forG (tName 2) (sSeq (sIf (gTest (g2 vEq (gVar 1) (gC (.int 0)))) (sRet (gVar 0)) sNx) (sPar 0 1 (gVar 1) (g2 vMod (gArgs (l1 vToI) (aCons (gVar 0) aNil)) (gVar 1)))) ds [.val (.int (x : Int)), .val (.int (y : Int)), s] = some (.ret (.int (g : Int)))) (fun n a ds s hl => by
      cases ds with
      | nil => cases hl
      | cons d ds =>
        simp -implicitDefEqProofs only [forG_cons]
        walk_at "dn"
        rfl) (fun n a b g hb ih ds s hl => by
      cases ds with
      | nil => cases hl
      | cons d ds =>
        have h1 : ¬ ((b : Int) = 0) := by omega
        simp -implicitDefEqProofs only [forG_cons]
        walk_at "dn"
        simp only [h1, decide_false, Bool.false_eq_true, if_false]
        walk_at "dn"
        simp only [vMod, if_neg h1, Option.bind_some, fmod_nat]
        exact ih ds _ (by simpa using hl)) k 40000 a.natAbs b.natAbs ha hb (by omega)
  unfold F_law_divisor g_law_divisor
  walk_at "dn"
  rw [abs_nat a, abs_nat b, vRange1_int (by decide), Option.bind_some, key (rngD 0 (Int.toNat 40000)) .un (rngD_length _ _)]
  rfl
theorem law_parts_loop (c : Int) (ss : List Int) (hs : ∀ s ∈ ss, 0 < s ∧ Bd 250 s) (hn : ss.length ≤ 1000) : ∀ (m lo : Nat) (acc : List Int) (rest : Int) (k x : Slot), lo + m = ss.length → Fit acc (ss.take lo) →
    ∃ (ps : List Int) (rest' : Int) (k' x' : Slot), Fit ps ss ∧ forG (tName 4) (sIf (gTest (g2 vGe (gVar 3) (gC (.int 0)))) (sSeq (sApp 2 (g2 vMod (gArgs (l1 vToI) (aCons (gVar 3) aNil)) (g2 vIx (gVar 1) (gVar 4))))
    (sSet 3 (g2 vFdiv (gVar 3) (g2 vIx (gVar 1) (gVar 4))))) (sSeq (sSet 5 (g2 vMod (gArgs (l1 vToI) (aCons (g2 vAdd (g2 vAdd (g2 vMul (gVar 0) (gC (.int 48271))) (g2 vMul (gVar 4) (gC (.int 69621)))) (gC (.int 11))) aNil)) (gC (.int 2147483647))))
    (sSeq (sSet 5 (g2 vMod (gArgs (l1 vToI) (aCons (g2 vAdd (g2 vAdd (g2 vMul (gVar 5) (gVar 5)) (g2 vMul (gC (.int 16807)) (gVar 4))) (gC (.int 5))) aNil)) (gC (.int 998244353))))
    (sApp 2 (g2 vMod (gArgs (l1 vToI) (aCons (gVar 5) aNil)) (g2 vIx (gVar 1) (gVar 4))))))) (rngD (lo : Int) m) [.val (.int c), .val (.list (dI ss)), .own (dI acc), .val (.int rest), k, x]
      = some (.nx [.val (.int c), .val (.list (dI ss)), .own (dI ps), .val (.int rest'), k', x']) := by
  intro m
  induction m with
  | zero =>
    intro lo acc rest k x hl hf
    refine ⟨acc, rest, k, x, ?_, rfl⟩
    rw [List.take_of_length_le (by omega)] at hf
    exact hf
  | succ m ih =>
    intro lo acc rest k x hl hf
    have hlt : lo < ss.length := by omega
    have hget : ss[lo]? = some ss[lo] := List.getElem?_eq_getElem hlt
    obtain ⟨hp, hb⟩ := hs ss[lo] (List.getElem_mem hlt)
    have hix : atD (dI ss) (lo : Int) = some (.int ss[lo]) := by rw [atD_nat, dI_get, hget]; rfl
    have htk : ss.take (lo + 1) = ss.take lo ++ [ss[lo]] := by rw [List.take_add_one, hget]; rfl
    have hal : acc.length = lo := by rw [hf.length, List.length_take]; omega
    have hlim : (dI acc).length < lim := by rw [dI_length, hal]; unfold lim; omega
    rw [rngD_succ]
    by_cases h : (0 : Int) ≤ rest
    · obtain ⟨ps, r', k', x', h1, h2⟩ := ih (lo + 1) (acc ++ [rest % ss[lo]]) (rest / ss[lo]) (.val (.int (lo : Int))) x (by omega) (by
        rw [htk]
        exact hf.snoc (Int.emod_nonneg _ (by omega)) (Int.emod_lt_of_pos _ hp))
      refine ⟨ps, r', k', x', h1, ?_⟩
      simp -implicitDefEqProofs only [forG_cons]
      walk_at "dn"
      simp only [h, decide_true, if_true, hix, Option.bind_some, vMod_pos hp, hlim]
      walk_at "dn"
      simp only [hix, Option.bind_some, vFdiv_pos hp hb (by decide) (by decide), Option.bind_some]
      walk_at "dn"
      rw [← dI_app, dI_cons, dI_nil, show (((lo + 1 : Nat)) : Int) = (lo : Int) + 1 from rfl] at h2
      exact h2
    · generalize hm1 : (c * 48271 + (lo : Int) * 69621 + 11) % 2147483647 = m1
      have m1a : 0 ≤ m1 := by rw [← hm1]; exact Int.emod_nonneg _ (by decide)
      have m1b : m1 < 2147483647 := by rw [← hm1]; exact Int.emod_lt_of_pos _ (by decide)
      have b1 : Bd 64 m1 := bd_range 0 2147483647 m1a (by omega) (by decide) (by decide)
      generalize hm2 : (m1 * m1 + 16807 * (lo : Int) + 5) % 998244353 = m2
      obtain ⟨ps, r', k', x', h1, h2⟩ := ih (lo + 1) (acc ++ [m2 % ss[lo]]) rest (.val (.int (lo : Int))) (.val (.int m2)) (by omega) (by
        rw [htk]
        exact hf.snoc (Int.emod_nonneg _ (by omega)) (Int.emod_lt_of_pos _ hp))
      refine ⟨ps, r', k', x', h1, ?_⟩
      simp -implicitDefEqProofs only [forG_cons]
      walk_at "dn"
      simp only [h, decide_false, if_false, Bool.false_eq_true, Option.bind_some, vMul_ok (mulOk_right (x := c) (y := 48271) (bd_lit (by decide))), vMul_ok (mulOk_right (x := (lo : Int)) (y := 69621) (bd_lit (by decide)))]
      walk_at "dn"
      simp only [vMod_pos (show (0 : Int) < 2147483647 by decide), Option.bind_some, hm1]
      walk_at "dn"
      simp only [vMul_ok (mulOk_left (y := m1) b1), vMul_ok (mulOk_left (x := 16807) (y := (lo : Int)) (bd_lit (by decide))), Option.bind_some]
      walk_at "dn"
      simp only [vMod_pos (show (0 : Int) < 998244353 by decide), Option.bind_some, hm2]
      walk_at "dn"
      simp only [hix, Option.bind_some, vMod_pos hp, hlim, if_true]
      walk_at "dn"
      rw [← dI_app, dI_cons, dI_nil, show (((lo + 1 : Nat)) : Int) = (lo : Int) + 1 from rfl] at h2
      exact h2
theorem law_parts_eq (c : Int) (ss : List Int) (hs : ∀ s ∈ ss, 0 < s ∧ Bd 250 s) (hn : ss.length ≤ 1000) : ∃ ps : List Int, Fit ps ss ∧ F_law_parts [.int c, .list (dI ss)] = some (.list (dI ps)) := by
  obtain ⟨ps, r', k', x', h1, h2⟩ := law_parts_loop c ss hs hn ss.length 0 [] (c - 1000000000000000000) .un .un (by omega) .nil
  refine ⟨ps, h1, ?_⟩
  unfold F_law_parts g_law_parts
  walk_at "dn"
  rw [vPow_10_18]
  walk_at "dn"
  rw [dI_length, vRange1_int (by omega), Option.bind_some, Int.toNat_natCast]
  have h2 := h2
  rw [Int.natCast_zero] at h2
  rw [dI_nil] at h2
  rw [h2]
  walk_at "dn"
theorem law_point_eq {k : Nat} {x y w : Int} (hx : Bd k x) (hy : Bd k y) (hw : Bd k w) (h0 : 0 < w) (k0 : 0 < k) (hk : k ≤ 9000) : F_law_point [.int x, .int y, .int w] = some (P x y w) := by
  have z0 : w ≠ 0 := by omega
  have e1 : F_law_divisor [.int x, .int y] = some (.int ((Int.gcd x y : Nat) : Int)) := law_divisor_eq hx hy (by omega)
  have bg : Bd k ((Int.gcd x y : Nat) : Int) := by
    by_cases z : x = 0
    · subst z
      rw [Int.gcd_zero_left]
      unfold Bd at *
      omega
    · exact hx.gcd_left z
  have e2 : F_law_divisor [.int ((Int.gcd x y : Nat) : Int), .int w] = some (.int (gg x y w)) := law_divisor_eq bg hw (by omega)
  have gp : 0 < gg x y w := gg_pos z0
  have gb : Bd k (gg x y w) := hw.gcd_right z0
  unfold F_law_point g_law_point
  have h : ¬ w < 0 := by omega
  have fd : ∀ z : Int, vFdiv (.int z) (.int (gg x y w)) = some (.int (z / gg x y w)) := fun z => vFdiv_pos gp gb k0 hk
  simp -implicitDefEqProofs only [e1, e2, fd, runF, gComp, startE, sSeq, sIf, sSet, sOwn, sApp, sRet, sNx, sPar, sAsg, sAug, sFor, sFrz, oNone, oSome, sPop, sRevIn, sDrop, sBk, sCt, sRetN, gYes, gListOf, gSlice, frz, tName, tTuple, gVar, gVarB, gC, g1, g2, aCons, aNil, gArgs, gTest, gTruth, gAnd, gOr, gNot, gAndV, gOrV, gNotV, gIfE, gRange1, gRange2, gLst, gTpl, vIsN, vNotN, vAdd_int, vIAdd_int, vSub_int, vSub_bool, vNeg_int, vLt_int, vLe_int, vGt_int, vGe_int, vEq_int, vNe_int, vEq_str, vNe_str, vIx_list, vIx_tup, vLen_list, vLen_tup, vAbs_int, vToI_int, vToI_bool, vTruth_int, vTruth_bool, vTruth_none, vTruth_list, vTruth_tup, asBool_bool, vTup_l, vLst_l, vTuple_list, vTuple_tup, vList_list, vList_tup, vRev_list, l1_1, l2_2, look_val, lookB_val, lookB_own, thenS_nx, thenS_ret, thenS_bk, thenS_ct, turnS_nx, turnS_ct, turnS_bk, turnS_ret, endF_ret, endF_nx, asTpl_tup, asLst_list, appS_own, popS_own, revS_own, frzS_own, frzS_val, asPart_int, isNone_none, isNone_tup, isNone_list, isNone_int, forG_nil, forG_cons, compG_nil, compG_cons, noOwB_nil, noOwB_cons, isOwn_val, isOwn_un, wipeE_nil, wipeE_cons, tTup2_nil, tTup2_cons, atD_0, atD_1, atD_2, atD_3, atD_4, atD_5, atD_6, atD_7, atD_8, atD_9, atD_10, atD_11, Option.bind_some, Option.bind_none, List.length_cons, List.length_nil, List.map_cons, List.map_nil, List.replicate, List.getElem?_cons_zero, List.getElem?_cons_succ, List.set_cons_zero, List.set_cons_succ, List.cons_append, List.nil_append, Nat.add_sub_cancel, Nat.sub_self, Nat.reduceAdd, Nat.reduceSub, if_true, if_false, reduceIte, Bool.not_true, Bool.not_false, Bool.false_eq_true, Bool.true_and, Bool.and_true, Bool.false_and, Bool.and_false, Bool.true_or, Bool.or_true, Bool.false_or, Bool.or_false, Int.toNat_natCast, Int.reduceLT, Int.reduceToNat, decide_true, decide_false]
  unfold P pt p1 p2 p3 ptX
  simp only [h, if_false]
theorem law_point_S {x y w : Int} (hx : S 7 x) (hy : S 7 y) (hw : S 7 w) (h0 : 0 < w) : F_law_point [.int x, .int y, .int w] = some (P x y w) := law_point_eq (k := 64 * 2 ^ 7) hx.b hy.b hw.b h0 (by decide) (by decide)
def gnames : List Str := ["level", "grid", "grid2", "grid4", "free", "free2", "free4"]
theorem g_or {g : Str} (h : g ∈ gnames) : g = "level" ∨ g = "grid" ∨ g = "grid2" ∨ g = "grid4" ∨ g = "free" ∨ g = "free2" ∨ g = "free4" := by
  simpa only [gnames, List.mem_cons, List.not_mem_nil, or_false] using h
def abv (g : Str) : List Str := if g = "level" then ["level", "free", "free2", "free4"] else if g = "grid" then ["grid", "grid2", "grid4", "free", "free2", "free4"] else if g = "grid2" then ["grid2", "grid4", "free2", "free4"] else if g = "grid4" then ["grid4", "free4"] else if g = "free" then ["free", "free2", "free4"] else if g = "free2" then ["free2", "free4"] else ["free4"]
theorem law_above_eq {g : Str} (hg : g ∈ gnames) : F_law_above [.str g] = some (.list ((abv g).map .str)) := by
  rcases g_or hg with rfl | rfl | rfl | rfl | rfl | rfl | rfl <;> rfl
theorem in_abv {g h : Str} (hg : g ∈ gnames) (hh : h ∈ gnames) : vIn (.str h) (.list ((abv g).map .str)) = some (.bool (decide (h ∈ abv g))) := by
  rcases g_or hg with rfl | rfl | rfl | rfl | rfl | rfl | rfl <;> rcases g_or hh with rfl | rfl | rfl | rfl | rfl | rfl | rfl <;> kernel_rfl
theorem lies_in_eq {g h : Str} (hg : g ∈ gnames) (hh : h ∈ gnames) : F_lies_in [.str g, .str h] = some (.bool (decide (h ∈ abv g))) := by
  rcases g_or hg with rfl | rfl | rfl | rfl | rfl | rfl | rfl <;> rcases g_or hh with rfl | rfl | rfl | rfl | rfl | rfl | rfl <;> kernel_rfl
theorem iog {k : Int} (hk : Qt k) (x y w : Int) {g : Str} (hg : g ∈ gnames) : ∃ t : Bool, F_in_group [mo k x y w, .str g] = some (.bool t) ∧ F_law_is_of [mo k x y w, .str g] = some (.bool t) := by
  unfold mo pt
  rcases hk.or with rfl | rfl | rfl | rfl <;> rcases g_or hg with rfl | rfl | rfl | rfl | rfl | rfl | rfl
  · match y with
    | .ofNat 0 => exact ⟨true, by kernel_rfl, by kernel_rfl⟩
    | .ofNat (n + 1) => exact ⟨false, by kernel_rfl, by kernel_rfl⟩
    | .negSucc n => exact ⟨false, by kernel_rfl, by kernel_rfl⟩
  · exact ⟨decide (w = 1), by kernel_rfl, by kernel_rfl⟩
  · exact ⟨decide (w = 1), by kernel_rfl, by kernel_rfl⟩
  · exact ⟨decide (w = 1), by kernel_rfl, by kernel_rfl⟩
  · exact ⟨true, by kernel_rfl, by kernel_rfl⟩
  · exact ⟨true, by kernel_rfl, by kernel_rfl⟩
  · exact ⟨true, by kernel_rfl, by kernel_rfl⟩
  · exact ⟨false, by kernel_rfl, by kernel_rfl⟩
  · exact ⟨false, by kernel_rfl, by kernel_rfl⟩
  · exact ⟨false, by kernel_rfl, by kernel_rfl⟩
  · exact ⟨decide (w = 1), by kernel_rfl, by kernel_rfl⟩
  · exact ⟨false, by kernel_rfl, by kernel_rfl⟩
  · exact ⟨false, by kernel_rfl, by kernel_rfl⟩
  · exact ⟨true, by kernel_rfl, by kernel_rfl⟩
  · exact ⟨false, by kernel_rfl, by kernel_rfl⟩
  · exact ⟨false, by kernel_rfl, by kernel_rfl⟩
  · exact ⟨decide (w = 1), by kernel_rfl, by kernel_rfl⟩
  · exact ⟨decide (w = 1), by kernel_rfl, by kernel_rfl⟩
  · exact ⟨false, by kernel_rfl, by kernel_rfl⟩
  · exact ⟨true, by kernel_rfl, by kernel_rfl⟩
  · exact ⟨true, by kernel_rfl, by kernel_rfl⟩
  · exact ⟨false, by kernel_rfl, by kernel_rfl⟩
  · exact ⟨false, by kernel_rfl, by kernel_rfl⟩
  · exact ⟨false, by kernel_rfl, by kernel_rfl⟩
  · exact ⟨decide (w = 1), by kernel_rfl, by kernel_rfl⟩
  · exact ⟨false, by kernel_rfl, by kernel_rfl⟩
  · exact ⟨false, by kernel_rfl, by kernel_rfl⟩
  · exact ⟨true, by kernel_rfl, by kernel_rfl⟩
def body14 : GS := (sSeq (sSet 4 (gArgs F_law_parts (aCons (gVar 2) (aCons (gArgs vLst (aCons (gC (.int 4)) (aCons (gC (.int 15)) (aCons (gC (.int 15)) (aCons (gC (.int 4)) (aCons (gC (.int 2)) aNil)))))) aNil))))
    (sSeq (sSet 5 (g2 vMul (g2 vSub (g2 vIx (gVar 4) (gC (.int 2))) (gC (.int 7))) (g2 vIx (gVar 4) (gC (.int 4)))))
    (sSeq (sSet 6 (gArgs vTup (aCons (g2 vIx (gVar 4) (gC (.int 0))) (aCons (gArgs F_law_point (aCons (g2 vSub (g2 vIx (gVar 4) (gC (.int 1))) (gC (.int 7))) (aCons (gVar 5) (aCons (g2 vAdd (gC (.int 1)) (g2 vFdiv (g2 vIx (gVar 4) (gC (.int 3))) (gC (.int 2)))) aNil)))) aNil))))
    (sFor (gLst (gVar 1)) (tName 3) (sSeq (sSet 8 (gArgs F_in_group (aCons (gVar 6) (aCons (gVar 3) aNil))))
    (sIf (gOr (gNot (gTest (gArgs (vIsi "bool") (aCons (gVar 8) aNil)))) (gTest (g2 vNe (gVar 8) (gArgs F_law_is_of (aCons (gVar 6) (aCons (gVar 3) aNil)))))) (sRet (gC (.bool false))) sNx))))))
def body14b : GS := (sFor (gLst (gVar 1)) (tName 7) (sSeq (sSet 8 (gArgs F_lies_in (aCons (gVar 3) (aCons (gVar 7) aNil))))
    (sIf (gOr (gNot (gTest (gArgs (vIsi "bool") (aCons (gVar 8) aNil)))) (gTest (g2 vNe (gVar 8) (g2 vIn (gVar 7) (gArgs F_law_above (aCons (gVar 3) aNil)))))) (sRet (gC (.bool false))) sNx)))
theorem vIsi_bool (b : Bool) : vIsi "bool" [.bool b] = some (.bool true) := rfl
theorem vNe_bool (b c : Bool) : vNe (.bool b) (.bool c) = some (.bool (!(b == c))) := rfl
def dG : List D := [.str "level", .str "grid", .str "grid2", .str "grid4", .str "free", .str "free2", .str "free4"]
theorem loop14 (s : D) : ∀ (xs : List Int) (a b c d e f g : Slot), ∃ a' b' c' d' e' g' : Slot, forG (tName 2) body14 (dI xs) [.val s, .val (.list dG), a, b, c, d, e, f, g] = some (.nx [.val s, .val (.list dG), a', b', c', d', e', f, g'])
  | [], a, b, c, d, e, f, g => ⟨a, b, c, d, e, g, rfl⟩
  | x :: xs, a, b, c, d, e, f, g => by
    obtain ⟨ps, hf, h⟩ := law_parts_eq x [4, 15, 15, 4, 2] (by
      intro s hs
      simp only [List.mem_cons, List.not_mem_nil, or_false] at hs
      rcases hs with rfl | rfl | rfl | rfl | rfl <;> exact ⟨by decide, bd_lit (by decide)⟩) (by decide)
    have h : F_law_parts [.int x, .list [.int 4, .int 15, .int 15, .int 4, .int 2]] = some (.list (dI ps)) := h
    cases hf with | @cons q0 _ _ _ a0 b0 hf => cases hf with | @cons q1 _ _ _ a1 b1 hf => cases hf with | @cons q2 _ _ _ a2 b2 hf => cases hf with | @cons q3 _ _ _ a3 b3 hf => cases hf with | @cons q4 _ _ _ a4 b4 hf => cases hf with | nil =>
    simp only [dI_cons, dI_nil] at h
    have z1 : S 0 (q1 - 7) := S.of (bd_range (-50) 50 (by omega) (by omega) (by decide) (by decide))
    have z2 : S 0 (q2 - 7) := S.of (bd_range (-50) 50 (by omega) (by omega) (by decide) (by decide))
    have z4 : S 0 q4 := S.of (bd_range (-50) 50 (by omega) (by omega) (by decide) (by decide))
    have z3 : S 0 (1 + q3 / 2) := S.of (bd_range (-50) 50 (by omega) (by omega) (by decide) (by decide))
    have m := vMul_S (a := q2 - 7) (b := q4) (by walk_at "bd") (by walk_at "bd")
    have zz : S 1 ((q2 - 7) * q4) := z2.mul z4
    have hp := law_point_S (x := q1 - 7) (y := (q2 - 7) * q4) (w := 1 + q3 / 2) (by walk_at "bd") (by walk_at "bd") (by walk_at "bd") (by omega)
    have dv := vFdiv_pos (k := 64) (a := q3) (b := 2) (by decide) (bd_lit (by decide)) (by decide) (by decide)
    have hk : Qt q0 := ⟨by omega, by omega⟩
    unfold P at hp
    generalize p1 (q1 - 7) ((q2 - 7) * q4) (1 + q3 / 2) = X at *
    generalize p2 (q1 - 7) ((q2 - 7) * q4) (1 + q3 / 2) = Y at *
    generalize p3 (q1 - 7) ((q2 - 7) * q4) (1 + q3 / 2) = Z at *
    obtain ⟨t0, i0, j0⟩ := iog hk X Y Z (g := "level") (by simp [gnames])
    obtain ⟨t1, i1, j1⟩ := iog hk X Y Z (g := "grid") (by simp [gnames])
    obtain ⟨t2, i2, j2⟩ := iog hk X Y Z (g := "grid2") (by simp [gnames])
    obtain ⟨t3, i3, j3⟩ := iog hk X Y Z (g := "grid4") (by simp [gnames])
    obtain ⟨t4, i4, j4⟩ := iog hk X Y Z (g := "free") (by simp [gnames])
    obtain ⟨t5, i5, j5⟩ := iog hk X Y Z (g := "free2") (by simp [gnames])
    obtain ⟨t6, i6, j6⟩ := iog hk X Y Z (g := "free4") (by simp [gnames])
    have mm : PyData.tuple [.int q0, pt X Y Z] = mo q0 X Y Z := rfl
    obtain ⟨a', b', c', d', e', g', ih⟩ := loop14 s xs (.val (.int x)) (.val (.str "free4")) (.val (.list [.int q0, .int q1, .int q2, .int q3, .int q4])) (.val (.int ((q2 - 7) * q4))) (.val (mo q0 X Y Z)) f (.val (.bool t6))
    refine ⟨a', b', c', d', e', g', ?_⟩
    rw [← ih, dI_cons]
    show (tName 2 (.int x) _).bind _ = _
    generalize hk : forG (tName 2) body14 (dI xs) = kk
    unfold body14 dG
    simp -implicitDefEqProofs only [h, m, hp, dv, mm, i0, j0, i1, j1, i2, j2, i3, j3, i4, j4, i5, j5, i6, j6, vIsi_bool, vNe_bool, beq_self_eq_true, runF, gComp, startE, sSeq, sIf, sSet, sOwn, sApp, sRet, sNx, sPar, sAsg, sAug, sFor, sFrz, oNone, oSome, sPop, sRevIn, sDrop, sBk, sCt, sRetN, gYes, gListOf, gSlice, frz, tName, tTuple, gVar, gVarB, gC, g1, g2, aCons, aNil, gArgs, gTest, gTruth, gAnd, gOr, gNot, gAndV, gOrV, gNotV, gIfE, gRange1, gRange2, gLst, gTpl, vIsN, vNotN, vAdd_int, vIAdd_int, vSub_int, vSub_bool, vNeg_int, vLt_int, vLe_int, vGt_int, vGe_int, vEq_int, vNe_int, vEq_str, vNe_str, vIx_list, vIx_tup, vLen_list, vLen_tup, vAbs_int, vToI_int, vToI_bool, vTruth_int, vTruth_bool, vTruth_none, vTruth_list, vTruth_tup, asBool_bool, vTup_l, vLst_l, vTuple_list, vTuple_tup, vList_list, vList_tup, vRev_list, l1_1, l2_2, look_val, lookB_val, lookB_own, thenS_nx, thenS_ret, thenS_bk, thenS_ct, turnS_nx, turnS_ct, turnS_bk, turnS_ret, endF_ret, endF_nx, asTpl_tup, asLst_list, appS_own, popS_own, revS_own, frzS_own, frzS_val, asPart_int, isNone_none, isNone_tup, isNone_list, isNone_int, forG_nil, forG_cons, compG_nil, compG_cons, noOwB_nil, noOwB_cons, isOwn_val, isOwn_un, wipeE_nil, wipeE_cons, tTup2_nil, tTup2_cons, atD_0, atD_1, atD_2, atD_3, atD_4, atD_5, atD_6, atD_7, atD_8, atD_9, atD_10, atD_11, Option.bind_some, Option.bind_none, List.length_cons, List.length_nil, List.map_cons, List.map_nil, List.replicate, List.getElem?_cons_zero, List.getElem?_cons_succ, List.set_cons_zero, List.set_cons_succ, List.cons_append, List.nil_append, Nat.add_sub_cancel, Nat.sub_self, Nat.reduceAdd, Nat.reduceSub, if_true, if_false, reduceIte, Bool.not_true, Bool.not_false, Bool.false_eq_true, Bool.true_and, Bool.and_true, Bool.false_and, Bool.and_false, Bool.true_or, Bool.or_true, Bool.false_or, Bool.or_false, Int.toNat_natCast, Int.reduceLT, Int.reduceToNat, decide_true, decide_false]

def body14c : GS := (sSeq (sSet 8 (gArgs F_lies_in (aCons (gVar 3) (aCons (gVar 7) aNil))))
    (sIf (gOr (gNot (gTest (gArgs (vIsi "bool") (aCons (gVar 8) aNil)))) (gTest (g2 vNe (gVar 8) (g2 vIn (gVar 7) (gArgs F_law_above (aCons (gVar 3) aNil)))))) (sRet (gC (.bool false))) sNx))
theorem loopb {g : Str} (hg : g ∈ gnames) (s : D) (a b c d e f : Slot) : ∃ e' f' : Slot, forG (tName 7) body14c dG [.val s, .val (.list dG), a, .val (.str g), b, c, d, e, f] = some (.nx [.val s, .val (.list dG), a, .val (.str g), b, c, d, e', f']) := by
  have ha := law_above_eq hg
  have u0 := lies_in_eq hg (h := "level") (by simp [gnames])
  have i0 := in_abv hg (h := "level") (by simp [gnames])
  have u1 := lies_in_eq hg (h := "grid") (by simp [gnames])
  have i1 := in_abv hg (h := "grid") (by simp [gnames])
  have u2 := lies_in_eq hg (h := "grid2") (by simp [gnames])
  have i2 := in_abv hg (h := "grid2") (by simp [gnames])
  have u3 := lies_in_eq hg (h := "grid4") (by simp [gnames])
  have i3 := in_abv hg (h := "grid4") (by simp [gnames])
  have u4 := lies_in_eq hg (h := "free") (by simp [gnames])
  have i4 := in_abv hg (h := "free") (by simp [gnames])
  have u5 := lies_in_eq hg (h := "free2") (by simp [gnames])
  have i5 := in_abv hg (h := "free2") (by simp [gnames])
  have u6 := lies_in_eq hg (h := "free4") (by simp [gnames])
  have i6 := in_abv hg (h := "free4") (by simp [gnames])
  refine ⟨.val (.str "free4"), .val (.bool (decide (("free4" : Str) ∈ abv g))), ?_⟩
  unfold body14c dG
  simp -implicitDefEqProofs only [ha, u0, i0, u1, i1, u2, i2, u3, i3, u4, i4, u5, i5, u6, i6, vIsi_bool, vNe_bool, beq_self_eq_true, runF, gComp, startE, sSeq, sIf, sSet, sOwn, sApp, sRet, sNx, sPar, sAsg, sAug, sFor, sFrz, oNone, oSome, sPop, sRevIn, sDrop, sBk, sCt, sRetN, gYes, gListOf, gSlice, frz, tName, tTuple, gVar, gVarB, gC, g1, g2, aCons, aNil, gArgs, gTest, gTruth, gAnd, gOr, gNot, gAndV, gOrV, gNotV, gIfE, gRange1, gRange2, gLst, gTpl, vIsN, vNotN, vAdd_int, vIAdd_int, vSub_int, vSub_bool, vNeg_int, vLt_int, vLe_int, vGt_int, vGe_int, vEq_int, vNe_int, vEq_str, vNe_str, vIx_list, vIx_tup, vLen_list, vLen_tup, vAbs_int, vToI_int, vToI_bool, vTruth_int, vTruth_bool, vTruth_none, vTruth_list, vTruth_tup, asBool_bool, vTup_l, vLst_l, vTuple_list, vTuple_tup, vList_list, vList_tup, vRev_list, l1_1, l2_2, look_val, lookB_val, lookB_own, thenS_nx, thenS_ret, thenS_bk, thenS_ct, turnS_nx, turnS_ct, turnS_bk, turnS_ret, endF_ret, endF_nx, asTpl_tup, asLst_list, appS_own, popS_own, revS_own, frzS_own, frzS_val, asPart_int, isNone_none, isNone_tup, isNone_list, isNone_int, forG_nil, forG_cons, compG_nil, compG_cons, noOwB_nil, noOwB_cons, isOwn_val, isOwn_un, wipeE_nil, wipeE_cons, tTup2_nil, tTup2_cons, atD_0, atD_1, atD_2, atD_3, atD_4, atD_5, atD_6, atD_7, atD_8, atD_9, atD_10, atD_11, Option.bind_some, Option.bind_none, List.length_cons, List.length_nil, List.map_cons, List.map_nil, List.replicate, List.getElem?_cons_zero, List.getElem?_cons_succ, List.set_cons_zero, List.set_cons_succ, List.cons_append, List.nil_append, Nat.add_sub_cancel, Nat.sub_self, Nat.reduceAdd, Nat.reduceSub, if_true, if_false, reduceIte, Bool.not_true, Bool.not_false, Bool.false_eq_true, Bool.true_and, Bool.and_true, Bool.false_and, Bool.and_false, Bool.true_or, Bool.or_true, Bool.false_or, Bool.or_false, Int.toNat_natCast, Int.reduceLT, Int.reduceToNat, decide_true, decide_false]
theorem loopo (s : D) (a b c d e f g : Slot) : ∃ b' e' f' : Slot, forG (tName 3) body14b dG [.val s, .val (.list dG), a, b, c, d, e, f, g] = some (.nx [.val s, .val (.list dG), a, b', c, d, e, e', f']) := by
  have hb : body14b = sFor (gLst (gVar 1)) (tName 7) body14c := rfl
  obtain ⟨e0, f0, h0⟩ := loopb (g := "level") (by simp [gnames]) s a c d e f g
  obtain ⟨e1, f1, h1⟩ := loopb (g := "grid") (by simp [gnames]) s a c d e e0 f0
  obtain ⟨e2, f2, h2⟩ := loopb (g := "grid2") (by simp [gnames]) s a c d e e1 f1
  obtain ⟨e3, f3, h3⟩ := loopb (g := "grid4") (by simp [gnames]) s a c d e e2 f2
  obtain ⟨e4, f4, h4⟩ := loopb (g := "free") (by simp [gnames]) s a c d e e3 f3
  obtain ⟨e5, f5, h5⟩ := loopb (g := "free2") (by simp [gnames]) s a c d e e4 f4
  obtain ⟨e6, f6, h6⟩ := loopb (g := "free4") (by simp [gnames]) s a c d e e5 f5
  refine ⟨.val (.str "free4"), e6, f6, ?_⟩
  rw [hb]
  conv => lhs; arg 3; unfold dG
  generalize body14c = bb at *
  simp -implicitDefEqProofs only [h0, h1, h2, h3, h4, h5, h6, runF, gComp, startE, sSeq, sIf, sSet, sOwn, sApp, sRet, sNx, sPar, sAsg, sAug, sFor, sFrz, oNone, oSome, sPop, sRevIn, sDrop, sBk, sCt, sRetN, gYes, gListOf, gSlice, frz, tName, tTuple, gVar, gVarB, gC, g1, g2, aCons, aNil, gArgs, gTest, gTruth, gAnd, gOr, gNot, gAndV, gOrV, gNotV, gIfE, gRange1, gRange2, gLst, gTpl, vIsN, vNotN, vAdd_int, vIAdd_int, vSub_int, vSub_bool, vNeg_int, vLt_int, vLe_int, vGt_int, vGe_int, vEq_int, vNe_int, vEq_str, vNe_str, vIx_list, vIx_tup, vLen_list, vLen_tup, vAbs_int, vToI_int, vToI_bool, vTruth_int, vTruth_bool, vTruth_none, vTruth_list, vTruth_tup, asBool_bool, vTup_l, vLst_l, vTuple_list, vTuple_tup, vList_list, vList_tup, vRev_list, l1_1, l2_2, look_val, lookB_val, lookB_own, thenS_nx, thenS_ret, thenS_bk, thenS_ct, turnS_nx, turnS_ct, turnS_bk, turnS_ret, endF_ret, endF_nx, asTpl_tup, asLst_list, appS_own, popS_own, revS_own, frzS_own, frzS_val, asPart_int, isNone_none, isNone_tup, isNone_list, isNone_int, forG_nil, forG_cons, compG_nil, compG_cons, noOwB_nil, noOwB_cons, isOwn_val, isOwn_un, wipeE_nil, wipeE_cons, tTup2_nil, tTup2_cons, atD_0, atD_1, atD_2, atD_3, atD_4, atD_5, atD_6, atD_7, atD_8, atD_9, atD_10, atD_11, Option.bind_some, Option.bind_none, List.length_cons, List.length_nil, List.map_cons, List.map_nil, List.replicate, List.getElem?_cons_zero, List.getElem?_cons_succ, List.set_cons_zero, List.set_cons_succ, List.cons_append, List.nil_append, Nat.add_sub_cancel, Nat.sub_self, Nat.reduceAdd, Nat.reduceSub, if_true, if_false, reduceIte, Bool.not_true, Bool.not_false, Bool.false_eq_true, Bool.true_and, Bool.and_true, Bool.false_and, Bool.and_false, Bool.true_or, Bool.or_true, Bool.false_or, Bool.or_false, Int.toNat_natCast, Int.reduceLT, Int.reduceToNat, decide_true, decide_false]
theorem cut20 (xs : List Int) : ∃ ys : List Int, cutD (dI xs) none (some 20) = dI ys := by
  unfold cutD dI
  rw [← List.map_drop, ← List.map_take]
  exact ⟨_, rfl⟩
theorem names_ne : vNe c_GROUPS (.tuple dG) = some (.bool false) := by kernel_rfl
theorem law_true (ns : List Int) (hn : ns.length ≤ 63) : F_law [.list (ns.map PyData.int)] = some (.bool true) := by
  obtain ⟨ys, hy⟩ := cut20 (0 :: 1 :: 2 :: ns)
  obtain ⟨a1, b1, c1, d1, e1, g1', h1⟩ := loop14 (.list (ns.map PyData.int)) ys .un .un .un .un .un .un .un
  obtain ⟨b2, e2, f2, h2⟩ := loopo (.list (ns.map PyData.int)) a1 b1 c1 d1 e1 .un g1'
  have ad : vAdd (.list [.int 0, .int 1, .int 2]) (.list (ns.map PyData.int)) = some (.list (dI (0 :: 1 :: 2 :: ns))) := by
    show (if [PyData.int 0, .int 1, .int 2].length + (ns.map PyData.int).length ≤ lim then some (PyData.list ([.int 0, .int 1, .int 2] ++ ns.map PyData.int)) else none) = _
    rw [if_pos (by rw [List.length_map]; unfold lim; simp only [List.length_cons, List.length_nil]; omega)]
    rfl
  have vs : vSlice (.list (dI (0 :: 1 :: 2 :: ns))) none (some 20) = some (.list (dI ys)) := by
    rw [← hy]; rfl
  have tg : vTuple (.list dG) = some (.tuple dG) := rfl
  have nn := names_ne
  unfold body14 at h1
  unfold body14b at h2
  have gl : [PyData.str "level", .str "grid", .str "grid2", .str "grid4", .str "free", .str "free2", .str "free4"] = dG := rfl
  generalize dG = dg at *
  unfold F_law g_law
  simp -implicitDefEqProofs only [gl, nn, tg, ad, vs, h1, h2, runF, gComp, startE, sSeq, sIf, sSet, sOwn, sApp, sRet, sNx, sPar, sAsg, sAug, sFor, sFrz, oNone, oSome, sPop, sRevIn, sDrop, sBk, sCt, sRetN, gYes, gListOf, gSlice, frz, tName, tTuple, gVar, gVarB, gC, g1, g2, aCons, aNil, gArgs, gTest, gTruth, gAnd, gOr, gNot, gAndV, gOrV, gNotV, gIfE, gRange1, gRange2, gLst, gTpl, vIsN, vNotN, vAdd_int, vIAdd_int, vSub_int, vSub_bool, vNeg_int, vLt_int, vLe_int, vGt_int, vGe_int, vEq_int, vNe_int, vEq_str, vNe_str, vIx_list, vIx_tup, vLen_list, vLen_tup, vAbs_int, vToI_int, vToI_bool, vTruth_int, vTruth_bool, vTruth_none, vTruth_list, vTruth_tup, asBool_bool, vTup_l, vLst_l, vTuple_list, vTuple_tup, vList_list, vList_tup, vRev_list, l1_1, l2_2, look_val, lookB_val, lookB_own, thenS_nx, thenS_ret, thenS_bk, thenS_ct, turnS_nx, turnS_ct, turnS_bk, turnS_ret, endF_ret, endF_nx, asTpl_tup, asLst_list, appS_own, popS_own, revS_own, frzS_own, frzS_val, asPart_int, isNone_none, isNone_tup, isNone_list, isNone_int, forG_nil, forG_cons, compG_nil, compG_cons, noOwB_nil, noOwB_cons, isOwn_val, isOwn_un, wipeE_nil, wipeE_cons, tTup2_nil, tTup2_cons, atD_0, atD_1, atD_2, atD_3, atD_4, atD_5, atD_6, atD_7, atD_8, atD_9, atD_10, atD_11, Option.bind_some, Option.bind_none, List.length_cons, List.length_nil, List.map_cons, List.map_nil, List.replicate, List.getElem?_cons_zero, List.getElem?_cons_succ, List.set_cons_zero, List.set_cons_succ, List.cons_append, List.nil_append, Nat.add_sub_cancel, Nat.sub_self, Nat.reduceAdd, Nat.reduceSub, if_true, if_false, reduceIte, Bool.not_true, Bool.not_false, Bool.false_eq_true, Bool.true_and, Bool.and_true, Bool.false_and, Bool.and_false, Bool.true_or, Bool.or_true, Bool.false_or, Bool.or_false, Int.toNat_natCast, Int.reduceLT, Int.reduceToNat, decide_true, decide_false]
end Law
namespace Law
open PySem PySem.Spec PyProof.Rows L2 Dn
/-! ### the walk -/
def topS (i : Nat) : Stmt := PySem.Challenge.pw_cutandlaid_k14_groups.main.body.getD i (.Pass ⟨0, 0, 0, 0⟩)
structure Bn (mg : Str → Option Value) : Prop where
  abs : mg "abs" = none
  bool : mg "bool" = none
  int : mg "int" = none
  isinstance : mg "isinstance" = none
  len : mg "len" = none
  range : mg "range" = none
  tuple : mg "tuple" = none
section
variable {P : Program} {w : World} {K : PySem.W.Frag} {mg : Str → Option Value} {base : Heap}
abbrev st_law_parts : Stmt := topS 9
abbrev names_law_parts : List Str := ["_law_cell_here", "_law_sizes", "_law_parts_here", "_law_rest", "_law_k", "_law_mixed"]
theorem sc_law_parts : FnScope names_law_parts ["_law_cell_here", "_law_sizes"] (defScope st_law_parts) := ⟨rfl, rfl, rfl, by decide +kernel, rfl, by decide +kernel, by decide +kernel⟩
theorem ok_law_parts (B : Bn mg) (T : Df K mg "_law_parts" st_law_parts ["_law_cell_here", "_law_sizes"]) : Ok P w K mg base "_law_parts" 1 2 F_law_parts := by
  have nd := sc_law_parts.nd
  refine ok_by names_law_parts ["_law_cell_here", "_law_sizes"] g_law_parts T sc_law_parts (by decide) rfl rfl rfl rfl fun f cdv A out s H hr hG => ?_
  exact (psd_cons (sd_own (i := 2) nd rfl (by first | exact Or.inl rfl | exact Or.inr rfl) pad_nil)
      (psd_cons (sd_set (i := 3) nd rfl (by first | exact Or.inl rfl | exact Or.inr rfl) (pd_op op_subA od_sub (pdv 0) (pd_op op_pow od_pow pd_int pd_int)))
      (psd_cons (sd_for PassesOwn.never rfl (id_range1 (by rfl) B.range (pd_callB call_len ca_len (by rfl) B.len (by decide +kernel) (pad_cons (pdv 1) pad_nil))) (PGq.d (gq_name (i := 4) nd rfl (by first | exact Or.inl rfl | exact Or.inr rfl))) (psd_one (sd_if (pt_cmpD op_ge od_cmp (pdv 3) pd_int (nomark _)) (psd_cons (sd_app (i := 2) rfl (by first | exact Or.inl rfl | exact Or.inr (Or.inl rfl) | exact Or.inr (Or.inr rfl)) (pd_op op_modN od_mod (pd_callTy call_int1 ca_int (by rfl) B.int (by decide +kernel) (pad_cons (pdv 3) pad_nil)) (pd_ix (pdv 1) (pdv 4) (fun _ _ => rfl))))
      (psd_one (sd_set (i := 3) nd rfl (by first | exact Or.inl rfl | exact Or.inr rfl) (pd_op op_fdivB od_fdiv (pdv 3) (pd_ix (pdv 1) (pdv 4) (fun _ _ => rfl)))))) (psd_cons (sd_set (i := 5) nd rfl (by first | exact Or.inl rfl | exact Or.inr rfl) (pd_op op_modN od_mod (pd_callTy call_int1 ca_int (by rfl) B.int (by decide +kernel) (pad_cons (pd_op op_addA od_add (pd_op op_addA od_add (pd_op op_mulB od_mul (pdv 0) pd_int) (pd_op op_mulB od_mul (pdv 4) pd_int)) pd_int) pad_nil)) pd_int))
      (psd_cons (sd_set (i := 5) nd rfl (by first | exact Or.inl rfl | exact Or.inr rfl) (pd_op op_modN od_mod (pd_callTy call_int1 ca_int (by rfl) B.int (by decide +kernel) (pad_cons (pd_op op_addA od_add (pd_op op_addA od_add (pd_op op_mulB od_mul (pdv 5) (pdv 5)) (pd_op op_mulB od_mul pd_int (pdv 4))) pd_int) pad_nil)) pd_int))
      (psd_one (sd_app (i := 2) rfl (by first | exact Or.inl rfl | exact Or.inr (Or.inl rfl) | exact Or.inr (Or.inr rfl)) (pd_op op_modN od_mod (pd_callTy call_int1 ca_int (by rfl) B.int (by decide +kernel) (pad_cons (pdv 5) pad_nil)) (pd_ix (pdv 1) (pdv 4) (fun _ _ => rfl))))))))))
      (psd_one (sd_ret (pdw 2))))))
abbrev st_law_divisor : Stmt := topS 10
abbrev names_law_divisor : List Str := ["_law_a", "_law_b", "_law_k"]
theorem sc_law_divisor : FnScope names_law_divisor ["_law_a", "_law_b"] (defScope st_law_divisor) := ⟨rfl, rfl, rfl, by decide +kernel, rfl, by decide +kernel, by decide +kernel⟩
theorem ok_law_divisor (B : Bn mg) (T : Df K mg "_law_divisor" st_law_divisor ["_law_a", "_law_b"]) : Ok P w K mg base "_law_divisor" 1 2 F_law_divisor := by
  have nd := sc_law_divisor.nd
  refine ok_by names_law_divisor ["_law_a", "_law_b"] g_law_divisor T sc_law_divisor (by decide) rfl rfl rfl rfl fun f cdv A out s H hr hG => ?_
  exact (psd_cons (sd_set (i := 0) nd rfl (by first | exact Or.inl rfl | exact Or.inr rfl) (pd_callB call_abs ca_abs (by rfl) B.abs (by decide +kernel) (pad_cons (pdv 0) pad_nil)))
      (psd_cons (sd_set (i := 1) nd rfl (by first | exact Or.inl rfl | exact Or.inr rfl) (pd_callB call_abs ca_abs (by rfl) B.abs (by decide +kernel) (pad_cons (pdv 1) pad_nil)))
      (psd_cons (sd_for PassesOwn.never rfl (id_range1 (by rfl) B.range pd_int) (PGq.d (gq_name (i := 2) nd rfl (by first | exact Or.inl rfl | exact Or.inr rfl))) (psd_cons (sd_if (pt_cmpD (op_eqA (hu64 hr)) od_eq (pdv 1) pd_int (nomark _)) (psd_one (sd_ret (pdv 0))) psd_nil)
      (psd_one (sd_par (i := 0) (j := 1) rfl nd rfl rfl (by decide) rfl rfl (pdv 1) (pd_op op_modN od_mod (pd_callTy call_int1 ca_int (by rfl) B.int (by decide +kernel) (pad_cons (pdv 0) pad_nil)) (pdv 1))))))
      (psd_one (sd_ret (pdv 0))))))
abbrev st_law_point : Stmt := topS 14
abbrev names_law_point : List Str := ["_law_x", "_law_y", "_law_w", "_law_divisor_here"]
theorem sc_law_point : FnScope names_law_point ["_law_x", "_law_y", "_law_w"] (defScope st_law_point) := ⟨rfl, rfl, rfl, by decide +kernel, rfl, by decide +kernel, by decide +kernel⟩
theorem ok_law_point (B : Bn mg) (T : Df K mg "_law_point" st_law_point ["_law_x", "_law_y", "_law_w"]) (O_law_divisor : Ok P w K mg base "_law_divisor" 1 2 F_law_divisor) : Ok P w K mg base "_law_point" 2 3 F_law_point := by
  have nd := sc_law_point.nd
  refine ok_by names_law_point ["_law_x", "_law_y", "_law_w"] g_law_point T sc_law_point (by decide) rfl rfl rfl rfl fun f cdv A out s H hr hG => ?_
  exact (psd_cons (sd_set (i := 3) nd rfl (by first | exact Or.inl rfl | exact Or.inr rfl) (pd_fn O_law_divisor (hr.mono (by decide)) hG (pad_cons (pd_fn O_law_divisor (hr.mono (by decide)) hG (pad_cons (pdv 0) (pad_cons (pdv 1) pad_nil))) (pad_cons (pdv 2) pad_nil))))
      (psd_one (sd_ret (pd_tup (pad_cons (pd_op op_fdivB od_fdiv (pdv 0) (pdv 3)) (pad_cons (pd_op op_fdivB od_fdiv (pdv 1) (pdv 3)) (pad_cons (pd_op op_fdivB od_fdiv (pdv 2) (pdv 3)) pad_nil)))))))
abbrev st_in_group : Stmt := topS 5
abbrev names_in_group : List Str := ["motion", "group", "k", "v"]
theorem sc_in_group : FnScope names_in_group ["motion", "group"] (defScope st_in_group) := ⟨rfl, rfl, rfl, by decide +kernel, rfl, by decide +kernel, by decide +kernel⟩
theorem ok_in_group (B : Bn mg) (T : Df K mg "in_group" st_in_group ["motion", "group"]) (C_GRIDS : Gc K mg "GRIDS" c_GRIDS) (C_TURNS : Gt K w mg "TURNS" c_TURNS) : Ok P w K mg base "in_group" 1 2 F_in_group := by
  have nd := sc_in_group.nd
  refine ok_by names_in_group ["motion", "group"] g_in_group T sc_in_group (by decide) rfl rfl rfl rfl fun f cdv A out s H hr hG => ?_
  exact (psd_cons (sd_asg (pdv 0) (PGq.d (gq_tup rfl (gsq_cons (gq_name (i := 2) nd rfl (by first | exact Or.inl rfl | exact Or.inr rfl)) (gsq_cons (gq_name (i := 3) nd rfl (by first | exact Or.inl rfl | exact Or.inr rfl)) gsq_nil)))))
      (psd_cons (sd_if (pt_cmpD (op_notInA (hu65 hr)) od_notIn (pdv 2) (pd_cget C_TURNS (pdv 1) (pd_tup (pad_cons pd_int (pad_cons pd_int (pad_cons pd_int (pad_cons pd_int pad_nil))))) ⟨rfl, rfl, rfl, rfl⟩) (by rfl)) (psd_one (sd_ret pd_bl)) psd_nil)
      (psd_cons (sd_if (pt_cmpD (op_eqA (hu64 hr)) od_eq (pdv 1) pd_str (nomark _)) (psd_one (sd_ret (pd_cmp (op_eqA (hu64 hr)) od_eq (pd_ix (pdv 3) pd_int (fun _ _ => rfl)) pd_int (nomark _)))) psd_nil)
      (psd_one (sd_ret (pd_or (pd_cmp (op_notInA (hu65 hr)) od_notIn (pdv 1) (pd_gc C_GRIDS) (by rfl)) (pd_one (pd_cmp (op_eqA (hu64 hr)) od_eq (pd_ix (pdv 3) pd_int (fun _ _ => rfl)) pd_int (nomark _)))))))))
abbrev st_lies_in : Stmt := topS 6
abbrev names_lies_in : List Str := ["group", "other"]
theorem sc_lies_in : FnScope names_lies_in ["group", "other"] (defScope st_lies_in) := ⟨rfl, rfl, rfl, by decide +kernel, rfl, by decide +kernel, by decide +kernel⟩
theorem ok_lies_in (B : Bn mg) (T : Df K mg "lies_in" st_lies_in ["group", "other"]) (C_ABOVE : Gt K w mg "ABOVE" c_ABOVE) : Ok P w K mg base "lies_in" 1 2 F_lies_in := by
  have nd := sc_lies_in.nd
  refine ok_by names_lies_in ["group", "other"] g_lies_in T sc_lies_in (by decide) rfl rfl rfl rfl fun f cdv A out s H hr hG => ?_
  exact (psd_one (sd_ret (pd_cmp (op_inA (hu65 hr)) od_in (pdv 1) (pd_cix C_ABOVE (pdv 0) (fun _ _ => rfl)) (by rfl))))
abbrev st_law_is_of : Stmt := topS 17
abbrev names_law_is_of : List Str := ["_law_motion", "_law_group", "_law_k", "_law_v"]
theorem sc_law_is_of : FnScope names_law_is_of ["_law_motion", "_law_group"] (defScope st_law_is_of) := ⟨rfl, rfl, rfl, by decide +kernel, rfl, by decide +kernel, by decide +kernel⟩
theorem ok_law_is_of (B : Bn mg) (T : Df K mg "_law_is_of" st_law_is_of ["_law_motion", "_law_group"]) : Ok P w K mg base "_law_is_of" 1 2 F_law_is_of := by
  have nd := sc_law_is_of.nd
  refine ok_by names_law_is_of ["_law_motion", "_law_group"] g_law_is_of T sc_law_is_of (by decide) rfl rfl rfl rfl fun f cdv A out s H hr hG => ?_
  exact (psd_cons (sd_asg (pdv 0) (PGq.d (gq_tup rfl (gsq_cons (gq_name (i := 2) nd rfl (by first | exact Or.inl rfl | exact Or.inr rfl)) (gsq_cons (gq_name (i := 3) nd rfl (by first | exact Or.inl rfl | exact Or.inr rfl)) gsq_nil)))))
      (psd_cons (sd_if (PWd.pt (pw_orD (PWd.pt (pw_andD (pt_cmpD (op_inA (hu65 hr)) od_in (pdv 1) (pd_lst (pad_cons pd_str (pad_cons pd_str (pad_cons pd_str pad_nil)))) (by rfl)) (pw_and1D (pt_cmpD (op_neA (hu64 hr)) od_ne (pdv 2) pd_int (nomark _))))) (pw_or1D (PWd.pt (pw_andD (pt_cmpD (op_inA (hu65 hr)) od_in (pdv 1) (pd_lst (pad_cons pd_str (pad_cons pd_str pad_nil))) (by rfl)) (pw_and1D (pt_cmpD (op_notInA (hu65 hr)) od_notIn (pdv 2) (pd_lst (pad_cons pd_int (pad_cons pd_int pad_nil))) (by rfl)))))))) (psd_one (sd_ret pd_bl)) psd_nil)
      (psd_cons (sd_if (PWd.pt (pw_andD (pt_cmpD (op_eqA (hu64 hr)) od_eq (pdv 1) pd_str (nomark _)) (pw_and1D (pt_cmpD (op_neA (hu64 hr)) od_ne (pd_ix (pdv 3) pd_int (fun _ _ => rfl)) pd_int (nomark _))))) (psd_one (sd_ret pd_bl)) psd_nil)
      (psd_one (sd_ret (pd_or (pd_cmp (op_notInA (hu65 hr)) od_notIn (pdv 1) (pd_lst (pad_cons pd_str (pad_cons pd_str (pad_cons pd_str pad_nil)))) (by rfl)) (pd_one (pd_cmp (op_eqA (hu64 hr)) od_eq (pd_ix (pdv 3) pd_int (fun _ _ => rfl)) pd_int (nomark _)))))))))
abbrev st_law_above : Stmt := topS 18
abbrev names_law_above : List Str := ["_law_group", "_law_above_here"]
theorem sc_law_above : FnScope names_law_above ["_law_group"] (defScope st_law_above) := ⟨rfl, rfl, rfl, by decide +kernel, rfl, by decide +kernel, by decide +kernel⟩
theorem ok_law_above (B : Bn mg) (T : Df K mg "_law_above" st_law_above ["_law_group"]) : Ok P w K mg base "_law_above" 1 1 F_law_above := by
  have nd := sc_law_above.nd
  refine ok_by names_law_above ["_law_group"] g_law_above T sc_law_above (by decide) rfl rfl rfl rfl fun f cdv A out s H hr hG => ?_
  exact (psd_cons (sd_dnew (i := 1) nd rfl (by first | exact Or.inl rfl | exact Or.inr rfl) (ppd_cons (pd_lst (pad_cons pd_str (pad_cons pd_str (pad_cons pd_str (pad_cons pd_str pad_nil))))) (ppd_cons (pd_lst (pad_cons pd_str (pad_cons pd_str pad_nil))) (ppd_cons (pd_lst (pad_cons pd_str pad_nil)) ppd_nil))) rfl rfl (fun h => by cases h) (by decide))
      (psd_cons (sd_dset (i := 1) (hu1 hr) rfl (by first | exact Or.inl rfl | exact Or.inr (Or.inl rfl) | exact Or.inr (Or.inr rfl)) pd_str (pd_lst (pad_cons pd_str (pad_cons pd_str (pad_cons pd_str (pad_cons pd_str (pad_cons pd_str (pad_cons pd_str pad_nil))))))))
      (psd_cons (sd_dset (i := 1) (hu1 hr) rfl (by first | exact Or.inl rfl | exact Or.inr (Or.inl rfl) | exact Or.inr (Or.inr rfl)) pd_str (pd_lst (pad_cons pd_str (pad_cons pd_str (pad_cons pd_str (pad_cons pd_str pad_nil))))))
      (psd_cons (sd_dset (i := 1) (hu1 hr) rfl (by first | exact Or.inl rfl | exact Or.inr (Or.inl rfl) | exact Or.inr (Or.inr rfl)) pd_str (pd_lst (pad_cons pd_str (pad_cons pd_str (pad_cons pd_str pad_nil)))))
      (psd_cons (sd_dset (i := 1) (hu1 hr) rfl (by first | exact Or.inl rfl | exact Or.inr (Or.inl rfl) | exact Or.inr (Or.inr rfl)) pd_str (pd_lst (pad_cons pd_str (pad_cons pd_str pad_nil))))
      (psd_one (sd_ret (pd_dix (i := 1) (hu1 hr) rfl (by first | exact Or.inl rfl | exact Or.inr (Or.inl rfl) | exact Or.inr (Or.inr rfl)) (pdv 0) (fun _ _ => rfl)))))))))
abbrev st_law : Stmt := topS 19
abbrev names_law : List Str := ["_law_script", "_law_groups", "_law_cell_here", "_law_group", "_law_parts_here", "_law_y", "_law_motion", "_law_other", "_law_actual"]
theorem sc_law : FnScope names_law ["_law_script"] (defScope st_law) := ⟨rfl, rfl, rfl, by decide +kernel, rfl, by decide +kernel, by decide +kernel⟩
theorem ok_law (B : Bn mg) (T : Df K mg "law" st_law ["_law_script"]) (C_GROUPS : Gc K mg "GROUPS" c_GROUPS) (O_law_parts : Ok P w K mg base "_law_parts" 1 2 F_law_parts) (O_law_point : Ok P w K mg base "_law_point" 2 3 F_law_point) (O_in_group : Ok P w K mg base "in_group" 1 2 F_in_group) (O_lies_in : Ok P w K mg base "lies_in" 1 2 F_lies_in) (O_law_is_of : Ok P w K mg base "_law_is_of" 1 2 F_law_is_of) (O_law_above : Ok P w K mg base "_law_above" 1 1 F_law_above) : Ok P w K mg base "law" 3 1 F_law := by
  have nd := sc_law.nd
  refine ok_by names_law ["_law_script"] g_law T sc_law (by decide) rfl rfl rfl rfl fun f cdv A out s H hr hG => ?_
  exact (psd_cons (sd_set (i := 1) nd rfl (by first | exact Or.inl rfl | exact Or.inr rfl) (pd_lst (pad_cons pd_str (pad_cons pd_str (pad_cons pd_str (pad_cons pd_str (pad_cons pd_str (pad_cons pd_str (pad_cons pd_str pad_nil)))))))))
      (psd_cons (sd_if (pt_cmpD (op_neA (hu64 hr)) od_ne (pd_gc C_GROUPS) (pd_callTy call_tuple_of ca_tuple (by rfl) B.tuple (by decide +kernel) (pad_cons (pdv 1) pad_nil)) (nomark _)) (psd_one (sd_ret pd_bl)) psd_nil)
      (psd_cons (sd_for PassesOwn.never rfl (id_list (pd_slice (pd_op op_addA od_add (pd_lst (pad_cons pd_int (pad_cons pd_int (pad_cons pd_int pad_nil)))) (pdv 0)) od_none (od_some pd_int))) (PGq.d (gq_name (i := 2) nd rfl (by first | exact Or.inl rfl | exact Or.inr rfl))) (psd_cons (sd_set (i := 4) nd rfl (by first | exact Or.inl rfl | exact Or.inr rfl) (pd_fn O_law_parts (hr.mono (by decide)) hG (pad_cons (pdv 2) (pad_cons (pd_lst (pad_cons pd_int (pad_cons pd_int (pad_cons pd_int (pad_cons pd_int (pad_cons pd_int pad_nil)))))) pad_nil))))
      (psd_cons (sd_set (i := 5) nd rfl (by first | exact Or.inl rfl | exact Or.inr rfl) (pd_op op_mulB od_mul (pd_op op_subA od_sub (pd_ix (pdv 4) pd_int (fun _ _ => rfl)) pd_int) (pd_ix (pdv 4) pd_int (fun _ _ => rfl))))
      (psd_cons (sd_set (i := 6) nd rfl (by first | exact Or.inl rfl | exact Or.inr rfl) (pd_tup (pad_cons (pd_ix (pdv 4) pd_int (fun _ _ => rfl)) (pad_cons (pd_fn O_law_point (hr.mono (by decide)) hG (pad_cons (pd_op op_subA od_sub (pd_ix (pdv 4) pd_int (fun _ _ => rfl)) pd_int) (pad_cons (pdv 5) (pad_cons (pd_op op_addA od_add pd_int (pd_op op_fdivB od_fdiv (pd_ix (pdv 4) pd_int (fun _ _ => rfl)) pd_int)) pad_nil)))) pad_nil))))
      (psd_one (sd_for PassesOwn.never rfl (id_list (pdv 1)) (PGq.d (gq_name (i := 3) nd rfl (by first | exact Or.inl rfl | exact Or.inr rfl))) (psd_cons (sd_set (i := 8) nd rfl (by first | exact Or.inl rfl | exact Or.inr rfl) (pd_fn O_in_group (hr.mono (by decide)) hG (pad_cons (pdv 6) (pad_cons (pdv 3) pad_nil))))
      (psd_one (sd_if (PWd.pt (pw_orD (pt_notD (pt_valD (pd_isi kit_bool (by rfl) B.isinstance (by rfl) B.bool (by decide +kernel) (pdv 8)))) (pw_or1D (pt_cmpD (op_neA (hu64 hr)) od_ne (pdv 8) (pd_fn O_law_is_of (hr.mono (by decide)) hG (pad_cons (pdv 6) (pad_cons (pdv 3) pad_nil))) (nomark _))))) (psd_one (sd_ret pd_bl)) psd_nil)))))))))
      (psd_cons (sd_for PassesOwn.never rfl (id_list (pdv 1)) (PGq.d (gq_name (i := 3) nd rfl (by first | exact Or.inl rfl | exact Or.inr rfl))) (psd_one (sd_for PassesOwn.never rfl (id_list (pdv 1)) (PGq.d (gq_name (i := 7) nd rfl (by first | exact Or.inl rfl | exact Or.inr rfl))) (psd_cons (sd_set (i := 8) nd rfl (by first | exact Or.inl rfl | exact Or.inr rfl) (pd_fn O_lies_in (hr.mono (by decide)) hG (pad_cons (pdv 3) (pad_cons (pdv 7) pad_nil))))
      (psd_one (sd_if (PWd.pt (pw_orD (pt_notD (pt_valD (pd_isi kit_bool (by rfl) B.isinstance (by rfl) B.bool (by decide +kernel) (pdv 8)))) (pw_or1D (pt_cmpD (op_neA (hu64 hr)) od_ne (pdv 8) (pd_cmp (op_inA (hu65 hr)) od_in (pdv 7) (pd_fn O_law_above (hr.mono (by decide)) hG (pad_cons (pdv 3) pad_nil)) (by rfl)) (nomark _))))) (psd_one (sd_ret pd_bl)) psd_nil))))))
      (psd_one (sd_ret pd_bl))))))
theorem fin (B : Bn mg) (C_GROUPS : Gc K mg "GROUPS" c_GROUPS) (C_GRIDS : Gc K mg "GRIDS" c_GRIDS) (C_TURNS : Gt K w mg "TURNS" c_TURNS) (C_ABOVE : Gt K w mg "ABOVE" c_ABOVE) (T_law_parts : Df K mg "_law_parts" st_law_parts ["_law_cell_here", "_law_sizes"]) (T_law_divisor : Df K mg "_law_divisor" st_law_divisor ["_law_a", "_law_b"]) (T_law_point : Df K mg "_law_point" st_law_point ["_law_x", "_law_y", "_law_w"]) (T_in_group : Df K mg "in_group" st_in_group ["motion", "group"]) (T_lies_in : Df K mg "lies_in" st_lies_in ["group", "other"]) (T_law_is_of : Df K mg "_law_is_of" st_law_is_of ["_law_motion", "_law_group"]) (T_law_above : Df K mg "_law_above" st_law_above ["_law_group"]) (T_law : Df K mg "law" st_law ["_law_script"]) : Ok P w K mg base "law" 3 1 F_law := by
  have O_law_parts := ok_law_parts (P := P) (w := w) (base := base) B T_law_parts
  have O_law_divisor := ok_law_divisor (P := P) (w := w) (base := base) B T_law_divisor
  have O_law_point := ok_law_point (P := P) (w := w) (base := base) B T_law_point O_law_divisor
  have O_in_group := ok_in_group (P := P) (w := w) (base := base) B T_in_group C_GRIDS C_TURNS
  have O_lies_in := ok_lies_in (P := P) (w := w) (base := base) B T_lies_in C_ABOVE
  have O_law_is_of := ok_law_is_of (P := P) (w := w) (base := base) B T_law_is_of
  have O_law_above := ok_law_above (P := P) (w := w) (base := base) B T_law_above
  have O_law := ok_law (P := P) (w := w) (base := base) B T_law C_GROUPS O_law_parts O_law_point O_in_group O_lies_in O_law_is_of O_law_above
  exact O_law
end
end Law
open PySem PySem.W PyProof.Rows in
set_option maxRecDepth 100000 in
set_option maxHeartbeats 0 in
theorem PySem.Challenge.cw_cutandlaid_k14_groups_holds : PySem.Challenge.rw_cutandlaid_k14_groups.Holds := by
  w_on; o_law; k_head; (case hw => w_witness2)
  k_fill
  refine Dn.walk_g (l := PySem.Challenge.rw_cutandlaid_k14_groups) (n := 63) (k := 3) (F := Law.F_law) rfl (by decide) rfl rfl ⟨rfl, by decide, by decide⟩ (fun w h Y => PySem.W.kIn_of Y) ?O Law.law_true
  case O =>
    intro w mg h KX G base _ _
    refine' Law.fin ?B ?C_GROUPS ?C_GRIDS ?C_TURNS ?C_ABOVE ?T_law_parts ?T_law_divisor ?T_law_point ?T_in_group ?T_lies_in ?T_law_is_of ?T_law_above ?T_law
    case B =>
      constructor
      · exact PySem.W.mg_none_of KX G (by k_is)
      · exact PySem.W.mg_none_of KX G (by k_is)
      · exact PySem.W.mg_none_of KX G (by k_is)
      · exact PySem.W.mg_none_of KX G (by k_is)
      · exact PySem.W.mg_none_of KX G (by k_is)
      · exact PySem.W.mg_none_of KX G (by k_is)
      · exact PySem.W.mg_none_of KX G (by k_is)
    case C_GROUPS =>
      refine' Dn.gc_tup_mk KX G ?a ?l ?d ?z
      (case a => k_is)
      (case l => k_is)
      (case d => rfl)
      (case z => decide)
    case C_GRIDS =>
      refine' Dn.gc_tup_mk KX G ?a ?l ?d ?z
      (case a => k_is)
      (case l => k_is)
      (case d => rfl)
      (case z => decide)
    case C_TURNS =>
      refine' Dn.gt_mk KX G ?a ?l ?k ?s ?t
      (case a => k_is)
      (case l => k_is)
      (case k => exact ⟨⟨_, _, rfl, rfl⟩, ⟨_, _, rfl, rfl⟩, ⟨_, _, rfl, rfl⟩, ⟨_, _, rfl, rfl⟩, ⟨_, _, rfl, rfl⟩, trivial⟩)
      (case s => rfl)
      case t =>
        refine' List.forall_mem_cons.mpr ⟨?eTURNS0, ?rTURNS0⟩
        case eTURNS0 =>
          refine' Dn.tb_tup ?a ?l ?d ?z
          (case a => k_is)
          (case l => k_is)
          (case d => rfl)
          (case z => decide)
        refine' List.forall_mem_cons.mpr ⟨?eTURNS1, ?rTURNS1⟩
        case eTURNS1 =>
          refine' Dn.tb_tup ?a ?l ?d ?z
          (case a => k_is)
          (case l => k_is)
          (case d => rfl)
          (case z => decide)
        refine' List.forall_mem_cons.mpr ⟨?eTURNS2, ?rTURNS2⟩
        case eTURNS2 =>
          refine' Dn.tb_tup ?a ?l ?d ?z
          (case a => k_is)
          (case l => k_is)
          (case d => rfl)
          (case z => decide)
        refine' List.forall_mem_cons.mpr ⟨?eTURNS3, ?rTURNS3⟩
        case eTURNS3 =>
          refine' Dn.tb_tup ?a ?l ?d ?z
          (case a => k_is)
          (case l => k_is)
          (case d => rfl)
          (case z => decide)
        refine' List.forall_mem_cons.mpr ⟨?eTURNS4, ?rTURNS4⟩
        case eTURNS4 =>
          refine' Dn.tb_tup ?a ?l ?d ?z
          (case a => k_is)
          (case l => k_is)
          (case d => rfl)
          (case z => decide)
        refine' List.forall_mem_cons.mpr ⟨?eTURNS5, ?rTURNS5⟩
        case eTURNS5 =>
          show PySem.W.nsIn _ _ _ = some none
          k_is
        refine' List.forall_mem_cons.mpr ⟨?eTURNS6, ?rTURNS6⟩
        case eTURNS6 =>
          show PySem.W.nsIn _ _ _ = some none
          k_is
        exact fun _ h => by cases h
    case C_ABOVE =>
      refine' Dn.gt_mk KX G ?a ?l ?k ?s ?t
      (case a => k_is)
      (case l => k_is)
      (case k => exact ⟨⟨_, _, rfl, rfl⟩, ⟨_, _, rfl, rfl⟩, ⟨_, _, rfl, rfl⟩, ⟨_, _, rfl, rfl⟩, ⟨_, _, rfl, rfl⟩, ⟨_, _, rfl, rfl⟩, ⟨_, _, rfl, rfl⟩, trivial⟩)
      (case s => rfl)
      case t =>
        refine' List.forall_mem_cons.mpr ⟨?eABOVE0, ?rABOVE0⟩
        case eABOVE0 =>
          refine' Dn.tb_tup ?a ?l ?d ?z
          (case a => k_is)
          (case l => k_is)
          (case d => rfl)
          (case z => decide)
        refine' List.forall_mem_cons.mpr ⟨?eABOVE1, ?rABOVE1⟩
        case eABOVE1 =>
          refine' Dn.tb_tup ?a ?l ?d ?z
          (case a => k_is)
          (case l => k_is)
          (case d => rfl)
          (case z => decide)
        refine' List.forall_mem_cons.mpr ⟨?eABOVE2, ?rABOVE2⟩
        case eABOVE2 =>
          refine' Dn.tb_tup ?a ?l ?d ?z
          (case a => k_is)
          (case l => k_is)
          (case d => rfl)
          (case z => decide)
        refine' List.forall_mem_cons.mpr ⟨?eABOVE3, ?rABOVE3⟩
        case eABOVE3 =>
          refine' Dn.tb_tup ?a ?l ?d ?z
          (case a => k_is)
          (case l => k_is)
          (case d => rfl)
          (case z => decide)
        refine' List.forall_mem_cons.mpr ⟨?eABOVE4, ?rABOVE4⟩
        case eABOVE4 =>
          refine' Dn.tb_tup ?a ?l ?d ?z
          (case a => k_is)
          (case l => k_is)
          (case d => rfl)
          (case z => decide)
        refine' List.forall_mem_cons.mpr ⟨?eABOVE5, ?rABOVE5⟩
        case eABOVE5 =>
          refine' Dn.tb_tup ?a ?l ?d ?z
          (case a => k_is)
          (case l => k_is)
          (case d => rfl)
          (case z => decide)
        refine' List.forall_mem_cons.mpr ⟨?eABOVE6, ?rABOVE6⟩
        case eABOVE6 =>
          refine' Dn.tb_tup ?a ?l ?d ?z
          (case a => k_is)
          (case l => k_is)
          (case d => rfl)
          (case z => decide)
        exact fun _ h => by cases h
    case T_law_parts =>
      refine' Dn.df_mk KX G ?a ?l ?c ?k (fun _ _ _ _ _ _ us hl => match us, hl with | [_, _], _ => rfl)
      (case a => k_is)
      (case l => k_is)
      (case c => k_is)
      (case k => k_is)
    case T_law_divisor =>
      refine' Dn.df_mk KX G ?a ?l ?c ?k (fun _ _ _ _ _ _ us hl => match us, hl with | [_, _], _ => rfl)
      (case a => k_is)
      (case l => k_is)
      (case c => k_is)
      (case k => k_is)
    case T_law_point =>
      refine' Dn.df_mk KX G ?a ?l ?c ?k (fun _ _ _ _ _ _ us hl => match us, hl with | [_, _, _], _ => rfl)
      (case a => k_is)
      (case l => k_is)
      (case c => k_is)
      (case k => k_is)
    case T_in_group =>
      refine' Dn.df_mk KX G ?a ?l ?c ?k (fun _ _ _ _ _ _ us hl => match us, hl with | [_, _], _ => rfl)
      (case a => k_is)
      (case l => k_is)
      (case c => k_is)
      (case k => k_is)
    case T_lies_in =>
      refine' Dn.df_mk KX G ?a ?l ?c ?k (fun _ _ _ _ _ _ us hl => match us, hl with | [_, _], _ => rfl)
      (case a => k_is)
      (case l => k_is)
      (case c => k_is)
      (case k => k_is)
    case T_law_is_of =>
      refine' Dn.df_mk KX G ?a ?l ?c ?k (fun _ _ _ _ _ _ us hl => match us, hl with | [_, _], _ => rfl)
      (case a => k_is)
      (case l => k_is)
      (case c => k_is)
      (case k => k_is)
    case T_law_above =>
      refine' Dn.df_mk KX G ?a ?l ?c ?k (fun _ _ _ _ _ _ us hl => match us, hl with | [_], _ => rfl)
      (case a => k_is)
      (case l => k_is)
      (case c => k_is)
      (case k => k_is)
    case T_law =>
      refine' Dn.df_mk KX G ?a ?l ?c ?k (fun _ _ _ _ _ _ us hl => match us, hl with | [_], _ => rfl)
      (case a => k_is)
      (case l => k_is)
      (case c => k_is)
      (case k => k_is)
#print axioms PySem.Challenge.cw_cutandlaid_k14_groups_holds
