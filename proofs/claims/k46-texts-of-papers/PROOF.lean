import PyProof.Rows.All
import Wide.All
import OpenK.AllK
import Wide.FinOn
import HandS.ForMost
import HandS.Wide
import HandS.Deep
import HandS.Style
import HandS.IsInst
import PyProof.ReprRoads
import HandS.Ends
import KE.KDictKeyed
import KE.KeyNested
import HandS.TupAny
import HandS.Dict
import HandS.More
import HandS.List
import HandS.RaiseMore
import HandS.TupSets
import KE.KRevSl
import HandS.Conv
import KE.SortData
import HandS.ExcOwn
import PyProof.Rows.RaiseClass
import HandS.ExcIs
import HandS.TupLen
import HandS.TryOnly
import KE.DataMinMax
import PyProof.P3Eq
import HandS.Iter
import HandS.Flow
import HandS.Text
import HandS.Star
import HandS.CallLocal
import HandS.NoneIn
import PyProof.ReprLen
import PySem.Challenge.RW_cutandlaid_k46_texts_of_papers
set_option Elab.async false
set_option linter.all false
set_option maxRecDepth 100000
set_option maxHeartbeats 4000000
set_option autoImplicit false
/-! Dn: a reading of defs by plain data: what stands in a def's names is told as trees of data, and an expression, a statement, a body is a plain function of them. -/
namespace Dn
open PySem PySem.Spec PyProof.Rows L2
abbrev D := PyData

/-! ### 1. the plain functions -/
/-- what an object of a name's own holds: a list, a dict by ints and texts, a dict by tuples of them -/
inductive Cont where
  | lst (ds : List D)
  | dk (kvs : List (Key × D))
  | dn (kvs : List (NestedKey × D))
inductive Slot where
  | un
  | val (d : D)
  | ow (c : Cont)
  | fn (x : PySem.Str)
abbrev Slot.own (ds : List D) : Slot := .ow (.lst ds)
abbrev Env := List Slot
abbrev GE := Env → Option D
abbrev GA := Env → Option (List D)
abbrev GB := Env → Option Bool
inductive Out where
  | nx (e : Env)
  | ret (d : D)
  | bk (e : Env)
  | ct (e : Env)
abbrev GS := Env → Option Out

def look : Option Slot → Option D
  | some (.val d) => some d
  | _ => none
def lookB : Option Slot → Option D
  | some (.val d) => some d
  | some (.ow (.lst ds)) => some (.list ds)
  | _ => none
def gVar (i : Nat) : GE := fun env => look env[i]?
def gVarB (i : Nat) : GE := fun env => lookB env[i]?
def gC (d : D) : GE := fun _ => some d
def g1 (f : D → Option D) (a : GE) : GE := fun env => (a env).bind f
def g2 (f : D → D → Option D) (a b : GE) : GE := fun env => (a env).bind fun x => (b env).bind fun y => f x y
def aNil : GA := fun _ => some []
def aCons (a : GE) (r : GA) : GA := fun env => (a env).bind fun x => (r env).bind fun xs => some (x :: xs)
def gArgs (f : List D → Option D) (r : GA) : GE := fun env => (r env).bind f
def vTup (ds : List D) : Option D := some (.tuple ds)
def vLst (ds : List D) : Option D := some (.list ds)

def lim : Nat := 16777216
theorem lim_eq : lim = sizeLine := by rw [sizeLine_eq]; rfl
def mulOk (x y : Int) : Bool := decide (x.natAbs < 2 ^ 64) || decide (y.natAbs < 2 ^ 64) || decide (x.natAbs.log2 + y.natAbs.log2 < 100000000)
def b2z (b : Bool) : Int := if b then 1 else 0
def vAdd : D → D → Option D
  | .int x, .int y => some (.int (x + y))
  | .list x, .list y => if x.length + y.length ≤ lim then some (.list (x ++ y)) else none
  | .str x, .str y => if x.length + y.length ≤ lim then some (.str (x ++ y)) else none
  | .tuple x, .tuple y => if x.length + y.length ≤ lim then some (.tuple (x ++ y)) else none
  | _, _ => none
def vIAdd : D → D → Option D
  | .int x, .int y => some (.int (x + y))
  | _, _ => none
def vSub : D → D → Option D
  | .int x, .int y => some (.int (x - y))
  | .bool x, .bool y => some (.int (b2z x - b2z y))
  | _, _ => none
def vMul : D → D → Option D
  | .int x, .int y => if mulOk x y then some (.int (x * y)) else none
  | _, _ => none
def divOk (y : Int) : Bool := decide (y ≠ 0) && decide (y.natAbs.log2 < 9000)
def vFdiv : D → D → Option D
  | .int x, .int y => if divOk y then some (.int (x.fdiv y)) else none
  | _, _ => none
def vMod : D → D → Option D
  | .int x, .int y => if y = 0 then none else some (.int (x.fmod y))
  | _, _ => none
def vPow : D → D → Option D
  | .int x, .int y => if 0 ≤ y ∧ y ≤ 1000000 ∧ x.natAbs < 2 ^ 64 then some (.int (x ^ y.toNat)) else none
  | _, _ => none
def vNeg : D → Option D
  | .int x => some (.int (-x))
  | _ => none
def vCmp (p : Int → Int → Bool) : D → D → Option D
  | .int x, .int y => some (.bool (p x y))
  | _, _ => none
def vLt (x y : D) : Option D := vCmp (fun i j => decide (i < j)) x y
def vLe (x y : D) : Option D := vCmp (fun i j => decide (i ≤ j)) x y
def vGt (x y : D) : Option D := vCmp (fun i j => decide (j < i)) x y
def vGe (x y : D) : Option D := vCmp (fun i j => decide (j ≤ i)) x y
def vEqG (x y : D) : Option D := if SeqAt.shaped x && SeqAt.shaped y then some (.bool (PyData.eqv x y)) else none
def vEq : D → D → Option D
  | .str a, .str b => some (.bool (decide (a = b)))
  | .int a, .int b => some (.bool (decide (a = b)))
  | x, y => vEqG x y
def vNeG (x y : D) : Option D := if SeqAt.shaped x && SeqAt.shaped y then some (.bool (!PyData.eqv x y)) else none
def vNe : D → D → Option D
  | .str a, .str b => some (.bool (!decide (a = b)))
  | .int a, .int b => some (.bool (!decide (a = b)))
  | x, y => vNeG x y
def isNone : D → Bool
  | .none => true
  | _ => false
def vIsN (x : D) : Option D := some (.bool (isNone x))
def vNotN (x : D) : Option D := some (.bool (!isNone x))
def vTruth : D → Option Bool
  | .none => some false
  | .bool b => some b
  | .int i => some (i != 0)
  | .str y => if y.length ≤ lim then some ((y.length : Int) != 0) else none
  | .list ds => some (!ds.isEmpty)
  | .tuple ds => some (!ds.isEmpty)
  | _ => none
def asBool : D → Option Bool
  | .bool b => some b
  | _ => none
/-- an index of any sign -/
def atD (xs : List D) (i : Int) : Option D :=
  if i < 0 then (if 0 ≤ i + xs.length then xs[(i + xs.length).toNat]? else none) else xs[i.toNat]?
def vIx : D → D → Option D
  | .list xs, .int i => atD xs i
  | .tuple xs, .int i => atD xs i
  | _, _ => none
def vLen : D → Option D
  | .list xs => some (.int xs.length)
  | .tuple xs => some (.int xs.length)
  | .str y => if y.length ≤ lim then some (.int y.length) else none
  | _ => none
def vAbs : D → Option D
  | .int i => some (.int (if i < 0 then -i else i))
  | _ => none
def vToI : D → Option D
  | .int i => some (.int i)
  | .bool b => some (.int (b2z b))
  | _ => none
def l1 (f : D → Option D) : List D → Option D
  | [x] => f x
  | _ => none
def l2 (f : D → D → Option D) : List D → Option D
  | [x, y] => f x y
  | _ => none
def vMin2 : D → D → Option D
  | .int i, .int j => some (.int (if j < i then j else i))
  | _, _ => none
def vMax2 : D → D → Option D
  | .int i, .int j => some (.int (if j > i then j else i))
  | _, _ => none

def gTest (a : GE) : GB := fun env => (a env).bind asBool
def gTruth (a : GE) : GB := fun env => (a env).bind vTruth
def gAnd (a b : GB) : GB := fun env => (a env).bind fun c => if c = true then b env else some false
def gOr (a b : GB) : GB := fun env => (a env).bind fun c => if c = true then some true else b env
def gNot (a : GB) : GB := fun env => (a env).bind fun c => some (!c)
def gAndV (a b : GE) : GE := fun env => (a env).bind fun x => (asBool x).bind fun c => if c = true then b env else some (.bool false)
def gOrV (a b : GE) : GE := fun env => (a env).bind fun x => (asBool x).bind fun c => if c = true then some (.bool true) else b env
def gNotV (a : GE) : GE := fun env => (a env).bind fun x => (asBool x).bind fun c => some (.bool (!c))
def gIfE (c : GB) (a b : GE) : GE := fun env => (c env).bind fun k => if k = true then a env else b env

def sNx : GS := fun env => some (.nx env)
def thenS (b : GS) : Out → Option Out
  | .nx e => b e
  | .ret d => some (.ret d)
  | .bk e => some (.bk e)
  | .ct e => some (.ct e)
def sSeq (a b : GS) : GS := fun env => (a env).bind (thenS b)
def sRet (a : GE) : GS := fun env => (a env).bind fun d => some (.ret d)
def sRetN : GS := fun _ => some (.ret .none)
def sBk : GS := fun env => some (.bk env)
def sCt : GS := fun env => some (.ct env)
def sIf (c : GB) (a b : GS) : GS := fun env => (c env).bind fun k => if k = true then a env else b env
def sSet (i : Nat) (a : GE) : GS := fun env => (a env).bind fun d => some (.nx (env.set i (.val d)))
def sDrop (a : GE) : GS := fun env => (a env).bind fun _ => some (.nx env)
/-- a new list of its own -/
def sOwn (i : Nat) (a : GA) : GS := fun env => (a env).bind fun ds => some (.nx (env.set i (.own ds)))
def appS (env : Env) (i : Nat) (d : D) : Option Slot → Option Out
  | some (.ow (.lst ds)) => if ds.length < lim then some (.nx (env.set i (.own (ds ++ [d])))) else none
  | _ => none
def sApp (i : Nat) (a : GE) : GS := fun env => (a env).bind fun d => appS env i d env[i]?
def frzS (env : Env) (i : Nat) : Option Slot → Env
  | some (.ow (.lst ds)) => env.set i (.val (.list ds))
  | _ => env
def frz (i : Nat) (env : Env) : Env := frzS env i env[i]?
def sFrz (i : Nat) : GS := fun env => some (.nx (frz i env))
/-- targets -/
abbrev GT := D → Env → Option Env
def tName (i : Nat) : GT := fun d env => some (env.set i (.val d))
def tTup2 : List GT → List D → Env → Option Env
  | [], [], env => some env
  | t :: ts, d :: ds, env => (t d env).bind fun e => tTup2 ts ds e
  | _, _, _ => none
def asTpl : D → Option (List D)
  | .tuple ds => some ds
  | _ => none
def asLst : D → Option (List D)
  | .list ds => some ds
  | _ => none
def tTuple (ts : List GT) : GT := fun d env => (asTpl d).bind fun ds => tTup2 ts ds env
def sAsg (a : GE) (t : GT) : GS := fun env => (a env).bind fun d => (t d env).bind fun e => some (.nx e)
def sPar (i j : Nat) (a b : GE) : GS := fun env => (a env).bind fun x => (b env).bind fun y => some (.nx ((env.set i (.val x)).set j (.val y)))
def sAug (i : Nat) (f : D → D → Option D) (a : GE) : GS := fun env => (gVar i env).bind fun x => (a env).bind fun y => (f x y).bind fun z => some (.nx (env.set i (.val z)))
/-- behind a turn of a loop -/
def turnS (k : Env → Option Out) : Out → Option Out
  | .nx e => k e
  | .ct e => k e
  | .bk e => some (.nx e)
  | .ret d => some (.ret d)
def forG (t : GT) (body : GS) : List D → Env → Option Out
  | [], env => some (.nx env)
  | d :: ds, env => (t d env).bind fun e => (body e).bind (turnS (forG t body ds))
def seqOf : D → Option (List D)
  | .list ds => some ds
  | .tuple ds => some ds
  | _ => none
def sFor (a : GA) (t : GT) (body : GS) : GS := fun env => (a env).bind fun ds => forG t body ds env
def whileG (c : GB) (body : GS) : Nat → Env → Option Out
  | 0, _ => none
  | n + 1, env => (c env).bind fun k => if k = true then (body env).bind (turnS (whileG c body n)) else some (.nx env)
def rngD (lo : Int) (n : Nat) : List D := (List.range n).map fun (i : Nat) => PyData.int (lo + (i : Int))
def rgOk (n : Int) : Bool := decide (n.natAbs.log2 < 60)
theorem rgOk_of {n : Int} (h : rgOk n = true) : n < 2 ^ 62 ∧ -(2 ^ 62) ≤ n := by
  have h : n.natAbs.log2 < 60 := of_decide_eq_true h
  have h2 : n.natAbs < 2 ^ 60 := by
    by_cases e : n.natAbs = 0
    · rw [e]; decide
    · exact (Nat.log2_lt e).mp h
  omega
def vRange1 : D → Option (List D)
  | .int n => if rgOk n then some (rngD 0 n.toNat) else none
  | _ => none
def vRange2 : D → D → Option (List D)
  | .int a, .int b => if rgOk a && rgOk b then some (rngD a (b - a).toNat) else none
  | _, _ => none
def gSeqOf (a : GE) : GA := fun env => (a env).bind seqOf
def gRange1 (a : GE) : GA := fun env => (a env).bind vRange1
def gRange2 (a b : GE) : GA := fun env => (a env).bind fun x => (b env).bind fun y => vRange2 x y
def startE (n : Nat) (ds : List D) : Env := ds.map .val ++ List.replicate (n - ds.length) .un
/-- a def's value -/
def endF : Out → Option D
  | .ret d => some d
  | .nx _ => some .none
  | _ => none
def runF (n k : Nat) (body : GS) (ds : List D) : Option D := if ds.length = k then (body (startE n ds)).bind endF else none
end Dn

namespace Dn
open PySem PySem.Spec PyProof.Rows L2
abbrev Sg := L2.St

/-! ### 2. the heap behind the data -/
theorem seqT {K : PySem.W.Frag} {H H' : Hp} {a : Addr} {xs : List V} (e : Same H H') (h : SqT K H a xs) : SqT K H' a xs := by
  rcases h with h | h
  · rcases h with h | ⟨o, h⟩
    · exact .inl (.inl (e _ _ h))
    · exact .inl (.inr ⟨o, e _ _ h⟩)
  · exact .inr h
mutual
theorem Dp_mono {K : PySem.W.Frag} {H H' : Hp} (e : Same H H') : ∀ (d : D) (v : V), Dp K H v d → Dp K H' v d
  | .none, _, .non => .non
  | .bool _, _, .bl b => .bl b
  | .int _, _, .int i => .int i
  | .str _, _, .str x => .str x
  | .list ds, _, .lst h a => .lst (e.seq h) (DpAll_mono e ds _ a)
  | .tuple ds, _, .tup h a => .tup (seqT e h) (DpAll_mono e ds _ a)
theorem DpAll_mono {K : PySem.W.Frag} {H H' : Hp} (e : Same H H') : ∀ (ds : List D) (vs : List V), DpAll K H vs ds → DpAll K H' vs ds
  | [], _, .nil => .nil
  | d :: ds, _, .cons h t => .cons (Dp_mono e d _ h) (DpAll_mono e ds _ t)
end
theorem DpAll_len {K : PySem.W.Frag} {H : Hp} : ∀ {vs : List V} {ds : List D}, DpAll K H vs ds → vs.length = ds.length
  | _, _, .nil => rfl
  | _, _, .cons _ t => by rw [List.length_cons, List.length_cons, DpAll_len t]
theorem DpAll_get {K : PySem.W.Frag} {H : Hp} : ∀ {vs : List V} {ds : List D} {i : Nat} {d : D}, DpAll K H vs ds → ds[i]? = some d → ∃ v, vs[i]? = some v ∧ Dp K H v d
  | _, _, _, _, .nil, e => by simp at e
  | _, _, 0, d, .cons (v := v) h _, e => ⟨v, rfl, by simp at e; subst e; exact h⟩
  | _, _, i + 1, d, .cons _ t, e => by
    obtain ⟨v, h1, h2⟩ := DpAll_get (i := i) t (by simpa using e)
    exact ⟨v, by simpa using h1, h2⟩
theorem DpAll_app {K : PySem.W.Frag} {H : Hp} : ∀ {vs ws : List V} {ds es : List D}, DpAll K H vs ds → DpAll K H ws es → DpAll K H (vs ++ ws) (ds ++ es)
  | _, _, _, _, .nil, s => s
  | _, _, _, _, .cons h t, s => .cons h (DpAll_app t s)
theorem DpAll_drop {K : PySem.W.Frag} {H : Hp} : ∀ {vs : List V} {ds : List D} (n : Nat), DpAll K H vs ds → DpAll K H (vs.drop n) (ds.drop n)
  | _, _, 0, h => h
  | _, _, _ + 1, .nil => .nil
  | _, _, n + 1, .cons _ t => DpAll_drop n t
theorem DpAll_take {K : PySem.W.Frag} {H : Hp} : ∀ {vs : List V} {ds : List D} (n : Nat), DpAll K H vs ds → DpAll K H (vs.take n) (ds.take n)
  | _, _, 0, _ => .nil
  | _, _, _ + 1, .nil => .nil
  | _, _, n + 1, .cons h t => .cons h (DpAll_take n t)
theorem DpAll_rev {K : PySem.W.Frag} {H : Hp} : ∀ {vs : List V} {ds : List D}, DpAll K H vs ds → DpAll K H vs.reverse ds.reverse
  | _, _, .nil => .nil
  | _, _, .cons h t => by
    rw [List.reverse_cons, List.reverse_cons]
    exact DpAll_app (DpAll_rev t) (.cons h .nil)
theorem DpAll_ints {K : PySem.W.Frag} {H : Hp} : ∀ (ns : List Int), DpAll K H (ns.map V.int) (ns.map PyData.int)
  | [] => .nil
  | n :: ns => .cons (.int n) (DpAll_ints ns)
theorem DpAll_ints_inv {K : PySem.W.Frag} {H : Hp} : ∀ (ns : List Int) (vs : List V), DpAll K H vs (ns.map PyData.int) → vs = ns.map V.int
  | [], _, .nil => rfl
  | n :: ns, _, .cons (.int _) t => by rw [DpAll_ints_inv ns _ t]; rfl

/-- the heap with some of it out of sight -/
noncomputable def vw (P : Addr → Prop) (H : Hp) : Hp := fun a => open Classical in if P a then none else H a
theorem vw_some {P : Addr → Prop} {H : Hp} {a : Addr} {o : HO} (h : vw P H a = some o) : ¬ P a ∧ H a = some o := by
  unfold vw at h
  by_cases hp : P a
  · rw [if_pos hp] at h; cases h
  · rw [if_neg hp] at h; exact ⟨hp, h⟩
theorem vw_of {P : Addr → Prop} {H : Hp} {a : Addr} {o : HO} (hp : ¬ P a) (h : H a = some o) : vw P H a = some o := by
  unfold vw; rw [if_neg hp]; exact h
theorem vw_same {P P' : Addr → Prop} {H H' : Hp} (e : Same H H') (hp : ∀ a o, H a = some o → P' a → P a) : Same (vw P H) (vw P' H') := fun b o h => by
  obtain ⟨h1, h2⟩ := vw_some h
  exact vw_of (fun q => h1 (hp b o h2 q)) (e b o h2)
theorem vw_le {P : Addr → Prop} {H : Hp} : Same (vw P H) H := fun b o h => (vw_some h).2
theorem same_upd {H : Hp} {p : Addr} {o : HO} (h : H p = none) : Same H (upd H p o) := fun b x e => by
  rw [upd_ne (ne_of_none e h)]
  exact e

/-! dicts whose keys are whole numbers and tuples of such, at any depth -/
mutual
def numOk : NestedKey → Bool
  | .num _ => true
  | .tup ks => numsOk ks
  | _ => false
def numsOk : List NestedKey → Bool
  | [] => true
  | k :: ks => numOk k && numsOk ks
end
abbrev Ent := NestedKey × Addr × V
/-- at a stands a dict with these entries: keys, where they stand, values -/
def DkSt (P : Program) (w : World) (a : Addr) (kvs : List Ent) (h : Heap) : Prop := kvs.length ≤ sizeLine ∧ (a == sysModules) = false ∧ ∃ xs : List (NestedKey × Addr × Value),
  Paired (fun (p : Ent) (q : NestedKey × Addr × Value) => p.1 = q.1 ∧ p.2.1 = q.2.1 ∧ RelV p.2.2 q.2.2) kvs xs ∧
  ∃ o es ep, h.get? a = some o ∧ o.ExactDict ∧ o.data = .dict es ep ∧ es.toList = xs.map (entryOfKey (nestedKind P w)) ∧ (xs.map (·.1)).Nodup
def DkO (P : Program) (w : World) (a : Addr) (kvs : List Ent) : HO := .ext (DkSt P w a kvs)
/-- the keys are there, and the values are the data -/
inductive Ents (K : PySem.W.Frag) (H : Hp) : List Ent → List (NestedKey × D) → Prop
  | nil : Ents K H [] []
  | cons {k : NestedKey} {q : Addr} {v : V} {d : D} {r : List Ent} {s : List (NestedKey × D)} : Dp K H (.ref q) k.data → numOk k = true → k.depth ≤ 8 → Dp K H v d → Ents K H r s → Ents K H ((k, q, v) :: r) ((k, d) :: s)
theorem Ents.mono {K : PySem.W.Frag} {H H' : Hp} (e : Same H H') : ∀ {r : List Ent} {s : List (NestedKey × D)}, Ents K H r s → Ents K H' r s
  | _, _, .nil => .nil
  | _, _, .cons h1 h2 h3 h4 t => .cons (Dp_mono e _ _ h1) h2 h3 (Dp_mono e _ _ h4) (Ents.mono e t)
/-- what is held -/
inductive Ct (K : PySem.W.Frag) (H : Hp) (a : Addr) : HO → Cont → Prop
  | lst {vs : List V} {ds : List D} : DpAll K H vs ds → Ct K H a (.lst vs) (.lst ds)
  | dk {vs : List (Key × V)} {kvs : List (Key × D)} : vs.map (·.1) = kvs.map (·.1) → DpAll K H (vs.map (·.2)) (kvs.map (·.2)) → Ct K H a (.dK vs) (.dk kvs)
  | dn {P : Program} {w : World} {vs : List Ent} {kvs : List (NestedKey × D)} : Ents K H vs kvs → Ct K H a (DkO P w a vs) (.dn kvs)
theorem Ct.mono {K : PySem.W.Frag} {H H' : Hp} {a : Addr} {o : HO} {c : Cont} (e : Same H H') (h : Ct K H a o c) : Ct K H' a o c := by
  cases h with
  | lst h => exact .lst (DpAll_mono e _ _ h)
  | dk h1 h => exact .dk h1 (DpAll_mono e _ _ h)
  | dn h => exact .dn (h.mono e)
/-- the objects that names own -/
def Ow (env : Env) (pa : Nat → Addr) (a : Addr) : Prop := ∃ (i : Nat) (ds : Cont), env[i]? = some (Slot.ow ds) ∧ pa i = a
abbrev Hd (M : Addr → Prop) (env : Env) (pa : Nat → Addr) : Addr → Prop := fun a => M a ∨ Ow env pa a
def FnAt (K : PySem.W.Frag) (x : Str) (o : Option (Option V)) : Prop := ∃ f, PySem.W.nsIn K mainGlobals x = some (some (.ref f)) ∧ o = some (some (.ref f))
/-- what the names hold: H0 is to stay, M is out of sight -/
structure EO (K : PySem.W.Frag) (H0 : Hp) (M : Addr → Prop) (env : Env) (σ : Sg) (H : Hp) (pa : Nat → Addr) : Prop where
  same : Same H0 H
  hid : ∀ a, M a → H a ≠ none
  len : σ.length = env.length
  val : ∀ (i : Nat) (d : D), env[i]? = some (.val d) → ∃ v : V, σ[i]? = some (some v) ∧ Dp K (vw (Hd M env pa) H) v d
  ow : ∀ (i : Nat) (c : Cont), env[i]? = some (.ow c) → σ[i]? = some (some (.ref (pa i))) ∧ (H0 (pa i) = none ∧ ¬ M (pa i)) ∧ ∃ o, H (pa i) = some o ∧ Ct K (vw (Hd M env pa) H) (pa i) o c
  inj : ∀ (i j : Nat) (ds es : Cont), env[i]? = some (.ow ds) → env[j]? = some (.ow es) → pa i = pa j → i = j
  fnc : ∀ (i : Nat) (f : Str), env[i]? = some (.fn f) → FnAt K f σ[i]?
theorem EO.own {K : PySem.W.Frag} {H0 H : Hp} {M : Addr → Prop} {env : Env} {σ : Sg} {pa : Nat → Addr} (E : EO K H0 M env σ H pa) (i : Nat) (ds : List D) (h : env[i]? = some (.own ds)) :
    σ[i]? = some (some (.ref (pa i))) ∧ (H0 (pa i) = none ∧ ¬ M (pa i)) ∧ ∃ vs, H (pa i) = some (.lst vs) ∧ DpAll K (vw (Hd M env pa) H) vs ds := by
  obtain ⟨h1, h2, o, h3, h4⟩ := E.ow i _ h
  cases h4 with
  | lst h4 => exact ⟨h1, h2, _, h3, h4⟩
section
variable {K : PySem.W.Frag} {H0 H H' : Hp} {M : Addr → Prop} {env : Env} {σ : Sg} {pa : Nat → Addr}
theorem EO.hidden (E : EO K H0 M env σ H pa) {a : Addr} (h : Hd M env pa a) : H a ≠ none := by
  rcases h with h | ⟨i, ds, h1, h2⟩
  · exact E.hid a h
  · obtain ⟨_, _, vs, h3, _⟩ := E.ow i ds h1
    rw [← h2, h3]
    exact fun q => by cases q
theorem EO.up (E : EO K H0 M env σ H pa) (e : Same H H') : EO K H0 M env σ H' pa := by
  have ms : Same (vw (Hd M env pa) H) (vw (Hd M env pa) H') := vw_same e fun _ _ _ q => q
  refine ⟨E.same.trans e, fun a h q => E.hid a h (e.free q), E.len, fun i d h => ?_, fun i ds h => ?_, E.inj, E.fnc⟩
  · obtain ⟨v, h1, h2⟩ := E.val i d h
    exact ⟨v, h1, Dp_mono ms _ _ h2⟩
  · obtain ⟨h1, h2, vs, h3, h4⟩ := E.ow i ds h
    exact ⟨h1, h2, vs, e _ _ h3, Ct.mono ms h4⟩
theorem set_some {α : Type} {l : List α} {i j : Nat} {x y : α} (h : (l.set i x)[j]? = some y) : (j = i ∧ y = x ∧ i < l.length) ∨ (j ≠ i ∧ l[j]? = some y) := by
  by_cases e : i = j
  · subst e
    by_cases hl : i < l.length
    · rw [List.getElem?_set_self hl] at h
      cases h
      exact .inl ⟨rfl, rfl, hl⟩
    · rw [List.getElem?_eq_none (by simpa using hl)] at h
      cases h
  · rw [List.getElem?_set_ne e] at h
    exact .inr ⟨fun q => e q.symm, h⟩
theorem startE_nofn {n : Nat} {ds : List D} (i : Nat) (f : Str) : (startE n ds)[i]? ≠ some (Slot.fn f) := fun z => by
  unfold startE at z
  by_cases hi : i < ds.length
  · rw [List.getElem?_append_left (by simpa using hi), List.getElem?_map] at z
    cases hx : ds[i]? with
    | none => rw [hx] at z; cases z
    | some u => rw [hx] at z; cases z
  · rw [List.getElem?_append_right (by simpa using hi), List.getElem?_replicate] at z
    split at z <;> cases z
theorem EO.fset (E : EO K H0 M env σ H pa) {i : Nat} {x : Slot} {o : Option V} (nf : ∀ f, x ≠ .fn f) : ∀ (j : Nat) (f : Str), (env.set i x)[j]? = some (.fn f) → FnAt K f (σ.set i o)[j]? := fun j f h => by
  rcases set_some h with ⟨_, q, _⟩ | ⟨ne, q⟩
  · exact absurd q.symm (nf f)
  · rw [List.getElem?_set_ne (Ne.symm ne)]
    exact E.fnc j f q
theorem EO.fkeep (E : EO K H0 M env σ H pa) {i : Nat} {x : Slot} (nf : ∀ f, x ≠ .fn f) : ∀ (j : Nat) (f : Str), (env.set i x)[j]? = some (.fn f) → FnAt K f σ[j]? := fun j f h => by
  rcases set_some h with ⟨_, q, _⟩ | ⟨_, q⟩
  · exact absurd q.symm (nf f)
  · exact E.fnc j f q
theorem ow_set_val {i : Nat} {d : D} {a : Addr} (h : Ow (env.set i (.val d)) pa a) : Ow env pa a := by
  obtain ⟨j, ds, h1, h2⟩ := h
  rcases set_some h1 with ⟨_, e, _⟩ | ⟨_, e⟩
  · cases e
  · exact ⟨j, ds, e, h2⟩
theorem EO.setVal {i : Nat} {v : V} {d : D} (E : EO K H0 M env σ H pa) (hv : Dp K (vw (Hd M env pa) H) v d) : EO K H0 M (env.set i (.val d)) (σ.set i (some v)) H pa := by
  have ms : Same (vw (Hd M env pa) H) (vw (Hd M (env.set i (.val d)) pa) H) := vw_same (Same.refl H) fun a _ _ q => by
    rcases q with q | q
    · exact .inl q
    · exact .inr (ow_set_val q)
  refine ⟨E.same, E.hid, by simp [E.len], fun j e h => ?_, fun j ds h => ?_, fun j k ds es h1 h2 h3 => ?_, E.fset (fun f z => by cases z)⟩
  · rcases set_some h with ⟨rfl, q, hl⟩ | ⟨ne, q⟩
    · cases q
      exact ⟨v, by rw [List.getElem?_set_self (by rw [E.len]; exact hl)], Dp_mono ms _ _ hv⟩
    · obtain ⟨u, h1, h2⟩ := E.val j e q
      exact ⟨u, by rw [List.getElem?_set_ne (Ne.symm ne)]; exact h1, Dp_mono ms _ _ h2⟩
  · rcases set_some h with ⟨_, q, _⟩ | ⟨ne, q⟩
    · cases q
    · obtain ⟨h1, h2, vs, h3, h4⟩ := E.ow j ds q
      exact ⟨by rw [List.getElem?_set_ne (Ne.symm ne)]; exact h1, h2, vs, h3, Ct.mono ms h4⟩
  · rcases set_some h1 with ⟨_, q, _⟩ | ⟨_, q⟩
    · cases q
    · rcases set_some h2 with ⟨_, r, _⟩ | ⟨_, r⟩
      · cases r
      · exact E.inj j k ds es q r h3
/-- a new object, owned -/
theorem EO.setOw {i : Nat} {p : Addr} {vs : HO} {ds : Cont} (E : EO K H0 M env σ H pa) (hn : H p = none) (hv : Ct K (vw (Hd M env pa) H) p vs ds) :
    EO K H0 M (env.set i (.ow ds)) (σ.set i (some (.ref p))) (upd H p vs) (fun j => if j = i then p else pa j) := by
  have ms : Same (vw (Hd M env pa) H) (vw (Hd M (env.set i (.ow ds)) (fun j => if j = i then p else pa j)) (upd H p vs)) := fun b o q => by
    obtain ⟨q1, q2⟩ := vw_some q
    have nb : b ≠ p := ne_of_none q2 hn
    refine vw_of (fun z => ?_) (by rw [upd_ne nb]; exact q2)
    rcases z with z | ⟨j, es, z1, z2⟩
    · exact q1 (.inl z)
    · rcases set_some z1 with ⟨rfl, _, _⟩ | ⟨ne, z3⟩
      · simp only [if_true] at z2
        exact nb z2.symm
      · simp only [if_neg ne] at z2
        exact q1 (.inr ⟨j, es, z3, z2⟩)
  refine ⟨E.same.trans (same_upd hn), fun a h q => E.hid a h ((same_upd hn).free q), by simp [E.len], fun j e h => ?_, fun j es h => ?_, fun j k as bs h1 h2 h3 => ?_, E.fset (fun f z => by cases z)⟩
  · rcases set_some h with ⟨_, q, _⟩ | ⟨ne, q⟩
    · cases q
    · obtain ⟨u, h1, h2⟩ := E.val j e q
      exact ⟨u, by rw [List.getElem?_set_ne (Ne.symm ne)]; exact h1, Dp_mono ms _ _ h2⟩
  · rcases set_some h with ⟨rfl, q, hl⟩ | ⟨ne, q⟩
    · cases q
      refine ⟨by rw [List.getElem?_set_self (by rw [E.len]; exact hl)]; simp, ⟨by simp only [if_true]; exact E.same.free hn, by simp only [if_true]; exact fun z => E.hid p z hn⟩, vs, by simp only [if_true]; exact upd_same, by simp only [if_true]; exact Ct.mono ms hv⟩
    · obtain ⟨h1, h2, ws, h3, h4⟩ := E.ow j es q
      have np : pa j ≠ p := ne_of_none h3 hn
      refine ⟨by rw [List.getElem?_set_ne (Ne.symm ne)]; simp only [if_neg ne]; exact h1, by simp only [if_neg ne]; exact h2, ws, by simp only [if_neg ne]; rw [upd_ne np]; exact h3, by simp only [if_neg ne]; exact Ct.mono ms h4⟩
  · have key : ∀ (j : Nat) (as : Cont), (env.set i (Slot.ow ds))[j]? = some (.ow as) → j ≠ i → pa j ≠ p := fun j as h ne => by
      rcases set_some h with ⟨rfl, _, _⟩ | ⟨_, q⟩
      · exact absurd rfl ne
      · obtain ⟨_, _, ws, h3, _⟩ := E.ow j as q
        exact ne_of_none h3 hn
    by_cases ej : j = i
    · by_cases ek : k = i
      · rw [ej, ek]
      · simp only [if_pos ej, if_neg ek] at h3
        exact absurd h3.symm (key k bs h2 ek)
    · by_cases ek : k = i
      · simp only [if_neg ej, if_pos ek] at h3
        exact absurd h3 (key j as h1 ej)
      · simp only [if_neg ej, if_neg ek] at h3
        rcases set_some h1 with ⟨z, _, _⟩ | ⟨_, q⟩
        · exact absurd z ej
        · rcases set_some h2 with ⟨z, _, _⟩ | ⟨_, r⟩
          · exact absurd z ek
          · exact E.inj j k as bs q r h3
/-- an owned list is written -/
theorem EO.writeC {i : Nat} {ds es : Cont} {ws : HO} (E : EO K H0 M env σ H pa) (hi : env[i]? = some (.ow ds)) (hv : Ct K (vw (Hd M env pa) H) (pa i) ws es) :
    EO K H0 M (env.set i (.ow es)) σ (upd H (pa i) ws) pa := by
  have hil : i < env.length := (List.getElem?_eq_some_iff.mp hi).1
  obtain ⟨g1, g2, vs, g3, g4⟩ := E.ow i ds hi
  have ow : ∀ a, Ow (env.set i (.ow es)) pa a → Ow env pa a := fun a ⟨j, as, z1, z2⟩ => by
    rcases set_some z1 with ⟨rfl, _, _⟩ | ⟨_, q⟩
    · exact ⟨j, ds, hi, z2⟩
    · exact ⟨j, as, q, z2⟩
  have ms : Same (vw (Hd M env pa) H) (vw (Hd M (env.set i (.ow es)) pa) (upd H (pa i) ws)) := fun b o q => by
    obtain ⟨q1, q2⟩ := vw_some q
    have nb : b ≠ pa i := fun z => q1 (.inr ⟨i, ds, hi, z.symm⟩)
    refine vw_of (fun z => ?_) (by rw [upd_ne nb]; exact q2)
    rcases z with z | z
    · exact q1 (.inl z)
    · exact q1 (.inr (ow b z))
  refine ⟨fun b o q => ?_, fun a h q => ?_, by simp [E.len], fun j e h => ?_, fun j as h => ?_, fun j k as bs h1 h2 h3 => ?_, E.fkeep (fun f z => by cases z)⟩
  · have nb : b ≠ pa i := ne_of_none q g2.1
    rw [upd_ne nb]
    exact E.same b o q
  · by_cases e : a = pa i
    · rw [e, upd_same] at q
      cases q
    · rw [upd_ne e] at q
      exact E.hid a h q
  · rcases set_some h with ⟨_, q, _⟩ | ⟨ne, q⟩
    · cases q
    · obtain ⟨u, h1, h2⟩ := E.val j e q
      exact ⟨u, h1, Dp_mono ms _ _ h2⟩
  · rcases set_some h with ⟨rfl, q, hl⟩ | ⟨ne, q⟩
    · cases q
      exact ⟨g1, g2, ws, upd_same, Ct.mono ms hv⟩
    · obtain ⟨h1, h2, us, h3, h4⟩ := E.ow j as q
      have np : pa j ≠ pa i := fun z => ne (E.inj j i as ds q hi z)
      exact ⟨h1, h2, us, by rw [upd_ne np]; exact h3, Ct.mono ms h4⟩
  · have back : ∀ (j : Nat) (as : Cont), (env.set i (Slot.ow es))[j]? = some (.ow as) → ∃ bs : Cont, env[j]? = some (Slot.ow bs) := fun j as h => by
      rcases set_some h with ⟨rfl, _, _⟩ | ⟨_, q⟩
      · exact ⟨ds, hi⟩
      · exact ⟨as, q⟩
    obtain ⟨_, a1⟩ := back j as h1
    obtain ⟨_, a2⟩ := back k bs h2
    exact E.inj j k _ _ a1 a2 h3
/-- a new list, owned -/
theorem EO.setOwn {i : Nat} {p : Addr} {vs : List V} {ds : List D} (E : EO K H0 M env σ H pa) (hn : H p = none) (hv : DpAll K (vw (Hd M env pa) H) vs ds) :
    EO K H0 M (env.set i (.own ds)) (σ.set i (some (.ref p))) (upd H p (.lst vs)) (fun j => if j = i then p else pa j) := E.setOw hn (.lst hv)
theorem EO.write {i : Nat} {ds es : List D} {ws : List V} (E : EO K H0 M env σ H pa) (hi : env[i]? = some (.own ds)) (hv : DpAll K (vw (Hd M env pa) H) ws es) :
    EO K H0 M (env.set i (.own es)) σ (upd H (pa i) (.lst ws)) pa := E.writeC hi (.lst hv)
/-- an owned list is given up: it stays from now on as it is -/
theorem EO.frz (E : EO K H0 M env σ H pa) (i : Nat) : EO K H0 M (frz i env) σ H pa := by
  unfold Dn.frz frzS
  split
  · rename_i ds hi
    obtain ⟨g1, g2, vs, g3, g4⟩ := E.own i ds hi
    have hil : i < env.length := (List.getElem?_eq_some_iff.mp hi).1
    have ms : Same (vw (Hd M env pa) H) (vw (Hd M (env.set i (.val (.list ds))) pa) H) := vw_same (Same.refl H) fun a _ _ q => by
      rcases q with q | q
      · exact .inl q
      · exact .inr (ow_set_val q)
    have nP : ¬ Hd M (env.set i (.val (.list ds))) pa (pa i) := fun z => by
      rcases z with z | ⟨j, as, z1, z2⟩
      · exact g2.2 z
      · rcases set_some z1 with ⟨_, e, _⟩ | ⟨ne, q⟩
        · cases e
        · exact ne (E.inj j i as _ q hi z2)
    have hv : Dp K (vw (Hd M (env.set i (.val (.list ds))) pa) H) (.ref (pa i)) (.list ds) := .lst (.inl (.inl (vw_of nP g3))) (DpAll_mono ms _ _ g4)
    refine ⟨E.same, E.hid, by simp [E.len], fun j e h => ?_, fun j as h => ?_, fun j k as bs h1 h2 h3 => ?_, E.fkeep (fun f z => by cases z)⟩
    · rcases set_some h with ⟨rfl, q, hl⟩ | ⟨ne, q⟩
      · cases q
        exact ⟨_, g1, hv⟩
      · obtain ⟨u, h1, h2⟩ := E.val j e q
        exact ⟨u, h1, Dp_mono ms _ _ h2⟩
    · rcases set_some h with ⟨_, q, _⟩ | ⟨ne, q⟩
      · cases q
      · obtain ⟨h1, h2, us, h3, h4⟩ := E.ow j as q
        exact ⟨h1, h2, us, h3, Ct.mono ms h4⟩
    · rcases set_some h1 with ⟨_, q, _⟩ | ⟨_, q⟩
      · cases q
      · rcases set_some h2 with ⟨_, r, _⟩ | ⟨_, r⟩
        · cases r
        · exact E.inj j k as bs q r h3
  · exact E
end
end Dn

namespace Dn
open PySem PySem.Spec PyProof.Rows L2

/-! ### 3. expressions -/
/-- what is out of sight for a value: with b the lists of names may stand in it -/
abbrev Vs (b : Bool) (M : Addr → Prop) (env : Env) (pa : Nat → Addr) : Addr → Prop := if b = true then M else Hd M env pa
def PEd (X : Cx) (b : Bool) (e : Expr) (g : GE) : Prop := ∃ t, PE X e t ∧ ∀ (H0 : Hp) (M : Addr → Prop) (env : Env) (σ : Sg) (H : Hp) (pa : Nat → Addr) (d : D) (Q : VK), EO X.K H0 M env σ H pa → g env = some d →
  (∀ v H', Same H H' → Dp X.K (vw (Vs b M env pa) H') v d → Q v H') → t σ H Q
def PAd (X : Cx) (b : Bool) (es : List Expr) (g : GA) : Prop := ∃ t, PA X es t ∧ ∀ (H0 : Hp) (M : Addr → Prop) (env : Env) (σ : Sg) (H : Hp) (pa : Nat → Addr) (ds : List D) (Q : List V → Hp → Prop), EO X.K H0 M env σ H pa → g env = some ds →
  (∀ vs H', Same H H' → DpAll X.K (vw (Vs b M env pa) H') vs ds → ds.length = es.length → Q vs H') → t σ H Q
def PTd (X : Cx) (e : Expr) (g : GB) : Prop := ∃ t, PT X e t ∧ ∀ (H0 : Hp) (M : Addr → Prop) (env : Env) (σ : Sg) (H : Hp) (pa : Nat → Addr) (k : Bool) (Q : Bool → Hp → Prop), EO X.K H0 M env σ H pa → g env = some k →
  (∀ H', Same H H' → Q k H') → t σ H Q
def PWd (X : Cx) (e : Expr) (g : GB) : Prop := ∃ t, PW X e t ∧ ∀ (H0 : Hp) (M : Addr → Prop) (env : Env) (σ : Sg) (H : Hp) (pa : Nat → Addr) (k : Bool) (Q : Bool → Hp → Prop), EO X.K H0 M env σ H pa → g env = some k →
  (∀ H', Same H H' → Q k H') → t σ H Q
/-- nothing hidden is a free place -/
abbrev NF (P : Addr → Prop) (H : Hp) : Prop := ∀ p, P p → H p ≠ none
theorem Vs_nf {K : PySem.W.Frag} {H0 : Hp} {M : Addr → Prop} {env : Env} {σ : Sg} {H : Hp} {pa : Nat → Addr} (b : Bool) (E : EO K H0 M env σ H pa) : NF (Vs b M env pa) H := fun p h => by
  cases b with
  | true => exact E.hidden (.inl h)
  | false => exact E.hidden h
theorem vw_up {P : Addr → Prop} {H H' : Hp} (e : Same H H') : Same (vw P H) (vw P H') := vw_same e fun _ _ _ q => q
theorem NF.up {P : Addr → Prop} {H H' : Hp} (n : NF P H) (e : Same H H') : NF P H' := fun p h q => n p h (e.free q)
/-- two-place operations on data -/
def OpD (K : PySem.W.Frag) (r : R2) (f : D → D → Option D) : Prop := ∀ (P : Addr → Prop) (H : Hp) (x y : V) (d e z : D) (Q : VK), NF P H → Dp K (vw P H) x d → Dp K (vw P H) y e → f d e = some z →
  (∀ v H', Same H H' → Dp K (vw P H') v z → Q v H') → r x y H Q
def UnD (K : PySem.W.Frag) (r : V → Hp → VK → Prop) (f : D → Option D) : Prop := ∀ (P : Addr → Prop) (H : Hp) (x : V) (d z : D) (Q : VK), NF P H → Dp K (vw P H) x d → f d = some z →
  (∀ v H', Same H H' → Dp K (vw P H') v z → Q v H') → r x H Q
def CaD (K : PySem.W.Frag) (r : List V → Hp → VK → Prop) (f : List D → Option D) : Prop := ∀ (P : Addr → Prop) (H : Hp) (xs : List V) (ds : List D) (z : D) (Q : VK), NF P H → DpAll K (vw P H) xs ds → f ds = some z →
  (∀ v H', Same H H' → Dp K (vw P H') v z → Q v H') → r xs H Q
section
variable {X : Cx} {b : Bool} {e a c : Expr} {es : List Expr} {pos : Pos} {ga gb : GE}

theorem pd_var {i : Nat} {x : Str} (hN : X.N[i]? = some x) (hv : Vis X.env.scope x) (hd : (x == ("__debug__" : Str)) = false := by decide) (hcd : (x == ("__classdict__" : Str)) = false := by decide) : PEd X b (.Name x pos) (gVar i) := by
  refine ⟨_, pe_var hN hv hd hcd, fun H0 M env σ H pa d Q E h q => ?_⟩
  unfold gVar look at h
  split at h
  · rename_i d' hi
    cases h
    obtain ⟨v, h1, h2⟩ := E.val i _ hi
    refine ⟨v, h1, q v H (Same.refl H) ?_⟩
    cases b with
    | false => exact h2
    | true => exact Dp_mono (vw_same (Same.refl H) fun _ _ _ z => .inl z) _ _ h2
  · cases h
theorem pd_varB {i : Nat} {x : Str} (hN : X.N[i]? = some x) (hv : Vis X.env.scope x) (hd : (x == ("__debug__" : Str)) = false := by decide) (hcd : (x == ("__classdict__" : Str)) = false := by decide) : PEd X true (.Name x pos) (gVarB i) := by
  refine ⟨_, pe_var hN hv hd hcd, fun H0 M env σ H pa d Q E h q => ?_⟩
  have sm : Same (vw (Hd M env pa) H) (vw M H) := vw_same (Same.refl H) fun _ _ _ z => .inl z
  unfold gVarB lookB at h
  split at h
  · rename_i d' hi
    cases h
    obtain ⟨v, h1, h2⟩ := E.val i _ hi
    exact ⟨v, h1, q v H (Same.refl H) (Dp_mono sm _ _ h2)⟩
  · rename_i ds hi
    cases h
    obtain ⟨h1, h2, vs, h3, h4⟩ := E.own i _ hi
    refine ⟨_, h1, q _ H (Same.refl H) (.lst (.inl (.inl (vw_of (fun z => ?_) h3))) (DpAll_mono sm _ _ h4))⟩
    exact h2.2 z
  · cases h
/-- what bears no list is no list of a name's -/
def flat : D → Bool
  | .none => true
  | .bool _ => true
  | .int _ => true
  | .str _ => true
  | .tuple ds => flatAll ds
  | _ => false
where flatAll : List D → Bool
  | [] => true
  | d :: ds => flat d && flatAll ds
mutual
theorem Dp_flat {K : PySem.W.Frag} {H0 : Hp} {M : Addr → Prop} {env : Env} {σ : Sg} {H : Hp} {pa : Nat → Addr} (E : EO K H0 M env σ H pa) : ∀ (d : D) (v : V), flat d = true → Dp K (vw M H) v d → Dp K (vw (Hd M env pa) H) v d
  | .none, _, _, .non => .non
  | .bool _, _, _, .bl b => .bl b
  | .int _, _, _, .int i => .int i
  | .str _, _, _, .str x => .str x
  | .list _, _, h, _ => by cases h
  | .dict _, _, h, _ => by cases h
  | .tuple ds, _, h, .tup (a := a) hs ha => by
    refine .tup ?_ (DpAll_flat E ds _ h ha)
    rcases hs with (hs | ⟨o, hs⟩) | hs
    · obtain ⟨h1, h2⟩ := vw_some hs
      refine .inl (.inl (vw_of (fun z => ?_) h2))
      rcases z with z | ⟨i, es, z1, z2⟩
      · exact h1 z
      · obtain ⟨_, _, vs, h3, h4⟩ := E.ow i es z1
        rw [z2, h2] at h3
        cases h3
        cases h4
    · obtain ⟨h1, h2⟩ := vw_some hs
      refine .inl (.inr ⟨o, vw_of (fun z => ?_) h2⟩)
      rcases z with z | ⟨i, es, z1, z2⟩
      · exact h1 z
      · obtain ⟨_, _, vs, h3, h4⟩ := E.ow i es z1
        rw [z2, h2] at h3
        cases h3
        cases h4
    · exact .inr hs
theorem DpAll_flat {K : PySem.W.Frag} {H0 : Hp} {M : Addr → Prop} {env : Env} {σ : Sg} {H : Hp} {pa : Nat → Addr} (E : EO K H0 M env σ H pa) : ∀ (ds : List D) (vs : List V), flat.flatAll ds = true → DpAll K (vw M H) vs ds → DpAll K (vw (Hd M env pa) H) vs ds
  | [], _, _, .nil => .nil
  | d :: ds, _, h, .cons h1 h2 => by
    have hh := Bool.and_eq_true_iff.mp (show (flat d && flat.flatAll ds) = true from h)
    exact .cons (Dp_flat E d _ hh.1 h1) (DpAll_flat E ds _ hh.2 h2)
end
def gFlat (a : GE) : GE := fun env => (a env).bind fun d => if flat d = true then some d else none
theorem pd_flat (h : PEd X true e ga) : PEd X b e (gFlat ga) := by
  obtain ⟨t, ht, hh⟩ := h
  refine ⟨t, ht, fun H0 M env σ H pa d Q E h q => ?_⟩
  unfold gFlat at h
  cases ha : ga env with
  | none => rw [ha] at h; cases h
  | some d' =>
    rw [ha] at h
    have h : (if flat d' = true then some d' else none) = some d := h
    split at h
    · rename_i hf
      cases h
      refine hh H0 M env σ H pa d Q E ha fun v H' sm hv => q v H' sm ?_
      cases b with
      | true => exact hv
      | false => exact Dp_flat (E.up sm) d v hf hv
    · cases h
theorem pd_weak (h : PEd X false e ga) : PEd X true e ga := by
  obtain ⟨t, ht, hh⟩ := h
  exact ⟨t, ht, fun H0 M env σ H pa d Q E h q => hh H0 M env σ H pa d Q E h fun v H' sm hv => q v H' sm (Dp_mono (vw_same (Same.refl _) fun _ _ _ z => .inl z) _ _ hv)⟩
theorem pd_int {i j} : PEd X b (.Constant (.int i) j pos) (gC (.int i)) := ⟨_, pe_int, fun _ _ _ _ H _ _ Q _ h q => by cases h; exact q _ H (Same.refl H) (.int i)⟩
theorem pd_bl {k j} : PEd X b (.Constant (.bool k) j pos) (gC (.bool k)) := ⟨_, pe_bl, fun _ _ _ _ H _ _ Q _ h q => by cases h; exact q _ H (Same.refl H) (.bl k)⟩
theorem pd_non {j} : PEd X b (.Constant .none j pos) (gC .none) := ⟨_, pe_non, fun _ _ _ _ H _ _ Q _ h q => by cases h; exact q _ H (Same.refl H) .non⟩
theorem pd_str {x j} : PEd X b (.Constant (.str x) j pos) (gC (.str x)) := ⟨_, pe_str, fun _ _ _ _ H _ _ Q _ h q => by cases h; exact q _ H (Same.refl H) (.str x)⟩
/-- a constant of the module that is data in K -/
theorem pd_glob {x : Str} {v : V} {u : Value} {d : D} (hg : Gl X x) (hm : X.mg x = some u) (r : RelV v u) (hd : ∀ H, Dp X.K H v d) (hdb : (x == ("__debug__" : Str)) = false := by decide) : PEd X b (.Name x pos) (gC d) :=
  ⟨_, pe_glob hg hm r hdb, fun _ _ _ _ H _ _ Q _ h q => by cases h; exact q _ H (Same.refl H) (hd _)⟩

theorem two {ta tb : TE} {H0 : Hp} {M : Addr → Prop} {env : Env} {σ : Sg} {H : Hp} {pa : Nat → Addr} {d e' : D} {R : V → V → Hp → Prop} (E : EO X.K H0 M env σ H pa)
    (ha : ∀ (H0 : Hp) (M : Addr → Prop) (env : Env) (σ : Sg) (H : Hp) (pa : Nat → Addr) (d : D) (Q : VK), EO X.K H0 M env σ H pa → ga env = some d → (∀ v H', Same H H' → Dp X.K (vw (Vs b M env pa) H') v d → Q v H') → ta σ H Q)
    (hb : ∀ (H0 : Hp) (M : Addr → Prop) (env : Env) (σ : Sg) (H : Hp) (pa : Nat → Addr) (d : D) (Q : VK), EO X.K H0 M env σ H pa → gb env = some d → (∀ v H', Same H H' → Dp X.K (vw (Vs b M env pa) H') v d → Q v H') → tb σ H Q)
    (h1 : ga env = some d) (h2 : gb env = some e') (k : ∀ x y H', Same H H' → Dp X.K (vw (Vs b M env pa) H') x d → Dp X.K (vw (Vs b M env pa) H') y e' → R x y H') : ta σ H fun x H1 => tb σ H1 fun y H2 => R x y H2 :=
  ha H0 M env σ H pa d _ E h1 fun x H1 s1 hx => hb H0 M env σ H1 pa e' _ (E.up s1) h2 fun y H2 s2 hy => k x y H2 (s1.trans s2) (Dp_mono (vw_up s2) _ _ hx) hy
theorem bind2 {α β γ : Type} {x : Option α} {y : Option β} {f : α → β → Option γ} {z : γ} (h : (x.bind fun u => y.bind fun v => f u v) = some z) : ∃ u v, x = some u ∧ y = some v ∧ f u v = some z := by
  cases x with
  | none => cases h
  | some u =>
    cases y with
    | none => cases h
    | some v => exact ⟨u, v, rfl, rfl, h⟩
theorem bind1 {α γ : Type} {x : Option α} {f : α → Option γ} {z : γ} (h : x.bind f = some z) : ∃ u, x = some u ∧ f u = some z := by
  cases x with
  | none => cases h
  | some u => exact ⟨u, rfl, h⟩
theorem pd_op {op : Operator} {r : R2} {f : D → D → Option D} (ho : OpR X (binaryOp op) r) (hf : OpD X.K r f) (ha : PEd X b a ga) (hb : PEd X b c gb) : PEd X b (.BinOp a op c pos) (g2 f ga gb) := by
  obtain ⟨ta, pa', ha⟩ := ha
  obtain ⟨tb, pb', hb⟩ := hb
  refine ⟨_, pe_op ho pa' pb', fun H0 M env σ H pa d Q E h q => ?_⟩
  obtain ⟨d1, d2, h1, h2, h3⟩ := bind2 h
  exact two E ha hb h1 h2 fun x y H' s hx hy => hf _ H' x y d1 d2 d Q (Vs_nf b (E.up s)) hx hy h3 fun v H'' s' hv => q v H'' (s.trans s') hv
theorem pd_un {op : UnaryOp} {r : V → Hp → VK → Prop} {f : D → Option D} (ho : UnR X (unaryOp op) r) (hf : UnD X.K r f) (ha : PEd X b a ga) : PEd X b (.UnaryOp op a pos) (g1 f ga) := by
  obtain ⟨ta, pa', ha⟩ := ha
  refine ⟨_, pe_un ho pa', fun H0 M env σ H pa d Q E h q => ?_⟩
  obtain ⟨d1, h1, h3⟩ := bind1 h
  exact ha H0 M env σ H pa d1 _ E h1 fun x H' s hx => hf _ H' x d1 d Q (Vs_nf b (E.up s)) hx h3 fun v H'' s' hv => q v H'' (s.trans s') hv
theorem pd_cmp {op : CmpOp} {r : R2} {f : D → D → Option D} (ho : OpR X (compareOp op) r) (hf : OpD X.K r f) (ha : PEd X b a ga) (hb : PEd X b c gb) (hm : behindInMarks op c = false) : PEd X b (.Compare a [op] [c] pos) (g2 f ga gb) := by
  obtain ⟨ta, pa', ha⟩ := ha
  obtain ⟨tb, pb', hb⟩ := hb
  refine ⟨_, pe_cmpR ho pa' pb' hm, fun H0 M env σ H pa d Q E h q => ?_⟩
  obtain ⟨d1, d2, h1, h2, h3⟩ := bind2 h
  exact two E ha hb h1 h2 fun x y H' s hx hy => hf _ H' x y d1 d2 d Q (Vs_nf b (E.up s)) hx hy h3 fun v H'' s' hv => q v H'' (s.trans s') hv
theorem asBool_some {d : D} {k : Bool} (h : asBool d = some k) : d = .bool k := by
  cases d <;> cases h
  rfl
theorem pt_cmpD {op : CmpOp} {r : R2} {f : D → D → Option D} (ho : OpR X (compareOp op) r) (hf : OpD X.K r f) (ha : PEd X true a ga) (hb : PEd X true c gb) (hm : behindInMarks op c = false) : PTd X (.Compare a [op] [c] pos) (gTest (g2 f ga gb)) := by
  obtain ⟨ta, pa', ha⟩ := ha
  obtain ⟨tb, pb', hb⟩ := hb
  refine ⟨_, pt_cmpR ho pa' pb' hm, fun H0 M env σ H pa k Q E h q => ?_⟩
  obtain ⟨d, h0, hk⟩ := bind1 h
  have hk := asBool_some hk
  subst hk
  obtain ⟨d1, d2, h1, h2, h3⟩ := bind2 h0
  exact two E ha hb h1 h2 fun x y H' s hx hy => hf _ H' x y d1 d2 _ _ (Vs_nf true (E.up s)) hx hy h3 fun v H'' s' hv => by
    cases hv
    exact ⟨k, rfl, q H'' (s.trans s')⟩
/-- an expression whose value is a bool, as a test -/
theorem pt_valD (ha : PEd X true e ga) (he : ∀ whole, isTrue e X.env whole = (do let v ← whole; standAt e.pos; holding [v] (truthy v)) := by intro _; rfl) : PTd X e (gTest ga) := by
  obtain ⟨ta, pa', ha⟩ := ha
  refine ⟨_, pt_val pa' he, fun H0 M env σ H pa k Q E h q => ?_⟩
  obtain ⟨d, h0, hk⟩ := bind1 h
  have hk := asBool_some hk
  subst hk
  exact ha H0 M env σ H pa _ _ E h0 fun v H' s hv => by
    cases hv
    exact ⟨k, rfl, q H' s⟩
theorem truD {K : PySem.W.Frag} {P : Addr → Prop} {H : Hp} {v : V} {d : D} {k : Bool} (hv : Dp K (vw P H) v d) (h : vTruth d = some k) : TruV K v H k := by
  cases hv with
  | non => cases h; rfl
  | bl b => cases h; rfl
  | int i => cases h; rfl
  | str x =>
    have h : (if x.length ≤ lim then some ((x.length : Int) != 0) else none) = some k := h
    split at h
    · rename_i hl
      cases h
      exact ⟨by rw [← lim_eq]; exact hl, rfl⟩
    · cases h
  | lst hs ha =>
    cases h
    refine .inl ⟨_, vw_le.seq hs, ?_⟩
    cases ha <;> rfl
  | tup hs ha =>
    cases h
    refine .inr (.inl ⟨_, seqT vw_le hs, ?_⟩)
    cases ha <;> rfl
theorem pt_truthD (ha : PEd X true e ga) (he : ∀ whole, isTrue e X.env whole = (do let v ← whole; standAt e.pos; holding [v] (truthy v)) := by intro _; rfl) : PTd X e (gTruth ga) := by
  obtain ⟨ta, pa', ha⟩ := ha
  refine ⟨_, pt_truth pa' he, fun H0 M env σ H pa k Q E h q => ?_⟩
  obtain ⟨d, h0, hk⟩ := bind1 h
  exact ha H0 M env σ H pa _ _ E h0 fun v H' s hv => ⟨k, truD hv hk, q H' s⟩
variable {gA gB : GB} {rest : List Expr}
theorem PWd.pt (h : PWd X e gA) : PTd X e gA := by
  obtain ⟨t, ht, hh⟩ := h
  exact ⟨t, ht.pt, hh⟩
theorem pw_and1D (ha : PTd X a gA) : PWd X (.BoolOp .And [a] pos) gA := by
  obtain ⟨t, ht, hh⟩ := ha
  exact ⟨t, pw_and1 ht, hh⟩
theorem pw_or1D (ha : PTd X a gA) : PWd X (.BoolOp .Or [a] pos) gA := by
  obtain ⟨t, ht, hh⟩ := ha
  exact ⟨t, pw_or1 ht, hh⟩
theorem pw_andD (ha : PTd X a gA) (hb : PWd X (.BoolOp .And (c :: rest) pos) gB) : PWd X (.BoolOp .And (a :: c :: rest) pos) (gAnd gA gB) := by
  obtain ⟨t, ht, hh⟩ := ha
  obtain ⟨u, hu, hh'⟩ := hb
  refine ⟨_, pw_and ht hu, fun H0 M env σ H pa k Q E h q => ?_⟩
  obtain ⟨k1, h1, h2⟩ := bind1 h
  refine hh H0 M env σ H pa k1 _ E h1 fun H' s => ?_
  cases k1 with
  | true =>
    rw [if_pos rfl] at h2 ⊢
    exact hh' H0 M env σ H' pa k Q (E.up s) h2 fun H'' s' => q H'' (s.trans s')
  | false =>
    rw [if_neg (by decide)] at h2 ⊢
    cases h2
    exact q H' s
theorem pw_orD (ha : PTd X a gA) (hb : PWd X (.BoolOp .Or (c :: rest) pos) gB) : PWd X (.BoolOp .Or (a :: c :: rest) pos) (gOr gA gB) := by
  obtain ⟨t, ht, hh⟩ := ha
  obtain ⟨u, hu, hh'⟩ := hb
  refine ⟨_, pw_or ht hu, fun H0 M env σ H pa k Q E h q => ?_⟩
  obtain ⟨k1, h1, h2⟩ := bind1 h
  refine hh H0 M env σ H pa k1 _ E h1 fun H' s => ?_
  cases k1 with
  | false =>
    rw [if_neg (by decide)] at h2 ⊢
    exact hh' H0 M env σ H' pa k Q (E.up s) h2 fun H'' s' => q H'' (s.trans s')
  | true =>
    rw [if_pos rfl] at h2 ⊢
    cases h2
    exact q H' s
theorem pt_notD (ha : PTd X a gA) : PTd X (.UnaryOp .Not a pos) (gNot gA) := by
  obtain ⟨t, ht, hh⟩ := ha
  refine ⟨_, pt_not ht, fun H0 M env σ H pa k Q E h q => ?_⟩
  obtain ⟨k1, h1, h2⟩ := bind1 h
  cases h2
  exact hh H0 M env σ H pa k1 _ E h1 fun H' s => q H' s
theorem pd_one {op} (h : PEd X b a ga) : PEd X b (.BoolOp op [a] pos) ga := by
  obtain ⟨t, ht, hh⟩ := h
  exact ⟨t, pe_one ht, hh⟩
theorem pd_and (ha : PEd X b a ga) (hb : PEd X b (.BoolOp .And (c :: rest) pos) gb) : PEd X b (.BoolOp .And (a :: c :: rest) pos) (gAndV ga gb) := by
  obtain ⟨t, ht, hh⟩ := ha
  obtain ⟨u, hu, hh'⟩ := hb
  refine ⟨_, pe_and ht hu, fun H0 M env σ H pa d Q E h q => ?_⟩
  obtain ⟨d1, h1, h2⟩ := bind1 h
  obtain ⟨k1, h3, h4⟩ := bind1 h2
  have h3 := asBool_some h3
  subst h3
  refine hh H0 M env σ H pa _ _ E h1 fun v H' s hv => ?_
  cases hv
  refine ⟨k1, rfl, ?_⟩
  cases k1 with
  | true =>
    rw [if_pos rfl] at h4 ⊢
    exact hh' H0 M env σ H' pa d Q (E.up s) h4 fun v H'' s' => q v H'' (s.trans s')
  | false =>
    rw [if_neg (by decide)] at h4 ⊢
    cases h4
    exact q _ H' s (.bl false)
theorem pd_or (ha : PEd X b a ga) (hb : PEd X b (.BoolOp .Or (c :: rest) pos) gb) : PEd X b (.BoolOp .Or (a :: c :: rest) pos) (gOrV ga gb) := by
  obtain ⟨t, ht, hh⟩ := ha
  obtain ⟨u, hu, hh'⟩ := hb
  refine ⟨_, pe_or ht hu, fun H0 M env σ H pa d Q E h q => ?_⟩
  obtain ⟨d1, h1, h2⟩ := bind1 h
  obtain ⟨k1, h3, h4⟩ := bind1 h2
  have h3 := asBool_some h3
  subst h3
  refine hh H0 M env σ H pa _ _ E h1 fun v H' s hv => ?_
  cases hv
  refine ⟨k1, rfl, ?_⟩
  cases k1 with
  | false =>
    rw [if_neg (by decide)] at h4 ⊢
    exact hh' H0 M env σ H' pa d Q (E.up s) h4 fun v H'' s' => q v H'' (s.trans s')
  | true =>
    rw [if_pos rfl] at h4 ⊢
    cases h4
    exact q _ H' s (.bl true)
theorem pd_not (ha : PEd X b a ga) : PEd X b (.UnaryOp .Not a pos) (gNotV ga) := by
  obtain ⟨t, ht, hh⟩ := ha
  refine ⟨_, pe_not ht, fun H0 M env σ H pa d Q E h q => ?_⟩
  obtain ⟨d1, h1, h2⟩ := bind1 h
  obtain ⟨k1, h3, h4⟩ := bind1 h2
  have h3 := asBool_some h3
  subst h3
  cases h4
  refine hh H0 M env σ H pa _ _ E h1 fun v H' s hv => ?_
  cases hv
  exact ⟨k1, rfl, q _ H' s (.bl _)⟩
theorem pd_if {t : Expr} (hc : PTd X t gA) (ha : PEd X b a ga) (hb : PEd X b c gb) : PEd X b (.IfExp t a c pos) (gIfE gA ga gb) := by
  obtain ⟨t0, ht, hh⟩ := hc
  obtain ⟨t1, ht1, hh1⟩ := ha
  obtain ⟨t2, ht2, hh2⟩ := hb
  refine ⟨_, pe_ifExp ht ht1 ht2, fun H0 M env σ H pa d Q E h q => ?_⟩
  obtain ⟨k, h1, h2⟩ := bind1 h
  refine hh H0 M env σ H pa k _ E h1 fun H' s => ?_
  cases k with
  | true =>
    rw [if_pos rfl] at h2 ⊢
    exact hh1 H0 M env σ H' pa d Q (E.up s) h2 fun v H'' s' => q v H'' (s.trans s')
  | false =>
    rw [if_neg (by decide)] at h2 ⊢
    exact hh2 H0 M env σ H' pa d Q (E.up s) h2 fun v H'' s' => q v H'' (s.trans s')

/-! arguments, displays, calls -/
variable {gs : GA}
theorem pad_nil : PAd X b [] aNil := ⟨_, pa_nil, fun _ _ _ _ H _ _ Q _ h q => by cases h; exact q [] H (Same.refl H) .nil rfl⟩
theorem pad_cons (ha : PEd X b e ga) (hr : PAd X b es gs) (hs : starEach (e :: es) X.env = (false, eval e X.env) :: starEach es X.env := by rfl) : PAd X b (e :: es) (aCons ga gs) := by
  obtain ⟨t, ht, hh⟩ := ha
  obtain ⟨u, hu, hh'⟩ := hr
  refine ⟨_, pa_cons ht hu hs, fun H0 M env σ H pa ds Q E h q => ?_⟩
  obtain ⟨d, ds', h1, h2, h3⟩ := bind2 h
  cases h3
  refine hh H0 M env σ H pa d _ E h1 fun v H1 s1 hv => hh' H0 M env σ H1 pa ds' _ (E.up s1) h2 fun vs H2 s2 hvs hl => ?_
  exact q _ H2 (s1.trans s2) (.cons (Dp_mono (vw_up s2) _ _ hv) hvs) (by rw [List.length_cons, List.length_cons, hl])
theorem pd_tup {x1} (h : PAd X b es gs) (hz : es.length ≤ lim := by decide) : PEd X b (.Tuple es x1 pos) (gArgs vTup gs) := by
  obtain ⟨t, ht, hh⟩ := h
  refine ⟨_, pe_tup ht, fun H0 M env σ H pa d Q E h q => ?_⟩
  obtain ⟨ds, h1, h2⟩ := bind1 h
  cases h2
  refine hh H0 M env σ H pa ds _ E h1 fun vs H' s hv hl => ⟨by rw [DpAll_len hv, hl, ← lim_eq]; exact hz, fun p hp => ?_⟩
  have nP := fun z => Vs_nf b (E.up s) p z hp
  refine q _ _ (s.trans (same_upd hp)) (.tup (.inl (.inl (vw_of nP upd_same))) (DpAll_mono (vw_up (same_upd hp)) _ _ hv))
theorem pd_lst (h : PAd X b es gs) (hz : es.length ≤ lim := by decide) : PEd X b (.List es pos) (gArgs vLst gs) := by
  obtain ⟨t, ht, hh⟩ := h
  refine ⟨_, pe_lst ht, fun H0 M env σ H pa d Q E h q => ?_⟩
  obtain ⟨ds, h1, h2⟩ := bind1 h
  cases h2
  refine hh H0 M env σ H pa ds _ E h1 fun vs H' s hv hl => ⟨by rw [DpAll_len hv, hl, ← lim_eq]; exact hz, fun p hp => ?_⟩
  have nP := fun z => Vs_nf b (E.up s) p z hp
  refine q _ _ (s.trans (same_upd hp)) (.lst (.inl (.inl (vw_of nP upd_same))) (DpAll_mono (vw_up (same_upd hp)) _ _ hv))
/-- a def's promise by data -/
def SpD (K : PySem.W.Frag) (n : Nat) (F : List D → Option D) : Sp := fun vs H Q _ => ∃ ds d P, DpAll K (vw P H) vs ds ∧ F ds = some d ∧ ds.length = n ∧ NF P H ∧ ∀ v H', Same H H' → Dp K (vw P H') v d → Q v H'
theorem SpD.len {K : PySem.W.Frag} {n : Nat} {F : List D → Option D} {vs : List V} {H : Hp} {Q : VK} {E : XK} (h : SpD K n F vs H Q E) : vs.length = n := by
  obtain ⟨ds, d, P, h1, _, h3, _⟩ := h
  rw [DpAll_len h1, h3]
theorem pd_call {k : Nat} {f : Addr} {fd : FuncData} {ps : List Str} {x : Str} {p : Pos} {F : List D → Option D} (G : FnOk X.prog X.w X.K X.mg X.base CX0 k f fd ps (SpD X.K (e :: es).length F)) (hr : Room k X.A) (hg : Gl X x) (hm : X.mg x = some (.ref f)) (hk : PySem.W.keepIn X.K (.ref f) = true) (hb : Binds X.K fd ps [])
    (ha : PAd X b (e :: es) gs) (hdb : (x == ("__debug__" : Str)) = false := by decide) (he : starEach (e :: es) X.env = (false, eval e X.env) :: starEach es X.env := by rfl) (hpl : (backTo pos (starEach es X.env)).any (·.1) = false := by rfl) :
    PEd X b (.Call (.Name x p) (e :: es) [] pos) (gArgs F gs) := by
  obtain ⟨t, ht, hh⟩ := ha
  refine ⟨_, pe_call (E := fun _ _ _ => False) G hr hg hm hk hb .nil pass0 ht hdb he hpl, fun H0 M env σ H pa d Q E h q => ?_⟩
  obtain ⟨ds, h1, h2⟩ := bind1 h
  refine hh H0 M env σ H pa ds _ E h1 fun vs H' s hv hl => ?_
  refine ⟨ds, d, _, by rw [List.append_nil]; exact hv, h2, hl, Vs_nf b (E.up s), fun v H'' s' hv' => q v H'' (s.trans s') hv'⟩
theorem pd_callB {x : Str} {p : Pos} {id : String} {r : List V → Hp → VK → Prop} {f : List D → Option D} (hc : CallR X (.builtin id) r) (hf : CaD X.K r f) (hg : Gl X x) (hm : X.mg x = none) (hv : bootBuiltins x = some (.builtin id)) (ha : PAd X b (e :: es) gs) (hn : x ≠ "__name__" := by decide) (hdb : (x == ("__debug__" : Str)) = false := by decide)
    (he : starEach (e :: es) X.env = (false, eval e X.env) :: starEach es X.env := by rfl) (hpl : (backTo pos (starEach es X.env)).any (·.1) = false := by rfl) : PEd X b (.Call (.Name x p) (e :: es) [] pos) (gArgs f gs) := by
  obtain ⟨t, ht, hh⟩ := ha
  refine ⟨_, pe_callB hc hg hm hv ht hn hdb he hpl, fun H0 M env σ H pa d Q E h q => ?_⟩
  obtain ⟨ds, h1, h2⟩ := bind1 h
  refine hh H0 M env σ H pa ds _ E h1 fun vs H' s hv hl => ?_
  exact hf _ H' vs ds d Q (Vs_nf b (E.up s)) hv h2 fun v H'' s' hv' => q v H'' (s.trans s') hv'
theorem pd_callTy {x : Str} {p : Pos} {T : String} {r : List V → Hp → VK → Prop} {f : List D → Option D} (hc : CallR X (.type T) r) (hf : CaD X.K r f) (hg : Gl X x) (hm : X.mg x = none) (hv : bootBuiltins x = some (.type T)) (ha : PAd X b (e :: es) gs) (hn : x ≠ "__name__" := by decide) (hdb : (x == ("__debug__" : Str)) = false := by decide)
    (he : starEach (e :: es) X.env = (false, eval e X.env) :: starEach es X.env := by rfl) (hpl : (backTo pos (starEach es X.env)).any (·.1) = false := by rfl) : PEd X b (.Call (.Name x p) (e :: es) [] pos) (gArgs f gs) := by
  obtain ⟨t, ht, hh⟩ := ha
  refine ⟨_, pe_callTy hc hg hm hv ht hn hdb he hpl, fun H0 M env σ H pa d Q E h q => ?_⟩
  obtain ⟨ds, h1, h2⟩ := bind1 h
  refine hh H0 M env σ H pa ds _ E h1 fun vs H' s hv hl => ?_
  exact hf _ H' vs ds d Q (Vs_nf b (E.up s)) hv h2 fun v H'' s' hv' => q v H'' (s.trans s') hv'
end
end Dn

namespace Dn
open PySem PySem.Spec PyProof.Rows L2

/-! ### 4. statements -/
def Post (K : PySem.W.Frag) (H0 : Hp) (M : Addr → Prop) (o : Out) (T : Ends) : Prop := match o with
  | .nx env => ∀ σ H pa, EO K H0 M env σ H pa → T.nx σ H
  | .ret d => ∀ v H, Same H0 H → Dp K (vw M H) v d → T.rt v H
  | .bk env => ∀ σ H pa, EO K H0 M env σ H pa → T.bk σ H
  | .ct env => ∀ σ H pa, EO K H0 M env σ H pa → T.ct σ H
def RdS (K : PySem.W.Frag) (t : TS) (g : GS) : Prop := ∀ (H0 : Hp) (M : Addr → Prop) (env : Env) (σ : Sg) (H : Hp) (pa : Nat → Addr) (o : Out) (T : Ends), EO K H0 M env σ H pa → g env = some o → Post K H0 M o T → t T σ H
def PSd (X : Cx) (st : Stmt) (g : GS) : Prop := ∃ t, PS X st t ∧ RdS X.K t g
def PSsd (X : Cx) (sts : List Stmt) (g : GS) : Prop := ∃ t, PSs X sts t ∧ RdS X.K t g
/-- a target -/
def PGd (X : Cx) (tg : Expr) (t : GT) : Prop := ∃ g, PG X tg g ∧ ∀ (H0 : Hp) (M : Addr → Prop) (env : Env) (σ : Sg) (H : Hp) (pa : Nat → Addr) (v : V) (d : D) (env' : Env) (Q : Sg → Hp → Prop), EO X.K H0 M env σ H pa → Dp X.K (vw (Hd M env pa) H) v d → t d env = some env' →
  (∀ σ' H' pa', EO X.K H0 M env' σ' H' pa' → Q σ' H') → g v σ H Q
def PGsd (X : Cx) (tgs : List Expr) (ts : List GT) : Prop := ∃ g, PGs X tgs g ∧ ∀ (H0 : Hp) (M : Addr → Prop) (env : Env) (σ : Sg) (H : Hp) (pa : Nat → Addr) (vs : List V) (ds : List D) (env' : Env) (Q : Sg → Hp → Prop), EO X.K H0 M env σ H pa → DpAll X.K (vw (Hd M env pa) H) vs ds → tTup2 ts ds env = some env' →
  (∀ σ' H' pa', EO X.K H0 M env' σ' H' pa' → Q σ' H') → g vs σ H Q
/-- what a loop walks -/
structure Wk (K : PySem.W.Frag) (Hc : Hp) (J : It) (ds : List D) : Prop where
  stop : ∀ H2, Same Hc H2 → J.stop ds.length H2
  go : ∀ (i : Nat) (d : D) H2, Same Hc H2 → ds[i]? = some d → J.go i H2 ∧ ∀ x H3, J.yld i H2 x H3 → Same H2 H3 ∧ ∀ P, NF P H2 → Same Hc (vw P H2) → Dp K (vw P H3) x d
def PId (X : Cx) (tg iter : Expr) (b : Bool) (g : GA) : Prop := ∃ wi, PI X tg iter wi ∧ ∀ (H0 : Hp) (M : Addr → Prop) (env : Env) (σ : Sg) (H : Hp) (pa : Nat → Addr) (ds : List D) (R : It → Hp → Prop), EO X.K H0 M env σ H pa → g env = some ds →
  (∀ J H', Same H H' → Wk X.K (vw (Vs b M env pa) H') J ds → R J H') → wi σ H R
section
variable {X : Cx} {b : Bool} {e a c tg iter : Expr} {es tgs : List Expr} {pos : Pos} {ga gb : GE} {gS gT' : GS} {st : Stmt} {sts body : List Stmt} {cB : GB}

theorem psd_nil : PSsd X [] sNx := ⟨_, pss_nil, fun H0 M env σ H pa o T E h q => by cases h; exact q σ H pa E⟩
theorem psd_cons (h1 : PSd X st gS) (h2 : PSsd X sts gT') : PSsd X (st :: sts) (sSeq gS gT') := by
  obtain ⟨t, ht, hh⟩ := h1
  obtain ⟨u, hu, hh'⟩ := h2
  refine ⟨_, pss_cons ht hu, fun H0 M env σ H pa o T E h q => ?_⟩
  obtain ⟨o1, h1, h2⟩ := bind1 h
  refine hh H0 M env σ H pa o1 { T with nx := u T } E h1 ?_
  cases o1 with
  | nx env1 => exact fun σ' H' pa' E' => hh' H0 M env1 σ' H' pa' o T E' h2 q
  | ret d => cases h2; exact q
  | bk env1 => cases h2; exact q
  | ct env1 => cases h2; exact q
theorem psd_one (h1 : PSd X st gS) : PSsd X [st] gS := by
  obtain ⟨t, ht, hh⟩ := h1
  exact ⟨t, pss_one ht, hh⟩
/-- a name's own list is given up ahead of what follows -/
theorem psd_frz (i : Nat) (h : PSsd X sts gS) : PSsd X sts (fun env => gS (frz i env)) := by
  obtain ⟨t, ht, hh⟩ := h
  exact ⟨t, ht, fun H0 M env σ H pa o T E h q => hh H0 M _ σ H pa o T (E.frz i) h q⟩
theorem ps_frz (i : Nat) (h : PSd X st gS) : PSd X st (fun env => gS (frz i env)) := by
  obtain ⟨t, ht, hh⟩ := h
  exact ⟨t, ht, fun H0 M env σ H pa o T E h q => hh H0 M _ σ H pa o T (E.frz i) h q⟩
theorem sd_pass : PSd X (.Pass pos) sNx := ⟨_, ps_pass, fun H0 M env σ H pa o T E h q => by cases h; exact q σ H pa E⟩
theorem sd_break : PSd X (.Break pos) sBk := ⟨_, ps_break, fun H0 M env σ H pa o T E h q => by cases h; exact q σ H pa E⟩
theorem sd_cont : PSd X (.Continue pos) sCt := ⟨_, ps_continue, fun H0 M env σ H pa o T E h q => by cases h; exact q σ H pa E⟩
theorem sd_ret (he : PEd X true e ga) : PSd X (.Return (some e) pos) (sRet ga) := by
  obtain ⟨t, ht, hh⟩ := he
  refine ⟨_, ps_ret ht, fun H0 M env σ H pa o T E h q => ?_⟩
  obtain ⟨d, h1, h2⟩ := bind1 h
  cases h2
  exact hh H0 M env σ H pa d _ E h1 fun v H' s hv => q v H' (E.same.trans s) hv
theorem sd_retN : PSd X (.Return none pos) sRetN := ⟨_, ps_retN, fun H0 M env σ H pa o T E h q => by cases h; exact q _ H E.same .non⟩
theorem sd_if (hc : PTd X c cB) (ha : PSsd X sts gS) (hb : PSsd X body gT') : PSd X (.If c sts body pos) (sIf cB gS gT') := by
  obtain ⟨t0, ht0, hh0⟩ := hc
  obtain ⟨t1, ht1, hh1⟩ := ha
  obtain ⟨t2, ht2, hh2⟩ := hb
  refine ⟨_, ps_if ht0 ht1 ht2, fun H0 M env σ H pa o T E h q => ?_⟩
  obtain ⟨k, h1, h2⟩ := bind1 h
  refine hh0 H0 M env σ H pa k _ E h1 fun H' s => ?_
  cases k with
  | true =>
    rw [if_pos rfl] at h2 ⊢
    exact hh1 H0 M env σ H' pa o T (E.up s) h2 q
  | false =>
    rw [if_neg (by decide)] at h2 ⊢
    exact hh2 H0 M env σ H' pa o T (E.up s) h2 q
theorem gd_name {i : Nat} {x : Str} (hN : X.N.Nodup) (hi : X.N[i]? = some x) (hx : Loc X.env.scope x) (hf : X.fn x = true ∨ X.env.scope.names.lookup x = some .local := by first | exact .inl rfl | exact .inr rfl | assumption) : PGd X (.Name x pos) (tName i) := by
  refine ⟨_, pg_name hN hi hx hf, fun H0 M env σ H pa v d env' Q E hv h q => ?_⟩
  cases h
  exact q _ H pa (E.setVal hv)
theorem gsd_nil : PGsd X [] [] := by
  refine ⟨_, pgs_nil, fun H0 M env σ H pa vs ds env' Q E hv h q => ?_⟩
  cases hv with
  | nil => cases h; exact ⟨rfl, q _ _ _ E⟩
  | cons _ _ => cases h
/-- the values still to come stay as data while the first names are set -/
theorem gsd_cons {t : GT} {ts : List GT} (h1 : PGd X e t) (h2 : PGsd X es ts) (hs : (assignEach (e :: es) X.env).map (·.2) = assign e X.env :: (assignEach es X.env).map (·.2) := by rfl)
    (hm : ∀ d env env' pa a, t d env = some env' → Ow env' pa a → Ow env pa a) (hh : ∃ g, PG X e g ∧ ∀ (H0 : Hp) (M : Addr → Prop) (env : Env) (σ : Sg) (H : Hp) (pa : Nat → Addr) (v : V) (d : D) (env' : Env) (Q : Sg → Hp → Prop), EO X.K H0 M env σ H pa → Dp X.K (vw (Hd M env pa) H) v d → t d env = some env' →
      (∀ σ' H', Same H H' → EO X.K H0 M env' σ' H' pa → Q σ' H') → g v σ H Q) : PGsd X (e :: es) (t :: ts) := by
  obtain ⟨g, hg, hh⟩ := hh
  obtain ⟨u, hu, hh'⟩ := h2
  refine ⟨_, pgs_cons hg hu hs, fun H0 M env σ H pa vs ds env' Q E hv h q => ?_⟩
  cases hv with
  | nil => cases h
  | cons hv1 hv2 =>
    obtain ⟨env1, h1, h2⟩ := bind1 h
    refine ⟨_, _, rfl, hh H0 M env σ H pa _ _ env1 _ E hv1 h1 fun σ' H' s E' => ?_⟩
    refine hh' H0 M env1 σ' H' pa _ _ env' Q E' (DpAll_mono (vw_same s fun a o _ z => ?_) _ _ hv2) h2 q
    rcases z with z | z
    · exact .inl z
    · exact .inr (hm _ _ _ _ _ h1 z)
/-- a target that is a name or a tuple of names: no heap is written -/
def PGq (X : Cx) (tg : Expr) (t : GT) : Prop := ∃ g, PG X tg g ∧ (∀ d env env' pa a, t d env = some env' → Ow env' pa a → Ow env pa a) ∧ ∀ (H0 : Hp) (M : Addr → Prop) (env : Env) (σ : Sg) (H : Hp) (pa : Nat → Addr) (v : V) (d : D) (env' : Env) (Q : Sg → Hp → Prop), EO X.K H0 M env σ H pa → Dp X.K (vw (Hd M env pa) H) v d → t d env = some env' →
      (∀ σ' H', Same H H' → EO X.K H0 M env' σ' H' pa → Q σ' H') → g v σ H Q
theorem PGq.d {t : GT} (h : PGq X tg t) : PGd X tg t := by
  obtain ⟨g, hg, _, hh⟩ := h
  exact ⟨g, hg, fun H0 M env σ H pa v d env' Q E hv h q => hh H0 M env σ H pa v d env' Q E hv h fun σ' H' _ E' => q σ' H' pa E'⟩
theorem gq_name {i : Nat} {x : Str} (hN : X.N.Nodup) (hi : X.N[i]? = some x) (hx : Loc X.env.scope x) (hf : X.fn x = true ∨ X.env.scope.names.lookup x = some .local := by first | exact .inl rfl | exact .inr rfl | assumption) : PGq X (.Name x pos) (tName i) := by
  refine ⟨_, pg_name hN hi hx hf, fun d env env' pa a h z => ?_, fun H0 M env σ H pa v d env' Q E hv h q => ?_⟩
  · cases h
    exact ow_set_val z
  · cases h
    exact q _ H (Same.refl H) (E.setVal hv)
def PGsq (X : Cx) (tgs : List Expr) (ts : List GT) : Prop := ∃ g, PGs X tgs g ∧ (∀ ds env env' pa a, tTup2 ts ds env = some env' → Ow env' pa a → Ow env pa a) ∧ ∀ (H0 : Hp) (M : Addr → Prop) (env : Env) (σ : Sg) (H : Hp) (pa : Nat → Addr) (vs : List V) (ds : List D) (env' : Env) (Q : Sg → Hp → Prop), EO X.K H0 M env σ H pa → DpAll X.K (vw (Hd M env pa) H) vs ds → tTup2 ts ds env = some env' →
      (∀ σ' H', Same H H' → EO X.K H0 M env' σ' H' pa → Q σ' H') → g vs σ H Q
theorem gsq_nil : PGsq X [] [] := by
  refine ⟨_, pgs_nil, fun ds env env' pa a h z => ?_, fun H0 M env σ H pa vs ds env' Q E hv h q => ?_⟩
  · cases ds with
    | nil => cases h; exact z
    | cons _ _ => cases h
  · cases hv with
    | nil => cases h; exact ⟨rfl, q _ _ (Same.refl H) E⟩
    | cons _ _ => cases h
theorem gsq_cons {t : GT} {ts : List GT} (h1 : PGq X e t) (h2 : PGsq X es ts) (hs : (assignEach (e :: es) X.env).map (·.2) = assign e X.env :: (assignEach es X.env).map (·.2) := by rfl) : PGsq X (e :: es) (t :: ts) := by
  obtain ⟨g, hg, hm, hh⟩ := h1
  obtain ⟨u, hu, hm', hh'⟩ := h2
  refine ⟨_, pgs_cons hg hu hs, fun ds env env' pa a h z => ?_, fun H0 M env σ H pa vs ds env' Q E hv h q => ?_⟩
  · cases ds with
    | nil => cases h
    | cons d ds =>
      obtain ⟨env1, h1, h2⟩ := bind1 h
      exact hm _ _ _ _ _ h1 (hm' _ _ _ _ _ h2 z)
  · cases hv with
    | nil => cases h
    | cons hv1 hv2 =>
      obtain ⟨env1, h1, h2⟩ := bind1 h
      refine ⟨_, _, rfl, hh H0 M env σ H pa _ _ env1 _ E hv1 h1 fun σ' H' s E' => ?_⟩
      refine hh' H0 M env1 σ' H' pa _ _ env' Q E' (DpAll_mono (vw_same s fun a o _ z => ?_) _ _ hv2) h2 fun σ'' H'' s' => q σ'' H'' (s.trans s')
      rcases z with z | z
      · exact .inl z
      · exact .inr (hm _ _ _ _ _ h1 z)
theorem gq_tup {k : Nat} {ts : List GT} (hc : X.calm = true) (h : PGsq X es ts) (hl : ts.length = es.length := by rfl) (hn : (assignEach es X.env).length = es.length := by rfl) (hst : (assignEach es X.env).findIdx? (·.1) = none := by rfl) : PGq X (.Tuple es k pos) (tTuple ts) := by
  obtain ⟨g, hg, hm, hh⟩ := h
  refine ⟨_, pg_tup (n := es.length) hc hg hn hst, fun d env env' pa a h z => ?_, fun H0 M env σ H pa v d env' Q E hv h q => ?_⟩
  · cases d with
    | tuple ds => exact hm ds env env' pa a h z
    | _ => cases h
  · cases hv with
    | tup hs ha =>
      have h : tTup2 ts _ env = some env' := h
      have len : ∀ (ts : List GT) (ds : List D) (env env' : Env), tTup2 ts ds env = some env' → ds.length = ts.length := by
        intro ts
        induction ts with
        | nil => intro ds env env' h; cases ds with
          | nil => rfl
          | cons _ _ => cases h
        | cons t ts ih => intro ds env env' h; cases ds with
          | nil => cases h
          | cons d ds =>
            obtain ⟨env1, h1, h2⟩ := bind1 h
            rw [List.length_cons, List.length_cons, ih ds env1 env' h2]
      refine ⟨_, _, rfl, seqT vw_le hs, by rw [DpAll_len ha, len _ _ _ _ h, hl], hh H0 M env σ H pa _ _ env' Q E ha h q⟩
    | _ => cases h
theorem sd_asg {t : GT} (he : PEd X false e ga) (hg : PGd X tg t) (hs : swapsWithSole [tg] e pos.line X.env = pure false := by rfl) (hw : swappedStores [tg] e X.env = pure none := by rfl)
    (h1 : (assignEach [tg] X.env).map (·.2) = [assign tg X.env] := by rfl) : PSd X (.Assign [tg] e pos) (sAsg ga t) := by
  obtain ⟨t0, ht, hh⟩ := he
  obtain ⟨g, hg, hh'⟩ := hg
  refine ⟨_, ps_asg ht hg hs hw h1, fun H0 M env σ H pa o T E h q => ?_⟩
  obtain ⟨d, h1, h2⟩ := bind1 h
  obtain ⟨env', h3, h4⟩ := bind1 h2
  cases h4
  exact hh H0 M env σ H pa d _ E h1 fun v H' s hv => hh' H0 M env σ H' pa v d env' _ (E.up s) hv h3 q
theorem sd_set {i : Nat} {x : Str} {pos' : Pos} (hN : X.N.Nodup) (hi : X.N[i]? = some x) (hx : Loc X.env.scope x) (he : PEd X false e ga) (hs : swapsWith e (some (.Name x pos')) pos.line X.env = pure false := by rfl) (hf : X.fn x = true ∨ X.env.scope.names.lookup x = some .local := by first | exact .inl rfl | exact .inr rfl | assumption) :
    PSd X (.Assign [.Name x pos'] e pos) (sSet i ga) := by
  obtain ⟨t0, ht, hh⟩ := he
  refine ⟨_, ps_set hN hi hx ht hs hf, fun H0 M env σ H pa o T E h q => ?_⟩
  obtain ⟨d, h1, h2⟩ := bind1 h
  cases h2
  exact hh H0 M env σ H pa d _ E h1 fun v H' s hv => q _ H' pa ((E.up s).setVal hv)
theorem sd_par {i j : Nat} {x y : Str} {px py pt : Pos} {kt k2 pt2} (hc : X.calm = true) (hN : X.N.Nodup) (hi : X.N[i]? = some x) (hj : X.N[j]? = some y) (hij : i ≠ j)
    (hx : X.env.scope.names.lookup x = some .local) (hy : X.env.scope.names.lookup y = some .local) (ha : PEd X false a ga) (hb : PEd X false c gb)
    (hw : swappedStores [.Tuple [.Name x px, .Name y py] kt pt] (.Tuple [a, c] k2 pt2) X.env = pure (some [x, y]) := by rfl)
    (hs : swapsWithSole [.Tuple [.Name x px, .Name y py] kt pt] (.Tuple [a, c] k2 pt2) pos.line X.env = pure false := by rfl)
    (hs1 : starEach [a, c] X.env = (false, eval a X.env) :: starEach [c] X.env := by rfl) (hs2 : starEach [c] X.env = (false, eval c X.env) :: starEach [] X.env := by rfl) :
    PSd X (.Assign [.Tuple [.Name x px, .Name y py] kt pt] (.Tuple [a, c] k2 pt2) pos) (sPar i j ga gb) := by
  obtain ⟨t1, ht1, hh1⟩ := ha
  obtain ⟨t2, ht2, hh2⟩ := hb
  refine ⟨_, ps_par hc hN hi hj hij hx hy (pa_cons ht1 (pa_cons ht2 pa_nil hs2) hs1) hw hs, fun H0 M env σ H pa o T E h q => ?_⟩
  obtain ⟨d1, d2, h1, h2, h3⟩ := bind2 h
  cases h3
  refine hh1 H0 M env σ H pa d1 _ E h1 fun v H1 s1 hv => hh2 H0 M env σ H1 pa d2 _ (E.up s1) h2 fun u H2 s2 hu => ⟨v, u, rfl, ?_⟩
  have E2 := (E.up s1).up s2
  refine q _ H2 pa ((E2.setVal (Dp_mono (vw_up s2) _ _ hv)).setVal (Dp_mono (vw_same (Same.refl _) fun a o _ z => ?_) _ _ hu))
  rcases z with z | z
  · exact .inl z
  · exact .inr (ow_set_val z)
theorem sd_aug {i : Nat} {x : Str} {op : Operator} {r : R2} {f : D → D → Option D} {pos' : Pos} (hN : X.N.Nodup) (hi : X.N[i]? = some x) (hx : Loc X.env.scope x) (ho : OpR X (inplaceOp op) r) (hf : OpD X.K r f) (he : PEd X false e ga) (hfn : X.fn x = true ∨ X.env.scope.names.lookup x = some .local := by first | exact .inl rfl | exact .inr rfl | assumption) :
    PSd X (.AugAssign (.Name x pos') op e pos) (sAug i f ga) := by
  obtain ⟨t0, ht, hh⟩ := he
  refine ⟨_, ps_aug hN hi hx ht ho hfn, fun H0 M env σ H pa o T E h q => ?_⟩
  obtain ⟨d1, d2, h1, h2, h3⟩ := bind2 h
  obtain ⟨z, h4, h5⟩ := bind1 h3
  cases h5
  have hi' : env[i]? = some (Slot.val d1) := by
    unfold gVar look at h1
    split at h1
    · rename_i d' hi
      cases h1
      exact hi
    · cases h1
  obtain ⟨v, g1, g2⟩ := E.val i d1 hi'
  refine ⟨v, g1, hh H0 M env σ H pa d2 _ E h2 fun u H' s hu => ?_⟩
  exact hf _ H' v u d1 d2 z _ (Vs_nf false (E.up s)) (Dp_mono (vw_up s) _ _ g2) hu h4 fun w H'' s' hw => q _ H'' pa (((E.up s).up s').setVal hw)
theorem sd_expr (he : PEd X true e ga) (hs : swapsWith e none pos.line X.env = pure false := by rfl) : PSd X (.Expr e pos) (sDrop ga) := by
  obtain ⟨t0, ht, hh⟩ := he
  refine ⟨_, ps_expr ht hs, fun H0 M env σ H pa o T E h q => ?_⟩
  obtain ⟨d, h1, h2⟩ := bind1 h
  cases h2
  exact hh H0 M env σ H pa d _ E h1 fun v H' s hv => q _ H' pa (E.up s)
/-- name = [..], a list of its own -/
theorem sd_own {i : Nat} {x : Str} {pos' pl : Pos} {gs : GA} (hN : X.N.Nodup) (hi : X.N[i]? = some x) (hx : Loc X.env.scope x) (he : PAd X false es gs) (hz : es.length ≤ lim := by decide) (hs : swapsWith (.List es pl) (some (.Name x pos')) pos.line X.env = pure false := by rfl) (hf : X.fn x = true ∨ X.env.scope.names.lookup x = some .local := by first | exact .inl rfl | exact .inr rfl | assumption) :
    PSd X (.Assign [.Name x pos'] (.List es pl) pos) (sOwn i gs) := by
  obtain ⟨t0, ht, hh⟩ := he
  refine ⟨_, ps_set hN hi hx (pe_lst ht) hs hf, fun H0 M env σ H pa o T E h q => ?_⟩
  obtain ⟨ds, h1, h2⟩ := bind1 h
  cases h2
  refine hh H0 M env σ H pa ds _ E h1 fun vs H' s hv hl => ⟨by rw [DpAll_len hv, hl, ← lim_eq]; exact hz, fun p hp => ?_⟩
  exact q _ _ _ ((E.up s).setOwn hp hv)

/-! loops -/
theorem Wk.list {K : PySem.W.Frag} {P : Addr → Prop} {H : Hp} {v : V} {ds : List D} (h : Dp K (vw P H) v (.list ds)) : ∃ a, v = .ref a ∧ (∃ xs, SqL K H a xs) ∧ Wk K (vw P H) (Itl K a) ds := by
  cases h with
  | lst hs ha =>
    rename_i a xs
    refine ⟨a, rfl, ⟨xs, vw_le.seq hs⟩, ⟨fun H2 s => ⟨xs, s.seq hs, by rw [DpAll_len ha]; exact Nat.le_refl _⟩, fun i d H2 s hd => ?_⟩⟩
    obtain ⟨x, hx, dx⟩ := DpAll_get ha hd
    refine ⟨⟨xs, x, s.seq hs, hx⟩, fun y H3 hy => ?_⟩
    obtain ⟨rfl, hy⟩ := hy
    refine ⟨Same.refl _, fun P' _ s' => ?_⟩
    have e : y = x := Option.some.inj ((hy xs (s.seq hs)).symm.trans hx)
    rw [e]
    exact Dp_mono s' _ _ dx
theorem Wk.tup {K : PySem.W.Frag} {P : Addr → Prop} {H : Hp} {v : V} {ds : List D} (h : Dp K (vw P H) v (.tuple ds)) : ∃ a, v = .ref a ∧ (∃ xs, SqT K H a xs) ∧ Wk K (vw P H) (Itt K a) ds := by
  cases h with
  | tup hs ha =>
    rename_i a xs
    refine ⟨a, rfl, ⟨xs, seqT vw_le hs⟩, ⟨fun H2 s => ⟨xs, seqT s hs, by rw [DpAll_len ha]; exact Nat.le_refl _⟩, fun i d H2 s hd => ?_⟩⟩
    obtain ⟨x, hx, dx⟩ := DpAll_get ha hd
    refine ⟨⟨xs, x, seqT s hs, hx⟩, fun y H3 hy => ?_⟩
    obtain ⟨rfl, hy⟩ := hy
    refine ⟨Same.refl _, fun P' _ s' => ?_⟩
    have e : y = x := Option.some.inj ((hy xs (seqT s hs)).symm.trans hx)
    rw [e]
    exact Dp_mono s' _ _ dx
theorem Wk.range {K : PySem.W.Frag} {Hc : Hp} (lo : Int) (n : Nat) : Wk K Hc (Itr lo n) (rngD lo n) := by
  refine ⟨fun H2 s => ?_, fun i d H2 s hd => ?_⟩
  · show n ≤ (rngD lo n).length
    unfold rngD
    rw [List.length_map, List.length_range]
    exact Nat.le_refl _
  · unfold rngD at hd
    rw [List.getElem?_map] at hd
    by_cases hi : i < n
    · rw [List.getElem?_range hi] at hd
      cases hd
      refine ⟨hi, fun x H3 hx => ?_⟩
      obtain ⟨rfl, rfl⟩ := hx
      exact ⟨Same.refl _, fun P _ _ => .int _⟩
    · rw [List.getElem?_eq_none (by rw [List.length_range]; omega)] at hd
      cases hd
/-- a list -/
def gLst (a : GE) : GA := fun env => (a env).bind asLst
def gTpl (a : GE) : GA := fun env => (a env).bind asTpl
theorem id_list (he : PEd X b iter ga) : PId X tg iter b (gLst ga) := by
  obtain ⟨t0, ht, hh⟩ := he
  refine ⟨_, pi_list ht, fun H0 M env σ H pa ds R E h q => ?_⟩
  obtain ⟨d, h1, h2⟩ := bind1 h
  cases d with
  | list ds' =>
    cases h2
    refine hh H0 M env σ H pa _ _ E h1 fun v H' s hv => ?_
    obtain ⟨a, rfl, hx, w⟩ := Wk.list hv
    exact ⟨a, rfl, hx, q _ H' s w⟩
  | _ => cases h2
theorem id_tup (he : PEd X b iter ga) : PId X tg iter b (gTpl ga) := by
  obtain ⟨t0, ht, hh⟩ := he
  refine ⟨_, pi_tup ht, fun H0 M env σ H pa ds R E h q => ?_⟩
  obtain ⟨d, h1, h2⟩ := bind1 h
  cases d with
  | tuple ds' =>
    cases h2
    refine hh H0 M env σ H pa _ _ E h1 fun v H' s hv => ?_
    obtain ⟨a, rfl, hx, w⟩ := Wk.tup hv
    exact ⟨a, rfl, hx, q _ H' s w⟩
  | _ => cases h2
theorem id_range1 {p : Pos} (hg : Gl X "range") (hm : X.mg "range" = none) (ha : PEd X true a ga) (hs : starEach [a] X.env = [(false, eval a X.env)] := by rfl) (hs1 : starEach [a] X.env = (false, eval a X.env) :: starEach [] X.env := by rfl) : PId X tg (.Call (.Name "range" p) [a] [] pos) b (gRange1 ga) := by
  obtain ⟨t0, ht, hh⟩ := ha
  refine ⟨_, pi_range1 hg hm (pa_cons ht pa_nil hs1) hs, fun H0 M env σ H pa ds R E h q => ?_⟩
  obtain ⟨d, h1, h2⟩ := bind1 h
  cases d with
  | int n =>
    have h2 : (if rgOk n = true then some (rngD 0 n.toNat) else none) = some ds := h2
    split at h2
    · rename_i hn
      have hn := rgOk_of hn
      cases h2
      refine hh H0 M env σ H pa _ _ E h1 fun v H' s hv => ?_
      cases hv
      exact ⟨n, rfl, hn.2, hn.1, q _ H' s (Wk.range 0 n.toNat)⟩
    · cases h2
  | _ => cases h2
theorem id_range2 {p : Pos} (hg : Gl X "range") (hm : X.mg "range" = none) (ha : PEd X true a ga) (hb : PEd X true c gb) (hs : starEach [a, c] X.env = [(false, eval a X.env), (false, eval c X.env)] := by rfl) (hs2 : starEach [c] X.env = [(false, eval c X.env)] := by rfl)
    (hs3 : starEach [a, c] X.env = (false, eval a X.env) :: starEach [c] X.env := by rfl) (hs4 : starEach [c] X.env = (false, eval c X.env) :: starEach [] X.env := by rfl) : PId X tg (.Call (.Name "range" p) [a, c] [] pos) b (gRange2 ga gb) := by
  obtain ⟨t1, ht1, hh1⟩ := ha
  obtain ⟨t2, ht2, hh2⟩ := hb
  refine ⟨_, pi_range2 hg hm (pa_cons ht1 (pa_cons ht2 pa_nil hs4) hs3) hs hs2, fun H0 M env σ H pa ds R E h q => ?_⟩
  obtain ⟨d1, d2, h1, h2, h3⟩ := bind2 h
  cases d1 with
  | int i =>
    cases d2 with
    | int j =>
      have h3 : (if (rgOk i && rgOk j) = true then some (rngD i (j - i).toNat) else none) = some ds := h3
      split at h3
      · rename_i hn
        have hn := Bool.and_eq_true_iff.mp hn
        have hi := rgOk_of hn.1
        have hj := rgOk_of hn.2
        have hn := And.intro hi.2 (And.intro hi.1 (And.intro hj.2 hj.1))
        cases h3
        refine hh1 H0 M env σ H pa _ _ E h1 fun v H1 s1 hv => hh2 H0 M env σ H1 pa _ _ (E.up s1) h2 fun u H2 s2 hu => ?_
        cases hv
        cases hu
        exact ⟨i, j, rfl, hn, q _ H2 (s1.trans s2) (Wk.range i _)⟩
      · cases h3
    | _ => cases h3
  | _ => cases h3
theorem ow_hidden {H : Hp} {env : Env} {pa : Nat → Addr} {K : PySem.W.Frag} {H0 : Hp} {M : Addr → Prop} {σ : Sg} (E : EO K H0 M env σ H pa) : EO K (vw (Ow env pa) H) M env σ H pa := by
  refine ⟨vw_le, E.hid, E.len, E.val, fun i ds h => ?_, E.inj, E.fnc⟩
  · obtain ⟨h1, h2, h3⟩ := E.ow i ds h
    refine ⟨h1, ⟨?_, h2.2⟩, h3⟩
    cases q : vw (Ow env pa) H (pa i) with
    | none => rfl
    | some o => exact absurd ⟨i, ds, h, rfl⟩ (vw_some q).1
/-- from what was kept inside a loop back to what the caller wants kept -/
theorem EO.back {H : Hp} {env env' : Env} {pa pa' : Nat → Addr} {K : PySem.W.Frag} {H0 H1 : Hp} {M : Addr → Prop} {σ σ' : Sg} (E : EO K H0 M env σ H1 pa) (E' : EO K (vw (Ow env pa) H1) M env' σ' H pa') : EO K H0 M env' σ' H pa' := by
  have le : Same H0 (vw (Ow env pa) H1) := fun b o h => vw_of (fun ⟨i, ds, h1, h2⟩ => by
    obtain ⟨_, q, _⟩ := E.ow i ds h1
    rw [h2, h] at q
    cases q.1) (E.same b o h)
  refine ⟨le.trans E'.same, E'.hid, E'.len, E'.val, fun i ds h => ?_, E'.inj, E'.fnc⟩
  obtain ⟨h1, h2, h3⟩ := E'.ow i ds h
  exact ⟨h1, ⟨le.free h2.1, h2.2⟩, h3⟩
theorem sd_for {t : GT} {gi : GA} (hp : PassesOwn (model X.prog X.w) X.A X.env X.xe) (hc : X.calm = true) (hi : PId X tg iter false gi) (hg : PGd X tg t) (hb : PSsd X body gS) (hs : ∀ x, foldedSetIterable iter X.env x = pure x := by intro _; rfl) : PSd X (.For tg iter body [] pos) (sFor gi t gS) := by
  obtain ⟨wi, hwi, hhi⟩ := hi
  obtain ⟨g, hg, hhg⟩ := hg
  obtain ⟨tb, htb, hhb⟩ := hb
  refine ⟨_, ps_for hp hc hwi hg htb hs, fun H0 M env σ H pa o T E h q => ?_⟩
  obtain ⟨ds, h1, h2⟩ := bind1 h
  refine hhi H0 M env σ H pa ds _ E h1 fun J H1 s1 w => ?_
  have E1 := E.up s1
  have Eo := ow_hidden E1
  refine ⟨fun i m σ2 H2 => ∃ env2 pa2, EO X.K (vw (Ow env pa) H1) M env2 σ2 H2 pa2 ∧ m = ds.length - i ∧ i ≤ ds.length ∧ forG t gS (ds.drop i) env2 = some o, ⟨ds.length, env, pa, Eo, by simp, Nat.zero_le _, h2⟩, ?_⟩
  rintro i m σ2 H2 ⟨env2, pa2, E2, rfl, hi, h3⟩
  -- what is walked stands as it stood
  have le : Same (vw (Hd M env pa) H1) (vw (Ow env pa) H1) := vw_same (Same.refl _) fun _ _ _ z => .inr z
  have vis : Same (vw (Hd M env pa) H1) (vw (Hd M env2 pa2) H2) := fun a u hu => by
    obtain ⟨g1, g2⟩ := vw_some hu
    have k := le a u hu
    refine vw_of (fun z => ?_) (E2.same a u k)
    rcases z with z | ⟨j, es, z1, z2⟩
    · exact g1 (.inl z)
    · obtain ⟨_, g3, _⟩ := E2.ow j es z1
      rw [z2, k] at g3
      cases g3.1
  have to2 : Same (vw (Hd M env pa) H1) H2 := vis.trans vw_le
  by_cases hlt : i < ds.length
  · have hd : ds[i]? = some ds[i] := List.getElem?_eq_getElem hlt
    obtain ⟨go, yl⟩ := w.go i ds[i] H2 to2 hd
    have hdr : ds.drop i = ds[i] :: ds.drop (i + 1) := List.drop_eq_getElem_cons hlt
    rw [hdr] at h3
    obtain ⟨env3, h4, h5⟩ := bind1 (show (t ds[i] env2).bind _ = some o from h3)
    obtain ⟨ob, h6, h7⟩ := bind1 h5
    refine .inr ⟨go, fun σ' H' => ∃ env' pa', EO X.K (vw (Ow env pa) H1) M env' σ' H' pa' ∧ forG t gS (ds.drop (i + 1)) env' = some o, fun σ' H' ⟨env', pa', E', h'⟩ => ⟨ds.length - (i + 1), by omega, env', pa', E', rfl, hlt, h'⟩, fun x H3 hy => ?_⟩
    obtain ⟨s3, dx⟩ := yl x H3 hy
    have dx := dx (Hd M env2 pa2) (fun p hp' => E2.hidden hp') vis
    refine hhg _ M env2 σ2 H3 pa2 x ds[i] env3 _ (E2.up s3) dx h4 fun σ4 H4 pa4 E4 => ?_
    refine hhb _ M env3 σ4 H4 pa4 ob _ E4 h6 ?_
    cases ob with
    | nx env5 => exact fun σ5 H5 pa5 E5 => ⟨env5, pa5, E5, h7⟩
    | ct env5 => exact fun σ5 H5 pa5 E5 => ⟨env5, pa5, E5, h7⟩
    | bk env5 =>
      cases h7
      exact fun σ5 H5 pa5 E5 => q σ5 H5 pa5 (E1.back E5)
    | ret d =>
      cases h7
      refine fun v H5 s5 hv => q v H5 (fun a u hu => s5 a u ?_) hv
      have := E1.same a u hu
      exact vw_of (fun ⟨j, es, z1, z2⟩ => by
        obtain ⟨_, g3, _⟩ := E1.ow j es z1
        rw [z2, hu] at g3
        cases g3.1) this
  · have e : i = ds.length := by omega
    subst e
    refine .inl ⟨w.stop H2 to2, ?_⟩
    rw [List.drop_length] at h3
    cases h3
    exact q σ2 H2 pa2 (E1.back E2)
theorem sd_while (n : Nat) (hp : PassesOwn (model X.prog X.w) X.A X.env X.xe) (hc : PTd X c cB) (hb : PSsd X body gS) : PSd X (.While c body [] pos) (fun env => whileG cB gS n env) := by
  obtain ⟨tc, htc, hhc⟩ := hc
  obtain ⟨tb, htb, hhb⟩ := hb
  refine ⟨_, ps_while hp htc htb, fun H0 M env σ H pa o T E h q => ?_⟩
  refine ⟨fun m σ2 H2 => ∃ env2 pa2, EO X.K H0 M env2 σ2 H2 pa2 ∧ whileG cB gS m env2 = some o, ⟨n, env, pa, E, h⟩, ?_⟩
  rintro m σ2 H2 ⟨env2, pa2, E2, h2⟩
  cases m with
  | zero => cases h2
  | succ m =>
    obtain ⟨k, h3, h4⟩ := bind1 (show (cB env2).bind _ = some o from h2)
    refine hhc H0 M env2 σ2 H2 pa2 k _ E2 h3 fun H3 s3 => ?_
    cases k with
    | false =>
      rw [if_neg (by decide)] at h4 ⊢
      cases h4
      exact q σ2 H3 pa2 (E2.up s3)
    | true =>
      rw [if_pos rfl] at h4 ⊢
      obtain ⟨ob, h5, h6⟩ := bind1 h4
      refine ⟨fun σ' H' => ∃ env' pa', EO X.K H0 M env' σ' H' pa' ∧ whileG cB gS m env' = some o, fun σ' H' ⟨env', pa', E', h'⟩ => ⟨m, Nat.lt_succ_self m, env', pa', E', h'⟩, ?_⟩
      refine hhb H0 M env2 σ2 H3 pa2 ob _ (E2.up s3) h5 ?_
      cases ob with
      | nx env5 => exact fun σ5 H5 pa5 E5 => ⟨env5, pa5, E5, h6⟩
      | ct env5 => exact fun σ5 H5 pa5 E5 => ⟨env5, pa5, E5, h6⟩
      | bk env5 => cases h6; exact q
      | ret d => cases h6; exact q
/-! a def -/
theorem fn_d {N : List Str} {n : Nat} {vs : List V} {H : Hp} {Q : VK} {E : XK} (hb : PSsd X body gS) (hl : n ≤ N.length) (h : SpD X.K n (runF N.length n gS) vs H Q E) :
    ∃ t, PSs X body t ∧ t { nx := fun _ H' => Q .non H', rt := Q } (L2.start N vs) H := by
  obtain ⟨t, ht, hh⟩ := hb
  obtain ⟨ds, d, M, hv, hF, hn, nf, q⟩ := h
  have hlen := DpAll_len hv
  refine ⟨t, ht, ?_⟩
  unfold runF at hF
  rw [if_pos hn] at hF
  obtain ⟨o, h1, h2⟩ := bind1 hF
  have noown : ∀ (i : Nat) (es : Cont), (startE N.length ds)[i]? ≠ some (Slot.ow es) := fun i es z => by
    unfold startE at z
    by_cases hi : i < ds.length
    · rw [List.getElem?_append_left (by simpa using hi), List.getElem?_map] at z
      cases hx : ds[i]? with
      | none => rw [hx] at z; cases z
      | some u => rw [hx] at z; cases z
    · rw [List.getElem?_append_right (by simpa using hi), List.getElem?_replicate] at z
      split at z <;> cases z
  have E0 : EO X.K H M (startE N.length ds) (L2.start N vs) H (fun _ => 0) := by
    refine ⟨Same.refl H, nf, ?_, fun i e z => ?_, fun i es z => absurd z (noown i es), fun i j es fs z => absurd z (noown i es), fun i f z => absurd z (startE_nofn i f)⟩
    · unfold startE L2.start
      simp only [List.length_append, List.length_map, List.length_replicate]
      omega
    · unfold startE at z
      by_cases hi : i < ds.length
      · rw [List.getElem?_append_left (by simpa using hi), List.getElem?_map] at z
        cases hx : ds[i]? with
        | none => rw [hx] at z; cases z
        | some u =>
          rw [hx] at z
          cases z
          obtain ⟨v, hv1, hv2⟩ := DpAll_get hv hx
          refine ⟨v, ?_, Dp_mono (vw_same (Same.refl H) fun a _ _ z => ?_) _ _ hv2⟩
          · unfold L2.start
            rw [List.getElem?_append_left (by rw [List.length_map]; omega), List.getElem?_map, hv1]
            rfl
          · rcases z with z | ⟨j, es, z, _⟩
            · exact z
            · exact absurd z (noown j es)
      · rw [List.getElem?_append_right (by simpa using hi), List.getElem?_replicate] at z
        split at z <;> cases z
  refine hh H M _ _ H _ o _ E0 h1 ?_
  cases o with
  | nx env => cases h2; exact fun σ' H' pa' E' => q _ H' E'.same .non
  | ret d' => cases h2; exact q
  | bk env => cases h2
  | ct env => cases h2
end
end Dn

namespace Dn
open PySem PySem.Spec PyProof.Rows L2

/-! ### 5. operations -/
theorem CMulBig {i j : Int} (h : mulOk i j = true) : IntMulOk i j := by
  have h : (decide (i.natAbs < 2 ^ 64) || decide (j.natAbs < 2 ^ 64) || decide (i.natAbs.log2 + j.natAbs.log2 < 100000000)) = true := h
  rcases Bool.or_eq_true_iff.mp h with h | h
  · rcases Bool.or_eq_true_iff.mp h with h | h
    · have h := of_decide_eq_true h
      exact .of_left (intBits_le_64 (by omega) (by omega))
    · have h := of_decide_eq_true h
      exact .of_right (intBits_le_64 (by omega) (by omega))
  have b : ∀ x : Int, Builtin.Int.intBits x ≤ x.natAbs.log2 + 1 := fun x => by
    unfold Builtin.Int.intBits
    split <;> omega
  have h1 := b i
  have h2 := b j
  have h3 : i.natAbs.log2 + j.natAbs.log2 < 100000000 := of_decide_eq_true h
  have e : bitsLine = 134217728 := by decide
  unfold IntMulOk
  intro z
  rw [Bool.and_eq_true] at z
  have z2 := z.2
  unfold Builtin.Int.intTooBig at z2
  have z3 := of_decide_eq_true z2
  rw [e] at z3
  omega
section
variable {X : Cx}
theorem op_mulB : OpR X (binaryOp .Mult) (rI (fun i j => mulOk i j = true) fun i j => .int (i * j)) := opI fun _ _ _ _ _ _ _ hc q => mul_int q (CMulBig hc)
theorem op_fdivB : OpR X (binaryOp .FloorDiv) (rI (fun _ j => divOk j = true) fun i j => .int (i.fdiv j)) := opI fun i j _ _ _ _ _ hc q => by
  have h := Bool.and_eq_true_iff.mp (show (decide (j ≠ 0) && decide (j.natAbs.log2 < 9000)) = true from hc)
  exact floordiv_int (of_decide_eq_true h.1) q (.inl (PyProof.noPylong_of_log2 (of_decide_eq_true h.2)))
/-- list + list, whatever each of them is -/
def rCatL (K : PySem.W.Frag) : R2 := fun x y H Q => ∃ l b xs zs, x = .ref l ∧ y = .ref b ∧ SqL K H l xs ∧ SqL K H b zs ∧ xs.length + zs.length ≤ sizeLine ∧ ∀ p, H p = none → Q (.ref p) (upd H p (.lst (xs ++ zs)))
theorem op_catL : OpR X (binaryOp .Add) (rCatL X.K) := by
  intro pins s σ H x y v u Q I rx ry h
  obtain ⟨l, b, xs, zs, rfl, rfl, hH, hB, hz, q⟩ := h
  cases rx
  cases ry
  obtain ⟨its, r, p1, hl1⟩ := I.list hH
  obtain ⟨its2, r2, p2, hl2⟩ := I.list hB
  have e1 := r.length
  have e2 := r2.length
  obtain ⟨⟨cls, dd, data, sl⟩, ho, hc, n, hd⟩ := id p1.isList
  obtain ⟨⟨cls2, dd2, data2, sl2⟩, ho2, hc2, n2, hd2⟩ := id p2.isList
  simp only at hc hd hc2 hd2
  subst hc hd hc2 hd2
  have e : its.toArray ++ its2.toArray = (its ++ its2).toArray := by simp
  refine concat_meets ⟨_, ho, rfl⟩ ⟨_, ho2, rfl⟩ noFill_list_add seq_list_add PySem.F.slot_list_add PySem.F.entry_list_add (PySem.F.args_list_add_2 _ _) (list_addW l b its.toArray its2.toArray n n2 dd dd2 sl sl2 (by rw [List.size_toArray, List.size_toArray]; omega)) ⟨ho, ho2, ?_⟩
  rw [e]
  exact ⟨.ref _, _, I.lnew (t' := s.toks) (r.append r2) (by rw [List.length_append]; omega), rfl, q _ I.fresh⟩
abbrev rAddA (K : PySem.W.Frag) : R2 := fun x y H Q => rI0 (fun i j => .int (i + j)) x y H Q ∨ (rCatL K x y H Q ∨ ((∃ i j, x = .str i ∧ y = .str j ∧ i.length + j.length ≤ sizeLine ∧ Q (.str (i ++ j)) H) ∨ rCatA K x y H Q))
theorem op_addA : OpR X (binaryOp .Add) (rAddA X.K) := op_add.or (op_catL.or (op_add_str.or op_catA))
theorem iop_addA : OpR X (inplaceOp .Add) (rI0 fun i j => .int (i + j)) := iop_add
theorem op_eqA (hu : X.A.units + 64 < cLine) : OpR X (compareOp .Eq) (fun x y H Q => rEq x y H Q ∨ rEqD X.K x y H Q) := op_eq.or (op_eqD hu)
theorem op_neA (hu : X.A.units + 64 < cLine) : OpR X (compareOp .NotEq) (fun x y H Q => rNe x y H Q ∨ rNeD X.K x y H Q) := op_ne.or (op_neD hu)
end
section
variable {K : PySem.W.Frag}
theorem Dp_int {H : Hp} {v : V} {i : Int} (h : Dp K H v (.int i)) : v = .int i := by cases h; rfl
theorem Dp_bool {H : Hp} {v : V} {b : Bool} (h : Dp K H v (.bool b)) : v = .bl b := by cases h; rfl
theorem Dp_str {H : Hp} {v : V} {b : Str} (h : Dp K H v (.str b)) : v = .str b := by cases h; rfl
theorem od_add : OpD K (rAddA K) vAdd := by
  intro P H x y d e z Q nf hx hy h q
  cases d with
  | int i =>
    cases e with
    | int j =>
      cases h
      exact .inl ⟨i, j, Dp_int hx, Dp_int hy, q _ H (Same.refl H) (.int _)⟩
    | _ => cases h
  | str i =>
    cases e with
    | str j =>
      have h : (if i.length + j.length ≤ lim then some (PyData.str (i ++ j)) else none) = some z := h
      split at h
      · rename_i hl
        cases h
        exact .inr (.inr (.inl ⟨i, j, Dp_str hx, Dp_str hy, by rw [← lim_eq]; exact hl, q _ H (Same.refl H) (.str _)⟩))
      · cases h
    | _ => cases h
  | list xs =>
    cases e with
    | list ys =>
      have h : (if xs.length + ys.length ≤ lim then some (PyData.list (xs ++ ys)) else none) = some z := h
      split at h
      · rename_i hl
        cases h
        cases hx with
        | lst hs ha =>
          cases hy with
          | lst hs' ha' =>
            refine .inr (.inl ⟨_, _, _, _, rfl, rfl, vw_le.seq hs, vw_le.seq hs', by rw [DpAll_len ha, DpAll_len ha', ← lim_eq]; exact hl, fun p hp => ?_⟩)
            exact q _ _ (same_upd hp) (.lst (.inl (.inl (vw_of (fun z => nf p z hp) upd_same))) (DpAll_mono (vw_up (same_upd hp)) _ _ (DpAll_app ha ha')))
      · cases h
    | _ => cases h
  | tuple xs =>
    cases e with
    | tuple ys =>
      have h : (if xs.length + ys.length ≤ lim then some (PyData.tuple (xs ++ ys)) else none) = some z := h
      split at h
      · rename_i hl
        cases h
        cases hx with
        | tup hs ha =>
          cases hy with
          | tup hs' ha' =>
            have l1 := DpAll_len ha
            have l2 := DpAll_len ha'
            refine .inr (.inr (.inr ⟨_, _, _, _, rfl, rfl, seqT vw_le hs, seqT vw_le hs', by rw [l1, l2, ← lim_eq]; exact hl, fun e => ?_, fun _ e => ?_, fun _ _ p hp => ?_⟩))
            · subst e
              have : xs = [] := List.length_eq_zero_iff.mp l1.symm
              subst this
              exact q _ H (Same.refl H) (.tup hs' ha')
            · subst e
              have : ys = [] := List.length_eq_zero_iff.mp l2.symm
              subst this
              rw [List.append_nil] at q
              exact q _ H (Same.refl H) (.tup hs ha)
            · exact q _ _ (same_upd hp) (.tup (.inl (.inl (vw_of (fun z => nf p z hp) upd_same))) (DpAll_mono (vw_up (same_upd hp)) _ _ (DpAll_app ha ha')))
      · cases h
    | _ => cases h
  | _ => cases h
theorem od_iadd : OpD K (rI0 fun i j => .int (i + j)) (fun d e => match d, e with
    | .int x, .int y => some (.int (x + y))
    | _, _ => none) := by
  intro P H x y d e z Q nf hx hy h q
  cases d with
  | int i =>
    cases e with
    | int j =>
      cases h
      exact ⟨i, j, Dp_int hx, Dp_int hy, q _ H (Same.refl H) (.int _)⟩
    | _ => cases h
  | _ => cases h
theorem od_mul : OpD K (rI (fun i j => mulOk i j = true) fun i j => .int (i * j)) vMul := by
  intro P H x y d e z Q nf hx hy h q
  cases d with
  | int i =>
    cases e with
    | int j =>
      have h : (if mulOk i j = true then some (PyData.int (i * j)) else none) = some z := h
      split at h
      · rename_i hm
        cases h
        exact ⟨i, j, Dp_int hx, Dp_int hy, hm, q _ H (Same.refl H) (.int _)⟩
      · cases h
    | _ => cases h
  | _ => cases h
theorem od_fdiv : OpD K (rI (fun _ j => divOk j = true) fun i j => .int (i.fdiv j)) vFdiv := by
  intro P H x y d e z Q nf hx hy h q
  cases d with
  | int i =>
    cases e with
    | int j =>
      have h : (if divOk j = true then some (PyData.int (i.fdiv j)) else none) = some z := h
      split at h
      · rename_i hm
        cases h
        exact ⟨i, j, Dp_int hx, Dp_int hy, hm, q _ H (Same.refl H) (.int _)⟩
      · cases h
    | _ => cases h
  | _ => cases h
theorem od_mod : OpD K (rI (fun _ j => j ≠ 0) fun i j => .int (i.fmod j)) vMod := by
  intro P H x y d e z Q nf hx hy h q
  cases d with
  | int i =>
    cases e with
    | int j =>
      have h : (if j = 0 then none else some (PyData.int (i.fmod j))) = some z := h
      split at h
      · cases h
      · rename_i hm
        cases h
        exact ⟨i, j, Dp_int hx, Dp_int hy, hm, q _ H (Same.refl H) (.int _)⟩
    | _ => cases h
  | _ => cases h
theorem od_pow : OpD K (rI CPow fun i j => .int (i ^ j.toNat)) vPow := by
  intro P H x y d e z Q nf hx hy h q
  cases d with
  | int i =>
    cases e with
    | int j =>
      have h : (if 0 ≤ j ∧ j ≤ 1000000 ∧ i.natAbs < 2 ^ 64 then some (PyData.int (i ^ j.toNat)) else none) = some z := h
      split at h
      · rename_i hm
        cases h
        exact ⟨i, j, Dp_int hx, Dp_int hy, hm, q _ H (Same.refl H) (.int _)⟩
      · cases h
    | _ => cases h
  | _ => cases h
theorem od_cmp {p : Int → Int → Bool} : OpD K (rI0 fun i j => .bl (p i j)) (vCmp p) := by
  intro P H x y d e z Q nf hx hy h q
  cases d with
  | int i =>
    cases e with
    | int j =>
      cases h
      exact ⟨i, j, Dp_int hx, Dp_int hy, q _ H (Same.refl H) (.bl _)⟩
    | _ => cases h
  | _ => cases h
abbrev rEqA (K : PySem.W.Frag) : R2 := fun x y H Q => rEq x y H Q ∨ rEqD K x y H Q
abbrev rNeA (K : PySem.W.Frag) : R2 := fun x y H Q => rNe x y H Q ∨ rNeD K x y H Q
theorem od_eqG {P : Addr → Prop} {H : Hp} {x y : V} {d e z : D} {Q : VK} (hx : Dp K (vw P H) x d) (hy : Dp K (vw P H) y e) (h : vEqG d e = some z) (q : ∀ v H', Same H H' → Dp K (vw P H') v z → Q v H') : rEqA K x y H Q := by
  unfold vEqG at h
  split at h
  · rename_i hs
    cases h
    have hs := Bool.and_eq_true_iff.mp hs
    exact .inr ⟨d, e, Dp_mono vw_le _ _ hx, Dp_mono vw_le _ _ hy, hs.1, hs.2, q _ H (Same.refl H) (.bl _)⟩
  · cases h
theorem od_neG {P : Addr → Prop} {H : Hp} {x y : V} {d e z : D} {Q : VK} (hx : Dp K (vw P H) x d) (hy : Dp K (vw P H) y e) (h : vNeG d e = some z) (q : ∀ v H', Same H H' → Dp K (vw P H') v z → Q v H') : rNeA K x y H Q := by
  unfold vNeG at h
  split at h
  · rename_i hs
    cases h
    have hs := Bool.and_eq_true_iff.mp hs
    exact .inr ⟨d, e, Dp_mono vw_le _ _ hx, Dp_mono vw_le _ _ hy, hs.1, hs.2, q _ H (Same.refl H) (.bl _)⟩
  · cases h
theorem dec_vint {a b : Int} : decide (V.int a = V.int b) = decide (a = b) := by
  rw [Bool.eq_iff_iff]; simp
theorem dec_vstr {a b : Str} : decide (V.str a = V.str b) = decide (a = b) := by
  rw [Bool.eq_iff_iff]; simp
theorem od_eq : OpD K (rEqA K) vEq := by
  intro P H x y d e z Q nf hx hy h q
  unfold vEq at h
  split at h
  · cases h
    have hx := Dp_str hx
    have hy := Dp_str hy
    subst hx hy
    exact .inl ⟨rfl, q _ H (Same.refl H) (by rw [dec_vstr]; exact .bl _)⟩
  · cases h
    have hx := Dp_int hx
    have hy := Dp_int hy
    subst hx hy
    exact .inl ⟨rfl, q _ H (Same.refl H) (by rw [dec_vint]; exact .bl _)⟩
  · exact od_eqG hx hy h q
theorem od_ne : OpD K (rNeA K) vNe := by
  intro P H x y d e z Q nf hx hy h q
  unfold vNe at h
  split at h
  · cases h
    have hx := Dp_str hx
    have hy := Dp_str hy
    subst hx hy
    exact .inl ⟨rfl, q _ H (Same.refl H) (by rw [dec_vstr]; exact .bl _)⟩
  · cases h
    have hx := Dp_int hx
    have hy := Dp_int hy
    subst hx hy
    exact .inl ⟨rfl, q _ H (Same.refl H) (by rw [dec_vint]; exact .bl _)⟩
  · exact od_neG hx hy h q
theorem ud_neg : UnD K (rU fun i => .int (-i)) vNeg := by
  intro P H x d z Q nf hx h q
  cases d with
  | int i => cases h; exact ⟨i, Dp_int hx, q _ H (Same.refl H) (.int _)⟩
  | _ => cases h
/-! built-ins -/
theorem ca_1 {r : V → Hp → VK → Prop} {f : D → Option D} (h : UnD K r f) : CaD K (fun xs H Q => ∃ x, xs = [x] ∧ r x H Q) (l1 f) := by
  intro P H xs ds z Q nf hx hf q
  cases hx with
  | nil => cases hf
  | cons h1 h2 =>
    cases h2 with
    | nil => exact ⟨_, rfl, h P H _ _ z Q nf h1 hf q⟩
    | cons _ _ => cases hf
theorem ca_abs : CaD K (fun xs H Q => ∃ i, xs = [.int i] ∧ Q (.int (if i < 0 then -i else i)) H) (l1 vAbs) := by
  intro P H xs ds z Q nf hx hf q
  cases hx with
  | nil => cases hf
  | cons h1 h2 =>
    cases h2 with
    | nil =>
      cases h1 with
      | int i => cases hf; exact ⟨i, rfl, q _ H (Same.refl H) (.int _)⟩
      | _ => cases hf
    | cons _ _ => cases hf
theorem ca_int : CaD K (fun xs H Q => (∃ i, xs = [.int i] ∧ Q (.int i) H) ∨ ∃ k, xs = [.bl k] ∧ Q (.int (if k then 1 else 0)) H) (l1 vToI) := by
  intro P H xs ds z Q nf hx hf q
  cases hx with
  | nil => cases hf
  | cons h1 h2 =>
    cases h2 with
    | nil =>
      cases h1 with
      | int i => cases hf; exact .inl ⟨i, rfl, q _ H (Same.refl H) (.int _)⟩
      | bl b => cases hf; exact .inr ⟨b, rfl, q _ H (Same.refl H) (.int _)⟩
      | _ => cases hf
    | cons _ _ => cases hf
theorem ca_len : CaD K (fun xs H Q => ∃ x n, xs = [x] ∧ LenV K x H n ∧ Q (.int n) H) (l1 vLen) := by
  intro P H xs ds z Q nf hx hf q
  cases hx with
  | nil => cases hf
  | cons h1 h2 =>
    cases h2 with
    | nil =>
      cases h1 with
      | lst hs ha => cases hf; exact ⟨_, _, rfl, .inl ⟨_, vw_le.seq hs, (DpAll_len ha).symm⟩, q _ H (Same.refl H) (.int _)⟩
      | tup hs ha => cases hf; exact ⟨_, _, rfl, .inr ⟨_, seqT vw_le hs, (DpAll_len ha).symm⟩, q _ H (Same.refl H) (.int _)⟩
      | str x =>
        have hf : (if x.length ≤ lim then some (PyData.int x.length) else none) = some z := hf
        split at hf
        · rename_i hl
          cases hf
          exact ⟨_, _, rfl, ⟨by rw [← lim_eq]; exact hl, rfl⟩, q _ H (Same.refl H) (.int _)⟩
        · cases hf
      | _ => cases hf
    | cons _ _ => cases hf
theorem ca_min2 : CaD K (fun xs H Q => ∃ i j, xs = [.int i, .int j] ∧ Q (.int (if j < i then j else i)) H) (l2 vMin2) := by
  intro P H xs ds z Q nf hx hf q
  cases hx with
  | nil => cases hf
  | cons h1 h2 =>
    cases h2 with
    | nil => cases hf
    | cons h2 h3 =>
      cases h3 with
      | cons _ _ => cases hf
      | nil =>
        cases h1 with
        | int i =>
          cases h2 with
          | int j => cases hf; exact ⟨i, j, rfl, q _ H (Same.refl H) (.int _)⟩
          | _ => cases hf
        | _ => cases hf
theorem ca_max2 : CaD K (fun xs H Q => ∃ i j, xs = [.int i, .int j] ∧ Q (.int (if j > i then j else i)) H) (l2 vMax2) := by
  intro P H xs ds z Q nf hx hf q
  cases hx with
  | nil => cases hf
  | cons h1 h2 =>
    cases h2 with
    | nil => cases hf
    | cons h2 h3 =>
      cases h3 with
      | cons _ _ => cases hf
      | nil =>
        cases h1 with
        | int i =>
          cases h2 with
          | int j => cases hf; exact ⟨i, j, rfl, q _ H (Same.refl H) (.int _)⟩
          | _ => cases hf
        | _ => cases hf
def vTuple : D → Option D
  | .list ds => some (.tuple ds)
  | .tuple ds => some (.tuple ds)
  | _ => none
theorem ca_tuple : CaD K (fun xs H Q => ∃ p ys, xs = [.ref p] ∧ ((SqL K H p ys ∧ ∀ l, H l = none → Q (.ref l) (upd H l (.tup ys))) ∨ (SqT K H p ys ∧ Q (.ref p) H))) (l1 vTuple) := by
  intro P H xs ds z Q nf hx hf q
  cases hx with
  | nil => cases hf
  | cons h1 h2 =>
    cases h2 with
    | nil =>
      cases h1 with
      | lst hs ha =>
        cases hf
        refine ⟨_, _, rfl, .inl ⟨vw_le.seq hs, fun p hp => ?_⟩⟩
        exact q _ _ (same_upd hp) (.tup (.inl (.inl (vw_of (fun z => nf p z hp) upd_same))) (DpAll_mono (vw_up (same_upd hp)) _ _ ha))
      | tup hs ha =>
        cases hf
        exact ⟨_, _, rfl, .inr ⟨seqT vw_le hs, q _ H (Same.refl H) (.tup hs ha)⟩⟩
      | _ => cases hf
    | cons _ _ => cases hf
def vList : D → Option D
  | .list ds => some (.list ds)
  | .tuple ds => some (.list ds)
  | _ => none
theorem ca_list : CaD K (fun xs H Q => ∃ p ys, xs = [.ref p] ∧ (SqL K H p ys ∨ SqT K H p ys) ∧ ∀ l, H l = none → Q (.ref l) (upd H l (.lst ys))) (l1 vList) := by
  intro P H xs ds z Q nf hx hf q
  cases hx with
  | nil => cases hf
  | cons h1 h2 =>
    cases h2 with
    | nil =>
      cases h1 with
      | lst hs ha =>
        cases hf
        refine ⟨_, _, rfl, .inl (vw_le.seq hs), fun p hp => ?_⟩
        exact q _ _ (same_upd hp) (.lst (.inl (.inl (vw_of (fun z => nf p z hp) upd_same))) (DpAll_mono (vw_up (same_upd hp)) _ _ ha))
      | tup hs ha =>
        cases hf
        refine ⟨_, _, rfl, .inr (seqT vw_le hs), fun p hp => ?_⟩
        exact q _ _ (same_upd hp) (.lst (.inl (.inl (vw_of (fun z => nf p z hp) upd_same))) (DpAll_mono (vw_up (same_upd hp)) _ _ ha))
      | _ => cases hf
    | cons _ _ => cases hf
theorem DpAll_at {H : Hp} {vs : List V} {ds : List D} {i : Int} {d : D} (h : DpAll K H vs ds) (e : atD ds i = some d) : ∃ v, atI vs i = some v ∧ Dp K H v d := by
  have hl := DpAll_len h
  unfold atD at e
  unfold atI ixN
  split at e
  · rename_i h0
    split at e
    · rename_i h1
      rw [if_neg (by omega), if_pos (by rw [hl]; omega), hl]
      exact DpAll_get h e
    · cases e
  · rename_i h0
    have hlt := (List.getElem?_eq_some_iff.mp e).1
    rw [if_pos (by omega), if_pos (by rw [hl]; omega)]
    exact DpAll_get h e
end
section
variable {X : Cx} {b : Bool} {a c e : Expr} {pos : Pos} {ga gb : GE}
theorem od_ix {K : PySem.W.Frag} : OpD K (rIx K) vIx := by
  intro P H x y d e z Q nf hx hy h q
  cases e with
  | int i =>
    have hy := Dp_int hy
    subst hy
    cases hx with
    | lst hs ha =>
      obtain ⟨v, h1, h2⟩ := DpAll_at ha (show atD _ i = some z from h)
      exact .inl ⟨_, _, i, v, rfl, rfl, vw_le.seq hs, h1, q v H (Same.refl H) h2⟩
    | tup hs ha =>
      obtain ⟨v, h1, h2⟩ := DpAll_at ha (show atD _ i = some z from h)
      exact .inr (.inl ⟨_, _, i, v, rfl, rfl, seqT vw_le hs, h1, q v H (Same.refl H) h2⟩)
    | _ => cases h
  | _ => cases d <;> cases h
theorem pd_ix (ha : PEd X b a ga) (hb : PEd X b c gb) (hs : PlainIx c) : PEd X b (.Subscript a c pos) (g2 vIx ga gb) := by
  obtain ⟨ta, pa', ha⟩ := ha
  obtain ⟨tb, pb', hb⟩ := hb
  refine ⟨_, pe_ix ix_seq pa' pb' hs, fun H0 M env σ H pa d Q E h q => ?_⟩
  obtain ⟨d1, d2, h1, h2, h3⟩ := bind2 h
  exact two E ha hb h1 h2 fun x y H' s hx hy => od_ix _ H' x y d1 d2 d Q (Vs_nf b (E.up s)) hx hy h3 fun v H'' s' hv => q v H'' (s.trans s') hv
/-! slices -/
abbrev GO := Env → Option (Option Int)
def oNone : GO := fun _ => some none
def asPart : D → Option (Option Int)
  | .int i => some (some i)
  | _ => none
def oSome (a : GE) : GO := fun env => (a env).bind asPart
def POd (X : Cx) (e : Option Expr) (g : GO) : Prop := ∃ t, PO X e t ∧ ∀ (H0 : Hp) (M : Addr → Prop) (env : Env) (σ : Sg) (H : Hp) (pa : Nat → Addr) (o : Option Int) (Q : Option Int → Hp → Prop), EO X.K H0 M env σ H pa → g env = some o → (∀ H', Same H H' → Q o H') → t σ H Q
theorem od_none : POd X none oNone := ⟨_, po_none, fun H0 M env σ H pa o Q E h q => by cases h; exact q H (Same.refl H)⟩
theorem od_some (ha : PEd X true a ga) : POd X (some a) (oSome ga) := by
  obtain ⟨ta, pa', ha⟩ := ha
  refine ⟨_, po_some pa', fun H0 M env σ H pa o Q E h q => ?_⟩
  obtain ⟨d, h1, h2⟩ := bind1 h
  cases d with
  | int i =>
    cases h2
    exact ha H0 M env σ H pa _ _ E h1 fun v H' s hv => ⟨i, Dp_int hv, q H' s⟩
  | _ => cases h2
def cutD (ds : List D) (lo hi : Option Int) : List D := (ds.drop (HT.sIx ds.length 0 lo)).take (HT.sIx ds.length ds.length hi - HT.sIx ds.length 0 lo)
def vSlice : D → Option Int → Option Int → Option D
  | .list ds, lo, hi => some (.list (cutD ds lo hi))
  | .tuple ds, lo, hi => some (.tuple (cutD ds lo hi))
  | .str x, lo, hi => if x.length ≤ lim then some (.str (cutS x lo hi)) else none
  | _, _, _ => none
def gSlice (a : GE) (lo hi : GO) : GE := fun env => (a env).bind fun d => (lo env).bind fun l => (hi env).bind fun h => vSlice d l h
theorem DpAll_cut {K : PySem.W.Frag} {H : Hp} {vs : List V} {ds : List D} (h : DpAll K H vs ds) (lo hi : Option Int) : DpAll K H (cutV vs lo hi) (cutD ds lo hi) := by
  unfold cutV cutD
  rw [DpAll_len h]
  exact DpAll_take _ (DpAll_drop _ h)
theorem pd_slice {lo hi : Option Expr} {gl gh : GO} {p2 : Pos} (ha : PEd X b a ga) (hl : POd X lo gl) (hh : POd X hi gh) : PEd X b (.Subscript a (.Slice lo hi none p2) pos) (gSlice ga gl gh) := by
  obtain ⟨ta, pa', ha⟩ := ha
  obtain ⟨tl, pl', hl⟩ := hl
  obtain ⟨th, ph', hh⟩ := hh
  refine ⟨_, pe_slice (sl_list.or (sl_tupA.or sl_str)) pa' pl' ph', fun H0 M env σ H pa d Q E h q => ?_⟩
  obtain ⟨d1, h1, h⟩ := bind1 h
  obtain ⟨l, h2, h⟩ := bind1 h
  obtain ⟨u, h3, h⟩ := bind1 h
  refine ha H0 M env σ H pa d1 _ E h1 fun x H1 s1 hx => hl H0 M env σ H1 pa l _ (E.up s1) h2 fun H2 s2 => hh H0 M env σ H2 pa u _ ((E.up s1).up s2) h3 fun H3 s3 => ?_
  have nf := Vs_nf b (((E.up s1).up s2).up s3)
  have hx := Dp_mono (vw_up (s2.trans s3)) _ _ hx
  have s := (s1.trans s2).trans s3
  cases hx with
  | lst hs hall =>
    cases h
    refine .inl ⟨_, _, rfl, vw_le.seq hs, fun p hp => ?_⟩
    exact q _ _ (s.trans (same_upd hp)) (.lst (.inl (.inl (vw_of (fun z => nf p z hp) upd_same))) (DpAll_mono (vw_up (same_upd hp)) _ _ (DpAll_cut hall l u)))
  | @tup a' xs ds hs hall =>
    cases h
    have ln := DpAll_len hall
    refine .inr (.inl ⟨_, _, rfl, seqT vw_le hs, fun hw => ?_, fun _ p hp => ?_⟩)
    · rw [ln] at hw
      have e : cutD ds l u = ds := by
        unfold cutD
        rw [hw.1, hw.2, Nat.sub_zero, List.drop_zero, List.take_length]
      rw [e] at q
      exact q _ _ s (.tup hs hall)
    · exact q _ _ (s.trans (same_upd hp)) (.tup (.inl (.inl (vw_of (fun z => nf p z hp) upd_same))) (DpAll_mono (vw_up (same_upd hp)) _ _ (DpAll_cut hall l u)))
  | str x =>
    have h : (if x.length ≤ lim then some (PyData.str (cutS x l u)) else none) = some d := h
    split at h
    · rename_i hx
      cases h
      exact .inr (.inr ⟨x, rfl, by rw [← lim_eq]; exact hx, q _ _ s (.str _)⟩)
    · cases h
  | _ => cases h
/-- xs[::-1] -/
def vRev : D → Option D
  | .list ds => some (.list ds.reverse)
  | _ => none
theorem pd_rev {k : Nat} {p1 p2 p3 : Pos} (ha : PEd X b e ga) : PEd X b (.Subscript e (.Slice none none (some (.UnaryOp .USub (.Constant (.int 1) k p1) p2)) p3) pos) (g1 vRev ga) := by
  obtain ⟨ta, pa', ha⟩ := ha
  refine ⟨_, pe_revL pa', fun H0 M env σ H pa d Q E h q => ?_⟩
  obtain ⟨d1, h1, h2⟩ := bind1 h
  refine ha H0 M env σ H pa d1 _ E h1 fun x H1 s1 hx => ?_
  have nf := Vs_nf b (E.up s1)
  cases hx with
  | lst hs hall =>
    cases h2
    refine ⟨_, _, rfl, vw_le.seq hs, fun p hp => ?_⟩
    exact q _ _ (s1.trans (same_upd hp)) (.lst (.inl (.inl (vw_of (fun z => nf p z hp) upd_same))) (DpAll_mono (vw_up (same_upd hp)) _ _ (DpAll_rev hall)))
  | _ => cases h2
/-! methods of a name's own list -/
theorem sd_app {i : Nat} {x : Str} {apos cpos px : Pos} (hN : X.N[i]? = some x) (hv : Vis X.env.scope x) (he : PEd X false e ga) (hd : (x == ("__debug__" : Str)) = false := by decide) (hcd : (x == ("__classdict__" : Str)) = false := by decide)
    (hbase : attributeBase (.Name x px) "append" X.env (eval (.Name x px) X.env) = eval (.Name x px) X.env := by rfl)
    (hfew : ((backTo cpos (starEach (e :: []) X.env)).all (fun x => !x.1) && (backToKw cpos (keywordEach [] X.env)).all (fun x => x.1.isSome)
      && decide ((e :: []).length + ([] : List Keyword).length + (if ([] : List Keyword).isEmpty then 0 else 1) < 30)) = true := by rfl)
    (hline : (apos.endLine == cpos.line) = true := by rfl) (hs : starEach (e :: []) X.env = (false, eval e X.env) :: starEach [] X.env := by rfl) (hplain : (backTo cpos (starEach [] X.env)).any (·.1) = false := by rfl)
    (hsw : swapsWith (.Call (.Attribute (.Name x px) "append" apos) [e] [] cpos) none pos.line X.env = pure false := by rfl) :
    PSd X (.Expr (.Call (.Attribute (.Name x px) "append" apos) [e] [] cpos) pos) (sApp i ga) := by
  obtain ⟨t0, ht, hh⟩ := he
  refine ⟨_, ps_expr (pe_bm PySem.F.plainAttrs_list PySem.F.slot_list_append PySem.F.type_list_append mt_append (pe_var hN hv hd hcd) (pa_cons ht pa_nil hs) hbase hfew hline hs hplain) hsw, fun H0 M env σ H pa o T E h q => ?_⟩
  obtain ⟨d, h1, h2⟩ := bind1 h
  cases hi : env[i]? with
  | none => rw [hi] at h2; cases h2
  | some sl =>
    rw [hi] at h2
    cases sl with
    | un => cases h2
    | fn f => cases h2
    | val _ => cases h2
    | ow c =>
      cases c with
      | dk _ => cases h2
      | dn _ => cases h2
      | lst ds =>
        have h2 : (if ds.length < lim then some (Out.nx (env.set i (.own (ds ++ [d])))) else none) = some o := h2
        split at h2
        · rename_i hl
          cases h2
          obtain ⟨g1, g2, vs, g3, g4⟩ := E.own i ds hi
          refine ⟨_, g1, .inl ⟨rfl, vs, SqL.of g3⟩, hh H0 M env σ H pa d _ E h1 fun v H' s hv => ?_⟩
          refine ⟨_, vs, v, rfl, rfl, s _ _ g3, by rw [DpAll_len g4, ← lim_eq]; exact hl, ?_⟩
          exact q σ _ pa ((E.up s).write hi (DpAll_app (DpAll_mono (vw_up s) _ _ g4) (.cons hv .nil)))
        · cases h2
def popS (env : Env) (i : Nat) : Option Slot → Option Out
  | some (.ow (.lst ds)) => if ds.isEmpty then none else some (.nx (env.set i (.own ds.dropLast)))
  | _ => none
def sPop (i : Nat) : GS := fun env => popS env i env[i]?
def revS (env : Env) (i : Nat) : Option Slot → Option Out
  | some (.ow (.lst ds)) => some (.nx (env.set i (.own ds.reverse)))
  | _ => none
def sRevIn (i : Nat) : GS := fun env => revS env i env[i]?
theorem DpAll_dropLast {K : PySem.W.Frag} {H : Hp} {vs : List V} {ds : List D} (h : DpAll K H vs ds) : DpAll K H vs.dropLast ds.dropLast := by
  rw [List.dropLast_eq_take, List.dropLast_eq_take, DpAll_len h]
  exact DpAll_take _ h
theorem sd_pop {i : Nat} {x : Str} {apos cpos px : Pos} (hN : X.N[i]? = some x) (hv : Vis X.env.scope x) (hd : (x == ("__debug__" : Str)) = false := by decide) (hcd : (x == ("__classdict__" : Str)) = false := by decide)
    (hbase : attributeBase (.Name x px) "pop" X.env (eval (.Name x px) X.env) = eval (.Name x px) X.env := by rfl) (hline : (apos.endLine == cpos.line) = true := by rfl)
    (hsw : swapsWith (.Call (.Attribute (.Name x px) "pop" apos) [] [] cpos) none pos.line X.env = pure false := by rfl) :
    PSd X (.Expr (.Call (.Attribute (.Name x px) "pop" apos) [] [] cpos) pos) (sPop i) := by
  refine ⟨_, ps_expr (pe_bm0 PySem.F.plainAttrs_list PySem.F.slot_list_pop PySem.F.type_list_pop mt_pop (pe_var hN hv hd hcd) hbase hline) hsw, fun H0 M env σ H pa o T E h q => ?_⟩
  unfold sPop at h
  cases hi : env[i]? with
  | none => rw [hi] at h; cases h
  | some sl =>
    rw [hi] at h
    cases sl with
    | un => cases h
    | fn f => cases h
    | val _ => cases h
    | ow c =>
      cases c with
      | dk _ => cases h
      | dn _ => cases h
      | lst ds =>
        have h : (if ds.isEmpty = true then none else some (Out.nx (env.set i (.own ds.dropLast)))) = some o := h
        split at h
        · cases h
        · rename_i hne
          have hne : ds ≠ [] := fun z => hne (by rw [z]; rfl)
          cases h
          obtain ⟨g1, g2, vs, g3, g4⟩ := E.own i ds hi
          have hl := DpAll_len g4
          have hp : 0 < ds.length := List.length_pos_iff.mpr hne
          have hlt : vs.length - 1 < vs.length := by omega
          refine ⟨_, g1, .inl ⟨rfl, vs, SqL.of g3⟩, _, vs, vs[vs.length - 1], rfl, rfl, g3, List.getElem?_eq_getElem hlt, ?_⟩
          exact q σ _ pa (E.write hi (DpAll_dropLast g4))
theorem sd_revIn {i : Nat} {x : Str} {apos cpos px : Pos} (hN : X.N[i]? = some x) (hv : Vis X.env.scope x) (hd : (x == ("__debug__" : Str)) = false := by decide) (hcd : (x == ("__classdict__" : Str)) = false := by decide)
    (hbase : attributeBase (.Name x px) "reverse" X.env (eval (.Name x px) X.env) = eval (.Name x px) X.env := by rfl) (hline : (apos.endLine == cpos.line) = true := by rfl)
    (hsw : swapsWith (.Call (.Attribute (.Name x px) "reverse" apos) [] [] cpos) none pos.line X.env = pure false := by rfl) :
    PSd X (.Expr (.Call (.Attribute (.Name x px) "reverse" apos) [] [] cpos) pos) (sRevIn i) := by
  refine ⟨_, ps_expr (pe_bm0 PySem.F.plainAttrs_list PySem.F.slot_list_reverse PySem.F.type_list_reverse mt_reverse (pe_var hN hv hd hcd) hbase hline) hsw, fun H0 M env σ H pa o T E h q => ?_⟩
  unfold sRevIn at h
  cases hi : env[i]? with
  | none => rw [hi] at h; cases h
  | some sl =>
    rw [hi] at h
    cases sl with
    | un => cases h
    | fn f => cases h
    | val _ => cases h
    | ow c =>
      cases c with
      | dk _ => cases h
      | dn _ => cases h
      | lst ds =>
        cases h
        obtain ⟨g1, g2, vs, g3, g4⟩ := E.own i ds hi
        refine ⟨_, g1, .inl ⟨rfl, vs, SqL.of g3⟩, _, vs, rfl, rfl, g3, ?_⟩
        exact q σ _ pa (E.write hi (DpAll_rev g4))
end
end Dn

namespace Dn
open PySem PySem.Spec PyProof.Rows L2

/-! ### 6. a def's contract; nothing is shown by repr around its call -/
structure FnG (P : Program) (w : World) (K : PySem.W.Frag) (mg : Str → Option Value) (base : Heap) (k : Nat) (f : Addr) (fd : FuncData) (ps : List Str) (sp : Sp) : Prop where
  len : ∀ zs H Q E, sp zs H Q E → zs.length = ps.length
  run : ∀ (A : Around) (out : List PySem.Env) (s : Shared) (H : Hp) (ar : Args) (us : List Value) (zs : List V) (Q : VK), Room k A → A.guards = some [] → Env0 P w K mg base A out s H → BindsTo s fd ar (ps.zip us) → Vals zs us → sp zs H Q E0 →
    codeAny (model P w) A (.call (.ref f) ar) (CR CX0 out P w H s Q E0) s
end Dn
namespace Dn
open PySem PySem.Spec PyProof.Rows L2
theorem FnG.mono {P : Program} {w : World} {K : PySem.W.Frag} {mg : Str → Option Value} {base : Heap} {j k : Nat} {f : Addr} {fd : FuncData} {ps : List Str} {sp : Sp} (F : FnG P w K mg base j f fd ps sp) (h : j ≤ k) : FnG P w K mg base k f fd ps sp :=
  ⟨F.len, fun A out s H ar us zs Q hr => F.run A out s H ar us zs Q (hr.mono h)⟩
theorem FnG.imp {P : Program} {w : World} {K : PySem.W.Frag} {mg : Str → Option Value} {base : Heap} {k : Nat} {f : Addr} {fd : FuncData} {ps : List Str} {sp sp' : Sp} (F : FnG P w K mg base k f fd ps sp) (h : ∀ zs H Q E, sp' zs H Q E → sp zs H Q E) : FnG P w K mg base k f fd ps sp' :=
  ⟨fun zs H Q E q => F.len zs H Q E (h _ _ _ _ q), fun A out s H ar us zs Q hr hg he hb hv hs => F.run A out s H ar us zs Q hr hg he hb hv (h _ _ _ _ hs)⟩
section
variable {X : Cx} {k : Nat} {f : Addr} {fd : FuncData} {ps : List Str} {sp : Sp} {x : Str} {p pos : Pos} {e : Expr} {es : List Expr} {t : TA}
theorem run_g {pins : List (Addr × Obj)} {σ : Sg} {H : Hp} {s : Shared} {Q : VK} {us : List Value} {zs : List V} (F : FnG X.prog X.w X.K X.mg X.base k f fd ps sp) (hr : Room k X.A) (hG : X.A.guards = some []) (hb : Binds X.K fd ps [])
    (I : Inv X pins σ H s) (r : Vals zs us) (h : sp zs H Q E0) : wpAny (model X.prog X.w) X.A (call (.ref f) us) (EP X pins σ Q) X.xe s := by
  have hl : (us ++ []).length = ps.length := by rw [List.append_nil, ← r.length]; exact F.len _ _ _ _ h
  have hB := hb s us I.kIn hl
  rw [List.append_nil] at hB
  refine wpAny_call (codeAny_mono (F.run X.A X.stack s H ⟨us, []⟩ us zs Q hr hG I.env0 hB r h) fun rr s' hq => ?_)
  cases rr with
  | error z => exact hq.elim
  | ok fl => cases fl with
    | ret u => exact I.after hq
    | _ => exact False.elim hq
theorem pe_callG (F : FnG X.prog X.w X.K X.mg X.base k f fd ps sp) (hr : Room k X.A) (hG : X.A.guards = some []) (hg : Gl X x) (hm : X.mg x = some (.ref f)) (hk : PySem.W.keepIn X.K (.ref f) = true) (hb : Binds X.K fd ps [])
    (ha : PA X (e :: es) t) (hdb : (x == ("__debug__" : Str)) = false) (he : starEach (e :: es) X.env = (false, eval e X.env) :: starEach es X.env) (hpl : (backTo pos (starEach es X.env)).any (·.1) = false) :
    PE X (.Call (.Name x p) (e :: es) [] pos) (fun σ H Q => t σ H fun zs H1 => sp zs H1 Q E0) := ⟨fun pins s σ H Q I h =>
  wpAny_Call_Name_kw (ld_glob I hg hm (PySem.W.callWith_K (h₀ := X.base) I.ok.mod.kin hk (thn (ha.run pos pins s σ H _ I h) fun us s1 hh => ⟨hh.elim fun _ z => z.elim fun _ z => z.1.kIn, hh.elim fun zs z => z.elim fun H1 z => run_g F hr hG hb z.1 z.2.1 z.2.2⟩) he hpl) hdb)⟩
end
section
variable {P : Program} {w : World} {K : PySem.W.Frag} {mg : Str → Option Value} {base : Heap}
/-- a def by its body -/
theorem fn_g {name qual : Str} {st : Stmt} {f : Addr} {fd : FuncData} {N ps : List Str} {k : Nat} {sp : Sp} (F : Fun K name qual st f fd) (S : FnScope N ps (defScope st)) (len : ∀ zs H Q E, sp zs H Q E → zs.length = ps.length)
    (body : ∀ (cdv : Value) (A : Around) (out : List PySem.Env) (s : Shared) (H : Hp) (zs : List V) (Q : VK), Room k (A.deeper (envOfC qual (defScope st) s.heap.objs.size f cdv)) → (A.deeper (envOfC qual (defScope st) s.heap.objs.size f cdv)).guards = some [] → sp zs H Q E0 →
      ∃ t, PSs (cxOf CX0 P w K mg base N qual (defScope st) f cdv A out s H E0).nox (defBody st) t ∧ t { nx := fun _ H' => Q .non H', rt := Q } (L2.start N zs) H) : FnG P w K mg base (k + 1) f fd ps sp := by
  obtain ⟨oc, od, kV, doc, pm, an, cdv, ct, osl, rfl, lk, hcd⟩ := F.ex
  refine ⟨len, fun A out s H ar us zs Q hr hG e0 hb r hsp => ?_⟩
  have hl := len _ _ _ _ hsp
  have up : ∀ b o, base.get? b = some o → s.heap.get? b = some o := fun b o e => (e0.bs b o e).1
  have KX : K.In s.heap := e0.mod.kin.keeps up
  have lim : s.heap.NoLimit := e0.mod.nolimit.keeps up
  refine codeAny_call_function hr.depth (KX _ _ lk) rfl S.co S.gen rfl (PySem.W.codeRec_of KX hcd) (hb _ _ _ _ ?_)
  refine wpAny_newFunctionEnv_cells S.kind (fun y hy => ?_) fun env he s1 x => ?_
  · rcases S.par y.1 (List.of_mem_zip (show (y.1, y.2) ∈ ps.zip us from hy)).1 with q | q
    · exact .inl q
    · exact .inr ⟨q, PySem.W.cellsFrom_some _ _ _ (.inl q)⟩
  subst he
  refine ⟨lim.keeps x.toInCall.keep, codeAny_func ?_⟩
  obtain ⟨t, ht, hq⟩ := body cdv A out s H zs Q (hr.deeper _) hG hsp
  have ht := ht.nox
  have I : Inv (cxOf CX0 P w K mg base N qual (defScope st) f cdv A out s H E0) [] (L2.start N zs) H s1 := inv_start S hr.hd e0 hl r x
  refine wpAny_mono (ht.run [] s1 (L2.start N zs) H _ I hq) (fun fl s' hs => ?_) fun e s' hs => hs
  cases fl with
  | ret u =>
    obtain ⟨v, σ', H', J, rv, q⟩ := hs
    exact ⟨v, H', J.os, J.bare, J.base, J.hok, rv, q⟩
  | next =>
    obtain ⟨σ', H', J, q⟩ := hs
    exact ⟨V.non, H', J.os, J.bare, J.base, J.hok, (rfl : Value.none = Value.none), q⟩
  | brk => exact (hs.elim fun _ z => z.elim fun _ z => z.2).elim
  | cont => exact (hs.elim fun _ z => z.elim fun _ z => z.2).elim
/-- a def of the text that keeps a promise by data, known by its name -/
def Ok (P : Program) (w : World) (K : PySem.W.Frag) (mg : Str → Option Value) (base : Heap) (name : Str) (k n : Nat) (F : List D → Option D) : Prop :=
  ∃ f fd ps, mg name = some (.ref f) ∧ PySem.W.keepIn K (.ref f) = true ∧ Binds K fd ps [] ∧ FnG P w K mg base k f fd ps (SpD K n F)
/-- a def of the text as it stands -/
def Df (K : PySem.W.Frag) (mg : Str → Option Value) (name : Str) (st : Stmt) (ps : List Str) : Prop :=
  ∃ f fd, Fun K name name st f fd ∧ mg name = some (.ref f) ∧ Binds K fd ps []
theorem ok_of {name : Str} {st : Stmt} {N ps : List Str} {k : Nat} {g : GS} (T : Df K mg name st ps) (S : FnScope N ps (defScope st)) (hl : ps.length ≤ N.length)
    (body : ∀ (f : Addr) (cdv : Value) (A : Around) (out : List PySem.Env) (s : Shared) (H : Hp), Room k (A.deeper (envOfC name (defScope st) s.heap.objs.size f cdv)) → (A.deeper (envOfC name (defScope st) s.heap.objs.size f cdv)).guards = some [] →
      PSsd (cxOf CX0 P w K mg base N name (defScope st) f cdv A out s H E0).nox (defBody st) g) : Ok P w K mg base name (k + 1) ps.length (runF N.length ps.length g) := by
  obtain ⟨f, fd, F, hm, hb⟩ := T
  exact ⟨f, fd, ps, hm, F.kp, hb, fn_g F S (fun zs H Q E h => h.len) fun cdv A out s H zs Q hr hG hsp => fn_d (body f cdv A out s H hr hG) hl hsp⟩
end
section
variable {X : Cx} {b : Bool} {k n : Nat} {x : Str} {p pos : Pos} {e : Expr} {es : List Expr} {gs : GA} {F : List D → Option D}
theorem pd_fn (O : Ok X.prog X.w X.K X.mg X.base x k (es.length + 1) F) (hr : Room k X.A) (hG : X.A.guards = some []) (ha : PAd X b (e :: es) gs) (hg : Gl X x := by rfl) (hdb : (x == ("__debug__" : Str)) = false := by decide)
    (he : starEach (e :: es) X.env = (false, eval e X.env) :: starEach es X.env := by rfl) (hpl : (backTo pos (starEach es X.env)).any (·.1) = false := by rfl) : PEd X b (.Call (.Name x p) (e :: es) [] pos) (gArgs F gs) := by
  obtain ⟨f, fd, ps, hm, hk, hb, G⟩ := O
  obtain ⟨t, ht, hh⟩ := ha
  refine ⟨_, pe_callG G hr hG hg hm hk hb ht hdb he hpl, fun H0 M env σ H pa d Q E h q => ?_⟩
  obtain ⟨ds, h1, h2⟩ := bind1 h
  exact hh H0 M env σ H pa ds _ E h1 fun vs H' s hv hl => ⟨ds, d, _, hv, h2, hl, Vs_nf b (E.up s), fun v H'' s' hv' => q v H'' (s.trans s') hv'⟩

/-! is None -/
variable {a : Expr} {ga : GE}
theorem dp_none {K : PySem.W.Frag} {H : Hp} {v : V} {d : D} (h : Dp K H v d) : decide (v = .non) = isNone d := by cases h <;> rfl
theorem pd_isN {j pos'} (ha : PEd X b a ga) : PEd X b (.Compare a [.Is] [.Constant .none j pos'] pos) (g1 vIsN ga) := by
  obtain ⟨t, ht, hh⟩ := ha
  refine ⟨_, pe_cmp (pc_isN ht) rfl, fun H0 M env σ H pa d Q E h q => ?_⟩
  obtain ⟨d1, h1, h2⟩ := bind1 h
  cases h2
  exact hh H0 M env σ H pa d1 _ E h1 fun v H' s hv => q _ H' s (by rw [dp_none hv]; exact .bl _)
theorem pd_notN {j pos'} (ha : PEd X b a ga) : PEd X b (.Compare a [.IsNot] [.Constant .none j pos'] pos) (g1 vNotN ga) := by
  obtain ⟨t, ht, hh⟩ := ha
  refine ⟨_, pe_cmp (pc_notN ht) rfl, fun H0 M env σ H pa d Q E h q => ?_⟩
  obtain ⟨d1, h1, h2⟩ := bind1 h
  cases h2
  exact hh H0 M env σ H pa d1 _ E h1 fun v H' s hv => q _ H' s (by rw [dp_none hv]; exact .bl _)
theorem pt_isN {j pos'} (ha : PEd X true a ga) : PTd X (.Compare a [.Is] [.Constant .none j pos'] pos) (gTest (g1 vIsN ga)) := by
  obtain ⟨t, ht, hh⟩ := ha
  refine ⟨_, pt_cmp (pc_isN ht) rfl, fun H0 M env σ H pa k Q E h q => ?_⟩
  obtain ⟨d, h0, hk⟩ := bind1 h
  obtain ⟨d1, h1, h2⟩ := bind1 h0
  cases h2
  cases hk
  exact hh H0 M env σ H pa d1 _ E h1 fun v H' s hv => ⟨_, by rw [dp_none hv], q H' s⟩
theorem pt_notN {j pos'} (ha : PEd X true a ga) : PTd X (.Compare a [.IsNot] [.Constant .none j pos'] pos) (gTest (g1 vNotN ga)) := by
  obtain ⟨t, ht, hh⟩ := ha
  refine ⟨_, pt_cmp (pc_notN ht) rfl, fun H0 M env σ H pa k Q E h q => ?_⟩
  obtain ⟨d, h0, hk⟩ := bind1 h
  obtain ⟨d1, h1, h2⟩ := bind1 h0
  cases h2
  cases hk
  exact hh H0 M env σ H pa d1 _ E h1 fun v H' s hv => ⟨_, by rw [dp_none hv], q H' s⟩
end

/-! isinstance -/
def tyName : D → Option String
  | .bool _ => some "bool"
  | .int _ => some "int"
  | .str _ => some "str"
  | .list _ => some "list"
  | .tuple _ => some "tuple"
  | .none => some "NoneType"
  | _ => none
end Dn

namespace Dn
open PySem PySem.Spec PyProof.Rows L2

/-! ### 7. isinstance, repr, in -/
def isSub (t T : String) : Bool := t == T || (t == "bool" && T == "int")
def vIsi (T : String) : List D → Option D
  | [x] => (tyName x).bind fun t => some (.bool (isSub t T))
  | _ => none
theorem tyX {K : PySem.W.Frag} {H : Hp} {v : V} {d : D} {t : String} (h : Dp K H v d) (e : tyName d = some t) : TyX K H v (.type t) := by
  cases h with
  | non => cases e; exact .base .non
  | bl b => cases e; exact .base (.bl b)
  | int i => cases e; exact .base (.int i)
  | str x => cases e; exact .base (.str x)
  | lst hs _ =>
    cases e
    rcases hs with (hs | ⟨o, hs⟩) | ⟨o, its, n, hk, hc, _⟩
    · exact .base (.lst hs)
    · exact .base (.frz hs)
    · exact .kList hk hc
  | tup hs _ =>
    cases e
    rcases hs with (hs | ⟨o, hs⟩) | ⟨o, its, n, hk, hc, _⟩
    · exact .base (.tup hs)
    · exact .fTuple hs
    · exact .kTuple hk hc
def kitTab (T : String) : Prop := ∀ t ∈ ["bool", "int", "str", "list", "tuple", "NoneType"], kitB t T = some (isSub t T)
theorem kit_bool : kitTab "bool" := by unfold kitTab; decide +kernel
theorem kit_int : kitTab "int" := by unfold kitTab; decide +kernel
theorem kit_tuple : kitTab "tuple" := by unfold kitTab; decide +kernel
theorem kit_list : kitTab "list" := by unfold kitTab; decide +kernel
theorem kit_str : kitTab "str" := by unfold kitTab; decide +kernel
theorem tyName_mem {d : D} {t : String} (e : tyName d = some t) : t ∈ ["bool", "int", "str", "list", "tuple", "NoneType"] := by
  cases d <;> cases e <;> decide
section
variable {X : Cx} {b : Bool} {x y : Str} {p p1 p2 pos : Pos} {a c e elt tg iter : Expr} {ga gb : GE}
theorem pd_isi {T : String} (hT : kitTab T) (hg : Gl X "isinstance") (hm : X.mg "isinstance" = none) (hg2 : Gl X y) (hm2 : X.mg y = none) (hv2 : bootBuiltins y = some (.type T)) (ha : PEd X b a ga)
    (hn : y ≠ "__name__" := by decide) (hd : (y == ("__debug__" : Str)) = false := by decide)
    (hs1 : starEach [a, .Name y p2] X.env = (false, eval a X.env) :: starEach [.Name y p2] X.env := by rfl) (hs2 : starEach [.Name y p2] X.env = (false, eval (.Name y p2) X.env) :: starEach [] X.env := by rfl) (hpl : (backTo pos (starEach [.Name y p2] X.env)).any (·.1) = false := by rfl) :
    PEd X b (.Call (.Name "isinstance" p) [a, .Name y p2] [] pos) (gArgs (vIsi T) (aCons ga aNil)) := by
  obtain ⟨t, ht, hh⟩ := ha
  refine ⟨_, pe_callB (x := "isinstance") call_isi hg hm (by decide +kernel) (pa_cons ht (pa_cons (pe_bltn hg2 hm2 hv2 (v := .ty T) (show RelV (.ty T) (.type T) from rfl) hn hd) pa_nil hs2) hs1) (by decide) (by decide) hs1 hpl, fun H0 M env σ H pa d Q E h q => ?_⟩
  obtain ⟨ds, h1, h2⟩ := bind1 h
  obtain ⟨d1, ds', h3, h4, h5⟩ := bind2 h1
  cases h4
  cases h5
  obtain ⟨tn, h6, h7⟩ := bind1 h2
  cases h7
  refine hh H0 M env σ H pa d1 _ E h3 fun v H' s hv => ?_
  exact ⟨v, .ty T, .type tn, .type T, _, rfl, .ty T, tyX (Dp_mono vw_le _ _ hv) h6, kit_ty (hT tn (tyName_mem h6)), q _ H' s (.bl _)⟩
/-- what repr shows, of a bounded size -/
def okShow (d : D) : Bool := d.showable && !d.hasDict && decide (d.depth ≤ 60) && decide (d.shown.length ≤ lim)
def vRepr (d : D) : Option D := if okShow d then some (.str d.shown) else none
def isRefD : D → Bool
  | .list _ => true
  | .tuple _ => true
  | _ => false
def vRepr1 (d : D) : Option D := if isRefD d then vRepr d else none
theorem call_reprD (hG : X.A.guards = some []) (hu : X.A.units + 200 < cLine) : CallR X (.builtin "repr") (fun xs H Q => ∃ (a : Addr) (d : D), xs = [.ref a] ∧ Dp X.K H (.ref a) d ∧ okShow d = true ∧ Q (.str d.shown) H) := by
  intro pins s σ H xs us Q I r h
  obtain ⟨a, d, rfl, hd, ho, q⟩ := h
  obtain ⟨u, rfl, rx⟩ := vals1 r
  obtain ⟨as, hr⟩ := Dp.reads I d _ u hd rx
  cases rx
  have h1 := Bool.and_eq_true_iff.mp (show (d.showable && !d.hasDict && decide (d.depth ≤ 60) && decide (d.shown.length ≤ lim)) = true from ho)
  have h2 := Bool.and_eq_true_iff.mp h1.1
  have h3 := Bool.and_eq_true_iff.mp h2.1
  have h4 := of_decide_eq_true h2.2
  have h5 := of_decide_eq_true h1.2
  have nd : d.hasDict = false := by simpa using h3.2
  refine repr_of_reads' hr h3.1 (fun z => by rw [nd] at z; cases z) hG (by omega) (fun _ _ z => z) (fun h' u' tk kp => ?_) (by rw [← lim_eq]; exact h5)
  exact ⟨.str d.shown, H, I.kept kp, ⟨u', rfl⟩, q⟩
theorem pd_repr (hG : X.A.guards = some []) (hu : X.A.units + 200 < cLine) (hg : Gl X "repr") (hm : X.mg "repr" = none) (ha : PEd X b a ga) (hs1 : starEach [a] X.env = (false, eval a X.env) :: starEach [] X.env := by rfl) (hpl : (backTo pos (starEach [] X.env)).any (·.1) = false := by rfl) :
    PEd X b (.Call (.Name "repr" p) [a] [] pos) (g1 vRepr1 ga) := by
  obtain ⟨t, ht, hh⟩ := ha
  refine ⟨_, pe_callB (x := "repr") (call_reprD hG hu) hg hm (by decide +kernel) (pa_cons ht pa_nil hs1) (by decide) (by decide) hs1 hpl, fun H0 M env σ H pa d Q E h q => ?_⟩
  obtain ⟨d1, h1, h2⟩ := bind1 h
  refine hh H0 M env σ H pa d1 _ E h1 fun v H' s hv => ?_
  have h2 : (if isRefD d1 = true then vRepr d1 else none) = some d := h2
  split at h2
  · have h3 : (if okShow d1 = true then some (PyData.str d1.shown) else none) = some d := h2
    split at h3
    · rename_i ho
      cases h3
      cases hv with
      | lst hs hall => exact ⟨_, _, rfl, .lst (vw_le.seq hs) (DpAll_mono vw_le _ _ hall), ho, q _ H' s (.str _)⟩
      | tup hs hall => exact ⟨_, _, rfl, .tup (seqT vw_le hs) (DpAll_mono vw_le _ _ hall), ho, q _ H' s (.str _)⟩
      | _ => rename_i hr; cases hr
    · cases h3
  · cases h2
def flatD : D → Bool
  | .none => true
  | .bool _ => true
  | .int _ => true
  | .str _ => true
  | _ => false
/-- x in y: a list of data of any depth, a tuple of flat ones -/
def vIn : D → D → Option D
  | x, .list ds => if SeqAt.shaped x && SeqAt.shaped (.list ds) then some (.bool (ds.any fun z => PyData.eqv z x)) else none
  | x, .tuple ds => if flatD x && ds.all flatD then some (.bool (ds.any fun z => PyData.eqv z x)) else none
  | _, _ => none
def vNotIn : D → D → Option D
  | x, .list ds => if SeqAt.shaped x && SeqAt.shaped (.list ds) then some (.bool (!ds.any fun z => PyData.eqv z x)) else none
  | x, .tuple ds => if flatD x && ds.all flatD then some (.bool (!ds.any fun z => PyData.eqv z x)) else none
  | _, _ => none
theorem flat_of {K : PySem.W.Frag} {H : Hp} {v : V} {d : D} (h : Dp K H v d) (f : flatD d = true) : flatV v = true := by
  cases h <;> first | rfl | cases f
theorem eqv_of {K : PySem.W.Frag} {H : Hp} {u v : V} {d e : D} (hu : Dp K H u d) (hv : Dp K H v e) (f : flatD d = true) (f' : flatD e = true) : eqV u v = PyData.eqv d e := by
  cases hu <;> cases hv <;> first | (exact absurd f Bool.false_ne_true) | (exact absurd f' Bool.false_ne_true) | (simp only [eqV, PyData.eqv])
theorem any_of {K : PySem.W.Frag} {H : Hp} {v : V} {e : D} (hv : Dp K H v e) (f' : flatD e = true) : ∀ {us : List V} {ds : List D}, DpAll K H us ds → ds.all flatD = true → us.all flatV = true ∧ inV v us = ds.any fun z => PyData.eqv z e
  | _, _, .nil, _ => ⟨rfl, rfl⟩
  | _, _, .cons h t, f => by
    rw [List.all_cons, Bool.and_eq_true] at f
    obtain ⟨h1, h2⟩ := any_of hv f' t f.2
    refine ⟨by rw [List.all_cons, flat_of h f.1, h1]; rfl, ?_⟩
    unfold inV at h2 ⊢
    rw [List.any_cons, List.any_cons, h2, eqv_of h hv f.1 f']
abbrev rInA (K : PySem.W.Frag) : R2 := fun x y H Q => rInD K x y H Q ∨ rIn K false x y H Q
abbrev rNotInA (K : PySem.W.Frag) : R2 := fun x y H Q => rNotInD K x y H Q ∨ rIn K true x y H Q
theorem op_inA (hu : X.A.units + 65 < cLine) : OpR X (compareOp .In) (rInA X.K) := (op_inD hu).or op_in_seq
theorem op_notInA (hu : X.A.units + 65 < cLine) : OpR X (compareOp .NotIn) (rNotInA X.K) := (op_notInD hu).or op_notIn_seq
theorem od_in {K : PySem.W.Frag} : OpD K (rInA K) vIn := by
  intro P H x y d e z Q nf hx hy h q
  cases hy with
  | @lst a xs ds hs ha =>
    have h : (if (SeqAt.shaped d && SeqAt.shaped (.list ds)) = true then some (PyData.bool (ds.any fun z => PyData.eqv z d)) else none) = some z := h
    split at h
    · rename_i hsh
      cases h
      have hsh := Bool.and_eq_true_iff.mp hsh
      exact .inl ⟨d, ds, Dp_mono vw_le _ _ hx, .lst (vw_le.seq hs) (DpAll_mono vw_le _ _ ha), hsh.1, hsh.2, q _ H (Same.refl H) (.bl _)⟩
    · cases h
  | @tup a xs ds hs ha =>
    have h : (if (flatD d && ds.all flatD) = true then some (PyData.bool (ds.any fun z => PyData.eqv z d)) else none) = some z := h
    split at h
    · rename_i hsh
      cases h
      have hsh := Bool.and_eq_true_iff.mp hsh
      obtain ⟨h1, h2⟩ := any_of hx hsh.1 ha hsh.2
      exact .inr ⟨_, _, rfl, .inr (seqT vw_le hs), flat_of hx hsh.1, h1, q _ H (Same.refl H) (by simp only [Bool.false_eq_true, if_false]; rw [h2]; exact .bl _)⟩
    · cases h
  | _ => cases d <;> cases h
theorem od_notIn {K : PySem.W.Frag} : OpD K (rNotInA K) vNotIn := by
  intro P H x y d e z Q nf hx hy h q
  cases hy with
  | @lst a xs ds hs ha =>
    have h : (if (SeqAt.shaped d && SeqAt.shaped (.list ds)) = true then some (PyData.bool (!ds.any fun z => PyData.eqv z d)) else none) = some z := h
    split at h
    · rename_i hsh
      cases h
      have hsh := Bool.and_eq_true_iff.mp hsh
      exact .inl ⟨d, ds, Dp_mono vw_le _ _ hx, .lst (vw_le.seq hs) (DpAll_mono vw_le _ _ ha), hsh.1, hsh.2, q _ H (Same.refl H) (.bl _)⟩
    · cases h
  | @tup a xs ds hs ha =>
    have h : (if (flatD d && ds.all flatD) = true then some (PyData.bool (!ds.any fun z => PyData.eqv z d)) else none) = some z := h
    split at h
    · rename_i hsh
      cases h
      have hsh := Bool.and_eq_true_iff.mp hsh
      obtain ⟨h1, h2⟩ := any_of hx hsh.1 ha hsh.2
      exact .inr ⟨_, _, rfl, .inr (seqT vw_le hs), flat_of hx hsh.1, h1, q _ H (Same.refl H) (by simp only [if_true]; rw [h2]; exact .bl _)⟩
    · cases h
  | _ => cases d <;> cases h

/-! ### 8. comprehensions -/
def wipeE (env : Env) : List Nat → Env
  | [] => env
  | v :: vs => (wipeE env vs).set v .un
def compG (t : GT) (c : GB) (e : GE) (env : Env) : List D → Option (List D)
  | [] => some []
  | d :: ds => (t d env).bind fun env1 => (c env1).bind fun k => if k = true then (e env1).bind fun y => (compG t c e env ds).bind fun r => some (y :: r) else compG t c e env ds
def gYes : GB := fun _ => some true
def isOwn : Option Slot → Bool
  | some (.ow _) => true
  | _ => false
def noOwB (env : Env) : List Nat → Bool
  | [] => true
  | i :: vs => !isOwn env[i]? && noOwB env vs
def gComp (vs : List Nat) (gi : GA) (t : GT) (c : GB) (e : GE) : GE := fun env => (gi env).bind fun ds => if noOwB env vs && decide (ds.length < lim) then (compG t c e (wipeE env vs) ds).bind fun r => some (.list r) else none
theorem EO.setUn {K : PySem.W.Frag} {H0 H : Hp} {M : Addr → Prop} {env : Env} {σ : Sg} {pa : Nat → Addr} (E : EO K H0 M env σ H pa) (i : Nat) : EO K H0 M (env.set i .un) (σ.set i none) H pa := by
  have ow : ∀ a, Ow (env.set i .un) pa a → Ow env pa a := fun a ⟨j, ds, h1, h2⟩ => by
    rcases set_some h1 with ⟨_, e, _⟩ | ⟨_, e⟩
    · cases e
    · exact ⟨j, ds, e, h2⟩
  have ms : Same (vw (Hd M env pa) H) (vw (Hd M (env.set i .un) pa) H) := vw_same (Same.refl H) fun a _ _ q => by
    rcases q with q | q
    · exact .inl q
    · exact .inr (ow a q)
  refine ⟨E.same, E.hid, by simp [E.len], fun j e h => ?_, fun j ds h => ?_, fun j k ds es h1 h2 h3 => ?_, E.fset (fun f z => by cases z)⟩
  · rcases set_some h with ⟨_, q, _⟩ | ⟨ne, q⟩
    · cases q
    · obtain ⟨u, h1, h2⟩ := E.val j e q
      exact ⟨u, by rw [List.getElem?_set_ne (Ne.symm ne)]; exact h1, Dp_mono ms _ _ h2⟩
  · rcases set_some h with ⟨_, q, _⟩ | ⟨ne, q⟩
    · cases q
    · obtain ⟨h1, h2, vs, h3, h4⟩ := E.ow j ds q
      exact ⟨by rw [List.getElem?_set_ne (Ne.symm ne)]; exact h1, h2, vs, h3, Ct.mono ms h4⟩
  · rcases set_some h1 with ⟨_, q, _⟩ | ⟨_, q⟩
    · cases q
    · rcases set_some h2 with ⟨_, r, _⟩ | ⟨_, r⟩
      · cases r
      · exact E.inj j k ds es q r h3
theorem EO.wipe {K : PySem.W.Frag} {H0 H : Hp} {M : Addr → Prop} {env : Env} {σ : Sg} {pa : Nat → Addr} (E : EO K H0 M env σ H pa) : ∀ vs : List Nat, EO K H0 M (wipeE env vs) (L2.wipe σ vs) H pa
  | [] => E
  | v :: vs => (EO.wipe E vs).setUn v
theorem ow_wipe {env : Env} {pa : Nat → Addr} {a : Addr} : ∀ {vs : List Nat}, Ow (wipeE env vs) pa a → Ow env pa a
  | [], h => h
  | v :: vs, ⟨j, ds, h1, h2⟩ => by
    rcases set_some h1 with ⟨_, e, _⟩ | ⟨_, e⟩
    · cases e
    · exact ow_wipe (vs := vs) ⟨j, ds, e, h2⟩
/-- the readings that stand for themselves -/
def tOf (K : PySem.W.Frag) (b : Bool) (g : GE) : TE := fun σ H Q => ∃ (H0 : Hp) (M : Addr → Prop) (env : Env) (pa : Nat → Addr) (d : D), EO K H0 M env σ H pa ∧ g env = some d ∧ ∀ v H', Same H H' → Dp K (vw (Vs b M env pa) H') v d → Q v H'
theorem PEd.can {g : GE} (h : PEd X b e g) : PE X e (tOf X.K b g) := by
  obtain ⟨t, ht, hh⟩ := h
  exact ⟨fun pins s σ H Q I ⟨H0, M, env, pa, d, E, h, q⟩ => ht.run pins s σ H Q I (hh H0 M env σ H pa d Q E h q)⟩
def uOf (K : PySem.W.Frag) (g : GB) : TT := fun σ H Q => ∃ (H0 : Hp) (M : Addr → Prop) (env : Env) (pa : Nat → Addr) (k : Bool), EO K H0 M env σ H pa ∧ g env = some k ∧ ∀ H', Same H H' → Q k H'
theorem PTd.can {g : GB} (h : PTd X e g) : PT X e (uOf X.K g) := by
  obtain ⟨t, ht, hh⟩ := h
  exact ⟨fun pins s σ H Q I ⟨H0, M, env, pa, d, E, h, q⟩ => ht.run pins s σ H Q I (hh H0 M env σ H pa d Q E h q)⟩
def PTsd (X : Cx) (ifs : List Expr) (g : GB) : Prop := PTs X ifs (uOf X.K g)
theorem ptsd_nil : PTsd X [] gYes := ⟨fun pins s σ H Q I ⟨H0, M, env, pa, k, E, h, q⟩ => by cases h; exact pts_nil.run pins s σ H Q I (q H (Same.refl H))⟩
theorem ptsd_one {g : GB} (h : PTd X e g) : PTsd X [e] g := pts_one h.can
def NoOw (vs : List Nat) (env : Env) : Prop := ∀ i ∈ vs, ∀ ds : Cont, env[i]? ≠ some (Slot.ow ds)
theorem noOw_of {env : Env} : ∀ {vs : List Nat}, noOwB env vs = true → NoOw vs env
  | [], _ => fun i h => by cases h
  | v :: vs, h => fun i hi ds z => by
    have h := Bool.and_eq_true_iff.mp (show (!isOwn env[v]? && noOwB env vs) = true from h)
    rcases List.mem_cons.mp hi with rfl | hi
    · rw [z] at h
      exact absurd h.1 Bool.false_ne_true
    · exact noOw_of h.2 i hi ds z
theorem ow_wipe2 {env : Env} {pa : Nat → Addr} {a : Addr} : ∀ {vs : List Nat}, NoOw vs env → Ow env pa a → Ow (wipeE env vs) pa a
  | [], _, h => h
  | v :: vs, n, h => by
    obtain ⟨j, ds, h1, h2⟩ := ow_wipe2 (vs := vs) (fun i hi => n i (List.mem_cons_of_mem _ hi)) h
    refine ⟨j, ds, ?_, h2⟩
    show ((wipeE env vs).set v .un)[j]? = _
    have ne : v ≠ j := fun e => by
      subst e
      have back : ∀ (ws : List Nat), (wipeE env ws)[v]? = some (Slot.ow ds) → env[v]? = some (Slot.ow ds) := by
        intro ws
        induction ws with
        | nil => exact id
        | cons w ws ih =>
          intro q
          rcases set_some q with ⟨_, q, _⟩ | ⟨_, q⟩
          · cases q
          · exact ih q
      exact n v List.mem_cons_self ds (back vs h1)
    rw [List.getElem?_set_ne ne]
    exact h1
theorem noOw_wipe {env : Env} : ∀ {vs : List Nat}, NoOw vs (wipeE env vs)
  | [], i, h => by cases h
  | v :: vs, i, h => fun ds z => by
    rcases set_some (show ((wipeE env vs).set v .un)[i]? = some (Slot.ow ds) from z) with ⟨_, q, _⟩ | ⟨ne, q⟩
    · cases q
    · rcases List.mem_cons.mp h with rfl | h
      · exact ne rfl
      · exact noOw_wipe (vs := vs) i h ds q
/-- a comprehension's target: it stores at the slots vs alone -/
structure TGc (vs : List Nat) (t : GT) : Prop where
  fw : ∀ d env env' pa a, t d env = some env' → Ow env' pa a → Ow env pa a
  bw : ∀ d env env' pa a, NoOw vs env → t d env = some env' → Ow env pa a → Ow env' pa a
  no : ∀ d env env', NoOw vs env → t d env = some env' → NoOw vs env'
structure TGsc (vs : List Nat) (ts : List GT) : Prop where
  fw : ∀ ds env env' pa a, tTup2 ts ds env = some env' → Ow env' pa a → Ow env pa a
  bw : ∀ ds env env' pa a, NoOw vs env → tTup2 ts ds env = some env' → Ow env pa a → Ow env' pa a
  no : ∀ ds env env', NoOw vs env → tTup2 ts ds env = some env' → NoOw vs env'
def PGc (X : Cx) (vs : List Nat) (tg : Expr) (t : GT) : Prop := TGc vs t ∧ ∃ g, PG X tg g ∧ ∀ (H0 : Hp) (M : Addr → Prop) (env : Env) (σ : Sg) (H : Hp) (pa : Nat → Addr) (v : V) (d : D) (env' : Env) (Q : Sg → Hp → Prop), EO X.K H0 M env σ H pa → Dp X.K (vw (Hd M env pa) H) v d → t d env = some env' →
      (∀ σ' H', Same H H' → L2.wipe σ' vs = L2.wipe σ vs → EO X.K H0 M env' σ' H' pa → Q σ' H') → g v σ H Q
def PGsc (X : Cx) (vs : List Nat) (tgs : List Expr) (ts : List GT) : Prop := TGsc vs ts ∧ ∃ g, PGs X tgs g ∧ ∀ (H0 : Hp) (M : Addr → Prop) (env : Env) (σ : Sg) (H : Hp) (pa : Nat → Addr) (ws : List V) (ds : List D) (env' : Env) (Q : Sg → Hp → Prop), EO X.K H0 M env σ H pa → DpAll X.K (vw (Hd M env pa) H) ws ds → tTup2 ts ds env = some env' →
      (∀ σ' H', Same H H' → L2.wipe σ' vs = L2.wipe σ vs → EO X.K H0 M env' σ' H' pa → Q σ' H') → g ws σ H Q
theorem wipe_set {σ : Sg} {i : Nat} {o : Option V} : ∀ {vs : List Nat}, i ∈ vs → L2.wipe (σ.set i o) vs = L2.wipe σ vs
  | [], h => by cases h
  | v :: vs, h => by
    show (L2.wipe (σ.set i o) vs).set v none = (L2.wipe σ vs).set v none
    by_cases hm : i ∈ vs
    · rw [wipe_set hm]
    · have e : i = v := by
        rcases List.mem_cons.mp h with h | h
        · exact h
        · exact absurd h hm
      subst e
      have out : ∀ (ws : List Nat), i ∉ ws → L2.wipe (σ.set i o) ws = (L2.wipe σ ws).set i o := by
        intro ws
        induction ws with
        | nil => intro _; rfl
        | cons w ws ih =>
          intro hn
          have h1 : i ≠ w := fun z => hn (by rw [z]; exact List.mem_cons_self)
          have h2 : i ∉ ws := fun z => hn (List.mem_cons_of_mem _ z)
          show (L2.wipe (σ.set i o) ws).set w none = ((L2.wipe σ ws).set w none).set i o
          rw [ih h2, List.set_comm _ _ h1]
      rw [out vs hm, List.set_set]
theorem wipe_idem {σ : Sg} {vs : List Nat} : L2.wipe (L2.wipe σ vs) vs = L2.wipe σ vs := by
  have : ∀ ws : List Nat, (∀ i ∈ ws, i ∈ vs) → L2.wipe (L2.wipe σ ws) vs = L2.wipe σ vs := by
    intro ws
    induction ws with
    | nil => intro _; rfl
    | cons w ws ih =>
      intro h
      show L2.wipe ((L2.wipe σ ws).set w none) vs = _
      rw [wipe_set (h w List.mem_cons_self), ih fun i hi => h i (List.mem_cons_of_mem _ hi)]
  exact this vs fun _ h => h
theorem tgc_name {i : Nat} {vs : List Nat} (hv : i ∈ vs) : TGc vs (tName i) := by
  refine ⟨fun d env env' pa a h z => ?_, fun d env env' pa a n h z => ?_, fun d env env' n h => ?_⟩
  · cases h
    exact ow_set_val z
  · cases h
    obtain ⟨j, ds, h1, h2⟩ := z
    refine ⟨j, ds, ?_, h2⟩
    have ne : i ≠ j := fun e => by subst e; exact n i hv ds h1
    rw [List.getElem?_set_ne ne]
    exact h1
  · cases h
    intro j hj ds z
    rcases set_some z with ⟨_, q, _⟩ | ⟨_, q⟩
    · cases q
    · exact n j hj ds q
theorem gc_name {i : Nat} {vs : List Nat} (hN : X.N.Nodup) (hi : X.N[i]? = some x) (hx : Loc X.env.scope x) (hv : i ∈ vs := by decide) (hf : X.fn x = true ∨ X.env.scope.names.lookup x = some .local := by first | exact .inl rfl | exact .inr rfl | assumption) : PGc X vs (.Name x pos) (tName i) := by
  refine ⟨tgc_name hv, _, pg_name hN hi hx hf, fun H0 M env σ H pa v d env' Q E hv' h q => ?_⟩
  cases h
  exact q _ H (Same.refl H) (wipe_set hv) (E.setVal hv')
theorem gsc_nil {vs : List Nat} : PGsc X vs [] [] := by
  refine ⟨⟨fun ds env env' pa a h z => ?_, fun ds env env' pa a n h z => ?_, fun ds env env' n h => ?_⟩, _, pgs_nil, fun H0 M env σ H pa ws ds env' Q E hv h q => ?_⟩
  · cases ds with
    | nil => cases h; exact z
    | cons _ _ => cases h
  · cases ds with
    | nil => cases h; exact z
    | cons _ _ => cases h
  · cases ds with
    | nil => cases h; exact n
    | cons _ _ => cases h
  · cases hv with
    | nil => cases h; exact ⟨rfl, q _ _ (Same.refl H) rfl E⟩
    | cons _ _ => cases h
theorem gsc_cons {vs : List Nat} {es : List Expr} {t : GT} {ts : List GT} (h1 : PGc X vs e t) (h2 : PGsc X vs es ts) (hs : (assignEach (e :: es) X.env).map (·.2) = assign e X.env :: (assignEach es X.env).map (·.2) := by rfl) : PGsc X vs (e :: es) (t :: ts) := by
  obtain ⟨T1, g, hg, hh⟩ := h1
  obtain ⟨T2, u, hu, hh'⟩ := h2
  refine ⟨⟨fun ds env env' pa a h z => ?_, fun ds env env' pa a n h z => ?_, fun ds env env' n h => ?_⟩, _, pgs_cons hg hu hs, fun H0 M env σ H pa ws ds env' Q E hv h q => ?_⟩
  · cases ds with
    | nil => cases h
    | cons d ds =>
      obtain ⟨env1, h1, h2⟩ := bind1 h
      exact T1.fw _ _ _ _ _ h1 (T2.fw _ _ _ _ _ h2 z)
  · cases ds with
    | nil => cases h
    | cons d ds =>
      obtain ⟨env1, h1, h2⟩ := bind1 h
      exact T2.bw _ _ _ _ _ (T1.no _ _ _ n h1) h2 (T1.bw _ _ _ _ _ n h1 z)
  · cases ds with
    | nil => cases h
    | cons d ds =>
      obtain ⟨env1, h1, h2⟩ := bind1 h
      exact T2.no _ _ _ (T1.no _ _ _ n h1) h2
  · cases hv with
    | nil => cases h
    | cons hv1 hv2 =>
      obtain ⟨env1, h1, h2⟩ := bind1 h
      refine ⟨_, _, rfl, hh H0 M env σ H pa _ _ env1 _ E hv1 h1 fun σ' H' s w E' => ?_⟩
      refine hh' H0 M env1 σ' H' pa _ _ env' Q E' (DpAll_mono (vw_same s fun a o _ z => ?_) _ _ hv2) h2 fun σ'' H'' s' w' => q σ'' H'' (s.trans s') (w'.trans w)
      rcases z with z | z
      · exact .inl z
      · exact .inr (T1.fw _ _ _ _ _ h1 z)
theorem tup2_len : ∀ (ts : List GT) (ds : List D) (env env' : Env), tTup2 ts ds env = some env' → ds.length = ts.length
  | [], [], _, _, _ => rfl
  | [], _ :: _, _, _, h => by cases h
  | _ :: _, [], _, _, h => by cases h
  | t :: ts, d :: ds, env, env', h => by
    obtain ⟨env1, _, h2⟩ := bind1 (show (t d env).bind (fun e => tTup2 ts ds e) = some env' from h)
    rw [List.length_cons, List.length_cons, tup2_len ts ds env1 env' h2]
theorem gc_tup {vs : List Nat} {es : List Expr} {k : Nat} {ts : List GT} (hc : X.calm = true) (h : PGsc X vs es ts) (hl : ts.length = es.length := by rfl) (hn : (assignEach es X.env).length = es.length := by rfl) (hst : (assignEach es X.env).findIdx? (·.1) = none := by rfl) : PGc X vs (.Tuple es k pos) (tTuple ts) := by
  obtain ⟨T, g, hg, hh⟩ := h
  refine ⟨⟨fun d env env' pa a h z => ?_, fun d env env' pa a n h z => ?_, fun d env env' n h => ?_⟩, _, pg_tup (n := es.length) hc hg hn hst, fun H0 M env σ H pa v d env' Q E hv h q => ?_⟩
  · cases d with
    | tuple ds => exact T.fw ds env env' pa a h z
    | _ => cases h
  · cases d with
    | tuple ds => exact T.bw ds env env' pa a n h z
    | _ => cases h
  · cases d with
    | tuple ds => exact T.no ds env env' n h
    | _ => cases h
  · cases hv with
    | tup hs ha =>
      have h : tTup2 ts _ env = some env' := h
      exact ⟨_, _, rfl, seqT vw_le hs, by rw [DpAll_len ha, tup2_len _ _ _ _ h, hl], hh H0 M env σ H pa _ _ env' Q E ha h q⟩
    | _ => cases h
def gOf (K : PySem.W.Frag) (vs : List Nat) (t : GT) : TG := fun v σ H Q => ∃ (H0 : Hp) (M : Addr → Prop) (env : Env) (pa : Nat → Addr) (d : D) (env' : Env), EO K H0 M env σ H pa ∧ Dp K (vw (Hd M env pa) H) v d ∧ t d env = some env' ∧
  (∀ σ' H', Same H H' → L2.wipe σ' vs = L2.wipe σ vs → EO K H0 M env' σ' H' pa → Q σ' H')
theorem PGc.can {vs : List Nat} {t : GT} (h : PGc X vs tg t) : PG X tg (gOf X.K vs t) := by
  obtain ⟨_, g, hg, hh⟩ := h
  exact ⟨fun pins s σ H v u Q I r ⟨H0, M, env, pa, d, env', E, hd, h, q⟩ => hg.run pins s σ H v u Q I r (hh H0 M env σ H pa v d env' Q E hd h q)⟩
/-- the context of a comprehension's block -/
abbrev BX (X : Cx) (scope : Scope) (s : Shared) (H : Hp) (C : Addr) (cl : List (Str × Addr)) (fp : List Addr) : Cx := X.blk s H scope (compEnvC scope cl C X.env) fp
theorem comp_run {vs : List Nat} {gi : GA} {wi : TI} {t : GT} {gc : GB} {ge : GE} (T : TGc vs t)
    (hhi : ∀ (H0 : Hp) (M : Addr → Prop) (env : Env) (σ : Sg) (H : Hp) (pa : Nat → Addr) (ds : List D) (R : It → Hp → Prop), EO X.K H0 M env σ H pa → gi env = some ds → (∀ J H', Same H H' → Wk X.K (vw (Vs false M env pa) H') J ds → R J H') → wi σ H R)
    (H0 : Hp) (M : Addr → Prop) (env : Env) (σ : Sg) (H : Hp) (pa : Nat → Addr) (d : D) (Q : VK) (E : EO X.K H0 M env σ H pa) (h : gComp vs gi t gc ge env = some d)
    (q : ∀ p ws ds H', Same H H' → H p = none → H' p = some (.lst ws) → d = .list ds → DpAll X.K (vw (fun a => Hd M env pa a ∨ a = p) H') ws ds → Q (.ref p) H') : tLc wi (gOf X.K vs t) (uOf X.K gc) (tOf X.K false ge) vs σ H Q := by
  obtain ⟨ds, h1, h2⟩ := bind1 h
  have h2 : (if (noOwB env vs && decide (ds.length < lim)) = true then (compG t gc ge (wipeE env vs) ds).bind fun r => some (PyData.list r) else none) = some d := h2
  split at h2
  case isFalse => cases h2
  rename_i hcond
  have hcond := Bool.and_eq_true_iff.mp hcond
  have hno := noOw_of hcond.1
  have hlim := of_decide_eq_true hcond.2
  obtain ⟨r, h3, h4⟩ := bind1 h2
  cases h4
  refine hhi H0 M env σ H pa ds _ E h1 fun J H1 s1 w L hL => ?_
  have E1 := E.up s1
  have Eo := ow_hidden E1
  -- the state ahead of each turn
  refine ⟨fun i m H2 => ∃ acc done, H2 L = some (.lst acc) ∧ Same H1 H2 ∧ DpAll X.K (vw (fun a => Hd M env pa a ∨ a = L) H2) acc done ∧ done.length ≤ i ∧ m = ds.length - i ∧ i ≤ ds.length ∧ ∃ r2, compG t gc ge (wipeE env vs) (ds.drop i) = some r2 ∧ done ++ r2 = r,
    ⟨ds.length, [], [], upd_same, same_upd hL, .nil, Nat.zero_le _, by simp, Nat.zero_le _, r, h3, rfl⟩, ?_⟩
  rintro i m H2 ⟨acc, done, hacc, sm2, hall, hdl, rfl, hi, r2, h5, h6⟩
  have to2 : Same (vw (Hd M env pa) H1) H2 := vw_le.trans sm2
  by_cases hlt : i < ds.length
  · have hd : ds[i]? = some ds[i] := List.getElem?_eq_getElem hlt
    obtain ⟨go, yl⟩ := w.go i ds[i] H2 to2 hd
    have hdr : ds.drop i = ds[i] :: ds.drop (i + 1) := List.drop_eq_getElem_cons hlt
    rw [hdr] at h5
    obtain ⟨env3, h7, h8⟩ := bind1 (show (t ds[i] (wipeE env vs)).bind _ = some r2 from h5)
    obtain ⟨k, h9, h10⟩ := bind1 h8
    refine .inr ⟨go, fun H' => ∃ acc done, H' L = some (.lst acc) ∧ Same H1 H' ∧ DpAll X.K (vw (fun a => Hd M env pa a ∨ a = L) H') acc done ∧ done.length ≤ i + 1 ∧ ∃ r2, compG t gc ge (wipeE env vs) (ds.drop (i + 1)) = some r2 ∧ done ++ r2 = r,
      fun H' ⟨acc, done, a1, a2, a3, a4, a5⟩ => ⟨ds.length - (i + 1), by omega, acc, done, a1, a2, a3, a4, rfl, hlt, a5⟩, fun x H3 hy => ?_⟩
    obtain ⟨s3, dx⟩ := yl x H3 hy
    -- the block's own world: the list that grows is hidden
    have EB : EO X.K (vw (Ow env pa) H1) (fun a => M a ∨ a = L) env σ H2 pa := by
      have ms : Same (vw (Hd M env pa) H1) (vw (Hd (fun a => M a ∨ a = L) env pa) H2) := fun a o ho => by
        obtain ⟨z1, z2⟩ := vw_some ho
        refine vw_of (fun z => ?_) (sm2 a o z2)
        rcases z with (z | rfl) | z
        · exact z1 (.inl z)
        · rw [hL] at z2; cases z2
        · exact z1 (.inr z)
      refine ⟨vw_le.trans sm2, fun a ha z => ?_, E1.len, fun j e hj => ?_, fun j es hj => ?_, E1.inj, E1.fnc⟩
      · rcases ha with ha | rfl
        · exact E1.hid a ha (sm2.free z)
        · rw [hacc] at z; cases z
      · obtain ⟨v, g1, g2⟩ := E1.val j e hj
        exact ⟨v, g1, Dp_mono ms _ _ g2⟩
      · obtain ⟨g1, g2, ws, g3, g4⟩ := E1.ow j es hj
        obtain ⟨_, g5, _⟩ := Eo.ow j es hj
        refine ⟨g1, ⟨g5.1, fun z => ?_⟩, ws, sm2 _ _ g3, Ct.mono ms g4⟩
        rcases z with z | z
        · exact g2.2 z
        · rw [z, hL] at g3; cases g3
    have EW := EO.wipe EB vs
    have dx := dx (Hd (fun a => M a ∨ a = L) (wipeE env vs) pa) (fun p hp => EW.hidden hp) (fun a o ho => by
      obtain ⟨z1, z2⟩ := vw_some ho
      refine vw_of (fun z => ?_) (sm2 a o z2)
      rcases z with (z | rfl) | z
      · exact z1 (.inl z)
      · rw [hL] at z2; cases z2
      · exact z1 (.inr (ow_wipe z)))
    refine ⟨_, _, _, pa, ds[i], env3, EW.up s3, dx, h7, fun σ4 H4 s4 w4 E4 => ⟨w4.trans wipe_idem, _, _, _, pa, k, E4, h9, fun H5 s5 => ?_⟩⟩
    have E5 := E4.up s5
    cases k with
    | false =>
      rw [if_neg (by decide)] at h10
      refine iteF ?_
      have s25 : Same H2 H5 := (s3.trans s4).trans s5
      refine ⟨acc, done, s25 _ _ hacc, sm2.trans s25, DpAll_mono (vw_up s25) _ _ hall, by omega, r2, h10, h6⟩
    | true =>
      rw [if_pos rfl] at h10
      refine iteT ?_
      obtain ⟨y, h11, h12⟩ := bind1 h10
      obtain ⟨r3, h13, h14⟩ := bind1 h12
      cases h14
      refine ⟨_, _, _, pa, y, E5, h11, fun v H6 s6 hv => ?_⟩
      have s26 : Same H2 H6 := ((s3.trans s4).trans s5).trans s6
      refine ⟨acc, s26 _ _ hacc, by rw [DpAll_len hall, ← lim_eq]; omega, acc ++ [v], done ++ [y], upd_same, fun a o ho => ?_, DpAll_app (DpAll_mono (fun a o ho => ?_) _ _ hall) (.cons (Dp_mono (fun a o ho => ?_) _ _ hv) .nil), by rw [List.length_append, List.length_singleton]; omega, r3, h13, by rw [List.append_assoc]; exact h6⟩
      · have na : a ≠ L := ne_of_none ho hL
        rw [upd_ne na]
        exact s26 a o (sm2 a o ho)
      · obtain ⟨z1, z2⟩ := vw_some ho
        have na : a ≠ L := fun z => z1 (.inr z)
        exact vw_of z1 (by rw [upd_ne na]; exact s26 a o z2)
      · obtain ⟨z1, z2⟩ := vw_some ho
        have na : a ≠ L := fun z => z1 (.inl (.inr z))
        refine vw_of (fun z => ?_) (by rw [upd_ne na]; exact z2)
        rcases z with (z | z) | z
        · exact z1 (.inl (.inl z))
        · exact z1 (.inr (T.bw _ _ _ _ _ noOw_wipe h7 (ow_wipe2 hno z)))
        · exact na z
  · have e : i = ds.length := by omega
    subst e
    refine .inl ⟨w.stop H2 to2, ?_⟩
    rw [List.drop_length] at h5
    cases h5
    rw [List.append_nil] at h6
    subst h6
    exact q L acc done H2 (s1.trans sm2) (s1.free hL) hacc rfl hall
variable {ifs : List Expr} {scope : Scope} {own : List (Str × Nat)} {gi : GA} {t : GT} {gc : GB} {ge : GE}
theorem pd_lc (hc : X.calm = true) (hN : X.N.Nodup) (hi : PId X tg iter false gi) (ok : BlkOk X.N X.env.scope scope own)
    (hg : ∀ (s : Shared) (H : Hp) (C : Addr) (cl : List (Str × Addr)) (fp : List Addr), PGc (BX X scope s H C cl fp) (own.map (·.2)) tg t) (ht : ∀ (s : Shared) (H : Hp) (C : Addr) (cl : List (Str × Addr)) (fp : List Addr), PTsd (BX X scope s H C cl fp) ifs gc)
    (he : ∀ (s : Shared) (H : Hp) (C : Addr) (cl : List (Str × Addr)) (fp : List Addr), PEd (BX X scope s H C cl fp) false elt ge) (hT : TGc (own.map (·.2)) t) (hs : ∀ x, foldedSetIterable iter X.env x = pure x := by intro _; rfl) :
    PEd X b (.ListComp elt [⟨tg, iter, ifs, 0⟩] scope pos) (gComp (own.map (·.2)) gi t gc ge) := by
  obtain ⟨wi, hwi, hhi⟩ := hi
  refine ⟨_, pe_lc (g := gOf X.K (own.map (·.2)) t) (tt := uOf X.K gc) (te := tOf X.K false ge) hc hN hwi ok (fun s H C cl fp => (hg s H C cl fp).can) (fun s H C cl fp => ht s H C cl fp) (fun s H C cl fp => (he s H C cl fp).can) hs, fun H0 M env σ H pa d Q E h q => ?_⟩
  refine comp_run hT hhi H0 M env σ H pa d Q E h fun p ws ds H' s hp hpl hd hall => ?_
  subst hd
  have np : ¬ Hd M env pa p := fun z => E.hidden z hp
  have np' : ¬ Vs b M env pa p := by
    cases b with
    | true => exact fun z => np (.inl z)
    | false => exact np
  refine q _ H' s (.lst (.inl (.inl (vw_of np' hpl))) (DpAll_mono (vw_same (Same.refl _) fun a _ _ z => ?_) _ _ hall))
  cases b with
  | true => exact .inl (.inl z)
  | false => exact .inl z
theorem sd_setLc {i : Nat} {y : Str} {py spos : Pos} (hc : X.calm = true) (hN : X.N.Nodup) (hy : X.N[i]? = some y) (hyl : X.env.scope.names.lookup y = some .local) (hsw : swapsWith (.ListComp elt [⟨tg, iter, ifs, 0⟩] scope pos) (some (.Name y py)) spos.line X.env = pure true) (hi : PId X tg iter false gi) (ok : BlkOk X.N X.env.scope scope own)
    (hg : ∀ (s : Shared) (H : Hp) (C : Addr) (cl : List (Str × Addr)) (fp : List Addr), PGc (BX X scope s H C cl fp) (own.map (·.2)) tg t) (ht : ∀ (s : Shared) (H : Hp) (C : Addr) (cl : List (Str × Addr)) (fp : List Addr), PTsd (BX X scope s H C cl fp) ifs gc)
    (he : ∀ (s : Shared) (H : Hp) (C : Addr) (cl : List (Str × Addr)) (fp : List Addr), PEd (BX X scope s H C cl fp) false elt ge) (hT : TGc (own.map (·.2)) t) (hs : ∀ x, foldedSetIterable iter X.env x = pure x := by intro _; rfl) :
    PSd X (.Assign [.Name y py] (.ListComp elt [⟨tg, iter, ifs, 0⟩] scope pos) spos) (sSet i (gComp (own.map (·.2)) gi t gc ge)) := by
  obtain ⟨wi, hwi, hhi⟩ := hi
  refine ⟨_, ps_setLc (g := gOf X.K (own.map (·.2)) t) (tt := uOf X.K gc) (te := tOf X.K false ge) hc hN hy hyl hsw hwi ok (fun s H C cl fp => (hg s H C cl fp).can) (fun s H C cl fp => ht s H C cl fp) (fun s H C cl fp => (he s H C cl fp).can) hs, fun H0 M env σ H pa o T E h q => ?_⟩
  obtain ⟨d, h1, h2⟩ := bind1 h
  cases h2
  refine comp_run hT hhi H0 M env σ H pa d _ E h1 fun p ws ds H' s hp hpl hd hall => ?_
  subst hd
  exact q _ H' pa ((E.up s).setVal (.lst (.inl (.inl (vw_of (fun z => E.hidden z hp) hpl))) (DpAll_mono (vw_same (Same.refl _) fun a _ _ z => .inl z) _ _ hall)))
def gListOf (a : GE) : GA := fun env => (a env).bind asLst
theorem EO.setOwn2 {K : PySem.W.Frag} {H0 H H' : Hp} {M : Addr → Prop} {env : Env} {σ : Sg} {pa : Nat → Addr} {i : Nat} {p : Addr} {ws : List V} {ds : List D} (E : EO K H0 M env σ H pa) (s : Same H H') (hp : H p = none) (hpl : H' p = some (.lst ws)) (hall : DpAll K (vw (fun a => Hd M env pa a ∨ a = p) H') ws ds) :
    EO K H0 M (env.set i (.own ds)) (σ.set i (some (.ref p))) H' (fun j => if j = i then p else pa j) := by
  have e : upd (fun a => if a = p then none else H' a) p (.lst ws) = H' := by
    funext a
    by_cases z : a = p
    · subst z; rw [upd_same, hpl]
    · rw [upd_ne z, if_neg z]
  have sm : Same H (fun a => if a = p then none else H' a) := fun a o ho => by
    have na : a ≠ p := ne_of_none ho hp
    show (if a = p then none else H' a) = some o
    rw [if_neg na]
    exact s a o ho
  have := EO.setOwn (i := i) (p := p) (vs := ws) (ds := ds) (E.up sm) (by simp) (DpAll_mono (fun a o ho => ?_) _ _ hall)
  · rw [e] at this
    exact this
  · obtain ⟨z1, z2⟩ := vw_some ho
    refine vw_of (fun z => z1 (.inl z)) ?_
    show (if a = p then none else H' a) = some o
    rw [if_neg fun z => z1 (.inr z)]
    exact z2
theorem sd_ownLc {i : Nat} {y : Str} {py spos : Pos} (hc : X.calm = true) (hN : X.N.Nodup) (hy : X.N[i]? = some y) (hyl : X.env.scope.names.lookup y = some .local) (hsw : swapsWith (.ListComp elt [⟨tg, iter, ifs, 0⟩] scope pos) (some (.Name y py)) spos.line X.env = pure true) (hi : PId X tg iter false gi) (ok : BlkOk X.N X.env.scope scope own)
    (hg : ∀ (s : Shared) (H : Hp) (C : Addr) (cl : List (Str × Addr)) (fp : List Addr), PGc (BX X scope s H C cl fp) (own.map (·.2)) tg t) (ht : ∀ (s : Shared) (H : Hp) (C : Addr) (cl : List (Str × Addr)) (fp : List Addr), PTsd (BX X scope s H C cl fp) ifs gc)
    (he : ∀ (s : Shared) (H : Hp) (C : Addr) (cl : List (Str × Addr)) (fp : List Addr), PEd (BX X scope s H C cl fp) false elt ge) (hT : TGc (own.map (·.2)) t) (hs : ∀ x, foldedSetIterable iter X.env x = pure x := by intro _; rfl) :
    PSd X (.Assign [.Name y py] (.ListComp elt [⟨tg, iter, ifs, 0⟩] scope pos) spos) (sOwn i (gListOf (gComp (own.map (·.2)) gi t gc ge))) := by
  obtain ⟨wi, hwi, hhi⟩ := hi
  refine ⟨_, ps_setLc (g := gOf X.K (own.map (·.2)) t) (tt := uOf X.K gc) (te := tOf X.K false ge) hc hN hy hyl hsw hwi ok (fun s H C cl fp => (hg s H C cl fp).can) (fun s H C cl fp => ht s H C cl fp) (fun s H C cl fp => (he s H C cl fp).can) hs, fun H0 M env σ H pa o T E h q => ?_⟩
  obtain ⟨ds, h0, h2⟩ := bind1 h
  cases h2
  obtain ⟨d, h1, h3⟩ := bind1 h0
  refine comp_run hT hhi H0 M env σ H pa d _ E h1 fun p ws ds' H' s hp hpl hd hall => ?_
  subst hd
  cases h3
  exact q _ H' _ (E.setOwn2 s hp hpl hall)
end
end Dn

namespace Dn
open PySem PySem.Spec PyProof.Rows L2

/-! ### 9. the law's call -/
/-- the abstract heap ahead of the law's call: the script alone -/
def onlyAt (a : Addr) (vs : List Value) (ns : List Int) : Hp := fun b => if b = a then some (.frz { cls := .type "list", data := .seq vs.toArray } (.lst (ns.map V.int))) else none
theorem law_g {P : Program} {w : World} {K : PySem.W.Frag} {mg mb : Str → Option Value} {k : Nat} {fa a : Addr} {F : List D → Option D} {s₁ : Shared} {vs : List Value} {ns : List Int}
    (KX : K.In s₁.heap) (hns : s₁.heap.Ns mainGlobals mg) (hb : s₁.heap.Ns builtinsNs mb) (hbb : ∀ x : Str, x ≠ "__name__" → mb x = bootBuiltins x) (hlim : s₁.heap.NoLimit) (hg : s₁.gens = #[])
    (ha : s₁.heap.get? a = some { cls := .type "list", data := .seq vs.toArray }) (hi : IntsAre vs ns) (hl : ns.length ≤ sizeLine) (hr : Room k callerA) (hmg : mg "law" = some (.ref fa))
    (O : ∀ base : Heap, K.In base → base.Ns mainGlobals mg → Ok P w K mg base "law" k 1 F) (hF : F [.list (ns.map PyData.int)] = some (.bool true)) :
    codeAny (model P w) callerA (.call (.ref fa) ⟨[.ref a], []⟩) (fun r s' => r = .ok (.ret (.bool true)) ∧ OldK s₁.heap s'.heap ∧ s'.os = s₁.os ∧ AllBare s'.gens) s₁ := by
  have rv : Vals (ns.map V.int) vs := vals_ints hi
  have lenV := hi.length
  -- the script is the module's own, or it is tracked as it stands
  obtain ⟨H, hH, hS, hok, hKn⟩ : ∃ H : Hp, (∀ b u, H b = some u → b = a ∧ ∃ o, u = .frz o (.lst (ns.map V.int))) ∧ SqL K H a (ns.map V.int) ∧ HOk P w H s₁.heap ∧ (H a ≠ none → K.lookup a = none) := by
    cases hk : K.lookup a with
    | some o =>
      have e := KX a o hk
      rw [ha] at e
      cases e
      exact ⟨fun _ => none, fun b u z => (nomatch z), .inr ⟨_, vs.toArray, _, hk, rfl, rfl, rfl, by rw [List.size_toArray, lenV]; exact hl, by simpa using rv⟩, fun b u z => (nomatch z), fun z => absurd rfl z⟩
    | none =>
      refine ⟨onlyAt a vs ns, fun b u z => ?_, .inl (.inr ⟨_, if_pos rfl⟩), fun b u z => ?_, fun _ => rfl⟩
      · unfold onlyAt at z
        split at z
        · cases z; exact ⟨by assumption, _, rfl⟩
        · cases z
      · unfold onlyAt at z
        split at z
        · rename_i e
          cases z
          subst e
          exact ⟨ha, by rw [List.length_map]; exact hl, vs, _, rv, ha⟩
        · cases z
  have outA : ∀ {b : Addr} {o : Obj}, s₁.heap.get? b = some o → (H b ≠ none → o.data = .seq vs.toArray 0) := fun {b o} e z => by
    cases q : H b with
    | none => exact absurd q z
    | some u =>
      obtain ⟨rfl, _⟩ := hH b u q
      rw [ha] at e
      cases e
      rfl
  have noD : ∀ {b : Addr} {o : Obj} {es : Array DictEntry} {ep : Nat}, s₁.heap.get? b = some o → o.data = .dict es ep → H b = none := fun {b o es ep} e d => by
    cases q : H b with
    | none => rfl
    | some u =>
      have := outA e (by rw [q]; simp)
      rw [d] at this
      cases this
  have nsK : ∀ {b : Addr} {m : Str → Option Value}, s₁.heap.Ns b m → (hidT s₁.heap H).Ns b m := fun {b m} ⟨o, es, ep, e, d, r⟩ => ⟨o, es, ep, hidT_get e (noD e d), d, r⟩
  have hKb : K.In (hidT s₁.heap H) := fun b o e => hidT_get (KX b o e) (by
    cases q : H b with
    | none => rfl
    | some u =>
      obtain ⟨rfl, _⟩ := hH b u q
      rw [hKn (by rw [q]; simp)] at e
      cases e)
  have hM : Mod K mg (hidT s₁.heap H) := ⟨hKb, nsK hns, ⟨mb, nsK hb, hbb⟩, hlim.elim fun mc z => ⟨mc, nsK z.1, z.2⟩⟩
  have e0 : Env0 P w K mg (hidT s₁.heap H) callerA [] s₁ H := ⟨rfl, hM, fun b o e => of_hidT e, Nat.le_of_eq (hidT_size _ _), trivial, fun b hb => absurd (show b ∈ ([] : List Addr) from hb) (by simp), hok, .of_eq hg⟩
  obtain ⟨f, fd, ps, hm, hk, hB, G⟩ := O _ hKb (nsK hns)
  rw [hmg] at hm
  cases hm
  have sp : SpD K 1 F [.ref a] H (fun v _ => v = .bl true) E0 := ⟨[.list (ns.map PyData.int)], .bool true, fun _ => False, .cons (.lst (by
    rcases hS with (z | ⟨o, z⟩) | z
    · exact .inl (.inl (vw_of id z))
    · exact .inl (.inr ⟨o, vw_of id z⟩)
    · exact .inr z) (DpAll_ints ns)) .nil, hF, rfl, fun p z => z.elim, fun v H' _ hv => Dp_bool hv⟩
  have lp : ([] ++ [Value.ref a]).length = ps.length := by
    have := G.len _ _ _ _ sp
    simpa using this
  have hBB : BindsTo s₁ fd ⟨[.ref a], []⟩ (ps.zip [.ref a]) := by
    have := hB s₁ [.ref a] KX (by simpa using lp)
    simpa using this
  refine codeAny_mono (G.run callerA [] s₁ H ⟨[.ref a], []⟩ [.ref a] [.ref a] _ hr rfl e0 hBB (.cons rfl .nil) sp) fun r s' h => ?_
  cases r with
  | error e => exact h.elim
  | ok fl => cases fl with
    | ret u =>
      obtain ⟨v, H', os, bare, un, hok', r', q⟩ := h
      have q' : v = .bl true := q
      subst q'
      obtain rfl : u = Value.bool true := r'
      refine ⟨rfl, OldK.of_keep fun b o e => ?_, os, bare⟩
      cases q : H b with
      | none => exact un.keep b o e q (fun z => absurd (show b ∈ ([] : List Addr) from z) (by simp)) (by simp)
      | some u =>
        obtain ⟨rfl, ob, rfl⟩ := hH b u q
        have z2 := un.frzs b ob _ q
        obtain ⟨e1, _⟩ := hok b _ q
        obtain ⟨e2, _⟩ := hok' b _ z2
        rw [e] at e1
        cases e1
        exact e2
    | _ => exact False.elim h
/-- the goal behind the head -/
theorem walk_g {l : PySem.W.OpenLaw} {n k : Nat} {q : Program} {loose : List Str} {XP : (Str → Option Value) → Heap → Prop} {YP : World → Heap → Prop} {d : DefRec} {K : Params → PySem.W.Frag} {F : List D → Option D}
    (hn : l.most = some n) (hn2 : n ≤ sizeLine) (hdf : d.params.defaults = []) (hname : d.name = "law") (hr : Room k callerA)
    (hY : ∀ (w : World) (h : Heap), YP w h → (K w.params).In h)
    (O : ∀ (w : World) (mg : Str → Option Value) (h : Heap), (K w.params).In h → h.Ns mainGlobals mg → ∀ base : Heap, (K w.params).In base → base.Ns mainGlobals mg → Ok l.prog w (K w.params) mg base "law" k 1 F)
    (hF : ∀ ns : List Int, ns.length ≤ n → F [.list (ns.map PyData.int)] = some (.bool true)) :
    PySem.W.WalkO q loose XP YP l.row.toRowW d [] (fun f vs => PySem.call f vs) := by
  refine Att.attach_call hn hdf fun w s₀ s₁ mg mb fa o pm cd doc a vs ns G Y ho hd hcd hmg hobj hints hlen hg => ?_
  have KX := hY w _ Y
  rw [hname] at hmg
  exact law_g KX G.T.g G.T.b G.T.builtins G.T.nolimit hg hobj hints (Nat.le_trans hlen hn2) hr hmg (O w mg _ KX G.T.g) (hF ns hlen)
end Dn

namespace Dn
open PySem PySem.Spec PyProof.Rows L2

/-! ### 10. in short -/
theorem hu64 {k : Nat} {A : Around} (r : Room k A) : A.units + 64 < cLine := by have := r.un; omega
theorem hu65 {k : Nat} {A : Around} (r : Room k A) : A.units + 65 < cLine := by have := r.un; omega
theorem hu200 {k : Nat} {A : Around} (r : Room k A) : A.units + 200 < cLine := by have := r.un; omega
section
variable {X : Cx} {b : Bool} {x : Str} {pos p : Pos}
theorem pdv (i : Nat) (hN : X.N[i]? = some x := by rfl) (hv : Vis X.env.scope x := by first | exact Or.inl rfl | exact Or.inr (Or.inl rfl) | exact Or.inr (Or.inr rfl)) (hd : (x == ("__debug__" : Str)) = false := by decide)
    (hcd : (x == ("__classdict__" : Str)) = false := by decide) : PEd X b (.Name x pos) (gVar i) := pd_var hN hv hd hcd
theorem pdw (i : Nat) (hN : X.N[i]? = some x := by rfl) (hv : Vis X.env.scope x := by first | exact Or.inl rfl | exact Or.inr (Or.inl rfl) | exact Or.inr (Or.inr rfl)) (hd : (x == ("__debug__" : Str)) = false := by decide)
    (hcd : (x == ("__classdict__" : Str)) = false := by decide) : PEd X true (.Name x pos) (gVarB i) := pd_varB hN hv hd hcd
theorem op_subA : OpR X (binaryOp .Sub) (fun x y H Q => rI0 (fun i j => .int (i - j)) x y H Q ∨ ∃ i j, x = .bl i ∧ y = .bl j ∧ Q (.int (b2i i - b2i j)) H) := by
  refine op_sub.or ?_
  intro pins s σ H x y v u Q I rx ry h
  obtain ⟨i, j, rfl, rfl, q⟩ := h
  cases rx
  cases ry
  exact PyProof.Rows.sub_bool ⟨.int _, H, I.tok _, ⟨_, rfl⟩, q⟩
end
theorem b2z_eq (b : Bool) : b2z b = b2i b := by cases b <;> rfl
theorem od_sub {K : PySem.W.Frag} : OpD K (fun x y H Q => rI0 (fun i j => .int (i - j)) x y H Q ∨ ∃ i j, x = .bl i ∧ y = .bl j ∧ Q (.int (b2i i - b2i j)) H) vSub := by
  intro P H x y d e z Q nf hx hy h q
  cases d with
  | int i =>
    cases e with
    | int j => cases h; exact .inl ⟨i, j, Dp_int hx, Dp_int hy, q _ H (Same.refl H) (.int _)⟩
    | _ => cases h
  | bool i =>
    cases e with
    | bool j =>
      cases h
      refine .inr ⟨i, j, Dp_bool hx, Dp_bool hy, q _ H (Same.refl H) ?_⟩
      rw [b2z_eq, b2z_eq]
      exact .int _
    | _ => cases h
  | _ => cases h
theorem od_iadd2 {K : PySem.W.Frag} : OpD K (rI0 fun i j => .int (i + j)) vIAdd := by
  intro P H x y d e z Q nf hx hy h q
  cases d with
  | int i =>
    cases e with
    | int j => cases h; exact ⟨i, j, Dp_int hx, Dp_int hy, q _ H (Same.refl H) (.int _)⟩
    | _ => cases h
  | _ => cases h
theorem sd_never {X : Cx} {st : Stmt} : PSd X st (fun _ => none) := ⟨_, ps_never, fun _ _ _ _ _ _ _ _ _ h _ => by cases h⟩
/-- a constant of the module -/
def Gc (K : PySem.W.Frag) (mg : Str → Option Value) (name : Str) (d : D) : Prop := ∃ u v, mg name = some u ∧ RelV v u ∧ ∀ H, Dp K H v d
theorem pd_gc {X : Cx} {b : Bool} {x : Str} {d : D} {pos : Pos} (g : Gc X.K X.mg x d) (hg : Gl X x := by rfl) (hdb : (x == ("__debug__" : Str)) = false := by decide) : PEd X b (.Name x pos) (gC d) := by
  obtain ⟨u, v, h1, h2, h3⟩ := g
  exact pd_glob hg h1 h2 h3 hdb
/-- values of the written part as data -/
def dOf : Value → Option D
  | .none => some .none
  | .bool b => some (.bool b)
  | .int i _ => some (.int i)
  | .str x _ => some (.str x)
  | _ => none
def dsOf : List Value → Option (List D)
  | [] => some []
  | v :: vs => (dOf v).bind fun d => (dsOf vs).bind fun ds => some (d :: ds)
theorem dp_of {K : PySem.W.Frag} {H : Hp} : ∀ {u : Value} {d : D}, dOf u = some d → ∃ v, RelV v u ∧ Dp K H v d := fun {u d} h => by
  cases u <;> cases h
  · exact ⟨.non, rfl, .non⟩
  · exact ⟨.bl _, rfl, .bl _⟩
  · exact ⟨.int _, ⟨_, rfl⟩, .int _⟩
  · exact ⟨.str _, ⟨_, rfl⟩, .str _⟩
theorem dps_of {K : PySem.W.Frag} {H : Hp} : ∀ {us : List Value} {ds : List D}, dsOf us = some ds → ∃ vs, Vals vs us ∧ DpAll K H vs ds
  | [], _, h => by cases h; exact ⟨[], .nil, .nil⟩
  | u :: us, ds, h => by
    obtain ⟨d, h1, h2⟩ := bind1 (show (dOf u).bind _ = some ds from h)
    obtain ⟨ds', h3, h4⟩ := bind1 h2
    cases h4
    obtain ⟨v, r, p⟩ := dp_of (K := K) (H := H) h1
    obtain ⟨vs, rs, ps⟩ := dps_of (K := K) (H := H) h3
    exact ⟨v :: vs, .cons r rs, .cons p ps⟩
/-- a tuple of flat things at the module's top -/
theorem gc_tup_mk {K : PySem.W.Frag} {h : Heap} {mg : Str → Option Value} {name : Str} {a : Addr} {dd : Option Addr} {us : List Value} {n : Nat} {sl : Array (Option Value)} {ds : List D} (X : K.In h) (G : h.Ns mainGlobals mg)
    (ha : PySem.W.nsIn K mainGlobals name = some (some (.ref a))) (l : K.lookup a = some ⟨.type "tuple", dd, .seq us.toArray n, sl⟩) (hd : dsOf us = some ds) (hz : us.length ≤ 1000 := by decide) : Gc K mg name (.tuple ds) := by
  refine ⟨.ref a, .ref a, PySem.W.mg_of X G ha, rfl, fun H => ?_⟩
  obtain ⟨vs, rs, ps⟩ := dps_of (K := K) (H := H) hd
  exact .tup (.inr ⟨_, us.toArray, n, l, rfl, rfl, by rw [List.size_toArray]; exact Nat.le_of_lt (small1000 hz), by simpa using rs⟩) ps
theorem df_mk {K : PySem.W.Frag} {h : Heap} {mg : Str → Option Value} {name : Str} {st : Stmt} {ps : List Str} {f : Addr} {oc : Value} {od an : Option Addr} {osl : Array (Option Value)} {kV doc pm cdv ct : Value} (X : K.In h) (G : h.Ns mainGlobals mg)
    (ha : PySem.W.nsIn K mainGlobals name = some (some (.ref f))) (l : K.lookup f = some ⟨oc, od, .func (PySem.W.fnOf name name (defArgs st) (defBody st) (defScope st) .none kV doc pm an cdv ct), osl⟩)
    (c : PySem.W.codeIn K cdv name = true) (k : PySem.W.keepIn K (.ref f) = true)
    (hb : ∀ (kV doc pm : Value) (an : Option Addr) (cdv ct : Value) (us : List Value), us.length = ps.length → bindArgs (PySem.W.fnOf name name (defArgs st) (defBody st) (defScope st) .none kV doc pm an cdv ct) ⟨us, []⟩ = pure (ps.zip us)) : Df K mg name st ps :=
  ⟨f, _, fun_mk l c k, PySem.W.mg_of X G ha, (fun_mk l c k).binds hb⟩
theorem ok_by {P : Program} {w : World} {K : PySem.W.Frag} {mg : Str → Option Value} {base : Heap} {name : Str} {st : Stmt} {k k' n m : Nat} {F : List D → Option D} (N ps : List Str) (g : GS) (T : Df K mg name st ps) (S : FnScope N ps (defScope st)) (hl : ps.length ≤ N.length) (hN : N.length = m) (hn : ps.length = n) (hk : k' = k + 1) (hF : runF m n g = F)
    (body : ∀ (f : Addr) (cdv : Value) (A : Around) (out : List PySem.Env) (s : Shared) (H : Hp), Room k (A.deeper (envOfC name (defScope st) s.heap.objs.size f cdv)) → (A.deeper (envOfC name (defScope st) s.heap.objs.size f cdv)).guards = some [] →
      PSsd (cxOf CX0 P w K mg base N name (defScope st) f cdv A out s H E0).nox (defBody st) g) : Ok P w K mg base name k' n F := by
  subst hN hn hk hF
  exact ok_of T S hl body
end Dn

namespace Dn
open PySem PySem.Spec PyProof.Rows L2

theorem hu1 {k : Nat} {A : Around} (r : Room k A) : A.units + 1 < cLine := by have := r.un; omega
/-! ### 11. dicts: those of the module's top -/
/-- at some texts: what stands there -/
abbrev Tb := List (Str × Option D)
def tbAt : Tb → Str → Option (Option D)
  | [], _ => none
  | p :: r, z => if p.1 = z then some p.2 else tbAt r z
theorem tbAt_mem : ∀ {t : Tb} {z : Str} {r : Option D}, tbAt t z = some r → (z, r) ∈ t
  | [], _, _, h => by cases h
  | p :: t, z, r, h => by
    unfold tbAt at h
    split at h
    · rename_i e
      cases h
      subst e
      exact List.mem_cons_self
    · exact List.mem_cons_of_mem _ (tbAt_mem h)
def asStr : D → Option Str
  | .str x => some x
  | _ => none
theorem asStr_some {d : D} {x : Str} (h : asStr d = some x) : d = .str x := by
  cases d <;> cases h; rfl
def gCIx (t : Tb) (a : GE) : GE := fun env => (a env).bind fun y => (asStr y).bind fun z => (tbAt t z).bind id
def gCGet (t : Tb) (a d : GE) : GE := fun env => (a env).bind fun y => (d env).bind fun u => (asStr y).bind fun z => (tbAt t z).bind fun r => some (r.getD u)
/-- a table: an entry holds -/
def TbOk (K : PySem.W.Frag) (a : Addr) : Str × Option D → Prop
  | (z, none) => PySem.W.nsIn K a z = some none
  | (z, some d) => ∃ u v, PySem.W.nsIn K a z = some (some u) ∧ RelV v u ∧ ∀ H, Dp K H v d
def Gt (K : PySem.W.Frag) (w : World) (mg : Str → Option Value) (name : Str) (t : Tb) : Prop := ∃ a es n, mg name = some (.ref a) ∧ KDict K w a es n ∧ ∀ q ∈ t, TbOk K a q
section
variable {X : Cx} {b : Bool} {x : Str} {p pos apos : Pos} {a c e : Expr} {ga gb gd : GE} {t : Tb}
theorem pd_cix (g : Gt X.K X.w X.mg x t) (hc : PEd X b c gb) (hs : PlainIx c) (hg : Gl X x := by rfl) (hdb : (x == ("__debug__" : Str)) = false := by decide) : PEd X b (.Subscript (.Name x p) c pos) (gCIx t gb) := by
  obtain ⟨a, es, n, hm, kd, ht⟩ := g
  obtain ⟨tb, pb', hb⟩ := hc
  refine ⟨_, pe_ix ix_kdict (pe_glob (v := .ref a) hg hm rfl hdb) pb' hs, fun H0 M env σ H pa d Q E h q => ?_⟩
  obtain ⟨y, h1, h2⟩ := bind1 h
  obtain ⟨z, h3, h4⟩ := bind1 h2
  obtain ⟨r, h5, h6⟩ := bind1 h4
  have h6 : r = some d := h6
  subst h6
  have := asStr_some h3
  subst this
  obtain ⟨u, v, g1, g2, g3⟩ := ht _ (tbAt_mem h5)
  refine hb H0 M env σ H pa _ _ E h1 fun y H' s hy => ?_
  have := Dp_str hy
  subst this
  exact ⟨a, z, v, rfl, rfl, ⟨es, n, u, kd.at_, kd.lit, g1, g2⟩, q v H' s (g3 _)⟩
theorem kd_get2 {pins : List (Addr × Obj)} {σ : L2.St} {H : Hp} {s : Shared} {a : Addr} {es : Array DictEntry} {n : Nat} {z : Str} {k : Tok} {r : Value} {ru : Option Value} {A : Around} {EE : Value → Shared → Prop} {Q : Value → Shared → Prop} (kd : KDict X.K X.w a es n) (I : Inv X pins σ H s) (hn : PySem.W.nsIn X.K a z = some ru)
    (h : ∀ s', Inv X pins σ H s' → Q (ru.getD r) s') : wpAny (model X.prog X.w) A (call (.builtin "dict.get") [.ref a, .str z k, r]) Q EE s := by
  have hm := PySem.W.mapOf_K (prog := X.prog) (w := X.w) I.kIn kd.at_ kd.lit
  refine call_meetsIn PySem.F.slot_dict_get hm.typeIs PySem.F.entry_dict_get (PySem.F.args_dict_get_3 _ _ _) (meets_dict_get_default (strKind X.prog X.w) a (strKind_is X.prog X.w z k) kd.low r) ⟨_, hm, ?_⟩
  rw [PySem.W.find_K kd.at_ hn]
  exact h _ (I.tok _)
def tKGet (K : PySem.W.Frag) (a : Addr) (ty tx : TE) : TE := fun σ H Q => ty σ H fun y H2 => tx σ H2 fun z H3 => ∃ (x : Str) (ru : Option Value), y = .str x ∧ PySem.W.nsIn K a x = some ru ∧ (∀ u, ru = some u → ∃ v, RelV v u ∧ Q v H3) ∧ (ru = none → Q z H3)
theorem pe_kget2 {f : Expr} {ty tx : TE} {es : Array DictEntry} {n : Nat} {ad : Addr} (kd : KDict X.K X.w ad es n) (hm : X.mg x = some (.ref ad)) (hg : Gl X x) (he : PE X e ty) (hf : PE X f tx) (m : M2 X (.Name x p) "get" apos e f pos) (hdb : (x == ("__debug__" : Str)) = false := by decide) : PE X (.Call (.Attribute (.Name x p) "get" apos) [e, f] [] pos) (tKGet X.K ad ty tx) := by
  refine ⟨fun pins s σ H Q I h => ?_⟩
  refine wpAny_Call_method m.base m.few m.line PySem.F.plainAttrs_dict PySem.F.slot_dict_get PySem.F.type_dict_get (thn ((pe_glob (v := .ref ad) hg hm rfl hdb).run pins s σ H (fun v H' => v = .ref ad ∧ tKGet X.K ad ty tx σ H' Q) I ⟨rfl, h⟩) fun u s1 ⟨y, H1, I1, rx, ey, q1⟩ => ?_)
  subst ey
  obtain rfl : u = Value.ref ad := rx
  have hm' := PySem.W.mapOf_K (prog := X.prog) (w := X.w) I1.kIn kd.at_ kd.lit
  refine ⟨hm'.typeIs, fun b q => ?_, ?_⟩
  · cases q
    exact ⟨_, I1.kIn _ _ kd.at_, rfl⟩
  rw [m.trees]
  refine Calls.callWith_builtin rfl (Calls.evalArgs_plain (Calls.spliced_cons (thn (he.run pins s1 σ H1 _ I1 q1) fun iv s2 ⟨y, H2, I2, ry, q2⟩ =>
    Calls.spliced_cons (thn (hf.run pins s2 σ H2 _ I2 q2) fun fv s3 ⟨z, H3, I3, rz, z', ru, ey, g, q3, q4⟩ => Calls.spliced_nil ?_))))
  subst ey
  obtain ⟨k, rfl⟩ := ry
  refine kd_get2 kd I3 g fun s4 I4 => ?_
  cases ru with
  | none => exact ⟨_, H3, I4, rz, q4 rfl⟩
  | some u =>
    obtain ⟨v, r, q⟩ := q3 u rfl
    exact ⟨_, H3, I4, r, q⟩
theorem pd_cget {f : Expr} (g : Gt X.K X.w X.mg x t) (hc : PEd X b e gb) (hd : PEd X b f gd) (m : M2 X (.Name x p) "get" apos e f pos) (hg : Gl X x := by rfl) (hdb : (x == ("__debug__" : Str)) = false := by decide) : PEd X b (.Call (.Attribute (.Name x p) "get" apos) [e, f] [] pos) (gCGet t gb gd) := by
  obtain ⟨a, es, n, hm, kd, ht⟩ := g
  obtain ⟨tb, pb', hb⟩ := hc
  obtain ⟨td, pd', hd⟩ := hd
  refine ⟨_, pe_kget2 kd hm hg pb' pd' m hdb, fun H0 M env σ H pa d Q E h q => ?_⟩
  obtain ⟨y, h1, h2⟩ := bind1 h
  obtain ⟨w, hw, h2⟩ := bind1 h2
  obtain ⟨z, h3, h4⟩ := bind1 h2
  obtain ⟨r, h5, h6⟩ := bind1 h4
  have := asStr_some h3
  subst this
  cases h6
  have tk := ht _ (tbAt_mem h5)
  refine hb H0 M env σ H pa _ _ E h1 fun y H' s hy => ?_
  have := Dp_str hy
  subst this
  refine hd H0 M env σ H' pa _ _ (E.up s) hw fun z' H'' s' hz => ?_
  cases r with
  | none => exact ⟨z, none, rfl, tk, fun u e => (by cases e), fun _ => q z' H'' (s.trans s') hz⟩
  | some d =>
    obtain ⟨u, v, g1, g2, g3⟩ := tk
    exact ⟨z, some u, rfl, g1, fun u' e => (by cases e; exact ⟨v, g2, q v H'' (s.trans s') (g3 _)⟩), fun e => (by cases e)⟩
end
theorem gt_mk {K : PySem.W.Frag} {h : Heap} {w : World} {mg : Str → Option Value} {name : Str} {a : Addr} {es : Array DictEntry} {n : Nat} {t : Tb} (X : K.In h) (G : h.Ns mainGlobals mg)
    (ha : PySem.W.nsIn K mainGlobals name = some (some (.ref a))) (l : K.lookup a = some ⟨.type "dict", none, .dict es n, #[]⟩) (hk : PySem.W.KeysLit w.params es.toList) (hs : (a == sysModules) = false) (ht : ∀ q ∈ t, TbOk K a q) : Gt K w mg name t :=
  ⟨a, es, n, PySem.W.mg_of X G ha, ⟨l, hk, hs⟩, ht⟩
/-- an entry that is a tuple of flat things -/
theorem tb_tup {K : PySem.W.Frag} {a p : Addr} {z : Str} {us : List Value} {dd : Option Addr} {n : Nat} {sl : Array (Option Value)} {ds : List D} (e : PySem.W.nsIn K a z = some (some (.ref p))) (l : K.lookup p = some ⟨.type "tuple", dd, .seq us.toArray n, sl⟩) (hd : dsOf us = some ds) (hz : us.length ≤ 1000 := by decide) : TbOk K a (z, some (.tuple ds)) := by
  refine ⟨.ref p, .ref p, e, rfl, fun H => ?_⟩
  obtain ⟨vs, rs, ps⟩ := dps_of (K := K) (H := H) hd
  exact .tup (.inr ⟨_, us.toArray, n, l, rfl, rfl, by rw [List.size_toArray]; exact Nat.le_of_lt (small1000 hz), by simpa using rs⟩) ps
theorem tb_flat {K : PySem.W.Frag} {a : Addr} {z : Str} {u : Value} {d : D} (e : PySem.W.nsIn K a z = some (some u)) (hd : dOf u = some d) : TbOk K a (z, some d) := by
  cases u <;> cases hd
  · exact ⟨_, .non, e, rfl, fun _ => .non⟩
  · exact ⟨_, .bl _, e, rfl, fun _ => .bl _⟩
  · exact ⟨_, .int _, e, ⟨_, rfl⟩, fun _ => .int _⟩
  · exact ⟨_, .str _, e, ⟨_, rfl⟩, fun _ => .str _⟩

/-! ### 12. dicts of a name's own, by ints and texts -/
def keyD : D → Option Key
  | .int i => some (.inl i)
  | .str x => some (.inr x)
  | _ => none
theorem keyD_dp {K : PySem.W.Frag} {H : Hp} {v : V} {d : D} {k : Key} (h : keyD d = some k) (hv : Dp K H v d) : v = kV k := by
  cases d <;> cases h
  · exact Dp_int hv
  · exact Dp_str hv
def atK : List (Key × D) → Key → Option D
  | [], _ => none
  | p :: r, k => if p.1 = k then some p.2 else atK r k
def anyK : List (Key × D) → Key → Bool
  | [], _ => false
  | p :: r, k => decide (p.1 = k) || anyK r k
def mapK : List (Key × D) → Key → D → List (Key × D)
  | [], _, _ => []
  | p :: r, k, d => (if p.1 = k then (p.1, d) else p) :: mapK r k d
def putD (kvs : List (Key × D)) (k : Key) (d : D) : List (Key × D) := if anyK kvs k = true then mapK kvs k d else kvs ++ [(k, d)]
def mrgD : List (Key × D) → List (Key × D) → List (Key × D)
  | acc, [] => acc
  | acc, p :: r => mrgD (putD acc p.1 p.2) r
structure Rk (K : PySem.W.Frag) (H : Hp) (vs : List (Key × V)) (kvs : List (Key × D)) : Prop where
  ks : vs.map (·.1) = kvs.map (·.1)
  ds : DpAll K H (vs.map (·.2)) (kvs.map (·.2))
section
variable {K : PySem.W.Frag} {H : Hp}
theorem Rk.nil : Rk K H [] [] := ⟨rfl, .nil⟩
theorem Rk.cons {k : Key} {v : V} {d : D} {vs : List (Key × V)} {kvs : List (Key × D)} (h : Dp K H v d) (r : Rk K H vs kvs) : Rk K H ((k, v) :: vs) ((k, d) :: kvs) := ⟨by rw [List.map_cons, List.map_cons, r.ks], .cons h r.ds⟩
theorem Rk.unc {p : Key × V} {q : Key × D} {vs : List (Key × V)} {kvs : List (Key × D)} (h : Rk K H (p :: vs) (q :: kvs)) : p.1 = q.1 ∧ Dp K H p.2 q.2 ∧ Rk K H vs kvs := by
  have h1 : p.1 :: vs.map (·.1) = q.1 :: kvs.map (·.1) := h.ks
  cases h.ds with
  | cons a b => exact ⟨(List.cons.inj h1).1, a, ⟨(List.cons.inj h1).2, b⟩⟩
theorem Rk.mono {H' : Hp} (e : Same H H') {vs : List (Key × V)} {kvs : List (Key × D)} (r : Rk K H vs kvs) : Rk K H' vs kvs := ⟨r.ks, DpAll_mono e _ _ r.ds⟩
theorem Rk.len {vs : List (Key × V)} {kvs : List (Key × D)} (r : Rk K H vs kvs) : vs.length = kvs.length := by
  have := congrArg List.length r.ks
  simpa using this
theorem Rk.at : ∀ {vs : List (Key × V)} {kvs : List (Key × D)} {k : Key}, Rk K H vs kvs → (∀ d, atK kvs k = some d → ∃ v, valV vs k = some v ∧ Dp K H v d) ∧ (atK kvs k = none → valV vs k = none)
  | [], [], k, _ => ⟨fun d h => (by cases h), fun _ => rfl⟩
  | [], _ :: _, k, r => by cases r.ds
  | _ :: _, [], k, r => by cases r.ds
  | p :: vs, q :: kvs, k, r => by
    obtain ⟨e, h, r'⟩ := r.unc
    have ih := Rk.at (k := k) r'
    unfold atK
    by_cases z : q.1 = k
    · rw [if_pos z, valV_pos (e.trans z)]
      exact ⟨fun d y => (by cases y; exact ⟨_, rfl, h⟩), fun y => (by cases y)⟩
    · rw [if_neg z, valV_neg (fun y => z (e.symm.trans y))]
      exact ih
theorem Rk.any : ∀ {vs : List (Key × V)} {kvs : List (Key × D)} {k : Key}, Rk K H vs kvs → (vs.any fun kv => decide (kv.1 = k)) = anyK kvs k
  | [], [], k, _ => rfl
  | [], _ :: _, k, r => by cases r.ds
  | _ :: _, [], k, r => by cases r.ds
  | p :: vs, q :: kvs, k, r => by
    obtain ⟨e, h, r'⟩ := r.unc
    rw [List.any_cons, Rk.any r', e]
    rfl
theorem Rk.map {v : V} {d : D} (hv : Dp K H v d) : ∀ {vs : List (Key × V)} {kvs : List (Key × D)} {k : Key}, Rk K H vs kvs → Rk K H (vs.map fun kv => if kv.1 = k then (kv.1, v) else kv) (mapK kvs k d)
  | [], [], k, _ => .nil
  | [], _ :: _, k, r => by cases r.ds
  | _ :: _, [], k, r => by cases r.ds
  | p :: vs, q :: kvs, k, r => by
    obtain ⟨e, h, r'⟩ := r.unc
    have ih := Rk.map hv (k := k) r'
    obtain ⟨p1, p2⟩ := p
    obtain ⟨q1, q2⟩ := q
    have e : p1 = q1 := e
    subst e
    rw [List.map_cons]
    unfold mapK
    by_cases z : p1 = k
    · rw [if_pos z, if_pos z]; exact .cons hv ih
    · rw [if_neg z, if_neg z]; exact .cons h ih
theorem Rk.snoc {k : Key} {v : V} {d : D} (hv : Dp K H v d) : ∀ {vs : List (Key × V)} {kvs : List (Key × D)}, Rk K H vs kvs → Rk K H (vs ++ [(k, v)]) (kvs ++ [(k, d)])
  | [], [], _ => .cons hv .nil
  | [], _ :: _, r => by cases r.ds
  | _ :: _, [], r => by cases r.ds
  | (p1, p2) :: vs, (q1, q2) :: kvs, r => by
    obtain ⟨e, h, r'⟩ := r.unc
    have e : p1 = q1 := e
    subst e
    exact .cons h (Rk.snoc hv r')
theorem Rk.put {k : Key} {v : V} {d : D} {vs : List (Key × V)} {kvs : List (Key × D)} (hv : Dp K H v d) (r : Rk K H vs kvs) : Rk K H (putK vs k v) (putD kvs k d) := by
  unfold putK putD
  rw [r.any]
  split
  · exact Rk.map hv r
  · exact Rk.snoc hv r
theorem Rk.mrg : ∀ {ws vs : List (Key × V)} {kvs jvs : List (Key × D)}, Rk K H vs kvs → Rk K H ws jvs → Rk K H (mergeK vs ws) (mrgD kvs jvs)
  | [], _, _, [], r, _ => r
  | [], _, _, _ :: _, _, s => by cases s.ds
  | _ :: _, _, _, [], _, s => by cases s.ds
  | (p1, p2) :: ws, vs, kvs, (q1, q2) :: jvs, r, s => by
    obtain ⟨e, h, s'⟩ := s.unc
    have e : p1 = q1 := e
    subst e
    show Rk K H (mergeK (putK vs p1 p2) ws) (mrgD (putD kvs p1 q2) jvs)
    exact Rk.mrg (r.put h) s'
theorem Rk.ct {a : Addr} {vs : List (Key × V)} {kvs : List (Key × D)} (r : Rk K H vs kvs) : Ct K H a (.dK vs) (.dk kvs) := .dk r.ks r.ds
end
theorem EO.dk {K : PySem.W.Frag} {H0 H : Hp} {M : Addr → Prop} {env : Env} {σ : Sg} {pa : Nat → Addr} (E : EO K H0 M env σ H pa) {i : Nat} {kvs : List (Key × D)} (h : env[i]? = some (.ow (.dk kvs))) :
    σ[i]? = some (some (.ref (pa i))) ∧ ∃ vs, H (pa i) = some (.dK vs) ∧ Rk K (vw (Hd M env pa) H) vs kvs := by
  obtain ⟨h1, _, o, h3, h4⟩ := E.ow i _ h
  cases h4 with
  | dk h4 h5 => exact ⟨h1, _, h3, h4, h5⟩
def dkIx : Option Slot → D → Option D
  | some (.ow (.dk kvs)), y => (keyD y).bind (atK kvs)
  | _, _ => none
theorem dkIx_some {o : Option Slot} {y z : D} (h : dkIx o y = some z) : ∃ kvs k, o = some (.ow (.dk kvs)) ∧ keyD y = some k ∧ atK kvs k = some z := by
  unfold dkIx at h
  split at h
  · obtain ⟨k, h1, h2⟩ := bind1 h
    exact ⟨_, k, rfl, h1, h2⟩
  · cases h
def gDIx (i : Nat) (a : GE) : GE := fun env => (a env).bind fun y => dkIx env[i]? y
def dkSet (env : Env) (i : Nat) : Option Slot → D → D → Option Out
  | some (.ow (.dk kvs)), y, d => (keyD y).bind fun k => if kvs.length < lim then some (.nx (env.set i (.ow (.dk (putD kvs k d))))) else none
  | _, _, _ => none
theorem dkSet_some {env : Env} {i : Nat} {o : Option Slot} {y d : D} {r : Out} (h : dkSet env i o y d = some r) : ∃ kvs k, o = some (.ow (.dk kvs)) ∧ keyD y = some k ∧ kvs.length < lim ∧ r = .nx (env.set i (.ow (.dk (putD kvs k d)))) := by
  unfold dkSet at h
  split at h
  · obtain ⟨k, h1, h2⟩ := bind1 h
    split at h2
    · rename_i hl
      cases h2
      exact ⟨_, k, rfl, h1, hl, rfl⟩
    · cases h2
  · cases h
def sDSet (i : Nat) (a v : GE) : GS := fun env => (v env).bind fun d => (a env).bind fun y => dkSet env i env[i]? y d
abbrev GP := Env → Option (List (Key × D))
def kNil : GP := fun _ => some []
def kCons (x : Str) (a : GE) (r : GP) : GP := fun env => (a env).bind fun d => (r env).bind fun kvs => some ((.inr x, d) :: kvs)
def sDNew (i : Nat) (g : GP) : GS := fun env => (g env).bind fun kvs => if kvs.length ≤ 15 then some (.nx (env.set i (.ow (.dk (mrgD [] kvs))))) else none
section
variable {X : Cx} {b : Bool} {x : Str} {p pos apos px : Pos} {a c e v : Expr} {ga gb gd : GE} {i : Nat}
theorem pd_dix (hu : X.A.units + 1 < cLine) (hN : X.N[i]? = some x) (hv : Vis X.env.scope x) (hc : PEd X b c gb) (hs : NoSl c) (hd : (x == ("__debug__" : Str)) = false := by decide) (hcd : (x == ("__classdict__" : Str)) = false := by decide) : PEd X b (.Subscript (.Name x p) c pos) (gDIx i gb) := by
  obtain ⟨tb, pb', hb⟩ := hc
  refine ⟨_, pe_dget hu (pe_var hN hv hd hcd) pb' hs, fun H0 M env σ H pa d Q E h q => ?_⟩
  obtain ⟨y, h1, h2⟩ := bind1 h
  obtain ⟨kvs, k, g1, g2, g3⟩ := dkIx_some h2
  obtain ⟨e1, vs, e2, e3⟩ := E.dk g1
  refine ⟨_, e1, hb H0 M env σ H pa _ _ E h1 fun y' H' s hy => ?_⟩
  have := keyD_dp g2 hy
  subst this
  obtain ⟨v, w1, w2⟩ := e3.at.1 _ g3
  refine ⟨pa i, v, rfl, by rw [← w1]; exact DGet.k (s _ _ e2), q v H' s ?_⟩
  have up : Same (vw (Hd M env pa) H) (vw (Hd M env pa) H') := vw_up s
  refine Dp_mono (up.trans (vw_same (Same.refl _) fun a o _ z => ?_)) _ _ w2
  cases b
  · exact z
  · exact .inl z
theorem sd_dset (hu : X.A.units + 1 < cLine) (hN : X.N[i]? = some x) (hv : Vis X.env.scope x) (hc : PEd X false c gb) (he : PEd X false e ga) (hs : swapsWith e (some (.Subscript (.Name x px) c p)) pos.line X.env = pure false := by rfl) (hd : (x == ("__debug__" : Str)) = false := by decide) (hcd : (x == ("__classdict__" : Str)) = false := by decide) :
    PSd X (.Assign [.Subscript (.Name x px) c p] e pos) (sDSet i gb ga) := by
  obtain ⟨tb, pb', hb⟩ := hc
  obtain ⟨ta, pa', ha⟩ := he
  refine ⟨_, ps_dput hu (pe_var hN hv hd hcd) pb' pa' hs, fun H0 M env σ H pa o T E h q => ?_⟩
  obtain ⟨d, h1, h2⟩ := bind1 h
  obtain ⟨y, h3, h4⟩ := bind1 h2
  obtain ⟨kvs, k, g1, g2, g3, g4⟩ := dkSet_some h4
  subst g4
  refine ha H0 M env σ H pa _ _ E h1 fun v H1 s hv1 => ?_
  have E1 := E.up s
  obtain ⟨e1, vs, e2, e3⟩ := E1.dk g1
  refine ⟨_, e1, hb H0 M env σ H1 pa _ _ E1 h3 fun y' H' s' hy => ?_⟩
  have := keyD_dp g2 hy
  subst this
  refine ⟨pa i, _, rfl, DPut.k (s' _ _ e2) (by rw [e3.len, ← lim_eq]; exact g3), ?_⟩
  refine q σ _ pa ((E1.up s').writeC g1 ?_)
  exact ((e3.mono (vw_up s')).put (Dp_mono (vw_up s') _ _ hv1)).ct
/-- the pairs of a display -/
def PPd (X : Cx) (pos : Pos) (keys : List (Option Expr)) (values : List Expr) (g : GP) : Prop := ∃ trs, PPs X pos keys values trs ∧ ∀ (H0 : Hp) (M : Addr → Prop) (env : Env) (σ : Sg) (H : Hp) (pa : Nat → Addr) (kvs : List (Key × D)) (Q : List (V × V) → Hp → Prop), EO X.K H0 M env σ H pa → g env = some kvs →
  (∀ (vs : List (Key × V)) H', Same H H' → Rk X.K (vw (Hd M env pa) H') vs kvs → Q (vs.map fun kv => (kV kv.1, kv.2)) H') → tPairs trs σ H Q
theorem ppd_nil : PPd X pos [] [] kNil := ⟨_, pps_nil, fun H0 M env σ H pa kvs Q E h q => by cases h; exact q [] H (Same.refl H) .nil⟩
theorem ppd_cons {j : Nat} {ks : List (Option Expr)} {vs : List Expr} {gr : GP} (ha : PEd X false v ga) (hr : PPd X pos ks vs gr) : PPd X pos (some (.Constant (.str x) j p) :: ks) (v :: vs) (kCons x ga gr) := by
  obtain ⟨ta, pa', ha⟩ := ha
  obtain ⟨trs, pr, hr⟩ := hr
  refine ⟨_, pps_cons pe_str pa' pr, fun H0 M env σ H pa kvs Q E h q => ?_⟩
  obtain ⟨d, h1, h2⟩ := bind1 h
  obtain ⟨kvs', h3, h4⟩ := bind1 h2
  cases h4
  refine ha H0 M env σ H pa _ _ E h1 fun v H1 s hv => hr H0 M env σ H1 pa _ _ (E.up s) h3 fun vs H2 s2 rk => ?_
  exact q ((.inr x, v) :: vs) H2 (s.trans s2) (.cons (Dp_mono (vw_up s2) _ _ hv) rk)
mutual
theorem Dp_off {K : PySem.W.Frag} {P : Addr → Prop} {H : Hp} {p : Addr} {kvs : List (Key × V)} {o : HO} (hp : H p = some (.dK kvs)) : ∀ (d : D) (v : V), Dp K (vw P H) v d → Dp K (vw (fun a => P a ∨ a = p) (upd H p o)) v d
  | .none, _, .non => .non
  | .bool _, _, .bl b => .bl b
  | .int _, _, .int i => .int i
  | .str _, _, .str x => .str x
  | .list ds, _, .lst (a := a) hs ha => by
    refine .lst ?_ (DpAll_off hp ds _ ha)
    rcases hs with (hs | ⟨o', hs⟩) | hs
    · obtain ⟨h1, h2⟩ := vw_some hs
      have ne : a ≠ p := fun z => by rw [z, hp] at h2; cases h2
      exact .inl (.inl (vw_of (fun z => z.elim h1 ne) (by rw [upd_ne ne]; exact h2)))
    · obtain ⟨h1, h2⟩ := vw_some hs
      have ne : a ≠ p := fun z => by rw [z, hp] at h2; cases h2
      exact .inl (.inr ⟨o', vw_of (fun z => z.elim h1 ne) (by rw [upd_ne ne]; exact h2)⟩)
    · exact .inr hs
  | .tuple ds, _, .tup (a := a) hs ha => by
    refine .tup ?_ (DpAll_off hp ds _ ha)
    rcases hs with (hs | ⟨o', hs⟩) | hs
    · obtain ⟨h1, h2⟩ := vw_some hs
      have ne : a ≠ p := fun z => by rw [z, hp] at h2; cases h2
      exact .inl (.inl (vw_of (fun z => z.elim h1 ne) (by rw [upd_ne ne]; exact h2)))
    · obtain ⟨h1, h2⟩ := vw_some hs
      have ne : a ≠ p := fun z => by rw [z, hp] at h2; cases h2
      exact .inl (.inr ⟨o', vw_of (fun z => z.elim h1 ne) (by rw [upd_ne ne]; exact h2)⟩)
    · exact .inr hs
theorem DpAll_off {K : PySem.W.Frag} {P : Addr → Prop} {H : Hp} {p : Addr} {kvs : List (Key × V)} {o : HO} (hp : H p = some (.dK kvs)) : ∀ (ds : List D) (vs : List V), DpAll K (vw P H) vs ds → DpAll K (vw (fun a => P a ∨ a = p) (upd H p o)) vs ds
  | [], _, .nil => .nil
  | d :: ds, _, .cons h t => .cons (Dp_off hp d _ h) (DpAll_off hp ds _ t)
end
theorem EO.setOw2 {K : PySem.W.Frag} {H0 H H' : Hp} {M : Addr → Prop} {env : Env} {σ : Sg} {pa : Nat → Addr} {i : Nat} {p : Addr} {o : HO} {c : Cont} (E : EO K H0 M env σ H pa) (s : Same H H') (hp : H p = none) (hpl : H' p = some o) (hall : Ct K (vw (fun a => Hd M env pa a ∨ a = p) H') p o c) :
    EO K H0 M (env.set i (.ow c)) (σ.set i (some (.ref p))) H' (fun j => if j = i then p else pa j) := by
  have e : upd (fun a => if a = p then none else H' a) p o = H' := by
    funext a
    by_cases z : a = p
    · subst z; rw [upd_same, hpl]
    · rw [upd_ne z, if_neg z]
  have sm : Same H (fun a => if a = p then none else H' a) := fun a o ho => by
    have na : a ≠ p := ne_of_none ho hp
    show (if a = p then none else H' a) = some o
    rw [if_neg na]
    exact s a o ho
  have := EO.setOw (i := i) (p := p) (vs := o) (ds := c) (E.up sm) (by simp) (hall.mono fun a o ho => ?_)
  · rw [e] at this
    exact this
  · obtain ⟨z1, z2⟩ := vw_some ho
    refine vw_of (fun z => z1 (.inl z)) ?_
    show (if a = p then none else H' a) = some o
    rw [if_neg fun z => z1 (.inr z)]
    exact z2
theorem sd_dnew {keys : List (Option Expr)} {values : List Expr} {dpos : Pos} {gp : GP} (hN : X.N.Nodup) (hi : X.N[i]? = some x) (hx : Loc X.env.scope x) (h : PPd X dpos keys values gp) (hall : keys.all (·.isSome) = true) (hl : keys.length = values.length) (h0 : keys ≠ []) (h15 : keys.length ≤ 15)
    (hs : swapsWith (.Dict keys values dpos) (some (.Name x px)) pos.line X.env = pure false := by rfl) (hf : X.fn x = true ∨ X.env.scope.names.lookup x = some .local := by first | exact .inl rfl | exact .inr rfl | assumption) : PSd X (.Assign [.Name x px] (.Dict keys values dpos) pos) (sDNew i gp) := by
  obtain ⟨trs, pt, ht⟩ := h
  refine ⟨_, ps_set hN hi hx (pe_disp pt hall hl h0 h15) hs hf, fun H0 M env σ H pa o T E h q => ?_⟩
  obtain ⟨kvs, h1, h2⟩ := bind1 h
  split at h2
  · rename_i hlen
    cases h2
    intro p hp
    have s0 : Same H (upd H p (.dK [])) := same_upd hp
    refine ht H0 M env σ _ pa _ _ (E.up s0) h1 fun vs H2 s rk => ?_
    have hp2 : H2 p = some (.dK []) := s _ _ upd_same
    refine ⟨hp2, vs, rfl, by rw [rk.len]; exact hlen, ?_⟩
    have rk' : Rk X.K (vw (fun a => Hd M env pa a ∨ a = p) (upd H2 p (.dK (mergeK [] vs)))) vs kvs := ⟨rk.ks, DpAll_off hp2 _ _ rk.ds⟩
    refine q _ _ _ (E.setOw2 (p := p) (fun a o ho => ?_) hp upd_same (Rk.nil.mrg rk').ct)
    have ne : a ≠ p := ne_of_none ho hp
    rw [upd_ne ne]
    exact s _ _ (by rw [upd_ne ne]; exact ho)
  · cases h2
end
end Dn

namespace Dn
open PySem PySem.Spec PyProof.Rows L2
/-! ### min, max, any of a list -/
def intsOf : List D → Option (List Int)
  | [] => some []
  | .int i :: ds => (intsOf ds).bind fun ns => some (i :: ns)
  | _ :: _ => none
def minL : Int → List Int → Int
  | a, [] => a
  | a, b :: l => minL (if b < a then b else a) l
def maxL : Int → List Int → Int
  | a, [] => a
  | a, b :: l => maxL (if a < b then b else a) l
def vMinO : List Int → Option D
  | [] => none
  | n :: ns => some (.int (minL n ns))
def vMaxO : List Int → Option D
  | [] => none
  | n :: ns => some (.int (maxL n ns))
def vMin1 : D → Option D
  | .list ds => (intsOf ds).bind vMinO
  | _ => none
def vMax1 : D → Option D
  | .list ds => (intsOf ds).bind vMaxO
  | _ => none
theorem intsOf_eq : ∀ {ds : List D} {ns : List Int}, intsOf ds = some ns → ds = ns.map PyData.int
  | [], ns, h => by cases h; rfl
  | .int i :: ds, ns, h => by
    cases q : intsOf ds with
    | none =>
      have h : (intsOf ds).bind (fun ns => some (i :: ns)) = some ns := h
      rw [q] at h; cases h
    | some ms =>
      have h : (intsOf ds).bind (fun ns => some (i :: ns)) = some ns := h
      rw [q] at h; cases h
      rw [intsOf_eq q]; rfl
  | .none :: _, _, h => by cases h
  | .bool _ :: _, _, h => by cases h
  | .str _ :: _, _, h => by cases h
  | .list _ :: _, _, h => by cases h
  | .tuple _ :: _, _, h => by cases h
  | .dict _ :: _, _, h => by cases h
theorem intsOf_map : ∀ ns : List Int, intsOf (ns.map PyData.int) = some ns
  | [] => rfl
  | n :: ns => by show (intsOf (ns.map PyData.int)).bind _ = _; rw [intsOf_map ns]; rfl
theorem minL_spec : ∀ (l : List Int) (a : Int), minL a l ∈ a :: l ∧ ∀ y ∈ a :: l, minL a l ≤ y
  | [], a => ⟨List.mem_cons_self, fun y hy => by rw [List.mem_singleton.mp hy]; exact Int.le_refl a⟩
  | b :: l, a => by
    obtain ⟨h1, h2⟩ := minL_spec l (if b < a then b else a)
    constructor
    · show minL (if b < a then b else a) l ∈ _
      rcases List.mem_cons.mp h1 with z | z
      · rw [z]; split <;> simp
      · simp [z]
    · intro y hy
      show minL (if b < a then b else a) l ≤ y
      have h3 := h2 _ List.mem_cons_self
      rcases List.mem_cons.mp hy with z | z
      · subst z; split at h3 <;> split <;> omega
      · rcases List.mem_cons.mp z with z | z
        · subst z; split at h3 <;> split <;> omega
        · exact h2 y (List.mem_cons_of_mem _ z)
theorem maxL_spec : ∀ (l : List Int) (a : Int), maxL a l ∈ a :: l ∧ ∀ y ∈ a :: l, y ≤ maxL a l
  | [], a => ⟨List.mem_cons_self, fun y hy => by rw [List.mem_singleton.mp hy]; exact Int.le_refl a⟩
  | b :: l, a => by
    obtain ⟨h1, h2⟩ := maxL_spec l (if a < b then b else a)
    constructor
    · show maxL (if a < b then b else a) l ∈ _
      rcases List.mem_cons.mp h1 with z | z
      · rw [z]; split <;> simp
      · simp [z]
    · intro y hy
      show y ≤ maxL (if a < b then b else a) l
      have h3 := h2 _ List.mem_cons_self
      rcases List.mem_cons.mp hy with z | z
      · subst z; split at h3 <;> split <;> omega
      · rcases List.mem_cons.mp z with z | z
        · subst z; split at h3 <;> split <;> omega
        · exact h2 y (List.mem_cons_of_mem _ z)
section
variable {K : PySem.W.Frag}
theorem ca_min1 : CaD K (rMin K) (l1 vMin1) := by
  intro P H xs ds z Q nf hx hf q
  cases hx with
  | nil => cases hf
  | cons h1 h2 =>
    cases h2 with
    | nil =>
      cases h1 with
      | @lst a vs es hs ha =>
        have hf2 : (intsOf es).bind vMinO = some z := hf
        clear hf
        cases hi : intsOf es with
        | none => rw [hi] at hf2; cases hf2
        | some ns =>
          rw [hi] at hf2
          have ee := intsOf_eq hi
          subst ee
          have ve := DpAll_ints_inv ns vs ha
          subst ve
          cases ns with
          | nil => cases hf2
          | cons n ns =>
            cases hf2
            refine ⟨a, n :: ns, rfl, vw_le.seq hs, Nat.zero_lt_succ _, fun m hm hle => ?_⟩
            obtain ⟨s1, s2⟩ := minL_spec ns n
            have e : m = minL n ns := Int.le_antisymm (hle _ s1) (s2 m hm)
            rw [e]
            exact q _ H (Same.refl H) (.int _)
      | _ => cases hf
    | cons _ _ => cases hf
theorem ca_max1 : CaD K (rMax K) (l1 vMax1) := by
  intro P H xs ds z Q nf hx hf q
  cases hx with
  | nil => cases hf
  | cons h1 h2 =>
    cases h2 with
    | nil =>
      cases h1 with
      | @lst a vs es hs ha =>
        have hf2 : (intsOf es).bind vMaxO = some z := hf
        clear hf
        cases hi : intsOf es with
        | none => rw [hi] at hf2; cases hf2
        | some ns =>
          rw [hi] at hf2
          have ee := intsOf_eq hi
          subst ee
          have ve := DpAll_ints_inv ns vs ha
          subst ve
          cases ns with
          | nil => cases hf2
          | cons n ns =>
            cases hf2
            refine ⟨a, n :: ns, rfl, vw_le.seq hs, Nat.zero_lt_succ _, fun m hm hle => ?_⟩
            obtain ⟨s1, s2⟩ := maxL_spec ns n
            have e : m = maxL n ns := Int.le_antisymm (s2 m hm) (hle _ s1)
            rw [e]
            exact q _ H (Same.refl H) (.int _)
      | _ => cases hf
    | cons _ _ => cases hf
end
/-! ### repr of what is no list and no tuple, too -/
def vRepr2 : D → Option D
  | .none => some (.str "None")
  | .int i => if i.natAbs.log2 < 1920 then some (.str (toString i)) else none
  | .list ds => vRepr (.list ds)
  | .tuple ds => vRepr (.tuple ds)
  | _ => none
section
variable {X : Cx} {b : Bool} {a : Expr} {p pos : Pos} {ga : GE}
theorem call_reprA (hG : X.A.guards = some []) (hu : X.A.units + 200 < cLine) : CallR X (.builtin "repr") (fun xs H Q => (∃ (a : Addr) (d : D), xs = [.ref a] ∧ Dp X.K H (.ref a) d ∧ okShow d = true ∧ Q (.str d.shown) H) ∨ (xs = [.non] ∧ Q (.str "None") H) ∨ ∃ i : Int, xs = [.int i] ∧ i.natAbs.log2 < 1920 ∧ Q (.str (toString i)) H) := by
  intro pins s σ H xs us Q I r h
  rcases h with h | ⟨rfl, q⟩ | ⟨i, rfl, hz, q⟩
  · exact call_reprD hG hu pins s σ H xs us Q I r h
  · obtain ⟨u, rfl, rx⟩ := vals1 r
    cases rx
    exact PySem.P.repr_of_none ⟨.str _, H, I.tok _, ⟨_, rfl⟩, q⟩
  · obtain ⟨u, rfl, t, rfl⟩ := vals1 r
    exact PySem.P.repr_of_int hz ⟨.str _, H, I.tok _, ⟨_, rfl⟩, q⟩
theorem pd_repr2 (hG : X.A.guards = some []) (hu : X.A.units + 200 < cLine) (hg : Gl X "repr") (hm : X.mg "repr" = none) (ha : PEd X b a ga) (hs1 : starEach [a] X.env = (false, eval a X.env) :: starEach [] X.env := by rfl) (hpl : (backTo pos (starEach [] X.env)).any (·.1) = false := by rfl) :
    PEd X b (.Call (.Name "repr" p) [a] [] pos) (g1 vRepr2 ga) := by
  obtain ⟨t, ht, hh⟩ := ha
  refine ⟨_, pe_callB (x := "repr") (call_reprA hG hu) hg hm (by decide +kernel) (pa_cons ht pa_nil hs1) (by decide) (by decide) hs1 hpl, fun H0 M env σ H pa d Q E h q => ?_⟩
  obtain ⟨d1, h1, h2⟩ := bind1 h
  refine hh H0 M env σ H pa d1 _ E h1 fun v H' s hv => ?_
  cases hv with
  | non => cases h2; exact .inr (.inl ⟨rfl, q _ H' s (.str _)⟩)
  | int i =>
    have h3 : (if i.natAbs.log2 < 1920 then some (PyData.str (toString i)) else none) = some d := h2
    split at h3
    · rename_i hz
      cases h3
      exact .inr (.inr ⟨i, rfl, hz, q _ H' s (.str _)⟩)
    · cases h3
  | @lst a vs ds hs hall =>
    have h3 : (if okShow (.list ds) = true then some (PyData.str (PyData.list ds).shown) else none) = some d := h2
    split at h3
    · rename_i ho
      cases h3
      exact .inl ⟨_, _, rfl, .lst (vw_le.seq hs) (DpAll_mono vw_le _ _ hall), ho, q _ H' s (.str _)⟩
    · cases h3
  | @tup a vs ds hs hall =>
    have h3 : (if okShow (.tuple ds) = true then some (PyData.str (PyData.tuple ds).shown) else none) = some d := h2
    split at h3
    · rename_i ho
      cases h3
      exact .inl ⟨_, _, rfl, .tup (seqT vw_le hs) (DpAll_mono vw_le _ _ hall), ho, q _ H' s (.str _)⟩
    · cases h3
  | _ => cases h2
end
end Dn

namespace Dn
open PySem PySem.Spec PyProof.Rows L2
/-! ### a written dict that is asked at once -/
def gDispIx (gp : GP) (gb : GE) : GE := fun env => (gp env).bind fun kvs => (gb env).bind fun y => if kvs.length ≤ 15 then (keyD y).bind (atK (mrgD [] kvs)) else none
section
variable {X : Cx} {b : Bool} {c : Expr} {pos : Pos} {gb : GE}
theorem pd_dispIx {keys : List (Option Expr)} {values : List Expr} {dpos : Pos} {gp : GP} (hu : X.A.units + 1 < cLine) (h : PPd X dpos keys values gp) (hall : keys.all (·.isSome) = true) (hl : keys.length = values.length) (h0 : keys ≠ []) (h15 : keys.length ≤ 15) (hc : PEd X b c gb) (hs : NoSl c) :
    PEd X b (.Subscript (.Dict keys values dpos) c pos) (gDispIx gp gb) := by
  obtain ⟨trs, pt, ht⟩ := h
  obtain ⟨tb, pb', hb⟩ := hc
  refine ⟨_, pe_dget hu (pe_disp pt hall hl h0 h15) pb' hs, fun H0 M env σ H pa d Q E h q => ?_⟩
  obtain ⟨kvs, h1, h2⟩ := bind1 h
  obtain ⟨y, h3, h4⟩ := bind1 h2
  split at h4
  · rename_i hlen
    obtain ⟨k, g2, g3⟩ := bind1 h4
    intro p hp
    have s0 : Same H (upd H p (.dK [])) := same_upd hp
    refine ht H0 M env σ _ pa _ _ (E.up s0) h1 fun vs H2 s rk => ?_
    have hp2 : H2 p = some (.dK []) := s _ _ upd_same
    refine ⟨hp2, vs, rfl, by rw [rk.len]; exact hlen, ?_⟩
    have rk' : Rk X.K (vw (fun a => Hd M env pa a ∨ a = p) (upd H2 p (.dK (mergeK [] vs)))) vs kvs := ⟨rk.ks, DpAll_off hp2 _ _ rk.ds⟩
    have s3 : Same H (upd H2 p (.dK (mergeK [] vs))) := fun a o ho => by
      have ne : a ≠ p := ne_of_none ho hp
      rw [upd_ne ne]
      exact s _ _ (by rw [upd_ne ne]; exact ho)
    refine hb H0 M env σ _ pa _ _ (E.up s3) h3 fun y' H4 s4 hy => ?_
    have := keyD_dp g2 hy
    subst this
    obtain ⟨v, w1, w2⟩ := (Rk.nil.mrg rk').at.1 _ g3
    refine ⟨p, v, rfl, by rw [← w1]; exact DGet.k (s4 _ _ upd_same), q v H4 (s3.trans s4) ?_⟩
    refine Dp_mono (vw_same s4 fun a o _ z => ?_) _ _ w2
    cases b
    · exact .inl z
    · exact .inl (.inl z)
  · cases h4
end
/-! ### extend by any list -/
def rExtendS (K : PySem.W.Frag) : V → List V → Hp → VK → Prop := fun x vs H Q => ∃ l b xs zs, x = .ref l ∧ vs = [.ref b] ∧ H l = some (.lst xs) ∧ SqL K H b zs ∧ xs.length + zs.length ≤ sizeLine ∧ Q .non (upd H l (.lst (xs ++ zs)))
theorem ext_meets (p : Addr) (xs : Array Value) (n : Nat) (b : Addr) (zs : Array Value) (m : Nat) (sl : Array (Option Value)) (h0 : ¬(!xs.isEmpty && Builtin.List.listTooLong (xs.size + zs.size)) = true) (h1 : xs.size ≤ sizeLine) (h2 : xs.size + zs.size ≤ sizeLine + 1) :
    Meets (Builtin.«list.extend» ⟨[.ref p, .ref b], []⟩) (fun _ R s => s.heap.get? p = some { cls := .type "list", dict := none, data := .seq xs n, slots := #[] } ∧ s.heap.get? b = some { cls := .type "list", dict := none, data := .seq zs m, slots := sl } ∧ R (.ok (.ret .none)) { s with heap := s.heap.update p (Obj.mapSeq fun y => y ++ zs), toks := s.toks }) := by
  refine .of_wp fun prog w A R s h => ?_
  obtain ⟨hp, g, d, tk, os⟩ := s
  obtain ⟨hl, hb, h⟩ := h
  have f1 := AutoSeq1.idx_int
  have f2 := AutoSeq1.sub_tuple_tuple
  have f3 := AutoSeq1.sub_list_list
  have f4 := AutoSeq1.sub_tuple_list
  have f5 := AutoSeq1.sub_list_tuple
  have hz' : (xs ++ zs).size ≤ sizeLine + 1 := by rw [Array.size_append]; exact h2
  wp_walk using (wpAny_updateSeq hl rfl (hz := h1) (_hz' := hz')), AutoSeq1.wpAny_loadPart' hl, AutoSeq1.wpAny_loadPart' hb
  exact ⟨_, rfl, h⟩
theorem mt_extendS {X : Cx} : MtM X "list.extend" (rExtendS X.K) := by
  intro pins s σ H x vs v us Q I rx rv h
  obtain ⟨l, b, xs, zs, rfl, rfl, hH, hB, hz, q⟩ := h
  cases rx
  obtain ⟨u, rfl, ru⟩ := rv.one
  cases ru
  obtain ⟨z, its, n, r, hl, e⟩ := I.lstM hH
  obtain ⟨its2, r2, ⟨o, n2, e2, oc, od, os⟩, _⟩ := I.list hB
  have hl2 := r2.length
  have eo : o = { cls := .type "list", dict := none, data := .seq its2.toArray n2, slots := o.slots } := by
    cases o
    simp only at oc od os
    subst oc od os
    rfl
  rw [eo] at e2
  have hsz : its.toArray.size + its2.toArray.size ≤ sizeLine := by rw [List.size_toArray, List.size_toArray]; omega
  have hlong : ¬ (!its.toArray.isEmpty && Builtin.List.listTooLong (its.toArray.size + its2.toArray.size)) = true := by
    rw [notLongL hsz, Bool.and_false]
    exact Bool.false_ne_true
  refine call_meets F.slot_list_extend ⟨_, e, rfl⟩ F.entry_list_extend (F.args_list_extend_2 _ _)
    (ext_meets l its.toArray n b its2.toArray n2 o.slots hlong (by rw [List.size_toArray]; omega) (by omega)) ⟨e, e2, ?_⟩
  refine ⟨.non, _, I.lset (its' := its ++ its2) hH e (by simp) (r.append r2) ?_, rfl, q⟩
  rw [List.length_append]
  omega
def extS (env : Env) (i : Nat) (es : List D) : Option Slot → Option Out
  | some (.ow (.lst ds)) => if ds.length + es.length ≤ lim then some (.nx (env.set i (.own (ds ++ es)))) else none
  | _ => none
def sExt (i : Nat) (a : GE) : GS := fun env => (a env).bind fun d => (asLst d).bind fun es => extS env i es env[i]?
theorem asLst_some {d : D} {es : List D} (h : asLst d = some es) : d = .list es := by
  cases d <;> cases h
  rfl
section
variable {X : Cx} {e : Expr} {pos : Pos} {ga : GE}
theorem sd_ext {i : Nat} {x : Str} {apos cpos px : Pos} (hN : X.N[i]? = some x) (hv : Vis X.env.scope x) (he : PEd X false e ga) (hd : (x == ("__debug__" : Str)) = false := by decide) (hcd : (x == ("__classdict__" : Str)) = false := by decide)
    (hbase : attributeBase (.Name x px) "extend" X.env (eval (.Name x px) X.env) = eval (.Name x px) X.env := by rfl)
    (hfew : ((backTo cpos (starEach (e :: []) X.env)).all (fun x => !x.1) && (backToKw cpos (keywordEach [] X.env)).all (fun x => x.1.isSome)
      && decide ((e :: []).length + ([] : List Keyword).length + (if ([] : List Keyword).isEmpty then 0 else 1) < 30)) = true := by rfl)
    (hline : (apos.endLine == cpos.line) = true := by rfl) (hs : starEach (e :: []) X.env = (false, eval e X.env) :: starEach [] X.env := by rfl) (hplain : (backTo cpos (starEach [] X.env)).any (·.1) = false := by rfl)
    (hsw : swapsWith (.Call (.Attribute (.Name x px) "extend" apos) [e] [] cpos) none pos.line X.env = pure false := by rfl) :
    PSd X (.Expr (.Call (.Attribute (.Name x px) "extend" apos) [e] [] cpos) pos) (sExt i ga) := by
  obtain ⟨t0, ht, hh⟩ := he
  refine ⟨_, ps_expr (pe_bm PySem.F.plainAttrs_list PySem.F.slot_list_extend PySem.F.type_list_extend mt_extendS (pe_var hN hv hd hcd) (pa_cons ht pa_nil hs) hbase hfew hline hs hplain) hsw, fun H0 M env σ H pa o T E h q => ?_⟩
  obtain ⟨d, h1, h2⟩ := bind1 h
  obtain ⟨es, h3, h4⟩ := bind1 h2
  have := asLst_some h3
  subst this
  cases hi : env[i]? with
  | none => rw [hi] at h4; cases h4
  | some sl =>
    rw [hi] at h4
    cases sl with
    | un => cases h4
    | fn f => cases h4
    | val _ => cases h4
    | ow c =>
      cases c with
      | dk _ => cases h4
      | dn _ => cases h4
      | lst ds =>
        have h4 : (if ds.length + es.length ≤ lim then some (Out.nx (env.set i (.own (ds ++ es)))) else none) = some o := h4
        split at h4
        · rename_i hl
          cases h4
          obtain ⟨g1, g2, vs, g3, g4⟩ := E.own i ds hi
          refine ⟨_, g1, .inl ⟨rfl, vs, SqL.of g3⟩, hh H0 M env σ H pa _ _ E h1 fun v H' s hv => ?_⟩
          cases hv with
          | lst ha hall =>
            refine ⟨_, _, vs, _, rfl, rfl, s _ _ g3, vw_le.seq ha, by rw [DpAll_len g4, DpAll_len hall, ← lim_eq]; exact hl, ?_⟩
            exact q σ _ pa ((E.up s).write hi (DpAll_app (DpAll_mono (vw_up s) _ _ g4) hall))
        · cases h4
/-! ### any, all of a list -/
def boolsOf : List D → Option (List Bool)
  | [] => some []
  | .bool i :: ds => (boolsOf ds).bind fun ns => some (i :: ns)
  | _ :: _ => none
def vAny1 : D → Option D
  | .list ds => (boolsOf ds).bind fun bs => some (.bool (bs.any id))
  | _ => none
def vAll1 : D → Option D
  | .list ds => (boolsOf ds).bind fun bs => some (.bool (bs.all id))
  | _ => none
theorem boolsOf_eq : ∀ {ds : List D} {ns : List Bool}, boolsOf ds = some ns → ds = ns.map PyData.bool
  | [], ns, h => by cases h; rfl
  | .bool i :: ds, ns, h => by
    cases q : boolsOf ds with
    | none =>
      have h : (boolsOf ds).bind (fun ns => some (i :: ns)) = some ns := h
      rw [q] at h; cases h
    | some ms =>
      have h : (boolsOf ds).bind (fun ns => some (i :: ns)) = some ns := h
      rw [q] at h; cases h
      rw [boolsOf_eq q]; rfl
  | .none :: _, _, h => by cases h
  | .int _ :: _, _, h => by cases h
  | .str _ :: _, _, h => by cases h
  | .list _ :: _, _, h => by cases h
  | .tuple _ :: _, _, h => by cases h
  | .dict _ :: _, _, h => by cases h
theorem boolsOf_map : ∀ ns : List Bool, boolsOf (ns.map PyData.bool) = some ns
  | [] => rfl
  | n :: ns => by show (boolsOf (ns.map PyData.bool)).bind _ = _; rw [boolsOf_map ns]; rfl
theorem DpAll_bls_inv {K : PySem.W.Frag} {H : Hp} : ∀ (ns : List Bool) (vs : List V), DpAll K H vs (ns.map PyData.bool) → vs = ns.map V.bl
  | [], _, .nil => rfl
  | n :: ns, _, .cons (.bl _) t => by rw [DpAll_bls_inv ns _ t]; rfl
variable {K : PySem.W.Frag}
theorem ca_any1 : CaD K (rAny K) (l1 vAny1) := by
  intro P H xs ds z Q nf hx hf q
  cases hx with
  | nil => cases hf
  | cons h1 h2 =>
    cases h2 with
    | nil =>
      cases h1 with
      | @lst a vs es hs ha =>
        have hf2 : (boolsOf es).bind (fun bs => some (PyData.bool (bs.any id))) = some z := hf
        clear hf
        cases hi : boolsOf es with
        | none => rw [hi] at hf2; cases hf2
        | some ns =>
          rw [hi] at hf2
          have ee := boolsOf_eq hi
          subst ee
          have ve := DpAll_bls_inv ns vs ha
          subst ve
          cases hf2
          exact ⟨a, ns, rfl, vw_le.seq hs, q _ H (Same.refl H) (.bl _)⟩
      | _ => cases hf
    | cons _ _ => cases hf
theorem ca_all1 : CaD K (rAll K) (l1 vAll1) := by
  intro P H xs ds z Q nf hx hf q
  cases hx with
  | nil => cases hf
  | cons h1 h2 =>
    cases h2 with
    | nil =>
      cases h1 with
      | @lst a vs es hs ha =>
        have hf2 : (boolsOf es).bind (fun bs => some (PyData.bool (bs.all id))) = some z := hf
        clear hf
        cases hi : boolsOf es with
        | none => rw [hi] at hf2; cases hf2
        | some ns =>
          rw [hi] at hf2
          have ee := boolsOf_eq hi
          subst ee
          have ve := DpAll_bls_inv ns vs ha
          subst ve
          cases hf2
          exact ⟨a, ns, rfl, vw_le.seq hs, q _ H (Same.refl H) (.bl _)⟩
      | _ => cases hf
    | cons _ _ => cases hf
end
/-! ### targets of more names in a comprehension -/
theorem tgsc_nil {vs : List Nat} : TGsc vs [] := by
  refine ⟨fun ds env env' pa a h z => ?_, fun ds env env' pa a n h z => ?_, fun ds env env' n h => ?_⟩
  · cases ds with
    | nil => cases h; exact z
    | cons _ _ => cases h
  · cases ds with
    | nil => cases h; exact z
    | cons _ _ => cases h
  · cases ds with
    | nil => cases h; exact n
    | cons _ _ => cases h
theorem tgsc_cons {vs : List Nat} {t : GT} {ts : List GT} (T1 : TGc vs t) (T2 : TGsc vs ts) : TGsc vs (t :: ts) := by
  refine ⟨fun ds env env' pa a h z => ?_, fun ds env env' pa a n h z => ?_, fun ds env env' n h => ?_⟩
  · cases ds with
    | nil => cases h
    | cons d ds =>
      obtain ⟨env1, h1, h2⟩ := bind1 h
      exact T1.fw _ _ _ _ _ h1 (T2.fw _ _ _ _ _ h2 z)
  · cases ds with
    | nil => cases h
    | cons d ds =>
      obtain ⟨env1, h1, h2⟩ := bind1 h
      exact T2.bw _ _ _ _ _ (T1.no _ _ _ n h1) h2 (T1.bw _ _ _ _ _ n h1 z)
  · cases ds with
    | nil => cases h
    | cons d ds =>
      obtain ⟨env1, h1, h2⟩ := bind1 h
      exact T2.no _ _ _ (T1.no _ _ _ n h1) h2
theorem tgc_tup {vs : List Nat} {ts : List GT} (T : TGsc vs ts) : TGc vs (tTuple ts) := by
  refine ⟨fun d env env' pa a h z => ?_, fun d env env' pa a n h z => ?_, fun d env env' n h => ?_⟩
  · cases d with
    | tuple ds => exact T.fw ds env env' pa a h z
    | _ => cases h
  · cases d with
    | tuple ds => exact T.bw ds env env' pa a n h z
    | _ => cases h
  · cases d with
    | tuple ds => exact T.no ds env env' n h
    | _ => cases h
/-- a pair at the module's top: a flat thing and a tuple of flat things -/
theorem gc_pair_mk {K : PySem.W.Frag} {h : Heap} {mg : Str → Option Value} {name : Str} {a p : Addr} {dd dd' : Option Addr} {u : Value} {us : List Value} {n n' : Nat} {sl sl' : Array (Option Value)} {d : D} {ds : List D} (X : K.In h) (G : h.Ns mainGlobals mg)
    (ha : PySem.W.nsIn K mainGlobals name = some (some (.ref a))) (l : K.lookup a = some ⟨.type "tuple", dd, .seq [u, .ref p].toArray n, sl⟩) (l' : K.lookup p = some ⟨.type "tuple", dd', .seq us.toArray n', sl'⟩) (hu : dOf u = some d) (hd : dsOf us = some ds) (hz : us.length ≤ 1000 := by decide) : Gc K mg name (.tuple [d, .tuple ds]) := by
  refine ⟨.ref a, .ref a, PySem.W.mg_of X G ha, rfl, fun H => ?_⟩
  obtain ⟨vs, rs, ps⟩ := dps_of (K := K) (H := H) hd
  obtain ⟨v, r, q⟩ := dp_of (K := K) (H := H) hu
  have inner : Dp K H (.ref p) (.tuple ds) := .tup (.inr ⟨_, us.toArray, n', l', rfl, rfl, by rw [List.size_toArray]; exact Nat.le_of_lt (small1000 hz), by simpa using rs⟩) ps
  have rs2 : Vals [v, .ref p] [u, .ref p] := .cons r (.cons rfl .nil)
  exact .tup (.inr ⟨_, [u, .ref p].toArray, n, l, rfl, rfl, by rw [List.size_toArray]; exact Nat.le_of_lt (small1000 (show [u, Value.ref p].length ≤ 1000 by simp)), by simpa using rs2⟩) (.cons q (.cons inner .nil))
end Dn

namespace Dn
open PySem
/-! ### how the readings compute -/
theorem vAdd_int (a b : Int) : vAdd (.int a) (.int b) = some (.int (a + b)) := rfl
theorem vIAdd_int (a b : Int) : vIAdd (.int a) (.int b) = some (.int (a + b)) := rfl
theorem vSub_int (a b : Int) : vSub (.int a) (.int b) = some (.int (a - b)) := rfl
theorem vSub_bool (a b : Bool) : vSub (.bool a) (.bool b) = some (.int (b2z a - b2z b)) := rfl
theorem vNeg_int (a : Int) : vNeg (.int a) = some (.int (-a)) := rfl
theorem vLt_int (a b : Int) : vLt (.int a) (.int b) = some (.bool (decide (a < b))) := rfl
theorem vLe_int (a b : Int) : vLe (.int a) (.int b) = some (.bool (decide (a ≤ b))) := rfl
theorem vGt_int (a b : Int) : vGt (.int a) (.int b) = some (.bool (decide (b < a))) := rfl
theorem vGe_int (a b : Int) : vGe (.int a) (.int b) = some (.bool (decide (b ≤ a))) := rfl
theorem vEq_int (a b : Int) : vEq (.int a) (.int b) = some (.bool (decide (a = b))) := rfl
theorem vNe_int (a b : Int) : vNe (.int a) (.int b) = some (.bool (!decide (a = b))) := rfl
theorem vEq_str (a b : Str) : vEq (.str a) (.str b) = some (.bool (decide (a = b))) := rfl
theorem vNe_str (a b : Str) : vNe (.str a) (.str b) = some (.bool (!decide (a = b))) := rfl
theorem vIx_list (xs : List D) (i : Int) : vIx (.list xs) (.int i) = atD xs i := rfl
theorem vIx_tup (xs : List D) (i : Int) : vIx (.tuple xs) (.int i) = atD xs i := rfl
theorem vLen_list (xs : List D) : vLen (.list xs) = some (.int xs.length) := rfl
theorem vLen_tup (xs : List D) : vLen (.tuple xs) = some (.int xs.length) := rfl
theorem vAbs_int (a : Int) : vAbs (.int a) = some (.int (if a < 0 then -a else a)) := rfl
theorem vToI_int (a : Int) : vToI (.int a) = some (.int a) := rfl
theorem vToI_bool (a : Bool) : vToI (.bool a) = some (.int (b2z a)) := rfl
theorem vTruth_int (a : Int) : vTruth (.int a) = some (a != 0) := rfl
theorem vTruth_bool (a : Bool) : vTruth (.bool a) = some a := rfl
theorem vTruth_none  : vTruth .none = some false := rfl
theorem vTruth_list (xs : List D) : vTruth (.list xs) = some (!xs.isEmpty) := rfl
theorem vTruth_tup (xs : List D) : vTruth (.tuple xs) = some (!xs.isEmpty) := rfl
theorem asBool_bool (a : Bool) : asBool (.bool a) = some a := rfl
theorem vTup_l (xs : List D) : vTup xs = some (.tuple xs) := rfl
theorem vLst_l (xs : List D) : vLst xs = some (.list xs) := rfl
theorem vTuple_list (xs : List D) : vTuple (.list xs) = some (.tuple xs) := rfl
theorem vTuple_tup (xs : List D) : vTuple (.tuple xs) = some (.tuple xs) := rfl
theorem vList_list (xs : List D) : vList (.list xs) = some (.list xs) := rfl
theorem vList_tup (xs : List D) : vList (.tuple xs) = some (.list xs) := rfl
theorem vRev_list (xs : List D) : vRev (.list xs) = some (.list xs.reverse) := rfl
theorem l1_1 (f : D → Option D) (x : D) : l1 f [x] = f x := rfl
theorem l2_2 (f : D → D → Option D) (x y : D) : l2 f [x, y] = f x y := rfl
theorem look_val (d : D) : look (some (.val d)) = some d := rfl
theorem lookB_val (d : D) : lookB (some (.val d)) = some d := rfl
theorem lookB_own (ds : List D) : lookB (some (.own ds)) = some (.list ds) := rfl
theorem thenS_nx (b : GS) (e : Dn.Env) : thenS b (.nx e) = b e := rfl
theorem thenS_ret (b : GS) (d : D) : thenS b (.ret d) = some (.ret d) := rfl
theorem thenS_bk (b : GS) (e : Dn.Env) : thenS b (.bk e) = some (.bk e) := rfl
theorem thenS_ct (b : GS) (e : Dn.Env) : thenS b (.ct e) = some (.ct e) := rfl
theorem turnS_nx (k : Dn.Env → Option Out) (e : Dn.Env) : turnS k (.nx e) = k e := rfl
theorem turnS_ct (k : Dn.Env → Option Out) (e : Dn.Env) : turnS k (.ct e) = k e := rfl
theorem turnS_bk (k : Dn.Env → Option Out) (e : Dn.Env) : turnS k (.bk e) = some (.nx e) := rfl
theorem turnS_ret (k : Dn.Env → Option Out) (d : D) : turnS k (.ret d) = some (.ret d) := rfl
theorem endF_ret (d : D) : endF (.ret d) = some d := rfl
theorem endF_nx (e : Dn.Env) : endF (.nx e) = some .none := rfl
theorem asTpl_tup (xs : List D) : asTpl (.tuple xs) = some xs := rfl
theorem asLst_list (xs : List D) : asLst (.list xs) = some xs := rfl
theorem appS_own (e : Dn.Env) (i : Nat) (d : D) (ds : List D) : appS e i d (some (.own ds)) = if ds.length < lim then some (.nx (e.set i (.own (ds ++ [d])))) else none := rfl
theorem popS_own (e : Dn.Env) (i : Nat) (ds : List D) : popS e i (some (.own ds)) = if ds.isEmpty then none else some (.nx (e.set i (.own ds.dropLast))) := rfl
theorem revS_own (e : Dn.Env) (i : Nat) (ds : List D) : revS e i (some (.own ds)) = some (.nx (e.set i (.own ds.reverse))) := rfl
theorem frzS_own (e : Dn.Env) (i : Nat) (ds : List D) : frzS e i (some (.own ds)) = e.set i (.val (.list ds)) := rfl
theorem frzS_val (e : Dn.Env) (i : Nat) (d : D) : frzS e i (some (.val d)) = e := rfl
theorem asPart_int (a : Int) : asPart (.int a) = some (some a) := rfl
theorem isNone_none  : isNone .none = true := rfl
theorem isNone_tup (xs : List D) : isNone (.tuple xs) = false := rfl
theorem isNone_list (xs : List D) : isNone (.list xs) = false := rfl
theorem isNone_int (a : Int) : isNone (.int a) = false := rfl
theorem forG_nil (t : GT) (b : GS) (e : Dn.Env) : forG t b [] e = some (.nx e) := rfl
theorem forG_cons (t : GT) (b : GS) (d : D) (ds : List D) (e : Dn.Env) : forG t b (d :: ds) e = (t d e).bind fun e => (b e).bind (turnS (forG t b ds)) := rfl
theorem compG_nil (t : GT) (c : GB) (e : GE) (env : Dn.Env) : compG t c e env [] = some [] := rfl
theorem compG_cons (t : GT) (c : GB) (e : GE) (env : Dn.Env) (d : D) (ds : List D) : compG t c e env (d :: ds) = (t d env).bind fun env1 => (c env1).bind fun k => if k = true then (e env1).bind fun y => (compG t c e env ds).bind fun r => some (y :: r) else compG t c e env ds := rfl
theorem noOwB_nil (e : Dn.Env) : noOwB e [] = true := rfl
theorem noOwB_cons (e : Dn.Env) (i : Nat) (vs : List Nat) : noOwB e (i :: vs) = (!isOwn e[i]? && noOwB e vs) := rfl
theorem isOwn_val (d : D) : isOwn (some (.val d)) = false := rfl
theorem isOwn_un  : isOwn (some .un) = false := rfl
theorem wipeE_nil (e : Dn.Env) : wipeE e [] = e := rfl
theorem wipeE_cons (e : Dn.Env) (i : Nat) (vs : List Nat) : wipeE e (i :: vs) = (wipeE e vs).set i .un := rfl
theorem tTup2_nil (e : Dn.Env) : tTup2 [] [] e = some e := rfl
theorem tTup2_cons (t : GT) (ts : List GT) (d : D) (ds : List D) (e : Dn.Env) : tTup2 (t :: ts) (d :: ds) e = (t d e).bind fun e => tTup2 ts ds e := rfl
end Dn

namespace Dn
open PySem PySem.Spec PyProof.Rows L2
/-! ### Euclid -/
/-- so many turns are enough -/
theorem half_lt {a b : Nat} (h : b ≤ a) (hb : 0 < b) : 2 * (b * (a % b)) < a * b := by
  have h1 : a % b < b := Nat.mod_lt a hb
  have h2 : b * (a / b) + a % b = a := Nat.div_add_mod a b
  have h3 : 1 ≤ a / b := (Nat.one_le_div_iff hb).mpr h
  have h4 : b * 1 ≤ b * (a / b) := Nat.mul_le_mul_left b h3
  have h5 : 2 * (a % b) < a := by omega
  calc 2 * (b * (a % b)) = (2 * (a % b)) * b := by rw [Nat.mul_comm b, Nat.mul_assoc]
    _ < a * b := Nat.mul_lt_mul_of_pos_right h5 hb
/-- an abstract loop: R n a b g: with n turns at hand it comes from a, b to g -/
theorem euclid (R : Nat → Nat → Nat → Nat → Prop) (h0 : ∀ n a, R (n + 1) a 0 a) (h1 : ∀ n a b g, 0 < b → R n b (a % b) g → R (n + 1) a b g) :
    ∀ (m n a b : Nat), b ≤ a → a * b < 2 ^ m → m + 1 ≤ n → R n a b (Nat.gcd a b) := by
  intro m
  induction m with
  | zero =>
    intro n a b hab hp hn
    obtain ⟨k, rfl⟩ : ∃ k, n = k + 1 := ⟨n - 1, by omega⟩
    have hb : b = 0 := by
      rcases Nat.eq_zero_or_pos b with h | h
      · exact h
      · have : 1 * 1 ≤ a * b := Nat.mul_le_mul (by omega) h
        omega
    subst hb
    rw [Nat.gcd_zero_right]
    exact h0 k a
  | succ m ih =>
    intro n a b hab hp hn
    obtain ⟨k, rfl⟩ : ∃ k, n = k + 1 := ⟨n - 1, by omega⟩
    rcases Nat.eq_zero_or_pos b with h | h
    · subst h
      rw [Nat.gcd_zero_right]
      exact h0 k a
    · have q := half_lt hab h
      have e : Nat.gcd a b = Nat.gcd b (a % b) := by rw [Nat.gcd_comm a b, Nat.gcd_rec b a, Nat.gcd_comm]
      rw [e]
      exact h1 k a b _ h (ih k b (a % b) (Nat.le_of_lt (Nat.mod_lt a h)) (by rw [Nat.pow_succ] at hp; omega) (by omega))
theorem euclid2 (R : Nat → Nat → Nat → Nat → Prop) (h0 : ∀ n a, R (n + 1) a 0 a) (h1 : ∀ n a b g, 0 < b → R n b (a % b) g → R (n + 1) a b g)
    (m n a b : Nat) (ha : a < 2 ^ m) (hb : b < 2 ^ m) (hn : 2 * m + 2 ≤ n) : R n a b (Nat.gcd a b) := by
  have hp : a * b < 2 ^ (2 * m) := by
    rw [Nat.two_mul, Nat.pow_add]
    exact Nat.mul_lt_mul'' ha hb
  by_cases h : b ≤ a
  · exact euclid R h0 h1 (2 * m) n a b h hp (by omega)
  · obtain ⟨k, rfl⟩ : ∃ k, n = k + 1 := ⟨n - 1, by omega⟩
    refine h1 k a b _ (by omega) ?_
    rw [Nat.mod_eq_of_lt (show a < b by omega)]
    have e : Nat.gcd a b = Nat.gcd b a := Nat.gcd_comm a b
    rw [e]
    exact euclid R h0 h1 (2 * m) k b a (by omega) (by rw [Nat.mul_comm]; exact hp) (by omega)
/-! ### sizes -/
def Bd (k : Nat) (x : Int) : Prop := x.natAbs < 2 ^ k
theorem Bd.mono {j k : Nat} {x : Int} (h : Bd j x) (l : j ≤ k) : Bd k x := Nat.lt_of_lt_of_le h (Nat.pow_le_pow_right (by decide) l)
theorem Bd.neg {k : Nat} {x : Int} (h : Bd k x) : Bd k (-x) := by unfold Bd at *; omega
theorem Bd.mul {j k l : Nat} {x y : Int} (h : Bd j x) (h' : Bd k y) (e : j + k ≤ l) : Bd l (x * y) := by
  refine Bd.mono (j := j + k) ?_ e
  unfold Bd at *
  rw [Int.natAbs_mul, Nat.pow_add]
  exact Nat.mul_lt_mul'' h h'
theorem Bd.add {k l : Nat} {x y : Int} (h : Bd k x) (h' : Bd k y) (e : k + 1 ≤ l) : Bd l (x + y) := by
  refine Bd.mono (j := k + 1) ?_ e
  unfold Bd at *
  rw [Nat.pow_succ]
  omega
theorem Bd.sub {k l : Nat} {x y : Int} (h : Bd k x) (h' : Bd k y) (e : k + 1 ≤ l) : Bd l (x - y) := by
  refine Bd.mono (j := k + 1) ?_ e
  unfold Bd at *
  rw [Nat.pow_succ]
  omega
theorem Bd.log {k : Nat} {x : Int} (h : Bd k x) (hk : 0 < k) : x.natAbs.log2 < k := PySem.Flt.log2_lt_of hk h
theorem mulOk_of {j k : Nat} {x y : Int} (h : Bd j x) (h' : Bd k y) (hj : 0 < j) (hk : 0 < k) (e : j + k ≤ 100000000) : mulOk x y = true := by
  unfold mulOk
  have h1 := h.log hj
  have h2 := h'.log hk
  have : decide (x.natAbs.log2 + y.natAbs.log2 < 100000000) = true := decide_eq_true (by omega)
  rw [this, Bool.or_true]
theorem mulOk_right {x y : Int} (h : Bd 64 y) : mulOk x y = true := by
  unfold mulOk
  have : decide (y.natAbs < 2 ^ 64) = true := decide_eq_true h
  rw [this, Bool.or_true, Bool.true_or]
theorem mulOk_left {x y : Int} (h : Bd 64 x) : mulOk x y = true := by
  unfold mulOk
  have : decide (x.natAbs < 2 ^ 64) = true := decide_eq_true h
  rw [this, Bool.true_or, Bool.true_or]
theorem divOk_of {k : Nat} {y : Int} (h : Bd k y) (h0 : y ≠ 0) (hk : 0 < k) (e : k ≤ 9000) : divOk y = true := by
  unfold divOk
  have h1 := h.log hk
  rw [decide_eq_true h0, decide_eq_true (show y.natAbs.log2 < 9000 by omega)]
  rfl
theorem Bd.of_le {k : Nat} {x y : Int} (h : Bd k y) (l : x.natAbs ≤ y.natAbs) : Bd k x := Nat.lt_of_le_of_lt l h
theorem Bd.gcd_left {k : Nat} {x y : Int} (h : Bd k x) (h0 : x ≠ 0) : Bd k ((Int.gcd x y : Nat) : Int) := by
  unfold Bd
  rw [Int.natAbs_natCast]
  exact Nat.lt_of_le_of_lt (Nat.gcd_le_left _ (by omega)) h
theorem Bd.gcd_right {k : Nat} {x y : Int} (h : Bd k y) (h0 : y ≠ 0) : Bd k ((Int.gcd x y : Nat) : Int) := by
  unfold Bd
  rw [Int.natAbs_natCast]
  exact Nat.lt_of_le_of_lt (Nat.gcd_le_right _ (by omega)) h
theorem abs_nat (a : Int) : (if a < 0 then -a else a) = ((a.natAbs : Nat) : Int) := by
  split <;> omega
theorem fmod_nat (a b : Nat) : Int.fmod (a : Int) (b : Int) = ((a % b : Nat) : Int) := by
  rw [Int.fmod_eq_emod_of_nonneg _ (by omega)]
  rfl
theorem rngD_length (lo : Int) (n : Nat) : (rngD lo n).length = n := by
  unfold rngD
  rw [List.length_map, List.length_range]
theorem rgOk_small {n : Int} (h : n.natAbs < 2 ^ 59) : rgOk n = true := by
  unfold rgOk
  refine decide_eq_true ?_
  by_cases e : n.natAbs = 0
  · rw [e]; decide
  · exact (Nat.log2_lt e).mpr (by omega)
theorem vRange1_int {n : Int} (h : n.natAbs < 2 ^ 59) : vRange1 (.int n) = some (rngD 0 n.toNat) := by
  show (if rgOk n = true then some (rngD 0 n.toNat) else none) = _
  rw [if_pos (rgOk_small h)]
theorem vRange2_int {a b : Int} (h : a.natAbs < 2 ^ 59) (h' : b.natAbs < 2 ^ 59) : vRange2 (.int a) (.int b) = some (rngD a (b - a).toNat) := by
  show (if (rgOk a && rgOk b) = true then some (rngD a (b - a).toNat) else none) = _
  rw [rgOk_small h, rgOk_small h']
  rfl
/-- the number for n / d -/
def nmN (n d : Int) : Int := (if d < 0 then -n else n) / ((Int.gcd n d : Nat) : Int)
def nmD (n d : Int) : Int := (if d < 0 then -d else d) / ((Int.gcd n d : Nat) : Int)
def pr (n d : Int) : D := .tuple [.int n, .int d]
theorem fdiv_nat (a : Int) (b : Nat) : Int.fdiv a (b : Int) = a / (b : Int) := Int.fdiv_eq_ediv_of_nonneg _ (by omega)
theorem gcd_ne {n d : Int} (h : d ≠ 0) : ((Int.gcd n d : Nat) : Int) ≠ 0 := by
  intro z
  have : Int.gcd n d = 0 := by omega
  rw [Int.gcd_eq_zero_iff] at this
  exact h this.2
theorem gcd_ok {k : Nat} {n d : Int} (h : d ≠ 0) (b : Bd k d) (h0 : 0 < k) (hk : k ≤ 9000) : divOk ((Int.gcd n d : Nat) : Int) = true := divOk_of (Bd.gcd_right b h) (gcd_ne h) h0 hk
theorem rngD_zero (lo : Int) : rngD lo 0 = [] := rfl
theorem rngD_succ (lo : Int) (n : Nat) : rngD lo (n + 1) = PyData.int lo :: rngD (lo + 1) n := by
  unfold rngD
  rw [List.range_succ_eq_map, List.map_cons, List.map_map]
  congr 1
  · show PyData.int (lo + ((0 : Nat) : Int)) = _
    rw [Int.natCast_zero, Int.add_zero]
  · apply List.map_congr_left
    intro i _
    show PyData.int (lo + ((i + 1 : Nat) : Int)) = PyData.int (lo + 1 + (i : Int))
    congr 1
    omega
/-- drawn parts lie below their sizes -/
inductive Fit : List Int → List Int → Prop
  | nil : Fit [] []
  | cons {p s : Int} {ps ss : List Int} : 0 ≤ p → p < s → Fit ps ss → Fit (p :: ps) (s :: ss)
theorem Fit.snoc {p s : Int} (h0 : 0 ≤ p) (h : p < s) : ∀ {ps ss : List Int}, Fit ps ss → Fit (ps ++ [p]) (ss ++ [s])
  | _, _, .nil => .cons h0 h .nil
  | _, _, .cons a b t => .cons a b (Fit.snoc h0 h t)
theorem Fit.length : ∀ {ps ss : List Int}, Fit ps ss → ps.length = ss.length
  | _, _, .nil => rfl
  | _, _, .cons _ _ t => by rw [List.length_cons, List.length_cons, Fit.length t]
def dI (ns : List Int) : List D := ns.map PyData.int
theorem dI_get (ns : List Int) (i : Nat) : (dI ns)[i]? = (ns[i]?).map PyData.int := List.getElem?_map
theorem dI_app (ns ms : List Int) : dI ns ++ dI ms = dI (ns ++ ms) := (List.map_append ..).symm
theorem dI_length (ns : List Int) : (dI ns).length = ns.length := List.length_map ..
theorem dI_cons (n : Int) (ns : List Int) : dI (n :: ns) = .int n :: dI ns := rfl
theorem dI_nil : dI [] = [] := rfl
theorem atD_nat (xs : List D) (k : Nat) : atD xs (k : Int) = xs[k]? := by
  unfold atD
  rw [if_neg (by omega), Int.toNat_natCast]
theorem atD_0 (xs : List D) : atD xs 0 = xs[0]? := atD_nat xs 0
theorem atD_1 (xs : List D) : atD xs 1 = xs[1]? := atD_nat xs 1
theorem atD_2 (xs : List D) : atD xs 2 = xs[2]? := atD_nat xs 2
theorem atD_3 (xs : List D) : atD xs 3 = xs[3]? := atD_nat xs 3
theorem atD_4 (xs : List D) : atD xs 4 = xs[4]? := atD_nat xs 4
theorem atD_5 (xs : List D) : atD xs 5 = xs[5]? := atD_nat xs 5
theorem atD_6 (xs : List D) : atD xs 6 = xs[6]? := atD_nat xs 6
theorem atD_7 (xs : List D) : atD xs 7 = xs[7]? := atD_nat xs 7
theorem atD_8 (xs : List D) : atD xs 8 = xs[8]? := atD_nat xs 8
theorem atD_9 (xs : List D) : atD xs 9 = xs[9]? := atD_nat xs 9
theorem atD_10 (xs : List D) : atD xs 10 = xs[10]? := atD_nat xs 10
theorem atD_11 (xs : List D) : atD xs 11 = xs[11]? := atD_nat xs 11
theorem fmod_pos {a b : Int} (h : 0 < b) : a.fmod b = a % b := Int.fmod_eq_emod_of_nonneg _ (by omega)
theorem fdiv_pos {a b : Int} (h : 0 < b) : a.fdiv b = a / b := Int.fdiv_eq_ediv_of_nonneg _ (by omega)
theorem vMod_pos {a b : Int} (h : 0 < b) : vMod (.int a) (.int b) = some (.int (a % b)) := by
  show (if b = 0 then none else some (PyData.int (a.fmod b))) = _
  rw [if_neg (by omega), fmod_pos h]
theorem vFdiv_pos {k : Nat} {a b : Int} (h : 0 < b) (hb : Bd k b) (h0 : 0 < k) (hk : k ≤ 9000) : vFdiv (.int a) (.int b) = some (.int (a / b)) := by
  show (if divOk b = true then some (PyData.int (a.fdiv b)) else none) = _
  rw [if_pos (divOk_of hb (by omega) h0 hk), fdiv_pos h]
theorem vMul_ok {a b : Int} (h : mulOk a b = true) : vMul (.int a) (.int b) = some (.int (a * b)) := by
  show (if mulOk a b = true then some (PyData.int (a * b)) else none) = _
  rw [if_pos h]
theorem bd_lit {k : Nat} {x : Int} (h : decide (x.natAbs < 2 ^ k) = true) : Bd k x := show x.natAbs < 2 ^ k from of_decide_eq_true h
theorem bd_range {k : Nat} {x : Int} (lo hi : Int) (h1 : lo ≤ x) (h2 : x ≤ hi) (hl : decide (lo.natAbs < 2 ^ k) = true) (hh : decide (hi.natAbs < 2 ^ k) = true) : Bd k x := by
  have a := of_decide_eq_true hl
  have b := of_decide_eq_true hh
  unfold Bd
  omega
theorem vPow_ok {a b : Int} (h0 : 0 ≤ b) (h1 : b ≤ 1000000) (h2 : a.natAbs < 2 ^ 64) : vPow (.int a) (.int b) = some (.int (a ^ b.toNat)) := by
  show (if 0 ≤ b ∧ b ≤ 1000000 ∧ a.natAbs < 2 ^ 64 then some (PyData.int (a ^ b.toNat)) else none) = _
  rw [if_pos ⟨h0, h1, h2⟩]
theorem vPow_10_18 : vPow (.int 10) (.int 18) = some (.int 1000000000000000000) := by
  rw [vPow_ok (by decide) (by decide) (by decide)]
  rfl
theorem nm_facts {n d : Int} (h : d ≠ 0) : ∃ g : Int, 0 < g ∧ g * nmN n d = (if d < 0 then -n else n) ∧ g * nmD n d = (if d < 0 then -d else d) := by
  have g0 := gcd_ne (n := n) h
  refine ⟨((Int.gcd n d : Nat) : Int), by omega, ?_, ?_⟩
  · unfold nmN
    rw [Int.mul_ediv_cancel']
    split
    · exact Int.dvd_neg.mpr (Int.gcd_dvd_left _ _)
    · exact Int.gcd_dvd_left _ _
  · unfold nmD
    rw [Int.mul_ediv_cancel']
    split
    · exact Int.dvd_neg.mpr (Int.gcd_dvd_right _ _)
    · exact Int.gcd_dvd_right _ _
theorem nat_factor {g q x : Int} (hg : 0 < g) (e : g * q = x) : q.natAbs ≤ x.natAbs := by
  rw [← e, Int.natAbs_mul]
  exact Nat.le_mul_of_pos_left _ (by omega)
theorem nmN_bd {k : Nat} {n d : Int} (h : d ≠ 0) (b : Bd k n) : Bd k (nmN n d) := by
  obtain ⟨g, hg, h1, _⟩ := nm_facts (n := n) h
  have := nat_factor hg h1
  unfold Bd at *
  split at this <;> omega
theorem nmD_bd {k : Nat} {n d : Int} (h : d ≠ 0) (b : Bd k d) : Bd k (nmD n d) := by
  obtain ⟨g, hg, _, h1⟩ := nm_facts (n := n) h
  have := nat_factor hg h1
  unfold Bd at *
  split at this <;> omega
theorem nmD_pos {n d : Int} (h : d ≠ 0) : 0 < nmD n d := by
  obtain ⟨g, hg, _, h1⟩ := nm_facts (n := n) h
  refine Int.not_le.mp fun z => ?_
  have : g * nmD n d ≤ 0 := Int.mul_nonpos_of_nonneg_of_nonpos (by omega) z
  split at h1 <;> omega
end Dn

namespace Dn
open PySem PySem.Spec PyProof.Rows L2
/-! ### a set of a tuple of tuples of ints -/
section
variable {P : Program} {w : World} {A : Around} {E : Value → Shared → Prop} {s : Shared}
/-- the fresh set's object -/
abbrev freshO (w : World) : Obj := { cls := .type "set", dict := none, data := .set #[] 0 (.fresh 0 0 (!w.params.followText "set-order")) }
theorem call_set_tupT {l : Addr} {items : Array Value} (ks : List (Addr × List Int)) {Q : Value → Shared → Prop} (hh : A.handled = none) (hl : s.heap.IsTuple l items) (hit : items.toList = ks.map fun p => Value.ref p.1)
    (hk : ∀ p ∈ ks, IsT P w s.heap p.2 p.1) (hfew : ks.length < 64) (hu : A.units + 3 < cLine)
    (h : ∀ (h' : Heap) (tk : Nat) (L : List (Addr × List Int)) (es : Array (Int × Value)) (ep : Nat) (t : SetTable), SetTR P w h' s.heap.objs.size L es ep t → Got ks ks.length L → (∀ b o, s.heap.get? b = some o → h'.get? b = some o) → Q (.ref s.heap.objs.size) { s with heap := h', toks := tk }) :
    wpAny (model P w) A (call (.type "set") [.ref l]) Q E s := by
  have size_eq : items.size = ks.length := by
    have q := congrArg List.length hit
    rw [Array.length_toList, List.length_map] at q
    exact q
  obtain ⟨c, tl, hmro⟩ := F.called_set.mro
  have hmade := F.called_set.made
  have hsub := F.called_set.sub
  refine wpAny_call (codeAny_of_tree ?_)
  show wpAny _ _ (callAny (.type "set") _) _ _ _
  refine wpAny_pure ⟨Code.quiet_builtin _ (by decide +kernel), codeAny_builtin F.entry_type_call ?_⟩
  rw [Around.under_plain (weight_type_call_type "set" [.ref l] []) rfl]
  have h1 := F.called_set.notType
  have h2 := F.called_set.canCreate
  have hct := F.typeCall_set_1 (.ref l)
  repeat (any_goals (first | assumption | wp_step))
  refine codeAny_mono (code_set_led1 (.ref l) (E := E) (Q₁ := fun obj s₁ => obj = .ref s.heap.objs.size ∧ s₁ = { s with heap := s.heap.push (freshO w) }) ⟨rfl, rfl⟩) fun r s₁ hr => ?_
  cases r with
  | error e => exact hr
  | ok fl =>
    cases fl with
    | ret obj =>
      obtain ⟨rfl, rfl⟩ := hr
      have hS : (s.heap.push (freshO w)).get? s.heap.objs.size = some (freshO w) := Heap.get?_push_size _ rfl
      have hT : Shared.TypeIs { s with heap := s.heap.push (freshO w) } (.ref s.heap.objs.size) "set" := ⟨_, hS, rfl⟩
      have hli := F.called_set.init.lookup
      have hbi := F.called_set.init.bind (.ref s.heap.objs.size)
      repeat (any_goals (first | assumption | wp_step))
      refine codeAny_mono (codeAny_call_builtin (R := wants (fun r s₂ => r = .none ∧ ∃ h' tk L es ep t, s₂ = { s with heap := h', toks := tk } ∧ SetTR P w h' s.heap.objs.size L es ep t ∧ Got ks ks.length L ∧
          (∀ b o, s.heap.get? b = some o → h'.get? b = some o)) E) F.called_set.init.plain F.entry_set_init (check_set_init_1 hT ?_)) fun r₂ s₂ hr₂ => ?_
      · obtain ⟨⟨ocls, odict, odata, oslots⟩, hol, hcl, nl, hdl⟩ := hl
        simp only at hcl hdl
        subst hcl; subst hdl
        have hol' : (s.heap.push (freshO w)).get? l = some { cls := .type "tuple", dict := odict, data := .seq items nl, slots := oslots } := Heap.get?_push_of_some _ hol
        have hsls := F.sub_tuple_set
        have hslf := F.sub_tuple_frozenset
        have hne : (Value.type "tuple" == Value.type "dict") = false := by decide
        have hl1 : (s.heap.push (freshO w)).IsTuple l items := ⟨_, hol', rfl, nl, rfl⟩
        unfold Builtin.«set.__init__» noKeywords Builtin.Frozenset.updateFrom
        generalize hPI : pyIter = PI
        wp_walk
        subst hPI
        refine wpAny_pyIter_tuple hl1 ?_
        refine wpAny_bind (wpAny_runValue ?_)
        have hlS : l < s.heap.objs.size := Heap.lt_size hol
        have hh3 : A.in1.in1.in1.handled = none := by simp [hh]
        have hneI : l ≠ (s.heap.push (freshO w)).objs.size := by
          rw [Heap.size_push]; exact Nat.ne_of_lt (Nat.lt_succ_of_lt hlS)
        have hSf : s.heap.objs.size ∉ [(s.heap.push (freshO w)).objs.size, l] := by
          rw [Heap.size_push]; simp only [List.mem_cons, List.mem_singleton, List.not_mem_nil, or_false, not_or]
          exact ⟨Nat.ne_of_lt (Nat.lt_succ_self _), Nat.ne_of_gt hlS⟩
        have hval : ∀ (i : Nat) (v : Value), items[i]? = some v → ∃ p, ks[i]? = some p ∧ v = .ref p.1 := fun i v hv => by
          have q : items.toList[i]? = some v := by rw [Array.getElem?_toList]; exact hv
          rw [hit, List.getElem?_map] at q
          cases hq : ks[i]? with
          | none => rw [hq] at q; cases q
          | some p =>
            rw [hq] at q
            exact ⟨p, rfl, (Option.some.inj q).symm⟩
        have none_of : ∀ b, s.heap.objs.size ≤ b → s.heap.get? b = none := fun b hb => by
          cases q : s.heap.get? b with
          | none => rfl
          | some o => exact absurd (Nat.lt_of_lt_of_le (Heap.lt_size q) hb) (Nat.lt_irrefl _)
        refine set_update_tups ((Walks.tuple hh3 _ l hneI items).toS) s.heap.objs.size
          hSf ks size_eq hfew hval s.heap hk (none_of _ (Nat.le_refl _)) (fun b hb => none_of b (by
            rw [List.mem_singleton.mp hb, Heap.size_push]
            exact Nat.le_succ _)) hu (items.size - 0) 0 _ (by omega) (Nat.zero_le _)
          ⟨⟨_, Heap.get?_push_size _ rfl, rfl, rfl⟩, (hl1.push _)⟩ (fun b o e => Heap.get?_push_of_some _ (Heap.get?_push_of_some _ e)) ?hS0 ?hR
        case hS0 =>
          have hget : ((s.heap.push (freshO w)).push { cls := .type "tuple_iterator", data := .fields #[.ref l, .int 0 0] }).get? s.heap.objs.size = some (freshO w) := Heap.get?_push_of_some _ hS
          exact ⟨[], #[], 0, _, setTR_fresh hget, Got.zero ks⟩
        case hR =>
          intro s' L es ep t hm hS' g' hkp
          obtain ⟨h', g2, d', tk', os'⟩ := s'
          have eg : g2 = s.gens := hm.gens
          have ed : d' = s.drawn := hm.drawn
          have eo : os' = s.os := hm.os
          subst eg; subst ed; subst eo
          show wpAny _ _ _ _ _ _
          refine wpAny_pure ?_
          show wpAny _ _ (ret Value.none) _ _ _
          rw [size_eq] at g'
          exact wpAny_pure ⟨rfl, h', tk', L, es, ep, t, rfl, hS', g', hkp⟩
      · cases r₂ with
        | error e => exact hr₂
        | ok fl₂ =>
          cases fl₂ with
          | ret r =>
            obtain ⟨rfl, h', tk, L, es, ep, t, rfl, hS', g', hk'⟩ := hr₂
            repeat (any_goals (first | assumption | wp_step))
            exact h _ _ _ _ _ _ hS' g' hk'
          | _ => exact hr₂.elim
    | _ => exact hr.elim
end
end Dn

namespace Dn
open PySem PySem.Spec PyProof.Rows L2
/-- how many different ones -/
def dist : List (List Int) → Nat
  | [] => 0
  | k :: ks => (if k ∈ ks then 0 else 1) + dist ks
theorem dist_of : ∀ (ks L : List (List Int)), L.Nodup → (∀ k, k ∈ L ↔ k ∈ ks) → L.length = dist ks
  | [], L, n, h => by
    cases L with
    | nil => rfl
    | cons x _ => exact absurd ((h x).mp List.mem_cons_self) (by simp)
  | k :: ks, L, n, h => by
    unfold dist
    by_cases c : k ∈ ks
    · rw [if_pos c, Nat.zero_add]
      refine dist_of ks L n fun x => ?_
      rw [h x, List.mem_cons]
      constructor
      · rintro (rfl | q)
        · exact c
        · exact q
      · exact .inr
    · rw [if_neg c]
      have kl : k ∈ L := (h k).mpr List.mem_cons_self
      have ih := dist_of ks (L.erase k) (n.erase k) fun x => by
        rw [n.mem_erase_iff, h x, List.mem_cons]
        constructor
        · rintro ⟨ne, rfl | q⟩
          · exact absurd rfl ne
          · exact q
        · intro q
          exact ⟨fun z => c (by rw [← z]; exact q), .inr q⟩
      have le := List.length_erase_of_mem kl
      have lp := List.length_pos_of_mem kl
      omega
section
variable {X : Cx}
def tLenSetT (K : PySem.W.Frag) (ta : TE) : TE := fun σ H Q => ta σ H fun x H1 => ∃ (l : Addr) (ks : List (Addr × List Int)), x = V.ref l ∧ SqT K H1 l (ks.map fun p => V.ref p.1) ∧ (∀ p ∈ ks, SqT K H1 p.1 (p.2.map V.int)) ∧ ks.length < 64 ∧ Q (.int (dist (ks.map (·.2)))) H1
theorem pe_lenSetT {a : Expr} {ta : TE} {p p2 q pos : Pos} (hc : X.calm = true) (hu : X.A.units + 64 < cLine) (hg : Gl X "len") (hm : X.mg "len" = none) (hg2 : Gl X "set") (hm2 : X.mg "set" = none) (ha : PE X a ta)
    (na : starEach [a] X.env = (false, eval a X.env) :: starEach [] X.env := by rfl) : PE X (.Call (.Name "len" p) [.Call (.Name "set" p2) [a] [] q] [] pos) (tLenSetT X.K ta) := by
  refine ⟨fun pins s σ H Q I h => ?_⟩
  refine Call_ (ld_blt I hg hm PySem.boot_len ?_)
  refine PyProof.Rows.callWith_builtin1 (PyProof.Rows.args_cons ?_ rfl) rfl rfl
  refine Call_ (ld_blt I hg2 hm2 PyProof.Rows.boot_set ?_)
  refine PyProof.Rows.callWith_type1 (PyProof.Rows.args_cons (thn (ha.run pins s σ H _ I h) fun v s1 ⟨x, H1, I1, r1, q1⟩ => PyProof.Rows.args_nil ?_) na) na rfl
  obtain ⟨l, ks, rfl, hq, hk, h1, q1⟩ := q1
  cases r1
  obtain ⟨its, r, pl, hz⟩ := I1.tuple hq
  refine call_set_tupT ks (I1.ok.hd hc) pl (by simpa using refs_of_vals r) (fun p hp => I1.isT (hk p hp)) h1 (by omega) fun h' tk L es ep t R g hk' => ?_
  refine PyProof.Rows.args_nil ?_
  have I2 : Inv X pins σ H1 { s1 with heap := h', toks := tk } := I1.kept fun b o e => hk' b o e
  obtain ⟨o, ho, hex, hd⟩ := R.ob
  have len : L.length = dist (ks.map (·.2)) := by
    have := dist_of (ks.map (·.2)) (L.map (·.2)) R.nd fun k => ?_
    · rw [List.length_map] at this; exact this
    · constructor
      · intro m
        obtain ⟨p, hp, e⟩ := List.mem_map.mp m
        exact List.mem_map.mpr ⟨p, List.mem_of_mem_take (g.sub p hp), e⟩
      · intro m
        obtain ⟨p, hp, e⟩ := List.mem_map.mp m
        rw [← e]
        exact g.all p (by rw [List.take_length]; exact hp)
  have sz := SetTR.size (s := { s1 with heap := h', toks := tk }) R
  have fit := SetTR.fits (s := { s1 with heap := h', toks := tk }) R
  refine call_len_set ho hex hd fit (by rw [sz]; have := R.few; omega) ⟨.int (dist (ks.map (·.2))), H1, I2.tok _, ⟨_, by rw [sz, len]⟩, q1⟩
end
end Dn

namespace Dn
open PySem PySem.Spec PyProof.Rows L2
def keysD : List D → Option (List (List Int))
  | [] => some []
  | .tuple is :: ds => (intsOf is).bind fun k => (keysD ds).bind fun ks => some (k :: ks)
  | _ :: _ => none
/-- len(set(x)), x a tuple of tuples of ints -/
def vLenSet : D → Option D
  | .tuple ds => (keysD ds).bind fun ks => if ks.length < 64 then some (.int (dist ks)) else none
  | _ => none
theorem ints_dpZ {K : PySem.W.Frag} {H : Hp} : ∀ {is : List D} {xs : List V} {k : List Int}, intsOf is = some k → DpAll K H xs is → xs = k.map V.int
  | [], xs, k, h, a => by
    cases h; cases a; rfl
  | d :: is, xs, k, h, a => by
    cases a with
    | cons hx ht =>
      cases d with
      | int i =>
        obtain ⟨k', h1, h2⟩ := bind1 (show (intsOf is).bind (fun ns => some (i :: ns)) = some k from h)
        cases h2
        rw [Dp_int hx, ints_dpZ h1 ht]; rfl
      | _ => cases h
theorem keys_dp {K : PySem.W.Frag} {S : Addr → Prop} {H : Hp} : ∀ {ds : List D} {vs : List V} {ks' : List (List Int)}, keysD ds = some ks' → DpAll K (vw S H) vs ds → ∃ ks : List (Addr × List Int), vs = ks.map (fun p => V.ref p.1) ∧ (∀ p ∈ ks, SqT K H p.1 (p.2.map V.int)) ∧ ks.map (·.2) = ks'
  | [], vs, ks', h, a => by
    cases h; cases a
    exact ⟨[], rfl, (fun p hp => (by cases hp)), rfl⟩
  | d :: ds, vs, ks', h, a => by
    cases a with
    | cons hx ht =>
      cases d with
      | tuple is =>
        obtain ⟨k, h1, h2⟩ := bind1 (show (intsOf is).bind (fun k => (keysD ds).bind fun ks => some (k :: ks)) = some ks' from h)
        obtain ⟨kr, h3, h4⟩ := bind1 h2
        cases h4
        cases hx with
        | tup hs ha =>
          obtain ⟨ks, e1, e2, e3⟩ := keys_dp h3 ht
          have ex := ints_dpZ h1 ha
          subst ex
          refine ⟨(_, k) :: ks, by rw [e1]; rfl, fun p hp => ?_, by rw [List.map_cons, e3]⟩
          rcases List.mem_cons.mp hp with rfl | hp
          · exact seqT vw_le hs
          · exact e2 p hp
      | _ => cases h
section
variable {X : Cx} {b : Bool} {a : Expr} {p p2 q pos : Pos} {ga : GE}
theorem pd_lenSet (hc : X.calm = true) (hu : X.A.units + 64 < cLine) (hg : Gl X "len") (hm : X.mg "len" = none) (hg2 : Gl X "set") (hm2 : X.mg "set" = none) (ha : PEd X b a ga)
    (na : starEach [a] X.env = (false, eval a X.env) :: starEach [] X.env := by rfl) : PEd X b (.Call (.Name "len" p) [.Call (.Name "set" p2) [a] [] q] [] pos) (g1 vLenSet ga) := by
  obtain ⟨ta, pa', ht⟩ := ha
  refine ⟨_, pe_lenSetT hc hu hg hm hg2 hm2 pa' na, fun H0 M env σ H pa d Q E h qq => ?_⟩
  obtain ⟨x, h1, h2⟩ := bind1 h
  refine ht H0 M env σ H pa _ _ E h1 fun y H4 s4 hy => ?_
  cases x with
  | tuple ds =>
    obtain ⟨ks', h3, h4⟩ := bind1 (show (keysD ds).bind (fun ks => if ks.length < 64 then some (.int (dist ks)) else none) = some d from h2)
    split at h4
    · rename_i lt
      cases h4
      cases hy with
      | tup hs hall =>
        obtain ⟨ks, e1, e2, e3⟩ := keys_dp h3 hall
        subst e1
        subst e3
        exact ⟨_, ks, rfl, seqT vw_le hs, e2, by rw [List.length_map] at lt; exact lt, qq _ H4 s4 (.int _)⟩
    · cases h4
  | _ => cases h2
end
end Dn

namespace Dn
open PySem PySem.Spec PyProof.Rows L2
/-! ### x is True, x is not True -/
def isB (c : Bool) : D → Bool
  | .bool b => b == c
  | _ => false
def vIsB (c : Bool) (x : D) : Option D := some (.bool (isB c x))
def vNotB (c : Bool) (x : D) : Option D := some (.bool (!isB c x))
section
variable {M : Model} {A : Around} {E : Value → Shared → Prop} {s : Shared} {Q : Value → Shared → Prop}
theorem is_bool {v : Value} {c : Bool} (hb : ∀ i, v ≠ .builtin i) (h : Q (.bool (v == .bool c)) s) : wpAny M A (compareOp .Is v (.bool c)) Q E s := by
  cases v <;> first | exact wpAny_pure h | exact absurd rfl (hb _)
theorem isnot_bool {v : Value} {c : Bool} (hb : ∀ i, v ≠ .builtin i) (h : Q (.bool (!(v == .bool c))) s) : wpAny M A (compareOp .IsNot v (.bool c)) Q E s := by
  cases v <;> first | exact wpAny_pure h | exact absurd rfl (hb _)
end
section
variable {X : Cx} {b : Bool} {a : Expr} {pos : Pos} {ga : GE}
def tIsB (K : PySem.W.Frag) (c : Bool) (ta : TE) : TE := fun σ H Q => ta σ H fun x H1 => ∃ d, Dp K H1 x d ∧ Q (.bl (isB c d)) H1
def tNotB (K : PySem.W.Frag) (c : Bool) (ta : TE) : TE := fun σ H Q => ta σ H fun x H1 => ∃ d, Dp K H1 x d ∧ Q (.bl (!isB c d)) H1
theorem dp_rel {K : PySem.W.Frag} {H : Hp} {x : V} {v : Value} {d : D} {c : Bool} (h : Dp K H x d) (r : RelV x v) : (∀ i, v ≠ .builtin i) ∧ (v == .bool c) = isB c d := by
  cases h
  case bl b =>
    cases r
    refine ⟨(fun i z => (by cases z)), ?_⟩
    cases b <;> cases c <;> rfl
  all_goals (first | (cases r; exact ⟨(fun i z => (by cases z)), rfl⟩) | (obtain ⟨t, rfl⟩ := r; exact ⟨(fun i z => (by cases z)), rfl⟩))
theorem pc_isB {c : Bool} {ta : TE} {j pos'} (ha : PE X a ta) : PC X .Is a (.Constant (.bool c) j pos') (tIsB X.K c ta) := by
  refine ⟨fun pins s σ H Q I h => ?_⟩
  refine thn (ha.run pins s σ H _ I h) fun v s1 ⟨x, H1, I1, r1, q1⟩ => ?_
  obtain ⟨d, hd, q⟩ := q1
  obtain ⟨h1, h2⟩ := dp_rel (c := c) hd r1
  exact Constant_bool (is_bool h1 ⟨.bl _, H1, I1, by rw [h2]; rfl, q⟩)
theorem pc_notB {c : Bool} {ta : TE} {j pos'} (ha : PE X a ta) : PC X .IsNot a (.Constant (.bool c) j pos') (tNotB X.K c ta) := by
  refine ⟨fun pins s σ H Q I h => ?_⟩
  refine thn (ha.run pins s σ H _ I h) fun v s1 ⟨x, H1, I1, r1, q1⟩ => ?_
  obtain ⟨d, hd, q⟩ := q1
  obtain ⟨h1, h2⟩ := dp_rel (c := c) hd r1
  exact Constant_bool (isnot_bool h1 ⟨.bl _, H1, I1, by rw [h2]; rfl, q⟩)
theorem pd_isB {c : Bool} {j pos'} (ha : PEd X b a ga) : PEd X b (.Compare a [.Is] [.Constant (.bool c) j pos'] pos) (g1 (vIsB c) ga) := by
  obtain ⟨t, ht, hh⟩ := ha
  refine ⟨_, pe_cmp (pc_isB ht) rfl, fun H0 M env σ H pa d Q E h q => ?_⟩
  obtain ⟨d1, h1, h2⟩ := bind1 h
  cases h2
  exact hh H0 M env σ H pa d1 _ E h1 fun v H' s hv => ⟨d1, Dp_mono vw_le _ _ hv, q _ H' s (.bl _)⟩
theorem pd_notB {c : Bool} {j pos'} (ha : PEd X b a ga) : PEd X b (.Compare a [.IsNot] [.Constant (.bool c) j pos'] pos) (g1 (vNotB c) ga) := by
  obtain ⟨t, ht, hh⟩ := ha
  refine ⟨_, pe_cmp (pc_notB ht) rfl, fun H0 M env σ H pa d Q E h q => ?_⟩
  obtain ⟨d1, h1, h2⟩ := bind1 h
  cases h2
  exact hh H0 M env σ H pa d1 _ E h1 fun v H' s hv => ⟨d1, Dp_mono vw_le _ _ hv, q _ H' s (.bl _)⟩
theorem pt_isB {c : Bool} {j pos'} (ha : PEd X true a ga) : PTd X (.Compare a [.Is] [.Constant (.bool c) j pos'] pos) (gTest (g1 (vIsB c) ga)) := by
  obtain ⟨t, ht, hh⟩ := ha
  refine ⟨_, pt_cmp (pc_isB ht) rfl, fun H0 M env σ H pa k Q E h q => ?_⟩
  obtain ⟨d, h0, hk⟩ := bind1 h
  obtain ⟨d1, h1, h2⟩ := bind1 h0
  cases h2
  cases hk
  exact hh H0 M env σ H pa d1 _ E h1 fun v H' s hv => ⟨d1, Dp_mono vw_le _ _ hv, ⟨_, rfl, q H' s⟩⟩
theorem pt_notB {c : Bool} {j pos'} (ha : PEd X true a ga) : PTd X (.Compare a [.IsNot] [.Constant (.bool c) j pos'] pos) (gTest (g1 (vNotB c) ga)) := by
  obtain ⟨t, ht, hh⟩ := ha
  refine ⟨_, pt_cmp (pc_notB ht) rfl, fun H0 M env σ H pa k Q E h q => ?_⟩
  obtain ⟨d, h0, hk⟩ := bind1 h
  obtain ⟨d1, h1, h2⟩ := bind1 h0
  cases h2
  cases hk
  exact hh H0 M env σ H pa d1 _ E h1 fun v H' s hv => ⟨d1, Dp_mono vw_le _ _ hv, ⟨_, rfl, q H' s⟩⟩
end
end Dn

namespace Dn
open PySem PySem.Spec PyProof.Rows L2 HT
/-! ### t[::-1] of a tuple -/
section
variable {prog : Program} {w : World} {A : Around} {E : Value → Shared → Prop} {s : Shared}
theorem sliceApplied_rev {sl : Addr} {vl vu vs : Value} {n : Nat} {Q : Int × Int × Nat → Shared → Prop} (hs : s.heap.IsSliceOf sl vl vu vs) (pl : IsPart vl none) (pu : IsPart vu none) (ps : IsPart vs (some (-1)))
    (h : Q ((n : Int) - 1, -1, n) s) : wpAny (model prog w) A (Builtin.Slice.sliceApplied (.ref sl) (pure (n : Int))) Q E s := by
  obtain ⟨os, hos, hcs, hds⟩ := id hs
  have pick : Builtin.Slice.slicePlaces ((n : Int) - 1) (-1) (-1) = n := by
    unfold Builtin.Slice.slicePlaces
    rw [if_neg (by decide)]
    by_cases hn : n = 0
    · subst hn; rfl
    · rw [if_pos (by omega), show (- -1 : Int) = 1 by decide, Int.ediv_one]; omega
  unfold Builtin.Slice.sliceApplied Builtin.Slice.sliceFields
  refine wpAny_bind (wpAny_bind (wpAny_field hos hds (x := vl) rfl (wpAny_bind (wpAny_field hos hds (x := vu) rfl (wpAny_bind (wpAny_field hos hds (x := vs) rfl (wpAny_pure ?_)))))))
  refine wpAny_bind (slicePart_ ps ?_)
  show wpAny _ _ (if ((-1 : Int) == 0) = true then _ else _) _ _ s
  rw [if_neg (by decide)]
  refine wpAny_bind (slicePart_ pl (wpAny_bind (slicePart_ pu (wpAny_bind (wpAny_pure ?_)))))
  show wpAny _ _ (pure (((n : Int) - 1, (-1 : Int), Builtin.Slice.slicePlaces ((n : Int) - 1) (-1) (-1)) : Int × Int × Nat)) _ _ s
  rw [pick]
  exact wpAny_pure h
theorem fm_congr {α β : Type} {f g : α → Option β} : ∀ l : List α, (∀ x ∈ l, f x = g x) → l.filterMap f = l.filterMap g
  | [], _ => rfl
  | x :: l, h => by
    have ih := fm_congr l (fun y hy => h y (List.mem_cons_of_mem _ hy))
    rw [List.filterMap_cons, List.filterMap_cons, h x List.mem_cons_self, ih]
theorem pick_rev (xs : Array Value) : ((List.range xs.size).filterMap fun (m : Nat) => xs[(((xs.size : Int) - 1) + (m : Int) * (-1)).toNat]?).toArray = xs.toList.reverse.toArray := by
  have e : (List.range xs.size).filterMap (fun (m : Nat) => xs[(((xs.size : Int) - 1) + (m : Int) * (-1)).toNat]?) = ((List.range xs.size).map (fun k => xs.size - 1 - k)).filterMap (xs[·]?) := by
    rw [List.filterMap_map]
    refine fm_congr _ fun m hm => ?_
    have := List.mem_range.mp hm
    show xs[(((xs.size : Int) - 1) + (m : Int) * (-1)).toNat]? = xs[xs.size - 1 - m]?
    rw [show (((xs.size : Int) - 1) + (m : Int) * (-1)).toNat = xs.size - 1 - m by omega]
  rw [e, PySem.W.krv_range, List.filterMap_reverse, PySem.W.krv_all]
theorem getItem_tuple_rev {t sl : Addr} {items : Array Value} {vl vu vs : Value} {Q : Value → Shared → Prop} (ht : IsTup s.heap t items) (hs : s.heap.IsSliceOf sl vl vu vs) (pl : IsPart vl none) (pu : IsPart vu none) (ps : IsPart vs (some (-1)))
    (h : Q (.ref s.heap.objs.size) { s with heap := s.heap.push { cls := .type "tuple", data := .seq items.toList.reverse.toArray } })
    (hsz : items.size ≤ sizeLine) : wpAny (model prog w) A (getItem (.ref t) (.ref sl)) Q E s := by
  have htake : sizeOk (.seq items.toList.reverse.toArray) := by
    show items.toList.reverse.toArray.size ≤ sizeLine
    rw [List.size_toArray, List.length_reverse, Array.length_toList]; exact hsz
  obtain ⟨os, hos, hcs, hds⟩ := id hs
  have hTs : s.TypeIs (.ref sl) "slice" := ⟨os, hos, hcs⟩
  unfold getItem
  try with_reducible refine wpAny_holding ?_
  first | refine wpAny_bind (wpAny_pure ?_) | skip
  refine wpAny_bind (wpAny_sequenceKey ht.typeIs (by decide) ?_)
  refine wpAny_bind (wpAny_callSpecial?_slot (name := Str.ofString "__getitem__") ht.typeIs PyProof.Rows.slot_tuple_getitem
    (wpAny_call_entry PyProof.Rows.slot_tuple_getitem ht.typeIs entry_tuple_getitem ?_ (args_tuple_getitem _ _)))
  show wpAny _ _ (Builtin.Tuple.tupleItemsOf (.ref t) >>= _) _ _ s
  refine wpAny_bind (tupleItemsOf_ ht ?_)
  refine wpAny_bind (wpAny_typeOf hTs ?_)
  rw [if_pos (by decide)]
  refine wpAny_bind (sliceApplied_rev hs pl pu ps ?_)
  have hno : ¬ ((((items.size : Int) - 1) == 0 && (-1 : Int) == 1 && items.size == items.size) = true) := by
    intro q
    rw [Bool.and_eq_true, Bool.and_eq_true] at q
    exact absurd (eq_of_beq q.1.2) (by decide)
  show wpAny _ _ (if (((items.size : Int) - 1) == 0 && (-1 : Int) == 1 && items.size == items.size) = true then _ else _) _ _ s
  rw [if_neg hno, pick_rev]
  first
    | exact wpAny_bind (m := Builtin.Tuple.tupleExact _) (wpAny_newObj_type (wpAny_pure ⟨_, rfl, wpAny_pure h⟩) htake)
    | exact wpAny_bind (m := Builtin.Tuple.tupleExact _) (wpAny_newObj_type (wpAny_bind (wpAny_pure (wpAny_pure ⟨_, rfl, wpAny_pure h⟩))) htake)
    | exact wpAny_bind (wpAny_bind (m := Builtin.Tuple.tupleExact _) (wpAny_newObj_type (wpAny_pure (wpAny_pure ⟨_, rfl, wpAny_pure h⟩)) htake))
    | exact wpAny_bind (wpAny_bind (m := Builtin.Tuple.tupleExact _) (wpAny_newObj_type (wpAny_pure ⟨_, rfl, wpAny_pure h⟩) htake))
end
section
variable {X : Cx} {b : Bool} {e : Expr} {te : TE} {ga : GE}
def tRevTp (K : PySem.W.Frag) (te : TE) : TE := fun σ H Q => te σ H fun x H1 => ∃ a xs, x = .ref a ∧ SqT K H1 a xs ∧ ∀ p, H1 p = none → Q (.ref p) (upd H1 p (.tup xs.reverse))
theorem pe_revTp {k : Nat} {p1 p2 p3 pos : Pos} (he : PE X e te) : PE X (.Subscript e (.Slice none none (some (.UnaryOp .USub (.Constant (.int 1) k p1) p2)) p3) pos) (tRevTp X.K te) := by
  refine ⟨fun pins s σ H Q I h => ?_⟩
  refine Subscript_ (thn (he.run pins s σ H _ I h) fun v s1 ⟨x, H1, I1, r1, q1⟩ => ?_)
  obtain ⟨a, xs, ex, hx, q⟩ := q1
  subst ex
  cases r1
  have hst : PO X (some (.UnaryOp .USub (.Constant (.int 1) k p1) p2)) (tPart (tUn (rU fun i => .int (-i)) (tC (.int 1)))) := po_some (pe_un un_neg pe_int)
  refine wpAny_Slice (thn (po_none.run pins s1 σ H1 (fun o H2 => o = none ∧ H2 = H1) I1 ⟨rfl, rfl⟩) fun vl s2 ⟨l, H2, I2, pl, el, e2⟩ => ?_)
  subst el e2
  refine thn (po_none.run pins s2 σ H2 (fun o H3 => o = none ∧ H3 = H2) I2 ⟨rfl, rfl⟩) fun vu s3 ⟨u, H3, I3, pu, eu, e3⟩ => ?_
  subst eu e3
  refine thn (hst.run pins s3 σ H3 (fun o H4 => o = some (-1) ∧ H4 = H3) I3 ⟨1, rfl, -1, rfl, rfl, rfl⟩) fun vs s4 ⟨o, H4, I4, ps, eo, e4⟩ => ?_
  subst eo e4
  have I5 : Inv X pins σ H4 { s4 with heap := s4.heap.push { cls := .type "slice", data := .fields #[vl, vu, vs] } } := I4.kept (t' := s4.toks) fun b ob q => Heap.get?_push_of_some _ q
  obtain ⟨its, r, ht, hz⟩ := I5.tuple hx
  have hlen : its.toArray.size = xs.length := by rw [List.size_toArray]; exact r.length.symm
  show wpAny (model X.prog X.w) X.A (subscriptTail e (.Slice none none (some (.UnaryOp .USub (.Constant (.int 1) k p1) p2)) p3) (.ref a) (.ref s4.heap.objs.size)) (EP X pins σ Q) X.xe { s4 with heap := s4.heap.push { cls := .type "slice", data := .fields #[vl, vu, vs] } }
  refine tail_any (ops := [.ref a, .ref s4.heap.objs.size]) ht.typeIs (PyProof.Rows.slot_tuple_getitem.lookup) ?_ (by with_unfolding_all rfl)
  refine getItem_tuple_rev ht (Heap.IsSliceOf.new _ vl vu vs) pl pu ps ?_ (by rw [hlen]; exact hz)
  refine ⟨.ref _, _, I5.laid (t' := s4.toks) (o := .tup xs.reverse) (fun b ob q => Heap.get?_push_of_some _ q) (Nat.le_refl _) ?_, rfl, q _ (I5.hok.fresh (Nat.le_refl _))⟩
  exact ⟨by rw [List.length_reverse]; exact hz, _, r.reverse, IsTup.new _ _⟩
def vRevT : D → Option D
  | .tuple ds => some (.tuple ds.reverse)
  | _ => none
theorem pd_revT {k : Nat} {p1 p2 p3 pos : Pos} (ha : PEd X b e ga) : PEd X b (.Subscript e (.Slice none none (some (.UnaryOp .USub (.Constant (.int 1) k p1) p2)) p3) pos) (g1 vRevT ga) := by
  obtain ⟨ta, pa', ha⟩ := ha
  refine ⟨_, pe_revTp pa', fun H0 M env σ H pa d Q E h q => ?_⟩
  obtain ⟨d1, h1, h2⟩ := bind1 h
  refine ha H0 M env σ H pa d1 _ E h1 fun x H1 s1 hx => ?_
  have nf := Vs_nf b (E.up s1)
  cases hx with
  | tup hs hall =>
    cases h2
    refine ⟨_, _, rfl, seqT vw_le hs, fun p hp => ?_⟩
    exact q _ _ (s1.trans (same_upd hp)) (.tup (.inl (.inl (vw_of (fun z => nf p z hp) upd_same))) (DpAll_mono (vw_up (same_upd hp)) _ _ (DpAll_rev hall)))
  | _ => cases h2
end
end Dn

namespace Dn
open PySem PySem.Spec PyProof.Rows L2
/-! ### expressions that make a new list -/
def PFd (X : Cx) (e : Expr) (g : GA) : Prop := ∃ t, PE X e t ∧ ∀ (H0 : Hp) (M : Addr → Prop) (env : Env) (σ : Sg) (H : Hp) (pa : Nat → Addr) (ds : List D) (Q : VK), EO X.K H0 M env σ H pa → g env = some ds →
  (∀ p ws H', Same H H' → H p = none → H' p = some (.lst ws) → DpAll X.K (vw (fun a => Hd M env pa a ∨ a = p) H') ws ds → Q (.ref p) H') → t σ H Q
def gCat (ga gb : GE) : GA := fun env => (ga env).bind fun x => (gb env).bind fun y => (asLst x).bind fun xs => (asLst y).bind fun ys => if xs.length + ys.length ≤ lim then some (xs ++ ys) else none
theorem vw_new {P : Addr → Prop} {H : Hp} {p : Addr} {o : HO} (hp : H p = none) : Same (vw P H) (vw (fun a => P a ∨ a = p) (upd H p o)) := fun a u h => by
  obtain ⟨z1, z2⟩ := vw_some h
  have na : a ≠ p := ne_of_none z2 hp
  exact vw_of (fun z => z.elim z1 na) (by rw [upd_ne na]; exact z2)
section
variable {X : Cx} {b : Bool} {e a c : Expr} {es : List Expr} {pos : Pos} {ga gb : GE} {gs : GA}
theorem pf_cat (ha : PEd X false a ga) (hb : PEd X false c gb) : PFd X (.BinOp a .Add c pos) (gCat ga gb) := by
  obtain ⟨ta, pa', ha⟩ := ha
  obtain ⟨tb, pb', hb⟩ := hb
  refine ⟨_, pe_op op_catL pa' pb', fun H0 M env σ H pa ds Q E h q => ?_⟩
  obtain ⟨x, y, h1, h2, h3⟩ := bind2 h
  obtain ⟨xs, ys, h4, h5, h6⟩ := bind2 h3
  have h4 := asLst_some h4
  have h5 := asLst_some h5
  subst h4 h5
  split at h6
  · rename_i hl
    cases h6
    refine two E ha hb h1 h2 fun x y H' s hx hy => ?_
    cases hx with
    | lst hs hall =>
      cases hy with
      | lst hs' hall' =>
        refine ⟨_, _, _, _, rfl, rfl, vw_le.seq hs, vw_le.seq hs', by rw [DpAll_len hall, DpAll_len hall', ← lim_eq]; exact hl, fun p hp => ?_⟩
        exact q p _ _ (s.trans (same_upd hp)) (s.free hp) upd_same (DpAll_mono (vw_new hp) _ _ (DpAll_app hall hall'))
  · cases h6
theorem pf_list {x : Str} {p : Pos} (hg : Gl X x) (hm : X.mg x = none) (hv : bootBuiltins x = some (.type "list")) (ha : PEd X false a ga) (hn : x ≠ "__name__" := by decide) (hdb : (x == ("__debug__" : Str)) = false := by decide)
    (he : starEach [a] X.env = (false, eval a X.env) :: starEach [] X.env := by rfl) (hpl : (backTo pos (starEach [] X.env)).any (·.1) = false := by rfl) : PFd X (.Call (.Name x p) [a] [] pos) (gSeqOf ga) := by
  obtain ⟨ta, pa', ha⟩ := ha
  refine ⟨_, pe_callTy call_list_of hg hm hv (pa_cons pa' pa_nil he) hn hdb he hpl, fun H0 M env σ H pa ds Q E h q => ?_⟩
  obtain ⟨d, h1, h2⟩ := bind1 h
  refine ha H0 M env σ H pa d _ E h1 fun v H' s hv => ?_
  cases hv with
  | lst hs hall =>
    cases h2
    exact ⟨_, _, rfl, .inl (vw_le.seq hs), fun p hp => q p _ _ (s.trans (same_upd hp)) (s.free hp) upd_same (DpAll_mono (vw_new hp) _ _ hall)⟩
  | tup hs hall =>
    cases h2
    exact ⟨_, _, rfl, .inr (seqT vw_le hs), fun p hp => q p _ _ (s.trans (same_upd hp)) (s.free hp) upd_same (DpAll_mono (vw_new hp) _ _ hall)⟩
  | _ => cases h2
theorem sd_ownF {i : Nat} {x : Str} {pos' : Pos} (hN : X.N.Nodup) (hi : X.N[i]? = some x) (hx : Loc X.env.scope x) (he : PFd X e gs) (hs : swapsWith e (some (.Name x pos')) pos.line X.env = pure false := by rfl) (hf : X.fn x = true ∨ X.env.scope.names.lookup x = some .local := by first | exact .inl rfl | exact .inr rfl | assumption) :
    PSd X (.Assign [.Name x pos'] e pos) (sOwn i gs) := by
  obtain ⟨t0, ht, hh⟩ := he
  refine ⟨_, ps_set hN hi hx ht hs hf, fun H0 M env σ H pa o T E h q => ?_⟩
  obtain ⟨ds, h1, h2⟩ := bind1 h
  cases h2
  exact hh H0 M env σ H pa ds _ E h1 fun p ws H' s hp hpl hall => q _ H' _ (E.setOwn2 s hp hpl hall)
/-- a slice of a name's own list -/
def gSliceO (i : Nat) (gl gh : GO) : GE := fun env => (gVarB i env).bind fun x => (gl env).bind fun l => (gh env).bind fun u => (asLst x).bind fun ds => vSlice (.list ds) l u
theorem pd_sliceO {i : Nat} {x : Str} {px p2 : Pos} {lo hi : Option Expr} {gl gh : GO} (hN : X.N[i]? = some x) (hv : Vis X.env.scope x) (hl : POd X lo gl) (hh : POd X hi gh) (hd : (x == ("__debug__" : Str)) = false := by decide) (hcd : (x == ("__classdict__" : Str)) = false := by decide) :
    PEd X b (.Subscript (.Name x px) (.Slice lo hi none p2) pos) (gSliceO i gl gh) := by
  obtain ⟨tl, pl', hl⟩ := hl
  obtain ⟨th, ph', hh⟩ := hh
  refine ⟨_, pe_slice sl_list (pe_var hN hv hd hcd) pl' ph', fun H0 M env σ H pa d Q E h q => ?_⟩
  obtain ⟨d1, h1, h⟩ := bind1 h
  obtain ⟨l, h2, h⟩ := bind1 h
  obtain ⟨u, h3, h⟩ := bind1 h
  have key : ∀ ds : List D, d1 = .list ds → ∃ v, σ[i]? = some (some v) ∧ ∃ a xs, v = .ref a ∧ SqL X.K H a xs ∧ DpAll X.K (vw (Hd M env pa) H) xs ds := fun ds e => by
    subst e
    unfold gVarB lookB at h1
    split at h1
    · rename_i d' hi
      cases h1
      obtain ⟨v, g1, g2⟩ := E.val i _ hi
      cases g2 with
      | lst hs hall => exact ⟨_, g1, _, _, rfl, vw_le.seq hs, hall⟩
    · rename_i ds' hi
      cases h1
      obtain ⟨g1, g2, vs, g3, g4⟩ := E.own i _ hi
      exact ⟨_, g1, _, _, rfl, .inl (.inl g3), g4⟩
    · cases h1
  obtain ⟨ds, h4, h5⟩ := bind1 h
  have h4 := asLst_some h4
  subst h4
  cases h5
  obtain ⟨v, g1, a, xs, rfl, hs, hall⟩ := key ds rfl
  refine ⟨_, g1, hl H0 M env σ H pa l _ E h2 fun H2 s2 => hh H0 M env σ H2 pa u _ (E.up s2) h3 fun H3 s3 => ?_⟩
  have s := s2.trans s3
  have nf := Vs_nf b (E.up s)
  have sub : Same (vw (Hd M env pa) H) (vw (Vs b M env pa) H3) := vw_same s fun a _ _ z => by
    cases b with
    | true => exact .inl z
    | false => exact z
  refine ⟨_, _, rfl, s.seq hs, fun p hp => ?_⟩
  exact q _ _ (s.trans (same_upd hp)) (.lst (.inl (.inl (vw_of (fun z => nf p z hp) upd_same))) (DpAll_mono (sub.trans (vw_up (same_upd hp))) _ _ (DpAll_cut hall l u)))
end
end Dn

namespace Dn
open PySem PySem.Spec PyProof.Rows L2
/-! ### dicts of a name's own, by whole numbers and tuples of such -/
mutual
def keyN : D → Option NestedKey
  | .int i => some (.num i)
  | .tuple ds => (keysN ds).map .tup
  | _ => none
def keysN : List D → Option (List NestedKey)
  | [] => some []
  | d :: ds => (keyN d).bind fun k => (keysN ds).map fun ks => k :: ks
end
mutual
theorem keyN_data : ∀ (d : D) (k : NestedKey), keyN d = some k → k.data = d ∧ numOk k = true
  | .int i, k, h => by
    rw [keyN] at h; cases h; exact ⟨rfl, rfl⟩
  | .tuple ds, k, h => by
    rw [keyN] at h
    obtain ⟨ks, h1, rfl⟩ := Option.map_eq_some_iff.mp h
    obtain ⟨e, n⟩ := keysN_data ds ks h1
    exact ⟨by rw [NestedKey.data, e], by rw [numOk]; exact n⟩
  | .none, k, h => by simp [keyN] at h
  | .bool _, k, h => by simp [keyN] at h
  | .str _, k, h => by simp [keyN] at h
  | .list _, k, h => by simp [keyN] at h
  | .dict _, k, h => by simp [keyN] at h
theorem keysN_data : ∀ (ds : List D) (ks : List NestedKey), keysN ds = some ks → NestedKey.datas ks = ds ∧ numsOk ks = true
  | [], ks, h => by
    rw [keysN] at h; cases h; exact ⟨rfl, rfl⟩
  | d :: ds, ks, h => by
    rw [keysN] at h
    obtain ⟨k, h1, h2⟩ := bind1 h
    obtain ⟨ks', h3, rfl⟩ := Option.map_eq_some_iff.mp h2
    obtain ⟨e1, n1⟩ := keyN_data d k h1
    obtain ⟨e2, n2⟩ := keysN_data ds ks' h3
    exact ⟨by rw [NestedKey.datas, e1, e2], by rw [numsOk, n1, n2]; rfl⟩
end
mutual
theorem reads_nested {h : Heap} : ∀ (k : NestedKey) (v : Value) (as : List Addr), numOk k = true → Reads h v k.data as → NestedIs h k v
  | .num i, v, as, n, r => by
    rw [NestedKey.data] at r
    cases r
    exact .int _ _
  | .tup ks, v, as, n, r => by
    rw [NestedKey.data] at r
    rw [numOk] at n
    cases r with
    | tuple h1 h2 h3 h4 => exact .tup h1 h2 h3 (reads_nesteds ks _ _ n h4)
  | .none, v, as, n, r => by simp [numOk] at n
  | .text _, v, as, n, r => by simp [numOk] at n
theorem reads_nesteds {h : Heap} : ∀ (ks : List NestedKey) (vs : List Value) (as : List Addr), numsOk ks = true → ReadsAll h vs (NestedKey.datas ks) as → NestedAll h ks vs
  | [], vs, as, n, r => by
    rw [NestedKey.datas] at r
    cases r
    exact .nil
  | k :: ks, vs, as, n, r => by
    rw [NestedKey.datas] at r
    rw [numsOk, Bool.and_eq_true] at n
    cases r with
    | cons r1 r2 => exact .cons (reads_nested k _ _ n.1 r1) (reads_nesteds ks _ _ n.2 r2)
end
mutual
theorem hash_num (w w' : World) : ∀ k : NestedKey, numOk k = true → k.hash w = k.hash w'
  | .num i, _ => rfl
  | .tup ks, n => by
    rw [numOk] at n
    rw [NestedKey.hash, NestedKey.hash, hashes_num w w' ks n]
  | .none, n => by simp [numOk] at n
  | .text _, n => by simp [numOk] at n
theorem hashes_num (w w' : World) : ∀ ks : List NestedKey, numsOk ks = true → NestedKey.hashes w ks = NestedKey.hashes w' ks
  | [], _ => rfl
  | k :: ks, n => by
    rw [numsOk, Bool.and_eq_true] at n
    rw [NestedKey.hashes, NestedKey.hashes, hash_num w w' k n.1, hashes_num w w' ks n.2]
end
abbrev EP (vs : List Ent) (xs : List (NestedKey × Addr × Value)) : Prop := Paired (fun (p : Ent) (q : NestedKey × Addr × Value) => p.1 = q.1 ∧ p.2.1 = q.2.1 ∧ RelV p.2.2 q.2.2) vs xs
/-! look-ups -/
def valE : List Ent → NestedKey → Option V
  | [], _ => none
  | p :: r, k => if p.1 = k then some p.2.2 else valE r k
def putE (vs : List Ent) (k : NestedKey) (q : Addr) (v : V) : List Ent := if (valE vs k).isSome then vs.map (fun p => if p.1 = k then (p.1, p.2.1, v) else p) else vs ++ [(k, q, v)]
def atN : List (NestedKey × D) → NestedKey → Option D
  | [], _ => none
  | p :: r, k => if p.1 = k then some p.2 else atN r k
def putN (kvs : List (NestedKey × D)) (k : NestedKey) (d : D) : List (NestedKey × D) := if (atN kvs k).isSome then kvs.map (fun p => if p.1 = k then (p.1, d) else p) else kvs ++ [(k, d)]
theorem atKey_cons (x : NestedKey × Addr × Value) (xs : List (NestedKey × Addr × Value)) (k : NestedKey) : atKey (x :: xs) k = if x.1 = k then some x.2 else atKey xs k := by
  unfold atKey
  by_cases h : x.1 = k
  · simp [h]
  · simp [h]
theorem EP.val : ∀ {vs : List Ent} {xs : List (NestedKey × Addr × Value)}, EP vs xs → ∀ k, (valE vs k = none → atKey xs k = none) ∧ ∀ v, valE vs k = some v → ∃ p, atKey xs k = some p ∧ RelV v p.2
  | _, _, .nil, k => ⟨fun _ => rfl, fun v h => by cases h⟩
  | _, _, .cons (a := a) (b := b) h t, k => by
    obtain ⟨h1, h2, h3⟩ := h
    rw [atKey_cons, ← h1]
    unfold valE
    by_cases e : a.1 = k
    · rw [if_pos e, if_pos e]
      exact ⟨fun z => (by cases z), fun v z => by cases z; exact ⟨_, rfl, h3⟩⟩
    · rw [if_neg e, if_neg e]
      exact EP.val t k
theorem EP.isSome {vs : List Ent} {xs : List (NestedKey × Addr × Value)} (r : EP vs xs) (k : NestedKey) : (valE vs k).isSome = (atKey xs k).isSome := by
  obtain ⟨h1, h2⟩ := r.val k
  cases e : valE vs k with
  | none => rw [h1 e]; rfl
  | some v =>
    obtain ⟨p, hp, _⟩ := h2 v e
    rw [hp]; rfl
theorem EP.len {vs : List Ent} {xs : List (NestedKey × Addr × Value)} (r : EP vs xs) : vs.length = xs.length := Paired.length r
theorem EP.repl {v : V} {u : Value} (rv : RelV v u) (k : NestedKey) : ∀ {vs : List Ent} {xs : List (NestedKey × Addr × Value)}, EP vs xs → EP (vs.map fun p => if p.1 = k then (p.1, p.2.1, v) else p) (xs.map (putAt k u))
  | _, _, .nil => .nil
  | _, _, .cons (a := a) (b := b) h t => by
    rw [List.map_cons, List.map_cons]
    refine .cons ?_ (EP.repl rv k t)
    obtain ⟨h1, h2, h3⟩ := h
    unfold putAt
    by_cases e : a.1 = k
    · rw [if_pos e, if_pos (h1.symm.trans e)]; exact ⟨h1, h2, rv⟩
    · rw [if_neg e, if_neg (fun z => e (h1.trans z))]; exact ⟨h1, h2, h3⟩
theorem EP.put {vs : List Ent} {xs : List (NestedKey × Addr × Value)} (r : EP vs xs) (k : NestedKey) (q : Addr) {v : V} {u : Value} (rv : RelV v u) : EP (putE vs k q v) (storedH xs k q u) := by
  unfold putE storedH
  rw [r.isSome k]
  split
  · exact r.repl rv k
  · exact Paired.snoc r ⟨rfl, rfl, rv⟩
theorem putE_len (vs : List Ent) (k : NestedKey) (q : Addr) (v : V) : (putE vs k q v).length ≤ vs.length + 1 := by
  unfold putE
  split
  · rw [List.length_map]; omega
  · rw [List.length_append, List.length_singleton]; omega
section
variable {K : PySem.W.Frag} {H : Hp}
theorem Ents.len : ∀ {vs : List Ent} {kvs : List (NestedKey × D)}, Ents K H vs kvs → vs.length = kvs.length
  | _, _, .nil => rfl
  | _, _, .cons _ _ _ _ t => by rw [List.length_cons, List.length_cons, Ents.len t]
theorem Ents.val : ∀ {vs : List Ent} {kvs : List (NestedKey × D)}, Ents K H vs kvs → ∀ k, (atN kvs k = none → valE vs k = none) ∧ ∀ d, atN kvs k = some d → ∃ v, valE vs k = some v ∧ Dp K H v d
  | _, _, .nil, k => ⟨fun _ => rfl, fun d h => by cases h⟩
  | _, _, .cons (k := k') _ _ _ h4 t, k => by
    unfold atN valE
    by_cases e : k' = k
    · rw [if_pos e, if_pos e]
      exact ⟨fun z => (by cases z), fun d z => by cases z; exact ⟨_, rfl, h4⟩⟩
    · rw [if_neg e, if_neg e]
      exact Ents.val t k
theorem Ents.isSome {vs : List Ent} {kvs : List (NestedKey × D)} (r : Ents K H vs kvs) (k : NestedKey) : (valE vs k).isSome = (atN kvs k).isSome := by
  obtain ⟨h1, h2⟩ := r.val k
  cases e : atN kvs k with
  | none => rw [h1 e]; rfl
  | some v =>
    obtain ⟨p, hp, _⟩ := h2 v e
    rw [hp]; rfl
theorem Ents.repl {v : V} {d : D} (hv : Dp K H v d) (k : NestedKey) : ∀ {vs : List Ent} {kvs : List (NestedKey × D)}, Ents K H vs kvs → Ents K H (vs.map fun p => if p.1 = k then (p.1, p.2.1, v) else p) (kvs.map fun p => if p.1 = k then (p.1, d) else p)
  | _, _, .nil => .nil
  | _, _, .cons (k := k') h1 h2 h3 h4 t => by
    rw [List.map_cons, List.map_cons]
    by_cases e : k' = k
    · simp only [if_pos e]; exact .cons h1 h2 h3 hv (Ents.repl hv k t)
    · simp only [if_neg e]; exact .cons h1 h2 h3 h4 (Ents.repl hv k t)
theorem Ents.snoc {k : NestedKey} {q : Addr} {v : V} {d : D} (hk : Dp K H (.ref q) k.data) (n : numOk k = true) (dk : k.depth ≤ 8) (hv : Dp K H v d) : ∀ {vs : List Ent} {kvs : List (NestedKey × D)}, Ents K H vs kvs → Ents K H (vs ++ [(k, q, v)]) (kvs ++ [(k, d)])
  | _, _, .nil => .cons hk n dk hv .nil
  | _, _, .cons h1 h2 h3 h4 t => .cons h1 h2 h3 h4 (Ents.snoc hk n dk hv t)
theorem Ents.put {vs : List Ent} {kvs : List (NestedKey × D)} (r : Ents K H vs kvs) {k : NestedKey} {q : Addr} {v : V} {d : D} (hk : Dp K H (.ref q) k.data) (n : numOk k = true) (dk : k.depth ≤ 8) (hv : Dp K H v d) : Ents K H (putE vs k q v) (putN kvs k d) := by
  unfold putE putN
  rw [r.isSome k]
  split
  · exact r.repl hv k
  · exact r.snoc hk n dk hv
end
section
variable {X : Cx} {pins : List (Addr × Obj)} {σ : Sg} {H : Hp} {s : Shared} {a : Addr}
theorem key_is {k : NestedKey} {q : Addr} (I : Inv X pins σ H s) (h : Dp X.K H (.ref q) k.data) (n : numOk k = true) (d : k.depth ≤ 8) : (nestedKind X.prog X.w).is s.heap k q := by
  obtain ⟨as, r⟩ := Dp.reads I _ _ (.ref q) h rfl
  exact ⟨reads_nested k _ as n r, d⟩
theorem dn_of {P : Program} {w : World} {vs : List Ent} {kvs : List (NestedKey × D)} (I : Inv X pins σ H s) (e : H a = some (DkO P w a vs)) (en : Ents X.K H vs kvs) :
    vs.length ≤ sizeLine ∧ (a == sysModules) = false ∧ ∃ xs, EP vs xs ∧ s.heap.DictOfH (nestedKind X.prog X.w) a xs := by
  obtain ⟨⟨z, y, xs, r, o, es, ep, h1, h2, h3, h4, h5⟩, _, _⟩ := (show ObjOk X.prog X.w H s.heap a (DkO P w a vs) from I.hok a _ e)
  have all : ∀ {vs : List Ent} {kvs : List (NestedKey × D)} {xs : List (NestedKey × Addr × Value)}, Ents X.K H vs kvs → EP vs xs → (∀ x ∈ xs, (nestedKind X.prog X.w).is s.heap x.1 x.2.1 ∧ numOk x.1 = true) := by
    intro vs kvs xs en
    induction en generalizing xs with
    | nil => intro r x hx; cases r; cases hx
    | cons g1 g2 g3 g4 t ih =>
      intro r x hx
      cases r with
      | cons h t' =>
        rcases List.mem_cons.mp hx with rfl | hx
        · have e1 := h.1
          have e2 := h.2.1
          simp only at e1 e2
          rw [← e1, ← e2]
          exact ⟨key_is I g1 g2 g3, g2⟩
        · exact ih t' x hx
  have al := all en r
  refine ⟨z, y, xs, r, o, es, ep, h1, h2, h3, ?_, fun x hx => (al x hx).1, h5⟩
  rw [h4]
  refine List.map_congr_left fun x hx => ?_
  show (⟨x.1.hash w, .ref x.2.1, x.2.2⟩ : DictEntry) = ⟨x.1.hash X.w, .ref x.2.1, x.2.2⟩
  rw [hash_num w X.w x.1 (al x hx).2]
theorem dn_new {P : Program} {w : World} {vs : List Ent} {xs : List (NestedKey × Addr × Value)} {h' : Heap} {H' : Hp} (z : vs.length ≤ sizeLine) (y : (a == sysModules) = false) (r : EP vs xs) (dd : h'.DictOfH (nestedKind P w) a xs) : ObjOk P w H' h' a (DkO P w a vs) := by
  obtain ⟨o, es, ep, h1, h2, h3, h4, _, h5⟩ := dd
  exact ⟨⟨z, y, xs, r, o, es, ep, h1, h2, h3, h4, h5⟩, ⟨o, h1⟩, fun g1 g2 ⟨z, y, xs, r, o, es, ep, k1, k2⟩ st => ⟨z, y, xs, r, o, es, ep, st _ k1, k2⟩⟩
theorem dn_type {P : Program} {w : World} {vs : List Ent} (I : Inv X pins σ H s) (e : H a = some (DkO P w a vs)) : s.TypeIs (.ref a) "dict" ∧ (∀ b, Value.ref a = .ref b → ∃ ob, s.heap.get? b = some ob ∧ ob.dict = none) := by
  obtain ⟨⟨z, y, xs, r, o, es, ep, h1, h2, h3, h4, h5⟩, _, _⟩ := (show ObjOk X.prog X.w H s.heap a (DkO P w a vs) from I.hok a _ e)
  refine ⟨⟨o, h1, h2.1⟩, fun b q => ?_⟩
  cases q
  exact ⟨o, h1, h2.2.1⟩
/-- what the dict at a holds at the key y -/
def NGet (K : PySem.W.Frag) (H : Hp) (a : Addr) (y : V) (o : Option V) : Prop := ∃ (P : Program) (w : World) (vs : List Ent) (kvs : List (NestedKey × D)) (k : NestedKey) (q : Addr), H a = some (DkO P w a vs) ∧ Ents K H vs kvs ∧ y = .ref q ∧ Dp K H (.ref q) k.data ∧ numOk k = true ∧ k.depth ≤ 8 ∧ o = valE vs k
/-- the heap behind a[y] = v -/
def NPut (K : PySem.W.Frag) (P : Program) (w : World) (H : Hp) (a : Addr) (y v : V) (H' : Hp) : Prop := ∃ (P' : Program) (w' : World) (vs : List Ent) (kvs : List (NestedKey × D)) (k : NestedKey) (q : Addr), H a = some (DkO P' w' a vs) ∧ Ents K H vs kvs ∧ y = .ref q ∧ Dp K H (.ref q) k.data ∧ numOk k = true ∧ k.depth ≤ 8 ∧ vs.length < sizeLine ∧ H' = upd H a (DkO P w a (putE vs k q v))
theorem room_in1 {A : Around} (hu : A.units + 16 < cLine) : (nestedKind X.prog X.w).room A.in1 := by
  show A.units + 1 + 8 < cLine
  omega
variable {A : Around} {E : Value → Shared → Prop} {y v d : V} {u r : Value} {o : Option V}
theorem n_getItem {Q : Value → Shared → Prop} (hu : A.units + 16 < cLine) (I : Inv X pins σ H s) (g : NGet X.K H a y (some v)) (ry : RelV y u) (h : ∀ w' s', Inv X pins σ H s' → RelV v w' → Q w' s') : wpAny (model X.prog X.w) A (getItem (.ref a) u) Q E s := by
  obtain ⟨P, w, vs, kvs, k, q, e, en, rfl, hk, n, dk, l⟩ := g
  cases (show u = Value.ref q from ry)
  obtain ⟨z, hd, xs, rel, dd⟩ := dn_of I e en
  obtain ⟨p, hp, rp⟩ := (rel.val k).2 v l.symm
  exact wpAny_getItem_heap (room_in1 hu) (key_is I hk n dk) dd hp (h _ _ (I.tok _) rp)
theorem n_get2 {Q : Value → Shared → Prop} (hu : A.units + 16 < cLine) (I : Inv X pins σ H s) (g : NGet X.K H a y o) (ry : RelV y u) (rd : RelV d r) (h : ∀ w' s', Inv X pins σ H s' → RelV (o.getD d) w' → Q w' s') :
    wpAny (model X.prog X.w) A (call (.builtin "dict.get") [.ref a, u, r]) Q E s := by
  obtain ⟨P, w, vs, kvs, k, q, e, en, rfl, hk, n, dk, rfl⟩ := g
  cases (show u = Value.ref q from ry)
  obtain ⟨z, hd, xs, rel, dd⟩ := dn_of I e en
  refine call_meetsIn PySem.F.slot_dict_get dd.typeIs PySem.F.entry_dict_get (PySem.F.args_dict_get_3 _ _ _) (meetsH_dict_get_default (nestedKind X.prog X.w) a q hd r) ⟨room_in1 hu, k, xs, key_is I hk n dk, dd, h _ _ (I.tok _) ?_⟩
  obtain ⟨h1, h2⟩ := rel.val k
  cases l : valE vs k with
  | none => rw [h1 l]; exact rd
  | some v =>
    obtain ⟨p, hp, rp⟩ := h2 v l
    rw [hp]; exact rp
theorem n_setItem {H' : Hp} {Q : Unit → Shared → Prop} (hu : A.units + 16 < cLine) (I : Inv X pins σ H s) (g : NPut X.K X.prog X.w H a y v H') (ry : RelV y u) (rv : RelV v r) (h : ∀ s', Inv X pins σ H' s' → Q () s') :
    wpAny (model X.prog X.w) A (setItem (.ref a) u r) Q E s := by
  obtain ⟨P, w, vs, kvs, k, q, e, en, rfl, hk, n, dk, l, rfl⟩ := g
  cases (show u = Value.ref q from ry)
  obtain ⟨z, hd, xs, rel, dd⟩ := dn_of I e en
  have hz : xs.length ≤ sizeLine := by rw [← rel.len]; exact z
  have hl : (putE vs k q v).length ≤ sizeLine := by have := putE_len vs k q v; omega
  refine wpAny_setItem_heap (hsz := hz) (room_in1 hu) (key_is I hk n dk) dd fun h' dd' hs => h _ ?_
  obtain ⟨o', es, ep, hq, _⟩ := id dd'
  exact d_write I (by rw [e]; exact True.intro) hs ⟨o', hq⟩ (dn_new hl hd (rel.put k q rv) dd')
end
section
variable {X : Cx} {o i e f value : Expr} {pos pos' apos cpos : Pos} {td ty tx tv : TE}
def tNIx (K : PySem.W.Frag) (td ty : TE) : TE := fun σ H Q => td σ H fun x H1 => ty σ H1 fun y H2 => ∃ a v, x = .ref a ∧ NGet K H2 a y (some v) ∧ Q v H2
def IsN (H : Hp) (a : Addr) : Prop := ∃ P w vs, H a = some (DkO P w a vs)
def tNGet2 (K : PySem.W.Frag) (td ty tx : TE) : TE := fun σ H Q => td σ H fun x H1 => ∃ a, x = .ref a ∧ IsN H1 a ∧ ty σ H1 fun y H2 => tx σ H2 fun z H3 => ∃ o, NGet K H3 a y o ∧ Q (o.getD z) H3
def sNPutT (X : Cx) (td ty tv : TE) : TS := fun D σ H => tv σ H fun v H1 => td σ H1 fun x H2 => ty σ H2 fun y H3 => ∃ a H4, x = .ref a ∧ NPut X.K X.prog X.w H3 a y v H4 ∧ D.nx σ H4
theorem pe_nix (hu : X.A.units + 16 < cLine) (ho : PE X o td) (hi : PE X i ty) (hs : NoSl i) : PE X (.Subscript o i pos) (tNIx X.K td ty) := by
  refine ⟨fun pins s σ H Q I h => ?_⟩
  refine subD_of PySem.F.slot_dict_getitem.lookup hs (thn (ho.run pins s σ H _ I h) fun u s1 ⟨x, H1, I1, rx, q1⟩ => thn (hi.run pins s1 σ H1 _ I1 q1) fun iv s2 ⟨y, H2, I2, ry, a, v, ex, g, q2⟩ => ?_)
  subst ex
  obtain rfl : u = Value.ref a := rx
  obtain ⟨P, w, vs, kvs, k, q, e, _⟩ := id g
  exact ⟨(dn_type I2 e).1, n_getItem hu I2 g ry fun w' s3 I3 rw' => ⟨v, H2, I3, rw', q2⟩⟩
theorem pe_nget2 (hu : X.A.units + 16 < cLine) (ho : PE X o td) (he : PE X e ty) (hf : PE X f tx) (m : M2 X o "get" apos e f cpos) : PE X (.Call (.Attribute o "get" apos) [e, f] [] cpos) (tNGet2 X.K td ty tx) := by
  refine ⟨fun pins s σ H Q I h => ?_⟩
  refine wpAny_Call_method m.base m.few m.line PySem.F.plainAttrs_dict PySem.F.slot_dict_get PySem.F.type_dict_get (thn (ho.run pins s σ H _ I h) fun u s1 ⟨x, H1, I1, rx, a, ex, ⟨P, w, vs, d⟩, q1⟩ => ?_)
  subst ex
  obtain rfl : u = Value.ref a := rx
  obtain ⟨t1, t2⟩ := dn_type I1 d
  refine ⟨t1, t2, ?_⟩
  rw [m.trees]
  refine Calls.callWith_builtin rfl (Calls.evalArgs_plain (Calls.spliced_cons (thn (he.run pins s1 σ H1 _ I1 q1) fun iv s2 ⟨y, H2, I2, ry, q2⟩ =>
    Calls.spliced_cons (thn (hf.run pins s2 σ H2 _ I2 q2) fun fv s3 ⟨z, H3, I3, rz, ov, g, q3⟩ => Calls.spliced_nil ?_))))
  exact n_get2 hu I3 g ry rz fun w' s4 I4 rw' => ⟨_, H3, I4, rw', q3⟩
theorem ps_nput (hu : X.A.units + 16 < cLine) (ho : PE X o td) (hi : PE X i ty) (hv : PE X value tv) (hs : swapsWith value (some (.Subscript o i pos')) pos.line X.env = pure false) :
    PS X (.Assign [.Subscript o i pos'] value pos) (sNPutT X td ty tv) := by
  refine ⟨fun pins s σ H D I h => ?_⟩
  refine wpAny_Assign_Subscript (thn (hv.run pins s σ H _ I h) fun r s1 ⟨v, H1, I1, rv, q1⟩ => thn (ho.run pins s1 σ H1 _ I1 q1) fun u s2 ⟨x, H2, I2, rx, q2⟩ => thn (hi.run pins s2 σ H2 _ I2 q2) fun iv s3 ⟨y, H3, I3, ry, a, H4, ex, g, q3⟩ => ?_) hs
  subst ex
  obtain rfl : u = Value.ref a := rx
  exact n_setItem hu I3 g ry rv fun s4 I4 => ⟨σ, H4, I4, q3⟩
def tNNew (P : Program) (w : World) : TE := fun _ H Q => ∀ p, H p = none → Q (.ref p) (upd H p (DkO P w p []))
theorem pe_nnew : PE X (.Dict [] [] pos) (tNNew X.prog X.w) := ⟨fun pins s σ H Q I h =>
  wpAny_Dict_empty ⟨.ref s.heap.objs.size, _, I.laid (a := s.heap.objs.size) (o := DkO X.prog X.w s.heap.objs.size []) (t' := s.toks) (fun _ _ q => Heap.get?_push_of_some _ q) (Nat.le_refl _) (dn_new (xs := []) (Nat.zero_le _) (beq_eq_false_iff_ne.mpr (Ne.symm (Nat.ne_of_lt I.big))) .nil (Heap.DictOfH.new s.heap)), rfl, h _ (I.hok.fresh (Nat.le_refl _))⟩⟩
end
/-! ### readings -/
def isTupK : NestedKey → Bool
  | .tup _ => true
  | _ => false
def keyT (d : D) : Option NestedKey := (keyN d).bind fun k => if isTupK k && decide (k.depth ≤ 8) then some k else none
theorem keyT_some {d : D} {k : NestedKey} (h : keyT d = some k) : keyN d = some k ∧ k.depth ≤ 8 ∧ ∃ ds, d = .tuple ds := by
  obtain ⟨k', h1, h2⟩ := bind1 h
  split at h2
  · rename_i hk
    cases h2
    rw [Bool.and_eq_true] at hk
    refine ⟨h1, of_decide_eq_true hk.2, ?_⟩
    obtain ⟨e, n⟩ := keyN_data d k h1
    cases k with
    | tup ks => rw [NestedKey.data] at e; exact ⟨_, e.symm⟩
    | _ => exact absurd hk.1 Bool.false_ne_true
  · cases h2
theorem keyT_ref {K : PySem.W.Frag} {H : Hp} {d : D} {k : NestedKey} {v : V} (h : keyT d = some k) (hv : Dp K H v d) : ∃ q, v = .ref q ∧ Dp K H (.ref q) k.data ∧ numOk k = true ∧ k.depth ≤ 8 := by
  obtain ⟨h1, h2, ds, rfl⟩ := keyT_some h
  obtain ⟨e, n⟩ := keyN_data _ _ h1
  cases hv with
  | tup hs ha => exact ⟨_, rfl, by rw [e]; exact .tup hs ha, n, h2⟩
def dnIx : Option Slot → D → Option D
  | some (.ow (.dn kvs)), y => (keyT y).bind (atN kvs)
  | _, _ => none
theorem dnIx_some {o : Option Slot} {y z : D} (h : dnIx o y = some z) : ∃ kvs k, o = some (.ow (.dn kvs)) ∧ keyT y = some k ∧ atN kvs k = some z := by
  unfold dnIx at h
  split at h
  · obtain ⟨k, h1, h2⟩ := bind1 h
    exact ⟨_, k, rfl, h1, h2⟩
  · cases h
def gNIx (i : Nat) (a : GE) : GE := fun env => (a env).bind fun y => dnIx env[i]? y
def dnGet : Option Slot → D → D → Option D
  | some (.ow (.dn kvs)), y, z => (keyT y).bind fun k => some ((atN kvs k).getD z)
  | _, _, _ => none
theorem dnGet_some {o : Option Slot} {y u z : D} (h : dnGet o y u = some z) : ∃ kvs k, o = some (.ow (.dn kvs)) ∧ keyT y = some k ∧ z = (atN kvs k).getD u := by
  unfold dnGet at h
  split at h
  · obtain ⟨k, h1, h2⟩ := bind1 h
    exact ⟨_, k, rfl, h1, (Option.some.inj h2).symm⟩
  · cases h
def gNGet (i : Nat) (a c : GE) : GE := fun env => (a env).bind fun y => (c env).bind fun z => dnGet env[i]? y z
def dnSet (env : Env) (i : Nat) : Option Slot → D → D → Option Out
  | some (.ow (.dn kvs)), y, d => (keyT y).bind fun k => if kvs.length < lim then some (.nx (env.set i (.ow (.dn (putN kvs k d))))) else none
  | _, _, _ => none
theorem dnSet_some {env : Env} {i : Nat} {o : Option Slot} {y d : D} {r : Out} (h : dnSet env i o y d = some r) : ∃ kvs k, o = some (.ow (.dn kvs)) ∧ keyT y = some k ∧ kvs.length < lim ∧ r = .nx (env.set i (.ow (.dn (putN kvs k d)))) := by
  unfold dnSet at h
  split at h
  · obtain ⟨k, h1, h2⟩ := bind1 h
    split at h2
    · rename_i hl
      cases h2
      exact ⟨_, k, rfl, h1, hl, rfl⟩
    · cases h2
  · cases h
def sNSet (i : Nat) (a v : GE) : GS := fun env => (v env).bind fun d => (a env).bind fun y => dnSet env i env[i]? y d
def sNNew (i : Nat) : GS := fun env => some (.nx (env.set i (.ow (.dn []))))
theorem EO.dn {K : PySem.W.Frag} {H0 H : Hp} {M : Addr → Prop} {env : Env} {σ : Sg} {pa : Nat → Addr} (E : EO K H0 M env σ H pa) {i : Nat} {kvs : List (NestedKey × D)} (h : env[i]? = some (.ow (.dn kvs))) :
    σ[i]? = some (some (.ref (pa i))) ∧ ∃ P w vs, H (pa i) = some (DkO P w (pa i) vs) ∧ Ents K (vw (Hd M env pa) H) vs kvs := by
  obtain ⟨h1, _, o, h3, h4⟩ := E.ow i _ h
  generalize hc : Cont.dn kvs = c at h4
  cases h4 with
  | dn h4 => cases hc; exact ⟨h1, _, _, _, h3, h4⟩
  | _ => cases hc
section
variable {X : Cx} {b : Bool} {x : Str} {p pos apos px : Pos} {a c e f v : Expr} {ga gb gd : GE} {i : Nat}
theorem pd_nix (hu : X.A.units + 16 < cLine) (hN : X.N[i]? = some x) (hv : Vis X.env.scope x) (hc : PEd X b c gb) (hs : NoSl c) (hd : (x == ("__debug__" : Str)) = false := by decide) (hcd : (x == ("__classdict__" : Str)) = false := by decide) : PEd X b (.Subscript (.Name x p) c pos) (gNIx i gb) := by
  obtain ⟨tb, pb', hb⟩ := hc
  refine ⟨_, pe_nix hu (pe_var hN hv hd hcd) pb' hs, fun H0 M env σ H pa d Q E h q => ?_⟩
  obtain ⟨y, h1, h2⟩ := bind1 h
  obtain ⟨kvs, k, g1, g2, g3⟩ := dnIx_some h2
  obtain ⟨e1, P, w, vs, e2, e3⟩ := E.dn g1
  refine ⟨_, e1, hb H0 M env σ H pa _ _ E h1 fun y' H' s hy => ?_⟩
  obtain ⟨qq, rfl, k1, k2, k3⟩ := keyT_ref g2 hy
  obtain ⟨v, w1, w2⟩ := (e3.val k).2 _ g3
  have up : Same (vw (Hd M env pa) H) (vw (Hd M env pa) H') := vw_up s
  refine ⟨pa i, v, rfl, ⟨P, w, vs, kvs, k, qq, s _ _ e2, (e3.mono up).mono vw_le, rfl, Dp_mono vw_le _ _ k1, k2, k3, w1.symm⟩, q v H' s ?_⟩
  refine Dp_mono (up.trans (vw_same (Same.refl _) fun a o _ z => ?_)) _ _ w2
  cases b
  · exact z
  · exact .inl z
theorem pd_nget (hu : X.A.units + 16 < cLine) (hN : X.N[i]? = some x) (hv : Vis X.env.scope x) (hc : PEd X b e gb) (hf : PEd X b f gd) (m : M2 X (.Name x p) "get" apos e f pos) (hd : (x == ("__debug__" : Str)) = false := by decide) (hcd : (x == ("__classdict__" : Str)) = false := by decide) : PEd X b (.Call (.Attribute (.Name x p) "get" apos) [e, f] [] pos) (gNGet i gb gd) := by
  obtain ⟨tb, pb', hb⟩ := hc
  obtain ⟨tf, pf', hf⟩ := hf
  refine ⟨_, pe_nget2 hu (pe_var hN hv hd hcd) pb' pf' m, fun H0 M env σ H pa d Q E h q => ?_⟩
  obtain ⟨y, h1, h2⟩ := bind1 h
  obtain ⟨z, h3, h4⟩ := bind1 h2
  obtain ⟨kvs, k, g1, g2, rfl⟩ := dnGet_some h4
  obtain ⟨e1, P, w, vs, e2, e3⟩ := E.dn g1
  refine ⟨_, e1, pa i, rfl, ⟨P, w, vs, e2⟩, hb H0 M env σ H pa _ _ E h1 fun y' H' s hy => hf H0 M env σ H' pa _ _ (E.up s) h3 fun z' H'' s' hz => ?_⟩
  obtain ⟨qq, rfl, k1, k2, k3⟩ := keyT_ref g2 hy
  have up : Same (vw (Hd M env pa) H) (vw (Hd M env pa) H'') := vw_up (s.trans s')
  refine ⟨valE vs k, ⟨P, w, vs, kvs, k, qq, s' _ _ (s _ _ e2), (e3.mono up).mono vw_le, rfl, Dp_mono (vw_le.trans s') _ _ k1, k2, k3, rfl⟩, ?_⟩
  obtain ⟨w1, w2⟩ := e3.val k
  cases l : atN kvs k with
  | none =>
    rw [w1 l]
    rw [l] at q
    exact q _ H'' (s.trans s') hz
  | some d' =>
    obtain ⟨v, l1, l2⟩ := w2 d' l
    rw [l1]
    rw [l] at q
    refine q v H'' (s.trans s') (Dp_mono (up.trans (vw_same (Same.refl _) fun a o _ z => ?_)) _ _ l2)
    cases b
    · exact z
    · exact .inl z
theorem sd_nset (hu : X.A.units + 16 < cLine) (hN : X.N[i]? = some x) (hv : Vis X.env.scope x) (hc : PEd X false c gb) (he : PEd X false e ga) (hs : swapsWith e (some (.Subscript (.Name x px) c p)) pos.line X.env = pure false := by rfl) (hd : (x == ("__debug__" : Str)) = false := by decide) (hcd : (x == ("__classdict__" : Str)) = false := by decide) :
    PSd X (.Assign [.Subscript (.Name x px) c p] e pos) (sNSet i gb ga) := by
  obtain ⟨tb, pb', hb⟩ := hc
  obtain ⟨ta, pa', ha⟩ := he
  refine ⟨_, ps_nput hu (pe_var hN hv hd hcd) pb' pa' hs, fun H0 M env σ H pa o T E h q => ?_⟩
  obtain ⟨d, h1, h2⟩ := bind1 h
  obtain ⟨y, h3, h4⟩ := bind1 h2
  obtain ⟨kvs, k, g1, g2, hl, rfl⟩ := dnSet_some h4
  refine ha H0 M env σ H pa _ _ E h1 fun v H1 s hv1 => ?_
  have E1 := E.up s
  obtain ⟨e1, P, w, vs, e2, e3⟩ := E1.dn g1
  refine ⟨_, e1, hb H0 M env σ H1 pa _ _ E1 h3 fun y' H' s' hy => ?_⟩
  obtain ⟨qq, rfl, k1, k2, k3⟩ := keyT_ref g2 hy
  have e4 := e3.mono (vw_up s')
  refine ⟨pa i, _, rfl, ⟨P, w, vs, kvs, k, qq, s' _ _ e2, e4.mono vw_le, rfl, Dp_mono vw_le _ _ k1, k2, k3, by rw [e3.len, ← lim_eq]; exact hl, rfl⟩, ?_⟩
  exact q σ _ pa ((E1.up s').writeC g1 (.dn (e4.put k1 k2 k3 (Dp_mono (vw_up s') _ _ hv1))))
theorem sd_nnew {dpos : Pos} (hN : X.N.Nodup) (hi : X.N[i]? = some x) (hx : Loc X.env.scope x) (hs : swapsWith (.Dict [] [] dpos) (some (.Name x px)) pos.line X.env = pure false := by rfl) (hf : X.fn x = true ∨ X.env.scope.names.lookup x = some .local := by first | exact .inl rfl | exact .inr rfl | assumption) : PSd X (.Assign [.Name x px] (.Dict [] [] dpos) pos) (sNNew i) := by
  refine ⟨_, ps_set hN hi hx pe_nnew hs hf, fun H0 M env σ H pa o T E h q => ?_⟩
  cases h
  intro p hp
  exact q _ _ _ (E.setOw hp (.dn .nil))
end
end Dn

namespace Dn
open PySem PySem.Spec PyProof.Rows L2
/-! ### sorted -/
def tupNE : D → Bool
  | .tuple (_ :: _) => true
  | _ => false
def noTup : D → Bool
  | .none => false
  | .tuple _ => false
  | _ => true
def sortOk (ds : List D) : Bool := decide (ds.length ≤ 100000) && (ds.all (fun d => ds.all fun e => PySem.W.alike d e)) && (ds.all tupNE || ds.all noTup) && ds.all (fun d => decide (d.depth ≤ 40))
def srt (ds : List D) : List D := ds.mergeSort (PySem.W.dataLe false id)
def vSorted : D → Option D
  | .list ds => if sortOk ds then some (.list (srt ds)) else none
  | _ => none
theorem sortOk_of {ds : List D} (h : sortOk ds = true) : ds.length ≤ 100000 ∧ PySem.W.AllAlike ds ∧ PySem.W.Sortable ds ∧ ∀ d ∈ ds, d.depth ≤ 40 := by
  unfold sortOk at h
  simp only [Bool.and_eq_true, Bool.or_eq_true, List.all_eq_true, decide_eq_true_eq] at h
  obtain ⟨⟨⟨h1, h2⟩, h3⟩, h4⟩ := h
  refine ⟨h1, fun d hd e he => h2 d hd e he, ?_, h4⟩
  rcases h3 with h3 | h3
  · refine .inl fun d hd => ?_
    have := h3 d hd
    unfold tupNE at this
    split at this
    · exact ⟨_, _, rfl⟩
    · cases this
  · refine .inr fun d hd => ?_
    have := h3 d hd
    refine ⟨fun z => ?_, fun xs z => ?_⟩
    · rw [z] at this; cases this
    · rw [z] at this; cases this
abbrev VD := V × D
abbrev leV : VD → VD → Bool := PySem.W.dataLe false (fun b : VD => b.2)
theorem srt_map (bs : List VD) : (bs.mergeSort leV).map (·.2) = srt (bs.map (·.2)) :=
  PySem.W.sort_maps (fun b : VD => b.2) (s := PySem.W.dataLe false id) fun _ _ _ _ => rfl
theorem DpAll_pairs {K : PySem.W.Frag} {H : Hp} : ∀ {bs : List VD}, (∀ b ∈ bs, Dp K H b.1 b.2) → DpAll K H (bs.map (·.1)) (bs.map (·.2))
  | [], _ => .nil
  | b :: bs, h => .cons (h b List.mem_cons_self) (DpAll_pairs fun c hc => h c (List.mem_cons_of_mem _ hc))
theorem zip_fst {K : PySem.W.Frag} {H : Hp} : ∀ {vs : List V} {ds : List D}, DpAll K H vs ds → (vs.zip ds).map (·.1) = vs ∧ (vs.zip ds).map (·.2) = ds ∧ ∀ b ∈ vs.zip ds, Dp K H b.1 b.2
  | _, _, .nil => ⟨rfl, rfl, fun b hb => by cases hb⟩
  | _, _, .cons h t => by
    obtain ⟨e1, e2, e3⟩ := zip_fst t
    refine ⟨by rw [List.zip_cons_cons, List.map_cons, e1], by rw [List.zip_cons_cons, List.map_cons, e2], fun b hb => ?_⟩
    rcases List.mem_cons.mp hb with rfl | hb
    · exact h
    · exact e3 b hb
theorem each_zip {X : Cx} {pins : List (Addr × Obj)} {σ : Sg} {H : Hp} {s : Shared} (I : Inv X pins σ H s) : ∀ {vs : List V} {its : List Value} {ds : List D}, Vals vs its → DpAll X.K H vs ds → PySem.W.EachIs (fun (u : Value) (b : VD) => RelV b.1 u) its (vs.zip ds) ∧ PySem.W.EachIs (fun (u : Value) (b : VD) => ∃ as, Reads s.heap u b.2 as) its (vs.zip ds)
  | _, _, _, .nil, .nil => ⟨.nil, .nil⟩
  | _, _, _, .cons r t, .cons h t' => by
    obtain ⟨e1, e2⟩ := each_zip I t t'
    exact ⟨.cons r e1, .cons (Dp.reads I _ _ _ h r) e2⟩
theorem each_vals : ∀ {out : List Value} {bs : List VD}, PySem.W.EachIs (fun (u : Value) (b : VD) => RelV b.1 u) out bs → Vals (bs.map (·.1)) out
  | _, _, .nil => .nil
  | _, _, .cons h t => .cons h (each_vals t)
section
variable {X : Cx}
def rSortedData (K : PySem.W.Frag) : List V → Hp → VK → Prop := fun xs H Q => ∃ (a : Addr) (vs : List V) (ds : List D), xs = [.ref a] ∧ SqL K H a vs ∧ DpAll K H vs ds ∧ sortOk ds = true ∧ ∀ p, H p = none → Q (.ref p) (upd H p (.lst (((vs.zip ds).mergeSort leV).map (·.1))))
theorem call_sortedData (hu : X.A.units + 64 < cLine) : CallR X (.builtin "sorted") (rSortedData X.K) := by
  intro pins s σ H xs us Q I r h
  obtain ⟨a, vs, ds, rfl, hx, hall, ok, q⟩ := h
  obtain ⟨u, rfl, rx⟩ := vals1 r
  cases rx
  obtain ⟨o1, o2, o3, o4⟩ := sortOk_of ok
  obtain ⟨its, rv, p1, hz⟩ := I.list hx
  obtain ⟨e1, e2⟩ := each_zip I rv hall
  obtain ⟨z1, z2, z3⟩ := zip_fst hall
  have lb : (vs.zip ds).length = ds.length := by rw [← List.length_map (f := fun b : VD => b.2), z2]
  have md : ∀ b ∈ vs.zip ds, b.2 ∈ ds := fun b hb => by
    have : b.2 ∈ (vs.zip ds).map (·.2) := List.mem_map.mpr ⟨b, hb, rfl⟩
    rw [z2] at this; exact this
  refine PySem.W.sorted_data (enc := fun b : VD => b.2) (R := fun (u : Value) (b : VD) => RelV b.1 u) p1.isList e1 e2 (by rw [z2]; exact o2) (by rw [z2]; exact o3) (by rw [lb, sizeLine_eq]; omega) (fun b hb => ?_) fun out hl ho => ?_
  · have h := o4 b.2 (md b hb)
    show X.A.units + 2 + b.2.depth < cLine
    omega
  · obtain ⟨e, he⟩ := PyProof.Rows.sortedAll_at s.heap its out.toArray
    refine ⟨.ref (s.heap.objs.size + 1), _, I.laid (t' := s.toks) (o := .lst (((vs.zip ds).mergeSort leV).map (·.1))) (fun b u hb => PyProof.Rows.sortedAll_old hb) (Nat.le_succ _) ?_, rfl, q _ (I.hok.fresh (Nat.le_succ _))⟩
    exact ⟨by rw [List.length_map, List.length_mergeSort, lb, sizeLine_eq]; omega, out, e, each_vals ho, he⟩
theorem ca_sortedData {K : PySem.W.Frag} : CaD K (rSortedData K) (l1 vSorted) := by
  intro P H xs ds z Q nf hx h q
  cases hx with
  | nil => cases h
  | cons hv t =>
    cases t with
    | cons _ _ => cases h
    | nil =>
      rename_i v d
      cases hv with
      | @lst a vs ds hs hall =>
        have h : (if sortOk ds then some (PyData.list (srt ds)) else none) = some z := h
        split at h
        · rename_i ok
          cases h
          obtain ⟨z1, z2, z3⟩ := zip_fst hall
          refine ⟨a, vs, ds, rfl, vw_le.seq hs, DpAll_mono vw_le _ _ hall, ok, fun p hp => q _ _ (same_upd hp) (.lst (.inl (.inl (vw_of (fun z => nf p z hp) upd_same))) ?_)⟩
          rw [← z2, ← srt_map, z2]
          refine DpAll_mono (vw_up (same_upd hp)) _ _ (DpAll_pairs fun b hb => ?_)
          exact z3 b ((List.mergeSort_perm _ _).mem_iff.mp hb)
        · cases h
      | _ => cases h
/-! sorted(d), list(d) -/
mutual
theorem reads_num {h : Heap} : ∀ (k : NestedKey) (v : Value) (as : List Addr), numOk k = true → Reads h v k.data as → as = []
  | .num i, v, as, n, r => by
    rw [NestedKey.data] at r
    cases r
    rfl
  | .tup ks, v, as, n, r => by
    rw [NestedKey.data] at r
    rw [numOk] at n
    cases r with
    | tuple h1 h2 h3 h4 => exact reads_nums ks _ _ n h4
  | .none, v, as, n, r => by simp [numOk] at n
  | .text _, v, as, n, r => by simp [numOk] at n
theorem reads_nums {h : Heap} : ∀ (ks : List NestedKey) (vs : List Value) (as : List Addr), numsOk ks = true → ReadsAll h vs (NestedKey.datas ks) as → as = []
  | [], vs, as, n, r => by
    rw [NestedKey.datas] at r
    cases r
    rfl
  | k :: ks, vs, as, n, r => by
    rw [NestedKey.datas] at r
    rw [numsOk, Bool.and_eq_true] at n
    cases r with
    | cons r1 r2 => rw [reads_num k _ _ n.1 r1, reads_nums ks _ _ n.2 r2]; rfl
end
abbrev kRefs (vs : List Ent) : List V := vs.map fun e => V.ref e.2.1
def kData (kvs : List (NestedKey × D)) : List D := kvs.map fun p => p.1.data
theorem Ents.keys {K : PySem.W.Frag} {H : Hp} : ∀ {vs : List Ent} {kvs : List (NestedKey × D)}, Ents K H vs kvs → DpAll K H (kRefs vs) (kData kvs)
  | _, _, .nil => .nil
  | _, _, .cons h1 _ _ _ t => .cons h1 (Ents.keys t)
theorem refs_of : ∀ {vs : List Ent} {xs : List (NestedKey × Addr × Value)}, EP vs xs → Vals (kRefs vs) (xs.map fun x => Value.ref x.2.1)
  | _, _, .nil => .nil
  | _, _, .cons h t => .cons (show RelV (V.ref _) (Value.ref _) from by rw [h.2.1]; rfl) (refs_of t)
theorem keys_acc {P : Program} {w : World} {es : Array DictEntry} {xs : List (NestedKey × Addr × Value)} {acc : Array Value} (he : es.toList = xs.map (entryOfKey (nestedKind P w))) (it : ItemsOf (fun i v => ∃ en : DictEntry, es[i]? = some en ∧ v = en.key) acc es.size) : acc.toList = xs.map fun x => Value.ref x.2.1 := by
  have l1 : es.size = xs.length := size_of_entries he
  have hl : acc.toList.length = xs.length := by rw [Array.length_toList, it.1]; exact l1
  apply List.ext_getElem?
  intro j
  rw [List.getElem?_map]
  cases hj : acc.toList[j]? with
  | none =>
    have h1 := List.getElem?_eq_none_iff.mp hj
    rw [List.getElem?_eq_none (by omega)]
    all_goals rfl
  | some v =>
    obtain ⟨en, hen, hv⟩ := it.2 j v (by rw [← Array.getElem?_toList]; exact hj)
    have qe := entry_at he j
    rw [hen] at qe
    cases hb : xs[j]? with
    | none =>
      rw [hb] at qe
      exact nomatch (show some en = none from qe)
    | some b =>
      rw [hb] at qe
      have e2 : en = entryOfKey (nestedKind P w) b := Option.some.inj qe
      rw [hv, e2]
      all_goals rfl
theorem call_listN (hc : X.calm = true) : CallR X (.type "list") (fun xs H Q => ∃ d P w vs kvs, xs = [V.ref d] ∧ H d = some (DkO P w d vs) ∧ Ents X.K H vs kvs ∧ ∀ p, H p = none → Q (.ref p) (upd H p (.lst (kRefs vs)))) := by
  intro pins s σ H xs us Q I r h
  obtain ⟨d, P, w, vs, kvs, rfl, hd, en, q⟩ := h
  obtain ⟨u, rfl, rx⟩ := r.one
  cases rx
  obtain ⟨z, hs, ks, pr, o, es, ep, ho, hx, hdt, he, _, hn⟩ := dn_of I hd en
  have l1 : es.size = ks.length := size_of_entries he
  have l2 := pr.len
  refine PySem.W.kdl_call (kdl_raw hs hx hdt) (I.ok.hd hc) ho (by omega) fun h' tk acc' c' kp e it => ?_
  have ea := keys_acc he it
  refine ⟨.ref s.heap.objs.size, _, I.laid (t' := tk) (o := .lst (kRefs vs)) kp (Nat.le_refl _) ?_, rfl, q _ (I.hok.fresh (Nat.le_refl _))⟩
  exact ⟨by rw [List.length_map]; exact z, acc'.toList, c', by rw [ea]; exact refs_of pr, by rw [Array.toArray_toList]; exact e⟩
theorem call_sortedN (hc : X.calm = true) (hu : X.A.units + 64 < cLine) : CallR X (.builtin "sorted") (fun xs H Q => ∃ d P w vs kvs, xs = [V.ref d] ∧ H d = some (DkO P w d vs) ∧ Ents X.K H vs kvs ∧ sortOk (kData kvs) = true ∧ ∀ p, H p = none → Q (.ref p) (upd H p (.lst ((((kRefs vs).zip (kData kvs)).mergeSort leV).map (·.1))))) := by
  intro pins s σ H xs us Q I r h
  obtain ⟨d, P, w, vs, kvs, rfl, hd, en, ok, q⟩ := h
  obtain ⟨u, rfl, rx⟩ := vals1 r
  cases rx
  obtain ⟨o1, o2, o3, o4⟩ := sortOk_of ok
  obtain ⟨z, hs, ks, pr, o, es, ep, ho, hx, hdt, he, _, hn⟩ := dn_of I hd en
  have l1 : es.size = ks.length := size_of_entries he
  have l2 := pr.len
  have l3 := en.len
  have l4 : (kData kvs).length = kvs.length := List.length_map ..
  refine Calls.call_function_entry PyProof.Rows.kind_sorted PyProof.Rows.plain_sorted PyProof.Rows.entry_sorted (PyProof.Rows.args_sorted1 _) ?_
  unfold Builtin.«sorted»
  refine wpAny_bind (m := checkCount "sorted" 1 1 _) (wpAny_pure ?_)
  refine wpAny_bind (PySem.W.kdu_collect (A := X.A.in1) (kdl_raw hs hx hdt) (I.ok.hd hc) ho (by omega) fun h' tk acc hk it => ?_)
  have ea := keys_acc he it
  have I1 : Inv X pins σ H { s with heap := h', toks := tk } := I.kept hk
  have rv : Vals (kRefs vs) acc.toList := by rw [ea]; exact refs_of pr
  have hall := en.keys
  obtain ⟨z1, z2, z3⟩ := zip_fst hall
  have lb : ((kRefs vs).zip (kData kvs)).length = (kData kvs).length := by rw [← List.length_map (f := fun b : VD => b.2), z2]
  have md : ∀ b ∈ (kRefs vs).zip (kData kvs), b.2 ∈ kData kvs := fun b hb => by
    have : b.2 ∈ ((kRefs vs).zip (kData kvs)).map (·.2) := List.mem_map.mpr ⟨b, hb, rfl⟩
    rw [z2] at this; exact this
  have hal : acc.toList.length = vs.length := by rw [ea, List.length_map, l2]
  refine wpAny_bind (wpAny_newList ?_ (by rw [hal]; exact z))
  have hoL : (h'.push (seqObj "list" acc.toList.toArray 0)).get? h'.objs.size = some (seqObj "list" acc.toList.toArray 0) := Heap.get?_push_size _ rfl
  show wpAny _ _ _ _ _ { s with heap := h'.push (seqObj "list" acc.toList.toArray 0), toks := tk }
  have I2 : Inv X pins σ H { s with heap := h'.push (seqObj "list" acc.toList.toArray 0), toks := tk } := I1.kept (t' := tk) fun b u e => Heap.get?_push_of_some _ e
  obtain ⟨e1, e2⟩ := each_zip I2 rv hall
  have e3 : PySem.W.EachIs (fun (u : Value) (b : VD) => ∃ as, Reads (h'.push (seqObj "list" acc.toList.toArray 0)) u b.2 as ∧ h'.objs.size ∉ as) acc.toList ((kRefs vs).zip (kData kvs)) := by
    have key : ∀ {vs : List Ent} {kvs : List (NestedKey × D)}, Ents X.K H vs kvs → ∀ b ∈ (kRefs vs).zip (kData kvs), ∃ k, numOk k = true ∧ b.2 = NestedKey.data k := by
      intro vs kvs en
      induction en with
      | nil => intro b hb; cases hb
      | cons g1 g2 g3 g4 t ih =>
        intro b hb
        rcases List.mem_cons.mp hb with rfl | hb
        · exact ⟨_, g2, rfl⟩
        · exact ih b hb
    refine (PySem.W.each_mem e2).mono fun u b hb => ?_
    obtain ⟨⟨as, ra⟩, mb⟩ := hb
    obtain ⟨k, n, ek⟩ := key en b mb
    rw [ek] at ra ⊢
    have := reads_num k _ _ n ra
    subst this
    exact ⟨[], ra, by simp⟩
  refine wpAny_bind (wpAny_holding (PySem.W.list_sort_data (s := { s with heap := h'.push (seqObj "list" acc.toList.toArray 0), toks := tk }) (enc := fun b : VD => b.2) (R := fun (u : Value) (b : VD) => RelV b.1 u) hoL e1 e3 (by rw [z2]; exact o2) (by rw [z2]; exact o3) (by rw [lb, sizeLine_eq]; omega) (fun b hb => ?_) fun out hl ho' => ?_))
  · have h := o4 b.2 (md b hb)
    show X.A.units + 1 + 1 + b.2.depth < cLine
    omega
  · obtain ⟨e', he'⟩ := PyProof.Rows.sortedHeap_at (vs := acc.toList) (out := out.toArray) hoL
    refine wpAny_pure ⟨_, rfl, .ref h'.objs.size, _, I1.laid (t' := tk) (o := .lst ((((kRefs vs).zip (kData kvs)).mergeSort leV).map (·.1))) (fun b u e => ?_) (Nat.le_refl _) ?_, rfl, q _ (I1.hok.fresh (Nat.le_refl _))⟩
    · have hb : b < h'.objs.size := Heap.lt_size e
      rw [PyProof.Rows.sortedHeap_old (Nat.ne_of_lt hb) (by rw [size_push']; exact Nat.lt_succ_of_lt hb)]
      exact Heap.get?_push_of_some _ e
    · exact ⟨by rw [List.length_map, List.length_mergeSort, lb, sizeLine_eq]; omega, out, e', each_vals ho', he'⟩
end
section
variable {X : Cx} {b : Bool} {x f : Str} {p p2 pos : Pos} {i : Nat}
def dnKeys : Option Slot → Option (List D)
  | some (.ow (.dn kvs)) => some (kData kvs)
  | _ => none
theorem dnKeys_some {o : Option Slot} {ds : List D} (h : dnKeys o = some ds) : ∃ kvs, o = some (.ow (.dn kvs)) ∧ ds = kData kvs := by
  unfold dnKeys at h
  split at h
  · cases h; exact ⟨_, rfl, rfl⟩
  · cases h
def gNList (i : Nat) : GE := fun env => (dnKeys env[i]?).bind fun ds => some (.list ds)
def gNSort (i : Nat) : GE := fun env => (dnKeys env[i]?).bind fun ds => vSorted (.list ds)
theorem pd_listN (hc : X.calm = true) (hg : Gl X f) (hm : X.mg f = none) (hvb : bootBuiltins f = some (.type "list")) (hN : X.N[i]? = some x) (hv : Vis X.env.scope x) (hn : f ≠ "__name__" := by decide) (hdb : (f == ("__debug__" : Str)) = false := by decide)
    (hd : (x == ("__debug__" : Str)) = false := by decide) (hcd : (x == ("__classdict__" : Str)) = false := by decide)
    (he : starEach [.Name x p2] X.env = (false, eval (.Name x p2) X.env) :: starEach [] X.env := by rfl) (hpl : (backTo pos (starEach [] X.env)).any (·.1) = false := by rfl) : PEd X b (.Call (.Name f p) [.Name x p2] [] pos) (gNList i) := by
  refine ⟨_, pe_callTy (call_listN hc) hg hm hvb (pa_cons (pe_var hN hv hd hcd) pa_nil he) hn hdb he hpl, fun H0 M env σ H pa d Q E h q => ?_⟩
  obtain ⟨ds, h1, h2⟩ := bind1 h
  cases h2
  obtain ⟨kvs, g1, rfl⟩ := dnKeys_some h1
  obtain ⟨e1, P, w, vs, e2, e3⟩ := E.dn g1
  refine ⟨_, e1, pa i, P, w, vs, kvs, rfl, e2, e3.mono vw_le, fun p' hp => ?_⟩
  have nf := Vs_nf b E
  refine q _ _ (same_upd hp) (.lst (.inl (.inl (vw_of (fun z => nf p' z hp) upd_same))) (DpAll_mono ((vw_same (Same.refl _) fun a o _ z => ?_ : Same (vw (Hd M env pa) H) (vw (Vs b M env pa) H)).trans (vw_up (same_upd hp))) _ _ e3.keys))
  cases b
  · exact z
  · exact .inl z
theorem pd_sortN (hc : X.calm = true) (hu : X.A.units + 64 < cLine) (hg : Gl X "sorted") (hm : X.mg "sorted" = none) (hN : X.N[i]? = some x) (hv : Vis X.env.scope x)
    (hd : (x == ("__debug__" : Str)) = false := by decide) (hcd : (x == ("__classdict__" : Str)) = false := by decide)
    (he : starEach [.Name x p2] X.env = (false, eval (.Name x p2) X.env) :: starEach [] X.env := by rfl) (hpl : (backTo pos (starEach [] X.env)).any (·.1) = false := by rfl) : PEd X b (.Call (.Name "sorted" p) [.Name x p2] [] pos) (gNSort i) := by
  refine ⟨_, pe_callB (x := "sorted") (call_sortedN hc hu) hg hm (by decide +kernel) (pa_cons (pe_var hN hv hd hcd) pa_nil he) (by decide) (by decide) he hpl, fun H0 M env σ H pa d Q E h q => ?_⟩
  obtain ⟨ds, h1, h2⟩ := bind1 h
  obtain ⟨kvs, g1, rfl⟩ := dnKeys_some h1
  obtain ⟨e1, P, w, vs, e2, e3⟩ := E.dn g1
  have h2 : (if sortOk (kData kvs) then some (PyData.list (srt (kData kvs))) else none) = some d := h2
  split at h2
  · rename_i ok
    cases h2
    refine ⟨_, e1, pa i, P, w, vs, kvs, rfl, e2, e3.mono vw_le, ok, fun p' hp => ?_⟩
    have nf := Vs_nf b E
    obtain ⟨z1, z2, z3⟩ := zip_fst e3.keys
    refine q _ _ (same_upd hp) (.lst (.inl (.inl (vw_of (fun z => nf p' z hp) upd_same))) (DpAll_mono ((vw_same (Same.refl _) fun a o _ z => ?_ : Same (vw (Hd M env pa) H) (vw (Vs b M env pa) H)).trans (vw_up (same_upd hp))) _ _ ?_))
    · cases b
      · exact z
      · exact .inl z
    · have key : DpAll X.K (vw (Hd M env pa) H) ((((kRefs vs).zip (kData kvs)).mergeSort leV).map (·.1)) ((((kRefs vs).zip (kData kvs)).mergeSort leV).map (·.2)) := DpAll_pairs fun b hb => z3 b ((List.mergeSort_perm _ _).mem_iff.mp hb)
      rw [srt_map, z2] at key
      exact key
  · cases h2
end
end Dn
namespace Dn
open PySem PySem.Spec PyProof.Rows L2
theorem hu16 {k : Nat} {A : Around} (r : Room k A) : A.units + 16 < cLine := by have := hu64 r; omega
end Dn

namespace Dn
open PySem PySem.Spec PyProof.Rows L2
/-! ### dict(pairs) -/
/-- entries told by a list of pairs -/
inductive PairsE (K : PySem.W.Frag) (H : Hp) : List V → List Ent → List (NestedKey × D) → Prop
  | nil : PairsE K H [] [] []
  | cons {t q : Addr} {k : NestedKey} {v : V} {d : D} {l : List V} {es : List Ent} {kvs : List (NestedKey × D)} : SqT K H t [.ref q, v] → Dp K H (.ref q) k.data → numOk k = true → k.depth ≤ 8 → Dp K H v d → PairsE K H l es kvs → PairsE K H (.ref t :: l) ((k, q, v) :: es) ((k, d) :: kvs)
def putAllE (es : List Ent) : List Ent := es.foldl (fun acc p => putE acc p.1 p.2.1 p.2.2) []
def putAllN (kvs : List (NestedKey × D)) : List (NestedKey × D) := kvs.foldl (fun acc p => putN acc p.1 p.2) []
theorem PairsE.len {K : PySem.W.Frag} {H : Hp} : ∀ {l : List V} {es : List Ent} {kvs : List (NestedKey × D)}, PairsE K H l es kvs → es.length = l.length
  | _, _, _, .nil => rfl
  | _, _, _, .cons _ _ _ _ _ t => by rw [List.length_cons, List.length_cons, PairsE.len t]
theorem PairsE.mono {K : PySem.W.Frag} {H H' : Hp} (e : Same H H') : ∀ {l : List V} {es : List Ent} {kvs : List (NestedKey × D)}, PairsE K H l es kvs → PairsE K H' l es kvs
  | _, _, _, .nil => .nil
  | _, _, _, .cons h1 h2 h3 h4 h5 t => .cons (seqT e h1) (Dp_mono e _ _ h2) h3 h4 (Dp_mono e _ _ h5) (PairsE.mono e t)
theorem PairsE.ents {K : PySem.W.Frag} {H : Hp} : ∀ {l : List V} {es : List Ent} {kvs : List (NestedKey × D)}, PairsE K H l es kvs → ∀ {a : List Ent} {b : List (NestedKey × D)}, Ents K H a b → Ents K H (es.foldl (fun acc p => putE acc p.1 p.2.1 p.2.2) a) (kvs.foldl (fun acc p => putN acc p.1 p.2) b)
  | _, _, _, .nil, _, _, r => r
  | _, _, _, .cons h1 h2 h3 h4 h5 t, _, _, r => by
    rw [List.foldl_cons, List.foldl_cons]
    exact PairsE.ents t (r.put h2 h3 h4 h5)
theorem EP.all : ∀ {es : List Ent} {ps : List (NestedKey × Addr × Value)}, EP es ps → ∀ {a : List Ent} {xs : List (NestedKey × Addr × Value)}, EP a xs → EP (es.foldl (fun acc p => putE acc p.1 p.2.1 p.2.2) a) (storedAllH xs ps)
  | _, _, .nil, _, _, r => r
  | _, _, .cons (a := e) (b := p) h t, _, _, r => by
    obtain ⟨h1, h2, h3⟩ := h
    show EP (List.foldl _ (putE _ e.1 e.2.1 e.2.2) _) (storedAllH (storedH _ p.1 p.2.1 p.2.2) _)
    rw [← h1, ← h2]
    exact EP.all t (r.put e.1 e.2.1 h3)
theorem putAll_len : ∀ (es a : List Ent), (es.foldl (fun acc p => putE acc p.1 p.2.1 p.2.2) a).length ≤ a.length + es.length
  | [], a => Nat.le_refl _
  | e :: es, a => by
    rw [List.foldl_cons, List.length_cons]
    have h1 := putAll_len es (putE a e.1 e.2.1 e.2.2)
    have h2 := putE_len a e.1 e.2.1 e.2.2
    omega
section
variable {X : Cx} {pins : List (Addr × Obj)} {σ : Sg} {H : Hp} {s : Shared}
theorem pairs_heap (I : Inv X pins σ H s) : ∀ {l : List V} {es : List Ent} {kvs : List (NestedKey × D)} {its : List Value}, PairsE X.K H l es kvs → Vals l its → ∃ (ps : List (NestedKey × Addr × Value)) (ts : List Addr), EP es ps ∧ its = ts.map Value.ref ∧ ts.length = ps.length ∧ (∀ (j : Nat) (p : NestedKey × Addr × Value), ps[j]? = some p → ∃ t, ts[j]? = some t ∧ s.heap.IsTuple t #[.ref p.2.1, p.2.2]) ∧ ∀ x ∈ ps, (nestedKind X.prog X.w).is s.heap x.1 x.2.1
  | _, _, _, _, .nil, .nil => ⟨[], [], .nil, rfl, rfl, fun j p h => by simp at h, fun x hx => by cases hx⟩
  | _, _, _, _, .cons (t := t) (q := q) (k := k) h1 h2 h3 h4 h5 r, .cons g1 g2 => by
    obtain ⟨ps, ts, e1, e2, e3, e4, e5⟩ := pairs_heap I r g2
    obtain ⟨us, rv, it, _⟩ := I.tuple h1
    obtain ⟨u1, u2, rfl, r1, r2⟩ := vals2 rv
    cases (show u1 = Value.ref q from r1)
    cases (show _ = Value.ref t from g1)
    refine ⟨(k, q, u2) :: ps, t :: ts, .cons ⟨rfl, rfl, r2⟩ e1, by rw [e2]; rfl, by simp [e3], fun j p h => ?_, fun x hx => ?_⟩
    · cases j with
      | zero => cases h; exact ⟨t, rfl, it⟩
      | succ j => exact e4 j p h
    · rcases List.mem_cons.mp hx with rfl | hx
      · exact key_is I h2 h3 h4
      · exact e5 x hx
theorem call_dictP (hc : X.calm = true) (hu : X.A.units + 32 < cLine) : CallR X (.type "dict") (fun xs H Q => ∃ a l es kvs, xs = [V.ref a] ∧ SqL X.K H a l ∧ PairsE X.K H l es kvs ∧ ∀ p, H p = none → Q (.ref p) (upd H p (DkO X.prog X.w p (putAllE es)))) := by
  intro pins s σ H xs us Q I r h
  obtain ⟨a, l, es, kvs, rfl, hl, pe, q⟩ := h
  obtain ⟨u, rfl, rx⟩ := r.one
  cases rx
  obtain ⟨its, rv, ⟨o, n, ho, hcl, hdi, hdt⟩, hz⟩ := I.list hl
  obtain ⟨ps, ts, e1, e2, e3, e4, e5⟩ := pairs_heap I pe rv
  have el : es.length = ps.length := e1.len
  have ll : es.length = l.length := pe.len
  refine call_dict_pairsH (knd := nestedKind X.prog X.w) (ps := ps) (wr := []) (PairArg.list a its.toArray (fun j => ts.getD j 0) (ps.map fun p => (Value.ref p.2.1, p.2.2))) (I.ok.hd hc) (by show X.A.units + 1 + 1 + 8 < cLine; omega) ⟨⟨o, n, ho, hcl, hdi, hdt⟩, ?_, fun j k v hj => ?_⟩ ⟨by simp, fun i key v hi => ?_⟩ (fun h' hk x hx => nestedKind_stays.stays (fun b ob vs m g1 g2 => hk b ob (Nat.ne_of_lt (Heap.lt_size g1)) List.not_mem_nil g1) (e5 x hx)) (by rw [List.length_map]; omega) fun h' tk hd' hk => ?_
  · rw [List.size_toArray, e2]; simp [e3]
  · rw [List.getElem?_map] at hj
    obtain ⟨p, hp, hpe⟩ := Option.map_eq_some_iff.mp hj
    cases hpe
    obtain ⟨t, ht, it⟩ := e4 j p hp
    have gd : ts.getD j 0 = t := by rw [List.getD_eq_getElem?_getD, ht]; rfl
    show its.toArray[j]? = some (Value.ref (ts.getD j 0)) ∧ PairAt s.heap (ts.getD j 0) _ _
    rw [gd]
    refine ⟨?_, .inl it⟩
    rw [List.getElem?_toArray, e2, List.getElem?_map, ht]; rfl
  · have hi : (ps.map fun p => (Value.ref p.2.1, p.2.2))[i]? = some (key, v) := hi
    rw [List.getElem?_map] at hi
    obtain ⟨p, hp, hpe⟩ := Option.map_eq_some_iff.mp hi
    cases hpe
    exact ⟨p.1, p.2.1, hp, rfl⟩
  · refine ⟨.ref s.heap.objs.size, _, I.laid (t' := tk) (o := DkO X.prog X.w s.heap.objs.size (putAllE es)) (fun b ob e => hk b ob List.not_mem_nil e) (Nat.le_refl _) (dn_new (xs := storedAllH [] ps) ?_ (beq_eq_false_iff_ne.mpr (Ne.symm (Nat.ne_of_lt I.big))) (e1.all .nil) hd'), rfl, q _ (I.hok.fresh (Nat.le_refl _))⟩
    have := putAll_len es []
    show (putAllE es).length ≤ sizeLine
    unfold putAllE
    rw [List.length_nil] at this
    omega
end
/-! ### the reading -/
def pairN : D → Option (NestedKey × D)
  | .tuple [y, d] => (keyT y).map fun k => (k, d)
  | _ => none
def pairsN : List D → Option (List (NestedKey × D))
  | [] => some []
  | x :: r => (pairN x).bind fun p => (pairsN r).map fun l => p :: l
def sNDict (i : Nat) (a : GE) : GS := fun env => (a env).bind fun v => (asLst v).bind fun ds => (pairsN ds).map fun kvs => .nx (env.set i (.ow (.dn (putAllN kvs))))
theorem pairsE_of {K : PySem.W.Frag} {H : Hp} : ∀ {ds : List D} {kvs : List (NestedKey × D)} {l : List V}, pairsN ds = some kvs → DpAll K H l ds → ∃ es, PairsE K H l es kvs
  | [], kvs, l, h, r => by
    cases r; cases h
    exact ⟨[], .nil⟩
  | x :: ds, kvs, l, h, r => by
    obtain ⟨p, h1, h2⟩ := bind1 h
    obtain ⟨kv, h3, rfl⟩ := Option.map_eq_some_iff.mp h2
    cases r with
    | cons r1 r2 =>
      obtain ⟨es, pe⟩ := pairsE_of h3 r2
      unfold pairN at h1
      split at h1
      · rename_i y d
        obtain ⟨k, k1, rfl⟩ := Option.map_eq_some_iff.mp h1
        cases r1 with
        | tup hs ha =>
          cases ha with
          | cons a1 a2 =>
            cases a2 with
            | cons a2 a3 =>
              cases a3
              obtain ⟨q, rfl, q1, q2, q3⟩ := keyT_ref k1 a1
              exact ⟨_, .cons hs q1 q2 q3 a2 pe⟩
      · cases h1
section
variable {X : Cx} {x f : Str} {p pos px : Pos} {e : Expr} {ga : GE} {i : Nat}
theorem sd_ndict {cpos : Pos} (hc : X.calm = true) (hu : X.A.units + 32 < cLine) (hg : Gl X f) (hm : X.mg f = none) (hvb : bootBuiltins f = some (.type "dict")) (hN : X.N.Nodup) (hi : X.N[i]? = some x) (hx : Loc X.env.scope x) (ha : PEd X false e ga) (hs : swapsWith (.Call (.Name f p) [e] [] cpos) (some (.Name x px)) pos.line X.env = pure false := by rfl) (hf : X.fn x = true ∨ X.env.scope.names.lookup x = some .local := by first | exact .inl rfl | exact .inr rfl | assumption) (hn : f ≠ "__name__" := by decide) (hdb : (f == ("__debug__" : Str)) = false := by decide)
    (he : starEach [e] X.env = (false, eval e X.env) :: starEach [] X.env := by rfl) (hpl : (backTo cpos (starEach [] X.env)).any (·.1) = false := by rfl) : PSd X (.Assign [.Name x px] (.Call (.Name f p) [e] [] cpos) pos) (sNDict i ga) := by
  obtain ⟨ta, pa', ha⟩ := ha
  refine ⟨_, ps_set hN hi hx (pe_callTy (call_dictP hc hu) hg hm hvb (pa_cons pa' pa_nil he) hn hdb he hpl) hs hf, fun H0 M env σ H pa o T E h q => ?_⟩
  obtain ⟨v, h1, h2⟩ := bind1 h
  obtain ⟨ds, h3, h4⟩ := bind1 h2
  obtain ⟨kvs, h5, rfl⟩ := Option.map_eq_some_iff.mp h4
  refine ha H0 M env σ H pa _ _ E h1 fun u H1 s hv => ?_
  have E1 := E.up s
  cases v with
  | list ds' =>
    cases h3
    cases hv with
    | lst hs' hall =>
      obtain ⟨es, pe⟩ := pairsE_of h5 hall
      exact ⟨_, _, es, kvs, rfl, vw_le.seq hs', pe.mono vw_le, fun p' hp => q _ _ _ (E1.setOw hp (.dn (pe.ents .nil)))⟩
  | _ => cases h3
end
end Dn

namespace Dn
open PySem PySem.Spec PyProof.Rows L2
/-! ### [e for x in xs for y in ys] -/
def iOf (K : PySem.W.Frag) (g : GA) : TI := fun σ H R => ∃ (H0 : Hp) (M : Addr → Prop) (env : Env) (pa : Nat → Addr) (ds : List D), EO K H0 M env σ H pa ∧ g env = some ds ∧ (∀ J H', Same H H' → Wk K (vw (Vs false M env pa) H') J ds → R J H')
theorem PId.can {X : Cx} {tg iter : Expr} {g : GA} (h : PId X tg iter false g) : PI X tg iter (iOf X.K g) := by
  obtain ⟨wi, hwi, hhi⟩ := h
  exact ⟨fun pins s σ H R I ⟨H0, M, env, pa, ds, E, h, q⟩ => hwi.run pins s σ H R I (hhi H0 M env σ H pa ds R E h q)⟩
def comp2G (t : GT) (c : GB) (gi1 : GA) (vs1 : List Nat) (t1 : GT) (c1 : GB) (e : GE) (env : Env) : List D → Option (List D)
  | [] => some []
  | d :: ds => (t d env).bind fun env1 => (c env1).bind fun k => if k = true then (gi1 env1).bind fun ds1 => if noOwB env1 vs1 = true then (compG t1 c1 e (wipeE env1 vs1) ds1).bind fun r1 => (comp2G t c gi1 vs1 t1 c1 e env ds).bind fun r => some (r1 ++ r) else none else comp2G t c gi1 vs1 t1 c1 e env ds
def gComp2 (vs : List Nat) (gi : GA) (t : GT) (c : GB) (vs1 : List Nat) (gi1 : GA) (t1 : GT) (c1 : GB) (e : GE) : GE := fun env => (gi env).bind fun ds => if noOwB env vs = true then (comp2G t c gi1 vs1 t1 c1 e (wipeE env vs) ds).bind fun r => if r.length ≤ lim then some (.list r) else none else none
theorem EO.upX {K : PySem.W.Frag} {H0 H H' : Hp} {M : Addr → Prop} {env : Env} {σ : Sg} {pa : Nat → Addr} {L : Addr} (E : EO K H0 M env σ H pa) (hM : M L) (h0 : H0 L = none) (s : ∀ a o, a ≠ L → H a = some o → H' a = some o) (hL : H' L ≠ none) : EO K H0 M env σ H' pa := by
  have ms : Same (vw (Hd M env pa) H) (vw (Hd M env pa) H') := fun a o ho => by
    obtain ⟨z1, z2⟩ := vw_some ho
    exact vw_of z1 (s a o (fun e => z1 (.inl (e ▸ hM))) z2)
  refine ⟨fun a o ho => s a o (fun e => by rw [e, h0] at ho; cases ho) (E.same a o ho), fun a ha => ?_, E.len, fun i d h => ?_, fun i c h => ?_, E.inj, E.fnc⟩
  · by_cases e : a = L
    · rw [e]; exact hL
    · have k := E.hid a ha
      cases q : H a with
      | none => exact absurd q k
      | some o => rw [s a o e q]; exact fun z => by cases z
  · obtain ⟨v, g1, g2⟩ := E.val i d h
    exact ⟨v, g1, Dp_mono ms _ _ g2⟩
  · obtain ⟨g1, g2, o, g3, g4⟩ := E.ow i c h
    exact ⟨g1, g2, o, s _ _ (fun e => g2.2 (e ▸ hM)) g3, Ct.mono ms g4⟩
section
variable {X : Cx} {b : Bool} {elt tg iter tg1 iter1 : Expr} {pos : Pos}
theorem comp2_run {vs vs1 : List Nat} {gi gi1 : GA} {wi : TI} {t t1 : GT} {gc gc1 : GB} {ge : GE} (T : TGc vs t) (T1 : TGc vs1 t1)
    (hhi : ∀ (H0 : Hp) (M : Addr → Prop) (env : Env) (σ : Sg) (H : Hp) (pa : Nat → Addr) (ds : List D) (R : It → Hp → Prop), EO X.K H0 M env σ H pa → gi env = some ds → (∀ J H', Same H H' → Wk X.K (vw (Vs false M env pa) H') J ds → R J H') → wi σ H R)
    (H0 : Hp) (M : Addr → Prop) (env : Env) (σ : Sg) (H : Hp) (pa : Nat → Addr) (d : D) (Q : VK) (E : EO X.K H0 M env σ H pa) (h : gComp2 vs gi t gc vs1 gi1 t1 gc1 ge env = some d)
    (q : ∀ p ws ds H', Same H H' → H p = none → H' p = some (.lst ws) → d = .list ds → DpAll X.K (vw (fun a => Hd M env pa a ∨ a = p) H') ws ds → Q (.ref p) H') : tLc2 wi (gOf X.K vs t) (uOf X.K gc) (iOf X.K gi1) (gOf X.K vs1 t1) (uOf X.K gc1) (tOf X.K false ge) vs vs1 σ H Q := by
  obtain ⟨ds, h1, h2⟩ := bind1 h
  split at h2
  case isFalse => cases h2
  rename_i hno
  have hno := noOw_of hno
  obtain ⟨r, h3, h4⟩ := bind1 h2
  split at h4
  case isFalse => cases h4
  rename_i hlim
  cases h4
  refine hhi H0 M env σ H pa ds _ E h1 fun J H1 s1 w L hL => ?_
  have E1 := E.up s1
  have Eo := ow_hidden E1
  refine ⟨fun i m H2 => ∃ acc done, H2 L = some (.lst acc) ∧ Same H1 H2 ∧ DpAll X.K (vw (fun a => Hd M env pa a ∨ a = L) H2) acc done ∧ m = ds.length - i ∧ i ≤ ds.length ∧ ∃ r2, comp2G t gc gi1 vs1 t1 gc1 ge (wipeE env vs) (ds.drop i) = some r2 ∧ done ++ r2 = r,
    ⟨ds.length, [], [], upd_same, same_upd hL, .nil, by simp, Nat.zero_le _, r, h3, rfl⟩, ?_⟩
  rintro i m H2 ⟨acc, done, hacc, sm2, hall, rfl, hi, r2, h5, h6⟩
  have to2 : Same (vw (Hd M env pa) H1) H2 := vw_le.trans sm2
  by_cases hlt : i < ds.length
  · have hd : ds[i]? = some ds[i] := List.getElem?_eq_getElem hlt
    obtain ⟨go, yl⟩ := w.go i ds[i] H2 to2 hd
    have hdr : ds.drop i = ds[i] :: ds.drop (i + 1) := List.drop_eq_getElem_cons hlt
    rw [hdr] at h5
    obtain ⟨env3, h7, h8⟩ := bind1 (show (t ds[i] (wipeE env vs)).bind _ = some r2 from h5)
    obtain ⟨k, h9, h10⟩ := bind1 h8
    refine .inr ⟨go, fun H' => ∃ acc done, H' L = some (.lst acc) ∧ Same H1 H' ∧ DpAll X.K (vw (fun a => Hd M env pa a ∨ a = L) H') acc done ∧ ∃ r2, comp2G t gc gi1 vs1 t1 gc1 ge (wipeE env vs) (ds.drop (i + 1)) = some r2 ∧ done ++ r2 = r,
      fun H' ⟨acc, done, a1, a2, a3, a5⟩ => ⟨ds.length - (i + 1), by omega, acc, done, a1, a2, a3, rfl, hlt, a5⟩, fun x H3 hy => ?_⟩
    obtain ⟨s3, dx⟩ := yl x H3 hy
    have EB : EO X.K (vw (Ow env pa) H1) (fun a => M a ∨ a = L) env σ H2 pa := by
      have ms : Same (vw (Hd M env pa) H1) (vw (Hd (fun a => M a ∨ a = L) env pa) H2) := fun a o ho => by
        obtain ⟨z1, z2⟩ := vw_some ho
        refine vw_of (fun z => ?_) (sm2 a o z2)
        rcases z with (z | rfl) | z
        · exact z1 (.inl z)
        · rw [hL] at z2; cases z2
        · exact z1 (.inr z)
      refine ⟨vw_le.trans sm2, fun a ha z => ?_, E1.len, fun j e hj => ?_, fun j es hj => ?_, E1.inj, E1.fnc⟩
      · rcases ha with ha | rfl
        · exact E1.hid a ha (sm2.free z)
        · rw [hacc] at z; cases z
      · obtain ⟨v, g1, g2⟩ := E1.val j e hj
        exact ⟨v, g1, Dp_mono ms _ _ g2⟩
      · obtain ⟨g1, g2, ws, g3, g4⟩ := E1.ow j es hj
        obtain ⟨_, g5, _⟩ := Eo.ow j es hj
        refine ⟨g1, ⟨g5.1, fun z => ?_⟩, ws, sm2 _ _ g3, Ct.mono ms g4⟩
        rcases z with z | z
        · exact g2.2 z
        · rw [z, hL] at g3; cases g3
    have EW := EO.wipe EB vs
    have dx := dx (Hd (fun a => M a ∨ a = L) (wipeE env vs) pa) (fun p hp => EW.hidden hp) (fun a o ho => by
      obtain ⟨z1, z2⟩ := vw_some ho
      refine vw_of (fun z => ?_) (sm2 a o z2)
      rcases z with (z | rfl) | z
      · exact z1 (.inl z)
      · rw [hL] at z2; cases z2
      · exact z1 (.inr (ow_wipe z)))
    refine ⟨_, _, _, pa, ds[i], env3, EW.up s3, dx, h7, fun σ4 H4 s4 w4 E4 => ⟨w4.trans wipe_idem, _, _, _, pa, k, E4, h9, fun H5 s5 => ?_⟩⟩
    have E5 := E4.up s5
    cases k with
    | false =>
      rw [if_neg (by decide)] at h10
      refine iteF ?_
      have s25 : Same H2 H5 := (s3.trans s4).trans s5
      exact ⟨acc, done, s25 _ _ hacc, sm2.trans s25, DpAll_mono (vw_up s25) _ _ hall, r2, h10, h6⟩
    | true =>
      rw [if_pos rfl] at h10
      refine iteT ?_
      obtain ⟨ds1, h11, h12⟩ := bind1 h10
      split at h12
      case isFalse => cases h12
      rename_i hno1
      have hno1 := noOw_of hno1
      obtain ⟨r1, h13, h14⟩ := bind1 h12
      obtain ⟨r2', h15, h16⟩ := bind1 h14
      cases h16
      refine ⟨_, _, _, pa, ds1, E5, h11, fun J1 H6 s6 w1 => ?_⟩
      have E6 := E5.up s6
      have s26 : Same H2 H6 := ((s3.trans s4).trans s5).trans s6
      have h0L : vw (Ow env pa) H1 L = none := by
        cases q : vw (Ow env pa) H1 L with
        | none => rfl
        | some o => have z := (vw_some q).2; rw [hL] at z; cases z
      have lenr : done.length + (r1.length + r2'.length) = r.length := by rw [← h6, List.length_append, List.length_append]
      refine ⟨fun j k Hj => ∃ acc1 done1, Hj L = some (.lst acc1) ∧ (∀ a o, a ≠ L → H6 a = some o → Hj a = some o) ∧ DpAll X.K (vw (fun a => Hd M env pa a ∨ a = L) Hj) acc1 done1 ∧ k = ds1.length - j ∧ j ≤ ds1.length ∧ ∃ r3, compG t1 gc1 ge (wipeE env3 vs1) (ds1.drop j) = some r3 ∧ done1 ++ r3 = done ++ r1,
        ⟨ds1.length, acc, done, s26 _ _ hacc, fun _ _ _ z => z, DpAll_mono (vw_up s26) _ _ hall, by simp, Nat.zero_le _, r1, h13, rfl⟩, ?_⟩
      rintro j k Hj ⟨acc1, done1, a1, a2, a3, rfl, hj, r3, a5, a6⟩
      have toj : Same (vw (Hd (fun a => M a ∨ a = L) env3 pa) H6) Hj := fun a o ho => by
        obtain ⟨z1, z2⟩ := vw_some ho
        exact a2 a o (fun e => z1 (.inl (.inr e))) z2
      have h1j : Same H1 Hj := fun a o ho => a2 a o (ne_of_none ho hL) (s26 _ _ (sm2 _ _ ho))
      by_cases hlt1 : j < ds1.length
      · have hd1 : ds1[j]? = some ds1[j] := List.getElem?_eq_getElem hlt1
        obtain ⟨go1, yl1⟩ := w1.go j ds1[j] Hj toj hd1
        have hdr1 : ds1.drop j = ds1[j] :: ds1.drop (j + 1) := List.drop_eq_getElem_cons hlt1
        rw [hdr1] at a5
        obtain ⟨env5, b7, b8⟩ := bind1 (show (t1 ds1[j] (wipeE env3 vs1)).bind _ = some r3 from a5)
        obtain ⟨k1, b9, b10⟩ := bind1 b8
        refine .inr ⟨go1, fun H' => ∃ acc1 done1, H' L = some (.lst acc1) ∧ (∀ a o, a ≠ L → H6 a = some o → H' a = some o) ∧ DpAll X.K (vw (fun a => Hd M env pa a ∨ a = L) H') acc1 done1 ∧ ∃ r3, compG t1 gc1 ge (wipeE env3 vs1) (ds1.drop (j + 1)) = some r3 ∧ done1 ++ r3 = done ++ r1,
          fun H' ⟨acc1, done1, z1, z2, z3, z5⟩ => ⟨ds1.length - (j + 1), by omega, acc1, done1, z1, z2, z3, rfl, hlt1, z5⟩, fun x1 H7 hy1 => ?_⟩
        obtain ⟨s7, dx1⟩ := yl1 x1 H7 hy1
        have Ej : EO X.K (vw (Ow env pa) H1) (fun a => M a ∨ a = L) env3 σ4 Hj pa := E6.upX (L := L) (.inr rfl) h0L a2 (by rw [a1]; exact fun z => by cases z)
        have EW1 := EO.wipe Ej vs1
        have dx1 := dx1 (Hd (fun a => M a ∨ a = L) (wipeE env3 vs1) pa) (fun p hp => EW1.hidden hp) (fun a o ho => by
          obtain ⟨z1, z2⟩ := vw_some ho
          refine vw_of (fun z => ?_) (a2 a o (fun e => z1 (.inl (.inr e))) z2)
          rcases z with z | z
          · exact z1 (.inl z)
          · exact z1 (.inr (ow_wipe z)))
        refine ⟨_, _, _, pa, ds1[j], env5, EW1.up s7, dx1, b7, fun σ8 H8 s8 w8 E8 => ⟨w8.trans wipe_idem, _, _, _, pa, k1, E8, b9, fun H9 s9 => ?_⟩⟩
        have E9 := E8.up s9
        have sj9 : Same Hj H9 := (s7.trans s8).trans s9
        cases k1 with
        | false =>
          rw [if_neg (by decide)] at b10
          refine iteF ?_
          exact ⟨acc1, done1, sj9 _ _ a1, fun a o na z => sj9 _ _ (a2 a o na z), DpAll_mono (vw_up sj9) _ _ a3, r3, b10, a6⟩
        | true =>
          rw [if_pos rfl] at b10
          refine iteT ?_
          obtain ⟨y, b11, b12⟩ := bind1 b10
          obtain ⟨r4, b13, b14⟩ := bind1 b12
          cases b14
          refine ⟨_, _, _, pa, y, E9, b11, fun v H10 s10 hv => ?_⟩
          have sj10 : Same Hj H10 := sj9.trans s10
          have la := congrArg List.length a6
          rw [List.length_append, List.length_append, List.length_cons] at la
          refine ⟨acc1, sj10 _ _ a1, by rw [DpAll_len a3, ← lim_eq]; omega, acc1 ++ [v], done1 ++ [y], upd_same, fun a o na z => ?_, DpAll_app (DpAll_mono (fun a o ho => ?_) _ _ a3) (.cons (Dp_mono (fun a o ho => ?_) _ _ hv) .nil), r4, b13, by rw [List.append_assoc]; exact a6⟩
          · rw [upd_ne na]
            exact sj10 _ _ (a2 a o na z)
          · obtain ⟨z1, z2⟩ := vw_some ho
            have na : a ≠ L := fun z => z1 (.inr z)
            exact vw_of z1 (by rw [upd_ne na]; exact sj10 a o z2)
          · obtain ⟨z1, z2⟩ := vw_some ho
            have na : a ≠ L := fun z => z1 (.inl (.inr z))
            refine vw_of (fun z => ?_) (by rw [upd_ne na]; exact z2)
            rcases z with (z | z) | z
            · exact z1 (.inl (.inl z))
            · exact z1 (.inr (T1.bw _ _ _ _ _ noOw_wipe b7 (ow_wipe2 hno1 (T.bw _ _ _ _ _ noOw_wipe h7 (ow_wipe2 hno z)))))
            · exact na z
      · have e : j = ds1.length := by omega
        subst e
        rw [List.drop_length] at a5
        cases a5
        rw [List.append_nil] at a6
        exact .inl ⟨w1.stop Hj toj, acc1, done1, a1, h1j, a3, r2', h15, by rw [a6, List.append_assoc]; exact h6⟩
  · have e : i = ds.length := by omega
    subst e
    refine .inl ⟨w.stop H2 to2, ?_⟩
    rw [List.drop_length] at h5
    cases h5
    rw [List.append_nil] at h6
    subst h6
    exact q L acc done H2 (s1.trans sm2) (s1.free hL) hacc rfl hall
variable {ifs ifs1 : List Expr} {scope : Scope} {own : List (Str × Nat)} {vs1 : List Nat} {gi gi1 : GA} {t t1 : GT} {gc gc1 : GB} {ge : GE}
theorem pd_lc2 (hc : X.calm = true) (hN : X.N.Nodup) (hi : PId X tg iter false gi) (ok : BlkOk X.N X.env.scope scope own) (hv : ∀ i ∈ vs1, i ∈ own.map (·.2))
    (hg : ∀ (s : Shared) (H : Hp) (C : Addr) (cl : List (Str × Addr)) (fp : List Addr), PGc (BX X scope s H C cl fp) (own.map (·.2)) tg t) (ht : ∀ (s : Shared) (H : Hp) (C : Addr) (cl : List (Str × Addr)) (fp : List Addr), PTsd (BX X scope s H C cl fp) ifs gc)
    (hi1 : ∀ (s : Shared) (H : Hp) (C : Addr) (cl : List (Str × Addr)) (fp : List Addr), PId (BX X scope s H C cl fp) tg1 iter1 false gi1)
    (hg1 : ∀ (s : Shared) (H : Hp) (C : Addr) (cl : List (Str × Addr)) (fp : List Addr), PGc (BX X scope s H C cl fp) vs1 tg1 t1) (ht1 : ∀ (s : Shared) (H : Hp) (C : Addr) (cl : List (Str × Addr)) (fp : List Addr), PTsd (BX X scope s H C cl fp) ifs1 gc1)
    (he : ∀ (s : Shared) (H : Hp) (C : Addr) (cl : List (Str × Addr)) (fp : List Addr), PEd (BX X scope s H C cl fp) false elt ge) (hT : TGc (own.map (·.2)) t) (hT1 : TGc vs1 t1) (hs : ∀ x, foldedSetIterable iter X.env x = pure x := by intro _; rfl) (hs1 : ∀ env x, foldedSetIterable iter1 env x = pure x := by intro _ _; rfl) :
    PEd X b (.ListComp elt [⟨tg, iter, ifs, 0⟩, ⟨tg1, iter1, ifs1, 0⟩] scope pos) (gComp2 (own.map (·.2)) gi t gc vs1 gi1 t1 gc1 ge) := by
  obtain ⟨wi, hwi, hhi⟩ := hi
  refine ⟨_, pe_lc2 (g := gOf X.K (own.map (·.2)) t) (tt := uOf X.K gc) (wi1 := iOf X.K gi1) (g1 := gOf X.K vs1 t1) (tt1 := uOf X.K gc1) (te := tOf X.K false ge) hc hN hwi ok hv (fun s H C cl fp => (hg s H C cl fp).can) (fun s H C cl fp => ht s H C cl fp) (fun s H C cl fp => (hi1 s H C cl fp).can) (fun s H C cl fp => (hg1 s H C cl fp).can) (fun s H C cl fp => ht1 s H C cl fp) (fun s H C cl fp => (he s H C cl fp).can) hs hs1, fun H0 M env σ H pa d Q E h q => ?_⟩
  refine comp2_run hT hT1 hhi H0 M env σ H pa d Q E h fun p ws ds H' s hp hpl hd hall => ?_
  subst hd
  have np : ¬ Hd M env pa p := fun z => E.hidden z hp
  have np' : ¬ Vs b M env pa p := by
    cases b with
    | true => exact fun z => np (.inl z)
    | false => exact np
  refine q _ H' s (.lst (.inl (.inl (vw_of np' hpl))) (DpAll_mono (vw_same (Same.refl _) fun a _ _ z => ?_) _ _ hall))
  cases b with
  | true => exact .inl (.inl z)
  | false => exact .inl z
end
end Dn
namespace Dn
open PySem PySem.Spec PyProof.Rows L2
/-! ### a def that calls itself: its reading by the depth -/
theorem psd_none {X : Cx} {sts : List Stmt} : PSsd X sts (fun _ => none) := ⟨fun _ _ _ => False, ⟨fun _ _ _ _ _ _ h => h.elim⟩, fun _ _ _ _ _ _ _ _ _ h _ => by cases h⟩
theorem runF_none (n k : Nat) : runF n k (fun _ => none) = fun _ => none := by
  funext ds
  unfold runF
  split <;> rfl
theorem ok_none {P : Program} {w : World} {K : PySem.W.Frag} {mg : Str → Option Value} {base : Heap} {name : Str} {st : Stmt} {k n : Nat} (N ps : List Str) (T : Df K mg name st ps) (S : FnScope N ps (defScope st)) (hl : ps.length ≤ N.length) (hn : ps.length = n) : Ok P w K mg base name (k + 1) n (fun _ => none) :=
  ok_by N ps (fun _ => none) T S hl rfl hn rfl (runF_none _ _) fun _ _ _ _ _ _ _ _ => psd_none
end Dn
namespace Dn
open PySem PySem.Spec PyProof.Rows L2
/-! ### y = x.pop() -/
def popTo (env : Env) (j i : Nat) : Option Slot → Option Out
  | some (.ow (.lst ds)) => (ds[ds.length - 1]?).bind fun d => some (.nx ((env.set i (.own ds.dropLast)).set j (.val d)))
  | _ => none
def sPopTo (j i : Nat) : GS := fun env => popTo env j i env[i]?
theorem sd_popTo {X : Cx} {pos : Pos} {i j : Nat} {x y : Str} {apos cpos px py : Pos} (hNN : X.N.Nodup) (hj : X.N[j]? = some y) (hy : Loc X.env.scope y) (hN : X.N[i]? = some x) (hv : Vis X.env.scope x) (hd : (x == ("__debug__" : Str)) = false := by decide) (hcd : (x == ("__classdict__" : Str)) = false := by decide)
    (hbase : attributeBase (.Name x px) "pop" X.env (eval (.Name x px) X.env) = eval (.Name x px) X.env := by rfl) (hline : (apos.endLine == cpos.line) = true := by rfl)
    (hs : swapsWith (.Call (.Attribute (.Name x px) "pop" apos) [] [] cpos) (some (.Name y py)) pos.line X.env = pure false := by rfl) (hf : X.fn y = true ∨ X.env.scope.names.lookup y = some .local := by first | exact .inl rfl | exact .inr rfl | assumption) :
    PSd X (.Assign [.Name y py] (.Call (.Attribute (.Name x px) "pop" apos) [] [] cpos) pos) (sPopTo j i) := by
  refine ⟨_, ps_set hNN hj hy (pe_bm0 PySem.F.plainAttrs_list PySem.F.slot_list_pop PySem.F.type_list_pop mt_pop (pe_var hN hv hd hcd) hbase hline) hs hf, fun H0 M env σ H pa o T E h q => ?_⟩
  unfold sPopTo at h
  cases hi : env[i]? with
  | none => rw [hi] at h; cases h
  | some sl =>
    rw [hi] at h
    cases sl with
    | un => cases h
    | fn f => cases h
    | val _ => cases h
    | ow c =>
      cases c with
      | dk _ => cases h
      | dn _ => cases h
      | lst ds =>
        obtain ⟨d, h1, h2⟩ := bind1 (show (ds[ds.length - 1]?).bind _ = some o from h)
        cases h2
        obtain ⟨g1, g2, vs, g3, g4⟩ := E.own i ds hi
        have hl := DpAll_len g4
        obtain ⟨v, hv1, hv2⟩ := DpAll_get g4 h1
        have ms : Same (vw (Hd M env pa) H) (vw (Hd M (env.set i (.own ds.dropLast)) pa) (upd H (pa i) (.lst vs.dropLast))) := fun a o' ho => by
          obtain ⟨z1, z2⟩ := vw_some ho
          have na : a ≠ pa i := fun e => z1 (.inr ⟨i, _, hi, e.symm⟩)
          refine vw_of (fun z => z1 ?_) (by rw [upd_ne na]; exact z2)
          rcases z with z | ⟨k, c, k1, k2⟩
          · exact .inl z
          · rcases set_some k1 with ⟨e1, _, _⟩ | ⟨_, e⟩
            · exact absurd (by rw [← k2, e1]) na
            · exact .inr ⟨k, c, e, k2⟩
        refine ⟨_, g1, .inl ⟨rfl, vs, SqL.of g3⟩, _, vs, v, rfl, rfl, g3, by rw [hl]; exact hv1, ?_⟩
        exact q _ _ pa ((E.write hi (DpAll_dropLast g4)).setVal (Dp_mono ms _ _ hv2))
end Dn

namespace Dn
open PySem PySem.Spec PyProof.Rows L2
/-! ### raise C, C a class of the program -/
section
variable {prog : Program} {w : World} {A : Around} {E : Value → Shared → Prop} {s : Shared} {C : Addr}
theorem isType_cls {o : Obj} {cd} {Q : Bool → Shared → Prop} (ho : s.heap.get? C = some o) (hd : o.data = .cls cd) (hq : Q true s) : wpAny (model prog w) A (isType (.ref C)) Q E s := by
  simp only [isType, loadHead]
  refine wpAny_bind (wpAny_loadPart ho ?_)
  rw [hd]
  exact wpAny_pure hq
theorem sub_nested {k : Value} {dep : Int} {tk : Tok} {o : Obj} {cd} {Q : Fin → Shared → Prop} (hk : k = .int dep tk) (ho : s.heap.get? C = some o) (hd : o.data = .cls cd) (ht : PySem.W.Looks (model prog w) s.heap (typeOf (.ref C)) (.type "type"))
    (hs : PySem.W.Looks (model prog w) s.heap (isSubtype (.ref C) (.ref C)) true) (hq : Q (.done (.ret (.bool true))) s) :
    wpAny (model prog w) A (Builtin.«issubclass.nested» ⟨[.ref C, .ref C, k], []⟩) Q E s := by
  subst hk
  unfold Builtin.«issubclass.nested»
  refine wpAny_bind (ht.here ?_)
  rw [if_pos (by decide)]
  refine wpAny_bind (wpAny_bind (isType_cls ho hd (wpAny_bind (isType_cls ho hd ?_))))
  rw [if_pos (by decide)]
  refine hs.here ?_
  repeat (any_goals (first | assumption | wp_step))
theorem sub_self {o : Obj} {cd} (ho : s.heap.get? C = some o) (hd : o.data = .cls cd) (ht : ∀ M, PySem.W.Looks M s.heap (typeOf (.ref C)) (.type "type")) (hs : ∀ M, PySem.W.Looks M s.heap (isSubtype (.ref C) (.ref C)) true) {Q : Value → Shared → Prop} (hq : Q (.bool true) s) :
    wpAny (model prog w) A (call (.builtin "issubclass") [.ref C, .ref C]) Q E s :=
  call_issubclass (S := fun A R s => s.heap.get? C = some o ∧ (∀ M, PySem.W.Looks M s.heap (typeOf (.ref C)) (.type "type")) ∧ (∀ M, PySem.W.Looks M s.heap (isSubtype (.ref C) (.ref C)) true) ∧ R (.ok (.ret (.bool true))) s) (fun _ _ _ _ _ h => issubclass_outer (sub_nested rfl h.1 hd (h.2.1 _) (h.2.2.1 _) h.2.2.2)) ⟨ho, ht, hs, hq⟩
end
section
variable {X : Cx} {W : WX} {C : Addr} {bmB : List Value} {B newId initId : String} {x : Str} {p pos : Pos}
/-- raise C -/
theorem ps_raiseC (hc : X.calm = true) (tk : Takes X W) (F : ExcBaseFacts B newId initId bmB) (q : PySem.W.excIn X.K C bmB newId = true) (gC : X.mg x = some (.ref C)) (kC : PySem.W.keepIn X.K (.ref C) = true) (r : Raises X (.ref C)) (rs : PySem.W.subIn X.K (.ref C) (.ref C) = some true) (hg : Gl X x)
    (hdb : (x == ("__debug__" : Str)) = false := by decide) : PS X (.Raise (some (.Name x p)) none pos) (fun _ σ H => W (.ref C) none σ H) := by
  refine ⟨fun pins s σ H D I h => ?_⟩
  show wpAny _ _ (do standAt pos; raiseStmt X.env (some (do let v ← eval (.Name x p) X.env; standAt pos; pure v)) none) _ _ _
  refine wpAny_bind (wpAny_standAt ?_)
  unfold raiseStmt
  dsimp only
  refine wpAny_bind (wpAny_bind (ld_glob I hg gC (wpAny_bind (wpAny_standAt (wpAny_pure ?_))) hdb))
  refine wpAny_bind (wpAny_pure ?_)
  dsimp only
  refine wpAny_bind (wpAny_holding ?_)
  unfold excFromValue isExcClass
  obtain ⟨bm, N, nm, qn, bs, hdct, sn, sub, ab, col, dd, k0, k1, k2, k3, k5, mN, hC, hN, hni, T⟩ := exc_obj I.kIn q
  refine wpAny_bind (wpAny_bind (isType_cls hC rfl ?_))
  simp only [if_true]
  obtain ⟨r1, r2⟩ := r (model X.prog X.w) s.heap I.kIn
  refine r1.here ?_
  simp only [if_true]
  refine wpAny_bind (wpAny_call_exc_subT F T hC hN hni (fun h' e hm => ?_) (by show 0 ≤ sizeLine; omega))
  obtain ⟨t, he, _, _⟩ := id hm.there
  have kp := hm.keeps
  have LT : PySem.W.Looks (model X.prog X.w) h' (typeOf (.ref e)) (.ref C) := fun A Q E s k q => wpAny_typeOf_ref (k _ _ he) q
  have KI : X.K.In h' := I.kIn.keeps kp
  have L1 : PySem.W.Looks (model X.prog X.w) h' (isInstance (.ref e) (.type "BaseException")) true := LT.andThen (r1.keeps kp)
  refine wpAny_bind (L1.here ?_)
  simp only [Bool.not_true, Bool.false_eq_true, if_false]
  refine wpAny_pure ?_
  refine wpAny_bind (isType_cls (kp _ _ hC) rfl ?_)
  simp only [if_true]
  refine wpAny_bind (wpAny_holding ?_)
  unfold raisedFor
  rw [if_neg (by decide)]
  refine wpAny_bind (LT.here (wpAny_bind (sub_self (cd := _) (kp _ _ hC) rfl (fun M => (r M s.heap I.kIn).2.keeps kp) (fun M => PySem.W.looks_subIn KI rs) ?_)))
  refine wpAny_bind (wpAny_pure ?_)
  show wpAny _ _ (if true = true then pure _ else _) _ _ _
  rw [if_pos rfl]
  refine wpAny_pure ?_
  unfold setFlight raiseNew
  refine wpAny_bind (wpAny_bind (wpAny_field he rfl (show _ = some Value.none from rfl) ?_))
  rw [if_neg (show ¬ ((Value.none != Value.none) = true) by decide)]
  refine wpAny_pure (wpAny_bind (wpAny_handled ?_))
  rw [I.ok.hd hc]
  have hE : X.xe (.ref e) { s with heap := h' } := tk _ _ (XE.new I kp hm.new he ⟨rfl, rfl⟩ rfl rfl (I.hok.gone hm.new) rfl I.bare h)
  first
    | exact wpAny_throw hE
    | exact wpAny_bind (wpAny_pure (wpAny_throw hE))
end
end Dn

namespace Dn
open PySem PySem.Spec PyProof.Rows L2
/-! ### a def's contract that tells of an exception, too -/
structure FnX (P : Program) (w : World) (K : PySem.W.Frag) (mg : Str → Option Value) (base : Heap) (k : Nat) (f : Addr) (fd : FuncData) (ps : List Str) (sp : Sp) : Prop where
  len : ∀ zs H Q E, sp zs H Q E → zs.length = ps.length
  run : ∀ (A : Around) (out : List PySem.Env) (s : Shared) (H : Hp) (ar : Args) (us : List Value) (zs : List V) (Q : VK) (E : XK), Room k A → A.guards = some [] → Env0 P w K mg base A out s H → BindsTo s fd ar (ps.zip us) → Vals zs us → sp zs H Q E →
    codeAny (model P w) A (.call (.ref f) ar) (CR (L2.CX P w) out P w H s Q E) s
section
variable {P : Program} {w : World} {K : PySem.W.Frag} {mg : Str → Option Value} {base : Heap}
/-- a def by its body -/
theorem fn_x {name qual : Str} {st : Stmt} {f : Addr} {fd : FuncData} {N ps : List Str} {k : Nat} {sp : Sp} (F : Fun K name qual st f fd) (S : FnScope N ps (defScope st)) (len : ∀ zs H Q E, sp zs H Q E → zs.length = ps.length)
    (body : ∀ (cdv : Value) (A : Around) (out : List PySem.Env) (s : Shared) (H : Hp) (zs : List V) (Q : VK) (E : XK), Room k (A.deeper (envOfC qual (defScope st) s.heap.objs.size f cdv)) → (A.deeper (envOfC qual (defScope st) s.heap.objs.size f cdv)).guards = some [] → sp zs H Q E →
      ∃ t, PSs (cxOf (L2.CX P w) P w K mg base N qual (defScope st) f cdv A out s H E) (defBody st) t ∧ t { nx := fun _ H' => Q .non H', rt := Q } (L2.start N zs) H) : FnX P w K mg base (k + 1) f fd ps sp := by
  obtain ⟨oc, od, kV, doc, pm, an, cdv, ct, osl, rfl, lk, hcd⟩ := F.ex
  refine ⟨len, fun A out s H ar us zs Q E hr hG e0 hb r hsp => ?_⟩
  have hl := len _ _ _ _ hsp
  have up : ∀ b o, base.get? b = some o → s.heap.get? b = some o := fun b o e => (e0.bs b o e).1
  have KX : K.In s.heap := e0.mod.kin.keeps up
  have lim : s.heap.NoLimit := e0.mod.nolimit.keeps up
  refine codeAny_call_function hr.depth (KX _ _ lk) rfl S.co S.gen rfl (PySem.W.codeRec_of KX hcd) (hb _ _ _ _ ?_)
  refine wpAny_newFunctionEnv_cells S.kind (fun y hy => ?_) fun env he s1 x => ?_
  · rcases S.par y.1 (List.of_mem_zip (show (y.1, y.2) ∈ ps.zip us from hy)).1 with q | q
    · exact .inl q
    · exact .inr ⟨q, PySem.W.cellsFrom_some _ _ _ (.inl q)⟩
  subst he
  refine ⟨lim.keeps x.toInCall.keep, codeAny_func ?_⟩
  obtain ⟨t, ht, hq⟩ := body cdv A out s H zs Q E (hr.deeper _) hG hsp
  have I : Inv (cxOf (L2.CX P w) P w K mg base N qual (defScope st) f cdv A out s H E) [] (L2.start N zs) H s1 := inv_start S hr.hd e0 hl r x
  refine wpAny_mono (ht.run [] s1 (L2.start N zs) H _ I hq) (fun fl s' hs => ?_) fun e s' hs => hs
  cases fl with
  | ret u =>
    obtain ⟨v, σ', H', J, rv, q⟩ := hs
    exact ⟨v, H', J.os, J.bare, J.base, J.hok, rv, q⟩
  | next =>
    obtain ⟨σ', H', J, q⟩ := hs
    exact ⟨V.non, H', J.os, J.bare, J.base, J.hok, (rfl : Value.none = Value.none), q⟩
  | brk => exact (hs.elim fun _ z => z.elim fun _ z => z.2).elim
  | cont => exact (hs.elim fun _ z => z.elim fun _ z => z.2).elim
end
section
variable {X : Cx} {W : WX} {k : Nat} {f : Addr} {fd : FuncData} {ps : List Str} {sp : Sp} {x : Str} {p pos : Pos} {e : Expr} {es : List Expr} {t : TA}
theorem run_x {pins : List (Addr × Obj)} {σ : Sg} {H : Hp} {s : Shared} {Q : VK} {E : XK} {us : List Value} {zs : List V} (F : FnX X.prog X.w X.K X.mg X.base k f fd ps sp) (tk : Takes X W) (hr : Room k X.A) (hG : X.A.guards = some []) (hb : Binds X.K fd ps [])
    (I : Inv X pins σ H s) (r : Vals zs us) (h : sp zs H Q E) (hE : ∀ cls d H', E cls d H' → W cls d σ H') : wpAny (model X.prog X.w) X.A (call (.ref f) us) (L2.EP X pins σ Q) X.xe s := by
  have hl : (us ++ []).length = ps.length := by rw [List.append_nil, ← r.length]; exact F.len _ _ _ _ h
  have hB := hb s us I.kIn hl
  rw [List.append_nil] at hB
  refine wpAny_call (codeAny_mono (F.run X.A X.stack s H ⟨us, []⟩ us zs Q E hr hG I.env0 hB r h) fun rr s' hq => ?_)
  cases rr with
  | error z => exact tk _ _ (XE.of_call I hE hq)
  | ok fl => cases fl with
    | ret u => exact I.after hq
    | _ => exact False.elim hq
end
end Dn

namespace Dn
open PySem PySem.Spec PyProof.Rows L2
/-- the state at a def's begin -/
theorem eo_start {K : PySem.W.Frag} {N : List Str} {n : Nat} {vs : List V} {H : Hp} {M : Addr → Prop} {ds : List D} (hl : n ≤ N.length) (hv : DpAll K (vw M H) vs ds) (hn : ds.length = n) (nf : NF M H) : EO K H M (startE N.length ds) (L2.start N vs) H (fun _ => 0) := by
  have hlen := DpAll_len hv
  have noown : ∀ (i : Nat) (es : Cont), (startE N.length ds)[i]? ≠ some (Slot.ow es) := fun i es z => by
    unfold startE at z
    by_cases hi : i < ds.length
    · rw [List.getElem?_append_left (by simpa using hi), List.getElem?_map] at z
      cases hx : ds[i]? with
      | none => rw [hx] at z; cases z
      | some u => rw [hx] at z; cases z
    · rw [List.getElem?_append_right (by simpa using hi), List.getElem?_replicate] at z
      split at z <;> cases z
  refine ⟨Same.refl H, nf, ?_, fun i e z => ?_, fun i es z => absurd z (noown i es), fun i j es fs z => absurd z (noown i es), fun i f z => absurd z (startE_nofn i f)⟩
  · unfold startE L2.start
    simp only [List.length_append, List.length_map, List.length_replicate]
    omega
  · unfold startE at z
    by_cases hi : i < ds.length
    · rw [List.getElem?_append_left (by simpa using hi), List.getElem?_map] at z
      cases hx : ds[i]? with
      | none => rw [hx] at z; cases z
      | some u =>
        rw [hx] at z
        cases z
        obtain ⟨v, hv1, hv2⟩ := DpAll_get hv hx
        refine ⟨v, ?_, Dp_mono (vw_same (Same.refl H) fun a _ _ z => ?_) _ _ hv2⟩
        · unfold L2.start
          rw [List.getElem?_append_left (by rw [List.length_map]; omega), List.getElem?_map, hv1]
          rfl
        · rcases z with z | ⟨j, es, z, _⟩
          · exact z
          · exact absurd z (noown j es)
    · rw [List.getElem?_append_right (by simpa using hi), List.getElem?_replicate] at z
      split at z <;> cases z
/-- a def that ends with an exception of C where a test of its data holds -/
def SpX (K : PySem.W.Frag) (n m : Nat) (C : Addr) (g : GB) : Sp := fun vs H _ E => ∃ ds M, DpAll K (vw M H) vs ds ∧ ds.length = n ∧ NF M H ∧ g (startE m ds) = some true ∧ ∀ H', Same H H' → E (.ref C) none H'
theorem SpX.len {K : PySem.W.Frag} {n m : Nat} {C : Addr} {g : GB} {vs : List V} {H : Hp} {Q : VK} {E : XK} (h : SpX K n m C g vs H Q E) : vs.length = n := by
  obtain ⟨ds, M, h1, h2, _⟩ := h
  rw [DpAll_len h1, h2]
section
variable {X : Cx} {W : WX} {c : Expr} {gB : GB} {gS gT' : GS} {C : Addr} {rs sts els : List Stmt} {pos : Pos}
/-- if c: raise C -/
theorem pss_ifraise (hc : PTd X c gB) (hr : PSs X rs (fun _ σ H => W (.ref C) none σ H)) (ha : PSsd X els gS) (hs : PSsd X sts gT') :
    ∃ t, PSs X (.If c rs els pos :: sts) t ∧ ∀ (H0 : Hp) (M : Addr → Prop) (env : Env) (σ : Sg) (H : Hp) (pa : Nat → Addr) (T : Ends), EO X.K H0 M env σ H pa → gB env = some true → (∀ H', Same H H' → W (.ref C) none σ H') → t T σ H := by
  obtain ⟨t0, ht0, hh0⟩ := hc
  obtain ⟨t1, ht1, _⟩ := ha
  obtain ⟨t2, ht2, _⟩ := hs
  refine ⟨_, pss_cons (ps_if ht0 hr ht1) ht2, fun H0 M env σ H pa T E h q => ?_⟩
  exact hh0 H0 M env σ H pa true _ E h fun H' s => q H' s
end
section
variable {P : Program} {w : World} {K : PySem.W.Frag} {mg : Str → Option Value} {base : Heap}
/-- a def of the text that raises, known by its name -/
def OkX (P : Program) (w : World) (K : PySem.W.Frag) (mg : Str → Option Value) (base : Heap) (name : Str) (k n m : Nat) (C : Addr) (g : GB) : Prop :=
  ∃ f fd ps, mg name = some (.ref f) ∧ PySem.W.keepIn K (.ref f) = true ∧ Binds K fd ps [] ∧ FnX P w K mg base k f fd ps (SpX K n m C g)
theorem okx_of {name : Str} {st : Stmt} {N ps : List Str} {k : Nat} {C : Addr} {g : GB} {gS gT' : GS} {c : Expr} {rs els sts : List Stmt} {pos : Pos} (T : Df K mg name st ps) (S : FnScope N ps (defScope st)) (hl : ps.length ≤ N.length) (hB : defBody st = .If c rs els pos :: sts)
    (body : ∀ (f : Addr) (cdv : Value) (A : Around) (out : List PySem.Env) (s : Shared) (H : Hp) (E : XK), Room k (A.deeper (envOfC name (defScope st) s.heap.objs.size f cdv)) → (A.deeper (envOfC name (defScope st) s.heap.objs.size f cdv)).guards = some [] →
      PTd (cxOf (L2.CX P w) P w K mg base N name (defScope st) f cdv A out s H E) c g ∧
      (∀ W, Takes (cxOf (L2.CX P w) P w K mg base N name (defScope st) f cdv A out s H E) W → PSs (cxOf (L2.CX P w) P w K mg base N name (defScope st) f cdv A out s H E) rs (fun _ σ H => W (.ref C) none σ H)) ∧
      PSsd (cxOf (L2.CX P w) P w K mg base N name (defScope st) f cdv A out s H E) els gS ∧ PSsd (cxOf (L2.CX P w) P w K mg base N name (defScope st) f cdv A out s H E) sts gT') : OkX P w K mg base name (k + 1) ps.length N.length C g := by
  obtain ⟨f, fd, F, hm, hb⟩ := T
  refine ⟨f, fd, ps, hm, F.kp, hb, fn_x F S (fun zs H Q E h => h.len) fun cdv A out s H zs Q E hr hG hsp => ?_⟩
  obtain ⟨b1, b2, b3, b4⟩ := body f cdv A out s H E hr hG
  obtain ⟨t, ht, hh⟩ := pss_ifraise (W := fun cls d _ H => E cls d H) (C := C) (pos := pos) b1 (b2 (fun cls d _ H => E cls d H) (takes_of rfl rfl rfl rfl)) b3 b4
  obtain ⟨ds, M, h1, h2, h3, h4, h5⟩ := hsp
  rw [hB]
  exact ⟨t, ht, hh H M _ _ H _ _ (eo_start hl h1 h2 h3) h4 h5⟩
end
end Dn

namespace Dn
open PySem PySem.Spec PyProof.Rows L2
/-- reading of a call that may raise -/
def tCX (sp : Sp) (W : WX) (t : TA) : TE := fun σ H Q => t σ H fun zs H1 => sp zs H1 Q fun cls d H' => W cls d σ H'
section
variable {X : Cx} {W : WX} {k n m : Nat} {x : Str} {p pos : Pos} {e : Expr} {es : List Expr} {t : TA} {C : Addr} {g : GB}
theorem pe_callX (O : OkX X.prog X.w X.K X.mg X.base x k n m C g) (tk : Takes X W) (hr : Room k X.A) (hG : X.A.guards = some []) (ha : PA X (e :: es) t) (hg : Gl X x := by rfl) (hdb : (x == ("__debug__" : Str)) = false := by decide)
    (he : starEach (e :: es) X.env = (false, eval e X.env) :: starEach es X.env := by rfl) (hpl : (backTo pos (starEach es X.env)).any (·.1) = false := by rfl) : PE X (.Call (.Name x p) (e :: es) [] pos) (tCX (SpX X.K n m C g) W t) := by
  obtain ⟨f, fd, ps, hm, hk, hb, F⟩ := O
  exact ⟨fun pins s σ H Q I h =>
    wpAny_Call_Name_kw (ld_glob I hg hm (PySem.W.callWith_K (h₀ := X.base) I.ok.mod.kin hk (thn (ha.run pos pins s σ H _ I h) fun us s1 hh => ⟨hh.elim fun _ z => z.elim fun _ z => z.1.kIn, hh.elim fun zs z => z.elim fun H1 z => run_x F tk hr hG hb z.1 z.2.1 z.2.2 fun _ _ _ q => q⟩) he hpl) hdb)⟩
/-- reading of: return isinstance(e, C) and isinstance(e, T), e the exception of the suite, in slot i -/
def tIs2 (K : PySem.W.Frag) (C : Addr) (T : String) (i : Nat) (a : Addr) : TS := tRet (tAndV (tCB (rIsE K C a) (tCons (tVar i) (tCons (tC (.ref C)) tNil))) (tCB (rIsE K C a) (tCons (tVar i) (tCons (tC (.ty T)) tNil))))
def tsIs2 (K : PySem.W.Frag) (C : Addr) (T : String) (i : Nat) : Addr → Value → Option Addr → TS := fun a cls d D σ H => (cls = .ref C ∧ d = none) ∧ tIs2 K C T i a D σ H
theorem pss_is2 {i : Nat} {nv y z : Str} {T : String} {a : Addr} {oe : Obj} {cls : Value} {d : Option Addr} {pn : List (Addr × Obj)} {p1 p2 p3 p4 p5 p6 p7 p8 p9 p10 : Pos} (hz : Zc cls d oe) (hf : ∃ vs, oe.data = .fields vs) (EC : ExcC X.K C)
    (hN : X.N[i]? = some nv) (hv : Vis X.env.scope nv) (hi : Gl X "isinstance") (mi : X.mg "isinstance" = none) (hy : Gl X y) (my : X.mg y = some (.ref C)) (hzz : Gl X z) (mz : X.mg z = none) (bz : bootBuiltins z = some (.type T))
    (d1 : (nv == ("__debug__" : Str)) = false := by decide) (d2 : (nv == ("__classdict__" : Str)) = false := by decide) (d3 : (y == ("__debug__" : Str)) = false := by decide) (d4 : (z == ("__debug__" : Str)) = false := by decide) (d5 : z ≠ "__name__" := by decide) :
    PSs (X.suite a ((a, oe) :: pn)) [.Return (some (.BoolOp .And [.Call (.Name "isinstance" p1) [.Name nv p2, .Name y p3] [] p4, .Call (.Name "isinstance" p5) [.Name nv p6, .Name z p7] [] p8] p9)) p10] (tsIs2 X.K C T i a cls d) := by
  refine ⟨fun pins s σ H D I h => ?_⟩
  obtain ⟨⟨rfl, rfl⟩, h⟩ := h
  refine (pss_one (ps_ret (pe_and (pe_callB (call_isE EC hz hf) hi mi (by decide +kernel) (pa_cons (pe_var hN hv d1 d2) (pa_cons (pe_glob (v := .ref C) hy my (show L2.RelV (.ref C) (.ref C) from rfl) d3) pa_nil)))
    (pe_one (pe_callB (call_isE EC hz hf) hi mi (by decide +kernel) (pa_cons (pe_var hN hv d1 d2) (pa_cons (pe_bltn (v := .ty T) hzz mz bz (show L2.RelV (.ty T) (.type T) from rfl) d5 d4) pa_nil))))))).run pins s σ H D I h
end
end Dn

namespace Dn
open PySem PySem.Spec PyProof.Rows L2
/-! ### len of a name's own dict -/
theorem call_lenN {X : Cx} : CallR X (.builtin "len") (fun xs H Q => ∃ (a : Addr) (P : Program) (w : World) (vs : List Ent) (kvs : List (NestedKey × D)), xs = [.ref a] ∧ H a = some (DkO P w a vs) ∧ Ents X.K H vs kvs ∧ Q (.int ((kvs.length : Nat) : Int)) H) := by
  intro pins s σ H xs us Q I r h
  obtain ⟨a, P, w, vs, kvs, rfl, e, en, q⟩ := h
  obtain ⟨u, rfl, rx⟩ := vals1 r
  obtain rfl : u = .ref a := rx
  obtain ⟨z, hd, xs, rel, dd⟩ := dn_of I e en
  have hx : xs.length = kvs.length := by rw [← rel.len, en.len]
  have hs := sizeLine_eq
  have hl : xs.length ≤ sizeLine := by rw [← rel.len]; exact z
  exact call_len_dictH hd dd (by omega) ⟨.int _, H, I.tok _, ⟨_, by rw [hx]⟩, q⟩
def gNLen (i : Nat) : GE := fun env => (dnKeys env[i]?).bind fun ds => some (.int ((ds.length : Nat) : Int))
section
variable {X : Cx} {b : Bool} {x : Str} {p p2 pos : Pos} {i : Nat}
theorem pd_lenN (hg : Gl X "len") (hm : X.mg "len" = none) (hN : X.N[i]? = some x) (hv : Vis X.env.scope x)
    (hd : (x == ("__debug__" : Str)) = false := by decide) (hcd : (x == ("__classdict__" : Str)) = false := by decide)
    (he : starEach [.Name x p2] X.env = (false, eval (.Name x p2) X.env) :: starEach [] X.env := by rfl) (hpl : (backTo pos (starEach [] X.env)).any (·.1) = false := by rfl) : PEd X b (.Call (.Name "len" p) [.Name x p2] [] pos) (gNLen i) := by
  refine ⟨_, pe_callB (x := "len") call_lenN hg hm (by decide +kernel) (pa_cons (pe_var hN hv hd hcd) pa_nil he) (by decide) (by decide) he hpl, fun H0 M env σ H pa d Q E h q => ?_⟩
  obtain ⟨ds, h1, h2⟩ := bind1 h
  cases h2
  obtain ⟨kvs, g1, rfl⟩ := dnKeys_some h1
  obtain ⟨e1, P, w, vs, e2, e3⟩ := E.dn g1
  refine ⟨_, e1, pa i, P, w, vs, kvs, rfl, e2, e3.mono vw_le, ?_⟩
  have : (kData kvs).length = kvs.length := by unfold kData; rw [List.length_map]
  rw [this] at q
  exact q _ H (Same.refl H) (.int _)
end
/-! ### list(range(a, b)) -/
def asRg : D → D → Option D
  | .int i, .int j => if (rgOk i && rgOk j && decide ((j - i).toNat ≤ 16777216)) = true then some (.list (rngD i (j - i).toNat)) else none
  | _, _ => none
theorem dp_rg {K : PySem.W.Frag} {H : Hp} : ∀ (l : List Nat) (i : Int), DpAll K H (l.map fun k => V.int (i + (k : Nat))) (l.map fun (k : Nat) => PyData.int (i + (k : Int)))
  | [], _ => .nil
  | _ :: l, i => .cons (.int _) (dp_rg l i)
theorem pd_listRg {X : Cx} {b : Bool} {e1 e2 : Expr} {ga gb : GE} {p p2 pos pos2 : Pos} (hc : X.calm = true) (hgl : Gl X "list") (hml : X.mg "list" = none) (hg : Gl X "range") (hm : X.mg "range" = none) (ha : PEd X true e1 ga) (hb : PEd X true e2 gb)
    (na : starEach [e1, e2] X.env = (false, eval e1 X.env) :: starEach [e2] X.env := by rfl) (nb : starEach [e2] X.env = (false, eval e2 X.env) :: starEach [] X.env := by rfl) (hp : (backTo pos2 (starEach [e2] X.env)).any (·.1) = false := by rfl)
    (nc : starEach [.Call (.Name "range" p2) [e1, e2] [] pos2] X.env = (false, eval (.Call (.Name "range" p2) [e1, e2] [] pos2) X.env) :: starEach [] X.env := by rfl) : PEd X b (.Call (.Name "list" p) [.Call (.Name "range" p2) [e1, e2] [] pos2] [] pos) (g2 asRg ga gb) := by
  obtain ⟨t1, ht1, hh1⟩ := ha
  obtain ⟨t2, ht2, hh2⟩ := hb
  refine ⟨_, pe_listRg hc hgl hml (prg_2 hg hm ht1 ht2 na nb hp) nc, fun H0 M env σ H pa d Q E h q => ?_⟩
  obtain ⟨d1, d2, h1, h2, h3⟩ := bind2 h
  cases d1 with
  | int i =>
    cases d2 with
    | int j =>
      have h3 : (if (rgOk i && rgOk j && decide ((j - i).toNat ≤ 16777216)) = true then some (PyData.list (rngD i (j - i).toNat)) else none) = some d := h3
      split at h3
      · rename_i hn
        rw [Bool.and_eq_true, Bool.and_eq_true] at hn
        have hi := rgOk_of hn.1.1
        have hj := rgOk_of hn.1.2
        have hk := of_decide_eq_true hn.2
        cases h3
        refine hh1 H0 M env σ H pa _ _ E h1 fun v H1 s1 hv => hh2 H0 M env σ H1 pa _ _ (E.up s1) h2 fun u H2 s2 hu => ?_
        cases hv
        cases hu
        refine ⟨i, j, rfl, rfl, ?_, fun l hl => ?_⟩
        · have h62 : (2 : Int) ^ 62 = 4611686018427387904 := by decide
          unfold RgOk
          refine ⟨?_, ?_, ?_, ?_, hk⟩
          all_goals omega
        · have E2 := E.up (s1.trans s2)
          have nP := fun z => Vs_nf b E2 l z hl
          refine q _ _ ((s1.trans s2).trans (same_upd hl)) (.lst (.inl (.inl (vw_of nP upd_same))) ?_)
          exact dp_rg (List.range (j - i).toNat) i
      · cases h3
    | _ => cases h3
  | _ => cases h3
/-! ### texts that may raise: outcomes -/
inductive OX where
  | ok (o : Out)
  | rs (e : Env)
abbrev GX := Env → Option OX
abbrev GEX := Env → Option (Option D)
abbrev GLX := Env → Option (Option (List D))
def thenX (b : GX) : OX → Option OX
  | .ok (.nx e) => b e
  | .ok (.ret d) => some (.ok (.ret d))
  | .ok (.bk e) => some (.ok (.bk e))
  | .ok (.ct e) => some (.ok (.ct e))
  | .rs e => some (.rs e)
def xS (g : GS) : GX := fun env => (g env).bind fun o => some (.ok o)
def xSeq (a b : GX) : GX := fun env => (a env).bind (thenX b)
def xIf (c : GB) (a b : GX) : GX := fun env => (c env).bind fun k => if k = true then a env else b env
def xRaise : GX := fun env => some (.rs env)
def turnX (k : GX) : OX → Option OX
  | .ok (.nx e) => k e
  | .ok (.ct e) => k e
  | .ok (.bk e) => some (.ok (.nx e))
  | .ok (.ret d) => some (.ok (.ret d))
  | .rs e => some (.rs e)
def forX (t : GT) (body : GX) : List D → Env → Option OX
  | [], env => some (.ok (.nx env))
  | d :: ds, env => (t d env).bind fun e => (body e).bind (turnX (forX t body ds))
def forX1 (t : GT) (body : GX) (env : Env) : Option (List D) → Option OX
  | none => some (.rs env)
  | some ds => forX t body ds env
def xFor (a : GLX) (t : GT) (body : GX) : GX := fun env => (a env).bind (forX1 t body env)
def xE (g : GE) : GEX := fun env => (g env).bind fun d => some (some d)
def xA (g : GA) : GLX := fun env => (g env).bind fun ds => some (some ds)
def xArgs (F : List D → Option (Option D)) (gs : GA) : GEX := fun env => (gs env).bind F
def endX (env : Env) : Option D → OX
  | none => .rs env
  | some d => .ok (.ret d)
def xRet (g : GEX) : GX := fun env => (g env).bind fun r => some (endX env r)
def setX (i : Nat) (env : Env) : Option D → OX
  | none => .rs env
  | some d => .ok (.nx (env.set i (.val d)))
def xSet (i : Nat) (g : GEX) : GX := fun env => (g env).bind fun r => some (setX i env r)
def appX (i : Nat) (env : Env) : Option D → Option OX
  | none => some (.rs env)
  | some d => (appS env i d env[i]?).bind fun o => some (.ok o)
def xApp (i : Nat) (g : GEX) : GX := fun env => (g env).bind (appX i env)
def lstX : Option D → Option (Option (List D))
  | none => some none
  | some d => (asLst d).bind fun ds => some (some ds)
def xLst (g : GEX) : GLX := fun env => (g env).bind lstX
def oneX : Option D → Option D
  | none => none
  | some d => some (.tuple [d])
def xOne (g : GEX) : GEX := fun env => (g env).bind fun r => some (oneX r)
def cmpX (f : D → D → Option D) : Option D → Option (Option D) → Option (Option D)
  | none, _ => some none
  | some _, none => none
  | some _, some none => some none
  | some a, some (some b) => (f a b).bind fun d => some (some d)
def xCmp (f : D → D → Option D) (a b : GEX) : GEX := fun env => (a env).bind fun r => cmpX f r (b env)
def tryX (h : GS) : OX → Option Out
  | .ok o => some o
  | .rs e => h e
def gTry (g : GX) (h : GS) : GS := fun env => (g env).bind (tryX h)
def endFX : OX → Option (Option D)
  | .ok (.ret d) => some (some d)
  | .ok (.nx _) => some (some .none)
  | .rs _ => some none
  | _ => none
def runX (n k : Nat) (body : GX) (ds : List D) : Option (Option D) := if ds.length = k then (body (startE n ds)).bind endFX else none
/-! ### what they promise -/
def PostX (K : PySem.W.Frag) (H0 : Hp) (M : Addr → Prop) (W : WX) (C : Addr) (o : OX) (T : Ends) : Prop := match o with
  | .ok o => Post K H0 M o T
  | .rs env => ∀ σ H pa, EO K H0 M env σ H pa → W (.ref C) none σ H
def RdX (K : PySem.W.Frag) (W : WX) (C : Addr) (t : TS) (g : GX) : Prop := ∀ (H0 : Hp) (M : Addr → Prop) (env : Env) (σ : Sg) (H : Hp) (pa : Nat → Addr) (o : OX) (T : Ends), EO K H0 M env σ H pa → g env = some o → PostX K H0 M W C o T → t T σ H
def PSX (X : Cx) (W : WX) (C : Addr) (st : Stmt) (g : GX) : Prop := ∃ t, PS X st t ∧ RdX X.K W C t g
def PSsX (X : Cx) (W : WX) (C : Addr) (sts : List Stmt) (g : GX) : Prop := ∃ t, PSs X sts t ∧ RdX X.K W C t g
def PEX (X : Cx) (W : WX) (C : Addr) (b : Bool) (e : Expr) (g : GEX) : Prop := ∃ t, PE X e t ∧ ∀ (H0 : Hp) (M : Addr → Prop) (env : Env) (σ : Sg) (H : Hp) (pa : Nat → Addr) (r : Option D) (Q : VK), EO X.K H0 M env σ H pa → g env = some r →
  (∀ d, r = some d → ∀ v H', Same H H' → Dp X.K (vw (Vs b M env pa) H') v d → Q v H') → (r = none → ∀ H', Same H H' → W (.ref C) none σ H') → t σ H Q
def PIX (X : Cx) (W : WX) (C : Addr) (tg iter : Expr) (b : Bool) (g : GLX) : Prop := ∃ wi, PI X tg iter wi ∧ ∀ (H0 : Hp) (M : Addr → Prop) (env : Env) (σ : Sg) (H : Hp) (pa : Nat → Addr) (r : Option (List D)) (R : It → Hp → Prop), EO X.K H0 M env σ H pa → g env = some r →
  (∀ ds, r = some ds → ∀ J H', Same H H' → Wk X.K (vw (Vs b M env pa) H') J ds → R J H') → (r = none → ∀ H', Same H H' → W (.ref C) none σ H') → wi σ H R
section
variable {X : Cx} {W : WX} {C : Addr} {b : Bool} {e a c tg iter : Expr} {es : List Expr} {pos : Pos} {st : Stmt} {sts body : List Stmt} {g g' : GX} {gS : GS} {cB : GB} {ga gb : GEX} {gE : GE} {gs : GA}
theorem psx_of (h : PSd X st gS) : PSX X W C st (xS gS) := by
  obtain ⟨t, ht, hh⟩ := h
  refine ⟨t, ht, fun H0 M env σ H pa o T E h q => ?_⟩
  obtain ⟨o1, h1, h2⟩ := bind1 h
  cases h2
  exact hh H0 M env σ H pa o1 T E h1 q
theorem pssx_of (h : PSsd X sts gS) : PSsX X W C sts (xS gS) := by
  obtain ⟨t, ht, hh⟩ := h
  refine ⟨t, ht, fun H0 M env σ H pa o T E h q => ?_⟩
  obtain ⟨o1, h1, h2⟩ := bind1 h
  cases h2
  exact hh H0 M env σ H pa o1 T E h1 q
theorem pssx_one (h1 : PSX X W C st g) : PSsX X W C [st] g := by
  obtain ⟨t, ht, hh⟩ := h1
  exact ⟨t, pss_one ht, hh⟩
theorem pssx_cons (h1 : PSX X W C st g) (h2 : PSsX X W C sts g') : PSsX X W C (st :: sts) (xSeq g g') := by
  obtain ⟨t, ht, hh⟩ := h1
  obtain ⟨u, hu, hh'⟩ := h2
  refine ⟨_, pss_cons ht hu, fun H0 M env σ H pa o T E h q => ?_⟩
  obtain ⟨o1, h1, h2⟩ := bind1 h
  refine hh H0 M env σ H pa o1 { T with nx := u T } E h1 ?_
  cases o1 with
  | ok o1 =>
    cases o1 with
    | nx env1 => exact fun σ' H' pa' E' => hh' H0 M env1 σ' H' pa' o T E' h2 q
    | ret d => cases h2; exact q
    | bk env1 => cases h2; exact q
    | ct env1 => cases h2; exact q
  | rs env1 => cases h2; exact q
theorem psx_raise {x : Str} {p : Pos} {bmB : List Value} {B newId initId : String} (hc : X.calm = true) (tk : Takes X W) (F : ExcBaseFacts B newId initId bmB) (q : PySem.W.excIn X.K C bmB newId = true) (gC : X.mg x = some (.ref C)) (kC : PySem.W.keepIn X.K (.ref C) = true) (r : Raises X (.ref C)) (rs : PySem.W.subIn X.K (.ref C) (.ref C) = some true) (hg : Gl X x := by rfl)
    (hdb : (x == ("__debug__" : Str)) = false := by decide) : PSX X W C (.Raise (some (.Name x p)) none pos) xRaise :=
  ⟨_, ps_raiseC hc tk F q gC kC r rs hg hdb, fun H0 M env σ H pa o T E h q => by cases h; exact q σ H pa E⟩
theorem psx_if (hc : PTd X c cB) (ha : PSsX X W C sts g) (hb : PSsX X W C body g') : PSX X W C (.If c sts body pos) (xIf cB g g') := by
  obtain ⟨t0, ht0, hh0⟩ := hc
  obtain ⟨t1, ht1, hh1⟩ := ha
  obtain ⟨t2, ht2, hh2⟩ := hb
  refine ⟨_, ps_if ht0 ht1 ht2, fun H0 M env σ H pa o T E h q => ?_⟩
  obtain ⟨k, h1, h2⟩ := bind1 h
  refine hh0 H0 M env σ H pa k _ E h1 fun H' s => ?_
  cases k with
  | true =>
    rw [if_pos rfl] at h2 ⊢
    exact hh1 H0 M env σ H' pa o T (E.up s) h2 q
  | false =>
    rw [if_neg (by decide)] at h2 ⊢
    exact hh2 H0 M env σ H' pa o T (E.up s) h2 q
/-! expressions -/
theorem px_of (h : PEd X b e gE) : PEX X W C b e (xE gE) := by
  obtain ⟨t, ht, hh⟩ := h
  refine ⟨t, ht, fun H0 M env σ H pa r Q E h q _ => ?_⟩
  obtain ⟨d, h1, h2⟩ := bind1 h
  cases h2
  exact hh H0 M env σ H pa d Q E h1 (q d rfl)
theorem px_one {x1} (h : PEX X W C b e ga) (hs : starEach [e] X.env = (false, eval e X.env) :: starEach [] X.env := by rfl) : PEX X W C b (.Tuple [e] x1 pos) (xOne ga) := by
  obtain ⟨t, ht, hh⟩ := h
  refine ⟨_, pe_tup (pa_cons ht pa_nil hs), fun H0 M env σ H pa r Q E h q qn => ?_⟩
  obtain ⟨r1, h1, h2⟩ := bind1 h
  cases h2
  refine hh H0 M env σ H pa r1 _ E h1 (fun d hd v H' s hv => ?_) (fun hr => ?_)
  · subst hd
    refine ⟨by rw [← lim_eq]; show 1 ≤ lim; decide, fun p hp => ?_⟩
    have nP := fun z => Vs_nf b (E.up s) p z hp
    exact q _ rfl _ _ (s.trans (same_upd hp)) (.tup (.inl (.inl (vw_of nP upd_same))) (DpAll_mono (vw_up (same_upd hp)) _ _ (.cons hv .nil)))
  · subst hr
    exact qn rfl
theorem px_cmp {op : CmpOp} {r : R2} {f : D → D → Option D} (ho : OpR X (compareOp op) r) (hf : OpD X.K r f) (ha : PEX X W C b a ga) (hb : PEX X W C b c gb) (hm : behindInMarks op c = false) : PEX X W C b (.Compare a [op] [c] pos) (xCmp f ga gb) := by
  obtain ⟨ta, pa', ha⟩ := ha
  obtain ⟨tb, pb', hb⟩ := hb
  refine ⟨_, pe_cmpR ho pa' pb' hm, fun H0 M env σ H pa r Q E h q qn => ?_⟩
  obtain ⟨r1, h1, h2⟩ := bind1 h
  refine ha H0 M env σ H pa r1 _ E h1 (fun d hd x H1 s1 hx => ?_) (fun hr => ?_)
  · subst hd
    cases h3 : gb env with
    | none => rw [h3] at h2; cases h2
    | some r2 =>
      rw [h3] at h2
      refine hb H0 M env σ H1 pa r2 _ (E.up s1) h3 (fun d2 hd2 y H2 s2 hy => ?_) (fun hr => ?_)
      · subst hd2
        obtain ⟨z, h4, h5⟩ := bind1 (show (f d d2).bind (fun d => some (some d)) = some r from h2)
        cases h5
        exact hf _ H2 x y d d2 z Q (Vs_nf b (E.up (s1.trans s2))) (Dp_mono (vw_up s2) _ _ hx) hy h4 fun v H'' s' hv => q z rfl v H'' ((s1.trans s2).trans s') hv
      · subst hr
        cases h2
        exact fun H' s' => qn rfl H' (s1.trans s')
  · subst hr
    cases h2
    exact qn rfl
/-! statements of them -/
theorem psx_ret (he : PEX X W C true e ga) : PSX X W C (.Return (some e) pos) (xRet ga) := by
  obtain ⟨t, ht, hh⟩ := he
  refine ⟨_, ps_ret ht, fun H0 M env σ H pa o T E h q => ?_⟩
  obtain ⟨r, h1, h2⟩ := bind1 h
  cases h2
  refine hh H0 M env σ H pa r _ E h1 (fun d hd v H' s hv => ?_) (fun hr H' s => ?_)
  · subst hd
    exact q v H' (E.same.trans s) hv
  · subst hr
    exact q σ H' pa (E.up s)
theorem psx_set {i : Nat} {x : Str} {pos' : Pos} (hN : X.N.Nodup) (hi : X.N[i]? = some x) (hx : Loc X.env.scope x) (he : PEX X W C false e ga) (hs : swapsWith e (some (.Name x pos')) pos.line X.env = pure false := by rfl) (hf : X.fn x = true ∨ X.env.scope.names.lookup x = some .local := by first | exact .inl rfl | exact .inr rfl | assumption) :
    PSX X W C (.Assign [.Name x pos'] e pos) (xSet i ga) := by
  obtain ⟨t0, ht, hh⟩ := he
  refine ⟨_, ps_set hN hi hx ht hs hf, fun H0 M env σ H pa o T E h q => ?_⟩
  obtain ⟨r, h1, h2⟩ := bind1 h
  cases h2
  refine hh H0 M env σ H pa r _ E h1 (fun d hd v H' s hv => ?_) (fun hr H' s => ?_)
  · subst hd
    exact q _ H' pa ((E.up s).setVal hv)
  · subst hr
    exact q σ H' pa (E.up s)
/-! loops -/
theorem ix_of {gL : GA} (h : PId X tg iter b gL) : PIX X W C tg iter b (xA gL) := by
  obtain ⟨t, ht, hh⟩ := h
  refine ⟨t, ht, fun H0 M env σ H pa r R E h q _ => ?_⟩
  obtain ⟨ds, h1, h2⟩ := bind1 h
  cases h2
  exact hh H0 M env σ H pa ds R E h1 (q ds rfl)
theorem ix_list (he : PEX X W C b iter ga) : PIX X W C tg iter b (xLst ga) := by
  obtain ⟨t0, ht, hh⟩ := he
  refine ⟨_, pi_list ht, fun H0 M env σ H pa r R E h q qn => ?_⟩
  obtain ⟨r1, h1, h2⟩ := bind1 h
  refine hh H0 M env σ H pa r1 _ E h1 (fun d hd v H' s hv => ?_) (fun hr => ?_)
  · subst hd
    obtain ⟨ds, h3, h4⟩ := bind1 (show (asLst d).bind _ = some r from h2)
    cases h4
    cases d with
    | list ds' =>
      cases h3
      obtain ⟨a, rfl, hx, w⟩ := Wk.list hv
      exact ⟨a, rfl, hx, q _ rfl _ H' s w⟩
    | _ => cases h3
  · subst hr
    cases h2
    exact qn rfl
theorem psx_for {t : GT} {gi : GLX} (hp : PassesOwn (model X.prog X.w) X.A X.env X.xe) (hc : X.calm = true) (hi : PIX X W C tg iter false gi) (hg : PGd X tg t) (hb : PSsX X W C body g) (hs : ∀ x, foldedSetIterable iter X.env x = pure x := by intro _; rfl) : PSX X W C (.For tg iter body [] pos) (xFor gi t g) := by
  obtain ⟨wi, hwi, hhi⟩ := hi
  obtain ⟨gg, hg, hhg⟩ := hg
  obtain ⟨tb, htb, hhb⟩ := hb
  refine ⟨_, ps_for hp hc hwi hg htb hs, fun H0 M env σ H pa o T E h q => ?_⟩
  obtain ⟨r, h1, h2⟩ := bind1 h
  refine hhi H0 M env σ H pa r _ E h1 (fun ds hd J H1 s1 w => ?_) (fun hr H' s => ?_)
  rotate_left
  · subst hr
    cases h2
    exact q σ H' pa (E.up s)
  subst hd
  have h2 : forX t g ds env = some o := h2
  have E1 := E.up s1
  have Eo := ow_hidden E1
  refine ⟨fun i m σ2 H2 => ∃ env2 pa2, EO X.K (vw (Ow env pa) H1) M env2 σ2 H2 pa2 ∧ m = ds.length - i ∧ i ≤ ds.length ∧ forX t g (ds.drop i) env2 = some o, ⟨ds.length, env, pa, Eo, by simp, Nat.zero_le _, h2⟩, ?_⟩
  rintro i m σ2 H2 ⟨env2, pa2, E2, rfl, hi, h3⟩
  have le : Same (vw (Hd M env pa) H1) (vw (Ow env pa) H1) := vw_same (Same.refl _) fun _ _ _ z => .inr z
  have vis : Same (vw (Hd M env pa) H1) (vw (Hd M env2 pa2) H2) := fun a u hu => by
    obtain ⟨g1, g2⟩ := vw_some hu
    have k := le a u hu
    refine vw_of (fun z => ?_) (E2.same a u k)
    rcases z with z | ⟨j, es, z1, z2⟩
    · exact g1 (.inl z)
    · obtain ⟨_, g3, _⟩ := E2.ow j es z1
      rw [z2, k] at g3
      cases g3.1
  have to2 : Same (vw (Hd M env pa) H1) H2 := vis.trans vw_le
  by_cases hlt : i < ds.length
  · have hd : ds[i]? = some ds[i] := List.getElem?_eq_getElem hlt
    obtain ⟨go, yl⟩ := w.go i ds[i] H2 to2 hd
    have hdr : ds.drop i = ds[i] :: ds.drop (i + 1) := List.drop_eq_getElem_cons hlt
    rw [hdr] at h3
    obtain ⟨env3, h4, h5⟩ := bind1 (show (t ds[i] env2).bind _ = some o from h3)
    obtain ⟨ob, h6, h7⟩ := bind1 h5
    refine .inr ⟨go, fun σ' H' => ∃ env' pa', EO X.K (vw (Ow env pa) H1) M env' σ' H' pa' ∧ forX t g (ds.drop (i + 1)) env' = some o, fun σ' H' ⟨env', pa', E', h'⟩ => ⟨ds.length - (i + 1), by omega, env', pa', E', rfl, hlt, h'⟩, fun x H3 hy => ?_⟩
    obtain ⟨s3, dx⟩ := yl x H3 hy
    have dx := dx (Hd M env2 pa2) (fun p hp' => E2.hidden hp') vis
    refine hhg _ M env2 σ2 H3 pa2 x ds[i] env3 _ (E2.up s3) dx h4 fun σ4 H4 pa4 E4 => ?_
    refine hhb _ M env3 σ4 H4 pa4 ob _ E4 h6 ?_
    cases ob with
    | ok ob =>
      cases ob with
      | nx env5 => exact fun σ5 H5 pa5 E5 => ⟨env5, pa5, E5, h7⟩
      | ct env5 => exact fun σ5 H5 pa5 E5 => ⟨env5, pa5, E5, h7⟩
      | bk env5 =>
        cases h7
        exact fun σ5 H5 pa5 E5 => q σ5 H5 pa5 (E1.back E5)
      | ret d =>
        cases h7
        refine fun v H5 s5 hv => q v H5 (fun a u hu => s5 a u ?_) hv
        have := E1.same a u hu
        exact vw_of (fun ⟨j, es, z1, z2⟩ => by
          obtain ⟨_, g3, _⟩ := E1.ow j es z1
          rw [z2, hu] at g3
          cases g3.1) this
    | rs env5 =>
      cases h7
      exact fun σ5 H5 pa5 E5 => q σ5 H5 pa5 (E1.back E5)
  · have e : i = ds.length := by omega
    subst e
    refine .inl ⟨w.stop H2 to2, ?_⟩
    rw [List.drop_length] at h3
    cases h3
    exact q σ2 H2 pa2 (E1.back E2)
end
/-! ### a def that may raise C -/
def SpF (K : PySem.W.Frag) (n : Nat) (C : Addr) (F : List D → Option (Option D)) : Sp := fun vs H Q E => ∃ ds r M, DpAll K (vw M H) vs ds ∧ F ds = some r ∧ ds.length = n ∧ NF M H ∧ (∀ d, r = some d → ∀ v H', Same H H' → Dp K (vw M H') v d → Q v H') ∧ (r = none → ∀ H', Same H H' → E (.ref C) none H')
theorem SpF.len {K : PySem.W.Frag} {n : Nat} {C : Addr} {F : List D → Option (Option D)} {vs : List V} {H : Hp} {Q : VK} {E : XK} (h : SpF K n C F vs H Q E) : vs.length = n := by
  obtain ⟨ds, r, M, h1, _, h2, _⟩ := h
  rw [DpAll_len h1, h2]
section
variable {P : Program} {w : World} {K : PySem.W.Frag} {mg : Str → Option Value} {base : Heap}
def OkF (P : Program) (w : World) (K : PySem.W.Frag) (mg : Str → Option Value) (base : Heap) (name : Str) (k n : Nat) (C : Addr) (F : List D → Option (Option D)) : Prop :=
  ∃ f fd ps, mg name = some (.ref f) ∧ PySem.W.keepIn K (.ref f) = true ∧ Binds K fd ps [] ∧ FnX P w K mg base k f fd ps (SpF K n C F)
theorem okf_by {name : Str} {st : Stmt} {k k' n m : Nat} {C : Addr} {F : List D → Option (Option D)} (N ps : List Str) (g : GX) (T : Df K mg name st ps) (S : FnScope N ps (defScope st)) (hl : ps.length ≤ N.length) (hN : N.length = m) (hn : ps.length = n) (hk : k' = k + 1) (hF : runX m n g = F)
    (body : ∀ (W : WX) (f : Addr) (cdv : Value) (A : Around) (out : List PySem.Env) (s : Shared) (H : Hp) (E : XK), Room k (A.deeper (envOfC name (defScope st) s.heap.objs.size f cdv)) → (A.deeper (envOfC name (defScope st) s.heap.objs.size f cdv)).guards = some [] →
      Takes (cxOf (L2.CX P w) P w K mg base N name (defScope st) f cdv A out s H E) W → PassesOwn (model P w) (A.deeper (envOfC name (defScope st) s.heap.objs.size f cdv)) (envOfC name (defScope st) s.heap.objs.size f cdv) (cxOf (L2.CX P w) P w K mg base N name (defScope st) f cdv A out s H E).xe →
      PSsX (cxOf (L2.CX P w) P w K mg base N name (defScope st) f cdv A out s H E) W C (defBody st) g) : OkF P w K mg base name k' n C F := by
  subst hN hn hk hF
  obtain ⟨f, fd, F, hm, hb⟩ := T
  refine ⟨f, fd, ps, hm, F.kp, hb, fn_x F S (fun zs H Q E h => h.len) fun cdv A out s H zs Q E hr hG hsp => ?_⟩
  obtain ⟨t, ht, hh⟩ := body (fun cls d _ H => E cls d H) f cdv A out s H E hr hG (takes_of rfl rfl rfl rfl) (passes_of rfl)
  obtain ⟨ds, r, M, h1, h2, h3, h4, h5, h6⟩ := hsp
  unfold runX at h2
  rw [if_pos h3] at h2
  obtain ⟨o, h7, h8⟩ := bind1 h2
  refine ⟨t, ht, hh H M _ _ H _ o _ (eo_start hl h1 h3 h4) h7 ?_⟩
  cases o with
  | ok o =>
    cases o with
    | nx env => cases h8; exact fun σ' H' pa' E' => h5 _ rfl _ H' E'.same .non
    | ret d' => cases h8; exact h5 _ rfl
    | bk env => cases h8
    | ct env => cases h8
  | rs env => cases h8; exact fun σ' H' pa' E' => h6 rfl H' E'.same
end
section
variable {X : Cx} {W : WX} {C : Addr} {b : Bool} {k n : Nat} {x : Str} {p pos : Pos} {e : Expr} {es : List Expr} {gs : GA} {F : List D → Option (Option D)}
theorem px_fn (O : OkF X.prog X.w X.K X.mg X.base x k (es.length + 1) C F) (tk : Takes X W) (hr : Room k X.A) (hG : X.A.guards = some []) (ha : PAd X b (e :: es) gs) (hg : Gl X x := by rfl) (hdb : (x == ("__debug__" : Str)) = false := by decide)
    (he : starEach (e :: es) X.env = (false, eval e X.env) :: starEach es X.env := by rfl) (hpl : (backTo pos (starEach es X.env)).any (·.1) = false := by rfl) : PEX X W C b (.Call (.Name x p) (e :: es) [] pos) (xArgs F gs) := by
  obtain ⟨f, fd, ps, hm, hk, hb, G⟩ := O
  obtain ⟨t, ht, hh⟩ := ha
  refine ⟨tCX (SpF X.K (es.length + 1) C F) W t, ⟨fun pins s σ H Q I h =>
    wpAny_Call_Name_kw (ld_glob I hg hm (PySem.W.callWith_K (h₀ := X.base) I.ok.mod.kin hk (thn (ht.run pos pins s σ H _ I h) fun us s1 hh => ⟨hh.elim fun _ z => z.elim fun _ z => z.1.kIn, hh.elim fun zs z => z.elim fun H1 z => run_x G tk hr hG hb z.1 z.2.1 z.2.2 fun _ _ _ q => q⟩) he hpl) hdb)⟩, fun H0 M env σ H pa r Q E h q qn => ?_⟩
  obtain ⟨ds, h1, h2⟩ := bind1 h
  refine hh H0 M env σ H pa ds _ E h1 fun vs H' s hv hl => ⟨ds, r, _, hv, h2, hl, Vs_nf b (E.up s), fun d hd v H'' s' hv' => q d hd v H'' (s.trans s') hv', fun hr H'' s' => qn hr H'' (s.trans s')⟩
end
/-! ### try .. except c: -/
section
variable {X : Cx} {C : Addr} {x : Str} {c : Value} {body suite : List Stmt} {b₀ : Stmt} {np pos pos' : Pos} {Wout : WX} {g : GX} {h : GS}
theorem takes_no {X : Cx} : Takes X (fun _ _ _ _ => False) := fun _ _ x => by
  obtain ⟨_, _, _, _, _, _, _, _, _, _, _, _, _, _, _, _, z⟩ := x
  exact z.elim
theorem sd_try (hs : X.stack = X.env :: X.outer) (hf : X.env.frame = some X.env.locals) (hc : Names X x c) (hE : PySem.W.exmOne X.K (.ref C) c = some true)
    (hb : ∀ (W : WX) (pn : List (Addr × Obj)) (xe : Value → Shared → Prop), Takes (X.tr pn xe) W → PassesOwn (model X.prog X.w) X.A X.env xe → PSsX (X.tr pn xe) W C body g)
    (hsu : ∀ (a : Addr) (pn : List (Addr × Obj)), PSsd (X.suite a pn) (b₀ :: suite) h) :
    PSd X (.Try body [.ExceptHandler (some (.Name x np)) none (b₀ :: suite) pos'] [] [] pos) (gTry g h) := by
  refine ⟨_, ps_try_only (tb := fun W T σ H => ∃ H0 M env pa o, EO X.K H0 M env σ H pa ∧ g env = some o ∧ PostX X.K H0 M W C o T) (ts := fun _ _ _ T σ H => ∃ H0 M env pa o, EO X.K H0 M env σ H pa ∧ h env = some o ∧ Post X.K H0 M o T) hs hf hc takes_no
    (fun W pn xe tk hp => ?_) (fun a oe cls d pn _ _ => ?_), fun H0 M env σ H pa o T E hgt q => ?_⟩
  · obtain ⟨t, ht, hh⟩ := hb W pn xe tk hp
    exact ⟨fun pins s σ H D I ⟨H0, M, env, pa, o, E, hg, hp⟩ => ht.run pins s σ H D I (hh H0 M env σ H pa o D E hg hp)⟩
  · obtain ⟨t, ht, hh⟩ := hsu a ((a, oe) :: pn)
    exact ⟨fun pins s σ H D I ⟨H0, M, env, pa, o, E, hg, hp⟩ => ht.run pins s σ H D I (hh H0 M env σ H pa o D E hg hp)⟩
  · obtain ⟨ox, h1, h2⟩ := bind1 hgt
    refine ⟨H0, M, env, pa, ox, E, h1, ?_⟩
    cases ox with
    | ok o' => cases h2; exact q
    | rs e' => exact fun σ' H' pa' E' => ⟨true, hE, fun _ a ha => ⟨H0, M, e', pa', o, E', h2, q⟩, fun z => nomatch z⟩
end
/-- what the top tells of an exception's class -/
structure ErrC (K : PySem.W.Frag) (mg : Str → Option Value) (name : Str) (C : Addr) : Prop where
  gC : mg name = some (.ref C)
  xC : PySem.W.excIn K C [.type "ValueError", .type "Exception", .type "BaseException", .type "object"] "ValueError.__new__" = true
  kC : PySem.W.keepIn K (.ref C) = true
  bC : PySem.W.subIn K (.ref C) (.type "BaseException") = some true
  tC : PySem.W.typeIn K (.ref C) = some (.type "type")
  sC : PySem.W.subIn K (.ref C) (.ref C) = some true
  eC : PySem.W.exmOne K (.ref C) (.ref C) = some true
end Dn

namespace Dn
open PySem PySem.Spec PyProof.Rows L2
theorem hu32 {k : Nat} {A : Around} (r : Room k A) : A.units + 32 < cLine := by have := r.un; omega
/-! ### x.append(what may raise) -/
section
variable {X : Cx} {W : WX} {C : Addr} {e : Expr} {pos : Pos} {ga : GEX}
def ownX (r : Option OX) : Option Slot → Option OX
  | some (.ow (.lst _)) => r
  | _ => none
theorem ownX_own (r : Option OX) (ds : List D) : ownX r (some (.own ds)) = r := rfl
def xApp2 (i : Nat) (g : GEX) : GX := fun env => ownX (xApp i g env) env[i]?
theorem psx_app {i : Nat} {x : Str} {apos cpos px : Pos} (hN : X.N[i]? = some x) (hv : Vis X.env.scope x) (he : PEX X W C false e ga) (hd : (x == ("__debug__" : Str)) = false := by decide) (hcd : (x == ("__classdict__" : Str)) = false := by decide)
    (hbase : attributeBase (.Name x px) "append" X.env (eval (.Name x px) X.env) = eval (.Name x px) X.env := by rfl)
    (hfew : ((backTo cpos (starEach (e :: []) X.env)).all (fun x => !x.1) && (backToKw cpos (keywordEach [] X.env)).all (fun x => x.1.isSome)
      && decide ((e :: []).length + ([] : List Keyword).length + (if ([] : List Keyword).isEmpty then 0 else 1) < 30)) = true := by rfl)
    (hline : (apos.endLine == cpos.line) = true := by rfl) (hs : starEach (e :: []) X.env = (false, eval e X.env) :: starEach [] X.env := by rfl) (hplain : (backTo cpos (starEach [] X.env)).any (·.1) = false := by rfl)
    (hsw : swapsWith (.Call (.Attribute (.Name x px) "append" apos) [e] [] cpos) none pos.line X.env = pure false := by rfl) :
    PSX X W C (.Expr (.Call (.Attribute (.Name x px) "append" apos) [e] [] cpos) pos) (xApp2 i ga) := by
  obtain ⟨t0, ht, hh⟩ := he
  refine ⟨_, ps_expr (pe_bm PySem.F.plainAttrs_list PySem.F.slot_list_append PySem.F.type_list_append mt_append (pe_var hN hv hd hcd) (pa_cons ht pa_nil hs) hbase hfew hline hs hplain) hsw, fun H0 M env σ H pa o T E h q => ?_⟩
  unfold xApp2 ownX at h
  split at h
  · rename_i ds hi
    obtain ⟨r, h1, h2⟩ := bind1 h
    obtain ⟨g1, g2, vs, g3, g4⟩ := E.own i ds hi
    refine ⟨_, g1, .inl ⟨rfl, vs, SqL.of g3⟩, hh H0 M env σ H pa r _ E h1 (fun d hd v H' s hv => ?_) (fun hr H' s => ?_)⟩
    · subst hd
      obtain ⟨o1, h3, h4⟩ := bind1 (show (appS env i d env[i]?).bind _ = some o from h2)
      cases h4
      rw [hi] at h3
      have h3 : (if ds.length < lim then some (Out.nx (env.set i (.own (ds ++ [d])))) else none) = some o1 := h3
      split at h3
      · rename_i hl
        cases h3
        refine ⟨_, vs, v, rfl, rfl, s _ _ g3, by rw [DpAll_len g4, ← lim_eq]; exact hl, ?_⟩
        exact q σ _ pa ((E.up s).write hi (DpAll_app (DpAll_mono (vw_up s) _ _ g4) (.cons hv .nil)))
      · cases h3
    · subst hr
      cases h2
      exact q σ H' pa (E.up s)
  · cases h
end
/-! ### dict(pairs).get(key, default) -/
def gDGet (a k d : GE) : GE := fun env => (a env).bind fun v => (asLst v).bind fun ds => (pairsN ds).bind fun kvs => (k env).bind fun y => (d env).bind fun z => (keyT y).bind fun kk => some ((atN (putAllN kvs) kk).getD z)
section
variable {X : Cx} {b : Bool} {f : Str} {p pos cpos apos : Pos} {e e2 e3 : Expr} {ga gb gd : GE}
theorem pd_dget (hc : X.calm = true) (hu : X.A.units + 32 < cLine) (hg : Gl X f) (hm : X.mg f = none) (hvb : bootBuiltins f = some (.type "dict")) (ha : PEd X false e ga) (hb : PEd X b e2 gb) (hd : PEd X b e3 gd) (m : M2 X (.Call (.Name f p) [e] [] cpos) "get" apos e2 e3 pos) (hn : f ≠ "__name__" := by decide) (hdb : (f == ("__debug__" : Str)) = false := by decide)
    (he : starEach [e] X.env = (false, eval e X.env) :: starEach [] X.env := by rfl) (hpl : (backTo cpos (starEach [] X.env)).any (·.1) = false := by rfl) : PEd X b (.Call (.Attribute (.Call (.Name f p) [e] [] cpos) "get" apos) [e2, e3] [] pos) (gDGet ga gb gd) := by
  obtain ⟨ta, pa', ha⟩ := ha
  obtain ⟨tb, pb', hb⟩ := hb
  obtain ⟨td, pd', hd⟩ := hd
  refine ⟨_, pe_nget2 (by omega) (pe_callTy (call_dictP hc hu) hg hm hvb (pa_cons pa' pa_nil he) hn hdb he hpl) pb' pd' m, fun H0 M env σ H pa d Q E h q => ?_⟩
  obtain ⟨v, h1, h2⟩ := bind1 h
  obtain ⟨ds, h3, h4⟩ := bind1 h2
  obtain ⟨kvs, h5, h6⟩ := bind1 h4
  obtain ⟨y, h7, h8⟩ := bind1 h6
  obtain ⟨z, h9, h10⟩ := bind1 h8
  obtain ⟨k, k1, k2⟩ := bind1 h10
  cases k2
  refine ha H0 M env σ H pa _ _ E h1 fun u H1 s hv => ?_
  have E1 := E.up s
  cases v with
  | list ds' =>
    cases h3
    cases hv with
    | lst hs' hall =>
      obtain ⟨es, pe⟩ := pairsE_of h5 hall
      refine ⟨_, _, es, kvs, rfl, vw_le.seq hs', pe.mono vw_le, fun p' hp => ?_⟩
      have su : Same H1 (upd H1 p' (DkO X.prog X.w p' (putAllE es))) := same_upd hp
      have E2 := E1.up su
      refine ⟨p', rfl, ⟨_, _, _, upd_same⟩, ?_⟩
      refine hb H0 M env σ _ pa _ _ E2 h7 fun y' H' s2 hy => hd H0 M env σ H' pa _ _ (E2.up s2) h9 fun z' H'' s3 hz => ?_
      obtain ⟨qq, rfl, q1, q2, q3⟩ := keyT_ref k1 hy
      have en : Ents X.K (vw (Hd M env pa) H1) (putAllE es) (putAllN kvs) := pe.ents .nil
      have up : Same (vw (Hd M env pa) H1) (vw (Hd M env pa) H'') := vw_up ((su.trans s2).trans s3)
      refine ⟨valE (putAllE es) k, ⟨X.prog, X.w, putAllE es, putAllN kvs, k, qq, s3 _ _ (s2 _ _ upd_same), (en.mono up).mono vw_le, rfl, Dp_mono (vw_le.trans s3) _ _ q1, q2, q3, rfl⟩, ?_⟩
      obtain ⟨w1, w2⟩ := en.val k
      cases l : atN (putAllN kvs) k with
      | none =>
        rw [w1 l]
        rw [l] at q
        exact q _ H'' (((s.trans su).trans s2).trans s3) hz
      | some d' =>
        obtain ⟨v, l1, l2⟩ := w2 d' l
        rw [l1]
        rw [l] at q
        refine q v H'' (((s.trans su).trans s2).trans s3) (Dp_mono (up.trans (vw_same (Same.refl _) fun a o _ z => ?_)) _ _ l2)
        cases b
        · exact z
        · exact .inl z
  | _ => cases h3
end
/-! ### min of a list of data -/
def minOk (ds : List D) : Bool := sortOk ds && ds.all (fun d => d.canLay0) && decide (PyData.depthAll ds ≤ 40)
def vMinD : D → Option D
  | .list (d :: ds) => if minOk (d :: ds) then some (PySem.W.minD d ds) else none
  | _ => none
theorem call_minD {X : Cx} (hc : X.calm = true) (hu : X.A.units + 64 < cLine) : CallR X (.builtin "min") (fun xs H Q => ∃ (a : Addr) (vs : List V) (d : D) (ds : List D), xs = [.ref a] ∧ SqL X.K H a vs ∧ DpAll X.K H vs (d :: ds) ∧ minOk (d :: ds) = true ∧ ∀ v, v ∈ vs → (∀ P : Hp, DpAll X.K P vs (d :: ds) → Dp X.K P v (PySem.W.minD d ds)) → Q v H) := by
  intro pins s σ H xs us Q I r h
  obtain ⟨a, vs, d, ds, rfl, hx, hall, ok, q⟩ := h
  obtain ⟨u, rfl, rx⟩ := vals1 r
  cases rx
  unfold minOk at ok
  rw [Bool.and_eq_true, Bool.and_eq_true] at ok
  obtain ⟨⟨k1, k2⟩, k3⟩ := ok
  obtain ⟨o1, o2, o3, o4⟩ := sortOk_of k1
  have k3 := of_decide_eq_true k3
  obtain ⟨its, rv, p1, hz⟩ := I.list hx
  obtain ⟨as, rs⟩ := Dp.readsAll I _ _ _ hall rv
  refine PySem.W.min_list_data (I.ok.hd hc) p1.isList (by rw [List.toList_toArray]; exact rs) ⟨o2, fun x hx z => ?_⟩ (by show X.A.units + 1 + _ < _; omega) fun i v h' tk bs hi hr hk => ?_
  · subst z
    rcases o3 with o3 | o3
    · obtain ⟨_, _, e⟩ := o3 _ hx; cases e
    · exact (o3 _ hx).1 rfl
  · rw [List.getElem?_toArray] at hi
    have gt : ∀ {vs : List V} {its : List Value}, Vals vs its → ∀ i : Nat, its[i]? = some v → ∃ x : V, vs[i]? = some x ∧ RelV x v := by
      intro vs its r
      induction r with
      | nil => intro i h; simp at h
      | cons r1 r2 ih =>
        intro i h
        cases i with
        | zero => cases h; exact ⟨_, rfl, r1⟩
        | succ i => exact ih i h
    obtain ⟨x, x1, x2⟩ := gt rv i hi
    have il : i < (d :: ds).length := by
      have := (List.getElem?_eq_some_iff.mp x1).1
      have e := DpAll_len hall
      omega
    have hd : (d :: ds)[i]? = some (d :: ds)[i] := List.getElem?_eq_getElem il
    obtain ⟨x', y1, y2⟩ := DpAll_get hall hd
    cases x1.symm.trans y1
    have can : ((d :: ds)[i]).canLay0 = true := by
      rw [List.all_eq_true] at k2
      exact k2 _ (List.getElem_mem il)
    obtain ⟨as', ra⟩ := Dp.reads I _ _ _ y2 x2
    have e : (d :: ds)[i] = PySem.W.minD d ds := (Reads.unique (PySem.W.reads_keeps hk ra) _ _ hr).1
    refine ⟨x, H, I.kept (t' := tk) hk, x2, q x (List.mem_of_getElem? x1) fun P hP => ?_⟩
    obtain ⟨x'', z1, z2⟩ := DpAll_get hP hd
    cases x1.symm.trans z1
    rw [← e]; exact z2
def rMinD (K : PySem.W.Frag) : List V → Hp → VK → Prop := fun xs H Q => ∃ (a : Addr) (vs : List V) (d : D) (ds : List D), xs = [.ref a] ∧ SqL K H a vs ∧ DpAll K H vs (d :: ds) ∧ minOk (d :: ds) = true ∧ ∀ v, v ∈ vs → (∀ P : Hp, DpAll K P vs (d :: ds) → Dp K P v (PySem.W.minD d ds)) → Q v H
theorem ca_minD {K : PySem.W.Frag} : CaD K (rMinD K) (l1 vMinD) := by
  intro P H xs ds z Q nf hx h q
  cases hx with
  | nil => cases h
  | cons hv t =>
    cases t with
    | cons _ _ => cases h
    | nil =>
      rename_i v d
      cases hv with
      | @lst a vs ds hs hall =>
        cases ds with
        | nil => cases h
        | cons d ds =>
          have h : (if minOk (d :: ds) then some (PySem.W.minD d ds) else none) = some z := h
          split at h
          · rename_i ok
            cases h
            exact ⟨a, vs, d, ds, rfl, vw_le.seq hs, DpAll_mono vw_le _ _ hall, ok, fun v _ k => q v H (Same.refl H) (k _ hall)⟩
          · cases h
      | _ => cases h
end Dn

namespace Dn
open PySem PySem.Spec PyProof.Rows L2
/-! ### x.insert(i, e) -/
def insS (env : Env) (i : Nat) : Option Slot → D → D → Option Out
  | some (.ow (.lst ds)), .int k, d => if ds.length < lim ∧ 0 ≤ k ∧ k < 1000000 then some (.nx (env.set i (.own (ds.take k.toNat ++ [d] ++ ds.drop k.toNat)))) else none
  | _, _, _ => none
def sIns (i : Nat) (a c : GE) : GS := fun env => (a env).bind fun k => (c env).bind fun d => insS env i env[i]? k d
theorem insS_own (env : Env) (i : Nat) (ds : List D) (k : Int) (d : D) : insS env i (some (.own ds)) (.int k) d = if ds.length < lim ∧ 0 ≤ k ∧ k < 1000000 then some (.nx (env.set i (.own (ds.take k.toNat ++ [d] ++ ds.drop k.toNat)))) else none := rfl
section
variable {X : Cx} {e1 e2 : Expr} {pos : Pos} {ga gb : GE}
theorem sd_ins {i : Nat} {x : Str} {apos cpos px : Pos} (hN : X.N[i]? = some x) (hv : Vis X.env.scope x) (ha : PEd X true e1 ga) (hb : PEd X false e2 gb) (hd : (x == ("__debug__" : Str)) = false := by decide) (hcd : (x == ("__classdict__" : Str)) = false := by decide)
    (hbase : attributeBase (.Name x px) "insert" X.env (eval (.Name x px) X.env) = eval (.Name x px) X.env := by rfl)
    (hfew : ((backTo cpos (starEach [e1, e2] X.env)).all (fun x => !x.1) && (backToKw cpos (keywordEach [] X.env)).all (fun x => x.1.isSome)
      && decide (([e1, e2] : List Expr).length + ([] : List Keyword).length + (if ([] : List Keyword).isEmpty then 0 else 1) < 30)) = true := by rfl)
    (hline : (apos.endLine == cpos.line) = true := by rfl) (hs : starEach [e1, e2] X.env = (false, eval e1 X.env) :: starEach [e2] X.env := by rfl) (hs2 : starEach [e2] X.env = (false, eval e2 X.env) :: starEach [] X.env := by rfl) (hplain : (backTo cpos (starEach [e2] X.env)).any (·.1) = false := by rfl)
    (hsw : swapsWith (.Call (.Attribute (.Name x px) "insert" apos) [e1, e2] [] cpos) none pos.line X.env = pure false := by rfl) :
    PSd X (.Expr (.Call (.Attribute (.Name x px) "insert" apos) [e1, e2] [] cpos) pos) (sIns i ga gb) := by
  obtain ⟨t1, ht1, hh1⟩ := ha
  obtain ⟨t2, ht2, hh2⟩ := hb
  refine ⟨_, ps_expr (pe_bm PySem.F.plainAttrs_list PySem.F.slot_list_insert PySem.F.type_list_insert mt_insert (pe_var hN hv hd hcd) (pa_cons ht1 (pa_cons ht2 pa_nil hs2) hs) hbase hfew hline hs hplain) hsw, fun H0 M env σ H pa o T E h q => ?_⟩
  obtain ⟨k, h1, h2⟩ := bind1 h
  obtain ⟨d, h3, h4⟩ := bind1 h2
  unfold insS at h4
  split at h4
  · rename_i _ ds k' hi
    split at h4
    · rename_i hl
      cases h4
      obtain ⟨g1, g2, vs, g3, g4⟩ := E.own i ds hi
      refine ⟨_, g1, .inl ⟨rfl, vs, SqL.of g3⟩, hh1 H0 M env σ H pa _ _ E h1 fun u H1 s1 hu => hh2 H0 M env σ H1 pa _ _ (E.up s1) h3 fun v H' s hv => ?_⟩
      cases hu
      have s2 := s1.trans s
      refine ⟨_, vs, k', v, rfl, rfl, s2 _ _ g3, by rw [DpAll_len g4, ← lim_eq]; exact hl.1, hl.2.1, by omega, ?_⟩
      have g5 := DpAll_mono (vw_up s2) _ _ g4
      exact q σ _ pa ((E.up s2).write hi (DpAll_app (DpAll_app (DpAll_take _ g5) (.cons hv .nil)) (DpAll_drop _ g5)))
    · cases h4
  · cases h4
end
/-! ### range(a, b, 2) -/
def rng2D (lo : Int) (n : Nat) : List D := (List.range n).map fun (i : Nat) => PyData.int (lo + (i : Int) * 2)
def vRange3 : D → D → D → Option (List D)
  | .int i, .int j, .int c => if (rgOk i && rgOk j && decide (c = 2)) = true then some (rng2D i ((j - i + 1) / 2).toNat) else none
  | _, _, _ => none
def gRange3 (a b c : GE) : GA := fun env => (a env).bind fun x => (b env).bind fun y => (c env).bind fun z => vRange3 x y z
theorem Wk.range2 {K : PySem.W.Frag} {Hc : Hp} (lo : Int) (n : Nat) : Wk K Hc (Itc lo 2 n) (rng2D lo n) := by
  refine ⟨fun H2 s => ?_, fun i d H2 s hd => ?_⟩
  · show n ≤ (rng2D lo n).length
    unfold rng2D
    rw [List.length_map, List.length_range]
    exact Nat.le_refl _
  · unfold rng2D at hd
    rw [List.getElem?_map] at hd
    by_cases hi : i < n
    · rw [List.getElem?_range hi] at hd
      cases hd
      refine ⟨hi, fun x H3 hx => ?_⟩
      obtain ⟨rfl, rfl⟩ := hx
      exact ⟨Same.refl _, fun P _ _ => .int _⟩
    · rw [List.getElem?_eq_none (by rw [List.length_range]; omega)] at hd
      cases hd
theorem rgc2 {i j : Int} (hi : i < 2 ^ 62 ∧ -(2 ^ 62) ≤ i) (hj : j < 2 ^ 62 ∧ -(2 ^ 62) ≤ j) : RgC i j 2 ((j - i + 1) / 2).toNat := by
  have e : Builtin.Range.rangeSize i j 2 = (((j - i + 1) / 2).toNat : Int) := by
    unfold Builtin.Range.rangeSize
    rw [if_pos (by decide)]
    split <;> omega
  refine ⟨by decide, by decide, ?_, e⟩
  unfold Builtin.Range.small
  rw [e]
  simp only [Builtin.Range.rangeFitsLong, Bool.and_eq_true, Bool.or_eq_true, decide_eq_true_eq, beq_iff_eq, show (2 : Int) > 0 by decide, if_true]
  omega
theorem id_range3 {X : Cx} {b : Bool} {tg a c e : Expr} {ga gb gc : GE} {p pos : Pos} (hg : Gl X "range") (hm : X.mg "range" = none) (ha : PEd X true a ga) (hb : PEd X true c gb) (hc : PEd X true e gc)
    (hs : starEach [a, c, e] X.env = (false, eval a X.env) :: starEach [c, e] X.env := by rfl) (hs2 : starEach [c, e] X.env = (false, eval c X.env) :: starEach [e] X.env := by rfl) (hs3 : starEach [e] X.env = (false, eval e X.env) :: starEach [] X.env := by rfl) (hpl : (backTo pos (starEach [c, e] X.env)).any (·.1) = false := by rfl) :
    PId X tg (.Call (.Name "range" p) [a, c, e] [] pos) b (gRange3 ga gb gc) := by
  obtain ⟨t1, ht1, hh1⟩ := ha
  obtain ⟨t2, ht2, hh2⟩ := hb
  obtain ⟨t3, ht3, hh3⟩ := hc
  refine ⟨_, pi_range3 hg hm (pa_cons ht1 (pa_cons ht2 (pa_cons ht3 pa_nil hs3) hs2) hs) hs hpl, fun H0 M env σ H pa ds R E h q => ?_⟩
  obtain ⟨d1, h1, h⟩ := bind1 h
  obtain ⟨d2, h2, h⟩ := bind1 h
  obtain ⟨d3, h3, h⟩ := bind1 h
  cases d1 with
  | int i =>
    cases d2 with
    | int j =>
      cases d3 with
      | int k =>
        have h' : (if (rgOk i && rgOk j && decide (k = 2)) = true then some (rng2D i ((j - i + 1) / 2).toNat) else none) = some ds := h
        clear h
        split at h'
        · rename_i hn
          rw [Bool.and_eq_true, Bool.and_eq_true] at hn
          have hi := rgOk_of hn.1.1
          have hj := rgOk_of hn.1.2
          have hk := of_decide_eq_true hn.2
          subst hk
          cases h'
          refine hh1 H0 M env σ H pa _ _ E h1 fun v H1 s1 hv => hh2 H0 M env σ H1 pa _ _ (E.up s1) h2 fun u H2 s2 hu => hh3 H0 M env σ H2 pa _ _ ((E.up s1).up s2) h3 fun w H3 s3 hw => ?_
          cases hv
          cases hu
          cases hw
          exact ⟨i, j, 2, _, rfl, rgc2 hi hj, q _ H3 ((s1.trans s2).trans s3) (Wk.range2 i _)⟩
        · cases h'
      | _ => cases h
    | _ => cases h
  | _ => cases h
/-! ### i -= e -/
def vISub : D → D → Option D
  | .int x, .int y => some (.int (x - y))
  | _, _ => none
theorem vISub_int (x y : Int) : vISub (.int x) (.int y) = some (.int (x - y)) := rfl
theorem od_isub {K : PySem.W.Frag} : OpD K (rI0 fun i j => .int (i - j)) vISub := by
  intro P H x y d e z Q nf hx hy h q
  cases d with
  | int i =>
    cases e with
    | int j => cases h; exact ⟨i, j, Dp_int hx, Dp_int hy, q _ H (Same.refl H) (.int _)⟩
    | _ => cases h
  | _ => cases h
end Dn

namespace Dn
open PySem PySem.Spec PyProof.Rows L2
/-! ### defs that return a list of their own making -/
def FrD (K : PySem.W.Frag) (n : Nat) (F : List D → Option (List D)) : Sp := fun vs H Q _ => ∃ ds out M, DpAll K (vw M H) vs ds ∧ F ds = some out ∧ ds.length = n ∧ NF M H ∧
  ∀ p ws H', Same H H' → H p = none → H' p = some (.lst ws) → DpAll K (vw (fun a => M a ∨ a = p) H') ws out → Q (.ref p) H'
theorem FrD.len {K : PySem.W.Frag} {n : Nat} {F : List D → Option (List D)} {vs : List V} {H : Hp} {Q : VK} {E : XK} (h : FrD K n F vs H Q E) : vs.length = n := by
  obtain ⟨ds, d, P, h1, _, h3, _⟩ := h
  rw [DpAll_len h1, h3]
def asL (F : List D → Option (List D)) : List D → Option D := fun ds => (F ds).map .list
def OkR (P : Program) (w : World) (K : PySem.W.Frag) (mg : Str → Option Value) (base : Heap) (name : Str) (k n : Nat) (F : List D → Option (List D)) : Prop :=
  ∃ f fd ps, mg name = some (.ref f) ∧ PySem.W.keepIn K (.ref f) = true ∧ Binds K fd ps [] ∧ FnG P w K mg base k f fd ps (FrD K n F)
theorem OkR.ok {P : Program} {w : World} {K : PySem.W.Frag} {mg : Str → Option Value} {base : Heap} {name : Str} {k n : Nat} {F : List D → Option (List D)} (O : OkR P w K mg base name k n F) : Ok P w K mg base name k n (asL F) := by
  obtain ⟨f, fd, ps, hm, hk, hb, G⟩ := O
  refine ⟨f, fd, ps, hm, hk, hb, G.imp fun zs H Q E h => ?_⟩
  obtain ⟨ds, d, M, hv, hF, hn, nf, q⟩ := h
  unfold asL at hF
  cases o : F ds with
  | none => rw [o] at hF; cases hF
  | some out =>
    rw [o] at hF
    have hF : PyData.list out = d := Option.some.inj hF
    subst hF
    refine ⟨ds, out, M, hv, o, hn, nf, fun p ws H' s hp hp' hall => q _ H' s ?_⟩
    have np : ¬ M p := fun z => nf p z hp
    exact .lst (SqL.of (vw_of np hp')) (DpAll_mono (vw_same (Same.refl H') fun a _ _ z => .inl z) _ _ hall)
def PostF (K : PySem.W.Frag) (H0 : Hp) (M : Addr → Prop) (o : Out) (T : Ends) : Prop := match o with
  | .nx env => ∀ σ H pa, EO K H0 M env σ H pa → T.nx σ H
  | .ret d => ∀ ds p ws H, d = .list ds → Same H0 H → H0 p = none → H p = some (.lst ws) → DpAll K (vw (fun a => M a ∨ a = p) H) ws ds → T.rt (.ref p) H
  | .bk env => ∀ σ H pa, EO K H0 M env σ H pa → T.bk σ H
  | .ct env => ∀ σ H pa, EO K H0 M env σ H pa → T.ct σ H
def RdF (K : PySem.W.Frag) (t : TS) (g : GS) : Prop := ∀ (H0 : Hp) (M : Addr → Prop) (env : Env) (σ : Sg) (H : Hp) (pa : Nat → Addr) (o : Out) (T : Ends), EO K H0 M env σ H pa → g env = some o → PostF K H0 M o T → t T σ H
def FSd (X : Cx) (st : Stmt) (g : GS) : Prop := ∃ t, PS X st t ∧ RdF X.K t g
def FSsd (X : Cx) (sts : List Stmt) (g : GS) : Prop := ∃ t, PSs X sts t ∧ RdF X.K t g
def PRd (X : Cx) (e : Expr) (g : GA) : Prop := ∃ t, PE X e t ∧ ∀ (H0 : Hp) (M : Addr → Prop) (env : Env) (σ : Sg) (H : Hp) (pa : Nat → Addr) (ds : List D) (Q : VK), EO X.K H0 M env σ H pa → g env = some ds →
  (∀ p ws H', Same H H' → H p = none → H' p = some (.lst ws) → DpAll X.K (vw (fun a => M a ∨ a = p) H') ws ds → Q (.ref p) H') → t σ H Q
/-- what does not end the def -/
def stayS (g : GS) : GS := fun env => (g env).bind fun o => match o with
  | .ret _ => none
  | o => some o
def sRetF (g : GA) : GS := fun env => (g env).bind fun ds => some (.ret (.list ds))
def retO : Option Slot → Option Out
  | some (.ow (.lst ds)) => some (.ret (.list ds))
  | _ => none
def sRetO (i : Nat) : GS := fun env => retO env[i]?
section
variable {X : Cx} {b : Bool} {e a c : Expr} {es : List Expr} {pos : Pos} {ga gb : GE} {gs : GA} {gS gT' : GS} {st : Stmt} {sts body : List Stmt} {cB : GB}
theorem fs_of (h : PSd X st gS) : FSd X st (stayS gS) := by
  obtain ⟨t, ht, hh⟩ := h
  refine ⟨t, ht, fun H0 M env σ H pa o T E h q => ?_⟩
  obtain ⟨o1, h1, h2⟩ := bind1 h
  refine hh H0 M env σ H pa o1 T E h1 ?_
  cases o1 with
  | ret d => cases h2
  | nx e => cases h2; exact q
  | bk e => cases h2; exact q
  | ct e => cases h2; exact q
theorem fss_nil : FSsd X [] sNx := ⟨_, pss_nil, fun H0 M env σ H pa o T E h q => by cases h; exact q σ H pa E⟩
theorem fss_cons (h1 : FSd X st gS) (h2 : FSsd X sts gT') : FSsd X (st :: sts) (sSeq gS gT') := by
  obtain ⟨t, ht, hh⟩ := h1
  obtain ⟨u, hu, hh'⟩ := h2
  refine ⟨_, pss_cons ht hu, fun H0 M env σ H pa o T E h q => ?_⟩
  obtain ⟨o1, h1, h2⟩ := bind1 h
  refine hh H0 M env σ H pa o1 { T with nx := u T } E h1 ?_
  cases o1 with
  | nx env1 => exact fun σ' H' pa' E' => hh' H0 M env1 σ' H' pa' o T E' h2 q
  | ret d => cases h2; exact q
  | bk env1 => cases h2; exact q
  | ct env1 => cases h2; exact q
theorem fss_one (h1 : FSd X st gS) : FSsd X [st] gS := by
  obtain ⟨t, ht, hh⟩ := h1
  exact ⟨t, pss_one ht, hh⟩
theorem fs_frz (i : Nat) (h : FSd X st gS) : FSd X st (fun env => gS (frz i env)) := by
  obtain ⟨t, ht, hh⟩ := h
  exact ⟨t, ht, fun H0 M env σ H pa o T E h q => hh H0 M _ σ H pa o T (E.frz i) h q⟩
theorem fs_if (hc : PTd X c cB) (ha : FSsd X sts gS) (hb : FSsd X body gT') : FSd X (.If c sts body pos) (sIf cB gS gT') := by
  obtain ⟨t0, ht0, hh0⟩ := hc
  obtain ⟨t1, ht1, hh1⟩ := ha
  obtain ⟨t2, ht2, hh2⟩ := hb
  refine ⟨_, ps_if ht0 ht1 ht2, fun H0 M env σ H pa o T E h q => ?_⟩
  obtain ⟨k, h1, h2⟩ := bind1 h
  refine hh0 H0 M env σ H pa k _ E h1 fun H' s => ?_
  cases k with
  | true =>
    rw [if_pos rfl] at h2 ⊢
    exact hh1 H0 M env σ H' pa o T (E.up s) h2 q
  | false =>
    rw [if_neg (by decide)] at h2 ⊢
    exact hh2 H0 M env σ H' pa o T (E.up s) h2 q
theorem fs_ret (he : PRd X e gs) : FSd X (.Return (some e) pos) (sRetF gs) := by
  obtain ⟨t, ht, hh⟩ := he
  refine ⟨_, ps_ret ht, fun H0 M env σ H pa o T E h q => ?_⟩
  obtain ⟨ds, h1, h2⟩ := bind1 h
  cases h2
  exact hh H0 M env σ H pa ds _ E h1 fun p ws H' s hp hp' hall => q ds p ws H' rfl (E.same.trans s) (E.same.free hp) hp' hall
theorem fs_retO {i : Nat} {x : Str} {px : Pos} (hN : X.N[i]? = some x) (hv : Vis X.env.scope x) (hd : (x == ("__debug__" : Str)) = false := by decide) (hcd : (x == ("__classdict__" : Str)) = false := by decide) :
    FSd X (.Return (some (.Name x px)) pos) (sRetO i) := by
  refine ⟨_, ps_ret (pe_var hN hv hd hcd), fun H0 M env σ H pa o T E h q => ?_⟩
  unfold sRetO at h
  cases hi : env[i]? with
  | none => rw [hi] at h; cases h
  | some sl =>
    rw [hi] at h
    cases sl with
    | un => cases h
    | fn f => cases h
    | val _ => cases h
    | ow c =>
      cases c with
      | dk _ => cases h
      | dn _ => cases h
      | lst ds =>
        cases h
        obtain ⟨g1, g2, vs, g3, g4⟩ := E.own i ds hi
        refine ⟨_, g1, q ds (pa i) vs H rfl E.same g2.1 g3 (DpAll_mono (vw_same (Same.refl H) fun a _ _ z => ?_) _ _ g4)⟩
        rcases z with z | z
        · exact .inl z
        · exact .inr ⟨i, _, hi, z.symm⟩
theorem pr_of (h : PFd X e gs) : PRd X e gs := by
  obtain ⟨t, ht, hh⟩ := h
  refine ⟨t, ht, fun H0 M env σ H pa ds Q E h q => hh H0 M env σ H pa ds Q E h fun p ws H' s hp hp' hall => q p ws H' s hp hp' (DpAll_mono (vw_same (Same.refl H') fun a _ _ z => ?_) _ _ hall)⟩
  rcases z with z | z
  · exact .inl (.inl z)
  · exact .inr z
theorem pr_cat (ha : PEd X true a ga) (hb : PEd X true c gb) : PRd X (.BinOp a .Add c pos) (gCat ga gb) := by
  obtain ⟨ta, pa', ha⟩ := ha
  obtain ⟨tb, pb', hb⟩ := hb
  refine ⟨_, pe_op op_catL pa' pb', fun H0 M env σ H pa ds Q E h q => ?_⟩
  obtain ⟨x, y, h1, h2, h3⟩ := bind2 h
  obtain ⟨xs, ys, h4, h5, h6⟩ := bind2 h3
  have h4 := asLst_some h4
  have h5 := asLst_some h5
  subst h4 h5
  split at h6
  · rename_i hl
    cases h6
    refine two E ha hb h1 h2 fun x y H' s hx hy => ?_
    cases hx with
    | lst hs hall =>
      cases hy with
      | lst hs' hall' =>
        refine ⟨_, _, _, _, rfl, rfl, vw_le.seq hs, vw_le.seq hs', by rw [DpAll_len hall, DpAll_len hall', ← lim_eq]; exact hl, fun p hp => ?_⟩
        exact q p _ _ (s.trans (same_upd hp)) (s.free hp) upd_same (DpAll_mono (vw_new hp) _ _ (DpAll_app hall hall'))
  · cases h6
/-- a call of such a def -/
theorem pf_fn {k : Nat} {x : Str} {p : Pos} {F : List D → Option (List D)} (O : OkR X.prog X.w X.K X.mg X.base x k (es.length + 1) F) (hr : Room k X.A) (hG : X.A.guards = some []) (ha : PAd X false (e :: es) gs) (hg : Gl X x := by rfl) (hdb : (x == ("__debug__" : Str)) = false := by decide)
    (he : starEach (e :: es) X.env = (false, eval e X.env) :: starEach es X.env := by rfl) (hpl : (backTo pos (starEach es X.env)).any (·.1) = false := by rfl) : PFd X (.Call (.Name x p) (e :: es) [] pos) (fun env => (gs env).bind F) := by
  obtain ⟨f, fd, ps, hm, hk, hb, G⟩ := O
  obtain ⟨t, ht, hh⟩ := ha
  refine ⟨_, pe_callG G hr hG hg hm hk hb ht hdb he hpl, fun H0 M env σ H pa ds Q E h q => ?_⟩
  obtain ⟨as, h1, h2⟩ := bind1 h
  exact hh H0 M env σ H pa as _ E h1 fun vs H' s hv hl => ⟨as, ds, _, hv, h2, hl, Vs_nf false (E.up s), fun p ws H'' s' hp hp' hall => q p ws H'' (s.trans s') (s.free hp) hp' hall⟩
/-! a def -/
theorem fn_r {N : List Str} {n : Nat} {vs : List V} {H : Hp} {Q : VK} {E : XK} {F : List D → Option (List D)} (hb : FSsd X body gS) (hl : n ≤ N.length) (hF : ∀ ds out, F ds = some out → ds.length = n ∧ gS (startE N.length ds) = some (.ret (.list out))) (h : FrD X.K n F vs H Q E) :
    ∃ t, PSs X body t ∧ t { nx := fun _ H' => Q .non H', rt := Q } (L2.start N vs) H := by
  obtain ⟨t, ht, hh⟩ := hb
  obtain ⟨ds, out, M, hv, hF', hn, nf, q⟩ := h
  have hlen := DpAll_len hv
  refine ⟨t, ht, ?_⟩
  have h1 := (hF ds out hF').2
  have noown : ∀ (i : Nat) (es : Cont), (startE N.length ds)[i]? ≠ some (Slot.ow es) := fun i es z => by
    unfold startE at z
    by_cases hi : i < ds.length
    · rw [List.getElem?_append_left (by simpa using hi), List.getElem?_map] at z
      cases hx : ds[i]? with
      | none => rw [hx] at z; cases z
      | some u => rw [hx] at z; cases z
    · rw [List.getElem?_append_right (by simpa using hi), List.getElem?_replicate] at z
      split at z <;> cases z
  have E0 : EO X.K H M (startE N.length ds) (L2.start N vs) H (fun _ => 0) := by
    refine ⟨Same.refl H, nf, ?_, fun i e z => ?_, fun i es z => absurd z (noown i es), fun i j es fs z => absurd z (noown i es), fun i f z => absurd z (startE_nofn i f)⟩
    · unfold startE L2.start
      simp only [List.length_append, List.length_map, List.length_replicate]
      omega
    · unfold startE at z
      by_cases hi : i < ds.length
      · rw [List.getElem?_append_left (by simpa using hi), List.getElem?_map] at z
        cases hx : ds[i]? with
        | none => rw [hx] at z; cases z
        | some u =>
          rw [hx] at z
          cases z
          obtain ⟨v, hv1, hv2⟩ := DpAll_get hv hx
          refine ⟨v, ?_, Dp_mono (vw_same (Same.refl H) fun a _ _ z => ?_) _ _ hv2⟩
          · unfold L2.start
            rw [List.getElem?_append_left (by rw [List.length_map]; omega), List.getElem?_map, hv1]
            rfl
          · rcases z with z | ⟨j, es, z, _⟩
            · exact z
            · exact absurd z (noown j es)
      · rw [List.getElem?_append_right (by simpa using hi), List.getElem?_replicate] at z
        split at z <;> cases z
  refine hh H M _ _ H _ _ _ E0 h1 fun ds' p ws H' e s hp hp' hall => ?_
  cases e
  exact q p ws H' s hp hp' hall
end
def outL : Out → Option (List D)
  | .ret (.list ds) => some ds
  | _ => none
def runR (n k : Nat) (body : GS) (ds : List D) : Option (List D) := if ds.length = k then (body (startE n ds)).bind outL else none
theorem outL_some {o : Out} {ds : List D} (h : outL o = some ds) : o = .ret (.list ds) := by
  cases o with
  | ret d => cases d <;> cases h; rfl
  | _ => cases h
theorem okr_of {P : Program} {w : World} {K : PySem.W.Frag} {mg : Str → Option Value} {base : Heap} {name : Str} {st : Stmt} {N ps : List Str} {k : Nat} {g : GS} (T : Df K mg name st ps) (S : FnScope N ps (defScope st)) (hl : ps.length ≤ N.length)
    (body : ∀ (f : Addr) (cdv : Value) (A : Around) (out : List PySem.Env) (s : Shared) (H : Hp), Room k (A.deeper (envOfC name (defScope st) s.heap.objs.size f cdv)) → (A.deeper (envOfC name (defScope st) s.heap.objs.size f cdv)).guards = some [] →
      FSsd (cxOf CX0 P w K mg base N name (defScope st) f cdv A out s H E0).nox (defBody st) g) : OkR P w K mg base name (k + 1) ps.length (runR N.length ps.length g) := by
  obtain ⟨f, fd, F, hm, hb⟩ := T
  refine ⟨f, fd, ps, hm, F.kp, hb, fn_g F S (fun zs H Q E h => h.len) fun cdv A out s H zs Q hr hG hsp => fn_r (body f cdv A out s H hr hG) hl (fun ds o h => ?_) hsp⟩
  unfold runR at h
  split at h
  · rename_i hn
    obtain ⟨o1, h1, h2⟩ := bind1 h
    rw [outL_some h2] at h1
    exact ⟨hn, h1⟩
  · cases h
theorem okr_by {P : Program} {w : World} {K : PySem.W.Frag} {mg : Str → Option Value} {base : Heap} {name : Str} {st : Stmt} {k k' n m : Nat} {F : List D → Option (List D)} (N ps : List Str) (g : GS) (T : Df K mg name st ps) (S : FnScope N ps (defScope st)) (hl : ps.length ≤ N.length) (hN : N.length = m) (hn : ps.length = n) (hk : k' = k + 1) (hF : runR m n g = F)
    (body : ∀ (f : Addr) (cdv : Value) (A : Around) (out : List PySem.Env) (s : Shared) (H : Hp), Room k (A.deeper (envOfC name (defScope st) s.heap.objs.size f cdv)) → (A.deeper (envOfC name (defScope st) s.heap.objs.size f cdv)).guards = some [] →
      FSsd (cxOf CX0 P w K mg base N name (defScope st) f cdv A out s H E0).nox (defBody st) g) : OkR P w K mg base name k' n F := by
  subst hN hn hk hF
  exact okr_of T S hl body
theorem fss_none {X : Cx} {sts : List Stmt} : FSsd X sts (fun _ => none) := by
  obtain ⟨t, ht, _⟩ := psd_none (X := X) (sts := sts)
  exact ⟨t, ht, fun H0 M env σ H pa o T E h q => by cases h⟩
theorem okr_none {P : Program} {w : World} {K : PySem.W.Frag} {mg : Str → Option Value} {base : Heap} {name : Str} {st : Stmt} {k n : Nat} (N ps : List Str) (T : Df K mg name st ps) (S : FnScope N ps (defScope st)) (hl : ps.length ≤ N.length) (hn : ps.length = n) : OkR P w K mg base name (k + 1) n (fun _ => none) :=
  okr_by N ps (fun _ => none) T S hl rfl hn rfl (funext fun ds => by unfold runR; split <;> rfl) fun _ _ _ _ _ _ _ _ => fss_none
/-! ### x.append(y.pop(0)) -/
def appPop (env : Env) (i j : Nat) : Option Slot → Option Slot → Option Out
  | some (.ow (.lst (d :: ds))), some (.ow (.lst es)) => if es.length < lim then some (.nx ((env.set j (.own ds)).set i (.own (es ++ [d])))) else none
  | _, _ => none
def sAppPop (i j : Nat) : GS := fun env => if i = j then none else appPop env i j env[j]? env[i]?
section
variable {X : Cx} {pos : Pos}
theorem sd_appPop {i j : Nat} {x y : Str} {apos cpos px apos2 cpos2 py pz : Pos} {kz} (hN : X.N[i]? = some x) (hv : Vis X.env.scope x) (hN2 : X.N[j]? = some y) (hv2 : Vis X.env.scope y) (hd : (x == ("__debug__" : Str)) = false := by decide) (hcd : (x == ("__classdict__" : Str)) = false := by decide) (hd2 : (y == ("__debug__" : Str)) = false := by decide) (hcd2 : (y == ("__classdict__" : Str)) = false := by decide)
    (hbase : attributeBase (.Name x px) "append" X.env (eval (.Name x px) X.env) = eval (.Name x px) X.env := by rfl)
    (hfew : ((backTo cpos (starEach [.Call (.Attribute (.Name y py) "pop" apos2) [.Constant (.int 0) kz pz] [] cpos2] X.env)).all (fun x => !x.1) && (backToKw cpos (keywordEach [] X.env)).all (fun x => x.1.isSome)
      && decide (([.Call (.Attribute (.Name y py) "pop" apos2) [.Constant (.int 0) kz pz] [] cpos2] : List Expr).length + ([] : List Keyword).length + (if ([] : List Keyword).isEmpty then 0 else 1) < 30)) = true := by rfl)
    (hline : (apos.endLine == cpos.line) = true := by rfl) (hs : starEach [.Call (.Attribute (.Name y py) "pop" apos2) [.Constant (.int 0) kz pz] [] cpos2] X.env = (false, eval (.Call (.Attribute (.Name y py) "pop" apos2) [.Constant (.int 0) kz pz] [] cpos2) X.env) :: starEach [] X.env := by rfl) (hplain : (backTo cpos (starEach [] X.env)).any (·.1) = false := by rfl)
    (hbase2 : attributeBase (.Name y py) "pop" X.env (eval (.Name y py) X.env) = eval (.Name y py) X.env := by rfl)
    (hfew2 : ((backTo cpos2 (starEach [.Constant (.int 0) kz pz] X.env)).all (fun x => !x.1) && (backToKw cpos2 (keywordEach [] X.env)).all (fun x => x.1.isSome)
      && decide (([.Constant (.int 0) kz pz] : List Expr).length + ([] : List Keyword).length + (if ([] : List Keyword).isEmpty then 0 else 1) < 30)) = true := by rfl)
    (hline2 : (apos2.endLine == cpos2.line) = true := by rfl) (hs2 : starEach [.Constant (.int 0) kz pz] X.env = (false, eval (.Constant (.int 0) kz pz) X.env) :: starEach [] X.env := by rfl) (hplain2 : (backTo cpos2 (starEach [] X.env)).any (·.1) = false := by rfl)
    (hsw : swapsWith (.Call (.Attribute (.Name x px) "append" apos) [.Call (.Attribute (.Name y py) "pop" apos2) [.Constant (.int 0) kz pz] [] cpos2] [] cpos) none pos.line X.env = pure false := by rfl) :
    PSd X (.Expr (.Call (.Attribute (.Name x px) "append" apos) [.Call (.Attribute (.Name y py) "pop" apos2) [.Constant (.int 0) kz pz] [] cpos2] [] cpos) pos) (sAppPop i j) := by
  refine ⟨_, ps_expr (pe_bm PySem.F.plainAttrs_list PySem.F.slot_list_append PySem.F.type_list_append mt_append (pe_var hN hv hd hcd) (pa_cons (pe_bm PySem.F.plainAttrs_list PySem.F.slot_list_pop PySem.F.type_list_pop mt_popAt (pe_var hN2 hv2 hd2 hcd2) (pa_cons pe_int pa_nil hs2) hbase2 hfew2 hline2 hs2 hplain2) pa_nil hs) hbase hfew hline hs hplain) hsw, fun H0 M env σ H pa o T E h q => ?_⟩
  unfold sAppPop at h
  split at h
  · cases h
  · rename_i ij
    unfold appPop at h
    split at h
    · rename_i d ds es hj hi
      split at h
      · rename_i hl
        cases h
        obtain ⟨g1, g2, vs, g3, g4⟩ := E.own i es hi
        obtain ⟨k1, k2, us, k3, k4⟩ := E.own j (d :: ds) hj
        cases k4 with
        | @cons v us' _ _ hv hvs =>
          have E1 := E.write hj hvs
          have hi1 : (env.set j (.own ds))[i]? = some (.own es) := by rw [List.getElem?_set_ne (fun z => ij z.symm)]; exact hi
          obtain ⟨m1, m2, vs', m3, m4⟩ := E1.own i es hi1
          have hd : Dp X.K (vw (Hd M (env.set j (.own ds)) pa) (upd H (pa j) (.lst us'))) v d := by
            refine Dp_mono (fun a u ha => ?_) _ _ hv
            obtain ⟨z1, z2⟩ := vw_some ha
            have na : a ≠ pa j := fun e => z1 (.inr ⟨j, _, hj, e.symm⟩)
            refine vw_of (fun z => z1 ?_) (by rw [upd_ne na]; exact z2)
            rcases z with z | ⟨k, c, w1, w2⟩
            · exact .inl z
            · rcases set_some w1 with ⟨e1, _, _⟩ | ⟨_, e⟩
              · exact absurd (by rw [← w2, e1]) na
              · exact .inr ⟨k, c, e, w2⟩
          refine ⟨_, g1, .inl ⟨rfl, vs, SqL.of g3⟩, ?_⟩
          refine ⟨_, k1, .inl ⟨rfl, _, SqL.of k3⟩, ?_⟩
          refine ⟨_, _, 0, 0, v, rfl, rfl, k3, by decide, by decide, (by show (if _ then some _ else none) = _; rw [if_pos (by simp)]; rfl), rfl, ?_⟩
          refine ⟨_, vs', v, rfl, rfl, m3, by rw [DpAll_len m4, ← lim_eq]; exact hl, ?_⟩
          exact q σ _ pa (E1.write hi1 (DpAll_app m4 (.cons hd .nil)))
      · cases h
    · cases h
end
end Dn

namespace Dn
open PySem PySem.Spec PyProof.Rows L2
/-! ### items of a name's own list: x[i], x[i] = v -/
def gIxO (i : Nat) (gb : GE) : GE := fun env => (gVarB i env).bind fun x => (gb env).bind fun y => (asLst x).bind fun ds => vIx (.list ds) y
def setIx (env : Env) (i : Nat) (y d : D) : Option Slot → Option Out
  | some (.ow (.lst ds)) => match y with
    | .int k => (ixN ds.length k).bind fun j => some (.nx (env.set i (.own (ds.set j d))))
    | _ => none
  | _ => none
def sSetIx (i : Nat) (gb ga : GE) : GS := fun env => (ga env).bind fun d => (gb env).bind fun y => setIx env i y d env[i]?
theorem DpAll_set {K : PySem.W.Frag} {H : Hp} {v : V} {d : D} : ∀ {vs : List V} {ds : List D} (j : Nat), DpAll K H vs ds → Dp K H v d → DpAll K H (vs.set j v) (ds.set j d)
  | _, _, _, .nil, _ => .nil
  | _, _, 0, .cons _ t, hv => .cons hv t
  | _, _, j + 1, .cons h t, hv => .cons h (DpAll_set j t hv)
section
variable {X : Cx} {b : Bool} {c e : Expr} {pos : Pos} {ga gb : GE}
theorem pd_ixO {i : Nat} {x : Str} {px : Pos} (hN : X.N[i]? = some x) (hv : Vis X.env.scope x) (hb : PEd X true c gb) (hs : PlainIx c) (hd : (x == ("__debug__" : Str)) = false := by decide) (hcd : (x == ("__classdict__" : Str)) = false := by decide) :
    PEd X b (.Subscript (.Name x px) c pos) (gIxO i gb) := by
  obtain ⟨tb, pb', hb⟩ := hb
  refine ⟨_, pe_ix ix_seq (pe_var hN hv hd hcd) pb' hs, fun H0 M env σ H pa d Q E h q => ?_⟩
  obtain ⟨d1, h1, h⟩ := bind1 h
  obtain ⟨y, h2, h⟩ := bind1 h
  obtain ⟨ds, h4, h5⟩ := bind1 h
  have h4 := asLst_some h4
  subst h4
  have key : ∃ v, σ[i]? = some (some v) ∧ ∃ a xs, v = .ref a ∧ SqL X.K H a xs ∧ DpAll X.K (vw (Hd M env pa) H) xs ds := by
    unfold gVarB lookB at h1
    split at h1
    · rename_i d' hi
      cases h1
      obtain ⟨v, g1, g2⟩ := E.val i _ hi
      cases g2 with
      | lst hs hall => exact ⟨_, g1, _, _, rfl, vw_le.seq hs, hall⟩
    · rename_i ds' hi
      cases h1
      obtain ⟨g1, g2, vs, g3, g4⟩ := E.own i _ hi
      exact ⟨_, g1, _, _, rfl, .inl (.inl g3), g4⟩
    · cases h1
  obtain ⟨v, g1, a, xs, rfl, hsq, hall⟩ := key
  refine ⟨_, g1, hb H0 M env σ H pa _ _ E h2 fun y' H' s hy => ?_⟩
  cases y with
  | int k =>
    have hy := Dp_int hy
    subst hy
    obtain ⟨v, k1, k2⟩ := DpAll_at hall (show atD ds k = some d from h5)
    have sub : Same (vw (Hd M env pa) H) (vw (Vs b M env pa) H') := vw_same s fun a _ _ z => by
      cases b with
      | true => exact .inl z
      | false => exact z
    exact .inl ⟨a, xs, k, v, rfl, rfl, s.seq hsq, k1, q v H' s (Dp_mono sub _ _ k2)⟩
  | _ => cases h5
theorem sd_setIx {i : Nat} {x : Str} {px p : Pos} (hN : X.N[i]? = some x) (hv : Vis X.env.scope x) (hc : PEd X true c gb) (he : PEd X false e ga) (hd : (x == ("__debug__" : Str)) = false := by decide) (hcd : (x == ("__classdict__" : Str)) = false := by decide)
    (ha : ∀ v, assign (.Subscript (.Name x px) c p) X.env v = (do
      let ov ← holding [v] (eval (.Name x px) X.env)
      let iv ← holding [v, ov] (eval c X.env)
      standAt p
      holding [v, ov, iv] (setItem ov iv v)
      release [v, ov, iv] []) := by intro _; rfl)
    (hs : swapsWithSole [.Subscript (.Name x px) c p] e pos.line X.env = pure false := by rfl) (hw : swappedStores [.Subscript (.Name x px) c p] e X.env = pure none := by rfl)
    (h1 : (assignEach [.Subscript (.Name x px) c p] X.env).map (·.2) = [assign (.Subscript (.Name x px) c p) X.env] := by rfl) :
    PSd X (.Assign [.Subscript (.Name x px) c p] e pos) (sSetIx i gb ga) := by
  obtain ⟨tb, pb', hb⟩ := hc
  obtain ⟨ta, pa', hA⟩ := he
  refine ⟨_, ps_asg pa' (pg_sub (pe_var hN hv hd hcd) pb' set_list ha) hs hw h1, fun H0 M env σ H pa o T E h q => ?_⟩
  obtain ⟨d, h1, h2⟩ := bind1 h
  obtain ⟨y, h3, h4⟩ := bind1 h2
  unfold setIx at h4
  split at h4
  · rename_i ds hi
    split at h4
    · rename_i k
      obtain ⟨j, hj, h5⟩ := bind1 h4
      cases h5
      refine hA H0 M env σ H pa _ _ E h1 fun v H1 s1 hv1 => ?_
      have E1 := E.up s1
      obtain ⟨g1, _, _, _, _⟩ := E1.own i ds hi
      refine ⟨_, g1, hb H0 M env σ H1 pa _ _ E1 h3 fun y' H2 s2 hy => ?_⟩
      have hy := Dp_int hy
      subst hy
      have E2 := E1.up s2
      obtain ⟨_, _, vs, g3, g4⟩ := E2.own i ds hi
      refine ⟨pa i, vs, k, j, rfl, rfl, g3, by rw [DpAll_len g4]; exact hj, ?_⟩
      exact q σ _ pa (E2.write hi (DpAll_set j g4 (Dp_mono (vw_up s2) _ _ hv1)))
    · cases h4
  · cases h4
end
/-! not x, by truth -/
def gNotT (a : GE) : GE := fun env => (a env).bind fun x => (vTruth x).bind fun c => some (.bool (!c))
theorem pd_notT {X : Cx} {b : Bool} {a : Expr} {pos : Pos} {ga : GE} (ha : PEd X b a ga) : PEd X b (.UnaryOp .Not a pos) (gNotT ga) := by
  obtain ⟨t, ht, hh⟩ := ha
  refine ⟨_, pe_notT ht, fun H0 M env σ H pa d Q E h q => ?_⟩
  obtain ⟨d1, h1, h2⟩ := bind1 h
  obtain ⟨k1, h3, h4⟩ := bind1 h2
  cases h4
  exact hh H0 M env σ H pa _ _ E h1 fun v H' s hv => ⟨k1, truD hv h3, q _ H' s (.bl _)⟩
section
variable {X : Cx} {elt tg iter tg1 iter1 : Expr} {ifs ifs1 : List Expr} {scope : Scope} {own : List (Str × Nat)} {vs1 : List Nat} {pos : Pos} {gi gi1 : GA} {t t1 : GT} {gc gc1 : GB} {ge : GE}
/-- y = [.. for .. in .. for .. in ..] -/
theorem sd_setLc2 {i : Nat} {y : Str} {py spos : Pos} (hc : X.calm = true) (hN : X.N.Nodup) (hy : X.N[i]? = some y) (hyl : X.env.scope.names.lookup y = some .local) (hsw : swapsWith (.ListComp elt [⟨tg, iter, ifs, 0⟩, ⟨tg1, iter1, ifs1, 0⟩] scope pos) (some (.Name y py)) spos.line X.env = pure true) (hi : PId X tg iter false gi) (ok : BlkOk X.N X.env.scope scope own) (hv : ∀ i ∈ vs1, i ∈ own.map (·.2))
    (hg : ∀ (s : Shared) (H : Hp) (C : Addr) (cl : List (Str × Addr)) (fp : List Addr), PGc (BX X scope s H C cl fp) (own.map (·.2)) tg t) (ht : ∀ (s : Shared) (H : Hp) (C : Addr) (cl : List (Str × Addr)) (fp : List Addr), PTsd (BX X scope s H C cl fp) ifs gc)
    (hi1 : ∀ (s : Shared) (H : Hp) (C : Addr) (cl : List (Str × Addr)) (fp : List Addr), PId (BX X scope s H C cl fp) tg1 iter1 false gi1)
    (hg1 : ∀ (s : Shared) (H : Hp) (C : Addr) (cl : List (Str × Addr)) (fp : List Addr), PGc (BX X scope s H C cl fp) vs1 tg1 t1) (ht1 : ∀ (s : Shared) (H : Hp) (C : Addr) (cl : List (Str × Addr)) (fp : List Addr), PTsd (BX X scope s H C cl fp) ifs1 gc1)
    (he : ∀ (s : Shared) (H : Hp) (C : Addr) (cl : List (Str × Addr)) (fp : List Addr), PEd (BX X scope s H C cl fp) false elt ge) (hT : TGc (own.map (·.2)) t) (hT1 : TGc vs1 t1) (hs : ∀ x, foldedSetIterable iter X.env x = pure x := by intro _; rfl) (hs1 : ∀ env x, foldedSetIterable iter1 env x = pure x := by intro _ _; rfl) :
    PSd X (.Assign [.Name y py] (.ListComp elt [⟨tg, iter, ifs, 0⟩, ⟨tg1, iter1, ifs1, 0⟩] scope pos) spos) (sSet i (gComp2 (own.map (·.2)) gi t gc vs1 gi1 t1 gc1 ge)) := by
  obtain ⟨wi, hwi, hhi⟩ := hi
  refine ⟨_, ps_setLc2 (g := gOf X.K (own.map (·.2)) t) (tt := uOf X.K gc) (wi1 := iOf X.K gi1) (g1 := gOf X.K vs1 t1) (tt1 := uOf X.K gc1) (te := tOf X.K false ge) hc hN hy hyl hsw hwi ok hv (fun s H C cl fp => (hg s H C cl fp).can) (fun s H C cl fp => ht s H C cl fp) (fun s H C cl fp => (hi1 s H C cl fp).can) (fun s H C cl fp => (hg1 s H C cl fp).can) (fun s H C cl fp => ht1 s H C cl fp) (fun s H C cl fp => (he s H C cl fp).can) hs hs1, fun H0 M env σ H pa o T E h q => ?_⟩
  obtain ⟨d, h1, h2⟩ := bind1 h
  cases h2
  refine comp2_run hT hT1 hhi H0 M env σ H pa d _ E h1 fun p ws ds H' s hp hpl hd hall => ?_
  subst hd
  exact q _ H' pa ((E.up s).setVal (.lst (.inl (.inl (vw_of (fun z => E.hidden z hp) hpl))) (DpAll_mono (vw_same (Same.refl _) fun a _ _ z => .inl z) _ _ hall)))
end
end Dn

namespace Dn
open PySem PySem.Spec PyProof.Rows L2
/-! ### dicts of the module's top: texts that lead to dicts whose keys are tuples of whole numbers -/
/-- one entry -/
def NEnt (K : PySem.W.Frag) (w : World) (e : DictEntry) (p : NestedKey × D) : Prop := ∃ (q : Addr) (u : Value) (v : V), e = ⟨p.1.hash w, .ref q, u⟩ ∧ numOk p.1 = true ∧ p.1.depth ≤ 8 ∧ (∀ H, Dp K H (.ref q) p.1.data) ∧ RelV v u ∧ ∀ H, Dp K H v p.2
def KN (K : PySem.W.Frag) (w : World) (a : Addr) (kvs : List (NestedKey × D)) : Prop := ∃ es n, K.lookup a = some ⟨.type "dict", none, .dict es n, #[]⟩ ∧ Paired (NEnt K w) es.toList kvs ∧ (kvs.map (·.1)).Nodup
abbrev Tn := List (Str × List (NestedKey × D))
def tnAt : Tn → Str → Option (List (NestedKey × D))
  | [], _ => none
  | p :: r, z => if p.1 = z then some p.2 else tnAt r z
theorem tnAt_mem : ∀ {t : Tn} {z : Str} {r : List (NestedKey × D)}, tnAt t z = some r → (z, r) ∈ t
  | [], _, _, h => by cases h
  | p :: t, z, r, h => by
    unfold tnAt at h
    split at h
    · rename_i e
      cases h
      subst e
      exact List.mem_cons_self
    · exact List.mem_cons_of_mem _ (tnAt_mem h)
def Gt2 (K : PySem.W.Frag) (w : World) (mg : Str → Option Value) (name : Str) (t : Tn) : Prop := ∃ a es n, mg name = some (.ref a) ∧ KDict K w a es n ∧ ∀ p ∈ t, ∃ a2, PySem.W.nsIn K a p.1 = some (some (.ref a2)) ∧ KN K w a2 p.2
def gCTIx (t : Tn) (a c : GE) : GE := fun env => (a env).bind fun y => (c env).bind fun u => (asStr y).bind fun z => (tnAt t z).bind fun kvs => (keyT u).bind (atN kvs)
def rIxN (K : PySem.W.Frag) (w : World) : R2 := fun x y H Q => ∃ (p q : Addr) (kvs : List (NestedKey × D)) (k : NestedKey) (d : D), x = .ref p ∧ y = .ref q ∧ KN K w p kvs ∧ Dp K H (.ref q) k.data ∧ numOk k = true ∧ k.depth ≤ 8 ∧ atN kvs k = some d ∧ ∀ v, (∀ H, Dp K H v d) → Q v H
section
variable {X : Cx} {pins : List (Addr × Obj)} {σ : Sg} {H : Hp} {s : Shared} {a : Addr}
theorem kn_of {kvs : List (NestedKey × D)} (I : Inv X pins σ H s) (g : KN X.K X.w a kvs) : ∃ xs, s.heap.DictOfH (nestedKind X.prog X.w) a xs ∧ ∀ k d, atN kvs k = some d → ∃ p v, atKey xs k = some p ∧ RelV v p.2 ∧ ∀ H, Dp X.K H v d := by
  obtain ⟨es, n, l, r, nd⟩ := g
  have all : ∀ {ess : List DictEntry} {kvs : List (NestedKey × D)}, Paired (NEnt X.K X.w) ess kvs → ∃ xs : List (NestedKey × Addr × Value), ess = xs.map (entryOfKey (nestedKind X.prog X.w)) ∧ (∀ x ∈ xs, (nestedKind X.prog X.w).is s.heap x.1 x.2.1) ∧ xs.map (·.1) = kvs.map (·.1) ∧ ∀ k d, atN kvs k = some d → ∃ p v, atKey xs k = some p ∧ RelV v p.2 ∧ ∀ H, Dp X.K H v d := by
    intro ess kvs r
    induction r with
    | nil => exact ⟨[], rfl, fun x hx => (by cases hx), rfl, fun k d h => by cases h⟩
    | @cons e p es kvs h t ih =>
      obtain ⟨xs, e1, e2, e3, e4⟩ := ih
      obtain ⟨q, u, v, rfl, n1, n2, n3, n4, n5⟩ := h
      refine ⟨(p.1, q, u) :: xs, by rw [List.map_cons, ← e1]; rfl, fun x hx => ?_, by rw [List.map_cons, List.map_cons, e3], fun k d h => ?_⟩
      · rcases List.mem_cons.mp hx with rfl | hx
        · exact key_is I (n3 H) n1 n2
        · exact e2 x hx
      · rw [atKey_cons]
        unfold atN at h
        by_cases z : p.1 = k
        · rw [if_pos z] at h
          cases h
          exact ⟨_, v, if_pos z, n4, n5⟩
        · rw [if_neg z] at h
          rw [if_neg (show ¬ (p.1, q, u).1 = k from z)]
          exact e4 k d h
  obtain ⟨xs, e1, e2, e3, e4⟩ := all r
  exact ⟨xs, ⟨_, es, n, I.kIn _ _ l, ⟨rfl, rfl, rfl⟩, rfl, e1, e2, by rw [e3]; exact nd⟩, e4⟩
end
section
variable {X : Cx} {b : Bool} {x : Str} {p p1 pos : Pos} {c e : Expr} {gb gd : GE} {t : Tn}
theorem ix_kn (hu : X.A.units + 16 < cLine) : IxR X (rIxN X.K X.w) := by
  intro value slice pins s σ H x y v u Q I rx ry h hs
  obtain ⟨p, q, kvs, k, d, rfl, rfl, kn, hk, n, dk, l, hq⟩ := h
  obtain rfl : v = Value.ref p := rx
  obtain rfl : u = Value.ref q := ry
  obtain ⟨xs, dd, at_⟩ := kn_of I kn
  obtain ⟨pp, v, hp, rp, dv⟩ := at_ k d l
  exact tail_any dd.typeIs PySem.F.slot_dict_getitem.lookup (wpAny_getItem_heap (room_in1 hu) (key_is I hk n dk) dd hp ⟨v, H, I.tok _, rp, hq v dv⟩) hs
theorem pd_ctIx (hu : X.A.units + 16 < cLine) (g : Gt2 X.K X.w X.mg x t) (hc : PEd X b c gb) (hd : PEd X b e gd) (hs : PlainIx c) (hs2 : PlainIx e) (hg : Gl X x := by rfl) (hdb : (x == ("__debug__" : Str)) = false := by decide) : PEd X b (.Subscript (.Subscript (.Name x p) c p1) e pos) (gCTIx t gb gd) := by
  obtain ⟨a, es, n, hm, kd, ht⟩ := g
  obtain ⟨tb, pb', hb⟩ := hc
  obtain ⟨td, pd', hd⟩ := hd
  refine ⟨_, pe_ix (ix_kn hu) (pe_ix ix_kdict (pe_glob (v := .ref a) hg hm rfl hdb) pb' hs) pd' hs2, fun H0 M env σ H pa d Q E h q => ?_⟩
  obtain ⟨y, h1, h2⟩ := bind1 h
  obtain ⟨w, hw, h3⟩ := bind1 h2
  obtain ⟨z, h4, h5⟩ := bind1 h3
  obtain ⟨kvs, h6, h7⟩ := bind1 h5
  obtain ⟨k, h8, h9⟩ := bind1 h7
  have := asStr_some h4
  subst this
  obtain ⟨a2, g1, kn⟩ := ht _ (tnAt_mem h6)
  refine hb H0 M env σ H pa _ _ E h1 fun y H' s hy => ?_
  have := Dp_str hy
  subst this
  refine ⟨a, z, .ref a2, rfl, rfl, ⟨es, n, .ref a2, kd.at_, kd.lit, g1, rfl⟩, ?_⟩
  refine hd H0 M env σ H' pa _ _ (E.up s) hw fun z' H'' s' hz => ?_
  obtain ⟨q', rfl, dk, nk, dp⟩ := keyT_ref h8 hz
  exact ⟨a2, q', kvs, k, d, rfl, rfl, kn, Dp_mono vw_le _ _ dk, nk, dp, h9, fun v dv => q v H'' (s.trans s') (dv _)⟩
end
/-! making such facts -/
theorem gt2_mk {K : PySem.W.Frag} {h : Heap} {w : World} {mg : Str → Option Value} {name : Str} {a : Addr} {es : Array DictEntry} {n : Nat} {t : Tn} (X : K.In h) (G : h.Ns mainGlobals mg)
    (ha : PySem.W.nsIn K mainGlobals name = some (some (.ref a))) (l : K.lookup a = some ⟨.type "dict", none, .dict es n, #[]⟩) (hk : PySem.W.KeysLit w.params es.toList) (hs : (a == sysModules) = false) (ht : ∀ p ∈ t, ∃ a2, PySem.W.nsIn K a p.1 = some (some (.ref a2)) ∧ KN K w a2 p.2) : Gt2 K w mg name t :=
  ⟨a, es, n, PySem.W.mg_of X G ha, ⟨l, hk, hs⟩, ht⟩
theorem kn_mk {K : PySem.W.Frag} {w : World} {a : Addr} {es : Array DictEntry} {n : Nat} {kvs : List (NestedKey × D)} (l : K.lookup a = some ⟨.type "dict", none, .dict es n, #[]⟩) (h : Paired (NEnt K w) es.toList kvs) (nd : (kvs.map (·.1)).Nodup) : KN K w a kvs := ⟨es, n, l, h, nd⟩
/-- an entry: a pair of whole numbers leads to a pair of a whole number and three of them -/
theorem ent_mk {K : PySem.W.Frag} {w : World} {hh : Int} {q r p : Addr} {dd d2 d3 : Option Addr} {ku us : List Value} {u : Value} {n n2 n3 : Nat} {sl sl2 sl3 : Array (Option Value)} {ks : List NestedKey} {kd ds : List D} {d : D}
    (lk : K.lookup q = some ⟨.type "tuple", dd, .seq ku.toArray n, sl⟩) (lv : K.lookup r = some ⟨.type "tuple", d2, .seq [u, .ref p].toArray n2, sl2⟩) (lp : K.lookup p = some ⟨.type "tuple", d3, .seq us.toArray n3, sl3⟩)
    (hku : dsOf ku = some kd) (hks : keysN kd = some ks) (hu : dOf u = some d) (hd : dsOf us = some ds) (hash : hh = NestedKey.hash w (.tup ks)) (dep : NestedKey.depth (.tup ks) ≤ 8) (hz1 : ku.length ≤ 1000 := by decide) (hz : us.length ≤ 1000 := by decide) : NEnt K w ⟨hh, .ref q, .ref r⟩ (.tup ks, .tuple [d, .tuple ds]) := by
  obtain ⟨e, nn⟩ := keysN_data _ _ hks
  refine ⟨q, .ref r, .ref r, by rw [hash], by rw [numOk]; exact nn, dep, fun H => ?_, rfl, fun H => ?_⟩
  · obtain ⟨vs, rs, ps⟩ := dps_of (K := K) (H := H) hku
    show Dp K H (.ref q) (NestedKey.data (.tup ks))
    rw [NestedKey.data, e]
    exact .tup (.inr ⟨_, ku.toArray, n, lk, rfl, rfl, by rw [List.size_toArray]; exact Nat.le_of_lt (small1000 hz1), by simpa using rs⟩) ps
  · obtain ⟨vs, rs, ps⟩ := dps_of (K := K) (H := H) hd
    obtain ⟨v, rr, qq⟩ := dp_of (K := K) (H := H) hu
    have inner : Dp K H (.ref p) (.tuple ds) := .tup (.inr ⟨_, us.toArray, n3, lp, rfl, rfl, by rw [List.size_toArray]; exact Nat.le_of_lt (small1000 hz), by simpa using rs⟩) ps
    have rs2 : Vals [v, .ref p] [u, .ref p] := .cons rr (.cons rfl .nil)
    exact .tup (.inr ⟨_, [u, .ref p].toArray, n2, lv, rfl, rfl, by rw [List.size_toArray]; exact Nat.le_of_lt (small1000 (show [u, Value.ref p].length ≤ 1000 by simp)), by simpa using rs2⟩) (.cons qq (.cons inner .nil))
end Dn

namespace Dn
open PySem PySem.Spec PyProof.Rows L2
/-! ### texts -/
def vStr1 : D → Option D
  | .int i => if i.natAbs.log2 < 1920 then some (.str (toString i)) else none
  | _ => none
def vIntS : D → Option D
  | .str a => if a.length ≤ 640 then (PySem.intText? a).map PyData.int else none
  | _ => none
def strsD : List D → Option (List Str)
  | [] => some []
  | .str x :: ds => (strsD ds).map fun xs => x :: xs
  | _ :: _ => none
def joinOk (a : Str) (ys : List Str) : Bool := decide ((ys.map (·.length)).sum + ys.length * a.length ≤ 16777216)
def vJoin : D → D → Option D
  | .str a, .list ds => (strsD ds).bind fun ys => if joinOk a ys = true then some (.str (Txt.join a ys)) else none
  | _, _ => none
def vSplit : D → D → Option D
  | .str a, .str b => if (b.length == 0) = false ∧ a.length + 2 ≤ sizeLine then some (.list ((Txt.split a b).map PyData.str)) else none
  | _, _ => none
def vStarts : D → D → Option D
  | .str a, .str b => some (.bool (Txt.startswith a b))
  | _, _ => none
def vNotInS : D → D → Option D
  | .str i, .str j => some (.bool (!(!(Builtin.Str.occurrences j i 0 j.length 1).isEmpty)))
  | _, _ => none
def asChars : D → Option (List D)
  | .str x => some (x.cps.toList.map fun c => PyData.str ⟨#[c]⟩)
  | _ => none
def gStr (a : GE) : GA := fun env => (a env).bind asChars
def enumD (ds : List D) : List D := ds.mapIdx fun i d => PyData.tuple [.int (i : Int), d]
def gEnum (a : GE) : GA := fun env => ((a env).bind asLst).bind fun ds => some (enumD ds)
def vLstS (ds : List D) : Option D := if ds.length ≤ lim then some (.list ds) else none
def gStar (a : GE) (r : GA) : GA := fun env => (a env).bind fun x => (seqOf x).bind fun xs => (r env).bind fun ys => some (xs ++ ys)
theorem ca_str1 {K : PySem.W.Frag} : CaD K (fun xs H Q => ∃ i, xs = [.int i] ∧ i.natAbs.log2 < 1920 ∧ Q (.str (toString i)) H) (l1 vStr1) := by
  intro P H xs ds z Q nf hx hf q
  cases hx with
  | nil => cases hf
  | cons h1 h2 =>
    cases h2 with
    | nil =>
      cases h1 with
      | int i =>
        have hf : (if i.natAbs.log2 < 1920 then some (PyData.str (toString i)) else none) = some z := hf
        split at hf
        · rename_i hl
          cases hf
          exact ⟨i, rfl, hl, q _ H (Same.refl H) (.str _)⟩
        · cases hf
      | _ => cases hf
    | cons _ _ => cases hf
theorem ca_intS {K : PySem.W.Frag} : CaD K (fun xs H Q => ∃ a n, xs = [.str a] ∧ PySem.intText? a = some n ∧ a.length ≤ 640 ∧ Q (.int n) H) (l1 vIntS) := by
  intro P H xs ds z Q nf hx hf q
  cases hx with
  | nil => cases hf
  | cons h1 h2 =>
    cases h2 with
    | nil =>
      cases h1 with
      | str a =>
        have hf : (if a.length ≤ 640 then (PySem.intText? a).map PyData.int else none) = some z := hf
        split at hf
        · rename_i hl
          obtain ⟨n, h3, h4⟩ := Option.map_eq_some_iff.mp hf
          subst h4
          exact ⟨a, n, rfl, h3, hl, q _ H (Same.refl H) (.int _)⟩
        · cases hf
      | _ => cases hf
    | cons _ _ => cases hf
theorem seqL {K : PySem.W.Frag} {H H' : Hp} {a : Addr} {xs : List V} (e : Same H H') (h : SqL K H a xs) : SqL K H' a xs := e.seq h
theorem strsD_some : ∀ {ds : List D} {ys : List Str}, strsD ds = some ys → ds = ys.map PyData.str
  | [], ys, h => by cases h; rfl
  | d :: ds, ys, h => by
    cases d with
    | str x =>
      obtain ⟨xs, h1, h2⟩ := Option.map_eq_some_iff.mp (show (strsD ds).map (fun xs => x :: xs) = some ys from h)
      subst h2
      rw [strsD_some h1]; rfl
    | _ => cases h
theorem strsD_map (ys : List Str) : strsD (ys.map PyData.str) = some ys := by
  induction ys with
  | nil => rfl
  | cons x xs ih =>
    show (strsD (xs.map PyData.str)).map (fun xs => x :: xs) = _
    rw [ih]; rfl
theorem DpAll_strs {K : PySem.W.Frag} {H : Hp} : ∀ {ys : List Str} {vs : List V}, DpAll K H vs (ys.map PyData.str) → vs = ys.map V.str
  | [], vs, h => by cases h; rfl
  | y :: ys, vs, h => by
    cases h with
    | cons h1 h2 => rw [Dp_str h1, DpAll_strs h2]; rfl
theorem DpAll_mk_strs {K : PySem.W.Frag} {H : Hp} : ∀ ys : List Str, DpAll K H (ys.map V.str) (ys.map PyData.str)
  | [] => .nil
  | y :: ys => .cons (.str y) (DpAll_mk_strs ys)
section
variable {X : Cx} {b : Bool} {o e a tg : Expr} {es : List Expr} {pos apos p p2 : Pos} {go ge : GE} {gs : GA}
theorem pd_join (ho : PEd X b o go) (he : PEd X b e ge) (hs : starEach [e] X.env = [(false, eval e X.env)] := by rfl) (hbase : attributeBase o "join" X.env (eval o X.env) = eval o X.env := by rfl) (hline : (apos.endLine == pos.line) = true := by rfl) : PEd X b (.Call (.Attribute o "join" apos) [e] [] pos) (g2 vJoin go ge) := by
  obtain ⟨ta, pa', ha⟩ := ho
  obtain ⟨tb, pb', hb⟩ := he
  refine ⟨_, pe_join pa' pb' hs hbase hline, fun H0 M env σ H pa d Q E h q => ?_⟩
  obtain ⟨d1, d2, h1, h2, h3⟩ := bind2 h
  refine ha H0 M env σ H pa d1 _ E h1 fun x H1 s1 hx => ?_
  cases d1 with
  | str y =>
    have := Dp_str hx
    subst this
    refine ⟨⟨y, rfl⟩, hb H0 M env σ H1 pa d2 _ (E.up s1) h2 fun z H2 s2 hz => ?_⟩
    cases d2 with
    | list ds =>
      obtain ⟨ys, h4, h5⟩ := bind1 (show (strsD ds).bind (fun ys => if joinOk y ys = true then some (PyData.str (Txt.join y ys)) else none) = some d from h3)
      split at h5
      · rename_i hl
        cases h5
        have := strsD_some h4
        subst this
        cases hz with
        | lst hq hds =>
          rw [DpAll_strs hds] at hq
          exact ⟨y, _, ys, rfl, rfl, .inl (seqL vw_le hq), of_decide_eq_true hl, q _ H2 (s1.trans s2) (.str _)⟩
      · cases h5
    | _ => cases h3
  | _ => cases h3
theorem pd_split (ho : PEd X b o go) (he : PEd X b e ge) (hs : starEach [e] X.env = [(false, eval e X.env)] := by rfl) (hbase : attributeBase o "split" X.env (eval o X.env) = eval o X.env := by rfl) (hline : (apos.endLine == pos.line) = true := by rfl) : PEd X b (.Call (.Attribute o "split" apos) [e] [] pos) (g2 vSplit go ge) := by
  obtain ⟨ta, pa', ha⟩ := ho
  obtain ⟨tb, pb', hb⟩ := he
  refine ⟨_, pe_split pa' pb' hs hbase hline, fun H0 M env σ H pa d Q E h q => ?_⟩
  obtain ⟨d1, d2, h1, h2, h3⟩ := bind2 h
  refine ha H0 M env σ H pa d1 _ E h1 fun x H1 s1 hx => ?_
  cases d1 with
  | str y =>
    have := Dp_str hx
    subst this
    refine ⟨⟨y, rfl⟩, hb H0 M env σ H1 pa d2 _ (E.up s1) h2 fun z H2 s2 hz => ?_⟩
    cases d2 with
    | str z' =>
      have := Dp_str hz
      subst this
      have h3 : (if (z'.length == 0) = false ∧ y.length + 2 ≤ sizeLine then some (PyData.list ((Txt.split y z').map PyData.str)) else none) = some d := h3
      split at h3
      · rename_i hl
        cases h3
        refine ⟨y, z', rfl, rfl, hl.1, hl.2, fun p hp => ?_⟩
        have nP := fun z => Vs_nf b ((E.up s1).up s2) p z hp
        exact q _ _ ((s1.trans s2).trans (same_upd hp)) (.lst (.inl (.inl (vw_of nP upd_same))) (DpAll_mk_strs _))
      · cases h3
    | _ => cases h3
  | _ => cases h3
theorem pd_starts (ho : PEd X b o go) (he : PEd X b e ge) (hs : starEach [e] X.env = [(false, eval e X.env)] := by rfl) (hbase : attributeBase o "startswith" X.env (eval o X.env) = eval o X.env := by rfl) (hline : (apos.endLine == pos.line) = true := by rfl) : PEd X b (.Call (.Attribute o "startswith" apos) [e] [] pos) (g2 vStarts go ge) := by
  obtain ⟨ta, pa', ha⟩ := ho
  obtain ⟨tb, pb', hb⟩ := he
  refine ⟨_, pe_m1 PySem.F.slot_str_startswith PySem.F.type_str_startswith mt_startswith pa' pb' hs hbase hline, fun H0 M env σ H pa d Q E h q => ?_⟩
  obtain ⟨d1, d2, h1, h2, h3⟩ := bind2 h
  refine ha H0 M env σ H pa d1 _ E h1 fun x H1 s1 hx => ?_
  cases d1 with
  | str y =>
    have := Dp_str hx
    subst this
    refine ⟨⟨y, rfl⟩, hb H0 M env σ H1 pa d2 _ (E.up s1) h2 fun z H2 s2 hz => ?_⟩
    cases d2 with
    | str z' =>
      have := Dp_str hz
      subst this
      cases h3
      exact ⟨y, z', rfl, rfl, q _ H2 (s1.trans s2) (.bl _)⟩
    | _ => cases h3
  | _ => cases h3
theorem od_notInS {K : PySem.W.Frag} : OpD K (fun x y H Q => ∃ i j, x = .str i ∧ y = .str j ∧ Q (.bl (!(!(Builtin.Str.occurrences j i 0 j.length 1).isEmpty))) H) vNotInS := by
  intro P H x y d e z Q nf hx hy hf q
  cases d with
  | str i =>
    cases e with
    | str j =>
      cases hf
      rw [Dp_str hx, Dp_str hy]
      exact ⟨i, j, rfl, rfl, q _ H (Same.refl H) (.bl _)⟩
    | _ => cases hf
  | _ => cases hf
/-- a text, sign by sign -/
theorem Wk.chars {K : PySem.W.Frag} {Hc : Hp} (x : Str) : Wk K Hc (Its x) (x.cps.toList.map fun c => PyData.str ⟨#[c]⟩) := by
  refine ⟨fun H2 s => ?_, fun i d H2 s hd => ?_⟩
  · show x.cps.size ≤ _
    rw [List.length_map, Array.length_toList]; exact Nat.le_refl _
  · rw [List.getElem?_map] at hd
    cases hc : x.cps.toList[i]? with
    | none => rw [hc] at hd; cases hd
    | some c =>
      rw [hc] at hd
      cases hd
      have hl := (List.getElem?_eq_some_iff.mp hc).1
      rw [Array.length_toList] at hl
      refine ⟨hl, fun v H3 hv => ?_⟩
      obtain ⟨rfl, c', hc', rfl⟩ := hv
      rw [Array.getElem?_toList] at hc
      rw [hc] at hc'
      cases hc'
      exact ⟨Same.refl _, fun P _ _ => .str _⟩
theorem id_str (he : PEd X b e ge) : PId X tg e b (gStr ge) := by
  obtain ⟨t0, ht, hh⟩ := he
  refine ⟨_, pi_str ht, fun H0 M env σ H pa ds R E h q => ?_⟩
  obtain ⟨d, h1, h2⟩ := bind1 h
  cases d with
  | str x =>
    cases h2
    refine hh H0 M env σ H pa _ _ E h1 fun v H' s hv => ?_
    rw [Dp_str hv]
    exact ⟨x, rfl, q _ H' s (Wk.chars x)⟩
  | _ => cases h2
/-- enumerate(list) -/
theorem id_enum {elts : List Expr} {kk : Nat} {tpos : Pos} (hg : Gl X "enumerate") (hm : X.mg "enumerate" = none) (he : PEd X b e ge) (hs : starEach [e] X.env = [(false, eval e X.env)] := by rfl) (hs1 : starEach [e] X.env = (false, eval e X.env) :: starEach [] X.env := by rfl) : PId X (.Tuple elts kk tpos) (.Call (.Name "enumerate" p) [e] [] pos) b (gEnum ge) := by
  obtain ⟨t0, ht, hh⟩ := he
  refine ⟨_, pi_enum hg hm (pa_cons ht pa_nil hs1) hs, fun H0 M env σ H pa ds R E h q => ?_⟩
  obtain ⟨ds0, h1, h2⟩ := bind1 h
  obtain ⟨d, h3, h4⟩ := bind1 h1
  cases h2
  cases d with
  | list ds' =>
    cases h4
    refine hh H0 M env σ H pa _ _ E h3 fun v H' s hv => ?_
    cases hv with
    | lst hq hds =>
      rename_i a xs
      refine ⟨a, xs, rfl, seqL vw_le hq, q _ H' s ⟨fun H2 s2 => ?_, fun i d H2 s2 hd => ?_⟩⟩
      · show ∃ xs : List V, SqL X.K H2 a xs ∧ xs.length ≤ _
        refine ⟨xs, seqL s2 hq, ?_⟩
        unfold enumD
        rw [List.length_mapIdx, DpAll_len hds]; exact Nat.le_refl _
      · unfold enumD at hd
        rw [List.getElem?_mapIdx] at hd
        obtain ⟨d0, hd0, hd1⟩ := Option.map_eq_some_iff.mp hd
        obtain ⟨x, hx1, hx2⟩ := DpAll_get hds hd0
        refine ⟨⟨xs, x, seqL s2 hq, hx1⟩, fun v H3 hv => ?_⟩
        obtain ⟨T, x', rfl, hT, rfl, hall⟩ := hv
        have ex : some x = some x' := hx1.symm.trans (hall xs (seqL s2 hq))
        cases ex
        subst hd1
        refine ⟨same_upd hT, fun P nf sP => ?_⟩
        have nP : ¬ P T := fun z => nf T z hT
        have up := vw_up (P := P) (same_upd (o := .tup [.int (i : Nat), x]) hT)
        exact .tup (.inl (.inl (vw_of nP upd_same))) (.cons (.int _) (.cons (Dp_mono (sP.trans up) _ _ hx2) .nil))
  | _ => cases h4
/-! list displays with stars -/
def PAs (X : Cx) (b : Bool) (es : List Expr) (g : GA) : Prop := ∃ t, PA X es t ∧ ∀ (H0 : Hp) (M : Addr → Prop) (env : Env) (σ : Sg) (H : Hp) (pa : Nat → Addr) (ds : List D) (Q : List V → Hp → Prop), EO X.K H0 M env σ H pa → g env = some ds →
  (∀ vs H', Same H H' → DpAll X.K (vw (Vs b M env pa) H') vs ds → Q vs H') → t σ H Q
theorem pas_nil : PAs X b [] aNil := ⟨_, pa_nil, fun H0 M env σ H pa ds Q E h q => by cases h; exact q _ H (Same.refl H) .nil⟩
theorem pas_cons (he : PEd X b e ge) (hr : PAs X b es gs) (hs : starEach (e :: es) X.env = (false, eval e X.env) :: starEach es X.env := by rfl) : PAs X b (e :: es) (aCons ge gs) := by
  obtain ⟨ta, pa', ha⟩ := he
  obtain ⟨tb, pb', hb⟩ := hr
  refine ⟨_, pa_cons pa' pb' hs, fun H0 M env σ H pa ds Q E h q => ?_⟩
  obtain ⟨d, h1, h2⟩ := bind1 h
  obtain ⟨ds', h3, h4⟩ := bind1 h2
  cases h4
  refine ha H0 M env σ H pa d _ E h1 fun v H1 s1 hv => ?_
  exact hb H0 M env σ H1 pa ds' _ (E.up s1) h3 fun vs H2 s2 hvs => q _ H2 (s1.trans s2) (.cons (Dp_mono (vw_up s2) _ _ hv) hvs)
theorem pas_star (he : PEd X b e ge) (hr : PAs X b es gs) (hs : starEach (.Starred e p :: es) X.env = (true, eval e X.env) :: starEach es X.env := by rfl) : PAs X b (.Starred e p :: es) (gStar ge gs) := by
  obtain ⟨ta, pa', ha⟩ := he
  obtain ⟨tb, pb', hb⟩ := hr
  refine ⟨_, StX.pa_star pa' pb' hs, fun H0 M env σ H pa ds Q E h q => ?_⟩
  obtain ⟨d, h1, h2⟩ := bind1 h
  obtain ⟨xs, h3, h4⟩ := bind1 h2
  obtain ⟨ys, h5, h6⟩ := bind1 h4
  cases h6
  refine ha H0 M env σ H pa d _ E h1 fun v H1 s1 hv => ?_
  cases d with
  | list ds' =>
    cases h3
    cases hv with
    | lst hq hds => exact ⟨_, _, rfl, .inr (seqL vw_le hq), hb H0 M env σ H1 pa ys _ (E.up s1) h5 fun vs H2 s2 hvs => q _ H2 (s1.trans s2) (DpAll_app (DpAll_mono (vw_up s2) _ _ hds) hvs)⟩
  | tuple ds' =>
    cases h3
    cases hv with
    | tup hq hds => exact ⟨_, _, rfl, .inl (seqT vw_le hq), hb H0 M env σ H1 pa ys _ (E.up s1) h5 fun vs H2 s2 hvs => q _ H2 (s1.trans s2) (DpAll_app (DpAll_mono (vw_up s2) _ _ hds) hvs)⟩
  | _ => cases h3
theorem pd_lstS (h : PAs X b es gs) : PEd X b (.List es pos) (gArgs vLstS gs) := by
  obtain ⟨t, ht, hh⟩ := h
  refine ⟨_, pe_lst ht, fun H0 M env σ H pa d Q E h q => ?_⟩
  obtain ⟨ds, h1, h2⟩ := bind1 h
  have h2 : (if ds.length ≤ lim then some (PyData.list ds) else none) = some d := h2
  split at h2
  · rename_i hz
    cases h2
    refine hh H0 M env σ H pa ds _ E h1 fun vs H' s hv => ⟨by rw [DpAll_len hv, ← lim_eq]; exact hz, fun p hp => ?_⟩
    have nP := fun z => Vs_nf b (E.up s) p z hp
    exact q _ _ (s.trans (same_upd hp)) (.lst (.inl (.inl (vw_of nP upd_same))) (DpAll_mono (vw_up (same_upd hp)) _ _ hv))
  · cases h2
/-! what is never reached -/
theorem psd_never {st : Stmt} : PSd X st (fun _ => none) := ⟨fun _ _ _ => False, ⟨fun pins s σ H D I h => False.elim h⟩, fun H0 M env σ H pa o T E h q => by cases h⟩
end
/-! targets that unpack a list -/
def tTupL (ts : List GT) : GT := fun d env => (asLst d).bind fun ds => tTup2 ts ds env
theorem tTup2_len : ∀ (ts : List GT) (ds : List D) (env env' : Env), tTup2 ts ds env = some env' → ds.length = ts.length := by
  intro ts
  induction ts with
  | nil => intro ds env env' h; cases ds with
    | nil => rfl
    | cons _ _ => cases h
  | cons t ts ih => intro ds env env' h; cases ds with
    | nil => cases h
    | cons d ds =>
      obtain ⟨env1, h1, h2⟩ := bind1 h
      rw [List.length_cons, List.length_cons, ih ds env1 env' h2]
theorem gq_tupL {X : Cx} {es : List Expr} {pos : Pos} {k : Nat} {ts : List GT} (hc : X.calm = true) (h : PGsq X es ts) (hl : ts.length = es.length := by rfl) (hn : (assignEach es X.env).length = es.length := by rfl) (hst : (assignEach es X.env).findIdx? (·.1) = none := by rfl) : PGq X (.Tuple es k pos) (tTupL ts) := by
  obtain ⟨g, hg, hm, hh⟩ := h
  refine ⟨_, pg_unl (n := es.length) hc hg hn hst, fun d env env' pa a h z => ?_, fun H0 M env σ H pa v d env' Q E hv h q => ?_⟩
  · cases d with
    | list ds => exact hm ds env env' pa a h z
    | _ => cases h
  · cases hv with
    | lst hs ha =>
      have h : tTup2 ts _ env = some env' := h
      refine ⟨_, _, rfl, seqL vw_le hs, by rw [DpAll_len ha, tTup2_len _ _ _ _ h, hl], hh H0 M env σ H pa _ _ env' Q E ha h q⟩
    | _ => cases h
/-! range(a, b, 3) -/
def rng3D (lo : Int) (n : Nat) : List D := (List.range n).map fun (i : Nat) => PyData.int (lo + (i : Int) * 3)
def vRangeT : D → D → D → Option (List D)
  | .int i, .int j, .int c => if (rgOk i && rgOk j && decide (c = 3)) = true then some (rng3D i ((j - i + 2) / 3).toNat) else none
  | _, _, _ => none
def gRangeT (a b c : GE) : GA := fun env => (a env).bind fun x => (b env).bind fun y => (c env).bind fun z => vRangeT x y z
theorem Wk.rangeT {K : PySem.W.Frag} {Hc : Hp} (lo : Int) (n : Nat) : Wk K Hc (Itc lo 3 n) (rng3D lo n) := by
  refine ⟨fun H2 s => ?_, fun i d H2 s hd => ?_⟩
  · show n ≤ (rng3D lo n).length
    unfold rng3D
    rw [List.length_map, List.length_range]
    exact Nat.le_refl _
  · unfold rng3D at hd
    rw [List.getElem?_map] at hd
    by_cases hi : i < n
    · rw [List.getElem?_range hi] at hd
      cases hd
      refine ⟨hi, fun x H3 hx => ?_⟩
      obtain ⟨rfl, rfl⟩ := hx
      exact ⟨Same.refl _, fun P _ _ => .int _⟩
    · rw [List.getElem?_eq_none (by rw [List.length_range]; omega)] at hd
      cases hd
theorem rgcT {i j : Int} (hi : i < 2 ^ 62 ∧ -(2 ^ 62) ≤ i) (hj : j < 2 ^ 62 ∧ -(2 ^ 62) ≤ j) : RgC i j 3 ((j - i + 2) / 3).toNat := by
  have e : Builtin.Range.rangeSize i j 3 = (((j - i + 2) / 3).toNat : Int) := by
    unfold Builtin.Range.rangeSize
    rw [if_pos (by decide)]
    split <;> omega
  refine ⟨by decide, by decide, ?_, e⟩
  unfold Builtin.Range.small
  rw [e]
  simp only [Builtin.Range.rangeFitsLong, Bool.and_eq_true, Bool.or_eq_true, decide_eq_true_eq, beq_iff_eq, show (3 : Int) > 0 by decide, if_true]
  omega
theorem id_rangeT {X : Cx} {b : Bool} {tg a c e : Expr} {ga gb gc : GE} {p pos : Pos} (hg : Gl X "range") (hm : X.mg "range" = none) (ha : PEd X true a ga) (hb : PEd X true c gb) (hc : PEd X true e gc)
    (hs : starEach [a, c, e] X.env = (false, eval a X.env) :: starEach [c, e] X.env := by rfl) (hs2 : starEach [c, e] X.env = (false, eval c X.env) :: starEach [e] X.env := by rfl) (hs3 : starEach [e] X.env = (false, eval e X.env) :: starEach [] X.env := by rfl) (hpl : (backTo pos (starEach [c, e] X.env)).any (·.1) = false := by rfl) :
    PId X tg (.Call (.Name "range" p) [a, c, e] [] pos) b (gRangeT ga gb gc) := by
  obtain ⟨t1, ht1, hh1⟩ := ha
  obtain ⟨t2, ht2, hh2⟩ := hb
  obtain ⟨t3, ht3, hh3⟩ := hc
  refine ⟨_, pi_range3 hg hm (pa_cons ht1 (pa_cons ht2 (pa_cons ht3 pa_nil hs3) hs2) hs) hs hpl, fun H0 M env σ H pa ds R E h q => ?_⟩
  obtain ⟨d1, h1, h⟩ := bind1 h
  obtain ⟨d2, h2, h⟩ := bind1 h
  obtain ⟨d3, h3, h⟩ := bind1 h
  cases d1 with
  | int i =>
    cases d2 with
    | int j =>
      cases d3 with
      | int k =>
        have h' : (if (rgOk i && rgOk j && decide (k = 3)) = true then some (rng3D i ((j - i + 2) / 3).toNat) else none) = some ds := h
        clear h
        split at h'
        · rename_i hn
          rw [Bool.and_eq_true, Bool.and_eq_true] at hn
          have hi := rgOk_of hn.1.1
          have hj := rgOk_of hn.1.2
          have hk := of_decide_eq_true hn.2
          subst hk
          cases h'
          refine hh1 H0 M env σ H pa _ _ E h1 fun v H1 s1 hv => hh2 H0 M env σ H1 pa _ _ (E.up s1) h2 fun u H2 s2 hu => hh3 H0 M env σ H2 pa _ _ ((E.up s1).up s2) h3 fun w H3 s3 hw => ?_
          cases hv
          cases hu
          cases hw
          exact ⟨i, j, 3, _, rfl, rgcT hi hj, q _ H3 ((s1.trans s2).trans s3) (Wk.rangeT i _)⟩
        · cases h'
      | _ => cases h
    | _ => cases h
  | _ => cases h
/-! defs as values -/
def NsK (K : PySem.W.Frag) (mg : Str → Option Value) (x : Str) : Prop := ∃ f, PySem.W.nsIn K mainGlobals x = some (some (.ref f)) ∧ mg x = some (.ref f)
def fnOf : Option Slot → Option Str
  | some (.fn x) => some x
  | _ => none
def gFn (i : Nat) (x : Str) (F : List D → Option D) (gs : GA) : GE := fun env => (fnOf env[i]?).bind fun y => if y = x then (gs env).bind F else none
theorem fnOf_some {o : Option Slot} {y : Str} (h : fnOf o = some y) : o = some (.fn y) := by
  cases o with
  | none => cases h
  | some s => cases s with
    | fn z => cases h; rfl
    | _ => cases h
section
variable {X : Cx} {b : Bool} {k i : Nat} {f : Addr} {fd : FuncData} {ps : List Str} {sp : Sp} {x y : Str} {p p2 pos : Pos} {e : Expr} {es : List Expr} {t : TA} {gs : GA} {ge : GE} {F : List D → Option D}
theorem pe_callLG (G : FnG X.prog X.w X.K X.mg X.base k f fd ps sp) (hr : Room k X.A) (hG : X.A.guards = some []) (hN : X.N[i]? = some y) (hv : Vis X.env.scope y) (hk : PySem.W.keepIn X.K (.ref f) = true) (hb : Binds X.K fd ps [])
    (ha : PA X (e :: es) t) (hdb : (y == ("__debug__" : Str)) = false) (hcd : (y == ("__classdict__" : Str)) = false) (he : starEach (e :: es) X.env = (false, eval e X.env) :: starEach es X.env) (hpl : (backTo pos (starEach es X.env)).any (·.1) = false) :
    PE X (.Call (.Name y p) (e :: es) [] pos) (fun σ H Q => σ[i]? = some (some (.ref f)) ∧ t σ H fun zs H1 => sp zs H1 Q E0) := by
  refine ⟨fun pins s σ H Q I h => ?_⟩
  obtain ⟨hs, ht⟩ := h
  refine wpAny_Call_Name_kw (thn ((pe_var (pos := p) hN hv hdb hcd).run pins s σ H (fun v H1 => v = .ref f ∧ H1 = H) I ⟨.ref f, hs, rfl, rfl⟩) fun u s1 ⟨v, H1, I1, r1, q1⟩ => ?_)
  obtain ⟨rfl, rfl⟩ := q1
  cases r1
  exact PySem.W.callWith_K (h₀ := X.base) I.ok.mod.kin hk (thn (ha.run pos pins s1 σ _ _ I1 ht) fun us s2 hh => ⟨hh.elim fun _ z => z.elim fun _ z => z.1.kIn, hh.elim fun zs z => z.elim fun H1 z => run_g G hr hG hb z.1 z.2.1 z.2.2⟩) he hpl
/-- a call of a local name that holds the def x -/
theorem pd_fnS (O : Ok X.prog X.w X.K X.mg X.base x k (es.length + 1) F) (ns : NsK X.K X.mg x) (hr : Room k X.A) (hG : X.A.guards = some []) (hN : X.N[i]? = some y) (hv : Vis X.env.scope y) (ha : PAd X b (e :: es) gs) (hdb : (y == ("__debug__" : Str)) = false := by decide) (hcd : (y == ("__classdict__" : Str)) = false := by decide)
    (he : starEach (e :: es) X.env = (false, eval e X.env) :: starEach es X.env := by rfl) (hpl : (backTo pos (starEach es X.env)).any (·.1) = false := by rfl) : PEd X b (.Call (.Name y p) (e :: es) [] pos) (gFn i x F gs) := by
  obtain ⟨f, fd, ps, hm, hk, hb, G⟩ := O
  obtain ⟨f', n1, n2⟩ := ns
  have ef : f' = f := by
    rw [hm] at n2
    cases n2
    rfl
  subst ef
  obtain ⟨t, ht, hh⟩ := ha
  refine ⟨_, pe_callLG G hr hG hN hv hk hb ht hdb hcd he hpl, fun H0 M env σ H pa d Q E h q => ?_⟩
  obtain ⟨y', h1, h2⟩ := bind1 h
  have h3 := fnOf_some h1
  have h2 : (if y' = x then (gs env).bind F else none) = some d := h2
  split at h2
  · rename_i ey
    subst ey
    obtain ⟨g, g1, g2⟩ := E.fnc i _ h3
    rw [n1] at g1
    cases g1
    obtain ⟨ds, h4, h5⟩ := bind1 (show (gs env).bind F = some d by rw [if_pos rfl] at h2; exact h2)
    exact ⟨g2, hh H0 M env σ H pa ds _ E h4 fun vs H' s hv hl => ⟨ds, d, _, hv, h5, hl, Vs_nf b (E.up s), fun v H'' s' hv' => q v H'' (s.trans s') hv'⟩⟩
  · cases h2
end
/-! a def whose second argument is a def -/
def SpA (K : PySem.W.Frag) (x : Str) (F : List D → Option D) : Sp := fun zs H Q _ => ∃ v f d r P, zs = [v, .ref f] ∧ PySem.W.nsIn K mainGlobals x = some (some (.ref f)) ∧ Dp K (vw P H) v d ∧ F [d] = some r ∧ NF P H ∧ ∀ v' H', Same H H' → Dp K (vw P H') v' r → Q v' H'
def OkA (P : Program) (w : World) (K : PySem.W.Frag) (mg : Str → Option Value) (base : Heap) (name : Str) (k : Nat) (x : Str) (F : List D → Option D) : Prop :=
  ∃ f fd ps, mg name = some (.ref f) ∧ PySem.W.keepIn K (.ref f) = true ∧ Binds K fd ps [] ∧ FnG P w K mg base k f fd ps (SpA K x F)
def startA (n : Nat) (x : Str) (d : D) : Env := .val d :: .fn x :: List.replicate n .un
def runA (n : Nat) (x : Str) (body : GS) : List D → Option D
  | [d] => (body (startA n x d)).bind endF
  | _ => none
theorem startA_get {n : Nat} {x : Str} {d : D} {i : Nat} {s : Slot} (h : (startA n x d)[i]? = some s) : (i = 0 ∧ s = .val d) ∨ (i = 1 ∧ s = .fn x) ∨ s = .un := by
  match i, h with
  | 0, h => cases h; exact .inl ⟨rfl, rfl⟩
  | 1, h => cases h; exact .inr (.inl ⟨rfl, rfl⟩)
  | i + 2, h =>
    have h : (List.replicate n Slot.un)[i]? = some s := h
    rw [List.getElem?_replicate] at h
    split at h
    · cases h; exact .inr (.inr rfl)
    · cases h
theorem fn_dA {X : Cx} {body : List Stmt} {gS : GS} {N : List Str} {x : Str} {vs : List V} {H : Hp} {Q : VK} {E : XK} (hb : PSsd X body gS) (hl : 2 ≤ N.length) (h : SpA X.K x (runA (N.length - 2) x gS) vs H Q E) :
    ∃ t, PSs X body t ∧ t { nx := fun _ H' => Q .non H', rt := Q } (L2.start N vs) H := by
  obtain ⟨t, ht, hh⟩ := hb
  obtain ⟨v, f, d, r, M, rfl, hns, hv, hF, nf, q⟩ := h
  refine ⟨t, ht, ?_⟩
  obtain ⟨o, h1, h2⟩ := bind1 (show (gS (startA (N.length - 2) x d)).bind endF = some r from hF)
  have noown : ∀ (i : Nat) (es : Cont), (startA (N.length - 2) x d)[i]? ≠ some (Slot.ow es) := fun i es z => by
    rcases startA_get z with ⟨_, z⟩ | ⟨_, z⟩ | z <;> cases z
  have E0 : EO X.K H M (startA (N.length - 2) x d) (L2.start N [v, .ref f]) H (fun _ => 0) := by
    refine ⟨Same.refl H, nf, ?_, fun i e z => ?_, fun i es z => absurd z (noown i es), fun i j es fs z => absurd z (noown i es), fun i g z => ?_⟩
    · unfold startA L2.start
      simp only [List.length_append, List.length_map, List.length_replicate, List.length_cons, List.length_nil]
      omega
    · rcases startA_get z with ⟨rfl, z⟩ | ⟨_, z⟩ | z
      · cases z
        refine ⟨v, rfl, Dp_mono (vw_same (Same.refl H) fun a _ _ z => ?_) _ _ hv⟩
        rcases z with z | ⟨j, es, z, _⟩
        · exact z
        · exact absurd z (noown j es)
      · cases z
      · cases z
    · rcases startA_get z with ⟨_, z⟩ | ⟨rfl, z⟩ | z
      · cases z
      · cases z
        exact ⟨f, hns, rfl⟩
      · cases z
  refine hh H M _ _ H _ o _ E0 h1 ?_
  cases o with
  | nx env => cases h2; exact fun σ' H' pa' E' => q _ H' E'.same .non
  | ret d' => cases h2; exact q
  | bk env => cases h2
  | ct env => cases h2
section
variable {P : Program} {w : World} {K : PySem.W.Frag} {mg : Str → Option Value} {base : Heap}
theorem okA_of {name : Str} {st : Stmt} {N ps : List Str} {k : Nat} {x : Str} {g : GS} (T : Df K mg name st ps) (S : FnScope N ps (defScope st)) (h2 : ps.length = 2) (hl : 2 ≤ N.length)
    (body : ∀ (f : Addr) (cdv : Value) (A : Around) (out : List PySem.Env) (s : Shared) (H : Hp), Room k (A.deeper (envOfC name (defScope st) s.heap.objs.size f cdv)) → (A.deeper (envOfC name (defScope st) s.heap.objs.size f cdv)).guards = some [] →
      PSsd (cxOf CX0 P w K mg base N name (defScope st) f cdv A out s H E0).nox (defBody st) g) : OkA P w K mg base name (k + 1) x (runA (N.length - 2) x g) := by
  obtain ⟨f, fd, F, hm, hb⟩ := T
  refine ⟨f, fd, ps, hm, F.kp, hb, fn_g F S (fun zs H Q E h => ?_) fun cdv A out s H zs Q hr hG hsp => fn_dA (body f cdv A out s H hr hG) hl hsp⟩
  obtain ⟨v, f, d, r, M, rfl, _⟩ := h
  exact h2.symm
end
theorem okA_by {P : Program} {w : World} {K : PySem.W.Frag} {mg : Str → Option Value} {base : Heap} {name : Str} {st : Stmt} {k k' m : Nat} {x : Str} {F : List D → Option D} (N ps : List Str) (g : GS) (T : Df K mg name st ps) (S : FnScope N ps (defScope st)) (hn : ps.length = 2) (hl : 2 ≤ N.length) (hN : N.length - 2 = m) (hk : k' = k + 1) (hF : runA m x g = F)
    (body : ∀ (f : Addr) (cdv : Value) (A : Around) (out : List PySem.Env) (s : Shared) (H : Hp), Room k (A.deeper (envOfC name (defScope st) s.heap.objs.size f cdv)) → (A.deeper (envOfC name (defScope st) s.heap.objs.size f cdv)).guards = some [] →
      PSsd (cxOf CX0 P w K mg base N name (defScope st) f cdv A out s H E0).nox (defBody st) g) : OkA P w K mg base name k' x F := by
  subst hN hk hF
  exact okA_of T S hn hl body
theorem ns_mk {K : PySem.W.Frag} {h : Heap} {mg : Str → Option Value} {x : Str} {f : Addr} (X : K.In h) (G : h.Ns mainGlobals mg) (ha : PySem.W.nsIn K mainGlobals x = some (some (.ref f))) : NsK K mg x := ⟨f, ha, PySem.W.mg_of X G ha⟩
/-- a flat thing at the module's top -/
theorem gc_flat_mk {K : PySem.W.Frag} {h : Heap} {mg : Str → Option Value} {name : Str} {u : Value} {d : D} (X : K.In h) (G : h.Ns mainGlobals mg) (ha : PySem.W.nsIn K mainGlobals name = some (some u)) (hd : dOf u = some d) : Gc K mg name d := by
  cases u <;> cases hd
  · exact ⟨_, .non, PySem.W.mg_of X G ha, rfl, fun _ => .non⟩
  · exact ⟨_, .bl _, PySem.W.mg_of X G ha, rfl, fun _ => .bl _⟩
  · exact ⟨_, .int _, PySem.W.mg_of X G ha, ⟨_, rfl⟩, fun _ => .int _⟩
  · exact ⟨_, .str _, PySem.W.mg_of X G ha, ⟨_, rfl⟩, fun _ => .str _⟩
section
variable {X : Cx} {b : Bool} {k : Nat} {x y : Str} {p p2 pos : Pos} {e : Expr} {ge : GE} {F : List D → Option D}
/-- a call f(e, y) where y is a def -/
theorem pd_fnA (O : OkA X.prog X.w X.K X.mg X.base x k y F) (ns : NsK X.K X.mg y) (hr : Room k X.A) (hG : X.A.guards = some []) (ha : PEd X b e ge) (hg : Gl X x := by rfl) (hgy : Gl X y := by rfl) (hdb : (x == ("__debug__" : Str)) = false := by decide) (hdy : (y == ("__debug__" : Str)) = false := by decide)
    (he : starEach [e, .Name y p2] X.env = (false, eval e X.env) :: starEach [.Name y p2] X.env := by rfl) (he2 : starEach [.Name y p2] X.env = (false, eval (.Name y p2) X.env) :: starEach [] X.env := by rfl) (hpl : (backTo pos (starEach [.Name y p2] X.env)).any (·.1) = false := by rfl) : PEd X b (.Call (.Name x p) [e, .Name y p2] [] pos) (gArgs F (aCons ge aNil)) := by
  obtain ⟨f, fd, ps, hm, hk, hb, G⟩ := O
  obtain ⟨g, n1, n2⟩ := ns
  obtain ⟨t, ht, hh⟩ := ha
  refine ⟨_, pe_callG G hr hG hg hm hk hb (pa_cons ht (pa_cons (pe_glob (v := .ref g) hgy n2 rfl hdy) pa_nil he2) he) hdb he hpl, fun H0 M env σ H pa d Q E h q => ?_⟩
  obtain ⟨ds, h1, h2⟩ := bind1 h
  obtain ⟨d1, h3, h4⟩ := bind1 h1
  cases h4
  exact hh H0 M env σ H pa d1 _ E h3 fun v H' s hv => ⟨v, g, d1, d, _, rfl, n1, hv, h2, Vs_nf b (E.up s), fun v' H'' s' hv' => q v' H'' (s.trans s') hv'⟩
end
end Dn

namespace Dn
open PySem
/-! ### what repr shows is not too long -/
mutual
def nodes : D → Nat
  | .list xs => 1 + nodesAll xs
  | .tuple xs => 1 + nodesAll xs
  | _ => 1
def nodesAll : List D → Nat
  | [] => 0
  | x :: xs => nodes x + nodesAll xs
end
mutual
def smI : D → Bool
  | .int i => decide (i.natAbs.log2 < 1000)
  | .bool _ => true
  | .none => true
  | .list xs => smAll xs
  | .tuple xs => smAll xs
  | _ => false
def smAll : List D → Bool
  | [] => true
  | x :: xs => smI x && smAll xs
end
theorem nodes_pos (d : D) : 1 ≤ nodes d := by cases d <;> simp only [nodes] <;> omega
theorem int_shown {i : Int} (h : i.natAbs.log2 < 1000) : (PyData.shown (.int i)).length ≤ 1001 := by
  have := int_text_length_le (by decide) h
  show (Str.ofString (toString i)).length ≤ 1001
  rw [ofString_length]
  exact this
mutual
theorem shown_le : ∀ d : D, smI d = true → d.shown.length + 2 ≤ 1010 * nodes d
  | .int i, h => by
    have := int_shown (of_decide_eq_true h)
    simp only [nodes]
    omega
  | .bool b, _ => by cases b <;> decide
  | .none, _ => by decide
  | .str _, h => by cases h
  | .dict _, h => by cases h
  | .list xs, h => by
    have h1 := shownAll_le xs h
    have h2 := listText_len_le (PyData.shownAll xs)
    show (listText (PyData.shownAll xs)).length + 2 ≤ 1010 * (1 + nodesAll xs)
    omega
  | .tuple xs, h => by
    have h1 := shownAll_le xs h
    have h2 := tupleText_len_le (PyData.shownAll xs)
    show (tupleText (PyData.shownAll xs)).length + 2 ≤ 1010 * (1 + nodesAll xs)
    omega
theorem shownAll_le : ∀ xs : List D, smAll xs = true → ((PyData.shownAll xs).map (·.length)).sum + 2 * (PyData.shownAll xs).length ≤ 1010 * nodesAll xs
  | [], _ => by decide
  | x :: xs, h => by
    have h := Bool.and_eq_true_iff.mp (show (smI x && smAll xs) = true from h)
    have h1 := shown_le x h.1
    have h2 := shownAll_le xs h.2
    show (x.shown.length + ((PyData.shownAll xs).map (·.length)).sum) + 2 * ((PyData.shownAll xs).length + 1) ≤ 1010 * (nodes x + nodesAll xs)
    omega
end
mutual
theorem sm_show : ∀ d : D, smI d = true → d.showable = true ∧ d.hasDict = false
  | .int i, h => ⟨decide_eq_true (by have := of_decide_eq_true h; omega), rfl⟩
  | .bool b, _ => ⟨rfl, rfl⟩
  | .none, _ => ⟨rfl, rfl⟩
  | .str _, h => by cases h
  | .dict _, h => by cases h
  | .list xs, h => smAll_show xs h
  | .tuple xs, h => smAll_show xs h
theorem smAll_show : ∀ xs : List D, smAll xs = true → PyData.showableAll xs = true ∧ PyData.hasDictAll xs = false
  | [], _ => ⟨rfl, rfl⟩
  | x :: xs, h => by
    have h := Bool.and_eq_true_iff.mp (show (smI x && smAll xs) = true from h)
    have h1 := sm_show x h.1
    have h2 := smAll_show xs h.2
    constructor
    · show (x.showable && PyData.showableAll xs) = true
      rw [h1.1, h2.1]; rfl
    · show (x.hasDict || PyData.hasDictAll xs) = false
      rw [h1.2, h2.2]; rfl
end
theorem okShow_of {d : D} (h : smI d = true) (hd : d.depth ≤ 60) (hn : nodes d ≤ 16000) : okShow d = true := by
  have h1 := sm_show d h
  have h2 := shown_le d h
  unfold okShow
  rw [h1.1, h1.2, decide_eq_true hd, decide_eq_true (show d.shown.length ≤ lim by unfold lim; omega)]
  rfl
theorem vRepr1_of {d : D} (hr : isRefD d = true) (h : okShow d = true) : vRepr1 d = some (.str d.shown) := by
  unfold vRepr1 vRepr
  rw [if_pos hr, if_pos h]
theorem log_of_bd {k : Nat} {i : Int} (h : Bd k i) (hk : k ≤ 1000) : decide (i.natAbs.log2 < 1000) = true := by
  refine decide_eq_true ?_
  rcases Nat.eq_zero_or_pos k with e | e
  · subst e
    have : i.natAbs = 0 := by unfold Bd at h; omega
    rw [this]; decide
  · have := h.log e
    omega
theorem pr_show {k : Nat} {a b : Int} (ha : Bd k a) (hb : Bd k b) (hk : k ≤ 1000) : vRepr1 (pr a b) = some (.str (pr a b).shown) := by
  refine vRepr1_of rfl (okShow_of ?_ (Nat.le_of_ble_eq_true rfl) (Nat.le_of_ble_eq_true rfl))
  show (decide (a.natAbs.log2 < 1000) && (decide (b.natAbs.log2 < 1000) && true)) = true
  rw [log_of_bd ha hk, log_of_bd hb hk]
  rfl
def pt (a b c : Int) : D := .tuple [.int a, .int b, .int c]
theorem pt_show {k : Nat} {a b c : Int} (ha : Bd k a) (hb : Bd k b) (hc : Bd k c) (hk : k ≤ 1000) : vRepr1 (pt a b c) = some (.str (pt a b c).shown) := by
  refine vRepr1_of rfl (okShow_of ?_ (Nat.le_of_ble_eq_true rfl) (Nat.le_of_ble_eq_true rfl))
  show (decide (a.natAbs.log2 < 1000) && (decide (b.natAbs.log2 < 1000) && (decide (c.natAbs.log2 < 1000) && true))) = true
  rw [log_of_bd ha hk, log_of_bd hb hk, log_of_bd hc hk]
  rfl
theorem pt_shaped (a b c : Int) : SeqAt.shaped (pt a b c) = true := rfl
theorem pt_eqv (a b c d e f : Int) : PyData.eqv (pt a b c) (pt d e f) = (decide (a = d) && (decide (b = e) && decide (c = f))) := by
  show ((a == d) && ((b == e) && ((c == f) && true))) = _
  rw [Bool.and_true]
  rfl
theorem vNe_pt (a b c d e f : Int) : vNe (pt a b c) (pt d e f) = some (.bool (!(decide (a = d) && (decide (b = e) && decide (c = f))))) := by
  show vNeG (pt a b c) (pt d e f) = _
  unfold vNeG
  rw [pt_shaped, pt_shaped, pt_eqv]
  rfl
theorem vEq_pt (a b c d e f : Int) : vEq (pt a b c) (pt d e f) = some (.bool (decide (a = d) && (decide (b = e) && decide (c = f)))) := by
  show vEqG (pt a b c) (pt d e f) = _
  unfold vEqG
  rw [pt_shaped, pt_shaped, pt_eqv]
  rfl
/-! ### the one triple of a place -/
def gg (x y w : Int) : Int := ((Int.gcd ((Int.gcd x y : Nat) : Int) w : Nat) : Int)
def ptX (x w : Int) (g : Int) : Int := (if w < 0 then -x else x) / g
/-- a, b, c have no common divisor, c is above 0 -/
structure Nf (a b c : Int) : Prop where
  pos : 0 < c
  one : Int.gcd ((Int.gcd a b : Nat) : Int) c = 1
theorem gg_pos {x y w : Int} (h : w ≠ 0) : 0 < gg x y w := by
  have := gcd_ne (n := ((Int.gcd x y : Nat) : Int)) h
  unfold gg
  omega
theorem gg_dvd (x y w : Int) : gg x y w ∣ x ∧ gg x y w ∣ y ∧ gg x y w ∣ w := by
  have h1 : gg x y w ∣ ((Int.gcd x y : Nat) : Int) := Int.gcd_dvd_left _ _
  exact ⟨Int.dvd_trans h1 (Int.gcd_dvd_left _ _), Int.dvd_trans h1 (Int.gcd_dvd_right _ _), Int.gcd_dvd_right _ _⟩
theorem nf_unique {a b c a' b' c' : Int} (h : Nf a b c) (h' : Nf a' b' c') (e1 : a * c' = a' * c) (e2 : b * c' = b' * c) : a = a' ∧ b = b' ∧ c = c' := by
  have key : ∀ {a b c a' b' c' : Int}, Nf a b c → a * c' = a' * c → b * c' = b' * c → c.natAbs ∣ c'.natAbs := by
    intro a b c a' b' c' h e1 e2
    have d1 : c.natAbs ∣ a.natAbs * c'.natAbs := by rw [← Int.natAbs_mul, e1, Int.natAbs_mul]; exact Nat.dvd_mul_left _ _
    have d2 : c.natAbs ∣ b.natAbs * c'.natAbs := by rw [← Int.natAbs_mul, e2, Int.natAbs_mul]; exact Nat.dvd_mul_left _ _
    have d3 : c.natAbs ∣ c.natAbs * c'.natAbs := Nat.dvd_mul_right _ _
    have d4 := Nat.dvd_gcd (Nat.dvd_gcd d1 d2) d3
    rw [Nat.gcd_mul_right, Nat.gcd_mul_right] at d4
    have o := h.one
    rw [Int.gcd_eq_natAbs_gcd_natAbs, Int.natAbs_natCast, Int.gcd_eq_natAbs_gcd_natAbs] at o
    rw [o, Nat.one_mul] at d4
    exact d4
  have q := Nat.dvd_antisymm (key h e1 e2) (key h' e1.symm e2.symm)
  have ec : c = c' := by have := h.pos; have := h'.pos; omega
  subst ec
  have hc : c ≠ 0 := by have := h.pos; omega
  exact ⟨Int.eq_of_mul_eq_mul_right hc e1, Int.eq_of_mul_eq_mul_right hc e2, rfl⟩
end Dn

namespace Dn
open PySem
def p1 (x y w : Int) : Int := ptX x w (gg x y w)
def p2 (x y w : Int) : Int := ptX y w (gg x y w)
def p3 (x y w : Int) : Int := ptX w w (gg x y w)
theorem ptX_mul {x w g : Int} (h : g ∣ x) : g * ptX x w g = if w < 0 then -x else x := by
  unfold ptX
  rw [Int.mul_ediv_cancel']
  split
  · exact Int.dvd_neg.mpr h
  · exact h
theorem p_facts {x y w : Int} (h : w ≠ 0) : ∃ g : Int, 0 < g ∧ g * p1 x y w = (if w < 0 then -x else x) ∧ g * p2 x y w = (if w < 0 then -y else y) ∧ g * p3 x y w = (if w < 0 then -w else w) ∧ g = gg x y w := by
  obtain ⟨d1, d2, d3⟩ := gg_dvd x y w
  exact ⟨gg x y w, gg_pos h, ptX_mul d1, ptX_mul d2, ptX_mul d3, rfl⟩
theorem gg_nat (x y w : Int) : (gg x y w).natAbs = Nat.gcd (Nat.gcd x.natAbs y.natAbs) w.natAbs := by
  unfold gg
  rw [Int.natAbs_natCast, Int.gcd_eq_natAbs_gcd_natAbs, Int.natAbs_natCast, Int.gcd_eq_natAbs_gcd_natAbs]
theorem p_nf {x y w : Int} (h : w ≠ 0) : Nf (p1 x y w) (p2 x y w) (p3 x y w) := by
  obtain ⟨g, hg, e1, e2, e3, eg⟩ := p_facts (x := x) (y := y) h
  constructor
  · refine Int.not_le.mp fun z => ?_
    have : g * p3 x y w ≤ 0 := Int.mul_nonpos_of_nonneg_of_nonpos (by omega) z
    split at e3 <;> omega
  · have f1 : x.natAbs = (p1 x y w).natAbs * g.natAbs := by
      rw [← Int.natAbs_mul, Int.mul_comm, e1]; split <;> omega
    have f2 : y.natAbs = (p2 x y w).natAbs * g.natAbs := by
      rw [← Int.natAbs_mul, Int.mul_comm, e2]; split <;> omega
    have f3 : w.natAbs = (p3 x y w).natAbs * g.natAbs := by
      rw [← Int.natAbs_mul, Int.mul_comm, e3]; split <;> omega
    have q := gg_nat x y w
    rw [f1, f2, f3, Nat.gcd_mul_right, Nat.gcd_mul_right, ← eg] at q
    rw [Int.gcd_eq_natAbs_gcd_natAbs, Int.natAbs_natCast, Int.gcd_eq_natAbs_gcd_natAbs]
    have hp : 0 < g.natAbs := by omega
    have q2 : g.natAbs * 1 = g.natAbs * Nat.gcd (Nat.gcd (p1 x y w).natAbs (p2 x y w).natAbs) (p3 x y w).natAbs := by rw [Nat.mul_one, Nat.mul_comm]; exact q
    exact (Nat.eq_of_mul_eq_mul_left hp q2).symm
theorem p_cross {x y w : Int} (h : w ≠ 0) : p1 x y w * w = x * p3 x y w ∧ p2 x y w * w = y * p3 x y w := by
  obtain ⟨g, hg, e1, e2, e3, _⟩ := p_facts (x := x) (y := y) h
  have hg' : g ≠ 0 := by omega
  constructor
  · refine Int.eq_of_mul_eq_mul_left hg' ?_
    have l : g * (p1 x y w * w) = (g * p1 x y w) * w := by rw [Int.mul_assoc]
    have r : g * (x * p3 x y w) = x * (g * p3 x y w) := by rw [Int.mul_left_comm]
    rw [l, r, e1, e3]
    split
    · rw [Int.neg_mul, Int.mul_neg]
    · rfl
  · refine Int.eq_of_mul_eq_mul_left hg' ?_
    have l : g * (p2 x y w * w) = (g * p2 x y w) * w := by rw [Int.mul_assoc]
    have r : g * (y * p3 x y w) = y * (g * p3 x y w) := by rw [Int.mul_left_comm]
    rw [l, r, e2, e3]
    split
    · rw [Int.neg_mul, Int.mul_neg]
    · rfl
/-- one place, one triple -/
theorem p_same {x y w x' y' w' : Int} (h : w ≠ 0) (h' : w' ≠ 0) (e1 : x * w' = x' * w) (e2 : y * w' = y' * w) : p1 x y w = p1 x' y' w' ∧ p2 x y w = p2 x' y' w' ∧ p3 x y w = p3 x' y' w' := by
  obtain ⟨a1, a2⟩ := p_cross (x := x) (y := y) h
  obtain ⟨b1, b2⟩ := p_cross (x := x') (y := y') h'
  have hh : w * w' ≠ 0 := Int.mul_ne_zero h h'
  refine nf_unique (p_nf h) (p_nf h') ?_ ?_
  · refine Int.eq_of_mul_eq_mul_right hh ?_
    grind
  · refine Int.eq_of_mul_eq_mul_right hh ?_
    grind
/-- a triple that is in its form stays -/
theorem p_id {a b c : Int} (h : Nf a b c) : p1 a b c = a ∧ p2 a b c = b ∧ p3 a b c = c := by
  have h0 : c ≠ 0 := by have := h.pos; omega
  obtain ⟨a1, a2⟩ := p_cross (x := a) (y := b) h0
  exact nf_unique (p_nf h0) h a1 a2
theorem p1_bd {k : Nat} {x y w : Int} (h : w ≠ 0) (b : Bd k x) : Bd k (p1 x y w) := by
  obtain ⟨g, hg, e, _⟩ := p_facts (x := x) (y := y) h
  have := nat_factor hg e
  unfold Bd at *
  split at this <;> omega
theorem p2_bd {k : Nat} {x y w : Int} (h : w ≠ 0) (b : Bd k y) : Bd k (p2 x y w) := by
  obtain ⟨g, hg, _, e, _⟩ := p_facts (x := x) (y := y) h
  have := nat_factor hg e
  unfold Bd at *
  split at this <;> omega
theorem p3_bd {k : Nat} {x y w : Int} (h : w ≠ 0) (b : Bd k w) : Bd k (p3 x y w) := by
  obtain ⟨g, hg, _, _, e, _⟩ := p_facts (x := x) (y := y) h
  have := nat_factor hg e
  unfold Bd at *
  split at this <;> omega
theorem p3_pos {x y w : Int} (h : w ≠ 0) : 0 < p3 x y w := (p_nf h).pos
def P (x y w : Int) : D := pt (p1 x y w) (p2 x y w) (p3 x y w)
theorem P_same {x y w x' y' w' : Int} (h : w ≠ 0) (h' : w' ≠ 0) (e1 : x * w' = x' * w) (e2 : y * w' = y' * w) : P x y w = P x' y' w' := by
  obtain ⟨a, b, c⟩ := p_same h h' e1 e2
  unfold P
  rw [a, b, c]
theorem fdiv_neg_exact {x g : Int} (hg : 0 < g) (h : g ∣ x) : x.fdiv (-g) = -x / g := by
  obtain ⟨q, rfl⟩ := h
  have e : g * q = (-g) * (-q) := by rw [Int.neg_mul_neg]
  rw [e, Int.mul_fdiv_cancel_left _ (by omega), ← e, Int.neg_mul_eq_mul_neg g q, Int.mul_ediv_cancel_left _ (by omega)]
/-! ### numbers: one fraction, one pair -/
theorem nm_cross {n d : Int} (h : d ≠ 0) : nmN n d * d = n * nmD n d := by
  obtain ⟨g, hg, e1, e2⟩ := nm_facts (n := n) h
  refine Int.eq_of_mul_eq_mul_left (show g ≠ 0 by omega) ?_
  have l : g * (nmN n d * d) = (g * nmN n d) * d := by rw [Int.mul_assoc]
  have r : g * (n * nmD n d) = n * (g * nmD n d) := by rw [Int.mul_left_comm]
  rw [l, r, e1, e2]
  split
  · rw [Int.neg_mul, Int.mul_neg]
  · rfl
end Dn

namespace Dn
open PySem
/-- sizes in doublings of 64 bits -/
structure S (k : Nat) (x : Int) : Prop where
  b : Bd (64 * 2 ^ k) x
theorem S.up {k : Nat} {x : Int} (h : S k x) : S (k + 1) x := .mk <| Bd.mono h.b (by rw [Nat.pow_succ]; omega)
theorem S.mul {k : Nat} {x y : Int} (h : S k x) (h' : S k y) : S (k + 1) (x * y) := .mk <| Bd.mul h.b h'.b (by rw [Nat.pow_succ]; omega)
theorem S.add {k : Nat} {x y : Int} (h : S k x) (h' : S k y) : S (k + 1) (x + y) := .mk <| Bd.add h.b h'.b (by have := Nat.pow_pos (n := k) (show 0 < 2 by decide); rw [Nat.pow_succ]; omega)
theorem S.sub {k : Nat} {x y : Int} (h : S k x) (h' : S k y) : S (k + 1) (x - y) := .mk <| Bd.sub h.b h'.b (by have := Nat.pow_pos (n := k) (show 0 < 2 by decide); rw [Nat.pow_succ]; omega)
theorem S.neg {k : Nat} {x : Int} (h : S k x) : S k (-x) := .mk <| Bd.neg h.b
theorem S.mono {j k : Nat} {x : Int} (h : S j x) (l : j ≤ k) : S k x := .mk <| Bd.mono h.b (Nat.mul_le_mul_left _ (Nat.pow_le_pow_right (by decide) l))
theorem S.of {k : Nat} {x : Int} (h : Bd 64 x) : S k x := .mk <| Bd.mono h (by have := Nat.pow_pos (n := k) (show 0 < 2 by decide); omega)
theorem S.lit {k : Nat} {x : Int} (h : decide (x.natAbs < 2 ^ 64) = true) : S k x := S.of (bd_lit h)
theorem S.pos (k : Nat) : 0 < 64 * 2 ^ k := by have := Nat.pow_pos (n := k) (show 0 < 2 by decide); omega
theorem vMul_S {a b : Int} (h : S 12 a) (h' : S 12 b) : vMul (.int a) (.int b) = some (.int (a * b)) := vMul_ok (mulOk_of h.b h'.b (by decide) (by decide) (by decide))
theorem P_S {k : Nat} {x y w : Int} (h : w ≠ 0) (a : S k x) (b : S k y) (c : S k w) : S k (p1 x y w) ∧ S k (p2 x y w) ∧ S k (p3 x y w) := ⟨⟨p1_bd h a.b⟩, ⟨p2_bd h b.b⟩, ⟨p3_bd h c.b⟩⟩
theorem pt_show_S {a b c : Int} (ha : S 3 a) (hb : S 3 b) (hc : S 3 c) : vRepr1 (pt a b c) = some (.str (pt a b c).shown) := pt_show (k := 64 * 2 ^ 3) ha.b hb.b hc.b (by decide)
theorem nm_S {k : Nat} {n d : Int} (h : d ≠ 0) (a : S k n) (b : S k d) : S k (nmN n d) ∧ S k (nmD n d) := ⟨⟨nmN_bd h a.b⟩, ⟨nmD_bd h b.b⟩⟩
end Dn

namespace Dn
open PySem
/-! ### quarter turns -/
def tX (k x y : Int) : Int := if k = 1 then -y else if k = 2 then -x else if k = 3 then y else x
def tY (k x y : Int) : Int := if k = 1 then x else if k = 2 then -y else if k = 3 then -x else y
def co (k : Int) : Int := if k = 0 then 1 else if k = 2 then -1 else 0
def si (k : Int) : Int := if k = 1 then 1 else if k = 3 then -1 else 0
structure Qt (k : Int) : Prop where
  h0 : 0 ≤ k
  h4 : k < 4
theorem Qt.or {k : Int} (h : Qt k) : k = 0 ∨ k = 1 ∨ k = 2 ∨ k = 3 := by have := h.h0; have := h.h4; omega
theorem tX_lin {k : Int} (h : Qt k) (x y : Int) : tX k x y = co k * x - si k * y := by
  rcases h.or with rfl | rfl | rfl | rfl
  · show x = 1 * x - 0 * y; omega
  · show -y = 0 * x - 1 * y; omega
  · show -x = -1 * x - 0 * y; omega
  · show y = 0 * x - -1 * y; omega
theorem tY_lin {k : Int} (h : Qt k) (x y : Int) : tY k x y = si k * x + co k * y := by
  rcases h.or with rfl | rfl | rfl | rfl
  · show y = 0 * x + 1 * y; omega
  · show x = 1 * x + 0 * y; omega
  · show -y = 0 * x + -1 * y; omega
  · show -x = -1 * x + 0 * y; omega
theorem cs_one {k : Int} (h : Qt k) : co k * co k + si k * si k = 1 := by
  rcases h.or with rfl | rfl | rfl | rfl <;> rfl
theorem qt_back {k : Int} (h : Qt k) : Qt ((4 - k) % 4) ∧ co ((4 - k) % 4) = co k ∧ si ((4 - k) % 4) = - si k ∧ (4 - (4 - k) % 4) % 4 = k ∧ (k + (4 - k) % 4) % 4 = 0 ∧ ((4 - k) % 4 + k) % 4 = 0 := by
  rcases h.or with rfl | rfl | rfl | rfl <;> exact ⟨⟨by decide, by decide⟩, rfl, rfl, rfl, rfl, rfl⟩
theorem qt_add {k l : Int} (h : Qt k) (h' : Qt l) : Qt ((k + l) % 4) ∧ co ((k + l) % 4) = co k * co l - si k * si l ∧ si ((k + l) % 4) = si k * co l + co k * si l := by
  rcases h.or with rfl | rfl | rfl | rfl <;> rcases h'.or with rfl | rfl | rfl | rfl <;> exact ⟨⟨by decide, by decide⟩, rfl, rfl⟩
theorem S_t {n : Nat} {k x y : Int} (hk : Qt k) (hx : S n x) (hy : S n y) : S n (tX k x y) ∧ S n (tY k x y) := by
  rcases hk.or with rfl | rfl | rfl | rfl
  · exact ⟨hx, hy⟩
  · exact ⟨hy.neg, hx⟩
  · exact ⟨hx.neg, hy.neg⟩
  · exact ⟨hy, hx.neg⟩
theorem Nf.neg {a b c : Int} (h : Nf a b c) : Nf (-a) (-b) c := ⟨h.pos, by rw [Int.neg_gcd, Int.gcd_neg]; exact h.one⟩
theorem Nf.turn {k a b c : Int} (hk : Qt k) (h : Nf a b c) : Nf (tX k a b) (tY k a b) c := by
  rcases hk.or with rfl | rfl | rfl | rfl
  · exact h
  · exact ⟨h.pos, by show Int.gcd ((Int.gcd (-b) a : Nat) : Int) c = 1; rw [Int.neg_gcd, Int.gcd_comm b a]; exact h.one⟩
  · exact h.neg
  · exact ⟨h.pos, by show Int.gcd ((Int.gcd b (-a) : Nat) : Int) c = 1; rw [Int.gcd_neg, Int.gcd_comm b a]; exact h.one⟩
def mo (k a b c : Int) : D := .tuple [.int k, pt a b c]
theorem mo_eqv (k a b c l d e f : Int) : PyData.eqv (mo k a b c) (mo l d e f) = (decide (k = l) && (decide (a = d) && (decide (b = e) && decide (c = f)))) := by
  show ((k == l) && ((PyData.eqv (pt a b c) (pt d e f)) && true)) = _
  rw [Bool.and_true, pt_eqv]
  rfl
theorem vEq_mo (k a b c l d e f : Int) : vEq (mo k a b c) (mo l d e f) = some (.bool (decide (k = l) && (decide (a = d) && (decide (b = e) && decide (c = f))))) := by
  show vEqG (mo k a b c) (mo l d e f) = _
  unfold vEqG
  rw [show SeqAt.shaped (mo k a b c) = true from rfl, show SeqAt.shaped (mo l d e f) = true from rfl, mo_eqv]
  rfl
theorem eq_cancel {s l r : Int} (h : s ≠ 0) (e : l * s = r * s) : l = r := Int.eq_of_mul_eq_mul_right h e
end Dn

namespace Dn
open PySem
/-! ### points in the plane, as triples -/
structure Pt where
  x : Int
  y : Int
  w : Int
  nf : Nf x y w
namespace Pt
theorem ext' {a b : Pt} (h1 : a.x = b.x) (h2 : a.y = b.y) (h3 : a.w = b.w) : a = b := by
  cases a; cases b; simp_all
/-- from a to b, first and second coordinate -/
def dx (a b : Pt) : Int := b.x * a.w - a.x * b.w
def dy (a b : Pt) : Int := b.y * a.w - a.y * b.w
/-- the turn of three points -/
def t (a b c : Pt) : Int := a.x * (b.y * c.w - c.y * b.w) + b.x * (c.y * a.w - a.y * c.w) + c.x * (a.y * b.w - b.y * a.w)
def lt (a b : Pt) : Prop := 0 < dx a b ∨ (dx a b = 0 ∧ 0 < dy a b)
theorem pos (a : Pt) : 0 < a.w := a.nf.pos
theorem t_rot (a b c : Pt) : t b c a = t a b c := by unfold t; grind
theorem t_swap (a b c : Pt) : t a c b = - t a b c := by unfold t; grind
theorem t_swap' (a b c : Pt) : t b a c = - t a b c := by unfold t; grind
theorem t_aab (a b : Pt) : t a a b = 0 := by unfold t; grind
theorem t_aba (a b : Pt) : t a b a = 0 := by unfold t; grind
theorem t_abb (a b : Pt) : t a b b = 0 := by unfold t; grind
/-- the four points' law, about a -/
theorem gpx (a b c d : Pt) : dx a b * t a c d - dx a c * t a b d + dx a d * t a b c = 0 := by unfold dx t; grind
theorem gpy (a b c d : Pt) : dy a b * t a c d - dy a c * t a b d + dy a d * t a b c = 0 := by unfold dy t; grind
theorem dx_neg (a b : Pt) : dx b a = - dx a b := by unfold dx; omega
theorem dy_neg (a b : Pt) : dy b a = - dy a b := by unfold dy; omega
theorem dx_tri (a b c : Pt) : b.w * dx a c = c.w * dx a b + a.w * dx b c := by unfold dx; grind
theorem dy_tri (a b c : Pt) : b.w * dy a c = c.w * dy a b + a.w * dy b c := by unfold dy; grind
theorem lt_irrefl (a : Pt) : ¬ lt a a := by
  unfold lt dx dy
  omega
theorem lt_asymm {a b : Pt} (h : lt a b) : ¬ lt b a := by
  unfold lt at *
  rw [dx_neg, dy_neg]
  omega
theorem lt_tri (a b : Pt) : lt a b ∨ a = b ∨ lt b a := by
  unfold lt
  rw [dx_neg a b, dy_neg a b]
  by_cases hx : dx a b = 0
  · by_cases hy : dy a b = 0
    · right; left
      have e1 : a.x * b.w = b.x * a.w := by unfold dx at hx; omega
      have e2 : a.y * b.w = b.y * a.w := by unfold dy at hy; omega
      obtain ⟨h1, h2, h3⟩ := nf_unique a.nf b.nf e1 e2
      exact ext' h1 h2 h3
    · omega
  · omega
theorem pos_of_mul {a b : Int} (h : 0 < a) (h' : 0 < a * b) : 0 < b := Int.pos_of_mul_pos_left (by rw [Int.mul_comm]; exact h') h
theorem lt_trans {a b c : Pt} (h : lt a b) (h' : lt b c) : lt a c := by
  have ha := a.pos
  have hb := b.pos
  have hc := c.pos
  have e1 := dx_tri a b c
  have e2 := dy_tri a b c
  unfold lt at *
  have key : 0 < dx a b ∨ 0 < dx b c → 0 < dx a c := fun z => by
    refine pos_of_mul hb ?_
    rw [e1]
    have p1 : 0 ≤ c.w * dx a b := Int.mul_nonneg (by omega) (by omega)
    have p2 : 0 ≤ a.w * dx b c := Int.mul_nonneg (by omega) (by omega)
    rcases z with z | z
    · have := Int.mul_pos hc z; omega
    · have := Int.mul_pos ha z; omega
  rcases h with h | ⟨h, h2⟩
  · exact .inl (key (.inl h))
  · rcases h' with h' | ⟨h', h3⟩
    · exact .inl (key (.inr h'))
    · refine .inr ⟨?_, pos_of_mul hb ?_⟩
      · rw [h, h'] at e1
        have : b.w * dx a c = 0 := by omega
        rcases Int.mul_eq_zero.mp this with z | z
        · omega
        · exact z
      · rw [e2]
        have := Int.mul_pos hc h2
        have := Int.mul_pos ha h3
        omega
/-- of three vectors that all point forward, one that is made of the two others -/
theorem lex3 {x1 y1 x2 y2 x3 y3 α β γ : Int} (h1 : 0 < x1 ∨ (x1 = 0 ∧ 0 < y1)) (h2 : 0 < x2 ∨ (x2 = 0 ∧ 0 < y2)) (h3 : 0 < x3 ∨ (x3 = 0 ∧ 0 < y3)) (ex : x1 * α = x2 * β + x3 * γ) (ey : y1 * α = y2 * β + y3 * γ) (hb : 0 ≤ β) (hc : 0 ≤ γ) : 0 ≤ α ∧ (0 < β ∨ 0 < γ → 0 < α) := by
  have px2 : 0 ≤ x2 * β := Int.mul_nonneg (by omega) hb
  have px3 : 0 ≤ x3 * γ := Int.mul_nonneg (by omega) hc
  have sx : 0 ≤ x1 * α := by omega
  -- the case of a vector that goes straight up
  have up : x1 = 0 → 0 < y1 → (0 ≤ α ∧ (0 < β ∨ 0 < γ → 0 < α)) := fun z zy => by
    rw [z, Int.zero_mul] at ex
    have e2 : x2 * β = 0 := by omega
    have e3 : x3 * γ = 0 := by omega
    have q2 : 0 ≤ y2 * β ∧ (0 < β → 0 < y2 * β) := by
      rcases Int.mul_eq_zero.mp e2 with r | r
      · have : 0 < y2 := by omega
        exact ⟨Int.mul_nonneg (by omega) hb, fun h => Int.mul_pos this h⟩
      · rw [r, Int.mul_zero]; omega
    have q3 : 0 ≤ y3 * γ ∧ (0 < γ → 0 < y3 * γ) := by
      rcases Int.mul_eq_zero.mp e3 with r | r
      · have : 0 < y3 := by omega
        exact ⟨Int.mul_nonneg (by omega) hc, fun h => Int.mul_pos this h⟩
      · rw [r, Int.mul_zero]; omega
    constructor
    · refine Int.not_lt.mp fun n => ?_
      have := Int.mul_neg_of_pos_of_neg zy n
      omega
    · intro h
      refine pos_of_mul zy ?_
      rcases h with h | h
      · have := q2.2 h; omega
      · have := q3.2 h; omega
  rcases h1 with h1 | ⟨h1, h1'⟩
  · constructor
    · refine Int.not_lt.mp fun n => ?_
      have := Int.mul_neg_of_pos_of_neg h1 n
      omega
    · intro h
      refine pos_of_mul h1 ?_
      refine Int.not_le.mp fun z => ?_
      have z : x1 * α = 0 := by omega
      have e2 : x2 * β = 0 := by omega
      have e3 : x3 * γ = 0 := by omega
      have a0 : α = 0 := by
        rcases Int.mul_eq_zero.mp z with r | r
        · omega
        · exact r
      rw [a0, Int.mul_zero] at ey
      have q2 : 0 ≤ y2 * β ∧ (0 < β → 0 < y2 * β) := by
        rcases Int.mul_eq_zero.mp e2 with r | r
        · have : 0 < y2 := by omega
          exact ⟨Int.mul_nonneg (by omega) hb, fun h => Int.mul_pos this h⟩
        · rw [r, Int.mul_zero]; omega
      have q3 : 0 ≤ y3 * γ ∧ (0 < γ → 0 < y3 * γ) := by
        rcases Int.mul_eq_zero.mp e3 with r | r
        · have : 0 < y3 := by omega
          exact ⟨Int.mul_nonneg (by omega) hc, fun h => Int.mul_pos this h⟩
        · rw [r, Int.mul_zero]; omega
      rcases h with h | h
      · have := q2.2 h; omega
      · have := q3.2 h; omega
  · exact up h1 h1'
end Pt
end Dn

namespace Dn
namespace Pt
/-- a chain that turns left twice -/
theorem conv4 {a b c d : Pt} (h1 : lt a b) (h2 : lt b c) (h3 : lt c d) (u : 0 < t a b c) (v : 0 < t b c d) : 0 < t a b d ∧ 0 < t a c d := by
  have hbd := lt_trans h2 h3
  have hac := lt_trans h1 h2
  constructor
  · have ex := gpx b a c d
    have ey := gpy b a c d
    rw [dx_neg a b, t_swap' a b d, t_swap' a b c] at ex
    rw [dy_neg a b, t_swap' a b d, t_swap' a b c] at ey
    refine (lex3 h2 h1 hbd (α := t a b d) (β := t b c d) (γ := t a b c) ?_ ?_ (by omega) (by omega)).2 (.inl v)
    · grind
    · grind
  · have ex := gpx c a b d
    have ey := gpy c a b d
    rw [dx_neg a c, dx_neg b c, t_swap' b c d, t_swap' a c d, show t c a b = t a b c from (t_rot c a b).symm] at ex
    rw [dy_neg a c, dy_neg b c, t_swap' b c d, t_swap' a c d, show t c a b = t a b c from (t_rot c a b).symm] at ey
    refine (lex3 h2 hac h3 (α := t a c d) (β := t b c d) (γ := t a b c) ?_ ?_ (by omega) (by omega)).2 (.inl v)
    · grind
    · grind
/-- what is above what is above -/
theorem pop_far {a b q p : Pt} (h1 : lt a p) (h2 : lt b p) (h3 : lt q p) (u : 0 ≤ t a p b) (v : 0 ≤ t b p q) : 0 ≤ t a p q := by
  have ex := gpx p a b q
  have ey := gpy p a b q
  have r1 : t p b q = - t b p q := t_swap' b p q
  have r2 : t p a q = - t a p q := t_swap' a p q
  have r3 : t p a b = - t a p b := t_swap' a p b
  rw [dx_neg a p, dx_neg b p, dx_neg q p, r1, r2, r3] at ex
  rw [dy_neg a p, dy_neg b p, dy_neg q p, r1, r2, r3] at ey
  refine (lex3 h2 h1 h3 (α := t a p q) (β := t b p q) (γ := t a p b) ?_ ?_ v u).1
  · grind
  · grind
theorem pop_near {a b q p : Pt} (h1 : lt a b) (h2 : lt a q) (h3 : lt a p) (u : 0 ≤ t a p b) (v : 0 ≤ t a b q) : 0 ≤ t a p q := by
  have ex := gpx a b q p
  have ey := gpy a b q p
  have r1 : t a q p = - t a p q := t_swap a p q
  have r2 : t a b p = - t a p b := t_swap a p b
  rw [r1, r2] at ex ey
  refine (lex3 h1 h2 h3 (α := t a p q) (β := t a p b) (γ := t a b q) ?_ ?_ u v).1
  · grind
  · grind
theorem keep_back {e c q p : Pt} (h1 : lt e c) (h2 : lt q c) (h3 : lt c p) (u : 0 ≤ t e c p) (v : 0 ≤ t e c q) : 0 ≤ t c p q := by
  have ex := gpx c e p q
  have ey := gpy c e p q
  have r1 : t c e q = - t e c q := t_swap' e c q
  have r2 : t c e p = - t e c p := t_swap' e c p
  rw [dx_neg e c, dx_neg q c, r1, r2] at ex
  rw [dy_neg e c, dy_neg q c, r1, r2] at ey
  refine (lex3 h1 h3 h2 (α := t c p q) (β := t e c q) (γ := t e c p) ?_ ?_ v u).1
  · grind
  · grind

/-! ### the chain: the top of the stack stands first -/
def popS (p : Pt) : List Pt → List Pt
  | b :: a :: s => if t a b p ≤ 0 then popS p (a :: s) else b :: a :: s
  | s => s
def chain : List Pt → List Pt → List Pt
  | S, [] => S
  | S, p :: ps => chain (p :: popS p S) ps
/-- a stack that goes back and turns left -/
def Cv : List Pt → Prop
  | c :: b :: a :: s => lt b c ∧ 0 < t a b c ∧ Cv (b :: a :: s)
  | [b, a] => lt a b
  | _ => True
/-- q is left of or on each edge -/
def Ab (q : Pt) : List Pt → Prop
  | b :: a :: s => 0 ≤ t a b q ∧ Ab q (a :: s)
  | _ => True
theorem Cv.tail : ∀ {b : Pt} {s : List Pt}, Cv (b :: s) → Cv s
  | _, [], _ => trivial
  | _, [_], _ => trivial
  | _, [_, _], h => h.2.2
  | _, _ :: _ :: _ :: _, h => h.2.2
theorem Cv.asc : ∀ {b a : Pt} {s : List Pt}, Cv (b :: a :: s) → lt a b
  | _, _, [], h => h
  | _, _, _ :: _, h => h.1
/-- the last one -/
def bot : Pt → List Pt → Pt
  | b, [] => b
  | _, a :: s => bot a s
def le (a b : Pt) : Prop := a = b ∨ lt a b
theorem le_of_not {a b : Pt} (h : ¬ lt a b) : le b a := by
  rcases lt_tri a b with h1 | h1 | h1
  · exact absurd h1 h
  · exact .inl h1.symm
  · exact .inr h1
theorem le_lt {a b c : Pt} (h : le a b) (h' : lt b c) : lt a c := by
  rcases h with rfl | h
  · exact h'
  · exact lt_trans h h'
theorem lt_le {a b c : Pt} (h : lt a b) (h' : le b c) : lt a c := by
  rcases h' with rfl | h'
  · exact h
  · exact lt_trans h h'
/-- beyond the top, the chain's lines run below -/
theorem Cv.ab {p : Pt} : ∀ {s : List Pt} {b : Pt}, Cv (p :: b :: s) → Ab p (b :: s)
  | [], _, _ => trivial
  | [a], b, h => ⟨by have := h.2.1; omega, trivial⟩
  | a :: c :: s, b, h => by
    obtain ⟨h1, h2, h3⟩ := h
    obtain ⟨h4, h5, h6⟩ := h3
    refine ⟨by omega, ?_⟩
    have hca : lt c a := Cv.asc h6
    have k := conv4 hca h4 h1 h5 h2
    -- c, a, p turn left
    have : Cv (p :: a :: c :: s) := ⟨lt_trans h4 h1, k.1, h6⟩
    exact Cv.ab this
theorem push {p : Pt} : ∀ {s : List Pt} {b : Pt}, Cv (b :: s) → lt b p → Cv (p :: popS p (b :: s)) ∧ ∀ q : Pt, Ab q (b :: s) → lt q p → le (bot b s) q → (le b q → 0 ≤ t b p q) → Ab q (p :: popS p (b :: s))
  | [], b, hc, hp => ⟨hp, fun q ha hq hb h => ⟨h hb, trivial⟩⟩
  | a :: s, b, hc, hp => by
    have hab := Cv.asc hc
    unfold popS
    by_cases z : t a b p ≤ 0
    · rw [if_pos z]
      have hap := lt_trans hab hp
      obtain ⟨i1, i2⟩ := push (s := s) (b := a) hc.tail hap
      refine ⟨i1, fun q ha hq hb h => i2 q ha.2 hq hb fun haq => ?_⟩
      have u : 0 ≤ t a p b := by rw [t_swap a b p]; omega
      rcases haq with rfl | haq
      · rw [t_aba]; exact Int.le_refl 0
      · by_cases y : lt q b
        · exact pop_near hab haq hap u ha.1
        · exact pop_far hap hp hq u (h (le_of_not y))
    · rw [if_neg z]
      have c2 : Cv (p :: b :: a :: s) := ⟨hp, by omega, hc⟩
      refine ⟨c2, fun q ha hq hb h => ⟨?_, ha⟩⟩
      by_cases y : lt q b
      · exact keep_back hab y hp (by omega) ha.1
      · exact h (le_of_not y)
theorem bot_pop {p : Pt} : ∀ {s : List Pt} {b : Pt}, bot p (popS p (b :: s)) = bot b s
  | [], b => rfl
  | a :: s, b => by
    unfold popS
    by_cases z : t a b p ≤ 0
    · rw [if_pos z]; exact bot_pop (s := s) (b := a)
    · rw [if_neg z]; rfl
/-- ascending -/
def Asc : Pt → List Pt → Prop
  | _, [] => True
  | a, b :: s => lt a b ∧ Asc b s
def topOf : Pt → List Pt → Pt
  | a, [] => a
  | _, b :: s => topOf b s
theorem popS_ne {p : Pt} : ∀ {s : List Pt} {b : Pt}, ∃ c r, popS p (b :: s) = c :: r
  | [], b => ⟨b, [], rfl⟩
  | a :: s, b => by
    unfold popS
    by_cases z : t a b p ≤ 0
    · rw [if_pos z]; exact popS_ne
    · rw [if_neg z]; exact ⟨_, _, rfl⟩
/-- what the chain is -/
theorem chain_ok (f : Pt) : ∀ (ps : List Pt) (b : Pt) (s : List Pt) (dn : List Pt), Asc b ps → Cv (b :: s) → bot b s = f → (∀ q ∈ dn, Ab q (b :: s) ∧ le q b ∧ le f q) →
    ∃ b' s', chain (b :: s) ps = b' :: s' ∧ b' = topOf b ps ∧ Cv (b' :: s') ∧ bot b' s' = f ∧ ∀ q, q ∈ dn ∨ q ∈ ps → Ab q (b' :: s')
  | [], b, s, dn, _, hc, hb, hd => ⟨b, s, rfl, rfl, hc, hb, fun q hq => by
    rcases hq with hq | hq
    · exact (hd q hq).1
    · cases hq⟩
  | p :: ps, b, s, dn, ha, hc, hb, hd => by
    obtain ⟨i1, i2⟩ := push (p := p) (s := s) (b := b) hc ha.1
    have hbf : le f b := by
      have : ∀ (s : List Pt) (b : Pt), Cv (b :: s) → le (bot b s) b := by
        intro s
        induction s with
        | nil => exact fun b _ => .inl rfl
        | cons a s ih => exact fun b h => .inr (le_lt (ih a h.tail) (Cv.asc h))
      rw [← hb]; exact this s b hc
    have hpp : Ab p (p :: popS p (b :: s)) := by
      obtain ⟨c, r, e⟩ := popS_ne (p := p) (s := s) (b := b)
      rw [e] at i1 ⊢
      exact ⟨by rw [t_abb]; exact Int.le_refl 0, Cv.ab i1⟩
    obtain ⟨b', s', e1, e2, e3, e4, e5⟩ := chain_ok f ps p (popS p (b :: s)) (p :: dn) ha.2 i1 (by rw [bot_pop]; exact hb) (fun q hq => by
      rcases List.mem_cons.mp hq with rfl | hq
      · exact ⟨hpp, .inl rfl, .inr (le_lt hbf ha.1)⟩
      · obtain ⟨d1, d2, d3⟩ := hd q hq
        refine ⟨i2 q d1 (le_lt d2 ha.1) (by rw [hb]; exact d3) fun hbq => ?_, .inr (le_lt d2 ha.1), d3⟩
        have : b = q := by
          rcases hbq with h | h
          · exact h
          · rcases d2 with h' | h'
            · exact h'.symm
            · exact absurd h (lt_asymm h')
        rw [← this, t_aba]
        exact Int.le_refl 0)
    refine ⟨b', s', e1, e2, e3, e4, fun q hq => ?_⟩
    rcases hq with hq | hq
    · exact e5 q (.inl (List.mem_cons_of_mem _ hq))
    · rcases List.mem_cons.mp hq with rfl | hq
      · exact e5 q (.inl List.mem_cons_self)
      · exact e5 q (.inr hq)
end Pt
end Dn

namespace Dn
open PySem
/-! ### lists of points as data -/
def Pt.d (p : Pt) : D := pt p.x p.y p.w
def dP (ps : List Pt) : List D := ps.map Pt.d
/-- not greater than that -/
structure Pt.Sz (k : Nat) (p : Pt) : Prop where
  x : S k p.x
  y : S k p.y
  w : S k p.w
theorem Pt.Sz.mono {j k : Nat} {p : Pt} (h : p.Sz j) (l : j ≤ k) : p.Sz k := ⟨h.x.mono l, h.y.mono l, h.w.mono l⟩
theorem dP_length (ps : List Pt) : (dP ps).length = ps.length := List.length_map ..
theorem dP_cons (p : Pt) (ps : List Pt) : dP (p :: ps) = p.d :: dP ps := rfl
theorem dP_nil : dP [] = [] := rfl
theorem dP_app (ps qs : List Pt) : dP ps ++ dP qs = dP (ps ++ qs) := (List.map_append ..).symm
theorem dP_rev (ps : List Pt) : (dP ps).reverse = dP ps.reverse := (List.map_reverse ..).symm
theorem dP_get (ps : List Pt) (i : Nat) : (dP ps)[i]? = (ps[i]?).map Pt.d := List.getElem?_map
theorem dP_dropLast (ps : List Pt) : (dP ps).dropLast = dP ps.dropLast := by unfold dP; rw [List.map_dropLast]
theorem atD_last (ps : List Pt) (p : Pt) : atD (dP (ps ++ [p])) (-1) = some p.d := by
  unfold atD
  rw [dP_length, List.length_append, List.length_singleton, if_pos (by decide), if_pos (by omega), show ((-1 : Int) + ((ps.length + 1 : Nat) : Int)).toNat = ps.length by omega, dP_get, List.getElem?_append_right (Nat.le_refl _), Nat.sub_self]
  rfl
theorem atD_last2 (ps : List Pt) (p q : Pt) : atD (dP (ps ++ [p] ++ [q])) (-2) = some p.d := by
  unfold atD
  rw [dP_length, List.length_append, List.length_append, List.length_singleton, List.length_singleton, if_pos (by decide), if_pos (by omega), show ((-2 : Int) + ((ps.length + 1 + 1 : Nat) : Int)).toNat = ps.length by omega, dP_get, List.append_assoc, List.getElem?_append_right (Nat.le_refl _), Nat.sub_self]
  rfl
namespace Pt
def pop1 (p : Pt) : List Pt → List Pt
  | b :: a :: s => if t a b p ≤ 0 then a :: s else b :: a :: s
  | s => s
def popN (p : Pt) : Nat → List Pt → List Pt
  | 0, s => s
  | n + 1, s => popN p n (pop1 p s)
theorem popN_fix {p : Pt} {s : List Pt} (h : pop1 p s = s) : ∀ n, popN p n s = s
  | 0 => rfl
  | n + 1 => by show popN p n (pop1 p s) = s; rw [h]; exact popN_fix h n
theorem popN_all {p : Pt} : ∀ (n : Nat) (s : List Pt), s.length ≤ n → popN p n s = popS p s
  | 0, [], _ => rfl
  | n + 1, [], _ => popN_fix rfl _
  | n + 1, [a], _ => by rw [popN_fix rfl]; rfl
  | n + 1, b :: a :: s, h => by
    by_cases z : t a b p ≤ 0
    · have f : pop1 p (b :: a :: s) = a :: s := if_pos z
      show popN p n (pop1 p (b :: a :: s)) = _
      rw [f]
      unfold popS
      rw [if_pos z]
      exact popN_all n (a :: s) (by simp only [List.length_cons] at *; omega)
    · have f : pop1 p (b :: a :: s) = b :: a :: s := if_neg z
      rw [popN_fix f]
      unfold popS
      rw [if_neg z]
theorem popS_sub {p : Pt} : ∀ {s : List Pt} {q : Pt}, q ∈ popS p s → q ∈ s
  | [], _, h => h
  | [_], _, h => h
  | b :: a :: s, q, h => by
    unfold popS at h
    by_cases z : t a b p ≤ 0
    · rw [if_pos z] at h; exact List.mem_cons_of_mem _ (popS_sub h)
    · rw [if_neg z] at h; exact h
theorem popS_len {p : Pt} : ∀ {s : List Pt}, (popS p s).length ≤ s.length
  | [] => Nat.le_refl _
  | [_] => Nat.le_refl _
  | b :: a :: s => by
    unfold popS
    by_cases z : t a b p ≤ 0
    · rw [if_pos z]; have := popS_len (p := p) (s := a :: s); simp only [List.length_cons] at *; omega
    · rw [if_neg z]; exact Nat.le_refl _
end Pt
end Dn

namespace Dn
open PySem
theorem Pt.d_shaped (p : Pt) : SeqAt.shaped p.d = true := rfl
theorem dP_lay : ∀ ps : List Pt, PyData.canLayAll0 (dP ps) = true
  | [] => rfl
  | p :: ps => by
    show (PyData.canLay0 p.d && PyData.canLayAll0 (dP ps)) = true
    rw [dP_lay ps]; rfl
theorem dP_depth : ∀ ps : List Pt, PyData.depthAll (dP ps) ≤ 1
  | [] => Nat.zero_le _
  | p :: ps => by
    show max (PyData.depth p.d) (PyData.depthAll (dP ps)) ≤ 1
    have := dP_depth ps
    have : PyData.depth p.d = 1 := rfl
    omega
theorem dP_shaped (ps : List Pt) : SeqAt.shaped (.list (dP ps)) = true := by
  show (PyData.canLayAll0 (dP ps) && decide (PyData.depthAll (dP ps) + 1 ≤ 64)) = true
  rw [dP_lay, decide_eq_true (by have := dP_depth ps; omega)]
  rfl
theorem dP_shapedT (ps : List Pt) : SeqAt.shaped (.tuple (dP ps)) = true := dP_shaped ps
instance : DecidableEq Pt := fun a b => decidable_of_iff (a.x = b.x ∧ a.y = b.y ∧ a.w = b.w) ⟨fun ⟨h1, h2, h3⟩ => Pt.ext' h1 h2 h3, fun h => by rw [h]; exact ⟨rfl, rfl, rfl⟩⟩
theorem d_eqv (a b : Pt) : PyData.eqv a.d b.d = decide (a = b) := by
  show PyData.eqv (pt a.x a.y a.w) (pt b.x b.y b.w) = _
  rw [pt_eqv]
  by_cases h : a = b
  · rw [h]; simp
  · rw [decide_eq_false h]
    by_cases h1 : a.x = b.x
    · by_cases h2 : a.y = b.y
      · by_cases h3 : a.w = b.w
        · exact absurd (Pt.ext' h1 h2 h3) h
        · simp [h3]
      · simp [h2]
    · simp [h1]
theorem dP_any (p : Pt) : ∀ ps : List Pt, ((dP ps).any fun z => PyData.eqv z p.d) = decide (p ∈ ps)
  | [] => rfl
  | q :: ps => by
    rw [dP_cons, List.any_cons, dP_any p ps, d_eqv]
    by_cases h : q = p
    · subst h; simp
    · rw [decide_eq_false h, Bool.false_or]
      simp [show ¬ p = q from fun z => h z.symm]
theorem vNotIn_dP (p : Pt) (ps : List Pt) : vNotIn p.d (.list (dP ps)) = some (.bool (!decide (p ∈ ps))) := by
  show (if SeqAt.shaped p.d && SeqAt.shaped (.list (dP ps)) then some (PyData.bool (!(dP ps).any fun z => PyData.eqv z p.d)) else none) = _
  rw [dP_shaped, p.d_shaped, dP_any]
  rfl
theorem vEqT_dP : ∀ ps qs : List Pt, PyData.eqvAll (dP ps) (dP qs) = decide (ps = qs)
  | [], [] => rfl
  | [], _ :: _ => rfl
  | _ :: _, [] => rfl
  | p :: ps, q :: qs => by
    show (PyData.eqv p.d q.d && PyData.eqvAll (dP ps) (dP qs)) = _
    rw [d_eqv, vEqT_dP ps qs]
    by_cases h : p = q
    · by_cases h2 : ps = qs
      · simp [h, h2]
      · simp [h2]
    · simp [h]
theorem cut_to (xs : List D) (k : Nat) (h : k ≤ xs.length) : cutD xs none (some (k : Int)) = xs.take k := by
  unfold cutD
  rw [HT.sIx_nat, HT.sIx_none, Nat.min_eq_left h, Nat.sub_zero]
  rfl
theorem cut_from (xs : List D) (k : Nat) (h : k ≤ xs.length) : cutD xs (some (k : Int)) none = xs.drop k := by
  unfold cutD
  rw [HT.sIx_nat, HT.sIx_none, Nat.min_eq_left h]
  exact List.take_of_length_le (by rw [List.length_drop]; exact Nat.le_refl _)
theorem cut_m1 (xs : List D) : cutD xs none (some (-1)) = xs.dropLast := by
  unfold cutD
  rw [List.dropLast_eq_take, HT.sIx_none]
  have e : HT.sIx xs.length xs.length (some (-1)) = xs.length - 1 := by
    show (if (-1 : Int) < 0 then ((-1 : Int) + (xs.length : Int)).toNat else min (-1 : Int).toNat xs.length) = _
    rw [if_pos (by decide)]; omega
  rw [e, Nat.sub_zero, List.drop_zero]
namespace Pt
def ltb (a b : Pt) : Bool := if a.x * b.w ≠ b.x * a.w then decide (a.x * b.w < b.x * a.w) else decide (a.y * b.w < b.y * a.w)
theorem ltb_iff {a b : Pt} : ltb a b = true ↔ lt a b := by
  unfold ltb lt dx dy
  split
  · rw [decide_eq_true_eq]; omega
  · rw [decide_eq_true_eq]; omega
/-- set in its place -/
def ins (o : List Pt) (p : Pt) : List Pt := if p ∈ o then o else o.take (o.filter fun q => ltb q p).length ++ [p] ++ o.drop (o.filter fun q => ltb q p).length
def order (ps : List Pt) : List Pt := ps.foldl ins []
def hull (ps : List Pt) : Option (List Pt) :=
  if (order ps).length < 3 then none
  else if ((chain [] (order ps)).reverse.dropLast ++ (chain [] (order ps).reverse).reverse.dropLast).length < 3 then none
  else some ((chain [] (order ps)).reverse.dropLast ++ (chain [] (order ps).reverse).reverse.dropLast)
/-- ascending, in steps -/
def Srt : List Pt → Prop
  | a :: b :: s => lt a b ∧ Srt (b :: s)
  | _ => True
theorem Srt.tail : ∀ {a : Pt} {s : List Pt}, Srt (a :: s) → Srt s
  | _, [], _ => trivial
  | _, _ :: _, h => h.2
theorem Srt.all : ∀ {a : Pt} {s : List Pt}, Srt (a :: s) → ∀ q ∈ s, lt a q
  | _, [], _, q, hq => by cases hq
  | a, b :: s, h, q, hq => by
    rcases List.mem_cons.mp hq with rfl | hq
    · exact h.1
    · exact lt_trans h.1 (Srt.all h.2 q hq)
theorem Srt.cons {a : Pt} : ∀ {s : List Pt}, (∀ q ∈ s, lt a q) → Srt s → Srt (a :: s)
  | [], _, _ => trivial
  | b :: s, h, hs => ⟨h b List.mem_cons_self, hs⟩
theorem ins_eq : ∀ {o : List Pt} {p : Pt}, Srt o → p ∉ o → Srt (o.take (o.filter fun q => ltb q p).length ++ [p] ++ o.drop (o.filter fun q => ltb q p).length)
  | [], p, _, _ => trivial
  | a :: o, p, h, hp => by
    have hp' : p ∉ o := fun z => hp (List.mem_cons_of_mem _ z)
    have hne : a ≠ p := fun z => hp (by rw [z]; exact List.mem_cons_self)
    by_cases q : ltb a p = true
    · have f : ((a :: o).filter fun q => ltb q p) = a :: o.filter fun q => ltb q p := by rw [List.filter_cons, if_pos q]
      rw [f, List.length_cons, List.take_succ_cons, List.drop_succ_cons]
      show Srt (a :: (o.take _ ++ [p] ++ o.drop _))
      refine Srt.cons (fun z hz => ?_) (ins_eq h.tail hp')
      rcases List.mem_append.mp hz with hz | hz
      · rcases List.mem_append.mp hz with hz | hz
        · exact Srt.all h z (List.mem_of_mem_take hz)
        · rw [List.mem_singleton.mp hz]; exact ltb_iff.mp q
      · exact Srt.all h z (List.mem_of_mem_drop hz)
    · have lpa : lt p a := by
        rcases lt_tri a p with z | z | z
        · exact absurd (ltb_iff.mpr z) q
        · exact absurd z hne
        · exact z
      have f : ((a :: o).filter fun q => ltb q p) = [] := by
        rw [List.filter_eq_nil_iff]
        intro z hz y
        have y := ltb_iff.mp y
        rcases List.mem_cons.mp hz with rfl | hz
        · exact q (ltb_iff.mpr y)
        · exact lt_asymm (lt_trans lpa (Srt.all h z hz)) y
      rw [f]
      exact ⟨lpa, h⟩
theorem ins_srt {o : List Pt} {p : Pt} (h : Srt o) : Srt (ins o p) := by
  unfold ins
  split
  · exact h
  · rename_i n; exact ins_eq h n
theorem ins_mem {o : List Pt} {p q : Pt} : q ∈ ins o p ↔ q ∈ o ∨ q = p := by
  unfold ins
  split
  · rename_i h
    exact ⟨.inl, fun z => z.elim id fun z => by rw [z]; exact h⟩
  · rw [List.mem_append, List.mem_append, List.mem_singleton]
    constructor
    · rintro ((h | h) | h)
      · exact .inl (List.mem_of_mem_take h)
      · exact .inr h
      · exact .inl (List.mem_of_mem_drop h)
    · rintro (h | h)
      · rw [← List.take_append_drop (o.filter fun q => ltb q p).length o, List.mem_append] at h
        rcases h with h | h
        · exact .inl (.inl h)
        · exact .inr h
      · exact .inl (.inr h)
theorem ins_len {o : List Pt} {p : Pt} : (ins o p).length ≤ o.length + 1 := by
  unfold ins
  split
  · omega
  · have e := List.take_append_drop (o.filter fun q => ltb q p).length o
    have := congrArg List.length e
    simp only [List.length_append, List.length_singleton] at *
    omega
theorem fold_srt : ∀ (ps : List Pt) (o : List Pt), Srt o → Srt (ps.foldl ins o)
  | [], _, h => h
  | p :: ps, o, h => fold_srt ps (ins o p) (ins_srt h)
theorem fold_mem : ∀ (ps : List Pt) (o : List Pt) (q : Pt), q ∈ ps.foldl ins o ↔ q ∈ o ∨ q ∈ ps
  | [], _, q => by simp
  | p :: ps, o, q => by
    rw [List.foldl_cons, fold_mem ps (ins o p) q, ins_mem, List.mem_cons, or_assoc]
theorem order_srt (ps : List Pt) : Srt (order ps) := fold_srt ps [] trivial
theorem order_mem (ps : List Pt) (q : Pt) : q ∈ order ps ↔ q ∈ ps := by
  unfold order
  rw [fold_mem]
  simp
end Pt
end Dn

namespace Dn
namespace Pt
/-- the point on the other side of the origin -/
def neg (p : Pt) : Pt := ⟨-p.x, -p.y, p.w, p.nf.neg⟩
theorem neg_neg (p : Pt) : p.neg.neg = p := ext' (Int.neg_neg _) (Int.neg_neg _) rfl
theorem t_neg (a b c : Pt) : t a.neg b.neg c.neg = t a b c := by unfold t neg; grind
theorem dx_n (a b : Pt) : dx a.neg b.neg = - dx a b := by unfold dx neg; grind
theorem dy_n (a b : Pt) : dy a.neg b.neg = - dy a b := by unfold dy neg; grind
theorem lt_neg {a b : Pt} : lt a.neg b.neg ↔ lt b a := by
  unfold lt
  rw [dx_n, dy_n, dx_neg a b, dy_neg a b]
theorem neg_inj {a b : Pt} (h : a.neg = b.neg) : a = b := by rw [← neg_neg a, h, neg_neg]
/-- two that are not below nought make nought of forward vectors only if they are nought -/
theorem lex0 {x2 y2 x3 y3 β γ : Int} (h2 : 0 < x2 ∨ (x2 = 0 ∧ 0 < y2)) (h3 : 0 < x3 ∨ (x3 = 0 ∧ 0 < y3)) (ex : x2 * β + x3 * γ = 0) (ey : y2 * β + y3 * γ = 0) (hb : 0 ≤ β) (hc : 0 ≤ γ) : β = 0 ∧ γ = 0 := by
  have := (lex3 h2 h2 h3 (α := 0) (β := β) (γ := γ) (by omega) (by omega) hb hc).2
  constructor
  · refine Int.le_antisymm (Int.not_lt.mp fun z => ?_) hb
    have := this (.inl z); omega
  · refine Int.le_antisymm (Int.not_lt.mp fun z => ?_) hc
    have := this (.inr z); omega
theorem beyond {e g h v : Pt} (h1 : lt e g) (h2 : lt g v) (z : t e g v = 0) (u : 0 < t e g h) (w : 0 ≤ t g h v) : False := by
  have ex := gpx g e h v
  have ey := gpy g e h v
  rw [dx_neg e g, t_swap' e g v, t_swap' e g h, z] at ex
  rw [dy_neg e g, t_swap' e g v, t_swap' e g h, z] at ey
  have := (lex0 h1 h2 (β := t g h v) (γ := t e g h) (by grind) (by grind) w (by omega)).2
  omega
theorem before {d e g v : Pt} (h1 : lt e g) (h2 : lt v e) (z : t e g v = 0) (u : 0 < t d e g) (w : 0 ≤ t d e v) : False := by
  have ex := gpx e d g v
  have ey := gpy e d g v
  rw [dx_neg v e, t_swap' d e v, t_swap' d e g, z] at ex
  rw [dy_neg v e, t_swap' d e v, t_swap' d e g, z] at ey
  have := (lex0 h1 h2 (β := t d e v) (γ := t d e g) (by grind) (by grind) w (by omega)).2
  omega
theorem inside {e g v b c : Pt} (h1 : lt e v) (h2 : lt v g) (z : t e g v = 0) (w1 : 0 ≤ t b v e) (w2 : 0 ≤ t b v g) (w3 : 0 ≤ t v c e) (w4 : 0 ≤ t v c g) (u : 0 < t b v c) : False := by
  have z' : t v e g = 0 := by rw [t_rot e g v |>.symm.trans rfl |> fun _ => (t_rot g v e).trans (t_rot e g v)] ; exact z
  have zb : t b v e = 0 ∧ t b v g = 0 := by
    have ex := gpx v e g b
    have ey := gpy v e g b
    have r1 : t v g b = t b v g := t_rot b v g
    have r2 : t v e b = t b v e := t_rot b v e
    rw [dx_neg e v, r1, r2, z'] at ex
    rw [dy_neg e v, r1, r2, z'] at ey
    exact (lex0 h1 h2 (β := t b v g) (γ := t b v e) (by grind) (by grind) w2 w1).symm
  have zc : t v c e = 0 := by
    have ex := gpx v e g c
    have ey := gpy v e g c
    have r1 : t v g c = - t v c g := t_swap v c g
    have r2 : t v e c = - t v c e := t_swap v c e
    rw [dx_neg e v, r1, r2, z'] at ex
    rw [dy_neg e v, r1, r2, z'] at ey
    exact (lex0 h1 h2 (β := t v c g) (γ := t v c e) (by grind) (by grind) w4 w3).2
  have ex := gpx v e b c
  have ey := gpy v e b c
  have r1 : t v e c = - t v c e := t_swap v c e
  have r2 : t v e b = t b v e := t_rot b v e
  have r3 : t v b c = - t b v c := t_swap' b v c
  rw [dx_neg e v, r1, r2, r3, zc, zb.1] at ex
  rw [dy_neg e v, r1, r2, r3, zc, zb.1] at ey
  have := (lex0 h1 h1 (β := t b v c) (γ := 0) (by grind) (by grind) (by omega) (by omega)).1
  omega
/-- a round of corners that turns left at each, with all corners left of each edge or on it -/
structure Rnd (n : Nat) (P : Nat → Pt) : Prop where
  n0 : 0 < n
  per : ∀ i, P (i + n) = P i
  ed : ∀ i j, 0 ≤ t (P i) (P (i + 1)) (P j)
  tn : ∀ i, 0 < t (P i) (P (i + 1)) (P (i + 2))
theorem Rnd.neg {n : Nat} {P : Nat → Pt} (R : Rnd n P) : Rnd n (fun i => (P i).neg) :=
  ⟨R.n0, fun i => by rw [R.per], fun i j => by rw [t_neg]; exact R.ed i j, fun i => by rw [t_neg]; exact R.tn i⟩
theorem Rnd.up {n : Nat} {P : Nat → Pt} (R : Rnd n P) (i j : Nat) (h : lt (P i) (P (i + 1))) (h1 : P j ≠ P i) (h2 : P j ≠ P (i + 1)) : 0 < t (P i) (P (i + 1)) (P j) := by
  refine Int.not_le.mp fun q => ?_
  have z : t (P i) (P (i + 1)) (P j) = 0 := by have := R.ed i j; omega
  have n0 := R.n0
  rcases lt_tri (P (i + 1)) (P j) with y | y | y
  · exact beyond h y z (R.tn i) (R.ed (i + 1) j)
  · exact h2 y.symm
  · rcases lt_tri (P i) (P j) with x | x | x
    · have e1 : P (j + n - 1 + 1) = P j := by rw [show j + n - 1 + 1 = j + n by omega]; exact R.per j
      have e2 : P (j + n - 1 + 2) = P (j + 1) := by rw [show j + n - 1 + 2 = j + 1 + n by omega]; exact R.per _
      have w1 := R.ed (j + n - 1) i
      have w2 := R.ed (j + n - 1) (i + 1)
      have u := R.tn (j + n - 1)
      rw [e1] at w1 w2 u
      rw [e2] at u
      exact inside x y z w1 w2 (R.ed j i) (R.ed j (i + 1)) u
    · exact h1 x.symm
    · have e1 : P (i + n - 1 + 1) = P i := by rw [show i + n - 1 + 1 = i + n by omega]; exact R.per i
      have e2 : P (i + n - 1 + 2) = P (i + 1) := by rw [show i + n - 1 + 2 = i + 1 + n by omega]; exact R.per _
      have w := R.ed (i + n - 1) j
      have u := R.tn (i + n - 1)
      rw [e1] at w u
      rw [e2] at u
      exact before h x z u w
/-- each other corner is left of each edge -/
theorem Rnd.strict {n : Nat} {P : Nat → Pt} (R : Rnd n P) (i j : Nat) (h1 : P j ≠ P i) (h2 : P j ≠ P (i + 1)) : 0 < t (P i) (P (i + 1)) (P j) := by
  rcases lt_tri (P i) (P (i + 1)) with h | h | h
  · exact R.up i j h h1 h2
  · have := R.tn i
    rw [h, t_aab] at this
    omega
  · have := R.neg.up i j (lt_neg.mpr h) (fun z => h1 (neg_inj z)) (fun z => h2 (neg_inj z))
    rwa [t_neg] at this
end Pt
end Dn

namespace Dn
namespace Pt
/-- a path with all of o left of it, that turns left at each -/
def Pth (o : List Pt) : List Pt → Prop
  | a :: b :: c :: s => (∀ q ∈ o, 0 ≤ t a b q) ∧ 0 < t a b c ∧ Pth o (b :: c :: s)
  | [a, b] => ∀ q ∈ o, 0 ≤ t a b q
  | _ => True
theorem Pth.hd {o : List Pt} : ∀ {a b : Pt} {s : List Pt}, Pth o (a :: b :: s) → ∀ q ∈ o, 0 ≤ t a b q
  | _, _, [], h => h
  | _, _, _ :: _, h => h.1
theorem Pth.tl {o : List Pt} : ∀ {a : Pt} {s : List Pt}, Pth o (a :: s) → Pth o s
  | _, [], _ => trivial
  | _, [_], _ => trivial
  | _, [_, _], h => h.2.2
  | _, _ :: _ :: _ :: _, h => h.2.2
/-- two paths with an edge in common -/
theorem Pth.join {o : List Pt} {a b : Pt} {ys : List Pt} (h2 : Pth o (a :: b :: ys)) : ∀ {xs : List Pt}, Pth o (xs ++ [a, b]) → Pth o (xs ++ a :: b :: ys)
  | [], _ => h2
  | [x], h => ⟨h.1, h.2.1, h2⟩
  | x :: y :: xs, h => by
    have ih := Pth.join h2 (xs := y :: xs) h.tl
    cases xs with
    | nil => exact ⟨h.1, h.2.1, ih⟩
    | cons z xs => exact ⟨h.1, h.2.1, ih⟩
theorem pth_of {o : List Pt} : ∀ {s : List Pt}, Cv s → (∀ q ∈ o, Ab q s) → Pth o s.reverse
  | [], _, _ => trivial
  | [_], _, _ => trivial
  | [b, a], _, ha => fun q hq => (ha q hq).1
  | c :: b :: a :: s, hc, ha => by
    have ih := pth_of (o := o) hc.tail (fun q hq => (ha q hq).2)
    rw [List.reverse_cons, List.reverse_cons, List.append_assoc] at ih
    rw [List.reverse_cons, List.reverse_cons, List.reverse_cons, List.append_assoc, List.append_assoc]
    exact Pth.join (ys := [c]) ⟨fun q hq => (ha q hq).2.1, hc.2.1, fun q hq => (ha q hq).1⟩ ih
theorem Pth.unneg {o : List Pt} : ∀ {l : List Pt}, Pth (o.map neg) (l.map neg) → Pth o l
  | [], _ => trivial
  | [_], _ => trivial
  | [a, b], h => fun q hq => by have := h q.neg (List.mem_map_of_mem hq); rwa [t_neg] at this
  | a :: b :: c :: s, h => ⟨fun q hq => by have := h.1 q.neg (List.mem_map_of_mem hq); rwa [t_neg] at this, by have := h.2.1; rwa [t_neg] at this, Pth.unneg (l := b :: c :: s) h.2.2⟩
theorem popS_neg (p : Pt) : ∀ s : List Pt, popS p.neg (s.map neg) = (popS p s).map neg
  | [] => rfl
  | [_] => rfl
  | b :: a :: s => by
    show popS p.neg (b.neg :: a.neg :: s.map neg) = _
    unfold popS
    rw [t_neg]
    by_cases z : t a b p ≤ 0
    · rw [if_pos z, if_pos z]; exact popS_neg p (a :: s)
    · rw [if_neg z, if_neg z]; rfl
theorem chain_neg : ∀ (ps s : List Pt), chain (s.map neg) (ps.map neg) = (chain s ps).map neg
  | [], _ => rfl
  | p :: ps, s => by
    show chain (p.neg :: popS p.neg (s.map neg)) (ps.map neg) = _
    rw [popS_neg]
    exact chain_neg ps (p :: popS p s)
theorem srt_asc : ∀ {r : List Pt} {f : Pt}, Srt (f :: r) → Asc f r
  | [], _, _ => trivial
  | _ :: _, _, h => ⟨h.1, srt_asc h.2⟩
theorem cv_srt : ∀ {s : List Pt}, Cv s → ∀ x, (∀ a, s.head? = some a → lt a x) → Srt (s.reverse ++ [x])
  | [], _, x, _ => trivial
  | [a], _, x, h => ⟨h a rfl, trivial⟩
  | b :: a :: s, hc, x, h => by
    have ih := cv_srt hc.tail b (fun c hc' => by cases hc'; exact hc.asc)
    rw [List.reverse_cons]
    have app : ∀ (l : List Pt) (u v : Pt), Srt (l ++ [u]) → lt u v → Srt (l ++ [u] ++ [v]) := by
      intro l
      induction l with
      | nil => exact fun u v _ h => ⟨h, trivial⟩
      | cons w l ihl =>
        intro u v h1 h2
        have := ihl u v h1.tail h2
        cases l with
        | nil => exact ⟨h1.1, this⟩
        | cons z l => exact ⟨h1.1, this⟩
    exact app _ _ _ ih (h b rfl)
/-- what the lower chain is -/
theorem lower {f : Pt} {r : List Pt} (h : Srt (f :: r)) (hr : r ≠ []) : ∃ (xs : List Pt) (l m : Pt), (chain [] (f :: r)).reverse = xs ++ [l, m] ∧ m = topOf f r ∧ Pth (f :: r) (xs ++ [l, m]) ∧ (xs ++ [l]).head? = some f ∧ Srt (xs ++ [l, m]) := by
  obtain ⟨b', s', e1, e2, e3, e4, e5⟩ := chain_ok f r f [] [f] (srt_asc h) trivial rfl (fun q hq => by
    rw [List.mem_singleton.mp hq]; exact ⟨trivial, .inl rfl, .inl rfl⟩)
  have e1 : chain [] (f :: r) = b' :: s' := e1
  have hs : s' ≠ [] := by
    rintro rfl
    have e4 : b' = f := e4
    have lt' : ∀ (r : List Pt) (f : Pt), Srt (f :: r) → r ≠ [] → lt f (topOf f r) := by
      intro r
      induction r with
      | nil => exact fun _ _ h => absurd rfl h
      | cons a r ih =>
        intro f h _
        cases r with
        | nil => exact h.1
        | cons b r => exact lt_trans h.1 (ih a h.2 (fun z => by cases z))
    have := lt' r f h hr
    rw [← e2, e4] at this
    exact lt_irrefl _ this
  obtain ⟨l, s, rfl⟩ := List.exists_cons_of_ne_nil hs
  have pth := pth_of (o := f :: r) e3 (fun q hq => e5 q (by
    rcases List.mem_cons.mp hq with rfl | hq
    · exact .inl List.mem_cons_self
    · exact .inr hq))
  have rv : (b' :: l :: s).reverse = s.reverse ++ [l, b'] := by rw [List.reverse_cons, List.reverse_cons, List.append_assoc]; rfl
  refine ⟨s.reverse, l, b', by rw [e1, rv], e2, by rw [← rv]; exact pth, ?_, ?_⟩
  · have bt : ∀ (s : List Pt) (l : Pt), bot l s = f → (s.reverse ++ [l]).head? = some f := by
      intro s
      induction s with
      | nil => exact fun l h => by rw [← h]; rfl
      | cons a s ih =>
        intro l h
        rw [List.reverse_cons, List.head?_append, ih a h]
        rfl
    exact bt s l e4
  · have := cv_srt e3.tail b' (fun a ha => by cases ha; exact e3.asc)
    rw [List.reverse_cons, List.append_assoc] at this
    exact this
end Pt
end Dn

namespace Dn
namespace Pt
theorem topOf_last : ∀ (s : List Pt) (a : Pt), (a :: s).getLast? = some (topOf a s)
  | [], _ => rfl
  | b :: s, a => by rw [List.getLast?_cons_cons]; exact topOf_last s b
theorem Pth.mono {o o' : List Pt} (h : ∀ q ∈ o', q ∈ o) : ∀ {l : List Pt}, Pth o l → Pth o' l
  | [], _ => trivial
  | [_], _ => trivial
  | [_, _], p => fun q hq => p q (h q hq)
  | _ :: _ :: _ :: _, p => ⟨fun q hq => p.1 q (h q hq), p.2.1, Pth.mono h p.2.2⟩
theorem srt_snoc : ∀ (l : List Pt) (u v : Pt), Srt (l ++ [u]) → lt u v → Srt (l ++ [u] ++ [v])
  | [], u, v, _, h => ⟨h, trivial⟩
  | [w], u, v, h1, h2 => ⟨h1.1, srt_snoc [] u v h1.tail h2⟩
  | w :: z :: l, u, v, h1, h2 => ⟨h1.1, srt_snoc (z :: l) u v h1.tail h2⟩
theorem srt_negrev : ∀ {o : List Pt}, Srt o → Srt (o.reverse.map neg)
  | [], _ => trivial
  | [a], _ => trivial
  | a :: b :: s, h => by
    have ih := srt_negrev h.2
    rw [List.reverse_cons, List.map_append] at ih
    rw [List.reverse_cons, List.reverse_cons, List.map_append, List.map_append]
    exact srt_snoc _ _ _ ih (lt_neg.mpr h.1)
theorem map_nn (l : List Pt) : (l.map neg).map neg = l := by
  rw [List.map_map]
  have : neg ∘ neg = id := funext fun p => neg_neg p
  rw [this, List.map_id]
theorem upper {f : Pt} {r : List Pt} (h : Srt (f :: r)) (hr : r ≠ []) : ∃ (ys : List Pt) (e : Pt), (chain [] (f :: r).reverse).reverse = ys ++ [e, f] ∧ Pth (f :: r) (ys ++ [e, f]) ∧ (ys ++ [e]).head? = some (topOf f r) ∧ Srt ((ys ++ [e, f]).map neg) := by
  have hs := srt_negrev h
  have hd : (f :: r).reverse.head? = some (topOf f r) := by rw [List.head?_reverse]; exact topOf_last r f
  obtain ⟨m, r', er⟩ : ∃ m r', (f :: r).reverse = m :: r' := by
    cases q : (f :: r).reverse with
    | nil => simp at q
    | cons m r' => exact ⟨m, r', rfl⟩
  have em : m = topOf f r := by rw [er] at hd; exact Option.some.inj hd
  have hr' : r'.map neg ≠ [] := by
    intro z
    have : r' = [] := by cases r' with | nil => rfl | cons _ _ => cases z
    rw [this] at er
    have := congrArg List.length er
    rw [List.length_reverse, List.length_cons, List.length_singleton] at this
    exact hr (List.length_eq_zero_iff.mp (by omega))
  rw [er, List.map_cons] at hs
  obtain ⟨xs, l, k, c1, c2, c3, c4, c5⟩ := lower hs hr'
  have ch : chain [] (m.neg :: r'.map neg) = (chain [] (m :: r')).map neg := chain_neg (m :: r') []
  rw [ch] at c1
  have c1' := congrArg (List.map neg) c1
  rw [← List.map_reverse, map_nn] at c1'
  have ek : k = f.neg := by
    have l1 := topOf_last (r'.map neg) m.neg
    have l2 : (m.neg :: r'.map neg).getLast? = some f.neg := by
      rw [show m.neg :: r'.map neg = (m :: r').map neg from rfl, ← er, List.getLast?_map, List.getLast?_reverse]
      rfl
    rw [l1] at l2
    rw [c2]; exact Option.some.inj l2
  subst ek
  have e1 : (xs ++ [l, f.neg]).map neg = xs.map neg ++ [l.neg, f] := by rw [List.map_append]; show _ ++ [l.neg, f.neg.neg] = _; rw [neg_neg]
  refine ⟨xs.map neg, l.neg, by rw [er, c1', e1], ?_, ?_, ?_⟩
  · have p : Pth ((m :: r').map neg) ((xs.map neg ++ [l.neg, f]).map neg) := by
      rw [← e1, map_nn]; exact c3
    exact (Pth.unneg p).mono fun q hq => by rw [← er]; exact List.mem_reverse.mpr hq
  · have e2 : xs.map neg ++ [l.neg] = (xs ++ [l]).map neg := by rw [List.map_append]; rfl
    rw [e2, List.head?_map, c4]
    show some (m.neg.neg) = _
    rw [neg_neg, em]
  · rw [← e1, map_nn]; exact c5
/-- at the end of both ways: if they do not turn there, all stands on one line -/
theorem flat_end {l m u q : Pt} (h1 : lt l m) (h2 : lt u m) (z : t l m u = 0) (w1 : 0 ≤ t l m q) (w2 : 0 ≤ t m u q) : t l m q = 0 ∧ t m u q = 0 := by
  have ex := gpx m l u q
  have ey := gpy m l u q
  rw [dx_neg l m, dx_neg u m, t_swap' l m q, t_swap' l m u, z] at ex
  rw [dy_neg l m, dy_neg u m, t_swap' l m q, t_swap' l m u, z] at ey
  exact (lex0 h1 h2 (β := t m u q) (γ := t l m q) (by grind) (by grind) w2 w1).symm
theorem pth_get {o : List Pt} : ∀ {L : List Pt}, Pth o L → ∀ (i : Nat) (a b : Pt), L[i]? = some a → L[i + 1]? = some b → (∀ q ∈ o, 0 ≤ t a b q) ∧ ∀ c, L[i + 2]? = some c → 0 < t a b c
  | [], _, i, a, b, h, _ => by simp at h
  | [_], _, i, a, b, _, h => by simp at h
  | [x, y], p, 0, a, b, h1, h2 => by
    simp at h1 h2
    subst h1 h2
    exact ⟨p, fun c h => by simp at h⟩
  | [x, y], p, i + 1, a, b, h1, h2 => by simp at h2
  | x :: y :: z :: s, p, 0, a, b, h1, h2 => by
    simp at h1 h2
    subst h1 h2
    exact ⟨p.1, fun c h => by simp at h; subst h; exact p.2.1⟩
  | x :: y :: z :: s, p, i + 1, a, b, h1, h2 => by
    have := pth_get (L := y :: z :: s) p.2.2 i a b (by simpa using h1) (by simpa using h2)
    exact ⟨this.1, fun c h => this.2 c (by simpa using h)⟩
theorem srt_last : ∀ {xs : List Pt} {a b : Pt}, Srt (xs ++ [a, b]) → lt a b
  | [], _, _, h => h.1
  | [_], _, _, h => h.2.1
  | _ :: y :: xs, _, _, h => srt_last (xs := y :: xs) h.2
theorem pth_last {o : List Pt} : ∀ {xs : List Pt} {a b : Pt}, Pth o (xs ++ [a, b]) → ∀ q ∈ o, 0 ≤ t a b q
  | [], _, _, h => h
  | _ :: xs, _, _, h => pth_last (xs := xs) h.tl
theorem pth_last3 {o : List Pt} : ∀ {xs : List Pt} {x a b : Pt}, Pth o (xs ++ [x, a, b]) → 0 < t x a b
  | [], _, _, _, h => h.2.1
  | _ :: xs, _, _, _, h => pth_last3 (xs := xs) h.tl
/-- the closed path of the two chains -/
theorem closed {f : Pt} {r : List Pt} (h : Srt (f :: r)) (hr : r ≠ []) {xs ys : List Pt} {l e m : Pt} (hm : m = topOf f r)
    (a1 : Pth (f :: r) (xs ++ [l, m])) (a2 : (xs ++ [l]).head? = some f) (a3 : Srt (xs ++ [l, m])) (b1 : Pth (f :: r) (ys ++ [e, f])) (b2 : (ys ++ [e]).head? = some m) (b3 : Srt ((ys ++ [e, f]).map neg))
    (n3 : 3 ≤ (xs ++ [l] ++ (ys ++ [e])).length) (sub : ∀ q, q ∈ xs ++ [l, m] ∨ q ∈ ys ++ [e, f] → q ∈ f :: r) : ∃ g, (xs ++ [l] ++ (ys ++ [e]))[1]? = some g ∧ Pth (f :: r) (xs ++ [l] ++ (ys ++ [e]) ++ [f, g]) := by
  -- the upper way from its first edge
  obtain ⟨u, us, eu⟩ : ∃ u us, ys ++ [e, f] = m :: u :: us := by
    cases ys with
    | nil => simp at b2; subst b2; exact ⟨f, [], rfl⟩
    | cons y ys =>
      simp at b2; subst b2
      cases ys with
      | nil => exact ⟨e, [f], rfl⟩
      | cons z ys => exact ⟨z, _, rfl⟩
  obtain ⟨g, gs, eg⟩ : ∃ g gs, xs ++ [l, m] = f :: g :: gs := by
    cases xs with
    | nil => simp at a2; subst a2; exact ⟨m, [], rfl⟩
    | cons y ys =>
      simp at a2; subst a2
      cases ys with
      | nil => exact ⟨l, [m], rfl⟩
      | cons z ys => exact ⟨z, _, rfl⟩
  have hlm := srt_last a3
  have b3' := b3
  rw [eu] at b3'
  have hum : lt u m := lt_neg.mp b3'.1
  have hfe : lt f e := by
    rw [List.map_append] at b3
    exact lt_neg.mp (srt_last b3)
  have hfg : lt f g := by rw [eg] at a3; exact a3.1
  have d1 := pth_last a1
  have b1' := b1
  rw [eu] at b1'
  have d2 := b1'.hd
  have d3 := pth_last b1
  have a1' := a1
  rw [eg] at a1'
  have d4 := a1'.hd
  have um : u ∈ f :: r := sub u (.inr (by rw [eu]; simp))
  have gm : g ∈ f :: r := sub g (.inl (by rw [eg]; simp))
  have xe : xs = [] ∨ ∃ xs0 x, xs = xs0 ++ [x] := by
    rcases List.eq_nil_or_concat xs with z | ⟨L, b, z⟩
    · exact .inl z
    · exact .inr ⟨L, b, by rw [z, List.concat_eq_append]⟩
  have ye : ys = [] ∨ ∃ ys0 y, ys = ys0 ++ [y] := by
    rcases List.eq_nil_or_concat ys with z | ⟨L, b, z⟩
    · exact .inl z
    · exact .inr ⟨L, b, by rw [z, List.concat_eq_append]⟩
  have t1 : 0 < t l m u := by
    refine Int.not_le.mp fun k => ?_
    have z : t l m u = 0 := by have := d1 u um; omega
    have fl := fun q hq => flat_end hlm hum z (d1 q hq) (d2 q hq)
    rcases xe with xe | ⟨xs0, x, xe⟩
    · cases us with
      | nil =>
        have := congrArg List.length eu
        subst xe
        simp only [List.length_append, List.length_cons, List.length_nil, List.nil_append] at this n3
        omega
      | cons c us =>
        have := b1'.2.1
        have hc : c ∈ f :: r := sub c (.inr (by rw [eu]; simp))
        have := (fl c hc).2
        omega
    · subst xe
      rw [List.append_assoc] at a1
      have p3 := pth_last3 (xs := xs0) a1
      have hx : x ∈ f :: r := sub x (.inl (by simp))
      have := (fl x hx).1
      rw [t_rot x l m] at this
      omega
  have t2 : 0 < t e f g := by
    refine Int.not_le.mp fun k => ?_
    have z : t e f g = 0 := by have := d3 g gm; omega
    have fl := fun q hq => flat_end (l := e.neg) (m := f.neg) (u := g.neg) (q := neg q) (lt_neg.mpr hfe) (lt_neg.mpr hfg) (by rw [t_neg]; exact z) (by rw [t_neg]; exact d3 q hq) (by rw [t_neg]; exact d4 q hq)
    rcases ye with ye | ⟨ys0, y, ye⟩
    · cases gs with
      | nil =>
        have := congrArg List.length eg
        subst ye
        simp only [List.length_append, List.length_cons, List.length_nil, List.nil_append] at this n3
        omega
      | cons c gs =>
        have := a1'.2.1
        have hc : c ∈ f :: r := sub c (.inl (by rw [eg]; simp))
        have q := (fl c hc).2
        rw [t_neg] at q
        omega
    · subst ye
      rw [List.append_assoc] at b1
      have p3 := pth_last3 (xs := ys0) b1
      have hy : y ∈ f :: r := sub y (.inr (by simp))
      have q := (fl y hy).1
      rw [t_neg, t_rot y e f] at q
      omega
  refine ⟨g, ?_, ?_⟩
  · cases xs with
    | nil =>
      simp at a2 eg
      obtain ⟨_, e2, _⟩ := eg
      rw [List.nil_append, List.singleton_append, List.getElem?_cons_succ, ← List.head?_eq_getElem?, b2, e2]
    | cons x xs =>
      cases xs with
      | nil => simp at eg; obtain ⟨_, e2, _⟩ := eg; simp [e2]
      | cons x2 xs => simp at eg; obtain ⟨_, e2, _⟩ := eg; simp [e2]
  · have p1 : Pth (f :: r) (l :: m :: u :: us) := ⟨d1, t1, b1'⟩
    have D := Pth.join p1 (xs := xs) a1
    rw [← eu] at D
    have p2 : Pth (f :: r) (e :: f :: [g]) := ⟨d3, t2, d4⟩
    have D' : Pth (f :: r) ((xs ++ l :: ys) ++ [e, f]) := by rw [List.append_assoc]; exact D
    have F := Pth.join p2 (xs := xs ++ l :: ys) D'
    have eqq : xs ++ [l] ++ (ys ++ [e]) ++ [f, g] = (xs ++ l :: ys) ++ e :: f :: [g] := by simp [List.append_assoc]
    rw [eqq]
    exact F
end Pt
end Dn

namespace Dn
namespace Pt
theorem srt_nodup : ∀ {l : List Pt}, Srt l → l.Nodup
  | [], _ => List.nodup_nil
  | a :: s, h => List.nodup_cons.mpr ⟨fun m => lt_irrefl a (Srt.all h a m), srt_nodup h.tail⟩
theorem srt_at : ∀ {xs : List Pt} {a b : Pt} {ys : List Pt}, Srt (xs ++ a :: b :: ys) → lt a b
  | [], _, _, _, h => h.1
  | _ :: xs, _, _, _, h => srt_at (xs := xs) h.tail
theorem pth_at {o : List Pt} : ∀ {xs : List Pt} {a b c : Pt} {ys : List Pt}, Pth o (xs ++ a :: b :: c :: ys) → (∀ q ∈ o, 0 ≤ t a b q) ∧ 0 < t a b c
  | [], _, _, _, _, h => ⟨h.1, h.2.1⟩
  | _ :: xs, _, _, _, _, h => pth_at (xs := xs) h.tl
/-- one that is not at an end has neighbours -/
theorem mid_of {v m : Pt} : ∀ {L : List Pt}, v ∈ L → L.head? ≠ some v → ∃ pre d g post, L ++ [m] = pre ++ d :: v :: g :: post
  | [], h, _ => by cases h
  | [a], h, hh => by
    rcases List.mem_cons.mp h with rfl | h
    · exact absurd rfl hh
    · cases h
  | a :: b :: s, h, hh => by
    rcases List.mem_cons.mp h with rfl | h
    · exact absurd rfl hh
    · by_cases z : b = v
      · subst z
        cases s with
        | nil => exact ⟨[], a, m, [], rfl⟩
        | cons c s => exact ⟨[], a, c, s ++ [m], rfl⟩
      · obtain ⟨pre, d, g, post, e⟩ := mid_of (L := b :: s) (m := m) h (by simp [z])
        exact ⟨a :: pre, d, g, post, by rw [List.cons_append, e]; rfl⟩
/-- no corner stands on both ways -/
theorem apart {d v g d' g' : Pt} (h1 : lt d v) (h2 : lt v d') (u : 0 < t d v g) (w1 : 0 ≤ t d v d') (w2 : 0 ≤ t d' v d) (w3 : 0 ≤ t d' v g) : False := by
  have z : t d v d' = 0 := by
    have e1 : t d' v d = - t d v d' := by rw [← t_rot d' v d, t_swap' d v d']
    omega
  have ex := gpx v d d' g
  have ey := gpy v d d' g
  rw [dx_neg d v, t_swap' d' v g, t_swap' d v g, t_swap' d v d', z] at ex
  rw [dy_neg d v, t_swap' d' v g, t_swap' d v g, t_swap' d v d', z] at ey
  have := (lex0 h1 h2 (β := t d' v g) (γ := t d v g) (by grind) (by grind) w3 (by omega)).2
  omega
/-- what the hull is -/
structure Hull (ps h : List Pt) : Prop where
  n3 : 3 ≤ h.length
  nd : h.Nodup
  mem : ∀ q ∈ h, q ∈ ps
  ed : ∀ i a b, h[i]? = some a → h[(i + 1) % h.length]? = some b → ∀ q ∈ ps, 0 ≤ t a b q
  st : ∀ i a b, h[i]? = some a → h[(i + 1) % h.length]? = some b → ∀ q ∈ h, q ≠ a → q ≠ b → 0 < t a b q
  fst : ∀ a, h[0]? = some a → ∀ q ∈ ps, q ≠ a → lt a q
theorem hull_ok {ps h : List Pt} (e : hull ps = some h) : Hull ps h := by
  unfold hull at e
  split at e
  · cases e
  rename_i n1
  split at e
  · cases e
  rename_i n2
  have eh := Option.some.inj e
  have om := order_mem ps
  have os := order_srt ps
  cases ho : order ps with
  | nil => rw [ho] at n1; exact absurd (by decide) n1
  | cons f r =>
    rw [ho] at n1 n2 eh os om
    have hr : r ≠ [] := by rintro rfl; exact n1 (show 1 < 3 by decide)
    obtain ⟨xs, l, m, a0, hm, a1, a2, a3⟩ := lower os hr
    obtain ⟨ys, z, b0, b1, b2, b3⟩ := upper os hr
    rw [← hm] at b2
    have dA : (xs ++ [l, m]).dropLast = xs ++ [l] := by
      rw [show xs ++ [l, m] = (xs ++ [l]) ++ [m] by simp, List.dropLast_concat]
    have dB : (ys ++ [z, f]).dropLast = ys ++ [z] := by
      rw [show ys ++ [z, f] = (ys ++ [z]) ++ [f] by simp, List.dropLast_concat]
    rw [a0, b0, dA, dB] at n2 eh
    have subA : ∀ (ps s : List Pt) (q : Pt), q ∈ chain s ps → q ∈ s ∨ q ∈ ps := by
      intro ps
      induction ps with
      | nil => exact fun s q h => .inl h
      | cons p ps ih =>
        intro s q h
        rcases ih (p :: popS p s) q h with h | h
        · rcases List.mem_cons.mp h with rfl | h
          · exact .inr List.mem_cons_self
          · exact .inl (popS_sub h)
        · exact .inr (List.mem_cons_of_mem _ h)
    have sub : ∀ q, q ∈ xs ++ [l, m] ∨ q ∈ ys ++ [z, f] → q ∈ f :: r := fun q hq => by
      rcases hq with hq | hq
      · rw [← a0, List.mem_reverse] at hq
        rcases subA _ _ _ hq with hq | hq
        · cases hq
        · exact hq
      · rw [← b0, List.mem_reverse] at hq
        rcases subA _ _ _ hq with hq | hq
        · cases hq
        · exact List.mem_reverse.mp hq
    have n3 : 3 ≤ (xs ++ [l] ++ (ys ++ [z])).length := by omega
    obtain ⟨g, g1', C⟩ := closed os hr hm a1 a2 a3 b1 b2 b3 n3 sub
    have A3 : xs ++ [l, m] = (xs ++ [l]) ++ [m] := by simp
    have B3 : ys ++ [z, f] = (ys ++ [z]) ++ [f] := by simp
    have ndA := srt_nodup a3
    have ndB : (ys ++ [z, f]).Nodup := by
      have := srt_nodup b3
      exact List.Pairwise.of_map neg (fun a b h z => h (congrArg neg z)) this
    rw [A3] at ndA a1 a3
    rw [B3] at ndB b1 b3
    have fh : (xs ++ [l] ++ (ys ++ [z]))[0]? = some f := by
      rw [← List.head?_eq_getElem?, List.head?_append, a2]; rfl
    have hmem : ∀ q ∈ xs ++ [l] ++ (ys ++ [z]), q ∈ f :: r := fun q hq => by
      rcases List.mem_append.mp hq with hq | hq
      · exact sub q (.inl (by rw [A3]; exact List.mem_append_left _ hq))
      · exact sub q (.inr (by rw [B3]; exact List.mem_append_left _ hq))
    have nd : (xs ++ [l] ++ (ys ++ [z])).Nodup := by
      refine List.nodup_append.mpr ⟨(List.nodup_append.mp ndA).1, (List.nodup_append.mp ndB).1, ?_⟩
      intro v hv v' hv' ev
      subst ev
      by_cases vf : v = f
      · exact (List.nodup_append.mp ndB).2.2 v hv' f (List.mem_singleton.mpr rfl) vf
      · by_cases vm : v = m
        · exact (List.nodup_append.mp ndA).2.2 v hv m (List.mem_singleton.mpr rfl) vm
        · obtain ⟨p1, d, g, q1, e1⟩ := mid_of (m := m) hv (by rw [a2]; exact fun k => vf (Option.some.inj k).symm)
          obtain ⟨p2, d', g', q2, e2⟩ := mid_of (m := f) hv' (by rw [b2]; exact fun k => vm (Option.some.inj k).symm)
          rw [e1] at a1 a3
          rw [e2] at b1 b3
          have k1 := pth_at a1
          have k2 := pth_at b1
          have l1 := srt_at a3
          have l2 : lt v d' := by
            rw [List.map_append] at b3
            exact lt_neg.mp (srt_at b3)
          have md : d ∈ f :: r := sub d (.inl (by rw [A3, e1]; simp))
          have mg : g ∈ f :: r := sub g (.inl (by rw [A3, e1]; simp))
          have md' : d' ∈ f :: r := sub d' (.inr (by rw [B3, e2]; simp))
          exact apart (g' := g') l1 l2 k1.2 (k1.1 d' md') (k2.1 d md) (k2.1 g mg)
    rw [eh] at C g1' fh hmem nd n3
    -- the closed path by numbers
    have c0 : ∀ i, i < h.length → (h ++ [f, g])[i]? = h[i]? := fun i hi => List.getElem?_append_left hi
    have cn : (h ++ [f, g])[h.length]? = some f := by rw [List.getElem?_append_right (Nat.le_refl _), Nat.sub_self]; rfl
    have cm : (h ++ [f, g])[h.length + 1]? = some g := by rw [List.getElem?_append_right (by omega), show h.length + 1 - h.length = 1 by omega]; rfl
    have cyc : ∀ i, i ≤ h.length + 1 → (h ++ [f, g])[i]? = h[i % h.length]? := fun i hi => by
      by_cases k : i < h.length
      · rw [c0 i k, Nat.mod_eq_of_lt k]
      · by_cases k2 : i = h.length
        · rw [k2, cn, Nat.mod_self, fh]
        · have k3 : i = h.length + 1 := by omega
          rw [k3, cm, Nat.add_mod_left, Nat.mod_eq_of_lt (by omega), g1']
    have PP : ∀ i, h[i % h.length]? = some (h.getD (i % h.length) f) := fun i => by
      have hl : i % h.length < h.length := Nat.mod_lt _ (by omega)
      rw [List.getD_eq_getElem?_getD, List.getElem?_eq_getElem hl]; rfl
    have psm : ∀ q ∈ h, q ∈ ps := fun q hq => (om q).mp (hmem q hq)
    have EE : ∀ i, (∀ q ∈ f :: r, 0 ≤ t (h.getD (i % h.length) f) (h.getD ((i + 1) % h.length) f) q) ∧ 0 < t (h.getD (i % h.length) f) (h.getD ((i + 1) % h.length) f) (h.getD ((i + 2) % h.length) f) := fun i => by
      have hl : i % h.length < h.length := Nat.mod_lt _ (by omega)
      have s1 : (h ++ [f, g])[i % h.length]? = some (h.getD (i % h.length) f) := by rw [cyc _ (by omega), Nat.mod_mod, PP]
      have s2 : (h ++ [f, g])[i % h.length + 1]? = some (h.getD ((i + 1) % h.length) f) := by rw [cyc _ (by omega), Nat.mod_add_mod, PP]
      have s3 : (h ++ [f, g])[i % h.length + 2]? = some (h.getD ((i + 2) % h.length) f) := by rw [cyc _ (by omega), Nat.mod_add_mod, PP]
      have k := pth_get C _ _ _ s1 s2
      exact ⟨k.1, k.2 _ s3⟩
    have R : Rnd h.length (fun i => h.getD (i % h.length) f) := ⟨by omega, fun i => by rw [Nat.add_mod_right], fun i j => (EE i).1 _ (hmem _ (List.mem_of_getElem? (PP j))), fun i => (EE i).2⟩
    have at_ : ∀ i a b, h[i]? = some a → h[(i + 1) % h.length]? = some b → a = h.getD (i % h.length) f ∧ b = h.getD ((i + 1) % h.length) f := fun i a b h1 h2 => by
      have hl : i < h.length := (List.getElem?_eq_some_iff.mp h1).1
      constructor
      · have := PP i; rw [Nat.mod_eq_of_lt hl] at this ⊢; rw [h1] at this; exact Option.some.inj this
      · have := PP (i + 1); rw [h2] at this; exact Option.some.inj this
    refine ⟨n3, nd, psm, fun i a b h1 h2 q hq => ?_, fun i a b h1 h2 q hq q1 q2 => ?_, fun a h1 q hq qa => ?_⟩
    · obtain ⟨e1, e2⟩ := at_ i a b h1 h2
      rw [e1, e2]
      exact (EE i).1 q ((om q).mpr hq)
    · obtain ⟨e1, e2⟩ := at_ i a b h1 h2
      obtain ⟨j, hj⟩ := List.getElem?_of_mem hq
      have hl : j < h.length := (List.getElem?_eq_some_iff.mp hj).1
      have ej : q = h.getD (j % h.length) f := by
        have := PP j; rw [Nat.mod_eq_of_lt hl] at this ⊢; rw [hj] at this; exact Option.some.inj this
      subst e1 e2
      have := R.strict i j (by rw [← ej]; exact q1) (by rw [← ej]; exact q2)
      rw [ej]
      exact this
    · rw [fh] at h1
      cases h1
      have := (om q).mpr hq
      rcases List.mem_cons.mp this with z | z
      · exact absurd z qa
      · exact Srt.all os q z
end Pt
end Dn

namespace Dn
open PySem
namespace Pt
/-- a strictly convex round, the corner before all others first -/
structure Poly (h : List Pt) : Prop where
  n3 : 3 ≤ h.length
  nd : h.Nodup
  st : ∀ i a b, h[i]? = some a → h[(i + 1) % h.length]? = some b → ∀ q ∈ h, q ≠ a → q ≠ b → 0 < t a b q
  fst : ∀ a, h[0]? = some a → ∀ q ∈ h, q ≠ a → lt a q
theorem Hull.poly {ps h : List Pt} (H : Hull ps h) : Poly h := ⟨H.n3, H.nd, H.st, fun a e q hq => H.fst a e q (H.mem q hq)⟩
/-- the point of a place -/
def at_ (x y w : Int) (h : w ≠ 0) : Pt := ⟨p1 x y w, p2 x y w, p3 x y w, p_nf h⟩
theorem at_d (x y w : Int) (h : w ≠ 0) : (at_ x y w h).d = P x y w := rfl
theorem at_sz {k : Nat} {x y w : Int} (h : w ≠ 0) (a : S k x) (b : S k y) (c : S k w) : (at_ x y w h).Sz k := ⟨(P_S h a b c).1, (P_S h a b c).2.1, (P_S h a b c).2.2⟩
/-- a point with whole coordinates -/
def wh (x y : Int) : Pt := ⟨x, y, 1, ⟨by decide, by rw [Int.gcd_one_right]⟩⟩
theorem tri_poly {a b : Int} (ha : 0 ≤ a) (hb : 0 ≤ b) : Poly [wh 0 0, wh (1 + a) 0, wh b 2] := by
  have e1 : wh 0 0 ≠ wh (1 + a) 0 := fun z => by have := congrArg Pt.x z; simp only [wh] at this; omega
  have e2 : wh 0 0 ≠ wh b 2 := fun z => by have := congrArg Pt.y z; simp only [wh] at this; omega
  have e3 : wh (1 + a) 0 ≠ wh b 2 := fun z => by have := congrArg Pt.y z; simp only [wh] at this; omega
  have t0 : 0 < t (wh 0 0) (wh (1 + a) 0) (wh b 2) := by
    unfold t wh; dsimp only; omega
  have t1 : 0 < t (wh (1 + a) 0) (wh b 2) (wh 0 0) := by rw [t_rot]; exact t0
  have t2 : 0 < t (wh b 2) (wh 0 0) (wh (1 + a) 0) := by rw [t_rot]; exact t1
  refine ⟨Nat.le_refl 3, ?_, ?_, ?_⟩
  · rw [List.nodup_cons, List.nodup_cons, List.nodup_cons]
    refine ⟨?_, ?_, by simp, List.nodup_nil⟩
    · simp [e1, e2]
    · simp [e3]
  · intro i p q h1 h2 z hz n1 n2
    have hi : i < 3 := (List.getElem?_eq_some_iff.mp h1).1
    have : i = 0 ∨ i = 1 ∨ i = 2 := by omega
    simp only [List.mem_cons, List.not_mem_nil, or_false] at hz
    rcases this with rfl | rfl | rfl
    · cases h1; cases h2
      rcases hz with rfl | rfl | rfl
      · exact absurd rfl n1
      · exact absurd rfl n2
      · exact t0
    · cases h1; cases h2
      rcases hz with rfl | rfl | rfl
      · exact t1
      · exact absurd rfl n1
      · exact absurd rfl n2
    · rw [show (2 + 1) % [wh 0 0, wh (1 + a) 0, wh b 2].length = 0 from by simp] at h2
      cases h1; cases h2
      rcases hz with rfl | rfl | rfl
      · exact absurd rfl n2
      · exact t2
      · exact absurd rfl n1
  · intro p h1 q hq n
    cases h1
    simp only [List.mem_cons, List.not_mem_nil, or_false] at hq
    rcases hq with rfl | rfl | rfl
    · exact absurd rfl n
    · refine .inl ?_; unfold dx wh; dsimp only; omega
    · unfold lt dx dy wh; dsimp only; omega
end Pt
end Dn

namespace Dn
/-! ### the plane by fractions -/
theorem rmul_pos {a b : Rat} (h : 0 < a) (h' : 0 < b) : 0 < a * b := Rat.mul_pos h h'
theorem rmul_nn {a b : Rat} (h : 0 ≤ a) (h' : 0 ≤ b) : 0 ≤ a * b := Rat.mul_nonneg h h'
theorem rpos_of {a b : Rat} (h : 0 < a) (h' : 0 < a * b) : 0 < b := by
  refine Rat.lt_of_mul_lt_mul_left (c := a) ?_ (by grind)
  rw [Rat.mul_zero]; exact h'
theorem rnn_of {a b : Rat} (h : 0 < a) (h' : 0 ≤ a * b) : 0 ≤ b := by
  refine Rat.not_lt.mp fun n => ?_
  have := rmul_pos h (show 0 < -b by grind)
  grind
theorem rz_of {a b : Rat} (h : a ≠ 0) (h' : a * b = 0) : b = 0 := by
  rcases Rat.mul_eq_zero.mp h' with z | z
  · exact absurd z h
  · exact z
namespace Pt
def X (p : Pt) : Rat := (p.x : Rat) / (p.w : Rat)
def Y (p : Pt) : Rat := (p.y : Rat) / (p.w : Rat)
theorem wq (p : Pt) : (0 : Rat) < (p.w : Rat) := Rat.intCast_pos.mpr p.pos
theorem wq' (p : Pt) : (p.w : Rat) ≠ 0 := by have := p.wq; grind
theorem X_w (p : Pt) : p.X * p.w = p.x := by unfold X; have := p.wq'; grind
theorem Y_w (p : Pt) : p.Y * p.w = p.y := by unfold Y; have := p.wq'; grind
/-- twice the area of a triangle, with its sign -/
def cr (a b c : Pt) : Rat := (b.X - a.X) * (c.Y - a.Y) - (b.Y - a.Y) * (c.X - a.X)
theorem t_cr (a b c : Pt) : ((t a b c : Int) : Rat) = a.w * b.w * c.w * cr a b c := by
  unfold t cr
  have a1 := a.X_w
  have a2 := a.Y_w
  have b1 := b.X_w
  have b2 := b.Y_w
  have c1 := c.X_w
  have c2 := c.Y_w
  simp only [Rat.intCast_add, Rat.intCast_sub, Rat.intCast_mul]
  rw [← a1, ← a2, ← b1, ← b2, ← c1, ← c2]
  grind
theorem w3 (a b c : Pt) : (0 : Rat) < a.w * b.w * c.w := rmul_pos (rmul_pos a.wq b.wq) c.wq
theorem t_pos {a b c : Pt} : 0 < t a b c ↔ 0 < cr a b c := by
  rw [← Rat.intCast_pos, t_cr]
  exact ⟨rpos_of (w3 a b c), rmul_pos (w3 a b c)⟩
theorem t_nn {a b c : Pt} : 0 ≤ t a b c ↔ 0 ≤ cr a b c := by
  rw [← Rat.intCast_le_intCast, t_cr, Rat.intCast_zero]
  exact ⟨rnn_of (w3 a b c), rmul_nn (Rat.le_of_lt (w3 a b c))⟩
theorem t_z {a b c : Pt} : t a b c = 0 ↔ cr a b c = 0 := by
  rw [← Rat.intCast_inj, t_cr, Rat.intCast_zero]
  have := w3 a b c
  exact ⟨rz_of (by grind), fun h => by rw [h, Rat.mul_zero]⟩
theorem t_neg' {a b c : Pt} : t a b c < 0 ↔ cr a b c < 0 := by
  have := t_nn (a := a) (b := b) (c := c)
  constructor
  · intro h
    refine Rat.not_le.mp fun z => ?_
    have := this.mpr z; omega
  · intro h
    refine Int.not_le.mp fun z => ?_
    have := this.mp z; grind
theorem cr_rot (a b c : Pt) : cr b c a = cr a b c := by unfold cr; grind
theorem cr_rot2 (a b c : Pt) : cr c a b = cr a b c := by unfold cr; grind
theorem cr_swap (a b c : Pt) : cr a c b = - cr a b c := by unfold cr; grind
theorem cr_swap' (a b c : Pt) : cr b a c = - cr a b c := by unfold cr; grind
theorem cr_rev (a b c : Pt) : cr c b a = - cr a b c := by unfold cr; grind
theorem cr_aab (a b : Pt) : cr a a b = 0 := by unfold cr; grind
theorem cr_aba (a b : Pt) : cr a b a = 0 := by unfold cr; grind
theorem cr_abb (a b : Pt) : cr a b b = 0 := by unfold cr; grind
theorem XY {a b : Pt} (h1 : a.X = b.X) (h2 : a.Y = b.Y) : a = b := by
  have a1 := a.X_w
  have a2 := a.Y_w
  have b1 := b.X_w
  have b2 := b.Y_w
  have e1 : a.x * b.w = b.x * a.w := by
    refine Rat.intCast_inj.mp ?_
    simp only [Rat.intCast_mul]
    rw [← a1, ← b1, h1]; grind
  have e2 : a.y * b.w = b.y * a.w := by
    refine Rat.intCast_inj.mp ?_
    simp only [Rat.intCast_mul]
    rw [← a2, ← b2, h2]; grind
  obtain ⟨h1, h2, h3⟩ := nf_unique a.nf b.nf e1 e2
  exact ext' h1 h2 h3
theorem lt_XY {a b : Pt} : lt a b ↔ a.X < b.X ∨ (a.X = b.X ∧ a.Y < b.Y) := by
  have hw := rmul_pos a.wq b.wq
  have ex : ((dx a b : Int) : Rat) = (a.w * b.w) * (b.X - a.X) := by
    unfold dx
    simp only [Rat.intCast_sub, Rat.intCast_mul]
    rw [← a.X_w, ← b.X_w]; grind
  have ey : ((dy a b : Int) : Rat) = (a.w * b.w) * (b.Y - a.Y) := by
    unfold dy
    simp only [Rat.intCast_sub, Rat.intCast_mul]
    rw [← a.Y_w, ← b.Y_w]; grind
  have px : 0 < dx a b ↔ a.X < b.X := by
    rw [← Rat.intCast_pos, ex]
    constructor
    · intro h; have := rpos_of hw h; grind
    · intro h; exact rmul_pos hw (by grind)
  have py : 0 < dy a b ↔ a.Y < b.Y := by
    rw [← Rat.intCast_pos, ey]
    constructor
    · intro h; have := rpos_of hw h; grind
    · intro h; exact rmul_pos hw (by grind)
  have pz : dx a b = 0 ↔ a.X = b.X := by
    rw [← Rat.intCast_inj, ex, Rat.intCast_zero]
    constructor
    · intro h; have := rz_of (by grind) h; grind
    · intro h; rw [h]; grind
  unfold lt
  rw [px, py, pz]
theorem mk_nz (u v : Rat) : (u.den : Int) * v.den ≠ 0 := Int.mul_ne_zero (by have := u.den_nz; omega) (by have := v.den_nz; omega)
/-- the point with two coordinates -/
def mk' (u v : Rat) : Pt := ⟨p1 (u.num * v.den) (v.num * u.den) (u.den * v.den), p2 (u.num * v.den) (v.num * u.den) (u.den * v.den), p3 (u.num * v.den) (v.num * u.den) (u.den * v.den), p_nf (mk_nz u v)⟩
theorem num_q (u : Rat) : (u.num : Rat) = u * (u.den : Int) := by
  have h := Rat.num_divInt_den u
  rw [Rat.divInt_eq_div] at h
  have : ((u.den : Int) : Rat) ≠ 0 := by
    intro z
    have := Rat.intCast_inj.mp (z.trans Rat.intCast_zero.symm)
    have := u.den_nz
    omega
  grind
theorem den_q (u : Rat) : ((u.den : Int) : Rat) ≠ 0 := by
  intro z
  have := Rat.intCast_inj.mp (z.trans Rat.intCast_zero.symm)
  have := u.den_nz
  omega
/-- a triple in any form, as a point -/
theorem XY_of {x y w : Int} (h : w ≠ 0) (p : Pt) (e1 : p.x = p1 x y w) (e2 : p.y = p2 x y w) (e3 : p.w = p3 x y w) : p.X = x / w ∧ p.Y = y / w := by
  obtain ⟨c1, c2⟩ := p_cross (x := x) (y := y) h
  rw [← e1, ← e3] at c1
  rw [← e2, ← e3] at c2
  have hw : (w : Rat) ≠ 0 := fun z => h (Rat.intCast_inj.mp (z.trans Rat.intCast_zero.symm))
  have c1 := congrArg (fun z : Int => (z : Rat)) c1
  have c2 := congrArg (fun z : Int => (z : Rat)) c2
  simp only [Rat.intCast_mul] at c1 c2
  have := p.wq'
  unfold X Y
  constructor
  · grind
  · grind
theorem mk_X (u v : Rat) : (mk' u v).X = u := by
  have := (XY_of (mk_nz u v) (mk' u v) rfl rfl rfl).1
  rw [this]
  simp only [Rat.intCast_mul]
  have := den_q u
  have := den_q v
  rw [num_q]
  grind
theorem mk_Y (u v : Rat) : (mk' u v).Y = v := by
  have := (XY_of (mk_nz u v) (mk' u v) rfl rfl rfl).2
  rw [this]
  simp only [Rat.intCast_mul]
  have := den_q u
  have := den_q v
  rw [num_q v]
  grind
/-- an affine function of the plane -/
structure Aff where
  a : Rat
  b : Rat
  c : Rat
def Aff.ev (f : Aff) (p : Pt) : Rat := f.a * p.X + f.b * p.Y + f.c
def crF (a b : Pt) : Aff := ⟨a.Y - b.Y, b.X - a.X, a.X * b.Y - a.Y * b.X⟩
theorem crF_ev (a b z : Pt) : (crF a b).ev z = cr a b z := by unfold crF Aff.ev cr; grind
theorem bary (f : Aff) (p q r z : Pt) : cr p q r * f.ev z = cr z q r * f.ev p + cr p z r * f.ev q + cr p q z * f.ev r := by unfold Aff.ev cr; grind
theorem cr4 (a b c d : Pt) : cr a b c + cr a c d = cr a b d + cr b c d := by unfold cr; grind
theorem v4 (f : Aff) (a b c d : Pt) : (f.ev b - f.ev a) * cr a c d - (f.ev c - f.ev a) * cr a b d + (f.ev d - f.ev a) * cr a b c = 0 := by unfold Aff.ev cr; grind
end Pt
end Dn

namespace Dn
namespace Pt
/-! ### rounds of points -/
/-- three in order never turn right -/
def OC (L : List Pt) : Prop := ∀ a b c, [a, b, c].Sublist L → 0 ≤ cr a b c
/-- three in order turn left -/
def SOC (L : List Pt) : Prop := ∀ a b c, [a, b, c].Sublist L → 0 < cr a b c
theorem SOC.oc {L : List Pt} (h : SOC L) : OC L := fun a b c s => Rat.le_of_lt (h a b c s)
theorem OC.sub {L M : List Pt} (h : OC L) (s : M.Sublist L) : OC M := fun a b c k => h a b c (k.trans s)
theorem SOC.sub {L M : List Pt} (h : SOC L) (s : M.Sublist L) : SOC M := fun a b c k => h a b c (k.trans s)
theorem sub3_app {a b c : Pt} {xs ys : List Pt} (h : [a, b, c].Sublist (xs ++ ys)) : [a, b, c].Sublist ys ∨ ([a].Sublist xs ∧ [b, c].Sublist ys) ∨ ([a, b].Sublist xs ∧ [c].Sublist ys) ∨ [a, b, c].Sublist xs := by
  obtain ⟨l1, l2, e, h1, h2⟩ := List.sublist_append_iff.mp h
  match l1, e with
  | [], e => exact .inl (by rw [List.nil_append] at e; rw [e]; exact h2)
  | [p], e => cases e; exact .inr (.inl ⟨h1, h2⟩)
  | [p, q], e => cases e; exact .inr (.inr (.inl ⟨h1, h2⟩))
  | [p, q, r], e =>
    cases e; exact .inr (.inr (.inr h1))
  | p :: q :: r :: s :: t, e =>
    have := congrArg List.length e
    simp at this
/-- a predicate on three that turns round -/
theorem rot_of {R : Pt → Pt → Pt → Prop} (hR : ∀ a b c, R a b c → R b c a) {xs ys : List Pt} (h : ∀ a b c, [a, b, c].Sublist (xs ++ ys) → R a b c) : ∀ a b c, [a, b, c].Sublist (ys ++ xs) → R a b c := by
  intro a b c s
  rcases sub3_app s with k | ⟨k1, k2⟩ | ⟨k1, k2⟩ | k
  · exact h a b c (k.trans (List.sublist_append_left xs ys))
  · exact hR _ _ _ (hR _ _ _ (h b c a (List.Sublist.append k2 k1)))
  · exact hR _ _ _ (h c a b (List.Sublist.append k2 k1))
  · exact h a b c (k.trans (List.sublist_append_right xs ys))
theorem OC.rot {xs ys : List Pt} (h : OC (xs ++ ys)) : OC (ys ++ xs) := rot_of (R := fun a b c => 0 ≤ cr a b c) (fun a b c k => by rw [cr_rot]; exact k) h
theorem SOC.rot {xs ys : List Pt} (h : SOC (xs ++ ys)) : SOC (ys ++ xs) := rot_of (R := fun a b c => 0 < cr a b c) (fun a b c k => by rw [cr_rot]; exact k) h
theorem SOC.ne {L : List Pt} (h : SOC L) {a b c : Pt} (s : [a, b, c].Sublist L) : a ≠ b ∧ b ≠ c ∧ a ≠ c := by
  have := h a b c s
  refine ⟨?_, ?_, ?_⟩
  · rintro rfl; rw [cr_aab] at this; exact absurd this (by decide)
  · rintro rfl; rw [cr_abb] at this; exact absurd this (by decide)
  · rintro rfl; rw [cr_aba] at this; exact absurd this (by decide)
/-- neighbours -/
def prs : Pt → List Pt → List (Pt × Pt)
  | _, [] => []
  | a, b :: l => (a, b) :: prs b l
/-- the edges of a round, the one that leads to the first corner first -/
def edg (h : List Pt) : List (Pt × Pt) :=
  match h with
  | [] => []
  | a :: l => prs (topOf a l) (a :: l)
/-- what a round holds -/
def Cl (h : List Pt) (z : Pt) : Prop := ∀ e ∈ edg h, 0 ≤ cr e.1 e.2 z
def Inn (h : List Pt) (z : Pt) : Prop := ∀ e ∈ edg h, 0 < cr e.1 e.2 z
theorem Inn.cl {h : List Pt} {z : Pt} (k : Inn h z) : Cl h z := fun e he => Rat.le_of_lt (k e he)
theorem topOf_mem : ∀ (l : List Pt) (a : Pt), topOf a l ∈ a :: l
  | [], _ => List.mem_singleton.mpr rfl
  | b :: l, a => List.mem_cons_of_mem _ (topOf_mem l b)
theorem topOf_mem' : ∀ (l : List Pt) (a : Pt), l ≠ [] → topOf a l ∈ l
  | [], _, h => absurd rfl h
  | b :: l, a, _ => topOf_mem l b
theorem prs_mem : ∀ {l : List Pt} {a u v : Pt}, (u, v) ∈ prs a l → u ∈ a :: l ∧ v ∈ l
  | [], _, _, _, h => by cases h
  | b :: l, a, u, v, h => by
    rcases List.mem_cons.mp h with e | h
    · cases e; exact ⟨List.mem_cons_self, List.mem_cons_self⟩
    · have := prs_mem h; exact ⟨List.mem_cons_of_mem _ this.1, List.mem_cons_of_mem _ this.2⟩
theorem edg_mem {h : List Pt} {u v : Pt} (k : (u, v) ∈ edg h) : u ∈ h ∧ v ∈ h := by
  cases h with
  | nil => cases k
  | cons a l =>
    have := prs_mem k
    refine ⟨?_, this.2⟩
    rcases List.mem_cons.mp this.1 with e | e
    · rw [e]; exact topOf_mem l a
    · exact e
theorem prs_sub : ∀ {l : List Pt} {a u v : Pt}, (u, v) ∈ prs a l → ∃ xs ys, a :: l = xs ++ u :: v :: ys
  | [], _, _, _, h => by cases h
  | b :: l, a, u, v, h => by
    rcases List.mem_cons.mp h with e | h
    · cases e; exact ⟨[], l, rfl⟩
    · obtain ⟨xs, ys, e⟩ := prs_sub h
      exact ⟨a :: xs, ys, by rw [e]; rfl⟩
theorem prs_of : ∀ {xs ys : List Pt} {a u v : Pt} {l : List Pt}, a :: l = xs ++ u :: v :: ys → (u, v) ∈ prs a l
  | [], ys, a, u, v, l, e => by cases e; exact List.mem_cons_self
  | x :: xs, ys, a, u, v, l, e => by
    have e1 : l = xs ++ u :: v :: ys := by injection e
    cases l with
    | nil => cases xs <;> cases e1
    | cons b l => exact List.mem_cons_of_mem _ (prs_of (xs := xs) e1)
/-- with z left of all steps and a fan about o -/
theorem fan {o z : Pt} : ∀ {l : List Pt} {a : Pt}, l ≠ [] → 0 ≤ cr o a z → cr o (topOf a l) z ≤ 0 → (∀ e ∈ prs a l, 0 ≤ cr e.1 e.2 z) → ∃ u v, (u, v) ∈ prs a l ∧ 0 ≤ cr o u z ∧ cr o v z ≤ 0 ∧ 0 ≤ cr u v z
  | [], _, h, _, _, _ => absurd rfl h
  | b :: l, a, _, h1, h2, h3 => by
    by_cases q : cr o b z ≤ 0
    · exact ⟨a, b, List.mem_cons_self, h1, q, h3 (a, b) List.mem_cons_self⟩
    · by_cases n : l = []
      · subst n
        exact ⟨a, b, List.mem_cons_self, h1, h2, h3 (a, b) List.mem_cons_self⟩
      · obtain ⟨u, v, m, k⟩ := fan (l := l) (a := b) n (by grind) h2 (fun e he => h3 e (List.mem_cons_of_mem _ he))
        exact ⟨u, v, List.mem_cons_of_mem _ m, k⟩
/-- a convex round, from the corner before all others -/
structure CP (h : List Pt) : Prop where
  n3 : 3 ≤ h.length
  soc : SOC h
  fst : ∀ a, h.head? = some a → ∀ q ∈ h, q ≠ a → lt a q
theorem SOC.nodup {h : List Pt} (k : SOC h) (n : 3 ≤ h.length) : h.Nodup := by
  rw [List.nodup_iff_pairwise_ne, List.pairwise_iff_forall_sublist]
  intro a b s
  rintro rfl
  -- a third one
  obtain ⟨i, j, hij, e1, e2⟩ : ∃ i j, i < j ∧ h[i]? = some a ∧ h[j]? = some a := by
    have := List.pairwise_iff_forall_sublist (R := fun x y : Pt => x ≠ a ∨ y ≠ a) (l := h)
    refine Classical.byContradiction fun n => ?_
    have : List.Pairwise (fun x y : Pt => x ≠ a ∨ y ≠ a) h := by
      rw [List.pairwise_iff_getElem]
      intro i j hi hj hij
      refine Classical.byContradiction fun m => n ⟨i, j, hij, ?_, ?_⟩
      · rw [List.getElem?_eq_getElem hi]; exact congrArg some (Classical.byContradiction fun q => m (.inl q))
      · rw [List.getElem?_eq_getElem hj]; exact congrArg some (Classical.byContradiction fun q => m (.inr q))
    rw [List.pairwise_iff_forall_sublist] at this
    rcases this s with q | q <;> exact q rfl
  have hj : j < h.length := (List.getElem?_eq_some_iff.mp e2).1
  -- a sublist of three by places
  have three : ∀ (i j k : Nat) (x y z : Pt), i < j → j < k → h[i]? = some x → h[j]? = some y → h[k]? = some z → [x, y, z].Sublist h := by
    intro i j k x y z hij hjk ex ey ez
    have hk : k < h.length := (List.getElem?_eq_some_iff.mp ez).1
    have e1 : h = h.take j ++ h.drop j := (List.take_append_drop j h).symm
    have e2 : h.drop j = y :: h.drop (j + 1) := by
      rw [List.drop_eq_getElem_cons (by omega)]
      congr 1
      rw [List.getElem?_eq_getElem (by omega)] at ey
      exact Option.some.inj ey
    have m1 : x ∈ h.take j := by
      refine List.mem_of_getElem? (i := i) ?_
      rw [List.getElem?_take_of_lt hij]; exact ex
    have m2 : z ∈ h.drop (j + 1) := by
      refine List.mem_of_getElem? (i := k - (j + 1)) ?_
      rw [List.getElem?_drop, show j + 1 + (k - (j + 1)) = k by omega]; exact ez
    rw [e1, e2]
    exact List.Sublist.append (List.singleton_sublist.mpr m1) (List.Sublist.cons_cons _ (List.singleton_sublist.mpr m2))
  obtain ⟨x, ex⟩ : ∃ x, h[0]? = some x := ⟨_, List.getElem?_eq_getElem (by omega)⟩
  obtain ⟨y, ey⟩ : ∃ y, h[1]? = some y := ⟨_, List.getElem?_eq_getElem (by omega)⟩
  obtain ⟨z, ez⟩ : ∃ z, h[2]? = some z := ⟨_, List.getElem?_eq_getElem (by omega)⟩
  by_cases c0 : 0 < i
  · have := k.ne (three 0 i j x a a c0 hij ex e1 e2); exact this.2.1 rfl
  · have i0 : i = 0 := by omega
    subst i0
    by_cases c1 : 1 < j
    · have := k.ne (three 0 1 j a y a (by omega) c1 e1 ey e2); exact this.2.2 rfl
    · have j1 : j = 1 := by omega
      subst j1
      have := k.ne (three 0 1 2 a a z (by omega) (by omega) e1 e2 ez); exact this.1 rfl
theorem sub_cons_mem {o a b : Pt} {l : List Pt} (h : [a, b].Sublist l) : [o, a, b].Sublist (o :: l) := List.Sublist.cons_cons _ h
/-- the same corners, the same round -/
theorem CP.uniq {h k : List Pt} (H : CP h) (K : CP k) (e : ∀ q, q ∈ h ↔ q ∈ k) : h = k := by
  cases h with
  | nil => exact absurd H.n3 (by decide)
  | cons a l =>
    cases k with
    | nil => exact absurd K.n3 (by decide)
    | cons b m =>
      have nh := H.soc.nodup H.n3
      have nk := K.soc.nodup K.n3
      have ab : a = b := Classical.byContradiction fun n => by
        have h1 := H.fst a rfl b ((e b).mpr List.mem_cons_self) (fun z => n z.symm)
        have h2 := K.fst b rfl a ((e a).mp List.mem_cons_self) n
        exact lt_asymm h1 h2
      subst ab
      congr 1
      have n1 := List.nodup_cons.mp nh
      have n2 := List.nodup_cons.mp nk
      have e' : ∀ q, q ∈ l ↔ q ∈ m := fun q => by
        constructor
        · intro h
          rcases List.mem_cons.mp ((e q).mp (List.mem_cons_of_mem _ h)) with z | z
          · subst z; exact absurd h n1.1
          · exact z
        · intro h
          rcases List.mem_cons.mp ((e q).mpr (List.mem_cons_of_mem _ h)) with z | z
          · subst z; exact absurd h n2.1
          · exact z
      refine List.Perm.eq_of_pairwise (le := fun x y => 0 < cr a x y) ?_ ?_ ?_ ?_
      · intro x y _ _ h1 h2
        rw [cr_swap] at h2
        exact absurd h1 (by grind)
      · rw [List.pairwise_iff_forall_sublist]
        exact fun s => H.soc _ _ _ (sub_cons_mem s)
      · rw [List.pairwise_iff_forall_sublist]
        exact fun s => K.soc _ _ _ (sub_cons_mem s)
      · exact (List.perm_ext_iff_of_nodup n1.2 n2.2).mpr e'
theorem topOf_sub {o : Pt} : ∀ {l : List Pt} {a q : Pt}, q ∈ a :: l → q = topOf a l ∨ [q, topOf a l].Sublist (a :: l)
  | [], a, q, h => .inl (List.mem_singleton.mp h)
  | b :: l, a, q, h => by
    rcases List.mem_cons.mp h with e | h
    · subst e
      exact .inr (List.Sublist.cons_cons _ (List.singleton_sublist.mpr (topOf_mem l b)))
    · rcases topOf_sub (o := o) h with k | k
      · exact .inl k
      · exact .inr (k.cons _)
/-- all other corners are left of an edge -/
theorem SOC.edge {h : List Pt} (H : SOC h) {u v : Pt} (k : (u, v) ∈ edg h) {q : Pt} (hq : q ∈ h) (n1 : q ≠ u) (n2 : q ≠ v) : 0 < cr u v q := by
  cases h with
  | nil => cases k
  | cons a l =>
    rcases List.mem_cons.mp (show (u, v) ∈ (topOf a l, a) :: prs a l from k) with e | k
    · injection e with e1 e2
      rw [e1] at n1 ⊢
      rw [e2] at n2 ⊢
      rcases topOf_sub (o := a) hq with z | z
      · exact absurd z n1
      · rcases List.mem_cons.mp hq with y | y
        · exact absurd y n2
        · have s : [a, q, topOf a l].Sublist (a :: l) := by
            rcases topOf_sub (o := a) (a := a) (l := l) hq with w | w
            · exact absurd w n1
            · cases w with
              | cons _ w => exact List.Sublist.cons_cons _ w
              | cons_cons _ w => exact absurd rfl n2
          have := H a q (topOf a l) s
          rw [cr_rot2]; 
          rw [show cr a q (topOf a l) = cr (topOf a l) a q from (cr_rot2 a q (topOf a l)).symm] at this
          rw [cr_rot2] at this
          exact this
    · obtain ⟨xs, ys, e⟩ := prs_sub k
      rw [e] at hq H
      rcases List.mem_append.mp hq with m | m
      · have := H q u v (List.Sublist.append (List.singleton_sublist.mpr m) (List.Sublist.cons_cons _ (List.Sublist.cons_cons _ (List.nil_sublist ys))))
        rw [cr_rot]; exact this
      · rcases List.mem_cons.mp m with m | m
        · exact absurd m n1
        · rcases List.mem_cons.mp m with m | m
          · exact absurd m n2
          · exact H u v q ((List.Sublist.cons_cons _ (List.Sublist.cons_cons _ (List.singleton_sublist.mpr m))).trans (List.sublist_append_right xs _))
theorem SOC.edge' {h : List Pt} (H : SOC h) {u v : Pt} (k : (u, v) ∈ edg h) {q : Pt} (hq : q ∈ h) : 0 ≤ cr u v q := by
  by_cases n1 : q = u
  · rw [n1, cr_aba]; exact Rat.le_refl
  · by_cases n2 : q = v
    · rw [n2, cr_abb]; exact Rat.le_refl
    · exact Rat.le_of_lt (H.edge k hq n1 n2)
/-- corners are held -/
theorem SOC.cl {h : List Pt} (H : SOC h) {q : Pt} (hq : q ∈ h) : Cl h q := fun e he => H.edge' he hq
/-- what is held lies in a triangle of corners -/
theorem Cl.tri {h : List Pt} (n3 : 3 ≤ h.length) {z : Pt} (k : Cl h z) : ∃ o u v, [o, u, v].Sublist h ∧ 0 ≤ cr o u z ∧ 0 ≤ cr u v z ∧ 0 ≤ cr v o z := by
  match h, n3, k with
  | o :: a :: b :: l, _, k =>
    have k1 : 0 ≤ cr (topOf b l) o z := k (topOf b l, o) List.mem_cons_self
    have k2 : 0 ≤ cr o a z := k (o, a) (List.mem_cons_of_mem _ List.mem_cons_self)
    obtain ⟨u, v, m, h1, h2, h3⟩ := fan (o := o) (z := z) (l := b :: l) (a := a) (by simp) k2 (by
      show cr o (topOf b l) z ≤ 0
      rw [cr_swap'] at k1; grind) (fun e he => k e (List.mem_cons_of_mem _ (List.mem_cons_of_mem _ he)))
    obtain ⟨xs, ys, e⟩ := prs_sub m
    refine ⟨o, u, v, ?_, h1, h3, ?_⟩
    · refine List.Sublist.cons_cons _ ?_
      rw [e]
      exact (List.Sublist.cons_cons _ (List.Sublist.cons_cons _ (List.nil_sublist ys))).trans (List.sublist_append_right xs _)
    · rw [cr_swap']; grind
/-- what is not below nought at the corners is not below nought at what they hold -/
theorem Cl.aff {h : List Pt} (n3 : 3 ≤ h.length) (H : SOC h) {z : Pt} (k : Cl h z) (f : Aff) (hf : ∀ q ∈ h, 0 ≤ f.ev q) : 0 ≤ f.ev z := by
  obtain ⟨o, u, v, s, h1, h2, h3⟩ := Cl.tri n3 k
  have hp := H o u v s
  have b := bary f o u v z
  have mo := hf o (s.subset (by simp))
  have mu := hf u (s.subset (by simp))
  have mv := hf v (s.subset (by simp))
  refine rnn_of hp ?_
  rw [b]
  have e1 : cr z u v = cr u v z := (cr_rot z u v).symm
  have e2 : cr o z v = cr v o z := (cr_rot2 o z v).symm
  rw [e1, e2]
  have := rmul_nn h2 mo
  have := rmul_nn h3 mu
  have := rmul_nn h1 mv
  grind
theorem Cl.affpos {h : List Pt} (n3 : 3 ≤ h.length) (H : SOC h) {z : Pt} (k : Cl h z) (f : Aff) (hf : ∀ q ∈ h, 0 < f.ev q) : 0 < f.ev z := by
  obtain ⟨o, u, v, s, h1, h2, h3⟩ := Cl.tri n3 k
  have hp := H o u v s
  have b := bary f o u v z
  have mo := hf o (s.subset (by simp))
  have mu := hf u (s.subset (by simp))
  have mv := hf v (s.subset (by simp))
  refine rpos_of hp ?_
  rw [b]
  have e1 : cr z u v = cr u v z := (cr_rot z u v).symm
  have e2 : cr o z v = cr v o z := (cr_rot2 o z v).symm
  rw [e1, e2]
  have e3 : cr u v z + cr v o z + cr o u z = cr o u v := by unfold cr; grind
  have p1 := rmul_nn h2 (Rat.le_of_lt mo)
  have p2 := rmul_nn h3 (Rat.le_of_lt mu)
  have p3 := rmul_nn h1 (Rat.le_of_lt mv)
  by_cases q1 : 0 < cr u v z
  · have := rmul_pos q1 mo; grind
  · by_cases q2 : 0 < cr v o z
    · have := rmul_pos q2 mu; grind
    · have q3 : 0 < cr o u z := by grind
      have := rmul_pos q3 mv; grind
end Pt
end Dn

namespace Dn
namespace Pt
/-! ### the hull by its corners -/
theorem turn_trans {a e x y z : Pt} (h1 : 0 ≤ cr a e x) (h2 : 0 < cr a e y) (h3 : 0 < cr a e z) (u : 0 < cr a x y) (v : 0 < cr a y z) : 0 < cr a x z := by
  have k := v4 (crF a e) a x y z
  simp only [crF_ev, cr_aba] at k
  have p1 := rmul_nn h1 (Rat.le_of_lt v)
  have p2 := rmul_pos h3 u
  refine rpos_of h2 ?_
  grind
theorem turn_all {a e : Pt} : ∀ {l : List Pt} {x : Pt}, 0 ≤ cr a e x → (∀ q ∈ l, 0 < cr a e q) → (∀ p ∈ prs x l, 0 < cr a p.1 p.2) → (∀ q ∈ l, 0 < cr a x q) ∧ l.Pairwise (fun u v => 0 < cr a u v)
  | [], _, _, _, _ => ⟨fun _ h => (by cases h), List.Pairwise.nil⟩
  | y :: l, x, hx, hl, hp => by
    have hy := hl y List.mem_cons_self
    obtain ⟨i1, i2⟩ := turn_all (l := l) (x := y) (Rat.le_of_lt hy) (fun q hq => hl q (List.mem_cons_of_mem _ hq)) (fun p h => hp p (List.mem_cons_of_mem _ h))
    have xy := hp (x, y) List.mem_cons_self
    refine ⟨fun q hq => ?_, List.pairwise_cons.mpr ⟨i1, i2⟩⟩
    rcases List.mem_cons.mp hq with rfl | hq
    · exact xy
    · exact turn_trans hx hy (hl q (List.mem_cons_of_mem _ hq)) xy (i1 q hq)
/-- left of all edges that are told, they stand in order -/
theorem soc_of {h : List Pt} (nd : h.Nodup) (st : ∀ xs u v ys, h = xs ++ u :: v :: ys → ∀ q ∈ h, q ≠ u → q ≠ v → 0 < cr u v q) : ∀ (l pre : List Pt), h = pre ++ l → SOC l
  | [], _, _ => fun a b c s => by cases s
  | a :: l, pre, e => by
    have ih := soc_of nd st l (pre ++ [a]) (by rw [e]; simp)
    have nl : (a :: l).Nodup := by rw [e] at nd; exact (List.nodup_append.mp nd).2.1
    have al := List.nodup_cons.mp nl
    intro x y z s
    cases s with
    | cons _ s => exact ih x y z s
    | cons_cons _ s =>
      cases l with
      | nil => cases s
      | cons b l =>
        have hm : ∀ q ∈ a :: b :: l, q ∈ h := fun q hq => by rw [e]; exact List.mem_append_right _ hq
        have bl := List.nodup_cons.mp al.2
        obtain ⟨k1, k2⟩ := turn_all (a := a) (e := b) (l := l) (x := b) (by rw [cr_abb]; exact Rat.le_refl) (fun q hq => st pre a b l e q (hm q (by simp [hq])) (fun z => al.1 (z ▸ List.mem_cons_of_mem _ hq)) (fun z => bl.1 (z ▸ hq))) (fun p hp => by
          obtain ⟨u, v⟩ := p
          obtain ⟨xs, ys, e2⟩ := prs_sub hp
          have := st (pre ++ a :: xs) u v ys (by rw [e, e2]; simp) a (hm a List.mem_cons_self) (fun z => al.1 (by rw [e2, z]; simp)) (fun z => al.1 (by rw [e2, z]; simp))
          rw [cr_rot] at this
          exact this)
        have := List.pairwise_iff_forall_sublist.mp (List.pairwise_cons.mpr ⟨k1, k2⟩) s
        exact this
theorem Poly.cp {h : List Pt} (H : Poly h) : CP h := by
  refine ⟨H.n3, soc_of H.nd ?_ h [] rfl, fun a e q hq n => H.fst a (by rw [← List.head?_eq_getElem?]; exact e) q hq n⟩
  intro xs u v ys e q hq n1 n2
  refine t_pos.mp (H.st xs.length u v ?_ ?_ q hq n1 n2)
  · rw [e, List.getElem?_append_right (Nat.le_refl _), Nat.sub_self]; rfl
  · have : xs.length + 1 < h.length := by rw [e]; simp
    rw [Nat.mod_eq_of_lt this, e, List.getElem?_append_right (by omega), show xs.length + 1 - xs.length = 1 by omega]; rfl
/-- on one line -/
theorem col {f m a b c : Pt} (n : f ≠ m) (h1 : cr f m a = 0) (h2 : cr f m b = 0) (h3 : cr f m c = 0) : cr a b c = 0 := by
  by_cases q : m.X - f.X = 0
  · have q2 : m.Y - f.Y ≠ 0 := fun z => n (XY (by grind) (by grind))
    refine rz_of q2 ?_
    unfold cr at *
    grind
  · refine rz_of q ?_
    unfold cr at *
    grind
/-- all on one line -/
def Flat (ps : List Pt) : Prop := ∀ a ∈ ps, ∀ b ∈ ps, ∀ c ∈ ps, cr a b c = 0
theorem hull_none {ps : List Pt} (e : hull ps = none) : Flat ps := by
  have om := order_mem ps
  have os := order_srt ps
  have two : ∀ x y : Pt, (∀ q, q ∈ order ps → q = x ∨ q = y) → Flat ps := fun x y h a ha b hb c hc => by
    have h1 := h a ((om a).mpr ha)
    have h2 := h b ((om b).mpr hb)
    have h3 := h c ((om c).mpr hc)
    rcases h1 with rfl | rfl <;> rcases h2 with rfl | rfl <;> rcases h3 with rfl | rfl <;> simp [cr_aab, cr_aba, cr_abb]
  have two0 : (∀ q, q ∉ order ps) → Flat ps := fun h a ha => absurd ((om a).mpr ha) (h a)
  unfold hull at e
  by_cases n1 : (order ps).length < 3
  · cases ho : order ps with
    | nil => exact two0 fun q hq => by rw [ho] at hq; cases hq
    | cons a r =>
      cases r with
      | nil => exact two a a fun q hq => by rw [ho] at hq; exact .inl (List.mem_singleton.mp hq)
      | cons b r =>
        cases r with
        | nil => exact two a b fun q hq => by rw [ho] at hq; simpa using hq
        | cons c r => rw [ho] at n1; simp only [List.length_cons] at n1; omega
  · rw [if_neg n1] at e
    cases ho : order ps with
    | nil => exact two0 fun q hq => by rw [ho] at hq; cases hq
    | cons f r =>
      rw [ho] at n1 e os om
      have hr : r ≠ [] := by rintro rfl; exact n1 (show 1 < 3 by decide)
      obtain ⟨xs, l, m, a0, hm, a1, a2, a3⟩ := lower os hr
      obtain ⟨ys, z, b0, b1, b2, b3⟩ := upper os hr
      rw [← hm] at b2
      rw [a0, b0] at e
      have dA : (xs ++ [l, m]).dropLast = xs ++ [l] := by
        rw [show xs ++ [l, m] = (xs ++ [l]) ++ [m] by simp, List.dropLast_concat]
      have dB : (ys ++ [z, f]).dropLast = ys ++ [z] := by
        rw [show ys ++ [z, f] = (ys ++ [z]) ++ [f] by simp, List.dropLast_concat]
      rw [dA, dB] at e
      have n2 : (xs ++ [l] ++ (ys ++ [z])).length < 3 := by
        refine Classical.byContradiction fun n => ?_
        rw [if_neg n] at e
        cases e
      simp only [List.length_append, List.length_singleton] at n2
      have x0 : xs = [] := List.length_eq_zero_iff.mp (by omega)
      have y0 : ys = [] := List.length_eq_zero_iff.mp (by omega)
      subst x0 y0
      have lf : l = f := Option.some.inj a2
      have zm : z = m := Option.some.inj b2
      subst lf zm
      have fm : l ≠ z := fun q => by
        have := srt_at (xs := []) a3
        rw [q] at this
        exact lt_irrefl _ this
      have onl : ∀ q ∈ ps, cr l z q = 0 := fun q hq => by
        have h1 := t_nn.mp (a1 q ((om q).mpr hq))
        have h2 := t_nn.mp (b1 q ((om q).mpr hq))
        rw [cr_swap'] at h2
        grind
      exact fun a ha b hb c hc => col fm (onl a ha) (onl b hb) (onl c hc)
theorem hull_flat {ps : List Pt} (h : Flat ps) : hull ps = none := by
  cases e : hull ps with
  | none => rfl
  | some k =>
    have H := hull_ok e
    have C := H.poly.cp
    match k, C.n3, C, H with
    | a :: b :: c :: l, _, C, H =>
      have := C.soc a b c (List.Sublist.cons_cons _ (List.Sublist.cons_cons _ (List.Sublist.cons_cons _ (List.nil_sublist l))))
      rw [h a (H.mem a (by simp)) b (H.mem b (by simp)) c (H.mem c (by simp))] at this
      exact absurd this (by decide)
theorem Hull.cl {ps h : List Pt} (H : Hull ps h) : ∀ q ∈ ps, Cl h q := by
  intro q hq e he
  obtain ⟨u, v⟩ := e
  refine t_nn.mp ?_
  cases h with
  | nil => cases he
  | cons a l =>
    rcases List.mem_cons.mp (show (u, v) ∈ (topOf a l, a) :: prs a l from he) with k | k
    · injection k with e1 e2
      subst e1 e2
      refine H.ed l.length _ _ ?_ ?_ q hq
      · have tl : ∀ (l : List Pt) (a : Pt), (a :: l)[l.length]? = some (topOf a l) := by
          intro l
          induction l with
          | nil => exact fun a => rfl
          | cons b l ih => exact fun a => ih b
        exact tl l v
      · rw [show (l.length + 1) % (v :: l).length = 0 by rw [List.length_cons, Nat.mod_self]]; rfl
    · obtain ⟨xs, ys, e⟩ := prs_sub k
      rw [e] at H
      refine H.ed xs.length u v ?_ ?_ q hq
      · rw [List.getElem?_append_right (Nat.le_refl _), Nat.sub_self]; rfl
      · rw [Nat.mod_eq_of_lt (by simp), List.getElem?_append_right (by omega), show xs.length + 1 - xs.length = 1 by omega]; rfl
/-- one that a round holds, and that is a tip of all its corners, is a corner -/
theorem tip_mem {h : List Pt} (n3 : 3 ≤ h.length) (S : SOC h) {d v g : Pt} (k : Cl h v) (hq : ∀ q ∈ h, 0 ≤ cr d v q ∧ 0 ≤ cr v g q) (u : cr d v g ≠ 0) : v ∈ h := by
  refine Classical.byContradiction fun n => ?_
  have := Cl.affpos n3 S k ⟨(crF d v).a + (crF v g).a, (crF d v).b + (crF v g).b, (crF d v).c + (crF v g).c⟩ (fun q hq' => by
    have e : ∀ z : Pt, (Aff.mk ((crF d v).a + (crF v g).a) ((crF d v).b + (crF v g).b) ((crF d v).c + (crF v g).c)).ev z = cr d v z + cr v g z := fun z => by
      rw [← crF_ev, ← crF_ev]; unfold Aff.ev; grind
    rw [e]
    obtain ⟨h1, h2⟩ := hq q hq'
    refine Rat.not_le.mp fun z => n ?_
    have z1 : cr d v q = 0 := by grind
    have z2 : cr v g q = 0 := by grind
    have : q = v := by
      have x1 : (q.X - v.X) * cr d v g = 0 := by unfold cr at *; grind
      have x2 : (q.Y - v.Y) * cr d v g = 0 := by unfold cr at *; grind
      have y1 := rz_of u (show cr d v g * (q.X - v.X) = 0 by grind)
      have y2 := rz_of u (show cr d v g * (q.Y - v.Y) = 0 by grind)
      exact XY (by grind) (by grind)
    rw [← this]; exact hq')
  have e : (Aff.mk ((crF d v).a + (crF v g).a) ((crF d v).b + (crF v g).b) ((crF d v).c + (crF v g).c)).ev v = cr d v v + cr v g v := by
    rw [← crF_ev, ← crF_ev]; unfold Aff.ev; grind
  rw [e, cr_abb, cr_aba] at this
  grind
/-- a round that begins with a corner -/
theorem soc_front {h : List Pt} (S : SOC h) {q : Pt} (hq : q ∈ h) : ∃ r, SOC (q :: r) ∧ (∀ w, w ∈ q :: r ↔ w ∈ h) ∧ (q :: r).length = h.length := by
  obtain ⟨xs, ys, rfl⟩ := List.append_of_mem hq
  refine ⟨ys ++ xs, ?_, ?_, ?_⟩
  · have := S.rot
    rw [List.cons_append] at this
    exact this
  · intro w; simp only [List.mem_cons, List.mem_append]; grind
  · simp; omega
theorem sub_last {a : Pt} {l : List Pt} {q : Pt} (h : q ∈ l) (n : q ≠ topOf a l) : [q, topOf a l].Sublist l := by
  cases l with
  | nil => cases h
  | cons b l =>
    rcases topOf_sub (o := a) h with z | z
    · exact absurd z n
    · exact z
/-- what stands about a tip -/
theorem oc_cone {v g : Pt} {r : List Pt} (S : OC (v :: g :: r)) : ∀ w ∈ v :: g :: r, 0 ≤ cr (topOf g r) v w ∧ 0 ≤ cr v g w := by
  intro w hw
  rcases List.mem_cons.mp hw with rfl | hw
  · rw [cr_abb, cr_aba]; exact ⟨Rat.le_refl, Rat.le_refl⟩
  · constructor
    · by_cases n : w = topOf g r
      · rw [n, cr_aba]; exact Rat.le_refl
      · have := S v w (topOf g r) (List.Sublist.cons_cons _ (by
          rcases topOf_sub (o := v) hw with z | z
          · exact absurd z n
          · exact z))
        rw [cr_rot2 v w (topOf g r)]
        exact this
    · rcases List.mem_cons.mp hw with rfl | hw
      · rw [cr_abb]; exact Rat.le_refl
      · exact S v g w (List.Sublist.cons_cons _ (List.Sublist.cons_cons _ (List.singleton_sublist.mpr hw)))
theorem soc_tip {h : List Pt} (n3 : 3 ≤ h.length) (S : SOC h) {v : Pt} (hv : v ∈ h) : ∃ d g, d ∈ h ∧ g ∈ h ∧ 0 < cr d v g ∧ ∀ w ∈ h, 0 ≤ cr d v w ∧ 0 ≤ cr v g w := by
  obtain ⟨r, S', me, len⟩ := soc_front S hv
  match r, S', me, len with
  | [], _, _, len => simp at len; omega
  | [g], _, _, len => simp at len; omega
  | g :: b :: r, S', me, _ =>
    refine ⟨topOf b r, g, (me _).mp (List.mem_cons_of_mem _ (List.mem_cons_of_mem _ (topOf_mem r b))), (me _).mp (by simp), ?_, fun w hw => oc_cone S'.oc w ((me w).mpr hw)⟩
    have := S' v g (topOf b r) (List.Sublist.cons_cons _ (List.Sublist.cons_cons _ (List.singleton_sublist.mpr (topOf_mem r b))))
    rw [show cr (topOf b r) v g = cr v g (topOf b r) from (cr_rot2 v g (topOf b r))]
    exact this
/-- a round with the same corners held is the hull -/
theorem CP.hull_of {h ps : List Pt} (H : CP h) (s : ∀ q ∈ h, q ∈ ps) (c : ∀ q ∈ ps, Cl h q) : hull ps = some h := by
  cases e : hull ps with
  | none =>
    have F := hull_none e
    match h, H.n3, H, s with
    | a :: b :: d :: l, _, H, s =>
      have := H.soc a b d (List.Sublist.cons_cons _ (List.Sublist.cons_cons _ (List.Sublist.cons_cons _ (List.nil_sublist l))))
      rw [F a (s a (by simp)) b (s b (by simp)) d (s d (by simp))] at this
      exact absurd this (by decide)
  | some k =>
    have K := hull_ok e
    have C := K.poly.cp
    congr 1
    refine C.uniq H fun q => ?_
    constructor
    · intro hq
      obtain ⟨d, g, _, _, u, w⟩ := soc_tip C.n3 C.soc hq
      refine tip_mem H.n3 H.soc (c q (K.mem q hq)) (fun z hz => ?_) (show cr d q g ≠ 0 by grind)
      have kz := K.cl z (s z hz)
      have f1 := Cl.aff C.n3 C.soc kz (crF d q) (fun y hy => by rw [crF_ev]; exact (w y hy).1)
      have f2 := Cl.aff C.n3 C.soc kz (crF q g) (fun y hy => by rw [crF_ev]; exact (w y hy).2)
      rw [crF_ev] at f1 f2
      exact ⟨f1, f2⟩
    · intro hq
      obtain ⟨d, g, _, _, u, w⟩ := soc_tip H.n3 H.soc hq
      refine tip_mem C.n3 C.soc (K.cl q (s q hq)) (fun z hz => ?_) (show cr d q g ≠ 0 by grind)
      have kz := c z (K.mem z hz)
      have f1 := Cl.aff H.n3 H.soc kz (crF d q) (fun y hy => by rw [crF_ev]; exact (w y hy).1)
      have f2 := Cl.aff H.n3 H.soc kz (crF q g) (fun y hy => by rw [crF_ev]; exact (w y hy).2)
      rw [crF_ev] at f1 f2
      exact ⟨f1, f2⟩
theorem CP.hull_self {h : List Pt} (H : CP h) : hull h = some h := H.hull_of (fun _ q => q) (fun _ hq => H.soc.cl hq)
/-- the same points held, the same round -/
theorem CP.uniq_cl {h k : List Pt} (H : CP h) (K : CP k) (e : ∀ z, Cl h z ↔ Cl k z) : h = k := by
  have h1 := H.hull_of (ps := h ++ k) (fun q hq => List.mem_append_left _ hq) (fun q hq => by
    rcases List.mem_append.mp hq with m | m
    · exact H.soc.cl m
    · exact (e q).mpr (K.soc.cl m))
  have h2 := K.hull_of (ps := h ++ k) (fun q hq => List.mem_append_right _ hq) (fun q hq => by
    rcases List.mem_append.mp hq with m | m
    · exact (e q).mp (H.soc.cl m)
    · exact K.soc.cl m)
  rw [h1] at h2
  exact Option.some.inj h2
end Pt
end Dn

namespace Dn
namespace Pt
/-! ### cuts -/
/-- m stands between u and v -/
def Btw (m u v : Pt) : Prop := ∃ k α β : Rat, 0 < k ∧ 0 ≤ α ∧ 0 ≤ β ∧ ∀ g : Aff, k * g.ev m = α * g.ev u + β * g.ev v
theorem Btw.nn {m u v : Pt} (B : Btw m u v) (g : Aff) (h1 : 0 ≤ g.ev u) (h2 : 0 ≤ g.ev v) : 0 ≤ g.ev m := by
  obtain ⟨k, α, β, hk, ha, hb, e⟩ := B
  refine rnn_of hk ?_
  rw [e g]
  have := rmul_nn ha h1
  have := rmul_nn hb h2
  grind
theorem btw_right (u v : Pt) : Btw v u v := ⟨1, 0, 1, by decide, by decide, by decide, fun g => by grind⟩
theorem btw_left (u v : Pt) : Btw u u v := ⟨1, 1, 0, by decide, by decide, by decide, fun g => by grind⟩
/-- where f is nought between u and v -/
def cutP (f : Aff) (u v : Pt) : Pt := mk' ((u.X * f.ev v - v.X * f.ev u) / (f.ev v - f.ev u)) ((u.Y * f.ev v - v.Y * f.ev u) / (f.ev v - f.ev u))
theorem mul_neg_ne {a b : Rat} (h : a * b < 0) : b - a ≠ 0 := fun z => by
  have : a = b := by grind
  rw [this] at h
  by_cases q : 0 ≤ b
  · have := rmul_nn q q; grind
  · have := rmul_nn (show 0 ≤ -b by grind) (show 0 ≤ -b by grind); grind
theorem mul_neg_or {a b : Rat} (h : a * b < 0) : (a < 0 ∧ 0 < b) ∨ (0 < a ∧ b < 0) := by
  by_cases p : 0 ≤ a
  · by_cases q : 0 ≤ b
    · have := rmul_nn p q; grind
    · refine .inr ⟨?_, by grind⟩
      refine Rat.not_le.mp fun z => ?_
      have : a = 0 := by grind
      rw [this] at h; grind
  · by_cases q : b ≤ 0
    · have := rmul_nn (show 0 ≤ -a by grind) (show 0 ≤ -b by grind); grind
    · exact .inl ⟨by grind, by grind⟩
theorem cutP_ev {f : Aff} {u v : Pt} (h : f.ev v - f.ev u ≠ 0) (g : Aff) : g.ev (cutP f u v) * (f.ev v - f.ev u) = g.ev u * f.ev v - g.ev v * f.ev u := by
  unfold cutP Aff.ev
  rw [mk_X, mk_Y]
  unfold Aff.ev at h
  grind
theorem cutP_z {f : Aff} {u v : Pt} (h : f.ev u * f.ev v < 0) : f.ev (cutP f u v) = 0 := by
  have n := mul_neg_ne h
  have := cutP_ev n f
  refine rz_of n ?_
  grind
theorem cutP_btw {f : Aff} {u v : Pt} (h : f.ev u * f.ev v < 0) : Btw (cutP f u v) u v := by
  have n := mul_neg_ne h
  rcases mul_neg_or h with ⟨h1, h2⟩ | ⟨h1, h2⟩
  · exact ⟨f.ev v - f.ev u, f.ev v, - f.ev u, by grind, by grind, by grind, fun g => by have := cutP_ev n g; grind⟩
  · exact ⟨f.ev u - f.ev v, - f.ev v, f.ev u, by grind, by grind, by grind, fun g => by have := cutP_ev n g; grind⟩
theorem topOf_app : ∀ (xs : List Pt) (a b : Pt) (ys : List Pt), topOf a (xs ++ b :: ys) = topOf b ys
  | [], _, _, _ => rfl
  | x :: xs, _, b, ys => topOf_app xs x b ys
theorem oc_ins_front {a m : Pt} {l : List Pt} (S : OC (a :: l)) (B : Btw m (topOf a l) a) : OC (m :: a :: l) := by
  intro x y z s
  cases s with
  | cons _ s => exact S x y z s
  | cons_cons _ s =>
    rw [← cr_rot, ← crF_ev]
    refine B.nn _ ?_ ?_
    · rw [crF_ev]
      have hz : z ∈ a :: l := s.subset (by simp)
      by_cases n : z = topOf a l
      · rw [n, cr_abb]; exact Rat.le_refl
      · -- y, z, last
        have s2 : [y, z, topOf a l].Sublist (a :: l) := by
          obtain ⟨xs, ys, e⟩ : ∃ xs ys, a :: l = xs ++ ys ∧ [y].Sublist xs ∧ [z].Sublist ys := by
            obtain ⟨l1, l2, e, h1, h2⟩ := List.append_sublist_iff.mp (show ([y] ++ [z]).Sublist (a :: l) from s)
            exact ⟨l1, l2, e, h1, h2⟩
          cases ys with
          | nil => cases e.2.2
          | cons b ys =>
            have tp : topOf a l = topOf b ys := by
              cases xs with
              | nil => have := e.1; injection this with e1 e2; rw [e1, e2]
              | cons c xs => have := e.1; injection this with e1 e2; rw [e2]; exact topOf_app xs a b ys
            rw [e.1, tp]
            refine List.Sublist.append e.2.1 ?_
            rcases topOf_sub (o := a) (List.singleton_sublist.mp e.2.2) with q | q
            · exact absurd (q.trans tp.symm) n
            · exact q
        exact S _ _ _ s2
    · rw [crF_ev, cr_rot]
      cases s with
      | cons _ s => exact S _ _ _ (List.Sublist.cons_cons _ s)
      | cons_cons _ s => rw [cr_aab]; exact Rat.le_refl
theorem oc_ins {u v m : Pt} {pre l : List Pt} (S : OC (pre ++ u :: v :: l)) (B : Btw m u v) : OC (pre ++ u :: m :: v :: l) := by
  have S1 : OC ((pre ++ [u]) ++ (v :: l)) := by rw [List.append_assoc]; exact S
  have S2 := S1.rot
  have S3 : OC (v :: (l ++ (pre ++ [u]))) := S2
  have S4 := oc_ins_front (m := m) S3 (by
    have : topOf v (l ++ (pre ++ [u])) = u := by rw [← List.append_assoc]; exact topOf_app _ _ _ _
    rw [this]; exact B)
  have S5 : OC ((m :: v :: l) ++ (pre ++ [u])) := S4
  have S6 := S5.rot
  rw [List.append_assoc] at S6
  exact S6
/-- a path with the points at which f is nought -/
def refT (f : Aff) (u : Pt) (l : List Pt) : List Pt := (prs u l).flatMap fun e => (if f.ev e.1 * f.ev e.2 < 0 then [cutP f e.1 e.2] else []) ++ [e.2]
theorem refT_cons (f : Aff) (u v : Pt) (l : List Pt) : refT f u (v :: l) = (if f.ev u * f.ev v < 0 then [cutP f u v] else []) ++ v :: refT f v l := by
  unfold refT
  rw [show prs u (v :: l) = (u, v) :: prs v l from rfl, List.flatMap_cons, List.append_assoc]; rfl
theorem oc_refT (f : Aff) : ∀ (l : List Pt) (a : Pt) (pre : List Pt), OC (pre ++ a :: l) → OC (pre ++ a :: refT f a l)
  | [], a, pre, S => S
  | b :: l, a, pre, S => by
    rw [refT_cons]
    by_cases q : f.ev a * f.ev b < 0
    · rw [if_pos q]
      have S1 := oc_ins S (cutP_btw q)
      have S2 : OC ((pre ++ [a, cutP f a b]) ++ b :: l) := by rw [List.append_assoc]; exact S1
      have S3 := oc_refT f l b _ S2
      rw [List.append_assoc] at S3
      exact S3
    · rw [if_neg q]
      have S2 : OC ((pre ++ [a]) ++ b :: l) := by rw [List.append_assoc]; exact S
      have S3 := oc_refT f l b _ S2
      rw [List.append_assoc] at S3
      exact S3
theorem topOf_refT (f : Aff) : ∀ (l : List Pt) (a : Pt), topOf a (refT f a l) = topOf a l
  | [], _ => rfl
  | b :: l, a => by
    rw [refT_cons]
    by_cases q : f.ev a * f.ev b < 0
    · rw [if_pos q]; exact topOf_refT f l b
    · rw [if_neg q]; exact topOf_refT f l b
/-- a round with the points at which f is nought -/
def refR (f : Aff) : List Pt → List Pt
  | [] => []
  | a :: l => refT f (topOf a l) (a :: l)
theorem oc_refR {f : Aff} {h : List Pt} (S : OC h) : OC (refR f h) := by
  cases h with
  | nil => exact S
  | cons a l =>
    show OC (refT f (topOf a l) (a :: l))
    rw [refT_cons]
    have S1 := oc_refT f l a [] S
    by_cases q : f.ev (topOf a l) * f.ev a < 0
    · rw [if_pos q]
      refine oc_ins_front S1 ?_
      rw [topOf_refT]
      exact cutP_btw q
    · rw [if_neg q]; exact S1
/-- the part of a round where f is not below nought -/
def clip (f : Aff) (h : List Pt) : List Pt := (edg h).flatMap fun e => (if f.ev e.1 * f.ev e.2 < 0 then [cutP f e.1 e.2] else []) ++ (if 0 ≤ f.ev e.2 then [e.2] else [])
theorem clip_filter (f : Aff) (h : List Pt) : clip f h = (refR f h).filter fun p => decide (0 ≤ f.ev p) := by
  cases h with
  | nil => rfl
  | cons a l =>
    show clip f (a :: l) = (refT f (topOf a l) (a :: l)).filter _
    unfold clip edg refT
    rw [List.filter_flatMap]
    congr 1
    funext e
    rw [List.filter_append]
    congr 1
    · by_cases q : f.ev e.1 * f.ev e.2 < 0
      · rw [if_pos q, List.filter_cons, if_pos]
        · rfl
        · rw [decide_eq_true_eq, cutP_z q]; exact Rat.le_refl
      · rw [if_neg q]; rfl
    · by_cases q : 0 ≤ f.ev e.2
      · rw [if_pos q, List.filter_cons, if_pos (decide_eq_true q)]; rfl
      · rw [if_neg q, List.filter_cons, if_neg (by rw [decide_eq_true_eq]; exact q)]; rfl
theorem oc_clip {f : Aff} {h : List Pt} (S : OC h) : OC (clip f h) := by
  rw [clip_filter]
  exact (oc_refR S).sub List.filter_sublist
theorem clip_mem {f : Aff} {h : List Pt} {q : Pt} : q ∈ clip f h ↔ ∃ e ∈ edg h, (f.ev e.1 * f.ev e.2 < 0 ∧ q = cutP f e.1 e.2) ∨ (0 ≤ f.ev e.2 ∧ q = e.2) := by
  unfold clip
  rw [List.mem_flatMap]
  constructor
  · rintro ⟨e, he, hq⟩
    refine ⟨e, he, ?_⟩
    rcases List.mem_append.mp hq with m | m
    · split at m
      · exact .inl ⟨by assumption, List.mem_singleton.mp m⟩
      · cases m
    · split at m
      · exact .inr ⟨by assumption, List.mem_singleton.mp m⟩
      · cases m
  · rintro ⟨e, he, ⟨h1, h2⟩ | ⟨h1, h2⟩⟩
    · exact ⟨e, he, List.mem_append_left _ (by rw [if_pos h1]; exact List.mem_singleton.mpr h2)⟩
    · exact ⟨e, he, List.mem_append_right _ (by rw [if_pos h1]; exact List.mem_singleton.mpr h2)⟩
theorem prs_snd : ∀ (l : List Pt) (a : Pt), (prs a l).map (·.2) = l
  | [], _ => rfl
  | b :: l, a => by show b :: (prs b l).map _ = _; rw [prs_snd l b]
theorem edg_snd (h : List Pt) : (edg h).map (·.2) = h := by
  cases h with
  | nil => rfl
  | cons a l => exact prs_snd (a :: l) (topOf a l)
theorem mem_edg_snd {h : List Pt} {v : Pt} (hv : v ∈ h) : ∃ u, (u, v) ∈ edg h := by
  rw [← edg_snd h] at hv
  obtain ⟨⟨u, w⟩, he, rfl⟩ := List.mem_map.mp hv
  exact ⟨u, he⟩
theorem clip_cl_sub {f : Aff} {h : List Pt} (S : SOC h) {q : Pt} (hq : q ∈ clip f h) : Cl h q ∧ 0 ≤ f.ev q := by
  obtain ⟨⟨u, v⟩, he, ⟨h1, rfl⟩ | ⟨h1, rfl⟩⟩ := clip_mem.mp hq
  · refine ⟨fun e' he' => ?_, by rw [cutP_z h1]; exact Rat.le_refl⟩
    rw [← crF_ev]
    refine (cutP_btw h1).nn _ ?_ ?_
    · rw [crF_ev]; exact S.edge' he' (edg_mem he).1
    · rw [crF_ev]; exact S.edge' he' (edg_mem he).2
  · exact ⟨S.cl (edg_mem he).2, h1⟩
theorem clip_all {f : Aff} {h : List Pt} (k : ∀ q ∈ h, 0 ≤ f.ev q) : clip f h = h := by
  unfold clip
  have : ∀ es : List (Pt × Pt), (∀ e ∈ es, 0 ≤ f.ev e.1 ∧ 0 ≤ f.ev e.2) → (es.flatMap fun e => (if f.ev e.1 * f.ev e.2 < 0 then [cutP f e.1 e.2] else []) ++ (if 0 ≤ f.ev e.2 then [e.2] else [])) = es.map (·.2) := by
    intro es
    induction es with
    | nil => exact fun _ => rfl
    | cons e es ih =>
      intro hh
      obtain ⟨h1, h2⟩ := hh e List.mem_cons_self
      rw [List.flatMap_cons, ih (fun e he => hh e (List.mem_cons_of_mem _ he)), if_neg (by have := rmul_nn h1 h2; grind), if_pos h2]
      rfl
  exact (this _ fun e he => ⟨k _ (edg_mem he).1, k _ (edg_mem he).2⟩).trans (edg_snd h)
theorem clip_neg0 {f : Aff} {h : List Pt} (k : ∀ q ∈ h, f.ev q ≤ 0) : ∀ q ∈ clip f h, q ∈ h ∧ f.ev q = 0 := by
  intro q hq
  obtain ⟨⟨u, v⟩, he, ⟨h1, rfl⟩ | ⟨h1, rfl⟩⟩ := clip_mem.mp hq
  · have k1 := k _ (edg_mem he).1
    have k2 := k _ (edg_mem he).2
    have := rmul_nn (show 0 ≤ - f.ev u by grind) (show 0 ≤ - f.ev v by grind)
    simp only at h1
    grind
  · have := k _ (edg_mem he).2
    exact ⟨(edg_mem he).2, by grind⟩
/-- the value at the crossing of a chord -/
theorem chord {g s : Aff} {n p k1 k2 : Pt} (s1 : s.ev k1 = 0) (s2 : s.ev k2 = 0) (g1 : 0 ≤ g.ev k1) (g2 : 0 ≤ g.ev k2) (hn : s.ev n < 0) (hp : 0 < s.ev p) (d1 : 0 ≤ cr n p k1) (d2 : cr n p k2 ≤ 0) : 0 ≤ g.ev p * (- s.ev n) + g.ev n * s.ev p := by
  have bg := bary g n p k1 k2
  have bs := bary s n p k1 k2
  rw [s1, s2] at bs
  have one : cr k2 p k1 + cr n k2 k1 = cr n p k1 - cr n p k2 := by unfold cr; grind
  have q1 := rmul_nn d1 g2
  have q2 := rmul_nn (show 0 ≤ - cr n p k2 by grind) g1
  -- the two weights
  by_cases b0 : cr n k2 k1 = 0
  · have a0 : cr k2 p k1 = 0 := by
      rw [b0] at bs
      have : s.ev n * cr k2 p k1 = 0 := by grind
      exact rz_of (by grind) this
    have z1 : cr n p k1 = 0 := by grind
    -- k1 on the chord
    have bk := v4 g n p k1 k1
    have hx : ∀ g : Aff, (p.X - n.X) * (g.ev k1 - g.ev n) = (k1.X - n.X) * (g.ev p - g.ev n) := fun g => by unfold cr at z1; unfold Aff.ev; grind
    have hy : ∀ g : Aff, (p.Y - n.Y) * (g.ev k1 - g.ev n) = (k1.Y - n.Y) * (g.ev p - g.ev n) := fun g => by unfold cr at z1; unfold Aff.ev; grind
    have key : (s.ev p - s.ev n) * (g.ev k1 - g.ev n) = (s.ev k1 - s.ev n) * (g.ev p - g.ev n) := by
      have hg := hx g
      have hg' := hy g
      have hs := hx s
      have hs' := hy s
      unfold Aff.ev at *
      grind
    have q3 := rmul_nn (show 0 ≤ s.ev p - s.ev n by grind) g1
    rw [s1] at key
    have e3 : g.ev p * (- s.ev n) + g.ev n * s.ev p = (s.ev p - s.ev n) * g.ev k1 := by grind
    rw [e3]; exact q3
  · have e1 : cr k2 p k1 * (- s.ev n) = cr n k2 k1 * s.ev p := by grind
    have bpos : 0 < cr n k2 k1 := by
      refine Rat.not_le.mp fun z => ?_
      have zn : 0 < - cr n k2 k1 := by grind
      have := rmul_pos zn hp
      have a_neg : cr k2 p k1 < 0 := by
        refine Rat.not_le.mp fun z2 => ?_
        have := rmul_nn z2 (show 0 ≤ - s.ev n by grind)
        grind
      grind
    refine rnn_of bpos ?_
    have q3 := rmul_nn (show 0 ≤ - s.ev n by grind) (show 0 ≤ cr n p k1 * g.ev k2 + - cr n p k2 * g.ev k1 by grind)
    have e2 : cr n k2 k1 * (g.ev p * (- s.ev n) + g.ev n * s.ev p) = (- s.ev n) * (cr n p k1 * g.ev k2 + - cr n p k2 * g.ev k1) := by grind
    rw [e2]; exact q3
end Pt
end Dn

namespace Dn
namespace Pt
/-! ### what a cut holds -/
theorem prs_app : ∀ (xs : List Pt) (a : Pt) (ys : List Pt), prs a (xs ++ ys) = prs a xs ++ prs (topOf a xs) ys
  | [], _, _ => rfl
  | x :: xs, a, ys => by show (a, x) :: prs x (xs ++ ys) = (a, x) :: prs x xs ++ _; rw [prs_app xs x ys]; rfl
theorem edg_rot {xs ys : List Pt} {e : Pt × Pt} (h : e ∈ edg (xs ++ ys)) : e ∈ edg (ys ++ xs) := by
  cases xs with
  | nil => simpa using h
  | cons a xs =>
    cases ys with
    | nil => simpa using h
    | cons b ys =>
      have e1 : edg (a :: xs ++ b :: ys) = prs (topOf b ys) (a :: xs) ++ prs (topOf a xs) (b :: ys) := by
        show prs (topOf a (xs ++ b :: ys)) (a :: xs ++ b :: ys) = _
        rw [topOf_app, prs_app]; rfl
      have e2 : edg (b :: ys ++ a :: xs) = prs (topOf a xs) (b :: ys) ++ prs (topOf b ys) (a :: xs) := by
        show prs (topOf b (ys ++ a :: xs)) (b :: ys ++ a :: xs) = _
        rw [topOf_app, prs_app]; rfl
      rw [e1] at h
      rw [e2]
      rcases List.mem_append.mp h with m | m
      · exact List.mem_append_right _ m
      · exact List.mem_append_left _ m
theorem topOf_snoc : ∀ (xs : List Pt) (a b : Pt), topOf a (xs ++ [b]) = b
  | [], _, _ => rfl
  | x :: xs, _, b => topOf_snoc xs x b
/-- on a way from above nought to below it, there is a step down -/
theorem walk (f : Aff) : ∀ (l : List Pt) (p : Pt), 0 < f.ev p → f.ev (topOf p l) < 0 → ∃ u v, (u, v) ∈ prs p l ∧ 0 < f.ev u ∧ f.ev v ≤ 0
  | [], p, h1, h2 => by exfalso; have h2 : f.ev p < 0 := h2; grind
  | b :: l, p, h1, h2 => by
    by_cases q : f.ev b ≤ 0
    · exact ⟨p, b, List.mem_cons_self, h1, q⟩
    · obtain ⟨u, v, m, k⟩ := walk f l b (by grind) h2
      exact ⟨u, v, List.mem_cons_of_mem _ m, k⟩
theorem walk' (f : Aff) : ∀ (l : List Pt) (p : Pt), f.ev p < 0 → 0 < f.ev (topOf p l) → ∃ u v, (u, v) ∈ prs p l ∧ f.ev u < 0 ∧ 0 ≤ f.ev v
  | [], p, h1, h2 => by exfalso; have h2 : 0 < f.ev p := h2; grind
  | b :: l, p, h1, h2 => by
    by_cases q : 0 ≤ f.ev b
    · exact ⟨p, b, List.mem_cons_self, h1, q⟩
    · obtain ⟨u, v, m, k⟩ := walk' f l b (by grind) h2
      exact ⟨u, v, List.mem_cons_of_mem _ m, k⟩
theorem snoc_sub {xs : List Pt} {u n : Pt} (h : u ∈ xs ++ [n]) (ne : u ≠ n) : [u, n].Sublist (xs ++ [n]) := by
  rcases List.mem_append.mp h with m | m
  · exact List.Sublist.append (List.singleton_sublist.mpr m) (List.Sublist.refl _)
  · exact absurd (List.mem_singleton.mp m) ne
/-- between two corners of other signs f is nought on the left and on the right of their chord -/
theorem side_cut {f : Aff} {p n : Pt} {A B : List Pt} (S : OC (p :: (A ++ n :: B))) (hp : 0 < f.ev p) (hn : f.ev n < 0) : ∃ k1, k1 ∈ clip f (p :: (A ++ n :: B)) ∧ f.ev k1 = 0 ∧ 0 ≤ cr n p k1 := by
  obtain ⟨u, v, m, hu, hv⟩ := walk f (A ++ [n]) p hp (by rw [topOf_snoc]; exact hn)
  have me : (u, v) ∈ edg (p :: (A ++ n :: B)) := by
    refine List.mem_cons_of_mem _ ?_
    rw [show A ++ n :: B = (A ++ [n]) ++ B by simp, prs_app]
    exact List.mem_append_left _ m
  have mm := prs_mem m
  -- in order
  have ord : ∀ w, w ∈ p :: (A ++ [n]) → 0 ≤ cr n p w := by
    intro w hw
    rw [← cr_rot n p w]
    by_cases c1 : w = p
    · rw [c1, cr_aab]; exact Rat.le_refl
    · by_cases c2 : w = n
      · rw [c2, cr_abb]; exact Rat.le_refl
      · have hw' : w ∈ A ++ [n] := by
          rcases List.mem_cons.mp hw with z | z
          · exact absurd z c1
          · exact z
        refine S p w n (List.Sublist.cons_cons _ ((snoc_sub hw' c2).trans ?_))
        rw [show A ++ n :: B = (A ++ [n]) ++ B by simp]
        exact List.sublist_append_left _ _
  by_cases z : f.ev v = 0
  · exact ⟨v, clip_mem.mpr ⟨(u, v), me, .inr ⟨by simp only; grind, rfl⟩⟩, z, ord v (List.mem_cons_of_mem _ mm.2)⟩
  · have neg : f.ev u * f.ev v < 0 := by have := rmul_pos hu (show 0 < - f.ev v by grind); grind
    refine ⟨cutP f u v, clip_mem.mpr ⟨(u, v), me, .inl ⟨neg, rfl⟩⟩, cutP_z neg, ?_⟩
    rw [← crF_ev]
    refine (cutP_btw neg).nn _ ?_ ?_
    · rw [crF_ev]; exact ord u mm.1
    · rw [crF_ev]; exact ord v (List.mem_cons_of_mem _ mm.2)
theorem side_cut' {f : Aff} {p n : Pt} {A B : List Pt} (S : OC (p :: (A ++ n :: B))) (hp : f.ev p < 0) (hn : 0 < f.ev n) : ∃ k1, k1 ∈ clip f (p :: (A ++ n :: B)) ∧ f.ev k1 = 0 ∧ 0 ≤ cr n p k1 := by
  obtain ⟨u, v, m, hu, hv⟩ := walk' f (A ++ [n]) p hp (by rw [topOf_snoc]; exact hn)
  have me : (u, v) ∈ edg (p :: (A ++ n :: B)) := by
    refine List.mem_cons_of_mem _ ?_
    rw [show A ++ n :: B = (A ++ [n]) ++ B by simp, prs_app]
    exact List.mem_append_left _ m
  have mm := prs_mem m
  have ord : ∀ w, w ∈ p :: (A ++ [n]) → 0 ≤ cr n p w := by
    intro w hw
    rw [← cr_rot n p w]
    by_cases c1 : w = p
    · rw [c1, cr_aab]; exact Rat.le_refl
    · by_cases c2 : w = n
      · rw [c2, cr_abb]; exact Rat.le_refl
      · have hw' : w ∈ A ++ [n] := by
          rcases List.mem_cons.mp hw with z | z
          · exact absurd z c1
          · exact z
        refine S p w n (List.Sublist.cons_cons _ ((snoc_sub hw' c2).trans ?_))
        rw [show A ++ n :: B = (A ++ [n]) ++ B by simp]
        exact List.sublist_append_left _ _
  by_cases z : f.ev v = 0
  · exact ⟨v, clip_mem.mpr ⟨(u, v), me, .inr ⟨by simp only; grind, rfl⟩⟩, z, ord v (List.mem_cons_of_mem _ mm.2)⟩
  · have neg : f.ev u * f.ev v < 0 := by have := rmul_pos (show 0 < - f.ev u by grind) (show 0 < f.ev v by grind); grind
    refine ⟨cutP f u v, clip_mem.mpr ⟨(u, v), me, .inl ⟨neg, rfl⟩⟩, cutP_z neg, ?_⟩
    rw [← crF_ev]
    refine (cutP_btw neg).nn _ ?_ ?_
    · rw [crF_ev]; exact ord u mm.1
    · rw [crF_ev]; exact ord v (List.mem_cons_of_mem _ mm.2)
theorem clip_rot {f : Aff} {xs ys : List Pt} {q : Pt} (h : q ∈ clip f (xs ++ ys)) : q ∈ clip f (ys ++ xs) := by
  obtain ⟨e, he, k⟩ := clip_mem.mp h
  exact clip_mem.mpr ⟨e, edg_rot he, k⟩
theorem chord_in {f g : Aff} {h : List Pt} (S : OC h) (hg : ∀ q ∈ clip f h, 0 ≤ g.ev q) {n p : Pt} (mn : n ∈ h) (mp : p ∈ h) (hn : f.ev n < 0) (hp : 0 < f.ev p) : 0 ≤ g.ev p * (- f.ev n) + g.ev n * f.ev p := by
  obtain ⟨xs, ys, rfl⟩ := List.append_of_mem mp
  have S1 : OC (p :: (ys ++ xs)) := S.rot
  have mn' : n ∈ ys ++ xs := by
    rcases List.mem_append.mp mn with m | m
    · exact List.mem_append_right _ m
    · rcases List.mem_cons.mp m with m | m
      · rw [m] at hn; exact absurd hn (by grind)
      · exact List.mem_append_left _ m
  obtain ⟨A, B, eAB⟩ := List.append_of_mem mn'
  have tr : ∀ q, q ∈ clip f (p :: (A ++ n :: B)) → 0 ≤ g.ev q := fun q hq => by
    refine hg q (clip_rot (xs := p :: ys) (ys := xs) ?_)
    rw [List.cons_append, eAB]; exact hq
  rw [eAB] at S1
  obtain ⟨k1, m1, z1, c1⟩ := side_cut S1 hp hn
  have S2 : OC (n :: (B ++ p :: A)) := by
    have : OC ((p :: A) ++ (n :: B)) := S1
    exact this.rot
  obtain ⟨k2, m2, z2, c2⟩ := side_cut' S2 hn hp
  have m2' : k2 ∈ clip f (p :: (A ++ n :: B)) := clip_rot (xs := n :: B) (ys := p :: A) m2
  refine chord z1 z2 (tr k1 m1) (tr k2 m2') hn hp c1 ?_
  rw [cr_swap'] at c2
  grind
/-- three weights -/
theorem three1 {a b c s1 s2 s3 g1 g2 g3 : Rat} (ha : 0 ≤ a) (hb : 0 ≤ b) (hc : 0 ≤ c) (n1 : s1 < 0) (n2 : 0 ≤ s2) (n3 : 0 ≤ s3) (e2 : 0 ≤ g2) (e3 : 0 ≤ g3) (x2 : 0 < s2 → 0 ≤ g2 * (-s1) + g1 * s2) (x3 : 0 < s3 → 0 ≤ g3 * (-s1) + g1 * s3) (hs : 0 ≤ a * s1 + b * s2 + c * s3) : 0 ≤ a * g1 + b * g2 + c * g3 := by
  have y2 : 0 ≤ g2 * (-s1) + g1 * s2 := by
    by_cases q : 0 < s2
    · exact x2 q
    · have : s2 = 0 := by grind
      rw [this]; have := rmul_nn e2 (show 0 ≤ -s1 by grind); grind
  have y3 : 0 ≤ g3 * (-s1) + g1 * s3 := by
    by_cases q : 0 < s3
    · exact x3 q
    · have : s3 = 0 := by grind
      rw [this]; have := rmul_nn e3 (show 0 ≤ -s1 by grind); grind
  by_cases q : 0 ≤ g1
  · have := rmul_nn ha q
    have := rmul_nn hb e2
    have := rmul_nn hc e3
    grind
  · refine rnn_of (show 0 < -s1 by grind) ?_
    have w1 := rmul_nn hb y2
    have w2 := rmul_nn hc y3
    have w3 := rmul_nn hs (show 0 ≤ -g1 by grind)
    grind
theorem three2 {a b c s1 s2 s3 g1 g2 g3 : Rat} (ha : 0 ≤ a) (hb : 0 ≤ b) (hc : 0 ≤ c) (n1 : s1 < 0) (n2 : s2 < 0) (n3 : 0 ≤ s3) (e3 : 0 ≤ g3) (x1 : 0 < s3 → 0 ≤ g3 * (-s1) + g1 * s3) (x2 : 0 < s3 → 0 ≤ g3 * (-s2) + g2 * s3) (hs : 0 ≤ a * s1 + b * s2 + c * s3) : 0 ≤ a * g1 + b * g2 + c * g3 := by
  have p1 := rmul_nn ha (show 0 ≤ -s1 by grind)
  have p2 := rmul_nn hb (show 0 ≤ -s2 by grind)
  by_cases q : 0 < s3
  · refine rnn_of q ?_
    have w1 := rmul_nn ha (x1 q)
    have w2 := rmul_nn hb (x2 q)
    have w3 := rmul_nn hs e3
    grind
  · have z3 : s3 = 0 := by grind
    rw [z3] at hs
    have z1 : a * s1 = 0 := by grind
    have z2 : b * s2 = 0 := by grind
    have a0 : a = 0 := rz_of (show s1 ≠ 0 by grind) (by grind)
    have b0 : b = 0 := rz_of (show s2 ≠ 0 by grind) (by grind)
    rw [a0, b0]
    have := rmul_nn hc e3
    grind
theorem three {a b c s1 s2 s3 g1 g2 g3 : Rat} (ha : 0 ≤ a) (hb : 0 ≤ b) (hc : 0 ≤ c) (e1 : 0 ≤ s1 → 0 ≤ g1) (e2 : 0 ≤ s2 → 0 ≤ g2) (e3 : 0 ≤ s3 → 0 ≤ g3)
    (x12 : s1 < 0 → 0 < s2 → 0 ≤ g2 * (-s1) + g1 * s2) (x13 : s1 < 0 → 0 < s3 → 0 ≤ g3 * (-s1) + g1 * s3) (x21 : s2 < 0 → 0 < s1 → 0 ≤ g1 * (-s2) + g2 * s1) (x23 : s2 < 0 → 0 < s3 → 0 ≤ g3 * (-s2) + g2 * s3) (x31 : s3 < 0 → 0 < s1 → 0 ≤ g1 * (-s3) + g3 * s1) (x32 : s3 < 0 → 0 < s2 → 0 ≤ g2 * (-s3) + g3 * s2)
    (hs : 0 ≤ a * s1 + b * s2 + c * s3) : 0 ≤ a * g1 + b * g2 + c * g3 := by
  by_cases q1 : 0 ≤ s1
  · by_cases q2 : 0 ≤ s2
    · by_cases q3 : 0 ≤ s3
      · have := rmul_nn ha (e1 q1)
        have := rmul_nn hb (e2 q2)
        have := rmul_nn hc (e3 q3)
        grind
      · have := three1 hc ha hb (by grind) q1 q2 (e1 q1) (e2 q2) (x31 (by grind)) (x32 (by grind)) (by grind)
        grind
    · by_cases q3 : 0 ≤ s3
      · have := three1 hb ha hc (by grind) q1 q3 (e1 q1) (e3 q3) (x21 (by grind)) (x23 (by grind)) (by grind)
        grind
      · have := three2 hb hc ha (by grind) (by grind) q1 (e1 q1) (x21 (by grind)) (x31 (by grind)) (by grind)
        grind
  · by_cases q2 : 0 ≤ s2
    · by_cases q3 : 0 ≤ s3
      · exact three1 ha hb hc (by grind) q2 q3 (e2 q2) (e3 q3) (x12 (by grind)) (x13 (by grind)) hs
      · have := three2 ha hc hb (by grind) (by grind) q2 (e2 q2) (x12 (by grind)) (x32 (by grind)) (by grind)
        grind
    · by_cases q3 : 0 ≤ s3
      · exact three2 ha hb hc (by grind) (by grind) q3 (e3 q3) (x13 (by grind)) (x23 (by grind)) hs
      · have p1 := rmul_nn ha (show 0 ≤ -s1 by grind)
        have p2 := rmul_nn hb (show 0 ≤ -s2 by grind)
        have p3 := rmul_nn hc (show 0 ≤ -s3 by grind)
        have a0 : a = 0 := rz_of (show s1 ≠ 0 by grind) (by grind)
        have b0 : b = 0 := rz_of (show s2 ≠ 0 by grind) (by grind)
        have c0 : c = 0 := rz_of (show s3 ≠ 0 by grind) (by grind)
        rw [a0, b0, c0]; grind
/-- what is not below nought at the points of a cut is not below nought at what it holds -/
theorem clip_aff {f g : Aff} {h : List Pt} (n3 : 3 ≤ h.length) (S : SOC h) (hg : ∀ q ∈ clip f h, 0 ≤ g.ev q) {z : Pt} (k : Cl h z) (fz : 0 ≤ f.ev z) : 0 ≤ g.ev z := by
  obtain ⟨o, u, v, s, h1, h2, h3⟩ := Cl.tri n3 k
  have hp := S o u v s
  have bg := bary g o u v z
  have bf := bary f o u v z
  have mo : o ∈ h := s.subset (by simp)
  have mu : u ∈ h := s.subset (by simp)
  have mv : v ∈ h := s.subset (by simp)
  have e1 : cr z u v = cr u v z := (cr_rot z u v).symm
  have e2 : cr o z v = cr v o z := (cr_rot2 o z v).symm
  rw [e1, e2] at bg bf
  have nn : ∀ q ∈ h, 0 ≤ f.ev q → 0 ≤ g.ev q := fun q hq h0 => by
    obtain ⟨w, he⟩ := mem_edg_snd hq
    exact hg q (clip_mem.mpr ⟨(w, q), he, .inr ⟨h0, rfl⟩⟩)
  have ch : ∀ n p, n ∈ h → p ∈ h → f.ev n < 0 → 0 < f.ev p → 0 ≤ g.ev p * (- f.ev n) + g.ev n * f.ev p := fun n p mn mp => chord_in S.oc hg mn mp
  refine rnn_of hp ?_
  rw [bg]
  refine three (s1 := f.ev o) (s2 := f.ev u) (s3 := f.ev v) h2 h3 h1 (nn o mo) (nn u mu) (nn v mv) (ch o u mo mu) (ch o v mo mv) (ch u o mu mo) (ch u v mu mv) (ch v o mv mo) (ch v u mv mu) ?_
  rw [← bf]
  exact rmul_nn (Rat.le_of_lt hp) fz
/-- what the part of a round holds -/
theorem clip_cl {f : Aff} {h k : List Pt} (n3 : 3 ≤ h.length) (S : SOC h) (e : hull (clip f h) = some k) (z : Pt) : Cl k z ↔ Cl h z ∧ 0 ≤ f.ev z := by
  have H := hull_ok e
  have C := H.poly.cp
  constructor
  · intro kz
    refine ⟨fun e' he => ?_, ?_⟩
    · rw [← crF_ev]
      refine Cl.aff C.n3 C.soc kz _ fun q hq => ?_
      rw [crF_ev]
      exact (clip_cl_sub S (H.mem q hq)).1 e' he
    · exact Cl.aff C.n3 C.soc kz _ fun q hq => (clip_cl_sub S (H.mem q hq)).2
  · rintro ⟨h1, h2⟩ e' he
    rw [← crF_ev]
    refine clip_aff n3 S (fun q hq => ?_) h1 h2
    rw [crF_ev]
    exact H.cl q hq e' he
/-- a line with all of a flat list -/
theorem flat_line {L : List Pt} (F : Flat L) (a0 b0 : Pt) (n0 : a0 ≠ b0) : ∃ a b, a ≠ b ∧ ∀ q ∈ L, cr a b q = 0 := by
  cases L with
  | nil => exact ⟨a0, b0, n0, fun q hq => by cases hq⟩
  | cons a L =>
    by_cases q : ∃ b ∈ L, b ≠ a
    · obtain ⟨b, hb, n⟩ := q
      exact ⟨a, b, fun z => n z.symm, fun q hq => F a List.mem_cons_self b (List.mem_cons_of_mem _ hb) q hq⟩
    · have all : ∀ w ∈ a :: L, w = a := fun w hw => by
        rcases List.mem_cons.mp hw with z | z
        · exact z
        · exact Classical.byContradiction fun n => q ⟨w, z, n⟩
      by_cases n : a = a0
      · exact ⟨a, b0, fun z => n0 (n.symm.trans z), fun q hq => by rw [all q hq, cr_aba]⟩
      · exact ⟨a, a0, n, fun q hq => by rw [all q hq, cr_aba]⟩
/-- nothing is left: nothing is there -/
theorem clip_none {f : Aff} {h : List Pt} (n3 : 3 ≤ h.length) (S : SOC h) (e : hull (clip f h) = none) : ∀ z, Cl h z → f.ev z ≤ 0 := by
  have F := hull_none e
  have key : ∀ p ∈ h, f.ev p ≤ 0 := by
    intro p mp
    refine Rat.not_lt.mp fun fp => ?_
    match h, n3, S, F, mp, e with
    | c0 :: c1 :: c2 :: l, n3, S, F, mp, e =>
      have s3 : 0 < cr c0 c1 c2 := S c0 c1 c2 (List.Sublist.cons_cons _ (List.Sublist.cons_cons _ (List.Sublist.cons_cons _ (List.nil_sublist l))))
      have ne := S.ne (a := c0) (b := c1) (c := c2) (List.Sublist.cons_cons _ (List.Sublist.cons_cons _ (List.Sublist.cons_cons _ (List.nil_sublist l))))
      obtain ⟨a, b, ab, hl⟩ := flat_line F c0 c1 ne.1
      have zero : ∀ z, Cl (c0 :: c1 :: c2 :: l) z → 0 ≤ f.ev z → cr a b z = 0 := fun z kz fz => by
        have g1 := clip_aff (g := crF a b) n3 S (fun q hq => by rw [crF_ev, hl q hq]; exact Rat.le_refl) kz fz
        have g2 := clip_aff (g := crF b a) n3 S (fun q hq => by rw [crF_ev, cr_swap', hl q hq]; exact (by decide : (0:Rat) ≤ -0)) kz fz
        rw [crF_ev] at g1 g2
        rw [cr_swap'] at g2
        grind
      have pz := zero p (S.cl mp) (Rat.le_of_lt fp)
      have all : ∀ q ∈ c0 :: c1 :: c2 :: l, cr a b q = 0 := fun q hq => by
        by_cases fq : 0 ≤ f.ev q
        · exact zero q (S.cl hq) fq
        · -- the point on the way to q at which f is nought
          have neg : f.ev p * f.ev q < 0 := by have := rmul_pos fp (show 0 < - f.ev q by grind); grind
          have cm : Cl (c0 :: c1 :: c2 :: l) (cutP f p q) := fun e he => by
            rw [← crF_ev]
            refine (cutP_btw neg).nn _ ?_ ?_
            · rw [crF_ev]; exact S.edge' he mp
            · rw [crF_ev]; exact S.edge' he hq
          have mz := zero _ cm (by rw [cutP_z neg]; exact Rat.le_refl)
          have ev := cutP_ev (mul_neg_ne neg) (crF a b)
          rw [crF_ev, crF_ev, crF_ev, mz, pz] at ev
          refine rz_of (show f.ev p ≠ 0 by grind) ?_
          grind
      have := col ab (all c0 (by simp)) (all c1 (by simp)) (all c2 (by simp))
      grind
  intro z kz
  have := Cl.aff n3 S kz ⟨-f.a, -f.b, -f.c⟩ (fun q hq => by
    have := key q hq
    unfold Aff.ev at *; grind)
  unfold Aff.ev at *
  grind
end Pt
end Dn

namespace Dn
namespace Pt
/-! ### the corners of a round that may have flat points -/
/-- neighbours differ -/
def ND (K : List Pt) : Prop := ∀ e ∈ edg K, e.1 ≠ e.2
theorem ND.rot {xs ys : List Pt} (h : ND (xs ++ ys)) : ND (ys ++ xs) := fun e he => h e (edg_rot he)
/-- at the front: a corner of the hull is a point at which the round turns -/
theorem front_iff {v g : Pt} {r h : List Pt} (hr : r ≠ []) (S : OC (v :: g :: r)) (N : ND (v :: g :: r)) (C : CP h) (sub : ∀ q ∈ h, q ∈ v :: g :: r) (cl : ∀ q ∈ v :: g :: r, Cl h q) : cr (topOf g r) v g ≠ 0 ↔ v ∈ h := by
  have cone := oc_cone S
  constructor
  · intro u
    exact tip_mem C.n3 C.soc (cl v List.mem_cons_self) (fun q hq => cone q (sub q hq)) u
  · intro hv z
    obtain ⟨d', g', m1, m2, u, w⟩ := soc_tip C.n3 C.soc hv
    have up : ∀ q ∈ v :: g :: r, 0 ≤ cr d' v q ∧ 0 ≤ cr v g' q := fun q hq => by
      have f1 := Cl.aff C.n3 C.soc (cl q hq) (crF d' v) (fun y hy => by rw [crF_ev]; exact (w y hy).1)
      have f2 := Cl.aff C.n3 C.soc (cl q hq) (crF v g') (fun y hy => by rw [crF_ev]; exact (w y hy).2)
      rw [crF_ev] at f1 f2
      exact ⟨f1, f2⟩
    -- the two neighbours
    have md : topOf g r ∈ v :: g :: r := List.mem_cons_of_mem _ (topOf_mem r g)
    have n1 : topOf g r ≠ v := N (topOf g r, v) List.mem_cons_self
    have n2 : v ≠ g := N (v, g) (List.mem_cons_of_mem _ List.mem_cons_self)
    generalize topOf g r = d at *
    let f : Aff := ⟨(crF d' v).a + (crF v g').a, (crF d' v).b + (crF v g').b, (crF d' v).c + (crF v g').c⟩
    have fe : ∀ z : Pt, f.ev z = cr d' v z + cr v g' z := fun z => by
      rw [← crF_ev, ← crF_ev]; show (Aff.mk _ _ _).ev z = _; unfold Aff.ev; grind
    have fv : f.ev v = 0 := by rw [fe, cr_abb, cr_aba]; grind
    have fpos : ∀ q ∈ v :: g :: r, q ≠ v → 0 < f.ev q := fun q hq nq => by
      rw [fe]
      obtain ⟨h1, h2⟩ := up q hq
      refine Rat.not_le.mp fun y => nq ?_
      have z1 : cr d' v q = 0 := by grind
      have z2 : cr v g' q = 0 := by grind
      have un : cr d' v g' ≠ 0 := by grind
      have x1 : cr d' v g' * (q.X - v.X) = 0 := by unfold cr at *; grind
      have x2 : cr d' v g' * (q.Y - v.Y) = 0 := by unfold cr at *; grind
      have y1 := rz_of un x1
      have y2 := rz_of un x2
      exact XY (by grind) (by grind)
    have fd := fpos d md n1
    have fg := fpos g (by simp) (fun z => n2 z.symm)
    have flat : ∀ c ∈ v :: g :: r, cr v g c = 0 := fun c hc => by
      obtain ⟨c1, c2⟩ := cone c hc
      have k := v4 f v d g c
      have e1 : cr v d g = 0 := by rw [cr_swap', z]; rfl
      have e2 : cr v d c = - cr d v c := cr_swap' d v c
      rw [e1, e2, fv] at k
      have q1 := rmul_nn (Rat.le_of_lt fg) c1
      have q2 := rmul_nn (Rat.le_of_lt fd) c2
      refine rz_of (show f.ev d ≠ 0 by grind) ?_
      grind
    match h, C.n3, C, sub with
    | a :: b :: e :: l, _, C, sub =>
      have := C.soc a b e (List.Sublist.cons_cons _ (List.Sublist.cons_cons _ (List.Sublist.cons_cons _ (List.nil_sublist l))))
      rw [col n2 (flat a (sub a (by simp))) (flat b (sub b (by simp))) (flat e (sub e (by simp)))] at this
      exact absurd this (by decide)
/-- a corner stands once -/
theorem front_once {v g : Pt} {r h : List Pt} (hr : r ≠ []) (S : OC (v :: g :: r)) (N : ND (v :: g :: r)) (C : CP h) (sub : ∀ q ∈ h, q ∈ v :: g :: r) (cl : ∀ q ∈ v :: g :: r, Cl h q) (hv : v ∈ h) : v ∉ g :: r := by
  have st := (front_iff hr S N C sub cl).mpr hv
  have n1 : topOf g r ≠ v := N (topOf g r, v) List.mem_cons_self
  have n2 : v ≠ g := N (v, g) (List.mem_cons_of_mem _ List.mem_cons_self)
  have pos := (oc_cone S g (by simp)).1
  intro m
  rcases List.mem_cons.mp m with z | z
  · exact n2 z
  · have s : [v, topOf g r].Sublist r := by
      cases r with
      | nil => exact absurd rfl hr
      | cons b r =>
        rcases topOf_sub (o := v) z with y | y
        · exact absurd y.symm n1
        · exact y
    have := S g v (topOf g r) (List.Sublist.cons _ (List.Sublist.cons_cons _ s))
    rw [cr_rev] at this
    grind
/-- the corners among the points of a round, in order -/
theorem filter_corners {K h : List Pt} (n3 : 3 ≤ K.length) (S : OC K) (N : ND K) (C : CP h) (sub : ∀ q ∈ h, q ∈ K) (cl : ∀ q ∈ K, Cl h q) : SOC (K.filter fun q => decide (q ∈ h)) ∧ (K.filter fun q => decide (q ∈ h)).Nodup := by
  have nd : (K.filter fun q => decide (q ∈ h)).Nodup := by
    rw [List.nodup_iff_pairwise_ne, List.pairwise_iff_forall_sublist]
    intro a b s
    rintro rfl
    have ma : a ∈ h := by
      have := s.subset (List.mem_cons_self)
      exact of_decide_eq_true (List.mem_filter.mp this).2
    have s2 := s.trans List.filter_sublist
    obtain ⟨xs, ys, e, h1, h2⟩ := List.append_sublist_iff.mp (show ([a] ++ [a]).Sublist K from s2)
    have m1 := List.singleton_sublist.mp h1
    have m2 := List.singleton_sublist.mp h2
    obtain ⟨p, q, rfl⟩ := List.append_of_mem m1
    have e : K = p ++ a :: (q ++ ys) := by rw [e]; simp
    rw [e] at S N sub cl n3
    have S1 : OC (a :: ((q ++ ys) ++ p)) := S.rot
    have N1 : ND (a :: ((q ++ ys) ++ p)) := N.rot
    have am : a ∈ (q ++ ys) ++ p := by simp [m2]
    have sw : ∀ w, w ∈ p ++ a :: (q ++ ys) ↔ w ∈ a :: ((q ++ ys) ++ p) := fun w => by simp only [List.mem_append, List.mem_cons]; grind
    have len : ((q ++ ys) ++ p).length = (p ++ a :: (q ++ ys)).length - 1 := by simp; omega
    generalize (q ++ ys) ++ p = r at *
    match r, len, S1, N1, am, sw with
    | [], _, _, _, am, _ => cases am
    | [g], len, _, _, _, _ => simp only [List.length_singleton] at len; omega
    | g :: b :: r, _, S1, N1, am, sw =>
      exact front_once (by simp) S1 N1 C (fun q hq => (sw q).mp (sub q hq)) (fun q hq => cl q ((sw q).mpr hq)) ma am
  refine ⟨fun a b c s => ?_, nd⟩
  have s2 := s.trans List.filter_sublist
  have ge := S a b c s2
  have mm : ∀ q ∈ [a, b, c], q ∈ h := fun q hq => of_decide_eq_true (List.mem_filter.mp (s.subset hq)).2
  have n3' := List.Nodup.sublist s nd
  have d1 : a ≠ b := by simp at n3'; exact n3'.1.1
  have d2 : a ≠ c := by simp at n3'; exact n3'.1.2
  have d3 : b ≠ c := by simp at n3'; exact n3'.2
  refine Rat.lt_of_le_of_ne ge fun z => ?_
  have z := z.symm
  -- three different corners turn
  obtain ⟨r, S', me, _⟩ := soc_front C.soc (mm a (by simp))
  have mb : b ∈ r := by
    rcases List.mem_cons.mp ((me b).mpr (mm b (by simp))) with y | y
    · exact absurd y.symm d1
    · exact y
  have mc : c ∈ r := by
    rcases List.mem_cons.mp ((me c).mpr (mm c (by simp))) with y | y
    · exact absurd y.symm d2
    · exact y
  have two : ∀ {l : List Pt} {x y : Pt}, x ∈ l → y ∈ l → x ≠ y → [x, y].Sublist l ∨ [y, x].Sublist l := by
    intro l
    induction l with
    | nil => exact fun h => by cases h
    | cons w l ih =>
      intro x y hx hy n
      rcases List.mem_cons.mp hx with rfl | hx'
      · rcases List.mem_cons.mp hy with rfl | hy'
        · exact absurd rfl n
        · exact .inl (List.Sublist.cons_cons _ (List.singleton_sublist.mpr hy'))
      · rcases List.mem_cons.mp hy with rfl | hy'
        · exact .inr (List.Sublist.cons_cons _ (List.singleton_sublist.mpr hx'))
        · rcases ih hx' hy' n with q | q
          · exact .inl (q.cons _)
          · exact .inr (q.cons _)
  rcases two mb mc d3 with q | q
  · have := S' a b c (List.Sublist.cons_cons _ q); grind
  · have := S' a c b (List.Sublist.cons_cons _ q)
    rw [cr_swap] at this; grind
/-! ### the first corner to the front -/
/-- turned so that the corner before all others is the first one -/
structure Ttf (C R : List Pt) : Prop where
  ex : ∃ xs ys, C = xs ++ ys ∧ R = ys ++ xs
  fst : ∀ a, R.head? = some a → ∀ q ∈ R, q ≠ a → lt a q
theorem Ttf.cp {C R : List Pt} (T : Ttf C R) (n3 : 3 ≤ C.length) (S : SOC C) : CP R ∧ ∀ q, q ∈ R ↔ q ∈ C := by
  obtain ⟨xs, ys, rfl, rfl⟩ := T.ex
  refine ⟨⟨by simp only [List.length_append] at *; omega, S.rot, T.fst⟩, fun q => by simp only [List.mem_append]; exact or_comm⟩
/-- the corners of a round, turned to the first one, are the hull -/
theorem corners_hull {K h R : List Pt} (n3 : 3 ≤ K.length) (S : OC K) (N : ND K) (e : hull K = some h) (T : Ttf (K.filter fun q => decide (q ∈ h)) R) : R = h := by
  have H := hull_ok e
  have C := H.poly.cp
  obtain ⟨S', nd⟩ := filter_corners n3 S N C H.mem H.cl
  have me : ∀ q, q ∈ (K.filter fun q => decide (q ∈ h)) ↔ q ∈ h := fun q => by
    rw [List.mem_filter]
    exact ⟨fun z => of_decide_eq_true z.2, fun z => ⟨H.mem q z, decide_eq_true z⟩⟩
  have len : 3 ≤ (K.filter fun q => decide (q ∈ h)).length := by
    have p : (K.filter fun q => decide (q ∈ h)).Perm h := (List.perm_ext_iff_of_nodup nd (C.soc.nodup C.n3)).mpr me
    rw [p.length_eq]; exact C.n3
  obtain ⟨c, m⟩ := T.cp len S'
  exact c.uniq C fun q => (m q).trans (me q)
end Pt
end Dn

namespace Dn
namespace Pt
/-! ### areas -/
def crs (p q : Pt) : Rat := p.X * q.Y - p.Y * q.X
def sumR : List Rat → Rat
  | [] => 0
  | a :: l => a + sumR l
theorem sumR_app : ∀ xs ys : List Rat, sumR (xs ++ ys) = sumR xs + sumR ys
  | [], ys => by show _ = 0 + _; grind
  | x :: xs, ys => by show x + sumR (xs ++ ys) = x + sumR xs + sumR ys; rw [sumR_app xs ys]; grind
/-- along a way -/
def ps (a : Pt) (l : List Pt) : Rat := sumR ((prs a l).map fun e => crs e.1 e.2)
theorem ps_nil (a : Pt) : ps a [] = 0 := rfl
theorem ps_cons (a b : Pt) (l : List Pt) : ps a (b :: l) = crs a b + ps b l := rfl
theorem ps_app (a : Pt) (xs ys : List Pt) : ps a (xs ++ ys) = ps a xs + ps (topOf a xs) ys := by
  unfold ps; rw [prs_app, List.map_append, sumR_app]
/-- twice the area of a round -/
def ar (h : List Pt) : Rat := sumR ((edg h).map fun e => crs e.1 e.2)
theorem ar_cons (a : Pt) (l : List Pt) : ar (a :: l) = ps a (l ++ [a]) := by
  show ps (topOf a l) (a :: l) = _
  rw [ps_cons, ps_app, ps_cons, ps_nil]; grind
theorem ar_rot (xs ys : List Pt) : ar (xs ++ ys) = ar (ys ++ xs) := by
  cases xs with
  | nil => simp
  | cons a xs =>
    cases ys with
    | nil => simp
    | cons b ys =>
      show ps (topOf a (xs ++ b :: ys)) ((a :: xs) ++ b :: ys) = ps (topOf b (ys ++ a :: xs)) ((b :: ys) ++ a :: xs)
      rw [ps_app, ps_app, topOf_app, topOf_app]
      show ps (topOf b ys) (a :: xs) + ps (topOf a xs) (b :: ys) = ps (topOf a xs) (b :: ys) + ps (topOf b ys) (a :: xs)
      grind
theorem crs_cr (o u v : Pt) : cr o u v = crs o u + crs u v + crs v o := by unfold cr crs; grind
theorem crs_self (a : Pt) : crs a a = 0 := by unfold crs; grind
theorem crs_sym (a b : Pt) : crs b a = - crs a b := by unfold crs; grind
/-- by a fan about o -/
def fn (o : Pt) (a : Pt) (l : List Pt) : Rat := sumR ((prs a l).map fun e => cr o e.1 e.2)
theorem fn_ps (o : Pt) : ∀ (l : List Pt) (a : Pt), fn o a l = crs o a + ps a l + crs (topOf a l) o
  | [], a => by show (0 : Rat) = crs o a + 0 + crs a o; rw [crs_sym]; grind
  | b :: l, a => by
    show cr o a b + fn o b l = crs o a + ps a (b :: l) + crs (topOf b l) o
    rw [fn_ps o l b, ps_cons, crs_cr, crs_sym o b]; grind
theorem ar_fan (o : Pt) (a : Pt) (l : List Pt) : ar (o :: a :: l) = fn o a l := by
  rw [ar_cons, fn_ps, List.cons_append, ps_cons, ps_app, ps_cons, ps_nil]; grind
theorem sumR_pos : ∀ {l : List Rat}, (∀ x ∈ l, 0 < x) → l ≠ [] → 0 < sumR l
  | [], _, h => absurd rfl h
  | [x], h, _ => by show 0 < x + 0; have := h x List.mem_cons_self; grind
  | x :: y :: l, h, _ => by
    have h1 := h x List.mem_cons_self
    have h2 := sumR_pos (l := y :: l) (fun z hz => h z (List.mem_cons_of_mem _ hz)) (by simp)
    show 0 < x + sumR (y :: l)
    grind
theorem ar_pos {h : List Pt} (n3 : 3 ≤ h.length) (S : SOC h) : 0 < ar h := by
  match h, n3, S with
  | o :: a :: b :: l, _, S =>
    rw [ar_fan]
    refine sumR_pos ?_ (by simp [prs])
    intro x hx
    obtain ⟨⟨u, v⟩, he, rfl⟩ := List.mem_map.mp hx
    obtain ⟨xs, ys, e⟩ := prs_sub he
    refine S o u v (List.Sublist.cons_cons _ ?_)
    rw [e]
    exact (List.Sublist.cons_cons _ (List.Sublist.cons_cons _ (List.nil_sublist ys))).trans (List.sublist_append_right xs _)
/-! flat points do not count -/
/-- a way with further points on its steps -/
inductive Thin : Pt → List Pt → List Pt → Prop
  | done (u : Pt) : Thin u [] []
  | skip {u v m : Pt} {hs L : List Pt} : cr u v m = 0 → Thin u (v :: hs) L → Thin u (v :: hs) (m :: L)
  | take {u v : Pt} {hs L : List Pt} : Thin v hs L → Thin u (v :: hs) (v :: L)
theorem Thin.ps {u : Pt} {hs L : List Pt} (T : Thin u hs L) : ∀ p, (∀ v r, hs = v :: r → cr u v p = 0 ∧ u ≠ v) → (∀ e ∈ prs u hs, e.1 ≠ e.2) → (hs = [] → p = u) → Pt.ps p L = Pt.ps p hs := by
  induction T with
  | done u => exact fun p _ _ _ => rfl
  | @skip u v m hs L hm T ih =>
    intro p h1 h2 h3
    obtain ⟨c1, n⟩ := h1 v hs rfl
    have k := ih m (fun v' r' e => by cases e; exact ⟨hm, n⟩) h2 (fun z => by cases z)
    rw [ps_cons, k, ps_cons, ps_cons]
    have z := col n c1 hm (cr_abb u v)
    rw [crs_cr, crs_sym p v] at z
    grind
  | @take u v hs L T ih =>
    intro p h1 h2 h3
    have k := ih v (fun v' r' e => by
      subst e
      exact ⟨cr_aba _ _, h2 (v, v') (List.mem_cons_of_mem _ List.mem_cons_self)⟩) (fun e he => h2 e (List.mem_cons_of_mem _ he)) (fun _ => rfl)
    rw [ps_cons, k, ps_cons]
/-- a part of a way, with all other points on the steps of the part -/
theorem thin_of {c : Pt} : ∀ (L hs : List Pt) (u : Pt), hs.Sublist L → (∀ e ∈ prs u (hs ++ [c]), ∀ m, [e.1, m, e.2].Sublist (u :: (L ++ [c])) → cr e.1 e.2 m = 0) → Thin u (hs ++ [c]) (L ++ [c])
  | [], hs, u, s, F => by
    cases s
    exact .take (.done c)
  | m :: L, hs, u, s, F => by
    cases s with
    | cons _ s =>
      have ih := thin_of L hs u s (fun e he w k => F e he w (k.trans (List.Sublist.cons_cons _ (List.sublist_cons_self m (L ++ [c])))))
      cases hs with
      | nil =>
        refine .skip (F (u, c) List.mem_cons_self m ?_) ih
        exact List.Sublist.cons_cons _ (List.Sublist.cons_cons _ (List.singleton_sublist.mpr (by simp)))
      | cons v hs =>
        refine .skip (F (u, v) List.mem_cons_self m ?_) ih
        exact List.Sublist.cons_cons _ (List.Sublist.cons_cons _ (List.singleton_sublist.mpr (List.mem_append_left _ (s.subset List.mem_cons_self))))
    | cons_cons _ s =>
      rename_i hs
      exact .take (thin_of L hs m s (fun e he w k => F e (List.mem_cons_of_mem _ he) w (k.cons _)))
theorem oc_closed {a : Pt} {l : List Pt} (S : OC (a :: l)) : OC (a :: (l ++ [a])) := by
  have : OC ((a :: l) ++ [a]) := OC.rot (xs := [a]) (ys := a :: l) (by
    show OC (a :: a :: l)
    exact oc_ins_front S (btw_right _ _))
  exact this
theorem edg_closed {a : Pt} {t : List Pt} {e : Pt × Pt} (h : e ∈ prs a (t ++ [a])) : e ∈ edg (a :: t) := by
  rw [prs_app] at h
  rcases List.mem_append.mp h with m | m
  · exact List.mem_cons_of_mem _ m
  · rw [show e = (topOf a t, a) from List.mem_singleton.mp m]; exact List.mem_cons_self
theorem prs_ne : ∀ {l : List Pt} {a : Pt}, (a :: l).Nodup → ∀ e ∈ prs a l, e.1 ≠ e.2
  | [], _, _, _, h => by cases h
  | b :: l, a, nd, e, h => by
    have n := List.nodup_cons.mp nd
    rcases List.mem_cons.mp h with rfl | h
    · intro z
      have z : a = b := z
      exact n.1 (by rw [z]; exact List.mem_cons_self)
    · exact prs_ne n.2 e h
/-- a round and its corners have the same area -/
theorem ar_thin {h R : List Pt} (C : CP h) (S : OC R) (s : h.Sublist R) (cl : ∀ q ∈ R, Cl h q) : ar R = ar h := by
  cases h with
  | nil => exact absurd C.n3 (by decide)
  | cons c t =>
    obtain ⟨p, q, e, h1, h2⟩ := List.append_sublist_iff.mp (show ([c] ++ t).Sublist R from s)
    obtain ⟨p1, p2, rfl⟩ := List.append_of_mem (List.singleton_sublist.mp h1)
    have e : R = p1 ++ c :: (p2 ++ q) := by rw [e]; simp
    have ht : t.Sublist ((p2 ++ q) ++ p1) := (h2.trans (List.sublist_append_right p2 q)).trans (List.sublist_append_left _ p1)
    have sw : ∀ w, w ∈ c :: ((p2 ++ q) ++ p1) → w ∈ R := fun w hw => by
      rw [e]; simp only [List.mem_append, List.mem_cons] at *; grind
    have S1 : OC (c :: ((p2 ++ q) ++ p1)) := by rw [e] at S; exact S.rot
    have ea : ar R = ar (c :: ((p2 ++ q) ++ p1)) := by rw [e, ar_rot]; rfl
    rw [ea]
    generalize (p2 ++ q) ++ p1 = L at *
    have S2 := oc_closed S1
    have T := thin_of (c := c) L t c ht (fun e he m k => by
      have me := edg_closed he
      have mm : m ∈ c :: L := by
        have : m ∈ c :: (L ++ [c]) := k.subset (by simp)
        simp only [List.mem_cons, List.mem_append] at *; grind
      have g1 := cl m (sw m mm) e me
      have g2 := S2 _ _ _ k
      rw [cr_swap] at g2
      grind)
    have nd := C.soc.nodup C.n3
    have ne : ∀ e ∈ prs c (t ++ [c]), e.1 ≠ e.2 := by
      intro e he
      rw [prs_app] at he
      rcases List.mem_append.mp he with m | m
      · exact prs_ne nd e m
      · rw [show e = (topOf c t, c) from List.mem_singleton.mp m]
        have n3 := C.n3
        have : t ≠ [] := by rintro rfl; simp at n3
        intro z
        have z : topOf c t = c := z
        have q := topOf_mem' t c this
        rw [z] at q
        exact (List.nodup_cons.mp nd).1 q
    have k := T.ps c (fun v r e => ⟨cr_aba _ _, ne (c, v) (by rw [e]; exact List.mem_cons_self)⟩) ne (fun z => by simp at z)
    rw [ar_cons, ar_cons, k]
/-! ### points that stand behind themselves -/
def dd : Pt → List Pt → List Pt
  | _, [] => []
  | a, b :: l => if a = b then dd a l else b :: dd b l
def strip (a : Pt) (l : List Pt) : List Pt := if l.getLast? = some a then l.dropLast else l
/-- without doubles -/
def wd : List Pt → List Pt
  | [] => []
  | a :: l => a :: strip a (dd a l)
theorem dd_sub : ∀ (l : List Pt) (a : Pt), (dd a l).Sublist l
  | [], _ => List.Sublist.refl _
  | b :: l, a => by
    unfold dd
    split
    · exact (dd_sub l a).cons _
    · exact (dd_sub l b).cons_cons _
theorem dd_mem : ∀ (l : List Pt) (a q : Pt), q ∈ l → q = a ∨ q ∈ dd a l
  | b :: l, a, q, h => by
    unfold dd
    split
    · rename_i e; subst e
      rcases List.mem_cons.mp h with rfl | h
      · exact .inl rfl
      · exact dd_mem l a q h
    · rcases List.mem_cons.mp h with rfl | h
      · exact .inr List.mem_cons_self
      · rcases dd_mem l b q h with z | z
        · rw [z]; exact .inr List.mem_cons_self
        · exact .inr (List.mem_cons_of_mem _ z)
theorem dd_ps : ∀ (l : List Pt) (a : Pt), ps a (dd a l) = ps a l
  | [], _ => rfl
  | b :: l, a => by
    unfold dd
    split
    · rename_i e; subst e; rw [dd_ps l a, ps_cons, crs_self]; grind
    · rw [ps_cons, ps_cons, dd_ps l b]
theorem dd_top : ∀ (l : List Pt) (a : Pt), topOf a (dd a l) = topOf a l
  | [], _ => rfl
  | b :: l, a => by
    unfold dd
    split
    · rename_i e; subst e; exact dd_top l a
    · exact dd_top l b
theorem dd_ne : ∀ (l : List Pt) (a : Pt), ∀ e ∈ prs a (dd a l), e.1 ≠ e.2
  | [], _, _, h => by cases h
  | b :: l, a, e, h => by
    unfold dd at h
    split at h
    · exact dd_ne l a e h
    · rename_i n
      rcases List.mem_cons.mp h with rfl | h
      · exact n
      · exact dd_ne l b e h
theorem getLast_split : ∀ {l : List Pt} {a : Pt}, l.getLast? = some a → l = l.dropLast ++ [a] := by
  intro l a h
  obtain ⟨ys, rfl⟩ := List.getLast?_eq_some_iff.mp h
  rw [List.dropLast_concat]
theorem wd_cons (a : Pt) (l : List Pt) : wd (a :: l) = a :: strip a (dd a l) := rfl
theorem wd_sub : ∀ L : List Pt, (wd L).Sublist L
  | [] => List.Sublist.refl _
  | a :: l => by
    rw [wd_cons]; unfold strip
    split
    · exact ((List.dropLast_sublist _).trans (dd_sub l a)).cons_cons _
    · exact (dd_sub l a).cons_cons _
theorem wd_mem (L : List Pt) (q : Pt) : q ∈ wd L ↔ q ∈ L := by
  refine ⟨fun h => (wd_sub L).subset h, fun h => ?_⟩
  cases L with
  | nil => exact h
  | cons a l =>
    have : q = a ∨ q ∈ dd a l := by
      rcases List.mem_cons.mp h with z | z
      · exact .inl z
      · exact dd_mem l a q z
    rw [wd_cons]
    rcases this with z | z
    · rw [z]; exact List.mem_cons_self
    · unfold strip
      split
      · rename_i e
        rw [getLast_split e] at z
        rcases List.mem_append.mp z with y | y
        · exact List.mem_cons_of_mem _ y
        · rw [List.mem_singleton.mp y]; exact List.mem_cons_self
      · exact List.mem_cons_of_mem _ z
theorem wd_ar (L : List Pt) : ar (wd L) = ar L := by
  cases L with
  | nil => rfl
  | cons a l =>
    have e1 : ar (a :: dd a l) = ar (a :: l) := by
      rw [ar_cons, ar_cons, ps_app, ps_app, dd_ps, dd_top]
    rw [← e1, wd_cons]
    unfold strip
    split
    · rename_i e
      have k := getLast_split e
      generalize (dd a l).dropLast = m at *
      rw [k, ar_cons, ar_cons, ps_app, ps_app, ps_app, topOf_snoc]
      rw [ps_cons, ps_cons, ps_nil, crs_self]; grind
    · rfl
theorem topOf_getLast : ∀ {l : List Pt} {a : Pt}, l ≠ [] → l.getLast? = some (topOf a l) := by
  intro l a h
  cases l with
  | nil => exact absurd rfl h
  | cons b l =>
    have tl : ∀ (l : List Pt) (b : Pt), (b :: l).getLast? = some (topOf b l) := by
      intro l
      induction l with
      | nil => exact fun b => rfl
      | cons c l ih => exact fun b => by rw [List.getLast?_cons_cons]; exact ih c
    exact tl l b
theorem wd_nd (L : List Pt) (n : 2 ≤ (wd L).length) : ND (wd L) := by
  cases L with
  | nil => simp [wd] at n
  | cons a l =>
    have pr := dd_ne l a
    rw [wd_cons] at n ⊢
    have st : (∀ e ∈ prs a (strip a (dd a l)), e.1 ≠ e.2) ∧ (strip a (dd a l) ≠ [] → topOf a (strip a (dd a l)) ≠ a) := by
      unfold strip
      split
      · rename_i e
        have k := getLast_split e
        generalize (dd a l).dropLast = m at *
        rw [k, prs_app] at pr
        refine ⟨fun e he => pr e (List.mem_append_left _ he), fun _ => pr (topOf a m, a) (List.mem_append_right _ List.mem_cons_self)⟩
      · rename_i e
        refine ⟨pr, fun h z => e ?_⟩
        rw [topOf_getLast h, z]
    intro e he
    rcases List.mem_cons.mp (show e ∈ (topOf a (strip a (dd a l)), a) :: prs a (strip a (dd a l)) from he) with z | z
    · rw [z]
      refine st.2 ?_
      intro y; rw [y] at n; simp at n
    · exact st.1 e z
theorem lt_least : ∀ {l : List Pt}, l ≠ [] → ∃ m ∈ l, ∀ q ∈ l, q ≠ m → lt m q
  | [], h => absurd rfl h
  | [a], _ => ⟨a, List.mem_cons_self, fun q hq n => absurd (List.mem_singleton.mp hq) n⟩
  | a :: b :: l, _ => by
    obtain ⟨m, hm, hl⟩ := lt_least (l := b :: l) (by simp)
    rcases lt_tri a m with z | z | z
    · refine ⟨a, List.mem_cons_self, fun q hq n => ?_⟩
      rcases List.mem_cons.mp hq with y | y
      · exact absurd y n
      · by_cases x : q = m
        · rw [x]; exact z
        · exact lt_trans z (hl q y x)
    · subst z
      refine ⟨a, List.mem_cons_self, fun q hq n => ?_⟩
      rcases List.mem_cons.mp hq with y | y
      · exact absurd y n
      · exact hl q y n
    · refine ⟨m, List.mem_cons_of_mem _ hm, fun q hq n => ?_⟩
      rcases List.mem_cons.mp hq with y | y
      · rw [y]; exact z
      · exact hl q y n
theorem ttf_ex {C : List Pt} (h : C ≠ []) : ∃ R, Ttf C R := by
  obtain ⟨m, hm, hl⟩ := lt_least h
  obtain ⟨xs, ys, rfl⟩ := List.append_of_mem hm
  refine ⟨(m :: ys) ++ xs, ⟨xs, m :: ys, rfl, rfl⟩, fun a e q hq n => ?_⟩
  cases e
  refine hl q ?_ n
  simp only [List.mem_append, List.mem_cons] at *; grind
/-- the hull of a round that never turns right, among its points -/
theorem hull_sub {L h : List Pt} (S : OC L) (e : hull L = some h) : ∃ L1 L2, L = L1 ++ L2 ∧ h.Sublist (L2 ++ L1) := by
  have H := hull_ok e
  have C := H.poly.cp
  have e' : hull (wd L) = some h := C.hull_of (fun q hq => (wd_mem L q).mpr (H.mem q hq)) (fun q hq => H.cl q ((wd_mem L q).mp hq))
  have n3 : 3 ≤ (wd L).length := by
    refine Nat.not_lt.mp fun n => ?_
    have F : Flat (wd L) := by
      match wd L, n with
      | [], _ => exact fun a ha => by cases ha
      | [x], _ => intro a ha b hb c hc; simp only [List.mem_singleton] at ha hb hc; subst ha hb hc; exact cr_aab _ _
      | [x, y], _ =>
        intro a ha b hb c hc
        simp only [List.mem_cons, List.not_mem_nil, or_false] at ha hb hc
        rcases ha with rfl | rfl <;> rcases hb with rfl | rfl <;> rcases hc with rfl | rfl <;> simp [cr_aab, cr_aba, cr_abb]
      | _ :: _ :: _ :: _, n => simp at n; omega
    rw [hull_flat F] at e'
    cases e'
  have N := wd_nd L (by omega)
  have SK := S.sub (wd_sub L)
  have H' := hull_ok e'
  have ne : ((wd L).filter fun q => decide (q ∈ h)) ≠ [] := by
    intro z
    cases h with
    | nil => exact absurd C.n3 (by decide)
    | cons a t =>
      have : a ∈ ((wd L).filter fun q => decide (q ∈ a :: t)) := List.mem_filter.mpr ⟨H'.mem a List.mem_cons_self, decide_eq_true List.mem_cons_self⟩
      rw [z] at this
      cases this
  obtain ⟨R, T⟩ := ttf_ex ne
  have eR := corners_hull n3 SK N e' T
  obtain ⟨xs, ys, e1, e2⟩ := T.ex
  have s : (xs ++ ys).Sublist L := by rw [← e1]; exact List.filter_sublist.trans (wd_sub L)
  obtain ⟨L1, L2, e3, h1, h2⟩ := List.append_sublist_iff.mp s
  refine ⟨L1, L2, e3, ?_⟩
  rw [← eR, e2]
  exact List.Sublist.append h2 h1
theorem hull_ar {L h : List Pt} (S : OC L) (e : hull L = some h) : ar L = ar h := by
  have H := hull_ok e
  obtain ⟨L1, L2, rfl, s⟩ := hull_sub S e
  rw [ar_rot]
  refine ar_thin H.poly.cp S.rot s (fun q hq => H.cl q ?_)
  simp only [List.mem_append] at *; grind
theorem flat_ar {L : List Pt} (F : Flat L) : ar L = 0 := by
  match L, F with
  | [], _ => rfl
  | [a], _ => rw [ar_cons]; show crs a a + 0 = 0; rw [crs_self]; grind
  | o :: a :: l, F =>
    rw [ar_fan]
    have : ∀ (l : List Pt) (a : Pt), (∀ q ∈ a :: l, q ∈ o :: a :: l ∨ True) → (∀ u ∈ a :: l, ∀ v ∈ a :: l, cr o u v = 0) → fn o a l = 0 := by
      intro l
      induction l with
      | nil => exact fun _ _ _ => rfl
      | cons b l ih =>
        intro a _ h
        show cr o a b + fn o b l = 0
        rw [ih b (fun q _ => .inr trivial) (fun u hu v hv => h u (List.mem_cons_of_mem _ hu) v (List.mem_cons_of_mem _ hv)), h a List.mem_cons_self b (by simp)]
        grind
    exact this l a (fun q _ => .inr trivial) (fun u hu v hv => F o List.mem_cons_self u (List.mem_cons_of_mem _ hu) v (List.mem_cons_of_mem _ hv))
end Pt
end Dn

namespace Dn
namespace Pt
/-! ### the areas of the two parts of a cut -/
def Aff.neg (f : Aff) : Aff := ⟨-f.a, -f.b, -f.c⟩
theorem Aff.neg_ev (f : Aff) (p : Pt) : f.neg.ev p = - f.ev p := by unfold Aff.neg Aff.ev; grind
theorem crF_neg (a b : Pt) : crF b a = (crF a b).neg := by unfold crF Aff.neg; congr 1 <;> grind
theorem cutP_neg (f : Aff) (u v : Pt) : cutP f.neg u v = cutP f u v := by
  unfold cutP
  rw [Aff.neg_ev, Aff.neg_ev]
  congr 1 <;> grind
theorem refT_neg (f : Aff) : ∀ (l : List Pt) (u : Pt), refT f.neg u l = refT f u l
  | [], _ => rfl
  | v :: l, u => by
    rw [refT_cons, refT_cons, refT_neg f l v, cutP_neg, Aff.neg_ev, Aff.neg_ev, show -f.ev u * -f.ev v = f.ev u * f.ev v by grind]
theorem refR_neg (f : Aff) (h : List Pt) : refR f.neg h = refR f h := by
  cases h with
  | nil => rfl
  | cons a l => exact refT_neg f (a :: l) _
/-- sums along ways -/
def sP (G : Pt → Pt → Rat) (a : Pt) (l : List Pt) : Rat := sumR ((prs a l).map fun e => G e.1 e.2)
def sG (G : Pt → Pt → Rat) (h : List Pt) : Rat := sumR ((edg h).map fun e => G e.1 e.2)
theorem sP_cons (G : Pt → Pt → Rat) (a b : Pt) (l : List Pt) : sP G a (b :: l) = G a b + sP G b l := rfl
theorem sP_nil (G : Pt → Pt → Rat) (a : Pt) : sP G a [] = 0 := rfl
theorem sP_app (G : Pt → Pt → Rat) (a : Pt) (xs ys : List Pt) : sP G a (xs ++ ys) = sP G a xs + sP G (topOf a xs) ys := by
  unfold sP; rw [prs_app, List.map_append, sumR_app]
theorem sG_cons (G : Pt → Pt → Rat) (a : Pt) (l : List Pt) : sG G (a :: l) = sP G a (l ++ [a]) := by
  show sP G (topOf a l) (a :: l) = _
  rw [sP_cons, sP_app, sP_cons, sP_nil]; grind
theorem sG_rot (G : Pt → Pt → Rat) (xs ys : List Pt) : sG G (xs ++ ys) = sG G (ys ++ xs) := by
  cases xs with
  | nil => simp
  | cons a xs =>
    cases ys with
    | nil => simp
    | cons b ys =>
      show sP G (topOf a (xs ++ b :: ys)) ((a :: xs) ++ b :: ys) = sP G (topOf b (ys ++ a :: xs)) ((b :: ys) ++ a :: xs)
      rw [sP_app, sP_app, topOf_app, topOf_app]
      show sP G (topOf b ys) (a :: xs) + sP G (topOf a xs) (b :: ys) = sP G (topOf a xs) (b :: ys) + sP G (topOf b ys) (a :: xs)
      grind
theorem ps_sP (a : Pt) (l : List Pt) : ps a l = sP crs a l := rfl
theorem ar_sG (h : List Pt) : ar h = sG crs h := rfl
theorem sP_add (G H : Pt → Pt → Rat) : ∀ (l : List Pt) (a : Pt), sP (fun p q => G p q + H p q) a l = sP G a l + sP H a l
  | [], _ => by show (0 : Rat) = 0 + 0; grind
  | b :: l, a => by rw [sP_cons, sP_cons, sP_cons, sP_add G H l b]; grind
theorem sP_tel (ψ : Pt → Rat) : ∀ (l : List Pt) (a : Pt), sP (fun p q => ψ q - ψ p) a l = ψ (topOf a l) - ψ a
  | [], a => by show (0 : Rat) = ψ a - ψ a; grind
  | b :: l, a => by rw [sP_cons, sP_tel ψ l b]; show _ = ψ (topOf b l) - ψ a; grind
theorem sG_add (G H : Pt → Pt → Rat) (h : List Pt) : sG (fun p q => G p q + H p q) h = sG G h + sG H h := by
  cases h with
  | nil => show (0 : Rat) = 0 + 0; grind
  | cons a l => exact sP_add G H (a :: l) _
theorem sG_tel (ψ : Pt → Rat) (h : List Pt) : sG (fun p q => ψ q - ψ p) h = 0 := by
  cases h with
  | nil => rfl
  | cons a l => rw [sG_cons, sP_tel, topOf_snoc]; grind
theorem sumR_congr {es : List (Pt × Pt)} {G H : Pt → Pt → Rat} (h : ∀ e ∈ es, G e.1 e.2 = H e.1 e.2) : sumR (es.map fun e => G e.1 e.2) = sumR (es.map fun e => H e.1 e.2) := by
  congr 1
  exact List.map_congr_left h
theorem ref_ar (f : Aff) : ∀ (l : List Pt) (u : Pt), ps u (refT f u l) = ps u l
  | [], _ => rfl
  | v :: l, u => by
    rw [refT_cons]
    by_cases q : f.ev u * f.ev v < 0
    · rw [if_pos q]
      show ps u (cutP f u v :: v :: refT f v l) = _
      rw [ps_cons, ps_cons, ref_ar f l v, ps_cons]
      have z : cr u v (cutP f u v) = 0 := by
        have := cutP_ev (mul_neg_ne q) (crF u v)
        rw [crF_ev, crF_ev, crF_ev, cr_aba, cr_abb] at this
        refine rz_of (mul_neg_ne q) ?_
        grind
      rw [crs_cr] at z
      have e1 := crs_sym v (cutP f u v)
      have e2 := crs_sym (cutP f u v) u
      grind
    · rw [if_neg q]
      show ps u (v :: refT f v l) = _
      rw [ps_cons, ref_ar f l v, ps_cons]
theorem refR_ar (f : Aff) (h : List Pt) : ar (refR f h) = ar h := by
  cases h with
  | nil => rfl
  | cons a l =>
    have e : refR f (a :: l) = refT f (topOf a l) (a :: l) := rfl
    rw [e, refT_cons]
    have h1 : ps a (refT f a l ++ [a]) = ps a (l ++ [a]) := by rw [ps_app, ps_app, ref_ar, topOf_refT]
    by_cases q : f.ev (topOf a l) * f.ev a < 0
    · rw [if_pos q]
      -- through the front
      have k := ref_ar f (a :: l) (topOf a l)
      rw [refT_cons, if_pos q] at k
      show ps (topOf (cutP f (topOf a l) a) (a :: refT f a l)) ([cutP f (topOf a l) a] ++ a :: refT f a l) = ps (topOf a l) (a :: l)
      rw [show topOf (cutP f (topOf a l) a) (a :: refT f a l) = topOf a l from topOf_refT f l a]
      exact k
    · rw [if_neg q]
      show ar (a :: refT f a l) = _
      rw [ar_cons, ar_cons, h1]
/-- f does not change its sign between neighbours -/
def NS (f : Aff) (es : List (Pt × Pt)) : Prop := ∀ e ∈ es, 0 ≤ f.ev e.1 * f.ev e.2
theorem ns_refT (f : Aff) : ∀ (l : List Pt) (u : Pt), NS f (prs u (refT f u l))
  | [], _ => fun e he => by cases he
  | v :: l, u => by
    have ih := ns_refT f l v
    rw [refT_cons]
    by_cases q : f.ev u * f.ev v < 0
    · rw [if_pos q]
      intro e he
      rcases List.mem_cons.mp (show e ∈ (u, cutP f u v) :: (cutP f u v, v) :: prs v (refT f v l) from he) with z | z
      · rw [z]; simp only; rw [cutP_z q]; grind
      · rcases List.mem_cons.mp z with z | z
        · rw [z]; simp only; rw [cutP_z q]; grind
        · exact ih e z
    · rw [if_neg q]
      intro e he
      rcases List.mem_cons.mp (show e ∈ (u, v) :: prs v (refT f v l) from he) with z | z
      · rw [z]; simp only; grind
      · exact ih e z
theorem ns_refR (f : Aff) (h : List Pt) : NS f (edg (refR f h)) := by
  cases h with
  | nil => exact fun e he => by cases he
  | cons a l =>
    have k := ns_refT f (a :: l) (topOf a l)
    have e : refR f (a :: l) = refT f (topOf a l) (a :: l) := rfl
    rw [e]
    have tp : topOf (topOf a l) (refT f (topOf a l) (a :: l)) = topOf a l := by rw [topOf_refT]; rfl
    cases q : refT f (topOf a l) (a :: l) with
    | nil => exact fun e he => by cases he
    | cons b m =>
      rw [q] at k tp
      show NS f (prs (topOf b m) (b :: m))
      have tp : topOf b m = topOf a l := tp
      rw [tp]; exact k
def cL (f : Aff) (A p q : Pt) : Rat := if f.ev p < 0 then (if f.ev q < 0 then 0 else crs A q) else (if f.ev q < 0 then - crs A p else crs p q)
theorem walkL {f : Aff} {A : Pt} (hA : ∀ p q, f.ev p = 0 → f.ev q = 0 → cr A p q = 0) : ∀ (l : List Pt) (c p0 : Pt), NS f (prs c l) → (0 ≤ f.ev c → p0 = c) → (f.ev c < 0 → f.ev p0 = 0) → 0 ≤ f.ev (topOf c l) → ps p0 (l.filter fun p => decide (0 ≤ f.ev p)) + (if f.ev c < 0 then crs A p0 else 0) = sP (cL f A) c l
  | [], c, p0, _, h1, h2, h3 => by
    have h3 : 0 ≤ f.ev c := h3
    rw [if_neg (by grind)]
    show (0 : Rat) + 0 = 0
    grind
  | q :: l, c, p0, n, h1, h2, h3 => by
    have nq := n (c, q) List.mem_cons_self
    simp only at nq
    have n' : NS f (prs q l) := fun e he => n e (List.mem_cons_of_mem _ he)
    rw [sP_cons]
    by_cases kq : 0 ≤ f.ev q
    · have ih := walkL hA l q q n' (fun _ => rfl) (fun z => by grind) h3
      rw [if_neg (show ¬ f.ev q < 0 by grind)] at ih
      rw [List.filter_cons, if_pos (decide_eq_true kq), ps_cons]
      by_cases kc : f.ev c < 0
      · have fq : f.ev q = 0 := by
          refine Rat.le_antisymm ?_ kq
          refine Rat.not_lt.mp fun z => ?_
          have := rmul_pos (show 0 < - f.ev c by grind) z
          grind
        have z := hA p0 q (h2 kc) fq
        rw [crs_cr, crs_sym A q] at z
        have e : cL f A c q = crs A q := by unfold cL; rw [if_pos kc, if_neg (by grind)]
        rw [if_pos kc, e]; grind
      · have e : cL f A c q = crs c q := by unfold cL; rw [if_neg kc, if_neg (by grind)]
        rw [if_neg kc, e, h1 (by grind)]; grind
    · have kq : f.ev q < 0 := by grind
      rw [List.filter_cons, if_neg (by rw [decide_eq_true_eq]; grind)]
      by_cases kc : f.ev c < 0
      · have ih := walkL hA l q p0 n' (fun z => by grind) (fun _ => h2 kc) h3
        rw [if_pos kq] at ih
        have e : cL f A c q = 0 := by unfold cL; rw [if_pos kc, if_pos kq]
        rw [if_pos kc, e]; grind
      · have fc : f.ev c = 0 := by
          refine Rat.le_antisymm ?_ (by grind)
          refine Rat.not_lt.mp fun z => ?_
          have := rmul_pos z (show 0 < - f.ev q by grind)
          grind
        have pc := h1 (by grind)
        have ih := walkL hA l q p0 n' (fun z => by grind) (fun _ => by rw [pc]; exact fc) h3
        rw [if_pos kq] at ih
        have e : cL f A c q = - crs A c := by unfold cL; rw [if_neg kc, if_pos kq]
        rw [if_neg kc, e]; rw [pc] at ih ⊢; grind
theorem filt_ar {f : Aff} {A : Pt} (hA : ∀ p q, f.ev p = 0 → f.ev q = 0 → cr A p q = 0) (R : List Pt) (n : NS f (edg R)) : ar (R.filter fun p => decide (0 ≤ f.ev p)) = sG (cL f A) R := by
  by_cases k : ∃ c ∈ R, 0 ≤ f.ev c
  · obtain ⟨c, hc, fc⟩ := k
    obtain ⟨xs, ys, rfl⟩ := List.append_of_mem hc
    have n' : NS f (prs c ((ys ++ xs) ++ [c])) := fun e he => by
      refine n e (edg_rot (xs := c :: ys) (ys := xs) ?_)
      exact edg_closed (a := c) (t := ys ++ xs) he
    have w := walkL hA ((ys ++ xs) ++ [c]) c c n' (fun _ => rfl) (fun z => by grind) (by rw [topOf_snoc]; exact fc)
    rw [if_neg (by grind)] at w
    have e1 : sG (cL f A) (xs ++ c :: ys) = sP (cL f A) c ((ys ++ xs) ++ [c]) := by
      rw [sG_rot, List.cons_append, sG_cons]
    rw [e1, ← w]
    rw [List.filter_append, ar_rot, ← List.filter_append, List.cons_append, List.filter_cons, if_pos (decide_eq_true fc), ar_cons]
    have one : [c].filter (fun p => decide (0 ≤ f.ev p)) = [c] := by rw [List.filter_cons, if_pos (decide_eq_true fc)]; rfl
    rw [List.filter_append (l₂ := [c]), one]
    grind
  · have all : ∀ c ∈ R, f.ev c < 0 := fun c hc => Rat.not_le.mp fun z => k ⟨c, hc, z⟩
    have e1 : (R.filter fun p => decide (0 ≤ f.ev p)) = [] := by
      rw [List.filter_eq_nil_iff]
      intro c hc
      have := all c hc
      rw [decide_eq_true_eq]; grind
    rw [e1]
    have zz : ∀ es : List (Pt × Pt), (∀ e ∈ es, cL f A e.1 e.2 = 0) → sumR (es.map fun e => cL f A e.1 e.2) = 0 := by
      intro es
      induction es with
      | nil => exact fun _ => rfl
      | cons e es ih =>
        intro h
        show cL f A e.1 e.2 + sumR (es.map _) = 0
        rw [ih (fun e he => h e (List.mem_cons_of_mem _ he)), h e List.mem_cons_self]; grind
    refine (zz _ fun e he => ?_).symm
    have me := edg_mem (u := e.1) (v := e.2) he
    unfold cL
    rw [if_pos (all _ me.1), if_pos (all _ me.2)]
/-- the two parts of a cut have the area of the whole -/
theorem clip_ar {f : Aff} {A : Pt} (hA : ∀ p q, f.ev p = 0 → f.ev q = 0 → cr A p q = 0) (h : List Pt) : ar (clip f h) + ar (clip f.neg h) = ar h := by
  rw [clip_filter, clip_filter, refR_neg]
  have n1 := ns_refR f h
  have n2 : NS f.neg (edg (refR f h)) := fun e he => by rw [Aff.neg_ev, Aff.neg_ev]; have := n1 e he; grind
  rw [filt_ar hA _ n1, filt_ar (f := f.neg) (A := A) (fun p q hp hq => hA p q (by rw [Aff.neg_ev] at hp; grind) (by rw [Aff.neg_ev] at hq; grind)) _ n2]
  rw [← sG_add, ← refR_ar f h, ar_sG]
  have t := sG_tel (fun p => if f.ev p = 0 then crs A p else 0) (refR f h)
  have s := sG_add crs (fun p q => (if f.ev q = 0 then crs A q else 0) - (if f.ev p = 0 then crs A p else 0)) (refR f h)
  rw [t] at s
  have s' : sG crs (refR f h) = sG (fun p q => crs p q + ((if f.ev q = 0 then crs A q else 0) - (if f.ev p = 0 then crs A p else 0))) (refR f h) := by rw [s]; grind
  rw [s']
  refine sumR_congr (G := fun p q => cL f A p q + cL f.neg A p q) (H := fun p q => crs p q + ((if f.ev q = 0 then crs A q else 0) - (if f.ev p = 0 then crs A p else 0))) fun e he => ?_
  have n := n1 e he
  obtain ⟨p, q⟩ := e
  simp only at n ⊢
  have z := fun hp hq => hA p q hp hq
  rw [crs_cr, crs_sym A q] at z
  unfold cL
  rw [Aff.neg_ev, Aff.neg_ev]
  by_cases p1 : f.ev p = 0
  · by_cases q1 : f.ev q = 0
    · have := z p1 q1; grind
    · by_cases q2 : f.ev q < 0 <;> grind
  · by_cases q1 : f.ev q = 0
    · by_cases p2 : f.ev p < 0 <;> grind
    · by_cases p2 : f.ev p < 0
      · by_cases q2 : f.ev q < 0
        · grind
        · have := rmul_pos (show 0 < - f.ev p by grind) (show 0 < f.ev q by grind); grind
      · by_cases q2 : f.ev q < 0
        · have := rmul_pos (show 0 < f.ev p by grind) (show 0 < - f.ev q by grind); grind
        · grind
/-- a part of a polygon, or nothing -/
def half (f : Aff) (h : List Pt) : Option (List Pt) := hull (clip f h)
def arO : Option (List Pt) → Rat
  | none => 0
  | some h => ar h
theorem half_arO {f : Aff} {h : List Pt} (S : OC h) : arO (half f h) = ar (clip f h) := by
  unfold half
  cases e : hull (clip f h) with
  | none => exact (flat_ar (hull_none e)).symm
  | some k => exact (hull_ar (oc_clip S) e).symm
theorem half_ar {a b : Pt} (ab : a ≠ b) {h : List Pt} (S : OC h) : arO (half (crF a b) h) + arO (half (crF b a) h) = ar h := by
  rw [half_arO S, half_arO S, crF_neg a b]
  refine clip_ar (A := a) (fun p q hp hq => ?_) h
  rw [crF_ev] at hp hq
  exact col ab (cr_aba _ _) hp hq
theorem half_cp {f : Aff} {h k : List Pt} (e : half f h = some k) : CP k := (hull_ok e).poly.cp
end Pt
end Dn

namespace Dn
namespace Pt
/-! ### sizes: all corners lie on few lines of small numbers -/
structure Bz (k : Nat) (p : Pt) : Prop where
  x : Bd k p.x
  y : Bd k p.y
  w : Bd k p.w
theorem Bz.mono {j k : Nat} {p : Pt} (h : p.Bz j) (l : j ≤ k) : p.Bz k := ⟨h.x.mono l, h.y.mono l, h.w.mono l⟩
theorem Bz.sz {j k : Nat} {p : Pt} (h : p.Bz j) (l : j ≤ 64 * 2 ^ k) : p.Sz k := ⟨⟨h.x.mono l⟩, ⟨h.y.mono l⟩, ⟨h.w.mono l⟩⟩
theorem Sz.bz {k : Nat} {p : Pt} (h : p.Sz k) : p.Bz (64 * 2 ^ k) := ⟨h.x.b, h.y.b, h.w.b⟩
/-- a line of small numbers through both -/
def Ln (β : Nat) (u v : Pt) : Prop := ∃ A B C : Int, Bd β A ∧ Bd β B ∧ Bd β C ∧ (A ≠ 0 ∨ B ≠ 0) ∧ A * u.x + B * u.y + C * u.w = 0 ∧ A * v.x + B * v.y + C * v.w = 0
def Fr (β : Nat) (h : List Pt) : Prop := ∀ e ∈ edg h, Ln β e.1 e.2
theorem Ln.mono {j k : Nat} {u v : Pt} (h : Ln j u v) (l : j ≤ k) : Ln k u v := by
  obtain ⟨A, B, C, a, b, c, n, e1, e2⟩ := h
  exact ⟨A, B, C, a.mono l, b.mono l, c.mono l, n, e1, e2⟩
theorem Fr.mono {j k : Nat} {h : List Pt} (F : Fr j h) (l : j ≤ k) : Fr k h := fun e he => (F e he).mono l
theorem Ln.symm {k : Nat} {u v : Pt} (h : Ln k u v) : Ln k v u := by
  obtain ⟨A, B, C, a, b, c, n, e1, e2⟩ := h
  exact ⟨A, B, C, a, b, c, n, e2, e1⟩
theorem ln_of {k : Nat} {u v : Pt} (hu : u.Bz k) (hv : v.Bz k) (n : u ≠ v) : Ln (2 * k + 1) u v := by
  refine ⟨u.y * v.w - v.y * u.w, v.x * u.w - u.x * v.w, u.x * v.y - v.x * u.y, (hu.y.mul hv.w (l := 2 * k) (by omega)).sub (hv.y.mul hu.w (by omega)) (by omega), (hv.x.mul hu.w (l := 2 * k) (by omega)).sub (hu.x.mul hv.w (by omega)) (by omega), (hu.x.mul hv.y (l := 2 * k) (by omega)).sub (hv.x.mul hu.y (by omega)) (by omega), ?_, by grind, by grind⟩
  refine Classical.byContradiction fun z => n ?_
  have z1 : u.y * v.w = v.y * u.w := by omega
  have z2 : u.x * v.w = v.x * u.w := by omega
  obtain ⟨h1, h2, h3⟩ := nf_unique u.nf v.nf z2 z1
  exact ext' h1 h2 h3
theorem fr_of {k : Nat} {h : List Pt} (b : ∀ q ∈ h, q.Bz k) (n : ∀ e ∈ edg h, e.1 ≠ e.2) : Fr (2 * k + 1) h := fun e he => ln_of (b _ (edg_mem he).1) (b _ (edg_mem he).2) (n e he)
theorem SOC.edge_ne {h : List Pt} (n3 : 3 ≤ h.length) (S : SOC h) : ∀ e ∈ edg h, e.1 ≠ e.2 := by
  have nd := S.nodup n3
  cases h with
  | nil => exact fun e he => by cases he
  | cons a l =>
    intro e he
    rcases List.mem_cons.mp (show e ∈ (topOf a l, a) :: prs a l from he) with z | z
    · rw [z]
      intro y
      have y : topOf a l = a := y
      have : l ≠ [] := by rintro rfl; simp at n3
      have q := topOf_mem' l a this
      rw [y] at q
      exact (List.nodup_cons.mp nd).1 q
    · exact prs_ne nd e z
/-- a line as an affine function -/
def lnF (A B C : Int) : Aff := ⟨A, B, C⟩
theorem lnF_ev (A B C : Int) (p : Pt) : (lnF A B C).ev p * p.w = ((A * p.x + B * p.y + C * p.w : Int) : Rat) := by
  unfold lnF Aff.ev
  simp only [Rat.intCast_add, Rat.intCast_mul]
  rw [← p.X_w, ← p.Y_w]; grind
theorem lnF_z {A B C : Int} {p : Pt} : (lnF A B C).ev p = 0 ↔ A * p.x + B * p.y + C * p.w = 0 := by
  have e := lnF_ev A B C p
  have hw := p.wq'
  constructor
  · intro z
    rw [z] at e
    refine Rat.intCast_inj.mp ?_
    rw [← e, Rat.intCast_zero]; grind
  · intro z
    rw [z, Rat.intCast_zero] at e
    exact rz_of hw (by grind)
theorem aff_line {g : Aff} {p q z : Pt} (n : p ≠ q) (h1 : g.ev p = 0) (h2 : g.ev q = 0) (h3 : cr p q z = 0) : g.ev z = 0 := by
  by_cases a : q.X - p.X = 0
  · have b : q.Y - p.Y ≠ 0 := fun b => n (XY (by grind) (by grind))
    refine rz_of b ?_
    unfold Aff.ev cr at *
    grind
  · refine rz_of a ?_
    unfold Aff.ev cr at *
    grind
/-- the corner of two lines of small numbers -/
theorem ln_corner {β : Nat} {d v g : Pt} (h1 : Ln β d v) (h2 : Ln β v g) (t : cr d v g ≠ 0) : v.Bz (2 * β + 1) := by
  obtain ⟨A, B, C, a, b, c, n, e1, e2⟩ := h1
  obtain ⟨A', B', C', a', b', c', n', e1', e2'⟩ := h2
  have dv : d ≠ v := fun z => t (by rw [z, cr_aab])
  have vg : v ≠ g := fun z => t (by rw [z, cr_abb])
  have hw : A * B' - A' * B ≠ 0 := by
    intro z
    -- the same line
    have eg : A * g.x + B * g.y + C * g.w = 0 := by
      have k1 : A' * (A * g.x + B * g.y + C * g.w) * v.w = 0 := by grind
      have k2 : B' * (A * g.x + B * g.y + C * g.w) * v.w = 0 := by grind
      have hv : v.w ≠ 0 := by have := v.pos; omega
      rcases n' with n' | n'
      · rcases Int.mul_eq_zero.mp k1 with y | y
        · rcases Int.mul_eq_zero.mp y with x | x
          · exact absurd x n'
          · exact x
        · exact absurd y hv
      · rcases Int.mul_eq_zero.mp k2 with y | y
        · rcases Int.mul_eq_zero.mp y with x | x
          · exact absurd x n'
          · exact x
        · exact absurd y hv
    have f1 := lnF_z.mpr e1
    have f2 := lnF_z.mpr e2
    have f3 := lnF_z.mpr eg
    refine t ?_
    -- a line that is nought at all three
    have hA : ((A : Int) : Rat) ≠ 0 ∨ ((B : Int) : Rat) ≠ 0 := n.imp (fun n z => n (Rat.intCast_inj.mp (z.trans Rat.intCast_zero.symm))) (fun n z => n (Rat.intCast_inj.mp (z.trans Rat.intCast_zero.symm)))
    unfold lnF Aff.ev at f1 f2 f3
    simp only at f1 f2 f3
    rcases hA with hA | hA
    · refine rz_of hA ?_
      unfold cr
      grind
    · refine rz_of hA ?_
      unfold cr
      grind
  have q1 : v.x * (A * B' - A' * B) = (B * C' - B' * C) * v.w := by grind
  have q2 : v.y * (A * B' - A' * B) = (C * A' - C' * A) * v.w := by grind
  have hv : v.w ≠ 0 := by have := v.pos; omega
  obtain ⟨i1, i2, i3⟩ := p_id v.nf
  obtain ⟨s1, s2, s3⟩ := p_same (x := v.x) (y := v.y) (w := v.w) (x' := B * C' - B' * C) (y' := C * A' - C' * A) (w' := A * B' - A' * B) hv hw q1 q2
  have m : ∀ {x y z u : Int}, Bd β x → Bd β y → Bd β z → Bd β u → Bd (2 * β + 1) (x * y - z * u) := fun hx hy hz hu => (hx.mul hy (l := 2 * β) (by omega)).sub (hz.mul hu (by omega)) (by omega)
  refine ⟨?_, ?_, ?_⟩
  · rw [← i1, s1]; exact p1_bd hw (m b c' b' c)
  · rw [← i2, s2]; exact p2_bd hw (m c a' c' a)
  · rw [← i3, s3]; exact p3_bd hw (m a b' a' b)
theorem nbr {h : List Pt} (n3 : 3 ≤ h.length) (S : SOC h) {v : Pt} (hv : v ∈ h) : ∃ d g, (d, v) ∈ edg h ∧ (v, g) ∈ edg h ∧ 0 < cr d v g := by
  obtain ⟨xs, ys, rfl⟩ := List.append_of_mem hv
  have S1 : SOC (v :: (ys ++ xs)) := S.rot
  have len : (ys ++ xs).length = (xs ++ v :: ys).length - 1 := by simp; omega
  have rt : ∀ e, e ∈ edg (v :: (ys ++ xs)) → e ∈ edg (xs ++ v :: ys) := fun e he => edg_rot (xs := v :: ys) (ys := xs) he
  generalize ys ++ xs = r at *
  match r, S1, len, rt with
  | [], _, len, _ => simp only [List.length_nil] at len; omega
  | [g], _, len, _ => simp only [List.length_singleton] at len; omega
  | g :: b :: r, S1, _, rt =>
    refine ⟨topOf b r, g, rt _ List.mem_cons_self, rt _ (List.mem_cons_of_mem _ List.mem_cons_self), ?_⟩
    have := S1 v g (topOf b r) (List.Sublist.cons_cons _ (List.Sublist.cons_cons _ (List.singleton_sublist.mpr (topOf_mem r b))))
    rw [cr_rot2 v g (topOf b r)]
    exact this
theorem Fr.bz {β : Nat} {h : List Pt} (F : Fr β h) (n3 : 3 ≤ h.length) (S : SOC h) : ∀ v ∈ h, v.Bz (2 * β + 1) := by
  intro v hv
  obtain ⟨d, g, m1, m2, t⟩ := nbr n3 S hv
  exact ln_corner (F _ m1) (F _ m2) (by grind)
/-- neighbours among kept ones -/
theorem prs_filter (P : Pt → Bool) : ∀ (l : List Pt) (c p0 : Pt), (P c = true → p0 = c) → (P c = false → ∃ r, P r = false ∧ (p0, r) ∈ prs p0 [r]) → ∀ e ∈ prs p0 (l.filter P), e ∈ prs c l ∨ ((P c = false ∧ e.1 = p0 ∨ ∃ r, (e.1, r) ∈ prs c l ∧ P r = false) ∧ ∃ s, (s, e.2) ∈ prs c l ∧ P s = false)
  | [], c, p0, _, _, e, he => by cases he
  | q :: l, c, p0, h1, h2, e, he => by
    by_cases kq : P q = true
    · rw [List.filter_cons, if_pos kq] at he
      rcases List.mem_cons.mp he with z | z
      · subst z
        by_cases kc : P c = true
        · rw [h1 kc]; exact .inl List.mem_cons_self
        · exact .inr ⟨.inl ⟨Bool.eq_false_iff.mpr kc, rfl⟩, c, List.mem_cons_self, Bool.eq_false_iff.mpr kc⟩
      · rcases prs_filter P l q q (fun _ => rfl) (fun k => by rw [k] at kq; cases kq) e z with y | ⟨y1, s, y2, y3⟩
        · exact .inl (List.mem_cons_of_mem _ y)
        · refine .inr ⟨?_, s, List.mem_cons_of_mem _ y2, y3⟩
          rcases y1 with ⟨y1, _⟩ | ⟨r, y1, y4⟩
          · rw [y1] at kq; cases kq
          · exact .inr ⟨r, List.mem_cons_of_mem _ y1, y4⟩
    · have kq' : P q = false := Bool.eq_false_iff.mpr kq
      rw [List.filter_cons, if_neg kq] at he
      by_cases kc : P c = true
      · have pc := h1 kc
        rcases prs_filter P l q p0 (fun k => absurd k kq) (fun _ => ⟨q, kq', List.mem_cons_self⟩) e he with y | ⟨y1, s, y2, y3⟩
        · exact .inl (List.mem_cons_of_mem _ y)
        · refine .inr ⟨?_, s, List.mem_cons_of_mem _ y2, y3⟩
          rcases y1 with ⟨_, y1⟩ | ⟨r, y1, y4⟩
          · exact .inr ⟨q, by rw [y1, pc]; exact List.mem_cons_self, kq'⟩
          · exact .inr ⟨r, List.mem_cons_of_mem _ y1, y4⟩
      · have kc' : P c = false := Bool.eq_false_iff.mpr kc
        rcases prs_filter P l q p0 (fun k => absurd k kq) (fun _ => ⟨q, kq', List.mem_cons_self⟩) e he with y | ⟨y1, s, y2, y3⟩
        · exact .inl (List.mem_cons_of_mem _ y)
        · refine .inr ⟨?_, s, List.mem_cons_of_mem _ y2, y3⟩
          rcases y1 with ⟨_, y1⟩ | ⟨r, y1, y4⟩
          · exact .inl ⟨kc', y1⟩
          · exact .inr ⟨r, List.mem_cons_of_mem _ y1, y4⟩
theorem edg_filter (P : Pt → Bool) (R : List Pt) : ∀ e ∈ edg (R.filter P), e ∈ edg R ∨ ((∃ r, (e.1, r) ∈ edg R ∧ P r = false) ∧ ∃ s, (s, e.2) ∈ edg R ∧ P s = false) := by
  intro e he
  have hm := (edg_mem (u := e.1) (v := e.2) he).1
  obtain ⟨h1, h2⟩ := List.mem_filter.mp hm
  obtain ⟨c, hc⟩ : ∃ c, c = e.1 := ⟨_, rfl⟩
  rw [← hc] at h1 h2
  obtain ⟨xs, ys, rfl⟩ := List.append_of_mem h1
  have he' : e ∈ edg (c :: ((ys ++ xs).filter P)) := by
    have : (xs ++ c :: ys).filter P = xs.filter P ++ (c :: ys.filter P) := by rw [List.filter_append, List.filter_cons, if_pos h2]
    rw [this] at he
    have := edg_rot he
    rw [List.filter_append]; exact this
  have k : e ∈ prs c (((ys ++ xs) ++ [c]).filter P) := by
    have one : [c].filter P = [c] := by rw [List.filter_cons, if_pos h2]; rfl
    rw [List.filter_append, one]
    rcases List.mem_cons.mp (show e ∈ (topOf c ((ys ++ xs).filter P), c) :: prs c ((ys ++ xs).filter P) from he') with z | z
    · rw [prs_app, z]; exact List.mem_append_right _ List.mem_cons_self
    · rw [prs_app]; exact List.mem_append_left _ z
  have rt : ∀ e, e ∈ prs c ((ys ++ xs) ++ [c]) → e ∈ edg (xs ++ c :: ys) := fun e he => edg_rot (xs := c :: ys) (ys := xs) (edg_closed (a := c) (t := ys ++ xs) he)
  rcases prs_filter P _ c c (fun _ => rfl) (fun k => by rw [k] at h2; cases h2) e k with y | ⟨y1, s, y2, y3⟩
  · exact .inl (rt _ y)
  · refine .inr ⟨?_, s, rt _ y2, y3⟩
    rcases y1 with ⟨y1, _⟩ | ⟨r, y1, y4⟩
    · rw [y1] at h2; cases h2
    · exact ⟨r, rt _ y1, y4⟩
/-- the steps of a refined way lie on its steps -/
theorem refT_step (f : Aff) : ∀ (l : List Pt) (u : Pt), ∀ e ∈ prs u (refT f u l), ∃ d ∈ prs u l, cr d.1 d.2 e.1 = 0 ∧ cr d.1 d.2 e.2 = 0
  | [], u, e, he => by cases he
  | v :: l, u, e, he => by
    rw [refT_cons] at he
    by_cases q : f.ev u * f.ev v < 0
    · rw [if_pos q] at he
      have z : cr u v (cutP f u v) = 0 := by
        have := cutP_ev (mul_neg_ne q) (crF u v)
        rw [crF_ev, crF_ev, crF_ev, cr_aba, cr_abb] at this
        refine rz_of (mul_neg_ne q) ?_
        grind
      rcases List.mem_cons.mp (show e ∈ (u, cutP f u v) :: (cutP f u v, v) :: prs v (refT f v l) from he) with y | y
      · rw [y]; exact ⟨(u, v), List.mem_cons_self, cr_aba _ _, z⟩
      · rcases List.mem_cons.mp y with y | y
        · rw [y]; exact ⟨(u, v), List.mem_cons_self, z, cr_abb _ _⟩
        · obtain ⟨d, hd, k⟩ := refT_step f l v e y
          exact ⟨d, List.mem_cons_of_mem _ hd, k⟩
    · rw [if_neg q] at he
      rcases List.mem_cons.mp (show e ∈ (u, v) :: prs v (refT f v l) from he) with y | y
      · rw [y]; exact ⟨(u, v), List.mem_cons_self, cr_aba _ _, cr_abb _ _⟩
      · obtain ⟨d, hd, k⟩ := refT_step f l v e y
        exact ⟨d, List.mem_cons_of_mem _ hd, k⟩
theorem refR_step (f : Aff) (h : List Pt) : ∀ e ∈ edg (refR f h), ∃ d ∈ edg h, cr d.1 d.2 e.1 = 0 ∧ cr d.1 d.2 e.2 = 0 := by
  cases h with
  | nil => exact fun e he => by cases he
  | cons a l =>
    have k := refT_step f (a :: l) (topOf a l)
    have e : refR f (a :: l) = refT f (topOf a l) (a :: l) := rfl
    rw [e]
    have tp : topOf (topOf a l) (refT f (topOf a l) (a :: l)) = topOf a l := by rw [topOf_refT]; rfl
    cases q : refT f (topOf a l) (a :: l) with
    | nil => exact fun e he => by cases he
    | cons b m =>
      rw [q] at k tp
      intro e he
      have he : e ∈ prs (topOf b m) (b :: m) := he
      have tp : topOf b m = topOf a l := tp
      rw [tp] at he
      exact k e he
/-- the steps of a part lie on the edges or on the line of the cut -/
theorem clip_step (f : Aff) (h : List Pt) : ∀ e ∈ edg (clip f h), (∃ d ∈ edg h, cr d.1 d.2 e.1 = 0 ∧ cr d.1 d.2 e.2 = 0) ∨ (f.ev e.1 = 0 ∧ f.ev e.2 = 0) := by
  intro e he
  rw [clip_filter] at he
  have m := edg_mem (u := e.1) (v := e.2) he
  have k1 : 0 ≤ f.ev e.1 := of_decide_eq_true (List.mem_filter.mp m.1).2
  have k2 : 0 ≤ f.ev e.2 := of_decide_eq_true (List.mem_filter.mp m.2).2
  rcases edg_filter _ _ e he with y | ⟨⟨r, y1, y2⟩, s, y3, y4⟩
  · exact .inl (refR_step f h e y)
  · have y2 := of_decide_eq_false y2
    have y4 := of_decide_eq_false y4
    have n1 := ns_refR f h _ y1
    have n2 := ns_refR f h _ y3
    simp only at n1 n2
    refine .inr ⟨?_, ?_⟩
    · refine Rat.le_antisymm (Rat.not_lt.mp fun z => ?_) k1
      have := rmul_pos z (show 0 < - f.ev r by grind); grind
    · refine Rat.le_antisymm (Rat.not_lt.mp fun z => ?_) k2
      have := rmul_pos z (show 0 < - f.ev s by grind); grind
/-- a way from one point to another has a step -/
theorem step_ne : ∀ (M : List Pt) (u v : Pt), u ≠ v → ∃ e ∈ prs u (M ++ [v]), e.1 ≠ e.2
  | [], u, v, n => ⟨(u, v), List.mem_cons_self, n⟩
  | m :: M, u, v, n => by
    by_cases q : u = m
    · obtain ⟨e, he, k⟩ := step_ne M m v (by rw [← q]; exact n)
      exact ⟨e, List.mem_cons_of_mem _ he, k⟩
    · exact ⟨(u, m), List.mem_cons_self, q⟩
/-- each edge of the hull has a step of the round on its line -/
theorem hull_step {L h : List Pt} (S : OC L) (e : hull L = some h) : ∀ d ∈ edg h, ∃ s ∈ edg L, s.1 ≠ s.2 ∧ cr d.1 d.2 s.1 = 0 ∧ cr d.1 d.2 s.2 = 0 := by
  have H := hull_ok e
  have C := H.poly.cp
  obtain ⟨L1, L2, rfl, s⟩ := hull_sub S e
  intro d hd
  have dn := C.soc.edge_ne C.n3 d hd
  have S' : OC (L2 ++ L1) := S.rot
  have rt : ∀ x, x ∈ edg (L2 ++ L1) → x ∈ edg (L1 ++ L2) := fun x hx => edg_rot hx
  have cl : ∀ q ∈ L2 ++ L1, Cl h q := fun q hq => H.cl q (by simp only [List.mem_append] at *; grind)
  generalize L2 ++ L1 = R at *
  have me := edg_mem (u := d.1) (v := d.2) hd
  -- turn so that the first corner of the edge stands first
  obtain ⟨p, q, e1⟩ := List.append_of_mem me.1
  have hd2 : d ∈ edg (d.1 :: (q ++ p)) := edg_rot (xs := p) (ys := d.1 :: q) (by rw [← e1]; exact hd)
  have nd := C.soc.nodup C.n3
  have nd2 : (d.1 :: (q ++ p)).Nodup := by
    rw [e1] at nd
    have : (p ++ d.1 :: q).Perm (d.1 :: (q ++ p)) := by
      have := List.perm_append_comm (l₁ := p) (l₂ := d.1 :: q)
      exact this
    exact this.nodup_iff.mp nd
  rw [e1] at s
  obtain ⟨R1, R2, e2, s1, s2⟩ := List.append_sublist_iff.mp s
  have s3 : (d.1 :: (q ++ p)).Sublist (R2 ++ R1) := List.Sublist.append s2 s1
  have S3 : OC (R2 ++ R1) := by rw [e2] at S'; exact S'.rot
  have rt2 : ∀ x, x ∈ edg (R2 ++ R1) → x ∈ edg (L1 ++ L2) := fun x hx => rt x (by rw [e2]; exact edg_rot hx)
  have cl2 : ∀ w ∈ R2 ++ R1, Cl h w := fun w hw => cl w (by rw [e2]; simp only [List.mem_append] at *; grind)
  generalize R2 ++ R1 = R' at *
  -- the second one is the next
  obtain ⟨t, et⟩ : ∃ t, q ++ p = d.2 :: t := by
    rcases List.mem_cons.mp (show d ∈ (topOf d.1 (q ++ p), d.1) :: prs d.1 (q ++ p) from hd2) with z | z
    · exfalso
      have : d.2 = d.1 := congrArg Prod.snd z
      exact dn this.symm
    · obtain ⟨xs, ys, e3⟩ := prs_sub (u := d.1) (v := d.2) z
      cases xs with
      | nil => injection e3 with _ e3; exact ⟨ys, e3⟩
      | cons x xs =>
        injection e3 with e4 e5
        exfalso
        refine (List.nodup_cons.mp nd2).1 ?_
        rw [e5]; simp
  rw [et] at s3
  obtain ⟨P, Q, e3, s4, s5⟩ := List.append_sublist_iff.mp (show ([d.1] ++ d.2 :: t).Sublist R' from s3)
  obtain ⟨P1, P2, rfl⟩ := List.append_of_mem (List.singleton_sublist.mp s4)
  obtain ⟨Q1, Q2, e6⟩ := List.append_of_mem (s5.subset (List.mem_cons_self (a := d.2)))
  have e7 : R' = P1 ++ d.1 :: ((P2 ++ Q1) ++ d.2 :: Q2) := by rw [e3, e6]; simp
  obtain ⟨x, hx, nx⟩ := step_ne (P2 ++ Q1) d.1 d.2 dn
  have xR : x ∈ edg R' := by
    rw [e7]
    refine edg_rot (xs := d.1 :: ((P2 ++ Q1) ++ d.2 :: Q2)) (ys := P1) ?_
    show x ∈ edg (d.1 :: (((P2 ++ Q1) ++ d.2 :: Q2) ++ P1))
    refine List.mem_cons_of_mem _ ?_
    rw [show ((P2 ++ Q1) ++ d.2 :: Q2) ++ P1 = ((P2 ++ Q1) ++ [d.2]) ++ (Q2 ++ P1) by simp, prs_app]
    exact List.mem_append_left _ hx
  have onl : ∀ m ∈ d.1 :: ((P2 ++ Q1) ++ [d.2]), cr d.1 d.2 m = 0 := by
    intro m hm
    by_cases m1 : m = d.1
    · rw [m1, cr_aba]
    · by_cases m2 : m = d.2
      · rw [m2, cr_abb]
      · have hm' : m ∈ P2 ++ Q1 := by
          rcases List.mem_cons.mp hm with z | z
          · exact absurd z m1
          · rcases List.mem_append.mp z with z | z
            · exact z
            · exact absurd (List.mem_singleton.mp z) m2
        have g1 := cl2 m (by rw [e7]; simp only [List.mem_append, List.mem_cons] at *; grind) d hd
        have g2 := S3 d.1 m d.2 (by
          rw [e7]
          refine List.Sublist.trans ?_ (List.sublist_append_right P1 _)
          refine List.Sublist.cons_cons _ ?_
          exact List.Sublist.append (List.singleton_sublist.mpr hm') (List.Sublist.cons_cons _ (List.nil_sublist Q2)))
        rw [cr_swap] at g2
        grind
  have mx := prs_mem (u := x.1) (v := x.2) hx
  exact ⟨x, rt2 x xR, nx, onl _ mx.1, onl _ (List.mem_cons_of_mem _ mx.2)⟩
/-- the lines of a part are those of the whole and that of the cut -/
theorem Fr.half {β : Nat} {a b : Pt} {h k : List Pt} (F : Fr β h) (n3 : 3 ≤ h.length) (S : SOC h) (ab : a ≠ b) (l : Ln β a b) (e : half (crF a b) h = some k) : Fr β k := by
  intro d hd
  have C := half_cp e
  have dn := C.soc.edge_ne C.n3 d hd
  obtain ⟨s, hs, sn, z1, z2⟩ := hull_step (oc_clip S.oc) e d hd
  -- a line with the two points of the step
  have key : Ln β s.1 s.2 := by
    rcases clip_step _ _ s hs with ⟨x, hx, y1, y2⟩ | ⟨y1, y2⟩
    · obtain ⟨A, B, C, ha, hb, hc, n, e1, e2⟩ := F x hx
      have xn := S.edge_ne n3 x hx
      exact ⟨A, B, C, ha, hb, hc, n, lnF_z.mp (aff_line xn (lnF_z.mpr e1) (lnF_z.mpr e2) y1), lnF_z.mp (aff_line xn (lnF_z.mpr e1) (lnF_z.mpr e2) y2)⟩
    · rw [crF_ev] at y1 y2
      obtain ⟨A, B, C, ha, hb, hc, n, e1, e2⟩ := l
      exact ⟨A, B, C, ha, hb, hc, n, lnF_z.mp (aff_line ab (lnF_z.mpr e1) (lnF_z.mpr e2) y1), lnF_z.mp (aff_line ab (lnF_z.mpr e1) (lnF_z.mpr e2) y2)⟩
  obtain ⟨A, B, C, ha, hb, hc, n, e1, e2⟩ := key
  have c1 := col dn z1 z2 (cr_aba d.1 d.2)
  have c2 := col dn z1 z2 (cr_abb d.1 d.2)
  exact ⟨A, B, C, ha, hb, hc, n, lnF_z.mp (aff_line sn (lnF_z.mpr e1) (lnF_z.mpr e2) c1), lnF_z.mp (aff_line sn (lnF_z.mpr e1) (lnF_z.mpr e2) c2)⟩
theorem hull_len' {L h : List Pt} (S : OC L) (e : hull L = some h) : h.length ≤ L.length := by
  obtain ⟨L1, L2, rfl, s⟩ := hull_sub S e
  have := s.length_le
  simp only [List.length_append] at *
  omega
theorem edg_len (h : List Pt) : (edg h).length = h.length := by
  rw [← List.length_map (f := fun e : Pt × Pt => e.2), edg_snd]
theorem clip_len (f : Aff) (h : List Pt) : (clip f h).length ≤ 2 * h.length := by
  have : ∀ es : List (Pt × Pt), (es.flatMap fun e => (if f.ev e.1 * f.ev e.2 < 0 then [cutP f e.1 e.2] else []) ++ (if 0 ≤ f.ev e.2 then [e.2] else [])).length ≤ 2 * es.length := by
    intro es
    induction es with
    | nil => exact Nat.le_refl _
    | cons e es ih =>
      rw [List.flatMap_cons, List.length_append, List.length_append, List.length_cons]
      have h1 : (if f.ev e.1 * f.ev e.2 < 0 then [cutP f e.1 e.2] else []).length ≤ 1 := by split <;> simp
      have h2 : (if 0 ≤ f.ev e.2 then [e.2] else []).length ≤ 1 := by split <;> simp
      omega
  rw [← edg_len h]
  exact this _
theorem half_len {f : Aff} {h k : List Pt} (S : OC h) (e : half f h = some k) : k.length ≤ 2 * h.length := Nat.le_trans (hull_len' (oc_clip S) e) (clip_len f h)
end Pt
end Dn

namespace Dn
open PySem
/-! ### loops and comprehensions, by what they carry on -/
theorem forG_fold {α X : Type} {t : GT} {body : GS} (enc : X → D) (I : α → Dn.Env → Prop) (step : α → X → α) : ∀ (xs : List X) (a : α) (env : Dn.Env), I a env →
    (∀ a x env, x ∈ xs → I a env → ∃ e1 e2, t (enc x) env = some e1 ∧ (body e1 = some (.nx e2) ∨ body e1 = some (.ct e2)) ∧ I (step a x) e2) →
    ∃ e2, forG t body (xs.map enc) env = some (.nx e2) ∧ I (xs.foldl step a) e2
  | [], a, env, h0, _ => ⟨env, rfl, h0⟩
  | x :: xs, a, env, h0, h => by
    obtain ⟨e1, e2, h1, h2, h3⟩ := h a x env List.mem_cons_self h0
    obtain ⟨e3, h4, h5⟩ := forG_fold enc I step xs (step a x) e2 h3 (fun a y env hy => h a y env (List.mem_cons_of_mem _ hy))
    refine ⟨e3, ?_, h5⟩
    rw [List.map_cons, forG_cons, h1]
    rcases h2 with h2 | h2
    · simp only [Option.bind_some, h2, turnS_nx]; exact h4
    · simp only [Option.bind_some, h2, turnS_ct]; exact h4
/-- a loop that may end the def -/
def foldE {α X : Type} (step : α → X → α ⊕ D) : List X → α → α ⊕ D
  | [], a => .inl a
  | x :: xs, a => match step a x with
    | .inl a' => foldE step xs a'
    | .inr d => .inr d
theorem foldE_nil {α X : Type} (step : α → X → α ⊕ D) (a : α) : foldE step [] a = .inl a := rfl
theorem foldE_inl {α X : Type} {step : α → X → α ⊕ D} {x : X} {xs : List X} {a a' : α} (h : step a x = .inl a') : foldE step (x :: xs) a = foldE step xs a' := by
  show (match step a x with | .inl a' => foldE step xs a' | .inr d => .inr d) = _
  rw [h]
theorem foldE_inr {α X : Type} {step : α → X → α ⊕ D} {x : X} {xs : List X} {a : α} {d : D} (h : step a x = .inr d) : foldE step (x :: xs) a = .inr d := by
  show (match step a x with | .inl a' => foldE step xs a' | .inr d => .inr d) = _
  rw [h]
theorem forG_ret {α X : Type} {t : GT} {body : GS} (enc : X → D) (I : α → Dn.Env → Prop) (step : α → X → α ⊕ D) : ∀ (xs : List X) (a : α) (env : Dn.Env), I a env →
    (∀ a x env, x ∈ xs → I a env → ∃ e1, t (enc x) env = some e1 ∧ ((∀ a', step a x = .inl a' → ∃ e2, (body e1 = some (.nx e2) ∨ body e1 = some (.ct e2)) ∧ I a' e2) ∧ ∀ d, step a x = .inr d → body e1 = some (.ret d))) →
    (∀ d, foldE step xs a = .inr d → forG t body (xs.map enc) env = some (.ret d)) ∧ ∀ a', foldE step xs a = .inl a' → ∃ e2, forG t body (xs.map enc) env = some (.nx e2) ∧ I a' e2
  | [], a, env, h0, _ => ⟨fun d h => (by cases h), fun a' h => (by cases h; exact ⟨env, rfl, h0⟩)⟩
  | x :: xs, a, env, h0, h => by
    obtain ⟨e1, h1, h2, h3⟩ := h a x env List.mem_cons_self h0
    rw [List.map_cons, forG_cons, h1, Option.bind_some]
    cases q : step a x with
    | inr d =>
      rw [foldE_inr q, h3 d q]
      exact ⟨fun d' k => (by cases k; rfl), fun a' k => (by cases k)⟩
    | inl a' =>
      obtain ⟨e2, h4, h5⟩ := h2 a' q
      obtain ⟨i1, i2⟩ := forG_ret enc I step xs a' e2 h5 (fun a y env hy => h a y env (List.mem_cons_of_mem _ hy))
      rw [foldE_inl q]
      rcases h4 with h4 | h4
      · rw [h4]; exact ⟨i1, i2⟩
      · rw [h4]; exact ⟨i1, i2⟩
/-- a loop by its number of turns -/
theorem forG_from {t : GT} {body : GS} (I : Nat → Dn.Env → Prop) (lo0 : Int) : ∀ (m lo : Nat) (env : Dn.Env), I lo env →
    (∀ i env, lo ≤ i → i < lo + m → I i env → ∃ e1 e2, t (.int (lo0 + (i : Int))) env = some e1 ∧ (body e1 = some (.nx e2) ∨ body e1 = some (.ct e2)) ∧ I (i + 1) e2) →
    ∃ e2, forG t body (rngD (lo0 + (lo : Int)) m) env = some (.nx e2) ∧ I (lo + m) e2
  | 0, lo, env, h0, _ => ⟨env, rfl, h0⟩
  | m + 1, lo, env, h0, h => by
    obtain ⟨e1, e2, h1, h2, h3⟩ := h lo env (Nat.le_refl _) (by omega) h0
    obtain ⟨e3, h4, h5⟩ := forG_from I lo0 m (lo + 1) e2 h3 (fun i env h1 h2 => h i env (by omega) (by omega))
    refine ⟨e3, ?_, by rw [show lo + (m + 1) = lo + 1 + m by omega]; exact h5⟩
    rw [rngD_succ, forG_cons, h1, Option.bind_some]
    rw [show lo0 + (lo : Int) + 1 = lo0 + ((lo + 1 : Nat) : Int) by omega]
    rcases h2 with h2 | h2
    · rw [h2]; exact h4
    · rw [h2]; exact h4
theorem forG_idx {t : GT} {body : GS} (I : Nat → Dn.Env → Prop) (n : Nat) (env : Dn.Env) (h0 : I 0 env)
    (h : ∀ i env, i < n → I i env → ∃ e1 e2, t (.int (i : Int)) env = some e1 ∧ (body e1 = some (.nx e2) ∨ body e1 = some (.ct e2)) ∧ I (i + 1) e2) :
    ∃ e2, forG t body (rngD 0 n) env = some (.nx e2) ∧ I n e2 := by
  have k := forG_from (t := t) (body := body) I 0 n 0 env h0 (fun i env _ h2 hI => by rw [Int.zero_add]; exact h i env (by omega) hI)
  rw [Nat.zero_add] at k
  exact k
theorem forG_idx1 {t : GT} {body : GS} (lo : Int) (I : Nat → Dn.Env → Prop) (n : Nat) (env : Dn.Env) (h0 : I 0 env)
    (h : ∀ i env, i < n → I i env → ∃ e1 e2, t (.int (lo + (i : Int))) env = some e1 ∧ (body e1 = some (.nx e2) ∨ body e1 = some (.ct e2)) ∧ I (i + 1) e2) :
    ∃ e2, forG t body (rngD lo n) env = some (.nx e2) ∧ I n e2 := by
  have k := forG_from (t := t) (body := body) I lo n 0 env h0 (fun i env _ h2 hI => h i env (by omega) hI)
  rw [Nat.zero_add, show lo + ((0 : Nat) : Int) = lo by omega] at k
  exact k
/-- a loop that may end the def, by its number of turns -/
theorem forG_fromR {t : GT} {body : GS} (I : Nat → Dn.Env → Prop) (R : Nat → D → Prop) (lo0 : Int) : ∀ (m lo : Nat) (env : Dn.Env), I lo env →
    (∀ i env, lo ≤ i → i < lo + m → I i env → ∃ e1, t (.int (lo0 + (i : Int))) env = some e1 ∧ ((∃ e2, (body e1 = some (.nx e2) ∨ body e1 = some (.ct e2)) ∧ I (i + 1) e2) ∨ ∃ d, body e1 = some (.ret d) ∧ R i d)) →
    (∃ e2, forG t body (rngD (lo0 + (lo : Int)) m) env = some (.nx e2) ∧ I (lo + m) e2) ∨ ∃ i d, i < lo + m ∧ forG t body (rngD (lo0 + (lo : Int)) m) env = some (.ret d) ∧ R i d
  | 0, lo, env, h0, _ => .inl ⟨env, rfl, h0⟩
  | m + 1, lo, env, h0, h => by
    obtain ⟨e1, h1, h2⟩ := h lo env (Nat.le_refl _) (by omega) h0
    rw [rngD_succ, forG_cons, h1, Option.bind_some]
    rcases h2 with ⟨e2, h2, h3⟩ | ⟨d, h2, h3⟩
    · have k := forG_fromR I R lo0 m (lo + 1) e2 h3 (fun i env h1 h2 => h i env (by omega) (by omega))
      rw [show lo + 1 + m = lo + (m + 1) by omega, show lo0 + ((lo + 1 : Nat) : Int) = lo0 + (lo : Int) + 1 by omega] at k
      rcases h2 with h2 | h2
      · rw [h2]; exact k
      · rw [h2]; exact k
    · rw [h2]
      exact .inr ⟨lo, d, by omega, rfl, h3⟩
theorem forG_idxR {t : GT} {body : GS} (I : Nat → Dn.Env → Prop) (R : Nat → D → Prop) (n : Nat) (env : Dn.Env) (h0 : I 0 env)
    (h : ∀ i env, i < n → I i env → ∃ e1, t (.int (i : Int)) env = some e1 ∧ ((∃ e2, (body e1 = some (.nx e2) ∨ body e1 = some (.ct e2)) ∧ I (i + 1) e2) ∨ ∃ d, body e1 = some (.ret d) ∧ R i d)) :
    (∃ e2, forG t body (rngD 0 n) env = some (.nx e2) ∧ I n e2) ∨ ∃ i d, i < n ∧ forG t body (rngD 0 n) env = some (.ret d) ∧ R i d := by
  have k := forG_fromR (t := t) (body := body) I R 0 n 0 env h0 (fun i env _ h2 hI => by rw [Int.zero_add]; exact h i env (by omega) hI)
  rw [Nat.zero_add] at k
  exact k
theorem forG_idxR1 {t : GT} {body : GS} (lo : Int) (I : Nat → Dn.Env → Prop) (R : Nat → D → Prop) (n : Nat) (env : Dn.Env) (h0 : I 0 env)
    (h : ∀ i env, i < n → I i env → ∃ e1, t (.int (lo + (i : Int))) env = some e1 ∧ ((∃ e2, (body e1 = some (.nx e2) ∨ body e1 = some (.ct e2)) ∧ I (i + 1) e2) ∨ ∃ d, body e1 = some (.ret d) ∧ R i d)) :
    (∃ e2, forG t body (rngD lo n) env = some (.nx e2) ∧ I n e2) ∨ ∃ i d, i < n ∧ forG t body (rngD lo n) env = some (.ret d) ∧ R i d := by
  have k := forG_fromR (t := t) (body := body) I R lo n 0 env h0 (fun i env _ h2 hI => h i env (by omega) hI)
  rw [Nat.zero_add, show lo + ((0 : Nat) : Int) = lo by omega] at k
  exact k
/-- a loop over a list, by what it has gone through -/
theorem forG_pre {X : Type} {t : GT} {body : GS} (enc : X → D) (I : List X → Dn.Env → Prop) : ∀ (xs pre : List X) (env : Dn.Env), I pre env →
    (∀ p x q env, pre ++ xs = p ++ x :: q → I p env → ∃ e1 e2, t (enc x) env = some e1 ∧ (body e1 = some (.nx e2) ∨ body e1 = some (.ct e2)) ∧ I (p ++ [x]) e2) →
    ∃ e2, forG t body (xs.map enc) env = some (.nx e2) ∧ I (pre ++ xs) e2
  | [], pre, env, h0, _ => ⟨env, rfl, by rw [List.append_nil]; exact h0⟩
  | x :: xs, pre, env, h0, h => by
    obtain ⟨e1, e2, h1, h2, h3⟩ := h pre x xs env rfl h0
    obtain ⟨e3, h4, h5⟩ := forG_pre enc I xs (pre ++ [x]) e2 h3 (fun p y q env e => h p y q env (by rw [← e, List.append_assoc]; rfl))
    refine ⟨e3, ?_, by rw [List.append_assoc] at h5; exact h5⟩
    rw [List.map_cons, forG_cons, h1, Option.bind_some]
    rcases h2 with h2 | h2
    · rw [h2]; exact h4
    · rw [h2]; exact h4
theorem forG_preR {X : Type} {t : GT} {body : GS} (enc : X → D) (I : List X → Dn.Env → Prop) (R : List X → X → D → Prop) : ∀ (xs pre : List X) (env : Dn.Env), I pre env →
    (∀ p x q env, pre ++ xs = p ++ x :: q → I p env → ∃ e1, t (enc x) env = some e1 ∧ ((∃ e2, (body e1 = some (.nx e2) ∨ body e1 = some (.ct e2)) ∧ I (p ++ [x]) e2) ∨ ∃ d, body e1 = some (.ret d) ∧ R p x d)) →
    (∃ e2, forG t body (xs.map enc) env = some (.nx e2) ∧ I (pre ++ xs) e2) ∨ ∃ p x q d, pre ++ xs = p ++ x :: q ∧ forG t body (xs.map enc) env = some (.ret d) ∧ R p x d
  | [], pre, env, h0, _ => .inl ⟨env, rfl, by rw [List.append_nil]; exact h0⟩
  | x :: xs, pre, env, h0, h => by
    obtain ⟨e1, h1, h2⟩ := h pre x xs env rfl h0
    rw [List.map_cons, forG_cons, h1, Option.bind_some]
    rcases h2 with ⟨e2, h2, h3⟩ | ⟨d, h2, h3⟩
    · have k := forG_preR enc I R xs (pre ++ [x]) e2 h3 (fun p y q env e => h p y q env (by rw [← e, List.append_assoc]; rfl))
      rw [List.append_assoc] at k
      rcases h2 with h2 | h2
      · rw [h2]; exact k
      · rw [h2]; exact k
    · rw [h2]
      exact .inr ⟨pre, x, xs, d, rfl, rfl, h3⟩
theorem rng_map (lo : Int) (n : Nat) : rngD lo n = (List.range n).map fun i : Nat => PyData.int (lo + (i : Int)) := rfl
theorem rng_map0 (n : Nat) : rngD 0 n = (List.range n).map fun i : Nat => PyData.int (i : Int) := by
  rw [rng_map]
  exact List.map_congr_left fun i _ => by rw [Int.zero_add]
theorem compG_eq {X : Type} {t : GT} {c : GB} {e : GE} {env : Dn.Env} (enc : X → D) (p : X → Bool) (g : X → D) : ∀ xs : List X, (∀ x ∈ xs, ∃ env1, t (enc x) env = some env1 ∧ c env1 = some (p x) ∧ (p x = true → e env1 = some (g x))) → compG t c e env (xs.map enc) = some ((xs.filter p).map g)
  | [], _ => rfl
  | x :: xs, h => by
    obtain ⟨env1, h1, h2, h3⟩ := h x List.mem_cons_self
    have ih := compG_eq enc p g xs (fun y hy => h y (List.mem_cons_of_mem _ hy))
    rw [List.map_cons, compG_cons, h1, Option.bind_some, h2, Option.bind_some, ih]
    by_cases q : p x = true
    · rw [if_pos q, h3 q, List.filter_cons, if_pos q]; rfl
    · rw [if_neg q, List.filter_cons, if_neg q]
theorem gComp_eq {X : Type} {vs : List Nat} {gi : GA} {t : GT} {c : GB} {e : GE} {env : Dn.Env} (enc : X → D) (p : X → Bool) (g : X → D) (xs : List X) (hg : gi env = some (xs.map enc)) (hn : noOwB env vs = true) (hl : xs.length < lim) (h : ∀ x ∈ xs, ∃ env1, t (enc x) (wipeE env vs) = some env1 ∧ c env1 = some (p x) ∧ (p x = true → e env1 = some (g x))) : gComp vs gi t c e env = some (.list ((xs.filter p).map g)) := by
  unfold gComp
  rw [hg, Option.bind_some, hn, List.length_map, decide_eq_true hl, compG_eq enc p g xs h]
  rfl
theorem gComp_all {X : Type} {vs : List Nat} {gi : GA} {t : GT} {e : GE} {env : Dn.Env} (enc : X → D) (g : X → D) (xs : List X) (hg : gi env = some (xs.map enc)) (hn : noOwB env vs = true) (hl : xs.length < lim) (h : ∀ x ∈ xs, ∃ env1, t (enc x) (wipeE env vs) = some env1 ∧ e env1 = some (g x)) : gComp vs gi t gYes e env = some (.list (xs.map g)) := by
  have k := gComp_eq (c := gYes) (vs := vs) (gi := gi) (t := t) (e := e) (env := env) enc (fun _ => true) g xs hg hn hl (fun x hx => by
    obtain ⟨env1, h1, h2⟩ := h x hx
    exact ⟨env1, h1, rfl, fun _ => h2⟩)
  rw [List.filter_eq_self.mpr (fun _ _ => rfl)] at k
  exact k
theorem whileG_fold {α : Type} {c : GB} {body : GS} (I : α → Dn.Env → Prop) (nxt : α → Option α) (out : Nat → α → Option α) (hout0 : ∀ n a, nxt a = none → out (n + 1) a = some a) (houtS : ∀ n a a', nxt a = some a' → out (n + 1) a = out n a') (h : ∀ a env, I a env → (nxt a = none → c env = some false) ∧ ∀ a', nxt a = some a' → c env = some true ∧ ∃ e2, body env = some (.nx e2) ∧ I a' e2) (hz : ∀ a, out 0 a = none) :
    ∀ (n : Nat) (a : α) (env : Dn.Env) (a' : α), I a env → out n a = some a' → ∃ e2, whileG c body n env = some (.nx e2) ∧ I a' e2
  | 0, a, env, a', _, ho => by rw [hz] at ho; cases ho
  | n + 1, a, env, a', h0, ho => by
    obtain ⟨h1, h2⟩ := h a env h0
    cases q : nxt a with
    | none =>
      rw [hout0 n a q] at ho
      cases ho
      refine ⟨env, ?_, h0⟩
      show (c env).bind _ = _
      rw [h1 q]; rfl
    | some b =>
      rw [houtS n a b q] at ho
      obtain ⟨k1, e2, k2, k3⟩ := h2 b q
      obtain ⟨e3, k4, k5⟩ := whileG_fold I nxt out hout0 houtS h hz n b e2 a' k3 ho
      refine ⟨e3, ?_, k5⟩
      show (c env).bind _ = _
      rw [k1, Option.bind_some, if_pos rfl, k2, Option.bind_some]
      exact k4
/-! ### numbers are fractions -/
def qD (q : Rat) : D := pr q.num (q.den : Int)
structure Qz (k : Nat) (q : Rat) : Prop where
  n : Bd k q.num
  d : Bd k (q.den : Int)
theorem Qz.mono {j k : Nat} {q : Rat} (h : Qz j q) (l : j ≤ k) : Qz k q := ⟨h.n.mono l, h.d.mono l⟩
theorem den_ne (q : Rat) : (q.den : Int) ≠ 0 := by have := q.den_nz; omega
theorem nm_q {n d : Int} (h : d ≠ 0) : nmN n d = ((n : Rat) / (d : Rat)).num ∧ nmD n d = (((n : Rat) / (d : Rat)).den : Int) := by
  rw [← Rat.divInt_eq_div, Rat.num_divInt, Rat.den_divInt, if_neg h]
  unfold nmN nmD
  rw [Int.gcd_comm d n]
  rcases Int.lt_trichotomy d 0 with z | z | z
  · rw [if_pos z, if_pos z, Int.sign_eq_neg_one_of_neg z]
    constructor
    · rw [Int.neg_mul, Int.one_mul]
    · rw [Int.natCast_ediv, show ((d.natAbs : Nat) : Int) = -d by omega]
  · exact absurd z h
  · rw [if_neg (by omega), if_neg (by omega), Int.sign_eq_one_of_pos z]
    constructor
    · rw [Int.one_mul]
    · rw [Int.natCast_ediv, show ((d.natAbs : Nat) : Int) = d by omega]
theorem pr_q {n d : Int} (h : d ≠ 0) : pr (nmN n d) (nmD n d) = qD ((n : Rat) / (d : Rat)) := by
  obtain ⟨h1, h2⟩ := nm_q (n := n) h
  unfold qD; rw [h1, h2]
theorem icast_ne {d : Int} (h : d ≠ 0) : (d : Rat) ≠ 0 := fun z => h (Rat.intCast_inj.mp (z.trans Rat.intCast_zero.symm))
theorem Qz.of {k : Nat} {n d : Int} (h : d ≠ 0) (hn : Bd k n) (hd : Bd k d) : Qz k ((n : Rat) / (d : Rat)) := by
  obtain ⟨h1, h2⟩ := nm_q (n := n) h
  exact ⟨by rw [← h1]; exact nmN_bd h hn, by rw [← h2]; exact nmD_bd h hd⟩
theorem q_frac (q : Rat) : q = (q.num : Rat) / ((q.den : Int) : Rat) := by
  have := Rat.num_divInt_den q
  rw [Rat.divInt_eq_div] at this
  exact this.symm
theorem q_add (a b : Rat) : a + b = ((a.num * (b.den : Int) + b.num * (a.den : Int) : Int) : Rat) / (((a.den : Int) * (b.den : Int) : Int) : Rat) := by
  have ha := q_frac a
  have hb := q_frac b
  have za := icast_ne (den_ne a)
  have zb := icast_ne (den_ne b)
  simp only [Rat.intCast_add, Rat.intCast_mul]
  grind
theorem q_sub (a b : Rat) : a - b = ((a.num * (b.den : Int) - b.num * (a.den : Int) : Int) : Rat) / (((a.den : Int) * (b.den : Int) : Int) : Rat) := by
  have ha := q_frac a
  have hb := q_frac b
  have za := icast_ne (den_ne a)
  have zb := icast_ne (den_ne b)
  simp only [Rat.intCast_sub, Rat.intCast_mul]
  grind
theorem q_mul (a b : Rat) : a * b = ((a.num * b.num : Int) : Rat) / (((a.den : Int) * (b.den : Int) : Int) : Rat) := by
  have ha := q_frac a
  have hb := q_frac b
  have za := icast_ne (den_ne a)
  have zb := icast_ne (den_ne b)
  simp only [Rat.intCast_mul]
  grind
theorem den2_ne (a b : Rat) : (a.den : Int) * (b.den : Int) ≠ 0 := Int.mul_ne_zero (den_ne a) (den_ne b)
theorem Qz.add {j k : Nat} {a b : Rat} (ha : Qz j a) (hb : Qz k b) : Qz (j + k + 1) (a + b) := by
  rw [q_add]
  refine Qz.of (den2_ne a b) ((ha.n.mul hb.d (l := j + k) (by omega)).add (hb.n.mul ha.d (by omega)) (by omega)) (ha.d.mul hb.d (by omega))
theorem Qz.sub {j k : Nat} {a b : Rat} (ha : Qz j a) (hb : Qz k b) : Qz (j + k + 1) (a - b) := by
  rw [q_sub]
  refine Qz.of (den2_ne a b) ((ha.n.mul hb.d (l := j + k) (by omega)).sub (hb.n.mul ha.d (by omega)) (by omega)) (ha.d.mul hb.d (by omega))
theorem Qz.mul {j k : Nat} {a b : Rat} (ha : Qz j a) (hb : Qz k b) : Qz (j + k) (a * b) := by
  rw [q_mul]
  exact Qz.of (den2_ne a b) (ha.n.mul hb.n (by omega)) (ha.d.mul hb.d (by omega))
theorem qD_inj {a b : Rat} (h : qD a = qD b) : a = b := by
  unfold qD pr at h
  injection h with h
  injection h with h1 h2
  injection h2 with h2 _
  injection h1 with h1
  injection h2 with h2
  rw [q_frac a, q_frac b, h1, h2]
theorem qD_shaped (q : Rat) : SeqAt.shaped (qD q) = true := rfl
theorem qD_eqv (a b : Rat) : PyData.eqv (qD a) (qD b) = decide (a = b) := by
  show ((a.num == b.num) && (((a.den : Int) == (b.den : Int)) && true)) = _
  rw [Bool.and_true]
  by_cases h : a = b
  · subst h; simp
  · rw [decide_eq_false h]
    by_cases h1 : a.num = b.num
    · have h2 : (a.den : Int) ≠ (b.den : Int) := fun h2 => h (by rw [q_frac a, q_frac b, h1, h2])
      simp [h1, h2]
    · simp [h1]
theorem vEq_q (a b : Rat) : vEq (qD a) (qD b) = some (.bool (decide (a = b))) := by
  show vEqG (qD a) (qD b) = _
  unfold vEqG
  rw [qD_shaped, qD_shaped, qD_eqv]; rfl
theorem vNe_q (a b : Rat) : vNe (qD a) (qD b) = some (.bool (!decide (a = b))) := by
  show vNeG (qD a) (qD b) = _
  unfold vNeG
  rw [qD_shaped, qD_shaped, qD_eqv]; rfl
theorem vEq_d (a b : Pt) : vEq a.d b.d = some (.bool (decide (a = b))) := by
  show vEqG a.d b.d = _
  unfold vEqG
  rw [a.d_shaped, b.d_shaped, d_eqv]; rfl
theorem vNe_d (a b : Pt) : vNe a.d b.d = some (.bool (!decide (a = b))) := by
  show vNeG a.d b.d = _
  unfold vNeG
  rw [a.d_shaped, b.d_shaped, d_eqv]; rfl
def hullD : Option (List Pt) → D
  | none => .none
  | some h => .tuple (dP h)
/-- places in a round -/
def prvI' (n i : Nat) : Nat := (i + n - 1) % n
theorem range_map_get {X : Type} (xs : List X) (d : X) : (List.range xs.length).map (fun i => xs.getD i d) = xs := by
  refine List.ext_getElem (by simp) fun i h1 h2 => ?_
  simp [List.getD_eq_getElem?_getD, List.getElem?_eq_getElem h2]
end Dn

namespace Dn
open PySem
/-! ### rounds by their edges -/
theorem topOf_get : ∀ (l : List Pt) (a : Pt), (a :: l)[l.length]? = some (Pt.topOf a l)
  | [], _ => rfl
  | b :: l, a => topOf_get l b
theorem prs_get : ∀ (l : List Pt) (a : Pt) (i : Nat), i < l.length → ∃ u v, (a :: l)[i]? = some u ∧ l[i]? = some v ∧ (Pt.prs a l)[i]? = some (u, v)
  | [], _, i, h => by cases h
  | b :: l, a, 0, _ => ⟨a, b, rfl, rfl, rfl⟩
  | b :: l, a, i + 1, h => by
    obtain ⟨u, v, h1, h2, h3⟩ := prs_get l b i (by simpa using h)
    exact ⟨u, v, h1, h2, h3⟩
theorem edg_get {h : List Pt} {i : Nat} (hi : i < h.length) : ∃ u v, atD (dP h) ((i : Int) - 1) = some u.d ∧ atD (dP h) (i : Int) = some v.d ∧ (Pt.edg h)[i]? = some (u, v) := by
  cases h with
  | nil => cases hi
  | cons a l =>
    obtain ⟨u, v, h1, h2, h3⟩ := prs_get (a :: l) (Pt.topOf a l) i hi
    refine ⟨u, v, ?_, by rw [atD_nat, dP_get, h2]; rfl, h3⟩
    cases i with
    | zero =>
      have : u = Pt.topOf a l := (Option.some.inj h1).symm
      subst this
      unfold atD
      rw [dP_length, if_pos (by omega), if_pos (by simp only [List.length_cons]; omega), show (((0 : Nat) : Int) - 1 + ((a :: l).length : Int)).toNat = l.length by simp only [List.length_cons]; omega, dP_get, topOf_get]
      rfl
    | succ j =>
      have h1 : (a :: l)[j]? = some u := h1
      rw [show (((j + 1 : Nat) : Int) - 1) = (j : Int) by omega, atD_nat, dP_get, h1]; rfl
theorem forG_edgR {t : GT} {body : GS} (h : List Pt) (I : List (Pt × Pt) → Dn.Env → Prop) (R : Pt × Pt → D → Prop) (env : Dn.Env) (h0 : I [] env)
    (H : ∀ (pre : List (Pt × Pt)) (u v : Pt) (post : List (Pt × Pt)) (env : Dn.Env) (i : Nat), Pt.edg h = pre ++ (u, v) :: post → i < h.length → pre.length = i → atD (dP h) ((i : Int) - 1) = some u.d → atD (dP h) (i : Int) = some v.d → I pre env → ∃ e1, t (.int (i : Int)) env = some e1 ∧ ((∃ e2, (body e1 = some (.nx e2) ∨ body e1 = some (.ct e2)) ∧ I (pre ++ [(u, v)]) e2) ∨ ∃ d, body e1 = some (.ret d) ∧ R (u, v) d)) :
    (∃ e2, forG t body (rngD 0 h.length) env = some (.nx e2) ∧ I (Pt.edg h) e2) ∨ ∃ e ∈ Pt.edg h, ∃ d, forG t body (rngD 0 h.length) env = some (.ret d) ∧ R e d := by
  have el := Pt.edg_len h
  rcases forG_idxR (t := t) (body := body) (fun i env => I ((Pt.edg h).take i) env) (fun i d => ∃ e ∈ Pt.edg h, R e d) h.length env (by rw [List.take_zero]; exact h0) (fun i env hi hI => by
    obtain ⟨u, v, h1, h2, h3⟩ := edg_get hi
    have e1 : Pt.edg h = (Pt.edg h).take i ++ (u, v) :: (Pt.edg h).drop (i + 1) := by
      have := List.take_append_drop i (Pt.edg h)
      rw [List.drop_eq_getElem_cons (by omega)] at this
      rw [List.getElem?_eq_getElem (by omega)] at h3
      rw [Option.some.inj h3] at this
      exact this.symm
    obtain ⟨e', k1, k2⟩ := H ((Pt.edg h).take i) u v _ env i e1 hi (by rw [List.length_take]; omega) h1 h2 hI
    refine ⟨e', k1, ?_⟩
    rcases k2 with ⟨e2, k2, k3⟩ | ⟨d, k2, k3⟩
    · refine .inl ⟨e2, k2, ?_⟩
      rw [List.take_add_one, h3]; exact k3
    · exact .inr ⟨d, k2, (u, v), List.mem_of_getElem? h3, k3⟩) with ⟨e2, k1, k2⟩ | ⟨i, d, hi, k1, k2⟩
  · refine .inl ⟨e2, k1, ?_⟩
    rw [List.take_of_length_le (by omega)] at k2; exact k2
  · obtain ⟨e, he, k2⟩ := k2
    exact .inr ⟨e, he, d, k1, k2⟩
theorem forG_edg {t : GT} {body : GS} (h : List Pt) (I : List (Pt × Pt) → Dn.Env → Prop) (env : Dn.Env) (h0 : I [] env)
    (H : ∀ (pre : List (Pt × Pt)) (u v : Pt) (post : List (Pt × Pt)) (env : Dn.Env) (i : Nat), Pt.edg h = pre ++ (u, v) :: post → i < h.length → pre.length = i → atD (dP h) ((i : Int) - 1) = some u.d → atD (dP h) (i : Int) = some v.d → I pre env → ∃ e1 e2, t (.int (i : Int)) env = some e1 ∧ (body e1 = some (.nx e2) ∨ body e1 = some (.ct e2)) ∧ I (pre ++ [(u, v)]) e2) :
    ∃ e2, forG t body (rngD 0 h.length) env = some (.nx e2) ∧ I (Pt.edg h) e2 := by
  rcases forG_edgR (t := t) (body := body) h I (fun _ _ => False) env h0 (fun pre u v post env i a b c d e f => by
    obtain ⟨e1, e2, k1, k2, k3⟩ := H pre u v post env i a b c d e f
    exact ⟨e1, k1, .inl ⟨e2, k2, k3⟩⟩) with k | ⟨_, _, _, _, k⟩
  · exact k
  · exact k.elim
theorem edg_in {h : List Pt} {pre post : List (Pt × Pt)} {u v : Pt} (e : Pt.edg h = pre ++ (u, v) :: post) : (u, v) ∈ Pt.edg h := by rw [e]; simp
theorem rg_len {n : Nat} (h : n ≤ 1000000) : vRange1 (.int ((n : Nat) : Int)) = some (rngD 0 n) := by rw [vRange1_int (by omega)]; rfl
theorem rg_len2 {n : Nat} (h : n ≤ 1000000) : vRange2 (.int 1) (.int ((n : Nat) : Int)) = some (rngD 1 (n - 1)) := by
  rw [vRange2_int (by decide) (by omega), show ((n : Int) - 1).toNat = n - 1 by omega]
/-! signs -/
def sg (t : Int) : Int := b2z (decide (0 < t)) - b2z (decide (t < 0))
theorem sg_neg (t : Int) : sg (-t) = - sg t := by
  unfold sg
  have e1 : decide (0 < -t) = decide (t < 0) := decide_eq_decide.mpr (by omega)
  have e2 : decide (-t < 0) = decide (0 < t) := decide_eq_decide.mpr (by omega)
  rw [e1, e2]
  omega
theorem sg_vals (x : Int) : (0 < x → sg x = 1) ∧ (x = 0 → sg x = 0) ∧ (x < 0 → sg x = -1) := by
  unfold sg b2z
  refine ⟨fun h => ?_, fun h => ?_, fun h => ?_⟩
  · rw [decide_eq_true h, decide_eq_false (by omega)]; rfl
  · rw [decide_eq_false (by omega), decide_eq_false (by omega)]; rfl
  · rw [decide_eq_false (by omega), decide_eq_true h]; rfl
theorem sg_pos {x : Int} : 0 < sg x ↔ 0 < x := by
  have := sg_vals x
  rcases Int.lt_trichotomy x 0 with h | h | h
  · have := this.2.2 h; omega
  · have := this.2.1 h; omega
  · have := this.1 h; omega
theorem sg_neg' {x : Int} : sg x < 0 ↔ x < 0 := by
  have := sg_vals x
  rcases Int.lt_trichotomy x 0 with h | h | h
  · have := this.2.2 h; omega
  · have := this.2.1 h; omega
  · have := this.1 h; omega
theorem sg_or (x : Int) : sg x = 1 ∨ sg x = 0 ∨ sg x = -1 := by
  have := sg_vals x
  rcases Int.lt_trichotomy x 0 with h | h | h
  · exact .inr (.inr (this.2.2 h))
  · exact .inr (.inl (this.2.1 h))
  · exact .inl (this.1 h)
/-- the least of the signs at the edges -/
def mnE (p : Pt) (es : List (Pt × Pt)) (a : Int) : Int := es.foldl (fun a e => if sg (Pt.t e.1 e.2 p) < a then sg (Pt.t e.1 e.2 p) else a) a
theorem mnE_snoc (p : Pt) (es : List (Pt × Pt)) (e : Pt × Pt) (a : Int) : mnE p (es ++ [e]) a = if sg (Pt.t e.1 e.2 p) < mnE p es a then sg (Pt.t e.1 e.2 p) else mnE p es a := by
  unfold mnE; rw [List.foldl_append]; rfl
theorem mnE_cons (p : Pt) (es : List (Pt × Pt)) (e : Pt × Pt) (a : Int) : mnE p (e :: es) a = mnE p es (if sg (Pt.t e.1 e.2 p) < a then sg (Pt.t e.1 e.2 p) else a) := rfl
theorem mnE_le (p : Pt) : ∀ (es : List (Pt × Pt)) (a : Int), mnE p es a ≤ a ∧ ∀ e ∈ es, mnE p es a ≤ sg (Pt.t e.1 e.2 p)
  | [], a => ⟨Int.le_refl a, fun e h => by cases h⟩
  | e :: es, a => by
    obtain ⟨h1, h2⟩ := mnE_le p es (if sg (Pt.t e.1 e.2 p) < a then sg (Pt.t e.1 e.2 p) else a)
    rw [mnE_cons]
    have hm : (if sg (Pt.t e.1 e.2 p) < a then sg (Pt.t e.1 e.2 p) else a) ≤ a ∧ (if sg (Pt.t e.1 e.2 p) < a then sg (Pt.t e.1 e.2 p) else a) ≤ sg (Pt.t e.1 e.2 p) := by split <;> omega
    refine ⟨by omega, fun e' he => ?_⟩
    rcases List.mem_cons.mp he with rfl | he
    · omega
    · exact h2 e' he
theorem mnE_ge (p : Pt) (b : Int) : ∀ (es : List (Pt × Pt)) (a : Int), b ≤ a → (∀ e ∈ es, b ≤ sg (Pt.t e.1 e.2 p)) → b ≤ mnE p es a
  | [], _, h, _ => h
  | e :: es, a, h, hf => by
    rw [mnE_cons]
    refine mnE_ge p b es _ ?_ (fun e' he => hf e' (List.mem_cons_of_mem _ he))
    have := hf e List.mem_cons_self
    split <;> omega
/-- where a point is of a round -/
def plc (h : List Pt) (p : Pt) : Int := mnE p (Pt.edg h) 1
theorem plc_in {h : List Pt} {p : Pt} : plc h p = 1 ↔ Pt.Inn h p := by
  have h1 := mnE_le p (Pt.edg h) 1
  constructor
  · intro k e he
    have := h1.2 e he
    have : 0 < sg (Pt.t e.1 e.2 p) := by unfold plc at k; omega
    exact Pt.t_pos.mp (sg_pos.mp this)
  · intro k
    have h2 := mnE_ge p 1 (Pt.edg h) 1 (Int.le_refl 1) (fun e he => by
      have := (sg_vals _).1 (Pt.t_pos.mpr (k e he)); omega)
    unfold plc; omega
theorem plc_nn {h : List Pt} {p : Pt} : 0 ≤ plc h p ↔ Pt.Cl h p := by
  have h1 := mnE_le p (Pt.edg h) 1
  constructor
  · intro k e he
    have := h1.2 e he
    refine Pt.t_nn.mp (Int.not_lt.mp fun z => ?_)
    have := sg_neg'.mpr z
    unfold plc at k; omega
  · intro k
    refine mnE_ge p 0 (Pt.edg h) 1 (by decide) (fun e he => Int.not_lt.mp fun z => ?_)
    have := sg_neg'.mp z
    have := Pt.t_nn.mpr (k e he)
    omega
theorem plc_ge (h : List Pt) (p : Pt) : -1 ≤ plc h p ∧ plc h p ≤ 1 := ⟨mnE_ge p (-1) (Pt.edg h) 1 (by decide) (fun e _ => by have := sg_or (Pt.t e.1 e.2 p); omega), (mnE_le p (Pt.edg h) 1).1⟩
theorem plc_on {h : List Pt} {p : Pt} (k : Pt.Cl h p) {e : Pt × Pt} (he : e ∈ Pt.edg h) (z : Pt.cr e.1 e.2 p = 0) : plc h p = 0 := by
  have h1 := plc_nn.mpr k
  have h2 := (mnE_le p (Pt.edg h) 1).2 e he
  have h3 := (sg_vals _).2.1 (Pt.t_z.mpr z)
  unfold plc at *; omega
theorem plc_out {h : List Pt} {p : Pt} {e : Pt × Pt} (he : e ∈ Pt.edg h) (z : Pt.cr e.1 e.2 p < 0) : plc h p = -1 := by
  have h1 := (plc_ge h p).1
  have h2 := (mnE_le p (Pt.edg h) 1).2 e he
  have h3 := (sg_vals _).2.2 (Pt.t_neg'.mpr z)
  unfold plc at *; omega
theorem vMin2_int (a b : Int) : vMin2 (.int a) (.int b) = some (.int (if b < a then b else a)) := rfl
theorem vMax2_int (a b : Int) : vMax2 (.int a) (.int b) = some (.int (if b > a then b else a)) := rfl
end Dn

namespace Dn
open PySem
/-! ### points by their coordinates -/
namespace Pt
theorem at_XY {x y w : Int} (h : w ≠ 0) : (at_ x y w h).X = x / w ∧ (at_ x y w h).Y = y / w := XY_of h (at_ x y w h) rfl rfl rfl
theorem at_eq {x y w : Int} (h : w ≠ 0) {q : Pt} (e1 : q.X * w = x) (e2 : q.Y * w = y) : at_ x y w h = q := by
  obtain ⟨h1, h2⟩ := at_XY (x := x) (y := y) h
  have hw := icast_ne h
  refine XY ?_ ?_
  · rw [h1]; grind
  · rw [h2]; grind
theorem P_eq {x y w : Int} (h : w ≠ 0) {q : Pt} (e1 : q.X * w = x) (e2 : q.Y * w = y) : P x y w = q.d := by
  rw [← at_eq h e1 e2]; rfl
theorem at_bz' {k : Nat} {x y w : Int} (h : w ≠ 0) {q : Pt} (e1 : q.X * w = x) (e2 : q.Y * w = y) (a : Bd k x) (b : Bd k y) (c : Bd k w) : q.Bz k := by
  rw [← at_eq h e1 e2]; exact ⟨p1_bd h a, p2_bd h b, p3_bd h c⟩
theorem t_bd {i j k : Nat} {a b c : Pt} (ha : a.Bz i) (hb : b.Bz j) (hc : c.Bz k) : Bd (i + j + k + 3) (t a b c) := by
  unfold t
  have m : ∀ {i j k : Nat} {x y z u v : Int}, Bd i x → Bd j y → Bd k z → Bd k u → Bd j v → Bd (i + j + k + 1) (x * (y * z - u * v)) := fun hx hy hz hu hv => hx.mul ((hy.mul hz (l := _) (Nat.le_refl _)).sub (hu.mul hv (by omega)) (Nat.le_refl _)) (by omega)
  have m1 := m ha.x hb.y hc.w hc.y hb.w
  have m2 : Bd (i + j + k + 1) (b.x * (c.y * a.w - a.y * c.w)) := (m hb.x hc.y ha.w ha.y hc.w).mono (by omega)
  have m3 : Bd (i + j + k + 1) (c.x * (a.y * b.w - b.y * a.w)) := (m hc.x ha.y hb.w hb.y ha.w).mono (by omega)
  exact (m1.add m2 (l := i + j + k + 2) (by omega)).add (m3.mono (by omega)) (by omega)
theorem cr_frac (a b c : Pt) : cr a b c = ((t a b c : Int) : Rat) / ((a.w * b.w * c.w : Int) : Rat) := by
  have := t_cr a b c
  have h := w3 a b c
  rw [this]
  simp only [Rat.intCast_mul]
  generalize (a.w : Rat) * b.w * c.w = z at *
  have : z ≠ 0 := by grind
  grind
theorem w3_ne (a b c : Pt) : a.w * b.w * c.w ≠ 0 := by
  have := Int.mul_pos (Int.mul_pos a.pos b.pos) c.pos; omega
theorem w3_bd {i j k : Nat} {a b c : Pt} (ha : a.Bz i) (hb : b.Bz j) (hc : c.Bz k) : Bd (i + j + k + 3) (a.w * b.w * c.w) := (ha.w.mul hb.w (l := i + j) (Nat.le_refl _)).mul hc.w (by omega)
theorem cr_qz {i j k : Nat} {a b c : Pt} (ha : a.Bz i) (hb : b.Bz j) (hc : c.Bz k) : Qz (i + j + k + 3) (cr a b c) := by
  rw [cr_frac]
  exact Qz.of (w3_ne a b c) (t_bd ha hb hc) (w3_bd ha hb hc)
/-- the fan, step by step -/
theorem fn_nil (o a : Pt) : fn o a [] = 0 := rfl
theorem fn_snoc (o : Pt) : ∀ (l : List Pt) (a b : Pt), fn o a (l ++ [b]) = fn o a l + cr o (topOf a l) b
  | [], a, b => by show cr o a b + 0 = 0 + cr o a b; grind
  | c :: l, a, b => by
    show cr o a c + fn o c (l ++ [b]) = cr o a c + fn o c l + cr o (topOf c l) b
    rw [fn_snoc o l c b]; grind
theorem qz0 : Qz 1 (0 : Rat) := ⟨bd_lit (by decide), bd_lit (by decide)⟩
theorem fn_qz {k : Nat} {o : Pt} (ho : o.Bz k) : ∀ (l : List Pt) (a : Pt), (∀ q ∈ a :: l, q.Bz k) → Qz (l.length * (3 * k + 4) + 1) (fn o a l)
  | [], a, _ => qz0.mono (by omega)
  | b :: l, a, h => by
    have ih := fn_qz ho l b (fun q hq => h q (List.mem_cons_of_mem _ hq))
    have c := cr_qz ho (h a List.mem_cons_self) (h b (by simp))
    refine (c.add ih).mono ?_
    simp only [List.length_cons, Nat.succ_mul]; omega
theorem take_top : ∀ (l : List Pt) (a : Pt) (i : Nat), i ≤ l.length → (a :: l)[i]? = some (topOf a (l.take i))
  | _, _, 0, _ => rfl
  | b :: l, a, i + 1, h => by
    show (b :: l)[i]? = some (topOf a (b :: l.take i))
    rw [take_top l b i (by simpa using h)]; rfl
end Pt
theorem atD_pt {h : List Pt} {i : Nat} {p : Pt} (e : h[i]? = some p) : atD (dP h) (i : Int) = some p.d := by rw [atD_nat, dP_get, e]; rfl
theorem vIx_qn (q : Rat) : vIx (qD q) (.int 0) = some (.int q.num) := rfl
theorem vIx_qd (q : Rat) : vIx (qD q) (.int 1) = some (.int (q.den : Int)) := rfl
theorem vIx_px (p : Pt) : vIx p.d (.int 0) = some (.int p.x) := rfl
theorem vIx_py (p : Pt) : vIx p.d (.int 1) = some (.int p.y) := rfl
theorem vIx_pw (p : Pt) : vIx p.d (.int 2) = some (.int p.w) := rfl
theorem half_frac (q : Rat) : q / 2 = ((q.num : Int) : Rat) / (((2 * (q.den : Int)) : Int) : Rat) := by
  have h := q_frac q
  have z := icast_ne (den_ne q)
  simp only [Rat.intCast_mul]
  have : ((2 : Int) : Rat) = 2 := rfl
  rw [this]
  grind
theorem two_den (q : Rat) : 2 * (q.den : Int) ≠ 0 := by have := den_ne q; omega
theorem Qz.half {k : Nat} {q : Rat} (h : Qz k q) : Qz (k + 2) (q / 2) := by
  rw [half_frac]
  exact Qz.of (two_den q) (h.n.mono (by omega)) ((show Bd 2 2 from bd_lit (by decide)).mul h.d (by omega))
theorem mulOk_bd {j k : Nat} {x y : Int} (h : Bd j x) (h' : Bd k y) (e : j + k ≤ 9000000) : vMul (.int x) (.int y) = some (.int (x * y)) := vMul_ok (mulOk_of (j := j + 1) (k := k + 1) (h.mono (by omega)) (h'.mono (by omega)) (by omega) (by omega) (by omega))
theorem shown_eq {a b : D} (h : a = b) : vNe (.str a.shown) (.str b.shown) = some (.bool false) := by subst h; simp [vNe]
end Dn

namespace Dn
open PySem
namespace Pt
/-- a point between two, s times as near to the first one -/
def mid (a b : Pt) (s : Int) : Pt := mk' ((a.X * s + b.X) / (s + 1)) ((a.Y * s + b.Y) / (s + 1))
theorem s1_ne {s : Int} (h : 0 ≤ s) : (s : Rat) + 1 ≠ 0 := by
  have := Rat.intCast_le_intCast.mpr h
  rw [Rat.intCast_zero] at this
  grind
theorem mid_ev {s : Int} (h : 0 ≤ s) (a b : Pt) (g : Aff) : (s + 1 : Rat) * g.ev (mid a b s) = s * g.ev a + 1 * g.ev b := by
  have := s1_ne h
  unfold mid Aff.ev
  rw [mk_X, mk_Y]
  grind
theorem mid_btw {s : Int} (h : 0 ≤ s) (a b : Pt) : Btw (mid a b s) a b := by
  have hs := Rat.intCast_le_intCast.mpr h
  rw [Rat.intCast_zero] at hs
  exact ⟨s + 1, s, 1, by grind, hs, by decide, fun g => mid_ev h a b g⟩
theorem mid_pos {s : Int} (h : 0 < s) {a b : Pt} (g : Aff) (h1 : 0 ≤ g.ev a) (h2 : 0 ≤ g.ev b) (h3 : 0 < g.ev a ∨ 0 < g.ev b) : 0 < g.ev (mid a b s) := by
  have hs := Rat.intCast_pos.mpr h
  refine rpos_of (show (0 : Rat) < s + 1 by grind) ?_
  rw [mid_ev (by omega)]
  have p1 := rmul_nn (Rat.le_of_lt hs) h1
  rcases h3 with h3 | h3
  · have := rmul_pos hs h3; grind
  · grind
/-- the point on the other side of c -/
def refl (c i : Pt) : Pt := mk' (2 * c.X - i.X) (2 * c.Y - i.Y)
theorem refl_ev (c i : Pt) (g : Aff) : g.ev (refl c i) = 2 * g.ev c - g.ev i := by
  unfold refl Aff.ev
  rw [mk_X, mk_Y]; grind
/-- three corners in a row -/
theorem prev2 {h : List Pt} (n3 : 3 ≤ h.length) (S : SOC h) {i : Nat} (hi : i < h.length) : ∃ w u v, atD (dP h) ((i : Int) - 2) = some w.d ∧ atD (dP h) ((i : Int) - 1) = some u.d ∧ atD (dP h) (i : Int) = some v.d ∧ (u, v) ∈ edg h ∧ w ∈ h ∧ w ≠ u ∧ w ≠ v ∧ (w, u) ∈ edg h := by
  have nd := S.nodup n3
  obtain ⟨u, v, h1, h2, h3⟩ := edg_get hi
  have he := List.mem_of_getElem? h3
  -- the one ahead of u
  obtain ⟨j, hj, jj⟩ : ∃ j, j < h.length ∧ (if i = 0 then j + 1 = h.length else j + 1 = i) := by
    by_cases z : i = 0
    · exact ⟨h.length - 1, by omega, by rw [if_pos z]; omega⟩
    · exact ⟨i - 1, by omega, by rw [if_neg z]; omega⟩
  obtain ⟨w, u', k1, k2, k3⟩ := edg_get hj
  have uj : atD (dP h) ((i : Int) - 1) = atD (dP h) (j : Int) := by
    unfold atD
    rw [dP_length]
    by_cases z : i = 0
    · rw [if_pos z] at jj
      subst z
      rw [if_pos (by omega), if_pos (by omega), if_neg (by omega)]
      congr 1; omega
    · rw [if_neg z] at jj
      rw [if_neg (by omega), if_neg (by omega)]
      congr 1; omega
  have wj : atD (dP h) ((i : Int) - 2) = atD (dP h) ((j : Int) - 1) := by
    unfold atD
    rw [dP_length]
    by_cases z : i = 0
    · rw [if_pos z] at jj
      subst z
      rw [if_pos (by omega), if_pos (by omega), if_neg (by omega)]
      congr 1; omega
    · rw [if_neg z] at jj
      by_cases z1 : i = 1
      · rw [if_pos (by omega), if_pos (by omega), if_pos (by omega), if_pos (by omega)]
        congr 1; omega
      · rw [if_neg (by omega), if_neg (by omega)]
        congr 1; omega
  have uu : u = u' := by
    rw [uj, k2] at h1
    have := Option.some.inj h1
    unfold Pt.d pt at this
    injection this with this
    injection this with x1 this
    injection this with x2 this
    injection this with x3 _
    injection x1 with x1
    injection x2 with x2
    injection x3 with x3
    exact (ext' x1 x2 x3).symm
  subst uu
  have hw := List.mem_of_getElem? k3
  have en1 := S.edge_ne n3 _ hw
  have en2 := S.edge_ne n3 _ he
  refine ⟨w, u, v, by rw [wj]; exact k1, h1, h2, he, (edg_mem hw).1, en1, ?_, hw⟩
  rintro rfl
  -- w = v: the round has two corners only
  have third : ∃ q ∈ h, q ≠ u ∧ q ≠ w := by
    refine Classical.byContradiction fun n => ?_
    have all : ∀ q ∈ h, q = u ∨ q = w := fun q hq => Classical.byContradiction fun m => n ⟨q, hq, fun z => m (.inl z), fun z => m (.inr z)⟩
    match h, n3, S, all with
    | a :: b :: c :: l, _, S, all =>
      have ne := S.ne (a := a) (b := b) (c := c) (List.Sublist.cons_cons _ (List.Sublist.cons_cons _ (List.Sublist.cons_cons _ (List.nil_sublist l))))
      have h1 := all a (by simp)
      have h2 := all b (by simp)
      have h3 := all c (by simp)
      rcases h1 with rfl | rfl <;> rcases h2 with rfl | rfl <;> rcases h3 with rfl | rfl <;> simp at ne
  obtain ⟨q, hq, q1, q2⟩ := third
  have c1 := S.edge he hq q1 q2
  have c2 := S.edge hw hq q2 q1
  rw [cr_swap'] at c2
  grind
/-- an inner point, from two points of an edge and a third corner -/
theorem inner_of {h : List Pt} (n3 : 3 ≤ h.length) (S : SOC h) {w u v : Pt} (he : (u, v) ∈ edg h) (hw : w ∈ h) (n1 : w ≠ u) (n2 : w ≠ v) {s r : Int} (hs : 0 < s) (hr : 0 < r) : Inn h (mid (mid u v s) w r) := by
  intro e k
  have m := edg_mem he
  have a1 := S.edge' (u := e.1) (v := e.2) k m.1
  have a2 := S.edge' (u := e.1) (v := e.2) k m.2
  have a3 := S.edge' (u := e.1) (v := e.2) k hw
  rw [← crF_ev] at a1 a2 a3 ⊢
  have b1 := (mid_btw (Int.le_of_lt hs) u v).nn _ a1 a2
  refine mid_pos hr _ b1 a3 ?_
  by_cases z : 0 < (crF e.1 e.2).ev w
  · exact .inr z
  · refine .inl (mid_pos hs _ a1 a2 ?_)
    refine Classical.byContradiction fun n => ?_
    have z1 : (crF e.1 e.2).ev u = 0 := by grind
    have z2 : (crF e.1 e.2).ev v = 0 := by grind
    have z3 : (crF e.1 e.2).ev w = 0 := by grind
    rw [crF_ev] at z1 z2 z3
    have t : ∀ q ∈ h, cr e.1 e.2 q = 0 → q = e.1 ∨ q = e.2 := fun q hq z => Classical.byContradiction fun y => by
      have := S.edge (u := e.1) (v := e.2) k hq (fun x => y (.inl x)) (fun x => y (.inr x))
      grind
    have uv := S.edge_ne n3 _ he
    have t1 := t u m.1 z1
    have t2 := t v m.2 z2
    have t3 := t w hw z3
    simp only at uv
    grind
theorem edge_on {h : List Pt} (S : SOC h) {u v : Pt} (he : (u, v) ∈ edg h) {s : Int} (hs : 0 ≤ s) : Cl h (mid u v s) ∧ cr u v (mid u v s) = 0 := by
  have m := edg_mem he
  refine ⟨fun e k => ?_, ?_⟩
  · rw [← crF_ev]
    refine (mid_btw hs u v).nn _ ?_ ?_
    · rw [crF_ev]; exact S.edge' k m.1
    · rw [crF_ev]; exact S.edge' k m.2
  · have e := mid_ev hs u v (crF u v)
    rw [crF_ev, crF_ev, crF_ev, cr_aba, cr_abb] at e
    exact rz_of (s1_ne hs) (by grind)
end Pt
theorem dP_take (h : List Pt) (i : Nat) : (dP h).take i = dP (h.take i) := by unfold dP; rw [List.map_take]
theorem dP_drop (h : List Pt) (i : Nat) : (dP h).drop i = dP (h.drop i) := by unfold dP; rw [List.map_drop]
theorem sl_from {h : List Pt} {i : Nat} (hi : i ≤ h.length) : vSlice (.tuple (dP h)) (some (i : Int)) none = some (.tuple (dP (h.drop i))) := by
  show some (PyData.tuple (cutD (dP h) (some (i : Int)) none)) = _
  rw [cut_from _ _ (by rw [dP_length]; exact hi), dP_drop]
theorem sl_to {h : List Pt} {i : Nat} (hi : i ≤ h.length) : vSlice (.tuple (dP h)) none (some (i : Int)) = some (.tuple (dP (h.take i))) := by
  show some (PyData.tuple (cutD (dP h) none (some (i : Int)))) = _
  rw [cut_to _ _ (by rw [dP_length]; exact hi), dP_take]
theorem cat_tup {h k : List Pt} (hl : h.length + k.length ≤ 10000000) : vAdd (.tuple (dP h)) (.tuple (dP k)) = some (.tuple (dP (h ++ k))) := by
  show (if (dP h).length + (dP k).length ≤ lim then some (PyData.tuple (dP h ++ dP k)) else none) = _
  rw [if_pos (by rw [dP_length, dP_length]; unfold lim; omega), dP_app]
theorem qD_show {k : Nat} {q : Rat} (h : Qz k q) (hk : k ≤ 1000) : vRepr1 (qD q) = some (.str (qD q).shown) := pr_show h.n h.d hk
theorem vIsi_int (n : Int) : vIsi "int" [.int n] = some (.bool true) := rfl
theorem vIsi_bool (n : Int) : vIsi "bool" [.int n] = some (.bool false) := rfl
end Dn

namespace Dn
open PySem
namespace Pt
/-! ### the polygon of a round of points -/
theorem hull_set {xs ys : List Pt} (h : ∀ q, q ∈ xs ↔ q ∈ ys) : hull xs = hull ys := by
  cases e : hull xs with
  | none =>
    have F := hull_none e
    exact (hull_flat (fun a ha b hb c hc => F a ((h a).mpr ha) b ((h b).mpr hb) c ((h c).mpr hc))).symm
  | some k =>
    have H := hull_ok e
    exact (H.poly.cp.hull_of (fun q hq => (h q).mp (H.mem q hq)) (fun q hq => H.cl q ((h q).mpr hq))).symm
theorem rev_rot {v g : Pt} {r : List Pt} (hr : r ≠ []) : ∃ r0, (v :: g :: r).reverse = (r0 ++ [g]) ++ [v] ∧ v :: (r0 ++ [g]) = v :: topOf g r :: (r0 ++ [g]).tail ∧ topOf (topOf g r) (r0 ++ [g]).tail = g ∧ (r0 ++ [g]).tail ≠ [] := by
  refine ⟨r.reverse, by simp, ?_, ?_, ?_⟩
  · have : ∃ m, r = m ++ [topOf g r] := by
      have := getLast_split (topOf_getLast hr (a := g))
      exact ⟨_, this⟩
    obtain ⟨m, hm⟩ := this
    rw [hm]
    simp [topOf_snoc]
  · have : ∃ m, r = m ++ [topOf g r] := ⟨_, getLast_split (topOf_getLast hr (a := g))⟩
    obtain ⟨m, hm⟩ := this
    rw [hm]
    simp [topOf_snoc]
  · have : ∃ m, r = m ++ [topOf g r] := ⟨_, getLast_split (topOf_getLast hr (a := g))⟩
    obtain ⟨m, hm⟩ := this
    rw [hm]
    simp
theorem prs_rev : ∀ (l : List Pt) (a u v : Pt), (u, v) ∈ prs a l → ∀ (b : Pt) (m : List Pt), (a :: l).reverse = b :: m → (v, u) ∈ prs b m := by
  intro l a u v h b m e
  obtain ⟨xs, ys, e2⟩ := prs_sub h
  rw [e2] at e
  refine prs_of (xs := ys.reverse) (ys := xs.reverse) ?_
  rw [← e]; simp
theorem ND.rev {K : List Pt} (N : ND K) : ND K.reverse := by
  cases K with
  | nil => exact N
  | cons a l =>
    intro e he
    -- the edge of the other way round
    have : (e.2, e.1) ∈ edg (a :: l) := by
      cases q : (a :: l).reverse with
      | nil => simp at q
      | cons b m =>
        rw [q] at he
        have tb : topOf a l = b := by
          have h1 : (a :: l).getLast? = some (topOf a l) := topOf_getLast (a := a) (l := a :: l) (by simp)
          rw [← List.head?_reverse, q] at h1
          exact (Option.some.inj h1).symm
        have ta : topOf b m = a := by
          have h1 : (b :: m).getLast? = some (topOf b m) := topOf_getLast (a := b) (l := b :: m) (by simp)
          rw [← q, List.getLast?_reverse] at h1
          exact (Option.some.inj h1).symm
        have rr : (b :: m).reverse = a :: l := by rw [← q, List.reverse_reverse]
        rcases List.mem_cons.mp (show e ∈ (topOf b m, b) :: prs b m from he) with z | z
        · rw [z, ta, ← tb]; exact List.mem_cons_self
        · exact List.mem_cons_of_mem _ (prs_rev m b e.1 e.2 z a l rr)
    exact fun z => N _ this z.symm
theorem po_strict {K h : List Pt} (S : OC K ∨ OC K.reverse) (N : ND K) (e : hull K = some h) {xs ys : List Pt} {u v : Pt} {r : List Pt} (eK : K = xs ++ ys) (er : ys ++ xs = u :: v :: r) (hr : r ≠ []) : cr (topOf v r) u v ≠ 0 ↔ u ∈ h := by
  have H := hull_ok e
  have C := H.poly.cp
  have sw : ∀ w, w ∈ u :: v :: r ↔ w ∈ K := fun w => by rw [← er, eK]; simp only [List.mem_append]; exact or_comm
  have N1 : ND (u :: v :: r) := by rw [← er]; exact ND.rot (by rw [← eK]; exact N)
  rcases S with S | S
  · have S1 : OC (u :: v :: r) := by rw [← er]; exact OC.rot (by rw [← eK]; exact S)
    exact front_iff hr S1 N1 C (fun q hq => (sw q).mpr (H.mem q hq)) (fun q hq => H.cl q ((sw q).mp hq))
  · have S1 : OC (u :: v :: r).reverse := by
      rw [← er, List.reverse_append]
      refine OC.rot ?_
      rw [← List.reverse_append, ← eK]; exact S
    have N2 := N1.rev
    obtain ⟨r0, e1, e2, e3, e4⟩ := rev_rot (v := u) (g := v) hr
    rw [e1] at S1 N2
    have S3 : OC (u :: (r0 ++ [v])) := S1.rot
    have N3 : ND (u :: (r0 ++ [v])) := N2.rot
    have sw3 : ∀ w, w ∈ u :: (r0 ++ [v]) ↔ w ∈ K := fun w => by
      rw [← sw w, ← List.mem_reverse (as := u :: v :: r), e1]
      simp only [List.mem_append, List.mem_cons, List.not_mem_nil, or_false]; grind
    rw [e2] at S3 N3 sw3
    have := front_iff e4 S3 N3 C (fun q hq => (sw3 q).mpr (H.mem q hq)) (fun q hq => H.cl q ((sw3 q).mp hq))
    rw [e3] at this
    rw [← this, cr_rev v u (topOf v r)]
    constructor
    · intro h z; apply h; grind
    · intro h z; apply h; grind
theorem soc_three {C : List Pt} (n : 3 ≤ C.length) (S : SOC C) {a b c : Pt} (h0 : C[0]? = some a) (h1 : C[1]? = some b) (h2 : C[2]? = some c) : 0 < cr a b c := by
  match C, n, S, h0, h1, h2 with
  | x :: y :: z :: l, _, S, h0, h1, h2 =>
    cases h0; cases h1; cases h2
    exact S _ _ _ (List.Sublist.cons_cons _ (List.Sublist.cons_cons _ (List.Sublist.cons_cons _ (List.nil_sublist l))))
/-- what is left of the corners, and their turn -/
theorem po_fin {K h : List Pt} (n3 : 3 ≤ K.length) (S : OC K ∨ OC K.reverse) (N : ND K) (e : hull K = some h) : 3 ≤ (K.filter fun q => decide (q ∈ h)).length ∧
    ((SOC (K.filter fun q => decide (q ∈ h)) ∧ ∀ R, Ttf (K.filter fun q => decide (q ∈ h)) R → R = h) ∨ (SOC (K.filter fun q => decide (q ∈ h)).reverse ∧ ∀ R, Ttf (K.filter fun q => decide (q ∈ h)).reverse R → R = h)) := by
  have H := hull_ok e
  have C := H.poly.cp
  have me : ∀ (K : List Pt), (∀ q ∈ h, q ∈ K) → ∀ q, q ∈ (K.filter fun q => decide (q ∈ h)) ↔ q ∈ h := fun K s q => by
    rw [List.mem_filter]
    exact ⟨fun z => of_decide_eq_true z.2, fun z => ⟨s q z, decide_eq_true z⟩⟩
  have len : ∀ (K : List Pt), (∀ q ∈ h, q ∈ K) → (K.filter fun q => decide (q ∈ h)).Nodup → 3 ≤ (K.filter fun q => decide (q ∈ h)).length := fun K s nd => by
    have p : (K.filter fun q => decide (q ∈ h)).Perm h := (List.perm_ext_iff_of_nodup nd (C.soc.nodup C.n3)).mpr (me K s)
    rw [p.length_eq]; exact C.n3
  rcases S with S | S
  · obtain ⟨S', nd⟩ := filter_corners n3 S N C H.mem H.cl
    exact ⟨len K H.mem nd, .inl ⟨S', fun R T => corners_hull n3 S N e T⟩⟩
  · have er : hull K.reverse = some h := by rw [← e]; exact hull_set fun q => List.mem_reverse
    have H' := hull_ok er
    have n3' : 3 ≤ K.reverse.length := by rw [List.length_reverse]; exact n3
    obtain ⟨S', nd⟩ := filter_corners n3' S N.rev C H'.mem H'.cl
    have l := len K.reverse H'.mem nd
    have fr : (K.reverse.filter fun q => decide (q ∈ h)) = (K.filter fun q => decide (q ∈ h)).reverse := List.filter_reverse
    rw [fr] at S' l
    rw [List.length_reverse] at l
    refine ⟨l, .inr ⟨S', fun R T => ?_⟩⟩
    rw [← fr] at T
    exact corners_hull n3' S N.rev er T
/-- by places: two ahead, one ahead, and here -/
theorem tri_get {K : List Pt} (n3 : 3 ≤ K.length) {i : Nat} (hi : i < K.length) : ∃ (xs ys : List Pt) (u v : Pt) (r : List Pt), K = xs ++ ys ∧ ys ++ xs = u :: v :: r ∧ r ≠ [] ∧ atD (dP K) ((i : Int) - 2) = some (topOf v r).d ∧ atD (dP K) ((i : Int) - 1) = some u.d ∧ atD (dP K) (i : Int) = some v.d ∧ (K.getLast? = some u ∧ i = 0 ∨ ∃ j, i = j + 1 ∧ K[j]? = some u) := by
  have neg : ∀ (j : Nat), 0 < j → j ≤ K.length → atD (dP K) (-(j : Int)) = (K[K.length - j]?).map Pt.d := fun j h1 h2 => by
    unfold atD
    rw [dP_length, if_pos (by omega), if_pos (by omega), dP_get]
    congr 2
    congr 1
    omega
  by_cases c0 : i = 0
  · subst c0
    -- last one to the front
    obtain ⟨m, w, u, em⟩ : ∃ m w u, K = m ++ [w, u] := by
      have h1 : K ≠ [] := by rintro rfl; simp at n3
      obtain ⟨m1, u, e1⟩ : ∃ m u, K = m ++ [u] := ⟨_, _, (List.dropLast_concat_getLast h1).symm⟩
      have h2 : m1 ≠ [] := by rintro rfl; rw [e1] at n3; simp at n3
      obtain ⟨m2, w, e2⟩ : ∃ m u, m1 = m ++ [u] := ⟨_, _, (List.dropLast_concat_getLast h2).symm⟩
      exact ⟨m2, w, u, by rw [e1, e2]; simp⟩
    cases m with
    | nil => rw [em] at n3; simp at n3
    | cons v m =>
      refine ⟨v :: m ++ [w], [u], u, v, m ++ [w], by rw [em]; simp, rfl, by simp, ?_, ?_, ?_, .inl ⟨by rw [em, show v :: m ++ [w, u] = (v :: m ++ [w]) ++ [u] by simp]; exact List.getLast?_concat .., rfl⟩⟩
      · rw [topOf_snoc]
        have := neg 2 (by decide) (by omega)
        rw [show ((0 : Nat) : Int) - 2 = -((2 : Nat) : Int) by omega, this, em]
        have : (v :: m ++ [w, u]).length - 2 = (v :: m).length := by simp
        rw [this, List.getElem?_append_right (Nat.le_refl _), Nat.sub_self]; rfl
      · have := neg 1 (by decide) (by omega)
        rw [show ((0 : Nat) : Int) - 1 = -((1 : Nat) : Int) by omega, this, em]
        have : (v :: m ++ [w, u]).length - 1 = (v :: m).length + 1 := by simp
        rw [this, List.getElem?_append_right (by omega), show (v :: m).length + 1 - (v :: m).length = 1 by omega]; rfl
      · rw [em]; exact atD_pt (i := 0) rfl
  · obtain ⟨j, rfl⟩ : ∃ j, i = j + 1 := ⟨i - 1, by omega⟩
    have ej : K = K.take j ++ K.drop j := (List.take_append_drop j K).symm
    obtain ⟨u, v, d, ed⟩ : ∃ u v d, K.drop j = u :: v :: d := by
      refine ⟨K[j], K[j + 1], K.drop (j + 2), ?_⟩
      rw [List.drop_eq_getElem_cons (by omega), List.drop_eq_getElem_cons hi]
    have ku : K[j]? = some u := by
      have : (K.drop j)[0]? = some u := by rw [ed]; rfl
      rw [List.getElem?_drop] at this
      simpa using this
    have kv : K[j + 1]? = some v := by
      have : (K.drop j)[1]? = some v := by rw [ed]; rfl
      rw [List.getElem?_drop] at this
      exact this
    refine ⟨K.take j, K.drop j, u, v, d ++ K.take j, ej, by rw [ed]; rfl, ?_, ?_, ?_, atD_pt kv, .inr ⟨j, rfl, ku⟩⟩
    · intro z
      have h1 := congrArg List.length z
      have h2 := congrArg List.length ed
      simp only [List.length_append, List.length_take, List.length_drop, List.length_cons, List.length_nil] at h1 h2
      omega
    · by_cases c1 : j = 0
      · subst c1
        have h2 := congrArg List.length ed
        simp only [List.length_drop, List.length_cons] at h2
        have dn : d ≠ [] := by rintro rfl; simp at h2; omega
        have := neg 1 (by decide) (by omega)
        rw [show (((0 + 1 : Nat) : Int)) - 2 = -((1 : Nat) : Int) by omega, this, List.take_zero, List.append_nil]
        have e3 : K = u :: v :: d := by rw [← ed]; rfl
        rw [e3]
        have : (u :: v :: d).length - 1 = (v :: d).length := by simp
        rw [this, topOf_get (v :: d) u]; rfl
      · obtain ⟨l, rfl⟩ : ∃ l, j = l + 1 := ⟨j - 1, by omega⟩
        have e3 : K.take (l + 1) = K.take l ++ [K[l]] := by rw [List.take_add_one, List.getElem?_eq_getElem (by omega)]; rfl
        rw [e3, ← List.append_assoc, topOf_snoc]
        rw [show (((l + 1 + 1 : Nat) : Int)) - 2 = (l : Int) by omega]
        exact atD_pt (List.getElem?_eq_getElem (by omega))
    · rw [show (((j + 1 : Nat) : Int)) - 1 = (j : Int) by omega]; exact atD_pt ku
/-- the corners of the last round, the last one first -/
theorem last_rot {K : List Pt} (n : K ≠ []) : ∃ k, K.getLast? = some k ∧ K.dropLast ++ [k] = K := by
  refine ⟨K.getLast n, ?_, List.dropLast_concat_getLast n⟩
  rw [List.getLast?_eq_some_getLast n]
theorem range_u {K : List Pt} (n : K ≠ []) (u : Nat → Pt) (hu : ∀ i, i < K.length → (K.getLast? = some (u i) ∧ i = 0 ∨ ∃ j, i = j + 1 ∧ K[j]? = some (u i))) : ∃ k, K.dropLast ++ [k] = K ∧ (List.range K.length).map u = k :: K.dropLast := by
  obtain ⟨k, h1, h2⟩ := last_rot n
  refine ⟨k, h2, ?_⟩
  have hl : K.length = K.dropLast.length + 1 := by
    have := congrArg List.length h2
    simp only [List.length_append, List.length_singleton] at this
    omega
  refine List.ext_getElem (by rw [List.length_map, List.length_range, List.length_cons]; exact hl) fun i a b => ?_
  have hi : i < K.length := by simpa using a
  rw [List.getElem_map, List.getElem_range]
  rcases hu i hi with ⟨e1, e2⟩ | ⟨j, e1, e2⟩
  · subst e2
    rw [h1] at e1
    exact (Option.some.inj e1).symm
  · subst e1
    rw [List.getElem_cons_succ, List.getElem_dropLast]
    rw [List.getElem?_eq_getElem (by omega)] at e2
    exact (Option.some.inj e2).symm
theorem dd_snoc : ∀ (l : List Pt) (a p : Pt), dd a (l ++ [p]) = if topOf a l = p then dd a l else dd a l ++ [p]
  | [], a, p => by
    show (if a = p then dd a [] else p :: dd p []) = _
    rfl
  | b :: l, a, p => by
    show (if a = b then dd a (l ++ [p]) else b :: dd b (l ++ [p])) = if topOf b l = p then (if a = b then dd a l else b :: dd b l) else (if a = b then dd a l else b :: dd b l) ++ [p]
    by_cases q : a = b
    · subst q
      rw [if_pos rfl, if_pos rfl, dd_snoc l a p]
    · rw [if_neg q, if_neg q, dd_snoc l b p]
      split <;> simp
def kp : List Pt → List Pt
  | [] => []
  | a :: l => a :: dd a l
theorem kp_snoc (pre : List Pt) (p : Pt) : kp (pre ++ [p]) = match pre with
    | [] => [p]
    | a :: l => if topOf a l = p then kp (a :: l) else kp (a :: l) ++ [p] := by
  cases pre with
  | nil => rfl
  | cons a l =>
    show a :: dd a (l ++ [p]) = _
    rw [dd_snoc]
    simp only
    split <;> rfl
end Pt
theorem atD_m1 (a : Pt) (m : List Pt) : atD (dP (a :: m)) (-1) = some (Pt.topOf a m).d := by
  unfold atD
  rw [dP_length, if_pos (by decide), if_pos (by simp only [List.length_cons]; omega), show ((-1 : Int) + ((a :: m).length : Nat)).toNat = m.length by simp only [List.length_cons]; omega, dP_get, topOf_get]
  rfl
theorem whileG_step (c : GB) (b : GS) (n : Nat) (env : Dn.Env) : whileG c b (n + 1) env = (c env).bind fun k => if k = true then (b env).bind (turnS (whileG c b n)) else some (.nx env) := rfl
theorem lenlt (k : Nat) : decide (((k : Nat) : Int) < 3) = decide (k < 3) := decide_eq_decide.mpr (by omega)
theorem sl_fromL {h : List Pt} {i : Nat} (hi : i ≤ h.length) : vSlice (.list (dP h)) (some (i : Int)) none = some (.list (dP (h.drop i))) := by
  show some (PyData.list (cutD (dP h) (some (i : Int)) none)) = _
  rw [cut_from _ _ (by rw [dP_length]; exact hi), dP_drop]
theorem sl_toL {h : List Pt} {i : Nat} (hi : i ≤ h.length) : vSlice (.list (dP h)) none (some (i : Int)) = some (.list (dP (h.take i))) := by
  show some (PyData.list (cutD (dP h) none (some (i : Int)))) = _
  rw [cut_to _ _ (by rw [dP_length]; exact hi), dP_take]
theorem cat_lst {h k : List Pt} (hl : h.length + k.length ≤ 10000000) : vAdd (.list (dP h)) (.list (dP k)) = some (.list (dP (h ++ k))) := by
  show (if (dP h).length + (dP k).length ≤ lim then some (PyData.list (dP h ++ dP k)) else none) = _
  rw [if_pos (by rw [dP_length, dP_length]; unfold lim; omega), dP_app]
end Dn

namespace Dn
open PySem
namespace Pt
/-! ### the point of a cut, by whole numbers -/
def lA (a b : Pt) : Int := a.y * b.w - b.y * a.w
def lB (a b : Pt) : Int := b.x * a.w - a.x * b.w
def lC (a b : Pt) : Int := a.x * b.y - b.x * a.y
theorem lA_q (a b : Pt) : ((lA a b : Int) : Rat) = a.w * b.w * (crF a b).a := by
  unfold lA crF; simp only [Rat.intCast_sub, Rat.intCast_mul]
  rw [← a.Y_w, ← b.Y_w]; grind
theorem lB_q (a b : Pt) : ((lB a b : Int) : Rat) = a.w * b.w * (crF a b).b := by
  unfold lB crF; simp only [Rat.intCast_sub, Rat.intCast_mul]
  rw [← a.X_w, ← b.X_w]; grind
theorem lC_q (a b : Pt) : ((lC a b : Int) : Rat) = a.w * b.w * (crF a b).c := by
  unfold lC crF; simp only [Rat.intCast_sub, Rat.intCast_mul]
  rw [← a.X_w, ← b.X_w, ← a.Y_w, ← b.Y_w]; grind
def xW (a b c d : Pt) : Int := lA a b * lB c d - lA c d * lB a b
def xX (a b c d : Pt) : Int := lB a b * lC c d - lB c d * lC a b
def xY (a b c d : Pt) : Int := lA c d * lC a b - lA a b * lC c d
theorem xW_q (a b c d : Pt) : ((xW a b c d : Int) : Rat) = a.w * b.w * (c.w * d.w) * ((crF a b).ev d - (crF a b).ev c) := by
  unfold xW
  simp only [Rat.intCast_sub, Rat.intCast_mul]
  rw [lA_q, lB_q, lA_q, lB_q]
  unfold crF Aff.ev
  grind
theorem xX_q (a b c d : Pt) : ((xX a b c d : Int) : Rat) = a.w * b.w * (c.w * d.w) * (c.X * (crF a b).ev d - d.X * (crF a b).ev c) := by
  unfold xX
  simp only [Rat.intCast_sub, Rat.intCast_mul]
  rw [lC_q, lB_q, lC_q, lB_q]
  unfold crF Aff.ev
  grind
theorem xY_q (a b c d : Pt) : ((xY a b c d : Int) : Rat) = a.w * b.w * (c.w * d.w) * (c.Y * (crF a b).ev d - d.Y * (crF a b).ev c) := by
  unfold xY
  simp only [Rat.intCast_sub, Rat.intCast_mul]
  rw [lC_q, lA_q, lC_q, lA_q]
  unfold crF Aff.ev
  grind
theorem xW_ne {a b c d : Pt} (h : (crF a b).ev c * (crF a b).ev d < 0) : xW a b c d ≠ 0 := by
  intro z
  have k := xW_q a b c d
  rw [z, Rat.intCast_zero] at k
  have h1 := rmul_pos (rmul_pos a.wq b.wq) (rmul_pos c.wq d.wq)
  exact mul_neg_ne h (rz_of (a := a.w * b.w * (c.w * d.w)) (by grind) k.symm)
theorem cut_X {a b c d : Pt} (h : (crF a b).ev c * (crF a b).ev d < 0) : (cutP (crF a b) c d).X * ((xW a b c d : Int) : Rat) = ((xX a b c d : Int) : Rat) ∧ (cutP (crF a b) c d).Y * ((xW a b c d : Int) : Rat) = ((xY a b c d : Int) : Rat) := by
  have n := mul_neg_ne h
  rw [xW_q, xX_q, xY_q]
  unfold cutP
  rw [mk_X, mk_Y]
  generalize (crF a b).ev d = s at *
  generalize (crF a b).ev c = r at *
  constructor <;> grind
theorem lA_bd {j k : Nat} {a b : Pt} (ha : a.Bz j) (hb : b.Bz k) : Bd (j + k + 1) (lA a b) ∧ Bd (j + k + 1) (lB a b) ∧ Bd (j + k + 1) (lC a b) :=
  ⟨(ha.y.mul hb.w (l := j + k) (by omega)).sub (hb.y.mul ha.w (by omega)) (by omega), (hb.x.mul ha.w (l := j + k) (by omega)).sub (ha.x.mul hb.w (by omega)) (by omega), (ha.x.mul hb.y (l := j + k) (by omega)).sub (hb.x.mul ha.y (by omega)) (by omega)⟩
theorem x_bd {j k : Nat} {a b c d : Pt} (ha : a.Bz j) (hb : b.Bz j) (hc : c.Bz k) (hd : d.Bz k) : Bd (2 * j + 2 * k + 3) (xX a b c d) ∧ Bd (2 * j + 2 * k + 3) (xY a b c d) ∧ Bd (2 * j + 2 * k + 3) (xW a b c d) := by
  obtain ⟨a1, a2, a3⟩ := lA_bd ha hb
  obtain ⟨b1, b2, b3⟩ := lA_bd hc hd
  exact ⟨(a2.mul b3 (l := 2 * j + 2 * k + 2) (by omega)).sub (b2.mul a3 (by omega)) (by omega), (b1.mul a3 (l := 2 * j + 2 * k + 2) (by omega)).sub (a1.mul b3 (by omega)) (by omega), (a1.mul b2 (l := 2 * j + 2 * k + 2) (by omega)).sub (b1.mul a2 (by omega)) (by omega)⟩
theorem cut_bz {j k : Nat} {a b c d : Pt} (ha : a.Bz j) (hb : b.Bz j) (hc : c.Bz k) (hd : d.Bz k) (h : (crF a b).ev c * (crF a b).ev d < 0) : (cutP (crF a b) c d).Bz (2 * j + 2 * k + 3) := by
  obtain ⟨e1, e2⟩ := cut_X h
  obtain ⟨b1, b2, b3⟩ := x_bd ha hb hc hd
  exact at_bz' (xW_ne h) e1 e2 b1 b2 b3
theorem clip_bz {j k : Nat} {a b : Pt} {h : List Pt} (ha : a.Bz j) (hb : b.Bz j) (hh : ∀ q ∈ h, q.Bz k) : ∀ q ∈ clip (crF a b) h, q.Bz (2 * j + 2 * k + 3) := by
  intro q hq
  obtain ⟨e, he, ⟨h1, rfl⟩ | ⟨h1, rfl⟩⟩ := clip_mem.mp hq
  · have m := edg_mem (u := e.1) (v := e.2) he
    exact cut_bz ha hb (hh _ m.1) (hh _ m.2) h1
  · exact (hh _ (edg_mem (u := e.1) (v := e.2) he).2).mono (by omega)
/-- by the turns as whole numbers -/
def yW (a b p q : Pt) : Int := p.w * t a b q - q.w * t a b p
theorem yW_q (a b p q : Pt) : ((yW a b p q : Int) : Rat) = a.w * b.w * (p.w * q.w) * ((crF a b).ev q - (crF a b).ev p) := by
  unfold yW
  simp only [Rat.intCast_sub, Rat.intCast_mul]
  rw [t_cr, t_cr, crF_ev, crF_ev]; grind
theorem yW_ne {a b c d : Pt} (h : (crF a b).ev c * (crF a b).ev d < 0) : yW a b c d ≠ 0 := by
  intro z
  have k := yW_q a b c d
  rw [z, Rat.intCast_zero] at k
  have h1 := rmul_pos (rmul_pos a.wq b.wq) (rmul_pos c.wq d.wq)
  exact mul_neg_ne h (rz_of (a := a.w * b.w * (c.w * d.w)) (by grind) k.symm)
theorem cut_Y {a b c d : Pt} (h : (crF a b).ev c * (crF a b).ev d < 0) : (cutP (crF a b) c d).X * ((yW a b c d : Int) : Rat) = ((c.x * t a b d - d.x * t a b c : Int) : Rat) ∧ (cutP (crF a b) c d).Y * ((yW a b c d : Int) : Rat) = ((c.y * t a b d - d.y * t a b c : Int) : Rat) := by
  have n := mul_neg_ne h
  rw [yW_q]
  simp only [Rat.intCast_sub, Rat.intCast_mul]
  rw [t_cr, t_cr, ← crF_ev, ← crF_ev, ← c.X_w, ← d.X_w, ← c.Y_w, ← d.Y_w]
  unfold cutP
  rw [mk_X, mk_Y]
  generalize (crF a b).ev d = s at *
  generalize (crF a b).ev c = r at *
  constructor <;> grind
theorem cr_t_neg {a b c d : Pt} : (crF a b).ev c * (crF a b).ev d < 0 ↔ (t a b c < 0 ∧ 0 < t a b d) ∨ (0 < t a b c ∧ t a b d < 0) := by
  rw [crF_ev, crF_ev, t_neg', t_pos, t_pos, t_neg']
  constructor
  · exact mul_neg_or
  · rintro (⟨h1, h2⟩ | ⟨h1, h2⟩)
    · have := rmul_pos (show 0 < - cr a b c by grind) h2; grind
    · have := rmul_pos h1 (show 0 < - cr a b d by grind); grind
theorem sg_mul {a b c d : Pt} : sg (t a b c) * sg (t a b d) < 0 ↔ (crF a b).ev c * (crF a b).ev d < 0 := by
  rw [cr_t_neg]
  have a1 := sg_neg' (x := t a b c)
  have a2 := sg_pos (x := t a b c)
  have a3 := sg_neg' (x := t a b d)
  have a4 := sg_pos (x := t a b d)
  rcases sg_or (t a b c) with h1 | h1 | h1 <;> rcases sg_or (t a b d) with h2 | h2 | h2 <;> rw [h1] at a1 a2 <;> rw [h2] at a3 a4 <;> rw [h1, h2] <;> omega
theorem crF_nn {a b c : Pt} : 0 ≤ (crF a b).ev c ↔ 0 ≤ t a b c := by rw [crF_ev, t_nn]
theorem half_all {a b : Pt} {h : List Pt} (C : CP h) (ab : a ≠ b) (k : ∀ q ∈ h, 0 ≤ t a b q) : half (crF a b) h = some h ∧ half (crF b a) h = none := by
  constructor
  · unfold half
    rw [clip_all (fun q hq => crF_nn.mpr (k q hq))]
    exact C.hull_self
  · unfold half
    refine hull_flat ?_
    have z := clip_neg0 (f := crF b a) (h := h) (fun q hq => by
      rw [crF_ev, cr_swap']
      have := t_nn.mp (k q hq)
      grind)
    intro x hx y hy w hw
    refine col ab ?_ ?_ ?_
    · have := (z x hx).2; rw [crF_ev, cr_swap'] at this; grind
    · have := (z y hy).2; rw [crF_ev, cr_swap'] at this; grind
    · have := (z w hw).2; rw [crF_ev, cr_swap'] at this; grind
end Pt
theorem d_inj {a b : Pt} (h : a.d = b.d) : a = b := by
  unfold Pt.d pt at h
  injection h with h
  injection h with x1 h
  injection h with x2 h
  injection h with x3 _
  injection x1 with x1
  injection x2 with x2
  injection x3 with x3
  exact Pt.ext' x1 x2 x3
theorem get_of_d {h : List Pt} {i : Nat} {u : Pt} (e : (dP h)[i]? = some u.d) : h[i]? = some u := by
  rw [dP_get] at e
  cases q : h[i]? with
  | none => rw [q] at e; cases e
  | some w => rw [q] at e; rw [d_inj (Option.some.inj e)]
theorem atD_map {h : List Pt} {j : Int} {u : Pt} (F : Pt → D) (e : atD (dP h) j = some u.d) : atD (h.map F) j = some (F u) := by
  unfold atD at *
  rw [dP_length] at e
  rw [List.length_map]
  split at e
  · rename_i h1
    rw [if_pos h1]
    split at e
    · rename_i h2
      rw [if_pos h2, List.getElem?_map, get_of_d e]; rfl
    · cases e
  · rename_i h1
    rw [if_neg h1, List.getElem?_map, get_of_d e]; rfl
/-- the list of the signs of the corners -/
def sds (a b : Pt) (h : List Pt) : List D := h.map fun p => PyData.int (sg (Pt.t a b p))
theorem sds_ints (a b : Pt) (h : List Pt) : intsOf (sds a b h) = some (h.map fun p => sg (Pt.t a b p)) := by
  have : sds a b h = (h.map fun p => sg (Pt.t a b p)).map PyData.int := by unfold sds; rw [List.map_map]; rfl
  rw [this, intsOf_map]
theorem min_sds {a b : Pt} {h : List Pt} (n : h ≠ []) : ∃ m, vMin1 (.list (sds a b h)) = some (.int m) ∧ (0 ≤ m ↔ ∀ q ∈ h, 0 ≤ Pt.t a b q) := by
  cases h with
  | nil => exact absurd rfl n
  | cons p l =>
    refine ⟨minL (sg (Pt.t a b p)) (l.map fun p => sg (Pt.t a b p)), ?_, ?_⟩
    · show (intsOf (sds a b (p :: l))).bind vMinO = _
      rw [sds_ints]; rfl
    · obtain ⟨s1, s2⟩ := minL_spec (l.map fun p => sg (Pt.t a b p)) (sg (Pt.t a b p))
      constructor
      · intro hm q hq
        have := s2 (sg (Pt.t a b q)) (List.mem_map_of_mem (f := fun p => sg (Pt.t a b p)) hq)
        have := (sg_neg' (x := Pt.t a b q))
        omega
      · intro hq
        obtain ⟨q, h1, h2⟩ := List.mem_map.mp (show _ ∈ (p :: l).map (fun p => sg (Pt.t a b p)) from s1)
        rw [← h2]
        have := hq q h1
        have := (sg_neg' (x := Pt.t a b q))
        omega
theorem max_sds {a b : Pt} {h : List Pt} (n : h ≠ []) : ∃ m, vMax1 (.list (sds a b h)) = some (.int m) ∧ (m ≤ 0 ↔ ∀ q ∈ h, Pt.t a b q ≤ 0) := by
  cases h with
  | nil => exact absurd rfl n
  | cons p l =>
    refine ⟨maxL (sg (Pt.t a b p)) (l.map fun p => sg (Pt.t a b p)), ?_, ?_⟩
    · show (intsOf (sds a b (p :: l))).bind vMaxO = _
      rw [sds_ints]; rfl
    · obtain ⟨s1, s2⟩ := maxL_spec (l.map fun p => sg (Pt.t a b p)) (sg (Pt.t a b p))
      constructor
      · intro hm q hq
        have := s2 (sg (Pt.t a b q)) (List.mem_map_of_mem (f := fun p => sg (Pt.t a b p)) hq)
        have := (sg_pos (x := Pt.t a b q))
        omega
      · intro hq
        obtain ⟨q, h1, h2⟩ := List.mem_map.mp (show _ ∈ (p :: l).map (fun p => sg (Pt.t a b p)) from s1)
        rw [← h2]
        have := hq q h1
        have := (sg_pos (x := Pt.t a b q))
        omega
/-! what is shown -/
theorem dP_sm {k : Nat} (hk : k ≤ 1000) : ∀ {h : List Pt}, (∀ q ∈ h, q.Bz k) → smAll (dP h) = true
  | [], _ => rfl
  | p :: h, hh => by
    have ih := dP_sm hk (h := h) (fun q hq => hh q (List.mem_cons_of_mem _ hq))
    have b := hh p List.mem_cons_self
    show (smI p.d && smAll (dP h)) = true
    rw [ih, Bool.and_true]
    show (decide (p.x.natAbs.log2 < 1000) && (decide (p.y.natAbs.log2 < 1000) && (decide (p.w.natAbs.log2 < 1000) && true))) = true
    rw [log_of_bd b.x hk, log_of_bd b.y hk, log_of_bd b.w hk]; rfl
theorem dP_nodes : ∀ h : List Pt, nodesAll (dP h) = 4 * h.length
  | [] => rfl
  | p :: h => by show nodes p.d + nodesAll (dP h) = _; rw [dP_nodes h]; show (1 + (1 + (1 + (1 + 0)))) + _ = _; simp only [List.length_cons]; omega
theorem hullD_sm {k : Nat} (hk : k ≤ 1000) {o : Option (List Pt)} (h : ∀ p, o = some p → ∀ q ∈ p, q.Bz k) : smI (hullD o) = true := by
  cases o with
  | none => rfl
  | some p => exact dP_sm hk (h p rfl)
theorem hullD_nodes {n : Nat} {o : Option (List Pt)} (h : ∀ p, o = some p → p.length ≤ n) : nodes (hullD o) ≤ 1 + 4 * n := by
  cases o with
  | none => show 1 ≤ _; omega
  | some p => show 1 + nodesAll (dP p) ≤ _; rw [dP_nodes]; have := h p rfl; omega
theorem hullD_depth (o : Option (List Pt)) : (hullD o).depth ≤ 2 := by
  cases o with
  | none => exact Nat.zero_le _
  | some p => show PyData.depthAll (dP p) + 1 ≤ 2; have := dP_depth p; omega
theorem vNe_false {a b : D} (h1 : SeqAt.shaped a = true) (h : PyData.eqv a b = true) (h2 : SeqAt.shaped b = true) : vNeG a b = some (.bool false) := by
  unfold vNeG; rw [h1, h2, h]; rfl
end Dn

namespace Dn
open PySem
namespace Pt
/-! ### what two polygons have in common -/
theorem nodup_len : ∀ {h ps : List Pt}, h.Nodup → (∀ q ∈ h, q ∈ ps) → h.length ≤ ps.length
  | [], _, _, _ => Nat.zero_le _
  | a :: h, ps, nd, s => by
    have n := List.nodup_cons.mp nd
    have ma := s a List.mem_cons_self
    have ih := nodup_len (h := h) (ps := ps.erase a) n.2 (fun q hq => by
      have : q ≠ a := fun z => n.1 (z ▸ hq)
      exact (List.mem_erase_of_ne this).mpr (s q (List.mem_cons_of_mem _ hq)))
    rw [List.length_erase_of_mem ma] at ih
    have : 0 < ps.length := List.length_pos_of_mem ma
    simp only [List.length_cons]
    omega
theorem three_sub {a b c : Pt} {l : List Pt} : [a, b, c].Sublist (a :: b :: c :: l) := List.Sublist.cons_cons _ (List.Sublist.cons_cons _ (List.Sublist.cons_cons _ (List.nil_sublist l)))
/-- a line that is one -/
theorem aff_col {g : Aff} (n : g.a ≠ 0 ∨ g.b ≠ 0) {p q r : Pt} (h1 : g.ev p = 0) (h2 : g.ev q = 0) (h3 : g.ev r = 0) : cr p q r = 0 := by
  unfold Aff.ev at *
  rcases n with n | n
  · refine rz_of n ?_; unfold cr; grind
  · refine rz_of n ?_; unfold cr; grind
theorem crF_nc {a b : Pt} (ab : a ≠ b) : (crF a b).a ≠ 0 ∨ (crF a b).b ≠ 0 := by
  refine Classical.byContradiction fun n => ab ?_
  have h1 : (crF a b).a = 0 := Classical.byContradiction fun z => n (.inl z)
  have h2 : (crF a b).b = 0 := Classical.byContradiction fun z => n (.inr z)
  unfold crF at h1 h2
  simp only at h1 h2
  exact XY (by grind) (by grind)
theorem filter_split {X : Type} (p : X → Bool) : ∀ l : List X, l.length = (l.filter p).length + (l.filter fun x => !p x).length
  | [] => rfl
  | a :: l => by
    have ih := filter_split p l
    rw [List.filter_cons, List.filter_cons, List.length_cons, ih]
    cases p a
    · simp; omega
    · simp; omega
/-- a cut makes at most one corner more -/
theorem half_len1 {f : Aff} (fn : f.a ≠ 0 ∨ f.b ≠ 0) {h k : List Pt} (n3 : 3 ≤ h.length) (S : SOC h) (e : half f h = some k) : k.length ≤ h.length + 1 := by
  have H := hull_ok e
  have C := H.poly.cp
  by_cases all : ∀ q ∈ h, 0 ≤ f.ev q
  · have := hull_len' (oc_clip S.oc) e
    rw [clip_all all] at this; omega
  · have nd := C.soc.nodup C.n3
    have s1 : (k.filter fun q => decide (0 < f.ev q)).length ≤ (h.filter fun q => decide (0 < f.ev q)).length := by
      refine nodup_len (List.Nodup.sublist List.filter_sublist nd) (fun q hq => ?_)
      obtain ⟨h1, h2⟩ := List.mem_filter.mp hq
      have h2 := of_decide_eq_true h2
      obtain ⟨e', he, ⟨c1, rfl⟩ | ⟨c1, rfl⟩⟩ := clip_mem.mp (H.mem q h1)
      · rw [cutP_z c1] at h2; exact absurd h2 (by decide)
      · exact List.mem_filter.mpr ⟨(edg_mem (u := e'.1) (v := e'.2) he).2, decide_eq_true h2⟩
    have s2 : (k.filter fun q => !decide (0 < f.ev q)).length ≤ 2 := by
      refine Nat.not_lt.mp fun n => ?_
      have z : ∀ q ∈ (k.filter fun q => !decide (0 < f.ev q)), f.ev q = 0 := fun q hq => by
        obtain ⟨h1, h2⟩ := List.mem_filter.mp hq
        have g := (clip_cl_sub S (H.mem q h1)).2
        have h2 : ¬ 0 < f.ev q := by simpa using h2
        grind
      have sub : (k.filter fun q => !decide (0 < f.ev q)).Sublist k := List.filter_sublist
      match (k.filter fun q => !decide (0 < f.ev q)), n, z, sub with
      | a :: b :: c :: l, _, z, sub =>
        have := C.soc a b c (three_sub.trans sub)
        rw [aff_col fn (z a (by simp)) (z b (by simp)) (z c (by simp))] at this
        exact absurd this (by decide)
      | [], n, _, _ => simp at n
      | [_], n, _, _ => simp at n
      | [_, _], n, _, _ => simp at n
    have s3 : (h.filter fun q => decide (0 < f.ev q)).length + 1 ≤ h.length := by
      obtain ⟨q, hq, nq⟩ : ∃ q ∈ h, ¬ 0 ≤ f.ev q := Classical.byContradiction fun n => all fun q hq => Classical.byContradiction fun m => n ⟨q, hq, m⟩
      have := filter_split (fun q => decide (0 < f.ev q)) h
      have : 0 < (h.filter fun x => !decide (0 < f.ev x)).length := List.length_pos_of_mem (a := q) (List.mem_filter.mpr ⟨hq, by
        have : ¬ 0 < f.ev q := by grind
        simp [this]⟩)
      omega
    have := filter_split (fun q => decide (0 < f.ev q)) k
    omega
/-- cut along edges, one behind the other -/
def meetE (es : List (Pt × Pt)) (o : Option (List Pt)) : Option (List Pt) := es.foldl (fun o e => o.bind (half (crF e.1 e.2))) o
def meetO (p q : List Pt) : Option (List Pt) := meetE (edg q) (some p)
theorem meetE_nil (o : Option (List Pt)) : meetE [] o = o := rfl
theorem meetE_cons (e : Pt × Pt) (es : List (Pt × Pt)) (o : Option (List Pt)) : meetE (e :: es) o = meetE es (o.bind (half (crF e.1 e.2))) := rfl
theorem meetE_snoc (es : List (Pt × Pt)) (e : Pt × Pt) (o : Option (List Pt)) : meetE (es ++ [e]) o = (meetE es o).bind (half (crF e.1 e.2)) := by unfold meetE; rw [List.foldl_append]; rfl
theorem meetE_none : ∀ es : List (Pt × Pt), meetE es none = none
  | [] => rfl
  | e :: es => meetE_none es
theorem meetE_app (es fs : List (Pt × Pt)) (o : Option (List Pt)) : meetE (es ++ fs) o = meetE fs (meetE es o) := by unfold meetE; rw [List.foldl_append]
/-- what is known of what is left -/
theorem meetE_some : ∀ {es : List (Pt × Pt)} {p k : List Pt}, CP p → meetE es (some p) = some k → CP k ∧ ∀ z, Cl k z ↔ Cl p z ∧ ∀ e ∈ es, 0 ≤ cr e.1 e.2 z
  | [], p, k, C, h => by cases h; exact ⟨C, fun z => ⟨fun a => ⟨a, fun e he => by cases he⟩, fun a => a.1⟩⟩
  | e :: es, p, k, C, h => by
    rw [meetE_cons] at h
    cases q : half (crF e.1 e.2) p with
    | none =>
      have h : meetE es (half (crF e.1 e.2) p) = some k := h
      rw [q, meetE_none] at h; cases h
    | some c =>
      have h : meetE es (half (crF e.1 e.2) p) = some k := h
      rw [q] at h
      obtain ⟨h1, h2⟩ := meetE_some (half_cp q) h
      have cc := clip_cl C.n3 C.soc q
      refine ⟨h1, fun z => ?_⟩
      rw [h2 z, cc z, crF_ev]
      constructor
      · rintro ⟨⟨a, b⟩, c⟩
        exact ⟨a, fun e' he => by
          rcases List.mem_cons.mp he with rfl | he
          · exact b
          · exact c e' he⟩
      · rintro ⟨a, b⟩
        exact ⟨⟨a, b e List.mem_cons_self⟩, fun e' he => b e' (List.mem_cons_of_mem _ he)⟩
theorem meetE_none' : ∀ {es : List (Pt × Pt)} {p : List Pt}, CP p → meetE es (some p) = none → ∃ e ∈ es, ∀ z, Cl p z → (∀ e ∈ es, 0 ≤ cr e.1 e.2 z) → cr e.1 e.2 z = 0
  | [], p, C, h => by cases h
  | e :: es, p, C, h => by
    rw [meetE_cons] at h
    have h : meetE es (half (crF e.1 e.2) p) = none := h
    cases q : half (crF e.1 e.2) p with
    | none =>
      have := clip_none C.n3 C.soc q
      refine ⟨e, List.mem_cons_self, fun z cz hz => ?_⟩
      have h1 := this z cz
      rw [crF_ev] at h1
      have := hz e List.mem_cons_self
      grind
    | some c =>
      rw [q] at h
      obtain ⟨e', he, k⟩ := meetE_none' (half_cp q) h
      refine ⟨e', List.mem_cons_of_mem _ he, fun z cz hz => k z ?_ (fun e'' h'' => hz e'' (List.mem_cons_of_mem _ h''))⟩
      refine (clip_cl C.n3 C.soc q z).mpr ⟨cz, ?_⟩
      rw [crF_ev]; exact hz e List.mem_cons_self
theorem meetO_some {p q k : List Pt} (P : CP p) (h : meetO p q = some k) : CP k ∧ ∀ z, Cl k z ↔ Cl p z ∧ Cl q z := meetE_some P h
theorem CP.flat_ne {k : List Pt} (C : CP k) {g : Aff} (n : g.a ≠ 0 ∨ g.b ≠ 0) (h : ∀ q ∈ k, g.ev q = 0) : False := by
  match k, C.n3, C, h with
  | a :: b :: c :: l, _, C, h =>
    have := C.soc a b c three_sub
    rw [aff_col n (h a (by simp)) (h b (by simp)) (h c (by simp))] at this
    exact absurd this (by decide)
/-- two that a line parts have no polygon in common -/
theorem meetO_apart {p q : List Pt} (P : CP p) {g : Aff} (n : g.a ≠ 0 ∨ g.b ≠ 0) (h1 : ∀ z, Cl p z → g.ev z ≤ 0) (h2 : ∀ z, Cl q z → 0 ≤ g.ev z) : meetO p q = none := by
  cases e : meetO p q with
  | none => rfl
  | some k =>
    obtain ⟨C, kz⟩ := meetO_some P e
    refine (C.flat_ne n fun z hz => ?_).elim
    obtain ⟨a, b⟩ := (kz z).mp (C.soc.cl hz)
    have := h1 z a
    have := h2 z b
    grind
theorem Cl.aff_le {h : List Pt} (n3 : 3 ≤ h.length) (H : SOC h) {z : Pt} (k : Cl h z) (f : Aff) (hf : ∀ q ∈ h, f.ev q ≤ 0) : f.ev z ≤ 0 := by
  have := Cl.aff n3 H k f.neg (fun q hq => by rw [Aff.neg_ev]; have := hf q hq; grind)
  rw [Aff.neg_ev] at this; grind
theorem meetO_comm {p q : List Pt} (P : CP p) (Q : CP q) : meetO p q = meetO q p := by
  have key : ∀ {p q k : List Pt}, CP p → CP q → meetO p q = some k → meetO q p = none → False := fun {p q k} P Q h1 h2 => by
    obtain ⟨C, kz⟩ := meetO_some P h1
    obtain ⟨e, he, z⟩ := meetE_none' Q h2
    refine C.flat_ne (crF_nc (P.soc.edge_ne P.n3 e he)) fun w hw => ?_
    obtain ⟨a, b⟩ := (kz w).mp (C.soc.cl hw)
    rw [crF_ev]
    exact z w b a
  cases e1 : meetO p q with
  | none =>
    cases e2 : meetO q p with
    | none => rfl
    | some k => exact (key Q P e2 e1).elim
  | some k =>
    cases e2 : meetO q p with
    | none => exact (key P Q e1 e2).elim
    | some j =>
      obtain ⟨C1, k1⟩ := meetO_some P e1
      obtain ⟨C2, k2⟩ := meetO_some Q e2
      rw [C1.uniq_cl C2 fun z => by rw [k1, k2]; exact and_comm]
/-- sizes do not grow -/
theorem meetE_fr {β : Nat} : ∀ {es : List (Pt × Pt)} {p k : List Pt}, CP p → Fr β p → (∀ e ∈ es, e.1 ≠ e.2 ∧ Ln β e.1 e.2) → meetE es (some p) = some k → Fr β k ∧ k.length ≤ p.length + es.length
  | [], p, k, C, F, L, h => by cases h; exact ⟨F, Nat.le_refl _⟩
  | e :: es, p, k, C, F, L, h => by
    have h : meetE es (half (crF e.1 e.2) p) = some k := h
    cases q : half (crF e.1 e.2) p with
    | none => rw [q, meetE_none] at h; cases h
    | some c =>
      rw [q] at h
      obtain ⟨l1, l2⟩ := L e List.mem_cons_self
      obtain ⟨h1, h2⟩ := meetE_fr (half_cp q) (F.half C.n3 C.soc l1 l2 q) (fun e he => L e (List.mem_cons_of_mem _ he)) h
      have := half_len1 (crF_nc l1) C.n3 C.soc q
      exact ⟨h1, by simp only [List.length_cons]; omega⟩
theorem edg_fr {β : Nat} {q : List Pt} (Q : CP q) (F : Fr β q) : ∀ e ∈ edg q, e.1 ≠ e.2 ∧ Ln β e.1 e.2 := fun e he => ⟨Q.soc.edge_ne Q.n3 e he, F e he⟩
theorem meetO_fr {β : Nat} {p q k : List Pt} (P : CP p) (Q : CP q) (F : Fr β p) (G : Fr β q) (h : meetO p q = some k) : Fr β k ∧ k.length ≤ p.length + q.length := by
  have := meetE_fr P F (edg_fr Q G) h
  rw [edg_len] at this
  exact this
/-- a polygon of its own corners: what the law's own hull tells of it -/
theorem CP.fr {k : Nat} {h : List Pt} (C : CP h) (b : ∀ q ∈ h, q.Bz k) : Fr (2 * k + 1) h := fr_of b (C.soc.edge_ne C.n3)
theorem CP.bz {β : Nat} {h : List Pt} (C : CP h) (F : Fr β h) : ∀ q ∈ h, q.Bz (2 * β + 1) := F.bz C.n3 C.soc
/-! ### motions -/
def mv (k : Int) (v p : Pt) : Pt := mk' ((co k : Rat) * p.X - (si k : Rat) * p.Y + v.X) ((si k : Rat) * p.X + (co k : Rat) * p.Y + v.Y)
theorem mv_X (k : Int) (v p : Pt) : (mv k v p).X = (co k : Rat) * p.X - (si k : Rat) * p.Y + v.X := mk_X _ _
theorem mv_Y (k : Int) (v p : Pt) : (mv k v p).Y = (si k : Rat) * p.X + (co k : Rat) * p.Y + v.Y := mk_Y _ _
theorem cs_q {k : Int} (hk : Qt k) : (co k : Rat) * co k + (si k : Rat) * si k = 1 := by
  have := congrArg (fun z : Int => (z : Rat)) (cs_one hk)
  simp only [Rat.intCast_add, Rat.intCast_mul] at this
  exact this
theorem mv_cr {k : Int} (hk : Qt k) (v a b c : Pt) : cr (mv k v a) (mv k v b) (mv k v c) = cr a b c := by
  have := cs_q hk
  unfold cr
  rw [mv_X, mv_X, mv_X, mv_Y, mv_Y, mv_Y]
  grind
theorem mv_inj {k : Int} (hk : Qt k) {v a b : Pt} (h : mv k v a = mv k v b) : a = b := by
  have := cs_q hk
  have h1 := congrArg X h
  have h2 := congrArg Y h
  rw [mv_X, mv_X] at h1
  rw [mv_Y, mv_Y] at h2
  refine XY ?_ ?_ <;> grind
theorem sub_map {f : Pt → Pt} {a b c : Pt} {h : List Pt} (s : [a, b, c].Sublist (h.map f)) : ∃ x y z, [x, y, z].Sublist h ∧ a = f x ∧ b = f y ∧ c = f z := by
  obtain ⟨l, hl, e⟩ := List.sublist_map_iff.mp s
  match l, e with
  | [x, y, z], e =>
    simp only [List.map_cons, List.map_nil, List.cons.injEq, and_true] at e
    exact ⟨x, y, z, hl, e.1, e.2.1, e.2.2⟩
theorem mv_soc {k : Int} (hk : Qt k) (v : Pt) {h : List Pt} (S : SOC h) : SOC (h.map (mv k v)) := by
  intro a b c s
  obtain ⟨x, y, z, s', rfl, rfl, rfl⟩ := sub_map s
  rw [mv_cr hk]; exact S x y z s'
theorem mv_w (k : Int) (v p : Pt) : p.w * v.w ≠ 0 := by have := Int.mul_pos p.pos v.pos; omega
theorem mv_frac {k : Int} (hk : Qt k) (v p : Pt) : (mv k v p).X * ((p.w * v.w : Int) : Rat) = ((tX k p.x p.y * v.w + v.x * p.w : Int) : Rat) ∧ (mv k v p).Y * ((p.w * v.w : Int) : Rat) = ((tY k p.x p.y * v.w + v.y * p.w : Int) : Rat) := by
  rw [mv_X, mv_Y, tX_lin hk, tY_lin hk]
  simp only [Rat.intCast_add, Rat.intCast_sub, Rat.intCast_mul]
  rw [← p.X_w, ← p.Y_w, ← v.X_w, ← v.Y_w]
  constructor <;> grind
theorem t_bd' {k : Int} (hk : Qt k) {n : Nat} {x y : Int} (hx : Bd n x) (hy : Bd n y) : Bd n (tX k x y) ∧ Bd n (tY k x y) := by
  rcases hk.or with rfl | rfl | rfl | rfl
  · exact ⟨hx, hy⟩
  · exact ⟨hy.neg, hx⟩
  · exact ⟨hx.neg, hy.neg⟩
  · exact ⟨hy, hx.neg⟩
theorem mv_bd {k : Int} (hk : Qt k) {i j : Nat} {v p : Pt} (hp : p.Bz i) (hv : v.Bz j) : Bd (i + j + 1) (tX k p.x p.y * v.w + v.x * p.w) ∧ Bd (i + j + 1) (tY k p.x p.y * v.w + v.y * p.w) ∧ Bd (i + j + 1) (p.w * v.w) := by
  have t := t_bd' hk hp.x hp.y
  exact ⟨(t.1.mul hv.w (l := i + j) (Nat.le_refl _)).add (hv.x.mul hp.w (by omega)) (Nat.le_refl _), (t.2.mul hv.w (l := i + j) (Nat.le_refl _)).add (hv.y.mul hp.w (by omega)) (Nat.le_refl _), hp.w.mul hv.w (by omega)⟩
theorem mv_bz {k : Int} (hk : Qt k) {i j : Nat} {v p : Pt} (hp : p.Bz i) (hv : v.Bz j) : (mv k v p).Bz (i + j + 1) := by
  obtain ⟨e1, e2⟩ := mv_frac hk v p
  obtain ⟨b1, b2, b3⟩ := mv_bd hk hp hv
  exact at_bz' (mv_w k v p) e1 e2 b1 b2 b3
end Pt
/-- a motion as data -/
def moD (k : Int) (v : Pt) : D := .tuple [.int k, v.d]
theorem vIx_m0 (k : Int) (v : Pt) : vIx (moD k v) (.int 0) = some (.int k) := rfl
theorem vIx_m1 (k : Int) (v : Pt) : vIx (moD k v) (.int 1) = some v.d := rfl
end Dn

namespace Dn
open PySem
def eD (e : Pt × Pt) : D := .tuple [e.1.d, e.2.d]
def edAt (h : List Pt) (i : Nat) : D := match (Pt.edg h)[i]? with
  | some e => eD e
  | none => .none
theorem edAt_map (h : List Pt) : (List.range h.length).map (edAt h) = (Pt.edg h).map eD := by
  have el := Pt.edg_len h
  refine List.ext_getElem (by simp [el]) fun i h1 h2 => ?_
  have hi : i < (Pt.edg h).length := by simpa using h2
  rw [List.getElem_map, List.getElem_range, List.getElem_map]
  unfold edAt
  rw [List.getElem?_eq_getElem hi]
/-- a coordinate -/
def cs (w : Int) (p : Pt) : Int := if w = 0 then p.x else p.y
def csQ (w : Int) (p : Pt) : Rat := if w = 0 then p.X else p.Y
theorem cs_q {w : Int} (hw : w = 0 ∨ w = 1) (p : Pt) : ((cs w p : Int) : Rat) = csQ w p * p.w := by
  rcases hw with rfl | rfl
  · exact p.X_w.symm
  · exact p.Y_w.symm
theorem cs_le {w : Int} (hw : w = 0 ∨ w = 1) {p q : Pt} : cs w p * q.w ≤ cs w q * p.w ↔ csQ w p ≤ csQ w q := by
  rw [← Rat.intCast_le_intCast]
  simp only [Rat.intCast_mul]
  rw [cs_q hw, cs_q hw]
  have h := rmul_pos p.wq q.wq
  constructor
  · intro k
    have : 0 ≤ ((p.w : Rat) * q.w) * (csQ w q - csQ w p) := by grind
    have := rnn_of h this
    grind
  · intro k
    have := rmul_nn (Rat.le_of_lt h) (show 0 ≤ csQ w q - csQ w p by grind)
    grind
theorem cs_lt {w s : Int} (hw : w = 0 ∨ w = 1) {a b : Pt} : s * cs w a * b.w < s * cs w b * a.w ↔ (s : Rat) * csQ w a < (s : Rat) * csQ w b := by
  rw [← Rat.intCast_lt_intCast]
  simp only [Rat.intCast_mul]
  rw [cs_q hw, cs_q hw]
  have h := rmul_pos a.wq b.wq
  constructor
  · intro k
    have : 0 < ((a.w : Rat) * b.w) * ((s : Rat) * csQ w b - (s : Rat) * csQ w a) := by grind
    have := rpos_of h this
    grind
  · intro k
    have := rmul_pos h (show 0 < (s : Rat) * csQ w b - (s : Rat) * csQ w a by grind)
    grind
end Dn

namespace Dn
open PySem
theorem bd_zero {k : Nat} : Bd k 0 := by unfold Bd; exact Nat.pow_pos (by decide)
theorem qz0' (k : Nat) : Qz (k + 1) (0 : Rat) := Pt.qz0.mono (by omega)
def pgD (h : List Pt) : D := .tuple (dP h)
theorem pgD_eq (h : List Pt) : pgD h = .tuple (dP h) := rfl
namespace Pt
/-! ### sizes of areas -/
def W : List Pt → Int
  | [] => 1
  | p :: l => p.w * W l
theorem W_pos : ∀ l : List Pt, 0 < W l
  | [] => by decide
  | p :: l => Int.mul_pos p.pos (W_pos l)
theorem W_bd {k : Nat} : ∀ {l : List Pt}, (∀ q ∈ l, q.Bz k) → Bd (k * l.length + 1) (W l)
  | [], _ => Bd.mono (j := 1) (show Bd 1 1 from bd_lit (by decide)) (by omega)
  | p :: l, h => by
    have ih := W_bd (l := l) (fun q hq => h q (List.mem_cons_of_mem _ hq))
    refine (h p List.mem_cons_self).w.mul ih ?_
    simp only [List.length_cons, Nat.mul_succ]; omega
theorem crs_frac (a b : Pt) : crs a b * ((a.w * b.w : Int) : Rat) = ((a.x * b.y - a.y * b.x : Int) : Rat) := by
  unfold crs
  simp only [Rat.intCast_sub, Rat.intCast_mul]
  rw [← a.X_w, ← a.Y_w, ← b.X_w, ← b.Y_w]; grind
theorem ps_frac {k : Nat} : ∀ (l : List Pt) (a : Pt), (∀ q ∈ a :: l, q.Bz k) → ∃ n : Int, ps a l * ((W (a :: l) : Int) : Rat) = (n : Rat) ∧ Bd (k * l.length + 2 * k + 2 + l.length) n
  | [], a, _ => ⟨0, by rw [ps_nil, Rat.intCast_zero]; grind, bd_zero⟩
  | b :: l, a, h => by
    have hb := h b (by simp)
    have ha := h a List.mem_cons_self
    obtain ⟨n, e, bn⟩ := ps_frac l b (fun q hq => h q (List.mem_cons_of_mem _ hq))
    have wl := W_bd (l := l) (fun q hq => h q (List.mem_cons_of_mem _ (List.mem_cons_of_mem _ hq)))
    have bx : Bd (2 * k + 1) (a.x * b.y - a.y * b.x) := (ha.x.mul hb.y (l := 2 * k) (by omega)).sub (ha.y.mul hb.x (by omega)) (by omega)
    refine ⟨(a.x * b.y - a.y * b.x) * W l + n * a.w, ?_, ?_⟩
    · have c := crs_frac a b
      rw [ps_cons]
      have w1 : W (a :: b :: l) = a.w * (b.w * W l) := rfl
      have w2 : W (b :: l) = b.w * W l := rfl
      rw [w2] at e
      rw [w1]
      simp only [Rat.intCast_add, Rat.intCast_mul] at *
      rw [← c, ← e]; grind
    · have e1 : Bd (k * (l.length + 1) + 2 * k + 2 + l.length) ((a.x * b.y - a.y * b.x) * W l) := bx.mul wl (by rw [Nat.mul_succ]; omega)
      have e2 : Bd (k * (l.length + 1) + 2 * k + 2 + l.length) (n * a.w) := bn.mul ha.w (by rw [Nat.mul_succ]; omega)
      refine e1.add e2 ?_
      simp only [List.length_cons]; omega
theorem ar_qz {k : Nat} {h : List Pt} (hh : ∀ q ∈ h, q.Bz k) : Qz (k * (h.length + 2) + 2 * k + 4 + h.length) (ar h) := by
  cases h with
  | nil => exact (qz0' 0).mono (by omega)
  | cons a l =>
    rw [ar_cons]
    have hc : ∀ q ∈ a :: (l ++ [a]), q.Bz k := fun q hq => hh q (by simp only [List.mem_cons, List.mem_append] at *; grind)
    obtain ⟨n, e, bn⟩ := ps_frac (l ++ [a]) a hc
    have wb := W_bd hc
    have wp := W_pos (a :: (l ++ [a]))
    have wz : W (a :: (l ++ [a])) ≠ 0 := by omega
    have eq : ps a (l ++ [a]) = (n : Rat) / ((W (a :: (l ++ [a])) : Int) : Rat) := by
      have := icast_ne wz
      grind
    rw [eq]
    refine Qz.of wz (bn.mono ?_) (wb.mono ?_)
    · simp only [List.length_append, List.length_cons, List.length_nil, Nat.mul_add, Nat.mul_one]; omega
    · simp only [List.length_append, List.length_cons, List.length_nil, Nat.mul_add, Nat.mul_one]; omega
/-! ### what is left of a polygon without another one -/
def restE : List (Pt × Pt) → List Pt → List (List Pt)
  | [], _ => []
  | e :: es, c => (half (crF e.2 e.1) c).toList ++ (match half (crF e.1 e.2) c with | none => [] | some c' => restE es c')
theorem restE_none {e : Pt × Pt} {es : List (Pt × Pt)} {c : List Pt} (h : half (crF e.1 e.2) c = none) : restE (e :: es) c = (half (crF e.2 e.1) c).toList := by
  show (half (crF e.2 e.1) c).toList ++ (match half (crF e.1 e.2) c with | none => [] | some c' => restE es c') = _
  rw [h]; simp
theorem restE_some {e : Pt × Pt} {es : List (Pt × Pt)} {c c' : List Pt} (h : half (crF e.1 e.2) c = some c') : restE (e :: es) c = (half (crF e.2 e.1) c).toList ++ restE es c' := by
  show (half (crF e.2 e.1) c).toList ++ (match half (crF e.1 e.2) c with | none => [] | some c' => restE es c') = _
  rw [h]
def restO (p q : List Pt) : List (List Pt) := if meetO p q = none then [p] else restE (edg q) p
/-- a line parts the two -/
def Apart (a b : List Pt) : Prop := ∃ g : Aff, (g.a ≠ 0 ∨ g.b ≠ 0) ∧ (∀ z, Cl a z → g.ev z ≤ 0) ∧ ∀ z, Cl b z → 0 ≤ g.ev z
theorem Apart.meet {a b : List Pt} (A : CP a) (h : Apart a b) : meetO a b = none := by
  obtain ⟨g, n, h1, h2⟩ := h
  exact meetO_apart A n h1 h2
theorem Apart.symm {a b : List Pt} (h : Apart a b) : Apart b a := by
  obtain ⟨g, n, h1, h2⟩ := h
  refine ⟨g.neg, ?_, fun z k => by rw [Aff.neg_ev]; have := h2 z k; grind, fun z k => by rw [Aff.neg_ev]; have := h1 z k; grind⟩
  unfold Aff.neg
  simp only
  rcases n with n | n
  · exact .inl (by grind)
  · exact .inr (by grind)
def sumA : List (List Pt) → Rat
  | [] => 0
  | h :: l => ar h + sumA l
theorem sumA_app : ∀ xs ys : List (List Pt), sumA (xs ++ ys) = sumA xs + sumA ys
  | [], ys => by show _ = 0 + _; grind
  | x :: xs, ys => by show ar x + sumA (xs ++ ys) = ar x + sumA xs + sumA ys; rw [sumA_app xs ys]; grind
theorem sumA_toList (o : Option (List Pt)) : sumA o.toList = arO o := by
  cases o with
  | none => rfl
  | some h => show ar h + 0 = ar h; grind
/-- what the parts are -/
theorem restE_spec {β : Nat} : ∀ {es : List (Pt × Pt)} {c : List Pt}, CP c → Fr β c → (∀ e ∈ es, e.1 ≠ e.2 ∧ Ln β e.1 e.2) →
    (∀ r ∈ restE es c, CP r ∧ Fr β r ∧ r.length ≤ c.length + es.length ∧ (∀ z, Cl r z → Cl c z) ∧ ∃ e ∈ es, ∀ z, Cl r z → cr e.1 e.2 z ≤ 0) ∧
    (restE es c).Pairwise Apart ∧ sumA (restE es c) + arO (meetE es (some c)) = ar c ∧ (restE es c).length ≤ es.length
  | [], c, C, F, L => ⟨fun r hr => by (cases hr), List.Pairwise.nil, by show (0 : Rat) + ar c = ar c; grind, Nat.le_refl _⟩
  | e :: es, c, C, F, L => by
    obtain ⟨l1, l2⟩ := L e List.mem_cons_self
    have ar2 := half_ar l1 C.soc.oc
    have out : ∀ r ∈ (half (crF e.2 e.1) c).toList, CP r ∧ Fr β r ∧ r.length ≤ c.length + (e :: es).length ∧ (∀ z, Cl r z → Cl c z) ∧ ∀ z, Cl r z → cr e.1 e.2 z ≤ 0 := fun r hr => by
      cases q : half (crF e.2 e.1) c with
      | none => rw [q] at hr; cases hr
      | some d =>
        rw [q] at hr
        have : r = d := by simpa using hr
        subst this
        have cc := clip_cl C.n3 C.soc q
        have len := half_len1 (crF_nc (fun z => l1 z.symm)) C.n3 C.soc q
        refine ⟨half_cp q, F.half C.n3 C.soc (fun z => l1 z.symm) l2.symm q, by simp only [List.length_cons]; omega, fun z k => ((cc z).mp k).1, fun z k => ?_⟩
        have := ((cc z).mp k).2
        rw [crF_ev, cr_swap'] at this; grind
    have one : (half (crF e.2 e.1) c).toList.length ≤ 1 := by cases half (crF e.2 e.1) c <;> simp
    have pw : (half (crF e.2 e.1) c).toList.Pairwise Apart := by cases half (crF e.2 e.1) c <;> simp
    cases q : half (crF e.1 e.2) c with
    | none =>
      rw [restE_none q]
      refine ⟨fun r hr => ?_, pw, ?_, by simp only [List.length_cons]; omega⟩
      · obtain ⟨o1, o2, o3, o4, o5⟩ := out r hr
        exact ⟨o1, o2, o3, o4, e, List.mem_cons_self, o5⟩
      · have m : meetE (e :: es) (some c) = none := by
          rw [meetE_cons]
          show meetE es (half (crF e.1 e.2) c) = none
          rw [q, meetE_none]
        rw [m, sumA_toList]
        rw [q] at ar2
        have : arO none = 0 := rfl
        rw [this] at ar2 ⊢
        grind
    | some c' =>
      rw [restE_some q]
      have cc := clip_cl C.n3 C.soc q
      have len := half_len1 (crF_nc l1) C.n3 C.soc q
      obtain ⟨i1, i2, i3, i4⟩ := restE_spec (es := es) (half_cp q) (F.half C.n3 C.soc l1 l2 q) (fun e he => L e (List.mem_cons_of_mem _ he))
      refine ⟨fun r hr => ?_, ?_, ?_, ?_⟩
      · rcases List.mem_append.mp hr with m | m
        · obtain ⟨o1, o2, o3, o4, o5⟩ := out r m
          exact ⟨o1, o2, o3, o4, e, List.mem_cons_self, o5⟩
        · obtain ⟨o1, o2, o3, o4, e', he, o5⟩ := i1 r m
          exact ⟨o1, o2, by simp only [List.length_cons]; omega, fun z k => ((cc z).mp (o4 z k)).1, e', List.mem_cons_of_mem _ he, o5⟩
      · refine List.pairwise_append.mpr ⟨pw, i2, fun a ha b hb => ?_⟩
        refine ⟨crF e.1 e.2, crF_nc l1, fun z k => by rw [crF_ev]; exact (out a ha).2.2.2.2 z k, fun z k => ?_⟩
        exact ((cc z).mp ((i1 b hb).2.2.2.1 z k)).2
      · have m : meetE (e :: es) (some c) = meetE es (some c') := by
          rw [meetE_cons]
          show meetE es (half (crF e.1 e.2) c) = _
          rw [q]
        rw [m, sumA_app, sumA_toList]
        rw [q] at ar2
        have : arO (some c') = ar c' := rfl
        rw [this] at ar2
        grind
      · rw [List.length_append]; simp only [List.length_cons]; omega
theorem restO_spec {β : Nat} {p q : List Pt} (P : CP p) (Q : CP q) (F : Fr β p) (G : Fr β q) :
    (∀ r ∈ restO p q, CP r ∧ Fr β r ∧ r.length ≤ p.length + q.length ∧ (∀ z, Cl r z → Cl p z) ∧ meetO r q = none) ∧
    (restO p q).Pairwise Apart ∧ sumA (restO p q) + arO (meetO p q) = ar p ∧ (restO p q).length ≤ q.length := by
  have q3 := Q.n3
  unfold restO
  by_cases z : meetO p q = none
  · rw [if_pos z]
    refine ⟨fun r hr => ?_, by simp, ?_, by simp only [List.length_cons, List.length_nil]; omega⟩
    · rw [List.mem_singleton.mp hr]
      exact ⟨P, F, by omega, fun _ k => k, z⟩
    · rw [z]; show ar p + 0 + 0 = ar p; grind
  · rw [if_neg z]
    obtain ⟨h1, h2, h3, h4⟩ := restE_spec P F (edg_fr Q G)
    rw [edg_len] at h4
    refine ⟨fun r hr => ?_, h2, h3, h4⟩
    obtain ⟨o1, o2, o3, o4, e, he, o5⟩ := h1 r hr
    rw [edg_len] at o3
    refine ⟨o1, o2, o3, o4, ?_⟩
    refine meetO_apart o1 (g := crF e.1 e.2) (crF_nc (Q.soc.edge_ne Q.n3 e he)) (fun w k => by rw [crF_ev]; exact o5 w k) (fun w k => ?_)
    rw [crF_ev]; exact k e he
end Pt
end Dn

namespace Dn
open PySem
/-! ### figures as data -/
def fgD (hs : List (List Pt)) : List D := hs.map pgD
theorem fg_sm {k : Nat} (hk : k ≤ 1000) : ∀ {hs : List (List Pt)}, (∀ h ∈ hs, ∀ q ∈ h, q.Bz k) → smAll (hs.map pgD) = true
  | [], _ => rfl
  | h :: hs, hh => by
    have ih := fg_sm hk (hs := hs) (fun x hx => hh x (List.mem_cons_of_mem _ hx))
    have b := dP_sm hk (hh h List.mem_cons_self)
    show (smAll (dP h) && smAll (hs.map pgD)) = true
    rw [b, ih]; rfl
theorem fg_nodes {n : Nat} : ∀ {hs : List (List Pt)}, (∀ h ∈ hs, h.length ≤ n) → nodesAll (hs.map pgD) ≤ hs.length * (1 + 4 * n)
  | [], _ => Nat.zero_le _
  | h :: hs, hh => by
    have ih := fg_nodes (n := n) (hs := hs) (fun x hx => hh x (List.mem_cons_of_mem _ hx))
    have b := hh h List.mem_cons_self
    have e : nodes (pgD h) = 1 + 4 * h.length := by show 1 + nodesAll (dP h) = _; rw [dP_nodes]
    show nodes (pgD h) + nodesAll (hs.map pgD) ≤ _
    rw [e, List.length_cons, Nat.add_mul, Nat.one_mul]; omega
theorem fg_depth : ∀ hs : List (List Pt), PyData.depthAll (hs.map pgD) ≤ 2
  | [] => Nat.zero_le _
  | h :: hs => by
    have ih := fg_depth hs
    have := dP_depth h
    show max (PyData.depthAll (dP h) + 1) (PyData.depthAll (hs.map pgD)) ≤ 2
    omega
theorem fg_lay : ∀ hs : List (List Pt), PyData.canLayAll0 (hs.map pgD) = true
  | [] => rfl
  | h :: hs => by
    show (PyData.canLayAll0 (dP h) && PyData.canLayAll0 (hs.map pgD)) = true
    rw [dP_lay, fg_lay hs]; rfl
theorem fg_shaped (hs : List (List Pt)) : SeqAt.shaped (.list (hs.map pgD)) = true := by
  show (PyData.canLayAll0 (hs.map pgD) && decide (PyData.depthAll (hs.map pgD) + 1 ≤ 64)) = true
  rw [fg_lay, decide_eq_true (by have := fg_depth hs; omega)]; rfl
theorem fg_eqv : ∀ hs ks : List (List Pt), PyData.eqvAll (hs.map pgD) (ks.map pgD) = decide (hs = ks)
  | [], [] => rfl
  | [], _ :: _ => rfl
  | _ :: _, [] => rfl
  | h :: hs, k :: ks => by
    show (PyData.eqvAll (dP h) (dP k) && PyData.eqvAll (hs.map pgD) (ks.map pgD)) = _
    rw [vEqT_dP, fg_eqv hs ks]
    by_cases e : h = k
    · by_cases e2 : hs = ks
      · simp [e, e2]
      · simp [e2]
    · simp [e]
theorem vEq_fg (hs ks : List (List Pt)) : vEq (.list (hs.map pgD)) (.list (ks.map pgD)) = some (.bool (decide (hs = ks))) := by
  show vEqG (.list (hs.map pgD)) (.list (ks.map pgD)) = _
  unfold vEqG
  rw [fg_shaped, fg_shaped]
  have : PyData.eqv (.list (hs.map pgD)) (.list (ks.map pgD)) = decide (hs = ks) := fg_eqv hs ks
  rw [this]; rfl
theorem fg_show {k n : Nat} (hk : k ≤ 1000) {hs : List (List Pt)} (h : ∀ h ∈ hs, ∀ q ∈ h, q.Bz k) (h' : ∀ h ∈ hs, h.length ≤ n) (hN : 1 + hs.length * (1 + 4 * n) ≤ 16000) : vRepr2 (.list (hs.map pgD)) = some (.str (PyData.list (hs.map pgD)).shown) := by
  have ok : okShow (.list (hs.map pgD)) = true := by
    refine okShow_of (fg_sm hk h) ?_ ?_
    · show PyData.depthAll (hs.map pgD) + 1 ≤ 60
      have := fg_depth hs; omega
    · show 1 + nodesAll (hs.map pgD) ≤ 16000
      have := fg_nodes h'; omega
  exact if_pos ok
theorem pg_show {k : Nat} (hk : k ≤ 1000) {h : List Pt} (hh : ∀ q ∈ h, q.Bz k) (hn : h.length ≤ 3000) : vRepr2 (.tuple (dP h)) = some (.str (PyData.tuple (dP h)).shown) := by
  have ok : okShow (.tuple (dP h)) = true := by
    refine okShow_of (dP_sm hk hh) ?_ ?_
    · show PyData.depthAll (dP h) + 1 ≤ 60
      have := dP_depth h; omega
    · show 1 + nodesAll (dP h) ≤ 16000
      rw [dP_nodes]; omega
  exact if_pos ok
theorem vEq_s (s : Str) : vEq (.str s) (.str s) = some (.bool true) := by simp [vEq]
theorem vNe_s (s : Str) : vNe (.str s) (.str s) = some (.bool false) := by simp [vNe]
theorem str_ok {s : Str} (h : s.cps.toList.all (fun c => decide (c < 1114112)) = true) : PyData.strOk s = true := by
  show s.cps.all (fun c => decide (c < 1114112)) = true
  rw [← Array.all_toList]; exact h
theorem str_shaped {s : Str} (h : PyData.strOk s = true) : SeqAt.shaped (.str s) = true := by
  simp [SeqAt.shaped, PyData.depth, PyData.canLay0, h]
theorem strs_lay : ∀ {ss : List Str}, (∀ s ∈ ss, PyData.strOk s = true) → PyData.canLayAll0 (ss.map PyData.str) = true
  | [], _ => rfl
  | s :: ss, h => by
    show (PyData.canLay0 (.str s) && PyData.canLayAll0 (ss.map PyData.str)) = true
    rw [strs_lay (fun x hx => h x (List.mem_cons_of_mem _ hx)), show PyData.canLay0 (.str s) = true from h s List.mem_cons_self]; rfl
theorem strs_depth : ∀ ss : List Str, PyData.depthAll (ss.map PyData.str) = 0
  | [] => rfl
  | s :: ss => by
    show max 0 (PyData.depthAll (ss.map PyData.str)) = 0
    rw [strs_depth ss]; rfl
theorem strs_shaped {ss : List Str} (h : ∀ s ∈ ss, PyData.strOk s = true) : SeqAt.shaped (.list (ss.map PyData.str)) = true := by
  show (PyData.canLayAll0 (ss.map PyData.str) && decide (PyData.depthAll (ss.map PyData.str) + 1 ≤ 64)) = true
  rw [strs_lay h, strs_depth]; rfl
/-- a text in a list of texts -/
theorem vIn_str {s : Str} {ss : List Str} {b : Bool} (h0 : PyData.strOk s = true) (h : ∀ s ∈ ss, PyData.strOk s = true) (e : (ss.any fun z => decide (z = s)) = b) : vIn (.str s) (.list (ss.map PyData.str)) = some (.bool b) := by
  show (if (SeqAt.shaped (.str s) && SeqAt.shaped (.list (ss.map PyData.str))) = true then some (PyData.bool ((ss.map PyData.str).any fun z => PyData.eqv z (.str s))) else none) = _
  rw [str_shaped h0, strs_shaped h, ← e, List.any_map]
  rfl
theorem vIn_str3 {s a b c : Str} {z : Bool} (h0 : PyData.strOk s = true) (ha : PyData.strOk a = true) (hb : PyData.strOk b = true) (hc : PyData.strOk c = true) (e : (decide (a = s) || (decide (b = s) || (decide (c = s) || false))) = z) : vIn (.str s) (.list [.str a, .str b, .str c]) = some (.bool z) :=
  vIn_str (ss := [a, b, c]) h0 (fun x hx => by
    simp only [List.mem_cons, List.not_mem_nil, or_false] at hx
    rcases hx with rfl | rfl | rfl <;> assumption) e
/-- where drawn points lie -/
structure Dr (q : Pt) : Prop where
  x0 : 0 ≤ q.X
  x1 : q.X ≤ 7
  y0 : 0 ≤ q.Y
  y1 : q.Y ≤ 7
theorem div_range {x w n : Int} (h0 : 0 ≤ x) (h1 : x ≤ n) (hw : 1 ≤ w) : (0 : Rat) ≤ (x : Rat) / w ∧ (x : Rat) / w ≤ n := by
  have hp : (0 : Rat) < w := Rat.intCast_pos.mpr (by omega)
  have hz : (w : Rat) ≠ 0 := by grind
  have e : (x : Rat) / w * w = x := by grind
  have x0 : (0 : Rat) ≤ x := by have := Rat.intCast_le_intCast.mpr h0; rwa [Rat.intCast_zero] at this
  have h2 : x ≤ n * w := by
    have : n * 1 ≤ n * w := Int.mul_le_mul_of_nonneg_left hw (by omega)
    omega
  have x1 : (x : Rat) ≤ n * w := by have := Rat.intCast_le_intCast.mpr h2; rwa [Rat.intCast_mul] at this
  constructor
  · exact rnn_of (a := (w : Rat)) hp (by grind)
  · have := rnn_of (a := (w : Rat)) (b := (n : Rat) - (x : Rat) / w) hp (by grind)
    grind
theorem at_dr {x y w : Int} (hw : 1 ≤ w) (a0 : 0 ≤ x) (a1 : x ≤ 7) (b0 : 0 ≤ y) (b1 : y ≤ 7) : Dr (Pt.at_ x y w (by omega)) := by
  obtain ⟨e1, e2⟩ := Pt.at_XY (x := x) (y := y) (w := w) (by omega)
  have r1 := div_range (n := 7) a0 a1 hw
  have r2 := div_range (n := 7) b0 b1 hw
  have s : ((7 : Int) : Rat) = 7 := rfl
  rw [s] at r1 r2
  exact ⟨by rw [e1]; exact r1.1, by rw [e1]; exact r1.2, by rw [e2]; exact r2.1, by rw [e2]; exact r2.2⟩
theorem wh_dr {x y : Int} (a0 : 0 ≤ x) (a1 : x ≤ 7) (b0 : 0 ≤ y) (b1 : y ≤ 7) : Dr (Pt.wh x y) := by
  have e1 : (Pt.wh x y).X = (x : Rat) / ((1 : Int) : Rat) := rfl
  have e2 : (Pt.wh x y).Y = (y : Rat) / ((1 : Int) : Rat) := rfl
  have r1 := div_range (n := 7) a0 a1 (show (1 : Int) ≤ 1 by decide)
  have r2 := div_range (n := 7) b0 b1 (show (1 : Int) ≤ 1 by decide)
  have s : ((7 : Int) : Rat) = 7 := rfl
  rw [s] at r1 r2
  exact ⟨by rw [e1]; exact r1.1, by rw [e1]; exact r1.2, by rw [e2]; exact r2.1, by rw [e2]; exact r2.2⟩
/-- a motion of a group -/
def InG (g : Str) (t : Int) (v : Pt) : Prop :=
  (g = "level" → t = 0 ∧ v.y = 0) ∧ (g = "grid" → t = 0 ∧ v.w = 1) ∧ (g = "grid2" → (t = 0 ∨ t = 2) ∧ v.w = 1) ∧ (g = "grid4" → v.w = 1) ∧ (g = "free" → t = 0) ∧ (g = "free2" → t = 0 ∨ t = 2)
theorem wh_bz {k : Nat} {x y : Int} (hk : 1 ≤ k) (a : Bd k x) (b : Bd k y) : (Pt.wh x y).Bz k := ⟨a, b, Bd.mono (j := 1) (show Bd 1 1 from bd_lit (by decide)) hk⟩
theorem atD_lastD (xs : List D) (d : D) : atD (xs ++ [d]) (-1) = some d := by
  unfold atD
  rw [List.length_append, List.length_singleton, if_pos (by decide), if_pos (by omega), show ((-1 : Int) + ((xs.length + 1 : Nat) : Int)).toNat = xs.length by omega, List.getElem?_append_right (Nat.le_refl _), Nat.sub_self]
  rfl
/-- the polygon of the moved corners -/
def Pt.mvP (k : Int) (v : Pt) (h : List Pt) : List Pt := (Pt.hull (h.map (Pt.mv k v))).getD []
end Dn

namespace Dn
open PySem
/-! ### the motion that leads back -/
namespace Pt
def bk (k : Int) (v : Pt) : Pt := if h : 0 ≤ k ∧ k < 4 then ⟨-(tX ((4 - k) % 4) v.x v.y), -(tY ((4 - k) % 4) v.x v.y), v.w, (Nf.turn (qt_back ⟨h.1, h.2⟩).1 v.nf).neg⟩ else v
theorem bk_x {k : Int} (hk : Qt k) (v : Pt) : (bk k v).x = -(tX ((4 - k) % 4) v.x v.y) := by unfold bk; rw [dif_pos ⟨hk.h0, hk.h4⟩]
theorem bk_y {k : Int} (hk : Qt k) (v : Pt) : (bk k v).y = -(tY ((4 - k) % 4) v.x v.y) := by unfold bk; rw [dif_pos ⟨hk.h0, hk.h4⟩]
theorem bk_w {k : Int} (hk : Qt k) (v : Pt) : (bk k v).w = v.w := by unfold bk; rw [dif_pos ⟨hk.h0, hk.h4⟩]
theorem bk_d {k : Int} (hk : Qt k) (v : Pt) : (bk k v).d = .tuple [.int (-(tX ((4 - k) % 4) v.x v.y)), .int (-(tY ((4 - k) % 4) v.x v.y)), .int v.w] := by
  rw [← bk_x hk, ← bk_y hk, ← bk_w hk]; rfl
theorem bk_X {k : Int} (hk : Qt k) (v : Pt) : (bk k v).X = -((co k : Rat) * v.X + (si k : Rat) * v.Y) := by
  have q := qt_back hk
  have e := (bk k v).X_w
  rw [bk_w hk, bk_x hk, tX_lin q.1, q.2.1, q.2.2.1] at e
  simp only [Rat.intCast_neg, Rat.intCast_sub, Rat.intCast_mul] at e
  rw [← v.X_w, ← v.Y_w] at e
  have := v.wq'
  grind
theorem bk_Y {k : Int} (hk : Qt k) (v : Pt) : (bk k v).Y = (si k : Rat) * v.X - (co k : Rat) * v.Y := by
  have q := qt_back hk
  have e := (bk k v).Y_w
  rw [bk_w hk, bk_y hk, tY_lin q.1, q.2.1, q.2.2.1] at e
  simp only [Rat.intCast_neg, Rat.intCast_add, Rat.intCast_mul] at e
  rw [← v.X_w, ← v.Y_w] at e
  have := v.wq'
  grind
theorem bk_bz {k : Int} (hk : Qt k) {j : Nat} {v : Pt} (hv : v.Bz j) : (bk k v).Bz j := by
  have t := t_bd' (qt_back hk).1 hv.x hv.y
  exact ⟨by rw [bk_x hk]; exact t.1.neg, by rw [bk_y hk]; exact t.2.neg, by rw [bk_w hk]; exact hv.w⟩
theorem mv_bk {k : Int} (hk : Qt k) (v p : Pt) : mv ((4 - k) % 4) (bk k v) (mv k v p) = p := by
  have c := cs_q hk
  have q := qt_back hk
  have h1 : ((co ((4 - k) % 4) : Int) : Rat) = (co k : Rat) := by rw [q.2.1]
  have h2 : ((si ((4 - k) % 4) : Int) : Rat) = -(si k : Rat) := by rw [q.2.2.1, Rat.intCast_neg]
  refine XY ?_ ?_
  · rw [mv_X, mv_X, mv_Y, bk_X hk, h1, h2]; grind
  · rw [mv_Y, mv_X, mv_Y, bk_Y hk, h1, h2]; grind
theorem bk_bk {k : Int} (hk : Qt k) (v : Pt) : bk ((4 - k) % 4) (bk k v) = v := by
  have c := cs_q hk
  have q := qt_back hk
  have h1 : ((co ((4 - k) % 4) : Int) : Rat) = (co k : Rat) := by rw [q.2.1]
  have h2 : ((si ((4 - k) % 4) : Int) : Rat) = -(si k : Rat) := by rw [q.2.2.1, Rat.intCast_neg]
  refine XY ?_ ?_
  · rw [bk_X q.1, bk_X hk, bk_Y hk, h1, h2]; grind
  · rw [bk_Y q.1, bk_X hk, bk_Y hk, h1, h2]; grind
theorem mvP_back {k : Int} (hk : Qt k) {v : Pt} {h R : List Pt} (C : CP h) (me : ∀ q, q ∈ R ↔ q ∈ h.map (mv k v)) : mvP ((4 - k) % 4) (bk k v) R = h := by
  have : hull (R.map (mv ((4 - k) % 4) (bk k v))) = some h := by
    refine C.hull_of (fun q hq => ?_) (fun q hq => ?_)
    · exact List.mem_map.mpr ⟨mv k v q, (me _).mpr (List.mem_map.mpr ⟨q, hq, rfl⟩), mv_bk hk v q⟩
    · obtain ⟨r, hr, rfl⟩ := List.mem_map.mp hq
      obtain ⟨p, hp, rfl⟩ := List.mem_map.mp ((me r).mp hr)
      rw [mv_bk hk]
      exact C.soc.cl hp
  unfold mvP; rw [this]; rfl
theorem half_bz {j k : Nat} {a b : Pt} {h r : List Pt} (ha : a.Bz j) (hb : b.Bz j) (hh : ∀ q ∈ h, q.Bz k) (e : half (crF a b) h = some r) : ∀ q ∈ r, q.Bz (2 * j + 2 * k + 3) :=
  fun q hq => clip_bz ha hb hh q ((hull_ok e).mem q hq)
/-- polygons cut by a line -/
def cutF (a b : Pt) (hs : List (List Pt)) : List (List Pt) := hs.flatMap fun h => (half (crF a b) h).toList ++ (half (crF b a) h).toList
theorem cutF_ok {j k n : Nat} {a b : Pt} (ab : a ≠ b) (ha : a.Bz j) (hb : b.Bz j) {hs : List (List Pt)} (H : ∀ h ∈ hs, CP h ∧ (∀ q ∈ h, q.Bz k) ∧ h.length ≤ n) : (∀ h ∈ cutF a b hs, CP h ∧ (∀ q ∈ h, q.Bz (2 * j + 2 * k + 3)) ∧ h.length ≤ n + 1) ∧ (cutF a b hs).length ≤ 2 * hs.length := by
  constructor
  · intro r hr
    obtain ⟨h, hh, e⟩ := List.mem_flatMap.mp hr
    obtain ⟨c1, c2, c3⟩ := H h hh
    rcases List.mem_append.mp e with e | e
    · have e := Option.mem_toList.mp e
      exact ⟨half_cp e, half_bz ha hb c2 e, by have := half_len1 (crF_nc ab) c1.n3 c1.soc e; omega⟩
    · have e := Option.mem_toList.mp e
      exact ⟨half_cp e, half_bz hb ha c2 e, by have := half_len1 (crF_nc (fun z => ab z.symm)) c1.n3 c1.soc e; omega⟩
  · have ol : ∀ o : Option (List Pt), o.toList.length ≤ 1 := fun o => by cases o <;> simp
    have : ∀ hs : List (List Pt), (cutF a b hs).length ≤ 2 * hs.length := by
      intro hs
      induction hs with
      | nil => exact Nat.le_refl _
      | cons h hs ih =>
        have e : cutF a b (h :: hs) = ((half (crF a b) h).toList ++ (half (crF b a) h).toList) ++ cutF a b hs := rfl
        rw [e, List.length_append, List.length_append, List.length_cons]
        have := ol (half (crF a b) h)
        have := ol (half (crF b a) h)
        omega
    exact this hs
end Pt
theorem undo_d {k : Int} (hk : Qt k) (v : Pt) : moD ((4 - k) % 4) (Pt.bk k v) = .tuple [.int ((4 - k) % 4), .tuple [.int (-(tX ((4 - k) % 4) v.x v.y)), .int (-(tY ((4 - k) % 4) v.x v.y)), .int v.w]] := by
  unfold moD; rw [Pt.bk_d hk]
/-! ### papers as data -/
abbrev Pr := List Pt × Int × Pt
def prD (x : Pr) : D := .tuple [pgD x.1, moD x.2.1 x.2.2]
/-- one pair of a paper -/
structure PrOk (i j n : Nat) (x : Pr) : Prop where
  cp : Pt.CP x.1
  bz : ∀ q ∈ x.1, q.Bz i
  len : x.1.length ≤ n
  qt : Qt x.2.1
  vz : x.2.2.Bz j
def invP (x : Pr) : Pr := (Pt.mvP x.2.1 x.2.2 x.1, (4 - x.2.1) % 4, Pt.bk x.2.1 x.2.2)
theorem pp_sm {i j n : Nat} (hi : i ≤ 1000) (hj : j ≤ 1000) : ∀ {P : List Pr}, (∀ x ∈ P, PrOk i j n x) → smAll (P.map prD) = true
  | [], _ => rfl
  | x :: P, h => by
    have ih := pp_sm hi hj (P := P) (fun y hy => h y (List.mem_cons_of_mem _ hy))
    have o := h x List.mem_cons_self
    have b := dP_sm hi o.bz
    have c := dP_sm hj (h := [x.2.2]) (fun q hq => by rw [List.mem_singleton.mp hq]; exact o.vz)
    have e0 : smI (.int x.2.1) = true := by
      rcases o.qt.or with z | z | z | z <;> rw [z] <;> rfl
    have c : (smI x.2.2.d && true) = true := c
    rw [Bool.and_true] at c
    show ((smAll (dP x.1) && ((smI (.int x.2.1) && (smI x.2.2.d && true)) && true)) && smAll (P.map prD)) = true
    rw [b, c, e0, ih]; rfl
theorem pp_nodes {n : Nat} : ∀ {P : List Pr}, (∀ x ∈ P, x.1.length ≤ n) → nodesAll (P.map prD) ≤ P.length * (8 + 4 * n)
  | [], _ => Nat.zero_le _
  | x :: P, h => by
    have ih := pp_nodes (n := n) (P := P) (fun y hy => h y (List.mem_cons_of_mem _ hy))
    have b := h x List.mem_cons_self
    have e : nodes (prD x) = 8 + 4 * x.1.length := by
      show 1 + ((1 + nodesAll (dP x.1)) + ((1 + (1 + ((1 + (1 + (1 + (1 + 0)))) + 0))) + 0)) = _
      rw [dP_nodes]; omega
    show nodes (prD x) + nodesAll (P.map prD) ≤ _
    rw [e, List.length_cons, Nat.add_mul, Nat.one_mul]; omega
theorem pp_depth : ∀ P : List Pr, PyData.depthAll (P.map prD) ≤ 3
  | [] => Nat.zero_le _
  | x :: P => by
    have ih := pp_depth P
    have := dP_depth x.1
    show max (max (PyData.depthAll (dP x.1) + 1) (max (max 0 (max (max 0 (max 0 (max 0 0)) + 1) 0) + 1) 0) + 1) (PyData.depthAll (P.map prD)) ≤ 3
    omega
theorem pp_lay : ∀ P : List Pr, PyData.canLayAll0 (P.map prD) = true
  | [] => rfl
  | x :: P => by
    show ((PyData.canLayAll0 (dP x.1) && (true && true)) && PyData.canLayAll0 (P.map prD)) = true
    rw [dP_lay, pp_lay P]; rfl
theorem pp_shaped (P : List Pr) : SeqAt.shaped (.list (P.map prD)) = true := by
  show (PyData.canLayAll0 (P.map prD) && decide (PyData.depthAll (P.map prD) + 1 ≤ 64)) = true
  rw [pp_lay, decide_eq_true (by have := pp_depth P; omega)]; rfl
theorem pp_show {i j n : Nat} (hi : i ≤ 1000) (hj : j ≤ 1000) {P : List Pr} (h : ∀ x ∈ P, PrOk i j n x) (hN : 1 + P.length * (8 + 4 * n) ≤ 16000) : vRepr2 (.list (P.map prD)) = some (.str (PyData.list (P.map prD)).shown) := by
  have ok : okShow (.list (P.map prD)) = true := by
    refine okShow_of (pp_sm hi hj h) ?_ ?_
    · show PyData.depthAll (P.map prD) + 1 ≤ 60
      have := pp_depth P; omega
    · show 1 + nodesAll (P.map prD) ≤ 16000
      have := pp_nodes (fun x hx => (h x hx).len); omega
  exact if_pos ok
theorem vEq_self {xs : List D} (h : SeqAt.shaped (.list xs) = true) : vEq (.list xs) (.list xs) = some (.bool true) ∧ vNe (.list xs) (.list xs) = some (.bool false) := by
  have l : PyData.canLay0 (.list xs) = true := by
    have h : (PyData.canLay0 (.list xs) && decide ((PyData.list xs).depth ≤ 64)) = true := h
    rw [Bool.and_eq_true] at h; exact h.1
  have r := SeqAt.eqv_refl (.list xs) l
  constructor
  · show vEqG (.list xs) (.list xs) = _
    unfold vEqG; rw [h, r]; rfl
  · show vNeG (.list xs) (.list xs) = _
    unfold vNeG; rw [h, r]; rfl
theorem atD_pgD {rs : List (List Pt)} {i : Nat} {r : List Pt} (e : rs[i]? = some r) : atD (rs.map pgD) (i : Int) = some (.tuple (dP r)) := by rw [atD_nat, List.getElem?_map, e]; rfl
end Dn

namespace Dn
open PySem
/-! ### a point within a polygon, made of three corners -/
theorem r_canc {s u v : Rat} (hs : s ≠ 0) (e : u * s = v * s) : u = v := by grind
theorem r_zero {s t : Rat} (hs : 0 < s) (e : s * t = 0) : t = 0 := by
  rcases Rat.mul_eq_zero.mp e with z | z
  · rw [z] at hs; exact absurd hs (by decide)
  · exact z
namespace Pt
def inX (k : Int) (a b c : Pt) : Int := a.x * b.w * c.w + k * b.x * a.w * c.w + k * k * c.x * a.w * b.w
def inY (k : Int) (a b c : Pt) : Int := a.y * b.w * c.w + k * b.y * a.w * c.w + k * k * c.y * a.w * b.w
def inW (k : Int) (a b c : Pt) : Int := (1 + k + k * k) * a.w * b.w * c.w
theorem inW_pos {k : Int} (h : 0 ≤ k) (a b c : Pt) : 0 < inW k a b c := by
  have h2 : 0 ≤ k * k := Int.mul_nonneg h h
  exact Int.mul_pos (Int.mul_pos (Int.mul_pos (by omega) a.pos) b.pos) c.pos
def inn (k : Int) (a b c : Pt) : Pt := if h : 0 ≤ k then at_ (inX k a b c) (inY k a b c) (inW k a b c) (by have := inW_pos h a b c; omega) else a
theorem inn_eq {k : Int} (h : 0 ≤ k) (a b c : Pt) : inn k a b c = at_ (inX k a b c) (inY k a b c) (inW k a b c) (by have := inW_pos h a b c; omega) := by unfold inn; rw [dif_pos h]
theorem inn_XY {k : Int} (h : 0 ≤ k) (a b c : Pt) : (inn k a b c).X * (1 + (k : Rat) + (k : Rat) * k) = a.X + k * b.X + (k : Rat) * k * c.X ∧ (inn k a b c).Y * (1 + (k : Rat) + (k : Rat) * k) = a.Y + k * b.Y + (k : Rat) * k * c.Y ∧ (inn k a b c).X * ((inW k a b c : Int) : Rat) = ((inX k a b c : Int) : Rat) ∧ (inn k a b c).Y * ((inW k a b c : Int) : Rat) = ((inY k a b c : Int) : Rat) := by
  have wp := inW_pos h a b c
  have hw : inW k a b c ≠ 0 := by omega
  have iw := icast_ne hw
  obtain ⟨e1, e2⟩ := at_XY (x := inX k a b c) (y := inY k a b c) hw
  rw [← inn_eq h] at e1 e2
  have f1 : (inn k a b c).X * ((inW k a b c : Int) : Rat) = ((inX k a b c : Int) : Rat) := by grind
  have f2 : (inn k a b c).Y * ((inW k a b c : Int) : Rat) = ((inY k a b c : Int) : Rat) := by grind
  refine ⟨?_, ?_, f1, f2⟩
  all_goals
    clear e1 e2
    unfold inW inX at f1
    unfold inW inY at f2
    have o1 : ((1 : Int) : Rat) = 1 := rfl
    simp only [Rat.intCast_add, Rat.intCast_mul, o1] at f1 f2
    rw [← a.X_w, ← b.X_w, ← c.X_w] at f1
    rw [← a.Y_w, ← b.Y_w, ← c.Y_w] at f2
    have za := a.wq'
    have zb := b.wq'
    have zc := c.wq'
    generalize (inn k a b c).X = X at *
    generalize (inn k a b c).Y = Y at *
    refine r_canc za (r_canc zb (r_canc zc ?_)); grind
theorem inn_ev {k : Int} (h : 0 ≤ k) (f : Aff) (a b c : Pt) : f.ev (inn k a b c) * (1 + (k : Rat) + (k : Rat) * k) = f.ev a + k * f.ev b + (k : Rat) * k * f.ev c := by
  obtain ⟨g1, g2, _, _⟩ := inn_XY h a b c
  unfold Aff.ev
  generalize (inn k a b c).X = X at *
  generalize (inn k a b c).Y = Y at *
  grind
theorem inn_bz {k : Int} (h : 0 ≤ k) (hk : Bd 6 k) {m : Nat} {a b c : Pt} (ha : a.Bz m) (hb : b.Bz m) (hc : c.Bz m) : (inn k a b c).Bz (3 * m + 15) ∧ Bd (3 * m + 15) (inX k a b c) ∧ Bd (3 * m + 15) (inY k a b c) ∧ Bd (3 * m + 15) (inW k a b c) := by
  obtain ⟨_, _, f1, f2⟩ := inn_XY h a b c
  have wp := inW_pos h a b c
  have kk : Bd 12 (k * k) := hk.mul hk (by decide)
  have t1 : ∀ {x y z : Int}, Bd m x → Bd m y → Bd m z → Bd (3 * m) (x * y * z) := fun hx hy hz => (hx.mul hy (l := 2 * m) (by omega)).mul hz (by omega)
  have t2 : ∀ {x y z : Int}, Bd m x → Bd m y → Bd m z → Bd (3 * m + 6) (k * x * y * z) := fun hx hy hz => ((hk.mul hx (l := m + 6) (by omega)).mul hy (l := 2 * m + 6) (by omega)).mul hz (by omega)
  have t3 : ∀ {x y z : Int}, Bd m x → Bd m y → Bd m z → Bd (3 * m + 12) (k * k * x * y * z) := fun hx hy hz => ((kk.mul hx (l := m + 12) (by omega)).mul hy (l := 2 * m + 12) (by omega)).mul hz (by omega)
  have b1 : Bd (3 * m + 15) (inX k a b c) := ((((t1 ha.x hb.w hc.w).mono (by omega) : Bd (3 * m + 6) _).add (t2 hb.x ha.w hc.w) (l := 3 * m + 12) (by omega)).add (t3 hc.x ha.w hb.w) (l := 3 * m + 15) (by omega))
  have b2 : Bd (3 * m + 15) (inY k a b c) := ((((t1 ha.y hb.w hc.w).mono (by omega) : Bd (3 * m + 6) _).add (t2 hb.y ha.w hc.w) (l := 3 * m + 12) (by omega)).add (t3 hc.y ha.w hb.w) (l := 3 * m + 15) (by omega))
  have n0 : Bd 15 (1 + k + k * k) := ((bd_lit (by decide) : Bd 6 1).add hk (l := 12) (by decide)).add kk (l := 15) (by decide)
  have b3 : Bd (3 * m + 15) (inW k a b c) := ((n0.mul ha.w (l := m + 15) (by omega)).mul hb.w (l := 2 * m + 15) (by omega)).mul hc.w (by omega)
  exact ⟨at_bz' (by omega) f1 f2 b1 b2 b3, b1, b2, b3⟩
theorem kk_pos {k : Int} (h : 1 ≤ k) : (0 : Rat) < k ∧ (0 : Rat) < (k : Rat) * k ∧ (0 : Rat) < 1 + (k : Rat) + (k : Rat) * k := by
  have h1 : (0 : Rat) < k := Rat.intCast_pos.mpr (by omega)
  have h2 : (0 : Rat) < (k : Rat) * k := Rat.mul_pos h1 h1
  exact ⟨h1, h2, by grind⟩
theorem rpos_of {s t : Rat} (hs : 0 < s) (e : 0 < t * s) : 0 < t := by
  by_cases z : 0 < t
  · exact z
  · have h1 : 0 ≤ -t := by grind
    have := Rat.mul_nonneg h1 (Rat.le_of_lt hs)
    grind
theorem inn_in {k : Int} (hk : 1 ≤ k) {h : List Pt} (S : SOC h) {a b c : Pt} (s : [a, b, c].Sublist h) : Inn h (inn k a b c) := by
  intro e he
  obtain ⟨h1, h2, h3⟩ := kk_pos hk
  have ev := inn_ev (k := k) (by omega) (crF e.1 e.2) a b c
  have ma : a ∈ h := s.subset (by simp)
  have mb : b ∈ h := s.subset (by simp)
  have mc : c ∈ h := s.subset (by simp)
  have ea := S.edge' he ma
  have eb := S.edge' he mb
  have ec := S.edge' he mc
  obtain ⟨n1, n2, n3⟩ := S.ne s
  rw [← crF_ev] at ea eb ec ⊢
  have pb : 0 ≤ (k : Rat) * (crF e.1 e.2).ev b := Rat.mul_nonneg (Rat.le_of_lt h1) eb
  have pc : 0 ≤ (k : Rat) * k * (crF e.1 e.2).ev c := Rat.mul_nonneg (Rat.le_of_lt h2) ec
  have one : 0 < (crF e.1 e.2).ev a ∨ 0 < (crF e.1 e.2).ev b ∨ 0 < (crF e.1 e.2).ev c := by
    by_cases qa : a = e.1 ∨ a = e.2
    · by_cases qb : b = e.1 ∨ b = e.2
      · right; right
        rw [crF_ev]
        refine S.edge he mc ?_ ?_
        · rintro rfl
          rcases qa with qa | qa <;> rcases qb with qb | qb
          · exact n3 qa
          · exact n3 qa
          · exact n2 qb
          · exact n1 (qa.trans qb.symm)
        · rintro rfl
          rcases qa with qa | qa <;> rcases qb with qb | qb
          · exact n1 (qa.trans qb.symm)
          · exact n2 qb
          · exact n3 qa
          · exact n3 qa
      · right; left
        rw [crF_ev]
        exact S.edge he mb (fun z => qb (.inl z)) (fun z => qb (.inr z))
    · left
      rw [crF_ev]
      exact S.edge he ma (fun z => qa (.inl z)) (fun z => qa (.inr z))
  have tot : 0 < (crF e.1 e.2).ev (inn k a b c) * (1 + (k : Rat) + (k : Rat) * k) := by
    rw [ev]
    rcases one with o | o | o
    · grind
    · have := Rat.mul_pos h1 o; grind
    · have := Rat.mul_pos h2 o; grind
  exact rpos_of h3 tot
theorem inn_out {k : Int} (hk : 1 ≤ k) {h h' : List Pt} (S : SOC h) {a b c : Pt} (s : [a, b, c].Sublist h) (A : Apart h h') : ¬ Cl h' (inn k a b c) := by
  intro z
  obtain ⟨g, n, g1, g2⟩ := A
  obtain ⟨h1, h2, h3⟩ := kk_pos hk
  have ev := inn_ev (k := k) (by omega) g a b c
  have ea := g1 a (S.cl (s.subset (by simp)))
  have eb := g1 b (S.cl (s.subset (by simp)))
  have ec := g1 c (S.cl (s.subset (by simp)))
  have ez := g2 _ z
  have pz := Rat.mul_nonneg ez (Rat.le_of_lt h3)
  have eb' : 0 ≤ -(g.ev b) := by grind
  have ec' : 0 ≤ -(g.ev c) := by grind
  have pb := Rat.mul_nonneg (Rat.le_of_lt h1) eb'
  have pc := Rat.mul_nonneg (Rat.le_of_lt h2) ec'
  have za : g.ev a = 0 := by grind
  have zb : (k : Rat) * (g.ev b) = 0 := by grind
  have zc : (k : Rat) * k * (g.ev c) = 0 := by grind
  have zb : g.ev b = 0 := r_zero h1 zb
  have zc : g.ev c = 0 := r_zero h2 zc
  have p0 := S a b c s
  rw [aff_col n za zb zc] at p0
  exact absurd p0 (by decide)
end Pt
/-! ### whole numbers in lists of whole numbers -/
theorem dI_lay : ∀ ns : List Int, PyData.canLayAll0 (dI ns) = true
  | [] => rfl
  | n :: ns => by
    show (true && PyData.canLayAll0 (dI ns)) = true
    rw [dI_lay ns]; rfl
theorem dI_depth : ∀ ns : List Int, PyData.depthAll (dI ns) = 0
  | [] => rfl
  | n :: ns => by
    show max 0 (PyData.depthAll (dI ns)) = 0
    rw [dI_depth ns]; rfl
theorem dI_shaped (ns : List Int) : SeqAt.shaped (.list (dI ns)) = true := by
  show (PyData.canLayAll0 (dI ns) && decide (PyData.depthAll (dI ns) + 1 ≤ 64)) = true
  rw [dI_lay, dI_depth]; rfl
theorem dI_any (i : Int) : ∀ ns : List Int, ((dI ns).any fun z => PyData.eqv z (.int i)) = decide (i ∈ ns)
  | [] => rfl
  | n :: ns => by
    show (PyData.eqv (.int n) (.int i) || ((dI ns).any fun z => PyData.eqv z (.int i))) = _
    rw [dI_any i ns, show PyData.eqv (.int n) (.int i) = decide (n = i) from rfl]
    by_cases e : n = i
    · simp [e]
    · have : ¬ i = n := fun z => e z.symm
      simp [e, this]
theorem vIn_dI (i : Int) (ns : List Int) : vIn (.int i) (.list (dI ns)) = some (.bool (decide (i ∈ ns))) := by
  show (if (SeqAt.shaped (.int i) && SeqAt.shaped (.list (dI ns))) = true then some (PyData.bool ((dI ns).any fun z => PyData.eqv z (.int i))) else none) = _
  rw [dI_shaped, dI_any, show SeqAt.shaped (.int i) = true from rfl]; rfl
theorem vNotIn_dI (i : Int) (ns : List Int) : vNotIn (.int i) (.list (dI ns)) = some (.bool (!decide (i ∈ ns))) := by
  show (if (SeqAt.shaped (.int i) && SeqAt.shaped (.list (dI ns))) = true then some (PyData.bool (!(dI ns).any fun z => PyData.eqv z (.int i))) else none) = _
  rw [dI_shaped, dI_any, show SeqAt.shaped (.int i) = true from rfl]; rfl
theorem vNotIn_str {s : Str} {ss : List Str} {b : Bool} (h0 : PyData.strOk s = true) (h : ∀ s ∈ ss, PyData.strOk s = true) (e : (!(ss.any fun z => decide (z = s))) = b) : vNotIn (.str s) (.list (ss.map PyData.str)) = some (.bool b) := by
  show (if (SeqAt.shaped (.str s) && SeqAt.shaped (.list (ss.map PyData.str))) = true then some (PyData.bool (!((ss.map PyData.str).any fun z => PyData.eqv z (.str s)))) else none) = _
  rw [str_shaped h0, strs_shaped h, ← e, List.any_map]
  rfl
end Dn

namespace Dn
open PySem PyProof.Rows L2
/-! ### texts as lists of signs -/
abbrev tl (x : Str) : List Nat := x.cps.toList
def mkS (l : List Nat) : Str := ⟨l.toArray⟩
theorem tl_mkS (l : List Nat) : tl (mkS l) = l := rfl
theorem mkS_tl (x : Str) : mkS (tl x) = x := TL.mk_tl x
theorem ext_tl {x y : Str} (h : tl x = tl y) : x = y := TL.ext_tl h
theorem len_mkS (l : List Nat) : (mkS l).length = l.length := by
  show l.toArray.size = _
  rw [List.size_toArray]
theorem mkS_app (a b : List Nat) : mkS a ++ mkS b = mkS (a ++ b) := ext_tl (by rw [show tl (mkS a ++ mkS b) = tl (mkS a) ++ tl (mkS b) from TL.tl_append _ _]; rfl)
theorem mkS_inj {a b : List Nat} (h : mkS a = mkS b) : a = b := by
  have := congrArg tl h
  exact this
theorem lit_mkS (s : String) : (Str.ofString s) = mkS (s.toList.map Char.toNat) := ext_tl (TL.tl_ofString s)
theorem vAdd_s {a b : List Nat} (h : a.length + b.length ≤ lim) : vAdd (.str (mkS a)) (.str (mkS b)) = some (.str (mkS (a ++ b))) := by
  show (if (mkS a).length + (mkS b).length ≤ lim then some (PyData.str (mkS a ++ mkS b)) else none) = _
  rw [len_mkS, len_mkS, if_pos h, mkS_app]
/-! numbers -/
def nL (i : Int) : List Nat := if i < 0 then 45 :: TL.numL i.natAbs else TL.numL i.natAbs
def nS (i : Int) : Str := mkS (nL i)
theorem toS (i : Int) : Str.ofString (toString i) = nS i := by
  apply ext_tl
  unfold nS nL
  cases i with
  | ofNat n =>
    rw [if_neg (by simp)]
    exact TL.tl_num n
  | negSucc m =>
    rw [if_pos (Int.negSucc_lt_zero m)]
    have e : toString (Int.negSucc m) = "-" ++ toString ((((m + 1 : Nat)) : Int)) := rfl
    have h1 := TL.tl_ofString (toString (Int.negSucc m))
    have h2 := TL.tl_ofString (toString (((m + 1 : Nat)) : Int))
    have h3 := TL.tl_num (m + 1)
    rw [h3] at h2
    show TL.tl (Str.ofString (toString (Int.negSucc m))) = 45 :: TL.numL (m + 1)
    rw [h1, e, String.toList_append, List.map_append, ← h2]
    rfl
theorem nL_ne (i : Int) : nL i ≠ [] := by
  unfold nL
  split
  · simp
  · exact TL.numL_ne _
theorem nL_free {i : Int} {s : Nat} (h : s < 45 ∨ 57 < s) : s ∉ nL i := by
  unfold nL
  split
  · rw [List.mem_cons, not_or]
    exact ⟨by omega, TL.numL_free (by omega)⟩
  · exact TL.numL_free (by omega)
theorem pow10 {k : Nat} {i : Int} (h : Bd k i) : i.natAbs < 10 ^ k := Nat.lt_of_lt_of_le h (Nat.pow_le_pow_left (by decide) k)
theorem nL_len {k : Nat} (hk : 0 < k) {i : Int} (h : Bd k i) : (nL i).length ≤ k + 1 := by
  have := TL.numL_len hk (pow10 h)
  unfold nL
  split
  · rw [List.length_cons]; omega
  · omega
theorem vStr1_eq {k : Nat} (hk : 0 < k) (hk' : k ≤ 1000) {i : Int} (h : Bd k i) : vStr1 (.int i) = some (.str (nS i)) := by
  have := h.log hk
  show (if i.natAbs.log2 < 1920 then some (PyData.str (Str.ofString (toString i))) else none) = _
  rw [if_pos (by omega), toS]
theorem vIntS_eq {k : Nat} (hk : 0 < k) (hk' : k ≤ 600) {i : Int} (h : Bd k i) : vIntS (.str (nS i)) = some (.int i) := by
  have hl := nL_len hk h
  have hn := TL.numL_len hk (pow10 h)
  have e : PySem.intText? (nS i) = some i := by
    by_cases h0 : i < 0
    · have q := PySem.intText_neg (x := nS i) (cs := TL.numL i.natAbs) (by show nL i = _; unfold nL; rw [if_pos h0]) (TL.numL_digits _) (TL.numL_ne _) (by unfold nS; rw [len_mkS]; omega)
      rw [TL.numL_val] at q
      rw [q]
      congr 1
      omega
    · have q : (nS i).cps.toList = TL.numL i.natAbs := by
        show nL i = _
        unfold nL; rw [if_neg h0]
      have q2 := PySem.intText_digits (x := nS i) (by rw [q]; exact TL.numL_digits _) (by rw [q]; exact TL.numL_ne _) (by unfold nS; rw [len_mkS]; omega)
      rw [q, TL.numL_val] at q2
      rw [q2]
      congr 1
      omega
  show (if (nS i).length ≤ 640 then (PySem.intText? (nS i)).map PyData.int else none) = _
  rw [if_pos (by unfold nS; rw [len_mkS]; omega), e]
  rfl
theorem nS_inj {k : Nat} (hk : 0 < k) (hk' : k ≤ 600) {i j : Int} (hi : Bd k i) (hj : Bd k j) (h : nS i = nS j) : i = j := by
  have h1 := vIntS_eq hk hk' hi
  rw [h, vIntS_eq hk hk' hj] at h1
  cases h1
  rfl
/-! the first sign -/
theorem dash : (Str.ofString "-") = mkS [45] := lit_mkS "-"
theorem vStarts_dash (l : List Nat) : vStarts (.str (mkS l)) (.str (Str.ofString "-")) = some (.bool (decide (l[0]? = some 45))) := by
  have h := PySem.StrLaws.subAt_one (mkS l) 45 0
  show some (PyData.bool (Txt.startswith (mkS l) (Str.ofString "-"))) = _
  rw [dash]
  have e : Txt.startswith (mkS l) (mkS [45]) = decide (l[0]? = some 45) := by
    rw [Bool.eq_iff_iff, decide_eq_true_eq]
    show (decide (0 + (mkS [45]).length ≤ (mkS l).length) && Builtin.Str.subAt (mkS l) (mkS [45]) 0) = true ↔ _
    rw [Bool.and_eq_true, decide_eq_true_eq]
    exact h
  rw [e]
theorem nL_dash (i : Int) : decide ((nL i)[0]? = some 45) = decide (i < 0) := by
  unfold nL
  by_cases h : i < 0
  · rw [if_pos h, decide_eq_true h]; rfl
  · rw [if_neg h, decide_eq_false h]
    refine decide_eq_false fun z => ?_
    have := List.mem_of_getElem? z
    exact TL.numL_free (by omega) this
theorem cutS_1 (c : Nat) (l : List Nat) : cutS (mkS (c :: l)) (some 1) none = mkS l := by
  apply ext_tl
  show ((((c :: l).drop (HT.sIx (mkS (c :: l)).length 0 (some 1))).take (HT.sIx (mkS (c :: l)).length (mkS (c :: l)).length none - HT.sIx (mkS (c :: l)).length 0 (some 1))).toArray).toList = l
  have e1 : HT.sIx (mkS (c :: l)).length 0 (some 1) = 1 := by
    rw [show (1 : Int) = ((1 : Nat) : Int) from rfl, HT.sIx_nat, len_mkS, List.length_cons]
    omega
  rw [e1, HT.sIx_none, len_mkS]
  show List.take ((c :: l).length - 1) l = l
  rw [List.length_cons, Nat.add_sub_cancel, List.take_length]
def sgD (c : Nat) : D := .str ⟨#[c]⟩
theorem asChars_mkS (l : List Nat) : asChars (.str (mkS l)) = some (l.map sgD) := rfl
theorem vNotInS_sg (c : Nat) (l : List Nat) : vNotInS (sgD c) (.str (mkS l)) = some (.bool (!decide (c ∈ l))) := by
  show some (PyData.bool (!(!(Builtin.Str.occurrences (mkS l) ⟨#[c]⟩ 0 (mkS l).length 1).isEmpty))) = _
  rw [PySem.StrLaws.found_one]
  rfl
theorem digits_lit : (Str.ofString "0123456789") = mkS [48, 49, 50, 51, 52, 53, 54, 55, 56, 57] := lit_mkS "0123456789"
theorem vNotInS_digit {c : Nat} (h : 48 ≤ c ∧ c ≤ 57) : vNotInS (sgD c) (.str (Str.ofString "0123456789")) = some (.bool false) := by
  rw [digits_lit, vNotInS_sg]
  have : c ∈ [48, 49, 50, 51, 52, 53, 54, 55, 56, 57] := by
    have : c = 48 ∨ c = 49 ∨ c = 50 ∨ c = 51 ∨ c = 52 ∨ c = 53 ∨ c = 54 ∨ c = 55 ∨ c = 56 ∨ c = 57 := by omega
    simp only [List.mem_cons, List.not_mem_nil, or_false]
    exact this
  rw [decide_eq_true this]
  rfl
theorem vNotInS_none {c : Nat} (h : c < 48 ∨ 57 < c) : vNotInS (sgD c) (.str (Str.ofString "0123456789")) = some (.bool true) := by
  rw [digits_lit, vNotInS_sg]
  have : c ∉ [48, 49, 50, 51, 52, 53, 54, 55, 56, 57] := by
    simp only [List.mem_cons, List.not_mem_nil, or_false]
    omega
  rw [decide_eq_false this]
  rfl
theorem vAny1_map {X : Type} (f : X → Bool) (xs : List X) : vAny1 (.list (xs.map fun x => PyData.bool (f x))) = some (.bool (xs.any f)) := by
  show (boolsOf (xs.map fun x => PyData.bool (f x))).bind (fun bs => some (PyData.bool (bs.any id))) = _
  rw [show (xs.map fun x => PyData.bool (f x)) = (xs.map f).map PyData.bool by rw [List.map_map]; rfl, boolsOf_map]
  show some (PyData.bool ((xs.map f).any id)) = _
  rw [List.any_map]
  rfl
/-! None in a list of whole numbers -/
theorem vIn_none : ∀ ns : List Int, vIn .none (.list (dI ns)) = some (.bool false) := by
  intro ns
  have e : ∀ ns : List Int, (dI ns).any (fun z => PyData.eqv z .none) = false := by
    intro ns
    induction ns with
    | nil => rfl
    | cons n ns ih =>
      show (PyData.eqv (.int n) .none || (dI ns).any _) = false
      rw [ih]; rfl
  show (if (SeqAt.shaped .none && SeqAt.shaped (.list (dI ns))) = true then some (PyData.bool ((dI ns).any fun z => PyData.eqv z .none)) else none) = _
  rw [dI_shaped, e, show SeqAt.shaped .none = true from rfl]; rfl
theorem vTruth_s {l : List Nat} (h : l ≠ []) (hl : l.length ≤ lim) : vTruth (.str (mkS l)) = some true := by
  show (if (mkS l).length ≤ lim then some (((mkS l).length : Int) != 0) else none) = _
  rw [len_mkS, if_pos hl]
  have : l.length ≠ 0 := fun z => h (List.length_eq_zero_iff.mp z)
  congr 1
  rw [bne_iff_ne]
  omega
theorem vSlice_1 {c : Nat} {l : List Nat} (hl : l.length + 1 ≤ lim) : vSlice (.str (mkS (c :: l))) (some 1) none = some (.str (mkS l)) := by
  show (if (mkS (c :: l)).length ≤ lim then some (PyData.str (cutS (mkS (c :: l)) (some 1) none)) else none) = _
  rw [len_mkS, List.length_cons, if_pos hl, cutS_1]
/-! joined texts -/
theorem strsD_str (ys : List Str) : strsD (ys.map PyData.str) = some ys := strsD_map ys
def jn (s : List Nat) (ys : List Str) : List Nat := TL.joinL s (ys.map tl)
theorem join_jn (s : List Nat) (ys : List Str) : Txt.join (mkS s) ys = mkS (jn s ys) := by
  apply ext_tl
  rw [TL.join_eq]
  exact TL.tl_join (mkS s) ys
theorem vJoin_eq {s : List Nat} {ys : List Str} (h : (ys.map (·.length)).sum + ys.length * s.length ≤ 16777216) : vJoin (.str (mkS s)) (.list (ys.map PyData.str)) = some (.str (mkS (jn s ys))) := by
  show ((strsD (ys.map PyData.str)).bind fun ys => if joinOk (mkS s) ys = true then some (PyData.str (Txt.join (mkS s) ys)) else none) = _
  rw [strsD_map]
  show (if joinOk (mkS s) ys = true then some (PyData.str (Txt.join (mkS s) ys)) else none) = _
  rw [if_pos (show joinOk (mkS s) ys = true from decide_eq_true (by rw [len_mkS]; exact h)), join_jn]
theorem vSplit_eq {s : Nat} (hs : s < 256) {ys : List Str} (hne : ys ≠ []) (hp : ∀ p ∈ ys, s ∉ tl p) (hl : (jn [s] ys).length + 2 ≤ 16777216) : vSplit (.str (mkS (jn [s] ys))) (.str (mkS [s])) = some (.list (ys.map PyData.str)) := by
  have q := TL.split_join (y := mkS [s]) (s := s) (S := []) rfl (by
    show (#[s].all (· < 256)) = true
    simp [hs]) hne hp
  rw [join_jn] at q
  show (if ((mkS [s]).length == 0) = false ∧ (mkS (jn [s] ys)).length + 2 ≤ sizeLine then some (PyData.list ((Txt.split (mkS (jn [s] ys)) (mkS [s])).map PyData.str)) else none) = _
  rw [if_pos ⟨rfl, by rw [len_mkS, ← lim_eq]; exact hl⟩, q]
theorem jn_nil : ∀ ys : List Str, jn [] ys = ys.flatMap tl
  | [] => rfl
  | [y] => by simp [jn, TL.joinL]
  | y :: z :: r => by
    have := jn_nil (z :: r)
    show tl y ++ ([] ++ jn [] (z :: r)) = _
    rw [this]; rfl
theorem jn_cons (s : List Nat) (w : Str) : ∀ ys : List Str, jn s (w :: ys) = tl w ++ ys.flatMap fun y => s ++ tl y
  | [] => by simp [jn, TL.joinL]
  | z :: r => by
    have := jn_cons s z r
    show tl w ++ (s ++ jn s (z :: r)) = _
    rw [this]
    simp [List.flatMap_cons, List.append_assoc]
theorem comp2T {X Y : Type} {vs1 : List Nat} {t t1 : GT} {gi1 : GA} {e : GE} {env : Dn.Env} (enc : X → D) (enc1 : Y → D) (f : X → List Y) (g : X → Y → D) : ∀ xs : List X,
    (∀ x ∈ xs, ∃ env1, t (enc x) env = some env1 ∧ gi1 env1 = some ((f x).map enc1) ∧ noOwB env1 vs1 = true ∧ ∀ y ∈ f x, ∃ env2, t1 (enc1 y) (wipeE env1 vs1) = some env2 ∧ e env2 = some (g x y)) →
    comp2G t gYes gi1 vs1 t1 gYes e env (xs.map enc) = some (xs.flatMap fun x => (f x).map (g x))
  | [], _ => rfl
  | x :: xs, h => by
    obtain ⟨env1, h1, h2, h3, h4⟩ := h x List.mem_cons_self
    have ih := comp2T enc enc1 f g xs fun y hy => h y (List.mem_cons_of_mem _ hy)
    have inner := compG_eq (c := gYes) enc1 (fun _ => true) (g x) (f x) (t := t1) (e := e) (env := wipeE env1 vs1) (fun y hy => by
      obtain ⟨env2, k1, k2⟩ := h4 y hy
      exact ⟨env2, k1, rfl, fun _ => k2⟩)
    rw [List.filter_eq_self.mpr (fun _ _ => rfl)] at inner
    show (t (enc x) env).bind _ = _
    rw [h1]
    show (gi1 env1).bind _ = _
    rw [h2]
    show (if noOwB env1 vs1 = true then _ else none) = _
    rw [if_pos h3, inner]
    show (comp2G t gYes gi1 vs1 t1 gYes e env (xs.map enc)).bind _ = _
    rw [ih]; rfl
theorem gComp2T {X Y : Type} {vs vs1 : List Nat} {gi gi1 : GA} {t t1 : GT} {e : GE} {env : Dn.Env} (enc : X → D) (enc1 : Y → D) (f : X → List Y) (g : X → Y → D) (xs : List X) (hg : gi env = some (xs.map enc)) (hn : noOwB env vs = true) (hl : (xs.flatMap f).length ≤ lim)
    (h : ∀ x ∈ xs, ∃ env1, t (enc x) (wipeE env vs) = some env1 ∧ gi1 env1 = some ((f x).map enc1) ∧ noOwB env1 vs1 = true ∧ ∀ y ∈ f x, ∃ env2, t1 (enc1 y) (wipeE env1 vs1) = some env2 ∧ e env2 = some (g x y)) :
    gComp2 vs gi t gYes vs1 gi1 t1 gYes e env = some (.list (xs.flatMap fun x => (f x).map (g x))) := by
  have len : ∀ l : List X, (l.flatMap fun x => (f x).map (g x)).length = (l.flatMap f).length := by
    intro l
    induction l with
    | nil => rfl
    | cons x l ih => rw [List.flatMap_cons, List.flatMap_cons, List.length_append, List.length_append, List.length_map, ih]
  unfold gComp2
  rw [hg, Option.bind_some, hn, comp2T enc enc1 f g xs h, if_pos rfl]
  show (if _ then _ else none) = _
  rw [if_pos (by rw [len]; exact hl)]
theorem jn_cons2 (s : List Nat) (w : Str) {ys : List Str} (h : ys ≠ []) : jn s (w :: ys) = tl w ++ (s ++ jn s ys) := by
  cases ys with
  | nil => exact absurd rfl h
  | cons z r => rfl
theorem jn_lines (s : List Nat) : ∀ ys : List Str, jn s (ys ++ [mkS []]) = ys.flatMap fun y => tl y ++ s
  | [] => rfl
  | y :: ys => by
    rw [List.cons_append, jn_cons2 s y (by simp), jn_lines s ys, List.flatMap_cons, List.append_assoc]
theorem sum_le {m : Nat} : ∀ {ys : List Str}, (∀ y ∈ ys, y.length ≤ m) → (ys.map (·.length)).sum ≤ ys.length * m
  | [], _ => Nat.zero_le _
  | y :: ys, h => by
    have ih := sum_le fun z hz => h z (List.mem_cons_of_mem _ hz)
    have := h y List.mem_cons_self
    rw [List.map_cons, List.sum_cons, List.length_cons, Nat.succ_mul]
    omega
theorem flat_le {X : Type} {f : X → List Nat} {m : Nat} : ∀ {xs : List X}, (∀ x ∈ xs, (f x).length ≤ m) → (xs.flatMap f).length ≤ xs.length * m
  | [], _ => Nat.zero_le _
  | x :: xs, h => by
    have ih := flat_le fun z hz => h z (List.mem_cons_of_mem _ hz)
    have := h x List.mem_cons_self
    rw [List.flatMap_cons, List.length_append, List.length_cons, Nat.succ_mul]
    omega
theorem enumD_map {X : Type} (f : X → D) (xs : List X) : enumD (xs.map f) = xs.zipIdx.map fun p => PyData.tuple [.int (p.2 : Int), f p.1] := by
  apply List.ext_getElem?
  intro i
  unfold enumD
  rw [List.getElem?_mapIdx, List.getElem?_map, List.getElem?_map, List.getElem?_zipIdx]
  cases xs[i]? <;> simp
theorem vSlice_drop1 (x : D) (xs : List D) : vSlice (.list (x :: xs)) (some 1) none = some (.list xs) := by
  show some (PyData.list (cutD (x :: xs) (some ((1 : Nat) : Int)) none)) = _
  rw [cut_from _ _ (by simp)]
  rfl
theorem vSlice_m1 (xs : List D) (x : D) : vSlice (.list (xs ++ [x])) none (some (-1)) = some (.list xs) := by
  show some (PyData.list (cutD (xs ++ [x]) none (some (-1)))) = _
  rw [cut_m1, List.dropLast_concat]
theorem fnOf_fn (x : Str) : fnOf (some (.fn x)) = some x := rfl
theorem spc : (Str.ofString " ") = mkS [32] := lit_mkS " "
theorem nlS : (Str.ofString "\n") = mkS [10] := lit_mkS "\n"
theorem emS : (Str.ofString "") = mkS [] := lit_mkS ""
end Dn

namespace Law
open PySem Dn
/-! ### the defs as plain functions of data -/
def c_PIECE : D := (.str "piece")
-- words_of: 0=points 1=p 2=n
def qe_words_of_1 : GE := (gArgs (l1 vStr1) (aCons (gVar 2) aNil))
def q_words_of_1 : GE := (gComp2 [1, 2] (gLst (gVar 0)) (tName 1) gYes [2] (gTpl (gVar 1)) (tName 2) gYes qe_words_of_1)
def g_words_of : GS := (sRet q_words_of_1)
def F_words_of : List D → Option D := runF 3 1 g_words_of
-- write_paper: 0=paper 1=lines 2=piece 3=motion
def b_write_paper_1 : GS := (sApp 1 (g2 vAdd (g2 vJoin (gC (.str " ")) (gArgs vLstS (aCons (gC c_PIECE) (aCons (gArgs (l1 vStr1) (aCons (g2 vIx (gVar 3) (gC (.int 0))) aNil)) (gStar (gArgs F_words_of (aCons (gArgs vLstS (aCons (g2 vIx (gVar 3) (gC (.int 1))) (gStar (gVar 2) aNil))) aNil)) aNil))))) (gC (.str "\n"))))
def g_write_paper : GS := (sSeq (sOwn 1 aNil)
    (sSeq (sFor (gLst (gVar 0)) (tTuple [(tName 2), (tName 3)]) b_write_paper_1)
    (sRet (g2 vJoin (gC (.str "")) (gVarB 1)))))
def F_write_paper : List D → Option D := runF 4 1 g_write_paper
-- law_parts: 0=_law_cell_here 1=_law_sizes 2=_law_parts_here 3=_law_rest 4=_law_k 5=_law_mixed
def b_law_parts_1 : GS := (sIf (gTest (g2 vGe (gVar 3) (gC (.int 0)))) (sSeq (sApp 2 (g2 vMod (gArgs (l1 vToI) (aCons (gVar 3) aNil)) (g2 vIx (gVar 1) (gVar 4))))
    (sSet 3 (g2 vFdiv (gVar 3) (g2 vIx (gVar 1) (gVar 4))))) (sSeq (sSet 5 (g2 vMod (gArgs (l1 vToI) (aCons (g2 vAdd (g2 vAdd (g2 vMul (gVar 0) (gC (.int 48271))) (g2 vMul (gVar 4) (gC (.int 69621)))) (gC (.int 11))) aNil)) (gC (.int 2147483647))))
    (sSeq (sSet 5 (g2 vMod (gArgs (l1 vToI) (aCons (g2 vAdd (g2 vAdd (g2 vMul (gVar 5) (gVar 5)) (g2 vMul (gC (.int 16807)) (gVar 4))) (gC (.int 5))) aNil)) (gC (.int 998244353))))
    (sApp 2 (g2 vMod (gArgs (l1 vToI) (aCons (gVar 5) aNil)) (g2 vIx (gVar 1) (gVar 4)))))))
def g_law_parts : GS := (sSeq (sOwn 2 aNil)
    (sSeq (sSet 3 (g2 vSub (gVar 0) (g2 vPow (gC (.int 10)) (gC (.int 18)))))
    (sSeq (sFor (gRange1 (gArgs (l1 vLen) (aCons (gVar 1) aNil))) (tName 4) b_law_parts_1)
    (sRet (gVarB 2)))))
def F_law_parts : List D → Option D := runF 6 2 g_law_parts
-- law_divisor: 0=_law_a 1=_law_b 2=_law_k
def b_law_divisor_1 : GS := (sSeq (sIf (gTest (g2 vEq (gVar 1) (gC (.int 0)))) (sRet (gVar 0)) sNx)
    (sPar 0 1 (gVar 1) (g2 vMod (gArgs (l1 vToI) (aCons (gVar 0) aNil)) (gVar 1))))
def g_law_divisor : GS := (sSeq (sSet 0 (gArgs (l1 vAbs) (aCons (gVar 0) aNil)))
    (sSeq (sSet 1 (gArgs (l1 vAbs) (aCons (gVar 1) aNil)))
    (sSeq (sFor (gRange1 (gC (.int 40000))) (tName 2) b_law_divisor_1)
    (sRet (gVar 0)))))
def F_law_divisor : List D → Option D := runF 3 2 g_law_divisor
-- law_point: 0=_law_x 1=_law_y 2=_law_w 3=_law_divisor_here
def g_law_point : GS := (sSeq (sSet 3 (gArgs F_law_divisor (aCons (gArgs F_law_divisor (aCons (gVar 0) (aCons (gVar 1) aNil))) (aCons (gVar 2) aNil))))
    (sRet (gArgs vTup (aCons (g2 vFdiv (gVar 0) (gVar 3)) (aCons (g2 vFdiv (gVar 1) (gVar 3)) (aCons (g2 vFdiv (gVar 2) (gVar 3)) aNil))))))
def F_law_point : List D → Option D := runF 4 3 g_law_point
-- law_motion: 0=_law_cell_here 1=_law_k 2=_law_group 3=_law_parts_here 4=_law_x 5=_law_w 6=_law_turns
def g_law_motion : GS := (sSeq (sSet 3 (gArgs F_law_parts (aCons (gVar 0) (aCons (gArgs vLst (aCons (gC (.int 4)) (aCons (gC (.int 7)) (aCons (gC (.int 7)) (aCons (gC (.int 3)) aNil))))) aNil))))
    (sSeq (sSet 4 (g2 vAdd (g2 vSub (g2 vMul (gC (.int 80)) (gVar 1)) (gC (.int 160))) (g2 vIx (gVar 3) (gC (.int 1)))))
    (sSeq (sSet 5 (g2 vAdd (gC (.int 1)) (g2 vIx (gVar 3) (gC (.int 3)))))
    (sSeq (sIf (gTest (g2 vEq (gVar 2) (gC (.str "level")))) (sRet (gArgs vTup (aCons (gC (.int 0)) (aCons (gArgs F_law_point (aCons (g2 vAdd (g2 vMul (g2 vSub (g2 vMul (gC (.int 80)) (gVar 1)) (gC (.int 160))) (gVar 5)) (g2 vIx (gVar 3) (gC (.int 1)))) (aCons (gC (.int 0)) (aCons (gVar 5) aNil)))) aNil)))) sNx)
    (sSeq (sIf (gTest (g2 vIn (gVar 2) (gArgs vLst (aCons (gC (.str "grid")) (aCons (gC (.str "grid2")) (aCons (gC (.str "grid4")) aNil)))))) (sSeq (sSet 6 (gDispIx (kCons "grid" (gC (.int 0)) (kCons "grid2" (g2 vMul (gC (.int 2)) (g2 vFdiv (g2 vIx (gVar 3) (gC (.int 0))) (gC (.int 2)))) (kCons "grid4" (g2 vIx (gVar 3) (gC (.int 0))) kNil))) (gVar 2)))
    (sRet (gArgs vTup (aCons (gVar 6) (aCons (gArgs vTup (aCons (gVar 4) (aCons (g2 vSub (g2 vIx (gVar 3) (gC (.int 2))) (gC (.int 3))) (aCons (gC (.int 1)) aNil)))) aNil))))) sNx)
    (sSeq (sSet 6 (gDispIx (kCons "free" (gC (.int 0)) (kCons "free2" (g2 vMul (gC (.int 2)) (g2 vFdiv (g2 vIx (gVar 3) (gC (.int 0))) (gC (.int 2)))) (kCons "free4" (g2 vIx (gVar 3) (gC (.int 0))) kNil))) (gVar 2)))
    (sRet (gArgs vTup (aCons (gVar 6) (aCons (gArgs F_law_point (aCons (g2 vAdd (g2 vMul (g2 vSub (g2 vMul (gC (.int 80)) (gVar 1)) (gC (.int 160))) (gVar 5)) (g2 vIx (gVar 3) (gC (.int 1)))) (aCons (g2 vSub (g2 vIx (gVar 3) (gC (.int 2))) (gC (.int 3))) (aCons (gVar 5) aNil)))) aNil))))))))))
def F_law_motion : List D → Option D := runF 7 3 g_law_motion
-- law_turn: 0=_law_a 1=_law_b 2=_law_c 3=_law_turn_here
def g_law_turn : GS := (sSeq (sSet 3 (g2 vAdd (g2 vMul (g2 vIx (gVar 0) (gC (.int 0))) (g2 vSub (g2 vMul (g2 vIx (gVar 1) (gC (.int 1))) (g2 vIx (gVar 2) (gC (.int 2)))) (g2 vMul (g2 vIx (gVar 2) (gC (.int 1))) (g2 vIx (gVar 1) (gC (.int 2)))))) (g2 vMul (g2 vIx (gVar 1) (gC (.int 0))) (g2 vSub (g2 vMul (g2 vIx (gVar 2) (gC (.int 1))) (g2 vIx (gVar 0) (gC (.int 2)))) (g2 vMul (g2 vIx (gVar 0) (gC (.int 1))) (g2 vIx (gVar 2) (gC (.int 2))))))))
    (sRet (g2 vAdd (gVar 3) (g2 vMul (g2 vIx (gVar 2) (gC (.int 0))) (g2 vSub (g2 vMul (g2 vIx (gVar 0) (gC (.int 1))) (g2 vIx (gVar 1) (gC (.int 2)))) (g2 vMul (g2 vIx (gVar 1) (gC (.int 1))) (g2 vIx (gVar 0) (gC (.int 2)))))))))
def F_law_turn : List D → Option D := runF 4 3 g_law_turn
-- law_chain: 0=_law_points 1=_law_chain_here 2=_law_p 3=_law_k
def b_law_chain_2 : GS := (sIf (gAnd (gTest (g2 vGt (gArgs (l1 vLen) (aCons (gVarB 1) aNil)) (gC (.int 1)))) (gTest (g2 vLe (gArgs F_law_turn (aCons (g2 vIx (gVarB 1) (g1 vNeg (gC (.int 2)))) (aCons (g2 vIx (gVarB 1) (g1 vNeg (gC (.int 1)))) (aCons (gVar 2) aNil)))) (gC (.int 0))))) (sPop 1) sNx)
def b_law_chain_1 : GS := (sSeq (sFor (gRange1 (gArgs (l1 vLen) (aCons (gVar 0) aNil))) (tName 3) b_law_chain_2)
    (sApp 1 (gVar 2)))
def g_law_chain : GS := (sSeq (sOwn 1 aNil)
    (sSeq (sFor (gLst (gVar 0)) (tName 2) b_law_chain_1)
    (sRet (gVarB 1))))
def F_law_chain : List D → Option D := runF 4 1 g_law_chain
-- law_before: 0=_law_p 1=_law_q
def g_law_before : GS := (sSeq (sIf (gTest (g2 vNe (g2 vMul (g2 vIx (gVar 0) (gC (.int 0))) (g2 vIx (gVar 1) (gC (.int 2)))) (g2 vMul (g2 vIx (gVar 1) (gC (.int 0))) (g2 vIx (gVar 0) (gC (.int 2)))))) (sRet (g2 vLt (g2 vMul (g2 vIx (gVar 0) (gC (.int 0))) (g2 vIx (gVar 1) (gC (.int 2)))) (g2 vMul (g2 vIx (gVar 1) (gC (.int 0))) (g2 vIx (gVar 0) (gC (.int 2)))))) sNx)
    (sRet (g2 vLt (g2 vMul (g2 vIx (gVar 0) (gC (.int 1))) (g2 vIx (gVar 1) (gC (.int 2)))) (g2 vMul (g2 vIx (gVar 1) (gC (.int 1))) (g2 vIx (gVar 0) (gC (.int 2)))))))
def F_law_before : List D → Option D := runF 2 2 g_law_before
-- law_hull: 0=_law_points 1=_law_order 2=_law_p 3=_law_hull_here 4=_law_at 5=_law_q
def qc_law_hull_1 : GB := (gTest (gArgs F_law_before (aCons (gVar 5) (aCons (gVar 2) aNil))))
def qe_law_hull_1 : GE := (gVar 5)
def q_law_hull_1 : GE := (gComp [5] (gLst (gVar 1)) (tName 5) qc_law_hull_1 qe_law_hull_1)
def b_law_hull_1 : GS := (sIf (gTest (g2 vNotIn (gVar 2) (gVar 1))) (sSeq (sSet 4 (gArgs (l1 vLen) (aCons q_law_hull_1 aNil)))
    (sSet 1 (g2 vAdd (g2 vAdd (gSlice (gVar 1) oNone (oSome (gVar 4))) (gArgs vLst (aCons (gVar 2) aNil))) (gSlice (gVar 1) (oSome (gVar 4)) oNone)))) sNx)
def g_law_hull : GS := (sSeq (sSet 1 (gArgs vLst aNil))
    (sSeq (sFor (gLst (gVar 0)) (tName 2) b_law_hull_1)
    (sSeq (sIf (gTest (g2 vLt (gArgs (l1 vLen) (aCons (gVar 1) aNil)) (gC (.int 3)))) (sRet (gC .none)) sNx)
    (sSeq (sSet 3 (g2 vAdd (gSlice (gArgs F_law_chain (aCons (gVar 1) aNil)) oNone (oSome (g1 vNeg (gC (.int 1))))) (gSlice (gArgs F_law_chain (aCons (g1 vRev (gVar 1)) aNil)) oNone (oSome (g1 vNeg (gC (.int 1)))))))
    (sSeq (sIf (gTest (g2 vLt (gArgs (l1 vLen) (aCons (gVar 3) aNil)) (gC (.int 3)))) (sRet (gC .none)) sNx)
    (sRet (gArgs (l1 vTuple) (aCons (gVar 3) aNil))))))))
def F_law_hull : List D → Option D := runF 6 1 g_law_hull
-- law_polygon: 0=_law_cell_here 1=_law_parts_here 2=_law_w 3=_law_points 4=_law_k 5=_law_hull_here
def b_law_polygon_1 : GS := (sApp 3 (gArgs F_law_point (aCons (g2 vIx (gVar 1) (g2 vAdd (gC (.int 2)) (g2 vMul (gC (.int 2)) (gVar 4)))) (aCons (g2 vIx (gVar 1) (g2 vAdd (gC (.int 3)) (g2 vMul (gC (.int 2)) (gVar 4)))) (aCons (gVar 2) aNil)))))
def g_law_polygon : GS := (sSeq (sSet 1 (gArgs F_law_parts (aCons (gVar 0) (aCons (gArgs vLst (aCons (gC (.int 4)) (aCons (gC (.int 3)) (aCons (gC (.int 7)) (aCons (gC (.int 7)) (aCons (gC (.int 7)) (aCons (gC (.int 7)) (aCons (gC (.int 7)) (aCons (gC (.int 7)) (aCons (gC (.int 7)) (aCons (gC (.int 7)) (aCons (gC (.int 7)) (aCons (gC (.int 7)) aNil))))))))))))) aNil))))
    (sSeq (sSet 2 (g2 vIx (gArgs vLst (aCons (gC (.int 1)) (aCons (gC (.int 1)) (aCons (gC (.int 2)) (aCons (gC (.int 3)) aNil))))) (g2 vIx (gVar 1) (gC (.int 0)))))
    (sSeq (sOwn 3 aNil)
    (sSeq (sFor (gRange1 (g2 vAdd (gC (.int 3)) (g2 vIx (gVar 1) (gC (.int 1))))) (tName 4) b_law_polygon_1)
    (sSeq (sSet 5 (gFlat (gArgs F_law_hull (aCons (gVarB 3) aNil))))
    (sSeq (sIf (gTest (g1 vIsN (gVar 5))) (sRet (gArgs vTup (aCons (gArgs vTup (aCons (gC (.int 0)) (aCons (gC (.int 0)) (aCons (gC (.int 1)) aNil)))) (aCons (gArgs vTup (aCons (g2 vAdd (gC (.int 1)) (g2 vIx (gVar 1) (gC (.int 2)))) (aCons (gC (.int 0)) (aCons (gC (.int 1)) aNil)))) (aCons (gArgs vTup (aCons (g2 vIx (gVar 1) (gC (.int 3))) (aCons (gC (.int 2)) (aCons (gC (.int 1)) aNil)))) aNil))))) sNx)
    (sRet (gVar 5))))))))
def F_law_polygon : List D → Option D := runF 6 1 g_law_polygon
-- integer_of: 0=word 1=digits 2=n 3=sign
def qe_integer_of_1 : GE := (g2 vNotInS (gVar 3) (gC (.str "0123456789")))
def q_integer_of_1 : GE := (gComp [3] (gStr (gVar 1)) (tName 3) gYes qe_integer_of_1)
def g_integer_of : GS := (sSeq (sSet 1 (gIfE (gTruth (g2 vStarts (gVar 0) (gC (.str "-")))) (gSlice (gVar 0) (oSome (gC (.int 1))) oNone) (gVar 0)))
    (sSeq (sIf (gOr (gNot (gTruth (gVar 1))) (gTest (gArgs (l1 vAny1) (aCons q_integer_of_1 aNil)))) (sRet (gC .none)) sNx)
    (sSeq (sSet 2 (gArgs (l1 vIntS) (aCons (gVar 0) aNil)))
    (sRet (gIfE (gTest (g2 vEq (gArgs (l1 vStr1) (aCons (gVar 2) aNil)) (gVar 0))) (gVar 2) (gC .none))))))
def F_integer_of : List D → Option D := runF 4 1 g_integer_of
-- integers_of: 0=words 1=found 2=word
def qe_integers_of_1 : GE := (gArgs F_integer_of (aCons (gVar 2) aNil))
def q_integers_of_1 : GE := (gComp [2] (gLst (gVar 0)) (tName 2) gYes qe_integers_of_1)
def g_integers_of : GS := (sSeq (sSet 1 q_integers_of_1)
    (sRet (gIfE (gTest (g2 vIn (gC .none) (gVar 1))) (gC .none) (gVar 1))))
def F_integers_of : List D → Option D := runF 3 1 g_integers_of
-- common_divisor: 0=a 1=b
def wc_common_divisor_1 : GB := (gTruth (gVar 1))
def wb_common_divisor_1 : GS := (sPar 0 1 (gVar 1) (g2 vMod (gVar 0) (gVar 1)))
def g_common_divisor : GS := (sSeq (sSet 0 (gArgs (l1 vAbs) (aCons (gVar 0) aNil)))
    (sSeq (sSet 1 (gArgs (l1 vAbs) (aCons (gVar 1) aNil)))
    (sSeq (fun env => whileG wc_common_divisor_1 wb_common_divisor_1 1000000 env)
    (sRet (gVar 0)))))
def F_common_divisor : List D → Option D := runF 2 2 g_common_divisor
-- point: 0=x 1=y 2=w 3=divisor
def g_point : GS := (sSeq (sSet 3 (gArgs F_common_divisor (aCons (gArgs F_common_divisor (aCons (gVar 0) (aCons (gVar 1) aNil))) (aCons (gVar 2) aNil))))
    (sSeq (sIf (gTest (g2 vLt (gVar 2) (gC (.int 0)))) (sSet 3 (g1 vNeg (gVar 3))) sNx)
    (sRet (gArgs vTup (aCons (g2 vFdiv (gVar 0) (gVar 3)) (aCons (g2 vFdiv (gVar 1) (gVar 3)) (aCons (g2 vFdiv (gVar 2) (gVar 3)) aNil)))))))
def F_point : List D → Option D := runF 4 3 g_point
-- points_of: 0=integers 1=found 2=at 3=x 4=y 5=w
def b_points_of_1 : GS := (sSeq (sAsg (gSlice (gVar 0) (oSome (gVar 2)) (oSome (g2 vAdd (gVar 2) (gC (.int 3))))) (tTupL [(tName 3), (tName 4), (tName 5)]))
    (sSeq (sIf (gOr (gTest (g2 vLt (gVar 5) (gC (.int 1)))) (gTest (g2 vNe (gArgs F_point (aCons (gVar 3) (aCons (gVar 4) (aCons (gVar 5) aNil)))) (gArgs vTup (aCons (gVar 3) (aCons (gVar 4) (aCons (gVar 5) aNil))))))) (sRet (gC .none)) sNx)
    (sApp 1 (gArgs vTup (aCons (gVar 3) (aCons (gVar 4) (aCons (gVar 5) aNil)))))))
def g_points_of : GS := (sSeq (sIf (gTest (g2 vNe (g2 vMod (gArgs (l1 vLen) (aCons (gVar 0) aNil)) (gC (.int 3))) (gC (.int 0)))) (sRet (gC .none)) sNx)
    (sSeq (sOwn 1 aNil)
    (sSeq (sFor (gRangeT (gC (.int 0)) (gArgs (l1 vLen) (aCons (gVar 0) aNil)) (gC (.int 3))) (tName 2) b_points_of_1)
    (sRet (gVarB 1)))))
def F_points_of : List D → Option D := runF 6 1 g_points_of
-- points_of_words: 0=words 1=integers
def g_points_of_words : GS := (sSeq (sSet 1 (gArgs F_integers_of (aCons (gVar 0) aNil)))
    (sRet (gIfE (gTest (g1 vIsN (gVar 1))) (gC .none) (gArgs F_points_of (aCons (gVar 1) aNil)))))
def F_points_of_words : List D → Option D := runF 2 1 g_points_of_words
-- side: 0=a 1=b 2=c 3=turn
def g_side : GS := (sSeq (sSet 3 (g2 vMul (g2 vIx (gVar 0) (gC (.int 0))) (g2 vSub (g2 vMul (g2 vIx (gVar 1) (gC (.int 1))) (g2 vIx (gVar 2) (gC (.int 2)))) (g2 vMul (g2 vIx (gVar 2) (gC (.int 1))) (g2 vIx (gVar 1) (gC (.int 2)))))))
    (sSeq (sAug 3 vIAdd (g2 vMul (g2 vIx (gVar 1) (gC (.int 0))) (g2 vSub (g2 vMul (g2 vIx (gVar 2) (gC (.int 1))) (g2 vIx (gVar 0) (gC (.int 2)))) (g2 vMul (g2 vIx (gVar 0) (gC (.int 1))) (g2 vIx (gVar 2) (gC (.int 2)))))))
    (sSeq (sAug 3 vIAdd (g2 vMul (g2 vIx (gVar 2) (gC (.int 0))) (g2 vSub (g2 vMul (g2 vIx (gVar 0) (gC (.int 1))) (g2 vIx (gVar 1) (gC (.int 2)))) (g2 vMul (g2 vIx (gVar 1) (gC (.int 1))) (g2 vIx (gVar 0) (gC (.int 2)))))))
    (sRet (g2 vSub (g2 vGt (gVar 3) (gC (.int 0))) (g2 vLt (gVar 3) (gC (.int 0))))))))
def F_side : List D → Option D := runF 4 3 g_side
-- goes_round_once: 0=corners 1=first 2=at
def b_goes_round_once_1 : GS := (sIf (gTest (g2 vLe (gArgs F_side (aCons (gVar 1) (aCons (g2 vIx (gVar 0) (gVar 2)) (aCons (g2 vIx (gVar 0) (g2 vAdd (gVar 2) (gC (.int 1)))) aNil)))) (gC (.int 0)))) (sRet (gC (.bool false))) sNx)
def g_goes_round_once : GS := (sSeq (sSet 1 (g2 vIx (gVar 0) (gC (.int 0))))
    (sSeq (sFor (gRange2 (gC (.int 1)) (g2 vSub (gArgs (l1 vLen) (aCons (gVar 0) aNil)) (gC (.int 1)))) (tName 2) b_goes_round_once_1)
    (sRet (gC (.bool true)))))
def F_goes_round_once : List D → Option D := runF 3 1 g_goes_round_once
-- comes_before: 0=p 1=q 2=left 3=right
def g_comes_before : GS := (sSeq (sSet 2 (g2 vMul (g2 vIx (gVar 0) (gC (.int 0))) (g2 vIx (gVar 1) (gC (.int 2)))))
    (sSeq (sSet 3 (g2 vMul (g2 vIx (gVar 1) (gC (.int 0))) (g2 vIx (gVar 0) (gC (.int 2)))))
    (sSeq (sIf (gTest (g2 vNe (gVar 2) (gVar 3))) (sRet (g2 vLt (gVar 2) (gVar 3))) sNx)
    (sRet (g2 vLt (g2 vMul (g2 vIx (gVar 0) (gC (.int 1))) (g2 vIx (gVar 1) (gC (.int 2)))) (g2 vMul (g2 vIx (gVar 1) (gC (.int 1))) (g2 vIx (gVar 0) (gC (.int 2)))))))))
def F_comes_before : List D → Option D := runF 4 2 g_comes_before
-- is_polygon: 0=value 1=at
def b_is_polygon_1 : GS := (sSeq (sIf (gTest (g2 vLe (gArgs F_side (aCons (g2 vIx (gVar 0) (g2 vSub (gVar 1) (gC (.int 2)))) (aCons (g2 vIx (gVar 0) (g2 vSub (gVar 1) (gC (.int 1)))) (aCons (g2 vIx (gVar 0) (gVar 1)) aNil)))) (gC (.int 0)))) (sRet (gC (.bool false))) sNx)
    (sIf (gAnd (gTest (g2 vGt (gVar 1) (gC (.int 0)))) (gTest (gArgs F_comes_before (aCons (g2 vIx (gVar 0) (gVar 1)) (aCons (g2 vIx (gVar 0) (gC (.int 0))) aNil))))) (sRet (gC (.bool false))) sNx))
def g_is_polygon : GS := (sSeq (sIf (gOr (gTest (g2 vLt (gArgs (l1 vLen) (aCons (gVar 0) aNil)) (gC (.int 3)))) (gTest (g2 vNe (g1 vLenSet (gVar 0)) (gArgs (l1 vLen) (aCons (gVar 0) aNil))))) (sRet (gC (.bool false))) sNx)
    (sSeq (sFor (gRange1 (gArgs (l1 vLen) (aCons (gVar 0) aNil))) (tName 1) b_is_polygon_1)
    (sRet (gArgs F_goes_round_once (aCons (gVar 0) aNil)))))
def F_is_polygon : List D → Option D := runF 2 1 g_is_polygon
-- read_piece: 0=line 1=words 2=found
def g_read_piece : GS := (sSeq (sSet 1 (g2 vSplit (gVar 0) (gC (.str " "))))
    (sSeq (sIf (gOr (gTest (g2 vNe (g2 vIx (gVar 1) (gC (.int 0))) (gC c_PIECE))) (gOr (gTest (g2 vLt (gArgs (l1 vLen) (aCons (gVar 1) aNil)) (gC (.int 5)))) (gTest (g2 vNotIn (g2 vIx (gVar 1) (gC (.int 1))) (gArgs vTup (aCons (gC (.str "0")) (aCons (gC (.str "1")) (aCons (gC (.str "2")) (aCons (gC (.str "3")) aNil))))))))) (sRet (gC .none)) sNx)
    (sSeq (sSet 2 (gArgs F_points_of_words (aCons (gSlice (gVar 1) (oSome (gC (.int 2))) oNone) aNil)))
    (sSeq (sIf (gOr (gTest (g1 vIsN (gVar 2))) (gNot (gTest (gArgs F_is_polygon (aCons (gArgs (l1 vTuple) (aCons (gSlice (gVar 2) (oSome (gC (.int 1))) oNone) aNil)) aNil))))) (sRet (gC .none)) sNx)
    (sRet (gArgs vTup (aCons (gArgs (l1 vTuple) (aCons (gSlice (gVar 2) (oSome (gC (.int 1))) oNone) aNil)) (aCons (gArgs vTup (aCons (gArgs (l1 vIntS) (aCons (g2 vIx (gVar 1) (gC (.int 1))) aNil)) (aCons (g2 vIx (gVar 2) (gC (.int 0))) aNil))) aNil))))))))
def F_read_piece : List D → Option D := runF 3 1 g_read_piece
-- read_lines: 0=text 1=read 2=lines 3=found 4=at 5=line 6=one
def b_read_lines_1 : GS := (sSeq (sSet 6 (gFn 1 "read_piece" F_read_piece (aCons (gVar 5) aNil)))
    (sSeq (sIf (gTest (g1 vIsN (gVar 6))) (fun _ => none) sNx)
    (sApp 3 (gVar 6))))
def g_read_lines : GS := (sSeq (sSet 2 (g2 vSplit (gVar 0) (gC (.str "\n"))))
    (sSeq (sOwn 3 aNil)
    (sSeq (sFor (gEnum (gSlice (gVar 2) oNone (oSome (g1 vNeg (gC (.int 1)))))) (tTuple [(tName 4), (tName 5)]) b_read_lines_1)
    (sSeq (sIf (gTest (g2 vNe (g2 vIx (gVar 2) (g1 vNeg (gC (.int 1)))) (gC (.str "")))) (fun _ => none) sNx)
    (sRet (gVarB 3))))))
def F_read_lines : List D → Option D := runA 5 "read_piece" g_read_lines
-- read_paper: 0=text
def g_read_paper : GS := (sRet (gArgs F_read_lines (aCons (gVar 0) aNil)))
def F_read_paper : List D → Option D := runF 1 1 g_read_paper
-- law: 0=_law_script 1=_law_paper 2=_law_groups 3=_law_k 4=_law_due 5=_law_polygon_here 6=_law_motion_here 7=_law_passed 8=_law_text 9=_law_parts_here 10=_law_v 11=_law_p
def b_law_1 : GS := (sSeq (sSet 9 (gArgs F_law_parts (aCons (g2 vAdd (g2 vIx (gVar 0) (gVar 3)) (gC (.int 1))) (aCons (gArgs vLst (aCons (gC (.int 7)) (aCons (gC (.int 200)) aNil))) aNil))))
    (sSeq (sSet 6 (gArgs F_law_motion (aCons (g2 vAdd (g2 vIx (gVar 0) (gVar 3)) (gC (.int 2))) (aCons (g2 vIx (gVar 9) (gC (.int 1))) (aCons (g2 vIx (gVar 2) (g2 vIx (gVar 9) (gC (.int 0)))) aNil)))))
    (sApp 1 (gArgs vTup (aCons (gArgs F_law_polygon (aCons (g2 vIx (gVar 0) (gVar 3)) aNil)) (aCons (gVar 6) aNil))))))
def b_law_3 : GS := (sSet 4 (g2 vAdd (g2 vAdd (g2 vAdd (g2 vAdd (g2 vAdd (g2 vAdd (gVar 4) (gC (.str " "))) (gArgs (l1 vStr1) (aCons (g2 vIx (gVar 11) (gC (.int 0))) aNil))) (gC (.str " "))) (gArgs (l1 vStr1) (aCons (g2 vIx (gVar 11) (gC (.int 1))) aNil))) (gC (.str " "))) (gArgs (l1 vStr1) (aCons (g2 vIx (gVar 11) (gC (.int 2))) aNil))))
def b_law_2 : GS := (sSeq (sAsg (gVar 6) (tTuple [(tName 3), (tName 10)]))
    (sSeq (sSet 4 (g2 vAdd (g2 vAdd (gVar 4) (gC (.str "piece "))) (gArgs (l1 vStr1) (aCons (gVar 3) aNil))))
    (sSeq (sFor (gTpl (g2 vAdd (gArgs vTup (aCons (gVar 10) aNil)) (gVar 5))) (tName 11) b_law_3)
    (sSet 4 (g2 vAdd (gVar 4) (gC (.str "\n")))))))
def g_law : GS := (sSeq (sOwn 1 aNil)
    (sSeq (sSet 2 (gArgs vLst (aCons (gC (.str "level")) (aCons (gC (.str "grid")) (aCons (gC (.str "grid2")) (aCons (gC (.str "grid4")) (aCons (gC (.str "free")) (aCons (gC (.str "free2")) (aCons (gC (.str "free4")) aNil)))))))))
    (sSeq (sFor (gRange1 (gArgs (l1 vLen) (aCons (gSlice (gVar 0) oNone (oSome (gC (.int 8)))) aNil))) (tName 3) b_law_1)
    (sSeq (sSet 4 (gC (.str "")))
    (sSeq (fun env => (sFor (gLst (gVar 1)) (tTuple [(tName 5), (tName 6)]) b_law_2) (frz 1 env))
    (sSeq (sSet 7 (gArgs (l1 vList) (aCons (gVar 1) aNil)))
    (sSeq (sSet 8 (gArgs F_write_paper (aCons (gVar 7) aNil)))
    (sRet (gAndV (g2 vEq (gVar 7) (gVar 1)) (gAndV (g2 vEq (gVar 8) (gVar 4)) (g2 vEq (g1 vRepr2 (gArgs F_read_paper (aCons (gVar 8) aNil))) (g1 vRepr2 (gVar 1)))))))))))))
def F_law : List D → Option D := runF 12 1 g_law
local macro_rules | `(tactic| walk_at "dn") => `(tactic| try simp -implicitDefEqProofs only [runF, gComp, startE, sSeq, sIf, sSet, sOwn, sApp, sRet, sNx, sPar, sAsg, sAug, sFor, sFrz, oNone, oSome, sPop, sRevIn, sDrop, sBk, sCt, sRetN, gYes, gListOf, gSlice, frz, tName, tTuple, gVar, gVarB, gC, g1, g2, aCons, aNil, gArgs, gTest, gTruth, gAnd, gOr, gNot, gAndV, gOrV, gNotV, gIfE, gRange1, gRange2, gLst, gTpl, vIsN, vNotN, vAdd_int, vIAdd_int, vSub_int, vSub_bool, vNeg_int, vLt_int, vLe_int, vGt_int, vGe_int, vEq_int, vNe_int, vEq_str, vNe_str, vIx_list, vIx_tup, vLen_list, vLen_tup, vAbs_int, vToI_int, vToI_bool, vTruth_int, vTruth_bool, vTruth_none, vTruth_list, vTruth_tup, asBool_bool, vTup_l, vLst_l, vTuple_list, vTuple_tup, vList_list, vList_tup, vRev_list, l1_1, l2_2, look_val, lookB_val, lookB_own, thenS_nx, thenS_ret, thenS_bk, thenS_ct, turnS_nx, turnS_ct, turnS_bk, turnS_ret, endF_ret, endF_nx, asTpl_tup, asLst_list, appS_own, popS_own, revS_own, frzS_own, frzS_val, asPart_int, isNone_none, isNone_tup, isNone_list, isNone_int, forG_nil, forG_cons, compG_nil, compG_cons, noOwB_nil, noOwB_cons, isOwn_val, isOwn_un, wipeE_nil, wipeE_cons, tTup2_nil, tTup2_cons, atD_0, atD_1, atD_2, atD_3, atD_4, atD_5, atD_6, atD_7, atD_8, atD_9, atD_10, atD_11, Option.bind_some, Option.bind_none, List.length_cons, List.length_nil, List.map_cons, List.map_nil, List.replicate, List.getElem?_cons_zero, List.getElem?_cons_succ, List.set_cons_zero, List.set_cons_succ, List.cons_append, List.nil_append, Nat.add_sub_cancel, Nat.sub_self, Nat.reduceAdd, Nat.reduceSub, if_true, if_false, reduceIte, Bool.not_true, Bool.not_false, Bool.false_eq_true, Bool.true_and, Bool.and_true, Bool.false_and, Bool.and_false, Bool.true_or, Bool.or_true, Bool.false_or, Bool.or_false, Int.toNat_natCast, Int.reduceLT, Int.reduceToNat, decide_true, decide_false])
local macro_rules | `(tactic| walk_at "bd") => `(tactic| (repeat' (first | exact S.mono (by assumption) (by decide) | exact S.lit (by decide) | apply S.mul | apply S.add | apply S.sub | apply S.neg | apply S.up)))
local macro_rules | `(tactic| walk_at "dnx") => `(tactic| simp -implicitDefEqProofs only [runF, gComp, startE, sSeq, sIf, sSet, sOwn, sApp, sRet, sNx, sPar, sAsg, sAug, sFor, sFrz, oNone, oSome, sPop, sRevIn, sDrop, sBk, sCt, sRetN, gYes, gListOf, gSlice, frz, tName, tTuple, gVar, gVarB, gC, g1, g2, aCons, aNil, gArgs, gTest, gTruth, gAnd, gOr, gNot, gAndV, gOrV, gNotV, gIfE, gRange1, gRange2, gLst, gTpl, vIsN, vNotN, vAdd_int, vIAdd_int, vSub_int, vSub_bool, vNeg_int, vLt_int, vLe_int, vGt_int, vGe_int, vEq_int, vNe_int, vEq_str, vNe_str, vIx_list, vIx_tup, vLen_list, vLen_tup, vAbs_int, vToI_int, vToI_bool, vTruth_int, vTruth_bool, vTruth_none, vTruth_list, vTruth_tup, asBool_bool, vTup_l, vLst_l, vTuple_list, vTuple_tup, vList_list, vList_tup, vRev_list, l1_1, l2_2, look_val, lookB_val, lookB_own, thenS_nx, thenS_ret, thenS_bk, thenS_ct, turnS_nx, turnS_ct, turnS_bk, turnS_ret, endF_ret, endF_nx, asTpl_tup, asLst_list, appS_own, popS_own, revS_own, frzS_own, frzS_val, asPart_int, isNone_none, isNone_tup, isNone_list, isNone_int, forG_nil, forG_cons, compG_nil, compG_cons, noOwB_nil, noOwB_cons, isOwn_val, isOwn_un, wipeE_nil, wipeE_cons, tTup2_nil, tTup2_cons, atD_0, atD_1, atD_2, atD_3, atD_4, atD_5, atD_6, atD_7, atD_8, atD_9, atD_10, atD_11, Option.bind_some, Option.bind_none, List.length_cons, List.length_nil, List.map_cons, List.map_nil, List.replicate, List.getElem?_cons_zero, List.getElem?_cons_succ, List.set_cons_zero, List.set_cons_succ, List.cons_append, List.nil_append, Nat.add_sub_cancel, Nat.sub_self, Nat.reduceAdd, Nat.reduceSub, if_true, if_false, reduceIte, Bool.not_true, Bool.not_false, Bool.false_eq_true, Bool.true_and, Bool.and_true, Bool.false_and, Bool.and_false, Bool.true_or, Bool.or_true, Bool.false_or, Bool.or_false, Int.toNat_natCast, Int.reduceLT, Int.reduceToNat, decide_true, decide_false])
local macro_rules | `(tactic| walk_at "dsx") => `(tactic| simp -implicitDefEqProofs (disch := walk_at "bd") only [runF, gComp, startE, sSeq, sIf, sSet, sOwn, sApp, sRet, sNx, sPar, sAsg, sAug, sFor, sFrz, oNone, oSome, sPop, sRevIn, sDrop, sBk, sCt, sRetN, gYes, gListOf, gSlice, frz, tName, tTuple, gVar, gVarB, gC, g1, g2, aCons, aNil, gArgs, gTest, gTruth, gAnd, gOr, gNot, gAndV, gOrV, gNotV, gIfE, gRange1, gRange2, gLst, gTpl, vIsN, vNotN, vAdd_int, vIAdd_int, vSub_int, vSub_bool, vNeg_int, vLt_int, vLe_int, vGt_int, vGe_int, vEq_int, vNe_int, vEq_str, vNe_str, vIx_list, vIx_tup, vLen_list, vLen_tup, vAbs_int, vToI_int, vToI_bool, vTruth_int, vTruth_bool, vTruth_none, vTruth_list, vTruth_tup, asBool_bool, vTup_l, vLst_l, vTuple_list, vTuple_tup, vList_list, vList_tup, vRev_list, l1_1, l2_2, look_val, lookB_val, lookB_own, thenS_nx, thenS_ret, thenS_bk, thenS_ct, turnS_nx, turnS_ct, turnS_bk, turnS_ret, endF_ret, endF_nx, asTpl_tup, asLst_list, appS_own, popS_own, revS_own, frzS_own, frzS_val, asPart_int, isNone_none, isNone_tup, isNone_list, isNone_int, forG_nil, forG_cons, compG_nil, compG_cons, noOwB_nil, noOwB_cons, isOwn_val, isOwn_un, wipeE_nil, wipeE_cons, tTup2_nil, tTup2_cons, atD_0, atD_1, atD_2, atD_3, atD_4, atD_5, atD_6, atD_7, atD_8, atD_9, atD_10, atD_11, Option.bind_some, Option.bind_none, List.length_cons, List.length_nil, List.map_cons, List.map_nil, List.replicate, List.getElem?_cons_zero, List.getElem?_cons_succ, List.set_cons_zero, List.set_cons_succ, List.cons_append, List.nil_append, Nat.add_sub_cancel, Nat.sub_self, Nat.reduceAdd, Nat.reduceSub, if_true, if_false, reduceIte, Bool.not_true, Bool.not_false, Bool.false_eq_true, Bool.true_and, Bool.and_true, Bool.false_and, Bool.and_false, Bool.true_or, Bool.or_true, Bool.false_or, Bool.or_false, Int.toNat_natCast, Int.reduceLT, Int.reduceToNat, decide_true, decide_false, vMul_S])
local macro_rules | `(tactic| push_cast [$xs,*]) => `(tactic| simp -implicitDefEqProofs only [$xs,*, runF, gComp, startE, sSeq, sIf, sSet, sOwn, sApp, sRet, sNx, sPar, sAsg, sAug, sFor, sFrz, oNone, oSome, sPop, sRevIn, sDrop, sBk, sCt, sRetN, gYes, gListOf, gSlice, frz, tName, tTuple, gVar, gVarB, gC, g1, g2, aCons, aNil, gArgs, gTest, gTruth, gAnd, gOr, gNot, gAndV, gOrV, gNotV, gIfE, gRange1, gRange2, gLst, gTpl, vIsN, vNotN, vAdd_int, vIAdd_int, vSub_int, vSub_bool, vNeg_int, vLt_int, vLe_int, vGt_int, vGe_int, vEq_int, vNe_int, vEq_str, vNe_str, vIx_list, vIx_tup, vLen_list, vLen_tup, vAbs_int, vToI_int, vToI_bool, vTruth_int, vTruth_bool, vTruth_none, vTruth_list, vTruth_tup, asBool_bool, vTup_l, vLst_l, vTuple_list, vTuple_tup, vList_list, vList_tup, vRev_list, l1_1, l2_2, look_val, lookB_val, lookB_own, thenS_nx, thenS_ret, thenS_bk, thenS_ct, turnS_nx, turnS_ct, turnS_bk, turnS_ret, endF_ret, endF_nx, asTpl_tup, asLst_list, appS_own, popS_own, revS_own, frzS_own, frzS_val, asPart_int, isNone_none, isNone_tup, isNone_list, isNone_int, forG_nil, forG_cons, compG_nil, compG_cons, noOwB_nil, noOwB_cons, isOwn_val, isOwn_un, wipeE_nil, wipeE_cons, tTup2_nil, tTup2_cons, atD_0, atD_1, atD_2, atD_3, atD_4, atD_5, atD_6, atD_7, atD_8, atD_9, atD_10, atD_11, Option.bind_some, Option.bind_none, List.length_cons, List.length_nil, List.map_cons, List.map_nil, List.replicate, List.getElem?_cons_zero, List.getElem?_cons_succ, List.set_cons_zero, List.set_cons_succ, List.cons_append, List.nil_append, Nat.add_sub_cancel, Nat.sub_self, Nat.reduceAdd, Nat.reduceSub, if_true, if_false, reduceIte, Bool.not_true, Bool.not_false, Bool.false_eq_true, Bool.true_and, Bool.and_true, Bool.false_and, Bool.and_false, Bool.true_or, Bool.or_true, Bool.false_or, Bool.or_false, Int.toNat_natCast, Int.reduceLT, Int.reduceToNat, decide_true, decide_false])
local macro_rules | `(tactic| simp_arith [$xs,*]) => `(tactic| simp -implicitDefEqProofs (disch := walk_at "bd") only [$xs,*, runF, gComp, startE, sSeq, sIf, sSet, sOwn, sApp, sRet, sNx, sPar, sAsg, sAug, sFor, sFrz, oNone, oSome, sPop, sRevIn, sDrop, sBk, sCt, sRetN, gYes, gListOf, gSlice, frz, tName, tTuple, gVar, gVarB, gC, g1, g2, aCons, aNil, gArgs, gTest, gTruth, gAnd, gOr, gNot, gAndV, gOrV, gNotV, gIfE, gRange1, gRange2, gLst, gTpl, vIsN, vNotN, vAdd_int, vIAdd_int, vSub_int, vSub_bool, vNeg_int, vLt_int, vLe_int, vGt_int, vGe_int, vEq_int, vNe_int, vEq_str, vNe_str, vIx_list, vIx_tup, vLen_list, vLen_tup, vAbs_int, vToI_int, vToI_bool, vTruth_int, vTruth_bool, vTruth_none, vTruth_list, vTruth_tup, asBool_bool, vTup_l, vLst_l, vTuple_list, vTuple_tup, vList_list, vList_tup, vRev_list, l1_1, l2_2, look_val, lookB_val, lookB_own, thenS_nx, thenS_ret, thenS_bk, thenS_ct, turnS_nx, turnS_ct, turnS_bk, turnS_ret, endF_ret, endF_nx, asTpl_tup, asLst_list, appS_own, popS_own, revS_own, frzS_own, frzS_val, asPart_int, isNone_none, isNone_tup, isNone_list, isNone_int, forG_nil, forG_cons, compG_nil, compG_cons, noOwB_nil, noOwB_cons, isOwn_val, isOwn_un, wipeE_nil, wipeE_cons, tTup2_nil, tTup2_cons, atD_0, atD_1, atD_2, atD_3, atD_4, atD_5, atD_6, atD_7, atD_8, atD_9, atD_10, atD_11, Option.bind_some, Option.bind_none, List.length_cons, List.length_nil, List.map_cons, List.map_nil, List.replicate, List.getElem?_cons_zero, List.getElem?_cons_succ, List.set_cons_zero, List.set_cons_succ, List.cons_append, List.nil_append, Nat.add_sub_cancel, Nat.sub_self, Nat.reduceAdd, Nat.reduceSub, if_true, if_false, reduceIte, Bool.not_true, Bool.not_false, Bool.false_eq_true, Bool.true_and, Bool.and_true, Bool.false_and, Bool.and_false, Bool.true_or, Bool.or_true, Bool.false_or, Bool.or_false, Int.toNat_natCast, Int.reduceLT, Int.reduceToNat, decide_true, decide_false, vMul_S])
theorem law_divisor_eq {k : Nat} {a b : Int} (ha : Bd k a) (hb : Bd k b) (hk : k ≤ 18000) : F_law_divisor [.int a, .int b] = some (.int ((Int.gcd a b : Nat) : Int)) := by
  have key := euclid2 (fun n x y g => ∀ (ds : List D) (s : Slot), ds.length = n → forG (tName 2) b_law_divisor_1 ds [.val (.int (x : Int)), .val (.int (y : Int)), s] = some (.ret (.int (g : Int)))) (fun n a ds s hl => by
      cases ds with
      | nil => cases hl
      | cons d ds =>
        simp -implicitDefEqProofs only [forG_cons, b_law_divisor_1]
        walk_at "dn"
        rfl) (fun n a b g hb ih ds s hl => by
      cases ds with
      | nil => cases hl
      | cons d ds =>
        have h1 : ¬ ((b : Int) = 0) := by omega
        simp -implicitDefEqProofs only [forG_cons, b_law_divisor_1]
        walk_at "dn"
        simp only [h1, decide_false, Bool.false_eq_true, if_false]
        walk_at "dn"
        simp only [vMod, if_neg h1, Option.bind_some, fmod_nat]
        exact ih ds _ (by simpa using hl)) k 40000 a.natAbs b.natAbs ha hb (by omega)
  unfold F_law_divisor g_law_divisor
  walk_at "dn"
  rw [abs_nat a, abs_nat b, vRange1_int (by decide), Option.bind_some, key (rngD 0 (Int.toNat 40000)) .un (rngD_length _ _)]
  rfl
theorem law_parts_loop (c : Int) (ss : List Int) (hs : ∀ s ∈ ss, 0 < s ∧ Bd 250 s) (hn : ss.length ≤ 1000) : ∀ (m lo : Nat) (acc : List Int) (rest : Int) (k x : Slot), lo + m = ss.length → Fit acc (ss.take lo) →
    ∃ (ps : List Int) (rest' : Int) (k' x' : Slot), Fit ps ss ∧ forG (tName 4) b_law_parts_1 (rngD (lo : Int) m) [.val (.int c), .val (.list (dI ss)), .own (dI acc), .val (.int rest), k, x]
      = some (.nx [.val (.int c), .val (.list (dI ss)), .own (dI ps), .val (.int rest'), k', x']) := by
  intro m
  induction m with
  | zero =>
    intro lo acc rest k x hl hf
    refine ⟨acc, rest, k, x, ?_, rfl⟩
    rw [List.take_of_length_le (by omega)] at hf
    exact hf
  | succ m ih =>
    intro lo acc rest k x hl hf
    have hlt : lo < ss.length := by omega
    have hget : ss[lo]? = some ss[lo] := List.getElem?_eq_getElem hlt
    obtain ⟨hp, hb⟩ := hs ss[lo] (List.getElem_mem hlt)
    have hix : atD (dI ss) (lo : Int) = some (.int ss[lo]) := by rw [atD_nat, dI_get, hget]; rfl
    have htk : ss.take (lo + 1) = ss.take lo ++ [ss[lo]] := by rw [List.take_add_one, hget]; rfl
    have hal : acc.length = lo := by rw [hf.length, List.length_take]; omega
    have hlim : (dI acc).length < lim := by rw [dI_length, hal]; unfold lim; omega
    rw [rngD_succ]
    by_cases h : (0 : Int) ≤ rest
    · obtain ⟨ps, r', k', x', h1, h2⟩ := ih (lo + 1) (acc ++ [rest % ss[lo]]) (rest / ss[lo]) (.val (.int (lo : Int))) x (by omega) (by
        rw [htk]
        exact hf.snoc (Int.emod_nonneg _ (by omega)) (Int.emod_lt_of_pos _ hp))
      refine ⟨ps, r', k', x', h1, ?_⟩
      simp -implicitDefEqProofs only [forG_cons, b_law_parts_1]
      walk_at "dn"
      simp only [h, decide_true, if_true, hix, Option.bind_some, vMod_pos hp, hlim]
      walk_at "dn"
      simp only [hix, Option.bind_some, vFdiv_pos hp hb (by decide) (by decide), Option.bind_some]
      walk_at "dn"
      rw [← dI_app, dI_cons, dI_nil, show (((lo + 1 : Nat)) : Int) = (lo : Int) + 1 from rfl] at h2
      exact h2
    · generalize hm1 : (c * 48271 + (lo : Int) * 69621 + 11) % 2147483647 = m1
      have m1a : 0 ≤ m1 := by rw [← hm1]; exact Int.emod_nonneg _ (by decide)
      have m1b : m1 < 2147483647 := by rw [← hm1]; exact Int.emod_lt_of_pos _ (by decide)
      have b1 : Bd 64 m1 := bd_range 0 2147483647 m1a (by omega) (by decide) (by decide)
      generalize hm2 : (m1 * m1 + 16807 * (lo : Int) + 5) % 998244353 = m2
      obtain ⟨ps, r', k', x', h1, h2⟩ := ih (lo + 1) (acc ++ [m2 % ss[lo]]) rest (.val (.int (lo : Int))) (.val (.int m2)) (by omega) (by
        rw [htk]
        exact hf.snoc (Int.emod_nonneg _ (by omega)) (Int.emod_lt_of_pos _ hp))
      refine ⟨ps, r', k', x', h1, ?_⟩
      simp -implicitDefEqProofs only [forG_cons, b_law_parts_1]
      walk_at "dn"
      simp only [h, decide_false, if_false, Bool.false_eq_true, Option.bind_some, vMul_ok (mulOk_right (x := c) (y := 48271) (bd_lit (by decide))), vMul_ok (mulOk_right (x := (lo : Int)) (y := 69621) (bd_lit (by decide)))]
      walk_at "dn"
      simp only [vMod_pos (show (0 : Int) < 2147483647 by decide), Option.bind_some, hm1]
      walk_at "dn"
      simp only [vMul_ok (mulOk_left (y := m1) b1), vMul_ok (mulOk_left (x := 16807) (y := (lo : Int)) (bd_lit (by decide))), Option.bind_some]
      walk_at "dn"
      simp only [vMod_pos (show (0 : Int) < 998244353 by decide), Option.bind_some, hm2]
      walk_at "dn"
      simp only [hix, Option.bind_some, vMod_pos hp, hlim, if_true]
      walk_at "dn"
      rw [← dI_app, dI_cons, dI_nil, show (((lo + 1 : Nat)) : Int) = (lo : Int) + 1 from rfl] at h2
      exact h2
theorem law_parts_eq (c : Int) (ss : List Int) (hs : ∀ s ∈ ss, 0 < s ∧ Bd 250 s) (hn : ss.length ≤ 1000) : ∃ ps : List Int, Fit ps ss ∧ F_law_parts [.int c, .list (dI ss)] = some (.list (dI ps)) := by
  obtain ⟨ps, r', k', x', h1, h2⟩ := law_parts_loop c ss hs hn ss.length 0 [] (c - 1000000000000000000) .un .un (by omega) .nil
  refine ⟨ps, h1, ?_⟩
  unfold F_law_parts g_law_parts
  walk_at "dn"
  rw [vPow_10_18]
  walk_at "dn"
  rw [dI_length, vRange1_int (by omega), Option.bind_some, Int.toNat_natCast]
  have h2 := h2
  rw [Int.natCast_zero] at h2
  rw [dI_nil] at h2
  rw [h2]
  walk_at "dn"
theorem law_point_eq {k : Nat} {x y w : Int} (hx : Bd k x) (hy : Bd k y) (hw : Bd k w) (h0 : 0 < w) (k0 : 0 < k) (hk : k ≤ 9000) : F_law_point [.int x, .int y, .int w] = some (P x y w) := by
  have z0 : w ≠ 0 := by omega
  have e1 : F_law_divisor [.int x, .int y] = some (.int ((Int.gcd x y : Nat) : Int)) := law_divisor_eq hx hy (by omega)
  have bg : Bd k ((Int.gcd x y : Nat) : Int) := by
    by_cases z : x = 0
    · subst z
      rw [Int.gcd_zero_left]
      unfold Bd at *
      omega
    · exact hx.gcd_left z
  have e2 : F_law_divisor [.int ((Int.gcd x y : Nat) : Int), .int w] = some (.int (gg x y w)) := law_divisor_eq bg hw (by omega)
  have gp : 0 < gg x y w := gg_pos z0
  have gb : Bd k (gg x y w) := hw.gcd_right z0
  unfold F_law_point g_law_point
  have h : ¬ w < 0 := by omega
  have fd : ∀ z : Int, vFdiv (.int z) (.int (gg x y w)) = some (.int (z / gg x y w)) := fun z => vFdiv_pos gp gb k0 hk
  push_cast [e1, e2, fd]
  unfold P pt p1 p2 p3 ptX
  simp only [h, if_false]
theorem law_point_S {x y w : Int} (hx : S 7 x) (hy : S 7 y) (hw : S 7 w) (h0 : 0 < w) : F_law_point [.int x, .int y, .int w] = some (P x y w) := law_point_eq (k := 64 * 2 ^ 7) hx.b hy.b hw.b h0 (by decide) (by decide)
def tn (a b c d e f g h i : Int) : Int := a * (e * i - h * f) + d * (h * c - b * i) + g * (b * f - e * c)
theorem law_turn_eq {a b c d e f g h i : Int} (ha : S 6 a) (hb : S 6 b) (hc : S 6 c) (hd : S 6 d) (he : S 6 e) (hf : S 6 f) (hg : S 6 g) (hh : S 6 h) (hi : S 6 i) : F_law_turn [pt a b c, pt d e f, pt g h i] = some (.int (tn a b c d e f g h i)) := by
  unfold F_law_turn g_law_turn pt
  walk_at "dsx"
  rfl
theorem chain_out_eq : b_law_chain_1 = sSeq (sFor (gRange1 (gArgs (l1 vLen) (aCons (gVar 0) aNil))) (tName 3) b_law_chain_2) (sApp 1 (gVar 2)) := rfl
theorem law_turn_pt {a b c : Pt} (ha : a.Sz 6) (hb : b.Sz 6) (hc : c.Sz 6) : F_law_turn [a.d, b.d, c.d] = some (.int (Pt.t a b c)) := law_turn_eq ha.x ha.y ha.w hb.x hb.y hb.w hc.x hc.y hc.w
theorem chain_step {p : Pt} (hp : p.Sz 6) (v0 : D) (x : Slot) (k : Int) : ∀ (s : List Pt), (∀ q ∈ s, q.Sz 6) → b_law_chain_2 [.val v0, .own (dP s.reverse), .val p.d, .val (.int k)] = some (.nx [.val v0, .own (dP (Pt.pop1 p s).reverse), .val p.d, .val (.int k)])
  | [], _ => by
    unfold b_law_chain_2
    have e : (dP ([] : List Pt).reverse).length = 0 := rfl
    push_cast [e]
    rfl
  | [a], _ => by
    unfold b_law_chain_2
    have e : (dP [a].reverse).length = 1 := rfl
    push_cast [e]
    rfl
  | b :: a :: s, h => by
    have hr : (b :: a :: s).reverse = s.reverse ++ [a] ++ [b] := by rw [List.reverse_cons, List.reverse_cons]
    have hl : (dP (b :: a :: s).reverse).length = s.length + 2 := by rw [dP_length, List.length_reverse]; rfl
    have e1 : atD (dP (b :: a :: s).reverse) (-1) = some b.d := by rw [hr]; exact atD_last _ _
    have e2 : atD (dP (b :: a :: s).reverse) (-2) = some a.d := by rw [hr]; exact atD_last2 _ _ _
    have tt := law_turn_pt (h a (by simp)) (h b (by simp)) hp
    have big : decide (1 < ((s.length + 2 : Nat) : Int)) = true := decide_eq_true (by omega)
    have dl : (dP (b :: a :: s).reverse).dropLast = dP (a :: s).reverse := by rw [dP_dropLast, List.reverse_cons, List.dropLast_concat]
    have ne : (dP (b :: a :: s).reverse).isEmpty = false := by
      cases q : dP (b :: a :: s).reverse with
      | nil => rw [q] at hl; cases hl
      | cons _ _ => rfl
    unfold b_law_chain_2
    by_cases z : Pt.t a b p ≤ 0
    · have f : Pt.pop1 p (b :: a :: s) = a :: s := if_pos z
      have zz : decide (Pt.t a b p ≤ 0) = true := decide_eq_true z
      generalize dP (b :: a :: s).reverse = L at *
      push_cast [hl, e1, e2, tt, big, zz, ne, dl, f]
    · have f : Pt.pop1 p (b :: a :: s) = b :: a :: s := if_neg z
      have zz : decide (Pt.t a b p ≤ 0) = false := decide_eq_false z
      generalize hL : dP (b :: a :: s).reverse = L at *
      push_cast [hl, e1, e2, tt, big, zz, ne, dl, f, hL]
theorem pop1_sub {p : Pt} : ∀ {s : List Pt} {q : Pt}, q ∈ Pt.pop1 p s → q ∈ s
  | [], _, h => h
  | [_], _, h => h
  | b :: a :: s, q, h => by
    by_cases z : Pt.t a b p ≤ 0
    · rw [show Pt.pop1 p (b :: a :: s) = a :: s from if_pos z] at h; exact List.mem_cons_of_mem _ h
    · rw [show Pt.pop1 p (b :: a :: s) = b :: a :: s from if_neg z] at h; exact h
theorem chain_loop {p : Pt} (hp : p.Sz 6) (v0 : D) : ∀ (m : Nat) (lo : Int) (s : List Pt) (x : Slot), (∀ q ∈ s, q.Sz 6) → ∃ x', forG (tName 3) b_law_chain_2 (rngD lo m) [.val v0, .own (dP s.reverse), .val p.d, x] = some (.nx [.val v0, .own (dP (Pt.popN p m s).reverse), .val p.d, x'])
  | 0, lo, s, x, _ => ⟨x, rfl⟩
  | m + 1, lo, s, x, h => by
    obtain ⟨x', ih⟩ := chain_loop hp v0 m (lo + 1) (Pt.pop1 p s) (.val (.int lo)) (fun q hq => h q (pop1_sub hq))
    refine ⟨x', ?_⟩
    rw [rngD_succ, forG_cons]
    show (b_law_chain_2 [.val v0, .own (dP s.reverse), .val p.d, .val (.int lo)]).bind _ = _
    rw [chain_step hp v0 x lo s h]
    exact ih
theorem chain_go (ps0 : List Pt) (hn : ps0.length ≤ 1000) : ∀ (ps : List Pt) (s : List Pt) (x y : Slot), (∀ q ∈ ps, q.Sz 6) → (∀ q ∈ s, q.Sz 6) → s.length + ps.length ≤ ps0.length → ∃ x' y', forG (tName 2) b_law_chain_1 (dP ps) [.val (.list (dP ps0)), .own (dP s.reverse), x, y] = some (.nx [.val (.list (dP ps0)), .own (dP (Pt.chain s ps).reverse), x', y'])
  | [], s, x, y, _, _, _ => ⟨x, y, rfl⟩
  | p :: ps, s, x, y, h, hs, hl => by
    simp only [List.length_cons] at hl
    have hp := h p List.mem_cons_self
    obtain ⟨y', e⟩ := chain_loop hp (.list (dP ps0)) ps0.length 0 s y hs
    rw [Pt.popN_all _ _ (by omega)] at e
    have hsub : ∀ q ∈ p :: Pt.popS p s, q.Sz 6 := fun q hq => by
      rcases List.mem_cons.mp hq with rfl | hq
      · exact hp
      · exact hs q (Pt.popS_sub hq)
    have ln := Pt.popS_len (p := p) (s := s)
    obtain ⟨x'', y'', ih⟩ := chain_go ps0 hn ps (p :: Pt.popS p s) (.val p.d) y' (fun q hq => h q (List.mem_cons_of_mem _ hq)) hsub (by simp only [List.length_cons]; omega)
    refine ⟨x'', y'', ?_⟩
    rw [dP_cons, forG_cons]
    show (b_law_chain_1 [.val (.list (dP ps0)), .own (dP s.reverse), .val p.d, y]).bind _ = _
    have rg : vRange1 (.int ((ps0.length : Nat) : Int)) = some (rngD 0 ps0.length) := by rw [vRange1_int (by omega)]; rfl
    have one : b_law_chain_1 [.val (.list (dP ps0)), .own (dP s.reverse), .val p.d, y] = some (.nx [.val (.list (dP ps0)), .own (dP (p :: Pt.popS p s).reverse), .val p.d, y']) := by
      rw [chain_out_eq]
      have ll : (dP (Pt.popS p s).reverse).length < lim := by rw [dP_length, List.length_reverse]; unfold lim; omega
      have dd : decide ((dP (Pt.popS p s).reverse).length < lim) = true := decide_eq_true ll
      have ap : dP (Pt.popS p s).reverse ++ [p.d] = dP (p :: Pt.popS p s).reverse := by rw [List.reverse_cons, ← dP_app]; rfl
      generalize b_law_chain_2 = cc at *
      push_cast [dP_length ps0, rg, e, if_pos ll, ap]
    rw [one]
    exact ih
theorem law_chain_eq (ps : List Pt) (hn : ps.length ≤ 1000) (h : ∀ q ∈ ps, q.Sz 6) : F_law_chain [.list (dP ps)] = some (.list (dP (Pt.chain [] ps).reverse)) := by
  obtain ⟨x', y', e⟩ := chain_go ps hn ps [] .un .un h (fun q hq => by cases hq) (by simp)
  have e : forG (tName 2) b_law_chain_1 (dP ps) [.val (.list (dP ps)), .own [], .un, .un] = some (.nx [.val (.list (dP ps)), .own (dP (Pt.chain [] ps).reverse), x', y']) := e
  unfold F_law_chain g_law_chain
  push_cast [e]
theorem law_before_pt {a b : Pt} (ha : a.Sz 6) (hb : b.Sz 6) : F_law_before [a.d, b.d] = some (.bool (Pt.ltb a b)) := by
  have h1 := ha.x
  have h2 := ha.y
  have h3 := ha.w
  have h4 := hb.x
  have h5 := hb.y
  have h6 := hb.w
  unfold Pt.ltb F_law_before g_law_before Pt.d pt
  by_cases h : a.x * b.w = b.x * a.w
  · simp_arith [h, ne_eq, not_true_eq_false]
  · simp_arith [h, ne_eq, not_false_eq_true]
theorem comp_before {p : Pt} (hp : p.Sz 6) (v0 v1 : D) (x y : Slot) : ∀ (o : List Pt), (∀ q ∈ o, q.Sz 6) → compG (tName 5) qc_law_hull_1 qe_law_hull_1 [.val v0, .val v1, .val p.d, x, y, .un] (dP o) = some (dP (o.filter fun q => Pt.ltb q p))
  | [], _ => rfl
  | q :: o, h => by
    have ih := comp_before hp v0 v1 x y o (fun q hq => h q (List.mem_cons_of_mem _ hq))
    have e := law_before_pt (h q List.mem_cons_self) hp
    rw [dP_cons, compG_cons, ih]
    unfold qc_law_hull_1 qe_law_hull_1
    by_cases z : Pt.ltb q p = true
    · have f : ((q :: o).filter fun q => Pt.ltb q p) = q :: o.filter fun q => Pt.ltb q p := by rw [List.filter_cons, if_pos z]
      rw [f, dP_cons]
      push_cast [e, z]
    · have f : ((q :: o).filter fun q => Pt.ltb q p) = o.filter fun q => Pt.ltb q p := by rw [List.filter_cons, if_neg z]
      have z : Pt.ltb q p = false := Bool.eq_false_iff.mpr z
      rw [f]
      push_cast [e, z]
theorem hull_step {p : Pt} (hp : p.Sz 6) (v0 : D) (o : List Pt) (ho : ∀ q ∈ o, q.Sz 6) (hn : o.length ≤ 100000) (x y : Slot) (hx : isOwn (some x) = false) : ∃ y', b_law_hull_1 [.val v0, .val (.list (dP o)), .val p.d, x, y, .un] = some (.nx [.val v0, .val (.list (dP (Pt.ins o p))), .val p.d, x, y', .un]) := by
  have e1 := vNotIn_dP p o
  by_cases z : p ∈ o
  · refine ⟨y, ?_⟩
    have zz : decide (p ∈ o) = true := decide_eq_true z
    have f : Pt.ins o p = o := by unfold Pt.ins; rw [if_pos z]
    unfold b_law_hull_1
    push_cast [e1, zz, f]
  · have zz : decide (p ∈ o) = false := decide_eq_false z
    refine ⟨.val (.int ((o.filter fun q => Pt.ltb q p).length : Nat)), ?_⟩
    have f : Pt.ins o p = o.take (o.filter fun q => Pt.ltb q p).length ++ [p] ++ o.drop (o.filter fun q => Pt.ltb q p).length := by unfold Pt.ins; rw [if_neg z]
    have le := List.length_filter_le (fun q => Pt.ltb q p) o
    have c := comp_before hp v0 (.list (dP o)) x y o ho
    have cp : q_law_hull_1 [.val v0, .val (.list (dP o)), .val p.d, x, y, .un] = some (.list (dP (o.filter fun q => Pt.ltb q p))) := by
      have ll : decide ((dP o).length < lim) = true := decide_eq_true (by rw [dP_length]; unfold lim; omega)
      show (if noOwB [.val v0, .val (.list (dP o)), .val p.d, x, y, .un] [5] && decide ((dP o).length < lim) then (compG (tName 5) _ _ [.val v0, .val (.list (dP o)), .val p.d, x, y, .un] (dP o)).bind fun r => some (PyData.list r) else none) = _
      rw [ll, c]
      rfl
    rw [f]
    generalize hk : (o.filter fun q => Pt.ltb q p).length = k at *
    have s1 : vSlice (.list (dP o)) none (some (k : Int)) = some (.list (dP (o.take k))) := by
      show some (PyData.list (cutD (dP o) none (some (k : Int)))) = _
      rw [cut_to _ _ (by rw [dP_length]; exact le)]
      unfold dP; rw [List.map_take]
    have s2 : vSlice (.list (dP o)) (some (k : Int)) none = some (.list (dP (o.drop k))) := by
      show some (PyData.list (cutD (dP o) (some (k : Int)) none)) = _
      rw [cut_from _ _ (by rw [dP_length]; exact le)]
      unfold dP; rw [List.map_drop]
    have ad : ∀ xs ys : List Pt, xs.length + ys.length ≤ 300000 → vAdd (.list (dP xs)) (.list (dP ys)) = some (.list (dP (xs ++ ys))) := fun xs ys h => by
      show (if (dP xs).length + (dP ys).length ≤ lim then some (PyData.list (dP xs ++ dP ys)) else none) = _
      rw [if_pos (by rw [dP_length, dP_length]; unfold lim; omega), dP_app]
    have one : [p.d] = dP [p] := rfl
    have t1 : (o.take k).length ≤ o.length := by rw [List.length_take]; omega
    have t2 : (o.drop k).length ≤ o.length := by rw [List.length_drop]; omega
    have a1 := ad (o.take k) [p] (by rw [List.length_singleton]; omega)
    have a2 := ad (o.take k ++ [p]) (o.drop k) (by rw [List.length_append, List.length_singleton]; omega)
    unfold b_law_hull_1
    push_cast [e1, zz, cp, dP_length, s1, s2, one, a1, a2, hk]
theorem hull_loop (v0 : D) (x : Slot) : ∀ (ps : List Pt) (o : List Pt) (p0 y : Slot), (∀ q ∈ ps, q.Sz 6) → (∀ q ∈ o, q.Sz 6) → o.length + ps.length ≤ 100000 → ∃ p' y', forG (tName 2) b_law_hull_1 (dP ps) [.val v0, .val (.list (dP o)), p0, .un, y, .un] = some (.nx [.val v0, .val (.list (dP (ps.foldl Pt.ins o))), p', .un, y', .un])
  | [], o, p0, y, _, _, _ => ⟨p0, y, rfl⟩
  | p :: ps, o, p0, y, h, ho, hl => by
    simp only [List.length_cons] at hl
    obtain ⟨y1, e⟩ := hull_step (h p List.mem_cons_self) v0 o ho (by omega) .un y rfl
    have ln := Pt.ins_len (o := o) (p := p)
    obtain ⟨p', y', ih⟩ := hull_loop v0 x ps (Pt.ins o p) (.val p.d) y1 (fun q hq => h q (List.mem_cons_of_mem _ hq)) (fun q hq => by
      rcases Pt.ins_mem.mp hq with hq | hq
      · exact ho q hq
      · rw [hq]; exact h p List.mem_cons_self) (by omega)
    refine ⟨p', y', ?_⟩
    rw [dP_cons, forG_cons]
    show (b_law_hull_1 [.val v0, .val (.list (dP o)), .val p.d, .un, y, .un]).bind _ = _
    rw [e]
    exact ih
theorem fold_len : ∀ (ps o : List Pt), (ps.foldl Pt.ins o).length ≤ o.length + ps.length
  | [], o => Nat.le_refl _
  | p :: ps, o => by
    have h1 := fold_len ps (Pt.ins o p)
    have h2 := Pt.ins_len (o := o) (p := p)
    simp only [List.foldl_cons, List.length_cons] at *
    omega
theorem chain_len : ∀ (ps s : List Pt), (Pt.chain s ps).length ≤ s.length + ps.length
  | [], s => Nat.le_refl _
  | p :: ps, s => by
    have h1 := chain_len ps (p :: Pt.popS p s)
    have h2 := Pt.popS_len (p := p) (s := s)
    simp only [List.length_cons] at *
    show (Pt.chain (p :: Pt.popS p s) ps).length ≤ _
    omega
theorem law_hull_eq (ps : List Pt) (hn : ps.length ≤ 900) (h : ∀ q ∈ ps, q.Sz 6) : F_law_hull [.list (dP ps)] = some (hullD (Pt.hull ps)) := by
  obtain ⟨p', y', e⟩ := hull_loop (.list (dP ps)) .un ps [] .un .un h (fun q hq => by cases hq) (by simp; omega)
  have ol : (Pt.order ps).length ≤ ps.length := by
    show (ps.foldl Pt.ins []).length ≤ _
    have := fold_len ps []
    simpa using this
  have e : forG (tName 2) b_law_hull_1 (dP ps) [.val (.list (dP ps)), .val (.list []), .un, .un, .un, .un] = some (.nx [.val (.list (dP ps)), .val (.list (dP (Pt.order ps))), p', .un, y', .un]) := e
  have os : ∀ q ∈ Pt.order ps, q.Sz 6 := fun q hq => h q ((Pt.order_mem ps q).mp hq)
  have c1 := law_chain_eq (Pt.order ps) (by omega) os
  have c2 := law_chain_eq (Pt.order ps).reverse (by rw [List.length_reverse]; omega) (fun q hq => os q (List.mem_reverse.mp hq))
  have l1' := chain_len (Pt.order ps) []
  have l2' := chain_len (Pt.order ps).reverse []
  rw [List.length_reverse] at l2'
  have hh : Pt.hull ps = if (Pt.order ps).length < 3 then none else if ((Pt.chain [] (Pt.order ps)).reverse.dropLast ++ (Pt.chain [] (Pt.order ps).reverse).reverse.dropLast).length < 3 then none else some ((Pt.chain [] (Pt.order ps)).reverse.dropLast ++ (Pt.chain [] (Pt.order ps).reverse).reverse.dropLast) := rfl
  rw [hh]
  have vr := dP_rev (Pt.order ps)
  generalize Pt.order ps = o at *
  generalize (Pt.chain [] o) = A at *
  generalize (Pt.chain [] o.reverse) = B at *
  simp only [List.length_nil, Nat.zero_add] at l1' l2'
  have sl : ∀ xs : List Pt, vSlice (.list (dP xs)) none (some (-1)) = some (.list (dP xs.dropLast)) := fun xs => by
    show some (PyData.list (cutD (dP xs) none (some (-1)))) = _
    rw [cut_m1, dP_dropLast]
  have ad : vAdd (.list (dP A.reverse.dropLast)) (.list (dP B.reverse.dropLast)) = some (.list (dP (A.reverse.dropLast ++ B.reverse.dropLast))) := by
    show (if (dP A.reverse.dropLast).length + (dP B.reverse.dropLast).length ≤ lim then some (PyData.list (dP A.reverse.dropLast ++ dP B.reverse.dropLast)) else none) = _
    rw [if_pos (by rw [dP_length, dP_length, List.length_dropLast, List.length_dropLast, List.length_reverse, List.length_reverse]; unfold lim; omega), dP_app]
  have n1 : ∀ k : Nat, decide (((k : Nat) : Int) < 3) = decide (k < 3) := fun k => decide_eq_decide.mpr (by omega)
  unfold F_law_hull g_law_hull
  by_cases z : o.length < 3
  · rw [if_pos z]
    have z : decide (o.length < 3) = true := decide_eq_true z
    push_cast [e, dP_length, n1, z]
    rfl
  · rw [if_neg z]
    have z : decide (o.length < 3) = false := decide_eq_false z
    by_cases y : (A.reverse.dropLast ++ B.reverse.dropLast).length < 3
    · rw [if_pos y]
      have y : decide ((A.reverse.dropLast ++ B.reverse.dropLast).length < 3) = true := decide_eq_true y
      generalize A.reverse.dropLast ++ B.reverse.dropLast = C at *
      push_cast [e, dP_length, n1, z, c1, c2, vr, sl, ad, y]
      rfl
    · rw [if_neg y]
      have y : decide ((A.reverse.dropLast ++ B.reverse.dropLast).length < 3) = false := decide_eq_false y
      generalize A.reverse.dropLast ++ B.reverse.dropLast = C at *
      push_cast [e, dP_length, n1, z, c1, c2, vr, sl, ad, y]
      rfl
theorem fit_get : ∀ {ps ss : List Int} (_ : Fit ps ss) (i : Nat) (s : Int), ss[i]? = some s → ∃ p, ps[i]? = some p ∧ 0 ≤ p ∧ p < s
  | _, _, .cons h0 h1 f, 0, s, e => by cases e; exact ⟨_, rfl, h0, h1⟩
  | _, _, .cons h0 h1 f, i + 1, s, e => fit_get f i s e
theorem small_bd {x : Int} (k : Nat) (h0 : 0 ≤ x) (h1 : x < 2 ^ k) : Bd k x := by
  unfold Bd
  have e : ((2 ^ k : Nat) : Int) = (2 : Int) ^ k := by rw [Int.natCast_pow]; rfl
  exact Int.ofNat_lt.mp (by rw [e]; omega)
theorem at_bz {k : Nat} {x y w : Int} (h : w ≠ 0) (a : Bd k x) (b : Bd k y) (c : Bd k w) : (Pt.at_ x y w h).Bz k := ⟨p1_bd h a, p2_bd h b, p3_bd h c⟩
theorem nodup_len : ∀ {h ps : List Pt}, h.Nodup → (∀ q ∈ h, q ∈ ps) → h.length ≤ ps.length
  | [], _, _, _ => Nat.zero_le _
  | a :: h, ps, nd, s => by
    have n := List.nodup_cons.mp nd
    have ma := s a List.mem_cons_self
    have ih := nodup_len (h := h) (ps := ps.erase a) n.2 (fun q hq => by
      have : q ≠ a := fun z => n.1 (z ▸ hq)
      exact (List.mem_erase_of_ne this).mpr (s q (List.mem_cons_of_mem _ hq)))
    rw [List.length_erase_of_mem ma] at ih
    have : 0 < ps.length := List.length_pos_of_mem ma
    simp only [List.length_cons]
    omega
theorem dP_flat (ps : List Pt) : flat (.tuple (dP ps)) = true := by
  have : flat.flatAll (dP ps) = true := by
    induction ps with
    | nil => rfl
    | cons p ps ih => show (flat p.d && flat.flatAll (dP ps)) = true; rw [ih]; rfl
  exact this
theorem hullD_flat (o : Option (List Pt)) : flat (hullD o) = true := by
  cases o with
  | none => rfl
  | some h => exact dP_flat h
theorem law_polygon_eq' (c : Int) : ∃ h : List Pt, F_law_polygon [.int c] = some (.tuple (dP h)) ∧ Pt.CP h ∧ (∀ q ∈ h, q.Bz 3) ∧ h.length ≤ 5 ∧ ∀ q ∈ h, Dr q := by
  obtain ⟨ps, hf, h⟩ := law_parts_eq c [4, 3, 7, 7, 7, 7, 7, 7, 7, 7, 7, 7] (by
    intro s hs
    simp only [List.mem_cons, List.not_mem_nil, or_false] at hs
    rcases hs with rfl | rfl | rfl | rfl | rfl | rfl | rfl | rfl | rfl | rfl | rfl | rfl <;> exact ⟨by decide, bd_lit (by decide)⟩) (by decide)
  have h : F_law_parts [.int c, .list [.int 4, .int 3, .int 7, .int 7, .int 7, .int 7, .int 7, .int 7, .int 7, .int 7, .int 7, .int 7]] = some (.list (dI ps)) := h
  obtain ⟨q0, g0, a0, b0⟩ := fit_get hf 0 4 rfl
  obtain ⟨q1, g1', a1, b1⟩ := fit_get hf 1 3 rfl
  obtain ⟨q2, g2', a2, b2⟩ := fit_get hf 2 7 rfl
  obtain ⟨q3, g3, a3, b3⟩ := fit_get hf 3 7 rfl
  have i0 : (dI ps)[0]? = some (.int q0) := by rw [dI_get, g0]; rfl
  have i1 : (dI ps)[1]? = some (.int q1) := by rw [dI_get, g1']; rfl
  have i2 : (dI ps)[2]? = some (.int q2) := by rw [dI_get, g2']; rfl
  have i3 : (dI ps)[3]? = some (.int q3) := by rw [dI_get, g3]; rfl
  have far : ∃ w : Int, vIx (.list [.int 1, .int 1, .int 2, .int 3]) (.int q0) = some (.int w) ∧ 1 ≤ w ∧ w ≤ 3 := by
    have : q0 = 0 ∨ q0 = 1 ∨ q0 = 2 ∨ q0 = 3 := by omega
    rcases this with rfl | rfl | rfl | rfl <;> exact ⟨_, rfl, by decide, by decide⟩
  obtain ⟨w, hw, w0, w1⟩ := far
  have zw : w ≠ 0 := by omega
  have bw : Bd 3 w := small_bd 3 (by omega) (by omega)
  -- the points
  let xy : Nat → Int := fun i => ps.getD i 0
  have hxy : ∀ i, 2 ≤ i → i < 12 → (dI ps)[i]? = some (.int (xy i)) ∧ 0 ≤ xy i ∧ xy i < 7 := fun i h1 h2 => by
    have hs : ([4, 3, 7, 7, 7, 7, 7, 7, 7, 7, 7, 7] : List Int)[i]? = some 7 := by
      have : i = 2 ∨ i = 3 ∨ i = 4 ∨ i = 5 ∨ i = 6 ∨ i = 7 ∨ i = 8 ∨ i = 9 ∨ i = 10 ∨ i = 11 := by omega
      rcases this with rfl | rfl | rfl | rfl | rfl | rfl | rfl | rfl | rfl | rfl <;> rfl
    obtain ⟨p, e, c1, c2⟩ := fit_get hf i 7 hs
    have : xy i = p := by show ps.getD i 0 = p; rw [List.getD_eq_getElem?_getD, e]; rfl
    rw [this]
    exact ⟨by rw [dI_get, e]; rfl, c1, c2⟩
  let pt_ : Nat → Pt := fun k => Pt.at_ (xy (2 + 2 * k)) (xy (3 + 2 * k)) w zw
  have lp : ∀ k, k < 5 → F_law_point [.int (xy (2 + 2 * k)), .int (xy (3 + 2 * k)), .int w] = some (pt_ k).d ∧ (pt_ k).Bz 3 ∧ Dr (pt_ k) := fun k hk => by
    obtain ⟨_, c1, c2⟩ := hxy (2 + 2 * k) (by omega) (by omega)
    obtain ⟨_, c3, c4⟩ := hxy (3 + 2 * k) (by omega) (by omega)
    have b1 : Bd 3 (xy (2 + 2 * k)) := small_bd 3 c1 (by omega)
    have b2 : Bd 3 (xy (3 + 2 * k)) := small_bd 3 c3 (by omega)
    exact ⟨law_point_eq b1 b2 bw (by omega) (by decide) (by decide), at_bz zw b1 b2 bw, at_dr w0 c1 (by omega) c3 (by omega)⟩
  obtain ⟨n, hn, n3, n5⟩ : ∃ n : Nat, (3 + q1 : Int) = (n : Int) ∧ 3 ≤ n ∧ n ≤ 5 := ⟨(3 + q1).toNat, by omega, by omega, by omega⟩
  have ml : ∀ k : Int, vMul (.int 2) (.int k) = some (.int (2 * k)) := fun k => vMul_ok (mulOk_left (bd_lit (by decide)))
  obtain ⟨e2, hl, x, he⟩ := forG_idx (t := tName 4) (body := b_law_polygon_1) (fun i env => ∃ x, env = [.val (.int c), .val (.list (dI ps)), .val (.int w), .own (dP ((List.range i).map pt_)), x, .un]) n [.val (.int c), .val (.list (dI ps)), .val (.int w), .own [], .un, .un] ⟨.un, rfl⟩ (by
    rintro i env hi ⟨x, rfl⟩
    refine ⟨_, [.val (.int c), .val (.list (dI ps)), .val (.int w), .own (dP ((List.range (i + 1)).map pt_)), .val (.int (i : Int)), .un], rfl, .inl ?_, _, rfl⟩
    obtain ⟨x1, _⟩ := hxy (2 + 2 * i) (by omega) (by omega)
    obtain ⟨x2, _⟩ := hxy (3 + 2 * i) (by omega) (by omega)
    have y1 : atD (dI ps) (2 + 2 * (i : Int)) = some (.int (xy (2 + 2 * i))) := by rw [show (2 + 2 * (i : Int)) = ((2 + 2 * i : Nat) : Int) by omega, atD_nat, x1]
    have y2 : atD (dI ps) (3 + 2 * (i : Int)) = some (.int (xy (3 + 2 * i))) := by rw [show (3 + 2 * (i : Int)) = ((3 + 2 * i : Nat) : Int) by omega, atD_nat, x2]
    have p1 := (lp i (by omega)).1
    have ll : (dP ((List.range i).map pt_)).length < lim := by rw [dP_length]; simp; unfold lim; omega
    have ap : dP ((List.range i).map pt_) ++ [(pt_ i).d] = dP ((List.range (i + 1)).map pt_) := by rw [List.range_succ, List.map_append, ← dP_app]; rfl
    unfold b_law_polygon_1
    push_cast [ml, y1, y2, p1, if_pos ll, ap])
  subst he
  have rg : vRange1 (.int (3 + q1)) = some (rngD 0 n) := by rw [hn, vRange1_int (by omega)]; rfl
  generalize hpts : (List.range n).map pt_ = pts at *
  have pl : pts.length ≤ 5 := by rw [← hpts]; simp; omega
  have pb0 : ∀ q ∈ pts, q.Bz 3 ∧ Dr q := fun q hq => by
    rw [← hpts] at hq
    obtain ⟨k, hk, rfl⟩ := List.mem_map.mp hq
    exact (lp k (by have := List.mem_range.mp hk; omega)).2
  have pb : ∀ q ∈ pts, q.Bz 3 := fun q hq => (pb0 q hq).1
  have hh := law_hull_eq pts (by omega) (fun q hq => (pb q hq).sz (by decide))
  have fl := hullD_flat (Pt.hull pts)
  unfold F_law_polygon g_law_polygon
  cases e : Pt.hull pts with
  | none =>
    rw [e] at hh fl
    have hh : F_law_hull [.list (dP pts)] = some .none := hh
    have fn : flat .none = true := rfl
    have res : PyData.tuple [.tuple [.int 0, .int 0, .int 1], .tuple [.int (1 + q2), .int 0, .int 1], .tuple [.int q3, .int 2, .int 1]] = .tuple (dP [Pt.wh 0 0, Pt.wh (1 + q2) 0, Pt.wh q3 2]) := rfl
    refine ⟨[Pt.wh 0 0, Pt.wh (1 + q2) 0, Pt.wh q3 2], ?_, (Pt.tri_poly a2 a3).cp, fun q hq => ?_, show 3 ≤ 5 by decide, fun q hq => ?_⟩
    · push_cast [h, i0, i1, i2, i3, hw, rg, hl, hh, gFlat, fn, res]
    · simp only [List.mem_cons, List.not_mem_nil, or_false] at hq
      rcases hq with rfl | rfl | rfl
      · exact ⟨bd_lit (by decide), bd_lit (by decide), bd_lit (by decide)⟩
      · exact ⟨small_bd 3 (show 0 ≤ 1 + q2 by omega) (by show 1 + q2 < _; omega), show Bd 3 0 from bd_lit (by decide), show Bd 3 1 from bd_lit (by decide)⟩
      · exact ⟨small_bd 3 (show 0 ≤ q3 by omega) (by show q3 < _; omega), show Bd 3 2 from bd_lit (by decide), show Bd 3 1 from bd_lit (by decide)⟩
    · simp only [List.mem_cons, List.not_mem_nil, or_false] at hq
      rcases hq with rfl | rfl | rfl
      · exact wh_dr (by decide) (by decide) (by decide) (by decide)
      · exact wh_dr (by omega) (by omega) (by decide) (by decide)
      · exact wh_dr (by omega) (by omega) (by decide) (by decide)
  | some k =>
    rw [e] at hh fl
    have hh : F_law_hull [.list (dP pts)] = some (.tuple (dP k)) := hh
    have fl : flat (.tuple (dP k)) = true := fl
    have H := Pt.hull_ok e
    refine ⟨k, ?_, H.poly.cp, fun q hq => pb q (H.mem q hq), Nat.le_trans (nodup_len H.nd H.mem) pl, fun q hq => (pb0 q (H.mem q hq)).2⟩
    push_cast [h, i0, i1, i2, i3, hw, rg, hl, hh, gFlat, fl]
theorem law_polygon_eq (c : Int) : ∃ h : List Pt, F_law_polygon [.int c] = some (.tuple (dP h)) ∧ Pt.CP h ∧ (∀ q ∈ h, q.Bz 3) ∧ h.length ≤ 5 := by
  obtain ⟨h, h1, h2, h3, h4, _⟩ := law_polygon_eq' c
  exact ⟨h, h1, h2, h3, h4⟩
theorem law_parts_f (c : Int) (ss : List Int) (hs : ∀ s ∈ ss, 0 < s ∧ Bd 250 s) (hn : ss.length ≤ 1000) : ∃ (ps : List Int) (f : Nat → Int), F_law_parts [.int c, .list (dI ss)] = some (.list (dI ps)) ∧ ps.length = ss.length ∧ ∀ i s, ss[i]? = some s → (dI ps)[i]? = some (.int (f i)) ∧ 0 ≤ f i ∧ f i < s := by
  obtain ⟨ps, hf, h⟩ := law_parts_eq c ss hs hn
  refine ⟨ps, fun i => ps.getD i 0, h, hf.length, fun i s e => ?_⟩
  obtain ⟨p, e1, e2, e3⟩ := fit_get hf i s e
  have : ps.getD i 0 = p := by rw [List.getD_eq_getElem?_getD, e1]; rfl
  simp only [this]
  exact ⟨by rw [dI_get, e1]; rfl, e2, e3⟩
theorem common_divisor_eq {k : Nat} {a b : Int} (ha : Bd k a) (hb : Bd k b) (hk : k ≤ 18000) : F_common_divisor [.int a, .int b] = some (.int ((Int.gcd a b : Nat) : Int)) := by
  have key := euclid2 (fun n x y g => whileG wc_common_divisor_1 wb_common_divisor_1 n [.val (.int (x : Int)), .val (.int (y : Int))] = some (.nx [.val (.int (g : Int)), .val (.int 0)])) (fun n a => by
      simp -implicitDefEqProofs only [whileG, wc_common_divisor_1, wb_common_divisor_1]
      walk_at "dn"
      rfl) (fun n a b g hb ih => by
      have h0 : ((b : Int) != 0) = true := by
        simp only [bne_iff_ne, ne_eq]; omega
      have h1 : ¬ ((b : Int) = 0) := by omega
      simp -implicitDefEqProofs only [whileG, wc_common_divisor_1, wb_common_divisor_1]
      walk_at "dn"
      simp only [h0, if_true, vMod, if_neg h1, Option.bind_some, fmod_nat]
      exact ih) k 1000000 a.natAbs b.natAbs ha hb (by omega)
  unfold F_common_divisor g_common_divisor
  walk_at "dn"
  rw [abs_nat a, abs_nat b]
  have key : whileG wc_common_divisor_1 wb_common_divisor_1 1000000 [.val (.int (a.natAbs : Int)), .val (.int (b.natAbs : Int))] = _ := key
  rw [key]
  rfl
theorem point_eq {k : Nat} {x y w : Int} (hx : Bd k x) (hy : Bd k y) (hw : Bd k w) (h0 : w ≠ 0) (k0 : 0 < k) (hk : k ≤ 9000) : F_point [.int x, .int y, .int w] = some (P x y w) := by
  have e1 : F_common_divisor [.int x, .int y] = some (.int ((Int.gcd x y : Nat) : Int)) := common_divisor_eq hx hy (by omega)
  have bg : Bd k ((Int.gcd x y : Nat) : Int) := by
    by_cases z : x = 0
    · subst z
      rw [Int.gcd_zero_left]
      unfold Bd at *
      omega
    · exact hx.gcd_left z
  have e2 : F_common_divisor [.int ((Int.gcd x y : Nat) : Int), .int w] = some (.int (gg x y w)) := common_divisor_eq bg hw (by omega)
  have gp : 0 < gg x y w := gg_pos h0
  have gb : Bd k (gg x y w) := hw.gcd_right h0
  obtain ⟨d1, d2, d3⟩ := gg_dvd x y w
  unfold F_point g_point
  by_cases h : w < 0
  · have fd : ∀ z : Int, gg x y w ∣ z → vFdiv (.int z) (.int (-gg x y w)) = some (.int (-z / gg x y w)) := fun z hz => by
      show (if divOk (-gg x y w) = true then some (PyData.int (z.fdiv (-gg x y w))) else none) = _
      rw [if_pos (divOk_of gb.neg (by omega) k0 hk), fdiv_neg_exact gp hz]
    have f1 := fd x d1
    have f2 := fd y d2
    have f3 := fd w d3
    push_cast [e1, e2, h, f1, f2, f3]
    unfold P pt p1 p2 p3 ptX
    simp only [h, if_true]
  · have fd : ∀ z : Int, vFdiv (.int z) (.int (gg x y w)) = some (.int (z / gg x y w)) := fun z => vFdiv_pos gp gb k0 hk
    push_cast [e1, e2, h, fd]
    unfold P pt p1 p2 p3 ptX
    simp only [h, if_false]
theorem side_eq {a b c d e f g h i : Int} (ha : S 4 a) (hb : S 4 b) (hc : S 4 c) (hd : S 4 d) (he : S 4 e) (hf : S 4 f) (hg : S 4 g) (hh : S 4 h) (hi : S 4 i) : F_side [pt a b c, pt d e f, pt g h i] = some (.int (sg (a * (e * i - h * f) + d * (h * c - b * i) + g * (b * f - e * c)))) := by
  unfold F_side g_side pt
  walk_at "dsx"
  rfl
theorem side_pt {a b c : Pt} (ha : a.Sz 4) (hb : b.Sz 4) (hc : c.Sz 4) : F_side [a.d, b.d, c.d] = some (.int (sg (Pt.t a b c))) := side_eq ha.x ha.y ha.w hb.x hb.y hb.w hc.x hc.y hc.w
theorem comes_before_pt {a b : Pt} (ha : a.Sz 6) (hb : b.Sz 6) : F_comes_before [a.d, b.d] = some (.bool (Pt.ltb a b)) := by
  have h1 := ha.x
  have h2 := ha.y
  have h3 := ha.w
  have h4 := hb.x
  have h5 := hb.y
  have h6 := hb.w
  unfold Pt.ltb F_comes_before g_comes_before
  by_cases h : a.x * b.w = b.x * a.w
  · simp_arith [vIx_px, vIx_py, vIx_pw, h, ne_eq, not_true_eq_false]
  · simp_arith [vIx_px, vIx_py, vIx_pw, h, ne_eq, not_false_eq_true]
/-! ### is_polygon -/
def key3 (p : Pt) : List Int := [p.x, p.y, p.w]
theorem key3_inj {p q : Pt} (h : key3 p = key3 q) : p = q := by
  unfold key3 at h
  simp only [List.cons.injEq, and_true] at h
  exact Pt.ext' h.1 h.2.1 h.2.2
theorem keysD_dP : ∀ K : List Pt, keysD (dP K) = some (K.map key3)
  | [] => rfl
  | p :: K => by
    show (intsOf [.int p.x, .int p.y, .int p.w]).bind (fun k => (keysD (dP K)).bind fun ks => some (k :: ks)) = _
    rw [keysD_dP K]; rfl
theorem dist_cons (k : List Int) (ks : List (List Int)) : dist (k :: ks) = (if k ∈ ks then 0 else 1) + dist ks := rfl
theorem dist_le : ∀ ks : List (List Int), dist ks ≤ ks.length
  | [] => Nat.le_refl _
  | k :: ks => by
    have := dist_le ks
    rw [dist_cons, List.length_cons]
    split <;> omega
theorem dist_nodup : ∀ K : List Pt, dist (K.map key3) = K.length ↔ K.Nodup
  | [] => ⟨fun _ => List.nodup_nil, fun _ => rfl⟩
  | p :: K => by
    have ih := dist_nodup K
    have le := dist_le (K.map key3)
    rw [List.length_map] at le
    have m : key3 p ∈ K.map key3 ↔ p ∈ K := by
      rw [List.mem_map]
      constructor
      · rintro ⟨q, hq, e⟩; rw [← key3_inj e]; exact hq
      · intro h; exact ⟨p, h, rfl⟩
    rw [List.map_cons, dist_cons, List.length_cons, List.nodup_cons]
    by_cases q : p ∈ K
    · rw [if_pos (m.mpr q)]
      constructor
      · intro h; omega
      · intro h; exact absurd q h.1
    · rw [if_neg (fun z => q (m.mp z))]
      constructor
      · intro h; exact ⟨q, ih.mp (by omega)⟩
      · intro h; have := ih.mpr h.2; omega
theorem vLenSet_dP {K : List Pt} (h : K.length < 64) : vLenSet (.tuple (dP K)) = some (.int (dist (K.map key3))) := by
  show (keysD (dP K)).bind (fun ks => if ks.length < 64 then some (PyData.int (dist ks)) else none) = _
  rw [keysD_dP]
  show (if (K.map key3).length < 64 then _ else none) = _
  rw [if_pos (by rw [List.length_map]; exact h)]
/-- what is_polygon asks -/
def TnP (K : List Pt) (i : Nat) : Prop := ∀ w u v : Pt, atD (dP K) ((i : Int) - 2) = some w.d → atD (dP K) ((i : Int) - 1) = some u.d → K[i]? = some v → 0 < Pt.t w u v
def FtP (K : List Pt) (i : Nat) : Prop := ∀ v a : Pt, 0 < i → K[i]? = some v → K[0]? = some a → ¬ Pt.lt v a
def FnP (K : List Pt) (i : Nat) : Prop := ∀ o u v : Pt, K[0]? = some o → K[1 + i]? = some u → K[1 + i + 1]? = some v → 0 < Pt.t o u v
structure IsP (K : List Pt) : Prop where
  n3 : 3 ≤ K.length
  nd : K.Nodup
  tn : ∀ i, i < K.length → TnP K i
  ft : ∀ i, i < K.length → FtP K i
  fn : ∀ i, i < K.length - 2 → FnP K i
theorem goes_round_eq {K : List Pt} (n3 : 3 ≤ K.length) (hl : K.length ≤ 100000) (hs : ∀ q ∈ K, q.Sz 4) : ∃ b : Bool, F_goes_round_once [.tuple (dP K)] = some (.bool b) ∧ (b = true ↔ ∀ i, i < K.length - 2 → FnP K i) := by
  obtain ⟨o, ho⟩ : ∃ o, K[0]? = some o := ⟨_, List.getElem?_eq_getElem (by omega)⟩
  have so := hs o (List.mem_of_getElem? ho)
  have x0 : atD (dP K) 0 = some o.d := atD_pt (i := 0) ho
  have z0 : (dP K)[0]? = some o.d := by rw [dP_get, ho]; rfl
  have rg : vRange2 (.int 1) (.int (((K.length : Nat) : Int) - 1)) = some (rngD 1 (K.length - 2)) := by
    rw [show ((K.length : Nat) : Int) - 1 = ((K.length - 1 : Nat) : Int) by omega, rg_len2 (by omega)]; rfl
  rcases forG_idxR1 (t := tName 2) (body := b_goes_round_once_1) 1 (fun i env => (∃ x, env = [.val (.tuple (dP K)), .val o.d, x]) ∧ ∀ j, j < i → FnP K j) (fun i d => d = .bool false ∧ ¬ FnP K i) (K.length - 2) [.val (.tuple (dP K)), .val o.d, .un] ⟨⟨.un, rfl⟩, fun j hj => absurd hj (Nat.not_lt_zero _)⟩ (by
    rintro i env hi ⟨⟨x, rfl⟩, hf⟩
    obtain ⟨u, hu⟩ : ∃ u, K[1 + i]? = some u := ⟨_, List.getElem?_eq_getElem (by omega)⟩
    obtain ⟨v, hv⟩ : ∃ v, K[1 + i + 1]? = some v := ⟨_, List.getElem?_eq_getElem (by omega)⟩
    have x1 : atD (dP K) (1 + (i : Int)) = some u.d := by rw [show 1 + (i : Int) = ((1 + i : Nat) : Int) by omega]; exact atD_pt hu
    have x2 : atD (dP K) (1 + (i : Int) + 1) = some v.d := by rw [show 1 + (i : Int) + 1 = ((1 + i + 1 : Nat) : Int) by omega]; exact atD_pt hv
    have sd := side_pt so (hs u (List.mem_of_getElem? hu)) (hs v (List.mem_of_getElem? hv))
    refine ⟨_, rfl, ?_⟩
    by_cases q : 0 < Pt.t o u v
    · refine .inl ⟨[.val (.tuple (dP K)), .val o.d, .val (.int (1 + (i : Int)))], .inl ?_, ⟨_, rfl⟩, fun j hj => ?_⟩
      · have z : decide (sg (Pt.t o u v) ≤ 0) = false := decide_eq_false (by have := (sg_vals _).1 q; omega)
        unfold b_goes_round_once_1
        push_cast [x1, x2, sd, z]
      · by_cases e : j = i
        · subst e
          intro o' u' v' h1 h2 h3
          rw [ho] at h1; rw [hu] at h2; rw [hv] at h3
          cases h1; cases h2; cases h3; exact q
        · exact hf j (by omega)
    · refine .inr ⟨.bool false, ?_, rfl, fun h => q (h o u v ho hu hv)⟩
      have z : decide (sg (Pt.t o u v) ≤ 0) = true := decide_eq_true (by
        have := sg_pos (x := Pt.t o u v)
        omega)
      unfold b_goes_round_once_1
      push_cast [x1, x2, sd, z]) with ⟨_, e, ⟨x, rfl⟩, hf⟩ | ⟨i, d, hi, e, rfl, hf⟩
  · refine ⟨true, ?_, ⟨fun _ => hf, fun _ => rfl⟩⟩
    unfold F_goes_round_once g_goes_round_once
    push_cast [x0, z0, dP_length, rg, e]
  · refine ⟨false, ?_, ⟨fun h => (by cases h), fun h => absurd (h i hi) hf⟩⟩
    unfold F_goes_round_once g_goes_round_once
    push_cast [x0, z0, dP_length, rg, e]
theorem is_polygon_eq {K : List Pt} (hl : K.length < 64) (hs : ∀ q ∈ K, q.Sz 4) : ∃ b : Bool, F_is_polygon [.tuple (dP K)] = some (.bool b) ∧ (b = true ↔ IsP K) := by
  have ls := vLenSet_dP hl
  by_cases n3 : K.length < 3
  · refine ⟨false, ?_, ⟨fun h => (by cases h), fun h => absurd h.n3 (by omega)⟩⟩
    have z : decide (((K.length : Nat) : Int) < 3) = true := decide_eq_true (by omega)
    unfold F_is_polygon g_is_polygon
    push_cast [dP_length, z]
  have z : decide (((K.length : Nat) : Int) < 3) = false := decide_eq_false (by omega)
  by_cases nn : ¬ K.Nodup
  · refine ⟨false, ?_, ⟨fun h => (by cases h), fun h => absurd h.nd nn⟩⟩
    have y : decide (((dist (K.map key3) : Nat) : Int) = ((K.length : Nat) : Int)) = false := decide_eq_false (fun e => nn ((dist_nodup K).mp (by omega)))
    unfold F_is_polygon g_is_polygon
    push_cast [dP_length, z, ls, y]
  have nd : K.Nodup := Classical.not_not.mp nn
  have y : decide (((dist (K.map key3) : Nat) : Int) = ((K.length : Nat) : Int)) = true := decide_eq_true (by have := (dist_nodup K).mpr nd; omega)
  obtain ⟨a, ha⟩ : ∃ a, K[0]? = some a := ⟨_, List.getElem?_eq_getElem (by omega)⟩
  have z0 : (dP K)[0]? = some a.d := by rw [dP_get, ha]; rfl
  have x0 : atD (dP K) 0 = some a.d := atD_pt (i := 0) ha
  have sa := hs a (List.mem_of_getElem? ha)
  rcases forG_idxR (t := tName 1) (body := b_is_polygon_1) (fun i env => (∃ x, env = [.val (.tuple (dP K)), x]) ∧ ∀ j, j < i → TnP K j ∧ FtP K j) (fun i d => d = .bool false ∧ ¬ (TnP K i ∧ FtP K i)) K.length [.val (.tuple (dP K)), .un] ⟨⟨.un, rfl⟩, fun j hj => absurd hj (Nat.not_lt_zero _)⟩ (by
    rintro i env hi ⟨⟨x, rfl⟩, hf⟩
    obtain ⟨xs, ys, u, v, r, e1, e2, e3, x2, x1, x3, _⟩ := Pt.tri_get (by omega) hi
    have mem : ∀ q, q ∈ u :: v :: r → q ∈ K := fun q hq => by
      rw [← e2] at hq
      rw [e1]; simp only [List.mem_append] at *; exact hq.symm
    have hv : K[i]? = some v := by
      have := atD_nat (dP K) i
      rw [x3, dP_get] at this
      cases h : K[i]? with
      | none => rw [h] at this; cases this
      | some v' => rw [h] at this; rw [d_inj (Option.some.inj this)]
    have sv := hs v (mem v (by simp))
    have sd := side_pt (hs (Pt.topOf v r) (mem _ (List.mem_cons_of_mem _ (Pt.topOf_mem r v)))) (hs u (mem u (by simp))) sv
    have cb := comes_before_pt (sv.mono (show 4 ≤ 6 by decide)) (sa.mono (show 4 ≤ 6 by decide))
    refine ⟨_, rfl, ?_⟩
    by_cases q : 0 < Pt.t (Pt.topOf v r) u v
    · have z : decide (sg (Pt.t (Pt.topOf v r) u v) ≤ 0) = false := decide_eq_false (by have := (sg_vals _).1 q; omega)
      have tn : TnP K i := fun w' u' v' h1 h2 h3 => by
        rw [x2] at h1; rw [x1] at h2; rw [hv] at h3
        rw [← d_inj (Option.some.inj h1), ← d_inj (Option.some.inj h2), ← Option.some.inj h3]; exact q
      by_cases i0 : i = 0
      · subst i0
        refine .inl ⟨[.val (.tuple (dP K)), .val (.int ((0 : Nat) : Int))], .inl ?_, ⟨_, rfl⟩, fun j hj => ?_⟩
        · have p0 : decide ((0 : Int) < ((0 : Nat) : Int)) = false := rfl
          unfold b_is_polygon_1
          push_cast [x1, x2, x3, sd, z, p0]
        · have : j = 0 := by omega
          subst this
          exact ⟨tn, fun v a h => absurd h (Nat.lt_irrefl _)⟩
      · have p0 : decide ((0 : Int) < ((i : Nat) : Int)) = true := decide_eq_true (by omega)
        by_cases l : Pt.ltb v a = true
        · refine .inr ⟨.bool false, ?_, rfl, fun h => h.2 v a (by omega) hv ha (Pt.ltb_iff.mp l)⟩
          unfold b_is_polygon_1
          push_cast [x1, x2, x3, sd, z, p0, x0, z0, cb, l]
        · have l' : Pt.ltb v a = false := Bool.eq_false_iff.mpr l
          refine .inl ⟨[.val (.tuple (dP K)), .val (.int ((i : Nat) : Int))], .inl ?_, ⟨_, rfl⟩, fun j hj => ?_⟩
          · unfold b_is_polygon_1
            push_cast [x1, x2, x3, sd, z, p0, x0, z0, cb, l']
          · by_cases e : j = i
            · subst e
              refine ⟨tn, fun v' a' _ h1 h2 h3 => l (Pt.ltb_iff.mpr ?_)⟩
              rw [hv] at h1; rw [ha] at h2
              cases h1; cases h2; exact h3
            · exact hf j (by omega)
    · refine .inr ⟨.bool false, ?_, rfl, fun h => q (h.1 _ u v x2 x1 hv)⟩
      have z : decide (sg (Pt.t (Pt.topOf v r) u v) ≤ 0) = true := decide_eq_true (by
        have := sg_pos (x := Pt.t (Pt.topOf v r) u v)
        omega)
      unfold b_is_polygon_1
      push_cast [x1, x2, x3, sd, z]) with ⟨_, e, ⟨x, rfl⟩, hf⟩ | ⟨i, d, hi, e, rfl, hf⟩
  · obtain ⟨b, hb, ib⟩ := goes_round_eq (K := K) (by omega) (by omega) hs
    refine ⟨b, ?_, ib.trans ⟨fun h => ⟨by omega, nd, fun i hi => (hf i hi).1, fun i hi => (hf i hi).2, h⟩, fun h => h.fn⟩⟩
    unfold F_is_polygon g_is_polygon
    push_cast [dP_length, z, ls, y, rg_len (n := K.length) (by omega), e, hb]
  · refine ⟨false, ?_, ⟨fun h => (by cases h), fun h => absurd ⟨h.tn i hi, h.ft i hi⟩ hf⟩⟩
    unfold F_is_polygon g_is_polygon
    push_cast [dP_length, z, ls, y, rg_len (n := K.length) (by omega), e]
theorem is_polygon_cp {K : List Pt} (hl : K.length < 64) (hs : ∀ q ∈ K, q.Sz 4) (C : Pt.CP K) : F_is_polygon [.tuple (dP K)] = some (.bool true) := by
  obtain ⟨b, h, ib⟩ := is_polygon_eq hl hs
  rw [h, ib.mpr ⟨C.n3, C.soc.nodup C.n3, fun i hi w u v h1 h2 h3 => ?_, fun i hi v a h0 h1 h2 => ?_, fun i hi o u v h1 h2 h3 => ?_⟩]
  · obtain ⟨xs, ys, u', v', r, e1, e2, e3, x2, x1, x3, _⟩ := Pt.tri_get C.n3 hi
    have : atD (dP K) (i : Int) = some v.d := atD_pt h3
    rw [x3] at this
    rw [x2] at h1; rw [x1] at h2
    rw [← d_inj (Option.some.inj h1), ← d_inj (Option.some.inj h2), ← d_inj (Option.some.inj this)]
    have S : Pt.SOC (u' :: v' :: r) := by rw [← e2]; exact Pt.SOC.rot (by rw [← e1]; exact C.soc)
    have := S u' v' (Pt.topOf v' r) (List.Sublist.cons_cons _ (List.Sublist.cons_cons _ (List.singleton_sublist.mpr (Pt.topOf_mem' r v' e3))))
    rw [Pt.t_pos, Pt.cr_rot2] 
    exact this
  · intro l
    have ne : v ≠ a := fun z => Pt.lt_irrefl a (by rw [z] at l; exact l)
    exact Pt.lt_asymm (C.fst a (by rw [List.head?_eq_getElem?]; exact h2) v (List.mem_of_getElem? h1) ne) l
  · rw [Pt.t_pos]
    refine C.soc o u v ?_
    match K, C.n3, h1 with
    | o' :: K', _, h1 =>
      cases h1
      have h2 : K'[i]? = some u := by rw [show 1 + i = i + 1 by omega] at h2; exact h2
      have h3 : K'[i + 1]? = some v := by rw [show 1 + i + 1 = (i + 1) + 1 by omega] at h3; exact h3
      refine List.Sublist.cons_cons _ ?_
      have li := (List.getElem?_eq_some_iff.mp h3).1
      have e : K' = K'.take i ++ (u :: v :: K'.drop (i + 2)) := by
        have := List.take_append_drop i K'
        rw [List.drop_eq_getElem_cons (by omega), List.drop_eq_getElem_cons (by omega)] at this
        rw [List.getElem?_eq_getElem (by omega)] at h2 h3
        rw [Option.some.inj h2, Option.some.inj h3] at this
        exact this.symm
      rw [e]
      exact (List.Sublist.cons_cons _ (List.Sublist.cons_cons _ (List.nil_sublist _))).trans (List.sublist_append_right _ _)
theorem integer_of_eq {k : Nat} (hk : 0 < k) (hk' : k ≤ 600) {i : Int} (h : Bd k i) : F_integer_of [.str (nS i)] = some (.int i) := by
  have ln := TL.numL_len hk (pow10 h)
  have s0 : vStarts (.str (nS i)) (.str (Str.ofString "-")) = some (.bool (decide (i < 0))) := by
    unfold nS
    rw [vStarts_dash, nL_dash]
  have s1 : (if decide (i < 0) = true then vSlice (.str (nS i)) (some 1) none else some (.str (nS i))) = some (.str (mkS (TL.numL i.natAbs))) := by
    unfold nS nL
    by_cases hi : i < 0
    · rw [if_pos (decide_eq_true hi), if_pos hi]
      exact vSlice_1 (by unfold lim; omega)
    · rw [if_neg (by simp [hi]), if_neg hi]
  have s2 : vTruth (.str (mkS (TL.numL i.natAbs))) = some true := vTruth_s (TL.numL_ne _) (by unfold lim; omega)
  have s3 := vIntS_eq hk hk' h
  have s4 := vStr1_eq hk (by omega) h
  have dg := TL.numL_digits i.natAbs
  generalize nS i = w at *
  generalize TL.numL i.natAbs = l at *
  have cm : q_integer_of_1 [.val (.str w), .val (.str (mkS l)), .un, .un] = some (.list (l.map fun _ => PyData.bool false)) := by
    refine gComp_all (vs := [3]) (gi := gStr (gVar 1)) (t := tName 3) (e := qe_integer_of_1) (env := [.val (.str w), .val (.str (mkS l)), .un, .un]) sgD (fun _ => PyData.bool false) l rfl rfl (by unfold lim; omega) (fun c hc => ⟨[.val (.str w), .val (.str (mkS l)), .un, .val (sgD c)], rfl, ?_⟩)
    have := vNotInS_digit (dg c hc)
    unfold qe_integer_of_1
    push_cast [this]
  have an : vAny1 (.list (l.map fun _ => PyData.bool false)) = some (.bool false) := by
    rw [vAny1_map (fun _ => false)]
    congr 2
    induction l with
    | nil => rfl
    | cons x xs ih => simp
  unfold F_integer_of g_integer_of
  generalize mkS l = z at *
  generalize (l.map fun _ => PyData.bool false) = L at *
  by_cases hi : i < 0
  · rw [if_pos (decide_eq_true hi)] at s1
    rw [decide_eq_true hi] at s0
    push_cast [s0, s1, s2, s3, s4, cm, an]
  · rw [if_neg (by simp [hi])] at s1
    cases s1
    rw [decide_eq_false hi] at s0
    push_cast [s0, s2, s3, s4, cm, an]
theorem integers_of_eq {k : Nat} (hk : 0 < k) (hk' : k ≤ 600) {ns : List Int} (h : ∀ i ∈ ns, Bd k i) (hn : ns.length < lim) : F_integers_of [.list ((ns.map nS).map PyData.str)] = some (.list (dI ns)) := by
  have cm : q_integers_of_1 [.val (.list (ns.map fun i => PyData.str (nS i))), .un, .un] = some (.list (ns.map PyData.int)) := by
    refine gComp_all (vs := [2]) (gi := gLst (gVar 0)) (t := tName 2) (e := qe_integers_of_1) (env := [.val (.list (ns.map fun i => PyData.str (nS i))), .un, .un]) (fun i => PyData.str (nS i)) PyData.int ns rfl rfl hn (fun i hi => ⟨[.val (.list (ns.map fun i => PyData.str (nS i))), .un, .val (.str (nS i))], rfl, ?_⟩)
    have := integer_of_eq hk hk' (h i hi)
    unfold qe_integers_of_1
    generalize (ns.map fun i => PyData.str (nS i)) = L at *
    push_cast [this]
  have no : vIn .none (.list (ns.map PyData.int)) = some (.bool false) := vIn_none ns
  unfold F_integers_of g_integers_of
  rw [List.map_map]
  show _ = some (PyData.list (ns.map PyData.int))
  have cm : q_integers_of_1 [.val (.list (ns.map (PyData.str ∘ nS))), .un, .un] = some (.list (ns.map PyData.int)) := cm
  generalize ns.map (PyData.str ∘ nS) = L at *
  generalize ns.map PyData.int = L2 at *
  push_cast [cm, no]
def fl3 (ps : List Pt) : List Int := ps.flatMap fun p => [p.x, p.y, p.w]
theorem fl3_len : ∀ ps : List Pt, (fl3 ps).length = 3 * ps.length
  | [] => rfl
  | p :: ps => by
    show ([p.x, p.y, p.w] ++ fl3 ps).length = _
    rw [List.length_append, fl3_len ps, List.length_cons, List.length_cons, List.length_cons, List.length_cons, List.length_nil]
    omega
theorem fl3_app (a b : List Pt) : fl3 (a ++ b) = fl3 a ++ fl3 b := List.flatMap_append
theorem fl3_cut {ps : List Pt} {i : Nat} {q : Pt} (h : ps[i]? = some q) : ((fl3 ps).take (3 * i + 3)).drop (3 * i) = [q.x, q.y, q.w] := by
  have hi := (List.getElem?_eq_some_iff.mp h).1
  have e : ps = ps.take i ++ q :: ps.drop (i + 1) := by
    have := (List.getElem?_eq_some_iff.mp h).2
    rw [← this, List.getElem_cons_drop, List.take_append_drop]
  rw [e, fl3_app]
  have l1 : (fl3 (ps.take i)).length = 3 * i := by rw [fl3_len, List.length_take]; omega
  rw [List.drop_take, List.drop_left' l1, show 3 * i + 3 - 3 * i = 3 by omega]
  rfl
theorem cut_mid (xs : List D) (k l : Nat) (h : k ≤ l) (hl : l ≤ xs.length) : cutD xs (some (k : Int)) (some (l : Int)) = (xs.take l).drop k := by
  unfold cutD
  rw [HT.sIx_nat, HT.sIx_nat, Nat.min_eq_left hl, Nat.min_eq_left (show k ≤ xs.length by omega), List.drop_take]
theorem points_of_eq {k : Nat} (k0 : 0 < k) (hk : k ≤ 1000) {ps : List Pt} (h : ∀ p ∈ ps, p.Bz k) (hn : ps.length ≤ 1000) : F_points_of [.list (dI (fl3 ps))] = some (.list (dP ps)) := by
  have len : (fl3 ps).length = 3 * ps.length := fl3_len ps
  have md : vMod (.int ((fl3 ps).length : Int)) (.int 3) = some (.int 0) := by
    rw [len, vMod_pos (by decide)]
    congr 2
    omega
  have rg : vRangeT (.int 0) (.int ((fl3 ps).length : Int)) (.int 3) = some ((List.range ps.length).map fun i : Nat => PyData.int (0 + (i : Int) * 3)) := by
    show (if (rgOk 0 && rgOk ((fl3 ps).length : Int) && decide ((3 : Int) = 3)) = true then some (rng3D 0 ((((fl3 ps).length : Int) - 0 + 2) / 3).toNat) else none) = _
    rw [len, rgOk_small (by decide), rgOk_small (by omega), if_pos (by rfl)]
    unfold rng3D
    rw [show (((3 * ps.length : Nat) : Int) - 0 + 2) / 3 = (ps.length : Int) by omega, Int.toNat_natCast]
  obtain ⟨e2, e, x, y, z, w, rfl⟩ := forG_pre (t := tName 2) (body := b_points_of_1) (fun i : Nat => PyData.int (0 + (i : Int) * 3)) (fun pre env => ∃ x y z w, env = [.val (.list (dI (fl3 ps))), .own (dP (ps.take pre.length)), x, y, z, w]) (List.range ps.length) [] [.val (.list (dI (fl3 ps))), .own [], .un, .un, .un, .un] ⟨.un, .un, .un, .un, rfl⟩ (by
    rintro pre i post env ee ⟨x, y, z, w, rfl⟩
    rw [List.nil_append] at ee
    have il : pre.length < ps.length := by
      have := congrArg List.length ee
      rw [List.length_range, List.length_append, List.length_cons] at this; omega
    have ei : i = pre.length := by
      have h1 : (List.range ps.length)[pre.length]? = some i := by rw [ee, List.getElem?_append_right (Nat.le_refl _), Nat.sub_self]; rfl
      rw [List.getElem?_range il] at h1
      cases h1; rfl
    obtain ⟨q, hq⟩ : ∃ q, ps[i]? = some q := ⟨ps[i]'(by omega), List.getElem?_eq_getElem _⟩
    have mq := List.mem_of_getElem? hq
    obtain ⟨b1, b2, b3⟩ := h q mq
    have w0 := q.nf.pos
    have sl : vSlice (.list (dI (fl3 ps))) (some (0 + (i : Int) * 3)) (some (0 + (i : Int) * 3 + 3)) = some (.list [.int q.x, .int q.y, .int q.w]) := by
      show some (PyData.list (cutD (dI (fl3 ps)) (some (0 + (i : Int) * 3)) (some (0 + (i : Int) * 3 + 3)))) = _
      rw [show (0 + (i : Int) * 3) = ((3 * i : Nat) : Int) by omega, show (((3 * i : Nat) : Int) + 3) = ((3 * i + 3 : Nat) : Int) by omega, cut_mid _ _ _ (by omega) (by rw [dI_length, len]; omega)]
      have : ((dI (fl3 ps)).take (3 * i + 3)).drop (3 * i) = dI [q.x, q.y, q.w] := by
        unfold dI
        rw [← List.map_take, ← List.map_drop, fl3_cut hq]
      rw [this]; rfl
    have pe := point_eq b1 b2 b3 (by omega) k0 (by omega)
    have pd : P q.x q.y q.w = q.d := by
      obtain ⟨p1, p2, p3⟩ := p_id q.nf
      unfold P
      rw [p1, p2, p3]; rfl
    rw [pd] at pe
    have qd : q.d = .tuple [.int q.x, .int q.y, .int q.w] := rfl
    have ne : vNe (.tuple [.int q.x, .int q.y, .int q.w]) (.tuple [.int q.x, .int q.y, .int q.w]) = some (.bool false) := by
      have := vNe_d q q
      rw [decide_eq_true rfl] at this
      exact this
    have ap : dP (ps.take pre.length) ++ [.tuple [.int q.x, .int q.y, .int q.w]] = dP (ps.take (pre ++ [i]).length) := by
      rw [List.length_append, List.length_cons, List.length_nil, ← ei, Nat.zero_add, List.take_add_one, hq, ← dP_app]; rfl
    have ll : (dP (ps.take pre.length)).length < lim := by rw [dP_length, List.length_take]; unfold lim; omega
    have wl : ¬ q.w < 1 := by omega
    refine ⟨_, [.val (.list (dI (fl3 ps))), .own (dP (ps.take (pre ++ [i]).length)), .val (.int (0 + (i : Int) * 3)), .val (.int q.x), .val (.int q.y), .val (.int q.w)], rfl, .inl ?_, _, _, _, _, rfl⟩
    rw [qd] at pe
    unfold b_points_of_1
    generalize dP (ps.take pre.length) = A at *
    generalize dP (ps.take (pre ++ [i]).length) = B at *
    generalize dI (fl3 ps) = C at *
    generalize (0 + (i : Int) * 3) = I at *
    push_cast [sl, tTupL, pe, ne, if_pos ll, ap, decide_eq_false wl])
  rw [List.nil_append, List.length_range, List.take_length] at e
  unfold F_points_of g_points_of
  have ld : (dI (fl3 ps)).length = (fl3 ps).length := dI_length _
  generalize hC : dI (fl3 ps) = C at *
  generalize dP ps = B at *
  push_cast [ld, md, gRangeT, rg, e]
def wdP : Str := Str.ofString "polygon"
theorem wdP_eq : wdP = mkS [112, 111, 108, 121, 103, 111, 110] := lit_mkS "polygon"
def wds (h : List Pt) : List Str := (fl3 h).map nS
theorem wds_len (h : List Pt) : (wds h).length = 3 * h.length := by unfold wds; rw [List.length_map, fl3_len]
theorem fl3_bd {k : Nat} {h : List Pt} (hb : ∀ q ∈ h, q.Bz k) : ∀ i ∈ fl3 h, Bd k i := fun i hi => by
  obtain ⟨q, hq, hi⟩ := List.mem_flatMap.mp hi
  obtain ⟨b1, b2, b3⟩ := hb q hq
  simp only [List.mem_cons, List.not_mem_nil, or_false] at hi
  rcases hi with rfl | rfl | rfl
  · exact b1
  · exact b2
  · exact b3
theorem wds_free {s : Nat} (hs : s < 45 ∨ 57 < s) {h : List Pt} : ∀ y ∈ wds h, s ∉ tl y := fun y hy => by
  obtain ⟨i, _, rfl⟩ := List.mem_map.mp hy
  exact nL_free hs
theorem wds_size {k : Nat} (k0 : 0 < k) {h : List Pt} (hb : ∀ q ∈ h, q.Bz k) : ∀ y ∈ wds h, y.length ≤ k + 1 := fun y hy => by
  obtain ⟨i, hi, rfl⟩ := List.mem_map.mp hy
  unfold nS
  rw [len_mkS]
  exact nL_len k0 (fl3_bd hb i hi)
def wdQ : Str := Str.ofString "piece"
theorem wdQ_eq : wdQ = mkS [112, 105, 101, 99, 101] := lit_mkS "piece"
def pcW (t : Int) (v : Pt) (h : List Pt) : List Str := nS t :: wds (v :: h)
theorem pcW_len (t : Int) (v : Pt) (h : List Pt) : (pcW t v h).length = 3 * h.length + 4 := by
  unfold pcW
  rw [List.length_cons, wds_len, List.length_cons]; omega
theorem pcW_free {s : Nat} (hs : s < 45 ∨ 57 < s) {t : Int} {v : Pt} {h : List Pt} : ∀ y ∈ pcW t v h, s ∉ tl y := fun y hy => by
  rcases List.mem_cons.mp hy with rfl | hy
  · exact nL_free hs
  · exact wds_free hs y hy
theorem pcW_size {k : Nat} (k0 : 0 < k) {t : Int} (bt : Bd k t) {v : Pt} {h : List Pt} (hb : ∀ q ∈ v :: h, q.Bz k) : ∀ y ∈ pcW t v h, y.length ≤ k + 1 := fun y hy => by
  rcases List.mem_cons.mp hy with rfl | hy
  · unfold nS
    rw [len_mkS]
    exact nL_len k0 bt
  · exact wds_size k0 hb y hy
def lnQ (t : Int) (v : Pt) (h : List Pt) : List Nat := jn [32] (wdQ :: pcW t v h)
theorem lnQ_eq (t : Int) (v : Pt) (h : List Pt) : lnQ t v h = tl wdQ ++ (pcW t v h).flatMap fun y => [32] ++ tl y := jn_cons _ _ _
theorem lnQ_len {k : Nat} (k0 : 0 < k) {t : Int} (bt : Bd k t) {v : Pt} {h : List Pt} (hb : ∀ q ∈ v :: h, q.Bz k) : (lnQ t v h).length ≤ 5 + (3 * h.length + 4) * (k + 2) := by
  rw [lnQ_eq, List.length_append]
  have := flat_le (f := fun y => [32] ++ tl y) (m := k + 2) (xs := pcW t v h) (fun y hy => by
    have := pcW_size k0 bt hb y hy
    have e : y.length = (tl y).length := TL.len_tl y
    rw [List.length_append, List.length_cons, List.length_nil]
    omega)
  rw [pcW_len] at this
  have e : (tl wdQ).length = 5 := by rw [wdQ_eq]; rfl
  omega
theorem lnQ_free {t : Int} {v : Pt} {h : List Pt} : 10 ∉ lnQ t v h := by
  rw [lnQ_eq, List.mem_append, List.mem_flatMap, not_or]
  refine ⟨by rw [wdQ_eq]; decide, ?_⟩
  rintro ⟨y, hy, hm⟩
  rcases List.mem_append.mp hm with m | m
  · simp at m
  · exact pcW_free (by omega) y hy m
theorem lnQ_split {k : Nat} (k0 : 0 < k) {t : Int} (bt : Bd k t) {v : Pt} {h : List Pt} (hb : ∀ q ∈ v :: h, q.Bz k) (hn : 5 + (3 * h.length + 4) * (k + 2) ≤ 100000) : vSplit (.str (mkS (lnQ t v h))) (.str (Str.ofString " ")) = some (.list (.str wdQ :: (pcW t v h).map PyData.str)) := by
  rw [spc]
  refine vSplit_eq (by decide) (ys := wdQ :: pcW t v h) (by simp) (fun p hp => ?_) (by have := lnQ_len k0 bt hb; unfold lnQ at this; omega)
  rcases List.mem_cons.mp hp with rfl | hp
  · rw [wdQ_eq]; decide
  · exact pcW_free (by omega) p hp
theorem vNotIn_strT {s : Str} {ss : List Str} {b : Bool} (e : (!(ss.any fun z => decide (z = s))) = b) : vNotIn (.str s) (.tuple (ss.map PyData.str)) = some (.bool b) := by
  have fl : ∀ ss : List Str, (ss.map PyData.str).all flatD = true := by
    intro ss
    induction ss with
    | nil => rfl
    | cons a ss ih => show (true && (ss.map PyData.str).all flatD) = true; rw [ih]; rfl
  show (if (flatD (.str s) && (ss.map PyData.str).all flatD) = true then some (PyData.bool (!(ss.map PyData.str).any fun z => PyData.eqv z (.str s))) else none) = _
  rw [fl, ← e, List.any_map, show flatD (.str s) = true from rfl]
  rfl
theorem turn_ok {t : Int} (ht : 0 ≤ t ∧ t < 4) : vNotIn (.str (nS t)) (.tuple [.str (Str.ofString "0"), .str (Str.ofString "1"), .str (Str.ofString "2"), .str (Str.ofString "3")]) = some (.bool false) := by
  have e : ∀ n : Int, nS n = Str.ofString (toString n) := fun n => (toS n).symm
  have o : t = 0 ∨ t = 1 ∨ t = 2 ∨ t = 3 := by omega
  rcases o with rfl | rfl | rfl | rfl
  · rw [e]; exact vNotIn_strT (ss := [Str.ofString "0", Str.ofString "1", Str.ofString "2", Str.ofString "3"]) rfl
  · rw [e]; exact vNotIn_strT (ss := [Str.ofString "0", Str.ofString "1", Str.ofString "2", Str.ofString "3"]) rfl
  · rw [e]; exact vNotIn_strT (ss := [Str.ofString "0", Str.ofString "1", Str.ofString "2", Str.ofString "3"]) rfl
  · rw [e]; exact vNotIn_strT (ss := [Str.ofString "0", Str.ofString "1", Str.ofString "2", Str.ofString "3"]) rfl
theorem vSlice_drop2 (x y : D) (xs : List D) : vSlice (.list (x :: y :: xs)) (some 2) none = some (.list xs) := by
  show some (PyData.list (cutD (x :: y :: xs) (some ((2 : Nat) : Int)) none)) = _
  rw [cut_from _ _ (by simp)]
  rfl
theorem read_piece_eq {k : Nat} (k2 : 2 ≤ k) (hk : k ≤ 100) {t : Int} (ht : 0 ≤ t ∧ t < 4) {v : Pt} {h : List Pt} (hb : ∀ q ∈ v :: h, q.Bz k) (hz : ∀ q ∈ h, q.Sz 4) (C : Pt.CP h) (hn : h.length ≤ 60) : F_read_piece [.str (mkS (lnQ t v h))] = some (prD (h, t, v)) := by
  have bt : Bd k t := Bd.mono (j := 2) (by show t.natAbs < 2 ^ 2; omega) k2
  have l3 : (3 * h.length + 4) * (k + 2) ≤ 184 * 102 := Nat.mul_le_mul (by omega) (by omega)
  have sp := lnQ_split (by omega) bt hb (by omega)
  have d1 := vSlice_drop2 (.str wdQ) (.str (nS t)) ((wds (v :: h)).map PyData.str)
  have it : F_integers_of [.list ((wds (v :: h)).map PyData.str)] = some (.list (dI (fl3 (v :: h)))) := integers_of_eq (k := k) (by omega) (by omega) (ns := fl3 (v :: h)) (fl3_bd hb) (by rw [fl3_len, List.length_cons]; unfold lim; omega)
  have po := points_of_eq (by omega) (by omega) hb (by rw [List.length_cons]; omega)
  have pw : F_points_of_words [.list ((wds (v :: h)).map PyData.str)] = some (.list (dP (v :: h))) := by
    generalize (wds (v :: h)).map PyData.str = W at *
    generalize dI (fl3 (v :: h)) = I at *
    unfold F_points_of_words g_points_of_words
    push_cast [it, po]
  have ip := is_polygon_cp (by omega) hz C
  have c : c_PIECE = .str wdQ := rfl
  have nt := turn_ok ht
  have iv := vIntS_eq (k := k) (by omega) (by omega) bt
  have dv : dP (v :: h) = v.d :: dP h := rfl
  have d2 := vSlice_drop1 v.d (dP h)
  have e0 : ∀ (x : D) (xs : List D), atD (x :: xs) 0 = some x := fun x xs => rfl
  have e1 : ∀ (x y : D) (xs : List D), atD (x :: y :: xs) 1 = some y := fun x y xs => rfl
  have l5 : decide ((((wds (v :: h)).map PyData.str).length + 1 + 1 : Int) < 5) = false := by
    rw [List.length_map, wds_len, List.length_cons]
    exact decide_eq_false (by omega)
  rw [dv] at pw
  have sp : vSplit (.str (mkS (lnQ t v h))) (.str (Str.ofString " ")) = some (.list (.str wdQ :: .str (nS t) :: (wds (v :: h)).map PyData.str)) := sp
  show _ = some (PyData.tuple [.tuple (dP h), .tuple [.int t, v.d]])
  unfold F_read_piece g_read_piece
  generalize (wds (v :: h)).map PyData.str = W at *
  generalize mkS (lnQ t v h) = z at *
  generalize dP h = B at *
  generalize wdQ = w at *
  generalize nS t = u at *
  generalize v.d = vd at *
  push_cast [sp, d1, pw, ip, c, decide_eq_true (rfl : w = w), eq_self, e0, e1, nt, iv, d2, Int.natCast_add, Int.natCast_one, l5]
theorem words_of_eq {k : Nat} (k0 : 0 < k) (hk : k ≤ 1000) {h : List Pt} (hb : ∀ q ∈ h, q.Bz k) (hn : h.length ≤ 1000) : F_words_of [.list (dP h)] = some (.list ((wds h).map PyData.str)) := by
  have ge : (h.flatMap fun p => ([p.x, p.y, p.w] : List Int).map fun n => PyData.str (nS n)) = (wds h).map PyData.str := by
    unfold wds fl3
    rw [List.map_map, List.map_flatMap]
    rfl
  have cm : q_words_of_1 [.val (.list (dP h)), .un, .un] = some (.list ((wds h).map PyData.str)) := by
    rw [← ge]
    exact gComp2T (vs := [1, 2]) (gi := gLst (gVar 0)) (t := tName 1) (vs1 := [2]) (gi1 := gTpl (gVar 1)) (t1 := tName 2) (e := qe_words_of_1) (env := [.val (.list (dP h)), .un, .un]) Pt.d PyData.int (fun p => [p.x, p.y, p.w]) (fun _ n => PyData.str (nS n)) h rfl rfl (by have := fl3_len h; unfold fl3 at this; rw [this]; unfold lim; omega) (fun p hp => ⟨[.val (.list (dP h)), .val p.d, .un], rfl, rfl, rfl, fun n hm => ⟨[.val (.list (dP h)), .val p.d, .val (.int n)], rfl, by
      have bn : Bd k n := fl3_bd hb n (List.mem_flatMap.mpr ⟨p, hp, hm⟩)
      have s := vStr1_eq k0 hk bn
      generalize PyData.list (dP h) = A at *
      generalize p.d = B at *
      unfold qe_words_of_1
      push_cast [s]⟩⟩)
  unfold F_words_of g_words_of
  generalize (wds h).map PyData.str = W at *
  push_cast [cm]
/-- a pair that can be written -/
structure WrOk (k : Nat) (x : Pr) : Prop where
  bz : ∀ q ∈ x.2.2 :: x.1, q.Bz k
  sz : ∀ q ∈ x.1, q.Sz 4
  cp : Pt.CP x.1
  len : x.1.length ≤ 60
  t : 0 ≤ x.2.1 ∧ x.2.1 < 4
def lnP (x : Pr) : List Nat := lnQ x.2.1 x.2.2 x.1
def txP (P : List Pr) : List Nat := P.flatMap fun x => lnP x ++ [10]
theorem WrOk.bt {k : Nat} {x : Pr} (W : WrOk k x) (k2 : 2 ≤ k) : Bd k x.2.1 := Bd.mono (j := 2) (by have := W.t; show x.2.1.natAbs < 2 ^ 2; omega) k2
theorem WrOk.ln {k : Nat} {x : Pr} (W : WrOk k x) (k2 : 2 ≤ k) (hk : k ≤ 100) : (lnP x ++ [10]).length ≤ 20000 := by
  have l3 : (3 * x.1.length + 4) * (k + 2) ≤ 184 * 102 := Nat.mul_le_mul (by have := W.len; omega) (by omega)
  have := lnQ_len (by omega) (W.bt k2) W.bz
  rw [List.length_append, List.length_cons, List.length_nil]
  unfold lnP
  omega
theorem write_paper_eq {k : Nat} (k2 : 2 ≤ k) (hk : k ≤ 100) {P : List Pr} (hb : ∀ x ∈ P, WrOk k x) (hl : P.length ≤ 100) : F_write_paper [.list (P.map prD)] = some (.str (mkS (txP P))) := by
  obtain ⟨_, e, w2, w3, rfl⟩ := forG_pre (t := tTuple [(tName 2), (tName 3)]) (body := b_write_paper_1) prD (fun pre env => ∃ w2 w3, env = [.val (.list (P.map prD)), .own (pre.map fun x => PyData.str (mkS (lnP x ++ [10]))), w2, w3]) P [] [.val (.list (P.map prD)), .own [], .un, .un] ⟨.un, .un, rfl⟩ (by
    rintro pre ⟨h, t, v⟩ post env ee ⟨w2, w3, rfl⟩
    rw [List.nil_append] at ee
    have mx : (h, t, v) ∈ P := by rw [ee]; simp
    have pl : pre.length ≤ 100 := by
      have := congrArg List.length ee
      rw [List.length_append] at this; omega
    have W := hb _ mx
    have bt := W.bt k2
    have n60 : h.length ≤ 60 := W.len
    have b : ∀ q ∈ v :: h, q.Bz k := W.bz
    have l3 : (3 * h.length + 4) * (k + 1) ≤ 184 * 101 := Nat.mul_le_mul (by omega) (by omega)
    have ww : F_words_of [.list (v.d :: dP h)] = some (.list ((wds (v :: h)).map PyData.str)) := words_of_eq (by omega) (by omega) b (by rw [List.length_cons]; omega)
    have sq : seqOf (.list ((wds (v :: h)).map PyData.str)) = some ((wds (v :: h)).map PyData.str) := rfl
    have sq2 : seqOf (.tuple (dP h)) = some (dP h) := rfl
    have ls2 : vLstS (v.d :: dP h) = some (.list (v.d :: dP h)) := by
      show (if _ then _ else none) = _
      rw [if_pos (by rw [List.length_cons, dP_length]; unfold lim; omega)]
    have ls : vLstS (c_PIECE :: .str (nS t) :: (wds (v :: h)).map PyData.str) = some (.list (c_PIECE :: .str (nS t) :: (wds (v :: h)).map PyData.str)) := by
      show (if _ then _ else none) = _
      rw [if_pos (by rw [List.length_cons, List.length_cons, List.length_map, wds_len, List.length_cons]; unfold lim; omega)]
    have st := vStr1_eq (k := k) (by omega) (by omega) bt
    have jo : vJoin (.str (Str.ofString " ")) (.list (c_PIECE :: .str (nS t) :: (wds (v :: h)).map PyData.str)) = some (.str (mkS (lnP (h, t, v)))) := by
      rw [spc]
      refine vJoin_eq (s := [32]) (ys := wdQ :: pcW t v h) ?_
      have : ((pcW t v h).map (·.length)).sum ≤ (pcW t v h).length * (k + 1) := sum_le (pcW_size (by omega) bt b)
      have e7 : wdQ.length = 5 := by rw [wdQ_eq]; rfl
      rw [pcW_len] at this
      rw [List.map_cons, List.sum_cons, e7, List.length_cons, pcW_len, List.length_cons, List.length_nil]
      omega
    have ad : vAdd (.str (mkS (lnP (h, t, v)))) (.str (Str.ofString "\n")) = some (.str (mkS (lnP (h, t, v) ++ [10]))) := by
      rw [nlS]
      refine vAdd_s ?_
      have := W.ln k2 hk
      rw [List.length_append] at this
      unfold lim
      omega
    have ll : (pre.map fun x => PyData.str (mkS (lnP x ++ [10]))).length < lim := by rw [List.length_map]; unfold lim; omega
    have ap : (pre.map fun x => PyData.str (mkS (lnP x ++ [10]))) ++ [.str (mkS (lnP (h, t, v) ++ [10]))] = (pre ++ [(h, t, v)]).map fun x => PyData.str (mkS (lnP x ++ [10])) := by rw [List.map_append]; rfl
    refine ⟨_, [.val (.list (P.map prD)), .own ((pre ++ [(h, t, v)]).map fun x => PyData.str (mkS (lnP x ++ [10]))), .val (.tuple (dP h)), .val (.tuple [.int t, v.d])], rfl, .inl ?_, _, _, rfl⟩
    show b_write_paper_1 [.val (.list (P.map prD)), .own (pre.map fun x => PyData.str (mkS (lnP x ++ [10]))), .val (.tuple (dP h)), .val (.tuple [.int t, v.d])] = _
    unfold b_write_paper_1
    generalize ((pre ++ [(h, t, v)]).map fun x => PyData.str (mkS (lnP x ++ [10]))) = B at *
    generalize (pre.map fun x => PyData.str (mkS (lnP x ++ [10]))) = A at *
    generalize P.map prD = C at *
    generalize (wds (v :: h)).map PyData.str = W2 at *
    generalize mkS (lnP (h, t, v)) = z at *
    generalize mkS (lnP (h, t, v) ++ [10]) = z2 at *
    generalize dP h = H2 at *
    generalize v.d = vd at *
    generalize nS t = ts at *
    push_cast [gStar, ww, sq, sq2, ls2, st, List.append_nil, ls, jo, ad, if_pos ll, ap])
  rw [List.nil_append] at e
  have jo : vJoin (.str (Str.ofString "")) (.list (P.map fun x => PyData.str (mkS (lnP x ++ [10])))) = some (.str (mkS (txP P))) := by
    have ee : (P.map fun x => PyData.str (mkS (lnP x ++ [10]))) = (P.map fun x => mkS (lnP x ++ [10])).map PyData.str := by rw [List.map_map]; rfl
    rw [emS, ee, vJoin_eq]
    · rw [jn_nil]
      congr 3
      rw [List.flatMap_map]
      rfl
    · have := sum_le (ys := P.map fun x => mkS (lnP x ++ [10])) (m := 20000) (fun y hy => by
        obtain ⟨x, hx, rfl⟩ := List.mem_map.mp hy
        rw [len_mkS]
        exact (hb x hx).ln k2 hk)
      rw [List.length_map] at this ⊢
      rw [List.length_nil]
      have : P.length * 20000 ≤ 100 * 20000 := Nat.mul_le_mul_right _ hl
      omega
  unfold F_write_paper g_write_paper
  generalize (P.map fun x => PyData.str (mkS (lnP x ++ [10]))) = W at *
  generalize P.map prD = A at *
  push_cast [e, jo]
theorem txP_lines (P : List Pr) : txP P = jn [10] (P.map (fun x => mkS (lnP x)) ++ [mkS []]) := by
  rw [jn_lines, List.flatMap_map]
  rfl
theorem read_lines_eq {k : Nat} (k2 : 2 ≤ k) (hk : k ≤ 100) {P : List Pr} (hb : ∀ x ∈ P, WrOk k x) (hl : P.length ≤ 100) : F_read_lines [.str (mkS (txP P))] = some (.list (P.map prD)) := by
  have tlen : (txP P).length ≤ 2000000 := by
    have := flat_le (f := fun x => lnP x ++ [10]) (m := 20000) (xs := P) (fun x hx => (hb x hx).ln k2 hk)
    have q : P.length * 20000 ≤ 100 * 20000 := Nat.mul_le_mul_right _ hl
    unfold txP
    omega
  have sp : vSplit (.str (mkS (txP P))) (.str (Str.ofString "\n")) = some (.list (P.map (fun x => PyData.str (mkS (lnP x))) ++ [.str (Str.ofString "")])) := by
    rw [nlS, txP_lines, vSplit_eq (by decide) (by simp) (fun p hp => ?_) (by rw [← txP_lines]; omega), emS, List.map_append, List.map_map]
    · rfl
    · rcases List.mem_append.mp hp with hp | hp
      · obtain ⟨x, _, rfl⟩ := List.mem_map.mp hp
        exact lnQ_free
      · rw [List.mem_singleton.mp hp]; simp [tl_mkS]
  have sl := vSlice_m1 (P.map (fun x => PyData.str (mkS (lnP x)))) (.str (Str.ofString ""))
  have la : atD (P.map (fun x => PyData.str (mkS (lnP x))) ++ [.str (Str.ofString "")]) (-1) = some (.str (Str.ofString "")) := atD_lastD _ _
  have en := enumD_map (fun x => PyData.str (mkS (lnP x))) P
  obtain ⟨_, e, w4, w5, w6, rfl⟩ := forG_pre (t := tTuple [(tName 4), (tName 5)]) (body := b_read_lines_1) (fun p : Pr × Nat => PyData.tuple [.int (p.2 : Int), .str (mkS (lnP p.1))]) (fun pre env => ∃ w4 w5 w6, env = [.val (.str (mkS (txP P))), .fn "read_piece", .val (.list (P.map (fun x => PyData.str (mkS (lnP x))) ++ [.str (Str.ofString "")])), .own (pre.map fun p => prD p.1), w4, w5, w6]) P.zipIdx [] [.val (.str (mkS (txP P))), .fn "read_piece", .val (.list (P.map (fun x => PyData.str (mkS (lnP x))) ++ [.str (Str.ofString "")])), .own [], .un, .un, .un] ⟨.un, .un, .un, rfl⟩ (by
    rintro pre ⟨x, i⟩ post env ee ⟨w4, w5, w6, rfl⟩
    rw [List.nil_append] at ee
    have pl : pre.length ≤ 100 := by
      have := congrArg List.length ee
      rw [List.length_zipIdx, List.length_append] at this; omega
    have mh : x ∈ P := by
      have : (x, i) ∈ P.zipIdx := by rw [ee]; simp
      exact List.fst_mem_of_mem_zipIdx this
    have W := hb x mh
    have rp : F_read_piece [.str (mkS (lnP x))] = some (prD x) := read_piece_eq k2 hk W.t W.bz W.sz W.cp W.len
    have ll : (pre.map fun p => prD p.1).length < lim := by rw [List.length_map]; unfold lim; omega
    have ap : (pre.map fun p : Pr × Nat => prD p.1) ++ [prD x] = (pre ++ [(x, i)]).map fun p => prD p.1 := by rw [List.map_append]; rfl
    have nn : isNone (prD x) = false := rfl
    refine ⟨_, [.val (.str (mkS (txP P))), .fn "read_piece", .val (.list (P.map (fun x => PyData.str (mkS (lnP x))) ++ [.str (Str.ofString "")])), .own ((pre ++ [(x, i)]).map fun p => prD p.1), .val (.int (i : Int)), .val (.str (mkS (lnP x))), .val (prD x)], rfl, .inl ?_, _, _, _, rfl⟩
    show b_read_lines_1 [.val (.str (mkS (txP P))), .fn "read_piece", .val (.list (P.map (fun x => PyData.str (mkS (lnP x))) ++ [.str (Str.ofString "")])), .own (pre.map fun p => prD p.1), .val (.int (i : Int)), .val (.str (mkS (lnP x))), w6] = _
    unfold b_read_lines_1
    generalize ((pre ++ [(x, i)]).map fun p => prD p.1) = B at *
    generalize (pre.map fun p => prD p.1) = A at *
    generalize mkS (lnP x) = z at *
    generalize prD x = g at *
    push_cast [gFn, fnOf_fn, eq_self, rp, nn, if_pos ll, ap])
  rw [List.nil_append] at e
  have fs : (P.zipIdx.map fun p => prD p.1) = P.map prD := by
    rw [show (fun p : Pr × Nat => prD p.1) = prD ∘ Prod.fst from rfl, ← List.map_map, List.zipIdx_map_fst]
  rw [fs] at e
  rw [← en] at e
  show (g_read_lines (startA 5 "read_piece" (.str (mkS (txP P))))).bind endF = _
  unfold g_read_lines startA
  generalize (P.map (fun x => PyData.str (mkS (lnP x)))) = L at *
  generalize mkS (txP P) = z at *
  generalize P.map prD = R at *
  push_cast [sp, gEnum, sl, e, la, eq_self]
theorem read_paper_eq {k : Nat} (k2 : 2 ≤ k) (hk : k ≤ 100) {P : List Pr} (hb : ∀ x ∈ P, WrOk k x) (hl : P.length ≤ 100) : F_read_paper [.str (mkS (txP P))] = some (.list (P.map prD)) := by
  have e := read_lines_eq k2 hk hb hl
  unfold F_read_paper g_read_paper
  push_cast [e]
theorem law_motion_eq (c : Int) (k : Nat) (hk : k ≤ 200) (g : Str) (hg : g = "level" ∨ g = "grid" ∨ g = "grid2" ∨ g = "grid4" ∨ g = "free" ∨ g = "free2" ∨ g = "free4") : ∃ (t : Int) (v : Pt), F_law_motion [.int c, .int (k : Int), .str g] = some (moD t v) ∧ Qt t ∧ v.Bz 17 ∧ InG g t v := by
  obtain ⟨ps, f, hq, _, hf⟩ := law_parts_f c [4, 7, 7, 3] (by
    intro s hs
    simp only [List.mem_cons, List.not_mem_nil, or_false] at hs
    rcases hs with rfl | rfl | rfl | rfl <;> exact ⟨by decide, bd_lit (by decide)⟩) (by decide)
  have hq : F_law_parts [.int c, .list [.int 4, .int 7, .int 7, .int 3]] = some (.list (dI ps)) := hq
  obtain ⟨i0, a0, b0⟩ := hf 0 4 rfl
  obtain ⟨i1, a1, b1⟩ := hf 1 7 rfl
  obtain ⟨i2, a2, b2⟩ := hf 2 7 rfl
  obtain ⟨i3, a3, b3⟩ := hf 3 3 rfl
  have m1 := vMul_ok (mulOk_left (x := 80) (y := (k : Int)) (bd_lit (by decide)))
  have m2 := vMul_ok (mulOk_right (x := 80 * (k : Int) - 160) (y := 1 + f 3) (bd_range 1 3 (by omega) (by omega) (by decide) (by decide)))
  have m3 := vMul_ok (mulOk_left (x := 2) (y := f 0 / 2) (bd_lit (by decide)))
  have fd := vFdiv_pos (k := 10) (a := f 0) (b := 2) (by decide) (bd_lit (by decide)) (by decide) (by decide)
  have wz : 1 + f 3 ≠ 0 := by omega
  have big : (80 * (k : Int) - 160) * (1 + f 3) + f 1 ≤ 50000 ∧ -500 ≤ (80 * (k : Int) - 160) * (1 + f 3) + f 1 := by
    have : f 3 = 0 ∨ f 3 = 1 ∨ f 3 = 2 := by omega
    rcases this with z | z | z <;> rw [z] <;> omega
  have c1 : Bd 17 ((80 * (k : Int) - 160) * (1 + f 3) + f 1) := bd_range (-500) 50000 (by omega) (by omega) (by decide) (by decide)
  have c2 : Bd 17 (f 2 - 3) := bd_range (-3) 24 (by omega) (by omega) (by decide) (by decide)
  have c3 : Bd 17 (1 + f 3) := bd_range 0 24 (by omega) (by omega) (by decide) (by decide)
  have c4 : Bd 17 (80 * (k : Int) - 160 + f 1) := bd_range (-500) 50000 (by omega) (by omega) (by decide) (by decide)
  have hp1 := law_point_eq (k := 17) c1 c2 c3 (by omega) (by decide) (by decide)
  have hp2 := law_point_eq (k := 17) c1 (show Bd 17 0 from bd_zero) c3 (by omega) (by decide) (by decide)
  rw [← Pt.at_d _ _ _ wz] at hp1 hp2
  have z1 := at_bz wz c1 c2 c3
  have z2 := at_bz wz c1 (show Bd 17 0 from bd_zero) c3
  have z3 : (Pt.wh (80 * (k : Int) - 160 + f 1) (f 2 - 3)).Bz 17 := wh_bz (by decide) c4 c2
  have y0 : (Pt.at_ ((80 * (k : Int) - 160) * (1 + f 3) + f 1) 0 (1 + f 3) wz).y = 0 := by
    show p2 _ _ _ = 0
    unfold p2 ptX
    split <;> simp
  have q1 : Qt (2 * (f 0 / 2)) := ⟨by omega, by omega⟩
  have q2 : 2 * (f 0 / 2) = 0 ∨ 2 * (f 0 / 2) = 2 := by omega
  generalize hA : Pt.at_ ((80 * (k : Int) - 160) * (1 + f 3) + f 1) (f 2 - 3) (1 + f 3) wz = A at *
  generalize hB : Pt.at_ ((80 * (k : Int) - 160) * (1 + f 3) + f 1) 0 (1 + f 3) wz = B at *
  have mg : ∀ a b c : D, mrgD [] [(.inr "grid", a), (.inr "grid2", b), (.inr "grid4", c)] = [(.inr "grid", a), (.inr "grid2", b), (.inr "grid4", c)] := fun a b c => rfl
  have mf : ∀ a b c : D, mrgD [] [(.inr "free", a), (.inr "free2", b), (.inr "free4", c)] = [(.inr "free", a), (.inr "free2", b), (.inr "free4", c)] := fun a b c => rfl
  have ag1 : ∀ a b c : D, atK [(.inr "grid", a), (.inr "grid2", b), (.inr "grid4", c)] (.inr "grid") = some a := fun a b c => rfl
  have ag2 : ∀ a b c : D, atK [(.inr "grid", a), (.inr "grid2", b), (.inr "grid4", c)] (.inr "grid2") = some b := fun a b c => rfl
  have ag3 : ∀ a b c : D, atK [(.inr "grid", a), (.inr "grid2", b), (.inr "grid4", c)] (.inr "grid4") = some c := fun a b c => rfl
  have af1 : ∀ a b c : D, atK [(.inr "free", a), (.inr "free2", b), (.inr "free4", c)] (.inr "free") = some a := fun a b c => rfl
  have af2 : ∀ a b c : D, atK [(.inr "free", a), (.inr "free2", b), (.inr "free4", c)] (.inr "free2") = some b := fun a b c => rfl
  have af3 : ∀ a b c : D, atK [(.inr "free", a), (.inr "free2", b), (.inr "free4", c)] (.inr "free4") = some c := fun a b c => rfl
  have kd : ∀ s : Str, keyD (.str s) = some (.inr s) := fun _ => rfl
  have le3 : (3 : Nat) ≤ 15 := by decide
  unfold F_law_motion g_law_motion
  rcases hg with rfl | rfl | rfl | rfl | rfl | rfl | rfl
  · have v : vEq (.str "level") (.str "level") = some (.bool true) := vEq_s _
    refine ⟨0, B, ?_, ⟨by decide, by decide⟩, z2, fun _ => ⟨rfl, y0⟩, ?_, ?_, ?_, ?_, ?_⟩
    · unfold moD
      push_cast [hq, i0, i1, i2, i3, m1, m2, m3, fd, hp1, hp2, v]
    all_goals (intro h; exact absurd h (by decide))
  · have v : vEq (.str "grid") (.str "level") = some (.bool false) := rfl
    have w : vIn (.str "grid") (.list [.str "grid", .str "grid2", .str "grid4"]) = some (.bool true) := vIn_str3 (str_ok rfl) (str_ok rfl) (str_ok rfl) (str_ok rfl) rfl
    refine ⟨0, _, ?_, ⟨by decide, by decide⟩, z3, ?_, fun _ => ⟨rfl, rfl⟩, ?_, ?_, ?_, ?_⟩
    · unfold moD
      push_cast [hq, i0, i1, i2, i3, m1, m2, m3, fd, hp1, hp2, v, w, gDispIx, kCons, kNil, mg, mf, ag1, kd, if_pos le3]
      rfl
    all_goals (intro h; exact absurd h (by decide))
  · have v : vEq (.str "grid2") (.str "level") = some (.bool false) := rfl
    have w : vIn (.str "grid2") (.list [.str "grid", .str "grid2", .str "grid4"]) = some (.bool true) := vIn_str3 (str_ok rfl) (str_ok rfl) (str_ok rfl) (str_ok rfl) rfl
    refine ⟨2 * (f 0 / 2), _, ?_, q1, z3, ?_, ?_, fun _ => ⟨q2, rfl⟩, ?_, ?_, ?_⟩
    · unfold moD
      push_cast [hq, i0, i1, i2, i3, m1, m2, m3, fd, hp1, hp2, v, w, gDispIx, kCons, kNil, mg, mf, ag2, kd, if_pos le3]
      rfl
    all_goals (intro h; exact absurd h (by decide))
  · have v : vEq (.str "grid4") (.str "level") = some (.bool false) := rfl
    have w : vIn (.str "grid4") (.list [.str "grid", .str "grid2", .str "grid4"]) = some (.bool true) := vIn_str3 (str_ok rfl) (str_ok rfl) (str_ok rfl) (str_ok rfl) rfl
    refine ⟨f 0, _, ?_, ⟨by omega, by omega⟩, z3, ?_, ?_, ?_, fun _ => rfl, ?_, ?_⟩
    · unfold moD
      push_cast [hq, i0, i1, i2, i3, m1, m2, m3, fd, hp1, hp2, v, w, gDispIx, kCons, kNil, mg, mf, ag3, kd, if_pos le3]
      rfl
    all_goals (intro h; exact absurd h (by decide))
  · have v : vEq (.str "free") (.str "level") = some (.bool false) := rfl
    have w : vIn (.str "free") (.list [.str "grid", .str "grid2", .str "grid4"]) = some (.bool false) := vIn_str3 (str_ok rfl) (str_ok rfl) (str_ok rfl) (str_ok rfl) rfl
    refine ⟨0, A, ?_, ⟨by decide, by decide⟩, z1, ?_, ?_, ?_, ?_, fun _ => rfl, ?_⟩
    · unfold moD
      push_cast [hq, i0, i1, i2, i3, m1, m2, m3, fd, hp1, hp2, v, w, gDispIx, kCons, kNil, mg, mf, af1, kd, if_pos le3]
    all_goals (intro h; exact absurd h (by decide))
  · have v : vEq (.str "free2") (.str "level") = some (.bool false) := rfl
    have w : vIn (.str "free2") (.list [.str "grid", .str "grid2", .str "grid4"]) = some (.bool false) := vIn_str3 (str_ok rfl) (str_ok rfl) (str_ok rfl) (str_ok rfl) rfl
    refine ⟨2 * (f 0 / 2), A, ?_, q1, z1, ?_, ?_, ?_, ?_, ?_, fun _ => q2⟩
    · unfold moD
      push_cast [hq, i0, i1, i2, i3, m1, m2, m3, fd, hp1, hp2, v, w, gDispIx, kCons, kNil, mg, mf, af2, kd, if_pos le3]
    all_goals (intro h; exact absurd h (by decide))
  · have v : vEq (.str "free4") (.str "level") = some (.bool false) := rfl
    have w : vIn (.str "free4") (.list [.str "grid", .str "grid2", .str "grid4"]) = some (.bool false) := vIn_str3 (str_ok rfl) (str_ok rfl) (str_ok rfl) (str_ok rfl) rfl
    refine ⟨f 0, A, ?_, ⟨by omega, by omega⟩, z1, ?_, ?_, ?_, ?_, ?_, ?_⟩
    · unfold moD
      push_cast [hq, i0, i1, i2, i3, m1, m2, m3, fd, hp1, hp2, v, w, gDispIx, kCons, kNil, mg, mf, af3, kd, if_pos le3]
    all_goals (intro h; exact absurd h (by decide))
/-- the text that is due, corner by corner -/
theorem due_pt {k : Nat} (k0 : 0 < k) (hk : k ≤ 100) {q : Pt} (b : q.Bz k) (l : List Nat) (hl : l.length ≤ 10000000) : ∀ s0 s1 s2 s3 s5 s6 s7 s8 s9 s10 : Slot, b_law_3 [s0, s1, s2, s3, .val (.str (mkS l)), s5, s6, s7, s8, s9, s10, .val q.d] = some (.nx [s0, s1, s2, s3, .val (.str (mkS (l ++ ((([32] ++ nL q.x) ++ ([32] ++ nL q.y)) ++ ([32] ++ nL q.w))))), s5, s6, s7, s8, s9, s10, .val q.d]) := by
  intro s0 s1 s2 s3 s5 s6 s7 s8 s9 s10
  obtain ⟨b1, b2, b3⟩ := b
  have n1 := nL_len k0 b1
  have n2 := nL_len k0 b2
  have n3 := nL_len k0 b3
  have t1 := vStr1_eq k0 (by omega) b1
  have t2 := vStr1_eq k0 (by omega) b2
  have t3 := vStr1_eq k0 (by omega) b3
  have ad : ∀ l : List Nat, l.length ≤ 10001000 → vAdd (.str (mkS l)) (.str (Str.ofString " ")) = some (.str (mkS (l ++ [32]))) := fun l h => by
    rw [spc]
    exact vAdd_s (by rw [List.length_cons, List.length_nil]; unfold lim; omega)
  have an : ∀ (l : List Nat) (i : Int), l.length ≤ 10001000 → (nL i).length ≤ 101 → vAdd (.str (mkS l)) (.str (nS i)) = some (.str (mkS (l ++ nL i))) := fun l i h h' => vAdd_s (by unfold lim; omega)
  have a1 := ad l (by omega)
  have a2 := an (l ++ [32]) q.x (by simp; omega) (by omega)
  have a3 := ad (l ++ [32] ++ nL q.x) (by simp; omega)
  have a4 := an (l ++ [32] ++ nL q.x ++ [32]) q.y (by simp; omega) (by omega)
  have a5 := ad (l ++ [32] ++ nL q.x ++ [32] ++ nL q.y) (by simp; omega)
  have a6 := an (l ++ [32] ++ nL q.x ++ [32] ++ nL q.y ++ [32]) q.w (by simp; omega) (by omega)
  have ee : l ++ ((([32] ++ nL q.x) ++ ([32] ++ nL q.y)) ++ ([32] ++ nL q.w)) = l ++ [32] ++ nL q.x ++ [32] ++ nL q.y ++ [32] ++ nL q.w := by simp only [List.append_assoc]
  rw [ee]
  rw [show q.d = .tuple [.int q.x, .int q.y, .int q.w] from rfl]
  generalize nS q.x = x at *
  generalize nS q.y = y at *
  generalize nS q.w = w at *
  generalize mkS (l ++ [32] ++ nL q.x ++ [32] ++ nL q.y ++ [32] ++ nL q.w) = z6 at *
  generalize mkS (l ++ [32] ++ nL q.x ++ [32] ++ nL q.y ++ [32]) = z5 at *
  generalize mkS (l ++ [32] ++ nL q.x ++ [32] ++ nL q.y) = z4 at *
  generalize mkS (l ++ [32] ++ nL q.x ++ [32]) = z3 at *
  generalize mkS (l ++ [32] ++ nL q.x) = z2 at *
  generalize mkS (l ++ [32]) = z1 at *
  generalize mkS l = z0 at *
  unfold b_law_3
  push_cast [t1, t2, t3, a1, a2, a3, a4, a5, a6]
def ptL (q : Pt) : List Nat := (([32] ++ nL q.x) ++ ([32] ++ nL q.y)) ++ ([32] ++ nL q.w)
theorem lnP_pt (x : Pr) : lnP x = tl wdQ ++ ([32] ++ nL x.2.1) ++ (x.2.2 :: x.1).flatMap ptL := by
  have r : ∀ h : List Pt, (wds h).flatMap (fun y => [32] ++ tl y) = h.flatMap ptL := fun h => by
    unfold wds fl3
    rw [List.flatMap_map, List.flatMap_assoc]
    congr 1
    funext q
    simp [ptL, nS, tl_mkS]
  show lnQ _ _ _ = _
  rw [lnQ_eq]
  unfold pcW
  rw [List.flatMap_cons, r, List.append_assoc (tl wdQ)]
  rfl
theorem pcS : Str.ofString "piece " = mkS (tl wdQ ++ [32]) := by
  rw [wdQ_eq]
  exact lit_mkS "piece "
theorem due_pr {k : Nat} (k2 : 2 ≤ k) (hk : k ≤ 100) {x : Pr} (W : WrOk k x) (l : List Nat) (hl : l.length ≤ 5000000) : ∀ s0 s1 s2 s3 s7 s8 s9 s10 s11 : Slot, ∃ s3' s10' s11', b_law_2 [s0, s1, s2, s3, .val (.str (mkS l)), .val (pgD x.1), .val (moD x.2.1 x.2.2), s7, s8, s9, s10, s11] = some (.nx [s0, s1, s2, s3', .val (.str (mkS (l ++ (lnP x ++ [10])))), .val (pgD x.1), .val (moD x.2.1 x.2.2), s7, s8, s9, s10', s11']) := by
  obtain ⟨h, t, v⟩ := x
  intro s0 s1 s2 s3 s7 s8 s9 s10 s11
  have ln := W.ln k2 hk
  rw [List.length_append, List.length_cons, List.length_nil] at ln
  have b : ∀ q ∈ v :: h, q.Bz k := W.bz
  have n60 : h.length ≤ 60 := W.len
  have e5 : (tl wdQ).length = 5 := by rw [wdQ_eq]; rfl
  have bt := W.bt k2
  have nt := nL_len (by omega) bt
  have a0 : vAdd (.str (mkS l)) (.str (Str.ofString "piece ")) = some (.str (mkS (l ++ (tl wdQ ++ [32])))) := by
    rw [pcS]
    exact vAdd_s (by rw [List.length_append, e5, List.length_cons, List.length_nil]; unfold lim; omega)
  have st : vStr1 (.int t) = some (.str (nS t)) := vStr1_eq (k := k) (by omega) (by omega) bt
  have a1 : vAdd (.str (mkS (l ++ (tl wdQ ++ [32])))) (.str (nS t)) = some (.str (mkS (l ++ (tl wdQ ++ [32]) ++ nL t))) := vAdd_s (by
    have nt : (nL t).length ≤ k + 1 := nt
    rw [List.length_append, List.length_append, e5, List.length_cons, List.length_nil]; unfold lim; omega)
  have va : vAdd (.tuple [v.d]) (.tuple (dP h)) = some (.tuple (v.d :: dP h)) := by
    show (if _ then _ else none) = _
    rw [if_pos (by rw [dP_length, List.length_cons, List.length_nil]; unfold lim; omega)]
    rfl
  generalize hL : l ++ (tl wdQ ++ [32]) ++ nL t = l2 at *
  have nt2 : (nL t).length ≤ k + 1 := nt
  have l2n : l2.length ≤ 5001000 := by
    rw [← hL, List.length_append, List.length_append, List.length_append, e5, List.length_cons, List.length_nil]; omega
  obtain ⟨_, e, s11', rfl⟩ := forG_pre (t := tName 11) (body := b_law_3) Pt.d (fun pre env => ∃ w, env = [s0, s1, s2, .val (.int t), .val (.str (mkS (l2 ++ pre.flatMap ptL))), .val (pgD h), .val (moD t v), s7, s8, s9, .val v.d, w]) (v :: h) [] [s0, s1, s2, .val (.int t), .val (.str (mkS l2)), .val (pgD h), .val (moD t v), s7, s8, s9, .val v.d, s11] ⟨s11, by simp⟩ (by
    rintro pre q post env ee ⟨w, rfl⟩
    rw [List.nil_append] at ee
    have mq : q ∈ v :: h := by rw [ee]; simp
    have lp : (pre.flatMap ptL).length ≤ (lnP (h, t, v)).length := by
      have q1 : ((v :: h).flatMap ptL).length = (pre.flatMap ptL).length + ((q :: post).flatMap ptL).length := by rw [ee, List.flatMap_append, List.length_append]
      rw [lnP_pt]
      show _ ≤ (tl wdQ ++ ([32] ++ nL t) ++ (v :: h).flatMap ptL).length
      rw [List.length_append]; omega
    have du := due_pt (by omega) hk (b q mq) (l2 ++ pre.flatMap ptL) (by rw [List.length_append]; omega) s0 s1 s2 (.val (.int t)) (.val (pgD h)) (.val (moD t v)) s7 s8 s9 (.val v.d)
    refine ⟨_, _, rfl, .inl du, .val q.d, ?_⟩
    rw [List.flatMap_append, List.flatMap_cons, List.flatMap_nil, List.append_nil, ← List.append_assoc l2 (pre.flatMap ptL) (ptL q)]
    rfl)
  rw [List.nil_append] at e
  have lq : lnP (h, t, v) = tl wdQ ++ ([32] ++ nL t) ++ (v :: h).flatMap ptL := lnP_pt (h, t, v)
  have a2 : vAdd (.str (mkS (l2 ++ (v :: h).flatMap ptL))) (.str (Str.ofString "\n")) = some (.str (mkS (l2 ++ (v :: h).flatMap ptL ++ [10]))) := by
    rw [nlS]
    refine vAdd_s ?_
    rw [lq, List.length_append] at ln
    rw [List.length_append, List.length_cons, List.length_nil]
    unfold lim
    omega
  refine ⟨.val (.int t), .val v.d, s11', ?_⟩
  have ez : l ++ (lnP (h, t, v) ++ [10]) = l2 ++ (v :: h).flatMap ptL ++ [10] := by rw [lq, ← hL]; simp only [List.append_assoc]
  rw [ez]
  have e0 : asTpl (.tuple (v.d :: dP h)) = some ((v :: h).map Pt.d) := rfl
  have pg : pgD h = .tuple (dP h) := rfl
  have mo : moD t v = .tuple [.int t, v.d] := rfl
  show b_law_2 [s0, s1, s2, s3, .val (.str (mkS l)), .val (pgD h), .val (moD t v), s7, s8, s9, s10, s11] = some (.nx [s0, s1, s2, .val (.int t), .val (.str (mkS (l2 ++ (v :: h).flatMap ptL ++ [10]))), .val (pgD h), .val (moD t v), s7, s8, s9, .val v.d, s11'])
  rw [pg, mo] at e ⊢
  generalize mkS (l2 ++ (v :: h).flatMap ptL ++ [10]) = z3 at *
  generalize mkS (l2 ++ (v :: h).flatMap ptL) = z2 at *
  generalize mkS l2 = z1 at *
  generalize mkS (l ++ (tl wdQ ++ [32])) = z4 at *
  generalize mkS l = z0 at *
  generalize nS t = ts at *
  generalize (v :: h).map Pt.d = L at *
  generalize dP h = G at *
  generalize v.d = vd at *
  unfold b_law_2
  push_cast [a0, st, a1, va, e0, e, a2]
theorem law_true (ns : List Int) (hn : ns.length ≤ 63) : F_law [.list (ns.map PyData.int)] = some (.bool true) := by
  have one : ∀ c : Int, ∃ x : Pr, WrOk 25 x ∧ PrOk 25 25 5 x ∧ F_law_polygon [.int c] = some (pgD x.1) ∧ ∃ (ps : List Int) (f0 f1 : Int) (g : Str), F_law_parts [.int (c + 1), .list [.int 7, .int 200]] = some (.list (dI ps)) ∧ (dI ps)[0]? = some (.int f0) ∧ (dI ps)[1]? = some (.int f1) ∧ atD [.str "level", .str "grid", .str "grid2", .str "grid4", .str "free", .str "free2", .str "free4"] f0 = some (.str g) ∧ F_law_motion [.int (c + 2), .int f1, .str g] = some (moD x.2.1 x.2.2) := fun c => by
    obtain ⟨h, h1, h2, h3, h4⟩ := law_polygon_eq c
    obtain ⟨ps, f, hq, _, hf⟩ := law_parts_f (c + 1) [7, 200] (by
      intro s hs
      simp only [List.mem_cons, List.not_mem_nil, or_false] at hs
      rcases hs with rfl | rfl <;> exact ⟨by decide, bd_lit (by decide)⟩) (by decide)
    obtain ⟨i0, a0, b0⟩ := hf 0 7 rfl
    obtain ⟨i1, a1, b1⟩ := hf 1 200 rfl
    have gr : ∃ g : Str, atD [.str "level", .str "grid", .str "grid2", .str "grid4", .str "free", .str "free2", .str "free4"] (f 0) = some (.str g) ∧ (g = "level" ∨ g = "grid" ∨ g = "grid2" ∨ g = "grid4" ∨ g = "free" ∨ g = "free2" ∨ g = "free4") := by
      have : f 0 = 0 ∨ f 0 = 1 ∨ f 0 = 2 ∨ f 0 = 3 ∨ f 0 = 4 ∨ f 0 = 5 ∨ f 0 = 6 := by omega
      rcases this with z | z | z | z | z | z | z
      · rw [z]; exact ⟨"level", rfl, .inl rfl⟩
      · rw [z]; exact ⟨"grid", rfl, .inr (.inl rfl)⟩
      · rw [z]; exact ⟨"grid2", rfl, .inr (.inr (.inl rfl))⟩
      · rw [z]; exact ⟨"grid4", rfl, .inr (.inr (.inr (.inl rfl)))⟩
      · rw [z]; exact ⟨"free", rfl, .inr (.inr (.inr (.inr (.inl rfl))))⟩
      · rw [z]; exact ⟨"free2", rfl, .inr (.inr (.inr (.inr (.inr (.inl rfl)))))⟩
      · rw [z]; exact ⟨"free4", rfl, .inr (.inr (.inr (.inr (.inr (.inr rfl)))))⟩
    obtain ⟨g, hg, hgs⟩ := gr
    obtain ⟨n, hn1⟩ : ∃ n : Nat, f 1 = (n : Int) := ⟨(f 1).toNat, by omega⟩
    obtain ⟨t, v, hm, qt, vb, _⟩ := law_motion_eq (c + 2) n (by omega) g hgs
    rw [← hn1] at hm
    refine ⟨(h, t, v), ⟨fun q hq => ?_, fun q hq => (h3 q hq).sz (by decide), h2, by show h.length ≤ 60; omega, ⟨qt.h0, qt.h4⟩⟩, ⟨h2, fun q hq => (h3 q hq).mono (by decide), h4, qt, vb.mono (by decide)⟩, h1, ps, f 0, f 1, g, hq, i0, i1, hg, hm⟩
    rcases List.mem_cons.mp hq with rfl | hq
    · exact vb.mono (by decide)
    · exact (h3 q hq).mono (by decide)
  obtain ⟨φ, hφ⟩ : ∃ φ : Int → Pr, ∀ c, WrOk 25 (φ c) ∧ PrOk 25 25 5 (φ c) ∧ F_law_polygon [.int c] = some (pgD (φ c).1) ∧ ∃ (ps : List Int) (f0 f1 : Int) (g : Str), F_law_parts [.int (c + 1), .list [.int 7, .int 200]] = some (.list (dI ps)) ∧ (dI ps)[0]? = some (.int f0) ∧ (dI ps)[1]? = some (.int f1) ∧ atD [.str "level", .str "grid", .str "grid2", .str "grid4", .str "free", .str "free2", .str "free4"] f0 = some (.str g) ∧ F_law_motion [.int (c + 2), .int f1, .str g] = some (moD (φ c).2.1 (φ c).2.2) :=
    ⟨fun c => (one c).choose, fun c => (one c).choose_spec⟩
  have cut : cutD (ns.map PyData.int) none (some 8) = (ns.take 8).map PyData.int := by
    by_cases h8 : 8 ≤ ns.length
    · have := cut_to (ns.map PyData.int) 8 (by rw [List.length_map]; exact h8)
      rw [List.map_take]
      exact this
    · have e : ns.take 8 = ns := List.take_of_length_le (by omega)
      rw [e]
      unfold cutD
      rw [HT.sIx_none, show (8 : Int) = ((8 : Nat) : Int) from rfl, HT.sIx_nat, List.length_map, Nat.min_eq_right (by omega), Nat.sub_zero, List.drop_zero]
      exact List.take_of_length_le (by rw [List.length_map]; exact Nat.le_refl _)
  have tl8 : (ns.take 8).length ≤ 8 := by rw [List.length_take]; omega
  generalize hGS : ([.str "level", .str "grid", .str "grid2", .str "grid4", .str "free", .str "free2", .str "free4"] : List D) = GS at *
  obtain ⟨_, e1, w3, w6, w9, rfl⟩ := forG_idx (t := tName 3) (body := b_law_1) (fun i env => ∃ w3 w6 w9, env = [.val (.list (ns.map PyData.int)), .own (((ns.take i).map φ).map prD), .val (.list GS), w3, .un, .un, w6, .un, .un, w9, .un, .un]) (ns.take 8).length [.val (.list (ns.map PyData.int)), .own [], .val (.list GS), .un, .un, .un, .un, .un, .un, .un, .un, .un] ⟨.un, .un, .un, rfl⟩ (by
    rintro i env hi ⟨w3, w6, w9, rfl⟩
    have il : i < ns.length := by rw [List.length_take] at hi; omega
    have i8 : i < 8 := by omega
    obtain ⟨c, hc⟩ : ∃ c, ns[i]? = some c := ⟨ns[i], List.getElem?_eq_getElem il⟩
    obtain ⟨_, _, h1, ps, f0, f1, g, h2, h3, h4, h5, h6⟩ := hφ c
    have ix : atD (ns.map PyData.int) (i : Int) = some (.int c) := by rw [atD_nat, List.getElem?_map, hc]; rfl
    have ll : (((ns.take i).map φ).map prD).length < lim := by rw [List.length_map, List.length_map, List.length_take]; unfold lim; omega
    have ap : ((ns.take i).map φ).map prD ++ [.tuple [pgD (φ c).1, moD (φ c).2.1 (φ c).2.2]] = ((ns.take (i + 1)).map φ).map prD := by
      rw [List.take_add_one, hc]; simp [List.map_append]; rfl
    refine ⟨_, [.val (.list (ns.map PyData.int)), .own (((ns.take (i + 1)).map φ).map prD), .val (.list GS), .val (.int (i : Int)), .un, .un, .val (moD (φ c).2.1 (φ c).2.2), .un, .un, .val (.list (dI ps)), .un, .un], rfl, .inl ?_, _, _, _, rfl⟩
    unfold b_law_1
    generalize ((ns.take (i + 1)).map φ).map prD = B at *
    generalize ((ns.take i).map φ).map prD = A at *
    generalize ns.map PyData.int = N at *
    generalize pgD (φ c).1 = G at *
    generalize moD (φ c).2.1 (φ c).2.2 = M at *
    push_cast [ix, h1, h2, h3, h4, h5, h6, if_pos ll, ap])
  have tk : ns.take (ns.take 8).length = ns.take 8 := by
    rw [List.length_take]
    by_cases h8 : 8 ≤ ns.length
    · rw [Nat.min_eq_left h8]
    · rw [Nat.min_eq_right (by omega), List.take_length, List.take_of_length_le (by omega)]
  rw [tk] at e1
  have e1 : forG (tName 3) b_law_1 (rngD 0 (ns.take 8).length) [.val (.list (ns.map PyData.int)), .own [], .val (.list GS), .un, .un, .un, .un, .un, .un, .un, .un, .un] = some (.nx [.val (.list (ns.map PyData.int)), .own (((ns.take 8).map φ).map prD), .val (.list GS), w3, .un, .un, w6, .un, .un, w9, .un, .un]) := e1
  generalize hG : (ns.take 8).map φ = P at *
  have H : ∀ x ∈ P, WrOk 25 x ∧ PrOk 25 25 5 x := fun x hx => by
    rw [← hG] at hx
    obtain ⟨c, _, rfl⟩ := List.mem_map.mp hx
    obtain ⟨c1, c2, _⟩ := hφ c
    exact ⟨c1, c2⟩
  have hl : P.length ≤ 8 := by rw [← hG, List.length_map]; exact tl8
  have wf := write_paper_eq (k := 25) (by decide) (by decide) (P := P) (fun x hx => (H x hx).1) (by omega)
  have rf := read_paper_eq (k := 25) (by decide) (by decide) (P := P) (fun x hx => (H x hx).1) (by omega)
  have sh := pp_show (i := 25) (j := 25) (n := 5) (by decide) (by decide) (P := P) (fun x hx => (H x hx).2) (by omega)
  have vq := (vEq_self (pp_shaped P)).1
  obtain ⟨_, e2, w3', w5, w6', w10, w11, rfl⟩ := forG_pre (t := tTuple [(tName 5), (tName 6)]) (body := b_law_2) prD (fun pre env => ∃ w3 w5 w6 w10 w11, env = [.val (.list (ns.map PyData.int)), .val (.list (P.map prD)), .val (.list GS), w3, .val (.str (mkS (txP pre))), w5, w6, .un, .un, w9, w10, w11]) P [] [.val (.list (ns.map PyData.int)), .val (.list (P.map prD)), .val (.list GS), w3, .val (.str (Str.ofString "")), .un, w6, .un, .un, w9, .un, .un] ⟨w3, .un, w6, .un, .un, by rw [emS]; rfl⟩ (by
    rintro pre x post env ee ⟨w3, w5, w6, w10, w11, rfl⟩
    rw [List.nil_append] at ee
    have mh : x ∈ P := by rw [ee]; simp
    have pl : pre.length ≤ 8 := by
      have := congrArg List.length ee
      rw [List.length_append] at this; omega
    have lt : (txP pre).length ≤ 5000000 := by
      have := flat_le (f := fun x => lnP x ++ [10]) (m := 20000) (xs := pre) (fun x hx => (H x (by rw [ee]; exact List.mem_append_left _ hx)).1.ln (by decide) (by decide))
      unfold txP
      omega
    obtain ⟨s3, s10, s11, du⟩ := due_pr (k := 25) (by decide) (by decide) (H x mh).1 (txP pre) lt (.val (.list (ns.map PyData.int))) (.val (.list (P.map prD))) (.val (.list GS)) w3 .un .un w9 w10 w11
    refine ⟨_, _, rfl, .inl du, s3, .val (pgD x.1), .val (moD x.2.1 x.2.2), s10, s11, ?_⟩
    unfold txP
    rw [List.flatMap_append, List.flatMap_cons, List.flatMap_nil, List.append_nil])
  rw [List.nil_append] at e2
  have vl : vList (.list (P.map prD)) = some (.list (P.map prD)) := rfl
  have sl : vSlice (.list (ns.map PyData.int)) none (some 8) = some (.list ((ns.take 8).map PyData.int)) := by
    show some (PyData.list (cutD (ns.map PyData.int) none (some 8))) = _
    rw [cut]
  have rg : vRange1 (.int (((ns.take 8).map PyData.int).length : Int)) = some (rngD 0 (ns.take 8).length) := by
    rw [List.length_map, vRange1_int (by omega)]; rfl
  unfold F_law g_law
  have vs := vEq_s (PyData.list (P.map prD)).shown
  generalize (ns.take 8).map PyData.int = N8 at *
  generalize rngD 0 (ns.take 8).length = RG at *
  generalize ns.map PyData.int = N at *
  generalize P.map prD = A at *
  generalize mkS (txP P) = z at *
  push_cast [sl, hGS, rg, e1, e2, vl, wf, rf, sh, vq, vs, eq_self]
end Law
namespace Law
open PySem PySem.Spec PyProof.Rows L2 Dn
/-! ### the walk -/
def topS (i : Nat) : Stmt := PySem.Challenge.pw_cutandlaid_k46_texts_of_papers.main.body.getD i (.Pass ⟨0, 0, 0, 0⟩)
structure Bn (mg : Str → Option Value) : Prop where
  abs : mg "abs" = none
  any : mg "any" = none
  enumerate : mg "enumerate" = none
  int : mg "int" = none
  len : mg "len" = none
  list : mg "list" = none
  range : mg "range" = none
  repr : mg "repr" = none
  set : mg "set" = none
  str : mg "str" = none
  tuple : mg "tuple" = none
section
variable {P : Program} {w : World} {K : PySem.W.Frag} {mg : Str → Option Value} {base : Heap}
abbrev st_words_of : Stmt := topS 14
abbrev names_words_of : List Str := ["points", "p", "n"]
theorem sc_words_of : FnScope names_words_of ["points"] (defScope st_words_of) := ⟨rfl, rfl, rfl, by decide +kernel, rfl, by decide +kernel, by decide +kernel⟩
theorem ok_words_of (B : Bn mg) (T : Df K mg "words_of" st_words_of ["points"]) : Ok P w K mg base "words_of" 1 1 F_words_of := by
  have nd := sc_words_of.nd
  refine ok_by names_words_of ["points"] g_words_of T sc_words_of (by decide) rfl rfl rfl rfl fun f cdv A out s H hr hG => ?_
  exact (psd_one (sd_ret (pd_lc2 (own := [("p", 1), ("n", 2)]) (gi := (gLst (gVar 0))) (t := (tName 1)) (gc := gYes) (vs1 := [2]) (gi1 := (gTpl (gVar 1))) (t1 := (tName 2)) (gc1 := gYes) (ge := (gArgs (l1 vStr1) (aCons (gVar 2) aNil))) rfl nd (id_list (pdv 0)) (blkOk_by (own := [("p", 1), ("n", 2)]) (N := names_words_of) (sc := defScope st_words_of) (by decide +kernel)) (by decide) (fun _ _ _ _ _ => (gc_name (i := 1) nd rfl (by first | exact Or.inl rfl | exact Or.inr rfl))) (fun _ _ _ _ _ => ptsd_nil) (fun _ _ _ _ _ => (id_tup (pdv 1))) (fun _ _ _ _ _ => (gc_name (i := 2) nd rfl (by first | exact Or.inl rfl | exact Or.inr rfl))) (fun _ _ _ _ _ => ptsd_nil) (fun _ _ _ _ _ => (pd_callTy call_str_int ca_str1 (by rfl) B.str (by decide +kernel) (pad_cons (pdv 2) pad_nil))) (tgc_name (by decide)) (tgc_name (by decide)))))
abbrev st_write_paper : Stmt := topS 15
abbrev names_write_paper : List Str := ["paper", "lines", "piece", "motion"]
theorem sc_write_paper : FnScope names_write_paper ["paper"] (defScope st_write_paper) := ⟨rfl, rfl, rfl, by decide +kernel, rfl, by decide +kernel, by decide +kernel⟩
theorem ok_write_paper (B : Bn mg) (T : Df K mg "write_paper" st_write_paper ["paper"]) (C_PIECE : Gc K mg "PIECE" c_PIECE) (O_words_of : Ok P w K mg base "words_of" 1 1 F_words_of) : Ok P w K mg base "write_paper" 2 1 F_write_paper := by
  have nd := sc_write_paper.nd
  refine ok_by names_write_paper ["paper"] g_write_paper T sc_write_paper (by decide) rfl rfl rfl rfl fun f cdv A out s H hr hG => ?_
  exact (psd_cons (sd_own (i := 1) nd rfl (by first | exact Or.inl rfl | exact Or.inr rfl) pad_nil)
      (psd_cons (sd_for PassesOwn.never rfl (id_list (pdv 0)) (PGq.d (gq_tup rfl (gsq_cons (gq_name (i := 2) nd rfl (by first | exact Or.inl rfl | exact Or.inr rfl)) (gsq_cons (gq_name (i := 3) nd rfl (by first | exact Or.inl rfl | exact Or.inr rfl)) gsq_nil)))) (psd_one (sd_app (i := 1) rfl (by first | exact Or.inl rfl | exact Or.inr (Or.inl rfl) | exact Or.inr (Or.inr rfl)) (pd_op op_addA od_add (pd_join pd_str (pd_lstS (pas_cons (pd_gc C_PIECE) (pas_cons (pd_callTy call_str_int ca_str1 (by rfl) B.str (by decide +kernel) (pad_cons (pd_ix (pdv 3) pd_int (fun _ _ => rfl)) pad_nil)) (pas_star (pd_fn O_words_of (hr.mono (by decide)) hG (pad_cons (pd_lstS (pas_cons (pd_ix (pdv 3) pd_int (fun _ _ => rfl)) (pas_star (pdv 2) pas_nil))) pad_nil)) pas_nil))))) pd_str))))
      (psd_one (sd_ret (pd_join pd_str (pdw 1))))))
abbrev st_law_parts : Stmt := topS 25
abbrev names_law_parts : List Str := ["_law_cell_here", "_law_sizes", "_law_parts_here", "_law_rest", "_law_k", "_law_mixed"]
theorem sc_law_parts : FnScope names_law_parts ["_law_cell_here", "_law_sizes"] (defScope st_law_parts) := ⟨rfl, rfl, rfl, by decide +kernel, rfl, by decide +kernel, by decide +kernel⟩
theorem ok_law_parts (B : Bn mg) (T : Df K mg "_law_parts" st_law_parts ["_law_cell_here", "_law_sizes"]) : Ok P w K mg base "_law_parts" 1 2 F_law_parts := by
  have nd := sc_law_parts.nd
  refine ok_by names_law_parts ["_law_cell_here", "_law_sizes"] g_law_parts T sc_law_parts (by decide) rfl rfl rfl rfl fun f cdv A out s H hr hG => ?_
  exact (psd_cons (sd_own (i := 2) nd rfl (by first | exact Or.inl rfl | exact Or.inr rfl) pad_nil)
      (psd_cons (sd_set (i := 3) nd rfl (by first | exact Or.inl rfl | exact Or.inr rfl) (pd_op op_subA od_sub (pdv 0) (pd_op op_pow od_pow pd_int pd_int)))
      (psd_cons (sd_for PassesOwn.never rfl (id_range1 (by rfl) B.range (pd_callB call_len ca_len (by rfl) B.len (by decide +kernel) (pad_cons (pdv 1) pad_nil))) (PGq.d (gq_name (i := 4) nd rfl (by first | exact Or.inl rfl | exact Or.inr rfl))) (psd_one (sd_if (pt_cmpD op_ge od_cmp (pdv 3) pd_int (nomark _)) (psd_cons (sd_app (i := 2) rfl (by first | exact Or.inl rfl | exact Or.inr (Or.inl rfl) | exact Or.inr (Or.inr rfl)) (pd_op op_modN od_mod (pd_callTy call_int1 ca_int (by rfl) B.int (by decide +kernel) (pad_cons (pdv 3) pad_nil)) (pd_ix (pdv 1) (pdv 4) (fun _ _ => rfl))))
      (psd_one (sd_set (i := 3) nd rfl (by first | exact Or.inl rfl | exact Or.inr rfl) (pd_op op_fdivB od_fdiv (pdv 3) (pd_ix (pdv 1) (pdv 4) (fun _ _ => rfl)))))) (psd_cons (sd_set (i := 5) nd rfl (by first | exact Or.inl rfl | exact Or.inr rfl) (pd_op op_modN od_mod (pd_callTy call_int1 ca_int (by rfl) B.int (by decide +kernel) (pad_cons (pd_op op_addA od_add (pd_op op_addA od_add (pd_op op_mulB od_mul (pdv 0) pd_int) (pd_op op_mulB od_mul (pdv 4) pd_int)) pd_int) pad_nil)) pd_int))
      (psd_cons (sd_set (i := 5) nd rfl (by first | exact Or.inl rfl | exact Or.inr rfl) (pd_op op_modN od_mod (pd_callTy call_int1 ca_int (by rfl) B.int (by decide +kernel) (pad_cons (pd_op op_addA od_add (pd_op op_addA od_add (pd_op op_mulB od_mul (pdv 5) (pdv 5)) (pd_op op_mulB od_mul pd_int (pdv 4))) pd_int) pad_nil)) pd_int))
      (psd_one (sd_app (i := 2) rfl (by first | exact Or.inl rfl | exact Or.inr (Or.inl rfl) | exact Or.inr (Or.inr rfl)) (pd_op op_modN od_mod (pd_callTy call_int1 ca_int (by rfl) B.int (by decide +kernel) (pad_cons (pdv 5) pad_nil)) (pd_ix (pdv 1) (pdv 4) (fun _ _ => rfl))))))))))
      (psd_one (sd_ret (pdw 2))))))
abbrev st_law_divisor : Stmt := topS 26
abbrev names_law_divisor : List Str := ["_law_a", "_law_b", "_law_k"]
theorem sc_law_divisor : FnScope names_law_divisor ["_law_a", "_law_b"] (defScope st_law_divisor) := ⟨rfl, rfl, rfl, by decide +kernel, rfl, by decide +kernel, by decide +kernel⟩
theorem ok_law_divisor (B : Bn mg) (T : Df K mg "_law_divisor" st_law_divisor ["_law_a", "_law_b"]) : Ok P w K mg base "_law_divisor" 1 2 F_law_divisor := by
  have nd := sc_law_divisor.nd
  refine ok_by names_law_divisor ["_law_a", "_law_b"] g_law_divisor T sc_law_divisor (by decide) rfl rfl rfl rfl fun f cdv A out s H hr hG => ?_
  exact (psd_cons (sd_set (i := 0) nd rfl (by first | exact Or.inl rfl | exact Or.inr rfl) (pd_callB call_abs ca_abs (by rfl) B.abs (by decide +kernel) (pad_cons (pdv 0) pad_nil)))
      (psd_cons (sd_set (i := 1) nd rfl (by first | exact Or.inl rfl | exact Or.inr rfl) (pd_callB call_abs ca_abs (by rfl) B.abs (by decide +kernel) (pad_cons (pdv 1) pad_nil)))
      (psd_cons (sd_for PassesOwn.never rfl (id_range1 (by rfl) B.range pd_int) (PGq.d (gq_name (i := 2) nd rfl (by first | exact Or.inl rfl | exact Or.inr rfl))) (psd_cons (sd_if (pt_cmpD (op_eqA (hu64 hr)) od_eq (pdv 1) pd_int (nomark _)) (psd_one (sd_ret (pdv 0))) psd_nil)
      (psd_one (sd_par (i := 0) (j := 1) rfl nd rfl rfl (by decide) rfl rfl (pdv 1) (pd_op op_modN od_mod (pd_callTy call_int1 ca_int (by rfl) B.int (by decide +kernel) (pad_cons (pdv 0) pad_nil)) (pdv 1))))))
      (psd_one (sd_ret (pdv 0))))))
abbrev st_law_point : Stmt := topS 30
abbrev names_law_point : List Str := ["_law_x", "_law_y", "_law_w", "_law_divisor_here"]
theorem sc_law_point : FnScope names_law_point ["_law_x", "_law_y", "_law_w"] (defScope st_law_point) := ⟨rfl, rfl, rfl, by decide +kernel, rfl, by decide +kernel, by decide +kernel⟩
theorem ok_law_point (B : Bn mg) (T : Df K mg "_law_point" st_law_point ["_law_x", "_law_y", "_law_w"]) (O_law_divisor : Ok P w K mg base "_law_divisor" 1 2 F_law_divisor) : Ok P w K mg base "_law_point" 2 3 F_law_point := by
  have nd := sc_law_point.nd
  refine ok_by names_law_point ["_law_x", "_law_y", "_law_w"] g_law_point T sc_law_point (by decide) rfl rfl rfl rfl fun f cdv A out s H hr hG => ?_
  exact (psd_cons (sd_set (i := 3) nd rfl (by first | exact Or.inl rfl | exact Or.inr rfl) (pd_fn O_law_divisor (hr.mono (by decide)) hG (pad_cons (pd_fn O_law_divisor (hr.mono (by decide)) hG (pad_cons (pdv 0) (pad_cons (pdv 1) pad_nil))) (pad_cons (pdv 2) pad_nil))))
      (psd_one (sd_ret (pd_tup (pad_cons (pd_op op_fdivB od_fdiv (pdv 0) (pdv 3)) (pad_cons (pd_op op_fdivB od_fdiv (pdv 1) (pdv 3)) (pad_cons (pd_op op_fdivB od_fdiv (pdv 2) (pdv 3)) pad_nil)))))))
abbrev st_law_motion : Stmt := topS 36
abbrev names_law_motion : List Str := ["_law_cell_here", "_law_k", "_law_group", "_law_parts_here", "_law_x", "_law_w", "_law_turns"]
theorem sc_law_motion : FnScope names_law_motion ["_law_cell_here", "_law_k", "_law_group"] (defScope st_law_motion) := ⟨rfl, rfl, rfl, by decide +kernel, rfl, by decide +kernel, by decide +kernel⟩
theorem ok_law_motion (B : Bn mg) (T : Df K mg "_law_motion" st_law_motion ["_law_cell_here", "_law_k", "_law_group"]) (O_law_parts : Ok P w K mg base "_law_parts" 1 2 F_law_parts) (O_law_point : Ok P w K mg base "_law_point" 2 3 F_law_point) : Ok P w K mg base "_law_motion" 3 3 F_law_motion := by
  have nd := sc_law_motion.nd
  refine ok_by names_law_motion ["_law_cell_here", "_law_k", "_law_group"] g_law_motion T sc_law_motion (by decide) rfl rfl rfl rfl fun f cdv A out s H hr hG => ?_
  exact (psd_cons (sd_set (i := 3) nd rfl (by first | exact Or.inl rfl | exact Or.inr rfl) (pd_fn O_law_parts (hr.mono (by decide)) hG (pad_cons (pdv 0) (pad_cons (pd_lst (pad_cons pd_int (pad_cons pd_int (pad_cons pd_int (pad_cons pd_int pad_nil))))) pad_nil))))
      (psd_cons (sd_set (i := 4) nd rfl (by first | exact Or.inl rfl | exact Or.inr rfl) (pd_op op_addA od_add (pd_op op_subA od_sub (pd_op op_mulB od_mul pd_int (pdv 1)) pd_int) (pd_ix (pdv 3) pd_int (fun _ _ => rfl))))
      (psd_cons (sd_set (i := 5) nd rfl (by first | exact Or.inl rfl | exact Or.inr rfl) (pd_op op_addA od_add pd_int (pd_ix (pdv 3) pd_int (fun _ _ => rfl))))
      (psd_cons (sd_if (pt_cmpD (op_eqA (hu64 hr)) od_eq (pdv 2) pd_str (nomark _)) (psd_one (sd_ret (pd_tup (pad_cons pd_int (pad_cons (pd_fn O_law_point (hr.mono (by decide)) hG (pad_cons (pd_op op_addA od_add (pd_op op_mulB od_mul (pd_op op_subA od_sub (pd_op op_mulB od_mul pd_int (pdv 1)) pd_int) (pdv 5)) (pd_ix (pdv 3) pd_int (fun _ _ => rfl))) (pad_cons pd_int (pad_cons (pdv 5) pad_nil)))) pad_nil))))) psd_nil)
      (psd_cons (sd_if (pt_cmpD (op_inA (hu65 hr)) od_in (pdv 2) (pd_lst (pad_cons pd_str (pad_cons pd_str (pad_cons pd_str pad_nil)))) (by rfl)) (psd_cons (sd_set (i := 6) nd rfl (by first | exact Or.inl rfl | exact Or.inr rfl) (pd_dispIx (hu1 hr) (ppd_cons pd_int (ppd_cons (pd_op op_mulB od_mul pd_int (pd_op op_fdivB od_fdiv (pd_ix (pdv 3) pd_int (fun _ _ => rfl)) pd_int)) (ppd_cons (pd_ix (pdv 3) pd_int (fun _ _ => rfl)) ppd_nil))) rfl rfl (fun h => by cases h) (by decide) (pdv 2) (fun _ _ => rfl)))
      (psd_one (sd_ret (pd_tup (pad_cons (pdv 6) (pad_cons (pd_tup (pad_cons (pdv 4) (pad_cons (pd_op op_subA od_sub (pd_ix (pdv 3) pd_int (fun _ _ => rfl)) pd_int) (pad_cons pd_int pad_nil)))) pad_nil)))))) psd_nil)
      (psd_cons (sd_set (i := 6) nd rfl (by first | exact Or.inl rfl | exact Or.inr rfl) (pd_dispIx (hu1 hr) (ppd_cons pd_int (ppd_cons (pd_op op_mulB od_mul pd_int (pd_op op_fdivB od_fdiv (pd_ix (pdv 3) pd_int (fun _ _ => rfl)) pd_int)) (ppd_cons (pd_ix (pdv 3) pd_int (fun _ _ => rfl)) ppd_nil))) rfl rfl (fun h => by cases h) (by decide) (pdv 2) (fun _ _ => rfl)))
      (psd_one (sd_ret (pd_tup (pad_cons (pdv 6) (pad_cons (pd_fn O_law_point (hr.mono (by decide)) hG (pad_cons (pd_op op_addA od_add (pd_op op_mulB od_mul (pd_op op_subA od_sub (pd_op op_mulB od_mul pd_int (pdv 1)) pd_int) (pdv 5)) (pd_ix (pdv 3) pd_int (fun _ _ => rfl))) (pad_cons (pd_op op_subA od_sub (pd_ix (pdv 3) pd_int (fun _ _ => rfl)) pd_int) (pad_cons (pdv 5) pad_nil)))) pad_nil)))))))))))
abbrev st_law_turn : Stmt := topS 31
abbrev names_law_turn : List Str := ["_law_a", "_law_b", "_law_c", "_law_turn_here"]
theorem sc_law_turn : FnScope names_law_turn ["_law_a", "_law_b", "_law_c"] (defScope st_law_turn) := ⟨rfl, rfl, rfl, by decide +kernel, rfl, by decide +kernel, by decide +kernel⟩
theorem ok_law_turn (B : Bn mg) (T : Df K mg "_law_turn" st_law_turn ["_law_a", "_law_b", "_law_c"]) : Ok P w K mg base "_law_turn" 1 3 F_law_turn := by
  have nd := sc_law_turn.nd
  refine ok_by names_law_turn ["_law_a", "_law_b", "_law_c"] g_law_turn T sc_law_turn (by decide) rfl rfl rfl rfl fun f cdv A out s H hr hG => ?_
  exact (psd_cons (sd_set (i := 3) nd rfl (by first | exact Or.inl rfl | exact Or.inr rfl) (pd_op op_addA od_add (pd_op op_mulB od_mul (pd_ix (pdv 0) pd_int (fun _ _ => rfl)) (pd_op op_subA od_sub (pd_op op_mulB od_mul (pd_ix (pdv 1) pd_int (fun _ _ => rfl)) (pd_ix (pdv 2) pd_int (fun _ _ => rfl))) (pd_op op_mulB od_mul (pd_ix (pdv 2) pd_int (fun _ _ => rfl)) (pd_ix (pdv 1) pd_int (fun _ _ => rfl))))) (pd_op op_mulB od_mul (pd_ix (pdv 1) pd_int (fun _ _ => rfl)) (pd_op op_subA od_sub (pd_op op_mulB od_mul (pd_ix (pdv 2) pd_int (fun _ _ => rfl)) (pd_ix (pdv 0) pd_int (fun _ _ => rfl))) (pd_op op_mulB od_mul (pd_ix (pdv 0) pd_int (fun _ _ => rfl)) (pd_ix (pdv 2) pd_int (fun _ _ => rfl)))))))
      (psd_one (sd_ret (pd_op op_addA od_add (pdv 3) (pd_op op_mulB od_mul (pd_ix (pdv 2) pd_int (fun _ _ => rfl)) (pd_op op_subA od_sub (pd_op op_mulB od_mul (pd_ix (pdv 0) pd_int (fun _ _ => rfl)) (pd_ix (pdv 1) pd_int (fun _ _ => rfl))) (pd_op op_mulB od_mul (pd_ix (pdv 1) pd_int (fun _ _ => rfl)) (pd_ix (pdv 0) pd_int (fun _ _ => rfl)))))))))
abbrev st_law_chain : Stmt := topS 33
abbrev names_law_chain : List Str := ["_law_points", "_law_chain_here", "_law_p", "_law_k"]
theorem sc_law_chain : FnScope names_law_chain ["_law_points"] (defScope st_law_chain) := ⟨rfl, rfl, rfl, by decide +kernel, rfl, by decide +kernel, by decide +kernel⟩
theorem ok_law_chain (B : Bn mg) (T : Df K mg "_law_chain" st_law_chain ["_law_points"]) (O_law_turn : Ok P w K mg base "_law_turn" 1 3 F_law_turn) : Ok P w K mg base "_law_chain" 2 1 F_law_chain := by
  have nd := sc_law_chain.nd
  refine ok_by names_law_chain ["_law_points"] g_law_chain T sc_law_chain (by decide) rfl rfl rfl rfl fun f cdv A out s H hr hG => ?_
  exact (psd_cons (sd_own (i := 1) nd rfl (by first | exact Or.inl rfl | exact Or.inr rfl) pad_nil)
      (psd_cons (sd_for PassesOwn.never rfl (id_list (pdv 0)) (PGq.d (gq_name (i := 2) nd rfl (by first | exact Or.inl rfl | exact Or.inr rfl))) (psd_cons (sd_for PassesOwn.never rfl (id_range1 (by rfl) B.range (pd_callB call_len ca_len (by rfl) B.len (by decide +kernel) (pad_cons (pdv 0) pad_nil))) (PGq.d (gq_name (i := 3) nd rfl (by first | exact Or.inl rfl | exact Or.inr rfl))) (psd_one (sd_if (PWd.pt (pw_andD (pt_cmpD op_gt od_cmp (pd_callB call_len ca_len (by rfl) B.len (by decide +kernel) (pad_cons (pdw 1) pad_nil)) pd_int (nomark _)) (pw_and1D (pt_cmpD op_le od_cmp (pd_fn O_law_turn (hr.mono (by decide)) hG (pad_cons (pd_ix (pdw 1) (pd_un un_neg ud_neg pd_int) (fun _ _ => rfl)) (pad_cons (pd_ix (pdw 1) (pd_un un_neg ud_neg pd_int) (fun _ _ => rfl)) (pad_cons (pdv 2) pad_nil)))) pd_int (nomark _))))) (psd_one (sd_pop (i := 1) rfl (by first | exact Or.inl rfl | exact Or.inr (Or.inl rfl) | exact Or.inr (Or.inr rfl)))) psd_nil)))
      (psd_one (sd_app (i := 1) rfl (by first | exact Or.inl rfl | exact Or.inr (Or.inl rfl) | exact Or.inr (Or.inr rfl)) (pdv 2)))))
      (psd_one (sd_ret (pdw 1)))))
abbrev st_law_before : Stmt := topS 32
abbrev names_law_before : List Str := ["_law_p", "_law_q"]
theorem sc_law_before : FnScope names_law_before ["_law_p", "_law_q"] (defScope st_law_before) := ⟨rfl, rfl, rfl, by decide +kernel, rfl, by decide +kernel, by decide +kernel⟩
theorem ok_law_before (B : Bn mg) (T : Df K mg "_law_before" st_law_before ["_law_p", "_law_q"]) : Ok P w K mg base "_law_before" 1 2 F_law_before := by
  have nd := sc_law_before.nd
  refine ok_by names_law_before ["_law_p", "_law_q"] g_law_before T sc_law_before (by decide) rfl rfl rfl rfl fun f cdv A out s H hr hG => ?_
  exact (psd_cons (sd_if (pt_cmpD (op_neA (hu64 hr)) od_ne (pd_op op_mulB od_mul (pd_ix (pdv 0) pd_int (fun _ _ => rfl)) (pd_ix (pdv 1) pd_int (fun _ _ => rfl))) (pd_op op_mulB od_mul (pd_ix (pdv 1) pd_int (fun _ _ => rfl)) (pd_ix (pdv 0) pd_int (fun _ _ => rfl))) (nomark _)) (psd_one (sd_ret (pd_cmp op_lt od_cmp (pd_op op_mulB od_mul (pd_ix (pdv 0) pd_int (fun _ _ => rfl)) (pd_ix (pdv 1) pd_int (fun _ _ => rfl))) (pd_op op_mulB od_mul (pd_ix (pdv 1) pd_int (fun _ _ => rfl)) (pd_ix (pdv 0) pd_int (fun _ _ => rfl))) (nomark _)))) psd_nil)
      (psd_one (sd_ret (pd_cmp op_lt od_cmp (pd_op op_mulB od_mul (pd_ix (pdv 0) pd_int (fun _ _ => rfl)) (pd_ix (pdv 1) pd_int (fun _ _ => rfl))) (pd_op op_mulB od_mul (pd_ix (pdv 1) pd_int (fun _ _ => rfl)) (pd_ix (pdv 0) pd_int (fun _ _ => rfl))) (nomark _)))))
abbrev st_law_hull : Stmt := topS 34
abbrev names_law_hull : List Str := ["_law_points", "_law_order", "_law_p", "_law_hull_here", "_law_at", "_law_q"]
theorem sc_law_hull : FnScope names_law_hull ["_law_points"] (defScope st_law_hull) := ⟨rfl, rfl, rfl, by decide +kernel, rfl, by decide +kernel, by decide +kernel⟩
theorem ok_law_hull (B : Bn mg) (T : Df K mg "_law_hull" st_law_hull ["_law_points"]) (O_law_chain : Ok P w K mg base "_law_chain" 2 1 F_law_chain) (O_law_before : Ok P w K mg base "_law_before" 1 2 F_law_before) : Ok P w K mg base "_law_hull" 3 1 F_law_hull := by
  have nd := sc_law_hull.nd
  refine ok_by names_law_hull ["_law_points"] g_law_hull T sc_law_hull (by decide) rfl rfl rfl rfl fun f cdv A out s H hr hG => ?_
  exact (psd_cons (sd_set (i := 1) nd rfl (by first | exact Or.inl rfl | exact Or.inr rfl) (pd_lst pad_nil))
      (psd_cons (sd_for PassesOwn.never rfl (id_list (pdv 0)) (PGq.d (gq_name (i := 2) nd rfl (by first | exact Or.inl rfl | exact Or.inr rfl))) (psd_one (sd_if (pt_cmpD (op_notInA (hu65 hr)) od_notIn (pdv 2) (pdv 1) (by rfl)) (psd_cons (sd_set (i := 4) nd rfl (by first | exact Or.inl rfl | exact Or.inr rfl) (pd_callB call_len ca_len (by rfl) B.len (by decide +kernel) (pad_cons (pd_lc (own := [("_law_q", 5)]) (gi := (gLst (gVar 1))) (t := (tName 5)) (gc := (gTest (gArgs F_law_before (aCons (gVar 5) (aCons (gVar 2) aNil))))) (ge := (gVar 5)) rfl nd  (id_list (pdv 1)) (blkOk_by (own := [("_law_q", 5)]) (N := names_law_hull) (sc := defScope st_law_hull) (by decide +kernel)) (fun _ _ _ _ _ => (gc_name (i := 5) nd rfl (by first | exact Or.inl rfl | exact Or.inr rfl))) (fun _ _ _ _ _ => (ptsd_one (pt_valD (pd_fn O_law_before (hr.mono (by decide)) hG (pad_cons (pdv 5) (pad_cons (pdv 2) pad_nil)))))) (fun _ _ _ _ _ => (pdv 5)) (tgc_name (by decide))) pad_nil)))
      (psd_one (sd_set (i := 1) nd rfl (by first | exact Or.inl rfl | exact Or.inr rfl) (pd_op op_addA od_add (pd_op op_addA od_add (pd_slice (pdv 1) od_none (od_some (pdv 4))) (pd_lst (pad_cons (pdv 2) pad_nil))) (pd_slice (pdv 1) (od_some (pdv 4)) od_none))))) psd_nil)))
      (psd_cons (sd_if (pt_cmpD op_lt od_cmp (pd_callB call_len ca_len (by rfl) B.len (by decide +kernel) (pad_cons (pdv 1) pad_nil)) pd_int (nomark _)) (psd_one (sd_ret pd_non)) psd_nil)
      (psd_cons (sd_set (i := 3) nd rfl (by first | exact Or.inl rfl | exact Or.inr rfl) (pd_op op_addA od_add (pd_slice (pd_fn O_law_chain (hr.mono (by decide)) hG (pad_cons (pdv 1) pad_nil)) od_none (od_some (pd_un un_neg ud_neg pd_int))) (pd_slice (pd_fn O_law_chain (hr.mono (by decide)) hG (pad_cons (pd_rev (pdv 1)) pad_nil)) od_none (od_some (pd_un un_neg ud_neg pd_int)))))
      (psd_cons (sd_if (pt_cmpD op_lt od_cmp (pd_callB call_len ca_len (by rfl) B.len (by decide +kernel) (pad_cons (pdv 3) pad_nil)) pd_int (nomark _)) (psd_one (sd_ret pd_non)) psd_nil)
      (psd_one (sd_ret (pd_callTy call_tuple_of ca_tuple (by rfl) B.tuple (by decide +kernel) (pad_cons (pdv 3) pad_nil)))))))))
abbrev st_law_polygon : Stmt := topS 35
abbrev names_law_polygon : List Str := ["_law_cell_here", "_law_parts_here", "_law_w", "_law_points", "_law_k", "_law_hull_here"]
theorem sc_law_polygon : FnScope names_law_polygon ["_law_cell_here"] (defScope st_law_polygon) := ⟨rfl, rfl, rfl, by decide +kernel, rfl, by decide +kernel, by decide +kernel⟩
theorem ok_law_polygon (B : Bn mg) (T : Df K mg "_law_polygon" st_law_polygon ["_law_cell_here"]) (O_law_parts : Ok P w K mg base "_law_parts" 1 2 F_law_parts) (O_law_hull : Ok P w K mg base "_law_hull" 3 1 F_law_hull) (O_law_point : Ok P w K mg base "_law_point" 2 3 F_law_point) : Ok P w K mg base "_law_polygon" 4 1 F_law_polygon := by
  have nd := sc_law_polygon.nd
  refine ok_by names_law_polygon ["_law_cell_here"] g_law_polygon T sc_law_polygon (by decide) rfl rfl rfl rfl fun f cdv A out s H hr hG => ?_
  exact (psd_cons (sd_set (i := 1) nd rfl (by first | exact Or.inl rfl | exact Or.inr rfl) (pd_fn O_law_parts (hr.mono (by decide)) hG (pad_cons (pdv 0) (pad_cons (pd_lst (pad_cons pd_int (pad_cons pd_int (pad_cons pd_int (pad_cons pd_int (pad_cons pd_int (pad_cons pd_int (pad_cons pd_int (pad_cons pd_int (pad_cons pd_int (pad_cons pd_int (pad_cons pd_int (pad_cons pd_int pad_nil))))))))))))) pad_nil))))
      (psd_cons (sd_set (i := 2) nd rfl (by first | exact Or.inl rfl | exact Or.inr rfl) (pd_ix (pd_lst (pad_cons pd_int (pad_cons pd_int (pad_cons pd_int (pad_cons pd_int pad_nil))))) (pd_ix (pdv 1) pd_int (fun _ _ => rfl)) (fun _ _ => rfl)))
      (psd_cons (sd_own (i := 3) nd rfl (by first | exact Or.inl rfl | exact Or.inr rfl) pad_nil)
      (psd_cons (sd_for PassesOwn.never rfl (id_range1 (by rfl) B.range (pd_op op_addA od_add pd_int (pd_ix (pdv 1) pd_int (fun _ _ => rfl)))) (PGq.d (gq_name (i := 4) nd rfl (by first | exact Or.inl rfl | exact Or.inr rfl))) (psd_one (sd_app (i := 3) rfl (by first | exact Or.inl rfl | exact Or.inr (Or.inl rfl) | exact Or.inr (Or.inr rfl)) (pd_fn O_law_point (hr.mono (by decide)) hG (pad_cons (pd_ix (pdv 1) (pd_op op_addA od_add pd_int (pd_op op_mulB od_mul pd_int (pdv 4))) (fun _ _ => rfl)) (pad_cons (pd_ix (pdv 1) (pd_op op_addA od_add pd_int (pd_op op_mulB od_mul pd_int (pdv 4))) (fun _ _ => rfl)) (pad_cons (pdv 2) pad_nil)))))))
      (psd_cons (sd_set (i := 5) nd rfl (by first | exact Or.inl rfl | exact Or.inr rfl) (pd_flat (pd_fn O_law_hull (hr.mono (by decide)) hG (pad_cons (pdw 3) pad_nil))))
      (psd_cons (sd_if (pt_isN (pdv 5)) (psd_one (sd_ret (pd_tup (pad_cons (pd_tup (pad_cons pd_int (pad_cons pd_int (pad_cons pd_int pad_nil)))) (pad_cons (pd_tup (pad_cons (pd_op op_addA od_add pd_int (pd_ix (pdv 1) pd_int (fun _ _ => rfl))) (pad_cons pd_int (pad_cons pd_int pad_nil)))) (pad_cons (pd_tup (pad_cons (pd_ix (pdv 1) pd_int (fun _ _ => rfl)) (pad_cons pd_int (pad_cons pd_int pad_nil)))) pad_nil)))))) psd_nil)
      (psd_one (sd_ret (pdv 5)))))))))
abbrev st_integer_of : Stmt := topS 16
abbrev names_integer_of : List Str := ["word", "digits", "n", "sign"]
theorem sc_integer_of : FnScope names_integer_of ["word"] (defScope st_integer_of) := ⟨rfl, rfl, rfl, by decide +kernel, rfl, by decide +kernel, by decide +kernel⟩
theorem ok_integer_of (B : Bn mg) (T : Df K mg "integer_of" st_integer_of ["word"]) : Ok P w K mg base "integer_of" 1 1 F_integer_of := by
  have nd := sc_integer_of.nd
  refine ok_by names_integer_of ["word"] g_integer_of T sc_integer_of (by decide) rfl rfl rfl rfl fun f cdv A out s H hr hG => ?_
  exact (psd_cons (sd_set (i := 1) nd rfl (by first | exact Or.inl rfl | exact Or.inr rfl) (pd_if (pt_truthD (pd_starts (pdv 0) pd_str)) (pd_slice (pdv 0) (od_some pd_int) od_none) (pdv 0)))
      (psd_cons (sd_if (PWd.pt (pw_orD (pt_notD (pt_truthD (pdv 1))) (pw_or1D (pt_valD (pd_callB (cr_any rfl) ca_any1 (by rfl) B.any (by decide +kernel) (pad_cons (pd_lc (own := [("sign", 3)]) (gi := (gStr (gVar 1))) (t := (tName 3)) (gc := gYes) (ge := (g2 vNotInS (gVar 3) (gC (.str "0123456789")))) rfl nd  (id_str (pdv 1)) (blkOk_by (own := [("sign", 3)]) (N := names_integer_of) (sc := defScope st_integer_of) (by decide +kernel)) (fun _ _ _ _ _ => (gc_name (i := 3) nd rfl (by first | exact Or.inl rfl | exact Or.inr rfl))) (fun _ _ _ _ _ => ptsd_nil) (fun _ _ _ _ _ => (pd_cmp op_notin_str od_notInS (pdv 3) pd_str (by rfl))) (tgc_name (by decide))) pad_nil)))))) (psd_one (sd_ret pd_non)) psd_nil)
      (psd_cons (sd_set (i := 2) nd rfl (by first | exact Or.inl rfl | exact Or.inr rfl) (pd_callTy call_int_str ca_intS (by rfl) B.int (by decide +kernel) (pad_cons (pdv 0) pad_nil)))
      (psd_one (sd_ret (pd_if (pt_cmpD (op_eqA (hu64 hr)) od_eq (pd_callTy call_str_int ca_str1 (by rfl) B.str (by decide +kernel) (pad_cons (pdv 2) pad_nil)) (pdv 0) (nomark _)) (pdv 2) pd_non))))))
abbrev st_integers_of : Stmt := topS 17
abbrev names_integers_of : List Str := ["words", "found", "word"]
theorem sc_integers_of : FnScope names_integers_of ["words"] (defScope st_integers_of) := ⟨rfl, rfl, rfl, by decide +kernel, rfl, by decide +kernel, by decide +kernel⟩
theorem ok_integers_of (B : Bn mg) (T : Df K mg "integers_of" st_integers_of ["words"]) (O_integer_of : Ok P w K mg base "integer_of" 1 1 F_integer_of) : Ok P w K mg base "integers_of" 2 1 F_integers_of := by
  have nd := sc_integers_of.nd
  refine ok_by names_integers_of ["words"] g_integers_of T sc_integers_of (by decide) rfl rfl rfl rfl fun f cdv A out s H hr hG => ?_
  exact (psd_cons (sd_setLc (i := 1) (own := [("word", 2)]) (gi := (gLst (gVar 0))) (t := (tName 2)) (gc := gYes) (ge := (gArgs F_integer_of (aCons (gVar 2) aNil))) rfl nd rfl rfl (sw_true rfl rfl rfl (by decide +kernel)) (id_list (pdv 0)) (blkOk_by (own := [("word", 2)]) (N := names_integers_of) (sc := defScope st_integers_of) (by decide +kernel)) (fun _ _ _ _ _ => (gc_name (i := 2) nd rfl (by first | exact Or.inl rfl | exact Or.inr rfl))) (fun _ _ _ _ _ => ptsd_nil) (fun _ _ _ _ _ => (pd_fn O_integer_of (hr.mono (by decide)) hG (pad_cons (pdv 2) pad_nil))) (tgc_name (by decide)))
      (psd_one (sd_ret (pd_if (pt_cmpD (op_inA (hu65 hr)) od_in pd_non (pdv 1) (by rfl)) pd_non (pdv 1)))))
abbrev st_common_divisor : Stmt := topS 4
abbrev names_common_divisor : List Str := ["a", "b"]
theorem sc_common_divisor : FnScope names_common_divisor ["a", "b"] (defScope st_common_divisor) := ⟨rfl, rfl, rfl, by decide +kernel, rfl, by decide +kernel, by decide +kernel⟩
theorem ok_common_divisor (B : Bn mg) (T : Df K mg "common_divisor" st_common_divisor ["a", "b"]) : Ok P w K mg base "common_divisor" 1 2 F_common_divisor := by
  have nd := sc_common_divisor.nd
  refine ok_by names_common_divisor ["a", "b"] g_common_divisor T sc_common_divisor (by decide) rfl rfl rfl rfl fun f cdv A out s H hr hG => ?_
  exact (psd_cons (sd_set (i := 0) nd rfl (by first | exact Or.inl rfl | exact Or.inr rfl) (pd_callB call_abs ca_abs (by rfl) B.abs (by decide +kernel) (pad_cons (pdv 0) pad_nil)))
      (psd_cons (sd_set (i := 1) nd rfl (by first | exact Or.inl rfl | exact Or.inr rfl) (pd_callB call_abs ca_abs (by rfl) B.abs (by decide +kernel) (pad_cons (pdv 1) pad_nil)))
      (psd_cons (sd_while 1000000 PassesOwn.never (pt_truthD (pdv 1)) (psd_one (sd_par (i := 0) (j := 1) rfl nd rfl rfl (by decide) rfl rfl (pdv 1) (pd_op op_modN od_mod (pdv 0) (pdv 1)))))
      (psd_one (sd_ret (pdv 0))))))
abbrev st_point : Stmt := topS 6
abbrev names_point : List Str := ["x", "y", "w", "divisor"]
theorem sc_point : FnScope names_point ["x", "y", "w"] (defScope st_point) := ⟨rfl, rfl, rfl, by decide +kernel, rfl, by decide +kernel, by decide +kernel⟩
theorem ok_point (B : Bn mg) (T : Df K mg "point" st_point ["x", "y", "w"]) (O_common_divisor : Ok P w K mg base "common_divisor" 1 2 F_common_divisor) : Ok P w K mg base "point" 2 3 F_point := by
  have nd := sc_point.nd
  refine ok_by names_point ["x", "y", "w"] g_point T sc_point (by decide) rfl rfl rfl rfl fun f cdv A out s H hr hG => ?_
  exact (psd_cons (sd_set (i := 3) nd rfl (by first | exact Or.inl rfl | exact Or.inr rfl) (pd_fn O_common_divisor (hr.mono (by decide)) hG (pad_cons (pd_fn O_common_divisor (hr.mono (by decide)) hG (pad_cons (pdv 0) (pad_cons (pdv 1) pad_nil))) (pad_cons (pdv 2) pad_nil))))
      (psd_cons (sd_if (pt_cmpD op_lt od_cmp (pdv 2) pd_int (nomark _)) (psd_one (sd_set (i := 3) nd rfl (by first | exact Or.inl rfl | exact Or.inr rfl) (pd_un un_neg ud_neg (pdv 3)))) psd_nil)
      (psd_one (sd_ret (pd_tup (pad_cons (pd_op op_fdivB od_fdiv (pdv 0) (pdv 3)) (pad_cons (pd_op op_fdivB od_fdiv (pdv 1) (pdv 3)) (pad_cons (pd_op op_fdivB od_fdiv (pdv 2) (pdv 3)) pad_nil))))))))
abbrev st_points_of : Stmt := topS 18
abbrev names_points_of : List Str := ["integers", "found", "at", "x", "y", "w"]
theorem sc_points_of : FnScope names_points_of ["integers"] (defScope st_points_of) := ⟨rfl, rfl, rfl, by decide +kernel, rfl, by decide +kernel, by decide +kernel⟩
theorem ok_points_of (B : Bn mg) (T : Df K mg "points_of" st_points_of ["integers"]) (O_point : Ok P w K mg base "point" 2 3 F_point) : Ok P w K mg base "points_of" 3 1 F_points_of := by
  have nd := sc_points_of.nd
  refine ok_by names_points_of ["integers"] g_points_of T sc_points_of (by decide) rfl rfl rfl rfl fun f cdv A out s H hr hG => ?_
  exact (psd_cons (sd_if (pt_cmpD (op_neA (hu64 hr)) od_ne (pd_op op_modN od_mod (pd_callB call_len ca_len (by rfl) B.len (by decide +kernel) (pad_cons (pdv 0) pad_nil)) pd_int) pd_int (nomark _)) (psd_one (sd_ret pd_non)) psd_nil)
      (psd_cons (sd_own (i := 1) nd rfl (by first | exact Or.inl rfl | exact Or.inr rfl) pad_nil)
      (psd_cons (sd_for PassesOwn.never rfl (id_rangeT (by rfl) B.range pd_int (pd_callB call_len ca_len (by rfl) B.len (by decide +kernel) (pad_cons (pdv 0) pad_nil)) pd_int) (PGq.d (gq_name (i := 2) nd rfl (by first | exact Or.inl rfl | exact Or.inr rfl))) (psd_cons (sd_asg (pd_slice (pdv 0) (od_some (pdv 2)) (od_some (pd_op op_addA od_add (pdv 2) pd_int))) (PGq.d (gq_tupL rfl (gsq_cons (gq_name (i := 3) nd rfl (by first | exact Or.inl rfl | exact Or.inr rfl)) (gsq_cons (gq_name (i := 4) nd rfl (by first | exact Or.inl rfl | exact Or.inr rfl)) (gsq_cons (gq_name (i := 5) nd rfl (by first | exact Or.inl rfl | exact Or.inr rfl)) gsq_nil))))))
      (psd_cons (sd_if (PWd.pt (pw_orD (pt_cmpD op_lt od_cmp (pdv 5) pd_int (nomark _)) (pw_or1D (pt_cmpD (op_neA (hu64 hr)) od_ne (pd_fn O_point (hr.mono (by decide)) hG (pad_cons (pdv 3) (pad_cons (pdv 4) (pad_cons (pdv 5) pad_nil)))) (pd_tup (pad_cons (pdv 3) (pad_cons (pdv 4) (pad_cons (pdv 5) pad_nil)))) (nomark _))))) (psd_one (sd_ret pd_non)) psd_nil)
      (psd_one (sd_app (i := 1) rfl (by first | exact Or.inl rfl | exact Or.inr (Or.inl rfl) | exact Or.inr (Or.inr rfl)) (pd_tup (pad_cons (pdv 3) (pad_cons (pdv 4) (pad_cons (pdv 5) pad_nil)))))))))
      (psd_one (sd_ret (pdw 1))))))
abbrev st_points_of_words : Stmt := topS 19
abbrev names_points_of_words : List Str := ["words", "integers"]
theorem sc_points_of_words : FnScope names_points_of_words ["words"] (defScope st_points_of_words) := ⟨rfl, rfl, rfl, by decide +kernel, rfl, by decide +kernel, by decide +kernel⟩
theorem ok_points_of_words (B : Bn mg) (T : Df K mg "points_of_words" st_points_of_words ["words"]) (O_integers_of : Ok P w K mg base "integers_of" 2 1 F_integers_of) (O_points_of : Ok P w K mg base "points_of" 3 1 F_points_of) : Ok P w K mg base "points_of_words" 4 1 F_points_of_words := by
  have nd := sc_points_of_words.nd
  refine ok_by names_points_of_words ["words"] g_points_of_words T sc_points_of_words (by decide) rfl rfl rfl rfl fun f cdv A out s H hr hG => ?_
  exact (psd_cons (sd_set (i := 1) nd rfl (by first | exact Or.inl rfl | exact Or.inr rfl) (pd_fn O_integers_of (hr.mono (by decide)) hG (pad_cons (pdv 0) pad_nil)))
      (psd_one (sd_ret (pd_if (pt_isN (pdv 1)) pd_non (pd_fn O_points_of (hr.mono (by decide)) hG (pad_cons (pdv 1) pad_nil))))))
abbrev st_side : Stmt := topS 8
abbrev names_side : List Str := ["a", "b", "c", "turn"]
theorem sc_side : FnScope names_side ["a", "b", "c"] (defScope st_side) := ⟨rfl, rfl, rfl, by decide +kernel, rfl, by decide +kernel, by decide +kernel⟩
theorem ok_side (B : Bn mg) (T : Df K mg "side" st_side ["a", "b", "c"]) : Ok P w K mg base "side" 1 3 F_side := by
  have nd := sc_side.nd
  refine ok_by names_side ["a", "b", "c"] g_side T sc_side (by decide) rfl rfl rfl rfl fun f cdv A out s H hr hG => ?_
  exact (psd_cons (sd_set (i := 3) nd rfl (by first | exact Or.inl rfl | exact Or.inr rfl) (pd_op op_mulB od_mul (pd_ix (pdv 0) pd_int (fun _ _ => rfl)) (pd_op op_subA od_sub (pd_op op_mulB od_mul (pd_ix (pdv 1) pd_int (fun _ _ => rfl)) (pd_ix (pdv 2) pd_int (fun _ _ => rfl))) (pd_op op_mulB od_mul (pd_ix (pdv 2) pd_int (fun _ _ => rfl)) (pd_ix (pdv 1) pd_int (fun _ _ => rfl))))))
      (psd_cons (sd_aug (i := 3) nd rfl (by first | exact Or.inl rfl | exact Or.inr rfl) iop_add od_iadd2 (pd_op op_mulB od_mul (pd_ix (pdv 1) pd_int (fun _ _ => rfl)) (pd_op op_subA od_sub (pd_op op_mulB od_mul (pd_ix (pdv 2) pd_int (fun _ _ => rfl)) (pd_ix (pdv 0) pd_int (fun _ _ => rfl))) (pd_op op_mulB od_mul (pd_ix (pdv 0) pd_int (fun _ _ => rfl)) (pd_ix (pdv 2) pd_int (fun _ _ => rfl))))))
      (psd_cons (sd_aug (i := 3) nd rfl (by first | exact Or.inl rfl | exact Or.inr rfl) iop_add od_iadd2 (pd_op op_mulB od_mul (pd_ix (pdv 2) pd_int (fun _ _ => rfl)) (pd_op op_subA od_sub (pd_op op_mulB od_mul (pd_ix (pdv 0) pd_int (fun _ _ => rfl)) (pd_ix (pdv 1) pd_int (fun _ _ => rfl))) (pd_op op_mulB od_mul (pd_ix (pdv 1) pd_int (fun _ _ => rfl)) (pd_ix (pdv 0) pd_int (fun _ _ => rfl))))))
      (psd_one (sd_ret (pd_op op_subA od_sub (pd_cmp op_gt od_cmp (pdv 3) pd_int (nomark _)) (pd_cmp op_lt od_cmp (pdv 3) pd_int (nomark _))))))))
abbrev st_goes_round_once : Stmt := topS 10
abbrev names_goes_round_once : List Str := ["corners", "first", "at"]
theorem sc_goes_round_once : FnScope names_goes_round_once ["corners"] (defScope st_goes_round_once) := ⟨rfl, rfl, rfl, by decide +kernel, rfl, by decide +kernel, by decide +kernel⟩
theorem ok_goes_round_once (B : Bn mg) (T : Df K mg "goes_round_once" st_goes_round_once ["corners"]) (O_side : Ok P w K mg base "side" 1 3 F_side) : Ok P w K mg base "goes_round_once" 2 1 F_goes_round_once := by
  have nd := sc_goes_round_once.nd
  refine ok_by names_goes_round_once ["corners"] g_goes_round_once T sc_goes_round_once (by decide) rfl rfl rfl rfl fun f cdv A out s H hr hG => ?_
  exact (psd_cons (sd_set (i := 1) nd rfl (by first | exact Or.inl rfl | exact Or.inr rfl) (pd_ix (pdv 0) pd_int (fun _ _ => rfl)))
      (psd_cons (sd_for PassesOwn.never rfl (id_range2 (by rfl) B.range pd_int (pd_op op_subA od_sub (pd_callB call_len ca_len (by rfl) B.len (by decide +kernel) (pad_cons (pdv 0) pad_nil)) pd_int)) (PGq.d (gq_name (i := 2) nd rfl (by first | exact Or.inl rfl | exact Or.inr rfl))) (psd_one (sd_if (pt_cmpD op_le od_cmp (pd_fn O_side (hr.mono (by decide)) hG (pad_cons (pdv 1) (pad_cons (pd_ix (pdv 0) (pdv 2) (fun _ _ => rfl)) (pad_cons (pd_ix (pdv 0) (pd_op op_addA od_add (pdv 2) pd_int) (fun _ _ => rfl)) pad_nil)))) pd_int (nomark _)) (psd_one (sd_ret pd_bl)) psd_nil)))
      (psd_one (sd_ret pd_bl))))
abbrev st_comes_before : Stmt := topS 7
abbrev names_comes_before : List Str := ["p", "q", "left", "right"]
theorem sc_comes_before : FnScope names_comes_before ["p", "q"] (defScope st_comes_before) := ⟨rfl, rfl, rfl, by decide +kernel, rfl, by decide +kernel, by decide +kernel⟩
theorem ok_comes_before (B : Bn mg) (T : Df K mg "comes_before" st_comes_before ["p", "q"]) : Ok P w K mg base "comes_before" 1 2 F_comes_before := by
  have nd := sc_comes_before.nd
  refine ok_by names_comes_before ["p", "q"] g_comes_before T sc_comes_before (by decide) rfl rfl rfl rfl fun f cdv A out s H hr hG => ?_
  exact (psd_cons (sd_set (i := 2) nd rfl (by first | exact Or.inl rfl | exact Or.inr rfl) (pd_op op_mulB od_mul (pd_ix (pdv 0) pd_int (fun _ _ => rfl)) (pd_ix (pdv 1) pd_int (fun _ _ => rfl))))
      (psd_cons (sd_set (i := 3) nd rfl (by first | exact Or.inl rfl | exact Or.inr rfl) (pd_op op_mulB od_mul (pd_ix (pdv 1) pd_int (fun _ _ => rfl)) (pd_ix (pdv 0) pd_int (fun _ _ => rfl))))
      (psd_cons (sd_if (pt_cmpD (op_neA (hu64 hr)) od_ne (pdv 2) (pdv 3) (nomark _)) (psd_one (sd_ret (pd_cmp op_lt od_cmp (pdv 2) (pdv 3) (nomark _)))) psd_nil)
      (psd_one (sd_ret (pd_cmp op_lt od_cmp (pd_op op_mulB od_mul (pd_ix (pdv 0) pd_int (fun _ _ => rfl)) (pd_ix (pdv 1) pd_int (fun _ _ => rfl))) (pd_op op_mulB od_mul (pd_ix (pdv 1) pd_int (fun _ _ => rfl)) (pd_ix (pdv 0) pd_int (fun _ _ => rfl))) (nomark _)))))))
abbrev st_is_polygon : Stmt := topS 11
abbrev names_is_polygon : List Str := ["value", "at"]
theorem sc_is_polygon : FnScope names_is_polygon ["value"] (defScope st_is_polygon) := ⟨rfl, rfl, rfl, by decide +kernel, rfl, by decide +kernel, by decide +kernel⟩
theorem ok_is_polygon (B : Bn mg) (T : Df K mg "is_polygon" st_is_polygon ["value"]) (O_goes_round_once : Ok P w K mg base "goes_round_once" 2 1 F_goes_round_once) (O_side : Ok P w K mg base "side" 1 3 F_side) (O_comes_before : Ok P w K mg base "comes_before" 1 2 F_comes_before) : Ok P w K mg base "is_polygon" 3 1 F_is_polygon := by
  have nd := sc_is_polygon.nd
  refine ok_by names_is_polygon ["value"] g_is_polygon T sc_is_polygon (by decide) rfl rfl rfl rfl fun f cdv A out s H hr hG => ?_
  exact (psd_cons (sd_if (PWd.pt (pw_orD (pt_cmpD op_lt od_cmp (pd_callB call_len ca_len (by rfl) B.len (by decide +kernel) (pad_cons (pdv 0) pad_nil)) pd_int (nomark _)) (pw_or1D (pt_cmpD (op_neA (hu64 hr)) od_ne (pd_lenSet rfl (hu64 hr) (by rfl) B.len (by rfl) B.set (pdv 0)) (pd_callB call_len ca_len (by rfl) B.len (by decide +kernel) (pad_cons (pdv 0) pad_nil)) (nomark _))))) (psd_one (sd_ret pd_bl)) psd_nil)
      (psd_cons (sd_for PassesOwn.never rfl (id_range1 (by rfl) B.range (pd_callB call_len ca_len (by rfl) B.len (by decide +kernel) (pad_cons (pdv 0) pad_nil))) (PGq.d (gq_name (i := 1) nd rfl (by first | exact Or.inl rfl | exact Or.inr rfl))) (psd_cons (sd_if (pt_cmpD op_le od_cmp (pd_fn O_side (hr.mono (by decide)) hG (pad_cons (pd_ix (pdv 0) (pd_op op_subA od_sub (pdv 1) pd_int) (fun _ _ => rfl)) (pad_cons (pd_ix (pdv 0) (pd_op op_subA od_sub (pdv 1) pd_int) (fun _ _ => rfl)) (pad_cons (pd_ix (pdv 0) (pdv 1) (fun _ _ => rfl)) pad_nil)))) pd_int (nomark _)) (psd_one (sd_ret pd_bl)) psd_nil)
      (psd_one (sd_if (PWd.pt (pw_andD (pt_cmpD op_gt od_cmp (pdv 1) pd_int (nomark _)) (pw_and1D (pt_valD (pd_fn O_comes_before (hr.mono (by decide)) hG (pad_cons (pd_ix (pdv 0) (pdv 1) (fun _ _ => rfl)) (pad_cons (pd_ix (pdv 0) pd_int (fun _ _ => rfl)) pad_nil))))))) (psd_one (sd_ret pd_bl)) psd_nil))))
      (psd_one (sd_ret (pd_fn O_goes_round_once (hr.mono (by decide)) hG (pad_cons (pdv 0) pad_nil))))))
abbrev st_read_piece : Stmt := topS 20
abbrev names_read_piece : List Str := ["line", "words", "found"]
theorem sc_read_piece : FnScope names_read_piece ["line"] (defScope st_read_piece) := ⟨rfl, rfl, rfl, by decide +kernel, rfl, by decide +kernel, by decide +kernel⟩
theorem ok_read_piece (B : Bn mg) (T : Df K mg "read_piece" st_read_piece ["line"]) (C_PIECE : Gc K mg "PIECE" c_PIECE) (O_points_of_words : Ok P w K mg base "points_of_words" 4 1 F_points_of_words) (O_is_polygon : Ok P w K mg base "is_polygon" 3 1 F_is_polygon) : Ok P w K mg base "read_piece" 5 1 F_read_piece := by
  have nd := sc_read_piece.nd
  refine ok_by names_read_piece ["line"] g_read_piece T sc_read_piece (by decide) rfl rfl rfl rfl fun f cdv A out s H hr hG => ?_
  exact (psd_cons (sd_set (i := 1) nd rfl (by first | exact Or.inl rfl | exact Or.inr rfl) (pd_split (pdv 0) pd_str))
      (psd_cons (sd_if (PWd.pt (pw_orD (pt_cmpD (op_neA (hu64 hr)) od_ne (pd_ix (pdv 1) pd_int (fun _ _ => rfl)) (pd_gc C_PIECE) (nomark _)) (pw_orD (pt_cmpD op_lt od_cmp (pd_callB call_len ca_len (by rfl) B.len (by decide +kernel) (pad_cons (pdv 1) pad_nil)) pd_int (nomark _)) (pw_or1D (pt_cmpD (op_notInA (hu65 hr)) od_notIn (pd_ix (pdv 1) pd_int (fun _ _ => rfl)) (pd_tup (pad_cons pd_str (pad_cons pd_str (pad_cons pd_str (pad_cons pd_str pad_nil))))) (by rfl)))))) (psd_one (sd_ret pd_non)) psd_nil)
      (psd_cons (sd_set (i := 2) nd rfl (by first | exact Or.inl rfl | exact Or.inr rfl) (pd_fn O_points_of_words (hr.mono (by decide)) hG (pad_cons (pd_slice (pdv 1) (od_some pd_int) od_none) pad_nil)))
      (psd_cons (sd_if (PWd.pt (pw_orD (pt_isN (pdv 2)) (pw_or1D (pt_notD (pt_valD (pd_fn O_is_polygon (hr.mono (by decide)) hG (pad_cons (pd_callTy call_tuple_of ca_tuple (by rfl) B.tuple (by decide +kernel) (pad_cons (pd_slice (pdv 2) (od_some pd_int) od_none) pad_nil)) pad_nil))))))) (psd_one (sd_ret pd_non)) psd_nil)
      (psd_one (sd_ret (pd_tup (pad_cons (pd_callTy call_tuple_of ca_tuple (by rfl) B.tuple (by decide +kernel) (pad_cons (pd_slice (pdv 2) (od_some pd_int) od_none) pad_nil)) (pad_cons (pd_tup (pad_cons (pd_callTy call_int_str ca_intS (by rfl) B.int (by decide +kernel) (pad_cons (pd_ix (pdv 1) pd_int (fun _ _ => rfl)) pad_nil)) (pad_cons (pd_ix (pdv 2) pd_int (fun _ _ => rfl)) pad_nil))) pad_nil)))))))))
abbrev st_read_lines : Stmt := topS 21
abbrev names_read_lines : List Str := ["text", "read", "lines", "found", "at", "line", "one"]
theorem sc_read_lines : FnScope names_read_lines ["text", "read"] (defScope st_read_lines) := ⟨rfl, rfl, rfl, by decide +kernel, rfl, by decide +kernel, by decide +kernel⟩
theorem ok_read_lines (B : Bn mg) (T : Df K mg "read_lines" st_read_lines ["text", "read"]) (NS_read_piece : NsK K mg "read_piece") (O_read_piece : Ok P w K mg base "read_piece" 5 1 F_read_piece) : OkA P w K mg base "read_lines" 6 "read_piece" F_read_lines := by
  have nd := sc_read_lines.nd
  refine okA_by names_read_lines ["text", "read"] g_read_lines T sc_read_lines rfl (by decide) rfl rfl rfl fun f cdv A out s H hr hG => ?_
  exact (psd_cons (sd_set (i := 2) nd rfl (by first | exact Or.inl rfl | exact Or.inr rfl) (pd_split (pdv 0) pd_str))
      (psd_cons (sd_own (i := 3) nd rfl (by first | exact Or.inl rfl | exact Or.inr rfl) pad_nil)
      (psd_cons (sd_for PassesOwn.never rfl (id_enum (by rfl) B.enumerate (pd_slice (pdv 2) od_none (od_some (pd_un un_neg ud_neg pd_int)))) (PGq.d (gq_tup rfl (gsq_cons (gq_name (i := 4) nd rfl (by first | exact Or.inl rfl | exact Or.inr rfl)) (gsq_cons (gq_name (i := 5) nd rfl (by first | exact Or.inl rfl | exact Or.inr rfl)) gsq_nil)))) (psd_cons (sd_set (i := 6) nd rfl (by first | exact Or.inl rfl | exact Or.inr rfl) (pd_fnS (i := 1) O_read_piece NS_read_piece (hr.mono (by decide)) hG rfl (by first | exact Or.inl rfl | exact Or.inr (Or.inl rfl) | exact Or.inr (Or.inr rfl)) (pad_cons (pdv 5) pad_nil)))
      (psd_cons (sd_if (pt_isN (pdv 6)) (psd_one sd_never) psd_nil)
      (psd_one (sd_app (i := 3) rfl (by first | exact Or.inl rfl | exact Or.inr (Or.inl rfl) | exact Or.inr (Or.inr rfl)) (pdv 6))))))
      (psd_cons (sd_if (pt_cmpD (op_neA (hu64 hr)) od_ne (pd_ix (pdv 2) (pd_un un_neg ud_neg pd_int) (fun _ _ => rfl)) pd_str (nomark _)) (psd_one sd_never) psd_nil)
      (psd_one (sd_ret (pdw 3)))))))
abbrev st_read_paper : Stmt := topS 22
abbrev names_read_paper : List Str := ["text"]
theorem sc_read_paper : FnScope names_read_paper ["text"] (defScope st_read_paper) := ⟨rfl, rfl, rfl, by decide +kernel, rfl, by decide +kernel, by decide +kernel⟩
theorem ok_read_paper (B : Bn mg) (T : Df K mg "read_paper" st_read_paper ["text"]) (NS_read_piece : NsK K mg "read_piece") (O_read_lines : OkA P w K mg base "read_lines" 6 "read_piece" F_read_lines) : Ok P w K mg base "read_paper" 7 1 F_read_paper := by
  have nd := sc_read_paper.nd
  refine ok_by names_read_paper ["text"] g_read_paper T sc_read_paper (by decide) rfl rfl rfl rfl fun f cdv A out s H hr hG => ?_
  exact (psd_one (sd_ret (pd_fnA O_read_lines NS_read_piece (hr.mono (by decide)) hG (pdv 0))))
abbrev st_law : Stmt := topS 37
abbrev names_law : List Str := ["_law_script", "_law_paper", "_law_groups", "_law_k", "_law_due", "_law_polygon_here", "_law_motion_here", "_law_passed", "_law_text", "_law_parts_here", "_law_v", "_law_p"]
theorem sc_law : FnScope names_law ["_law_script"] (defScope st_law) := ⟨rfl, rfl, rfl, by decide +kernel, rfl, by decide +kernel, by decide +kernel⟩
theorem ok_law (B : Bn mg) (T : Df K mg "law" st_law ["_law_script"]) (O_write_paper : Ok P w K mg base "write_paper" 2 1 F_write_paper) (O_law_parts : Ok P w K mg base "_law_parts" 1 2 F_law_parts) (O_law_motion : Ok P w K mg base "_law_motion" 3 3 F_law_motion) (O_law_polygon : Ok P w K mg base "_law_polygon" 4 1 F_law_polygon) (O_read_paper : Ok P w K mg base "read_paper" 7 1 F_read_paper) : Ok P w K mg base "law" 8 1 F_law := by
  have nd := sc_law.nd
  refine ok_by names_law ["_law_script"] g_law T sc_law (by decide) rfl rfl rfl rfl fun f cdv A out s H hr hG => ?_
  exact (psd_cons (sd_own (i := 1) nd rfl (by first | exact Or.inl rfl | exact Or.inr rfl) pad_nil)
      (psd_cons (sd_set (i := 2) nd rfl (by first | exact Or.inl rfl | exact Or.inr rfl) (pd_lst (pad_cons pd_str (pad_cons pd_str (pad_cons pd_str (pad_cons pd_str (pad_cons pd_str (pad_cons pd_str (pad_cons pd_str pad_nil)))))))))
      (psd_cons (sd_for PassesOwn.never rfl (id_range1 (by rfl) B.range (pd_callB call_len ca_len (by rfl) B.len (by decide +kernel) (pad_cons (pd_slice (pdv 0) od_none (od_some pd_int)) pad_nil))) (PGq.d (gq_name (i := 3) nd rfl (by first | exact Or.inl rfl | exact Or.inr rfl))) (psd_cons (sd_set (i := 9) nd rfl (by first | exact Or.inl rfl | exact Or.inr rfl) (pd_fn O_law_parts (hr.mono (by decide)) hG (pad_cons (pd_op op_addA od_add (pd_ix (pdv 0) (pdv 3) (fun _ _ => rfl)) pd_int) (pad_cons (pd_lst (pad_cons pd_int (pad_cons pd_int pad_nil))) pad_nil))))
      (psd_cons (sd_set (i := 6) nd rfl (by first | exact Or.inl rfl | exact Or.inr rfl) (pd_fn O_law_motion (hr.mono (by decide)) hG (pad_cons (pd_op op_addA od_add (pd_ix (pdv 0) (pdv 3) (fun _ _ => rfl)) pd_int) (pad_cons (pd_ix (pdv 9) pd_int (fun _ _ => rfl)) (pad_cons (pd_ix (pdv 2) (pd_ix (pdv 9) pd_int (fun _ _ => rfl)) (fun _ _ => rfl)) pad_nil)))))
      (psd_one (sd_app (i := 1) rfl (by first | exact Or.inl rfl | exact Or.inr (Or.inl rfl) | exact Or.inr (Or.inr rfl)) (pd_tup (pad_cons (pd_fn O_law_polygon (hr.mono (by decide)) hG (pad_cons (pd_ix (pdv 0) (pdv 3) (fun _ _ => rfl)) pad_nil)) (pad_cons (pdv 6) pad_nil))))))))
      (psd_cons (sd_set (i := 4) nd rfl (by first | exact Or.inl rfl | exact Or.inr rfl) pd_str)
      (psd_cons (ps_frz 1 (sd_for PassesOwn.never rfl (id_list (pdv 1)) (PGq.d (gq_tup rfl (gsq_cons (gq_name (i := 5) nd rfl (by first | exact Or.inl rfl | exact Or.inr rfl)) (gsq_cons (gq_name (i := 6) nd rfl (by first | exact Or.inl rfl | exact Or.inr rfl)) gsq_nil)))) (psd_cons (sd_asg (pdv 6) (PGq.d (gq_tup rfl (gsq_cons (gq_name (i := 3) nd rfl (by first | exact Or.inl rfl | exact Or.inr rfl)) (gsq_cons (gq_name (i := 10) nd rfl (by first | exact Or.inl rfl | exact Or.inr rfl)) gsq_nil)))))
      (psd_cons (sd_set (i := 4) nd rfl (by first | exact Or.inl rfl | exact Or.inr rfl) (pd_op op_addA od_add (pd_op op_addA od_add (pdv 4) pd_str) (pd_callTy call_str_int ca_str1 (by rfl) B.str (by decide +kernel) (pad_cons (pdv 3) pad_nil))))
      (psd_cons (sd_for PassesOwn.never rfl (id_tup (pd_op op_addA od_add (pd_tup (pad_cons (pdv 10) pad_nil)) (pdv 5))) (PGq.d (gq_name (i := 11) nd rfl (by first | exact Or.inl rfl | exact Or.inr rfl))) (psd_one (sd_set (i := 4) nd rfl (by first | exact Or.inl rfl | exact Or.inr rfl) (pd_op op_addA od_add (pd_op op_addA od_add (pd_op op_addA od_add (pd_op op_addA od_add (pd_op op_addA od_add (pd_op op_addA od_add (pdv 4) pd_str) (pd_callTy call_str_int ca_str1 (by rfl) B.str (by decide +kernel) (pad_cons (pd_ix (pdv 11) pd_int (fun _ _ => rfl)) pad_nil))) pd_str) (pd_callTy call_str_int ca_str1 (by rfl) B.str (by decide +kernel) (pad_cons (pd_ix (pdv 11) pd_int (fun _ _ => rfl)) pad_nil))) pd_str) (pd_callTy call_str_int ca_str1 (by rfl) B.str (by decide +kernel) (pad_cons (pd_ix (pdv 11) pd_int (fun _ _ => rfl)) pad_nil))))))
      (psd_one (sd_set (i := 4) nd rfl (by first | exact Or.inl rfl | exact Or.inr rfl) (pd_op op_addA od_add (pdv 4) pd_str))))))))
      (psd_cons (sd_set (i := 7) nd rfl (by first | exact Or.inl rfl | exact Or.inr rfl) (pd_callTy call_list_of ca_list (by rfl) B.list (by decide +kernel) (pad_cons (pdv 1) pad_nil)))
      (psd_cons (sd_set (i := 8) nd rfl (by first | exact Or.inl rfl | exact Or.inr rfl) (pd_fn O_write_paper (hr.mono (by decide)) hG (pad_cons (pdv 7) pad_nil)))
      (psd_one (sd_ret (pd_and (pd_cmp (op_eqA (hu64 hr)) od_eq (pdv 7) (pdv 1) (nomark _)) (pd_and (pd_cmp (op_eqA (hu64 hr)) od_eq (pdv 8) (pdv 4) (nomark _)) (pd_one (pd_cmp (op_eqA (hu64 hr)) od_eq (pd_repr2 hG (hu200 hr) (by rfl) B.repr (pd_fn O_read_paper (hr.mono (by decide)) hG (pad_cons (pdv 8) pad_nil))) (pd_repr2 hG (hu200 hr) (by rfl) B.repr (pdv 1)) (nomark _))))))))))))))
theorem fin (B : Bn mg) (C_PIECE : Gc K mg "PIECE" c_PIECE) (NS_read_piece : NsK K mg "read_piece") (T_words_of : Df K mg "words_of" st_words_of ["points"]) (T_write_paper : Df K mg "write_paper" st_write_paper ["paper"]) (T_law_parts : Df K mg "_law_parts" st_law_parts ["_law_cell_here", "_law_sizes"]) (T_law_divisor : Df K mg "_law_divisor" st_law_divisor ["_law_a", "_law_b"]) (T_law_point : Df K mg "_law_point" st_law_point ["_law_x", "_law_y", "_law_w"]) (T_law_motion : Df K mg "_law_motion" st_law_motion ["_law_cell_here", "_law_k", "_law_group"]) (T_law_turn : Df K mg "_law_turn" st_law_turn ["_law_a", "_law_b", "_law_c"]) (T_law_chain : Df K mg "_law_chain" st_law_chain ["_law_points"]) (T_law_before : Df K mg "_law_before" st_law_before ["_law_p", "_law_q"]) (T_law_hull : Df K mg "_law_hull" st_law_hull ["_law_points"]) (T_law_polygon : Df K mg "_law_polygon" st_law_polygon ["_law_cell_here"]) (T_integer_of : Df K mg "integer_of" st_integer_of ["word"]) (T_integers_of : Df K mg "integers_of" st_integers_of ["words"]) (T_common_divisor : Df K mg "common_divisor" st_common_divisor ["a", "b"]) (T_point : Df K mg "point" st_point ["x", "y", "w"]) (T_points_of : Df K mg "points_of" st_points_of ["integers"]) (T_points_of_words : Df K mg "points_of_words" st_points_of_words ["words"]) (T_side : Df K mg "side" st_side ["a", "b", "c"]) (T_goes_round_once : Df K mg "goes_round_once" st_goes_round_once ["corners"]) (T_comes_before : Df K mg "comes_before" st_comes_before ["p", "q"]) (T_is_polygon : Df K mg "is_polygon" st_is_polygon ["value"]) (T_read_piece : Df K mg "read_piece" st_read_piece ["line"]) (T_read_lines : Df K mg "read_lines" st_read_lines ["text", "read"]) (T_read_paper : Df K mg "read_paper" st_read_paper ["text"]) (T_law : Df K mg "law" st_law ["_law_script"]) : Ok P w K mg base "law" 8 1 F_law := by
  have O_words_of := ok_words_of (P := P) (w := w) (base := base) B T_words_of
  have O_write_paper := ok_write_paper (P := P) (w := w) (base := base) B T_write_paper C_PIECE O_words_of
  have O_law_parts := ok_law_parts (P := P) (w := w) (base := base) B T_law_parts
  have O_law_divisor := ok_law_divisor (P := P) (w := w) (base := base) B T_law_divisor
  have O_law_point := ok_law_point (P := P) (w := w) (base := base) B T_law_point O_law_divisor
  have O_law_motion := ok_law_motion (P := P) (w := w) (base := base) B T_law_motion O_law_parts O_law_point
  have O_law_turn := ok_law_turn (P := P) (w := w) (base := base) B T_law_turn
  have O_law_chain := ok_law_chain (P := P) (w := w) (base := base) B T_law_chain O_law_turn
  have O_law_before := ok_law_before (P := P) (w := w) (base := base) B T_law_before
  have O_law_hull := ok_law_hull (P := P) (w := w) (base := base) B T_law_hull O_law_chain O_law_before
  have O_law_polygon := ok_law_polygon (P := P) (w := w) (base := base) B T_law_polygon O_law_parts O_law_hull O_law_point
  have O_integer_of := ok_integer_of (P := P) (w := w) (base := base) B T_integer_of
  have O_integers_of := ok_integers_of (P := P) (w := w) (base := base) B T_integers_of O_integer_of
  have O_common_divisor := ok_common_divisor (P := P) (w := w) (base := base) B T_common_divisor
  have O_point := ok_point (P := P) (w := w) (base := base) B T_point O_common_divisor
  have O_points_of := ok_points_of (P := P) (w := w) (base := base) B T_points_of O_point
  have O_points_of_words := ok_points_of_words (P := P) (w := w) (base := base) B T_points_of_words O_integers_of O_points_of
  have O_side := ok_side (P := P) (w := w) (base := base) B T_side
  have O_goes_round_once := ok_goes_round_once (P := P) (w := w) (base := base) B T_goes_round_once O_side
  have O_comes_before := ok_comes_before (P := P) (w := w) (base := base) B T_comes_before
  have O_is_polygon := ok_is_polygon (P := P) (w := w) (base := base) B T_is_polygon O_goes_round_once O_side O_comes_before
  have O_read_piece := ok_read_piece (P := P) (w := w) (base := base) B T_read_piece C_PIECE O_points_of_words O_is_polygon
  have O_read_lines := ok_read_lines (P := P) (w := w) (base := base) B T_read_lines NS_read_piece O_read_piece
  have O_read_paper := ok_read_paper (P := P) (w := w) (base := base) B T_read_paper NS_read_piece O_read_lines
  have O_law := ok_law (P := P) (w := w) (base := base) B T_law O_write_paper O_law_parts O_law_motion O_law_polygon O_read_paper
  exact O_law
end
end Law
open PySem PySem.W PyProof.Rows in
set_option maxRecDepth 100000 in
set_option maxHeartbeats 0 in
theorem PySem.Challenge.cw_cutandlaid_k46_texts_of_papers_holds : PySem.Challenge.rw_cutandlaid_k46_texts_of_papers.Holds := by
  w_on; o_law; k_head; (case hw => w_witness2)
  k_fill
  refine Dn.walk_g (l := PySem.Challenge.rw_cutandlaid_k46_texts_of_papers) (n := 63) (k := 8) (F := Law.F_law) rfl (by decide) rfl rfl ⟨rfl, by decide, by decide⟩ (fun w h Y => PySem.W.kIn_of Y) ?O Law.law_true
  case O =>
    intro w mg h KX G base _ _
    refine' Law.fin ?B ?C_PIECE ?NS_read_piece ?T_words_of ?T_write_paper ?T_law_parts ?T_law_divisor ?T_law_point ?T_law_motion ?T_law_turn ?T_law_chain ?T_law_before ?T_law_hull ?T_law_polygon ?T_integer_of ?T_integers_of ?T_common_divisor ?T_point ?T_points_of ?T_points_of_words ?T_side ?T_goes_round_once ?T_comes_before ?T_is_polygon ?T_read_piece ?T_read_lines ?T_read_paper ?T_law
    case B =>
      constructor
      · exact PySem.W.mg_none_of KX G (by k_is)
      · exact PySem.W.mg_none_of KX G (by k_is)
      · exact PySem.W.mg_none_of KX G (by k_is)
      · exact PySem.W.mg_none_of KX G (by k_is)
      · exact PySem.W.mg_none_of KX G (by k_is)
      · exact PySem.W.mg_none_of KX G (by k_is)
      · exact PySem.W.mg_none_of KX G (by k_is)
      · exact PySem.W.mg_none_of KX G (by k_is)
      · exact PySem.W.mg_none_of KX G (by k_is)
      · exact PySem.W.mg_none_of KX G (by k_is)
      · exact PySem.W.mg_none_of KX G (by k_is)
    case C_PIECE =>
      refine' Dn.gc_flat_mk KX G ?a ?d
      (case a => k_is)
      (case d => rfl)
    case NS_read_piece =>
      refine' Dn.ns_mk KX G ?a
      (case a => k_is)
    case T_words_of =>
      refine' Dn.df_mk KX G ?a ?l ?c ?k (fun _ _ _ _ _ _ us hl => match us, hl with | [_], _ => rfl)
      (case a => k_is)
      (case l => k_is)
      (case c => k_is)
      (case k => k_is)
    case T_write_paper =>
      refine' Dn.df_mk KX G ?a ?l ?c ?k (fun _ _ _ _ _ _ us hl => match us, hl with | [_], _ => rfl)
      (case a => k_is)
      (case l => k_is)
      (case c => k_is)
      (case k => k_is)
    case T_law_parts =>
      refine' Dn.df_mk KX G ?a ?l ?c ?k (fun _ _ _ _ _ _ us hl => match us, hl with | [_, _], _ => rfl)
      (case a => k_is)
      (case l => k_is)
      (case c => k_is)
      (case k => k_is)
    case T_law_divisor =>
      refine' Dn.df_mk KX G ?a ?l ?c ?k (fun _ _ _ _ _ _ us hl => match us, hl with | [_, _], _ => rfl)
      (case a => k_is)
      (case l => k_is)
      (case c => k_is)
      (case k => k_is)
    case T_law_point =>
      refine' Dn.df_mk KX G ?a ?l ?c ?k (fun _ _ _ _ _ _ us hl => match us, hl with | [_, _, _], _ => rfl)
      (case a => k_is)
      (case l => k_is)
      (case c => k_is)
      (case k => k_is)
    case T_law_motion =>
      refine' Dn.df_mk KX G ?a ?l ?c ?k (fun _ _ _ _ _ _ us hl => match us, hl with | [_, _, _], _ => rfl)
      (case a => k_is)
      (case l => k_is)
      (case c => k_is)
      (case k => k_is)
    case T_law_turn =>
      refine' Dn.df_mk KX G ?a ?l ?c ?k (fun _ _ _ _ _ _ us hl => match us, hl with | [_, _, _], _ => rfl)
      (case a => k_is)
      (case l => k_is)
      (case c => k_is)
      (case k => k_is)
    case T_law_chain =>
      refine' Dn.df_mk KX G ?a ?l ?c ?k (fun _ _ _ _ _ _ us hl => match us, hl with | [_], _ => rfl)
      (case a => k_is)
      (case l => k_is)
      (case c => k_is)
      (case k => k_is)
    case T_law_before =>
      refine' Dn.df_mk KX G ?a ?l ?c ?k (fun _ _ _ _ _ _ us hl => match us, hl with | [_, _], _ => rfl)
      (case a => k_is)
      (case l => k_is)
      (case c => k_is)
      (case k => k_is)
    case T_law_hull =>
      refine' Dn.df_mk KX G ?a ?l ?c ?k (fun _ _ _ _ _ _ us hl => match us, hl with | [_], _ => rfl)
      (case a => k_is)
      (case l => k_is)
      (case c => k_is)
      (case k => k_is)
    case T_law_polygon =>
      refine' Dn.df_mk KX G ?a ?l ?c ?k (fun _ _ _ _ _ _ us hl => match us, hl with | [_], _ => rfl)
      (case a => k_is)
      (case l => k_is)
      (case c => k_is)
      (case k => k_is)
    case T_integer_of =>
      refine' Dn.df_mk KX G ?a ?l ?c ?k (fun _ _ _ _ _ _ us hl => match us, hl with | [_], _ => rfl)
      (case a => k_is)
      (case l => k_is)
      (case c => k_is)
      (case k => k_is)
    case T_integers_of =>
      refine' Dn.df_mk KX G ?a ?l ?c ?k (fun _ _ _ _ _ _ us hl => match us, hl with | [_], _ => rfl)
      (case a => k_is)
      (case l => k_is)
      (case c => k_is)
      (case k => k_is)
    case T_common_divisor =>
      refine' Dn.df_mk KX G ?a ?l ?c ?k (fun _ _ _ _ _ _ us hl => match us, hl with | [_, _], _ => rfl)
      (case a => k_is)
      (case l => k_is)
      (case c => k_is)
      (case k => k_is)
    case T_point =>
      refine' Dn.df_mk KX G ?a ?l ?c ?k (fun _ _ _ _ _ _ us hl => match us, hl with | [_, _, _], _ => rfl)
      (case a => k_is)
      (case l => k_is)
      (case c => k_is)
      (case k => k_is)
    case T_points_of =>
      refine' Dn.df_mk KX G ?a ?l ?c ?k (fun _ _ _ _ _ _ us hl => match us, hl with | [_], _ => rfl)
      (case a => k_is)
      (case l => k_is)
      (case c => k_is)
      (case k => k_is)
    case T_points_of_words =>
      refine' Dn.df_mk KX G ?a ?l ?c ?k (fun _ _ _ _ _ _ us hl => match us, hl with | [_], _ => rfl)
      (case a => k_is)
      (case l => k_is)
      (case c => k_is)
      (case k => k_is)
    case T_side =>
      refine' Dn.df_mk KX G ?a ?l ?c ?k (fun _ _ _ _ _ _ us hl => match us, hl with | [_, _, _], _ => rfl)
      (case a => k_is)
      (case l => k_is)
      (case c => k_is)
      (case k => k_is)
    case T_goes_round_once =>
      refine' Dn.df_mk KX G ?a ?l ?c ?k (fun _ _ _ _ _ _ us hl => match us, hl with | [_], _ => rfl)
      (case a => k_is)
      (case l => k_is)
      (case c => k_is)
      (case k => k_is)
    case T_comes_before =>
      refine' Dn.df_mk KX G ?a ?l ?c ?k (fun _ _ _ _ _ _ us hl => match us, hl with | [_, _], _ => rfl)
      (case a => k_is)
      (case l => k_is)
      (case c => k_is)
      (case k => k_is)
    case T_is_polygon =>
      refine' Dn.df_mk KX G ?a ?l ?c ?k (fun _ _ _ _ _ _ us hl => match us, hl with | [_], _ => rfl)
      (case a => k_is)
      (case l => k_is)
      (case c => k_is)
      (case k => k_is)
    case T_read_piece =>
      refine' Dn.df_mk KX G ?a ?l ?c ?k (fun _ _ _ _ _ _ us hl => match us, hl with | [_], _ => rfl)
      (case a => k_is)
      (case l => k_is)
      (case c => k_is)
      (case k => k_is)
    case T_read_lines =>
      refine' Dn.df_mk KX G ?a ?l ?c ?k (fun _ _ _ _ _ _ us hl => match us, hl with | [_, _], _ => rfl)
      (case a => k_is)
      (case l => k_is)
      (case c => k_is)
      (case k => k_is)
    case T_read_paper =>
      refine' Dn.df_mk KX G ?a ?l ?c ?k (fun _ _ _ _ _ _ us hl => match us, hl with | [_], _ => rfl)
      (case a => k_is)
      (case l => k_is)
      (case c => k_is)
      (case k => k_is)
    case T_law =>
      refine' Dn.df_mk KX G ?a ?l ?c ?k (fun _ _ _ _ _ _ us hl => match us, hl with | [_], _ => rfl)
      (case a => k_is)
      (case l => k_is)
      (case c => k_is)
      (case k => k_is)
#print axioms PySem.Challenge.cw_cutandlaid_k46_texts_of_papers_holds
