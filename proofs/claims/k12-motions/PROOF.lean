import PyProof.Rows.All
import Wide.All
import OpenK.AllK
import Wide.FinOn
import HandS.ForMost
import HandS.Wide
import HandS.Deep
import HandS.Style
import HandS.IsInst
import PyProof.ReprRoads
import HandS.Ends
import PyProof.ReprLen
import PySem.Challenge.RW_cutandlaid_k12_motions
set_option Elab.async false
set_option linter.all false
set_option maxRecDepth 100000
set_option maxHeartbeats 4000000
set_option autoImplicit false
/-! Dn: a reading of defs by plain data: what stands in a def's names is told as trees of data, and an expression, a statement, a body is a plain function of them. -/
namespace Dn
open PySem PySem.Spec PyProof.Rows L2
abbrev D := PyData

/-! ### 1. the plain functions -/
inductive Slot where
  | un
  | val (d : D)
  | own (ds : List D)
abbrev Env := List Slot
abbrev GE := Env → Option D
abbrev GA := Env → Option (List D)
abbrev GB := Env → Option Bool
inductive Out where
  | nx (e : Env)
  | ret (d : D)
  | bk (e : Env)
  | ct (e : Env)
abbrev GS := Env → Option Out

def look : Option Slot → Option D
  | some (.val d) => some d
  | _ => none
def lookB : Option Slot → Option D
  | some (.val d) => some d
  | some (.own ds) => some (.list ds)
  | _ => none
def gVar (i : Nat) : GE := fun env => look env[i]?
def gVarB (i : Nat) : GE := fun env => lookB env[i]?
def gC (d : D) : GE := fun _ => some d
def g1 (f : D → Option D) (a : GE) : GE := fun env => (a env).bind f
def g2 (f : D → D → Option D) (a b : GE) : GE := fun env => (a env).bind fun x => (b env).bind fun y => f x y
def aNil : GA := fun _ => some []
def aCons (a : GE) (r : GA) : GA := fun env => (a env).bind fun x => (r env).bind fun xs => some (x :: xs)
def gArgs (f : List D → Option D) (r : GA) : GE := fun env => (r env).bind f
def vTup (ds : List D) : Option D := some (.tuple ds)
def vLst (ds : List D) : Option D := some (.list ds)

def lim : Nat := 16777216
theorem lim_eq : lim = sizeLine := by rw [sizeLine_eq]; rfl
def mulOk (x y : Int) : Bool := decide (x.natAbs < 2 ^ 64) || decide (y.natAbs < 2 ^ 64) || decide (x.natAbs.log2 + y.natAbs.log2 < 100000000)
def b2z (b : Bool) : Int := if b then 1 else 0
def vAdd : D → D → Option D
  | .int x, .int y => some (.int (x + y))
  | .list x, .list y => if x.length + y.length ≤ lim then some (.list (x ++ y)) else none
  | .str x, .str y => if x.length + y.length ≤ lim then some (.str (x ++ y)) else none
  | _, _ => none
def vIAdd : D → D → Option D
  | .int x, .int y => some (.int (x + y))
  | _, _ => none
def vSub : D → D → Option D
  | .int x, .int y => some (.int (x - y))
  | .bool x, .bool y => some (.int (b2z x - b2z y))
  | _, _ => none
def vMul : D → D → Option D
  | .int x, .int y => if mulOk x y then some (.int (x * y)) else none
  | _, _ => none
def divOk (y : Int) : Bool := decide (y ≠ 0) && decide (y.natAbs.log2 < 9000)
def vFdiv : D → D → Option D
  | .int x, .int y => if divOk y then some (.int (x.fdiv y)) else none
  | _, _ => none
def vMod : D → D → Option D
  | .int x, .int y => if y = 0 then none else some (.int (x.fmod y))
  | _, _ => none
def vPow : D → D → Option D
  | .int x, .int y => if 0 ≤ y ∧ y ≤ 1000000 ∧ x.natAbs < 2 ^ 64 then some (.int (x ^ y.toNat)) else none
  | _, _ => none
def vNeg : D → Option D
  | .int x => some (.int (-x))
  | _ => none
def vCmp (p : Int → Int → Bool) : D → D → Option D
  | .int x, .int y => some (.bool (p x y))
  | _, _ => none
def vLt (x y : D) : Option D := vCmp (fun i j => decide (i < j)) x y
def vLe (x y : D) : Option D := vCmp (fun i j => decide (i ≤ j)) x y
def vGt (x y : D) : Option D := vCmp (fun i j => decide (j < i)) x y
def vGe (x y : D) : Option D := vCmp (fun i j => decide (j ≤ i)) x y
def vEqG (x y : D) : Option D := if SeqAt.shaped x && SeqAt.shaped y then some (.bool (PyData.eqv x y)) else none
def vEq : D → D → Option D
  | .str a, .str b => some (.bool (decide (a = b)))
  | .int a, .int b => some (.bool (decide (a = b)))
  | x, y => vEqG x y
def vNeG (x y : D) : Option D := if SeqAt.shaped x && SeqAt.shaped y then some (.bool (!PyData.eqv x y)) else none
def vNe : D → D → Option D
  | .str a, .str b => some (.bool (!decide (a = b)))
  | .int a, .int b => some (.bool (!decide (a = b)))
  | x, y => vNeG x y
def isNone : D → Bool
  | .none => true
  | _ => false
def vIsN (x : D) : Option D := some (.bool (isNone x))
def vNotN (x : D) : Option D := some (.bool (!isNone x))
def vTruth : D → Option Bool
  | .none => some false
  | .bool b => some b
  | .int i => some (i != 0)
  | .str y => if y.length ≤ lim then some ((y.length : Int) != 0) else none
  | .list ds => some (!ds.isEmpty)
  | .tuple ds => some (!ds.isEmpty)
  | _ => none
def asBool : D → Option Bool
  | .bool b => some b
  | _ => none
/-- an index of any sign -/
def atD (xs : List D) (i : Int) : Option D :=
  if i < 0 then (if 0 ≤ i + xs.length then xs[(i + xs.length).toNat]? else none) else xs[i.toNat]?
def vIx : D → D → Option D
  | .list xs, .int i => atD xs i
  | .tuple xs, .int i => atD xs i
  | _, _ => none
def vLen : D → Option D
  | .list xs => some (.int xs.length)
  | .tuple xs => some (.int xs.length)
  | .str y => if y.length ≤ lim then some (.int y.length) else none
  | _ => none
def vAbs : D → Option D
  | .int i => some (.int (if i < 0 then -i else i))
  | _ => none
def vToI : D → Option D
  | .int i => some (.int i)
  | .bool b => some (.int (b2z b))
  | _ => none
def l1 (f : D → Option D) : List D → Option D
  | [x] => f x
  | _ => none
def l2 (f : D → D → Option D) : List D → Option D
  | [x, y] => f x y
  | _ => none
def vMin2 : D → D → Option D
  | .int i, .int j => some (.int (if j < i then j else i))
  | _, _ => none
def vMax2 : D → D → Option D
  | .int i, .int j => some (.int (if j > i then j else i))
  | _, _ => none

def gTest (a : GE) : GB := fun env => (a env).bind asBool
def gTruth (a : GE) : GB := fun env => (a env).bind vTruth
def gAnd (a b : GB) : GB := fun env => (a env).bind fun c => if c = true then b env else some false
def gOr (a b : GB) : GB := fun env => (a env).bind fun c => if c = true then some true else b env
def gNot (a : GB) : GB := fun env => (a env).bind fun c => some (!c)
def gAndV (a b : GE) : GE := fun env => (a env).bind fun x => (asBool x).bind fun c => if c = true then b env else some (.bool false)
def gOrV (a b : GE) : GE := fun env => (a env).bind fun x => (asBool x).bind fun c => if c = true then some (.bool true) else b env
def gNotV (a : GE) : GE := fun env => (a env).bind fun x => (asBool x).bind fun c => some (.bool (!c))
def gIfE (c : GB) (a b : GE) : GE := fun env => (c env).bind fun k => if k = true then a env else b env

def sNx : GS := fun env => some (.nx env)
def thenS (b : GS) : Out → Option Out
  | .nx e => b e
  | .ret d => some (.ret d)
  | .bk e => some (.bk e)
  | .ct e => some (.ct e)
def sSeq (a b : GS) : GS := fun env => (a env).bind (thenS b)
def sRet (a : GE) : GS := fun env => (a env).bind fun d => some (.ret d)
def sRetN : GS := fun _ => some (.ret .none)
def sBk : GS := fun env => some (.bk env)
def sCt : GS := fun env => some (.ct env)
def sIf (c : GB) (a b : GS) : GS := fun env => (c env).bind fun k => if k = true then a env else b env
def sSet (i : Nat) (a : GE) : GS := fun env => (a env).bind fun d => some (.nx (env.set i (.val d)))
def sDrop (a : GE) : GS := fun env => (a env).bind fun _ => some (.nx env)
/-- a new list of its own -/
def sOwn (i : Nat) (a : GA) : GS := fun env => (a env).bind fun ds => some (.nx (env.set i (.own ds)))
def appS (env : Env) (i : Nat) (d : D) : Option Slot → Option Out
  | some (.own ds) => if ds.length < lim then some (.nx (env.set i (.own (ds ++ [d])))) else none
  | _ => none
def sApp (i : Nat) (a : GE) : GS := fun env => (a env).bind fun d => appS env i d env[i]?
def frzS (env : Env) (i : Nat) : Option Slot → Env
  | some (.own ds) => env.set i (.val (.list ds))
  | _ => env
def frz (i : Nat) (env : Env) : Env := frzS env i env[i]?
def sFrz (i : Nat) : GS := fun env => some (.nx (frz i env))
/-- targets -/
abbrev GT := D → Env → Option Env
def tName (i : Nat) : GT := fun d env => some (env.set i (.val d))
def tTup2 : List GT → List D → Env → Option Env
  | [], [], env => some env
  | t :: ts, d :: ds, env => (t d env).bind fun e => tTup2 ts ds e
  | _, _, _ => none
def asTpl : D → Option (List D)
  | .tuple ds => some ds
  | _ => none
def asLst : D → Option (List D)
  | .list ds => some ds
  | _ => none
def tTuple (ts : List GT) : GT := fun d env => (asTpl d).bind fun ds => tTup2 ts ds env
def sAsg (a : GE) (t : GT) : GS := fun env => (a env).bind fun d => (t d env).bind fun e => some (.nx e)
def sPar (i j : Nat) (a b : GE) : GS := fun env => (a env).bind fun x => (b env).bind fun y => some (.nx ((env.set i (.val x)).set j (.val y)))
def sAug (i : Nat) (f : D → D → Option D) (a : GE) : GS := fun env => (gVar i env).bind fun x => (a env).bind fun y => (f x y).bind fun z => some (.nx (env.set i (.val z)))
/-- behind a turn of a loop -/
def turnS (k : Env → Option Out) : Out → Option Out
  | .nx e => k e
  | .ct e => k e
  | .bk e => some (.nx e)
  | .ret d => some (.ret d)
def forG (t : GT) (body : GS) : List D → Env → Option Out
  | [], env => some (.nx env)
  | d :: ds, env => (t d env).bind fun e => (body e).bind (turnS (forG t body ds))
def seqOf : D → Option (List D)
  | .list ds => some ds
  | .tuple ds => some ds
  | _ => none
def sFor (a : GA) (t : GT) (body : GS) : GS := fun env => (a env).bind fun ds => forG t body ds env
def whileG (c : GB) (body : GS) : Nat → Env → Option Out
  | 0, _ => none
  | n + 1, env => (c env).bind fun k => if k = true then (body env).bind (turnS (whileG c body n)) else some (.nx env)
def rngD (lo : Int) (n : Nat) : List D := (List.range n).map fun (i : Nat) => PyData.int (lo + (i : Int))
def rgOk (n : Int) : Bool := decide (n.natAbs.log2 < 60)
theorem rgOk_of {n : Int} (h : rgOk n = true) : n < 2 ^ 62 ∧ -(2 ^ 62) ≤ n := by
  have h : n.natAbs.log2 < 60 := of_decide_eq_true h
  have h2 : n.natAbs < 2 ^ 60 := by
    by_cases e : n.natAbs = 0
    · rw [e]; decide
    · exact (Nat.log2_lt e).mp h
  omega
def vRange1 : D → Option (List D)
  | .int n => if rgOk n then some (rngD 0 n.toNat) else none
  | _ => none
def vRange2 : D → D → Option (List D)
  | .int a, .int b => if rgOk a && rgOk b then some (rngD a (b - a).toNat) else none
  | _, _ => none
def gSeqOf (a : GE) : GA := fun env => (a env).bind seqOf
def gRange1 (a : GE) : GA := fun env => (a env).bind vRange1
def gRange2 (a b : GE) : GA := fun env => (a env).bind fun x => (b env).bind fun y => vRange2 x y
def startE (n : Nat) (ds : List D) : Env := ds.map .val ++ List.replicate (n - ds.length) .un
/-- a def's value -/
def endF : Out → Option D
  | .ret d => some d
  | .nx _ => some .none
  | _ => none
def runF (n k : Nat) (body : GS) (ds : List D) : Option D := if ds.length = k then (body (startE n ds)).bind endF else none
end Dn

namespace Dn
open PySem PySem.Spec PyProof.Rows L2
abbrev Sg := L2.St

/-! ### 2. the heap behind the data -/
theorem seqT {K : PySem.W.Frag} {H H' : Hp} {a : Addr} {xs : List V} (e : Same H H') (h : SqT K H a xs) : SqT K H' a xs := by
  rcases h with h | h
  · rcases h with h | ⟨o, h⟩
    · exact .inl (.inl (e _ _ h))
    · exact .inl (.inr ⟨o, e _ _ h⟩)
  · exact .inr h
mutual
theorem Dp_mono {K : PySem.W.Frag} {H H' : Hp} (e : Same H H') : ∀ (d : D) (v : V), Dp K H v d → Dp K H' v d
  | .none, _, .non => .non
  | .bool _, _, .bl b => .bl b
  | .int _, _, .int i => .int i
  | .str _, _, .str x => .str x
  | .list ds, _, .lst h a => .lst (e.seq h) (DpAll_mono e ds _ a)
  | .tuple ds, _, .tup h a => .tup (seqT e h) (DpAll_mono e ds _ a)
theorem DpAll_mono {K : PySem.W.Frag} {H H' : Hp} (e : Same H H') : ∀ (ds : List D) (vs : List V), DpAll K H vs ds → DpAll K H' vs ds
  | [], _, .nil => .nil
  | d :: ds, _, .cons h t => .cons (Dp_mono e d _ h) (DpAll_mono e ds _ t)
end
theorem DpAll_len {K : PySem.W.Frag} {H : Hp} : ∀ {vs : List V} {ds : List D}, DpAll K H vs ds → vs.length = ds.length
  | _, _, .nil => rfl
  | _, _, .cons _ t => by rw [List.length_cons, List.length_cons, DpAll_len t]
theorem DpAll_get {K : PySem.W.Frag} {H : Hp} : ∀ {vs : List V} {ds : List D} {i : Nat} {d : D}, DpAll K H vs ds → ds[i]? = some d → ∃ v, vs[i]? = some v ∧ Dp K H v d
  | _, _, _, _, .nil, e => by simp at e
  | _, _, 0, d, .cons (v := v) h _, e => ⟨v, rfl, by simp at e; subst e; exact h⟩
  | _, _, i + 1, d, .cons _ t, e => by
    obtain ⟨v, h1, h2⟩ := DpAll_get (i := i) t (by simpa using e)
    exact ⟨v, by simpa using h1, h2⟩
theorem DpAll_app {K : PySem.W.Frag} {H : Hp} : ∀ {vs ws : List V} {ds es : List D}, DpAll K H vs ds → DpAll K H ws es → DpAll K H (vs ++ ws) (ds ++ es)
  | _, _, _, _, .nil, s => s
  | _, _, _, _, .cons h t, s => .cons h (DpAll_app t s)
theorem DpAll_drop {K : PySem.W.Frag} {H : Hp} : ∀ {vs : List V} {ds : List D} (n : Nat), DpAll K H vs ds → DpAll K H (vs.drop n) (ds.drop n)
  | _, _, 0, h => h
  | _, _, _ + 1, .nil => .nil
  | _, _, n + 1, .cons _ t => DpAll_drop n t
theorem DpAll_take {K : PySem.W.Frag} {H : Hp} : ∀ {vs : List V} {ds : List D} (n : Nat), DpAll K H vs ds → DpAll K H (vs.take n) (ds.take n)
  | _, _, 0, _ => .nil
  | _, _, _ + 1, .nil => .nil
  | _, _, n + 1, .cons h t => .cons h (DpAll_take n t)
theorem DpAll_rev {K : PySem.W.Frag} {H : Hp} : ∀ {vs : List V} {ds : List D}, DpAll K H vs ds → DpAll K H vs.reverse ds.reverse
  | _, _, .nil => .nil
  | _, _, .cons h t => by
    rw [List.reverse_cons, List.reverse_cons]
    exact DpAll_app (DpAll_rev t) (.cons h .nil)
theorem DpAll_ints {K : PySem.W.Frag} {H : Hp} : ∀ (ns : List Int), DpAll K H (ns.map V.int) (ns.map PyData.int)
  | [] => .nil
  | n :: ns => .cons (.int n) (DpAll_ints ns)
theorem DpAll_ints_inv {K : PySem.W.Frag} {H : Hp} : ∀ (ns : List Int) (vs : List V), DpAll K H vs (ns.map PyData.int) → vs = ns.map V.int
  | [], _, .nil => rfl
  | n :: ns, _, .cons (.int _) t => by rw [DpAll_ints_inv ns _ t]; rfl

/-- the heap with some of it out of sight -/
noncomputable def vw (P : Addr → Prop) (H : Hp) : Hp := fun a => open Classical in if P a then none else H a
theorem vw_some {P : Addr → Prop} {H : Hp} {a : Addr} {o : HO} (h : vw P H a = some o) : ¬ P a ∧ H a = some o := by
  unfold vw at h
  by_cases hp : P a
  · rw [if_pos hp] at h; cases h
  · rw [if_neg hp] at h; exact ⟨hp, h⟩
theorem vw_of {P : Addr → Prop} {H : Hp} {a : Addr} {o : HO} (hp : ¬ P a) (h : H a = some o) : vw P H a = some o := by
  unfold vw; rw [if_neg hp]; exact h
theorem vw_same {P P' : Addr → Prop} {H H' : Hp} (e : Same H H') (hp : ∀ a o, H a = some o → P' a → P a) : Same (vw P H) (vw P' H') := fun b o h => by
  obtain ⟨h1, h2⟩ := vw_some h
  exact vw_of (fun q => h1 (hp b o h2 q)) (e b o h2)
theorem vw_le {P : Addr → Prop} {H : Hp} : Same (vw P H) H := fun b o h => (vw_some h).2
theorem same_upd {H : Hp} {p : Addr} {o : HO} (h : H p = none) : Same H (upd H p o) := fun b x e => by
  rw [upd_ne (ne_of_none e h)]
  exact e

/-- the lists that names own -/
def Ow (env : Env) (pa : Nat → Addr) (a : Addr) : Prop := ∃ (i : Nat) (ds : List D), env[i]? = some (Slot.own ds) ∧ pa i = a
abbrev Hd (M : Addr → Prop) (env : Env) (pa : Nat → Addr) : Addr → Prop := fun a => M a ∨ Ow env pa a
/-- what the names hold: H0 is to stay, M is out of sight -/
structure EO (K : PySem.W.Frag) (H0 : Hp) (M : Addr → Prop) (env : Env) (σ : Sg) (H : Hp) (pa : Nat → Addr) : Prop where
  same : Same H0 H
  hid : ∀ a, M a → H a ≠ none
  len : σ.length = env.length
  val : ∀ (i : Nat) (d : D), env[i]? = some (.val d) → ∃ v : V, σ[i]? = some (some v) ∧ Dp K (vw (Hd M env pa) H) v d
  own : ∀ (i : Nat) (ds : List D), env[i]? = some (.own ds) → σ[i]? = some (some (.ref (pa i))) ∧ (H0 (pa i) = none ∧ ¬ M (pa i)) ∧ ∃ vs, H (pa i) = some (.lst vs) ∧ DpAll K (vw (Hd M env pa) H) vs ds
  inj : ∀ (i j : Nat) (ds es : List D), env[i]? = some (.own ds) → env[j]? = some (.own es) → pa i = pa j → i = j
section
variable {K : PySem.W.Frag} {H0 H H' : Hp} {M : Addr → Prop} {env : Env} {σ : Sg} {pa : Nat → Addr}
theorem EO.hidden (E : EO K H0 M env σ H pa) {a : Addr} (h : Hd M env pa a) : H a ≠ none := by
  rcases h with h | ⟨i, ds, h1, h2⟩
  · exact E.hid a h
  · obtain ⟨_, _, vs, h3, _⟩ := E.own i ds h1
    rw [← h2, h3]
    exact fun q => by cases q
theorem EO.up (E : EO K H0 M env σ H pa) (e : Same H H') : EO K H0 M env σ H' pa := by
  have ms : Same (vw (Hd M env pa) H) (vw (Hd M env pa) H') := vw_same e fun _ _ _ q => q
  refine ⟨E.same.trans e, fun a h q => E.hid a h (e.free q), E.len, fun i d h => ?_, fun i ds h => ?_, E.inj⟩
  · obtain ⟨v, h1, h2⟩ := E.val i d h
    exact ⟨v, h1, Dp_mono ms _ _ h2⟩
  · obtain ⟨h1, h2, vs, h3, h4⟩ := E.own i ds h
    exact ⟨h1, h2, vs, e _ _ h3, DpAll_mono ms _ _ h4⟩
theorem set_some {α : Type} {l : List α} {i j : Nat} {x y : α} (h : (l.set i x)[j]? = some y) : (j = i ∧ y = x ∧ i < l.length) ∨ (j ≠ i ∧ l[j]? = some y) := by
  by_cases e : i = j
  · subst e
    by_cases hl : i < l.length
    · rw [List.getElem?_set_self hl] at h
      cases h
      exact .inl ⟨rfl, rfl, hl⟩
    · rw [List.getElem?_eq_none (by simpa using hl)] at h
      cases h
  · rw [List.getElem?_set_ne e] at h
    exact .inr ⟨fun q => e q.symm, h⟩
theorem ow_set_val {i : Nat} {d : D} {a : Addr} (h : Ow (env.set i (.val d)) pa a) : Ow env pa a := by
  obtain ⟨j, ds, h1, h2⟩ := h
  rcases set_some h1 with ⟨_, e, _⟩ | ⟨_, e⟩
  · cases e
  · exact ⟨j, ds, e, h2⟩
theorem EO.setVal {i : Nat} {v : V} {d : D} (E : EO K H0 M env σ H pa) (hv : Dp K (vw (Hd M env pa) H) v d) : EO K H0 M (env.set i (.val d)) (σ.set i (some v)) H pa := by
  have ms : Same (vw (Hd M env pa) H) (vw (Hd M (env.set i (.val d)) pa) H) := vw_same (Same.refl H) fun a _ _ q => by
    rcases q with q | q
    · exact .inl q
    · exact .inr (ow_set_val q)
  refine ⟨E.same, E.hid, by simp [E.len], fun j e h => ?_, fun j ds h => ?_, fun j k ds es h1 h2 h3 => ?_⟩
  · rcases set_some h with ⟨rfl, q, hl⟩ | ⟨ne, q⟩
    · cases q
      exact ⟨v, by rw [List.getElem?_set_self (by rw [E.len]; exact hl)], Dp_mono ms _ _ hv⟩
    · obtain ⟨u, h1, h2⟩ := E.val j e q
      exact ⟨u, by rw [List.getElem?_set_ne (Ne.symm ne)]; exact h1, Dp_mono ms _ _ h2⟩
  · rcases set_some h with ⟨_, q, _⟩ | ⟨ne, q⟩
    · cases q
    · obtain ⟨h1, h2, vs, h3, h4⟩ := E.own j ds q
      exact ⟨by rw [List.getElem?_set_ne (Ne.symm ne)]; exact h1, h2, vs, h3, DpAll_mono ms _ _ h4⟩
  · rcases set_some h1 with ⟨_, q, _⟩ | ⟨_, q⟩
    · cases q
    · rcases set_some h2 with ⟨_, r, _⟩ | ⟨_, r⟩
      · cases r
      · exact E.inj j k ds es q r h3
/-- a new list, owned -/
theorem EO.setOwn {i : Nat} {p : Addr} {vs : List V} {ds : List D} (E : EO K H0 M env σ H pa) (hn : H p = none) (hv : DpAll K (vw (Hd M env pa) H) vs ds) :
    EO K H0 M (env.set i (.own ds)) (σ.set i (some (.ref p))) (upd H p (.lst vs)) (fun j => if j = i then p else pa j) := by
  have ms : Same (vw (Hd M env pa) H) (vw (Hd M (env.set i (.own ds)) (fun j => if j = i then p else pa j)) (upd H p (.lst vs))) := fun b o q => by
    obtain ⟨q1, q2⟩ := vw_some q
    have nb : b ≠ p := ne_of_none q2 hn
    refine vw_of (fun z => ?_) (by rw [upd_ne nb]; exact q2)
    rcases z with z | ⟨j, es, z1, z2⟩
    · exact q1 (.inl z)
    · rcases set_some z1 with ⟨rfl, _, _⟩ | ⟨ne, z3⟩
      · simp only [if_true] at z2
        exact nb z2.symm
      · simp only [if_neg ne] at z2
        exact q1 (.inr ⟨j, es, z3, z2⟩)
  refine ⟨E.same.trans (same_upd hn), fun a h q => E.hid a h ((same_upd hn).free q), by simp [E.len], fun j e h => ?_, fun j es h => ?_, fun j k as bs h1 h2 h3 => ?_⟩
  · rcases set_some h with ⟨_, q, _⟩ | ⟨ne, q⟩
    · cases q
    · obtain ⟨u, h1, h2⟩ := E.val j e q
      exact ⟨u, by rw [List.getElem?_set_ne (Ne.symm ne)]; exact h1, Dp_mono ms _ _ h2⟩
  · rcases set_some h with ⟨rfl, q, hl⟩ | ⟨ne, q⟩
    · cases q
      refine ⟨by rw [List.getElem?_set_self (by rw [E.len]; exact hl)]; simp, ⟨by simp only [if_true]; exact E.same.free hn, by simp only [if_true]; exact fun z => E.hid p z hn⟩, vs, by simp only [if_true]; exact upd_same, DpAll_mono ms _ _ hv⟩
    · obtain ⟨h1, h2, ws, h3, h4⟩ := E.own j es q
      have np : pa j ≠ p := ne_of_none h3 hn
      refine ⟨by rw [List.getElem?_set_ne (Ne.symm ne)]; simp only [if_neg ne]; exact h1, by simp only [if_neg ne]; exact h2, ws, by simp only [if_neg ne]; rw [upd_ne np]; exact h3, DpAll_mono ms _ _ h4⟩
  · have key : ∀ (j : Nat) (as : List D), (env.set i (Slot.own ds))[j]? = some (.own as) → j ≠ i → pa j ≠ p := fun j as h ne => by
      rcases set_some h with ⟨rfl, _, _⟩ | ⟨_, q⟩
      · exact absurd rfl ne
      · obtain ⟨_, _, ws, h3, _⟩ := E.own j as q
        exact ne_of_none h3 hn
    by_cases ej : j = i
    · by_cases ek : k = i
      · rw [ej, ek]
      · simp only [if_pos ej, if_neg ek] at h3
        exact absurd h3.symm (key k bs h2 ek)
    · by_cases ek : k = i
      · simp only [if_neg ej, if_pos ek] at h3
        exact absurd h3 (key j as h1 ej)
      · simp only [if_neg ej, if_neg ek] at h3
        rcases set_some h1 with ⟨z, _, _⟩ | ⟨_, q⟩
        · exact absurd z ej
        · rcases set_some h2 with ⟨z, _, _⟩ | ⟨_, r⟩
          · exact absurd z ek
          · exact E.inj j k as bs q r h3
/-- an owned list is written -/
theorem EO.write {i : Nat} {ds es : List D} {ws : List V} (E : EO K H0 M env σ H pa) (hi : env[i]? = some (.own ds)) (hv : DpAll K (vw (Hd M env pa) H) ws es) :
    EO K H0 M (env.set i (.own es)) σ (upd H (pa i) (.lst ws)) pa := by
  have hil : i < env.length := (List.getElem?_eq_some_iff.mp hi).1
  obtain ⟨g1, g2, vs, g3, g4⟩ := E.own i ds hi
  have ow : ∀ a, Ow (env.set i (.own es)) pa a → Ow env pa a := fun a ⟨j, as, z1, z2⟩ => by
    rcases set_some z1 with ⟨rfl, _, _⟩ | ⟨_, q⟩
    · exact ⟨j, ds, hi, z2⟩
    · exact ⟨j, as, q, z2⟩
  have ms : Same (vw (Hd M env pa) H) (vw (Hd M (env.set i (.own es)) pa) (upd H (pa i) (.lst ws))) := fun b o q => by
    obtain ⟨q1, q2⟩ := vw_some q
    have nb : b ≠ pa i := fun z => q1 (.inr ⟨i, ds, hi, z.symm⟩)
    refine vw_of (fun z => ?_) (by rw [upd_ne nb]; exact q2)
    rcases z with z | z
    · exact q1 (.inl z)
    · exact q1 (.inr (ow b z))
  refine ⟨fun b o q => ?_, fun a h q => ?_, by simp [E.len], fun j e h => ?_, fun j as h => ?_, fun j k as bs h1 h2 h3 => ?_⟩
  · have nb : b ≠ pa i := ne_of_none q g2.1
    rw [upd_ne nb]
    exact E.same b o q
  · by_cases e : a = pa i
    · rw [e, upd_same] at q
      cases q
    · rw [upd_ne e] at q
      exact E.hid a h q
  · rcases set_some h with ⟨_, q, _⟩ | ⟨ne, q⟩
    · cases q
    · obtain ⟨u, h1, h2⟩ := E.val j e q
      exact ⟨u, h1, Dp_mono ms _ _ h2⟩
  · rcases set_some h with ⟨rfl, q, hl⟩ | ⟨ne, q⟩
    · cases q
      exact ⟨g1, g2, ws, upd_same, DpAll_mono ms _ _ hv⟩
    · obtain ⟨h1, h2, us, h3, h4⟩ := E.own j as q
      have np : pa j ≠ pa i := fun z => ne (E.inj j i as ds q hi z)
      exact ⟨h1, h2, us, by rw [upd_ne np]; exact h3, DpAll_mono ms _ _ h4⟩
  · have back : ∀ (j : Nat) (as : List D), (env.set i (Slot.own es))[j]? = some (.own as) → ∃ bs : List D, env[j]? = some (Slot.own bs) := fun j as h => by
      rcases set_some h with ⟨rfl, _, _⟩ | ⟨_, q⟩
      · exact ⟨ds, hi⟩
      · exact ⟨as, q⟩
    obtain ⟨_, a1⟩ := back j as h1
    obtain ⟨_, a2⟩ := back k bs h2
    exact E.inj j k _ _ a1 a2 h3
/-- an owned list is given up: it stays from now on as it is -/
theorem EO.frz (E : EO K H0 M env σ H pa) (i : Nat) : EO K H0 M (frz i env) σ H pa := by
  unfold Dn.frz frzS
  split
  · rename_i ds hi
    obtain ⟨g1, g2, vs, g3, g4⟩ := E.own i ds hi
    have hil : i < env.length := (List.getElem?_eq_some_iff.mp hi).1
    have ms : Same (vw (Hd M env pa) H) (vw (Hd M (env.set i (.val (.list ds))) pa) H) := vw_same (Same.refl H) fun a _ _ q => by
      rcases q with q | q
      · exact .inl q
      · exact .inr (ow_set_val q)
    have nP : ¬ Hd M (env.set i (.val (.list ds))) pa (pa i) := fun z => by
      rcases z with z | ⟨j, as, z1, z2⟩
      · exact g2.2 z
      · rcases set_some z1 with ⟨_, e, _⟩ | ⟨ne, q⟩
        · cases e
        · exact ne (E.inj j i as ds q hi z2)
    have hv : Dp K (vw (Hd M (env.set i (.val (.list ds))) pa) H) (.ref (pa i)) (.list ds) := .lst (.inl (.inl (vw_of nP g3))) (DpAll_mono ms _ _ g4)
    refine ⟨E.same, E.hid, by simp [E.len], fun j e h => ?_, fun j as h => ?_, fun j k as bs h1 h2 h3 => ?_⟩
    · rcases set_some h with ⟨rfl, q, hl⟩ | ⟨ne, q⟩
      · cases q
        exact ⟨_, g1, hv⟩
      · obtain ⟨u, h1, h2⟩ := E.val j e q
        exact ⟨u, h1, Dp_mono ms _ _ h2⟩
    · rcases set_some h with ⟨_, q, _⟩ | ⟨ne, q⟩
      · cases q
      · obtain ⟨h1, h2, us, h3, h4⟩ := E.own j as q
        exact ⟨h1, h2, us, h3, DpAll_mono ms _ _ h4⟩
    · rcases set_some h1 with ⟨_, q, _⟩ | ⟨_, q⟩
      · cases q
      · rcases set_some h2 with ⟨_, r, _⟩ | ⟨_, r⟩
        · cases r
        · exact E.inj j k as bs q r h3
  · exact E
end
end Dn

namespace Dn
open PySem PySem.Spec PyProof.Rows L2

/-! ### 3. expressions -/
/-- what is out of sight for a value: with b the lists of names may stand in it -/
abbrev Vs (b : Bool) (M : Addr → Prop) (env : Env) (pa : Nat → Addr) : Addr → Prop := if b = true then M else Hd M env pa
def PEd (X : Cx) (b : Bool) (e : Expr) (g : GE) : Prop := ∃ t, PE X e t ∧ ∀ (H0 : Hp) (M : Addr → Prop) (env : Env) (σ : Sg) (H : Hp) (pa : Nat → Addr) (d : D) (Q : VK), EO X.K H0 M env σ H pa → g env = some d →
  (∀ v H', Same H H' → Dp X.K (vw (Vs b M env pa) H') v d → Q v H') → t σ H Q
def PAd (X : Cx) (b : Bool) (es : List Expr) (g : GA) : Prop := ∃ t, PA X es t ∧ ∀ (H0 : Hp) (M : Addr → Prop) (env : Env) (σ : Sg) (H : Hp) (pa : Nat → Addr) (ds : List D) (Q : List V → Hp → Prop), EO X.K H0 M env σ H pa → g env = some ds →
  (∀ vs H', Same H H' → DpAll X.K (vw (Vs b M env pa) H') vs ds → ds.length = es.length → Q vs H') → t σ H Q
def PTd (X : Cx) (e : Expr) (g : GB) : Prop := ∃ t, PT X e t ∧ ∀ (H0 : Hp) (M : Addr → Prop) (env : Env) (σ : Sg) (H : Hp) (pa : Nat → Addr) (k : Bool) (Q : Bool → Hp → Prop), EO X.K H0 M env σ H pa → g env = some k →
  (∀ H', Same H H' → Q k H') → t σ H Q
def PWd (X : Cx) (e : Expr) (g : GB) : Prop := ∃ t, PW X e t ∧ ∀ (H0 : Hp) (M : Addr → Prop) (env : Env) (σ : Sg) (H : Hp) (pa : Nat → Addr) (k : Bool) (Q : Bool → Hp → Prop), EO X.K H0 M env σ H pa → g env = some k →
  (∀ H', Same H H' → Q k H') → t σ H Q
/-- nothing hidden is a free place -/
abbrev NF (P : Addr → Prop) (H : Hp) : Prop := ∀ p, P p → H p ≠ none
theorem Vs_nf {K : PySem.W.Frag} {H0 : Hp} {M : Addr → Prop} {env : Env} {σ : Sg} {H : Hp} {pa : Nat → Addr} (b : Bool) (E : EO K H0 M env σ H pa) : NF (Vs b M env pa) H := fun p h => by
  cases b with
  | true => exact E.hidden (.inl h)
  | false => exact E.hidden h
theorem vw_up {P : Addr → Prop} {H H' : Hp} (e : Same H H') : Same (vw P H) (vw P H') := vw_same e fun _ _ _ q => q
theorem NF.up {P : Addr → Prop} {H H' : Hp} (n : NF P H) (e : Same H H') : NF P H' := fun p h q => n p h (e.free q)
/-- two-place operations on data -/
def OpD (K : PySem.W.Frag) (r : R2) (f : D → D → Option D) : Prop := ∀ (P : Addr → Prop) (H : Hp) (x y : V) (d e z : D) (Q : VK), NF P H → Dp K (vw P H) x d → Dp K (vw P H) y e → f d e = some z →
  (∀ v H', Same H H' → Dp K (vw P H') v z → Q v H') → r x y H Q
def UnD (K : PySem.W.Frag) (r : V → Hp → VK → Prop) (f : D → Option D) : Prop := ∀ (P : Addr → Prop) (H : Hp) (x : V) (d z : D) (Q : VK), NF P H → Dp K (vw P H) x d → f d = some z →
  (∀ v H', Same H H' → Dp K (vw P H') v z → Q v H') → r x H Q
def CaD (K : PySem.W.Frag) (r : List V → Hp → VK → Prop) (f : List D → Option D) : Prop := ∀ (P : Addr → Prop) (H : Hp) (xs : List V) (ds : List D) (z : D) (Q : VK), NF P H → DpAll K (vw P H) xs ds → f ds = some z →
  (∀ v H', Same H H' → Dp K (vw P H') v z → Q v H') → r xs H Q
section
variable {X : Cx} {b : Bool} {e a c : Expr} {es : List Expr} {pos : Pos} {ga gb : GE}

theorem pd_var {i : Nat} {x : Str} (hN : X.N[i]? = some x) (hv : Vis X.env.scope x) (hd : (x == ("__debug__" : Str)) = false := by decide) (hcd : (x == ("__classdict__" : Str)) = false := by decide) : PEd X b (.Name x pos) (gVar i) := by
  refine ⟨_, pe_var hN hv hd hcd, fun H0 M env σ H pa d Q E h q => ?_⟩
  unfold gVar look at h
  split at h
  · rename_i d' hi
    cases h
    obtain ⟨v, h1, h2⟩ := E.val i _ hi
    refine ⟨v, h1, q v H (Same.refl H) ?_⟩
    cases b with
    | false => exact h2
    | true => exact Dp_mono (vw_same (Same.refl H) fun _ _ _ z => .inl z) _ _ h2
  · cases h
theorem pd_varB {i : Nat} {x : Str} (hN : X.N[i]? = some x) (hv : Vis X.env.scope x) (hd : (x == ("__debug__" : Str)) = false := by decide) (hcd : (x == ("__classdict__" : Str)) = false := by decide) : PEd X true (.Name x pos) (gVarB i) := by
  refine ⟨_, pe_var hN hv hd hcd, fun H0 M env σ H pa d Q E h q => ?_⟩
  have sm : Same (vw (Hd M env pa) H) (vw M H) := vw_same (Same.refl H) fun _ _ _ z => .inl z
  unfold gVarB lookB at h
  split at h
  · rename_i d' hi
    cases h
    obtain ⟨v, h1, h2⟩ := E.val i _ hi
    exact ⟨v, h1, q v H (Same.refl H) (Dp_mono sm _ _ h2)⟩
  · rename_i ds hi
    cases h
    obtain ⟨h1, h2, vs, h3, h4⟩ := E.own i _ hi
    refine ⟨_, h1, q _ H (Same.refl H) (.lst (.inl (.inl (vw_of (fun z => ?_) h3))) (DpAll_mono sm _ _ h4))⟩
    exact h2.2 z
  · cases h
/-- what bears no list is no list of a name's -/
def flat : D → Bool
  | .none => true
  | .bool _ => true
  | .int _ => true
  | .str _ => true
  | .tuple ds => flatAll ds
  | _ => false
where flatAll : List D → Bool
  | [] => true
  | d :: ds => flat d && flatAll ds
mutual
theorem Dp_flat {K : PySem.W.Frag} {H0 : Hp} {M : Addr → Prop} {env : Env} {σ : Sg} {H : Hp} {pa : Nat → Addr} (E : EO K H0 M env σ H pa) : ∀ (d : D) (v : V), flat d = true → Dp K (vw M H) v d → Dp K (vw (Hd M env pa) H) v d
  | .none, _, _, .non => .non
  | .bool _, _, _, .bl b => .bl b
  | .int _, _, _, .int i => .int i
  | .str _, _, _, .str x => .str x
  | .list _, _, h, _ => by cases h
  | .dict _, _, h, _ => by cases h
  | .tuple ds, _, h, .tup (a := a) hs ha => by
    refine .tup ?_ (DpAll_flat E ds _ h ha)
    rcases hs with (hs | ⟨o, hs⟩) | hs
    · obtain ⟨h1, h2⟩ := vw_some hs
      refine .inl (.inl (vw_of (fun z => ?_) h2))
      rcases z with z | ⟨i, es, z1, z2⟩
      · exact h1 z
      · obtain ⟨_, _, vs, h3, _⟩ := E.own i es z1
        rw [z2, h2] at h3
        cases h3
    · obtain ⟨h1, h2⟩ := vw_some hs
      refine .inl (.inr ⟨o, vw_of (fun z => ?_) h2⟩)
      rcases z with z | ⟨i, es, z1, z2⟩
      · exact h1 z
      · obtain ⟨_, _, vs, h3, _⟩ := E.own i es z1
        rw [z2, h2] at h3
        cases h3
    · exact .inr hs
theorem DpAll_flat {K : PySem.W.Frag} {H0 : Hp} {M : Addr → Prop} {env : Env} {σ : Sg} {H : Hp} {pa : Nat → Addr} (E : EO K H0 M env σ H pa) : ∀ (ds : List D) (vs : List V), flat.flatAll ds = true → DpAll K (vw M H) vs ds → DpAll K (vw (Hd M env pa) H) vs ds
  | [], _, _, .nil => .nil
  | d :: ds, _, h, .cons h1 h2 => by
    have hh := Bool.and_eq_true_iff.mp (show (flat d && flat.flatAll ds) = true from h)
    exact .cons (Dp_flat E d _ hh.1 h1) (DpAll_flat E ds _ hh.2 h2)
end
def gFlat (a : GE) : GE := fun env => (a env).bind fun d => if flat d = true then some d else none
theorem pd_flat (h : PEd X true e ga) : PEd X b e (gFlat ga) := by
  obtain ⟨t, ht, hh⟩ := h
  refine ⟨t, ht, fun H0 M env σ H pa d Q E h q => ?_⟩
  unfold gFlat at h
  cases ha : ga env with
  | none => rw [ha] at h; cases h
  | some d' =>
    rw [ha] at h
    have h : (if flat d' = true then some d' else none) = some d := h
    split at h
    · rename_i hf
      cases h
      refine hh H0 M env σ H pa d Q E ha fun v H' sm hv => q v H' sm ?_
      cases b with
      | true => exact hv
      | false => exact Dp_flat (E.up sm) d v hf hv
    · cases h
theorem pd_weak (h : PEd X false e ga) : PEd X true e ga := by
  obtain ⟨t, ht, hh⟩ := h
  exact ⟨t, ht, fun H0 M env σ H pa d Q E h q => hh H0 M env σ H pa d Q E h fun v H' sm hv => q v H' sm (Dp_mono (vw_same (Same.refl _) fun _ _ _ z => .inl z) _ _ hv)⟩
theorem pd_int {i j} : PEd X b (.Constant (.int i) j pos) (gC (.int i)) := ⟨_, pe_int, fun _ _ _ _ H _ _ Q _ h q => by cases h; exact q _ H (Same.refl H) (.int i)⟩
theorem pd_bl {k j} : PEd X b (.Constant (.bool k) j pos) (gC (.bool k)) := ⟨_, pe_bl, fun _ _ _ _ H _ _ Q _ h q => by cases h; exact q _ H (Same.refl H) (.bl k)⟩
theorem pd_non {j} : PEd X b (.Constant .none j pos) (gC .none) := ⟨_, pe_non, fun _ _ _ _ H _ _ Q _ h q => by cases h; exact q _ H (Same.refl H) .non⟩
theorem pd_str {x j} : PEd X b (.Constant (.str x) j pos) (gC (.str x)) := ⟨_, pe_str, fun _ _ _ _ H _ _ Q _ h q => by cases h; exact q _ H (Same.refl H) (.str x)⟩
/-- a constant of the module that is data in K -/
theorem pd_glob {x : Str} {v : V} {u : Value} {d : D} (hg : Gl X x) (hm : X.mg x = some u) (r : RelV v u) (hd : ∀ H, Dp X.K H v d) (hdb : (x == ("__debug__" : Str)) = false := by decide) : PEd X b (.Name x pos) (gC d) :=
  ⟨_, pe_glob hg hm r hdb, fun _ _ _ _ H _ _ Q _ h q => by cases h; exact q _ H (Same.refl H) (hd _)⟩

theorem two {ta tb : TE} {H0 : Hp} {M : Addr → Prop} {env : Env} {σ : Sg} {H : Hp} {pa : Nat → Addr} {d e' : D} {R : V → V → Hp → Prop} (E : EO X.K H0 M env σ H pa)
    (ha : ∀ (H0 : Hp) (M : Addr → Prop) (env : Env) (σ : Sg) (H : Hp) (pa : Nat → Addr) (d : D) (Q : VK), EO X.K H0 M env σ H pa → ga env = some d → (∀ v H', Same H H' → Dp X.K (vw (Vs b M env pa) H') v d → Q v H') → ta σ H Q)
    (hb : ∀ (H0 : Hp) (M : Addr → Prop) (env : Env) (σ : Sg) (H : Hp) (pa : Nat → Addr) (d : D) (Q : VK), EO X.K H0 M env σ H pa → gb env = some d → (∀ v H', Same H H' → Dp X.K (vw (Vs b M env pa) H') v d → Q v H') → tb σ H Q)
    (h1 : ga env = some d) (h2 : gb env = some e') (k : ∀ x y H', Same H H' → Dp X.K (vw (Vs b M env pa) H') x d → Dp X.K (vw (Vs b M env pa) H') y e' → R x y H') : ta σ H fun x H1 => tb σ H1 fun y H2 => R x y H2 :=
  ha H0 M env σ H pa d _ E h1 fun x H1 s1 hx => hb H0 M env σ H1 pa e' _ (E.up s1) h2 fun y H2 s2 hy => k x y H2 (s1.trans s2) (Dp_mono (vw_up s2) _ _ hx) hy
theorem bind2 {α β γ : Type} {x : Option α} {y : Option β} {f : α → β → Option γ} {z : γ} (h : (x.bind fun u => y.bind fun v => f u v) = some z) : ∃ u v, x = some u ∧ y = some v ∧ f u v = some z := by
  cases x with
  | none => cases h
  | some u =>
    cases y with
    | none => cases h
    | some v => exact ⟨u, v, rfl, rfl, h⟩
theorem bind1 {α γ : Type} {x : Option α} {f : α → Option γ} {z : γ} (h : x.bind f = some z) : ∃ u, x = some u ∧ f u = some z := by
  cases x with
  | none => cases h
  | some u => exact ⟨u, rfl, h⟩
theorem pd_op {op : Operator} {r : R2} {f : D → D → Option D} (ho : OpR X (binaryOp op) r) (hf : OpD X.K r f) (ha : PEd X b a ga) (hb : PEd X b c gb) : PEd X b (.BinOp a op c pos) (g2 f ga gb) := by
  obtain ⟨ta, pa', ha⟩ := ha
  obtain ⟨tb, pb', hb⟩ := hb
  refine ⟨_, pe_op ho pa' pb', fun H0 M env σ H pa d Q E h q => ?_⟩
  obtain ⟨d1, d2, h1, h2, h3⟩ := bind2 h
  exact two E ha hb h1 h2 fun x y H' s hx hy => hf _ H' x y d1 d2 d Q (Vs_nf b (E.up s)) hx hy h3 fun v H'' s' hv => q v H'' (s.trans s') hv
theorem pd_un {op : UnaryOp} {r : V → Hp → VK → Prop} {f : D → Option D} (ho : UnR X (unaryOp op) r) (hf : UnD X.K r f) (ha : PEd X b a ga) : PEd X b (.UnaryOp op a pos) (g1 f ga) := by
  obtain ⟨ta, pa', ha⟩ := ha
  refine ⟨_, pe_un ho pa', fun H0 M env σ H pa d Q E h q => ?_⟩
  obtain ⟨d1, h1, h3⟩ := bind1 h
  exact ha H0 M env σ H pa d1 _ E h1 fun x H' s hx => hf _ H' x d1 d Q (Vs_nf b (E.up s)) hx h3 fun v H'' s' hv => q v H'' (s.trans s') hv
theorem pd_cmp {op : CmpOp} {r : R2} {f : D → D → Option D} (ho : OpR X (compareOp op) r) (hf : OpD X.K r f) (ha : PEd X b a ga) (hb : PEd X b c gb) (hm : behindInMarks op c = false) : PEd X b (.Compare a [op] [c] pos) (g2 f ga gb) := by
  obtain ⟨ta, pa', ha⟩ := ha
  obtain ⟨tb, pb', hb⟩ := hb
  refine ⟨_, pe_cmpR ho pa' pb' hm, fun H0 M env σ H pa d Q E h q => ?_⟩
  obtain ⟨d1, d2, h1, h2, h3⟩ := bind2 h
  exact two E ha hb h1 h2 fun x y H' s hx hy => hf _ H' x y d1 d2 d Q (Vs_nf b (E.up s)) hx hy h3 fun v H'' s' hv => q v H'' (s.trans s') hv
theorem asBool_some {d : D} {k : Bool} (h : asBool d = some k) : d = .bool k := by
  cases d <;> cases h
  rfl
theorem pt_cmpD {op : CmpOp} {r : R2} {f : D → D → Option D} (ho : OpR X (compareOp op) r) (hf : OpD X.K r f) (ha : PEd X true a ga) (hb : PEd X true c gb) (hm : behindInMarks op c = false) : PTd X (.Compare a [op] [c] pos) (gTest (g2 f ga gb)) := by
  obtain ⟨ta, pa', ha⟩ := ha
  obtain ⟨tb, pb', hb⟩ := hb
  refine ⟨_, pt_cmpR ho pa' pb' hm, fun H0 M env σ H pa k Q E h q => ?_⟩
  obtain ⟨d, h0, hk⟩ := bind1 h
  have hk := asBool_some hk
  subst hk
  obtain ⟨d1, d2, h1, h2, h3⟩ := bind2 h0
  exact two E ha hb h1 h2 fun x y H' s hx hy => hf _ H' x y d1 d2 _ _ (Vs_nf true (E.up s)) hx hy h3 fun v H'' s' hv => by
    cases hv
    exact ⟨k, rfl, q H'' (s.trans s')⟩
/-- an expression whose value is a bool, as a test -/
theorem pt_valD (ha : PEd X true e ga) (he : ∀ whole, isTrue e X.env whole = (do let v ← whole; standAt e.pos; holding [v] (truthy v)) := by intro _; rfl) : PTd X e (gTest ga) := by
  obtain ⟨ta, pa', ha⟩ := ha
  refine ⟨_, pt_val pa' he, fun H0 M env σ H pa k Q E h q => ?_⟩
  obtain ⟨d, h0, hk⟩ := bind1 h
  have hk := asBool_some hk
  subst hk
  exact ha H0 M env σ H pa _ _ E h0 fun v H' s hv => by
    cases hv
    exact ⟨k, rfl, q H' s⟩
theorem truD {K : PySem.W.Frag} {P : Addr → Prop} {H : Hp} {v : V} {d : D} {k : Bool} (hv : Dp K (vw P H) v d) (h : vTruth d = some k) : TruV K v H k := by
  cases hv with
  | non => cases h; rfl
  | bl b => cases h; rfl
  | int i => cases h; rfl
  | str x =>
    have h : (if x.length ≤ lim then some ((x.length : Int) != 0) else none) = some k := h
    split at h
    · rename_i hl
      cases h
      exact ⟨by rw [← lim_eq]; exact hl, rfl⟩
    · cases h
  | lst hs ha =>
    cases h
    refine .inl ⟨_, vw_le.seq hs, ?_⟩
    cases ha <;> rfl
  | tup hs ha =>
    cases h
    refine .inr (.inl ⟨_, seqT vw_le hs, ?_⟩)
    cases ha <;> rfl
theorem pt_truthD (ha : PEd X true e ga) (he : ∀ whole, isTrue e X.env whole = (do let v ← whole; standAt e.pos; holding [v] (truthy v)) := by intro _; rfl) : PTd X e (gTruth ga) := by
  obtain ⟨ta, pa', ha⟩ := ha
  refine ⟨_, pt_truth pa' he, fun H0 M env σ H pa k Q E h q => ?_⟩
  obtain ⟨d, h0, hk⟩ := bind1 h
  exact ha H0 M env σ H pa _ _ E h0 fun v H' s hv => ⟨k, truD hv hk, q H' s⟩
variable {gA gB : GB} {rest : List Expr}
theorem PWd.pt (h : PWd X e gA) : PTd X e gA := by
  obtain ⟨t, ht, hh⟩ := h
  exact ⟨t, ht.pt, hh⟩
theorem pw_and1D (ha : PTd X a gA) : PWd X (.BoolOp .And [a] pos) gA := by
  obtain ⟨t, ht, hh⟩ := ha
  exact ⟨t, pw_and1 ht, hh⟩
theorem pw_or1D (ha : PTd X a gA) : PWd X (.BoolOp .Or [a] pos) gA := by
  obtain ⟨t, ht, hh⟩ := ha
  exact ⟨t, pw_or1 ht, hh⟩
theorem pw_andD (ha : PTd X a gA) (hb : PWd X (.BoolOp .And (c :: rest) pos) gB) : PWd X (.BoolOp .And (a :: c :: rest) pos) (gAnd gA gB) := by
  obtain ⟨t, ht, hh⟩ := ha
  obtain ⟨u, hu, hh'⟩ := hb
  refine ⟨_, pw_and ht hu, fun H0 M env σ H pa k Q E h q => ?_⟩
  obtain ⟨k1, h1, h2⟩ := bind1 h
  refine hh H0 M env σ H pa k1 _ E h1 fun H' s => ?_
  cases k1 with
  | true =>
    rw [if_pos rfl] at h2 ⊢
    exact hh' H0 M env σ H' pa k Q (E.up s) h2 fun H'' s' => q H'' (s.trans s')
  | false =>
    rw [if_neg (by decide)] at h2 ⊢
    cases h2
    exact q H' s
theorem pw_orD (ha : PTd X a gA) (hb : PWd X (.BoolOp .Or (c :: rest) pos) gB) : PWd X (.BoolOp .Or (a :: c :: rest) pos) (gOr gA gB) := by
  obtain ⟨t, ht, hh⟩ := ha
  obtain ⟨u, hu, hh'⟩ := hb
  refine ⟨_, pw_or ht hu, fun H0 M env σ H pa k Q E h q => ?_⟩
  obtain ⟨k1, h1, h2⟩ := bind1 h
  refine hh H0 M env σ H pa k1 _ E h1 fun H' s => ?_
  cases k1 with
  | false =>
    rw [if_neg (by decide)] at h2 ⊢
    exact hh' H0 M env σ H' pa k Q (E.up s) h2 fun H'' s' => q H'' (s.trans s')
  | true =>
    rw [if_pos rfl] at h2 ⊢
    cases h2
    exact q H' s
theorem pt_notD (ha : PTd X a gA) : PTd X (.UnaryOp .Not a pos) (gNot gA) := by
  obtain ⟨t, ht, hh⟩ := ha
  refine ⟨_, pt_not ht, fun H0 M env σ H pa k Q E h q => ?_⟩
  obtain ⟨k1, h1, h2⟩ := bind1 h
  cases h2
  exact hh H0 M env σ H pa k1 _ E h1 fun H' s => q H' s
theorem pd_one {op} (h : PEd X b a ga) : PEd X b (.BoolOp op [a] pos) ga := by
  obtain ⟨t, ht, hh⟩ := h
  exact ⟨t, pe_one ht, hh⟩
theorem pd_and (ha : PEd X b a ga) (hb : PEd X b (.BoolOp .And (c :: rest) pos) gb) : PEd X b (.BoolOp .And (a :: c :: rest) pos) (gAndV ga gb) := by
  obtain ⟨t, ht, hh⟩ := ha
  obtain ⟨u, hu, hh'⟩ := hb
  refine ⟨_, pe_and ht hu, fun H0 M env σ H pa d Q E h q => ?_⟩
  obtain ⟨d1, h1, h2⟩ := bind1 h
  obtain ⟨k1, h3, h4⟩ := bind1 h2
  have h3 := asBool_some h3
  subst h3
  refine hh H0 M env σ H pa _ _ E h1 fun v H' s hv => ?_
  cases hv
  refine ⟨k1, rfl, ?_⟩
  cases k1 with
  | true =>
    rw [if_pos rfl] at h4 ⊢
    exact hh' H0 M env σ H' pa d Q (E.up s) h4 fun v H'' s' => q v H'' (s.trans s')
  | false =>
    rw [if_neg (by decide)] at h4 ⊢
    cases h4
    exact q _ H' s (.bl false)
theorem pd_or (ha : PEd X b a ga) (hb : PEd X b (.BoolOp .Or (c :: rest) pos) gb) : PEd X b (.BoolOp .Or (a :: c :: rest) pos) (gOrV ga gb) := by
  obtain ⟨t, ht, hh⟩ := ha
  obtain ⟨u, hu, hh'⟩ := hb
  refine ⟨_, pe_or ht hu, fun H0 M env σ H pa d Q E h q => ?_⟩
  obtain ⟨d1, h1, h2⟩ := bind1 h
  obtain ⟨k1, h3, h4⟩ := bind1 h2
  have h3 := asBool_some h3
  subst h3
  refine hh H0 M env σ H pa _ _ E h1 fun v H' s hv => ?_
  cases hv
  refine ⟨k1, rfl, ?_⟩
  cases k1 with
  | false =>
    rw [if_neg (by decide)] at h4 ⊢
    exact hh' H0 M env σ H' pa d Q (E.up s) h4 fun v H'' s' => q v H'' (s.trans s')
  | true =>
    rw [if_pos rfl] at h4 ⊢
    cases h4
    exact q _ H' s (.bl true)
theorem pd_not (ha : PEd X b a ga) : PEd X b (.UnaryOp .Not a pos) (gNotV ga) := by
  obtain ⟨t, ht, hh⟩ := ha
  refine ⟨_, pe_not ht, fun H0 M env σ H pa d Q E h q => ?_⟩
  obtain ⟨d1, h1, h2⟩ := bind1 h
  obtain ⟨k1, h3, h4⟩ := bind1 h2
  have h3 := asBool_some h3
  subst h3
  cases h4
  refine hh H0 M env σ H pa _ _ E h1 fun v H' s hv => ?_
  cases hv
  exact ⟨k1, rfl, q _ H' s (.bl _)⟩
theorem pd_if {t : Expr} (hc : PTd X t gA) (ha : PEd X b a ga) (hb : PEd X b c gb) : PEd X b (.IfExp t a c pos) (gIfE gA ga gb) := by
  obtain ⟨t0, ht, hh⟩ := hc
  obtain ⟨t1, ht1, hh1⟩ := ha
  obtain ⟨t2, ht2, hh2⟩ := hb
  refine ⟨_, pe_ifExp ht ht1 ht2, fun H0 M env σ H pa d Q E h q => ?_⟩
  obtain ⟨k, h1, h2⟩ := bind1 h
  refine hh H0 M env σ H pa k _ E h1 fun H' s => ?_
  cases k with
  | true =>
    rw [if_pos rfl] at h2 ⊢
    exact hh1 H0 M env σ H' pa d Q (E.up s) h2 fun v H'' s' => q v H'' (s.trans s')
  | false =>
    rw [if_neg (by decide)] at h2 ⊢
    exact hh2 H0 M env σ H' pa d Q (E.up s) h2 fun v H'' s' => q v H'' (s.trans s')

/-! arguments, displays, calls -/
variable {gs : GA}
theorem pad_nil : PAd X b [] aNil := ⟨_, pa_nil, fun _ _ _ _ H _ _ Q _ h q => by cases h; exact q [] H (Same.refl H) .nil rfl⟩
theorem pad_cons (ha : PEd X b e ga) (hr : PAd X b es gs) (hs : starEach (e :: es) X.env = (false, eval e X.env) :: starEach es X.env := by rfl) : PAd X b (e :: es) (aCons ga gs) := by
  obtain ⟨t, ht, hh⟩ := ha
  obtain ⟨u, hu, hh'⟩ := hr
  refine ⟨_, pa_cons ht hu hs, fun H0 M env σ H pa ds Q E h q => ?_⟩
  obtain ⟨d, ds', h1, h2, h3⟩ := bind2 h
  cases h3
  refine hh H0 M env σ H pa d _ E h1 fun v H1 s1 hv => hh' H0 M env σ H1 pa ds' _ (E.up s1) h2 fun vs H2 s2 hvs hl => ?_
  exact q _ H2 (s1.trans s2) (.cons (Dp_mono (vw_up s2) _ _ hv) hvs) (by rw [List.length_cons, List.length_cons, hl])
theorem pd_tup {x1} (h : PAd X b es gs) (hz : es.length ≤ lim := by decide) : PEd X b (.Tuple es x1 pos) (gArgs vTup gs) := by
  obtain ⟨t, ht, hh⟩ := h
  refine ⟨_, pe_tup ht, fun H0 M env σ H pa d Q E h q => ?_⟩
  obtain ⟨ds, h1, h2⟩ := bind1 h
  cases h2
  refine hh H0 M env σ H pa ds _ E h1 fun vs H' s hv hl => ⟨by rw [DpAll_len hv, hl, ← lim_eq]; exact hz, fun p hp => ?_⟩
  have nP := fun z => Vs_nf b (E.up s) p z hp
  refine q _ _ (s.trans (same_upd hp)) (.tup (.inl (.inl (vw_of nP upd_same))) (DpAll_mono (vw_up (same_upd hp)) _ _ hv))
theorem pd_lst (h : PAd X b es gs) (hz : es.length ≤ lim := by decide) : PEd X b (.List es pos) (gArgs vLst gs) := by
  obtain ⟨t, ht, hh⟩ := h
  refine ⟨_, pe_lst ht, fun H0 M env σ H pa d Q E h q => ?_⟩
  obtain ⟨ds, h1, h2⟩ := bind1 h
  cases h2
  refine hh H0 M env σ H pa ds _ E h1 fun vs H' s hv hl => ⟨by rw [DpAll_len hv, hl, ← lim_eq]; exact hz, fun p hp => ?_⟩
  have nP := fun z => Vs_nf b (E.up s) p z hp
  refine q _ _ (s.trans (same_upd hp)) (.lst (.inl (.inl (vw_of nP upd_same))) (DpAll_mono (vw_up (same_upd hp)) _ _ hv))
/-- a def's promise by data -/
def SpD (K : PySem.W.Frag) (n : Nat) (F : List D → Option D) : Sp := fun vs H Q _ => ∃ ds d P, DpAll K (vw P H) vs ds ∧ F ds = some d ∧ ds.length = n ∧ NF P H ∧ ∀ v H', Same H H' → Dp K (vw P H') v d → Q v H'
theorem SpD.len {K : PySem.W.Frag} {n : Nat} {F : List D → Option D} {vs : List V} {H : Hp} {Q : VK} {E : XK} (h : SpD K n F vs H Q E) : vs.length = n := by
  obtain ⟨ds, d, P, h1, _, h3, _⟩ := h
  rw [DpAll_len h1, h3]
theorem pd_call {k : Nat} {f : Addr} {fd : FuncData} {ps : List Str} {x : Str} {p : Pos} {F : List D → Option D} (G : FnOk X.prog X.w X.K X.mg X.base CX0 k f fd ps (SpD X.K (e :: es).length F)) (hr : Room k X.A) (hg : Gl X x) (hm : X.mg x = some (.ref f)) (hk : PySem.W.keepIn X.K (.ref f) = true) (hb : Binds X.K fd ps [])
    (ha : PAd X b (e :: es) gs) (hdb : (x == ("__debug__" : Str)) = false := by decide) (he : starEach (e :: es) X.env = (false, eval e X.env) :: starEach es X.env := by rfl) (hpl : (backTo pos (starEach es X.env)).any (·.1) = false := by rfl) :
    PEd X b (.Call (.Name x p) (e :: es) [] pos) (gArgs F gs) := by
  obtain ⟨t, ht, hh⟩ := ha
  refine ⟨_, pe_call (E := fun _ _ _ => False) G hr hg hm hk hb .nil pass0 ht hdb he hpl, fun H0 M env σ H pa d Q E h q => ?_⟩
  obtain ⟨ds, h1, h2⟩ := bind1 h
  refine hh H0 M env σ H pa ds _ E h1 fun vs H' s hv hl => ?_
  refine ⟨ds, d, _, by rw [List.append_nil]; exact hv, h2, hl, Vs_nf b (E.up s), fun v H'' s' hv' => q v H'' (s.trans s') hv'⟩
theorem pd_callB {x : Str} {p : Pos} {id : String} {r : List V → Hp → VK → Prop} {f : List D → Option D} (hc : CallR X (.builtin id) r) (hf : CaD X.K r f) (hg : Gl X x) (hm : X.mg x = none) (hv : bootBuiltins x = some (.builtin id)) (ha : PAd X b (e :: es) gs) (hn : x ≠ "__name__" := by decide) (hdb : (x == ("__debug__" : Str)) = false := by decide)
    (he : starEach (e :: es) X.env = (false, eval e X.env) :: starEach es X.env := by rfl) (hpl : (backTo pos (starEach es X.env)).any (·.1) = false := by rfl) : PEd X b (.Call (.Name x p) (e :: es) [] pos) (gArgs f gs) := by
  obtain ⟨t, ht, hh⟩ := ha
  refine ⟨_, pe_callB hc hg hm hv ht hn hdb he hpl, fun H0 M env σ H pa d Q E h q => ?_⟩
  obtain ⟨ds, h1, h2⟩ := bind1 h
  refine hh H0 M env σ H pa ds _ E h1 fun vs H' s hv hl => ?_
  exact hf _ H' vs ds d Q (Vs_nf b (E.up s)) hv h2 fun v H'' s' hv' => q v H'' (s.trans s') hv'
theorem pd_callTy {x : Str} {p : Pos} {T : String} {r : List V → Hp → VK → Prop} {f : List D → Option D} (hc : CallR X (.type T) r) (hf : CaD X.K r f) (hg : Gl X x) (hm : X.mg x = none) (hv : bootBuiltins x = some (.type T)) (ha : PAd X b (e :: es) gs) (hn : x ≠ "__name__" := by decide) (hdb : (x == ("__debug__" : Str)) = false := by decide)
    (he : starEach (e :: es) X.env = (false, eval e X.env) :: starEach es X.env := by rfl) (hpl : (backTo pos (starEach es X.env)).any (·.1) = false := by rfl) : PEd X b (.Call (.Name x p) (e :: es) [] pos) (gArgs f gs) := by
  obtain ⟨t, ht, hh⟩ := ha
  refine ⟨_, pe_callTy hc hg hm hv ht hn hdb he hpl, fun H0 M env σ H pa d Q E h q => ?_⟩
  obtain ⟨ds, h1, h2⟩ := bind1 h
  refine hh H0 M env σ H pa ds _ E h1 fun vs H' s hv hl => ?_
  exact hf _ H' vs ds d Q (Vs_nf b (E.up s)) hv h2 fun v H'' s' hv' => q v H'' (s.trans s') hv'
end
end Dn

namespace Dn
open PySem PySem.Spec PyProof.Rows L2

/-! ### 4. statements -/
def Post (K : PySem.W.Frag) (H0 : Hp) (M : Addr → Prop) (o : Out) (T : Ends) : Prop := match o with
  | .nx env => ∀ σ H pa, EO K H0 M env σ H pa → T.nx σ H
  | .ret d => ∀ v H, Same H0 H → Dp K (vw M H) v d → T.rt v H
  | .bk env => ∀ σ H pa, EO K H0 M env σ H pa → T.bk σ H
  | .ct env => ∀ σ H pa, EO K H0 M env σ H pa → T.ct σ H
def RdS (K : PySem.W.Frag) (t : TS) (g : GS) : Prop := ∀ (H0 : Hp) (M : Addr → Prop) (env : Env) (σ : Sg) (H : Hp) (pa : Nat → Addr) (o : Out) (T : Ends), EO K H0 M env σ H pa → g env = some o → Post K H0 M o T → t T σ H
def PSd (X : Cx) (st : Stmt) (g : GS) : Prop := ∃ t, PS X st t ∧ RdS X.K t g
def PSsd (X : Cx) (sts : List Stmt) (g : GS) : Prop := ∃ t, PSs X sts t ∧ RdS X.K t g
/-- a target -/
def PGd (X : Cx) (tg : Expr) (t : GT) : Prop := ∃ g, PG X tg g ∧ ∀ (H0 : Hp) (M : Addr → Prop) (env : Env) (σ : Sg) (H : Hp) (pa : Nat → Addr) (v : V) (d : D) (env' : Env) (Q : Sg → Hp → Prop), EO X.K H0 M env σ H pa → Dp X.K (vw (Hd M env pa) H) v d → t d env = some env' →
  (∀ σ' H' pa', EO X.K H0 M env' σ' H' pa' → Q σ' H') → g v σ H Q
def PGsd (X : Cx) (tgs : List Expr) (ts : List GT) : Prop := ∃ g, PGs X tgs g ∧ ∀ (H0 : Hp) (M : Addr → Prop) (env : Env) (σ : Sg) (H : Hp) (pa : Nat → Addr) (vs : List V) (ds : List D) (env' : Env) (Q : Sg → Hp → Prop), EO X.K H0 M env σ H pa → DpAll X.K (vw (Hd M env pa) H) vs ds → tTup2 ts ds env = some env' →
  (∀ σ' H' pa', EO X.K H0 M env' σ' H' pa' → Q σ' H') → g vs σ H Q
/-- what a loop walks -/
structure Wk (K : PySem.W.Frag) (Hc : Hp) (J : It) (ds : List D) : Prop where
  stop : ∀ H2, Same Hc H2 → J.stop ds.length H2
  go : ∀ (i : Nat) (d : D) H2, Same Hc H2 → ds[i]? = some d → J.go i H2 ∧ ∀ x H3, J.yld i H2 x H3 → Same H2 H3 ∧ ∀ P, NF P H2 → Same Hc (vw P H2) → Dp K (vw P H3) x d
def PId (X : Cx) (tg iter : Expr) (b : Bool) (g : GA) : Prop := ∃ wi, PI X tg iter wi ∧ ∀ (H0 : Hp) (M : Addr → Prop) (env : Env) (σ : Sg) (H : Hp) (pa : Nat → Addr) (ds : List D) (R : It → Hp → Prop), EO X.K H0 M env σ H pa → g env = some ds →
  (∀ J H', Same H H' → Wk X.K (vw (Vs b M env pa) H') J ds → R J H') → wi σ H R
section
variable {X : Cx} {b : Bool} {e a c tg iter : Expr} {es tgs : List Expr} {pos : Pos} {ga gb : GE} {gS gT' : GS} {st : Stmt} {sts body : List Stmt} {cB : GB}

theorem psd_nil : PSsd X [] sNx := ⟨_, pss_nil, fun H0 M env σ H pa o T E h q => by cases h; exact q σ H pa E⟩
theorem psd_cons (h1 : PSd X st gS) (h2 : PSsd X sts gT') : PSsd X (st :: sts) (sSeq gS gT') := by
  obtain ⟨t, ht, hh⟩ := h1
  obtain ⟨u, hu, hh'⟩ := h2
  refine ⟨_, pss_cons ht hu, fun H0 M env σ H pa o T E h q => ?_⟩
  obtain ⟨o1, h1, h2⟩ := bind1 h
  refine hh H0 M env σ H pa o1 { T with nx := u T } E h1 ?_
  cases o1 with
  | nx env1 => exact fun σ' H' pa' E' => hh' H0 M env1 σ' H' pa' o T E' h2 q
  | ret d => cases h2; exact q
  | bk env1 => cases h2; exact q
  | ct env1 => cases h2; exact q
theorem psd_one (h1 : PSd X st gS) : PSsd X [st] gS := by
  obtain ⟨t, ht, hh⟩ := h1
  exact ⟨t, pss_one ht, hh⟩
/-- a name's own list is given up ahead of what follows -/
theorem psd_frz (i : Nat) (h : PSsd X sts gS) : PSsd X sts (fun env => gS (frz i env)) := by
  obtain ⟨t, ht, hh⟩ := h
  exact ⟨t, ht, fun H0 M env σ H pa o T E h q => hh H0 M _ σ H pa o T (E.frz i) h q⟩
theorem ps_frz (i : Nat) (h : PSd X st gS) : PSd X st (fun env => gS (frz i env)) := by
  obtain ⟨t, ht, hh⟩ := h
  exact ⟨t, ht, fun H0 M env σ H pa o T E h q => hh H0 M _ σ H pa o T (E.frz i) h q⟩
theorem sd_pass : PSd X (.Pass pos) sNx := ⟨_, ps_pass, fun H0 M env σ H pa o T E h q => by cases h; exact q σ H pa E⟩
theorem sd_break : PSd X (.Break pos) sBk := ⟨_, ps_break, fun H0 M env σ H pa o T E h q => by cases h; exact q σ H pa E⟩
theorem sd_cont : PSd X (.Continue pos) sCt := ⟨_, ps_continue, fun H0 M env σ H pa o T E h q => by cases h; exact q σ H pa E⟩
theorem sd_ret (he : PEd X true e ga) : PSd X (.Return (some e) pos) (sRet ga) := by
  obtain ⟨t, ht, hh⟩ := he
  refine ⟨_, ps_ret ht, fun H0 M env σ H pa o T E h q => ?_⟩
  obtain ⟨d, h1, h2⟩ := bind1 h
  cases h2
  exact hh H0 M env σ H pa d _ E h1 fun v H' s hv => q v H' (E.same.trans s) hv
theorem sd_retN : PSd X (.Return none pos) sRetN := ⟨_, ps_retN, fun H0 M env σ H pa o T E h q => by cases h; exact q _ H E.same .non⟩
theorem sd_if (hc : PTd X c cB) (ha : PSsd X sts gS) (hb : PSsd X body gT') : PSd X (.If c sts body pos) (sIf cB gS gT') := by
  obtain ⟨t0, ht0, hh0⟩ := hc
  obtain ⟨t1, ht1, hh1⟩ := ha
  obtain ⟨t2, ht2, hh2⟩ := hb
  refine ⟨_, ps_if ht0 ht1 ht2, fun H0 M env σ H pa o T E h q => ?_⟩
  obtain ⟨k, h1, h2⟩ := bind1 h
  refine hh0 H0 M env σ H pa k _ E h1 fun H' s => ?_
  cases k with
  | true =>
    rw [if_pos rfl] at h2 ⊢
    exact hh1 H0 M env σ H' pa o T (E.up s) h2 q
  | false =>
    rw [if_neg (by decide)] at h2 ⊢
    exact hh2 H0 M env σ H' pa o T (E.up s) h2 q
theorem gd_name {i : Nat} {x : Str} (hN : X.N.Nodup) (hi : X.N[i]? = some x) (hx : Loc X.env.scope x) (hf : X.fn x = true ∨ X.env.scope.names.lookup x = some .local := by first | exact .inl rfl | exact .inr rfl | assumption) : PGd X (.Name x pos) (tName i) := by
  refine ⟨_, pg_name hN hi hx hf, fun H0 M env σ H pa v d env' Q E hv h q => ?_⟩
  cases h
  exact q _ H pa (E.setVal hv)
theorem gsd_nil : PGsd X [] [] := by
  refine ⟨_, pgs_nil, fun H0 M env σ H pa vs ds env' Q E hv h q => ?_⟩
  cases hv with
  | nil => cases h; exact ⟨rfl, q _ _ _ E⟩
  | cons _ _ => cases h
/-- the values still to come stay as data while the first names are set -/
theorem gsd_cons {t : GT} {ts : List GT} (h1 : PGd X e t) (h2 : PGsd X es ts) (hs : (assignEach (e :: es) X.env).map (·.2) = assign e X.env :: (assignEach es X.env).map (·.2) := by rfl)
    (hm : ∀ d env env' pa a, t d env = some env' → Ow env' pa a → Ow env pa a) (hh : ∃ g, PG X e g ∧ ∀ (H0 : Hp) (M : Addr → Prop) (env : Env) (σ : Sg) (H : Hp) (pa : Nat → Addr) (v : V) (d : D) (env' : Env) (Q : Sg → Hp → Prop), EO X.K H0 M env σ H pa → Dp X.K (vw (Hd M env pa) H) v d → t d env = some env' →
      (∀ σ' H', Same H H' → EO X.K H0 M env' σ' H' pa → Q σ' H') → g v σ H Q) : PGsd X (e :: es) (t :: ts) := by
  obtain ⟨g, hg, hh⟩ := hh
  obtain ⟨u, hu, hh'⟩ := h2
  refine ⟨_, pgs_cons hg hu hs, fun H0 M env σ H pa vs ds env' Q E hv h q => ?_⟩
  cases hv with
  | nil => cases h
  | cons hv1 hv2 =>
    obtain ⟨env1, h1, h2⟩ := bind1 h
    refine ⟨_, _, rfl, hh H0 M env σ H pa _ _ env1 _ E hv1 h1 fun σ' H' s E' => ?_⟩
    refine hh' H0 M env1 σ' H' pa _ _ env' Q E' (DpAll_mono (vw_same s fun a o _ z => ?_) _ _ hv2) h2 q
    rcases z with z | z
    · exact .inl z
    · exact .inr (hm _ _ _ _ _ h1 z)
/-- a target that is a name or a tuple of names: no heap is written -/
def PGq (X : Cx) (tg : Expr) (t : GT) : Prop := ∃ g, PG X tg g ∧ (∀ d env env' pa a, t d env = some env' → Ow env' pa a → Ow env pa a) ∧ ∀ (H0 : Hp) (M : Addr → Prop) (env : Env) (σ : Sg) (H : Hp) (pa : Nat → Addr) (v : V) (d : D) (env' : Env) (Q : Sg → Hp → Prop), EO X.K H0 M env σ H pa → Dp X.K (vw (Hd M env pa) H) v d → t d env = some env' →
      (∀ σ' H', Same H H' → EO X.K H0 M env' σ' H' pa → Q σ' H') → g v σ H Q
theorem PGq.d {t : GT} (h : PGq X tg t) : PGd X tg t := by
  obtain ⟨g, hg, _, hh⟩ := h
  exact ⟨g, hg, fun H0 M env σ H pa v d env' Q E hv h q => hh H0 M env σ H pa v d env' Q E hv h fun σ' H' _ E' => q σ' H' pa E'⟩
theorem gq_name {i : Nat} {x : Str} (hN : X.N.Nodup) (hi : X.N[i]? = some x) (hx : Loc X.env.scope x) (hf : X.fn x = true ∨ X.env.scope.names.lookup x = some .local := by first | exact .inl rfl | exact .inr rfl | assumption) : PGq X (.Name x pos) (tName i) := by
  refine ⟨_, pg_name hN hi hx hf, fun d env env' pa a h z => ?_, fun H0 M env σ H pa v d env' Q E hv h q => ?_⟩
  · cases h
    exact ow_set_val z
  · cases h
    exact q _ H (Same.refl H) (E.setVal hv)
def PGsq (X : Cx) (tgs : List Expr) (ts : List GT) : Prop := ∃ g, PGs X tgs g ∧ (∀ ds env env' pa a, tTup2 ts ds env = some env' → Ow env' pa a → Ow env pa a) ∧ ∀ (H0 : Hp) (M : Addr → Prop) (env : Env) (σ : Sg) (H : Hp) (pa : Nat → Addr) (vs : List V) (ds : List D) (env' : Env) (Q : Sg → Hp → Prop), EO X.K H0 M env σ H pa → DpAll X.K (vw (Hd M env pa) H) vs ds → tTup2 ts ds env = some env' →
      (∀ σ' H', Same H H' → EO X.K H0 M env' σ' H' pa → Q σ' H') → g vs σ H Q
theorem gsq_nil : PGsq X [] [] := by
  refine ⟨_, pgs_nil, fun ds env env' pa a h z => ?_, fun H0 M env σ H pa vs ds env' Q E hv h q => ?_⟩
  · cases ds with
    | nil => cases h; exact z
    | cons _ _ => cases h
  · cases hv with
    | nil => cases h; exact ⟨rfl, q _ _ (Same.refl H) E⟩
    | cons _ _ => cases h
theorem gsq_cons {t : GT} {ts : List GT} (h1 : PGq X e t) (h2 : PGsq X es ts) (hs : (assignEach (e :: es) X.env).map (·.2) = assign e X.env :: (assignEach es X.env).map (·.2) := by rfl) : PGsq X (e :: es) (t :: ts) := by
  obtain ⟨g, hg, hm, hh⟩ := h1
  obtain ⟨u, hu, hm', hh'⟩ := h2
  refine ⟨_, pgs_cons hg hu hs, fun ds env env' pa a h z => ?_, fun H0 M env σ H pa vs ds env' Q E hv h q => ?_⟩
  · cases ds with
    | nil => cases h
    | cons d ds =>
      obtain ⟨env1, h1, h2⟩ := bind1 h
      exact hm _ _ _ _ _ h1 (hm' _ _ _ _ _ h2 z)
  · cases hv with
    | nil => cases h
    | cons hv1 hv2 =>
      obtain ⟨env1, h1, h2⟩ := bind1 h
      refine ⟨_, _, rfl, hh H0 M env σ H pa _ _ env1 _ E hv1 h1 fun σ' H' s E' => ?_⟩
      refine hh' H0 M env1 σ' H' pa _ _ env' Q E' (DpAll_mono (vw_same s fun a o _ z => ?_) _ _ hv2) h2 fun σ'' H'' s' => q σ'' H'' (s.trans s')
      rcases z with z | z
      · exact .inl z
      · exact .inr (hm _ _ _ _ _ h1 z)
theorem gq_tup {k : Nat} {ts : List GT} (hc : X.calm = true) (h : PGsq X es ts) (hl : ts.length = es.length := by rfl) (hn : (assignEach es X.env).length = es.length := by rfl) (hst : (assignEach es X.env).findIdx? (·.1) = none := by rfl) : PGq X (.Tuple es k pos) (tTuple ts) := by
  obtain ⟨g, hg, hm, hh⟩ := h
  refine ⟨_, pg_tup (n := es.length) hc hg hn hst, fun d env env' pa a h z => ?_, fun H0 M env σ H pa v d env' Q E hv h q => ?_⟩
  · cases d with
    | tuple ds => exact hm ds env env' pa a h z
    | _ => cases h
  · cases hv with
    | tup hs ha =>
      have h : tTup2 ts _ env = some env' := h
      have len : ∀ (ts : List GT) (ds : List D) (env env' : Env), tTup2 ts ds env = some env' → ds.length = ts.length := by
        intro ts
        induction ts with
        | nil => intro ds env env' h; cases ds with
          | nil => rfl
          | cons _ _ => cases h
        | cons t ts ih => intro ds env env' h; cases ds with
          | nil => cases h
          | cons d ds =>
            obtain ⟨env1, h1, h2⟩ := bind1 h
            rw [List.length_cons, List.length_cons, ih ds env1 env' h2]
      refine ⟨_, _, rfl, seqT vw_le hs, by rw [DpAll_len ha, len _ _ _ _ h, hl], hh H0 M env σ H pa _ _ env' Q E ha h q⟩
    | _ => cases h
theorem sd_asg {t : GT} (he : PEd X false e ga) (hg : PGd X tg t) (hs : swapsWithSole [tg] e pos.line X.env = pure false := by rfl) (hw : swappedStores [tg] e X.env = pure none := by rfl)
    (h1 : (assignEach [tg] X.env).map (·.2) = [assign tg X.env] := by rfl) : PSd X (.Assign [tg] e pos) (sAsg ga t) := by
  obtain ⟨t0, ht, hh⟩ := he
  obtain ⟨g, hg, hh'⟩ := hg
  refine ⟨_, ps_asg ht hg hs hw h1, fun H0 M env σ H pa o T E h q => ?_⟩
  obtain ⟨d, h1, h2⟩ := bind1 h
  obtain ⟨env', h3, h4⟩ := bind1 h2
  cases h4
  exact hh H0 M env σ H pa d _ E h1 fun v H' s hv => hh' H0 M env σ H' pa v d env' _ (E.up s) hv h3 q
theorem sd_set {i : Nat} {x : Str} {pos' : Pos} (hN : X.N.Nodup) (hi : X.N[i]? = some x) (hx : Loc X.env.scope x) (he : PEd X false e ga) (hs : swapsWith e (some (.Name x pos')) pos.line X.env = pure false := by rfl) (hf : X.fn x = true ∨ X.env.scope.names.lookup x = some .local := by first | exact .inl rfl | exact .inr rfl | assumption) :
    PSd X (.Assign [.Name x pos'] e pos) (sSet i ga) := by
  obtain ⟨t0, ht, hh⟩ := he
  refine ⟨_, ps_set hN hi hx ht hs hf, fun H0 M env σ H pa o T E h q => ?_⟩
  obtain ⟨d, h1, h2⟩ := bind1 h
  cases h2
  exact hh H0 M env σ H pa d _ E h1 fun v H' s hv => q _ H' pa ((E.up s).setVal hv)
theorem sd_par {i j : Nat} {x y : Str} {px py pt : Pos} {kt k2 pt2} (hc : X.calm = true) (hN : X.N.Nodup) (hi : X.N[i]? = some x) (hj : X.N[j]? = some y) (hij : i ≠ j)
    (hx : X.env.scope.names.lookup x = some .local) (hy : X.env.scope.names.lookup y = some .local) (ha : PEd X false a ga) (hb : PEd X false c gb)
    (hw : swappedStores [.Tuple [.Name x px, .Name y py] kt pt] (.Tuple [a, c] k2 pt2) X.env = pure (some [x, y]) := by rfl)
    (hs : swapsWithSole [.Tuple [.Name x px, .Name y py] kt pt] (.Tuple [a, c] k2 pt2) pos.line X.env = pure false := by rfl)
    (hs1 : starEach [a, c] X.env = (false, eval a X.env) :: starEach [c] X.env := by rfl) (hs2 : starEach [c] X.env = (false, eval c X.env) :: starEach [] X.env := by rfl) :
    PSd X (.Assign [.Tuple [.Name x px, .Name y py] kt pt] (.Tuple [a, c] k2 pt2) pos) (sPar i j ga gb) := by
  obtain ⟨t1, ht1, hh1⟩ := ha
  obtain ⟨t2, ht2, hh2⟩ := hb
  refine ⟨_, ps_par hc hN hi hj hij hx hy (pa_cons ht1 (pa_cons ht2 pa_nil hs2) hs1) hw hs, fun H0 M env σ H pa o T E h q => ?_⟩
  obtain ⟨d1, d2, h1, h2, h3⟩ := bind2 h
  cases h3
  refine hh1 H0 M env σ H pa d1 _ E h1 fun v H1 s1 hv => hh2 H0 M env σ H1 pa d2 _ (E.up s1) h2 fun u H2 s2 hu => ⟨v, u, rfl, ?_⟩
  have E2 := (E.up s1).up s2
  refine q _ H2 pa ((E2.setVal (Dp_mono (vw_up s2) _ _ hv)).setVal (Dp_mono (vw_same (Same.refl _) fun a o _ z => ?_) _ _ hu))
  rcases z with z | z
  · exact .inl z
  · exact .inr (ow_set_val z)
theorem sd_aug {i : Nat} {x : Str} {op : Operator} {r : R2} {f : D → D → Option D} {pos' : Pos} (hN : X.N.Nodup) (hi : X.N[i]? = some x) (hx : Loc X.env.scope x) (ho : OpR X (inplaceOp op) r) (hf : OpD X.K r f) (he : PEd X false e ga) (hfn : X.fn x = true ∨ X.env.scope.names.lookup x = some .local := by first | exact .inl rfl | exact .inr rfl | assumption) :
    PSd X (.AugAssign (.Name x pos') op e pos) (sAug i f ga) := by
  obtain ⟨t0, ht, hh⟩ := he
  refine ⟨_, ps_aug hN hi hx ht ho hfn, fun H0 M env σ H pa o T E h q => ?_⟩
  obtain ⟨d1, d2, h1, h2, h3⟩ := bind2 h
  obtain ⟨z, h4, h5⟩ := bind1 h3
  cases h5
  have hi' : env[i]? = some (Slot.val d1) := by
    unfold gVar look at h1
    split at h1
    · rename_i d' hi
      cases h1
      exact hi
    · cases h1
  obtain ⟨v, g1, g2⟩ := E.val i d1 hi'
  refine ⟨v, g1, hh H0 M env σ H pa d2 _ E h2 fun u H' s hu => ?_⟩
  exact hf _ H' v u d1 d2 z _ (Vs_nf false (E.up s)) (Dp_mono (vw_up s) _ _ g2) hu h4 fun w H'' s' hw => q _ H'' pa (((E.up s).up s').setVal hw)
theorem sd_expr (he : PEd X true e ga) (hs : swapsWith e none pos.line X.env = pure false := by rfl) : PSd X (.Expr e pos) (sDrop ga) := by
  obtain ⟨t0, ht, hh⟩ := he
  refine ⟨_, ps_expr ht hs, fun H0 M env σ H pa o T E h q => ?_⟩
  obtain ⟨d, h1, h2⟩ := bind1 h
  cases h2
  exact hh H0 M env σ H pa d _ E h1 fun v H' s hv => q _ H' pa (E.up s)
/-- name = [..], a list of its own -/
theorem sd_own {i : Nat} {x : Str} {pos' pl : Pos} {gs : GA} (hN : X.N.Nodup) (hi : X.N[i]? = some x) (hx : Loc X.env.scope x) (he : PAd X false es gs) (hz : es.length ≤ lim := by decide) (hs : swapsWith (.List es pl) (some (.Name x pos')) pos.line X.env = pure false := by rfl) (hf : X.fn x = true ∨ X.env.scope.names.lookup x = some .local := by first | exact .inl rfl | exact .inr rfl | assumption) :
    PSd X (.Assign [.Name x pos'] (.List es pl) pos) (sOwn i gs) := by
  obtain ⟨t0, ht, hh⟩ := he
  refine ⟨_, ps_set hN hi hx (pe_lst ht) hs hf, fun H0 M env σ H pa o T E h q => ?_⟩
  obtain ⟨ds, h1, h2⟩ := bind1 h
  cases h2
  refine hh H0 M env σ H pa ds _ E h1 fun vs H' s hv hl => ⟨by rw [DpAll_len hv, hl, ← lim_eq]; exact hz, fun p hp => ?_⟩
  exact q _ _ _ ((E.up s).setOwn hp hv)

/-! loops -/
theorem Wk.list {K : PySem.W.Frag} {P : Addr → Prop} {H : Hp} {v : V} {ds : List D} (h : Dp K (vw P H) v (.list ds)) : ∃ a, v = .ref a ∧ (∃ xs, SqL K H a xs) ∧ Wk K (vw P H) (Itl K a) ds := by
  cases h with
  | lst hs ha =>
    rename_i a xs
    refine ⟨a, rfl, ⟨xs, vw_le.seq hs⟩, ⟨fun H2 s => ⟨xs, s.seq hs, by rw [DpAll_len ha]; exact Nat.le_refl _⟩, fun i d H2 s hd => ?_⟩⟩
    obtain ⟨x, hx, dx⟩ := DpAll_get ha hd
    refine ⟨⟨xs, x, s.seq hs, hx⟩, fun y H3 hy => ?_⟩
    obtain ⟨rfl, hy⟩ := hy
    refine ⟨Same.refl _, fun P' _ s' => ?_⟩
    have e : y = x := Option.some.inj ((hy xs (s.seq hs)).symm.trans hx)
    rw [e]
    exact Dp_mono s' _ _ dx
theorem Wk.tup {K : PySem.W.Frag} {P : Addr → Prop} {H : Hp} {v : V} {ds : List D} (h : Dp K (vw P H) v (.tuple ds)) : ∃ a, v = .ref a ∧ (∃ xs, SqT K H a xs) ∧ Wk K (vw P H) (Itt K a) ds := by
  cases h with
  | tup hs ha =>
    rename_i a xs
    refine ⟨a, rfl, ⟨xs, seqT vw_le hs⟩, ⟨fun H2 s => ⟨xs, seqT s hs, by rw [DpAll_len ha]; exact Nat.le_refl _⟩, fun i d H2 s hd => ?_⟩⟩
    obtain ⟨x, hx, dx⟩ := DpAll_get ha hd
    refine ⟨⟨xs, x, seqT s hs, hx⟩, fun y H3 hy => ?_⟩
    obtain ⟨rfl, hy⟩ := hy
    refine ⟨Same.refl _, fun P' _ s' => ?_⟩
    have e : y = x := Option.some.inj ((hy xs (seqT s hs)).symm.trans hx)
    rw [e]
    exact Dp_mono s' _ _ dx
theorem Wk.range {K : PySem.W.Frag} {Hc : Hp} (lo : Int) (n : Nat) : Wk K Hc (Itr lo n) (rngD lo n) := by
  refine ⟨fun H2 s => ?_, fun i d H2 s hd => ?_⟩
  · show n ≤ (rngD lo n).length
    unfold rngD
    rw [List.length_map, List.length_range]
    exact Nat.le_refl _
  · unfold rngD at hd
    rw [List.getElem?_map] at hd
    by_cases hi : i < n
    · rw [List.getElem?_range hi] at hd
      cases hd
      refine ⟨hi, fun x H3 hx => ?_⟩
      obtain ⟨rfl, rfl⟩ := hx
      exact ⟨Same.refl _, fun P _ _ => .int _⟩
    · rw [List.getElem?_eq_none (by rw [List.length_range]; omega)] at hd
      cases hd
/-- a list -/
def gLst (a : GE) : GA := fun env => (a env).bind asLst
def gTpl (a : GE) : GA := fun env => (a env).bind asTpl
theorem id_list (he : PEd X b iter ga) : PId X tg iter b (gLst ga) := by
  obtain ⟨t0, ht, hh⟩ := he
  refine ⟨_, pi_list ht, fun H0 M env σ H pa ds R E h q => ?_⟩
  obtain ⟨d, h1, h2⟩ := bind1 h
  cases d with
  | list ds' =>
    cases h2
    refine hh H0 M env σ H pa _ _ E h1 fun v H' s hv => ?_
    obtain ⟨a, rfl, hx, w⟩ := Wk.list hv
    exact ⟨a, rfl, hx, q _ H' s w⟩
  | _ => cases h2
theorem id_tup (he : PEd X b iter ga) : PId X tg iter b (gTpl ga) := by
  obtain ⟨t0, ht, hh⟩ := he
  refine ⟨_, pi_tup ht, fun H0 M env σ H pa ds R E h q => ?_⟩
  obtain ⟨d, h1, h2⟩ := bind1 h
  cases d with
  | tuple ds' =>
    cases h2
    refine hh H0 M env σ H pa _ _ E h1 fun v H' s hv => ?_
    obtain ⟨a, rfl, hx, w⟩ := Wk.tup hv
    exact ⟨a, rfl, hx, q _ H' s w⟩
  | _ => cases h2
theorem id_range1 {p : Pos} (hg : Gl X "range") (hm : X.mg "range" = none) (ha : PEd X true a ga) (hs : starEach [a] X.env = [(false, eval a X.env)] := by rfl) (hs1 : starEach [a] X.env = (false, eval a X.env) :: starEach [] X.env := by rfl) : PId X tg (.Call (.Name "range" p) [a] [] pos) b (gRange1 ga) := by
  obtain ⟨t0, ht, hh⟩ := ha
  refine ⟨_, pi_range1 hg hm (pa_cons ht pa_nil hs1) hs, fun H0 M env σ H pa ds R E h q => ?_⟩
  obtain ⟨d, h1, h2⟩ := bind1 h
  cases d with
  | int n =>
    have h2 : (if rgOk n = true then some (rngD 0 n.toNat) else none) = some ds := h2
    split at h2
    · rename_i hn
      have hn := rgOk_of hn
      cases h2
      refine hh H0 M env σ H pa _ _ E h1 fun v H' s hv => ?_
      cases hv
      exact ⟨n, rfl, hn.2, hn.1, q _ H' s (Wk.range 0 n.toNat)⟩
    · cases h2
  | _ => cases h2
theorem id_range2 {p : Pos} (hg : Gl X "range") (hm : X.mg "range" = none) (ha : PEd X true a ga) (hb : PEd X true c gb) (hs : starEach [a, c] X.env = [(false, eval a X.env), (false, eval c X.env)] := by rfl) (hs2 : starEach [c] X.env = [(false, eval c X.env)] := by rfl)
    (hs3 : starEach [a, c] X.env = (false, eval a X.env) :: starEach [c] X.env := by rfl) (hs4 : starEach [c] X.env = (false, eval c X.env) :: starEach [] X.env := by rfl) : PId X tg (.Call (.Name "range" p) [a, c] [] pos) b (gRange2 ga gb) := by
  obtain ⟨t1, ht1, hh1⟩ := ha
  obtain ⟨t2, ht2, hh2⟩ := hb
  refine ⟨_, pi_range2 hg hm (pa_cons ht1 (pa_cons ht2 pa_nil hs4) hs3) hs hs2, fun H0 M env σ H pa ds R E h q => ?_⟩
  obtain ⟨d1, d2, h1, h2, h3⟩ := bind2 h
  cases d1 with
  | int i =>
    cases d2 with
    | int j =>
      have h3 : (if (rgOk i && rgOk j) = true then some (rngD i (j - i).toNat) else none) = some ds := h3
      split at h3
      · rename_i hn
        have hn := Bool.and_eq_true_iff.mp hn
        have hi := rgOk_of hn.1
        have hj := rgOk_of hn.2
        have hn := And.intro hi.2 (And.intro hi.1 (And.intro hj.2 hj.1))
        cases h3
        refine hh1 H0 M env σ H pa _ _ E h1 fun v H1 s1 hv => hh2 H0 M env σ H1 pa _ _ (E.up s1) h2 fun u H2 s2 hu => ?_
        cases hv
        cases hu
        exact ⟨i, j, rfl, hn, q _ H2 (s1.trans s2) (Wk.range i _)⟩
      · cases h3
    | _ => cases h3
  | _ => cases h3
theorem ow_hidden {H : Hp} {env : Env} {pa : Nat → Addr} {K : PySem.W.Frag} {H0 : Hp} {M : Addr → Prop} {σ : Sg} (E : EO K H0 M env σ H pa) : EO K (vw (Ow env pa) H) M env σ H pa := by
  refine ⟨vw_le, E.hid, E.len, E.val, fun i ds h => ?_, E.inj⟩
  · obtain ⟨h1, h2, h3⟩ := E.own i ds h
    refine ⟨h1, ⟨?_, h2.2⟩, h3⟩
    cases q : vw (Ow env pa) H (pa i) with
    | none => rfl
    | some o => exact absurd ⟨i, ds, h, rfl⟩ (vw_some q).1
/-- from what was kept inside a loop back to what the caller wants kept -/
theorem EO.back {H : Hp} {env env' : Env} {pa pa' : Nat → Addr} {K : PySem.W.Frag} {H0 H1 : Hp} {M : Addr → Prop} {σ σ' : Sg} (E : EO K H0 M env σ H1 pa) (E' : EO K (vw (Ow env pa) H1) M env' σ' H pa') : EO K H0 M env' σ' H pa' := by
  have le : Same H0 (vw (Ow env pa) H1) := fun b o h => vw_of (fun ⟨i, ds, h1, h2⟩ => by
    obtain ⟨_, q, _⟩ := E.own i ds h1
    rw [h2, h] at q
    cases q.1) (E.same b o h)
  refine ⟨le.trans E'.same, E'.hid, E'.len, E'.val, fun i ds h => ?_, E'.inj⟩
  obtain ⟨h1, h2, h3⟩ := E'.own i ds h
  exact ⟨h1, ⟨le.free h2.1, h2.2⟩, h3⟩
theorem sd_for {t : GT} {gi : GA} (hp : PassesOwn (model X.prog X.w) X.A X.env X.xe) (hc : X.calm = true) (hi : PId X tg iter false gi) (hg : PGd X tg t) (hb : PSsd X body gS) (hs : ∀ x, foldedSetIterable iter X.env x = pure x := by intro _; rfl) : PSd X (.For tg iter body [] pos) (sFor gi t gS) := by
  obtain ⟨wi, hwi, hhi⟩ := hi
  obtain ⟨g, hg, hhg⟩ := hg
  obtain ⟨tb, htb, hhb⟩ := hb
  refine ⟨_, ps_for hp hc hwi hg htb hs, fun H0 M env σ H pa o T E h q => ?_⟩
  obtain ⟨ds, h1, h2⟩ := bind1 h
  refine hhi H0 M env σ H pa ds _ E h1 fun J H1 s1 w => ?_
  have E1 := E.up s1
  have Eo := ow_hidden E1
  refine ⟨fun i m σ2 H2 => ∃ env2 pa2, EO X.K (vw (Ow env pa) H1) M env2 σ2 H2 pa2 ∧ m = ds.length - i ∧ i ≤ ds.length ∧ forG t gS (ds.drop i) env2 = some o, ⟨ds.length, env, pa, Eo, by simp, Nat.zero_le _, h2⟩, ?_⟩
  rintro i m σ2 H2 ⟨env2, pa2, E2, rfl, hi, h3⟩
  -- what is walked stands as it stood
  have le : Same (vw (Hd M env pa) H1) (vw (Ow env pa) H1) := vw_same (Same.refl _) fun _ _ _ z => .inr z
  have vis : Same (vw (Hd M env pa) H1) (vw (Hd M env2 pa2) H2) := fun a u hu => by
    obtain ⟨g1, g2⟩ := vw_some hu
    have k := le a u hu
    refine vw_of (fun z => ?_) (E2.same a u k)
    rcases z with z | ⟨j, es, z1, z2⟩
    · exact g1 (.inl z)
    · obtain ⟨_, g3, _⟩ := E2.own j es z1
      rw [z2, k] at g3
      cases g3.1
  have to2 : Same (vw (Hd M env pa) H1) H2 := vis.trans vw_le
  by_cases hlt : i < ds.length
  · have hd : ds[i]? = some ds[i] := List.getElem?_eq_getElem hlt
    obtain ⟨go, yl⟩ := w.go i ds[i] H2 to2 hd
    have hdr : ds.drop i = ds[i] :: ds.drop (i + 1) := List.drop_eq_getElem_cons hlt
    rw [hdr] at h3
    obtain ⟨env3, h4, h5⟩ := bind1 (show (t ds[i] env2).bind _ = some o from h3)
    obtain ⟨ob, h6, h7⟩ := bind1 h5
    refine .inr ⟨go, fun σ' H' => ∃ env' pa', EO X.K (vw (Ow env pa) H1) M env' σ' H' pa' ∧ forG t gS (ds.drop (i + 1)) env' = some o, fun σ' H' ⟨env', pa', E', h'⟩ => ⟨ds.length - (i + 1), by omega, env', pa', E', rfl, hlt, h'⟩, fun x H3 hy => ?_⟩
    obtain ⟨s3, dx⟩ := yl x H3 hy
    have dx := dx (Hd M env2 pa2) (fun p hp' => E2.hidden hp') vis
    refine hhg _ M env2 σ2 H3 pa2 x ds[i] env3 _ (E2.up s3) dx h4 fun σ4 H4 pa4 E4 => ?_
    refine hhb _ M env3 σ4 H4 pa4 ob _ E4 h6 ?_
    cases ob with
    | nx env5 => exact fun σ5 H5 pa5 E5 => ⟨env5, pa5, E5, h7⟩
    | ct env5 => exact fun σ5 H5 pa5 E5 => ⟨env5, pa5, E5, h7⟩
    | bk env5 =>
      cases h7
      exact fun σ5 H5 pa5 E5 => q σ5 H5 pa5 (E1.back E5)
    | ret d =>
      cases h7
      refine fun v H5 s5 hv => q v H5 (fun a u hu => s5 a u ?_) hv
      have := E1.same a u hu
      exact vw_of (fun ⟨j, es, z1, z2⟩ => by
        obtain ⟨_, g3, _⟩ := E1.own j es z1
        rw [z2, hu] at g3
        cases g3.1) this
  · have e : i = ds.length := by omega
    subst e
    refine .inl ⟨w.stop H2 to2, ?_⟩
    rw [List.drop_length] at h3
    cases h3
    exact q σ2 H2 pa2 (E1.back E2)
theorem sd_while (n : Nat) (hp : PassesOwn (model X.prog X.w) X.A X.env X.xe) (hc : PTd X c cB) (hb : PSsd X body gS) : PSd X (.While c body [] pos) (fun env => whileG cB gS n env) := by
  obtain ⟨tc, htc, hhc⟩ := hc
  obtain ⟨tb, htb, hhb⟩ := hb
  refine ⟨_, ps_while hp htc htb, fun H0 M env σ H pa o T E h q => ?_⟩
  refine ⟨fun m σ2 H2 => ∃ env2 pa2, EO X.K H0 M env2 σ2 H2 pa2 ∧ whileG cB gS m env2 = some o, ⟨n, env, pa, E, h⟩, ?_⟩
  rintro m σ2 H2 ⟨env2, pa2, E2, h2⟩
  cases m with
  | zero => cases h2
  | succ m =>
    obtain ⟨k, h3, h4⟩ := bind1 (show (cB env2).bind _ = some o from h2)
    refine hhc H0 M env2 σ2 H2 pa2 k _ E2 h3 fun H3 s3 => ?_
    cases k with
    | false =>
      rw [if_neg (by decide)] at h4 ⊢
      cases h4
      exact q σ2 H3 pa2 (E2.up s3)
    | true =>
      rw [if_pos rfl] at h4 ⊢
      obtain ⟨ob, h5, h6⟩ := bind1 h4
      refine ⟨fun σ' H' => ∃ env' pa', EO X.K H0 M env' σ' H' pa' ∧ whileG cB gS m env' = some o, fun σ' H' ⟨env', pa', E', h'⟩ => ⟨m, Nat.lt_succ_self m, env', pa', E', h'⟩, ?_⟩
      refine hhb H0 M env2 σ2 H3 pa2 ob _ (E2.up s3) h5 ?_
      cases ob with
      | nx env5 => exact fun σ5 H5 pa5 E5 => ⟨env5, pa5, E5, h6⟩
      | ct env5 => exact fun σ5 H5 pa5 E5 => ⟨env5, pa5, E5, h6⟩
      | bk env5 => cases h6; exact q
      | ret d => cases h6; exact q
/-! a def -/
theorem fn_d {N : List Str} {n : Nat} {vs : List V} {H : Hp} {Q : VK} {E : XK} (hb : PSsd X body gS) (hl : n ≤ N.length) (h : SpD X.K n (runF N.length n gS) vs H Q E) :
    ∃ t, PSs X body t ∧ t { nx := fun _ H' => Q .non H', rt := Q } (L2.start N vs) H := by
  obtain ⟨t, ht, hh⟩ := hb
  obtain ⟨ds, d, M, hv, hF, hn, nf, q⟩ := h
  have hlen := DpAll_len hv
  refine ⟨t, ht, ?_⟩
  unfold runF at hF
  rw [if_pos hn] at hF
  obtain ⟨o, h1, h2⟩ := bind1 hF
  have noown : ∀ (i : Nat) (es : List D), (startE N.length ds)[i]? ≠ some (Slot.own es) := fun i es z => by
    unfold startE at z
    by_cases hi : i < ds.length
    · rw [List.getElem?_append_left (by simpa using hi), List.getElem?_map] at z
      cases hx : ds[i]? with
      | none => rw [hx] at z; cases z
      | some u => rw [hx] at z; cases z
    · rw [List.getElem?_append_right (by simpa using hi), List.getElem?_replicate] at z
      split at z <;> cases z
  have E0 : EO X.K H M (startE N.length ds) (L2.start N vs) H (fun _ => 0) := by
    refine ⟨Same.refl H, nf, ?_, fun i e z => ?_, fun i es z => absurd z (noown i es), fun i j es fs z => absurd z (noown i es)⟩
    · unfold startE L2.start
      simp only [List.length_append, List.length_map, List.length_replicate]
      omega
    · unfold startE at z
      by_cases hi : i < ds.length
      · rw [List.getElem?_append_left (by simpa using hi), List.getElem?_map] at z
        cases hx : ds[i]? with
        | none => rw [hx] at z; cases z
        | some u =>
          rw [hx] at z
          cases z
          obtain ⟨v, hv1, hv2⟩ := DpAll_get hv hx
          refine ⟨v, ?_, Dp_mono (vw_same (Same.refl H) fun a _ _ z => ?_) _ _ hv2⟩
          · unfold L2.start
            rw [List.getElem?_append_left (by rw [List.length_map]; omega), List.getElem?_map, hv1]
            rfl
          · rcases z with z | ⟨j, es, z, _⟩
            · exact z
            · exact absurd z (noown j es)
      · rw [List.getElem?_append_right (by simpa using hi), List.getElem?_replicate] at z
        split at z <;> cases z
  refine hh H M _ _ H _ o _ E0 h1 ?_
  cases o with
  | nx env => cases h2; exact fun σ' H' pa' E' => q _ H' E'.same .non
  | ret d' => cases h2; exact q
  | bk env => cases h2
  | ct env => cases h2
end
end Dn

namespace Dn
open PySem PySem.Spec PyProof.Rows L2

/-! ### 5. operations -/
theorem CMulBig {i j : Int} (h : mulOk i j = true) : IntMulOk i j := by
  have h : (decide (i.natAbs < 2 ^ 64) || decide (j.natAbs < 2 ^ 64) || decide (i.natAbs.log2 + j.natAbs.log2 < 100000000)) = true := h
  rcases Bool.or_eq_true_iff.mp h with h | h
  · rcases Bool.or_eq_true_iff.mp h with h | h
    · have h := of_decide_eq_true h
      exact .of_left (intBits_le_64 (by omega) (by omega))
    · have h := of_decide_eq_true h
      exact .of_right (intBits_le_64 (by omega) (by omega))
  have b : ∀ x : Int, Builtin.Int.intBits x ≤ x.natAbs.log2 + 1 := fun x => by
    unfold Builtin.Int.intBits
    split <;> omega
  have h1 := b i
  have h2 := b j
  have h3 : i.natAbs.log2 + j.natAbs.log2 < 100000000 := of_decide_eq_true h
  have e : bitsLine = 134217728 := by decide
  unfold IntMulOk
  intro z
  rw [Bool.and_eq_true] at z
  have z2 := z.2
  unfold Builtin.Int.intTooBig at z2
  have z3 := of_decide_eq_true z2
  rw [e] at z3
  omega
section
variable {X : Cx}
theorem op_mulB : OpR X (binaryOp .Mult) (rI (fun i j => mulOk i j = true) fun i j => .int (i * j)) := opI fun _ _ _ _ _ _ _ hc q => mul_int q (CMulBig hc)
theorem op_fdivB : OpR X (binaryOp .FloorDiv) (rI (fun _ j => divOk j = true) fun i j => .int (i.fdiv j)) := opI fun i j _ _ _ _ _ hc q => by
  have h := Bool.and_eq_true_iff.mp (show (decide (j ≠ 0) && decide (j.natAbs.log2 < 9000)) = true from hc)
  exact floordiv_int (of_decide_eq_true h.1) q (.inl (PyProof.noPylong_of_log2 (of_decide_eq_true h.2)))
/-- list + list, whatever each of them is -/
def rCatL (K : PySem.W.Frag) : R2 := fun x y H Q => ∃ l b xs zs, x = .ref l ∧ y = .ref b ∧ SqL K H l xs ∧ SqL K H b zs ∧ xs.length + zs.length ≤ sizeLine ∧ ∀ p, H p = none → Q (.ref p) (upd H p (.lst (xs ++ zs)))
theorem op_catL : OpR X (binaryOp .Add) (rCatL X.K) := by
  intro pins s σ H x y v u Q I rx ry h
  obtain ⟨l, b, xs, zs, rfl, rfl, hH, hB, hz, q⟩ := h
  cases rx
  cases ry
  obtain ⟨its, r, p1, hl1⟩ := I.list hH
  obtain ⟨its2, r2, p2, hl2⟩ := I.list hB
  have e1 := r.length
  have e2 := r2.length
  obtain ⟨⟨cls, dd, data, sl⟩, ho, hc, n, hd⟩ := id p1.isList
  obtain ⟨⟨cls2, dd2, data2, sl2⟩, ho2, hc2, n2, hd2⟩ := id p2.isList
  simp only at hc hd hc2 hd2
  subst hc hd hc2 hd2
  have e : its.toArray ++ its2.toArray = (its ++ its2).toArray := by simp
  refine concat_meets ⟨_, ho, rfl⟩ ⟨_, ho2, rfl⟩ noFill_list_add seq_list_add PySem.F.slot_list_add PySem.F.entry_list_add (PySem.F.args_list_add_2 _ _) (list_addW l b its.toArray its2.toArray n n2 dd dd2 sl sl2 (by rw [List.size_toArray, List.size_toArray]; omega)) ⟨ho, ho2, ?_⟩
  rw [e]
  exact ⟨.ref _, _, I.lnew (t' := s.toks) (r.append r2) (by rw [List.length_append]; omega), rfl, q _ I.fresh⟩
abbrev rAddA (K : PySem.W.Frag) : R2 := fun x y H Q => rI0 (fun i j => .int (i + j)) x y H Q ∨ (rCatL K x y H Q ∨ ∃ i j, x = .str i ∧ y = .str j ∧ i.length + j.length ≤ sizeLine ∧ Q (.str (i ++ j)) H)
theorem op_addA : OpR X (binaryOp .Add) (rAddA X.K) := op_add.or (op_catL.or op_add_str)
theorem iop_addA : OpR X (inplaceOp .Add) (rI0 fun i j => .int (i + j)) := iop_add
theorem op_eqA (hu : X.A.units + 64 < cLine) : OpR X (compareOp .Eq) (fun x y H Q => rEq x y H Q ∨ rEqD X.K x y H Q) := op_eq.or (op_eqD hu)
theorem op_neA (hu : X.A.units + 64 < cLine) : OpR X (compareOp .NotEq) (fun x y H Q => rNe x y H Q ∨ rNeD X.K x y H Q) := op_ne.or (op_neD hu)
end
section
variable {K : PySem.W.Frag}
theorem Dp_int {H : Hp} {v : V} {i : Int} (h : Dp K H v (.int i)) : v = .int i := by cases h; rfl
theorem Dp_bool {H : Hp} {v : V} {b : Bool} (h : Dp K H v (.bool b)) : v = .bl b := by cases h; rfl
theorem Dp_str {H : Hp} {v : V} {b : Str} (h : Dp K H v (.str b)) : v = .str b := by cases h; rfl
theorem od_add : OpD K (rAddA K) vAdd := by
  intro P H x y d e z Q nf hx hy h q
  cases d with
  | int i =>
    cases e with
    | int j =>
      cases h
      exact .inl ⟨i, j, Dp_int hx, Dp_int hy, q _ H (Same.refl H) (.int _)⟩
    | _ => cases h
  | str i =>
    cases e with
    | str j =>
      have h : (if i.length + j.length ≤ lim then some (PyData.str (i ++ j)) else none) = some z := h
      split at h
      · rename_i hl
        cases h
        exact .inr (.inr ⟨i, j, Dp_str hx, Dp_str hy, by rw [← lim_eq]; exact hl, q _ H (Same.refl H) (.str _)⟩)
      · cases h
    | _ => cases h
  | list xs =>
    cases e with
    | list ys =>
      have h : (if xs.length + ys.length ≤ lim then some (PyData.list (xs ++ ys)) else none) = some z := h
      split at h
      · rename_i hl
        cases h
        cases hx with
        | lst hs ha =>
          cases hy with
          | lst hs' ha' =>
            refine .inr (.inl ⟨_, _, _, _, rfl, rfl, vw_le.seq hs, vw_le.seq hs', by rw [DpAll_len ha, DpAll_len ha', ← lim_eq]; exact hl, fun p hp => ?_⟩)
            exact q _ _ (same_upd hp) (.lst (.inl (.inl (vw_of (fun z => nf p z hp) upd_same))) (DpAll_mono (vw_up (same_upd hp)) _ _ (DpAll_app ha ha')))
      · cases h
    | _ => cases h
  | _ => cases h
theorem od_iadd : OpD K (rI0 fun i j => .int (i + j)) (fun d e => match d, e with
    | .int x, .int y => some (.int (x + y))
    | _, _ => none) := by
  intro P H x y d e z Q nf hx hy h q
  cases d with
  | int i =>
    cases e with
    | int j =>
      cases h
      exact ⟨i, j, Dp_int hx, Dp_int hy, q _ H (Same.refl H) (.int _)⟩
    | _ => cases h
  | _ => cases h
theorem od_mul : OpD K (rI (fun i j => mulOk i j = true) fun i j => .int (i * j)) vMul := by
  intro P H x y d e z Q nf hx hy h q
  cases d with
  | int i =>
    cases e with
    | int j =>
      have h : (if mulOk i j = true then some (PyData.int (i * j)) else none) = some z := h
      split at h
      · rename_i hm
        cases h
        exact ⟨i, j, Dp_int hx, Dp_int hy, hm, q _ H (Same.refl H) (.int _)⟩
      · cases h
    | _ => cases h
  | _ => cases h
theorem od_fdiv : OpD K (rI (fun _ j => divOk j = true) fun i j => .int (i.fdiv j)) vFdiv := by
  intro P H x y d e z Q nf hx hy h q
  cases d with
  | int i =>
    cases e with
    | int j =>
      have h : (if divOk j = true then some (PyData.int (i.fdiv j)) else none) = some z := h
      split at h
      · rename_i hm
        cases h
        exact ⟨i, j, Dp_int hx, Dp_int hy, hm, q _ H (Same.refl H) (.int _)⟩
      · cases h
    | _ => cases h
  | _ => cases h
theorem od_mod : OpD K (rI (fun _ j => j ≠ 0) fun i j => .int (i.fmod j)) vMod := by
  intro P H x y d e z Q nf hx hy h q
  cases d with
  | int i =>
    cases e with
    | int j =>
      have h : (if j = 0 then none else some (PyData.int (i.fmod j))) = some z := h
      split at h
      · cases h
      · rename_i hm
        cases h
        exact ⟨i, j, Dp_int hx, Dp_int hy, hm, q _ H (Same.refl H) (.int _)⟩
    | _ => cases h
  | _ => cases h
theorem od_pow : OpD K (rI CPow fun i j => .int (i ^ j.toNat)) vPow := by
  intro P H x y d e z Q nf hx hy h q
  cases d with
  | int i =>
    cases e with
    | int j =>
      have h : (if 0 ≤ j ∧ j ≤ 1000000 ∧ i.natAbs < 2 ^ 64 then some (PyData.int (i ^ j.toNat)) else none) = some z := h
      split at h
      · rename_i hm
        cases h
        exact ⟨i, j, Dp_int hx, Dp_int hy, hm, q _ H (Same.refl H) (.int _)⟩
      · cases h
    | _ => cases h
  | _ => cases h
theorem od_cmp {p : Int → Int → Bool} : OpD K (rI0 fun i j => .bl (p i j)) (vCmp p) := by
  intro P H x y d e z Q nf hx hy h q
  cases d with
  | int i =>
    cases e with
    | int j =>
      cases h
      exact ⟨i, j, Dp_int hx, Dp_int hy, q _ H (Same.refl H) (.bl _)⟩
    | _ => cases h
  | _ => cases h
abbrev rEqA (K : PySem.W.Frag) : R2 := fun x y H Q => rEq x y H Q ∨ rEqD K x y H Q
abbrev rNeA (K : PySem.W.Frag) : R2 := fun x y H Q => rNe x y H Q ∨ rNeD K x y H Q
theorem od_eqG {P : Addr → Prop} {H : Hp} {x y : V} {d e z : D} {Q : VK} (hx : Dp K (vw P H) x d) (hy : Dp K (vw P H) y e) (h : vEqG d e = some z) (q : ∀ v H', Same H H' → Dp K (vw P H') v z → Q v H') : rEqA K x y H Q := by
  unfold vEqG at h
  split at h
  · rename_i hs
    cases h
    have hs := Bool.and_eq_true_iff.mp hs
    exact .inr ⟨d, e, Dp_mono vw_le _ _ hx, Dp_mono vw_le _ _ hy, hs.1, hs.2, q _ H (Same.refl H) (.bl _)⟩
  · cases h
theorem od_neG {P : Addr → Prop} {H : Hp} {x y : V} {d e z : D} {Q : VK} (hx : Dp K (vw P H) x d) (hy : Dp K (vw P H) y e) (h : vNeG d e = some z) (q : ∀ v H', Same H H' → Dp K (vw P H') v z → Q v H') : rNeA K x y H Q := by
  unfold vNeG at h
  split at h
  · rename_i hs
    cases h
    have hs := Bool.and_eq_true_iff.mp hs
    exact .inr ⟨d, e, Dp_mono vw_le _ _ hx, Dp_mono vw_le _ _ hy, hs.1, hs.2, q _ H (Same.refl H) (.bl _)⟩
  · cases h
theorem dec_vint {a b : Int} : decide (V.int a = V.int b) = decide (a = b) := by
  rw [Bool.eq_iff_iff]; simp
theorem dec_vstr {a b : Str} : decide (V.str a = V.str b) = decide (a = b) := by
  rw [Bool.eq_iff_iff]; simp
theorem od_eq : OpD K (rEqA K) vEq := by
  intro P H x y d e z Q nf hx hy h q
  unfold vEq at h
  split at h
  · cases h
    have hx := Dp_str hx
    have hy := Dp_str hy
    subst hx hy
    exact .inl ⟨rfl, q _ H (Same.refl H) (by rw [dec_vstr]; exact .bl _)⟩
  · cases h
    have hx := Dp_int hx
    have hy := Dp_int hy
    subst hx hy
    exact .inl ⟨rfl, q _ H (Same.refl H) (by rw [dec_vint]; exact .bl _)⟩
  · exact od_eqG hx hy h q
theorem od_ne : OpD K (rNeA K) vNe := by
  intro P H x y d e z Q nf hx hy h q
  unfold vNe at h
  split at h
  · cases h
    have hx := Dp_str hx
    have hy := Dp_str hy
    subst hx hy
    exact .inl ⟨rfl, q _ H (Same.refl H) (by rw [dec_vstr]; exact .bl _)⟩
  · cases h
    have hx := Dp_int hx
    have hy := Dp_int hy
    subst hx hy
    exact .inl ⟨rfl, q _ H (Same.refl H) (by rw [dec_vint]; exact .bl _)⟩
  · exact od_neG hx hy h q
theorem ud_neg : UnD K (rU fun i => .int (-i)) vNeg := by
  intro P H x d z Q nf hx h q
  cases d with
  | int i => cases h; exact ⟨i, Dp_int hx, q _ H (Same.refl H) (.int _)⟩
  | _ => cases h
/-! built-ins -/
theorem ca_1 {r : V → Hp → VK → Prop} {f : D → Option D} (h : UnD K r f) : CaD K (fun xs H Q => ∃ x, xs = [x] ∧ r x H Q) (l1 f) := by
  intro P H xs ds z Q nf hx hf q
  cases hx with
  | nil => cases hf
  | cons h1 h2 =>
    cases h2 with
    | nil => exact ⟨_, rfl, h P H _ _ z Q nf h1 hf q⟩
    | cons _ _ => cases hf
theorem ca_abs : CaD K (fun xs H Q => ∃ i, xs = [.int i] ∧ Q (.int (if i < 0 then -i else i)) H) (l1 vAbs) := by
  intro P H xs ds z Q nf hx hf q
  cases hx with
  | nil => cases hf
  | cons h1 h2 =>
    cases h2 with
    | nil =>
      cases h1 with
      | int i => cases hf; exact ⟨i, rfl, q _ H (Same.refl H) (.int _)⟩
      | _ => cases hf
    | cons _ _ => cases hf
theorem ca_int : CaD K (fun xs H Q => (∃ i, xs = [.int i] ∧ Q (.int i) H) ∨ ∃ k, xs = [.bl k] ∧ Q (.int (if k then 1 else 0)) H) (l1 vToI) := by
  intro P H xs ds z Q nf hx hf q
  cases hx with
  | nil => cases hf
  | cons h1 h2 =>
    cases h2 with
    | nil =>
      cases h1 with
      | int i => cases hf; exact .inl ⟨i, rfl, q _ H (Same.refl H) (.int _)⟩
      | bl b => cases hf; exact .inr ⟨b, rfl, q _ H (Same.refl H) (.int _)⟩
      | _ => cases hf
    | cons _ _ => cases hf
theorem ca_len : CaD K (fun xs H Q => ∃ x n, xs = [x] ∧ LenV K x H n ∧ Q (.int n) H) (l1 vLen) := by
  intro P H xs ds z Q nf hx hf q
  cases hx with
  | nil => cases hf
  | cons h1 h2 =>
    cases h2 with
    | nil =>
      cases h1 with
      | lst hs ha => cases hf; exact ⟨_, _, rfl, .inl ⟨_, vw_le.seq hs, (DpAll_len ha).symm⟩, q _ H (Same.refl H) (.int _)⟩
      | tup hs ha => cases hf; exact ⟨_, _, rfl, .inr ⟨_, seqT vw_le hs, (DpAll_len ha).symm⟩, q _ H (Same.refl H) (.int _)⟩
      | str x =>
        have hf : (if x.length ≤ lim then some (PyData.int x.length) else none) = some z := hf
        split at hf
        · rename_i hl
          cases hf
          exact ⟨_, _, rfl, ⟨by rw [← lim_eq]; exact hl, rfl⟩, q _ H (Same.refl H) (.int _)⟩
        · cases hf
      | _ => cases hf
    | cons _ _ => cases hf
theorem ca_min2 : CaD K (fun xs H Q => ∃ i j, xs = [.int i, .int j] ∧ Q (.int (if j < i then j else i)) H) (l2 vMin2) := by
  intro P H xs ds z Q nf hx hf q
  cases hx with
  | nil => cases hf
  | cons h1 h2 =>
    cases h2 with
    | nil => cases hf
    | cons h2 h3 =>
      cases h3 with
      | cons _ _ => cases hf
      | nil =>
        cases h1 with
        | int i =>
          cases h2 with
          | int j => cases hf; exact ⟨i, j, rfl, q _ H (Same.refl H) (.int _)⟩
          | _ => cases hf
        | _ => cases hf
theorem ca_max2 : CaD K (fun xs H Q => ∃ i j, xs = [.int i, .int j] ∧ Q (.int (if j > i then j else i)) H) (l2 vMax2) := by
  intro P H xs ds z Q nf hx hf q
  cases hx with
  | nil => cases hf
  | cons h1 h2 =>
    cases h2 with
    | nil => cases hf
    | cons h2 h3 =>
      cases h3 with
      | cons _ _ => cases hf
      | nil =>
        cases h1 with
        | int i =>
          cases h2 with
          | int j => cases hf; exact ⟨i, j, rfl, q _ H (Same.refl H) (.int _)⟩
          | _ => cases hf
        | _ => cases hf
def vTuple : D → Option D
  | .list ds => some (.tuple ds)
  | .tuple ds => some (.tuple ds)
  | _ => none
theorem ca_tuple : CaD K (fun xs H Q => ∃ p ys, xs = [.ref p] ∧ ((SqL K H p ys ∧ ∀ l, H l = none → Q (.ref l) (upd H l (.tup ys))) ∨ (SqT K H p ys ∧ Q (.ref p) H))) (l1 vTuple) := by
  intro P H xs ds z Q nf hx hf q
  cases hx with
  | nil => cases hf
  | cons h1 h2 =>
    cases h2 with
    | nil =>
      cases h1 with
      | lst hs ha =>
        cases hf
        refine ⟨_, _, rfl, .inl ⟨vw_le.seq hs, fun p hp => ?_⟩⟩
        exact q _ _ (same_upd hp) (.tup (.inl (.inl (vw_of (fun z => nf p z hp) upd_same))) (DpAll_mono (vw_up (same_upd hp)) _ _ ha))
      | tup hs ha =>
        cases hf
        exact ⟨_, _, rfl, .inr ⟨seqT vw_le hs, q _ H (Same.refl H) (.tup hs ha)⟩⟩
      | _ => cases hf
    | cons _ _ => cases hf
def vList : D → Option D
  | .list ds => some (.list ds)
  | .tuple ds => some (.list ds)
  | _ => none
theorem ca_list : CaD K (fun xs H Q => ∃ p ys, xs = [.ref p] ∧ (SqL K H p ys ∨ SqT K H p ys) ∧ ∀ l, H l = none → Q (.ref l) (upd H l (.lst ys))) (l1 vList) := by
  intro P H xs ds z Q nf hx hf q
  cases hx with
  | nil => cases hf
  | cons h1 h2 =>
    cases h2 with
    | nil =>
      cases h1 with
      | lst hs ha =>
        cases hf
        refine ⟨_, _, rfl, .inl (vw_le.seq hs), fun p hp => ?_⟩
        exact q _ _ (same_upd hp) (.lst (.inl (.inl (vw_of (fun z => nf p z hp) upd_same))) (DpAll_mono (vw_up (same_upd hp)) _ _ ha))
      | tup hs ha =>
        cases hf
        refine ⟨_, _, rfl, .inr (seqT vw_le hs), fun p hp => ?_⟩
        exact q _ _ (same_upd hp) (.lst (.inl (.inl (vw_of (fun z => nf p z hp) upd_same))) (DpAll_mono (vw_up (same_upd hp)) _ _ ha))
      | _ => cases hf
    | cons _ _ => cases hf
theorem DpAll_at {H : Hp} {vs : List V} {ds : List D} {i : Int} {d : D} (h : DpAll K H vs ds) (e : atD ds i = some d) : ∃ v, atI vs i = some v ∧ Dp K H v d := by
  have hl := DpAll_len h
  unfold atD at e
  unfold atI ixN
  split at e
  · rename_i h0
    split at e
    · rename_i h1
      rw [if_neg (by omega), if_pos (by rw [hl]; omega), hl]
      exact DpAll_get h e
    · cases e
  · rename_i h0
    have hlt := (List.getElem?_eq_some_iff.mp e).1
    rw [if_pos (by omega), if_pos (by rw [hl]; omega)]
    exact DpAll_get h e
end
section
variable {X : Cx} {b : Bool} {a c e : Expr} {pos : Pos} {ga gb : GE}
theorem od_ix {K : PySem.W.Frag} : OpD K (rIx K) vIx := by
  intro P H x y d e z Q nf hx hy h q
  cases e with
  | int i =>
    have hy := Dp_int hy
    subst hy
    cases hx with
    | lst hs ha =>
      obtain ⟨v, h1, h2⟩ := DpAll_at ha (show atD _ i = some z from h)
      exact .inl ⟨_, _, i, v, rfl, rfl, vw_le.seq hs, h1, q v H (Same.refl H) h2⟩
    | tup hs ha =>
      obtain ⟨v, h1, h2⟩ := DpAll_at ha (show atD _ i = some z from h)
      exact .inr (.inl ⟨_, _, i, v, rfl, rfl, seqT vw_le hs, h1, q v H (Same.refl H) h2⟩)
    | _ => cases h
  | _ => cases d <;> cases h
theorem pd_ix (ha : PEd X b a ga) (hb : PEd X b c gb) (hs : PlainIx c) : PEd X b (.Subscript a c pos) (g2 vIx ga gb) := by
  obtain ⟨ta, pa', ha⟩ := ha
  obtain ⟨tb, pb', hb⟩ := hb
  refine ⟨_, pe_ix ix_seq pa' pb' hs, fun H0 M env σ H pa d Q E h q => ?_⟩
  obtain ⟨d1, d2, h1, h2, h3⟩ := bind2 h
  exact two E ha hb h1 h2 fun x y H' s hx hy => od_ix _ H' x y d1 d2 d Q (Vs_nf b (E.up s)) hx hy h3 fun v H'' s' hv => q v H'' (s.trans s') hv
/-! slices -/
abbrev GO := Env → Option (Option Int)
def oNone : GO := fun _ => some none
def asPart : D → Option (Option Int)
  | .int i => some (some i)
  | _ => none
def oSome (a : GE) : GO := fun env => (a env).bind asPart
def POd (X : Cx) (e : Option Expr) (g : GO) : Prop := ∃ t, PO X e t ∧ ∀ (H0 : Hp) (M : Addr → Prop) (env : Env) (σ : Sg) (H : Hp) (pa : Nat → Addr) (o : Option Int) (Q : Option Int → Hp → Prop), EO X.K H0 M env σ H pa → g env = some o → (∀ H', Same H H' → Q o H') → t σ H Q
theorem od_none : POd X none oNone := ⟨_, po_none, fun H0 M env σ H pa o Q E h q => by cases h; exact q H (Same.refl H)⟩
theorem od_some (ha : PEd X true a ga) : POd X (some a) (oSome ga) := by
  obtain ⟨ta, pa', ha⟩ := ha
  refine ⟨_, po_some pa', fun H0 M env σ H pa o Q E h q => ?_⟩
  obtain ⟨d, h1, h2⟩ := bind1 h
  cases d with
  | int i =>
    cases h2
    exact ha H0 M env σ H pa _ _ E h1 fun v H' s hv => ⟨i, Dp_int hv, q H' s⟩
  | _ => cases h2
def cutD (ds : List D) (lo hi : Option Int) : List D := (ds.drop (HT.sIx ds.length 0 lo)).take (HT.sIx ds.length ds.length hi - HT.sIx ds.length 0 lo)
def vSlice : D → Option Int → Option Int → Option D
  | .list ds, lo, hi => some (.list (cutD ds lo hi))
  | .tuple ds, lo, hi => if HT.sIx ds.length 0 lo = 0 ∧ HT.sIx ds.length ds.length hi = ds.length then none else some (.tuple (cutD ds lo hi))
  | .str x, lo, hi => if x.length ≤ lim then some (.str (cutS x lo hi)) else none
  | _, _, _ => none
def gSlice (a : GE) (lo hi : GO) : GE := fun env => (a env).bind fun d => (lo env).bind fun l => (hi env).bind fun h => vSlice d l h
abbrev rSlA (K : PySem.W.Frag) : V → Option Int → Option Int → Hp → VK → Prop := fun x lo hi H Q => rSlL K x lo hi H Q ∨ (rSlT K x lo hi H Q ∨ rSlS x lo hi H Q)
theorem DpAll_cut {K : PySem.W.Frag} {H : Hp} {vs : List V} {ds : List D} (h : DpAll K H vs ds) (lo hi : Option Int) : DpAll K H (cutV vs lo hi) (cutD ds lo hi) := by
  unfold cutV cutD
  rw [DpAll_len h]
  exact DpAll_take _ (DpAll_drop _ h)
theorem pd_slice {lo hi : Option Expr} {gl gh : GO} {p2 : Pos} (ha : PEd X b a ga) (hl : POd X lo gl) (hh : POd X hi gh) : PEd X b (.Subscript a (.Slice lo hi none p2) pos) (gSlice ga gl gh) := by
  obtain ⟨ta, pa', ha⟩ := ha
  obtain ⟨tl, pl', hl⟩ := hl
  obtain ⟨th, ph', hh⟩ := hh
  refine ⟨_, pe_slice (sl_list.or (sl_tup.or sl_str)) pa' pl' ph', fun H0 M env σ H pa d Q E h q => ?_⟩
  obtain ⟨d1, h1, h⟩ := bind1 h
  obtain ⟨l, h2, h⟩ := bind1 h
  obtain ⟨u, h3, h⟩ := bind1 h
  refine ha H0 M env σ H pa d1 _ E h1 fun x H1 s1 hx => hl H0 M env σ H1 pa l _ (E.up s1) h2 fun H2 s2 => hh H0 M env σ H2 pa u _ ((E.up s1).up s2) h3 fun H3 s3 => ?_
  have nf := Vs_nf b (((E.up s1).up s2).up s3)
  have hx := Dp_mono (vw_up (s2.trans s3)) _ _ hx
  have s := (s1.trans s2).trans s3
  cases hx with
  | lst hs hall =>
    cases h
    refine .inl ⟨_, _, rfl, vw_le.seq hs, fun p hp => ?_⟩
    exact q _ _ (s.trans (same_upd hp)) (.lst (.inl (.inl (vw_of (fun z => nf p z hp) upd_same))) (DpAll_mono (vw_up (same_upd hp)) _ _ (DpAll_cut hall l u)))
  | @tup a' xs ds hs hall =>
    have h : (if HT.sIx ds.length 0 l = 0 ∧ HT.sIx ds.length ds.length u = ds.length then none else some (PyData.tuple (cutD ds l u))) = some d := h
    split at h
    · cases h
    · rename_i hno
      cases h
      refine .inr (.inl ⟨_, _, rfl, seqT vw_le hs, by rw [DpAll_len hall]; exact hno, fun p hp => ?_⟩)
      exact q _ _ (s.trans (same_upd hp)) (.tup (.inl (.inl (vw_of (fun z => nf p z hp) upd_same))) (DpAll_mono (vw_up (same_upd hp)) _ _ (DpAll_cut hall l u)))
  | str x =>
    have h : (if x.length ≤ lim then some (PyData.str (cutS x l u)) else none) = some d := h
    split at h
    · rename_i hx
      cases h
      exact .inr (.inr ⟨x, rfl, by rw [← lim_eq]; exact hx, q _ _ s (.str _)⟩)
    · cases h
  | _ => cases h
/-- xs[::-1] -/
def vRev : D → Option D
  | .list ds => some (.list ds.reverse)
  | _ => none
theorem pd_rev {k : Nat} {p1 p2 p3 : Pos} (ha : PEd X b e ga) : PEd X b (.Subscript e (.Slice none none (some (.UnaryOp .USub (.Constant (.int 1) k p1) p2)) p3) pos) (g1 vRev ga) := by
  obtain ⟨ta, pa', ha⟩ := ha
  refine ⟨_, pe_revL pa', fun H0 M env σ H pa d Q E h q => ?_⟩
  obtain ⟨d1, h1, h2⟩ := bind1 h
  refine ha H0 M env σ H pa d1 _ E h1 fun x H1 s1 hx => ?_
  have nf := Vs_nf b (E.up s1)
  cases hx with
  | lst hs hall =>
    cases h2
    refine ⟨_, _, rfl, vw_le.seq hs, fun p hp => ?_⟩
    exact q _ _ (s1.trans (same_upd hp)) (.lst (.inl (.inl (vw_of (fun z => nf p z hp) upd_same))) (DpAll_mono (vw_up (same_upd hp)) _ _ (DpAll_rev hall)))
  | _ => cases h2
/-! methods of a name's own list -/
theorem sd_app {i : Nat} {x : Str} {apos cpos px : Pos} (hN : X.N[i]? = some x) (hv : Vis X.env.scope x) (he : PEd X false e ga) (hd : (x == ("__debug__" : Str)) = false := by decide) (hcd : (x == ("__classdict__" : Str)) = false := by decide)
    (hbase : attributeBase (.Name x px) "append" X.env (eval (.Name x px) X.env) = eval (.Name x px) X.env := by rfl)
    (hfew : ((backTo cpos (starEach (e :: []) X.env)).all (fun x => !x.1) && (backToKw cpos (keywordEach [] X.env)).all (fun x => x.1.isSome)
      && decide ((e :: []).length + ([] : List Keyword).length + (if ([] : List Keyword).isEmpty then 0 else 1) < 30)) = true := by rfl)
    (hline : (apos.endLine == cpos.line) = true := by rfl) (hs : starEach (e :: []) X.env = (false, eval e X.env) :: starEach [] X.env := by rfl) (hplain : (backTo cpos (starEach [] X.env)).any (·.1) = false := by rfl)
    (hsw : swapsWith (.Call (.Attribute (.Name x px) "append" apos) [e] [] cpos) none pos.line X.env = pure false := by rfl) :
    PSd X (.Expr (.Call (.Attribute (.Name x px) "append" apos) [e] [] cpos) pos) (sApp i ga) := by
  obtain ⟨t0, ht, hh⟩ := he
  refine ⟨_, ps_expr (pe_bm PySem.F.plainAttrs_list PySem.F.slot_list_append PySem.F.type_list_append mt_append (pe_var hN hv hd hcd) (pa_cons ht pa_nil hs) hbase hfew hline hs hplain) hsw, fun H0 M env σ H pa o T E h q => ?_⟩
  obtain ⟨d, h1, h2⟩ := bind1 h
  cases hi : env[i]? with
  | none => rw [hi] at h2; cases h2
  | some sl =>
    rw [hi] at h2
    cases sl with
    | un => cases h2
    | val _ => cases h2
    | own ds =>
      have h2 : (if ds.length < lim then some (Out.nx (env.set i (.own (ds ++ [d])))) else none) = some o := h2
      split at h2
      · rename_i hl
        cases h2
        obtain ⟨g1, g2, vs, g3, g4⟩ := E.own i ds hi
        refine ⟨_, g1, .inl ⟨rfl, vs, SqL.of g3⟩, hh H0 M env σ H pa d _ E h1 fun v H' s hv => ?_⟩
        refine ⟨_, vs, v, rfl, rfl, s _ _ g3, by rw [DpAll_len g4, ← lim_eq]; exact hl, ?_⟩
        exact q σ _ pa ((E.up s).write hi (DpAll_app (DpAll_mono (vw_up s) _ _ g4) (.cons hv .nil)))
      · cases h2
def popS (env : Env) (i : Nat) : Option Slot → Option Out
  | some (.own ds) => if ds.isEmpty then none else some (.nx (env.set i (.own ds.dropLast)))
  | _ => none
def sPop (i : Nat) : GS := fun env => popS env i env[i]?
def revS (env : Env) (i : Nat) : Option Slot → Option Out
  | some (.own ds) => some (.nx (env.set i (.own ds.reverse)))
  | _ => none
def sRevIn (i : Nat) : GS := fun env => revS env i env[i]?
theorem DpAll_dropLast {K : PySem.W.Frag} {H : Hp} {vs : List V} {ds : List D} (h : DpAll K H vs ds) : DpAll K H vs.dropLast ds.dropLast := by
  rw [List.dropLast_eq_take, List.dropLast_eq_take, DpAll_len h]
  exact DpAll_take _ h
theorem sd_pop {i : Nat} {x : Str} {apos cpos px : Pos} (hN : X.N[i]? = some x) (hv : Vis X.env.scope x) (hd : (x == ("__debug__" : Str)) = false := by decide) (hcd : (x == ("__classdict__" : Str)) = false := by decide)
    (hbase : attributeBase (.Name x px) "pop" X.env (eval (.Name x px) X.env) = eval (.Name x px) X.env := by rfl) (hline : (apos.endLine == cpos.line) = true := by rfl)
    (hsw : swapsWith (.Call (.Attribute (.Name x px) "pop" apos) [] [] cpos) none pos.line X.env = pure false := by rfl) :
    PSd X (.Expr (.Call (.Attribute (.Name x px) "pop" apos) [] [] cpos) pos) (sPop i) := by
  refine ⟨_, ps_expr (pe_bm0 PySem.F.plainAttrs_list PySem.F.slot_list_pop PySem.F.type_list_pop mt_pop (pe_var hN hv hd hcd) hbase hline) hsw, fun H0 M env σ H pa o T E h q => ?_⟩
  unfold sPop at h
  cases hi : env[i]? with
  | none => rw [hi] at h; cases h
  | some sl =>
    rw [hi] at h
    cases sl with
    | un => cases h
    | val _ => cases h
    | own ds =>
      have h : (if ds.isEmpty = true then none else some (Out.nx (env.set i (.own ds.dropLast)))) = some o := h
      split at h
      · cases h
      · rename_i hne
        have hne : ds ≠ [] := fun z => hne (by rw [z]; rfl)
        cases h
        obtain ⟨g1, g2, vs, g3, g4⟩ := E.own i ds hi
        have hl := DpAll_len g4
        have hp : 0 < ds.length := List.length_pos_iff.mpr hne
        have hlt : vs.length - 1 < vs.length := by omega
        refine ⟨_, g1, .inl ⟨rfl, vs, SqL.of g3⟩, _, vs, vs[vs.length - 1], rfl, rfl, g3, List.getElem?_eq_getElem hlt, ?_⟩
        exact q σ _ pa (E.write hi (DpAll_dropLast g4))
theorem sd_revIn {i : Nat} {x : Str} {apos cpos px : Pos} (hN : X.N[i]? = some x) (hv : Vis X.env.scope x) (hd : (x == ("__debug__" : Str)) = false := by decide) (hcd : (x == ("__classdict__" : Str)) = false := by decide)
    (hbase : attributeBase (.Name x px) "reverse" X.env (eval (.Name x px) X.env) = eval (.Name x px) X.env := by rfl) (hline : (apos.endLine == cpos.line) = true := by rfl)
    (hsw : swapsWith (.Call (.Attribute (.Name x px) "reverse" apos) [] [] cpos) none pos.line X.env = pure false := by rfl) :
    PSd X (.Expr (.Call (.Attribute (.Name x px) "reverse" apos) [] [] cpos) pos) (sRevIn i) := by
  refine ⟨_, ps_expr (pe_bm0 PySem.F.plainAttrs_list PySem.F.slot_list_reverse PySem.F.type_list_reverse mt_reverse (pe_var hN hv hd hcd) hbase hline) hsw, fun H0 M env σ H pa o T E h q => ?_⟩
  unfold sRevIn at h
  cases hi : env[i]? with
  | none => rw [hi] at h; cases h
  | some sl =>
    rw [hi] at h
    cases sl with
    | un => cases h
    | val _ => cases h
    | own ds =>
      cases h
      obtain ⟨g1, g2, vs, g3, g4⟩ := E.own i ds hi
      refine ⟨_, g1, .inl ⟨rfl, vs, SqL.of g3⟩, _, vs, rfl, rfl, g3, ?_⟩
      exact q σ _ pa (E.write hi (DpAll_rev g4))
end
end Dn

namespace Dn
open PySem PySem.Spec PyProof.Rows L2

/-! ### 6. a def's contract; nothing is shown by repr around its call -/
structure FnG (P : Program) (w : World) (K : PySem.W.Frag) (mg : Str → Option Value) (base : Heap) (k : Nat) (f : Addr) (fd : FuncData) (ps : List Str) (sp : Sp) : Prop where
  len : ∀ zs H Q E, sp zs H Q E → zs.length = ps.length
  run : ∀ (A : Around) (out : List PySem.Env) (s : Shared) (H : Hp) (ar : Args) (us : List Value) (zs : List V) (Q : VK), Room k A → A.guards = some [] → Env0 P w K mg base A out s H → BindsTo s fd ar (ps.zip us) → Vals zs us → sp zs H Q E0 →
    codeAny (model P w) A (.call (.ref f) ar) (CR CX0 out P w H s Q E0) s
end Dn
namespace Dn
open PySem PySem.Spec PyProof.Rows L2
theorem FnG.mono {P : Program} {w : World} {K : PySem.W.Frag} {mg : Str → Option Value} {base : Heap} {j k : Nat} {f : Addr} {fd : FuncData} {ps : List Str} {sp : Sp} (F : FnG P w K mg base j f fd ps sp) (h : j ≤ k) : FnG P w K mg base k f fd ps sp :=
  ⟨F.len, fun A out s H ar us zs Q hr => F.run A out s H ar us zs Q (hr.mono h)⟩
theorem FnG.imp {P : Program} {w : World} {K : PySem.W.Frag} {mg : Str → Option Value} {base : Heap} {k : Nat} {f : Addr} {fd : FuncData} {ps : List Str} {sp sp' : Sp} (F : FnG P w K mg base k f fd ps sp) (h : ∀ zs H Q E, sp' zs H Q E → sp zs H Q E) : FnG P w K mg base k f fd ps sp' :=
  ⟨fun zs H Q E q => F.len zs H Q E (h _ _ _ _ q), fun A out s H ar us zs Q hr hg he hb hv hs => F.run A out s H ar us zs Q hr hg he hb hv (h _ _ _ _ hs)⟩
section
variable {X : Cx} {k : Nat} {f : Addr} {fd : FuncData} {ps : List Str} {sp : Sp} {x : Str} {p pos : Pos} {e : Expr} {es : List Expr} {t : TA}
theorem run_g {pins : List (Addr × Obj)} {σ : Sg} {H : Hp} {s : Shared} {Q : VK} {us : List Value} {zs : List V} (F : FnG X.prog X.w X.K X.mg X.base k f fd ps sp) (hr : Room k X.A) (hG : X.A.guards = some []) (hb : Binds X.K fd ps [])
    (I : Inv X pins σ H s) (r : Vals zs us) (h : sp zs H Q E0) : wpAny (model X.prog X.w) X.A (call (.ref f) us) (EP X pins σ Q) X.xe s := by
  have hl : (us ++ []).length = ps.length := by rw [List.append_nil, ← r.length]; exact F.len _ _ _ _ h
  have hB := hb s us I.kIn hl
  rw [List.append_nil] at hB
  refine wpAny_call (codeAny_mono (F.run X.A X.stack s H ⟨us, []⟩ us zs Q hr hG I.env0 hB r h) fun rr s' hq => ?_)
  cases rr with
  | error z => exact hq.elim
  | ok fl => cases fl with
    | ret u => exact I.after hq
    | _ => exact False.elim hq
theorem pe_callG (F : FnG X.prog X.w X.K X.mg X.base k f fd ps sp) (hr : Room k X.A) (hG : X.A.guards = some []) (hg : Gl X x) (hm : X.mg x = some (.ref f)) (hk : PySem.W.keepIn X.K (.ref f) = true) (hb : Binds X.K fd ps [])
    (ha : PA X (e :: es) t) (hdb : (x == ("__debug__" : Str)) = false) (he : starEach (e :: es) X.env = (false, eval e X.env) :: starEach es X.env) (hpl : (backTo pos (starEach es X.env)).any (·.1) = false) :
    PE X (.Call (.Name x p) (e :: es) [] pos) (fun σ H Q => t σ H fun zs H1 => sp zs H1 Q E0) := ⟨fun pins s σ H Q I h =>
  wpAny_Call_Name_kw (ld_glob I hg hm (PySem.W.callWith_K (h₀ := X.base) I.ok.mod.kin hk (thn (ha.run pos pins s σ H _ I h) fun us s1 hh => ⟨hh.elim fun _ z => z.elim fun _ z => z.1.kIn, hh.elim fun zs z => z.elim fun H1 z => run_g F hr hG hb z.1 z.2.1 z.2.2⟩) he hpl) hdb)⟩
end
section
variable {P : Program} {w : World} {K : PySem.W.Frag} {mg : Str → Option Value} {base : Heap}
/-- a def by its body -/
theorem fn_g {name qual : Str} {st : Stmt} {f : Addr} {fd : FuncData} {N ps : List Str} {k : Nat} {sp : Sp} (F : Fun K name qual st f fd) (S : FnScope N ps (defScope st)) (len : ∀ zs H Q E, sp zs H Q E → zs.length = ps.length)
    (body : ∀ (cdv : Value) (A : Around) (out : List PySem.Env) (s : Shared) (H : Hp) (zs : List V) (Q : VK), Room k (A.deeper (envOfC qual (defScope st) s.heap.objs.size f cdv)) → (A.deeper (envOfC qual (defScope st) s.heap.objs.size f cdv)).guards = some [] → sp zs H Q E0 →
      ∃ t, PSs (cxOf CX0 P w K mg base N qual (defScope st) f cdv A out s H E0).nox (defBody st) t ∧ t { nx := fun _ H' => Q .non H', rt := Q } (L2.start N zs) H) : FnG P w K mg base (k + 1) f fd ps sp := by
  obtain ⟨oc, od, kV, doc, pm, an, cdv, ct, osl, rfl, lk, hcd⟩ := F.ex
  refine ⟨len, fun A out s H ar us zs Q hr hG e0 hb r hsp => ?_⟩
  have hl := len _ _ _ _ hsp
  have up : ∀ b o, base.get? b = some o → s.heap.get? b = some o := fun b o e => (e0.bs b o e).1
  have KX : K.In s.heap := e0.mod.kin.keeps up
  have lim : s.heap.NoLimit := e0.mod.nolimit.keeps up
  refine codeAny_call_function hr.depth (KX _ _ lk) rfl S.co S.gen rfl (PySem.W.codeRec_of KX hcd) (hb _ _ _ _ ?_)
  refine wpAny_newFunctionEnv_cells S.kind (fun y hy => ?_) fun env he s1 x => ?_
  · rcases S.par y.1 (List.of_mem_zip (show (y.1, y.2) ∈ ps.zip us from hy)).1 with q | q
    · exact .inl q
    · exact .inr ⟨q, PySem.W.cellsFrom_some _ _ _ (.inl q)⟩
  subst he
  refine ⟨lim.keeps x.toInCall.keep, codeAny_func ?_⟩
  obtain ⟨t, ht, hq⟩ := body cdv A out s H zs Q (hr.deeper _) hG hsp
  have ht := ht.nox
  have I : Inv (cxOf CX0 P w K mg base N qual (defScope st) f cdv A out s H E0) [] (L2.start N zs) H s1 := inv_start S hr.hd e0 hl r x
  refine wpAny_mono (ht.run [] s1 (L2.start N zs) H _ I hq) (fun fl s' hs => ?_) fun e s' hs => hs
  cases fl with
  | ret u =>
    obtain ⟨v, σ', H', J, rv, q⟩ := hs
    exact ⟨v, H', J.os, J.bare, J.base, J.hok, rv, q⟩
  | next =>
    obtain ⟨σ', H', J, q⟩ := hs
    exact ⟨V.non, H', J.os, J.bare, J.base, J.hok, (rfl : Value.none = Value.none), q⟩
  | brk => exact (hs.elim fun _ z => z.elim fun _ z => z.2).elim
  | cont => exact (hs.elim fun _ z => z.elim fun _ z => z.2).elim
/-- a def of the text that keeps a promise by data, known by its name -/
def Ok (P : Program) (w : World) (K : PySem.W.Frag) (mg : Str → Option Value) (base : Heap) (name : Str) (k n : Nat) (F : List D → Option D) : Prop :=
  ∃ f fd ps, mg name = some (.ref f) ∧ PySem.W.keepIn K (.ref f) = true ∧ Binds K fd ps [] ∧ FnG P w K mg base k f fd ps (SpD K n F)
/-- a def of the text as it stands -/
def Df (K : PySem.W.Frag) (mg : Str → Option Value) (name : Str) (st : Stmt) (ps : List Str) : Prop :=
  ∃ f fd, Fun K name name st f fd ∧ mg name = some (.ref f) ∧ Binds K fd ps []
theorem ok_of {name : Str} {st : Stmt} {N ps : List Str} {k : Nat} {g : GS} (T : Df K mg name st ps) (S : FnScope N ps (defScope st)) (hl : ps.length ≤ N.length)
    (body : ∀ (f : Addr) (cdv : Value) (A : Around) (out : List PySem.Env) (s : Shared) (H : Hp), Room k (A.deeper (envOfC name (defScope st) s.heap.objs.size f cdv)) → (A.deeper (envOfC name (defScope st) s.heap.objs.size f cdv)).guards = some [] →
      PSsd (cxOf CX0 P w K mg base N name (defScope st) f cdv A out s H E0).nox (defBody st) g) : Ok P w K mg base name (k + 1) ps.length (runF N.length ps.length g) := by
  obtain ⟨f, fd, F, hm, hb⟩ := T
  exact ⟨f, fd, ps, hm, F.kp, hb, fn_g F S (fun zs H Q E h => h.len) fun cdv A out s H zs Q hr hG hsp => fn_d (body f cdv A out s H hr hG) hl hsp⟩
end
section
variable {X : Cx} {b : Bool} {k n : Nat} {x : Str} {p pos : Pos} {e : Expr} {es : List Expr} {gs : GA} {F : List D → Option D}
theorem pd_fn (O : Ok X.prog X.w X.K X.mg X.base x k (es.length + 1) F) (hr : Room k X.A) (hG : X.A.guards = some []) (ha : PAd X b (e :: es) gs) (hg : Gl X x := by rfl) (hdb : (x == ("__debug__" : Str)) = false := by decide)
    (he : starEach (e :: es) X.env = (false, eval e X.env) :: starEach es X.env := by rfl) (hpl : (backTo pos (starEach es X.env)).any (·.1) = false := by rfl) : PEd X b (.Call (.Name x p) (e :: es) [] pos) (gArgs F gs) := by
  obtain ⟨f, fd, ps, hm, hk, hb, G⟩ := O
  obtain ⟨t, ht, hh⟩ := ha
  refine ⟨_, pe_callG G hr hG hg hm hk hb ht hdb he hpl, fun H0 M env σ H pa d Q E h q => ?_⟩
  obtain ⟨ds, h1, h2⟩ := bind1 h
  exact hh H0 M env σ H pa ds _ E h1 fun vs H' s hv hl => ⟨ds, d, _, hv, h2, hl, Vs_nf b (E.up s), fun v H'' s' hv' => q v H'' (s.trans s') hv'⟩

/-! is None -/
variable {a : Expr} {ga : GE}
theorem dp_none {K : PySem.W.Frag} {H : Hp} {v : V} {d : D} (h : Dp K H v d) : decide (v = .non) = isNone d := by cases h <;> rfl
theorem pd_isN {j pos'} (ha : PEd X b a ga) : PEd X b (.Compare a [.Is] [.Constant .none j pos'] pos) (g1 vIsN ga) := by
  obtain ⟨t, ht, hh⟩ := ha
  refine ⟨_, pe_cmp (pc_isN ht) rfl, fun H0 M env σ H pa d Q E h q => ?_⟩
  obtain ⟨d1, h1, h2⟩ := bind1 h
  cases h2
  exact hh H0 M env σ H pa d1 _ E h1 fun v H' s hv => q _ H' s (by rw [dp_none hv]; exact .bl _)
theorem pd_notN {j pos'} (ha : PEd X b a ga) : PEd X b (.Compare a [.IsNot] [.Constant .none j pos'] pos) (g1 vNotN ga) := by
  obtain ⟨t, ht, hh⟩ := ha
  refine ⟨_, pe_cmp (pc_notN ht) rfl, fun H0 M env σ H pa d Q E h q => ?_⟩
  obtain ⟨d1, h1, h2⟩ := bind1 h
  cases h2
  exact hh H0 M env σ H pa d1 _ E h1 fun v H' s hv => q _ H' s (by rw [dp_none hv]; exact .bl _)
theorem pt_isN {j pos'} (ha : PEd X true a ga) : PTd X (.Compare a [.Is] [.Constant .none j pos'] pos) (gTest (g1 vIsN ga)) := by
  obtain ⟨t, ht, hh⟩ := ha
  refine ⟨_, pt_cmp (pc_isN ht) rfl, fun H0 M env σ H pa k Q E h q => ?_⟩
  obtain ⟨d, h0, hk⟩ := bind1 h
  obtain ⟨d1, h1, h2⟩ := bind1 h0
  cases h2
  cases hk
  exact hh H0 M env σ H pa d1 _ E h1 fun v H' s hv => ⟨_, by rw [dp_none hv], q H' s⟩
theorem pt_notN {j pos'} (ha : PEd X true a ga) : PTd X (.Compare a [.IsNot] [.Constant .none j pos'] pos) (gTest (g1 vNotN ga)) := by
  obtain ⟨t, ht, hh⟩ := ha
  refine ⟨_, pt_cmp (pc_notN ht) rfl, fun H0 M env σ H pa k Q E h q => ?_⟩
  obtain ⟨d, h0, hk⟩ := bind1 h
  obtain ⟨d1, h1, h2⟩ := bind1 h0
  cases h2
  cases hk
  exact hh H0 M env σ H pa d1 _ E h1 fun v H' s hv => ⟨_, by rw [dp_none hv], q H' s⟩
end

/-! isinstance -/
def tyName : D → Option String
  | .bool _ => some "bool"
  | .int _ => some "int"
  | .str _ => some "str"
  | .list _ => some "list"
  | .tuple _ => some "tuple"
  | .none => some "NoneType"
  | _ => none
end Dn

namespace Dn
open PySem PySem.Spec PyProof.Rows L2

/-! ### 7. isinstance, repr, in -/
def isSub (t T : String) : Bool := t == T || (t == "bool" && T == "int")
def vIsi (T : String) : List D → Option D
  | [x] => (tyName x).bind fun t => some (.bool (isSub t T))
  | _ => none
theorem tyX {K : PySem.W.Frag} {H : Hp} {v : V} {d : D} {t : String} (h : Dp K H v d) (e : tyName d = some t) : TyX K H v (.type t) := by
  cases h with
  | non => cases e; exact .base .non
  | bl b => cases e; exact .base (.bl b)
  | int i => cases e; exact .base (.int i)
  | str x => cases e; exact .base (.str x)
  | lst hs _ =>
    cases e
    rcases hs with (hs | ⟨o, hs⟩) | ⟨o, its, n, hk, hc, _⟩
    · exact .base (.lst hs)
    · exact .base (.frz hs)
    · exact .kList hk hc
  | tup hs _ =>
    cases e
    rcases hs with (hs | ⟨o, hs⟩) | ⟨o, its, n, hk, hc, _⟩
    · exact .base (.tup hs)
    · exact .fTuple hs
    · exact .kTuple hk hc
def kitTab (T : String) : Prop := ∀ t ∈ ["bool", "int", "str", "list", "tuple", "NoneType"], kitB t T = some (isSub t T)
theorem kit_bool : kitTab "bool" := by unfold kitTab; decide +kernel
theorem kit_int : kitTab "int" := by unfold kitTab; decide +kernel
theorem kit_tuple : kitTab "tuple" := by unfold kitTab; decide +kernel
theorem kit_list : kitTab "list" := by unfold kitTab; decide +kernel
theorem kit_str : kitTab "str" := by unfold kitTab; decide +kernel
theorem tyName_mem {d : D} {t : String} (e : tyName d = some t) : t ∈ ["bool", "int", "str", "list", "tuple", "NoneType"] := by
  cases d <;> cases e <;> decide
section
variable {X : Cx} {b : Bool} {x y : Str} {p p1 p2 pos : Pos} {a c e elt tg iter : Expr} {ga gb : GE}
theorem pd_isi {T : String} (hT : kitTab T) (hg : Gl X "isinstance") (hm : X.mg "isinstance" = none) (hg2 : Gl X y) (hm2 : X.mg y = none) (hv2 : bootBuiltins y = some (.type T)) (ha : PEd X b a ga)
    (hn : y ≠ "__name__" := by decide) (hd : (y == ("__debug__" : Str)) = false := by decide)
    (hs1 : starEach [a, .Name y p2] X.env = (false, eval a X.env) :: starEach [.Name y p2] X.env := by rfl) (hs2 : starEach [.Name y p2] X.env = (false, eval (.Name y p2) X.env) :: starEach [] X.env := by rfl) (hpl : (backTo pos (starEach [.Name y p2] X.env)).any (·.1) = false := by rfl) :
    PEd X b (.Call (.Name "isinstance" p) [a, .Name y p2] [] pos) (gArgs (vIsi T) (aCons ga aNil)) := by
  obtain ⟨t, ht, hh⟩ := ha
  refine ⟨_, pe_callB (x := "isinstance") call_isi hg hm (by decide +kernel) (pa_cons ht (pa_cons (pe_bltn hg2 hm2 hv2 (v := .ty T) (show RelV (.ty T) (.type T) from rfl) hn hd) pa_nil hs2) hs1) (by decide) (by decide) hs1 hpl, fun H0 M env σ H pa d Q E h q => ?_⟩
  obtain ⟨ds, h1, h2⟩ := bind1 h
  obtain ⟨d1, ds', h3, h4, h5⟩ := bind2 h1
  cases h4
  cases h5
  obtain ⟨tn, h6, h7⟩ := bind1 h2
  cases h7
  refine hh H0 M env σ H pa d1 _ E h3 fun v H' s hv => ?_
  exact ⟨v, .ty T, .type tn, .type T, _, rfl, .ty T, tyX (Dp_mono vw_le _ _ hv) h6, kit_ty (hT tn (tyName_mem h6)), q _ H' s (.bl _)⟩
/-- what repr shows, of a bounded size -/
def okShow (d : D) : Bool := d.showable && !d.hasDict && decide (d.depth ≤ 60) && decide (d.shown.length ≤ lim)
def vRepr (d : D) : Option D := if okShow d then some (.str d.shown) else none
def isRefD : D → Bool
  | .list _ => true
  | .tuple _ => true
  | _ => false
def vRepr1 (d : D) : Option D := if isRefD d then vRepr d else none
theorem call_reprD (hG : X.A.guards = some []) (hu : X.A.units + 200 < cLine) : CallR X (.builtin "repr") (fun xs H Q => ∃ (a : Addr) (d : D), xs = [.ref a] ∧ Dp X.K H (.ref a) d ∧ okShow d = true ∧ Q (.str d.shown) H) := by
  intro pins s σ H xs us Q I r h
  obtain ⟨a, d, rfl, hd, ho, q⟩ := h
  obtain ⟨u, rfl, rx⟩ := vals1 r
  obtain ⟨as, hr⟩ := Dp.reads I d _ u hd rx
  cases rx
  have h1 := Bool.and_eq_true_iff.mp (show (d.showable && !d.hasDict && decide (d.depth ≤ 60) && decide (d.shown.length ≤ lim)) = true from ho)
  have h2 := Bool.and_eq_true_iff.mp h1.1
  have h3 := Bool.and_eq_true_iff.mp h2.1
  have h4 := of_decide_eq_true h2.2
  have h5 := of_decide_eq_true h1.2
  have nd : d.hasDict = false := by simpa using h3.2
  refine repr_of_reads' hr h3.1 (fun z => by rw [nd] at z; cases z) hG (by omega) (fun _ _ z => z) (fun h' u' tk kp => ?_) (by rw [← lim_eq]; exact h5)
  exact ⟨.str d.shown, H, I.kept kp, ⟨u', rfl⟩, q⟩
theorem pd_repr (hG : X.A.guards = some []) (hu : X.A.units + 200 < cLine) (hg : Gl X "repr") (hm : X.mg "repr" = none) (ha : PEd X b a ga) (hs1 : starEach [a] X.env = (false, eval a X.env) :: starEach [] X.env := by rfl) (hpl : (backTo pos (starEach [] X.env)).any (·.1) = false := by rfl) :
    PEd X b (.Call (.Name "repr" p) [a] [] pos) (g1 vRepr1 ga) := by
  obtain ⟨t, ht, hh⟩ := ha
  refine ⟨_, pe_callB (x := "repr") (call_reprD hG hu) hg hm (by decide +kernel) (pa_cons ht pa_nil hs1) (by decide) (by decide) hs1 hpl, fun H0 M env σ H pa d Q E h q => ?_⟩
  obtain ⟨d1, h1, h2⟩ := bind1 h
  refine hh H0 M env σ H pa d1 _ E h1 fun v H' s hv => ?_
  have h2 : (if isRefD d1 = true then vRepr d1 else none) = some d := h2
  split at h2
  · have h3 : (if okShow d1 = true then some (PyData.str d1.shown) else none) = some d := h2
    split at h3
    · rename_i ho
      cases h3
      cases hv with
      | lst hs hall => exact ⟨_, _, rfl, .lst (vw_le.seq hs) (DpAll_mono vw_le _ _ hall), ho, q _ H' s (.str _)⟩
      | tup hs hall => exact ⟨_, _, rfl, .tup (seqT vw_le hs) (DpAll_mono vw_le _ _ hall), ho, q _ H' s (.str _)⟩
      | _ => rename_i hr; cases hr
    · cases h3
  · cases h2
def flatD : D → Bool
  | .none => true
  | .bool _ => true
  | .int _ => true
  | .str _ => true
  | _ => false
/-- x in y: a list of data of any depth, a tuple of flat ones -/
def vIn : D → D → Option D
  | x, .list ds => if SeqAt.shaped x && SeqAt.shaped (.list ds) then some (.bool (ds.any fun z => PyData.eqv z x)) else none
  | x, .tuple ds => if flatD x && ds.all flatD then some (.bool (ds.any fun z => PyData.eqv z x)) else none
  | _, _ => none
def vNotIn : D → D → Option D
  | x, .list ds => if SeqAt.shaped x && SeqAt.shaped (.list ds) then some (.bool (!ds.any fun z => PyData.eqv z x)) else none
  | x, .tuple ds => if flatD x && ds.all flatD then some (.bool (!ds.any fun z => PyData.eqv z x)) else none
  | _, _ => none
theorem flat_of {K : PySem.W.Frag} {H : Hp} {v : V} {d : D} (h : Dp K H v d) (f : flatD d = true) : flatV v = true := by
  cases h <;> first | rfl | cases f
theorem eqv_of {K : PySem.W.Frag} {H : Hp} {u v : V} {d e : D} (hu : Dp K H u d) (hv : Dp K H v e) (f : flatD d = true) (f' : flatD e = true) : eqV u v = PyData.eqv d e := by
  cases hu <;> cases hv <;> first | (exact absurd f Bool.false_ne_true) | (exact absurd f' Bool.false_ne_true) | (simp only [eqV, PyData.eqv])
theorem any_of {K : PySem.W.Frag} {H : Hp} {v : V} {e : D} (hv : Dp K H v e) (f' : flatD e = true) : ∀ {us : List V} {ds : List D}, DpAll K H us ds → ds.all flatD = true → us.all flatV = true ∧ inV v us = ds.any fun z => PyData.eqv z e
  | _, _, .nil, _ => ⟨rfl, rfl⟩
  | _, _, .cons h t, f => by
    rw [List.all_cons, Bool.and_eq_true] at f
    obtain ⟨h1, h2⟩ := any_of hv f' t f.2
    refine ⟨by rw [List.all_cons, flat_of h f.1, h1]; rfl, ?_⟩
    unfold inV at h2 ⊢
    rw [List.any_cons, List.any_cons, h2, eqv_of h hv f.1 f']
abbrev rInA (K : PySem.W.Frag) : R2 := fun x y H Q => rInD K x y H Q ∨ rIn K false x y H Q
abbrev rNotInA (K : PySem.W.Frag) : R2 := fun x y H Q => rNotInD K x y H Q ∨ rIn K true x y H Q
theorem op_inA (hu : X.A.units + 65 < cLine) : OpR X (compareOp .In) (rInA X.K) := (op_inD hu).or op_in_seq
theorem op_notInA (hu : X.A.units + 65 < cLine) : OpR X (compareOp .NotIn) (rNotInA X.K) := (op_notInD hu).or op_notIn_seq
theorem od_in {K : PySem.W.Frag} : OpD K (rInA K) vIn := by
  intro P H x y d e z Q nf hx hy h q
  cases hy with
  | @lst a xs ds hs ha =>
    have h : (if (SeqAt.shaped d && SeqAt.shaped (.list ds)) = true then some (PyData.bool (ds.any fun z => PyData.eqv z d)) else none) = some z := h
    split at h
    · rename_i hsh
      cases h
      have hsh := Bool.and_eq_true_iff.mp hsh
      exact .inl ⟨d, ds, Dp_mono vw_le _ _ hx, .lst (vw_le.seq hs) (DpAll_mono vw_le _ _ ha), hsh.1, hsh.2, q _ H (Same.refl H) (.bl _)⟩
    · cases h
  | @tup a xs ds hs ha =>
    have h : (if (flatD d && ds.all flatD) = true then some (PyData.bool (ds.any fun z => PyData.eqv z d)) else none) = some z := h
    split at h
    · rename_i hsh
      cases h
      have hsh := Bool.and_eq_true_iff.mp hsh
      obtain ⟨h1, h2⟩ := any_of hx hsh.1 ha hsh.2
      exact .inr ⟨_, _, rfl, .inr (seqT vw_le hs), flat_of hx hsh.1, h1, q _ H (Same.refl H) (by simp only [Bool.false_eq_true, if_false]; rw [h2]; exact .bl _)⟩
    · cases h
  | _ => cases d <;> cases h
theorem od_notIn {K : PySem.W.Frag} : OpD K (rNotInA K) vNotIn := by
  intro P H x y d e z Q nf hx hy h q
  cases hy with
  | @lst a xs ds hs ha =>
    have h : (if (SeqAt.shaped d && SeqAt.shaped (.list ds)) = true then some (PyData.bool (!ds.any fun z => PyData.eqv z d)) else none) = some z := h
    split at h
    · rename_i hsh
      cases h
      have hsh := Bool.and_eq_true_iff.mp hsh
      exact .inl ⟨d, ds, Dp_mono vw_le _ _ hx, .lst (vw_le.seq hs) (DpAll_mono vw_le _ _ ha), hsh.1, hsh.2, q _ H (Same.refl H) (.bl _)⟩
    · cases h
  | @tup a xs ds hs ha =>
    have h : (if (flatD d && ds.all flatD) = true then some (PyData.bool (!ds.any fun z => PyData.eqv z d)) else none) = some z := h
    split at h
    · rename_i hsh
      cases h
      have hsh := Bool.and_eq_true_iff.mp hsh
      obtain ⟨h1, h2⟩ := any_of hx hsh.1 ha hsh.2
      exact .inr ⟨_, _, rfl, .inr (seqT vw_le hs), flat_of hx hsh.1, h1, q _ H (Same.refl H) (by simp only [if_true]; rw [h2]; exact .bl _)⟩
    · cases h
  | _ => cases d <;> cases h

/-! ### 8. comprehensions -/
def wipeE (env : Env) : List Nat → Env
  | [] => env
  | v :: vs => (wipeE env vs).set v .un
def compG (t : GT) (c : GB) (e : GE) (env : Env) : List D → Option (List D)
  | [] => some []
  | d :: ds => (t d env).bind fun env1 => (c env1).bind fun k => if k = true then (e env1).bind fun y => (compG t c e env ds).bind fun r => some (y :: r) else compG t c e env ds
def gYes : GB := fun _ => some true
def isOwn : Option Slot → Bool
  | some (.own _) => true
  | _ => false
def noOwB (env : Env) : List Nat → Bool
  | [] => true
  | i :: vs => !isOwn env[i]? && noOwB env vs
def gComp (vs : List Nat) (gi : GA) (t : GT) (c : GB) (e : GE) : GE := fun env => (gi env).bind fun ds => if noOwB env vs && decide (ds.length < lim) then (compG t c e (wipeE env vs) ds).bind fun r => some (.list r) else none
theorem EO.setUn {K : PySem.W.Frag} {H0 H : Hp} {M : Addr → Prop} {env : Env} {σ : Sg} {pa : Nat → Addr} (E : EO K H0 M env σ H pa) (i : Nat) : EO K H0 M (env.set i .un) (σ.set i none) H pa := by
  have ow : ∀ a, Ow (env.set i .un) pa a → Ow env pa a := fun a ⟨j, ds, h1, h2⟩ => by
    rcases set_some h1 with ⟨_, e, _⟩ | ⟨_, e⟩
    · cases e
    · exact ⟨j, ds, e, h2⟩
  have ms : Same (vw (Hd M env pa) H) (vw (Hd M (env.set i .un) pa) H) := vw_same (Same.refl H) fun a _ _ q => by
    rcases q with q | q
    · exact .inl q
    · exact .inr (ow a q)
  refine ⟨E.same, E.hid, by simp [E.len], fun j e h => ?_, fun j ds h => ?_, fun j k ds es h1 h2 h3 => ?_⟩
  · rcases set_some h with ⟨_, q, _⟩ | ⟨ne, q⟩
    · cases q
    · obtain ⟨u, h1, h2⟩ := E.val j e q
      exact ⟨u, by rw [List.getElem?_set_ne (Ne.symm ne)]; exact h1, Dp_mono ms _ _ h2⟩
  · rcases set_some h with ⟨_, q, _⟩ | ⟨ne, q⟩
    · cases q
    · obtain ⟨h1, h2, vs, h3, h4⟩ := E.own j ds q
      exact ⟨by rw [List.getElem?_set_ne (Ne.symm ne)]; exact h1, h2, vs, h3, DpAll_mono ms _ _ h4⟩
  · rcases set_some h1 with ⟨_, q, _⟩ | ⟨_, q⟩
    · cases q
    · rcases set_some h2 with ⟨_, r, _⟩ | ⟨_, r⟩
      · cases r
      · exact E.inj j k ds es q r h3
theorem EO.wipe {K : PySem.W.Frag} {H0 H : Hp} {M : Addr → Prop} {env : Env} {σ : Sg} {pa : Nat → Addr} (E : EO K H0 M env σ H pa) : ∀ vs : List Nat, EO K H0 M (wipeE env vs) (L2.wipe σ vs) H pa
  | [] => E
  | v :: vs => (EO.wipe E vs).setUn v
theorem ow_wipe {env : Env} {pa : Nat → Addr} {a : Addr} : ∀ {vs : List Nat}, Ow (wipeE env vs) pa a → Ow env pa a
  | [], h => h
  | v :: vs, ⟨j, ds, h1, h2⟩ => by
    rcases set_some h1 with ⟨_, e, _⟩ | ⟨_, e⟩
    · cases e
    · exact ow_wipe (vs := vs) ⟨j, ds, e, h2⟩
/-- the readings that stand for themselves -/
def tOf (K : PySem.W.Frag) (b : Bool) (g : GE) : TE := fun σ H Q => ∃ (H0 : Hp) (M : Addr → Prop) (env : Env) (pa : Nat → Addr) (d : D), EO K H0 M env σ H pa ∧ g env = some d ∧ ∀ v H', Same H H' → Dp K (vw (Vs b M env pa) H') v d → Q v H'
theorem PEd.can {g : GE} (h : PEd X b e g) : PE X e (tOf X.K b g) := by
  obtain ⟨t, ht, hh⟩ := h
  exact ⟨fun pins s σ H Q I ⟨H0, M, env, pa, d, E, h, q⟩ => ht.run pins s σ H Q I (hh H0 M env σ H pa d Q E h q)⟩
def uOf (K : PySem.W.Frag) (g : GB) : TT := fun σ H Q => ∃ (H0 : Hp) (M : Addr → Prop) (env : Env) (pa : Nat → Addr) (k : Bool), EO K H0 M env σ H pa ∧ g env = some k ∧ ∀ H', Same H H' → Q k H'
theorem PTd.can {g : GB} (h : PTd X e g) : PT X e (uOf X.K g) := by
  obtain ⟨t, ht, hh⟩ := h
  exact ⟨fun pins s σ H Q I ⟨H0, M, env, pa, d, E, h, q⟩ => ht.run pins s σ H Q I (hh H0 M env σ H pa d Q E h q)⟩
def PTsd (X : Cx) (ifs : List Expr) (g : GB) : Prop := PTs X ifs (uOf X.K g)
theorem ptsd_nil : PTsd X [] gYes := ⟨fun pins s σ H Q I ⟨H0, M, env, pa, k, E, h, q⟩ => by cases h; exact pts_nil.run pins s σ H Q I (q H (Same.refl H))⟩
theorem ptsd_one {g : GB} (h : PTd X e g) : PTsd X [e] g := pts_one h.can
def NoOw (vs : List Nat) (env : Env) : Prop := ∀ i ∈ vs, ∀ ds : List D, env[i]? ≠ some (Slot.own ds)
theorem noOw_of {env : Env} : ∀ {vs : List Nat}, noOwB env vs = true → NoOw vs env
  | [], _ => fun i h => by cases h
  | v :: vs, h => fun i hi ds z => by
    have h := Bool.and_eq_true_iff.mp (show (!isOwn env[v]? && noOwB env vs) = true from h)
    rcases List.mem_cons.mp hi with rfl | hi
    · rw [z] at h
      exact absurd h.1 Bool.false_ne_true
    · exact noOw_of h.2 i hi ds z
theorem ow_wipe2 {env : Env} {pa : Nat → Addr} {a : Addr} : ∀ {vs : List Nat}, NoOw vs env → Ow env pa a → Ow (wipeE env vs) pa a
  | [], _, h => h
  | v :: vs, n, h => by
    obtain ⟨j, ds, h1, h2⟩ := ow_wipe2 (vs := vs) (fun i hi => n i (List.mem_cons_of_mem _ hi)) h
    refine ⟨j, ds, ?_, h2⟩
    show ((wipeE env vs).set v .un)[j]? = _
    have ne : v ≠ j := fun e => by
      subst e
      have back : ∀ (ws : List Nat), (wipeE env ws)[v]? = some (Slot.own ds) → env[v]? = some (Slot.own ds) := by
        intro ws
        induction ws with
        | nil => exact id
        | cons w ws ih =>
          intro q
          rcases set_some q with ⟨_, q, _⟩ | ⟨_, q⟩
          · cases q
          · exact ih q
      exact n v List.mem_cons_self ds (back vs h1)
    rw [List.getElem?_set_ne ne]
    exact h1
theorem noOw_wipe {env : Env} : ∀ {vs : List Nat}, NoOw vs (wipeE env vs)
  | [], i, h => by cases h
  | v :: vs, i, h => fun ds z => by
    rcases set_some (show ((wipeE env vs).set v .un)[i]? = some (Slot.own ds) from z) with ⟨_, q, _⟩ | ⟨ne, q⟩
    · cases q
    · rcases List.mem_cons.mp h with rfl | h
      · exact ne rfl
      · exact noOw_wipe (vs := vs) i h ds q
/-- a comprehension's target: it stores at the slots vs alone -/
structure TGc (vs : List Nat) (t : GT) : Prop where
  fw : ∀ d env env' pa a, t d env = some env' → Ow env' pa a → Ow env pa a
  bw : ∀ d env env' pa a, NoOw vs env → t d env = some env' → Ow env pa a → Ow env' pa a
  no : ∀ d env env', NoOw vs env → t d env = some env' → NoOw vs env'
structure TGsc (vs : List Nat) (ts : List GT) : Prop where
  fw : ∀ ds env env' pa a, tTup2 ts ds env = some env' → Ow env' pa a → Ow env pa a
  bw : ∀ ds env env' pa a, NoOw vs env → tTup2 ts ds env = some env' → Ow env pa a → Ow env' pa a
  no : ∀ ds env env', NoOw vs env → tTup2 ts ds env = some env' → NoOw vs env'
def PGc (X : Cx) (vs : List Nat) (tg : Expr) (t : GT) : Prop := TGc vs t ∧ ∃ g, PG X tg g ∧ ∀ (H0 : Hp) (M : Addr → Prop) (env : Env) (σ : Sg) (H : Hp) (pa : Nat → Addr) (v : V) (d : D) (env' : Env) (Q : Sg → Hp → Prop), EO X.K H0 M env σ H pa → Dp X.K (vw (Hd M env pa) H) v d → t d env = some env' →
      (∀ σ' H', Same H H' → L2.wipe σ' vs = L2.wipe σ vs → EO X.K H0 M env' σ' H' pa → Q σ' H') → g v σ H Q
def PGsc (X : Cx) (vs : List Nat) (tgs : List Expr) (ts : List GT) : Prop := TGsc vs ts ∧ ∃ g, PGs X tgs g ∧ ∀ (H0 : Hp) (M : Addr → Prop) (env : Env) (σ : Sg) (H : Hp) (pa : Nat → Addr) (ws : List V) (ds : List D) (env' : Env) (Q : Sg → Hp → Prop), EO X.K H0 M env σ H pa → DpAll X.K (vw (Hd M env pa) H) ws ds → tTup2 ts ds env = some env' →
      (∀ σ' H', Same H H' → L2.wipe σ' vs = L2.wipe σ vs → EO X.K H0 M env' σ' H' pa → Q σ' H') → g ws σ H Q
theorem wipe_set {σ : Sg} {i : Nat} {o : Option V} : ∀ {vs : List Nat}, i ∈ vs → L2.wipe (σ.set i o) vs = L2.wipe σ vs
  | [], h => by cases h
  | v :: vs, h => by
    show (L2.wipe (σ.set i o) vs).set v none = (L2.wipe σ vs).set v none
    by_cases hm : i ∈ vs
    · rw [wipe_set hm]
    · have e : i = v := by
        rcases List.mem_cons.mp h with h | h
        · exact h
        · exact absurd h hm
      subst e
      have out : ∀ (ws : List Nat), i ∉ ws → L2.wipe (σ.set i o) ws = (L2.wipe σ ws).set i o := by
        intro ws
        induction ws with
        | nil => intro _; rfl
        | cons w ws ih =>
          intro hn
          have h1 : i ≠ w := fun z => hn (by rw [z]; exact List.mem_cons_self)
          have h2 : i ∉ ws := fun z => hn (List.mem_cons_of_mem _ z)
          show (L2.wipe (σ.set i o) ws).set w none = ((L2.wipe σ ws).set w none).set i o
          rw [ih h2, List.set_comm _ _ h1]
      rw [out vs hm, List.set_set]
theorem wipe_idem {σ : Sg} {vs : List Nat} : L2.wipe (L2.wipe σ vs) vs = L2.wipe σ vs := by
  have : ∀ ws : List Nat, (∀ i ∈ ws, i ∈ vs) → L2.wipe (L2.wipe σ ws) vs = L2.wipe σ vs := by
    intro ws
    induction ws with
    | nil => intro _; rfl
    | cons w ws ih =>
      intro h
      show L2.wipe ((L2.wipe σ ws).set w none) vs = _
      rw [wipe_set (h w List.mem_cons_self), ih fun i hi => h i (List.mem_cons_of_mem _ hi)]
  exact this vs fun _ h => h
theorem tgc_name {i : Nat} {vs : List Nat} (hv : i ∈ vs) : TGc vs (tName i) := by
  refine ⟨fun d env env' pa a h z => ?_, fun d env env' pa a n h z => ?_, fun d env env' n h => ?_⟩
  · cases h
    exact ow_set_val z
  · cases h
    obtain ⟨j, ds, h1, h2⟩ := z
    refine ⟨j, ds, ?_, h2⟩
    have ne : i ≠ j := fun e => by subst e; exact n i hv ds h1
    rw [List.getElem?_set_ne ne]
    exact h1
  · cases h
    intro j hj ds z
    rcases set_some z with ⟨_, q, _⟩ | ⟨_, q⟩
    · cases q
    · exact n j hj ds q
theorem gc_name {i : Nat} {vs : List Nat} (hN : X.N.Nodup) (hi : X.N[i]? = some x) (hx : Loc X.env.scope x) (hv : i ∈ vs := by decide) (hf : X.fn x = true ∨ X.env.scope.names.lookup x = some .local := by first | exact .inl rfl | exact .inr rfl | assumption) : PGc X vs (.Name x pos) (tName i) := by
  refine ⟨tgc_name hv, _, pg_name hN hi hx hf, fun H0 M env σ H pa v d env' Q E hv' h q => ?_⟩
  cases h
  exact q _ H (Same.refl H) (wipe_set hv) (E.setVal hv')
theorem gsc_nil {vs : List Nat} : PGsc X vs [] [] := by
  refine ⟨⟨fun ds env env' pa a h z => ?_, fun ds env env' pa a n h z => ?_, fun ds env env' n h => ?_⟩, _, pgs_nil, fun H0 M env σ H pa ws ds env' Q E hv h q => ?_⟩
  · cases ds with
    | nil => cases h; exact z
    | cons _ _ => cases h
  · cases ds with
    | nil => cases h; exact z
    | cons _ _ => cases h
  · cases ds with
    | nil => cases h; exact n
    | cons _ _ => cases h
  · cases hv with
    | nil => cases h; exact ⟨rfl, q _ _ (Same.refl H) rfl E⟩
    | cons _ _ => cases h
theorem gsc_cons {vs : List Nat} {es : List Expr} {t : GT} {ts : List GT} (h1 : PGc X vs e t) (h2 : PGsc X vs es ts) (hs : (assignEach (e :: es) X.env).map (·.2) = assign e X.env :: (assignEach es X.env).map (·.2) := by rfl) : PGsc X vs (e :: es) (t :: ts) := by
  obtain ⟨T1, g, hg, hh⟩ := h1
  obtain ⟨T2, u, hu, hh'⟩ := h2
  refine ⟨⟨fun ds env env' pa a h z => ?_, fun ds env env' pa a n h z => ?_, fun ds env env' n h => ?_⟩, _, pgs_cons hg hu hs, fun H0 M env σ H pa ws ds env' Q E hv h q => ?_⟩
  · cases ds with
    | nil => cases h
    | cons d ds =>
      obtain ⟨env1, h1, h2⟩ := bind1 h
      exact T1.fw _ _ _ _ _ h1 (T2.fw _ _ _ _ _ h2 z)
  · cases ds with
    | nil => cases h
    | cons d ds =>
      obtain ⟨env1, h1, h2⟩ := bind1 h
      exact T2.bw _ _ _ _ _ (T1.no _ _ _ n h1) h2 (T1.bw _ _ _ _ _ n h1 z)
  · cases ds with
    | nil => cases h
    | cons d ds =>
      obtain ⟨env1, h1, h2⟩ := bind1 h
      exact T2.no _ _ _ (T1.no _ _ _ n h1) h2
  · cases hv with
    | nil => cases h
    | cons hv1 hv2 =>
      obtain ⟨env1, h1, h2⟩ := bind1 h
      refine ⟨_, _, rfl, hh H0 M env σ H pa _ _ env1 _ E hv1 h1 fun σ' H' s w E' => ?_⟩
      refine hh' H0 M env1 σ' H' pa _ _ env' Q E' (DpAll_mono (vw_same s fun a o _ z => ?_) _ _ hv2) h2 fun σ'' H'' s' w' => q σ'' H'' (s.trans s') (w'.trans w)
      rcases z with z | z
      · exact .inl z
      · exact .inr (T1.fw _ _ _ _ _ h1 z)
theorem tup2_len : ∀ (ts : List GT) (ds : List D) (env env' : Env), tTup2 ts ds env = some env' → ds.length = ts.length
  | [], [], _, _, _ => rfl
  | [], _ :: _, _, _, h => by cases h
  | _ :: _, [], _, _, h => by cases h
  | t :: ts, d :: ds, env, env', h => by
    obtain ⟨env1, _, h2⟩ := bind1 (show (t d env).bind (fun e => tTup2 ts ds e) = some env' from h)
    rw [List.length_cons, List.length_cons, tup2_len ts ds env1 env' h2]
theorem gc_tup {vs : List Nat} {es : List Expr} {k : Nat} {ts : List GT} (hc : X.calm = true) (h : PGsc X vs es ts) (hl : ts.length = es.length := by rfl) (hn : (assignEach es X.env).length = es.length := by rfl) (hst : (assignEach es X.env).findIdx? (·.1) = none := by rfl) : PGc X vs (.Tuple es k pos) (tTuple ts) := by
  obtain ⟨T, g, hg, hh⟩ := h
  refine ⟨⟨fun d env env' pa a h z => ?_, fun d env env' pa a n h z => ?_, fun d env env' n h => ?_⟩, _, pg_tup (n := es.length) hc hg hn hst, fun H0 M env σ H pa v d env' Q E hv h q => ?_⟩
  · cases d with
    | tuple ds => exact T.fw ds env env' pa a h z
    | _ => cases h
  · cases d with
    | tuple ds => exact T.bw ds env env' pa a n h z
    | _ => cases h
  · cases d with
    | tuple ds => exact T.no ds env env' n h
    | _ => cases h
  · cases hv with
    | tup hs ha =>
      have h : tTup2 ts _ env = some env' := h
      exact ⟨_, _, rfl, seqT vw_le hs, by rw [DpAll_len ha, tup2_len _ _ _ _ h, hl], hh H0 M env σ H pa _ _ env' Q E ha h q⟩
    | _ => cases h
def gOf (K : PySem.W.Frag) (vs : List Nat) (t : GT) : TG := fun v σ H Q => ∃ (H0 : Hp) (M : Addr → Prop) (env : Env) (pa : Nat → Addr) (d : D) (env' : Env), EO K H0 M env σ H pa ∧ Dp K (vw (Hd M env pa) H) v d ∧ t d env = some env' ∧
  (∀ σ' H', Same H H' → L2.wipe σ' vs = L2.wipe σ vs → EO K H0 M env' σ' H' pa → Q σ' H')
theorem PGc.can {vs : List Nat} {t : GT} (h : PGc X vs tg t) : PG X tg (gOf X.K vs t) := by
  obtain ⟨_, g, hg, hh⟩ := h
  exact ⟨fun pins s σ H v u Q I r ⟨H0, M, env, pa, d, env', E, hd, h, q⟩ => hg.run pins s σ H v u Q I r (hh H0 M env σ H pa v d env' Q E hd h q)⟩
/-- the context of a comprehension's block -/
abbrev BX (X : Cx) (scope : Scope) (s : Shared) (H : Hp) (C : Addr) (cl : List (Str × Addr)) (fp : List Addr) : Cx := X.blk s H scope (compEnvC scope cl C X.env) fp
theorem comp_run {vs : List Nat} {gi : GA} {wi : TI} {t : GT} {gc : GB} {ge : GE} (T : TGc vs t)
    (hhi : ∀ (H0 : Hp) (M : Addr → Prop) (env : Env) (σ : Sg) (H : Hp) (pa : Nat → Addr) (ds : List D) (R : It → Hp → Prop), EO X.K H0 M env σ H pa → gi env = some ds → (∀ J H', Same H H' → Wk X.K (vw (Vs false M env pa) H') J ds → R J H') → wi σ H R)
    (H0 : Hp) (M : Addr → Prop) (env : Env) (σ : Sg) (H : Hp) (pa : Nat → Addr) (d : D) (Q : VK) (E : EO X.K H0 M env σ H pa) (h : gComp vs gi t gc ge env = some d)
    (q : ∀ p ws ds H', Same H H' → H p = none → H' p = some (.lst ws) → d = .list ds → DpAll X.K (vw (fun a => Hd M env pa a ∨ a = p) H') ws ds → Q (.ref p) H') : tLc wi (gOf X.K vs t) (uOf X.K gc) (tOf X.K false ge) vs σ H Q := by
  obtain ⟨ds, h1, h2⟩ := bind1 h
  have h2 : (if (noOwB env vs && decide (ds.length < lim)) = true then (compG t gc ge (wipeE env vs) ds).bind fun r => some (PyData.list r) else none) = some d := h2
  split at h2
  case isFalse => cases h2
  rename_i hcond
  have hcond := Bool.and_eq_true_iff.mp hcond
  have hno := noOw_of hcond.1
  have hlim := of_decide_eq_true hcond.2
  obtain ⟨r, h3, h4⟩ := bind1 h2
  cases h4
  refine hhi H0 M env σ H pa ds _ E h1 fun J H1 s1 w L hL => ?_
  have E1 := E.up s1
  have Eo := ow_hidden E1
  -- the state ahead of each turn
  refine ⟨fun i m H2 => ∃ acc done, H2 L = some (.lst acc) ∧ Same H1 H2 ∧ DpAll X.K (vw (fun a => Hd M env pa a ∨ a = L) H2) acc done ∧ done.length ≤ i ∧ m = ds.length - i ∧ i ≤ ds.length ∧ ∃ r2, compG t gc ge (wipeE env vs) (ds.drop i) = some r2 ∧ done ++ r2 = r,
    ⟨ds.length, [], [], upd_same, same_upd hL, .nil, Nat.zero_le _, by simp, Nat.zero_le _, r, h3, rfl⟩, ?_⟩
  rintro i m H2 ⟨acc, done, hacc, sm2, hall, hdl, rfl, hi, r2, h5, h6⟩
  have to2 : Same (vw (Hd M env pa) H1) H2 := vw_le.trans sm2
  by_cases hlt : i < ds.length
  · have hd : ds[i]? = some ds[i] := List.getElem?_eq_getElem hlt
    obtain ⟨go, yl⟩ := w.go i ds[i] H2 to2 hd
    have hdr : ds.drop i = ds[i] :: ds.drop (i + 1) := List.drop_eq_getElem_cons hlt
    rw [hdr] at h5
    obtain ⟨env3, h7, h8⟩ := bind1 (show (t ds[i] (wipeE env vs)).bind _ = some r2 from h5)
    obtain ⟨k, h9, h10⟩ := bind1 h8
    refine .inr ⟨go, fun H' => ∃ acc done, H' L = some (.lst acc) ∧ Same H1 H' ∧ DpAll X.K (vw (fun a => Hd M env pa a ∨ a = L) H') acc done ∧ done.length ≤ i + 1 ∧ ∃ r2, compG t gc ge (wipeE env vs) (ds.drop (i + 1)) = some r2 ∧ done ++ r2 = r,
      fun H' ⟨acc, done, a1, a2, a3, a4, a5⟩ => ⟨ds.length - (i + 1), by omega, acc, done, a1, a2, a3, a4, rfl, hlt, a5⟩, fun x H3 hy => ?_⟩
    obtain ⟨s3, dx⟩ := yl x H3 hy
    -- the block's own world: the list that grows is hidden
    have EB : EO X.K (vw (Ow env pa) H1) (fun a => M a ∨ a = L) env σ H2 pa := by
      have ms : Same (vw (Hd M env pa) H1) (vw (Hd (fun a => M a ∨ a = L) env pa) H2) := fun a o ho => by
        obtain ⟨z1, z2⟩ := vw_some ho
        refine vw_of (fun z => ?_) (sm2 a o z2)
        rcases z with (z | rfl) | z
        · exact z1 (.inl z)
        · rw [hL] at z2; cases z2
        · exact z1 (.inr z)
      refine ⟨vw_le.trans sm2, fun a ha z => ?_, E1.len, fun j e hj => ?_, fun j es hj => ?_, E1.inj⟩
      · rcases ha with ha | rfl
        · exact E1.hid a ha (sm2.free z)
        · rw [hacc] at z; cases z
      · obtain ⟨v, g1, g2⟩ := E1.val j e hj
        exact ⟨v, g1, Dp_mono ms _ _ g2⟩
      · obtain ⟨g1, g2, ws, g3, g4⟩ := E1.own j es hj
        obtain ⟨_, g5, _⟩ := Eo.own j es hj
        refine ⟨g1, ⟨g5.1, fun z => ?_⟩, ws, sm2 _ _ g3, DpAll_mono ms _ _ g4⟩
        rcases z with z | z
        · exact g2.2 z
        · rw [z, hL] at g3; cases g3
    have EW := EO.wipe EB vs
    have dx := dx (Hd (fun a => M a ∨ a = L) (wipeE env vs) pa) (fun p hp => EW.hidden hp) (fun a o ho => by
      obtain ⟨z1, z2⟩ := vw_some ho
      refine vw_of (fun z => ?_) (sm2 a o z2)
      rcases z with (z | rfl) | z
      · exact z1 (.inl z)
      · rw [hL] at z2; cases z2
      · exact z1 (.inr (ow_wipe z)))
    refine ⟨_, _, _, pa, ds[i], env3, EW.up s3, dx, h7, fun σ4 H4 s4 w4 E4 => ⟨w4.trans wipe_idem, _, _, _, pa, k, E4, h9, fun H5 s5 => ?_⟩⟩
    have E5 := E4.up s5
    cases k with
    | false =>
      rw [if_neg (by decide)] at h10
      refine iteF ?_
      have s25 : Same H2 H5 := (s3.trans s4).trans s5
      refine ⟨acc, done, s25 _ _ hacc, sm2.trans s25, DpAll_mono (vw_up s25) _ _ hall, by omega, r2, h10, h6⟩
    | true =>
      rw [if_pos rfl] at h10
      refine iteT ?_
      obtain ⟨y, h11, h12⟩ := bind1 h10
      obtain ⟨r3, h13, h14⟩ := bind1 h12
      cases h14
      refine ⟨_, _, _, pa, y, E5, h11, fun v H6 s6 hv => ?_⟩
      have s26 : Same H2 H6 := ((s3.trans s4).trans s5).trans s6
      refine ⟨acc, s26 _ _ hacc, by rw [DpAll_len hall, ← lim_eq]; omega, acc ++ [v], done ++ [y], upd_same, fun a o ho => ?_, DpAll_app (DpAll_mono (fun a o ho => ?_) _ _ hall) (.cons (Dp_mono (fun a o ho => ?_) _ _ hv) .nil), by rw [List.length_append, List.length_singleton]; omega, r3, h13, by rw [List.append_assoc]; exact h6⟩
      · have na : a ≠ L := ne_of_none ho hL
        rw [upd_ne na]
        exact s26 a o (sm2 a o ho)
      · obtain ⟨z1, z2⟩ := vw_some ho
        have na : a ≠ L := fun z => z1 (.inr z)
        exact vw_of z1 (by rw [upd_ne na]; exact s26 a o z2)
      · obtain ⟨z1, z2⟩ := vw_some ho
        have na : a ≠ L := fun z => z1 (.inl (.inr z))
        refine vw_of (fun z => ?_) (by rw [upd_ne na]; exact z2)
        rcases z with (z | z) | z
        · exact z1 (.inl (.inl z))
        · exact z1 (.inr (T.bw _ _ _ _ _ noOw_wipe h7 (ow_wipe2 hno z)))
        · exact na z
  · have e : i = ds.length := by omega
    subst e
    refine .inl ⟨w.stop H2 to2, ?_⟩
    rw [List.drop_length] at h5
    cases h5
    rw [List.append_nil] at h6
    subst h6
    exact q L acc done H2 (s1.trans sm2) (s1.free hL) hacc rfl hall
variable {ifs : List Expr} {scope : Scope} {own : List (Str × Nat)} {gi : GA} {t : GT} {gc : GB} {ge : GE}
theorem pd_lc (hc : X.calm = true) (hN : X.N.Nodup) (hi : PId X tg iter false gi) (ok : BlkOk X.N X.env.scope scope own)
    (hg : ∀ (s : Shared) (H : Hp) (C : Addr) (cl : List (Str × Addr)) (fp : List Addr), PGc (BX X scope s H C cl fp) (own.map (·.2)) tg t) (ht : ∀ (s : Shared) (H : Hp) (C : Addr) (cl : List (Str × Addr)) (fp : List Addr), PTsd (BX X scope s H C cl fp) ifs gc)
    (he : ∀ (s : Shared) (H : Hp) (C : Addr) (cl : List (Str × Addr)) (fp : List Addr), PEd (BX X scope s H C cl fp) false elt ge) (hT : TGc (own.map (·.2)) t) (hs : ∀ x, foldedSetIterable iter X.env x = pure x := by intro _; rfl) :
    PEd X b (.ListComp elt [⟨tg, iter, ifs, 0⟩] scope pos) (gComp (own.map (·.2)) gi t gc ge) := by
  obtain ⟨wi, hwi, hhi⟩ := hi
  refine ⟨_, pe_lc (g := gOf X.K (own.map (·.2)) t) (tt := uOf X.K gc) (te := tOf X.K false ge) hc hN hwi ok (fun s H C cl fp => (hg s H C cl fp).can) (fun s H C cl fp => ht s H C cl fp) (fun s H C cl fp => (he s H C cl fp).can) hs, fun H0 M env σ H pa d Q E h q => ?_⟩
  refine comp_run hT hhi H0 M env σ H pa d Q E h fun p ws ds H' s hp hpl hd hall => ?_
  subst hd
  have np : ¬ Hd M env pa p := fun z => E.hidden z hp
  have np' : ¬ Vs b M env pa p := by
    cases b with
    | true => exact fun z => np (.inl z)
    | false => exact np
  refine q _ H' s (.lst (.inl (.inl (vw_of np' hpl))) (DpAll_mono (vw_same (Same.refl _) fun a _ _ z => ?_) _ _ hall))
  cases b with
  | true => exact .inl (.inl z)
  | false => exact .inl z
theorem sd_setLc {i : Nat} {y : Str} {py spos : Pos} (hc : X.calm = true) (hN : X.N.Nodup) (hy : X.N[i]? = some y) (hyl : X.env.scope.names.lookup y = some .local) (hsw : swapsWith (.ListComp elt [⟨tg, iter, ifs, 0⟩] scope pos) (some (.Name y py)) spos.line X.env = pure true) (hi : PId X tg iter false gi) (ok : BlkOk X.N X.env.scope scope own)
    (hg : ∀ (s : Shared) (H : Hp) (C : Addr) (cl : List (Str × Addr)) (fp : List Addr), PGc (BX X scope s H C cl fp) (own.map (·.2)) tg t) (ht : ∀ (s : Shared) (H : Hp) (C : Addr) (cl : List (Str × Addr)) (fp : List Addr), PTsd (BX X scope s H C cl fp) ifs gc)
    (he : ∀ (s : Shared) (H : Hp) (C : Addr) (cl : List (Str × Addr)) (fp : List Addr), PEd (BX X scope s H C cl fp) false elt ge) (hT : TGc (own.map (·.2)) t) (hs : ∀ x, foldedSetIterable iter X.env x = pure x := by intro _; rfl) :
    PSd X (.Assign [.Name y py] (.ListComp elt [⟨tg, iter, ifs, 0⟩] scope pos) spos) (sSet i (gComp (own.map (·.2)) gi t gc ge)) := by
  obtain ⟨wi, hwi, hhi⟩ := hi
  refine ⟨_, ps_setLc (g := gOf X.K (own.map (·.2)) t) (tt := uOf X.K gc) (te := tOf X.K false ge) hc hN hy hyl hsw hwi ok (fun s H C cl fp => (hg s H C cl fp).can) (fun s H C cl fp => ht s H C cl fp) (fun s H C cl fp => (he s H C cl fp).can) hs, fun H0 M env σ H pa o T E h q => ?_⟩
  obtain ⟨d, h1, h2⟩ := bind1 h
  cases h2
  refine comp_run hT hhi H0 M env σ H pa d _ E h1 fun p ws ds H' s hp hpl hd hall => ?_
  subst hd
  exact q _ H' pa ((E.up s).setVal (.lst (.inl (.inl (vw_of (fun z => E.hidden z hp) hpl))) (DpAll_mono (vw_same (Same.refl _) fun a _ _ z => .inl z) _ _ hall)))
def gListOf (a : GE) : GA := fun env => (a env).bind asLst
theorem EO.setOwn2 {K : PySem.W.Frag} {H0 H H' : Hp} {M : Addr → Prop} {env : Env} {σ : Sg} {pa : Nat → Addr} {i : Nat} {p : Addr} {ws : List V} {ds : List D} (E : EO K H0 M env σ H pa) (s : Same H H') (hp : H p = none) (hpl : H' p = some (.lst ws)) (hall : DpAll K (vw (fun a => Hd M env pa a ∨ a = p) H') ws ds) :
    EO K H0 M (env.set i (.own ds)) (σ.set i (some (.ref p))) H' (fun j => if j = i then p else pa j) := by
  have e : upd (fun a => if a = p then none else H' a) p (.lst ws) = H' := by
    funext a
    by_cases z : a = p
    · subst z; rw [upd_same, hpl]
    · rw [upd_ne z, if_neg z]
  have sm : Same H (fun a => if a = p then none else H' a) := fun a o ho => by
    have na : a ≠ p := ne_of_none ho hp
    show (if a = p then none else H' a) = some o
    rw [if_neg na]
    exact s a o ho
  have := EO.setOwn (i := i) (p := p) (vs := ws) (ds := ds) (E.up sm) (by simp) (DpAll_mono (fun a o ho => ?_) _ _ hall)
  · rw [e] at this
    exact this
  · obtain ⟨z1, z2⟩ := vw_some ho
    refine vw_of (fun z => z1 (.inl z)) ?_
    show (if a = p then none else H' a) = some o
    rw [if_neg fun z => z1 (.inr z)]
    exact z2
theorem sd_ownLc {i : Nat} {y : Str} {py spos : Pos} (hc : X.calm = true) (hN : X.N.Nodup) (hy : X.N[i]? = some y) (hyl : X.env.scope.names.lookup y = some .local) (hsw : swapsWith (.ListComp elt [⟨tg, iter, ifs, 0⟩] scope pos) (some (.Name y py)) spos.line X.env = pure true) (hi : PId X tg iter false gi) (ok : BlkOk X.N X.env.scope scope own)
    (hg : ∀ (s : Shared) (H : Hp) (C : Addr) (cl : List (Str × Addr)) (fp : List Addr), PGc (BX X scope s H C cl fp) (own.map (·.2)) tg t) (ht : ∀ (s : Shared) (H : Hp) (C : Addr) (cl : List (Str × Addr)) (fp : List Addr), PTsd (BX X scope s H C cl fp) ifs gc)
    (he : ∀ (s : Shared) (H : Hp) (C : Addr) (cl : List (Str × Addr)) (fp : List Addr), PEd (BX X scope s H C cl fp) false elt ge) (hT : TGc (own.map (·.2)) t) (hs : ∀ x, foldedSetIterable iter X.env x = pure x := by intro _; rfl) :
    PSd X (.Assign [.Name y py] (.ListComp elt [⟨tg, iter, ifs, 0⟩] scope pos) spos) (sOwn i (gListOf (gComp (own.map (·.2)) gi t gc ge))) := by
  obtain ⟨wi, hwi, hhi⟩ := hi
  refine ⟨_, ps_setLc (g := gOf X.K (own.map (·.2)) t) (tt := uOf X.K gc) (te := tOf X.K false ge) hc hN hy hyl hsw hwi ok (fun s H C cl fp => (hg s H C cl fp).can) (fun s H C cl fp => ht s H C cl fp) (fun s H C cl fp => (he s H C cl fp).can) hs, fun H0 M env σ H pa o T E h q => ?_⟩
  obtain ⟨ds, h0, h2⟩ := bind1 h
  cases h2
  obtain ⟨d, h1, h3⟩ := bind1 h0
  refine comp_run hT hhi H0 M env σ H pa d _ E h1 fun p ws ds' H' s hp hpl hd hall => ?_
  subst hd
  cases h3
  exact q _ H' _ (E.setOwn2 s hp hpl hall)
end
end Dn

namespace Dn
open PySem PySem.Spec PyProof.Rows L2

/-! ### 9. the law's call -/
/-- the abstract heap ahead of the law's call: the script alone -/
def onlyAt (a : Addr) (vs : List Value) (ns : List Int) : Hp := fun b => if b = a then some (.frz { cls := .type "list", data := .seq vs.toArray } (.lst (ns.map V.int))) else none
theorem law_g {P : Program} {w : World} {K : PySem.W.Frag} {mg mb : Str → Option Value} {k : Nat} {fa a : Addr} {F : List D → Option D} {s₁ : Shared} {vs : List Value} {ns : List Int}
    (KX : K.In s₁.heap) (hns : s₁.heap.Ns mainGlobals mg) (hb : s₁.heap.Ns builtinsNs mb) (hbb : ∀ x : Str, x ≠ "__name__" → mb x = bootBuiltins x) (hlim : s₁.heap.NoLimit) (hg : s₁.gens = #[])
    (ha : s₁.heap.get? a = some { cls := .type "list", data := .seq vs.toArray }) (hi : IntsAre vs ns) (hl : ns.length ≤ sizeLine) (hr : Room k callerA) (hmg : mg "law" = some (.ref fa))
    (O : ∀ base : Heap, K.In base → base.Ns mainGlobals mg → Ok P w K mg base "law" k 1 F) (hF : F [.list (ns.map PyData.int)] = some (.bool true)) :
    codeAny (model P w) callerA (.call (.ref fa) ⟨[.ref a], []⟩) (fun r s' => r = .ok (.ret (.bool true)) ∧ OldK s₁.heap s'.heap ∧ s'.os = s₁.os ∧ AllBare s'.gens) s₁ := by
  have rv : Vals (ns.map V.int) vs := vals_ints hi
  have lenV := hi.length
  -- the script is the module's own, or it is tracked as it stands
  obtain ⟨H, hH, hS, hok, hKn⟩ : ∃ H : Hp, (∀ b u, H b = some u → b = a ∧ ∃ o, u = .frz o (.lst (ns.map V.int))) ∧ SqL K H a (ns.map V.int) ∧ HOk P w H s₁.heap ∧ (H a ≠ none → K.lookup a = none) := by
    cases hk : K.lookup a with
    | some o =>
      have e := KX a o hk
      rw [ha] at e
      cases e
      exact ⟨fun _ => none, fun b u z => (nomatch z), .inr ⟨_, vs.toArray, _, hk, rfl, rfl, rfl, by rw [List.size_toArray, lenV]; exact hl, by simpa using rv⟩, fun b u z => (nomatch z), fun z => absurd rfl z⟩
    | none =>
      refine ⟨onlyAt a vs ns, fun b u z => ?_, .inl (.inr ⟨_, if_pos rfl⟩), fun b u z => ?_, fun _ => rfl⟩
      · unfold onlyAt at z
        split at z
        · cases z; exact ⟨by assumption, _, rfl⟩
        · cases z
      · unfold onlyAt at z
        split at z
        · rename_i e
          cases z
          subst e
          exact ⟨ha, by rw [List.length_map]; exact hl, vs, _, rv, ha⟩
        · cases z
  have outA : ∀ {b : Addr} {o : Obj}, s₁.heap.get? b = some o → (H b ≠ none → o.data = .seq vs.toArray 0) := fun {b o} e z => by
    cases q : H b with
    | none => exact absurd q z
    | some u =>
      obtain ⟨rfl, _⟩ := hH b u q
      rw [ha] at e
      cases e
      rfl
  have noD : ∀ {b : Addr} {o : Obj} {es : Array DictEntry} {ep : Nat}, s₁.heap.get? b = some o → o.data = .dict es ep → H b = none := fun {b o es ep} e d => by
    cases q : H b with
    | none => rfl
    | some u =>
      have := outA e (by rw [q]; simp)
      rw [d] at this
      cases this
  have nsK : ∀ {b : Addr} {m : Str → Option Value}, s₁.heap.Ns b m → (hidT s₁.heap H).Ns b m := fun {b m} ⟨o, es, ep, e, d, r⟩ => ⟨o, es, ep, hidT_get e (noD e d), d, r⟩
  have hKb : K.In (hidT s₁.heap H) := fun b o e => hidT_get (KX b o e) (by
    cases q : H b with
    | none => rfl
    | some u =>
      obtain ⟨rfl, _⟩ := hH b u q
      rw [hKn (by rw [q]; simp)] at e
      cases e)
  have hM : Mod K mg (hidT s₁.heap H) := ⟨hKb, nsK hns, ⟨mb, nsK hb, hbb⟩, hlim.elim fun mc z => ⟨mc, nsK z.1, z.2⟩⟩
  have e0 : Env0 P w K mg (hidT s₁.heap H) callerA [] s₁ H := ⟨rfl, hM, fun b o e => of_hidT e, Nat.le_of_eq (hidT_size _ _), trivial, fun b hb => absurd (show b ∈ ([] : List Addr) from hb) (by simp), hok, .of_eq hg⟩
  obtain ⟨f, fd, ps, hm, hk, hB, G⟩ := O _ hKb (nsK hns)
  rw [hmg] at hm
  cases hm
  have sp : SpD K 1 F [.ref a] H (fun v _ => v = .bl true) E0 := ⟨[.list (ns.map PyData.int)], .bool true, fun _ => False, .cons (.lst (by
    rcases hS with (z | ⟨o, z⟩) | z
    · exact .inl (.inl (vw_of id z))
    · exact .inl (.inr ⟨o, vw_of id z⟩)
    · exact .inr z) (DpAll_ints ns)) .nil, hF, rfl, fun p z => z.elim, fun v H' _ hv => Dp_bool hv⟩
  have lp : ([] ++ [Value.ref a]).length = ps.length := by
    have := G.len _ _ _ _ sp
    simpa using this
  have hBB : BindsTo s₁ fd ⟨[.ref a], []⟩ (ps.zip [.ref a]) := by
    have := hB s₁ [.ref a] KX (by simpa using lp)
    simpa using this
  refine codeAny_mono (G.run callerA [] s₁ H ⟨[.ref a], []⟩ [.ref a] [.ref a] _ hr rfl e0 hBB (.cons rfl .nil) sp) fun r s' h => ?_
  cases r with
  | error e => exact h.elim
  | ok fl => cases fl with
    | ret u =>
      obtain ⟨v, H', os, bare, un, hok', r', q⟩ := h
      have q' : v = .bl true := q
      subst q'
      obtain rfl : u = Value.bool true := r'
      refine ⟨rfl, OldK.of_keep fun b o e => ?_, os, bare⟩
      cases q : H b with
      | none => exact un.keep b o e q (fun z => absurd (show b ∈ ([] : List Addr) from z) (by simp)) (by simp)
      | some u =>
        obtain ⟨rfl, ob, rfl⟩ := hH b u q
        have z2 := un.frzs b ob _ q
        obtain ⟨e1, _⟩ := hok b _ q
        obtain ⟨e2, _⟩ := hok' b _ z2
        rw [e] at e1
        cases e1
        exact e2
    | _ => exact False.elim h
/-- the goal behind the head -/
theorem walk_g {l : PySem.W.OpenLaw} {n k : Nat} {q : Program} {loose : List Str} {XP : (Str → Option Value) → Heap → Prop} {YP : World → Heap → Prop} {d : DefRec} {K : Params → PySem.W.Frag} {F : List D → Option D}
    (hn : l.most = some n) (hn2 : n ≤ sizeLine) (hdf : d.params.defaults = []) (hname : d.name = "law") (hr : Room k callerA)
    (hY : ∀ (w : World) (h : Heap), YP w h → (K w.params).In h)
    (O : ∀ (w : World) (mg : Str → Option Value) (h : Heap), (K w.params).In h → h.Ns mainGlobals mg → ∀ base : Heap, (K w.params).In base → base.Ns mainGlobals mg → Ok l.prog w (K w.params) mg base "law" k 1 F)
    (hF : ∀ ns : List Int, ns.length ≤ n → F [.list (ns.map PyData.int)] = some (.bool true)) :
    PySem.W.WalkO q loose XP YP l.row.toRowW d [] (fun f vs => PySem.call f vs) := by
  refine Att.attach_call hn hdf fun w s₀ s₁ mg mb fa o pm cd doc a vs ns G Y ho hd hcd hmg hobj hints hlen hg => ?_
  have KX := hY w _ Y
  rw [hname] at hmg
  exact law_g KX G.T.g G.T.b G.T.builtins G.T.nolimit hg hobj hints (Nat.le_trans hlen hn2) hr hmg (O w mg _ KX G.T.g) (hF ns hlen)
end Dn

namespace Dn
open PySem PySem.Spec PyProof.Rows L2

/-! ### 10. in short -/
theorem hu64 {k : Nat} {A : Around} (r : Room k A) : A.units + 64 < cLine := by have := r.un; omega
theorem hu65 {k : Nat} {A : Around} (r : Room k A) : A.units + 65 < cLine := by have := r.un; omega
theorem hu200 {k : Nat} {A : Around} (r : Room k A) : A.units + 200 < cLine := by have := r.un; omega
section
variable {X : Cx} {b : Bool} {x : Str} {pos p : Pos}
theorem pdv (i : Nat) (hN : X.N[i]? = some x := by rfl) (hv : Vis X.env.scope x := by first | exact Or.inl rfl | exact Or.inr (Or.inl rfl) | exact Or.inr (Or.inr rfl)) (hd : (x == ("__debug__" : Str)) = false := by decide)
    (hcd : (x == ("__classdict__" : Str)) = false := by decide) : PEd X b (.Name x pos) (gVar i) := pd_var hN hv hd hcd
theorem pdw (i : Nat) (hN : X.N[i]? = some x := by rfl) (hv : Vis X.env.scope x := by first | exact Or.inl rfl | exact Or.inr (Or.inl rfl) | exact Or.inr (Or.inr rfl)) (hd : (x == ("__debug__" : Str)) = false := by decide)
    (hcd : (x == ("__classdict__" : Str)) = false := by decide) : PEd X true (.Name x pos) (gVarB i) := pd_varB hN hv hd hcd
theorem op_subA : OpR X (binaryOp .Sub) (fun x y H Q => rI0 (fun i j => .int (i - j)) x y H Q ∨ ∃ i j, x = .bl i ∧ y = .bl j ∧ Q (.int (b2i i - b2i j)) H) := by
  refine op_sub.or ?_
  intro pins s σ H x y v u Q I rx ry h
  obtain ⟨i, j, rfl, rfl, q⟩ := h
  cases rx
  cases ry
  exact PyProof.Rows.sub_bool ⟨.int _, H, I.tok _, ⟨_, rfl⟩, q⟩
end
theorem b2z_eq (b : Bool) : b2z b = b2i b := by cases b <;> rfl
theorem od_sub {K : PySem.W.Frag} : OpD K (fun x y H Q => rI0 (fun i j => .int (i - j)) x y H Q ∨ ∃ i j, x = .bl i ∧ y = .bl j ∧ Q (.int (b2i i - b2i j)) H) vSub := by
  intro P H x y d e z Q nf hx hy h q
  cases d with
  | int i =>
    cases e with
    | int j => cases h; exact .inl ⟨i, j, Dp_int hx, Dp_int hy, q _ H (Same.refl H) (.int _)⟩
    | _ => cases h
  | bool i =>
    cases e with
    | bool j =>
      cases h
      refine .inr ⟨i, j, Dp_bool hx, Dp_bool hy, q _ H (Same.refl H) ?_⟩
      rw [b2z_eq, b2z_eq]
      exact .int _
    | _ => cases h
  | _ => cases h
theorem od_iadd2 {K : PySem.W.Frag} : OpD K (rI0 fun i j => .int (i + j)) vIAdd := by
  intro P H x y d e z Q nf hx hy h q
  cases d with
  | int i =>
    cases e with
    | int j => cases h; exact ⟨i, j, Dp_int hx, Dp_int hy, q _ H (Same.refl H) (.int _)⟩
    | _ => cases h
  | _ => cases h
theorem sd_never {X : Cx} {st : Stmt} : PSd X st (fun _ => none) := ⟨_, ps_never, fun _ _ _ _ _ _ _ _ _ h _ => by cases h⟩
/-- a constant of the module -/
def Gc (K : PySem.W.Frag) (mg : Str → Option Value) (name : Str) (d : D) : Prop := ∃ u v, mg name = some u ∧ RelV v u ∧ ∀ H, Dp K H v d
theorem pd_gc {X : Cx} {b : Bool} {x : Str} {d : D} {pos : Pos} (g : Gc X.K X.mg x d) (hg : Gl X x := by rfl) (hdb : (x == ("__debug__" : Str)) = false := by decide) : PEd X b (.Name x pos) (gC d) := by
  obtain ⟨u, v, h1, h2, h3⟩ := g
  exact pd_glob hg h1 h2 h3 hdb
/-- values of the written part as data -/
def dOf : Value → Option D
  | .none => some .none
  | .bool b => some (.bool b)
  | .int i _ => some (.int i)
  | .str x _ => some (.str x)
  | _ => none
def dsOf : List Value → Option (List D)
  | [] => some []
  | v :: vs => (dOf v).bind fun d => (dsOf vs).bind fun ds => some (d :: ds)
theorem dp_of {K : PySem.W.Frag} {H : Hp} : ∀ {u : Value} {d : D}, dOf u = some d → ∃ v, RelV v u ∧ Dp K H v d := fun {u d} h => by
  cases u <;> cases h
  · exact ⟨.non, rfl, .non⟩
  · exact ⟨.bl _, rfl, .bl _⟩
  · exact ⟨.int _, ⟨_, rfl⟩, .int _⟩
  · exact ⟨.str _, ⟨_, rfl⟩, .str _⟩
theorem dps_of {K : PySem.W.Frag} {H : Hp} : ∀ {us : List Value} {ds : List D}, dsOf us = some ds → ∃ vs, Vals vs us ∧ DpAll K H vs ds
  | [], _, h => by cases h; exact ⟨[], .nil, .nil⟩
  | u :: us, ds, h => by
    obtain ⟨d, h1, h2⟩ := bind1 (show (dOf u).bind _ = some ds from h)
    obtain ⟨ds', h3, h4⟩ := bind1 h2
    cases h4
    obtain ⟨v, r, p⟩ := dp_of (K := K) (H := H) h1
    obtain ⟨vs, rs, ps⟩ := dps_of (K := K) (H := H) h3
    exact ⟨v :: vs, .cons r rs, .cons p ps⟩
/-- a tuple of flat things at the module's top -/
theorem gc_tup_mk {K : PySem.W.Frag} {h : Heap} {mg : Str → Option Value} {name : Str} {a : Addr} {dd : Option Addr} {us : List Value} {n : Nat} {sl : Array (Option Value)} {ds : List D} (X : K.In h) (G : h.Ns mainGlobals mg)
    (ha : PySem.W.nsIn K mainGlobals name = some (some (.ref a))) (l : K.lookup a = some ⟨.type "tuple", dd, .seq us.toArray n, sl⟩) (hd : dsOf us = some ds) (hz : us.length ≤ 1000 := by decide) : Gc K mg name (.tuple ds) := by
  refine ⟨.ref a, .ref a, PySem.W.mg_of X G ha, rfl, fun H => ?_⟩
  obtain ⟨vs, rs, ps⟩ := dps_of (K := K) (H := H) hd
  exact .tup (.inr ⟨_, us.toArray, n, l, rfl, rfl, by rw [List.size_toArray]; exact Nat.le_of_lt (small1000 hz), by simpa using rs⟩) ps
theorem df_mk {K : PySem.W.Frag} {h : Heap} {mg : Str → Option Value} {name : Str} {st : Stmt} {ps : List Str} {f : Addr} {oc : Value} {od an : Option Addr} {osl : Array (Option Value)} {kV doc pm cdv ct : Value} (X : K.In h) (G : h.Ns mainGlobals mg)
    (ha : PySem.W.nsIn K mainGlobals name = some (some (.ref f))) (l : K.lookup f = some ⟨oc, od, .func (PySem.W.fnOf name name (defArgs st) (defBody st) (defScope st) .none kV doc pm an cdv ct), osl⟩)
    (c : PySem.W.codeIn K cdv name = true) (k : PySem.W.keepIn K (.ref f) = true)
    (hb : ∀ (kV doc pm : Value) (an : Option Addr) (cdv ct : Value) (us : List Value), us.length = ps.length → bindArgs (PySem.W.fnOf name name (defArgs st) (defBody st) (defScope st) .none kV doc pm an cdv ct) ⟨us, []⟩ = pure (ps.zip us)) : Df K mg name st ps :=
  ⟨f, _, fun_mk l c k, PySem.W.mg_of X G ha, (fun_mk l c k).binds hb⟩
theorem ok_by {P : Program} {w : World} {K : PySem.W.Frag} {mg : Str → Option Value} {base : Heap} {name : Str} {st : Stmt} {k k' n m : Nat} {F : List D → Option D} (N ps : List Str) (g : GS) (T : Df K mg name st ps) (S : FnScope N ps (defScope st)) (hl : ps.length ≤ N.length) (hN : N.length = m) (hn : ps.length = n) (hk : k' = k + 1) (hF : runF m n g = F)
    (body : ∀ (f : Addr) (cdv : Value) (A : Around) (out : List PySem.Env) (s : Shared) (H : Hp), Room k (A.deeper (envOfC name (defScope st) s.heap.objs.size f cdv)) → (A.deeper (envOfC name (defScope st) s.heap.objs.size f cdv)).guards = some [] →
      PSsd (cxOf CX0 P w K mg base N name (defScope st) f cdv A out s H E0).nox (defBody st) g) : Ok P w K mg base name k' n F := by
  subst hN hn hk hF
  exact ok_of T S hl body
end Dn

namespace Dn
open PySem
/-! ### how the readings compute -/
theorem vAdd_int (a b : Int) : vAdd (.int a) (.int b) = some (.int (a + b)) := rfl
theorem vIAdd_int (a b : Int) : vIAdd (.int a) (.int b) = some (.int (a + b)) := rfl
theorem vSub_int (a b : Int) : vSub (.int a) (.int b) = some (.int (a - b)) := rfl
theorem vSub_bool (a b : Bool) : vSub (.bool a) (.bool b) = some (.int (b2z a - b2z b)) := rfl
theorem vNeg_int (a : Int) : vNeg (.int a) = some (.int (-a)) := rfl
theorem vLt_int (a b : Int) : vLt (.int a) (.int b) = some (.bool (decide (a < b))) := rfl
theorem vLe_int (a b : Int) : vLe (.int a) (.int b) = some (.bool (decide (a ≤ b))) := rfl
theorem vGt_int (a b : Int) : vGt (.int a) (.int b) = some (.bool (decide (b < a))) := rfl
theorem vGe_int (a b : Int) : vGe (.int a) (.int b) = some (.bool (decide (b ≤ a))) := rfl
theorem vEq_int (a b : Int) : vEq (.int a) (.int b) = some (.bool (decide (a = b))) := rfl
theorem vNe_int (a b : Int) : vNe (.int a) (.int b) = some (.bool (!decide (a = b))) := rfl
theorem vEq_str (a b : Str) : vEq (.str a) (.str b) = some (.bool (decide (a = b))) := rfl
theorem vNe_str (a b : Str) : vNe (.str a) (.str b) = some (.bool (!decide (a = b))) := rfl
theorem vIx_list (xs : List D) (i : Int) : vIx (.list xs) (.int i) = atD xs i := rfl
theorem vIx_tup (xs : List D) (i : Int) : vIx (.tuple xs) (.int i) = atD xs i := rfl
theorem vLen_list (xs : List D) : vLen (.list xs) = some (.int xs.length) := rfl
theorem vLen_tup (xs : List D) : vLen (.tuple xs) = some (.int xs.length) := rfl
theorem vAbs_int (a : Int) : vAbs (.int a) = some (.int (if a < 0 then -a else a)) := rfl
theorem vToI_int (a : Int) : vToI (.int a) = some (.int a) := rfl
theorem vToI_bool (a : Bool) : vToI (.bool a) = some (.int (b2z a)) := rfl
theorem vTruth_int (a : Int) : vTruth (.int a) = some (a != 0) := rfl
theorem vTruth_bool (a : Bool) : vTruth (.bool a) = some a := rfl
theorem vTruth_none  : vTruth .none = some false := rfl
theorem vTruth_list (xs : List D) : vTruth (.list xs) = some (!xs.isEmpty) := rfl
theorem vTruth_tup (xs : List D) : vTruth (.tuple xs) = some (!xs.isEmpty) := rfl
theorem asBool_bool (a : Bool) : asBool (.bool a) = some a := rfl
theorem vTup_l (xs : List D) : vTup xs = some (.tuple xs) := rfl
theorem vLst_l (xs : List D) : vLst xs = some (.list xs) := rfl
theorem vTuple_list (xs : List D) : vTuple (.list xs) = some (.tuple xs) := rfl
theorem vTuple_tup (xs : List D) : vTuple (.tuple xs) = some (.tuple xs) := rfl
theorem vList_list (xs : List D) : vList (.list xs) = some (.list xs) := rfl
theorem vList_tup (xs : List D) : vList (.tuple xs) = some (.list xs) := rfl
theorem vRev_list (xs : List D) : vRev (.list xs) = some (.list xs.reverse) := rfl
theorem l1_1 (f : D → Option D) (x : D) : l1 f [x] = f x := rfl
theorem l2_2 (f : D → D → Option D) (x y : D) : l2 f [x, y] = f x y := rfl
theorem look_val (d : D) : look (some (.val d)) = some d := rfl
theorem lookB_val (d : D) : lookB (some (.val d)) = some d := rfl
theorem lookB_own (ds : List D) : lookB (some (.own ds)) = some (.list ds) := rfl
theorem thenS_nx (b : GS) (e : Dn.Env) : thenS b (.nx e) = b e := rfl
theorem thenS_ret (b : GS) (d : D) : thenS b (.ret d) = some (.ret d) := rfl
theorem thenS_bk (b : GS) (e : Dn.Env) : thenS b (.bk e) = some (.bk e) := rfl
theorem thenS_ct (b : GS) (e : Dn.Env) : thenS b (.ct e) = some (.ct e) := rfl
theorem turnS_nx (k : Dn.Env → Option Out) (e : Dn.Env) : turnS k (.nx e) = k e := rfl
theorem turnS_ct (k : Dn.Env → Option Out) (e : Dn.Env) : turnS k (.ct e) = k e := rfl
theorem turnS_bk (k : Dn.Env → Option Out) (e : Dn.Env) : turnS k (.bk e) = some (.nx e) := rfl
theorem turnS_ret (k : Dn.Env → Option Out) (d : D) : turnS k (.ret d) = some (.ret d) := rfl
theorem endF_ret (d : D) : endF (.ret d) = some d := rfl
theorem endF_nx (e : Dn.Env) : endF (.nx e) = some .none := rfl
theorem asTpl_tup (xs : List D) : asTpl (.tuple xs) = some xs := rfl
theorem asLst_list (xs : List D) : asLst (.list xs) = some xs := rfl
theorem appS_own (e : Dn.Env) (i : Nat) (d : D) (ds : List D) : appS e i d (some (.own ds)) = if ds.length < lim then some (.nx (e.set i (.own (ds ++ [d])))) else none := rfl
theorem popS_own (e : Dn.Env) (i : Nat) (ds : List D) : popS e i (some (.own ds)) = if ds.isEmpty then none else some (.nx (e.set i (.own ds.dropLast))) := rfl
theorem revS_own (e : Dn.Env) (i : Nat) (ds : List D) : revS e i (some (.own ds)) = some (.nx (e.set i (.own ds.reverse))) := rfl
theorem frzS_own (e : Dn.Env) (i : Nat) (ds : List D) : frzS e i (some (.own ds)) = e.set i (.val (.list ds)) := rfl
theorem frzS_val (e : Dn.Env) (i : Nat) (d : D) : frzS e i (some (.val d)) = e := rfl
theorem asPart_int (a : Int) : asPart (.int a) = some (some a) := rfl
theorem isNone_none  : isNone .none = true := rfl
theorem isNone_tup (xs : List D) : isNone (.tuple xs) = false := rfl
theorem isNone_list (xs : List D) : isNone (.list xs) = false := rfl
theorem isNone_int (a : Int) : isNone (.int a) = false := rfl
theorem forG_nil (t : GT) (b : GS) (e : Dn.Env) : forG t b [] e = some (.nx e) := rfl
theorem forG_cons (t : GT) (b : GS) (d : D) (ds : List D) (e : Dn.Env) : forG t b (d :: ds) e = (t d e).bind fun e => (b e).bind (turnS (forG t b ds)) := rfl
theorem compG_nil (t : GT) (c : GB) (e : GE) (env : Dn.Env) : compG t c e env [] = some [] := rfl
theorem compG_cons (t : GT) (c : GB) (e : GE) (env : Dn.Env) (d : D) (ds : List D) : compG t c e env (d :: ds) = (t d env).bind fun env1 => (c env1).bind fun k => if k = true then (e env1).bind fun y => (compG t c e env ds).bind fun r => some (y :: r) else compG t c e env ds := rfl
theorem noOwB_nil (e : Dn.Env) : noOwB e [] = true := rfl
theorem noOwB_cons (e : Dn.Env) (i : Nat) (vs : List Nat) : noOwB e (i :: vs) = (!isOwn e[i]? && noOwB e vs) := rfl
theorem isOwn_val (d : D) : isOwn (some (.val d)) = false := rfl
theorem isOwn_un  : isOwn (some .un) = false := rfl
theorem wipeE_nil (e : Dn.Env) : wipeE e [] = e := rfl
theorem wipeE_cons (e : Dn.Env) (i : Nat) (vs : List Nat) : wipeE e (i :: vs) = (wipeE e vs).set i .un := rfl
theorem tTup2_nil (e : Dn.Env) : tTup2 [] [] e = some e := rfl
theorem tTup2_cons (t : GT) (ts : List GT) (d : D) (ds : List D) (e : Dn.Env) : tTup2 (t :: ts) (d :: ds) e = (t d e).bind fun e => tTup2 ts ds e := rfl
end Dn

namespace Dn
open PySem PySem.Spec PyProof.Rows L2
/-! ### Euclid -/
/-- so many turns are enough -/
theorem half_lt {a b : Nat} (h : b ≤ a) (hb : 0 < b) : 2 * (b * (a % b)) < a * b := by
  have h1 : a % b < b := Nat.mod_lt a hb
  have h2 : b * (a / b) + a % b = a := Nat.div_add_mod a b
  have h3 : 1 ≤ a / b := (Nat.one_le_div_iff hb).mpr h
  have h4 : b * 1 ≤ b * (a / b) := Nat.mul_le_mul_left b h3
  have h5 : 2 * (a % b) < a := by omega
  calc 2 * (b * (a % b)) = (2 * (a % b)) * b := by rw [Nat.mul_comm b, Nat.mul_assoc]
    _ < a * b := Nat.mul_lt_mul_of_pos_right h5 hb
/-- an abstract loop: R n a b g: with n turns at hand it comes from a, b to g -/
theorem euclid (R : Nat → Nat → Nat → Nat → Prop) (h0 : ∀ n a, R (n + 1) a 0 a) (h1 : ∀ n a b g, 0 < b → R n b (a % b) g → R (n + 1) a b g) :
    ∀ (m n a b : Nat), b ≤ a → a * b < 2 ^ m → m + 1 ≤ n → R n a b (Nat.gcd a b) := by
  intro m
  induction m with
  | zero =>
    intro n a b hab hp hn
    obtain ⟨k, rfl⟩ : ∃ k, n = k + 1 := ⟨n - 1, by omega⟩
    have hb : b = 0 := by
      rcases Nat.eq_zero_or_pos b with h | h
      · exact h
      · have : 1 * 1 ≤ a * b := Nat.mul_le_mul (by omega) h
        omega
    subst hb
    rw [Nat.gcd_zero_right]
    exact h0 k a
  | succ m ih =>
    intro n a b hab hp hn
    obtain ⟨k, rfl⟩ : ∃ k, n = k + 1 := ⟨n - 1, by omega⟩
    rcases Nat.eq_zero_or_pos b with h | h
    · subst h
      rw [Nat.gcd_zero_right]
      exact h0 k a
    · have q := half_lt hab h
      have e : Nat.gcd a b = Nat.gcd b (a % b) := by rw [Nat.gcd_comm a b, Nat.gcd_rec b a, Nat.gcd_comm]
      rw [e]
      exact h1 k a b _ h (ih k b (a % b) (Nat.le_of_lt (Nat.mod_lt a h)) (by rw [Nat.pow_succ] at hp; omega) (by omega))
theorem euclid2 (R : Nat → Nat → Nat → Nat → Prop) (h0 : ∀ n a, R (n + 1) a 0 a) (h1 : ∀ n a b g, 0 < b → R n b (a % b) g → R (n + 1) a b g)
    (m n a b : Nat) (ha : a < 2 ^ m) (hb : b < 2 ^ m) (hn : 2 * m + 2 ≤ n) : R n a b (Nat.gcd a b) := by
  have hp : a * b < 2 ^ (2 * m) := by
    rw [Nat.two_mul, Nat.pow_add]
    exact Nat.mul_lt_mul'' ha hb
  by_cases h : b ≤ a
  · exact euclid R h0 h1 (2 * m) n a b h hp (by omega)
  · obtain ⟨k, rfl⟩ : ∃ k, n = k + 1 := ⟨n - 1, by omega⟩
    refine h1 k a b _ (by omega) ?_
    rw [Nat.mod_eq_of_lt (show a < b by omega)]
    have e : Nat.gcd a b = Nat.gcd b a := Nat.gcd_comm a b
    rw [e]
    exact euclid R h0 h1 (2 * m) k b a (by omega) (by rw [Nat.mul_comm]; exact hp) (by omega)
/-! ### sizes -/
def Bd (k : Nat) (x : Int) : Prop := x.natAbs < 2 ^ k
theorem Bd.mono {j k : Nat} {x : Int} (h : Bd j x) (l : j ≤ k) : Bd k x := Nat.lt_of_lt_of_le h (Nat.pow_le_pow_right (by decide) l)
theorem Bd.neg {k : Nat} {x : Int} (h : Bd k x) : Bd k (-x) := by unfold Bd at *; omega
theorem Bd.mul {j k l : Nat} {x y : Int} (h : Bd j x) (h' : Bd k y) (e : j + k ≤ l) : Bd l (x * y) := by
  refine Bd.mono (j := j + k) ?_ e
  unfold Bd at *
  rw [Int.natAbs_mul, Nat.pow_add]
  exact Nat.mul_lt_mul'' h h'
theorem Bd.add {k l : Nat} {x y : Int} (h : Bd k x) (h' : Bd k y) (e : k + 1 ≤ l) : Bd l (x + y) := by
  refine Bd.mono (j := k + 1) ?_ e
  unfold Bd at *
  rw [Nat.pow_succ]
  omega
theorem Bd.sub {k l : Nat} {x y : Int} (h : Bd k x) (h' : Bd k y) (e : k + 1 ≤ l) : Bd l (x - y) := by
  refine Bd.mono (j := k + 1) ?_ e
  unfold Bd at *
  rw [Nat.pow_succ]
  omega
theorem Bd.log {k : Nat} {x : Int} (h : Bd k x) (hk : 0 < k) : x.natAbs.log2 < k := PySem.Flt.log2_lt_of hk h
theorem mulOk_of {j k : Nat} {x y : Int} (h : Bd j x) (h' : Bd k y) (hj : 0 < j) (hk : 0 < k) (e : j + k ≤ 100000000) : mulOk x y = true := by
  unfold mulOk
  have h1 := h.log hj
  have h2 := h'.log hk
  have : decide (x.natAbs.log2 + y.natAbs.log2 < 100000000) = true := decide_eq_true (by omega)
  rw [this, Bool.or_true]
theorem mulOk_right {x y : Int} (h : Bd 64 y) : mulOk x y = true := by
  unfold mulOk
  have : decide (y.natAbs < 2 ^ 64) = true := decide_eq_true h
  rw [this, Bool.or_true, Bool.true_or]
theorem mulOk_left {x y : Int} (h : Bd 64 x) : mulOk x y = true := by
  unfold mulOk
  have : decide (x.natAbs < 2 ^ 64) = true := decide_eq_true h
  rw [this, Bool.true_or, Bool.true_or]
theorem divOk_of {k : Nat} {y : Int} (h : Bd k y) (h0 : y ≠ 0) (hk : 0 < k) (e : k ≤ 9000) : divOk y = true := by
  unfold divOk
  have h1 := h.log hk
  rw [decide_eq_true h0, decide_eq_true (show y.natAbs.log2 < 9000 by omega)]
  rfl
theorem Bd.of_le {k : Nat} {x y : Int} (h : Bd k y) (l : x.natAbs ≤ y.natAbs) : Bd k x := Nat.lt_of_le_of_lt l h
theorem Bd.gcd_left {k : Nat} {x y : Int} (h : Bd k x) (h0 : x ≠ 0) : Bd k ((Int.gcd x y : Nat) : Int) := by
  unfold Bd
  rw [Int.natAbs_natCast]
  exact Nat.lt_of_le_of_lt (Nat.gcd_le_left _ (by omega)) h
theorem Bd.gcd_right {k : Nat} {x y : Int} (h : Bd k y) (h0 : y ≠ 0) : Bd k ((Int.gcd x y : Nat) : Int) := by
  unfold Bd
  rw [Int.natAbs_natCast]
  exact Nat.lt_of_le_of_lt (Nat.gcd_le_right _ (by omega)) h
theorem abs_nat (a : Int) : (if a < 0 then -a else a) = ((a.natAbs : Nat) : Int) := by
  split <;> omega
theorem fmod_nat (a b : Nat) : Int.fmod (a : Int) (b : Int) = ((a % b : Nat) : Int) := by
  rw [Int.fmod_eq_emod_of_nonneg _ (by omega)]
  rfl
theorem rngD_length (lo : Int) (n : Nat) : (rngD lo n).length = n := by
  unfold rngD
  rw [List.length_map, List.length_range]
theorem rgOk_small {n : Int} (h : n.natAbs < 2 ^ 59) : rgOk n = true := by
  unfold rgOk
  refine decide_eq_true ?_
  by_cases e : n.natAbs = 0
  · rw [e]; decide
  · exact (Nat.log2_lt e).mpr (by omega)
theorem vRange1_int {n : Int} (h : n.natAbs < 2 ^ 59) : vRange1 (.int n) = some (rngD 0 n.toNat) := by
  show (if rgOk n = true then some (rngD 0 n.toNat) else none) = _
  rw [if_pos (rgOk_small h)]
theorem vRange2_int {a b : Int} (h : a.natAbs < 2 ^ 59) (h' : b.natAbs < 2 ^ 59) : vRange2 (.int a) (.int b) = some (rngD a (b - a).toNat) := by
  show (if (rgOk a && rgOk b) = true then some (rngD a (b - a).toNat) else none) = _
  rw [rgOk_small h, rgOk_small h']
  rfl
/-- the number for n / d -/
def nmN (n d : Int) : Int := (if d < 0 then -n else n) / ((Int.gcd n d : Nat) : Int)
def nmD (n d : Int) : Int := (if d < 0 then -d else d) / ((Int.gcd n d : Nat) : Int)
def pr (n d : Int) : D := .tuple [.int n, .int d]
theorem fdiv_nat (a : Int) (b : Nat) : Int.fdiv a (b : Int) = a / (b : Int) := Int.fdiv_eq_ediv_of_nonneg _ (by omega)
theorem gcd_ne {n d : Int} (h : d ≠ 0) : ((Int.gcd n d : Nat) : Int) ≠ 0 := by
  intro z
  have : Int.gcd n d = 0 := by omega
  rw [Int.gcd_eq_zero_iff] at this
  exact h this.2
theorem gcd_ok {k : Nat} {n d : Int} (h : d ≠ 0) (b : Bd k d) (h0 : 0 < k) (hk : k ≤ 9000) : divOk ((Int.gcd n d : Nat) : Int) = true := divOk_of (Bd.gcd_right b h) (gcd_ne h) h0 hk
theorem rngD_zero (lo : Int) : rngD lo 0 = [] := rfl
theorem rngD_succ (lo : Int) (n : Nat) : rngD lo (n + 1) = PyData.int lo :: rngD (lo + 1) n := by
  unfold rngD
  rw [List.range_succ_eq_map, List.map_cons, List.map_map]
  congr 1
  · show PyData.int (lo + ((0 : Nat) : Int)) = _
    rw [Int.natCast_zero, Int.add_zero]
  · apply List.map_congr_left
    intro i _
    show PyData.int (lo + ((i + 1 : Nat) : Int)) = PyData.int (lo + 1 + (i : Int))
    congr 1
    omega
/-- drawn parts lie below their sizes -/
inductive Fit : List Int → List Int → Prop
  | nil : Fit [] []
  | cons {p s : Int} {ps ss : List Int} : 0 ≤ p → p < s → Fit ps ss → Fit (p :: ps) (s :: ss)
theorem Fit.snoc {p s : Int} (h0 : 0 ≤ p) (h : p < s) : ∀ {ps ss : List Int}, Fit ps ss → Fit (ps ++ [p]) (ss ++ [s])
  | _, _, .nil => .cons h0 h .nil
  | _, _, .cons a b t => .cons a b (Fit.snoc h0 h t)
theorem Fit.length : ∀ {ps ss : List Int}, Fit ps ss → ps.length = ss.length
  | _, _, .nil => rfl
  | _, _, .cons _ _ t => by rw [List.length_cons, List.length_cons, Fit.length t]
def dI (ns : List Int) : List D := ns.map PyData.int
theorem dI_get (ns : List Int) (i : Nat) : (dI ns)[i]? = (ns[i]?).map PyData.int := List.getElem?_map
theorem dI_app (ns ms : List Int) : dI ns ++ dI ms = dI (ns ++ ms) := (List.map_append ..).symm
theorem dI_length (ns : List Int) : (dI ns).length = ns.length := List.length_map ..
theorem dI_cons (n : Int) (ns : List Int) : dI (n :: ns) = .int n :: dI ns := rfl
theorem dI_nil : dI [] = [] := rfl
theorem atD_nat (xs : List D) (k : Nat) : atD xs (k : Int) = xs[k]? := by
  unfold atD
  rw [if_neg (by omega), Int.toNat_natCast]
theorem atD_0 (xs : List D) : atD xs 0 = xs[0]? := atD_nat xs 0
theorem atD_1 (xs : List D) : atD xs 1 = xs[1]? := atD_nat xs 1
theorem atD_2 (xs : List D) : atD xs 2 = xs[2]? := atD_nat xs 2
theorem atD_3 (xs : List D) : atD xs 3 = xs[3]? := atD_nat xs 3
theorem atD_4 (xs : List D) : atD xs 4 = xs[4]? := atD_nat xs 4
theorem atD_5 (xs : List D) : atD xs 5 = xs[5]? := atD_nat xs 5
theorem atD_6 (xs : List D) : atD xs 6 = xs[6]? := atD_nat xs 6
theorem atD_7 (xs : List D) : atD xs 7 = xs[7]? := atD_nat xs 7
theorem atD_8 (xs : List D) : atD xs 8 = xs[8]? := atD_nat xs 8
theorem atD_9 (xs : List D) : atD xs 9 = xs[9]? := atD_nat xs 9
theorem atD_10 (xs : List D) : atD xs 10 = xs[10]? := atD_nat xs 10
theorem atD_11 (xs : List D) : atD xs 11 = xs[11]? := atD_nat xs 11
theorem fmod_pos {a b : Int} (h : 0 < b) : a.fmod b = a % b := Int.fmod_eq_emod_of_nonneg _ (by omega)
theorem fdiv_pos {a b : Int} (h : 0 < b) : a.fdiv b = a / b := Int.fdiv_eq_ediv_of_nonneg _ (by omega)
theorem vMod_pos {a b : Int} (h : 0 < b) : vMod (.int a) (.int b) = some (.int (a % b)) := by
  show (if b = 0 then none else some (PyData.int (a.fmod b))) = _
  rw [if_neg (by omega), fmod_pos h]
theorem vFdiv_pos {k : Nat} {a b : Int} (h : 0 < b) (hb : Bd k b) (h0 : 0 < k) (hk : k ≤ 9000) : vFdiv (.int a) (.int b) = some (.int (a / b)) := by
  show (if divOk b = true then some (PyData.int (a.fdiv b)) else none) = _
  rw [if_pos (divOk_of hb (by omega) h0 hk), fdiv_pos h]
theorem vMul_ok {a b : Int} (h : mulOk a b = true) : vMul (.int a) (.int b) = some (.int (a * b)) := by
  show (if mulOk a b = true then some (PyData.int (a * b)) else none) = _
  rw [if_pos h]
theorem bd_lit {k : Nat} {x : Int} (h : decide (x.natAbs < 2 ^ k) = true) : Bd k x := show x.natAbs < 2 ^ k from of_decide_eq_true h
theorem bd_range {k : Nat} {x : Int} (lo hi : Int) (h1 : lo ≤ x) (h2 : x ≤ hi) (hl : decide (lo.natAbs < 2 ^ k) = true) (hh : decide (hi.natAbs < 2 ^ k) = true) : Bd k x := by
  have a := of_decide_eq_true hl
  have b := of_decide_eq_true hh
  unfold Bd
  omega
theorem vPow_ok {a b : Int} (h0 : 0 ≤ b) (h1 : b ≤ 1000000) (h2 : a.natAbs < 2 ^ 64) : vPow (.int a) (.int b) = some (.int (a ^ b.toNat)) := by
  show (if 0 ≤ b ∧ b ≤ 1000000 ∧ a.natAbs < 2 ^ 64 then some (PyData.int (a ^ b.toNat)) else none) = _
  rw [if_pos ⟨h0, h1, h2⟩]
theorem vPow_10_18 : vPow (.int 10) (.int 18) = some (.int 1000000000000000000) := by
  rw [vPow_ok (by decide) (by decide) (by decide)]
  rfl
theorem nm_facts {n d : Int} (h : d ≠ 0) : ∃ g : Int, 0 < g ∧ g * nmN n d = (if d < 0 then -n else n) ∧ g * nmD n d = (if d < 0 then -d else d) := by
  have g0 := gcd_ne (n := n) h
  refine ⟨((Int.gcd n d : Nat) : Int), by omega, ?_, ?_⟩
  · unfold nmN
    rw [Int.mul_ediv_cancel']
    split
    · exact Int.dvd_neg.mpr (Int.gcd_dvd_left _ _)
    · exact Int.gcd_dvd_left _ _
  · unfold nmD
    rw [Int.mul_ediv_cancel']
    split
    · exact Int.dvd_neg.mpr (Int.gcd_dvd_right _ _)
    · exact Int.gcd_dvd_right _ _
theorem nat_factor {g q x : Int} (hg : 0 < g) (e : g * q = x) : q.natAbs ≤ x.natAbs := by
  rw [← e, Int.natAbs_mul]
  exact Nat.le_mul_of_pos_left _ (by omega)
theorem nmN_bd {k : Nat} {n d : Int} (h : d ≠ 0) (b : Bd k n) : Bd k (nmN n d) := by
  obtain ⟨g, hg, h1, _⟩ := nm_facts (n := n) h
  have := nat_factor hg h1
  unfold Bd at *
  split at this <;> omega
theorem nmD_bd {k : Nat} {n d : Int} (h : d ≠ 0) (b : Bd k d) : Bd k (nmD n d) := by
  obtain ⟨g, hg, _, h1⟩ := nm_facts (n := n) h
  have := nat_factor hg h1
  unfold Bd at *
  split at this <;> omega
theorem nmD_pos {n d : Int} (h : d ≠ 0) : 0 < nmD n d := by
  obtain ⟨g, hg, _, h1⟩ := nm_facts (n := n) h
  refine Int.not_le.mp fun z => ?_
  have : g * nmD n d ≤ 0 := Int.mul_nonpos_of_nonneg_of_nonpos (by omega) z
  split at h1 <;> omega
end Dn

namespace Dn
open PySem
/-! ### what repr shows is not too long -/
mutual
def nodes : D → Nat
  | .list xs => 1 + nodesAll xs
  | .tuple xs => 1 + nodesAll xs
  | _ => 1
def nodesAll : List D → Nat
  | [] => 0
  | x :: xs => nodes x + nodesAll xs
end
mutual
def smI : D → Bool
  | .int i => decide (i.natAbs.log2 < 1000)
  | .bool _ => true
  | .none => true
  | .list xs => smAll xs
  | .tuple xs => smAll xs
  | _ => false
def smAll : List D → Bool
  | [] => true
  | x :: xs => smI x && smAll xs
end
theorem nodes_pos (d : D) : 1 ≤ nodes d := by cases d <;> simp only [nodes] <;> omega
theorem int_shown {i : Int} (h : i.natAbs.log2 < 1000) : (PyData.shown (.int i)).length ≤ 1001 := by
  have := int_text_length_le (by decide) h
  show (Str.ofString (toString i)).length ≤ 1001
  rw [ofString_length]
  exact this
mutual
theorem shown_le : ∀ d : D, smI d = true → d.shown.length + 2 ≤ 1010 * nodes d
  | .int i, h => by
    have := int_shown (of_decide_eq_true h)
    simp only [nodes]
    omega
  | .bool b, _ => by cases b <;> decide
  | .none, _ => by decide
  | .str _, h => by cases h
  | .dict _, h => by cases h
  | .list xs, h => by
    have h1 := shownAll_le xs h
    have h2 := listText_len_le (PyData.shownAll xs)
    show (listText (PyData.shownAll xs)).length + 2 ≤ 1010 * (1 + nodesAll xs)
    omega
  | .tuple xs, h => by
    have h1 := shownAll_le xs h
    have h2 := tupleText_len_le (PyData.shownAll xs)
    show (tupleText (PyData.shownAll xs)).length + 2 ≤ 1010 * (1 + nodesAll xs)
    omega
theorem shownAll_le : ∀ xs : List D, smAll xs = true → ((PyData.shownAll xs).map (·.length)).sum + 2 * (PyData.shownAll xs).length ≤ 1010 * nodesAll xs
  | [], _ => by decide
  | x :: xs, h => by
    have h := Bool.and_eq_true_iff.mp (show (smI x && smAll xs) = true from h)
    have h1 := shown_le x h.1
    have h2 := shownAll_le xs h.2
    show (x.shown.length + ((PyData.shownAll xs).map (·.length)).sum) + 2 * ((PyData.shownAll xs).length + 1) ≤ 1010 * (nodes x + nodesAll xs)
    omega
end
mutual
theorem sm_show : ∀ d : D, smI d = true → d.showable = true ∧ d.hasDict = false
  | .int i, h => ⟨decide_eq_true (by have := of_decide_eq_true h; omega), rfl⟩
  | .bool b, _ => ⟨rfl, rfl⟩
  | .none, _ => ⟨rfl, rfl⟩
  | .str _, h => by cases h
  | .dict _, h => by cases h
  | .list xs, h => smAll_show xs h
  | .tuple xs, h => smAll_show xs h
theorem smAll_show : ∀ xs : List D, smAll xs = true → PyData.showableAll xs = true ∧ PyData.hasDictAll xs = false
  | [], _ => ⟨rfl, rfl⟩
  | x :: xs, h => by
    have h := Bool.and_eq_true_iff.mp (show (smI x && smAll xs) = true from h)
    have h1 := sm_show x h.1
    have h2 := smAll_show xs h.2
    constructor
    · show (x.showable && PyData.showableAll xs) = true
      rw [h1.1, h2.1]; rfl
    · show (x.hasDict || PyData.hasDictAll xs) = false
      rw [h1.2, h2.2]; rfl
end
theorem okShow_of {d : D} (h : smI d = true) (hd : d.depth ≤ 60) (hn : nodes d ≤ 16000) : okShow d = true := by
  have h1 := sm_show d h
  have h2 := shown_le d h
  unfold okShow
  rw [h1.1, h1.2, decide_eq_true hd, decide_eq_true (show d.shown.length ≤ lim by unfold lim; omega)]
  rfl
theorem vRepr1_of {d : D} (hr : isRefD d = true) (h : okShow d = true) : vRepr1 d = some (.str d.shown) := by
  unfold vRepr1 vRepr
  rw [if_pos hr, if_pos h]
theorem log_of_bd {k : Nat} {i : Int} (h : Bd k i) (hk : k ≤ 1000) : decide (i.natAbs.log2 < 1000) = true := by
  refine decide_eq_true ?_
  rcases Nat.eq_zero_or_pos k with e | e
  · subst e
    have : i.natAbs = 0 := by unfold Bd at h; omega
    rw [this]; decide
  · have := h.log e
    omega
theorem pr_show {k : Nat} {a b : Int} (ha : Bd k a) (hb : Bd k b) (hk : k ≤ 1000) : vRepr1 (pr a b) = some (.str (pr a b).shown) := by
  refine vRepr1_of rfl (okShow_of ?_ (Nat.le_of_ble_eq_true rfl) (Nat.le_of_ble_eq_true rfl))
  show (decide (a.natAbs.log2 < 1000) && (decide (b.natAbs.log2 < 1000) && true)) = true
  rw [log_of_bd ha hk, log_of_bd hb hk]
  rfl
def pt (a b c : Int) : D := .tuple [.int a, .int b, .int c]
theorem pt_show {k : Nat} {a b c : Int} (ha : Bd k a) (hb : Bd k b) (hc : Bd k c) (hk : k ≤ 1000) : vRepr1 (pt a b c) = some (.str (pt a b c).shown) := by
  refine vRepr1_of rfl (okShow_of ?_ (Nat.le_of_ble_eq_true rfl) (Nat.le_of_ble_eq_true rfl))
  show (decide (a.natAbs.log2 < 1000) && (decide (b.natAbs.log2 < 1000) && (decide (c.natAbs.log2 < 1000) && true))) = true
  rw [log_of_bd ha hk, log_of_bd hb hk, log_of_bd hc hk]
  rfl
theorem pt_shaped (a b c : Int) : SeqAt.shaped (pt a b c) = true := rfl
theorem pt_eqv (a b c d e f : Int) : PyData.eqv (pt a b c) (pt d e f) = (decide (a = d) && (decide (b = e) && decide (c = f))) := by
  show ((a == d) && ((b == e) && ((c == f) && true))) = _
  rw [Bool.and_true]
  rfl
theorem vNe_pt (a b c d e f : Int) : vNe (pt a b c) (pt d e f) = some (.bool (!(decide (a = d) && (decide (b = e) && decide (c = f))))) := by
  show vNeG (pt a b c) (pt d e f) = _
  unfold vNeG
  rw [pt_shaped, pt_shaped, pt_eqv]
  rfl
theorem vEq_pt (a b c d e f : Int) : vEq (pt a b c) (pt d e f) = some (.bool (decide (a = d) && (decide (b = e) && decide (c = f)))) := by
  show vEqG (pt a b c) (pt d e f) = _
  unfold vEqG
  rw [pt_shaped, pt_shaped, pt_eqv]
  rfl
/-! ### the one triple of a place -/
def gg (x y w : Int) : Int := ((Int.gcd ((Int.gcd x y : Nat) : Int) w : Nat) : Int)
def ptX (x w : Int) (g : Int) : Int := (if w < 0 then -x else x) / g
/-- a, b, c have no common divisor, c is above 0 -/
structure Nf (a b c : Int) : Prop where
  pos : 0 < c
  one : Int.gcd ((Int.gcd a b : Nat) : Int) c = 1
theorem gg_pos {x y w : Int} (h : w ≠ 0) : 0 < gg x y w := by
  have := gcd_ne (n := ((Int.gcd x y : Nat) : Int)) h
  unfold gg
  omega
theorem gg_dvd (x y w : Int) : gg x y w ∣ x ∧ gg x y w ∣ y ∧ gg x y w ∣ w := by
  have h1 : gg x y w ∣ ((Int.gcd x y : Nat) : Int) := Int.gcd_dvd_left _ _
  exact ⟨Int.dvd_trans h1 (Int.gcd_dvd_left _ _), Int.dvd_trans h1 (Int.gcd_dvd_right _ _), Int.gcd_dvd_right _ _⟩
theorem nf_unique {a b c a' b' c' : Int} (h : Nf a b c) (h' : Nf a' b' c') (e1 : a * c' = a' * c) (e2 : b * c' = b' * c) : a = a' ∧ b = b' ∧ c = c' := by
  have key : ∀ {a b c a' b' c' : Int}, Nf a b c → a * c' = a' * c → b * c' = b' * c → c.natAbs ∣ c'.natAbs := by
    intro a b c a' b' c' h e1 e2
    have d1 : c.natAbs ∣ a.natAbs * c'.natAbs := by rw [← Int.natAbs_mul, e1, Int.natAbs_mul]; exact Nat.dvd_mul_left _ _
    have d2 : c.natAbs ∣ b.natAbs * c'.natAbs := by rw [← Int.natAbs_mul, e2, Int.natAbs_mul]; exact Nat.dvd_mul_left _ _
    have d3 : c.natAbs ∣ c.natAbs * c'.natAbs := Nat.dvd_mul_right _ _
    have d4 := Nat.dvd_gcd (Nat.dvd_gcd d1 d2) d3
    rw [Nat.gcd_mul_right, Nat.gcd_mul_right] at d4
    have o := h.one
    rw [Int.gcd_eq_natAbs_gcd_natAbs, Int.natAbs_natCast, Int.gcd_eq_natAbs_gcd_natAbs] at o
    rw [o, Nat.one_mul] at d4
    exact d4
  have q := Nat.dvd_antisymm (key h e1 e2) (key h' e1.symm e2.symm)
  have ec : c = c' := by have := h.pos; have := h'.pos; omega
  subst ec
  have hc : c ≠ 0 := by have := h.pos; omega
  exact ⟨Int.eq_of_mul_eq_mul_right hc e1, Int.eq_of_mul_eq_mul_right hc e2, rfl⟩
end Dn

namespace Dn
open PySem
def p1 (x y w : Int) : Int := ptX x w (gg x y w)
def p2 (x y w : Int) : Int := ptX y w (gg x y w)
def p3 (x y w : Int) : Int := ptX w w (gg x y w)
theorem ptX_mul {x w g : Int} (h : g ∣ x) : g * ptX x w g = if w < 0 then -x else x := by
  unfold ptX
  rw [Int.mul_ediv_cancel']
  split
  · exact Int.dvd_neg.mpr h
  · exact h
theorem p_facts {x y w : Int} (h : w ≠ 0) : ∃ g : Int, 0 < g ∧ g * p1 x y w = (if w < 0 then -x else x) ∧ g * p2 x y w = (if w < 0 then -y else y) ∧ g * p3 x y w = (if w < 0 then -w else w) ∧ g = gg x y w := by
  obtain ⟨d1, d2, d3⟩ := gg_dvd x y w
  exact ⟨gg x y w, gg_pos h, ptX_mul d1, ptX_mul d2, ptX_mul d3, rfl⟩
theorem gg_nat (x y w : Int) : (gg x y w).natAbs = Nat.gcd (Nat.gcd x.natAbs y.natAbs) w.natAbs := by
  unfold gg
  rw [Int.natAbs_natCast, Int.gcd_eq_natAbs_gcd_natAbs, Int.natAbs_natCast, Int.gcd_eq_natAbs_gcd_natAbs]
theorem p_nf {x y w : Int} (h : w ≠ 0) : Nf (p1 x y w) (p2 x y w) (p3 x y w) := by
  obtain ⟨g, hg, e1, e2, e3, eg⟩ := p_facts (x := x) (y := y) h
  constructor
  · refine Int.not_le.mp fun z => ?_
    have : g * p3 x y w ≤ 0 := Int.mul_nonpos_of_nonneg_of_nonpos (by omega) z
    split at e3 <;> omega
  · have f1 : x.natAbs = (p1 x y w).natAbs * g.natAbs := by
      rw [← Int.natAbs_mul, Int.mul_comm, e1]; split <;> omega
    have f2 : y.natAbs = (p2 x y w).natAbs * g.natAbs := by
      rw [← Int.natAbs_mul, Int.mul_comm, e2]; split <;> omega
    have f3 : w.natAbs = (p3 x y w).natAbs * g.natAbs := by
      rw [← Int.natAbs_mul, Int.mul_comm, e3]; split <;> omega
    have q := gg_nat x y w
    rw [f1, f2, f3, Nat.gcd_mul_right, Nat.gcd_mul_right, ← eg] at q
    rw [Int.gcd_eq_natAbs_gcd_natAbs, Int.natAbs_natCast, Int.gcd_eq_natAbs_gcd_natAbs]
    have hp : 0 < g.natAbs := by omega
    have q2 : g.natAbs * 1 = g.natAbs * Nat.gcd (Nat.gcd (p1 x y w).natAbs (p2 x y w).natAbs) (p3 x y w).natAbs := by rw [Nat.mul_one, Nat.mul_comm]; exact q
    exact (Nat.eq_of_mul_eq_mul_left hp q2).symm
theorem p_cross {x y w : Int} (h : w ≠ 0) : p1 x y w * w = x * p3 x y w ∧ p2 x y w * w = y * p3 x y w := by
  obtain ⟨g, hg, e1, e2, e3, _⟩ := p_facts (x := x) (y := y) h
  have hg' : g ≠ 0 := by omega
  constructor
  · refine Int.eq_of_mul_eq_mul_left hg' ?_
    have l : g * (p1 x y w * w) = (g * p1 x y w) * w := by rw [Int.mul_assoc]
    have r : g * (x * p3 x y w) = x * (g * p3 x y w) := by rw [Int.mul_left_comm]
    rw [l, r, e1, e3]
    split
    · rw [Int.neg_mul, Int.mul_neg]
    · rfl
  · refine Int.eq_of_mul_eq_mul_left hg' ?_
    have l : g * (p2 x y w * w) = (g * p2 x y w) * w := by rw [Int.mul_assoc]
    have r : g * (y * p3 x y w) = y * (g * p3 x y w) := by rw [Int.mul_left_comm]
    rw [l, r, e2, e3]
    split
    · rw [Int.neg_mul, Int.mul_neg]
    · rfl
/-- one place, one triple -/
theorem p_same {x y w x' y' w' : Int} (h : w ≠ 0) (h' : w' ≠ 0) (e1 : x * w' = x' * w) (e2 : y * w' = y' * w) : p1 x y w = p1 x' y' w' ∧ p2 x y w = p2 x' y' w' ∧ p3 x y w = p3 x' y' w' := by
  obtain ⟨a1, a2⟩ := p_cross (x := x) (y := y) h
  obtain ⟨b1, b2⟩ := p_cross (x := x') (y := y') h'
  have hh : w * w' ≠ 0 := Int.mul_ne_zero h h'
  refine nf_unique (p_nf h) (p_nf h') ?_ ?_
  · refine Int.eq_of_mul_eq_mul_right hh ?_
    grind
  · refine Int.eq_of_mul_eq_mul_right hh ?_
    grind
/-- a triple that is in its form stays -/
theorem p_id {a b c : Int} (h : Nf a b c) : p1 a b c = a ∧ p2 a b c = b ∧ p3 a b c = c := by
  have h0 : c ≠ 0 := by have := h.pos; omega
  obtain ⟨a1, a2⟩ := p_cross (x := a) (y := b) h0
  exact nf_unique (p_nf h0) h a1 a2
theorem p1_bd {k : Nat} {x y w : Int} (h : w ≠ 0) (b : Bd k x) : Bd k (p1 x y w) := by
  obtain ⟨g, hg, e, _⟩ := p_facts (x := x) (y := y) h
  have := nat_factor hg e
  unfold Bd at *
  split at this <;> omega
theorem p2_bd {k : Nat} {x y w : Int} (h : w ≠ 0) (b : Bd k y) : Bd k (p2 x y w) := by
  obtain ⟨g, hg, _, e, _⟩ := p_facts (x := x) (y := y) h
  have := nat_factor hg e
  unfold Bd at *
  split at this <;> omega
theorem p3_bd {k : Nat} {x y w : Int} (h : w ≠ 0) (b : Bd k w) : Bd k (p3 x y w) := by
  obtain ⟨g, hg, _, _, e, _⟩ := p_facts (x := x) (y := y) h
  have := nat_factor hg e
  unfold Bd at *
  split at this <;> omega
theorem p3_pos {x y w : Int} (h : w ≠ 0) : 0 < p3 x y w := (p_nf h).pos
def P (x y w : Int) : D := pt (p1 x y w) (p2 x y w) (p3 x y w)
theorem P_same {x y w x' y' w' : Int} (h : w ≠ 0) (h' : w' ≠ 0) (e1 : x * w' = x' * w) (e2 : y * w' = y' * w) : P x y w = P x' y' w' := by
  obtain ⟨a, b, c⟩ := p_same h h' e1 e2
  unfold P
  rw [a, b, c]
theorem fdiv_neg_exact {x g : Int} (hg : 0 < g) (h : g ∣ x) : x.fdiv (-g) = -x / g := by
  obtain ⟨q, rfl⟩ := h
  have e : g * q = (-g) * (-q) := by rw [Int.neg_mul_neg]
  rw [e, Int.mul_fdiv_cancel_left _ (by omega), ← e, Int.neg_mul_eq_mul_neg g q, Int.mul_ediv_cancel_left _ (by omega)]
/-! ### numbers: one fraction, one pair -/
theorem nm_cross {n d : Int} (h : d ≠ 0) : nmN n d * d = n * nmD n d := by
  obtain ⟨g, hg, e1, e2⟩ := nm_facts (n := n) h
  refine Int.eq_of_mul_eq_mul_left (show g ≠ 0 by omega) ?_
  have l : g * (nmN n d * d) = (g * nmN n d) * d := by rw [Int.mul_assoc]
  have r : g * (n * nmD n d) = n * (g * nmD n d) := by rw [Int.mul_left_comm]
  rw [l, r, e1, e2]
  split
  · rw [Int.neg_mul, Int.mul_neg]
  · rfl
end Dn

namespace Dn
open PySem
/-- sizes in doublings of 64 bits -/
structure S (k : Nat) (x : Int) : Prop where
  b : Bd (64 * 2 ^ k) x
theorem S.up {k : Nat} {x : Int} (h : S k x) : S (k + 1) x := .mk <| Bd.mono h.b (by rw [Nat.pow_succ]; omega)
theorem S.mul {k : Nat} {x y : Int} (h : S k x) (h' : S k y) : S (k + 1) (x * y) := .mk <| Bd.mul h.b h'.b (by rw [Nat.pow_succ]; omega)
theorem S.add {k : Nat} {x y : Int} (h : S k x) (h' : S k y) : S (k + 1) (x + y) := .mk <| Bd.add h.b h'.b (by have := Nat.pow_pos (n := k) (show 0 < 2 by decide); rw [Nat.pow_succ]; omega)
theorem S.sub {k : Nat} {x y : Int} (h : S k x) (h' : S k y) : S (k + 1) (x - y) := .mk <| Bd.sub h.b h'.b (by have := Nat.pow_pos (n := k) (show 0 < 2 by decide); rw [Nat.pow_succ]; omega)
theorem S.neg {k : Nat} {x : Int} (h : S k x) : S k (-x) := .mk <| Bd.neg h.b
theorem S.mono {j k : Nat} {x : Int} (h : S j x) (l : j ≤ k) : S k x := .mk <| Bd.mono h.b (Nat.mul_le_mul_left _ (Nat.pow_le_pow_right (by decide) l))
theorem S.of {k : Nat} {x : Int} (h : Bd 64 x) : S k x := .mk <| Bd.mono h (by have := Nat.pow_pos (n := k) (show 0 < 2 by decide); omega)
theorem S.lit {k : Nat} {x : Int} (h : decide (x.natAbs < 2 ^ 64) = true) : S k x := S.of (bd_lit h)
theorem S.pos (k : Nat) : 0 < 64 * 2 ^ k := by have := Nat.pow_pos (n := k) (show 0 < 2 by decide); omega
theorem vMul_S {a b : Int} (h : S 12 a) (h' : S 12 b) : vMul (.int a) (.int b) = some (.int (a * b)) := vMul_ok (mulOk_of h.b h'.b (by decide) (by decide) (by decide))
theorem P_S {k : Nat} {x y w : Int} (h : w ≠ 0) (a : S k x) (b : S k y) (c : S k w) : S k (p1 x y w) ∧ S k (p2 x y w) ∧ S k (p3 x y w) := ⟨⟨p1_bd h a.b⟩, ⟨p2_bd h b.b⟩, ⟨p3_bd h c.b⟩⟩
theorem pt_show_S {a b c : Int} (ha : S 3 a) (hb : S 3 b) (hc : S 3 c) : vRepr1 (pt a b c) = some (.str (pt a b c).shown) := pt_show (k := 64 * 2 ^ 3) ha.b hb.b hc.b (by decide)
theorem nm_S {k : Nat} {n d : Int} (h : d ≠ 0) (a : S k n) (b : S k d) : S k (nmN n d) ∧ S k (nmD n d) := ⟨⟨nmN_bd h a.b⟩, ⟨nmD_bd h b.b⟩⟩
end Dn

namespace Dn
open PySem
/-! ### quarter turns -/
def tX (k x y : Int) : Int := if k = 1 then -y else if k = 2 then -x else if k = 3 then y else x
def tY (k x y : Int) : Int := if k = 1 then x else if k = 2 then -y else if k = 3 then -x else y
def co (k : Int) : Int := if k = 0 then 1 else if k = 2 then -1 else 0
def si (k : Int) : Int := if k = 1 then 1 else if k = 3 then -1 else 0
structure Qt (k : Int) : Prop where
  h0 : 0 ≤ k
  h4 : k < 4
theorem Qt.or {k : Int} (h : Qt k) : k = 0 ∨ k = 1 ∨ k = 2 ∨ k = 3 := by have := h.h0; have := h.h4; omega
theorem tX_lin {k : Int} (h : Qt k) (x y : Int) : tX k x y = co k * x - si k * y := by
  rcases h.or with rfl | rfl | rfl | rfl
  · show x = 1 * x - 0 * y; omega
  · show -y = 0 * x - 1 * y; omega
  · show -x = -1 * x - 0 * y; omega
  · show y = 0 * x - -1 * y; omega
theorem tY_lin {k : Int} (h : Qt k) (x y : Int) : tY k x y = si k * x + co k * y := by
  rcases h.or with rfl | rfl | rfl | rfl
  · show y = 0 * x + 1 * y; omega
  · show x = 1 * x + 0 * y; omega
  · show -y = 0 * x + -1 * y; omega
  · show -x = -1 * x + 0 * y; omega
theorem cs_one {k : Int} (h : Qt k) : co k * co k + si k * si k = 1 := by
  rcases h.or with rfl | rfl | rfl | rfl <;> rfl
theorem qt_back {k : Int} (h : Qt k) : Qt ((4 - k) % 4) ∧ co ((4 - k) % 4) = co k ∧ si ((4 - k) % 4) = - si k ∧ (4 - (4 - k) % 4) % 4 = k ∧ (k + (4 - k) % 4) % 4 = 0 ∧ ((4 - k) % 4 + k) % 4 = 0 := by
  rcases h.or with rfl | rfl | rfl | rfl <;> exact ⟨⟨by decide, by decide⟩, rfl, rfl, rfl, rfl, rfl⟩
theorem qt_add {k l : Int} (h : Qt k) (h' : Qt l) : Qt ((k + l) % 4) ∧ co ((k + l) % 4) = co k * co l - si k * si l ∧ si ((k + l) % 4) = si k * co l + co k * si l := by
  rcases h.or with rfl | rfl | rfl | rfl <;> rcases h'.or with rfl | rfl | rfl | rfl <;> exact ⟨⟨by decide, by decide⟩, rfl, rfl⟩
theorem S_t {n : Nat} {k x y : Int} (hk : Qt k) (hx : S n x) (hy : S n y) : S n (tX k x y) ∧ S n (tY k x y) := by
  rcases hk.or with rfl | rfl | rfl | rfl
  · exact ⟨hx, hy⟩
  · exact ⟨hy.neg, hx⟩
  · exact ⟨hx.neg, hy.neg⟩
  · exact ⟨hy, hx.neg⟩
theorem Nf.neg {a b c : Int} (h : Nf a b c) : Nf (-a) (-b) c := ⟨h.pos, by rw [Int.neg_gcd, Int.gcd_neg]; exact h.one⟩
theorem Nf.turn {k a b c : Int} (hk : Qt k) (h : Nf a b c) : Nf (tX k a b) (tY k a b) c := by
  rcases hk.or with rfl | rfl | rfl | rfl
  · exact h
  · exact ⟨h.pos, by show Int.gcd ((Int.gcd (-b) a : Nat) : Int) c = 1; rw [Int.neg_gcd, Int.gcd_comm b a]; exact h.one⟩
  · exact h.neg
  · exact ⟨h.pos, by show Int.gcd ((Int.gcd b (-a) : Nat) : Int) c = 1; rw [Int.gcd_neg, Int.gcd_comm b a]; exact h.one⟩
def mo (k a b c : Int) : D := .tuple [.int k, pt a b c]
theorem mo_eqv (k a b c l d e f : Int) : PyData.eqv (mo k a b c) (mo l d e f) = (decide (k = l) && (decide (a = d) && (decide (b = e) && decide (c = f)))) := by
  show ((k == l) && ((PyData.eqv (pt a b c) (pt d e f)) && true)) = _
  rw [Bool.and_true, pt_eqv]
  rfl
theorem vEq_mo (k a b c l d e f : Int) : vEq (mo k a b c) (mo l d e f) = some (.bool (decide (k = l) && (decide (a = d) && (decide (b = e) && decide (c = f))))) := by
  show vEqG (mo k a b c) (mo l d e f) = _
  unfold vEqG
  rw [show SeqAt.shaped (mo k a b c) = true from rfl, show SeqAt.shaped (mo l d e f) = true from rfl, mo_eqv]
  rfl
theorem eq_cancel {s l r : Int} (h : s ≠ 0) (e : l * s = r * s) : l = r := Int.eq_of_mul_eq_mul_right h e
end Dn

namespace Law
open PySem Dn
/-! ### the defs as plain functions of data -/
def g_law_parts : GS := (sSeq (sOwn 2 aNil)
    (sSeq (sSet 3 (g2 vSub (gVar 0) (g2 vPow (gC (.int 10)) (gC (.int 18)))))
    (sSeq (sFor (gRange1 (gArgs (l1 vLen) (aCons (gVar 1) aNil))) (tName 4) (sIf (gTest (g2 vGe (gVar 3) (gC (.int 0)))) (sSeq (sApp 2 (g2 vMod (gArgs (l1 vToI) (aCons (gVar 3) aNil)) (g2 vIx (gVar 1) (gVar 4))))
    (sSet 3 (g2 vFdiv (gVar 3) (g2 vIx (gVar 1) (gVar 4))))) (sSeq (sSet 5 (g2 vMod (gArgs (l1 vToI) (aCons (g2 vAdd (g2 vAdd (g2 vMul (gVar 0) (gC (.int 48271))) (g2 vMul (gVar 4) (gC (.int 69621)))) (gC (.int 11))) aNil)) (gC (.int 2147483647))))
    (sSeq (sSet 5 (g2 vMod (gArgs (l1 vToI) (aCons (g2 vAdd (g2 vAdd (g2 vMul (gVar 5) (gVar 5)) (g2 vMul (gC (.int 16807)) (gVar 4))) (gC (.int 5))) aNil)) (gC (.int 998244353))))
    (sApp 2 (g2 vMod (gArgs (l1 vToI) (aCons (gVar 5) aNil)) (g2 vIx (gVar 1) (gVar 4))))))))
    (sRet (gVarB 2)))))
def F_law_parts : List D → Option D := runF 6 2 g_law_parts
def g_law_divisor : GS := (sSeq (sSet 0 (gArgs (l1 vAbs) (aCons (gVar 0) aNil)))
    (sSeq (sSet 1 (gArgs (l1 vAbs) (aCons (gVar 1) aNil)))
    (sSeq (sFor (gRange1 (gC (.int 40000))) (tName 2) (sSeq (sIf (gTest (g2 vEq (gVar 1) (gC (.int 0)))) (sRet (gVar 0)) sNx)
    (sPar 0 1 (gVar 1) (g2 vMod (gArgs (l1 vToI) (aCons (gVar 0) aNil)) (gVar 1)))))
    (sRet (gVar 0)))))
def F_law_divisor : List D → Option D := runF 3 2 g_law_divisor
def g_law_point : GS := (sSeq (sSet 3 (gArgs F_law_divisor (aCons (gArgs F_law_divisor (aCons (gVar 0) (aCons (gVar 1) aNil))) (aCons (gVar 2) aNil))))
    (sRet (gArgs vTup (aCons (g2 vFdiv (gVar 0) (gVar 3)) (aCons (g2 vFdiv (gVar 1) (gVar 3)) (aCons (g2 vFdiv (gVar 2) (gVar 3)) aNil))))))
def F_law_point : List D → Option D := runF 4 3 g_law_point
def g_law_motion : GS := (sSeq (sSet 1 (gArgs F_law_parts (aCons (gVar 0) (aCons (gArgs vLst (aCons (gC (.int 4)) (aCons (gC (.int 19)) (aCons (gC (.int 19)) (aCons (gC (.int 3)) (aCons (gC (.int 6)) (aCons (g2 vPow (gC (.int 10)) (gC (.int 15))) aNil))))))) aNil))))
    (sSeq (sSet 2 (g2 vSub (g2 vIx (gVar 1) (gC (.int 1))) (gC (.int 9))))
    (sSeq (sIf (gTest (g2 vEq (g2 vIx (gVar 1) (gC (.int 4))) (gC (.int 0)))) (sSet 2 (g2 vIx (gVar 1) (gC (.int 5)))) sNx)
    (sRet (gArgs vTup (aCons (g2 vIx (gVar 1) (gC (.int 0))) (aCons (gArgs F_law_point (aCons (gVar 2) (aCons (g2 vSub (g2 vIx (gVar 1) (gC (.int 2))) (gC (.int 9))) (aCons (g2 vAdd (gC (.int 1)) (g2 vIx (gVar 1) (gC (.int 3)))) aNil)))) aNil)))))))
def F_law_motion : List D → Option D := runF 3 1 g_law_motion
def g_common_divisor : GS := (sSeq (sSet 0 (gArgs (l1 vAbs) (aCons (gVar 0) aNil)))
    (sSeq (sSet 1 (gArgs (l1 vAbs) (aCons (gVar 1) aNil)))
    (sSeq (fun env => whileG (gTruth (gVar 1)) (sPar 0 1 (gVar 1) (g2 vMod (gVar 0) (gVar 1))) 1000000 env)
    (sRet (gVar 0)))))
def F_common_divisor : List D → Option D := runF 2 2 g_common_divisor
def g_point : GS := (sSeq (sSet 3 (gArgs F_common_divisor (aCons (gArgs F_common_divisor (aCons (gVar 0) (aCons (gVar 1) aNil))) (aCons (gVar 2) aNil))))
    (sSeq (sIf (gTest (g2 vLt (gVar 2) (gC (.int 0)))) (sSet 3 (g1 vNeg (gVar 3))) sNx)
    (sRet (gArgs vTup (aCons (g2 vFdiv (gVar 0) (gVar 3)) (aCons (g2 vFdiv (gVar 1) (gVar 3)) (aCons (g2 vFdiv (gVar 2) (gVar 3)) aNil)))))))
def F_point : List D → Option D := runF 4 3 g_point
def g_added : GS := (sRet (gArgs F_point (aCons (g2 vAdd (g2 vMul (g2 vIx (gVar 0) (gC (.int 0))) (g2 vIx (gVar 1) (gC (.int 2)))) (g2 vMul (g2 vIx (gVar 1) (gC (.int 0))) (g2 vIx (gVar 0) (gC (.int 2))))) (aCons (g2 vAdd (g2 vMul (g2 vIx (gVar 0) (gC (.int 1))) (g2 vIx (gVar 1) (gC (.int 2)))) (g2 vMul (g2 vIx (gVar 1) (gC (.int 1))) (g2 vIx (gVar 0) (gC (.int 2))))) (aCons (g2 vMul (g2 vIx (gVar 0) (gC (.int 2))) (g2 vIx (gVar 1) (gC (.int 2)))) aNil)))))
def F_added : List D → Option D := runF 2 2 g_added
def g_turned : GS := (sSeq (sAsg (gVar 1) (tTuple [(tName 2), (tName 3), (tName 4)]))
    (sSeq (sIf (gTest (g2 vEq (gVar 0) (gC (.int 1)))) (sRet (gArgs vTup (aCons (g1 vNeg (gVar 3)) (aCons (gVar 2) (aCons (gVar 4) aNil))))) sNx)
    (sSeq (sIf (gTest (g2 vEq (gVar 0) (gC (.int 2)))) (sRet (gArgs vTup (aCons (g1 vNeg (gVar 2)) (aCons (g1 vNeg (gVar 3)) (aCons (gVar 4) aNil))))) sNx)
    (sSeq (sIf (gTest (g2 vEq (gVar 0) (gC (.int 3)))) (sRet (gArgs vTup (aCons (gVar 3) (aCons (g1 vNeg (gVar 2)) (aCons (gVar 4) aNil))))) sNx)
    (sRet (gVar 1))))))
def F_turned : List D → Option D := runF 5 2 g_turned
def g_moved : GS := (sRet (gArgs F_added (aCons (gArgs F_turned (aCons (g2 vIx (gVar 0) (gC (.int 0))) (aCons (gVar 1) aNil))) (aCons (g2 vIx (gVar 0) (gC (.int 1))) aNil))))
def F_moved : List D → Option D := runF 2 2 g_moved
def g_follow : GS := (sRet (gArgs vTup (aCons (g2 vMod (g2 vAdd (g2 vIx (gVar 0) (gC (.int 0))) (g2 vIx (gVar 1) (gC (.int 0)))) (gC (.int 4))) (aCons (gArgs F_added (aCons (gArgs F_turned (aCons (g2 vIx (gVar 1) (gC (.int 0))) (aCons (g2 vIx (gVar 0) (gC (.int 1))) aNil))) (aCons (g2 vIx (gVar 1) (gC (.int 1))) aNil))) aNil))))
def F_follow : List D → Option D := runF 2 2 g_follow
def g_undo : GS := (sSeq (sSet 1 (g2 vMod (g2 vSub (gC (.int 4)) (g2 vIx (gVar 0) (gC (.int 0)))) (gC (.int 4))))
    (sSeq (sAsg (gArgs F_turned (aCons (gVar 1) (aCons (g2 vIx (gVar 0) (gC (.int 1))) aNil))) (tTuple [(tName 2), (tName 3), (tName 4)]))
    (sRet (gArgs vTup (aCons (gVar 1) (aCons (gArgs vTup (aCons (g1 vNeg (gVar 2)) (aCons (g1 vNeg (gVar 3)) (aCons (gVar 4) aNil)))) aNil))))))
def F_undo : List D → Option D := runF 5 1 g_undo
def g_law_cell : GS := (sSeq (sIf (gTest (g2 vLt (gVar 1) (gArgs (l1 vLen) (aCons (gVar 0) aNil)))) (sRet (g2 vIx (gVar 0) (gVar 1))) sNx)
    (sRet (gC (.int 0))))
def F_law_cell : List D → Option D := runF 2 2 g_law_cell
def g_law_moved : GS := (sSeq (sAsg (gVar 1) (tTuple [(tName 2), (tName 3), (tName 4)]))
    (sSeq (sFor (gRange1 (g2 vIx (gVar 0) (gC (.int 0)))) (tName 5) (sPar 2 3 (g1 vNeg (gVar 3)) (gVar 2)))
    (sSeq (sSet 6 (g2 vIx (gVar 0) (gC (.int 1))))
    (sRet (gArgs F_law_point (aCons (g2 vAdd (g2 vMul (gVar 2) (g2 vIx (gVar 6) (gC (.int 2)))) (g2 vMul (g2 vIx (gVar 6) (gC (.int 0))) (gVar 4))) (aCons (g2 vAdd (g2 vMul (gVar 3) (g2 vIx (gVar 6) (gC (.int 2)))) (g2 vMul (g2 vIx (gVar 6) (gC (.int 1))) (gVar 4))) (aCons (g2 vMul (gVar 4) (g2 vIx (gVar 6) (gC (.int 2)))) aNil))))))))
def F_law_moved : List D → Option D := runF 7 2 g_law_moved
def g_law_is_motion : GS := (sSeq (sIf (gOr (gNot (gTest (gArgs (vIsi "tuple") (aCons (gVar 0) aNil)))) (gOr (gTest (g2 vNe (gArgs (l1 vLen) (aCons (gVar 0) aNil)) (gC (.int 2)))) (gTest (g2 vNotIn (g2 vIx (gVar 0) (gC (.int 0))) (gArgs vLst (aCons (gC (.int 0)) (aCons (gC (.int 1)) (aCons (gC (.int 2)) (aCons (gC (.int 3)) aNil))))))))) (sRet (gC (.bool false))) sNx)
    (sSeq (sSet 1 (g2 vIx (gVar 0) (gC (.int 1))))
    (sRet (gAndV (gArgs (vIsi "tuple") (aCons (gVar 1) aNil)) (gAndV (g2 vEq (gArgs (l1 vLen) (aCons (gVar 1) aNil)) (gC (.int 3))) (gAndV (g2 vGt (g2 vIx (gVar 1) (gC (.int 2))) (gC (.int 0))) (g2 vEq (gArgs F_law_point (aCons (g2 vIx (gVar 1) (gC (.int 0))) (aCons (g2 vIx (gVar 1) (gC (.int 1))) (aCons (g2 vIx (gVar 1) (gC (.int 2))) aNil)))) (gVar 1))))))))
def F_law_is_motion : List D → Option D := runF 2 1 g_law_is_motion
def g_law : GS := (sSeq (sSet 1 (gArgs F_law_motion (aCons (gArgs F_law_cell (aCons (gVar 0) (aCons (gC (.int 0)) aNil))) aNil)))
    (sSeq (sSet 2 (gArgs F_law_motion (aCons (g2 vAdd (gArgs F_law_cell (aCons (gVar 0) (aCons (gC (.int 1)) aNil))) (gC (.int 1))) aNil)))
    (sSeq (sSet 3 (gArgs F_law_parts (aCons (gArgs F_law_cell (aCons (gVar 0) (aCons (gC (.int 2)) aNil))) (aCons (gArgs vLst (aCons (gC (.int 41)) (aCons (gC (.int 41)) (aCons (gC (.int 4)) aNil)))) aNil))))
    (sSeq (sSet 4 (gArgs F_law_point (aCons (g2 vSub (g2 vIx (gVar 3) (gC (.int 0))) (gC (.int 20))) (aCons (g2 vSub (g2 vIx (gVar 3) (gC (.int 1))) (gC (.int 20))) (aCons (g2 vAdd (gC (.int 1)) (g2 vIx (gVar 3) (gC (.int 2)))) aNil)))))
    (sSeq (sSet 5 (gArgs F_moved (aCons (gVar 1) (aCons (gVar 4) aNil))))
    (sSeq (sIf (gTest (g2 vNe (g1 vRepr1 (gVar 5)) (g1 vRepr1 (gArgs F_law_moved (aCons (gVar 1) (aCons (gVar 4) aNil)))))) (sRet (gC (.bool false))) sNx)
    (sSeq (sSet 6 (gArgs F_follow (aCons (gVar 1) (aCons (gVar 2) aNil))))
    (sSeq (sSet 7 (gArgs F_undo (aCons (gVar 1) aNil)))
    (sSeq (sIf (gOr (gNot (gTest (gArgs F_law_is_motion (aCons (gVar 6) aNil)))) (gNot (gTest (gArgs F_law_is_motion (aCons (gVar 7) aNil))))) (sRet (gC (.bool false))) sNx)
    (sSeq (sIf (gOr (gTest (g2 vNe (g1 vRepr1 (gArgs F_law_moved (aCons (gVar 6) (aCons (gVar 4) aNil)))) (g1 vRepr1 (gArgs F_law_moved (aCons (gVar 2) (aCons (gVar 5) aNil)))))) (gTest (g2 vNe (g1 vRepr1 (gArgs F_law_moved (aCons (gVar 7) (aCons (gVar 5) aNil)))) (g1 vRepr1 (gVar 4))))) (sRet (gC (.bool false))) sNx)
    (sRet (gAndV (g2 vEq (gArgs F_follow (aCons (gVar 1) (aCons (gVar 7) aNil))) (gArgs vTup (aCons (gC (.int 0)) (aCons (gArgs vTup (aCons (gC (.int 0)) (aCons (gC (.int 0)) (aCons (gC (.int 1)) aNil)))) aNil)))) (gAndV (g2 vEq (gArgs F_follow (aCons (gVar 7) (aCons (gVar 1) aNil))) (gArgs vTup (aCons (gC (.int 0)) (aCons (gArgs vTup (aCons (gC (.int 0)) (aCons (gC (.int 0)) (aCons (gC (.int 1)) aNil)))) aNil)))) (g2 vEq (gArgs F_undo (aCons (gVar 7) aNil)) (gVar 1)))))))))))))))
def F_law : List D → Option D := runF 8 1 g_law
local macro_rules | `(tactic| walk_at "dn") => `(tactic| try simp -implicitDefEqProofs only [runF, gComp, startE, sSeq, sIf, sSet, sOwn, sApp, sRet, sNx, sPar, sAsg, sAug, sFor, sFrz, oNone, oSome, sPop, sRevIn, sDrop, sBk, sCt, sRetN, gYes, gListOf, gSlice, frz, tName, tTuple, gVar, gVarB, gC, g1, g2, aCons, aNil, gArgs, gTest, gTruth, gAnd, gOr, gNot, gAndV, gOrV, gNotV, gIfE, gRange1, gRange2, gLst, gTpl, vIsN, vNotN, vAdd_int, vIAdd_int, vSub_int, vSub_bool, vNeg_int, vLt_int, vLe_int, vGt_int, vGe_int, vEq_int, vNe_int, vEq_str, vNe_str, vIx_list, vIx_tup, vLen_list, vLen_tup, vAbs_int, vToI_int, vToI_bool, vTruth_int, vTruth_bool, vTruth_none, vTruth_list, vTruth_tup, asBool_bool, vTup_l, vLst_l, vTuple_list, vTuple_tup, vList_list, vList_tup, vRev_list, l1_1, l2_2, look_val, lookB_val, lookB_own, thenS_nx, thenS_ret, thenS_bk, thenS_ct, turnS_nx, turnS_ct, turnS_bk, turnS_ret, endF_ret, endF_nx, asTpl_tup, asLst_list, appS_own, popS_own, revS_own, frzS_own, frzS_val, asPart_int, isNone_none, isNone_tup, isNone_list, isNone_int, forG_nil, forG_cons, compG_nil, compG_cons, noOwB_nil, noOwB_cons, isOwn_val, isOwn_un, wipeE_nil, wipeE_cons, tTup2_nil, tTup2_cons, atD_0, atD_1, atD_2, atD_3, atD_4, atD_5, atD_6, atD_7, atD_8, atD_9, atD_10, atD_11, Option.bind_some, Option.bind_none, List.length_cons, List.length_nil, List.map_cons, List.map_nil, List.replicate, List.getElem?_cons_zero, List.getElem?_cons_succ, List.set_cons_zero, List.set_cons_succ, List.cons_append, List.nil_append, Nat.add_sub_cancel, Nat.sub_self, Nat.reduceAdd, Nat.reduceSub, if_true, if_false, reduceIte, Bool.not_true, Bool.not_false, Bool.false_eq_true, Bool.true_and, Bool.and_true, Bool.false_and, Bool.and_false, Bool.true_or, Bool.or_true, Bool.false_or, Bool.or_false, Int.toNat_natCast, Int.reduceLT, Int.reduceToNat, decide_true, decide_false])
local macro_rules | `(tactic| walk_at "bd") => `(tactic| (repeat' (first | exact S.mono (by assumption) (by decide) | exact S.lit (by decide) | apply S.mul | apply S.add | apply S.sub | apply S.neg | apply S.up)))
theorem common_divisor_eq {k : Nat} {a b : Int} (ha : Bd k a) (hb : Bd k b) (hk : k ≤ 18000) : F_common_divisor [.int a, .int b] = some (.int ((Int.gcd a b : Nat) : Int)) := by
  have key := euclid2 (fun n x y g => whileG (gTruth (gVar 1)) (sPar 0 1 (gVar 1) (g2 vMod (gVar 0) (gVar 1))) n [.val (.int (x : Int)), .val (.int (y : Int))] = some (.nx [.val (.int (g : Int)), .val (.int 0)])) (fun n a => by
      simp -implicitDefEqProofs only [whileG]
      walk_at "dn"
      rfl) (fun n a b g hb ih => by
      have h0 : ((b : Int) != 0) = true := by
        simp only [bne_iff_ne, ne_eq]; omega
      have h1 : ¬ ((b : Int) = 0) := by omega
      simp -implicitDefEqProofs only [whileG]
      walk_at "dn"
      simp only [h0, if_true, vMod, if_neg h1, Option.bind_some, fmod_nat]
      exact ih) k 1000000 a.natAbs b.natAbs ha hb (by omega)
  unfold F_common_divisor g_common_divisor
  walk_at "dn"
  rw [abs_nat a, abs_nat b]
  have key : whileG (gTruth (gVar 1)) (sPar 0 1 (gVar 1) (g2 vMod (gVar 0) (gVar 1))) 1000000 [.val (.int (a.natAbs : Int)), .val (.int (b.natAbs : Int))] = _ := key
  rw [key]
  rfl
theorem law_divisor_eq {k : Nat} {a b : Int} (ha : Bd k a) (hb : Bd k b) (hk : k ≤ 18000) : F_law_divisor [.int a, .int b] = some (.int ((Int.gcd a b : Nat) : Int)) := by
  have key := euclid2 (fun n x y g => ∀ (ds : List D) (s : Slot), ds.length = n → forG (tName 2) (sSeq (sIf (gTest (g2 vEq (gVar 1) (gC (.int 0)))) (sRet (gVar 0)) sNx) (sPar 0 1 (gVar 1) (g2 vMod (gArgs (l1 vToI) (aCons (gVar 0) aNil)) (gVar 1)))) ds [.val (.int (x : Int)), .val (.int (y : Int)), s] = some (.ret (.int (g : Int)))) (fun n a ds s hl => by
      cases ds with
      | nil => cases hl
      | cons d ds =>
        simp -implicitDefEqProofs only [forG_cons]
        walk_at "dn"
        rfl) (fun n a b g hb ih ds s hl => by
      cases ds with
      | nil => cases hl
      | cons d ds =>
        have h1 : ¬ ((b : Int) = 0) := by omega
        simp -implicitDefEqProofs only [forG_cons]
        walk_at "dn"
        simp only [h1, decide_false, Bool.false_eq_true, if_false]
        walk_at "dn"
        simp only [vMod, if_neg h1, Option.bind_some, fmod_nat]
        exact ih ds _ (by simpa using hl)) k 40000 a.natAbs b.natAbs ha hb (by omega)
  unfold F_law_divisor g_law_divisor
  walk_at "dn"
  rw [abs_nat a, abs_nat b, vRange1_int (by decide), Option.bind_some, key (rngD 0 (Int.toNat 40000)) .un (rngD_length _ _)]
  rfl
theorem law_cell_eq (ns : List Int) (k : Nat) : ∃ c : Int, F_law_cell [.list (dI ns), .int (k : Int)] = some (.int c) := by
  unfold F_law_cell g_law_cell
  by_cases h : k < ns.length
  · refine ⟨ns[k], ?_⟩
    walk_at "dn"
    rw [dI_length, decide_eq_true (show (k : Int) < (ns.length : Int) by omega)]
    walk_at "dn"
    rw [atD_nat, dI_get, List.getElem?_eq_getElem h]
    rfl
  · refine ⟨0, ?_⟩
    walk_at "dn"
    rw [dI_length, decide_eq_false (show ¬ (k : Int) < (ns.length : Int) by omega)]
    walk_at "dn"
theorem law_parts_loop (c : Int) (ss : List Int) (hs : ∀ s ∈ ss, 0 < s ∧ Bd 250 s) (hn : ss.length ≤ 1000) : ∀ (m lo : Nat) (acc : List Int) (rest : Int) (k x : Slot), lo + m = ss.length → Fit acc (ss.take lo) →
    ∃ (ps : List Int) (rest' : Int) (k' x' : Slot), Fit ps ss ∧ forG (tName 4) (sIf (gTest (g2 vGe (gVar 3) (gC (.int 0)))) (sSeq (sApp 2 (g2 vMod (gArgs (l1 vToI) (aCons (gVar 3) aNil)) (g2 vIx (gVar 1) (gVar 4))))
    (sSet 3 (g2 vFdiv (gVar 3) (g2 vIx (gVar 1) (gVar 4))))) (sSeq (sSet 5 (g2 vMod (gArgs (l1 vToI) (aCons (g2 vAdd (g2 vAdd (g2 vMul (gVar 0) (gC (.int 48271))) (g2 vMul (gVar 4) (gC (.int 69621)))) (gC (.int 11))) aNil)) (gC (.int 2147483647))))
    (sSeq (sSet 5 (g2 vMod (gArgs (l1 vToI) (aCons (g2 vAdd (g2 vAdd (g2 vMul (gVar 5) (gVar 5)) (g2 vMul (gC (.int 16807)) (gVar 4))) (gC (.int 5))) aNil)) (gC (.int 998244353))))
    (sApp 2 (g2 vMod (gArgs (l1 vToI) (aCons (gVar 5) aNil)) (g2 vIx (gVar 1) (gVar 4))))))) (rngD (lo : Int) m) [.val (.int c), .val (.list (dI ss)), .own (dI acc), .val (.int rest), k, x]
      = some (.nx [.val (.int c), .val (.list (dI ss)), .own (dI ps), .val (.int rest'), k', x']) := by
  intro m
  induction m with
  | zero =>
    intro lo acc rest k x hl hf
    refine ⟨acc, rest, k, x, ?_, rfl⟩
    rw [List.take_of_length_le (by omega)] at hf
    exact hf
  | succ m ih =>
    intro lo acc rest k x hl hf
    have hlt : lo < ss.length := by omega
    have hget : ss[lo]? = some ss[lo] := List.getElem?_eq_getElem hlt
    obtain ⟨hp, hb⟩ := hs ss[lo] (List.getElem_mem hlt)
    have hix : atD (dI ss) (lo : Int) = some (.int ss[lo]) := by rw [atD_nat, dI_get, hget]; rfl
    have htk : ss.take (lo + 1) = ss.take lo ++ [ss[lo]] := by rw [List.take_add_one, hget]; rfl
    have hal : acc.length = lo := by rw [hf.length, List.length_take]; omega
    have hlim : (dI acc).length < lim := by rw [dI_length, hal]; unfold lim; omega
    rw [rngD_succ]
    by_cases h : (0 : Int) ≤ rest
    · obtain ⟨ps, r', k', x', h1, h2⟩ := ih (lo + 1) (acc ++ [rest % ss[lo]]) (rest / ss[lo]) (.val (.int (lo : Int))) x (by omega) (by
        rw [htk]
        exact hf.snoc (Int.emod_nonneg _ (by omega)) (Int.emod_lt_of_pos _ hp))
      refine ⟨ps, r', k', x', h1, ?_⟩
      simp -implicitDefEqProofs only [forG_cons]
      walk_at "dn"
      simp only [h, decide_true, if_true, hix, Option.bind_some, vMod_pos hp, hlim]
      walk_at "dn"
      simp only [hix, Option.bind_some, vFdiv_pos hp hb (by decide) (by decide), Option.bind_some]
      walk_at "dn"
      rw [← dI_app, dI_cons, dI_nil, show (((lo + 1 : Nat)) : Int) = (lo : Int) + 1 from rfl] at h2
      exact h2
    · generalize hm1 : (c * 48271 + (lo : Int) * 69621 + 11) % 2147483647 = m1
      have m1a : 0 ≤ m1 := by rw [← hm1]; exact Int.emod_nonneg _ (by decide)
      have m1b : m1 < 2147483647 := by rw [← hm1]; exact Int.emod_lt_of_pos _ (by decide)
      have b1 : Bd 64 m1 := bd_range 0 2147483647 m1a (by omega) (by decide) (by decide)
      generalize hm2 : (m1 * m1 + 16807 * (lo : Int) + 5) % 998244353 = m2
      obtain ⟨ps, r', k', x', h1, h2⟩ := ih (lo + 1) (acc ++ [m2 % ss[lo]]) rest (.val (.int (lo : Int))) (.val (.int m2)) (by omega) (by
        rw [htk]
        exact hf.snoc (Int.emod_nonneg _ (by omega)) (Int.emod_lt_of_pos _ hp))
      refine ⟨ps, r', k', x', h1, ?_⟩
      simp -implicitDefEqProofs only [forG_cons]
      walk_at "dn"
      simp only [h, decide_false, if_false, Bool.false_eq_true, Option.bind_some, vMul_ok (mulOk_right (x := c) (y := 48271) (bd_lit (by decide))), vMul_ok (mulOk_right (x := (lo : Int)) (y := 69621) (bd_lit (by decide)))]
      walk_at "dn"
      simp only [vMod_pos (show (0 : Int) < 2147483647 by decide), Option.bind_some, hm1]
      walk_at "dn"
      simp only [vMul_ok (mulOk_left (y := m1) b1), vMul_ok (mulOk_left (x := 16807) (y := (lo : Int)) (bd_lit (by decide))), Option.bind_some]
      walk_at "dn"
      simp only [vMod_pos (show (0 : Int) < 998244353 by decide), Option.bind_some, hm2]
      walk_at "dn"
      simp only [hix, Option.bind_some, vMod_pos hp, hlim, if_true]
      walk_at "dn"
      rw [← dI_app, dI_cons, dI_nil, show (((lo + 1 : Nat)) : Int) = (lo : Int) + 1 from rfl] at h2
      exact h2
theorem law_parts_eq (c : Int) (ss : List Int) (hs : ∀ s ∈ ss, 0 < s ∧ Bd 250 s) (hn : ss.length ≤ 1000) : ∃ ps : List Int, Fit ps ss ∧ F_law_parts [.int c, .list (dI ss)] = some (.list (dI ps)) := by
  obtain ⟨ps, r', k', x', h1, h2⟩ := law_parts_loop c ss hs hn ss.length 0 [] (c - 1000000000000000000) .un .un (by omega) .nil
  refine ⟨ps, h1, ?_⟩
  unfold F_law_parts g_law_parts
  walk_at "dn"
  rw [vPow_10_18]
  walk_at "dn"
  rw [dI_length, vRange1_int (by omega), Option.bind_some, Int.toNat_natCast]
  have h2 := h2
  rw [Int.natCast_zero] at h2
  rw [dI_nil] at h2
  rw [h2]
  walk_at "dn"
theorem point_eq {k : Nat} {x y w : Int} (hx : Bd k x) (hy : Bd k y) (hw : Bd k w) (h0 : w ≠ 0) (k0 : 0 < k) (hk : k ≤ 9000) : F_point [.int x, .int y, .int w] = some (P x y w) := by
  have e1 : F_common_divisor [.int x, .int y] = some (.int ((Int.gcd x y : Nat) : Int)) := common_divisor_eq hx hy (by omega)
  have bg : Bd k ((Int.gcd x y : Nat) : Int) := by
    by_cases z : x = 0
    · subst z
      rw [Int.gcd_zero_left]
      unfold Bd at *
      omega
    · exact hx.gcd_left z
  have e2 : F_common_divisor [.int ((Int.gcd x y : Nat) : Int), .int w] = some (.int (gg x y w)) := common_divisor_eq bg hw (by omega)
  have gp : 0 < gg x y w := gg_pos h0
  have gb : Bd k (gg x y w) := hw.gcd_right h0
  obtain ⟨d1, d2, d3⟩ := gg_dvd x y w
  unfold F_point g_point
  by_cases h : w < 0
  · have fd : ∀ z : Int, gg x y w ∣ z → vFdiv (.int z) (.int (-gg x y w)) = some (.int (-z / gg x y w)) := fun z hz => by
      show (if divOk (-gg x y w) = true then some (PyData.int (z.fdiv (-gg x y w))) else none) = _
      rw [if_pos (divOk_of gb.neg (by omega) k0 hk), fdiv_neg_exact gp hz]
    have f1 := fd x d1
    have f2 := fd y d2
    have f3 := fd w d3
    simp -implicitDefEqProofs only [e1, e2, h, f1, f2, f3, runF, gComp, startE, sSeq, sIf, sSet, sOwn, sApp, sRet, sNx, sPar, sAsg, sAug, sFor, sFrz, oNone, oSome, sPop, sRevIn, sDrop, sBk, sCt, sRetN, gYes, gListOf, gSlice, frz, tName, tTuple, gVar, gVarB, gC, g1, g2, aCons, aNil, gArgs, gTest, gTruth, gAnd, gOr, gNot, gAndV, gOrV, gNotV, gIfE, gRange1, gRange2, gLst, gTpl, vIsN, vNotN, vAdd_int, vIAdd_int, vSub_int, vSub_bool, vNeg_int, vLt_int, vLe_int, vGt_int, vGe_int, vEq_int, vNe_int, vEq_str, vNe_str, vIx_list, vIx_tup, vLen_list, vLen_tup, vAbs_int, vToI_int, vToI_bool, vTruth_int, vTruth_bool, vTruth_none, vTruth_list, vTruth_tup, asBool_bool, vTup_l, vLst_l, vTuple_list, vTuple_tup, vList_list, vList_tup, vRev_list, l1_1, l2_2, look_val, lookB_val, lookB_own, thenS_nx, thenS_ret, thenS_bk, thenS_ct, turnS_nx, turnS_ct, turnS_bk, turnS_ret, endF_ret, endF_nx, asTpl_tup, asLst_list, appS_own, popS_own, revS_own, frzS_own, frzS_val, asPart_int, isNone_none, isNone_tup, isNone_list, isNone_int, forG_nil, forG_cons, compG_nil, compG_cons, noOwB_nil, noOwB_cons, isOwn_val, isOwn_un, wipeE_nil, wipeE_cons, tTup2_nil, tTup2_cons, atD_0, atD_1, atD_2, atD_3, atD_4, atD_5, atD_6, atD_7, atD_8, atD_9, atD_10, atD_11, Option.bind_some, Option.bind_none, List.length_cons, List.length_nil, List.map_cons, List.map_nil, List.replicate, List.getElem?_cons_zero, List.getElem?_cons_succ, List.set_cons_zero, List.set_cons_succ, List.cons_append, List.nil_append, Nat.add_sub_cancel, Nat.sub_self, Nat.reduceAdd, Nat.reduceSub, if_true, if_false, reduceIte, Bool.not_true, Bool.not_false, Bool.false_eq_true, Bool.true_and, Bool.and_true, Bool.false_and, Bool.and_false, Bool.true_or, Bool.or_true, Bool.false_or, Bool.or_false, Int.toNat_natCast, Int.reduceLT, Int.reduceToNat, decide_true, decide_false]
    unfold P pt p1 p2 p3 ptX
    simp only [h, if_true]
  · have fd : ∀ z : Int, vFdiv (.int z) (.int (gg x y w)) = some (.int (z / gg x y w)) := fun z => vFdiv_pos gp gb k0 hk
    simp -implicitDefEqProofs only [e1, e2, h, fd, runF, gComp, startE, sSeq, sIf, sSet, sOwn, sApp, sRet, sNx, sPar, sAsg, sAug, sFor, sFrz, oNone, oSome, sPop, sRevIn, sDrop, sBk, sCt, sRetN, gYes, gListOf, gSlice, frz, tName, tTuple, gVar, gVarB, gC, g1, g2, aCons, aNil, gArgs, gTest, gTruth, gAnd, gOr, gNot, gAndV, gOrV, gNotV, gIfE, gRange1, gRange2, gLst, gTpl, vIsN, vNotN, vAdd_int, vIAdd_int, vSub_int, vSub_bool, vNeg_int, vLt_int, vLe_int, vGt_int, vGe_int, vEq_int, vNe_int, vEq_str, vNe_str, vIx_list, vIx_tup, vLen_list, vLen_tup, vAbs_int, vToI_int, vToI_bool, vTruth_int, vTruth_bool, vTruth_none, vTruth_list, vTruth_tup, asBool_bool, vTup_l, vLst_l, vTuple_list, vTuple_tup, vList_list, vList_tup, vRev_list, l1_1, l2_2, look_val, lookB_val, lookB_own, thenS_nx, thenS_ret, thenS_bk, thenS_ct, turnS_nx, turnS_ct, turnS_bk, turnS_ret, endF_ret, endF_nx, asTpl_tup, asLst_list, appS_own, popS_own, revS_own, frzS_own, frzS_val, asPart_int, isNone_none, isNone_tup, isNone_list, isNone_int, forG_nil, forG_cons, compG_nil, compG_cons, noOwB_nil, noOwB_cons, isOwn_val, isOwn_un, wipeE_nil, wipeE_cons, tTup2_nil, tTup2_cons, atD_0, atD_1, atD_2, atD_3, atD_4, atD_5, atD_6, atD_7, atD_8, atD_9, atD_10, atD_11, Option.bind_some, Option.bind_none, List.length_cons, List.length_nil, List.map_cons, List.map_nil, List.replicate, List.getElem?_cons_zero, List.getElem?_cons_succ, List.set_cons_zero, List.set_cons_succ, List.cons_append, List.nil_append, Nat.add_sub_cancel, Nat.sub_self, Nat.reduceAdd, Nat.reduceSub, if_true, if_false, reduceIte, Bool.not_true, Bool.not_false, Bool.false_eq_true, Bool.true_and, Bool.and_true, Bool.false_and, Bool.and_false, Bool.true_or, Bool.or_true, Bool.false_or, Bool.or_false, Int.toNat_natCast, Int.reduceLT, Int.reduceToNat, decide_true, decide_false]
    unfold P pt p1 p2 p3 ptX
    simp only [h, if_false]
theorem law_point_eq {k : Nat} {x y w : Int} (hx : Bd k x) (hy : Bd k y) (hw : Bd k w) (h0 : 0 < w) (k0 : 0 < k) (hk : k ≤ 9000) : F_law_point [.int x, .int y, .int w] = some (P x y w) := by
  have z0 : w ≠ 0 := by omega
  have e1 : F_law_divisor [.int x, .int y] = some (.int ((Int.gcd x y : Nat) : Int)) := law_divisor_eq hx hy (by omega)
  have bg : Bd k ((Int.gcd x y : Nat) : Int) := by
    by_cases z : x = 0
    · subst z
      rw [Int.gcd_zero_left]
      unfold Bd at *
      omega
    · exact hx.gcd_left z
  have e2 : F_law_divisor [.int ((Int.gcd x y : Nat) : Int), .int w] = some (.int (gg x y w)) := law_divisor_eq bg hw (by omega)
  have gp : 0 < gg x y w := gg_pos z0
  have gb : Bd k (gg x y w) := hw.gcd_right z0
  unfold F_law_point g_law_point
  have h : ¬ w < 0 := by omega
  have fd : ∀ z : Int, vFdiv (.int z) (.int (gg x y w)) = some (.int (z / gg x y w)) := fun z => vFdiv_pos gp gb k0 hk
  simp -implicitDefEqProofs only [e1, e2, fd, runF, gComp, startE, sSeq, sIf, sSet, sOwn, sApp, sRet, sNx, sPar, sAsg, sAug, sFor, sFrz, oNone, oSome, sPop, sRevIn, sDrop, sBk, sCt, sRetN, gYes, gListOf, gSlice, frz, tName, tTuple, gVar, gVarB, gC, g1, g2, aCons, aNil, gArgs, gTest, gTruth, gAnd, gOr, gNot, gAndV, gOrV, gNotV, gIfE, gRange1, gRange2, gLst, gTpl, vIsN, vNotN, vAdd_int, vIAdd_int, vSub_int, vSub_bool, vNeg_int, vLt_int, vLe_int, vGt_int, vGe_int, vEq_int, vNe_int, vEq_str, vNe_str, vIx_list, vIx_tup, vLen_list, vLen_tup, vAbs_int, vToI_int, vToI_bool, vTruth_int, vTruth_bool, vTruth_none, vTruth_list, vTruth_tup, asBool_bool, vTup_l, vLst_l, vTuple_list, vTuple_tup, vList_list, vList_tup, vRev_list, l1_1, l2_2, look_val, lookB_val, lookB_own, thenS_nx, thenS_ret, thenS_bk, thenS_ct, turnS_nx, turnS_ct, turnS_bk, turnS_ret, endF_ret, endF_nx, asTpl_tup, asLst_list, appS_own, popS_own, revS_own, frzS_own, frzS_val, asPart_int, isNone_none, isNone_tup, isNone_list, isNone_int, forG_nil, forG_cons, compG_nil, compG_cons, noOwB_nil, noOwB_cons, isOwn_val, isOwn_un, wipeE_nil, wipeE_cons, tTup2_nil, tTup2_cons, atD_0, atD_1, atD_2, atD_3, atD_4, atD_5, atD_6, atD_7, atD_8, atD_9, atD_10, atD_11, Option.bind_some, Option.bind_none, List.length_cons, List.length_nil, List.map_cons, List.map_nil, List.replicate, List.getElem?_cons_zero, List.getElem?_cons_succ, List.set_cons_zero, List.set_cons_succ, List.cons_append, List.nil_append, Nat.add_sub_cancel, Nat.sub_self, Nat.reduceAdd, Nat.reduceSub, if_true, if_false, reduceIte, Bool.not_true, Bool.not_false, Bool.false_eq_true, Bool.true_and, Bool.and_true, Bool.false_and, Bool.and_false, Bool.true_or, Bool.or_true, Bool.false_or, Bool.or_false, Int.toNat_natCast, Int.reduceLT, Int.reduceToNat, decide_true, decide_false]
  unfold P pt p1 p2 p3 ptX
  simp only [h, if_false]
theorem point_S {x y w : Int} (hx : S 7 x) (hy : S 7 y) (hw : S 7 w) (h0 : w ≠ 0) : F_point [.int x, .int y, .int w] = some (P x y w) := point_eq (k := 64 * 2 ^ 7) hx.b hy.b hw.b h0 (by decide) (by decide)
theorem law_point_S {x y w : Int} (hx : S 7 x) (hy : S 7 y) (hw : S 7 w) (h0 : 0 < w) : F_law_point [.int x, .int y, .int w] = some (P x y w) := law_point_eq (k := 64 * 2 ^ 7) hx.b hy.b hw.b h0 (by decide) (by decide)
theorem added_S {a b c d e f : Int} (ha : S 5 a) (hb : S 5 b) (hc : S 5 c) (hd : S 5 d) (he : S 5 e) (hf : S 5 f) (h0 : 0 < c) (h1 : 0 < f) : F_added [pt a b c, pt d e f] = some (P (a * f + d * c) (b * f + e * c) (c * f)) := by
  have hz : c * f ≠ 0 := Int.mul_ne_zero (by omega) (by omega)
  have e := point_S (x := a * f + d * c) (y := b * f + e * c) (w := c * f) (by walk_at "bd") (by walk_at "bd") (by walk_at "bd") hz
  unfold F_added g_added pt
  simp -implicitDefEqProofs (disch := walk_at "bd") only [e, runF, gComp, startE, sSeq, sIf, sSet, sOwn, sApp, sRet, sNx, sPar, sAsg, sAug, sFor, sFrz, oNone, oSome, sPop, sRevIn, sDrop, sBk, sCt, sRetN, gYes, gListOf, gSlice, frz, tName, tTuple, gVar, gVarB, gC, g1, g2, aCons, aNil, gArgs, gTest, gTruth, gAnd, gOr, gNot, gAndV, gOrV, gNotV, gIfE, gRange1, gRange2, gLst, gTpl, vIsN, vNotN, vAdd_int, vIAdd_int, vSub_int, vSub_bool, vNeg_int, vLt_int, vLe_int, vGt_int, vGe_int, vEq_int, vNe_int, vEq_str, vNe_str, vIx_list, vIx_tup, vLen_list, vLen_tup, vAbs_int, vToI_int, vToI_bool, vTruth_int, vTruth_bool, vTruth_none, vTruth_list, vTruth_tup, asBool_bool, vTup_l, vLst_l, vTuple_list, vTuple_tup, vList_list, vList_tup, vRev_list, l1_1, l2_2, look_val, lookB_val, lookB_own, thenS_nx, thenS_ret, thenS_bk, thenS_ct, turnS_nx, turnS_ct, turnS_bk, turnS_ret, endF_ret, endF_nx, asTpl_tup, asLst_list, appS_own, popS_own, revS_own, frzS_own, frzS_val, asPart_int, isNone_none, isNone_tup, isNone_list, isNone_int, forG_nil, forG_cons, compG_nil, compG_cons, noOwB_nil, noOwB_cons, isOwn_val, isOwn_un, wipeE_nil, wipeE_cons, tTup2_nil, tTup2_cons, atD_0, atD_1, atD_2, atD_3, atD_4, atD_5, atD_6, atD_7, atD_8, atD_9, atD_10, atD_11, Option.bind_some, Option.bind_none, List.length_cons, List.length_nil, List.map_cons, List.map_nil, List.replicate, List.getElem?_cons_zero, List.getElem?_cons_succ, List.set_cons_zero, List.set_cons_succ, List.cons_append, List.nil_append, Nat.add_sub_cancel, Nat.sub_self, Nat.reduceAdd, Nat.reduceSub, if_true, if_false, reduceIte, Bool.not_true, Bool.not_false, Bool.false_eq_true, Bool.true_and, Bool.and_true, Bool.false_and, Bool.and_false, Bool.true_or, Bool.or_true, Bool.false_or, Bool.or_false, Int.toNat_natCast, Int.reduceLT, Int.reduceToNat, decide_true, decide_false, vMul_S]
theorem turned_eq {k : Int} (h : Qt k) (x y w : Int) : F_turned [.int k, pt x y w] = some (pt (tX k x y) (tY k x y) w) := by
  rcases h.or with rfl | rfl | rfl | rfl <;> (unfold F_turned g_turned pt; simp -implicitDefEqProofs only [runF, gComp, startE, sSeq, sIf, sSet, sOwn, sApp, sRet, sNx, sPar, sAsg, sAug, sFor, sFrz, oNone, oSome, sPop, sRevIn, sDrop, sBk, sCt, sRetN, gYes, gListOf, gSlice, frz, tName, tTuple, gVar, gVarB, gC, g1, g2, aCons, aNil, gArgs, gTest, gTruth, gAnd, gOr, gNot, gAndV, gOrV, gNotV, gIfE, gRange1, gRange2, gLst, gTpl, vIsN, vNotN, vAdd_int, vIAdd_int, vSub_int, vSub_bool, vNeg_int, vLt_int, vLe_int, vGt_int, vGe_int, vEq_int, vNe_int, vEq_str, vNe_str, vIx_list, vIx_tup, vLen_list, vLen_tup, vAbs_int, vToI_int, vToI_bool, vTruth_int, vTruth_bool, vTruth_none, vTruth_list, vTruth_tup, asBool_bool, vTup_l, vLst_l, vTuple_list, vTuple_tup, vList_list, vList_tup, vRev_list, l1_1, l2_2, look_val, lookB_val, lookB_own, thenS_nx, thenS_ret, thenS_bk, thenS_ct, turnS_nx, turnS_ct, turnS_bk, turnS_ret, endF_ret, endF_nx, asTpl_tup, asLst_list, appS_own, popS_own, revS_own, frzS_own, frzS_val, asPart_int, isNone_none, isNone_tup, isNone_list, isNone_int, forG_nil, forG_cons, compG_nil, compG_cons, noOwB_nil, noOwB_cons, isOwn_val, isOwn_un, wipeE_nil, wipeE_cons, tTup2_nil, tTup2_cons, atD_0, atD_1, atD_2, atD_3, atD_4, atD_5, atD_6, atD_7, atD_8, atD_9, atD_10, atD_11, Option.bind_some, Option.bind_none, List.length_cons, List.length_nil, List.map_cons, List.map_nil, List.replicate, List.getElem?_cons_zero, List.getElem?_cons_succ, List.set_cons_zero, List.set_cons_succ, List.cons_append, List.nil_append, Nat.add_sub_cancel, Nat.sub_self, Nat.reduceAdd, Nat.reduceSub, if_true, if_false, reduceIte, Bool.not_true, Bool.not_false, Bool.false_eq_true, Bool.true_and, Bool.and_true, Bool.false_and, Bool.and_false, Bool.true_or, Bool.or_true, Bool.false_or, Bool.or_false, Int.toNat_natCast, Int.reduceLT, Int.reduceToNat, decide_true, decide_false]; rfl)
theorem moved_eq {k a b c x y w : Int} (hk : Qt k) (ha : S 5 a) (hb : S 5 b) (hc : S 5 c) (hx : S 5 x) (hy : S 5 y) (hw : S 5 w) (h0 : 0 < c) (h1 : 0 < w) : F_moved [mo k a b c, pt x y w] = some (P (tX k x y * c + a * w) (tY k x y * c + b * w) (w * c)) := by
  have t := turned_eq hk x y w
  have s := S_t hk hx hy
  have e := added_S s.1 s.2 hw ha hb hc h1 h0
  unfold F_moved g_moved mo
  simp -implicitDefEqProofs only [t, e, runF, gComp, startE, sSeq, sIf, sSet, sOwn, sApp, sRet, sNx, sPar, sAsg, sAug, sFor, sFrz, oNone, oSome, sPop, sRevIn, sDrop, sBk, sCt, sRetN, gYes, gListOf, gSlice, frz, tName, tTuple, gVar, gVarB, gC, g1, g2, aCons, aNil, gArgs, gTest, gTruth, gAnd, gOr, gNot, gAndV, gOrV, gNotV, gIfE, gRange1, gRange2, gLst, gTpl, vIsN, vNotN, vAdd_int, vIAdd_int, vSub_int, vSub_bool, vNeg_int, vLt_int, vLe_int, vGt_int, vGe_int, vEq_int, vNe_int, vEq_str, vNe_str, vIx_list, vIx_tup, vLen_list, vLen_tup, vAbs_int, vToI_int, vToI_bool, vTruth_int, vTruth_bool, vTruth_none, vTruth_list, vTruth_tup, asBool_bool, vTup_l, vLst_l, vTuple_list, vTuple_tup, vList_list, vList_tup, vRev_list, l1_1, l2_2, look_val, lookB_val, lookB_own, thenS_nx, thenS_ret, thenS_bk, thenS_ct, turnS_nx, turnS_ct, turnS_bk, turnS_ret, endF_ret, endF_nx, asTpl_tup, asLst_list, appS_own, popS_own, revS_own, frzS_own, frzS_val, asPart_int, isNone_none, isNone_tup, isNone_list, isNone_int, forG_nil, forG_cons, compG_nil, compG_cons, noOwB_nil, noOwB_cons, isOwn_val, isOwn_un, wipeE_nil, wipeE_cons, tTup2_nil, tTup2_cons, atD_0, atD_1, atD_2, atD_3, atD_4, atD_5, atD_6, atD_7, atD_8, atD_9, atD_10, atD_11, Option.bind_some, Option.bind_none, List.length_cons, List.length_nil, List.map_cons, List.map_nil, List.replicate, List.getElem?_cons_zero, List.getElem?_cons_succ, List.set_cons_zero, List.set_cons_succ, List.cons_append, List.nil_append, Nat.add_sub_cancel, Nat.sub_self, Nat.reduceAdd, Nat.reduceSub, if_true, if_false, reduceIte, Bool.not_true, Bool.not_false, Bool.false_eq_true, Bool.true_and, Bool.and_true, Bool.false_and, Bool.and_false, Bool.true_or, Bool.or_true, Bool.false_or, Bool.or_false, Int.toNat_natCast, Int.reduceLT, Int.reduceToNat, decide_true, decide_false]
theorem follow_eq {k a b c l d e f : Int} (hl : Qt l) (ha : S 5 a) (hb : S 5 b) (hc : S 5 c) (hx : S 5 d) (hy : S 5 e) (hw : S 5 f) (h0 : 0 < c) (h1 : 0 < f) : F_follow [mo k a b c, mo l d e f] = some (mo ((k + l) % 4) (p1 (tX l a b * f + d * c) (tY l a b * f + e * c) (c * f)) (p2 (tX l a b * f + d * c) (tY l a b * f + e * c) (c * f)) (p3 (tX l a b * f + d * c) (tY l a b * f + e * c) (c * f))) := by
  have t := turned_eq hl a b c
  have s := S_t hl ha hb
  have e := added_S s.1 s.2 hc hx hy hw h0 h1
  have m := vMod_pos (a := k + l) (b := 4) (by decide)
  unfold F_follow g_follow mo
  simp -implicitDefEqProofs only [t, e, m, runF, gComp, startE, sSeq, sIf, sSet, sOwn, sApp, sRet, sNx, sPar, sAsg, sAug, sFor, sFrz, oNone, oSome, sPop, sRevIn, sDrop, sBk, sCt, sRetN, gYes, gListOf, gSlice, frz, tName, tTuple, gVar, gVarB, gC, g1, g2, aCons, aNil, gArgs, gTest, gTruth, gAnd, gOr, gNot, gAndV, gOrV, gNotV, gIfE, gRange1, gRange2, gLst, gTpl, vIsN, vNotN, vAdd_int, vIAdd_int, vSub_int, vSub_bool, vNeg_int, vLt_int, vLe_int, vGt_int, vGe_int, vEq_int, vNe_int, vEq_str, vNe_str, vIx_list, vIx_tup, vLen_list, vLen_tup, vAbs_int, vToI_int, vToI_bool, vTruth_int, vTruth_bool, vTruth_none, vTruth_list, vTruth_tup, asBool_bool, vTup_l, vLst_l, vTuple_list, vTuple_tup, vList_list, vList_tup, vRev_list, l1_1, l2_2, look_val, lookB_val, lookB_own, thenS_nx, thenS_ret, thenS_bk, thenS_ct, turnS_nx, turnS_ct, turnS_bk, turnS_ret, endF_ret, endF_nx, asTpl_tup, asLst_list, appS_own, popS_own, revS_own, frzS_own, frzS_val, asPart_int, isNone_none, isNone_tup, isNone_list, isNone_int, forG_nil, forG_cons, compG_nil, compG_cons, noOwB_nil, noOwB_cons, isOwn_val, isOwn_un, wipeE_nil, wipeE_cons, tTup2_nil, tTup2_cons, atD_0, atD_1, atD_2, atD_3, atD_4, atD_5, atD_6, atD_7, atD_8, atD_9, atD_10, atD_11, Option.bind_some, Option.bind_none, List.length_cons, List.length_nil, List.map_cons, List.map_nil, List.replicate, List.getElem?_cons_zero, List.getElem?_cons_succ, List.set_cons_zero, List.set_cons_succ, List.cons_append, List.nil_append, Nat.add_sub_cancel, Nat.sub_self, Nat.reduceAdd, Nat.reduceSub, if_true, if_false, reduceIte, Bool.not_true, Bool.not_false, Bool.false_eq_true, Bool.true_and, Bool.and_true, Bool.false_and, Bool.and_false, Bool.true_or, Bool.or_true, Bool.false_or, Bool.or_false, Int.toNat_natCast, Int.reduceLT, Int.reduceToNat, decide_true, decide_false]
  rfl
theorem undo_eq {k : Int} (hk : Qt k) (a b c : Int) : F_undo [mo k a b c] = some (mo ((4 - k) % 4) (-(tX ((4 - k) % 4) a b)) (-(tY ((4 - k) % 4) a b)) c) := by
  have t := turned_eq (qt_back hk).1 a b c
  have m := vMod_pos (a := 4 - k) (b := 4) (by decide)
  unfold pt at t
  unfold F_undo g_undo mo pt
  simp -implicitDefEqProofs only [t, m, runF, gComp, startE, sSeq, sIf, sSet, sOwn, sApp, sRet, sNx, sPar, sAsg, sAug, sFor, sFrz, oNone, oSome, sPop, sRevIn, sDrop, sBk, sCt, sRetN, gYes, gListOf, gSlice, frz, tName, tTuple, gVar, gVarB, gC, g1, g2, aCons, aNil, gArgs, gTest, gTruth, gAnd, gOr, gNot, gAndV, gOrV, gNotV, gIfE, gRange1, gRange2, gLst, gTpl, vIsN, vNotN, vAdd_int, vIAdd_int, vSub_int, vSub_bool, vNeg_int, vLt_int, vLe_int, vGt_int, vGe_int, vEq_int, vNe_int, vEq_str, vNe_str, vIx_list, vIx_tup, vLen_list, vLen_tup, vAbs_int, vToI_int, vToI_bool, vTruth_int, vTruth_bool, vTruth_none, vTruth_list, vTruth_tup, asBool_bool, vTup_l, vLst_l, vTuple_list, vTuple_tup, vList_list, vList_tup, vRev_list, l1_1, l2_2, look_val, lookB_val, lookB_own, thenS_nx, thenS_ret, thenS_bk, thenS_ct, turnS_nx, turnS_ct, turnS_bk, turnS_ret, endF_ret, endF_nx, asTpl_tup, asLst_list, appS_own, popS_own, revS_own, frzS_own, frzS_val, asPart_int, isNone_none, isNone_tup, isNone_list, isNone_int, forG_nil, forG_cons, compG_nil, compG_cons, noOwB_nil, noOwB_cons, isOwn_val, isOwn_un, wipeE_nil, wipeE_cons, tTup2_nil, tTup2_cons, atD_0, atD_1, atD_2, atD_3, atD_4, atD_5, atD_6, atD_7, atD_8, atD_9, atD_10, atD_11, Option.bind_some, Option.bind_none, List.length_cons, List.length_nil, List.map_cons, List.map_nil, List.replicate, List.getElem?_cons_zero, List.getElem?_cons_succ, List.set_cons_zero, List.set_cons_succ, List.cons_append, List.nil_append, Nat.add_sub_cancel, Nat.sub_self, Nat.reduceAdd, Nat.reduceSub, if_true, if_false, reduceIte, Bool.not_true, Bool.not_false, Bool.false_eq_true, Bool.true_and, Bool.and_true, Bool.false_and, Bool.and_false, Bool.true_or, Bool.or_true, Bool.false_or, Bool.or_false, Int.toNat_natCast, Int.reduceLT, Int.reduceToNat, decide_true, decide_false]
theorem law_moved_eq {k a b c x y w : Int} (hk : Qt k) (ha : S 5 a) (hb : S 5 b) (hc : S 5 c) (hx : S 5 x) (hy : S 5 y) (hw : S 5 w) (h0 : 0 < c) (h1 : 0 < w) : F_law_moved [mo k a b c, pt x y w] = some (P (tX k x y * c + a * w) (tY k x y * c + b * w) (w * c)) := by
  have hz : 0 < w * c := Int.mul_pos h1 h0
  have s := S_t hk hx hy
  have s1 := s.1
  have s2 := s.2
  have e := law_point_S (x := tX k x y * c + a * w) (y := tY k x y * c + b * w) (w := w * c) (by walk_at "bd") (by walk_at "bd") (by walk_at "bd") hz
  have rg : vRange1 (.int k) = some (rngD 0 k.toNat) := vRange1_int (by have := hk.h0; have := hk.h4; omega)
  unfold F_law_moved g_law_moved mo pt
  rcases hk.or with rfl | rfl | rfl | rfl
  · have r0 : rngD 0 0 = [] := rfl
    change F_law_point [.int (x * c + a * w), .int (y * c + b * w), .int (w * c)] = _ at e
    simp -implicitDefEqProofs (disch := walk_at "bd") only [rg, r0, e, runF, gComp, startE, sSeq, sIf, sSet, sOwn, sApp, sRet, sNx, sPar, sAsg, sAug, sFor, sFrz, oNone, oSome, sPop, sRevIn, sDrop, sBk, sCt, sRetN, gYes, gListOf, gSlice, frz, tName, tTuple, gVar, gVarB, gC, g1, g2, aCons, aNil, gArgs, gTest, gTruth, gAnd, gOr, gNot, gAndV, gOrV, gNotV, gIfE, gRange1, gRange2, gLst, gTpl, vIsN, vNotN, vAdd_int, vIAdd_int, vSub_int, vSub_bool, vNeg_int, vLt_int, vLe_int, vGt_int, vGe_int, vEq_int, vNe_int, vEq_str, vNe_str, vIx_list, vIx_tup, vLen_list, vLen_tup, vAbs_int, vToI_int, vToI_bool, vTruth_int, vTruth_bool, vTruth_none, vTruth_list, vTruth_tup, asBool_bool, vTup_l, vLst_l, vTuple_list, vTuple_tup, vList_list, vList_tup, vRev_list, l1_1, l2_2, look_val, lookB_val, lookB_own, thenS_nx, thenS_ret, thenS_bk, thenS_ct, turnS_nx, turnS_ct, turnS_bk, turnS_ret, endF_ret, endF_nx, asTpl_tup, asLst_list, appS_own, popS_own, revS_own, frzS_own, frzS_val, asPart_int, isNone_none, isNone_tup, isNone_list, isNone_int, forG_nil, forG_cons, compG_nil, compG_cons, noOwB_nil, noOwB_cons, isOwn_val, isOwn_un, wipeE_nil, wipeE_cons, tTup2_nil, tTup2_cons, atD_0, atD_1, atD_2, atD_3, atD_4, atD_5, atD_6, atD_7, atD_8, atD_9, atD_10, atD_11, Option.bind_some, Option.bind_none, List.length_cons, List.length_nil, List.map_cons, List.map_nil, List.replicate, List.getElem?_cons_zero, List.getElem?_cons_succ, List.set_cons_zero, List.set_cons_succ, List.cons_append, List.nil_append, Nat.add_sub_cancel, Nat.sub_self, Nat.reduceAdd, Nat.reduceSub, if_true, if_false, reduceIte, Bool.not_true, Bool.not_false, Bool.false_eq_true, Bool.true_and, Bool.and_true, Bool.false_and, Bool.and_false, Bool.true_or, Bool.or_true, Bool.false_or, Bool.or_false, Int.toNat_natCast, Int.reduceLT, Int.reduceToNat, decide_true, decide_false, vMul_S]
  · have r0 : rngD 0 1 = [.int 0] := rfl
    change F_law_point [.int (-y * c + a * w), .int (x * c + b * w), .int (w * c)] = _ at e
    simp -implicitDefEqProofs (disch := walk_at "bd") only [rg, r0, e, runF, gComp, startE, sSeq, sIf, sSet, sOwn, sApp, sRet, sNx, sPar, sAsg, sAug, sFor, sFrz, oNone, oSome, sPop, sRevIn, sDrop, sBk, sCt, sRetN, gYes, gListOf, gSlice, frz, tName, tTuple, gVar, gVarB, gC, g1, g2, aCons, aNil, gArgs, gTest, gTruth, gAnd, gOr, gNot, gAndV, gOrV, gNotV, gIfE, gRange1, gRange2, gLst, gTpl, vIsN, vNotN, vAdd_int, vIAdd_int, vSub_int, vSub_bool, vNeg_int, vLt_int, vLe_int, vGt_int, vGe_int, vEq_int, vNe_int, vEq_str, vNe_str, vIx_list, vIx_tup, vLen_list, vLen_tup, vAbs_int, vToI_int, vToI_bool, vTruth_int, vTruth_bool, vTruth_none, vTruth_list, vTruth_tup, asBool_bool, vTup_l, vLst_l, vTuple_list, vTuple_tup, vList_list, vList_tup, vRev_list, l1_1, l2_2, look_val, lookB_val, lookB_own, thenS_nx, thenS_ret, thenS_bk, thenS_ct, turnS_nx, turnS_ct, turnS_bk, turnS_ret, endF_ret, endF_nx, asTpl_tup, asLst_list, appS_own, popS_own, revS_own, frzS_own, frzS_val, asPart_int, isNone_none, isNone_tup, isNone_list, isNone_int, forG_nil, forG_cons, compG_nil, compG_cons, noOwB_nil, noOwB_cons, isOwn_val, isOwn_un, wipeE_nil, wipeE_cons, tTup2_nil, tTup2_cons, atD_0, atD_1, atD_2, atD_3, atD_4, atD_5, atD_6, atD_7, atD_8, atD_9, atD_10, atD_11, Option.bind_some, Option.bind_none, List.length_cons, List.length_nil, List.map_cons, List.map_nil, List.replicate, List.getElem?_cons_zero, List.getElem?_cons_succ, List.set_cons_zero, List.set_cons_succ, List.cons_append, List.nil_append, Nat.add_sub_cancel, Nat.sub_self, Nat.reduceAdd, Nat.reduceSub, if_true, if_false, reduceIte, Bool.not_true, Bool.not_false, Bool.false_eq_true, Bool.true_and, Bool.and_true, Bool.false_and, Bool.and_false, Bool.true_or, Bool.or_true, Bool.false_or, Bool.or_false, Int.toNat_natCast, Int.reduceLT, Int.reduceToNat, decide_true, decide_false, vMul_S]
  · have r0 : rngD 0 2 = [.int 0, .int 1] := rfl
    change F_law_point [.int (-x * c + a * w), .int (-y * c + b * w), .int (w * c)] = _ at e
    simp -implicitDefEqProofs (disch := walk_at "bd") only [rg, r0, e, runF, gComp, startE, sSeq, sIf, sSet, sOwn, sApp, sRet, sNx, sPar, sAsg, sAug, sFor, sFrz, oNone, oSome, sPop, sRevIn, sDrop, sBk, sCt, sRetN, gYes, gListOf, gSlice, frz, tName, tTuple, gVar, gVarB, gC, g1, g2, aCons, aNil, gArgs, gTest, gTruth, gAnd, gOr, gNot, gAndV, gOrV, gNotV, gIfE, gRange1, gRange2, gLst, gTpl, vIsN, vNotN, vAdd_int, vIAdd_int, vSub_int, vSub_bool, vNeg_int, vLt_int, vLe_int, vGt_int, vGe_int, vEq_int, vNe_int, vEq_str, vNe_str, vIx_list, vIx_tup, vLen_list, vLen_tup, vAbs_int, vToI_int, vToI_bool, vTruth_int, vTruth_bool, vTruth_none, vTruth_list, vTruth_tup, asBool_bool, vTup_l, vLst_l, vTuple_list, vTuple_tup, vList_list, vList_tup, vRev_list, l1_1, l2_2, look_val, lookB_val, lookB_own, thenS_nx, thenS_ret, thenS_bk, thenS_ct, turnS_nx, turnS_ct, turnS_bk, turnS_ret, endF_ret, endF_nx, asTpl_tup, asLst_list, appS_own, popS_own, revS_own, frzS_own, frzS_val, asPart_int, isNone_none, isNone_tup, isNone_list, isNone_int, forG_nil, forG_cons, compG_nil, compG_cons, noOwB_nil, noOwB_cons, isOwn_val, isOwn_un, wipeE_nil, wipeE_cons, tTup2_nil, tTup2_cons, atD_0, atD_1, atD_2, atD_3, atD_4, atD_5, atD_6, atD_7, atD_8, atD_9, atD_10, atD_11, Option.bind_some, Option.bind_none, List.length_cons, List.length_nil, List.map_cons, List.map_nil, List.replicate, List.getElem?_cons_zero, List.getElem?_cons_succ, List.set_cons_zero, List.set_cons_succ, List.cons_append, List.nil_append, Nat.add_sub_cancel, Nat.sub_self, Nat.reduceAdd, Nat.reduceSub, if_true, if_false, reduceIte, Bool.not_true, Bool.not_false, Bool.false_eq_true, Bool.true_and, Bool.and_true, Bool.false_and, Bool.and_false, Bool.true_or, Bool.or_true, Bool.false_or, Bool.or_false, Int.toNat_natCast, Int.reduceLT, Int.reduceToNat, decide_true, decide_false, vMul_S]
  · have r0 : rngD 0 3 = [.int 0, .int 1, .int 2] := rfl
    have nn : -(-y) = y := by omega
    change F_law_point [.int (y * c + a * w), .int (-x * c + b * w), .int (w * c)] = _ at e
    simp -implicitDefEqProofs (disch := walk_at "bd") only [rg, r0, e, nn, runF, gComp, startE, sSeq, sIf, sSet, sOwn, sApp, sRet, sNx, sPar, sAsg, sAug, sFor, sFrz, oNone, oSome, sPop, sRevIn, sDrop, sBk, sCt, sRetN, gYes, gListOf, gSlice, frz, tName, tTuple, gVar, gVarB, gC, g1, g2, aCons, aNil, gArgs, gTest, gTruth, gAnd, gOr, gNot, gAndV, gOrV, gNotV, gIfE, gRange1, gRange2, gLst, gTpl, vIsN, vNotN, vAdd_int, vIAdd_int, vSub_int, vSub_bool, vNeg_int, vLt_int, vLe_int, vGt_int, vGe_int, vEq_int, vNe_int, vEq_str, vNe_str, vIx_list, vIx_tup, vLen_list, vLen_tup, vAbs_int, vToI_int, vToI_bool, vTruth_int, vTruth_bool, vTruth_none, vTruth_list, vTruth_tup, asBool_bool, vTup_l, vLst_l, vTuple_list, vTuple_tup, vList_list, vList_tup, vRev_list, l1_1, l2_2, look_val, lookB_val, lookB_own, thenS_nx, thenS_ret, thenS_bk, thenS_ct, turnS_nx, turnS_ct, turnS_bk, turnS_ret, endF_ret, endF_nx, asTpl_tup, asLst_list, appS_own, popS_own, revS_own, frzS_own, frzS_val, asPart_int, isNone_none, isNone_tup, isNone_list, isNone_int, forG_nil, forG_cons, compG_nil, compG_cons, noOwB_nil, noOwB_cons, isOwn_val, isOwn_un, wipeE_nil, wipeE_cons, tTup2_nil, tTup2_cons, atD_0, atD_1, atD_2, atD_3, atD_4, atD_5, atD_6, atD_7, atD_8, atD_9, atD_10, atD_11, Option.bind_some, Option.bind_none, List.length_cons, List.length_nil, List.map_cons, List.map_nil, List.replicate, List.getElem?_cons_zero, List.getElem?_cons_succ, List.set_cons_zero, List.set_cons_succ, List.cons_append, List.nil_append, Nat.add_sub_cancel, Nat.sub_self, Nat.reduceAdd, Nat.reduceSub, if_true, if_false, reduceIte, Bool.not_true, Bool.not_false, Bool.false_eq_true, Bool.true_and, Bool.and_true, Bool.false_and, Bool.and_false, Bool.true_or, Bool.or_true, Bool.false_or, Bool.or_false, Int.toNat_natCast, Int.reduceLT, Int.reduceToNat, decide_true, decide_false, vMul_S]
theorem vIsi_t1 (x y : D) : vIsi "tuple" [.tuple [x, y]] = some (.bool true) := rfl
theorem vIsi_t3 (x y w : Int) : vIsi "tuple" [pt x y w] = some (.bool true) := rfl
theorem law_is_motion_eq {k a b c : Int} (hk : Qt k) (ha : S 5 a) (hb : S 5 b) (hc : S 5 c) (h : Nf a b c) : F_law_is_motion [mo k a b c] = some (.bool true) := by
  have e := law_point_S (x := a) (y := b) (w := c) (by walk_at "bd") (by walk_at "bd") (by walk_at "bd") h.pos
  obtain ⟨e1, e2, e3⟩ := p_id h
  unfold P at e
  rw [e1, e2, e3] at e
  have hin : vNotIn (.int k) (.list [.int 0, .int 1, .int 2, .int 3]) = some (.bool false) := by
    rcases hk.or with rfl | rfl | rfl | rfl <;> rfl
  have hp : decide (0 < c) = true := decide_eq_true h.pos
  have ix0 : vIx (pt a b c) (.int 0) = some (.int a) := rfl
  have ix1 : vIx (pt a b c) (.int 1) = some (.int b) := rfl
  have ix2 : vIx (pt a b c) (.int 2) = some (.int c) := rfl
  have vl : l1 vLen [pt a b c] = some (.int 3) := rfl
  have tb : ∀ b : Bool, vTruth (.bool b) = some b := fun _ => rfl
  have c2 : ((2 : Nat) : Int) = 2 := rfl
  unfold F_law_is_motion g_law_is_motion mo
  simp -implicitDefEqProofs only [hin, vIsi_t1, vIsi_t3, e, ix0, ix1, ix2, vl, hp, vEq_pt, c2, runF, gComp, startE, sSeq, sIf, sSet, sOwn, sApp, sRet, sNx, sPar, sAsg, sAug, sFor, sFrz, oNone, oSome, sPop, sRevIn, sDrop, sBk, sCt, sRetN, gYes, gListOf, gSlice, frz, tName, tTuple, gVar, gVarB, gC, g1, g2, aCons, aNil, gArgs, gTest, gTruth, gAnd, gOr, gNot, gAndV, gOrV, gNotV, gIfE, gRange1, gRange2, gLst, gTpl, vIsN, vNotN, vAdd_int, vIAdd_int, vSub_int, vSub_bool, vNeg_int, vLt_int, vLe_int, vGt_int, vGe_int, vEq_int, vNe_int, vEq_str, vNe_str, vIx_list, vIx_tup, vLen_list, vLen_tup, vAbs_int, vToI_int, vToI_bool, vTruth_int, vTruth_bool, vTruth_none, vTruth_list, vTruth_tup, asBool_bool, vTup_l, vLst_l, vTuple_list, vTuple_tup, vList_list, vList_tup, vRev_list, l1_1, l2_2, look_val, lookB_val, lookB_own, thenS_nx, thenS_ret, thenS_bk, thenS_ct, turnS_nx, turnS_ct, turnS_bk, turnS_ret, endF_ret, endF_nx, asTpl_tup, asLst_list, appS_own, popS_own, revS_own, frzS_own, frzS_val, asPart_int, isNone_none, isNone_tup, isNone_list, isNone_int, forG_nil, forG_cons, compG_nil, compG_cons, noOwB_nil, noOwB_cons, isOwn_val, isOwn_un, wipeE_nil, wipeE_cons, tTup2_nil, tTup2_cons, atD_0, atD_1, atD_2, atD_3, atD_4, atD_5, atD_6, atD_7, atD_8, atD_9, atD_10, atD_11, Option.bind_some, Option.bind_none, List.length_cons, List.length_nil, List.map_cons, List.map_nil, List.replicate, List.getElem?_cons_zero, List.getElem?_cons_succ, List.set_cons_zero, List.set_cons_succ, List.cons_append, List.nil_append, Nat.add_sub_cancel, Nat.sub_self, Nat.reduceAdd, Nat.reduceSub, if_true, if_false, reduceIte, Bool.not_true, Bool.not_false, Bool.false_eq_true, Bool.true_and, Bool.and_true, Bool.false_and, Bool.and_false, Bool.true_or, Bool.or_true, Bool.false_or, Bool.or_false, Int.toNat_natCast, Int.reduceLT, Int.reduceToNat, decide_true, decide_false]
/-- a point of small numbers in its one form -/
structure Sp (x y w : Int) : Prop where
  nf : Nf x y w
  x : S 0 x
  y : S 0 y
  w : S 0 w
theorem Sp.of {x y w : Int} (h : 0 < w) (a : S 0 x) (b : S 0 y) (c : S 0 w) : Sp (p1 x y w) (p2 x y w) (p3 x y w) :=
  ⟨p_nf (by omega), (P_S (by omega) a b c).1, (P_S (by omega) a b c).2.1, (P_S (by omega) a b c).2.2⟩
theorem vPow_10_15 : vPow (.int 10) (.int 15) = some (.int 1000000000000000) := by
  rw [vPow_ok (by decide) (by decide) (by decide)]
  rfl
theorem law_motion_eq (c : Int) : ∃ k x y w : Int, F_law_motion [.int c] = some (mo k x y w) ∧ Qt k ∧ Sp x y w := by
  obtain ⟨ps, hf, h⟩ := law_parts_eq c [4, 19, 19, 3, 6, 1000000000000000] (by
    intro s hs
    simp only [List.mem_cons, List.not_mem_nil, or_false] at hs
    rcases hs with rfl | rfl | rfl | rfl | rfl | rfl <;> exact ⟨by decide, bd_lit (by decide)⟩) (by decide)
  have h : F_law_parts [.int c, .list [.int 4, .int 19, .int 19, .int 3, .int 6, .int 1000000000000000]] = some (.list (dI ps)) := h
  cases hf with | @cons q0 _ _ _ a0 b0 hf => cases hf with | @cons q1 _ _ _ a1 b1 hf => cases hf with | @cons q2 _ _ _ a2 b2 hf => cases hf with | @cons q3 _ _ _ a3 b3 hf => cases hf with | @cons q4 _ _ _ a4 b4 hf => cases hf with | @cons q5 _ _ _ a5 b5 hf => cases hf with | nil =>
  simp only [dI_cons, dI_nil] at h
  have z1 : S 0 (q1 - 9) := S.of (bd_range (-50) 50 (by omega) (by omega) (by decide) (by decide))
  have z2 : S 0 (q2 - 9) := S.of (bd_range (-50) 50 (by omega) (by omega) (by decide) (by decide))
  have z3 : S 0 (1 + q3) := S.of (bd_range (-50) 50 (by omega) (by omega) (by decide) (by decide))
  have z5 : S 0 q5 := S.of (bd_range (-50) 1000000000000000 (by omega) (by omega) (by decide) (by decide))
  by_cases hz : q4 = 0
  · have hp := law_point_S (x := q5) (y := q2 - 9) (w := 1 + q3) (by walk_at "bd") (by walk_at "bd") (by walk_at "bd") (by omega)
    refine ⟨q0, _, _, _, ?_, ⟨by omega, by omega⟩, Sp.of (x := q5) (y := q2 - 9) (w := 1 + q3) (by omega) z5 z2 z3⟩
    unfold F_law_motion g_law_motion
    simp -implicitDefEqProofs only [vPow_10_15, h, hz, hp, runF, gComp, startE, sSeq, sIf, sSet, sOwn, sApp, sRet, sNx, sPar, sAsg, sAug, sFor, sFrz, oNone, oSome, sPop, sRevIn, sDrop, sBk, sCt, sRetN, gYes, gListOf, gSlice, frz, tName, tTuple, gVar, gVarB, gC, g1, g2, aCons, aNil, gArgs, gTest, gTruth, gAnd, gOr, gNot, gAndV, gOrV, gNotV, gIfE, gRange1, gRange2, gLst, gTpl, vIsN, vNotN, vAdd_int, vIAdd_int, vSub_int, vSub_bool, vNeg_int, vLt_int, vLe_int, vGt_int, vGe_int, vEq_int, vNe_int, vEq_str, vNe_str, vIx_list, vIx_tup, vLen_list, vLen_tup, vAbs_int, vToI_int, vToI_bool, vTruth_int, vTruth_bool, vTruth_none, vTruth_list, vTruth_tup, asBool_bool, vTup_l, vLst_l, vTuple_list, vTuple_tup, vList_list, vList_tup, vRev_list, l1_1, l2_2, look_val, lookB_val, lookB_own, thenS_nx, thenS_ret, thenS_bk, thenS_ct, turnS_nx, turnS_ct, turnS_bk, turnS_ret, endF_ret, endF_nx, asTpl_tup, asLst_list, appS_own, popS_own, revS_own, frzS_own, frzS_val, asPart_int, isNone_none, isNone_tup, isNone_list, isNone_int, forG_nil, forG_cons, compG_nil, compG_cons, noOwB_nil, noOwB_cons, isOwn_val, isOwn_un, wipeE_nil, wipeE_cons, tTup2_nil, tTup2_cons, atD_0, atD_1, atD_2, atD_3, atD_4, atD_5, atD_6, atD_7, atD_8, atD_9, atD_10, atD_11, Option.bind_some, Option.bind_none, List.length_cons, List.length_nil, List.map_cons, List.map_nil, List.replicate, List.getElem?_cons_zero, List.getElem?_cons_succ, List.set_cons_zero, List.set_cons_succ, List.cons_append, List.nil_append, Nat.add_sub_cancel, Nat.sub_self, Nat.reduceAdd, Nat.reduceSub, if_true, if_false, reduceIte, Bool.not_true, Bool.not_false, Bool.false_eq_true, Bool.true_and, Bool.and_true, Bool.false_and, Bool.and_false, Bool.true_or, Bool.or_true, Bool.false_or, Bool.or_false, Int.toNat_natCast, Int.reduceLT, Int.reduceToNat, decide_true, decide_false]
    rfl
  · have hp := law_point_S (x := q1 - 9) (y := q2 - 9) (w := 1 + q3) (by walk_at "bd") (by walk_at "bd") (by walk_at "bd") (by omega)
    refine ⟨q0, _, _, _, ?_, ⟨by omega, by omega⟩, Sp.of (x := q1 - 9) (y := q2 - 9) (w := 1 + q3) (by omega) z1 z2 z3⟩
    unfold F_law_motion g_law_motion
    simp -implicitDefEqProofs only [vPow_10_15, h, hz, hp, runF, gComp, startE, sSeq, sIf, sSet, sOwn, sApp, sRet, sNx, sPar, sAsg, sAug, sFor, sFrz, oNone, oSome, sPop, sRevIn, sDrop, sBk, sCt, sRetN, gYes, gListOf, gSlice, frz, tName, tTuple, gVar, gVarB, gC, g1, g2, aCons, aNil, gArgs, gTest, gTruth, gAnd, gOr, gNot, gAndV, gOrV, gNotV, gIfE, gRange1, gRange2, gLst, gTpl, vIsN, vNotN, vAdd_int, vIAdd_int, vSub_int, vSub_bool, vNeg_int, vLt_int, vLe_int, vGt_int, vGe_int, vEq_int, vNe_int, vEq_str, vNe_str, vIx_list, vIx_tup, vLen_list, vLen_tup, vAbs_int, vToI_int, vToI_bool, vTruth_int, vTruth_bool, vTruth_none, vTruth_list, vTruth_tup, asBool_bool, vTup_l, vLst_l, vTuple_list, vTuple_tup, vList_list, vList_tup, vRev_list, l1_1, l2_2, look_val, lookB_val, lookB_own, thenS_nx, thenS_ret, thenS_bk, thenS_ct, turnS_nx, turnS_ct, turnS_bk, turnS_ret, endF_ret, endF_nx, asTpl_tup, asLst_list, appS_own, popS_own, revS_own, frzS_own, frzS_val, asPart_int, isNone_none, isNone_tup, isNone_list, isNone_int, forG_nil, forG_cons, compG_nil, compG_cons, noOwB_nil, noOwB_cons, isOwn_val, isOwn_un, wipeE_nil, wipeE_cons, tTup2_nil, tTup2_cons, atD_0, atD_1, atD_2, atD_3, atD_4, atD_5, atD_6, atD_7, atD_8, atD_9, atD_10, atD_11, Option.bind_some, Option.bind_none, List.length_cons, List.length_nil, List.map_cons, List.map_nil, List.replicate, List.getElem?_cons_zero, List.getElem?_cons_succ, List.set_cons_zero, List.set_cons_succ, List.cons_append, List.nil_append, Nat.add_sub_cancel, Nat.sub_self, Nat.reduceAdd, Nat.reduceSub, if_true, if_false, reduceIte, Bool.not_true, Bool.not_false, Bool.false_eq_true, Bool.true_and, Bool.and_true, Bool.false_and, Bool.and_false, Bool.true_or, Bool.or_true, Bool.false_or, Bool.or_false, Int.toNat_natCast, Int.reduceLT, Int.reduceToNat, decide_true, decide_false]
    rfl
/-- two motions one behind the other, told by sines -/
theorem both_id {α β p q a b c d e f x y w X1 Y1 W1 ox oy ow A B C Z U V : Int} (hc : c ≠ 0) (hf : f ≠ 0) (hX : X1 = (p * x - q * y) * c + a * w) (hY : Y1 = (q * x + p * y) * c + b * w) (hW : W1 = w * c) (o1 : ox * W1 = X1 * ow) (o2 : oy * W1 = Y1 * ow) (hU : U = (α * a - β * b) * f + d * c) (hV : V = (β * a + α * b) * f + e * c) (hZ : Z = c * f) (o3 : A * Z = U * C) (o4 : B * Z = V * C) :
    (((p * α - q * β) * x - (q * α + p * β) * y) * C + A * w) * (ow * f) = ((α * ox - β * oy) * f + d * ow) * (w * C) ∧ (((q * α + p * β) * x + (p * α - q * β) * y) * C + B * w) * (ow * f) = ((β * ox + α * oy) * f + e * ow) * (w * C) := by
  subst hX hY hW hU hV hZ
  constructor
  · exact eq_cancel (Int.mul_ne_zero hc hf) (by grind)
  · exact eq_cancel (Int.mul_ne_zero hc hf) (by grind)
theorem back_id {p q a b c x y w X1 Y1 W1 ox oy ow : Int} (h1 : p * p + q * q = 1) (hX : X1 = (p * x - q * y) * c + a * w) (hY : Y1 = (q * x + p * y) * c + b * w) (hW : W1 = w * c) (o1 : ox * W1 = X1 * ow) (o2 : oy * W1 = Y1 * ow) :
    ((p * ox - -q * oy) * c + -(p * a - -q * b) * ow) * w = x * (ow * c) ∧ ((-q * ox + p * oy) * c + -(-q * a + p * b) * ow) * w = y * (ow * c) := by
  subst hX hY hW
  constructor <;> grind
theorem turn_back {p q : Int} (h : p * p + q * q = 1) (a b : Int) : p * -(p * a - -q * b) - q * -(-q * a + p * b) = -a ∧ q * -(p * a - -q * b) + p * -(-q * a + p * b) = -b := by
  constructor <;> grind
theorem law_true (ns : List Int) (hn : ns.length ≤ 63) : F_law [.list (ns.map PyData.int)] = some (.bool true) := by
  obtain ⟨c0, h0⟩ := law_cell_eq ns 0
  obtain ⟨c1, h1⟩ := law_cell_eq ns 1
  obtain ⟨c2, h2⟩ := law_cell_eq ns 2
  obtain ⟨k, a, b, c, m0, hk, s0⟩ := law_motion_eq c0
  obtain ⟨l, d, e, f, m1, hl, s1⟩ := law_motion_eq (c1 + 1)
  have h0 : F_law_cell [.list (ns.map PyData.int), .int 0] = some (.int c0) := h0
  have h1 : F_law_cell [.list (ns.map PyData.int), .int 1] = some (.int c1) := h1
  have h2 : F_law_cell [.list (ns.map PyData.int), .int 2] = some (.int c2) := h2
  obtain ⟨ps, hf, h⟩ := law_parts_eq c2 [41, 41, 4] (by
    intro s hs
    simp only [List.mem_cons, List.not_mem_nil, or_false] at hs
    rcases hs with rfl | rfl | rfl <;> exact ⟨by decide, bd_lit (by decide)⟩) (by decide)
  have h : F_law_parts [.int c2, .list [.int 41, .int 41, .int 4]] = some (.list (dI ps)) := h
  cases hf with | @cons q0 _ _ _ a0 b0 hf => cases hf with | @cons q1 _ _ _ a1 b1 hf => cases hf with | @cons q2 _ _ _ a2 b2 hf => cases hf with | nil =>
  simp only [dI_cons, dI_nil] at h
  have z0 : S 0 (q0 - 20) := S.of (bd_range (-50) 50 (by omega) (by omega) (by decide) (by decide))
  have z1 : S 0 (q1 - 20) := S.of (bd_range (-50) 50 (by omega) (by omega) (by decide) (by decide))
  have z2 : S 0 (1 + q2) := S.of (bd_range (-50) 50 (by omega) (by omega) (by decide) (by decide))
  have hp := law_point_S (x := q0 - 20) (y := q1 - 20) (w := 1 + q2) (by walk_at "bd") (by walk_at "bd") (by walk_at "bd") (by omega)
  have sp := Sp.of (x := q0 - 20) (y := q1 - 20) (w := 1 + q2) (by omega) z0 z1 z2
  unfold P at hp
  generalize p1 (q0 - 20) (q1 - 20) (1 + q2) = x at *
  generalize p2 (q0 - 20) (q1 - 20) (1 + q2) = y at *
  generalize p3 (q0 - 20) (q1 - 20) (1 + q2) = w at *
  have x0 := sp.x
  have y0 := sp.y
  have w0 := sp.w
  have wp := sp.nf.pos
  have a0' := s0.x
  have b0' := s0.y
  have c0' := s0.w
  have cp := s0.nf.pos
  have d0' := s1.x
  have e0' := s1.y
  have f0' := s1.w
  have fp := s1.nf.pos
  have zw : w ≠ 0 := by omega
  have zc : c ≠ 0 := by omega
  have zf : f ≠ 0 := by omega
  have mv := moved_eq (k := k) (a := a) (b := b) (c := c) (x := x) (y := y) (w := w) hk (by walk_at "bd") (by walk_at "bd") (by walk_at "bd") (by walk_at "bd") (by walk_at "bd") (by walk_at "bd") cp wp
  have lm := law_moved_eq (k := k) (a := a) (b := b) (c := c) (x := x) (y := y) (w := w) hk (by walk_at "bd") (by walk_at "bd") (by walk_at "bd") (by walk_at "bd") (by walk_at "bd") (by walk_at "bd") cp wp
  have fo := follow_eq (k := k) (a := a) (b := b) (c := c) (l := l) (d := d) (e := e) (f := f) hl (by walk_at "bd") (by walk_at "bd") (by walk_at "bd") (by walk_at "bd") (by walk_at "bd") (by walk_at "bd") cp fp
  have un := undo_eq hk a b c
  have st0 := S_t hk x0 y0
  have st1 := S_t hl a0' b0'
  obtain ⟨st2, st3⟩ := st0
  obtain ⟨st4, st5⟩ := st1
  have zW : w * c ≠ 0 := Int.mul_ne_zero zw zc
  have zZ : c * f ≠ 0 := Int.mul_ne_zero zc zf
  have o := p_cross (x := tX k x y * c + a * w) (y := tY k x y * c + b * w) zW
  have o' := p_cross (x := tX l a b * f + d * c) (y := tY l a b * f + e * c) zZ
  have os := P_S (k := 2) zW (x := tX k x y * c + a * w) (y := tY k x y * c + b * w) (by walk_at "bd") (by walk_at "bd") (by walk_at "bd")
  have os' := P_S (k := 2) zZ (x := tX l a b * f + d * c) (y := tY l a b * f + e * c) (by walk_at "bd") (by walk_at "bd") (by walk_at "bd")
  have on := p3_pos (x := tX k x y * c + a * w) (y := tY k x y * c + b * w) zW
  have nf' := p_nf (x := tX l a b * f + d * c) (y := tY l a b * f + e * c) zZ
  unfold P at mv lm
  generalize hX : tX k x y * c + a * w = X1 at *
  generalize hY : tY k x y * c + b * w = Y1 at *
  generalize hW : w * c = W1 at *
  generalize hU : tX l a b * f + d * c = U at *
  generalize hV : tY l a b * f + e * c = V at *
  generalize hZ : c * f = Z at *
  generalize p1 X1 Y1 W1 = ox at *
  generalize p2 X1 Y1 W1 = oy at *
  generalize p3 X1 Y1 W1 = ow at *
  generalize p1 U V Z = A at *
  generalize p2 U V Z = B at *
  generalize p3 U V Z = C at *
  obtain ⟨o1, o2⟩ := o
  obtain ⟨o3, o4⟩ := o'
  obtain ⟨os1, os2, os3⟩ := os
  obtain ⟨os4, os5, os6⟩ := os'
  have zo : ow ≠ 0 := by omega
  have zC : C ≠ 0 := by have := nf'.pos; omega
  obtain ⟨qa, ca, sa⟩ := qt_add hk hl
  obtain ⟨qb, cb, sb, bb, kb, kb'⟩ := qt_back hk
  have nb := (Nf.turn qb s0.nf).neg
  obtain ⟨n1, n2⟩ := S_t qb a0' b0'
  -- the both
  have im1 := law_is_motion_eq (k := (k + l) % 4) (a := A) (b := B) (c := C) qa (by walk_at "bd") (by walk_at "bd") (by walk_at "bd") nf'
  have im2 := law_is_motion_eq (k := (4 - k) % 4) (a := -(tX ((4 - k) % 4) a b)) (b := -(tY ((4 - k) % 4) a b)) (c := c) qb (by walk_at "bd") (by walk_at "bd") (by walk_at "bd") nb
  have lm1 := law_moved_eq (k := (k + l) % 4) (a := A) (b := B) (c := C) (x := x) (y := y) (w := w) qa (by walk_at "bd") (by walk_at "bd") (by walk_at "bd") (by walk_at "bd") (by walk_at "bd") (by walk_at "bd") nf'.pos wp
  have lm2 := law_moved_eq (k := l) (a := d) (b := e) (c := f) (x := ox) (y := oy) (w := ow) hl (by walk_at "bd") (by walk_at "bd") (by walk_at "bd") (by walk_at "bd") (by walk_at "bd") (by walk_at "bd") fp on
  have lm3 := law_moved_eq (k := (4 - k) % 4) (a := -(tX ((4 - k) % 4) a b)) (b := -(tY ((4 - k) % 4) a b)) (c := c) (x := ox) (y := oy) (w := ow) qb (by walk_at "bd") (by walk_at "bd") (by walk_at "bd") (by walk_at "bd") (by walk_at "bd") (by walk_at "bd") cp on
  have fo1 := follow_eq (k := k) (a := a) (b := b) (c := c) (l := (4 - k) % 4) (d := -(tX ((4 - k) % 4) a b)) (e := -(tY ((4 - k) % 4) a b)) (f := c) qb (by walk_at "bd") (by walk_at "bd") (by walk_at "bd") (by walk_at "bd") (by walk_at "bd") (by walk_at "bd") cp cp
  have fo2 := follow_eq (k := (4 - k) % 4) (a := -(tX ((4 - k) % 4) a b)) (b := -(tY ((4 - k) % 4) a b)) (c := c) (l := k) (d := a) (e := b) (f := c) hk (by walk_at "bd") (by walk_at "bd") (by walk_at "bd") (by walk_at "bd") (by walk_at "bd") (by walk_at "bd") cp cp
  have un2 := undo_eq qb (-(tX ((4 - k) % 4) a b)) (-(tY ((4 - k) % 4) a b)) c
  rw [bb] at un2
  rw [kb] at fo1
  rw [kb'] at fo2
  rw [tX_lin hk] at hX
  rw [tY_lin hk] at hY
  rw [tX_lin hl] at hU
  rw [tY_lin hl] at hV
  have bi := both_id zc zf hX.symm hY.symm hW.symm o1 o2 hU.symm hV.symm hZ.symm o3 o4
  have ki := back_id (cs_one hk) hX.symm hY.symm hW.symm o1 o2
  have E1 : P (tX ((k + l) % 4) x y * C + A * w) (tY ((k + l) % 4) x y * C + B * w) (w * C) = P (tX l ox oy * f + d * ow) (tY l ox oy * f + e * ow) (ow * f) := by
    refine P_same (Int.mul_ne_zero zw zC) (Int.mul_ne_zero zo zf) ?_ ?_
    · rw [tX_lin qa, tX_lin hl, ca, sa]; exact bi.1
    · rw [tY_lin qa, tY_lin hl, ca, sa]; exact bi.2
  have E2 : P (tX ((4 - k) % 4) ox oy * c + -(tX ((4 - k) % 4) a b) * ow) (tY ((4 - k) % 4) ox oy * c + -(tY ((4 - k) % 4) a b) * ow) (ow * c) = pt x y w := by
    obtain ⟨i1, i2, i3⟩ := p_id sp.nf
    have : pt x y w = P x y w := by unfold P; rw [i1, i2, i3]
    rw [this]
    refine P_same (Int.mul_ne_zero zo zc) zw ?_ ?_
    · rw [tX_lin qb, tX_lin qb, cb, sb]; exact ki.1
    · rw [tY_lin qb, tY_lin qb, cb, sb]; exact ki.2
  have one : ∀ z : Int, 0 < z → p1 0 0 z = 0 ∧ p2 0 0 z = 0 ∧ p3 0 0 z = 1 := by
    intro z hz
    obtain ⟨i1, i2, i3⟩ := p_id (a := 0) (b := 0) (c := 1) ⟨by decide, by decide⟩
    obtain ⟨j1, j2, j3⟩ := p_same (x := 0) (y := 0) (w := z) (x' := 0) (y' := 0) (w' := 1) (by omega) (by decide) (by omega) (by omega)
    exact ⟨j1.trans i1, j2.trans i2, j3.trans i3⟩
  have cc : 0 < c * c := Int.mul_pos cp cp
  obtain ⟨v1, v2, v3⟩ := one (c * c) cc
  have w1 : tX ((4 - k) % 4) a b * c + -tX ((4 - k) % 4) a b * c = 0 := by rw [Int.neg_mul]; omega
  have w2 : tY ((4 - k) % 4) a b * c + -tY ((4 - k) % 4) a b * c = 0 := by rw [Int.neg_mul]; omega
  have csk := cs_one hk
  have t1 : tX k (-(tX ((4 - k) % 4) a b)) (-(tY ((4 - k) % 4) a b)) = -a := by
    rw [tX_lin hk, tX_lin qb, tY_lin qb, cb, sb]; exact (turn_back csk a b).1
  have t2 : tY k (-(tX ((4 - k) % 4) a b)) (-(tY ((4 - k) % 4) a b)) = -b := by
    rw [tY_lin hk, tX_lin qb, tY_lin qb, cb, sb]; exact (turn_back csk a b).2
  have w3 : -a * c + a * c = 0 := by rw [Int.neg_mul]; omega
  have w4 : -b * c + b * c = 0 := by rw [Int.neg_mul]; omega
  rw [w1, w2, v1, v2, v3] at fo1
  rw [t1, t2, w3, w4, v1, v2, v3] at fo2
  rw [t1, t2, Int.neg_neg, Int.neg_neg] at un2
  rw [E1] at lm1
  rw [E2] at lm3
  have sh1 := pt_show_S (a := ox) (b := oy) (c := ow) (by walk_at "bd") (by walk_at "bd") (by walk_at "bd")
  have sh2 := pt_show_S (a := x) (b := y) (c := w) (by walk_at "bd") (by walk_at "bd") (by walk_at "bd")
  have zz : ow * f ≠ 0 := Int.mul_ne_zero zo zf
  obtain ⟨g1', g2'⟩ := S_t hl os1 os2
  have r1 : Bd 400 (tX l ox oy * f + d * ow) := (g1'.b.mul f0'.b (l := 320) (by decide)).add (d0'.b.mul os3.b (by decide)) (by decide)
  have r2 : Bd 400 (tY l ox oy * f + e * ow) := (g2'.b.mul f0'.b (l := 320) (by decide)).add (e0'.b.mul os3.b (by decide)) (by decide)
  have r3 : Bd 400 (ow * f) := os3.b.mul f0'.b (by decide)
  have sh3 : vRepr1 (P (tX l ox oy * f + d * ow) (tY l ox oy * f + e * ow) (ow * f)) = some (.str (P (tX l ox oy * f + d * ow) (tY l ox oy * f + e * ow) (ow * f)).shown) := pt_show (k := 400) (p1_bd zz r1) (p2_bd zz r2) (p3_bd zz r3) (by decide)
  have t0 : PyData.tuple [.int 0, .tuple [.int 0, .int 0, .int 1]] = mo 0 0 0 1 := rfl
  have tb : ∀ b : Bool, PyData.bool b = .bool b := fun _ => rfl
  unfold F_law g_law
  simp -implicitDefEqProofs only [h0, h1, h2, m0, m1, h, hp, mv, lm, fo, un, im1, im2, lm1, lm2, lm3, fo1, fo2, un2, sh1, sh2, sh3, t0, vEq_mo, runF, gComp, startE, sSeq, sIf, sSet, sOwn, sApp, sRet, sNx, sPar, sAsg, sAug, sFor, sFrz, oNone, oSome, sPop, sRevIn, sDrop, sBk, sCt, sRetN, gYes, gListOf, gSlice, frz, tName, tTuple, gVar, gVarB, gC, g1, g2, aCons, aNil, gArgs, gTest, gTruth, gAnd, gOr, gNot, gAndV, gOrV, gNotV, gIfE, gRange1, gRange2, gLst, gTpl, vIsN, vNotN, vAdd_int, vIAdd_int, vSub_int, vSub_bool, vNeg_int, vLt_int, vLe_int, vGt_int, vGe_int, vEq_int, vNe_int, vEq_str, vNe_str, vIx_list, vIx_tup, vLen_list, vLen_tup, vAbs_int, vToI_int, vToI_bool, vTruth_int, vTruth_bool, vTruth_none, vTruth_list, vTruth_tup, asBool_bool, vTup_l, vLst_l, vTuple_list, vTuple_tup, vList_list, vList_tup, vRev_list, l1_1, l2_2, look_val, lookB_val, lookB_own, thenS_nx, thenS_ret, thenS_bk, thenS_ct, turnS_nx, turnS_ct, turnS_bk, turnS_ret, endF_ret, endF_nx, asTpl_tup, asLst_list, appS_own, popS_own, revS_own, frzS_own, frzS_val, asPart_int, isNone_none, isNone_tup, isNone_list, isNone_int, forG_nil, forG_cons, compG_nil, compG_cons, noOwB_nil, noOwB_cons, isOwn_val, isOwn_un, wipeE_nil, wipeE_cons, tTup2_nil, tTup2_cons, atD_0, atD_1, atD_2, atD_3, atD_4, atD_5, atD_6, atD_7, atD_8, atD_9, atD_10, atD_11, Option.bind_some, Option.bind_none, List.length_cons, List.length_nil, List.map_cons, List.map_nil, List.replicate, List.getElem?_cons_zero, List.getElem?_cons_succ, List.set_cons_zero, List.set_cons_succ, List.cons_append, List.nil_append, Nat.add_sub_cancel, Nat.sub_self, Nat.reduceAdd, Nat.reduceSub, if_true, if_false, reduceIte, Bool.not_true, Bool.not_false, Bool.false_eq_true, Bool.true_and, Bool.and_true, Bool.false_and, Bool.and_false, Bool.true_or, Bool.or_true, Bool.false_or, Bool.or_false, Int.toNat_natCast, Int.reduceLT, Int.reduceToNat, decide_true, decide_false]
end Law
namespace Law
open PySem PySem.Spec PyProof.Rows L2 Dn
/-! ### the walk -/
def topS (i : Nat) : Stmt := PySem.Challenge.pw_cutandlaid_k12_motions.main.body.getD i (.Pass ⟨0, 0, 0, 0⟩)
structure Bn (mg : Str → Option Value) : Prop where
  abs : mg "abs" = none
  int : mg "int" = none
  isinstance : mg "isinstance" = none
  len : mg "len" = none
  range : mg "range" = none
  repr : mg "repr" = none
  tuple : mg "tuple" = none
section
variable {P : Program} {w : World} {K : PySem.W.Frag} {mg : Str → Option Value} {base : Heap}
abbrev st_law_parts : Stmt := topS 12
abbrev names_law_parts : List Str := ["_law_cell_here", "_law_sizes", "_law_parts_here", "_law_rest", "_law_k", "_law_mixed"]
theorem sc_law_parts : FnScope names_law_parts ["_law_cell_here", "_law_sizes"] (defScope st_law_parts) := ⟨rfl, rfl, rfl, by decide +kernel, rfl, by decide +kernel, by decide +kernel⟩
theorem ok_law_parts (B : Bn mg) (T : Df K mg "_law_parts" st_law_parts ["_law_cell_here", "_law_sizes"]) : Ok P w K mg base "_law_parts" 1 2 F_law_parts := by
  have nd := sc_law_parts.nd
  refine ok_by names_law_parts ["_law_cell_here", "_law_sizes"] g_law_parts T sc_law_parts (by decide) rfl rfl rfl rfl fun f cdv A out s H hr hG => ?_
  exact (psd_cons (sd_own (i := 2) nd rfl (by first | exact Or.inl rfl | exact Or.inr rfl) pad_nil)
      (psd_cons (sd_set (i := 3) nd rfl (by first | exact Or.inl rfl | exact Or.inr rfl) (pd_op op_subA od_sub (pdv 0) (pd_op op_pow od_pow pd_int pd_int)))
      (psd_cons (sd_for PassesOwn.never rfl (id_range1 (by rfl) B.range (pd_callB call_len ca_len (by rfl) B.len (by decide +kernel) (pad_cons (pdv 1) pad_nil))) (PGq.d (gq_name (i := 4) nd rfl (by first | exact Or.inl rfl | exact Or.inr rfl))) (psd_one (sd_if (pt_cmpD op_ge od_cmp (pdv 3) pd_int (nomark _)) (psd_cons (sd_app (i := 2) rfl (by first | exact Or.inl rfl | exact Or.inr (Or.inl rfl) | exact Or.inr (Or.inr rfl)) (pd_op op_modN od_mod (pd_callTy call_int1 ca_int (by rfl) B.int (by decide +kernel) (pad_cons (pdv 3) pad_nil)) (pd_ix (pdv 1) (pdv 4) (fun _ _ => rfl))))
      (psd_one (sd_set (i := 3) nd rfl (by first | exact Or.inl rfl | exact Or.inr rfl) (pd_op op_fdivB od_fdiv (pdv 3) (pd_ix (pdv 1) (pdv 4) (fun _ _ => rfl)))))) (psd_cons (sd_set (i := 5) nd rfl (by first | exact Or.inl rfl | exact Or.inr rfl) (pd_op op_modN od_mod (pd_callTy call_int1 ca_int (by rfl) B.int (by decide +kernel) (pad_cons (pd_op op_addA od_add (pd_op op_addA od_add (pd_op op_mulB od_mul (pdv 0) pd_int) (pd_op op_mulB od_mul (pdv 4) pd_int)) pd_int) pad_nil)) pd_int))
      (psd_cons (sd_set (i := 5) nd rfl (by first | exact Or.inl rfl | exact Or.inr rfl) (pd_op op_modN od_mod (pd_callTy call_int1 ca_int (by rfl) B.int (by decide +kernel) (pad_cons (pd_op op_addA od_add (pd_op op_addA od_add (pd_op op_mulB od_mul (pdv 5) (pdv 5)) (pd_op op_mulB od_mul pd_int (pdv 4))) pd_int) pad_nil)) pd_int))
      (psd_one (sd_app (i := 2) rfl (by first | exact Or.inl rfl | exact Or.inr (Or.inl rfl) | exact Or.inr (Or.inr rfl)) (pd_op op_modN od_mod (pd_callTy call_int1 ca_int (by rfl) B.int (by decide +kernel) (pad_cons (pdv 5) pad_nil)) (pd_ix (pdv 1) (pdv 4) (fun _ _ => rfl))))))))))
      (psd_one (sd_ret (pdw 2))))))
abbrev st_law_divisor : Stmt := topS 13
abbrev names_law_divisor : List Str := ["_law_a", "_law_b", "_law_k"]
theorem sc_law_divisor : FnScope names_law_divisor ["_law_a", "_law_b"] (defScope st_law_divisor) := ⟨rfl, rfl, rfl, by decide +kernel, rfl, by decide +kernel, by decide +kernel⟩
theorem ok_law_divisor (B : Bn mg) (T : Df K mg "_law_divisor" st_law_divisor ["_law_a", "_law_b"]) : Ok P w K mg base "_law_divisor" 1 2 F_law_divisor := by
  have nd := sc_law_divisor.nd
  refine ok_by names_law_divisor ["_law_a", "_law_b"] g_law_divisor T sc_law_divisor (by decide) rfl rfl rfl rfl fun f cdv A out s H hr hG => ?_
  exact (psd_cons (sd_set (i := 0) nd rfl (by first | exact Or.inl rfl | exact Or.inr rfl) (pd_callB call_abs ca_abs (by rfl) B.abs (by decide +kernel) (pad_cons (pdv 0) pad_nil)))
      (psd_cons (sd_set (i := 1) nd rfl (by first | exact Or.inl rfl | exact Or.inr rfl) (pd_callB call_abs ca_abs (by rfl) B.abs (by decide +kernel) (pad_cons (pdv 1) pad_nil)))
      (psd_cons (sd_for PassesOwn.never rfl (id_range1 (by rfl) B.range pd_int) (PGq.d (gq_name (i := 2) nd rfl (by first | exact Or.inl rfl | exact Or.inr rfl))) (psd_cons (sd_if (pt_cmpD (op_eqA (hu64 hr)) od_eq (pdv 1) pd_int (nomark _)) (psd_one (sd_ret (pdv 0))) psd_nil)
      (psd_one (sd_par (i := 0) (j := 1) rfl nd rfl rfl (by decide) rfl rfl (pdv 1) (pd_op op_modN od_mod (pd_callTy call_int1 ca_int (by rfl) B.int (by decide +kernel) (pad_cons (pdv 0) pad_nil)) (pdv 1))))))
      (psd_one (sd_ret (pdv 0))))))
abbrev st_law_point : Stmt := topS 17
abbrev names_law_point : List Str := ["_law_x", "_law_y", "_law_w", "_law_divisor_here"]
theorem sc_law_point : FnScope names_law_point ["_law_x", "_law_y", "_law_w"] (defScope st_law_point) := ⟨rfl, rfl, rfl, by decide +kernel, rfl, by decide +kernel, by decide +kernel⟩
theorem ok_law_point (B : Bn mg) (T : Df K mg "_law_point" st_law_point ["_law_x", "_law_y", "_law_w"]) (O_law_divisor : Ok P w K mg base "_law_divisor" 1 2 F_law_divisor) : Ok P w K mg base "_law_point" 2 3 F_law_point := by
  have nd := sc_law_point.nd
  refine ok_by names_law_point ["_law_x", "_law_y", "_law_w"] g_law_point T sc_law_point (by decide) rfl rfl rfl rfl fun f cdv A out s H hr hG => ?_
  exact (psd_cons (sd_set (i := 3) nd rfl (by first | exact Or.inl rfl | exact Or.inr rfl) (pd_fn O_law_divisor (hr.mono (by decide)) hG (pad_cons (pd_fn O_law_divisor (hr.mono (by decide)) hG (pad_cons (pdv 0) (pad_cons (pdv 1) pad_nil))) (pad_cons (pdv 2) pad_nil))))
      (psd_one (sd_ret (pd_tup (pad_cons (pd_op op_fdivB od_fdiv (pdv 0) (pdv 3)) (pad_cons (pd_op op_fdivB od_fdiv (pdv 1) (pdv 3)) (pad_cons (pd_op op_fdivB od_fdiv (pdv 2) (pdv 3)) pad_nil)))))))
abbrev st_law_motion : Stmt := topS 22
abbrev names_law_motion : List Str := ["_law_cell_here", "_law_parts_here", "_law_x"]
theorem sc_law_motion : FnScope names_law_motion ["_law_cell_here"] (defScope st_law_motion) := ⟨rfl, rfl, rfl, by decide +kernel, rfl, by decide +kernel, by decide +kernel⟩
theorem ok_law_motion (B : Bn mg) (T : Df K mg "_law_motion" st_law_motion ["_law_cell_here"]) (O_law_parts : Ok P w K mg base "_law_parts" 1 2 F_law_parts) (O_law_point : Ok P w K mg base "_law_point" 2 3 F_law_point) : Ok P w K mg base "_law_motion" 3 1 F_law_motion := by
  have nd := sc_law_motion.nd
  refine ok_by names_law_motion ["_law_cell_here"] g_law_motion T sc_law_motion (by decide) rfl rfl rfl rfl fun f cdv A out s H hr hG => ?_
  exact (psd_cons (sd_set (i := 1) nd rfl (by first | exact Or.inl rfl | exact Or.inr rfl) (pd_fn O_law_parts (hr.mono (by decide)) hG (pad_cons (pdv 0) (pad_cons (pd_lst (pad_cons pd_int (pad_cons pd_int (pad_cons pd_int (pad_cons pd_int (pad_cons pd_int (pad_cons (pd_op op_pow od_pow pd_int pd_int) pad_nil))))))) pad_nil))))
      (psd_cons (sd_set (i := 2) nd rfl (by first | exact Or.inl rfl | exact Or.inr rfl) (pd_op op_subA od_sub (pd_ix (pdv 1) pd_int (fun _ _ => rfl)) pd_int))
      (psd_cons (sd_if (pt_cmpD (op_eqA (hu64 hr)) od_eq (pd_ix (pdv 1) pd_int (fun _ _ => rfl)) pd_int (nomark _)) (psd_one (sd_set (i := 2) nd rfl (by first | exact Or.inl rfl | exact Or.inr rfl) (pd_ix (pdv 1) pd_int (fun _ _ => rfl)))) psd_nil)
      (psd_one (sd_ret (pd_tup (pad_cons (pd_ix (pdv 1) pd_int (fun _ _ => rfl)) (pad_cons (pd_fn O_law_point (hr.mono (by decide)) hG (pad_cons (pdv 2) (pad_cons (pd_op op_subA od_sub (pd_ix (pdv 1) pd_int (fun _ _ => rfl)) pd_int) (pad_cons (pd_op op_addA od_add pd_int (pd_ix (pdv 1) pd_int (fun _ _ => rfl))) pad_nil)))) pad_nil))))))))
abbrev st_common_divisor : Stmt := topS 1
abbrev names_common_divisor : List Str := ["a", "b"]
theorem sc_common_divisor : FnScope names_common_divisor ["a", "b"] (defScope st_common_divisor) := ⟨rfl, rfl, rfl, by decide +kernel, rfl, by decide +kernel, by decide +kernel⟩
theorem ok_common_divisor (B : Bn mg) (T : Df K mg "common_divisor" st_common_divisor ["a", "b"]) : Ok P w K mg base "common_divisor" 1 2 F_common_divisor := by
  have nd := sc_common_divisor.nd
  refine ok_by names_common_divisor ["a", "b"] g_common_divisor T sc_common_divisor (by decide) rfl rfl rfl rfl fun f cdv A out s H hr hG => ?_
  exact (psd_cons (sd_set (i := 0) nd rfl (by first | exact Or.inl rfl | exact Or.inr rfl) (pd_callB call_abs ca_abs (by rfl) B.abs (by decide +kernel) (pad_cons (pdv 0) pad_nil)))
      (psd_cons (sd_set (i := 1) nd rfl (by first | exact Or.inl rfl | exact Or.inr rfl) (pd_callB call_abs ca_abs (by rfl) B.abs (by decide +kernel) (pad_cons (pdv 1) pad_nil)))
      (psd_cons (sd_while 1000000 PassesOwn.never (pt_truthD (pdv 1)) (psd_one (sd_par (i := 0) (j := 1) rfl nd rfl rfl (by decide) rfl rfl (pdv 1) (pd_op op_modN od_mod (pdv 0) (pdv 1)))))
      (psd_one (sd_ret (pdv 0))))))
abbrev st_point : Stmt := topS 3
abbrev names_point : List Str := ["x", "y", "w", "divisor"]
theorem sc_point : FnScope names_point ["x", "y", "w"] (defScope st_point) := ⟨rfl, rfl, rfl, by decide +kernel, rfl, by decide +kernel, by decide +kernel⟩
theorem ok_point (B : Bn mg) (T : Df K mg "point" st_point ["x", "y", "w"]) (O_common_divisor : Ok P w K mg base "common_divisor" 1 2 F_common_divisor) : Ok P w K mg base "point" 2 3 F_point := by
  have nd := sc_point.nd
  refine ok_by names_point ["x", "y", "w"] g_point T sc_point (by decide) rfl rfl rfl rfl fun f cdv A out s H hr hG => ?_
  exact (psd_cons (sd_set (i := 3) nd rfl (by first | exact Or.inl rfl | exact Or.inr rfl) (pd_fn O_common_divisor (hr.mono (by decide)) hG (pad_cons (pd_fn O_common_divisor (hr.mono (by decide)) hG (pad_cons (pdv 0) (pad_cons (pdv 1) pad_nil))) (pad_cons (pdv 2) pad_nil))))
      (psd_cons (sd_if (pt_cmpD op_lt od_cmp (pdv 2) pd_int (nomark _)) (psd_one (sd_set (i := 3) nd rfl (by first | exact Or.inl rfl | exact Or.inr rfl) (pd_un un_neg ud_neg (pdv 3)))) psd_nil)
      (psd_one (sd_ret (pd_tup (pad_cons (pd_op op_fdivB od_fdiv (pdv 0) (pdv 3)) (pad_cons (pd_op op_fdivB od_fdiv (pdv 1) (pdv 3)) (pad_cons (pd_op op_fdivB od_fdiv (pdv 2) (pdv 3)) pad_nil))))))))
abbrev st_added : Stmt := topS 4
abbrev names_added : List Str := ["p", "v"]
theorem sc_added : FnScope names_added ["p", "v"] (defScope st_added) := ⟨rfl, rfl, rfl, by decide +kernel, rfl, by decide +kernel, by decide +kernel⟩
theorem ok_added (B : Bn mg) (T : Df K mg "added" st_added ["p", "v"]) (O_point : Ok P w K mg base "point" 2 3 F_point) : Ok P w K mg base "added" 3 2 F_added := by
  have nd := sc_added.nd
  refine ok_by names_added ["p", "v"] g_added T sc_added (by decide) rfl rfl rfl rfl fun f cdv A out s H hr hG => ?_
  exact (psd_one (sd_ret (pd_fn O_point (hr.mono (by decide)) hG (pad_cons (pd_op op_addA od_add (pd_op op_mulB od_mul (pd_ix (pdv 0) pd_int (fun _ _ => rfl)) (pd_ix (pdv 1) pd_int (fun _ _ => rfl))) (pd_op op_mulB od_mul (pd_ix (pdv 1) pd_int (fun _ _ => rfl)) (pd_ix (pdv 0) pd_int (fun _ _ => rfl)))) (pad_cons (pd_op op_addA od_add (pd_op op_mulB od_mul (pd_ix (pdv 0) pd_int (fun _ _ => rfl)) (pd_ix (pdv 1) pd_int (fun _ _ => rfl))) (pd_op op_mulB od_mul (pd_ix (pdv 1) pd_int (fun _ _ => rfl)) (pd_ix (pdv 0) pd_int (fun _ _ => rfl)))) (pad_cons (pd_op op_mulB od_mul (pd_ix (pdv 0) pd_int (fun _ _ => rfl)) (pd_ix (pdv 1) pd_int (fun _ _ => rfl))) pad_nil))))))
abbrev st_turned : Stmt := topS 6
abbrev names_turned : List Str := ["k", "p", "x", "y", "w"]
theorem sc_turned : FnScope names_turned ["k", "p"] (defScope st_turned) := ⟨rfl, rfl, rfl, by decide +kernel, rfl, by decide +kernel, by decide +kernel⟩
theorem ok_turned (B : Bn mg) (T : Df K mg "turned" st_turned ["k", "p"]) : Ok P w K mg base "turned" 1 2 F_turned := by
  have nd := sc_turned.nd
  refine ok_by names_turned ["k", "p"] g_turned T sc_turned (by decide) rfl rfl rfl rfl fun f cdv A out s H hr hG => ?_
  exact (psd_cons (sd_asg (pdv 1) (PGq.d (gq_tup rfl (gsq_cons (gq_name (i := 2) nd rfl (by first | exact Or.inl rfl | exact Or.inr rfl)) (gsq_cons (gq_name (i := 3) nd rfl (by first | exact Or.inl rfl | exact Or.inr rfl)) (gsq_cons (gq_name (i := 4) nd rfl (by first | exact Or.inl rfl | exact Or.inr rfl)) gsq_nil))))))
      (psd_cons (sd_if (pt_cmpD (op_eqA (hu64 hr)) od_eq (pdv 0) pd_int (nomark _)) (psd_one (sd_ret (pd_tup (pad_cons (pd_un un_neg ud_neg (pdv 3)) (pad_cons (pdv 2) (pad_cons (pdv 4) pad_nil)))))) psd_nil)
      (psd_cons (sd_if (pt_cmpD (op_eqA (hu64 hr)) od_eq (pdv 0) pd_int (nomark _)) (psd_one (sd_ret (pd_tup (pad_cons (pd_un un_neg ud_neg (pdv 2)) (pad_cons (pd_un un_neg ud_neg (pdv 3)) (pad_cons (pdv 4) pad_nil)))))) psd_nil)
      (psd_cons (sd_if (pt_cmpD (op_eqA (hu64 hr)) od_eq (pdv 0) pd_int (nomark _)) (psd_one (sd_ret (pd_tup (pad_cons (pdv 3) (pad_cons (pd_un un_neg ud_neg (pdv 2)) (pad_cons (pdv 4) pad_nil)))))) psd_nil)
      (psd_one (sd_ret (pdv 1)))))))
abbrev st_moved : Stmt := topS 7
abbrev names_moved : List Str := ["motion", "p"]
theorem sc_moved : FnScope names_moved ["motion", "p"] (defScope st_moved) := ⟨rfl, rfl, rfl, by decide +kernel, rfl, by decide +kernel, by decide +kernel⟩
theorem ok_moved (B : Bn mg) (T : Df K mg "moved" st_moved ["motion", "p"]) (O_added : Ok P w K mg base "added" 3 2 F_added) (O_turned : Ok P w K mg base "turned" 1 2 F_turned) : Ok P w K mg base "moved" 4 2 F_moved := by
  have nd := sc_moved.nd
  refine ok_by names_moved ["motion", "p"] g_moved T sc_moved (by decide) rfl rfl rfl rfl fun f cdv A out s H hr hG => ?_
  exact (psd_one (sd_ret (pd_fn O_added (hr.mono (by decide)) hG (pad_cons (pd_fn O_turned (hr.mono (by decide)) hG (pad_cons (pd_ix (pdv 0) pd_int (fun _ _ => rfl)) (pad_cons (pdv 1) pad_nil))) (pad_cons (pd_ix (pdv 0) pd_int (fun _ _ => rfl)) pad_nil)))))
abbrev st_follow : Stmt := topS 8
abbrev names_follow : List Str := ["first", "second"]
theorem sc_follow : FnScope names_follow ["first", "second"] (defScope st_follow) := ⟨rfl, rfl, rfl, by decide +kernel, rfl, by decide +kernel, by decide +kernel⟩
theorem ok_follow (B : Bn mg) (T : Df K mg "follow" st_follow ["first", "second"]) (O_added : Ok P w K mg base "added" 3 2 F_added) (O_turned : Ok P w K mg base "turned" 1 2 F_turned) : Ok P w K mg base "follow" 4 2 F_follow := by
  have nd := sc_follow.nd
  refine ok_by names_follow ["first", "second"] g_follow T sc_follow (by decide) rfl rfl rfl rfl fun f cdv A out s H hr hG => ?_
  exact (psd_one (sd_ret (pd_tup (pad_cons (pd_op op_modN od_mod (pd_op op_addA od_add (pd_ix (pdv 0) pd_int (fun _ _ => rfl)) (pd_ix (pdv 1) pd_int (fun _ _ => rfl))) pd_int) (pad_cons (pd_fn O_added (hr.mono (by decide)) hG (pad_cons (pd_fn O_turned (hr.mono (by decide)) hG (pad_cons (pd_ix (pdv 1) pd_int (fun _ _ => rfl)) (pad_cons (pd_ix (pdv 0) pd_int (fun _ _ => rfl)) pad_nil))) (pad_cons (pd_ix (pdv 1) pd_int (fun _ _ => rfl)) pad_nil))) pad_nil)))))
abbrev st_undo : Stmt := topS 9
abbrev names_undo : List Str := ["motion", "k", "x", "y", "w"]
theorem sc_undo : FnScope names_undo ["motion"] (defScope st_undo) := ⟨rfl, rfl, rfl, by decide +kernel, rfl, by decide +kernel, by decide +kernel⟩
theorem ok_undo (B : Bn mg) (T : Df K mg "undo" st_undo ["motion"]) (O_turned : Ok P w K mg base "turned" 1 2 F_turned) : Ok P w K mg base "undo" 2 1 F_undo := by
  have nd := sc_undo.nd
  refine ok_by names_undo ["motion"] g_undo T sc_undo (by decide) rfl rfl rfl rfl fun f cdv A out s H hr hG => ?_
  exact (psd_cons (sd_set (i := 1) nd rfl (by first | exact Or.inl rfl | exact Or.inr rfl) (pd_op op_modN od_mod (pd_op op_subA od_sub pd_int (pd_ix (pdv 0) pd_int (fun _ _ => rfl))) pd_int))
      (psd_cons (sd_asg (pd_fn O_turned (hr.mono (by decide)) hG (pad_cons (pdv 1) (pad_cons (pd_ix (pdv 0) pd_int (fun _ _ => rfl)) pad_nil))) (PGq.d (gq_tup rfl (gsq_cons (gq_name (i := 2) nd rfl (by first | exact Or.inl rfl | exact Or.inr rfl)) (gsq_cons (gq_name (i := 3) nd rfl (by first | exact Or.inl rfl | exact Or.inr rfl)) (gsq_cons (gq_name (i := 4) nd rfl (by first | exact Or.inl rfl | exact Or.inr rfl)) gsq_nil))))))
      (psd_one (sd_ret (pd_tup (pad_cons (pdv 1) (pad_cons (pd_tup (pad_cons (pd_un un_neg ud_neg (pdv 2)) (pad_cons (pd_un un_neg ud_neg (pdv 3)) (pad_cons (pdv 4) pad_nil)))) pad_nil)))))))
abbrev st_law_cell : Stmt := topS 11
abbrev names_law_cell : List Str := ["_law_script", "_law_k"]
theorem sc_law_cell : FnScope names_law_cell ["_law_script", "_law_k"] (defScope st_law_cell) := ⟨rfl, rfl, rfl, by decide +kernel, rfl, by decide +kernel, by decide +kernel⟩
theorem ok_law_cell (B : Bn mg) (T : Df K mg "_law_cell" st_law_cell ["_law_script", "_law_k"]) : Ok P w K mg base "_law_cell" 1 2 F_law_cell := by
  have nd := sc_law_cell.nd
  refine ok_by names_law_cell ["_law_script", "_law_k"] g_law_cell T sc_law_cell (by decide) rfl rfl rfl rfl fun f cdv A out s H hr hG => ?_
  exact (psd_cons (sd_if (pt_cmpD op_lt od_cmp (pdv 1) (pd_callB call_len ca_len (by rfl) B.len (by decide +kernel) (pad_cons (pdv 0) pad_nil)) (nomark _)) (psd_one (sd_ret (pd_ix (pdv 0) (pdv 1) (fun _ _ => rfl)))) psd_nil)
      (psd_one (sd_ret pd_int)))
abbrev st_law_moved : Stmt := topS 20
abbrev names_law_moved : List Str := ["_law_motion_here", "_law_p", "_law_x", "_law_y", "_law_w", "_law_turn_here", "_law_v"]
theorem sc_law_moved : FnScope names_law_moved ["_law_motion_here", "_law_p"] (defScope st_law_moved) := ⟨rfl, rfl, rfl, by decide +kernel, rfl, by decide +kernel, by decide +kernel⟩
theorem ok_law_moved (B : Bn mg) (T : Df K mg "_law_moved" st_law_moved ["_law_motion_here", "_law_p"]) (O_law_point : Ok P w K mg base "_law_point" 2 3 F_law_point) : Ok P w K mg base "_law_moved" 3 2 F_law_moved := by
  have nd := sc_law_moved.nd
  refine ok_by names_law_moved ["_law_motion_here", "_law_p"] g_law_moved T sc_law_moved (by decide) rfl rfl rfl rfl fun f cdv A out s H hr hG => ?_
  exact (psd_cons (sd_asg (pdv 1) (PGq.d (gq_tup rfl (gsq_cons (gq_name (i := 2) nd rfl (by first | exact Or.inl rfl | exact Or.inr rfl)) (gsq_cons (gq_name (i := 3) nd rfl (by first | exact Or.inl rfl | exact Or.inr rfl)) (gsq_cons (gq_name (i := 4) nd rfl (by first | exact Or.inl rfl | exact Or.inr rfl)) gsq_nil))))))
      (psd_cons (sd_for PassesOwn.never rfl (id_range1 (by rfl) B.range (pd_ix (pdv 0) pd_int (fun _ _ => rfl))) (PGq.d (gq_name (i := 5) nd rfl (by first | exact Or.inl rfl | exact Or.inr rfl))) (psd_one (sd_par (i := 2) (j := 3) rfl nd rfl rfl (by decide) rfl rfl (pd_un un_neg ud_neg (pdv 3)) (pdv 2))))
      (psd_cons (sd_set (i := 6) nd rfl (by first | exact Or.inl rfl | exact Or.inr rfl) (pd_ix (pdv 0) pd_int (fun _ _ => rfl)))
      (psd_one (sd_ret (pd_fn O_law_point (hr.mono (by decide)) hG (pad_cons (pd_op op_addA od_add (pd_op op_mulB od_mul (pdv 2) (pd_ix (pdv 6) pd_int (fun _ _ => rfl))) (pd_op op_mulB od_mul (pd_ix (pdv 6) pd_int (fun _ _ => rfl)) (pdv 4))) (pad_cons (pd_op op_addA od_add (pd_op op_mulB od_mul (pdv 3) (pd_ix (pdv 6) pd_int (fun _ _ => rfl))) (pd_op op_mulB od_mul (pd_ix (pdv 6) pd_int (fun _ _ => rfl)) (pdv 4))) (pad_cons (pd_op op_mulB od_mul (pdv 4) (pd_ix (pdv 6) pd_int (fun _ _ => rfl))) pad_nil)))))))))
abbrev st_law_is_motion : Stmt := topS 23
abbrev names_law_is_motion : List Str := ["_law_motion_here", "_law_v"]
theorem sc_law_is_motion : FnScope names_law_is_motion ["_law_motion_here"] (defScope st_law_is_motion) := ⟨rfl, rfl, rfl, by decide +kernel, rfl, by decide +kernel, by decide +kernel⟩
theorem ok_law_is_motion (B : Bn mg) (T : Df K mg "_law_is_motion" st_law_is_motion ["_law_motion_here"]) (O_law_point : Ok P w K mg base "_law_point" 2 3 F_law_point) : Ok P w K mg base "_law_is_motion" 3 1 F_law_is_motion := by
  have nd := sc_law_is_motion.nd
  refine ok_by names_law_is_motion ["_law_motion_here"] g_law_is_motion T sc_law_is_motion (by decide) rfl rfl rfl rfl fun f cdv A out s H hr hG => ?_
  exact (psd_cons (sd_if (PWd.pt (pw_orD (pt_notD (pt_valD (pd_isi kit_tuple (by rfl) B.isinstance (by rfl) B.tuple (by decide +kernel) (pdv 0)))) (pw_orD (pt_cmpD (op_neA (hu64 hr)) od_ne (pd_callB call_len ca_len (by rfl) B.len (by decide +kernel) (pad_cons (pdv 0) pad_nil)) pd_int (nomark _)) (pw_or1D (pt_cmpD (op_notInA (hu65 hr)) od_notIn (pd_ix (pdv 0) pd_int (fun _ _ => rfl)) (pd_lst (pad_cons pd_int (pad_cons pd_int (pad_cons pd_int (pad_cons pd_int pad_nil))))) (by rfl)))))) (psd_one (sd_ret pd_bl)) psd_nil)
      (psd_cons (sd_set (i := 1) nd rfl (by first | exact Or.inl rfl | exact Or.inr rfl) (pd_ix (pdv 0) pd_int (fun _ _ => rfl)))
      (psd_one (sd_ret (pd_and (pd_isi kit_tuple (by rfl) B.isinstance (by rfl) B.tuple (by decide +kernel) (pdv 1)) (pd_and (pd_cmp (op_eqA (hu64 hr)) od_eq (pd_callB call_len ca_len (by rfl) B.len (by decide +kernel) (pad_cons (pdv 1) pad_nil)) pd_int (nomark _)) (pd_and (pd_cmp op_gt od_cmp (pd_ix (pdv 1) pd_int (fun _ _ => rfl)) pd_int (nomark _)) (pd_one (pd_cmp (op_eqA (hu64 hr)) od_eq (pd_fn O_law_point (hr.mono (by decide)) hG (pad_cons (pd_ix (pdv 1) pd_int (fun _ _ => rfl)) (pad_cons (pd_ix (pdv 1) pd_int (fun _ _ => rfl)) (pad_cons (pd_ix (pdv 1) pd_int (fun _ _ => rfl)) pad_nil)))) (pdv 1) (nomark _))))))))))
abbrev st_law : Stmt := topS 24
abbrev names_law : List Str := ["_law_script", "_law_first", "_law_second", "_law_parts_here", "_law_p", "_law_once", "_law_both", "_law_back"]
theorem sc_law : FnScope names_law ["_law_script"] (defScope st_law) := ⟨rfl, rfl, rfl, by decide +kernel, rfl, by decide +kernel, by decide +kernel⟩
theorem ok_law (B : Bn mg) (T : Df K mg "law" st_law ["_law_script"]) (O_law_motion : Ok P w K mg base "_law_motion" 3 1 F_law_motion) (O_law_parts : Ok P w K mg base "_law_parts" 1 2 F_law_parts) (O_law_point : Ok P w K mg base "_law_point" 2 3 F_law_point) (O_moved : Ok P w K mg base "moved" 4 2 F_moved) (O_follow : Ok P w K mg base "follow" 4 2 F_follow) (O_undo : Ok P w K mg base "undo" 2 1 F_undo) (O_law_cell : Ok P w K mg base "_law_cell" 1 2 F_law_cell) (O_law_moved : Ok P w K mg base "_law_moved" 3 2 F_law_moved) (O_law_is_motion : Ok P w K mg base "_law_is_motion" 3 1 F_law_is_motion) : Ok P w K mg base "law" 5 1 F_law := by
  have nd := sc_law.nd
  refine ok_by names_law ["_law_script"] g_law T sc_law (by decide) rfl rfl rfl rfl fun f cdv A out s H hr hG => ?_
  exact (psd_cons (sd_set (i := 1) nd rfl (by first | exact Or.inl rfl | exact Or.inr rfl) (pd_fn O_law_motion (hr.mono (by decide)) hG (pad_cons (pd_fn O_law_cell (hr.mono (by decide)) hG (pad_cons (pdv 0) (pad_cons pd_int pad_nil))) pad_nil)))
      (psd_cons (sd_set (i := 2) nd rfl (by first | exact Or.inl rfl | exact Or.inr rfl) (pd_fn O_law_motion (hr.mono (by decide)) hG (pad_cons (pd_op op_addA od_add (pd_fn O_law_cell (hr.mono (by decide)) hG (pad_cons (pdv 0) (pad_cons pd_int pad_nil))) pd_int) pad_nil)))
      (psd_cons (sd_set (i := 3) nd rfl (by first | exact Or.inl rfl | exact Or.inr rfl) (pd_fn O_law_parts (hr.mono (by decide)) hG (pad_cons (pd_fn O_law_cell (hr.mono (by decide)) hG (pad_cons (pdv 0) (pad_cons pd_int pad_nil))) (pad_cons (pd_lst (pad_cons pd_int (pad_cons pd_int (pad_cons pd_int pad_nil)))) pad_nil))))
      (psd_cons (sd_set (i := 4) nd rfl (by first | exact Or.inl rfl | exact Or.inr rfl) (pd_fn O_law_point (hr.mono (by decide)) hG (pad_cons (pd_op op_subA od_sub (pd_ix (pdv 3) pd_int (fun _ _ => rfl)) pd_int) (pad_cons (pd_op op_subA od_sub (pd_ix (pdv 3) pd_int (fun _ _ => rfl)) pd_int) (pad_cons (pd_op op_addA od_add pd_int (pd_ix (pdv 3) pd_int (fun _ _ => rfl))) pad_nil)))))
      (psd_cons (sd_set (i := 5) nd rfl (by first | exact Or.inl rfl | exact Or.inr rfl) (pd_fn O_moved (hr.mono (by decide)) hG (pad_cons (pdv 1) (pad_cons (pdv 4) pad_nil))))
      (psd_cons (sd_if (pt_cmpD (op_neA (hu64 hr)) od_ne (pd_repr hG (hu200 hr) (by rfl) B.repr (pdv 5)) (pd_repr hG (hu200 hr) (by rfl) B.repr (pd_fn O_law_moved (hr.mono (by decide)) hG (pad_cons (pdv 1) (pad_cons (pdv 4) pad_nil)))) (nomark _)) (psd_one (sd_ret pd_bl)) psd_nil)
      (psd_cons (sd_set (i := 6) nd rfl (by first | exact Or.inl rfl | exact Or.inr rfl) (pd_fn O_follow (hr.mono (by decide)) hG (pad_cons (pdv 1) (pad_cons (pdv 2) pad_nil))))
      (psd_cons (sd_set (i := 7) nd rfl (by first | exact Or.inl rfl | exact Or.inr rfl) (pd_fn O_undo (hr.mono (by decide)) hG (pad_cons (pdv 1) pad_nil)))
      (psd_cons (sd_if (PWd.pt (pw_orD (pt_notD (pt_valD (pd_fn O_law_is_motion (hr.mono (by decide)) hG (pad_cons (pdv 6) pad_nil)))) (pw_or1D (pt_notD (pt_valD (pd_fn O_law_is_motion (hr.mono (by decide)) hG (pad_cons (pdv 7) pad_nil))))))) (psd_one (sd_ret pd_bl)) psd_nil)
      (psd_cons (sd_if (PWd.pt (pw_orD (pt_cmpD (op_neA (hu64 hr)) od_ne (pd_repr hG (hu200 hr) (by rfl) B.repr (pd_fn O_law_moved (hr.mono (by decide)) hG (pad_cons (pdv 6) (pad_cons (pdv 4) pad_nil)))) (pd_repr hG (hu200 hr) (by rfl) B.repr (pd_fn O_law_moved (hr.mono (by decide)) hG (pad_cons (pdv 2) (pad_cons (pdv 5) pad_nil)))) (nomark _)) (pw_or1D (pt_cmpD (op_neA (hu64 hr)) od_ne (pd_repr hG (hu200 hr) (by rfl) B.repr (pd_fn O_law_moved (hr.mono (by decide)) hG (pad_cons (pdv 7) (pad_cons (pdv 5) pad_nil)))) (pd_repr hG (hu200 hr) (by rfl) B.repr (pdv 4)) (nomark _))))) (psd_one (sd_ret pd_bl)) psd_nil)
      (psd_one (sd_ret (pd_and (pd_cmp (op_eqA (hu64 hr)) od_eq (pd_fn O_follow (hr.mono (by decide)) hG (pad_cons (pdv 1) (pad_cons (pdv 7) pad_nil))) (pd_tup (pad_cons pd_int (pad_cons (pd_tup (pad_cons pd_int (pad_cons pd_int (pad_cons pd_int pad_nil)))) pad_nil))) (nomark _)) (pd_and (pd_cmp (op_eqA (hu64 hr)) od_eq (pd_fn O_follow (hr.mono (by decide)) hG (pad_cons (pdv 7) (pad_cons (pdv 1) pad_nil))) (pd_tup (pad_cons pd_int (pad_cons (pd_tup (pad_cons pd_int (pad_cons pd_int (pad_cons pd_int pad_nil)))) pad_nil))) (nomark _)) (pd_one (pd_cmp (op_eqA (hu64 hr)) od_eq (pd_fn O_undo (hr.mono (by decide)) hG (pad_cons (pdv 7) pad_nil)) (pdv 1) (nomark _)))))))))))))))))
theorem fin (B : Bn mg) (T_law_parts : Df K mg "_law_parts" st_law_parts ["_law_cell_here", "_law_sizes"]) (T_law_divisor : Df K mg "_law_divisor" st_law_divisor ["_law_a", "_law_b"]) (T_law_point : Df K mg "_law_point" st_law_point ["_law_x", "_law_y", "_law_w"]) (T_law_motion : Df K mg "_law_motion" st_law_motion ["_law_cell_here"]) (T_common_divisor : Df K mg "common_divisor" st_common_divisor ["a", "b"]) (T_point : Df K mg "point" st_point ["x", "y", "w"]) (T_added : Df K mg "added" st_added ["p", "v"]) (T_turned : Df K mg "turned" st_turned ["k", "p"]) (T_moved : Df K mg "moved" st_moved ["motion", "p"]) (T_follow : Df K mg "follow" st_follow ["first", "second"]) (T_undo : Df K mg "undo" st_undo ["motion"]) (T_law_cell : Df K mg "_law_cell" st_law_cell ["_law_script", "_law_k"]) (T_law_moved : Df K mg "_law_moved" st_law_moved ["_law_motion_here", "_law_p"]) (T_law_is_motion : Df K mg "_law_is_motion" st_law_is_motion ["_law_motion_here"]) (T_law : Df K mg "law" st_law ["_law_script"]) : Ok P w K mg base "law" 5 1 F_law := by
  have O_law_parts := ok_law_parts (P := P) (w := w) (base := base) B T_law_parts
  have O_law_divisor := ok_law_divisor (P := P) (w := w) (base := base) B T_law_divisor
  have O_law_point := ok_law_point (P := P) (w := w) (base := base) B T_law_point O_law_divisor
  have O_law_motion := ok_law_motion (P := P) (w := w) (base := base) B T_law_motion O_law_parts O_law_point
  have O_common_divisor := ok_common_divisor (P := P) (w := w) (base := base) B T_common_divisor
  have O_point := ok_point (P := P) (w := w) (base := base) B T_point O_common_divisor
  have O_added := ok_added (P := P) (w := w) (base := base) B T_added O_point
  have O_turned := ok_turned (P := P) (w := w) (base := base) B T_turned
  have O_moved := ok_moved (P := P) (w := w) (base := base) B T_moved O_added O_turned
  have O_follow := ok_follow (P := P) (w := w) (base := base) B T_follow O_added O_turned
  have O_undo := ok_undo (P := P) (w := w) (base := base) B T_undo O_turned
  have O_law_cell := ok_law_cell (P := P) (w := w) (base := base) B T_law_cell
  have O_law_moved := ok_law_moved (P := P) (w := w) (base := base) B T_law_moved O_law_point
  have O_law_is_motion := ok_law_is_motion (P := P) (w := w) (base := base) B T_law_is_motion O_law_point
  have O_law := ok_law (P := P) (w := w) (base := base) B T_law O_law_motion O_law_parts O_law_point O_moved O_follow O_undo O_law_cell O_law_moved O_law_is_motion
  exact O_law
end
end Law
open PySem PySem.W PyProof.Rows in
set_option maxRecDepth 100000 in
set_option maxHeartbeats 0 in
theorem PySem.Challenge.cw_cutandlaid_k12_motions_holds : PySem.Challenge.rw_cutandlaid_k12_motions.Holds := by
  w_on; o_law; k_head; (case hw => w_witness2)
  k_fill
  refine Dn.walk_g (l := PySem.Challenge.rw_cutandlaid_k12_motions) (n := 63) (k := 5) (F := Law.F_law) rfl (by decide) rfl rfl ⟨rfl, by decide, by decide⟩ (fun w h Y => PySem.W.kIn_of Y) ?O Law.law_true
  case O =>
    intro w mg h KX G base _ _
    refine' Law.fin ?B ?T_law_parts ?T_law_divisor ?T_law_point ?T_law_motion ?T_common_divisor ?T_point ?T_added ?T_turned ?T_moved ?T_follow ?T_undo ?T_law_cell ?T_law_moved ?T_law_is_motion ?T_law
    case B =>
      constructor
      · exact PySem.W.mg_none_of KX G (by k_is)
      · exact PySem.W.mg_none_of KX G (by k_is)
      · exact PySem.W.mg_none_of KX G (by k_is)
      · exact PySem.W.mg_none_of KX G (by k_is)
      · exact PySem.W.mg_none_of KX G (by k_is)
      · exact PySem.W.mg_none_of KX G (by k_is)
      · exact PySem.W.mg_none_of KX G (by k_is)
    case T_law_parts =>
      refine' Dn.df_mk KX G ?a ?l ?c ?k (fun _ _ _ _ _ _ us hl => match us, hl with | [_, _], _ => rfl)
      (case a => k_is)
      (case l => k_is)
      (case c => k_is)
      (case k => k_is)
    case T_law_divisor =>
      refine' Dn.df_mk KX G ?a ?l ?c ?k (fun _ _ _ _ _ _ us hl => match us, hl with | [_, _], _ => rfl)
      (case a => k_is)
      (case l => k_is)
      (case c => k_is)
      (case k => k_is)
    case T_law_point =>
      refine' Dn.df_mk KX G ?a ?l ?c ?k (fun _ _ _ _ _ _ us hl => match us, hl with | [_, _, _], _ => rfl)
      (case a => k_is)
      (case l => k_is)
      (case c => k_is)
      (case k => k_is)
    case T_law_motion =>
      refine' Dn.df_mk KX G ?a ?l ?c ?k (fun _ _ _ _ _ _ us hl => match us, hl with | [_], _ => rfl)
      (case a => k_is)
      (case l => k_is)
      (case c => k_is)
      (case k => k_is)
    case T_common_divisor =>
      refine' Dn.df_mk KX G ?a ?l ?c ?k (fun _ _ _ _ _ _ us hl => match us, hl with | [_, _], _ => rfl)
      (case a => k_is)
      (case l => k_is)
      (case c => k_is)
      (case k => k_is)
    case T_point =>
      refine' Dn.df_mk KX G ?a ?l ?c ?k (fun _ _ _ _ _ _ us hl => match us, hl with | [_, _, _], _ => rfl)
      (case a => k_is)
      (case l => k_is)
      (case c => k_is)
      (case k => k_is)
    case T_added =>
      refine' Dn.df_mk KX G ?a ?l ?c ?k (fun _ _ _ _ _ _ us hl => match us, hl with | [_, _], _ => rfl)
      (case a => k_is)
      (case l => k_is)
      (case c => k_is)
      (case k => k_is)
    case T_turned =>
      refine' Dn.df_mk KX G ?a ?l ?c ?k (fun _ _ _ _ _ _ us hl => match us, hl with | [_, _], _ => rfl)
      (case a => k_is)
      (case l => k_is)
      (case c => k_is)
      (case k => k_is)
    case T_moved =>
      refine' Dn.df_mk KX G ?a ?l ?c ?k (fun _ _ _ _ _ _ us hl => match us, hl with | [_, _], _ => rfl)
      (case a => k_is)
      (case l => k_is)
      (case c => k_is)
      (case k => k_is)
    case T_follow =>
      refine' Dn.df_mk KX G ?a ?l ?c ?k (fun _ _ _ _ _ _ us hl => match us, hl with | [_, _], _ => rfl)
      (case a => k_is)
      (case l => k_is)
      (case c => k_is)
      (case k => k_is)
    case T_undo =>
      refine' Dn.df_mk KX G ?a ?l ?c ?k (fun _ _ _ _ _ _ us hl => match us, hl with | [_], _ => rfl)
      (case a => k_is)
      (case l => k_is)
      (case c => k_is)
      (case k => k_is)
    case T_law_cell =>
      refine' Dn.df_mk KX G ?a ?l ?c ?k (fun _ _ _ _ _ _ us hl => match us, hl with | [_, _], _ => rfl)
      (case a => k_is)
      (case l => k_is)
      (case c => k_is)
      (case k => k_is)
    case T_law_moved =>
      refine' Dn.df_mk KX G ?a ?l ?c ?k (fun _ _ _ _ _ _ us hl => match us, hl with | [_, _], _ => rfl)
      (case a => k_is)
      (case l => k_is)
      (case c => k_is)
      (case k => k_is)
    case T_law_is_motion =>
      refine' Dn.df_mk KX G ?a ?l ?c ?k (fun _ _ _ _ _ _ us hl => match us, hl with | [_], _ => rfl)
      (case a => k_is)
      (case l => k_is)
      (case c => k_is)
      (case k => k_is)
    case T_law =>
      refine' Dn.df_mk KX G ?a ?l ?c ?k (fun _ _ _ _ _ _ us hl => match us, hl with | [_], _ => rfl)
      (case a => k_is)
      (case l => k_is)
      (case c => k_is)
      (case k => k_is)
#print axioms PySem.Challenge.cw_cutandlaid_k12_motions_holds
