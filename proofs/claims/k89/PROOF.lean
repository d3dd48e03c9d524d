import PyProof.Rows.All
import Wide.All
import OpenK.AllK
import Wide.FinOn
import HandS.ForMost
import HandS.Exc
import HandS.TryOnly
import HandS.ExcOwn
import HandS.WordsExc
import HandS.Deep
import HandS.Walk
import HandS.Wide
import HandS.Rev
import HandS.Style
import HandS.IsInst
import HandS.SortKw
import HandS.ExcIs
import HandS.ExcValue
import HandS.EndBits
import PySem.Challenge.RW_chancehouse_k89_numbers_refused
set_option Elab.async false
set_option linter.all false
set_option maxRecDepth 100000
/-! Pu, part A: data over the heap, owned cells. -/
namespace Pu
open PySem L2

/-- a refusal that stands at a, kept as a value: its class -/
def ExK (cls : Value) (a : Addr) : HO := .ext fun h => ∃ (oe : Obj) (vs : Array Value), h.get? a = some oe ∧ Zc cls none oe ∧ oe.data = .fields vs
/-- such a refusal, as data -/
abbrev errD (c : Str) : PyData := .dict [(.str c, .none)]
/-- a dict that holds nothing, as data -/
abbrev empD : PyData := .dict [(.bool true, .none)]
/-! ### data that stands in the heap -/
mutual
inductive Dq (K : PySem.W.Frag) (H : Hp) : V → PyData → Prop
  | non : Dq K H .non .none
  | bl (b : Bool) : Dq K H (.bl b) (.bool b)
  | int (i : Int) : Dq K H (.int i) (.int i)
  | str (x : Str) : Dq K H (.str x) (.str x)
  | lst {a : Addr} {xs : List V} {ds : List PyData} : H a = some (.lst xs) → DqA K H xs ds → Dq K H (.ref a) (.list ds)
  | tup {a : Addr} {xs : List V} {ds : List PyData} : H a = some (.tup xs) → DqA K H xs ds → Dq K H (.ref a) (.tuple ds)
  /-- a list of ints that may be read, no more (the script) -/
  | scr {a : Addr} {ns : List Int} : SqL K H a (ns.map V.int) → Dq K H (.ref a) (.dict (ns.map fun n => (.none, .int n)))
  /-- a refusal that was caught and kept -/
  | exc {a C : Addr} {c : Str} : H a = some (ExK (.ref C) a) → PySem.W.nsIn K mainGlobals c = some (some (.ref C)) → Dq K H (.ref a) (.dict [(.str c, .none)])
  /-- a dict that holds nothing -/
  | emp {a : Addr} : H a = some (.dK []) → Dq K H (.ref a) (.dict [(.bool true, .none)])
inductive DqA (K : PySem.W.Frag) (H : Hp) : List V → List PyData → Prop
  | nil : DqA K H [] []
  | cons {v : V} {vs : List V} {d : PyData} {ds : List PyData} : Dq K H v d → DqA K H vs ds → DqA K H (v :: vs) (d :: ds)
end
/-- the script, as data -/
def scrD (ns : List Int) : PyData := .dict (ns.map fun n => (.none, .int n))

theorem rd_mono {H H' : Hp} (e : Same H H') {a : Addr} {u : HO} (h : Rd H a u) : Rd H' a u := by
  rcases h with h | ⟨o, h⟩
  · exact .inl (e _ _ h)
  · exact .inr ⟨o, e _ _ h⟩

section
variable {K : PySem.W.Frag}
mutual
theorem Dq.mono {H H' : Hp} (e : Same H H') : ∀ {d : PyData} {v : V}, Dq K H v d → Dq K H' v d
  | .none, _, h => by cases h; exact .non
  | .bool _, _, h => by cases h; exact .bl _
  | .int _, _, h => by cases h; exact .int _
  | .str _, _, h => by cases h; exact .str _
  | .list ds, _, h => by
    cases h with
    | lst h1 h2 => exact .lst (e _ _ h1) (DqA.mono e h2)
  | .tuple ds, _, h => by
    cases h with
    | tup h1 h2 => exact .tup (e _ _ h1) (DqA.mono e h2)
  | .dict _, _, h => by
    cases h with
    | scr h1 => exact .scr (e.seq h1)
    | exc h1 h2 => exact .exc (e _ _ h1) h2
    | emp h1 => exact .emp (e _ _ h1)
theorem DqA.mono {H H' : Hp} (e : Same H H') : ∀ {ds : List PyData} {vs : List V}, DqA K H vs ds → DqA K H' vs ds
  | [], _, h => by cases h; exact .nil
  | d :: ds, _, h => by
    cases h with
    | cons h1 h2 => exact .cons (Dq.mono e h1) (DqA.mono e h2)
end

theorem DqA.len {H : Hp} : ∀ {ds : List PyData} {vs : List V}, DqA K H vs ds → vs.length = ds.length
  | [], _, h => by cases h; rfl
  | d :: ds, _, h => by
    cases h with
    | cons h1 h2 => simp [DqA.len h2]
theorem DqA.get {H : Hp} : ∀ {ds : List PyData} {vs : List V} {i : Nat} {d : PyData}, DqA K H vs ds → ds[i]? = some d → ∃ v, vs[i]? = some v ∧ Dq K H v d
  | [], _, i, d, h, e => by simp at e
  | d0 :: ds, _, 0, d, h, e => by
    cases h with
    | cons h1 h2 => simp at e; subst e; exact ⟨_, rfl, h1⟩
  | d0 :: ds, _, i + 1, d, h, e => by
    cases h with
    | cons h1 h2 =>
      obtain ⟨v, h3, h4⟩ := DqA.get (i := i) h2 (by simpa using e)
      exact ⟨v, by simpa using h3, h4⟩
theorem DqA.get' {H : Hp} {ds : List PyData} {vs : List V} {i : Nat} {v : V} (h : DqA K H vs ds) (e : vs[i]? = some v) : ∃ d, ds[i]? = some d ∧ Dq K H v d := by
  have hl := h.len
  have hi : i < ds.length := by
    obtain ⟨q, _⟩ := List.getElem?_eq_some_iff.mp e
    omega
  obtain ⟨w, h1, h2⟩ := h.get (List.getElem?_eq_getElem hi)
  rw [e] at h1
  cases h1
  exact ⟨_, List.getElem?_eq_getElem hi, h2⟩
theorem DqA.app {H : Hp} : ∀ {ds es : List PyData} {vs us : List V}, DqA K H vs ds → DqA K H us es → DqA K H (vs ++ us) (ds ++ es)
  | [], _, _, _, h, g => by cases h; exact g
  | d :: ds, _, _, _, h, g => by
    cases h with
    | cons h1 h2 => exact .cons h1 (DqA.app h2 g)
theorem DqA.take {H : Hp} : ∀ {ds : List PyData} {vs : List V} (n : Nat), DqA K H vs ds → DqA K H (vs.take n) (ds.take n)
  | _, _, 0, _ => by simpa using .nil
  | [], _, n + 1, h => by cases h; exact .nil
  | d :: ds, _, n + 1, h => by
    cases h with
    | cons h1 h2 => exact .cons h1 (DqA.take n h2)
theorem DqA.drop {H : Hp} : ∀ {ds : List PyData} {vs : List V} (n : Nat), DqA K H vs ds → DqA K H (vs.drop n) (ds.drop n)
  | _, _, 0, h => by simpa using h
  | [], _, n + 1, h => by cases h; exact .nil
  | d :: ds, _, n + 1, h => by
    cases h with
    | cons h1 h2 => simpa using DqA.drop n h2
theorem DqA.set {H : Hp} : ∀ {ds : List PyData} {vs : List V} {v : V} {d : PyData} (n : Nat), DqA K H vs ds → Dq K H v d → DqA K H (vs.set n v) (ds.set n d)
  | [], _, _, _, n, h, _ => by cases h; exact .nil
  | _ :: _, _, _, _, 0, h, g => by
    cases h with
    | cons h1 h2 => exact .cons g h2
  | _ :: _, _, _, _, n + 1, h, g => by
    cases h with
    | cons h1 h2 => exact .cons h1 (DqA.set n h2 g)
theorem DqA.rep {H : Hp} {ds : List PyData} {vs : List V} (h : DqA K H vs ds) : ∀ k : Nat, DqA K H (List.replicate k vs).flatten (List.replicate k ds).flatten
  | 0 => by simpa using .nil
  | k + 1 => by
    rw [List.replicate_succ, List.replicate_succ, List.flatten_cons, List.flatten_cons]
    exact h.app (DqA.rep h k)
theorem DqA.rev {H : Hp} : ∀ {ds : List PyData} {vs : List V}, DqA K H vs ds → DqA K H vs.reverse ds.reverse
  | [], _, h => by cases h; exact .nil
  | d :: ds, _, h => by
    cases h with
    | cons h1 h2 =>
      rw [List.reverse_cons, List.reverse_cons]
      exact (DqA.rev h2).app (.cons h1 .nil)
theorem DqA.ints {H : Hp} : ∀ {ns : List Int} {vs : List V}, DqA K H vs (ns.map PyData.int) → vs = ns.map V.int
  | [], _, h => by cases h; rfl
  | n :: ns, _, h => by
    cases h with
    | cons h1 h2 =>
      cases h1
      rw [DqA.ints h2]
      rfl
theorem DqA.ofInts {H : Hp} : ∀ ns : List Int, DqA K H (ns.map V.int) (ns.map PyData.int)
  | [] => .nil
  | n :: ns => .cons (.int n) (DqA.ofInts ns)
theorem DqA.strs {H : Hp} : ∀ {ns : List Str} {vs : List V}, DqA K H vs (ns.map PyData.str) → vs = ns.map V.str
  | [], _, h => by cases h; rfl
  | n :: ns, _, h => by
    cases h with
    | cons h1 h2 =>
      cases h1
      rw [DqA.strs h2]
      rfl
theorem DqA.ofStrs {H : Hp} : ∀ ns : List Str, DqA K H (ns.map V.str) (ns.map PyData.str)
  | [] => .nil
  | n :: ns => .cons (.str n) (DqA.ofStrs ns)
theorem DqA.bls {H : Hp} : ∀ {ns : List Bool} {vs : List V}, DqA K H vs (ns.map PyData.bool) → vs = ns.map V.bl
  | [], _, h => by cases h; rfl
  | n :: ns, _, h => by
    cases h with
    | cons h1 h2 =>
      cases h1
      rw [DqA.bls h2]
      rfl

/-! ### data without lists -/
mutual
def lf : PyData → Bool
  | .list _ => false
  | .dict _ => false
  | .tuple ds => lfA ds
  | .none => true
  | .bool _ => true
  | .int _ => true
  | .str _ => true
def lfA : List PyData → Bool
  | [] => true
  | d :: ds => lf d && lfA ds
end
mutual
theorem Dq.lf_of {H H' : Hp} (e : ∀ a xs, H a = some (.tup xs) → H' a = some (.tup xs)) : ∀ {d : PyData} {v : V}, lf d = true → Dq K H v d → Dq K H' v d
  | .none, _, _, h => by cases h; exact .non
  | .bool _, _, _, h => by cases h; exact .bl _
  | .int _, _, _, h => by cases h; exact .int _
  | .str _, _, _, h => by cases h; exact .str _
  | .list ds, _, l, h => by simp [lf] at l
  | .tuple ds, _, l, h => by
    cases h with
    | tup h1 h2 => exact .tup (e _ _ h1) (DqA.lf_of e (by simpa [lf] using l) h2)
  | .dict _, _, l, h => by simp [lf] at l
theorem DqA.lf_of {H H' : Hp} (e : ∀ a xs, H a = some (.tup xs) → H' a = some (.tup xs)) : ∀ {ds : List PyData} {vs : List V}, lfA ds = true → DqA K H vs ds → DqA K H' vs ds
  | [], _, _, h => by cases h; exact .nil
  | d :: ds, _, l, h => by
    cases h with
    | cons h1 h2 =>
      simp [lfA] at l
      exact .cons (Dq.lf_of e l.1 h1) (DqA.lf_of e l.2 h2)
end

/-! ### shapes: no dict, not too deep -/
mutual
def okD : Nat → PyData → Bool
  | _, .none => true
  | _, .bool _ => true
  | _, .int _ => true
  | _, .str x => PyData.strOk x
  | 0, .list _ => false
  | 0, .tuple _ => false
  | n + 1, .list ds => okA n ds
  | n + 1, .tuple ds => okA n ds
  | _, .dict _ => false
def okA : Nat → List PyData → Bool
  | _, [] => true
  | n, d :: ds => okD n d && okA n ds
end
mutual
theorem okD.sh : ∀ {n : Nat} {d : PyData}, okD n d = true → d.canLay0 = true ∧ d.depth ≤ n + 1
  | n, .none, _ => by simp [PyData.canLay0, PyData.depth]
  | n, .bool _, _ => by simp [PyData.canLay0, PyData.depth]
  | n, .int _, _ => by simp [PyData.canLay0, PyData.depth]
  | n, .str x, h => by
    have : PyData.strOk x = true := by cases n <;> simpa [okD] using h
    simp [PyData.canLay0, PyData.depth, this]
  | 0, .list _, h => by simp [okD] at h
  | 0, .tuple _, h => by simp [okD] at h
  | n + 1, .list ds, h => by
    have := okA.sh (n := n) (ds := ds) (by simpa [okD] using h)
    simp only [PyData.canLay0, PyData.depth]
    exact ⟨this.1, by omega⟩
  | n + 1, .tuple ds, h => by
    have := okA.sh (n := n) (ds := ds) (by simpa [okD] using h)
    simp only [PyData.canLay0, PyData.depth]
    exact ⟨this.1, by omega⟩
  | n, .dict _, h => by cases n <;> simp [okD] at h
theorem okA.sh : ∀ {n : Nat} {ds : List PyData}, okA n ds = true → PyData.canLayAll0 ds = true ∧ PyData.depthAll ds ≤ n + 1
  | n, [], _ => by simp [PyData.canLayAll0, PyData.depthAll]
  | n, d :: ds, h => by
    simp only [okA, Bool.and_eq_true] at h
    have h1 := okD.sh h.1
    have h2 := okA.sh h.2
    simp only [PyData.canLayAll0, PyData.depthAll, Bool.and_eq_true]
    exact ⟨⟨h1.1, h2.1⟩, by omega⟩
end
theorem okD.shaped {d : PyData} (h : okD 60 d = true) : SeqAt.shaped d = true := by
  have := okD.sh h
  unfold SeqAt.shaped
  rw [this.1, Bool.true_and]
  exact decide_eq_true (by omega)
mutual
theorem Dq.dp {H : Hp} : ∀ {n : Nat} {d : PyData} {v : V}, okD n d = true → Dq K H v d → Dp K H v d
  | _, .none, _, _, h => by cases h; exact .non
  | _, .bool _, _, _, h => by cases h; exact .bl _
  | _, .int _, _, _, h => by cases h; exact .int _
  | _, .str _, _, _, h => by cases h; exact .str _
  | 0, .list _, _, g, _ => by simp [okD] at g
  | 0, .tuple _, _, g, _ => by simp [okD] at g
  | n + 1, .list ds, _, g, h => by
    cases h with
    | lst h1 h2 => exact .lst (.inl (.inl h1)) (DqA.dp (n := n) (by simpa [okD] using g) h2)
  | n + 1, .tuple ds, _, g, h => by
    cases h with
    | tup h1 h2 => exact .tup (.inl (.inl h1)) (DqA.dp (n := n) (by simpa [okD] using g) h2)
  | n, .dict _, _, g, _ => by cases n <;> simp [okD] at g
theorem DqA.dp {H : Hp} : ∀ {n : Nat} {ds : List PyData} {vs : List V}, okA n ds = true → DqA K H vs ds → DpAll K H vs ds
  | _, [], _, _, h => by cases h; exact .nil
  | n, d :: ds, _, g, h => by
    cases h with
    | cons h1 h2 =>
      simp only [okA, Bool.and_eq_true] at g
      exact .cons (Dq.dp g.1 h1) (DqA.dp g.2 h2)
end
end
end Pu

set_option Elab.async false
set_option linter.all false
set_option maxRecDepth 100000
/-! Pu, part B: the small language, what it means over data, and the look that it is the program's text. -/
namespace Pu
open PySem L2

/-! ### the small language -/
/-- a target: a name, or names of a tuple -/
inductive Tg where
  | n (i : Nat)
  | t (l : List Nat)
/-- built-in functions and types that are called by their names -/
inductive Bf where
  | len | abs | max | min | sum | sorted | any | all | int | str | list | tuple
  deriving DecidableEq
/-- methods of texts and lists -/
inductive Mf where
  | index | find | partition | split | join | count
  deriving DecidableEq
/-- classes that are asked for -/
inductive Tf where
  | int | bool | str | list | tuple
  deriving DecidableEq
inductive Ex where
  | var (i : Nat)
  | int (n : Int)
  | str (s : Str)
  | bl (b : Bool)
  | non
  | gl (i : Nat) (x : Str)
  | bin (o : Operator) (a b : Ex)
  | neg (a : Ex)
  | cmp (o : CmpOp) (a b : Ex)
  | chn (o o' : CmpOp) (a b c : Ex)
  | and1 (a : Ex) | and (a r : Ex) | or1 (a : Ex) | or (a r : Ex)
  | not (a : Ex)
  | ite (c a b : Ex)
  | tup (r : Ex) | lst (r : Ex)
  | nil | cons (a r : Ex)
  | ix (a i : Ex)
  | pix (v : Nat) (i : Ex)
  | sl0 (a : Ex) | slL (a lo : Ex) | slH (a hi : Ex) | slB (a lo hi : Ex)
  | rv (a : Ex)
  | call (i : Nat) (f : Str) (r : Ex)
  | callT (i : Nat) (f : Str) (r : Ex)
  | blt (f : Bf) (r : Ex)
  | pl (v : Nat)
  | pin (neg : Bool) (a : Ex) (v : Nat)
  | met (m : Mf) (a r : Ex)
  | isi (a : Ex) (t : Tf)
  | isx (a : Ex) (d : Str)
  | emp
  | lc (own : List Nat) (e : Ex) (tg : Tg) (it : Ex)
  | lci (own : List Nat) (e : Ex) (tg : Tg) (it c : Ex)
  | itL (a : Ex) | itT (a : Ex) | itS (a : Ex)
  | rg1 (a : Ex) | rg2 (a b : Ex) | rg3 (a b c : Ex)
  | zip (a b : Ex) | rev (a : Ex) | enu (a : Ex)

inductive Sm where
  | skip
  | seq (s r : Sm)
  | asg (i : Nat) (e : Ex)
  | asgF (i : Nat) (e : Ex)
  | asgT (l : List Nat) (e : Ex)
  | sti (i : Nat) (k e : Ex)
  | app (i : Nat) (e : Ex)
  | fz (i : Nat) (s : Sm)
  | ite (c : Ex) (a b : Sm)
  | for (tg : Tg) (it : Ex) (b : Sm)
  | whl (c : Ex) (b : Sm)
  | ret (e : Ex)
  | rai (c : Str)
  | tryK (o : Option Nat) (e : Ex) (c : Str) (i j : Nat)
  | nev
  | pass

/-! ### slots -/
inductive Sl where
  | no
  | sh (d : PyData)
  | ow (ds : List PyData)
abbrev Ev := List Sl
def Sl.pk : Sl → Option PyData
  | .no => none
  | .sh d => some d
  | .ow ds => some (.list ds)
def Sl.fz : Sl → Sl
  | .no => .no
  | .sh d => .sh d
  | .ow ds => .sh (.list ds)
/-- the value of a slot that is no owned list -/
def rdV (ρ : Ev) (i : Nat) (Q : PyData → Prop) : Prop := match ρ[i]? with
  | some (.sh d) => Q d
  | _ => False
/-- the value of a slot, for a look that keeps nothing of the list itself -/
def rdP (ρ : Ev) (i : Nat) (Q : PyData → Prop) : Prop := match ρ[i]? with
  | some (.sh d) => Q d
  | some (.ow ds) => Q (.list ds)
  | _ => False
def rdO (ρ : Ev) (i : Nat) (Q : List PyData → Prop) : Prop := match ρ[i]? with
  | some (.ow ds) => Q ds
  | _ => False
abbrev frz (ρ : Ev) : Ev := ρ.map Sl.fz
def wip (ρ : Ev) : List Nat → Ev
  | [] => ρ
  | v :: vs => (wip ρ vs).set v .no

/-! ### what operations give -/
def sBin (o : Operator) (x y : PyData) (Q : PyData → Prop) : Prop := match o, x, y with
  | .Add, .int i, .int j => Q (.int (i + j))
  | .Add, .str a, .str b => a.length + b.length ≤ sizeLine ∧ Q (.str (a ++ b))
  | .Add, .list a, .list b => a.length + b.length ≤ sizeLine ∧ Q (.list (a ++ b))
  | .Sub, .int i, .int j => Q (.int (i - j))
  | .Mult, .int i, .int j => CMulW i j ∧ Q (.int (i * j))
  | .Mult, .list a, .int k => -(2 ^ 63) ≤ k ∧ k < 2 ^ 63 ∧ a.length * k.toNat ≤ sizeLine ∧ Q (.list (List.replicate k.toNat a).flatten)
  | .FloorDiv, .int i, .int j => CDivW i j ∧ Q (.int (i / j))
  | .Mod, .int i, .int j => 0 < j ∧ Q (.int (i % j))
  | .Pow, .int i, .int j => CPow i j ∧ Q (.int (i ^ j.toNat))
  | _, _, _ => False
def sEq (x y : PyData) (Q : Bool → Prop) : Prop := match x, y with
  | .int i, .int j => Q (decide (i = j))
  | .str a, .str b => Q (decide (a = b))
  | .bool a, .bool b => Q (decide (a = b))
  | x, y => okD 60 x = true ∧ okD 60 y = true ∧ Q (PyData.eqv x y)
def isN : PyData → Bool
  | .none => true
  | _ => false
def sIn (x y : PyData) (Q : Bool → Prop) : Prop := match x, y with
  | x, .list ds => okD 60 x = true ∧ okD 60 (.list ds) = true ∧ Q (ds.any fun z => PyData.eqv z x)
  | .str a, .str b => Q (!(Builtin.Str.occurrences b a 0 b.length 1).isEmpty)
  | .int i, .tuple ds => ∃ ns : List Int, ds = ns.map PyData.int ∧ Q (ns.any fun n => n == i)
  | _, _ => False
def sCmp (o : CmpOp) (x y : PyData) (Q : PyData → Prop) : Prop := match o with
  | .Eq => sEq x y fun b => Q (.bool b)
  | .NotEq => sEq x y fun b => Q (.bool (!b))
  | .In => sIn x y fun b => Q (.bool b)
  | .NotIn => sIn x y fun b => Q (.bool (!b))
  | .Is => match y with
    | .none => Q (.bool (isN x))
    | .bool b => match x with
      | .bool a => Q (.bool (decide (a = b)))
      | _ => False
    | _ => False
  | .IsNot => match y with
    | .none => Q (.bool (!isN x))
    | _ => False
  | .Lt => match x, y with
    | .int i, .int j => Q (.bool (decide (i < j)))
    | _, _ => False
  | .LtE => match x, y with
    | .int i, .int j => Q (.bool (decide (i ≤ j)))
    | _, _ => False
  | .Gt => match x, y with
    | .int i, .int j => Q (.bool (decide (j < i)))
    | _, _ => False
  | .GtE => match x, y with
    | .int i, .int j => Q (.bool (decide (j ≤ i)))
    | _, _ => False
def sIx (x y : PyData) (Q : PyData → Prop) : Prop := match x, y with
  | .list ds, .int i => match atI ds i with
    | some d => Q d
    | none => False
  | .tuple ds, .int i => match atI ds i with
    | some d => Q d
    | none => False
  | .dict kv, .int i => match atI kv i with
    | some d => isN d.1 = true ∧ Q d.2
    | none => False
  | .str z, .int i => z.length ≤ sizeLine ∧ match atI z.cps.toList i with
    | some c => Q (.str ⟨#[c]⟩)
    | none => False
  | _, _ => False
def cutD (ds : List PyData) (lo hi : Option Int) : List PyData := (ds.drop (HT.sIx ds.length 0 lo)).take (HT.sIx ds.length ds.length hi - HT.sIx ds.length 0 lo)
def sSl (x : PyData) (lo hi : Option Int) (Q : PyData → Prop) : Prop := match x with
  | .list ds => Q (.list (cutD ds lo hi))
  | .str z => z.length ≤ sizeLine ∧ Q (.str (cutS z lo hi))
  | _ => False
def ofB (x : PyData) (Q : Bool → Prop) : Prop := match x with
  | .bool b => Q b
  | _ => False
def ofT (x : PyData) (Q : List PyData → Prop) : Prop := match x with
  | .tuple ds => Q ds
  | _ => False
def ofL (x : PyData) (Q : List PyData → Prop) : Prop := match x with
  | .list ds => Q ds
  | _ => False
def ofI (x : PyData) (Q : Int → Prop) : Prop := match x with
  | .int i => Q i
  | _ => False
def ofS (x : PyData) (Q : Str → Prop) : Prop := match x with
  | .str i => Q i
  | _ => False
def sLen (x : PyData) (Q : PyData → Prop) : Prop := match x with
  | .list ds => Q (.int ds.length)
  | .tuple ds => Q (.int ds.length)
  | .dict kv => (kv.all fun p => isN p.1) = true ∧ Q (.int kv.length)
  | .str z => z.length ≤ sizeLine ∧ Q (.int z.length)
  | _ => False
def sB (f : Bf) (ds : List PyData) (Q : PyData → Prop) : Prop := match f, ds with
  | .len, [x] => sLen x Q
  | .abs, [.int i] => Q (.int (if i < 0 then -i else i))
  | .max, [.int i, .int j] => Q (.int (if j > i then j else i))
  | .min, [.int i, .int j] => Q (.int (if j < i then j else i))
  | .max, [.list ds] => ∃ ns : List Int, ds = ns.map PyData.int ∧ 0 < ns.length ∧ ∀ m, m ∈ ns → (∀ y, y ∈ ns → y ≤ m) → Q (.int m)
  | .min, [.list ds] => ∃ ns : List Int, ds = ns.map PyData.int ∧ 0 < ns.length ∧ ∀ m, m ∈ ns → (∀ y, y ∈ ns → m ≤ y) → Q (.int m)
  | .sum, [.list ds] => ∃ ns : List Int, ds = ns.map PyData.int ∧ Q (.int ns.sum)
  | .sorted, [.list ds] => ∃ ns : List Int, ds = ns.map PyData.int ∧ ns.length < 64 ∧ ∀ ns' : List Int, ns'.Perm ns → ns'.Pairwise (· ≤ ·) → Q (.list (ns'.map PyData.int))
  | .any, [.list ds] => ∃ bs : List Bool, ds = bs.map PyData.bool ∧ Q (.bool (bs.any id))
  | .all, [.list ds] => ∃ bs : List Bool, ds = bs.map PyData.bool ∧ Q (.bool (bs.all id))
  | .int, [.int i] => Q (.int i)
  | .int, [.bool b] => Q (.int (if b then 1 else 0))
  | .int, [.str a] => ∃ n, PySem.intText? a = some n ∧ a.length ≤ 640 ∧ Q (.int n)
  | .str, [.int i] => i.natAbs.log2 < 1920 ∧ Q (.str (toString i))
  | .list, [.list ds] => Q (.list ds)
  | .list, [.tuple ds] => Q (.list ds)
  | .tuple, [.tuple ds] => Q (.tuple ds)
  | _, _ => False
def sM (m : Mf) (x : PyData) (as : List PyData) (Q : PyData → Prop) : Prop := match m, x, as with
  | .index, .list ds, [y] => okD 60 y = true ∧ okD 60 (.list ds) = true ∧ ∃ j z, ds[j]? = some z ∧ PyData.eqv z y = true ∧ (∀ (m : Nat) (z' : PyData), m < j → ds[m]? = some z' → PyData.eqv z' y = false) ∧ Q (.int (j : Nat))
  | .find, .str a, [.str b] => Q (.int (Txt.find a b))
  | .count, .str a, [.str b] => Q (.int (Txt.count a b))
  | .partition, .str a, [.str b] => (b.length == 0) = false ∧ a.length ≤ sizeLine ∧ Q (.tuple [.str (Txt.partition a b).1, .str (Txt.partition a b).2.1, .str (Txt.partition a b).2.2])
  | .split, .str a, [.str b] => (b.length == 0) = false ∧ a.length + 2 ≤ sizeLine ∧ Q (.list ((Txt.split a b).map PyData.str))
  | .join, .str a, [.list ds] => ∃ ys : List Str, ds = ys.map PyData.str ∧ (ys.map (·.length)).sum + ys.length * a.length ≤ 16777216 ∧ Q (.str (Txt.join a ys))
  | _, _, _ => False
/-- what a method is of -/
def tyM (m : Mf) (x : PyData) : Bool := match m, x with
  | .index, .list _ => true
  | .index, _ => false
  | _, .str _ => true
  | _, _ => false
def tyD : PyData → Tf → Bool
  | .int _, .int => true
  | .bool _, .int => true
  | .bool _, .bool => true
  | .str _, .str => true
  | .list _, .list => true
  | .tuple _, .tuple => true
  | _, _ => false
def noD : PyData → Bool
  | .dict [(.bool true, .none)] => true
  | .dict _ => false
  | _ => true

/-! ### promises -/
/-- a promise over data: the arguments, what is wanted of the answer, what of a refusal (its class by name) -/
abbrev PSp := List PyData → (PyData → Prop) → (Str → Prop) → Prop
structure Fs where
  sp : PSp
  /-- how many arguments -/
  ar : Nat
  /-- whether the answer is a new list, the caller's own -/
  fr : Bool
/-- the classes of refusals: which is one of which -/
def subB (c d : Str) : Bool := decide (c = d) || decide (d = "ChanceError") || decide (d = "ValueError")
def isxR (kt : List (Str × Str)) (x : PyData) (d : Str) (Q : Bool → Prop) : Prop := match x with
  | .dict [(.str c, .none)] => (c, d) ∈ kt ∧ Q (subB c d)
  | _ => False
/-- what names of the module mean -/
structure Gam where
  fs : List (Str × Fs)
  gl : List (Str × PyData)
  kt : List (Str × Str)
def up (f : Fs) (ds : List PyData) (Q : PyData → Prop) (X : Str → Prop) : Prop := ds.length = f.ar ∧ ∃ (Q0 : PyData → Prop) (X0 : Str → Prop), f.sp ds Q0 X0 ∧ (∀ d, Q0 d → Q d) ∧ (∀ c, X0 c → X c)
theorem up_of {f : Fs} {ds : List PyData} {Q : PyData → Prop} {X : Str → Prop} (hl : ds.length = f.ar) (h : f.sp ds Q X) : up f ds Q X := ⟨hl, Q, X, h, fun _ q => q, fun _ q => q⟩

/-! ### what the language means -/
def bnd (tg : Tg) (d : PyData) (ρ : Ev) (K : Ev → Prop) : Prop := match tg with
  | .n i => K (ρ.set i (.sh d))
  | .t l => ofT d fun ds => ds.length = l.length ∧ K ((l.zip ds).foldl (fun r p => r.set p.1 (.sh p.2)) ρ)

/-- a comprehension's turns: what is given so far is acc -/
def lcs (tst elt : PyData → (Option PyData → Prop) → Prop) : List PyData → List PyData → (PyData → Prop) → Prop
  | [], acc, Q => Q (.list acc)
  | d :: ds, acc, Q => tst d fun o => match o with
    | none => lcs tst elt ds acc Q
    | some _ => elt d fun o => match o with
      | some y => lcs tst elt ds (acc ++ [y]) Q
      | none => False

section
variable (G : Gam)
def wE : Ex → Ev → (PyData → Prop) → (Str → Prop) → Prop
  | .var i, ρ, Q, _ => rdV ρ i Q
  | .int n, _, Q, _ => Q (.int n)
  | .str s, _, Q, _ => Q (.str s)
  | .bl b, _, Q, _ => Q (.bool b)
  | .non, _, Q, _ => Q .none
  | .emp, _, Q, _ => Q empD
  | .gl i x, _, Q, _ => ∃ d, G.gl[i]? = some (x, d) ∧ Q d
  | .bin o a b, ρ, Q, X => wE a ρ (fun x => wE b ρ (fun y => sBin o x y Q) X) X
  | .neg a, ρ, Q, X => wE a ρ (fun x => ofI x fun i => Q (.int (-i))) X
  | .cmp o a b, ρ, Q, X => wE a ρ (fun x => wE b ρ (fun y => sCmp o x y Q) X) X
  | .chn o o' a b c, ρ, Q, X => wE a ρ (fun x => wE b ρ (fun y => sCmp o x y fun z => ofB z fun k => if k = true then wE c ρ (fun w => sCmp o' y w Q) X else Q (.bool false)) X) X
  | .and1 a, ρ, Q, X => wE a ρ Q X
  | .and a r, ρ, Q, X => wE a ρ (fun x => ofB x fun k => if k = true then wE r ρ Q X else Q (.bool false)) X
  | .or1 a, ρ, Q, X => wE a ρ Q X
  | .or a r, ρ, Q, X => wE a ρ (fun x => ofB x fun k => if k = true then Q (.bool true) else wE r ρ Q X) X
  | .not a, ρ, Q, X => wE a ρ (fun x => ofB x fun k => Q (.bool (!k))) X
  | .ite c a b, ρ, Q, X => wE c ρ (fun x => ofB x fun k => if k = true then wE a ρ Q X else wE b ρ Q X) X
  | .tup r, ρ, Q, X => wE r ρ (fun x => ofT x fun ds => ds.length ≤ sizeLine ∧ Q (.tuple ds)) X
  | .lst r, ρ, Q, X => wE r ρ (fun x => ofT x fun ds => ds.length ≤ sizeLine ∧ Q (.list ds)) X
  | .nil, _, Q, _ => Q (.tuple [])
  | .cons a r, ρ, Q, X => wE a ρ (fun x => wE r ρ (fun y => ofT y fun ds => Q (.tuple (x :: ds))) X) X
  | .ix a i, ρ, Q, X => wE a ρ (fun x => wE i ρ (fun y => sIx x y Q) X) X
  | .pix v i, ρ, Q, X => rdP ρ v fun x => wE i ρ (fun y => sIx x y Q) X
  | .sl0 a, ρ, Q, X => wE a ρ (fun x => sSl x none none Q) X
  | .slL a lo, ρ, Q, X => wE a ρ (fun x => wE lo ρ (fun l => ofI l fun i => sSl x (some i) none Q) X) X
  | .slH a hi, ρ, Q, X => wE a ρ (fun x => wE hi ρ (fun h => ofI h fun j => sSl x none (some j) Q) X) X
  | .slB a lo hi, ρ, Q, X => wE a ρ (fun x => wE lo ρ (fun l => ofI l fun i => wE hi ρ (fun h => ofI h fun j => sSl x (some i) (some j) Q) X) X) X
  | .rv a, ρ, Q, X => wE a ρ (fun x => ofL x fun ds => Q (.list ds.reverse)) X
  | .call i f r, ρ, Q, X => ∃ s, G.fs[i]? = some (f, s) ∧ wE r ρ (fun x => ofT x fun ds => up s ds Q X) X
  | .callT i f r, ρ, Q, X => ∃ s, G.fs[i]? = some (f, s) ∧ wE r (frz ρ) (fun x => ofT x fun ds => up s ds (fun d => lf d = true ∧ Q d) X) X
  | .blt f r, ρ, Q, X => wE r ρ (fun x => ofT x fun ds => sB f ds Q) X
  | .pl v, ρ, Q, _ => rdP ρ v fun x => sLen x Q
  | .pin ng a v, ρ, Q, X => wE a ρ (fun x => rdP ρ v fun y => sIn x y fun b => Q (.bool (if ng = true then !b else b))) X
  | .met m a r, ρ, Q, X => wE a ρ (fun x => tyM m x = true ∧ wE r ρ (fun y => ofT y fun ds => sM m x ds Q) X) X
  | .isi a t, ρ, Q, X => wE a ρ (fun x => noD x = true ∧ Q (.bool (tyD x t))) X
  | .isx a d, ρ, Q, X => wE a ρ (fun x => isxR G.kt x d fun b => Q (.bool b)) X
  | .lc own e tg it, ρ, Q, X => wE it ρ (fun x => ofL x fun ds => ds.length ≤ sizeLine ∧
      lcs (fun _ k => k (some .none)) (fun d k => bnd tg d (wip ρ own) fun ρ1 => wE e ρ1 (fun y => k (some y)) (fun _ => False)) ds [] Q) X
  | .lci own e tg it c, ρ, Q, X => wE it ρ (fun x => ofL x fun ds => ds.length ≤ sizeLine ∧
      lcs (fun d k => bnd tg d (wip ρ own) fun ρ1 => wE c ρ1 (fun x => ofB x fun b => if b = true then k (some .none) else k none) (fun _ => False))
          (fun d k => bnd tg d (wip ρ own) fun ρ1 => wE e ρ1 (fun y => k (some y)) (fun _ => False)) ds [] Q) X
  | .itL a, ρ, Q, X => wE a ρ (fun x => ofL x fun ds => Q (.list ds)) X
  | .itT a, ρ, Q, X => wE a ρ (fun x => ofT x fun ds => Q (.list ds)) X
  | .itS a, ρ, Q, X => wE a ρ (fun x => ofS x fun z => Q (.list (z.cps.toList.map fun c => .str ⟨#[c]⟩))) X
  | .rg1 a, ρ, Q, X => wE a ρ (fun x => ofI x fun j => -(2 ^ 62) ≤ j ∧ j < 2 ^ 62 ∧ Q (.list ((List.range j.toNat).map fun i => .int (i : Nat)))) X
  | .rg2 a b, ρ, Q, X => wE a ρ (fun x => wE b ρ (fun y => ofI x fun i => ofI y fun j => -(2 ^ 62) ≤ i ∧ i < 2 ^ 62 ∧ -(2 ^ 62) ≤ j ∧ j < 2 ^ 62 ∧ Q (.list ((List.range (j - i).toNat).map fun k => .int (i + (k : Nat))))) X) X
  | .rg3 a b c, ρ, Q, X => wE a ρ (fun x => wE b ρ (fun y => wE c ρ (fun z => ofI x fun i => ofI y fun j => ofI z fun k => ∃ n, RgC i j k n ∧ Q (.list ((List.range n).map fun m => .int (i + (m : Nat) * k)))) X) X) X
  | .zip a b, ρ, Q, X => wE a ρ (fun x => wE b ρ (fun y => ofL x fun ds => ofL y fun es => Q (.list ((ds.zip es).map fun p => .tuple [p.1, p.2]))) X) X
  | .rev a, ρ, Q, X => wE a ρ (fun x => ofL x fun ds => Q (.list ds.reverse)) X
  | .enu a, ρ, Q, X => wE a ρ (fun x => ofL x fun ds => Q (.list (ds.zipIdx.map fun p => .tuple [.int (p.2 : Nat), p.1]))) X
termination_by structural e => e

/-- whether an expression gives a new list -/
def frE : Ex → Bool
  | .lst _ => true
  | .lc .. => true
  | .lci .. => true
  | .sl0 .. => true
  | .slL .. => true
  | .slH .. => true
  | .slB .. => true
  | .rv .. => true
  | .bin .Mult _ _ => true
  | .bin .Add _ _ => true
  | .blt .list _ => true
  | .blt .sorted _ => true
  | .call i _ _ => match G.fs[i]? with
    | some s => s.2.fr
    | none => false
  | .met .split _ _ => true
  | _ => false
def frR (e : Ex) (ρ : Ev) : Bool := match e with
  | .var i => match ρ[i]? with
    | some (.ow _) => true
    | _ => false
  | e => frE G e

/-- what a block wants behind a statement -/
abbrev Blk := Ev → (Ev → Prop) → (PyData → Prop) → (Str → Prop) → Prop
/-- what follows: the rest of the block -/
def nxt (B : Blk) (nx : Ev → Prop) (rt : PyData → Prop) (X : Str → Prop) (ρ : Ev) : Prop := B ρ nx rt X
/-- a while: fuel, the test, the body -/
def wW (c : Ex) (B : Blk) (nx : Ev → Prop) (rt : PyData → Prop) (X : Str → Prop) : Nat → Ev → Prop
  | 0, _ => False
  | n + 1, ρ => wE G c (frz ρ) (fun x => ofB x fun k => if k = true then B ρ (wW c B nx rt X n) rt X else nx ρ) X
/-- a for over items -/
def wF (tg : Tg) (B : Blk) (nx : Ev → Prop) (rt : PyData → Prop) (X : Str → Prop) : List PyData → Ev → Prop
  | [], ρ => nx ρ
  | d :: ds, ρ => bnd tg d ρ fun ρ1 => B ρ1 (wF tg B nx rt X ds) rt X

def wS (fr : Bool) : Sm → Ev → (Ev → Prop) → (PyData → Prop) → (Str → Prop) → Prop
  | .skip, ρ, nx, _, _ => nx ρ
  | .pass, ρ, nx, _, _ => nx ρ
  | .seq s r, ρ, nx, rt, X => wS fr s ρ (nxt (wS fr r) nx rt X) rt X
  | .asg i e, ρ, nx, _, X => wE G e ρ (fun d => nx (ρ.set i (.sh d))) X
  | .asgF i e, ρ, nx, _, X => frE G e = true ∧ wE G e ρ (fun d => ofL d fun ds => nx (ρ.set i (.ow ds))) X
  | .asgT l e, ρ, nx, _, X => wE G e ρ (fun d => bnd (.t l) d ρ nx) X
  | .sti i k e, ρ, nx, _, X => wE G e ρ (fun d => rdO ρ i fun ds => wE G k ρ (fun y => ofI y fun j => match ixN ds.length j with
      | some n => nx (ρ.set i (.ow (ds.set n d)))
      | none => False) X) X
  | .app i e, ρ, nx, _, X => rdO ρ i fun ds => wE G e ρ (fun d => ds.length < sizeLine ∧ nx (ρ.set i (.ow (ds ++ [d])))) X
  | .fz i s, ρ, nx, rt, X => rdO ρ i fun ds => wS fr s (ρ.set i (.sh (.list ds))) nx rt X
  | .ite c a b, ρ, nx, rt, X => wE G c (frz ρ) (fun x => ofB x fun k => if k = true then wS fr a ρ nx rt X else wS fr b ρ nx rt X) X
  | .for tg it b, ρ, nx, rt, X => wE G it ρ (fun x => ofL x fun ds => wF tg (wS fr b) nx rt X ds ρ) X
  | .whl c b, ρ, nx, rt, X => ∃ n, wW G c (wS fr b) nx rt X n ρ
  | .ret e, ρ, _, rt, X => (fr = true → frR G e ρ = true) ∧ wE G e (frz ρ) rt X
  | .rai c, _, _, _, X => X c
  | .tryK o e c i j, ρ, nx, _, _ => wE G e ρ (fun d => nx (match o with | some k => ρ.set k (.sh d) | none => ρ)) (fun x => (x, c) ∈ G.kt ∧ subB x c = true ∧ nx (((ρ.set i (.sh (errD x))).set j (.sh (errD x))).set i .no))
  | .nev, _, _, _, _ => False
end
end Pu

set_option Elab.async false
set_option linter.all false
set_option maxRecDepth 100000
/-! Pu, part C: what is wanted may be weakened. -/
namespace Pu
open PySem L2

theorem rdV_mono {ρ : Ev} {i : Nat} {Q Q' : PyData → Prop} (h : rdV ρ i Q) (k : ∀ d, Q d → Q' d) : rdV ρ i Q' := by
  unfold rdV at *; split at h <;> first | exact k _ h | exact h.elim
theorem rdP_mono {ρ : Ev} {i : Nat} {Q Q' : PyData → Prop} (h : rdP ρ i Q) (k : ∀ d, Q d → Q' d) : rdP ρ i Q' := by
  unfold rdP at *; split at h <;> first | exact k _ h | exact h.elim
theorem rdO_mono {ρ : Ev} {i : Nat} {Q Q' : List PyData → Prop} (h : rdO ρ i Q) (k : ∀ d, Q d → Q' d) : rdO ρ i Q' := by
  unfold rdO at *; split at h <;> first | exact k _ h | exact h.elim
theorem ofB_mono {x : PyData} {Q Q' : Bool → Prop} (h : ofB x Q) (k : ∀ b, Q b → Q' b) : ofB x Q' := by
  unfold ofB at *; split at h <;> first | exact k _ h | exact h.elim
theorem ofI_mono {x : PyData} {Q Q' : Int → Prop} (h : ofI x Q) (k : ∀ b, Q b → Q' b) : ofI x Q' := by
  unfold ofI at *; split at h <;> first | exact k _ h | exact h.elim
theorem ofS_mono {x : PyData} {Q Q' : Str → Prop} (h : ofS x Q) (k : ∀ b, Q b → Q' b) : ofS x Q' := by
  unfold ofS at *; split at h <;> first | exact k _ h | exact h.elim
theorem ofT_mono {x : PyData} {Q Q' : List PyData → Prop} (h : ofT x Q) (k : ∀ b, Q b → Q' b) : ofT x Q' := by
  unfold ofT at *; split at h <;> first | exact k _ h | exact h.elim
theorem ofL_mono {x : PyData} {Q Q' : List PyData → Prop} (h : ofL x Q) (k : ∀ b, Q b → Q' b) : ofL x Q' := by
  unfold ofL at *; split at h <;> first | exact k _ h | exact h.elim
theorem sBin_mono {o : Operator} {x y : PyData} {Q Q' : PyData → Prop} (h : sBin o x y Q) (k : ∀ d, Q d → Q' d) : sBin o x y Q' := by
  unfold sBin at *
  split at h <;> first | exact k _ h | exact ⟨h.1, k _ h.2⟩ | exact ⟨h.1, h.2.1, h.2.2.1, k _ h.2.2.2⟩ | exact h.elim
theorem sEq_mono {x y : PyData} {Q Q' : Bool → Prop} (h : sEq x y Q) (k : ∀ b, Q b → Q' b) : sEq x y Q' := by
  unfold sEq at *
  split at h <;> first | exact k _ h | exact ⟨h.1, h.2.1, k _ h.2.2⟩ | exact h.elim
theorem sIn_mono {x y : PyData} {Q Q' : Bool → Prop} (h : sIn x y Q) (k : ∀ b, Q b → Q' b) : sIn x y Q' := by
  unfold sIn at *
  split at h
  · exact ⟨h.1, h.2.1, k _ h.2.2⟩
  · exact k _ h
  · obtain ⟨ns, e, q⟩ := h
    exact ⟨ns, e, k _ q⟩
  · exact h.elim
theorem sCmp_mono {o : CmpOp} {x y : PyData} {Q Q' : PyData → Prop} (h : sCmp o x y Q) (k : ∀ d, Q d → Q' d) : sCmp o x y Q' := by
  unfold sCmp at *
  cases o <;> simp only at h ⊢
  · exact sEq_mono h fun _ => k _
  · exact sEq_mono h fun _ => k _
  · split at h <;> first | exact k _ h | exact h.elim
  · split at h <;> first | exact k _ h | exact h.elim
  · split at h <;> first | exact k _ h | exact h.elim
  · split at h <;> first | exact k _ h | exact h.elim
  · split at h
    · exact k _ h
    · split at h <;> first | exact k _ h | exact h.elim
    · exact h.elim
  · split at h <;> first | exact k _ h | exact h.elim
  · exact sIn_mono h fun _ => k _
  · exact sIn_mono h fun _ => k _
theorem sIx_mono {x y : PyData} {Q Q' : PyData → Prop} (h : sIx x y Q) (k : ∀ d, Q d → Q' d) : sIx x y Q' := by
  unfold sIx at *
  split at h
  · split at h <;> first | exact k _ h | exact h.elim
  · split at h <;> first | exact k _ h | exact h.elim
  · split at h <;> first | exact ⟨h.1, k _ h.2⟩ | exact h.elim
  · refine ⟨h.1, ?_⟩
    replace h := h.2
    split at h <;> first | exact k _ h | exact h.elim
  · exact h.elim
theorem sSl_mono {x : PyData} {lo hi : Option Int} {Q Q' : PyData → Prop} (h : sSl x lo hi Q) (k : ∀ d, Q d → Q' d) : sSl x lo hi Q' := by
  unfold sSl at *
  split at h <;> first | exact k _ h | exact ⟨h.1, k _ h.2⟩ | exact h.elim
theorem isxR_mono {kt : List (Str × Str)} {x : PyData} {d : Str} {P Q : Bool → Prop} (h : isxR kt x d P) (k : ∀ b, P b → Q b) : isxR kt x d Q := by
  unfold isxR at *
  split at h
  · exact ⟨h.1, k _ h.2⟩
  · exact h.elim
theorem sLen_mono {x : PyData} {Q Q' : PyData → Prop} (h : sLen x Q) (k : ∀ d, Q d → Q' d) : sLen x Q' := by
  unfold sLen at *
  split at h <;> first | exact k _ h | exact ⟨h.1, k _ h.2⟩ | exact h.elim
theorem sB_mono {f : Bf} {ds : List PyData} {Q Q' : PyData → Prop} (h : sB f ds Q) (k : ∀ d, Q d → Q' d) : sB f ds Q' := by
  unfold sB at *
  split at h
  · exact sLen_mono h k
  · exact k _ h
  · exact k _ h
  · exact k _ h
  · obtain ⟨ns, e, p, q⟩ := h
    exact ⟨ns, e, p, fun m hm hy => k _ (q m hm hy)⟩
  · obtain ⟨ns, e, p, q⟩ := h
    exact ⟨ns, e, p, fun m hm hy => k _ (q m hm hy)⟩
  · obtain ⟨ns, e, q⟩ := h
    exact ⟨ns, e, k _ q⟩
  · obtain ⟨ns, e, p, q⟩ := h
    exact ⟨ns, e, p, fun m hm hy => k _ (q m hm hy)⟩
  · obtain ⟨ns, e, q⟩ := h
    exact ⟨ns, e, k _ q⟩
  · obtain ⟨ns, e, q⟩ := h
    exact ⟨ns, e, k _ q⟩
  · exact k _ h
  · exact k _ h
  · obtain ⟨n, e, p, q⟩ := h
    exact ⟨n, e, p, k _ q⟩
  · exact ⟨h.1, k _ h.2⟩
  · exact k _ h
  · exact k _ h
  · exact k _ h
  · exact h.elim
theorem sM_mono {m : Mf} {x : PyData} {as : List PyData} {Q Q' : PyData → Prop} (h : sM m x as Q) (k : ∀ d, Q d → Q' d) : sM m x as Q' := by
  unfold sM at *
  split at h
  · obtain ⟨a, b, j, z, c, d, e, q⟩ := h
    exact ⟨a, b, j, z, c, d, e, k _ q⟩
  · exact k _ h
  · exact k _ h
  · exact ⟨h.1, h.2.1, k _ h.2.2⟩
  · exact ⟨h.1, h.2.1, k _ h.2.2⟩
  · obtain ⟨ys, e, p, q⟩ := h
    exact ⟨ys, e, p, k _ q⟩
  · exact h.elim
theorem up_mono {f : Fs} {ds : List PyData} {Q Q' : PyData → Prop} {X X' : Str → Prop} (h : up f ds Q X) (k : ∀ d, Q d → Q' d) (kx : ∀ c, X c → X' c) : up f ds Q' X' := by
  obtain ⟨hl, Q0, X0, q, a, b⟩ := h
  exact ⟨hl, Q0, X0, q, fun d z => k d (a d z), fun c z => kx c (b c z)⟩
theorem bnd_mono {tg : Tg} {d : PyData} {ρ : Ev} {K K' : Ev → Prop} (h : bnd tg d ρ K) (k : ∀ r, K r → K' r) : bnd tg d ρ K' := by
  cases tg with
  | n i => exact k _ h
  | t l => exact ofT_mono h fun ds q => ⟨q.1, k _ q.2⟩
theorem lcs_mono {t t' e e' : PyData → (Option PyData → Prop) → Prop} (ht : ∀ d K K', t d K → (∀ o, K o → K' o) → t' d K') (he : ∀ d K K', e d K → (∀ o, K o → K' o) → e' d K') :
    ∀ {ds acc : List PyData} {Q Q' : PyData → Prop}, lcs t e ds acc Q → (∀ d, Q d → Q' d) → lcs t' e' ds acc Q'
  | [], acc, Q, Q', h, k => k _ h
  | d :: ds, acc, Q, Q', h, k => by
    refine ht d _ _ h fun o q => ?_
    cases o with
    | none => exact lcs_mono ht he q k
    | some _ =>
      refine he d _ _ q fun o q => ?_
      cases o with
      | none => exact q.elim
      | some y => exact lcs_mono ht he q k

section
variable {G : Gam}
theorem wE_mono : ∀ {e : Ex} {ρ : Ev} {Q Q' : PyData → Prop} {X X' : Str → Prop}, wE G e ρ Q X → (∀ d, Q d → Q' d) → (∀ c, X c → X' c) → wE G e ρ Q' X' := by
  intro e
  induction e with
  | var i => intro ρ Q Q' X X' h k kx; exact rdV_mono h k
  | int n => intro ρ Q Q' X X' h k kx; exact k _ h
  | str n => intro ρ Q Q' X X' h k kx; exact k _ h
  | bl n => intro ρ Q Q' X X' h k kx; exact k _ h
  | non => intro ρ Q Q' X X' h k kx; exact k _ h
  | gl i x =>
    intro ρ Q Q' X X' h k kx
    obtain ⟨d, e, q⟩ := h
    exact ⟨d, e, k _ q⟩
  | bin o a b iha ihb => intro ρ Q Q' X X' h k kx; exact iha h (fun _ h => ihb h (fun _ h => sBin_mono h k) kx) kx
  | neg a iha => intro ρ Q Q' X X' h k kx; exact iha h (fun _ h => ofI_mono h fun _ => k _) kx
  | cmp o a b iha ihb => intro ρ Q Q' X X' h k kx; exact iha h (fun _ h => ihb h (fun _ h => sCmp_mono h k) kx) kx
  | chn o o' a b c iha ihb ihc =>
    intro ρ Q Q' X X' h k kx
    refine iha h (fun _ h => ihb h (fun _ h => sCmp_mono h fun _ h => ofB_mono h fun t h => ?_) kx) kx
    cases t with
    | true => exact ihc h (fun _ h => sCmp_mono h k) kx
    | false => exact k _ h
  | and1 a iha => intro ρ Q Q' X X' h k kx; exact iha h k kx
  | or1 a iha => intro ρ Q Q' X X' h k kx; exact iha h k kx
  | and a r iha ihr =>
    intro ρ Q Q' X X' h k kx
    refine iha h (fun _ h => ofB_mono h fun t h => ?_) kx
    cases t with
    | true => exact ihr h k kx
    | false => exact k _ h
  | or a r iha ihr =>
    intro ρ Q Q' X X' h k kx
    refine iha h (fun _ h => ofB_mono h fun t h => ?_) kx
    cases t with
    | true => exact k _ h
    | false => exact ihr h k kx
  | not a iha => intro ρ Q Q' X X' h k kx; exact iha h (fun _ h => ofB_mono h fun _ => k _) kx
  | ite c a b ihc iha ihb =>
    intro ρ Q Q' X X' h k kx
    refine ihc h (fun _ h => ofB_mono h fun t h => ?_) kx
    cases t with
    | true => exact iha h k kx
    | false => exact ihb h k kx
  | tup r ih => intro ρ Q Q' X X' h k kx; exact ih h (fun _ h => ofT_mono h fun _ q => ⟨q.1, k _ q.2⟩) kx
  | lst r ih => intro ρ Q Q' X X' h k kx; exact ih h (fun _ h => ofT_mono h fun _ q => ⟨q.1, k _ q.2⟩) kx
  | nil => intro ρ Q Q' X X' h k kx; exact k _ h
  | cons a r iha ihr => intro ρ Q Q' X X' h k kx; exact iha h (fun _ h => ihr h (fun _ h => ofT_mono h fun _ => k _) kx) kx
  | ix a i iha ihi => intro ρ Q Q' X X' h k kx; exact iha h (fun _ h => ihi h (fun _ h => sIx_mono h k) kx) kx
  | pix v i ihi => intro ρ Q Q' X X' h k kx; exact rdP_mono h fun _ h => ihi h (fun _ h => sIx_mono h k) kx
  | sl0 a iha => intro ρ Q Q' X X' h k kx; exact iha h (fun _ h => sSl_mono h k) kx
  | slL a lo iha ihl => intro ρ Q Q' X X' h k kx; exact iha h (fun _ h => ihl h (fun _ h => ofI_mono h fun _ h => sSl_mono h k) kx) kx
  | slH a lo iha ihl => intro ρ Q Q' X X' h k kx; exact iha h (fun _ h => ihl h (fun _ h => ofI_mono h fun _ h => sSl_mono h k) kx) kx
  | slB a lo hi iha ihl ihh => intro ρ Q Q' X X' h k kx; exact iha h (fun _ h => ihl h (fun _ h => ofI_mono h fun _ h => ihh h (fun _ h => ofI_mono h fun _ h => sSl_mono h k) kx) kx) kx
  | rv a iha => intro ρ Q Q' X X' h k kx; exact iha h (fun _ h => ofL_mono h fun _ => k _) kx
  | call i f r ih => intro ρ Q Q' X X' h k kx; obtain ⟨s, e, h⟩ := h; exact ⟨s, e, ih h (fun _ h => ofT_mono h fun _ h => up_mono h k kx) kx⟩
  | callT i f r ih => intro ρ Q Q' X X' h k kx; obtain ⟨s, e, h⟩ := h; exact ⟨s, e, ih h (fun _ h => ofT_mono h fun _ h => up_mono h (fun _ q => ⟨q.1, k _ q.2⟩) kx) kx⟩
  | blt f r ih => intro ρ Q Q' X X' h k kx; exact ih h (fun _ h => ofT_mono h fun _ h => sB_mono h k) kx
  | pl v => intro ρ Q Q' X X' h k kx; exact rdP_mono h fun _ h => sLen_mono h k
  | pin ng a v ih => intro ρ Q Q' X X' h k kx; exact ih h (fun _ h => rdP_mono h fun _ h => sIn_mono h fun _ => k _) kx
  | met m a r iha ihr => intro ρ Q Q' X X' h k kx; exact iha h (fun _ h => ⟨h.1, ihr h.2 (fun _ h => ofT_mono h fun _ h => sM_mono h k) kx⟩) kx
  | isi a t ih => intro ρ Q Q' X X' h k kx; exact ih h (fun _ h => ⟨h.1, k _ h.2⟩) kx
  | emp => intro ρ Q Q' X X' h k kx; exact k _ h
  | isx a t ih => intro ρ Q Q' X X' h k kx; exact ih h (fun _ h => isxR_mono h fun _ => k _) kx
  | lc own e tg it ihe ihi =>
    intro ρ Q Q' X X' h k kx
    refine ihi h (fun _ h => ofL_mono h fun ds h => ⟨h.1, ?_⟩) kx
    refine lcs_mono ?_ ?_ h.2 k
    · exact fun d K K' h q => q _ h
    · exact fun d K K' h q => bnd_mono h fun r h => ihe h (fun _ => q _) fun _ z => z
  | lci own e tg it c ihe ihi ihc =>
    intro ρ Q Q' X X' h k kx
    refine ihi h (fun _ h => ofL_mono h fun ds h => ⟨h.1, ?_⟩) kx
    refine lcs_mono ?_ ?_ h.2 k
    · refine fun d K K' h q => bnd_mono h fun r h => ihc h (fun _ h => ofB_mono h fun t h => ?_) fun _ z => z
      cases t with
      | true => exact q _ h
      | false => exact q _ h
    · exact fun d K K' h q => bnd_mono h fun r h => ihe h (fun _ => q _) fun _ z => z
  | itL a ih => intro ρ Q Q' X X' h k kx; exact ih h (fun _ h => ofL_mono h fun _ => k _) kx
  | itT a ih => intro ρ Q Q' X X' h k kx; exact ih h (fun _ h => ofT_mono h fun _ => k _) kx
  | itS a ih => intro ρ Q Q' X X' h k kx; exact ih h (fun _ h => ofS_mono h fun _ => k _) kx
  | rg1 a ih => intro ρ Q Q' X X' h k kx; exact ih h (fun _ h => ofI_mono h fun _ h => ⟨h.1, h.2.1, k _ h.2.2⟩) kx
  | rg2 a b iha ihb => intro ρ Q Q' X X' h k kx; exact iha h (fun _ h => ihb h (fun _ h => ofI_mono h fun _ h => ofI_mono h fun _ h => ⟨h.1, h.2.1, h.2.2.1, h.2.2.2.1, k _ h.2.2.2.2⟩) kx) kx
  | rg3 a b c iha ihb ihc =>
    intro ρ Q Q' X X' h k kx
    exact iha h (fun _ h => ihb h (fun _ h => ihc h (fun _ h => ofI_mono h fun _ h => ofI_mono h fun _ h => ofI_mono h fun _ h => let ⟨n, a, b⟩ := h; ⟨n, a, k _ b⟩) kx) kx) kx
  | zip a b iha ihb => intro ρ Q Q' X X' h k kx; exact iha h (fun _ h => ihb h (fun _ h => ofL_mono h fun _ h => ofL_mono h fun _ => k _) kx) kx
  | rev a ih => intro ρ Q Q' X X' h k kx; exact ih h (fun _ h => ofL_mono h fun _ => k _) kx
  | enu a ih => intro ρ Q Q' X X' h k kx; exact ih h (fun _ h => ofL_mono h fun _ => k _) kx

/-- a block's wish may be weakened -/
def BMono (B : Blk) : Prop := ∀ (ρ : Ev) (K K' : Ev → Prop) (rt rt' : PyData → Prop) (X X' : Str → Prop), B ρ K rt X → (∀ r, K r → K' r) → (∀ d, rt d → rt' d) → (∀ c, X c → X' c) → B ρ K' rt' X'
theorem wF_mono {tg : Tg} {B : Blk} (hb : BMono B) {nx nx' : Ev → Prop} {rt rt' : PyData → Prop} {X X' : Str → Prop} (k : ∀ r, nx r → nx' r) (kr : ∀ d, rt d → rt' d) (kx : ∀ c, X c → X' c) : ∀ {ds : List PyData} {ρ : Ev}, wF tg B nx rt X ds ρ → wF tg B nx' rt' X' ds ρ
  | [], _, h => k _ h
  | d :: ds, _, h => bnd_mono h fun _ h => hb _ _ _ _ _ _ _ h (fun _ h => wF_mono hb k kr kx h) kr kx
theorem wW_mono {c : Ex} {B : Blk} (hb : BMono B) {nx nx' : Ev → Prop} {rt rt' : PyData → Prop} {X X' : Str → Prop} (k : ∀ r, nx r → nx' r) (kr : ∀ d, rt d → rt' d) (kx : ∀ c, X c → X' c) :
    ∀ {n : Nat} {ρ : Ev}, wW G c B nx rt X n ρ → wW G c B nx' rt' X' n ρ
  | 0, _, h => h
  | n + 1, _, h => wE_mono h (fun _ h => ofB_mono h fun t h => by
    cases t with
    | true => exact hb _ _ _ _ _ _ _ h (fun _ h => wW_mono hb k kr kx h) kr kx
    | false => exact k _ h) kx
theorem wS_mono {fr : Bool} : ∀ {s : Sm} {ρ : Ev} {nx nx' : Ev → Prop} {rt rt' : PyData → Prop} {X X' : Str → Prop}, wS G fr s ρ nx rt X → (∀ r, nx r → nx' r) → (∀ d, rt d → rt' d) → (∀ c, X c → X' c) → wS G fr s ρ nx' rt' X' := by
  intro s
  induction s with
  | skip => intro ρ nx nx' rt rt' X X' h k kr kx; exact k _ h
  | pass => intro ρ nx nx' rt rt' X X' h k kr kx; exact k _ h
  | seq s r ihs ihr => intro ρ nx nx' rt rt' X X' h k kr kx; exact ihs h (fun _ h => show wS G fr r _ nx' rt' X' from ihr h k kr kx) kr kx
  | asg i e => intro ρ nx nx' rt rt' X X' h k kr kx; exact wE_mono h (fun _ => k _) kx
  | asgF i e => intro ρ nx nx' rt rt' X X' h k kr kx; exact ⟨h.1, wE_mono h.2 (fun _ h => ofL_mono h fun _ => k _) kx⟩
  | asgT l e => intro ρ nx nx' rt rt' X X' h k kr kx; exact wE_mono h (fun _ h => bnd_mono h k) kx
  | sti i k e =>
    intro ρ nx nx' rt rt' X X' h k kr kx
    refine wE_mono h (fun _ h => rdO_mono h fun _ h => wE_mono h (fun _ h => ofI_mono h fun _ h => ?_) kx) kx
    split at h <;> first | exact k _ h | exact h.elim
  | app i e => intro ρ nx nx' rt rt' X X' h k kr kx; exact rdO_mono h fun _ h => wE_mono h (fun _ h => ⟨h.1, k _ h.2⟩) kx
  | fz i s ih => intro ρ nx nx' rt rt' X X' h k kr kx; exact rdO_mono h fun _ h => ih h k kr kx
  | ite c a b iha ihb =>
    intro ρ nx nx' rt rt' X X' h k kr kx
    refine wE_mono h (fun _ h => ofB_mono h fun t h => ?_) kx
    cases t with
    | true => exact iha h k kr kx
    | false => exact ihb h k kr kx
  | «for» tg it b ih => intro ρ nx nx' rt rt' X X' h k kr kx; exact wE_mono h (fun _ h => ofL_mono h fun ds h => wF_mono (B := wS G fr b) (fun _ _ _ _ _ _ _ h a b c => ih h a b c) k kr kx h) kx
  | whl c b ih =>
    intro ρ nx nx' rt rt' X X' h k kr kx
    obtain ⟨n, h⟩ := h
    exact ⟨n, wW_mono (B := wS G fr b) (fun _ _ _ _ _ _ _ h a b c => ih h a b c) k kr kx h⟩
  | ret e => intro ρ nx nx' rt rt' X X' h k kr kx; exact ⟨h.1, wE_mono h.2 kr kx⟩
  | rai c => intro ρ nx nx' rt rt' X X' h k kr kx; exact kx _ h
  | tryK o e c i j => intro ρ nx nx' rt rt' X X' h k kr kx; exact wE_mono h (fun _ => k _) fun _ h => ⟨h.1, h.2.1, k _ h.2.2⟩
  | nev => intro ρ nx nx' rt rt' X X' h k kr kx; exact h.elim
end
end Pu

set_option Elab.async false
set_option linter.all false
set_option maxRecDepth 100000
/-! Pu, part D: the look that a text of the small language is the program's text. -/
namespace Pu
open PySem L2

/-! ### views of an expression -/
abbrev p0 : Pos := ⟨0, 0, 0, 0⟩
def vName : Expr → Option Str | .Name x _ => some x | _ => none
def vConst : Expr → Option Const | .Constant c _ _ => some c | _ => none
def vBin : Expr → Option (Expr × Operator × Expr) | .BinOp a o b _ => some (a, o, b) | _ => none
def vUn : Expr → Option (UnaryOp × Expr) | .UnaryOp o a _ => some (o, a) | _ => none
def vCmp1 : Expr → Option (Expr × CmpOp × Expr) | .Compare a [o] [b] _ => some (a, o, b) | _ => none
def vCmp2 : Expr → Option (Expr × CmpOp × Expr × CmpOp × Expr) | .Compare a [o, o'] [b, c] _ => some (a, o, b, o', c) | _ => none
def vBool : Expr → Option (BoolOp × List Expr × Pos) | .BoolOp o xs p => some (o, xs, p) | _ => none
def vIf : Expr → Option (Expr × Expr × Expr) | .IfExp c a b _ => some (c, a, b) | _ => none
def vEmp : Expr → Bool | .Dict [] [] _ => true | _ => false
theorem vEmp_e {x : Expr} (h : vEmp x = true) : ∃ p, x = .Dict [] [] p := by
  unfold vEmp at h
  split at h
  · exact ⟨_, rfl⟩
  · cases h
def vTup : Expr → Option (List Expr) | .Tuple xs _ _ => some xs | _ => none
def vLst : Expr → Option (List Expr) | .List xs _ => some xs | _ => none
def vSub : Expr → Option (Expr × Expr) | .Subscript a b _ => some (a, b) | _ => none
def vSli : Expr → Option (Option Expr × Option Expr × Option Expr) | .Slice a b c _ => some (a, b, c) | _ => none
def vCall : Expr → Option (Str × List Expr) | .Call (.Name f _) xs [] _ => some (f, xs) | _ => none
def vMet : Expr → Option (Expr × Str × List Expr) | .Call (.Attribute a m ap) xs [] cp => if (ap.endLine == cp.line) = true then some (a, m, xs) else none | _ => none
def vLc : Expr → Option (Expr × Expr × Expr × List Expr × Scope) | .ListComp e [⟨tg, it, ifs, 0⟩] sc _ => some (e, tg, it, ifs, sc) | _ => none

theorem vName_e {x : Expr} {r} (h : vName x = some r) : ∃ p, x = .Name r p := by cases x <;> simp [vName] at h; subst h; exact ⟨_, rfl⟩
theorem vConst_e {x : Expr} {r} (h : vConst x = some r) : ∃ k p, x = .Constant r k p := by cases x <;> simp [vConst] at h; subst h; exact ⟨_, _, rfl⟩
theorem vBin_e {x : Expr} {a o b} (h : vBin x = some (a, o, b)) : ∃ p, x = .BinOp a o b p := by cases x <;> simp [vBin] at h; obtain ⟨rfl, rfl, rfl⟩ := h; exact ⟨_, rfl⟩
theorem vUn_e {x : Expr} {o a} (h : vUn x = some (o, a)) : ∃ p, x = .UnaryOp o a p := by cases x <;> simp [vUn] at h; obtain ⟨rfl, rfl⟩ := h; exact ⟨_, rfl⟩
theorem vCmp1_e {x : Expr} {a o b} (h : vCmp1 x = some (a, o, b)) : ∃ p, x = .Compare a [o] [b] p := by
  unfold vCmp1 at h; split at h
  · obtain ⟨rfl, rfl, rfl⟩ := by simpa using h
    exact ⟨_, rfl⟩
  · cases h
theorem vCmp2_e {x : Expr} {a o b o' c} (h : vCmp2 x = some (a, o, b, o', c)) : ∃ p, x = .Compare a [o, o'] [b, c] p := by
  unfold vCmp2 at h; split at h
  · obtain ⟨rfl, rfl, rfl, rfl, rfl⟩ := by simpa using h
    exact ⟨_, rfl⟩
  · cases h
theorem vBool_e {x : Expr} {o xs p} (h : vBool x = some (o, xs, p)) : x = .BoolOp o xs p := by cases x <;> simp [vBool] at h; obtain ⟨rfl, rfl, rfl⟩ := h; rfl
theorem vIf_e {x : Expr} {a o b} (h : vIf x = some (a, o, b)) : ∃ p, x = .IfExp a o b p := by cases x <;> simp [vIf] at h; obtain ⟨rfl, rfl, rfl⟩ := h; exact ⟨_, rfl⟩
theorem vTup_e {x : Expr} {r} (h : vTup x = some r) : ∃ k p, x = .Tuple r k p := by cases x <;> simp [vTup] at h; subst h; exact ⟨_, _, rfl⟩
theorem vLst_e {x : Expr} {r} (h : vLst x = some r) : ∃ p, x = .List r p := by cases x <;> simp [vLst] at h; subst h; exact ⟨_, rfl⟩
theorem vSub_e {x : Expr} {a b} (h : vSub x = some (a, b)) : ∃ p, x = .Subscript a b p := by cases x <;> simp [vSub] at h; obtain ⟨rfl, rfl⟩ := h; exact ⟨_, rfl⟩
theorem vSli_e {x : Expr} {a b c} (h : vSli x = some (a, b, c)) : ∃ p, x = .Slice a b c p := by cases x <;> simp [vSli] at h; obtain ⟨rfl, rfl, rfl⟩ := h; exact ⟨_, rfl⟩
theorem vCall_e {x : Expr} {f xs} (h : vCall x = some (f, xs)) : ∃ p q, x = .Call (.Name f p) xs [] q := by
  unfold vCall at h; split at h
  · obtain ⟨rfl, rfl⟩ := by simpa using h
    exact ⟨_, _, rfl⟩
  · cases h
theorem vMet_e {x : Expr} {a m xs} (h : vMet x = some (a, m, xs)) : ∃ p q, x = .Call (.Attribute a m p) xs [] q ∧ (p.endLine == q.line) = true := by
  unfold vMet at h; split at h
  · split at h
    · obtain ⟨rfl, rfl, rfl⟩ := by simpa using h
      exact ⟨_, _, rfl, by assumption⟩
    · cases h
  · cases h
theorem vLc_e {x : Expr} {e tg it ifs sc} (h : vLc x = some (e, tg, it, ifs, sc)) : ∃ p, x = .ListComp e [⟨tg, it, ifs, 0⟩] sc p := by
  unfold vLc at h; split at h
  · obtain ⟨rfl, rfl, rfl, rfl, rfl⟩ := by simpa using h
    exact ⟨_, rfl⟩
  · cases h

/-! ### side looks -/
def noStar : Expr → Bool | .Starred _ _ => false | _ => true
theorem star_cons {e : Expr} {es : List Expr} {env : PySem.Env} (h : noStar e = true) : starEach (e :: es) env = (false, eval e env) :: starEach es env := by
  cases e <;> first | rfl | simp [noStar] at h
theorem star_any {pos : Pos} {env : PySem.Env} : ∀ {es : List Expr}, es.all noStar = true → (backTo pos (starEach es env)).any (·.1) = false
  | [], _ => rfl
  | e :: es, h => by
    simp only [List.all_cons, Bool.and_eq_true] at h
    rw [star_cons h.1]
    show (false || (backTo pos (starEach es env)).any (·.1)) = false
    rw [star_any h.2]
    rfl
def notSli : Expr → Bool | .Slice _ _ _ _ => false | _ => true
theorem plainIx {b : Expr} (h : notSli b = true) : PlainIx b := by
  intro o i
  cases b <;> first | rfl | simp [notSli] at h
def notBool : Expr → Bool | .BoolOp _ _ _ => false | .UnaryOp .Not _ _ => false | .IfExp _ _ _ _ => false | .Compare _ _ _ _ => false | .NamedExpr _ _ _ => false | _ => true
def notC0 : Expr → Bool | .Call (.Name _ _) [] [] _ => false | _ => true
theorem notC0_ab {y : Expr} {m : Str} {env : PySem.Env} {w : Sem Value} (h : notC0 y = true) : attributeBase y m env w = w := by
  unfold attributeBase
  split
  · simp [notC0] at h
  · rfl
def vis (sc : Scope) (x : Str) : Bool := (match sc.names.lookup x with | some .local => true | some .cell => true | some .free => true | _ => false) && !(x == ("__debug__" : Str)) && !(x == ("__classdict__" : Str))
def glb (sc : Scope) (x : Str) : Bool := (match sc.names.lookup x with | some .globalImplicit => true | _ => false) && !(x == ("__debug__" : Str)) && !(x == ("__name__" : Str))
def locB (sc : Scope) (x : Str) : Bool := match sc.names.lookup x with | some .local => true | some .cell => true | _ => false

def Bf.nm : Bf → Str
  | .len => "len" | .abs => "abs" | .max => "max" | .min => "min" | .sum => "sum" | .sorted => "sorted" | .any => "any" | .all => "all" | .int => "int" | .str => "str" | .list => "list" | .tuple => "tuple"
def Mf.nm : Mf → Str
  | .index => "index" | .find => "find" | .partition => "partition" | .split => "split" | .join => "join" | .count => "count"
def Tf.nm : Tf → Str
  | .int => "int" | .bool => "bool" | .str => "str" | .list => "list" | .tuple => "tuple"
def btNames : List Str := ["len", "abs", "max", "min", "sum", "sorted", "any", "all", "int", "str", "list", "tuple", "bool", "range", "zip", "reversed", "enumerate", "isinstance"]

/-- the names of a target, at their places; sc: the scope in which they are its own -/
def chkT (tg : Tg) (sc : Scope) (N : List Str) (x : Expr) : Bool := match tg with
  | .n i => match vName x with
    | some y => decide (N[i]? = some y) && locB sc y
    | none => false
  | .t l => match vTup x with
    | some ys => decide (ys.length = l.length) && (l.zip ys).all fun p => match vName p.2 with
      | some y => decide (N[p.1]? = some y) && locB sc y
      | none => false
    | none => false
def needT : Ex → Bool
  | .zip _ _ => true
  | .enu _ => true
  | _ => false
def isTupE (x : Expr) : Bool := (vTup x).isSome
def ownL (N : List Str) (own : List Nat) : List (Str × Nat) := own.map fun i => (N.getD i "", i)

def isA : Ex → Bool
  | .nil => true
  | .cons _ _ => true
  | _ => false
def isI : Ex → Bool
  | .itL _ => true | .itT _ => true | .itS _ => true | .rg1 _ => true | .rg2 _ _ => true | .rg3 _ _ _ => true | .zip _ _ => true | .rev _ => true | .enu _ => true
  | _ => false
def isE (e : Ex) : Bool := !isA e && !isI e
def isVar : Ex → Bool
  | .var _ => true
  | _ => false
/-- what has a test's reading of its own -/
def tst : Ex → Bool
  | .and1 _ => true | .and _ _ => true | .or1 _ => true | .or _ _ => true | .not _ => true | .cmp _ _ _ => true | .chn _ _ _ _ _ => true | .pin _ _ _ => true
  | _ => false
def okT (e : Ex) (x : Expr) : Bool := tst e || notBool x
def tgIn (tg : Tg) (own : List Nat) : Bool := match tg with
  | .n i => decide (i ∈ own)
  | .t l => l.all fun i => decide (i ∈ own)
def chkV (i : Nat) (sc : Scope) (N : List Str) (x : Expr) : Bool := match vName x with
  | some y => decide (N[i]? = some y) && vis sc y
  | none => false
def chk : Ex → Scope → List Str → Expr → Bool
  | .var i, sc, N, x => chkV i sc N x
  | .int n, _, _, x => match vConst x with
    | some (.int m) => decide (n = m)
    | _ => false
  | .str n, _, _, x => match vConst x with
    | some (.str m) => decide (n = m)
    | _ => false
  | .bl n, _, _, x => match vConst x with
    | some (.bool m) => decide (n = m)
    | _ => false
  | .emp, _, _, x => vEmp x
  | .non, _, _, x => match vConst x with
    | some .none => true
    | _ => false
  | .gl _ g, sc, _, x => match vName x with
    | some y => decide (y = g) && glb sc y
    | none => false
  | .bin o a b, sc, N, x => match vBin x with
    | some (y, p, z) => decide (o = p) && (isE a && chk a sc N y) && (isE b && chk b sc N z)
    | none => false
  | .neg a, sc, N, x => match vUn x with
    | some (.USub, y) => (isE a && chk a sc N y)
    | _ => false
  | .cmp o a b, sc, N, x => match vCmp1 x with
    | some (y, p, z) => decide (o = p) && (isE a && chk a sc N y) && (isE b && chk b sc N z) && !behindInMarks o z
    | none => false
  | .chn o o' a b c, sc, N, x => match vCmp2 x with
    | some (y, p, z, p', w) => decide (o = p) && decide (o' = p') && (isE a && chk a sc N y) && (isE b && chk b sc N z) && (isE c && chk c sc N w) && !behindInMarks o' w
    | none => false
  | .and1 a, sc, N, x => match vBool x with
    | some (.And, [y], _) => (isE a && chk a sc N y) && okT a y
    | _ => false
  | .and a r, sc, N, x => match vBool x with
    | some (.And, y :: z :: xs, p) => okT a y && (isE a && chk a sc N y) && (isE r && chk r sc N (.BoolOp .And (z :: xs) p))
    | _ => false
  | .or1 a, sc, N, x => match vBool x with
    | some (.Or, [y], _) => (isE a && chk a sc N y) && okT a y
    | _ => false
  | .or a r, sc, N, x => match vBool x with
    | some (.Or, y :: z :: xs, p) => okT a y && (isE a && chk a sc N y) && (isE r && chk r sc N (.BoolOp .Or (z :: xs) p))
    | _ => false
  | .not a, sc, N, x => match vUn x with
    | some (.Not, y) => (isE a && chk a sc N y) && okT a y
    | _ => false
  | .ite c a b, sc, N, x => match vIf x with
    | some (y, z, w) => okT c y && (isE c && chk c sc N y) && (isE a && chk a sc N z) && (isE b && chk b sc N w)
    | none => false
  | .tup r, sc, N, x => match vTup x with
    | some xs => (isA r && chk r sc N (.List xs p0))
    | none => false
  | .lst r, sc, N, x => match vLst x with
    | some xs => (isA r && chk r sc N (.List xs p0))
    | none => false
  | .nil, _, _, x => match vLst x with
    | some [] => true
    | _ => false
  | .cons a r, sc, N, x => match vLst x with
    | some (y :: ys) => noStar y && (isE a && chk a sc N y) && (isA r && chk r sc N (.List ys p0))
    | _ => false
  | .ix a i, sc, N, x => match vSub x with
    | some (y, z) => (isE a && chk a sc N y) && (isE i && chk i sc N z) && notSli z
    | none => false
  | .pix v i, sc, N, x => match vSub x with
    | some (y, z) => chkV v sc N y && (isE i && chk i sc N z) && notSli z
    | none => false
  | .sl0 a, sc, N, x => match vSub x with
    | some (y, z) => match vSli z with
      | some (none, none, none) => (isE a && chk a sc N y)
      | _ => false
    | none => false
  | .slL a lo, sc, N, x => match vSub x with
    | some (y, z) => match vSli z with
      | some (some l, none, none) => (isE a && chk a sc N y) && (isE lo && chk lo sc N l)
      | _ => false
    | none => false
  | .slH a hi, sc, N, x => match vSub x with
    | some (y, z) => match vSli z with
      | some (none, some h, none) => (isE a && chk a sc N y) && (isE hi && chk hi sc N h)
      | _ => false
    | none => false
  | .slB a lo hi, sc, N, x => match vSub x with
    | some (y, z) => match vSli z with
      | some (some l, some h, none) => (isE a && chk a sc N y) && (isE lo && chk lo sc N l) && (isE hi && chk hi sc N h)
      | _ => false
    | none => false
  | .rv a, sc, N, x => match vSub x with
    | some (y, z) => match vSli z with
      | some (none, none, some w) => match vUn w with
        | some (.USub, u) => match vConst u with
          | some (.int 1) => (isE a && chk a sc N y)
          | _ => false
        | _ => false
      | _ => false
    | none => false
  | .call _ f r, sc, N, x => match vCall x with
    | some (g, y :: ys) => decide (f = g) && glb sc g && (isA r && chk r sc N (.List (y :: ys) p0))
    | _ => false
  | .callT _ f r, sc, N, x => match vCall x with
    | some (g, y :: ys) => decide (f = g) && glb sc g && (isA r && chk r sc N (.List (y :: ys) p0))
    | _ => false
  | .blt f r, sc, N, x => match vCall x with
    | some (g, y :: ys) => decide (f.nm = g) && glb sc g && (isA r && chk r sc N (.List (y :: ys) p0))
    | _ => false
  | .pl v, sc, N, x => match vCall x with
    | some (g, [y]) => decide (g = Bf.nm .len) && glb sc g && chkV v sc N y && noStar y
    | _ => false
  | .pin ng a v, sc, N, x => match vCmp1 x with
    | some (y, p, z) => decide (p = if ng = true then CmpOp.NotIn else CmpOp.In) && (isE a && chk a sc N y) && chkV v sc N z && !behindInMarks p z
    | none => false
  | .met m a r, sc, N, x => match vMet x with
    | some (y, n, z :: zs) => notC0 y && decide (m.nm = n) && (isE a && chk a sc N y) && (isA r && chk r sc N (.List (z :: zs) p0)) && decide ((z :: zs).length < 20)
    | _ => false
  | .isi a t, sc, N, x => match vCall x with
    | some (g, [y, z]) => decide (g = "isinstance") && glb sc g && (isE a && chk a sc N y) && noStar y && (match vName z with
      | some w => decide (w = t.nm) && glb sc w
      | none => false)
    | _ => false
  | .isx a d, sc, N, x => match vCall x with
    | some (g, [y, z]) => decide (g = "isinstance") && glb sc g && (isE a && chk a sc N y) && noStar y && isVar a && (match vName z with
      | some w => decide (w = d) && glb sc w
      | none => false)
    | _ => false
  | .lc own e tg it, sc, N, x => match vLc x with
    | some (y, z, w, [], s) => blkC N sc s (ownL N own) && tgIn tg own && chkT tg s N z && (isI it && chk it sc N w) && (!needT it || isTupE z) && (isE e && chk e (relS s sc) N y) && decide (∀ j ∈ own, j < N.length)
    | _ => false
  | .lci own e tg it c, sc, N, x => match vLc x with
    | some (y, z, w, [u], s) => blkC N sc s (ownL N own) && tgIn tg own && chkT tg s N z && (isI it && chk it sc N w) && (!needT it || isTupE z) && (isE e && chk e (relS s sc) N y) && (isE c && chk c (relS s sc) N u) && okT c u && decide (∀ j ∈ own, j < N.length)
    | _ => false
  | .itL a, sc, N, x => (isE a && chk a sc N x)
  | .itT a, sc, N, x => (isE a && chk a sc N x)
  | .itS a, sc, N, x => (isE a && chk a sc N x)
  | .rg1 a, sc, N, x => match vCall x with
    | some (g, [y]) => decide (g = "range") && glb sc g && (isE a && chk a sc N y) && noStar y
    | _ => false
  | .rg2 a b, sc, N, x => match vCall x with
    | some (g, [y, z]) => decide (g = "range") && glb sc g && (isE a && chk a sc N y) && noStar y && (isE b && chk b sc N z) && noStar z
    | _ => false
  | .rg3 a b c, sc, N, x => match vCall x with
    | some (g, [y, z, w]) => decide (g = "range") && glb sc g && (isE a && chk a sc N y) && noStar y && (isE b && chk b sc N z) && noStar z && (isE c && chk c sc N w) && noStar w
    | _ => false
  | .zip a b, sc, N, x => match vCall x with
    | some (g, [y, z]) => decide (g = "zip") && glb sc g && (isE a && chk a sc N y) && noStar y && (isE b && chk b sc N z) && noStar z
    | _ => false
  | .rev a, sc, N, x => match vCall x with
    | some (g, [y]) => decide (g = "reversed") && glb sc g && (isE a && chk a sc N y) && noStar y
    | _ => false
  | .enu a, sc, N, x => match vCall x with
    | some (g, [y]) => decide (g = "enumerate") && glb sc g && (isE a && chk a sc N y) && noStar y
    | _ => false
termination_by structural e => e
end Pu

set_option Elab.async false
set_option linter.all false
set_option maxRecDepth 100000
set_option maxHeartbeats 4000000
/-! Pu, part E: the readings over data hold (expressions). -/
namespace Pu
open PySem L2

/-! ### hidden cells -/
abbrev Ow := Addr → Option (Option Nat)
def hid (O : Ow) (H : Hp) : Hp := fun b => if (O b).isSome = true then none else H b
def frO (O : Ow) : Ow := fun b => match O b with
  | some none => some none
  | _ => none
def del (a : Addr) (H : Hp) : Hp := fun b => if b = a then none else H b
theorem hid_le {O : Ow} {H : Hp} : Same (hid O H) H := fun b o h => by
  unfold hid at h; split at h
  · cases h
  · exact h
theorem hid_same {O : Ow} {H H' : Hp} (s : Same H H') : Same (hid O H) (hid O H') := fun b o h => by
  unfold hid at *; split at h
  · cases h
  · rename_i q; rw [if_neg q]; exact s _ _ h
theorem hid_fr {O : Ow} {H : Hp} : Same (hid O H) (hid (frO O) H) := fun b o h => by
  unfold hid at *; split at h
  · cases h
  · rename_i q
    have : O b = none := by cases e : O b <;> simp_all
    rw [if_neg (by unfold frO; rw [this]; simp)]; exact h
theorem del_le {a : Addr} {H : Hp} : Same (del a H) H := fun b o h => by
  unfold del at h; split at h
  · cases h
  · exact h
theorem hid_del {O : Ow} {a : Addr} {H : Hp} : Same (hid O (del a H)) (hid O H) := hid_same del_le
theorem same_new {H : Hp} {p : Addr} {o : HO} (h : H p = none) : Same H (upd H p o) := fun b x e => by
  rw [upd_ne (ne_of_none e h)]
  exact e
/-- what is hidden stands there: a list -/
def Live (O : Ow) (H : Hp) : Prop := ∀ a w, O a = some w → ∃ xs, H a = some (.lst xs)
theorem Live.ext {O : Ow} {H H' : Hp} (l : Live O H) (s : Same H H') : Live O H' := fun a w e => let ⟨xs, h⟩ := l a w e; ⟨xs, s _ _ h⟩
theorem Live.fr {O : Ow} {H : Hp} (l : Live O H) : Live (frO O) H := fun a w e => by
  unfold frO at e; split at e
  · rename_i q; exact l a _ q
  · cases e
theorem Live.free {O : Ow} {H : Hp} (l : Live O H) {p : Addr} (h : H p = none) : O p = none := by
  cases e : O p with
  | none => rfl
  | some w => obtain ⟨xs, q⟩ := l p w e; rw [h] at q; cases q
theorem hid_new {O : Ow} {H : Hp} (l : Live O H) {p : Addr} (h : H p = none) {o : HO} : hid O (upd H p o) p = some o := by
  unfold hid
  rw [l.free h]
  simp [upd_same]

structure Ok (K : PySem.W.Frag) (O : Ow) (ρ : Ev) (σ : St) (H : Hp) : Prop where
  sh : ∀ (i : Nat) (d : PyData), ρ[i]? = some (.sh d) → ∃ v, σ[i]? = some (some v) ∧ Dq K (hid O H) v d
  ow : ∀ (i : Nat) (ds : List PyData), ρ[i]? = some (.ow ds) → ∃ a xs, σ[i]? = some (some (.ref a)) ∧ O a = some (some i) ∧ H a = some (.lst xs) ∧ DqA K (hid O H) xs ds
  live : Live O H
  len : ρ.length = σ.length
theorem Ok.ext {O : Ow} {ρ : Ev} {σ : St} {H H' : Hp} {K : PySem.W.Frag} (k : Ok K O ρ σ H) (s : Same H H') : Ok K O ρ σ H' :=
  ⟨fun i d e => let ⟨v, a, b⟩ := k.sh i d e; ⟨v, a, b.mono (hid_same s)⟩, fun i ds e => let ⟨a, xs, b, c, d, f⟩ := k.ow i ds e; ⟨a, xs, b, c, s _ _ d, f.mono (hid_same s)⟩, k.live.ext s, k.len⟩
theorem Ok.fr {O : Ow} {ρ : Ev} {σ : St} {H : Hp} {K : PySem.W.Frag} (k : Ok K O ρ σ H) : Ok K (frO O) (frz ρ) σ H where
  sh := fun i d e => by
    rw [List.getElem?_map] at e
    cases q : ρ[i]? with
    | none => rw [q] at e; cases e
    | some s =>
      rw [q] at e
      cases s with
      | no => simp [Sl.fz] at e
      | sh d' =>
        simp [Sl.fz] at e
        subst e
        obtain ⟨v, a, b⟩ := k.sh i _ q
        exact ⟨v, a, b.mono hid_fr⟩
      | ow ds =>
        simp [Sl.fz] at e
        subst e
        obtain ⟨a, xs, b, c, d, f⟩ := k.ow i _ q
        refine ⟨_, b, .lst ?_ (f.mono hid_fr)⟩
        unfold hid frO
        rw [c]
        simpa using d
  ow := fun i ds e => by
    rw [List.getElem?_map] at e
    cases q : ρ[i]? with
    | none => rw [q] at e; cases e
    | some s =>
      rw [q] at e
      cases s <;> simp [Sl.fz] at e
  live := k.live.fr
  len := by rw [List.length_map]; exact k.len

/-! ### what is wanted behind -/
def FrL (K : PySem.W.Frag) (O : Ow) (H H' : Hp) (v : V) (ds : List PyData) : Prop := ∃ a xs, v = .ref a ∧ H a = none ∧ H' a = some (.lst xs) ∧ DqA K (hid O (del a H')) xs ds
def postE (K : PySem.W.Frag) (fr : Bool) (O : Ow) (H : Hp) (Q : VK) (d : PyData) : Prop := ∀ v H', Same H H' → Dq K (hid O H') v d → (fr = true → ∀ ds, d = .list ds → FrL K O H H' v ds) → Q v H'
def postA (K : PySem.W.Frag) (O : Ow) (H : Hp) (Q : List V → Hp → Prop) (d : PyData) : Prop := ofT d fun ds => ∀ vs H', Same H H' → DqA K (hid O H') vs ds → Q vs H'
def postT (H : Hp) (Q : Bool → Hp → Prop) (d : PyData) : Prop := ofB d fun b => ∀ H', Same H H' → Q b H'
def excE (mg : Str → Option Value) (H : Hp) (W : XK) (c : Str) : Prop := ∀ C H', mg c = some (.ref C) → Same H H' → W (.ref C) none H'
theorem postE.mono {K : PySem.W.Frag} {fr : Bool} {O : Ow} {H H1 : Hp} {Q : VK} {d : PyData} (s : Same H H1) (h : postE K fr O H Q d) : postE K fr O H1 Q d := fun v H' s' dv f =>
  h v H' (s.trans s') dv fun q ds e => let ⟨a, xs, e1, e3, e4, e5⟩ := f q ds e; ⟨a, xs, e1, s.free e3, e4, e5⟩
theorem excE.mono {mg : Str → Option Value} {H H1 : Hp} {W : XK} {c : Str} (s : Same H H1) (h : excE mg H W c) : excE mg H1 W c := fun C H' e s' => h C H' e (s.trans s')
/-- an answer that is no list -/
theorem postE.val {K : PySem.W.Frag} {fr : Bool} {O : Ow} {H : Hp} {Q : VK} {d : PyData} {v : V} (h : postE K fr O H Q d) (dv : Dq K (hid O H) v d) (hf : ∀ ds, d ≠ .list ds := by intro _ e; cases e) : Q v H := h v H (Same.refl H) dv fun _ ds e => (hf ds e).elim
/-- an answer that is not told to be new -/
theorem postE.old {K : PySem.W.Frag} {O : Ow} {H : Hp} {Q : VK} {d : PyData} {v : V} (h : postE K false O H Q d) (dv : Dq K (hid O H) v d) : Q v H := h v H (Same.refl H) dv fun q => (Bool.noConfusion q)
/-- a new list -/
theorem postE.new {K : PySem.W.Frag} {fr : Bool} {O : Ow} {H : Hp} {Q : VK} {ds : List PyData} {xs : List V} {p : Addr} (l : Live O H) (h : postE K fr O H Q (.list ds)) (hp : H p = none) (dv : DqA K (hid O H) xs ds) : Q (.ref p) (upd H p (.lst xs)) := by
  have s := same_new (o := .lst xs) hp
  have e : Same H (del p (upd H p (.lst xs))) := fun b o q => by
    unfold del
    rw [if_neg (ne_of_none q hp)]
    exact s _ _ q
  refine h _ _ s (.lst (hid_new l hp) (dv.mono (hid_same s))) fun _ ds' ed => ?_
  cases ed
  exact ⟨p, xs, rfl, hp, upd_same, dv.mono (hid_same e)⟩
/-- a new tuple -/
theorem postE.tup {K : PySem.W.Frag} {fr : Bool} {O : Ow} {H : Hp} {Q : VK} {ds : List PyData} {xs : List V} {p : Addr} (l : Live O H) (h : postE K fr O H Q (.tuple ds)) (hp : H p = none) (dv : DqA K (hid O H) xs ds) : Q (.ref p) (upd H p (.tup xs)) :=
  h _ _ (same_new hp) (.tup (hid_new l hp) (dv.mono (hid_same (same_new hp)))) fun _ ds' ed => by cases ed

/-! ### promises of defs -/
def liftS (K : PySem.W.Frag) (mg : Str → Option Value) (s : Fs) : Sp := fun vs H Q E => vs.length = s.ar ∧ ∃ (O : Ow) (ds : List PyData), Live O H ∧ (∀ a i, O a ≠ some (some i)) ∧ DqA K (hid O H) vs ds ∧ up s ds (postE K s.fr O H Q) (excE mg H E)

/-- what a name of a class means: a class of the module, a built-in type -/
def ClsN (mg : Str → Option Value) (d : Str) (vd : V) (cv : Value) : Prop := (∃ D, mg d = some (.ref D) ∧ vd = .ref D ∧ cv = .ref D) ∨ (mg d = none ∧ d ≠ "__name__" ∧ ∃ T, bootBuiltins d = some (.type T) ∧ vd = .ty T ∧ cv = .type T)
/-- c is a class of refusals; whether it is one of d -/
def Kt (K : PySem.W.Frag) (mg : Str → Option Value) (c d : Str) : Prop :=
  ∃ C vd cv, mg c = some (.ref C) ∧ PySem.W.nsIn K mainGlobals c = some (some (.ref C)) ∧ ExcC K C ∧ ClsN mg d vd cv ∧ PySem.W.kitOne K (.ref C) cv = some (subB c d) ∧ PySem.W.exmOne K (.ref C) cv = some (subB c d)
/-- what is wanted of a refusal, slots by slots -/
abbrev WS := St → XK
structure Ctx (G : Gam) (W : WS) (X : Cx) : Prop where
  calm : X.calm = true
  nd : X.N.Nodup
  kd : X.env.scope.kind = .function
  fn : ∀ (i : Nat) f s, G.fs[i]? = some (f, s) → ∃ a fd ps k, X.mg f = some (.ref a) ∧ PySem.W.keepIn X.K (.ref a) = true ∧ Binds X.K fd ps [] ∧ FnOk X.prog X.w X.K X.mg X.base (L2.CX X.prog X.w) k a fd ps (liftS X.K X.mg s) ∧ Room k X.A
  gl : ∀ (i : Nat) x d, G.gl[i]? = some (x, d) → ∃ v u, X.mg x = some u ∧ RelV v u ∧ ∀ H, Dq X.K H v d
  bt : ∀ x, x ∈ btNames → X.mg x = none
  pas : ∀ σ, PassesAt (L2.CX X.prog X.w) X σ (W σ)
  un : X.A.units + 65 < cLine
  kt : ∀ c d, (c, d) ∈ G.kt → Kt X.K X.mg c d

section
variable (G : Gam) (W : WS) (mg : Str → Option Value) (K : PySem.W.Frag)
def tE (e : Ex) : TE := fun σ H Q => ∃ ρ O, Ok K O ρ σ H ∧ wE G e ρ (postE K (frE G e) O H Q) (excE mg H (W σ))
def tA (e : Ex) : TA := fun σ H Q => ∃ ρ O, Ok K O ρ σ H ∧ wE G e ρ (postA K O H Q) (excE mg H (W σ))
def tT (e : Ex) : TT := fun σ H Q => ∃ ρ O, Ok K O ρ σ H ∧ wE G e ρ (postT H Q) (excE mg H (W σ))
/-- a walk over the items ds, from the heap H on, under O -/
structure Wk (J : It) (O : Ow) (H : Hp) (ds : List PyData) : Prop where
  ex : ∃ (n : Nat) (Gd : Hp → Prop) (Y : Nat → Hp → V → Hp → Prop), Walk J n Gd Y ∧ n = ds.length ∧ (∀ H' O', Same (hid O H) (hid O' H') → Gd H') ∧
    ∀ i H1 x H2 O1, i < n → Y i H1 x H2 → Same (hid O H) (hid O1 H1) → Live O1 H1 → Same H1 H2 ∧ ∃ d, ds[i]? = some d ∧ Dq K (hid O1 H2) x d
def tI (e : Ex) : TI := fun σ H R => ∃ ρ O, Ok K O ρ σ H ∧ wE G e ρ (fun d => ofL d fun ds => ∀ J H', Same H H' → Wk K J O H' ds → R J H') (excE mg H (W σ))
end

/-! ### weakening -/
section
variable {X : Cx}
theorem peI {e : Expr} {t t' : TE} (h : PE X e t) (w : ∀ σ H Q, t' σ H Q → t σ H Q) : PE X e t' := ⟨fun pins s σ H Q I q => h.run pins s σ H Q I (w _ _ _ q)⟩
theorem paI {e : List Expr} {t t' : TA} (h : PA X e t) (w : ∀ σ H Q, t' σ H Q → t σ H Q) : PA X e t' := ⟨fun pos pins s σ H Q I q => h.run pos pins s σ H Q I (w _ _ _ q)⟩
theorem ptI {e : Expr} {t t' : TT} (h : PT X e t) (w : ∀ σ H Q, t' σ H Q → t σ H Q) : PT X e t' := ⟨fun pins s σ H Q I q => h.run pins s σ H Q I (w _ _ _ q)⟩
theorem pwI {e : Expr} {t t' : TT} (h : PW X e t) (w : ∀ σ H Q, t' σ H Q → t σ H Q) : PW X e t' := ⟨fun wh pins s σ H Q I q => h.run wh pins s σ H Q I (w _ _ _ q)⟩
theorem piI {tg e : Expr} {t t' : TI} (h : PI X tg e t) (w : ∀ σ H Q, t' σ H Q → t σ H Q) : PI X tg e t' := ⟨fun pins s σ H Q I q => h.run pins s σ H Q I (w _ _ _ q)⟩
theorem opI' {f : Value → Value → Sem Value} {r r' : R2} (h : OpR X f r) (w : ∀ x y H Q, r' x y H Q → r x y H Q) : OpR X f r' := fun pins s σ H x y v u Q I rx ry q => h pins s σ H x y v u Q I rx ry (w _ _ _ _ q)
theorem callI {f : Value} {r r' : List V → Hp → VK → Prop} (h : CallR X f r) (w : ∀ x H Q, r' x H Q → r x H Q) : CallR X f r' := fun pins s σ H xs us Q I rx q => h pins s σ H xs us Q I rx (w _ _ _ q)
theorem mtI {id : String} {r r' : V → List V → Hp → VK → Prop} (h : MtR X id r) (w : ∀ v x H Q, r' v x H Q → r v x H Q) : MtR X id r' := fun pins s σ H x xs v us Q I rx rxs q => h pins s σ H x xs v us Q I rx rxs (w _ _ _ _ q)
theorem slI {r r' : V → Option Int → Option Int → Hp → VK → Prop} (h : SlR X r) (w : ∀ v lo hi H Q, r' v lo hi H Q → r v lo hi H Q) : SlR X r' := fun pins s σ H x v vl vu lo hi sl Q I rx a b c q => h pins s σ H x v vl vu lo hi sl Q I rx a b c (w _ _ _ _ _ q)
end
end Pu

set_option Elab.async false
set_option linter.all false
set_option maxRecDepth 100000
set_option maxHeartbeats 4000000
/-! Pu, part F: what operations give, over the heap. -/
namespace Pu
open PySem L2
section
variable {X : Cx} {K : PySem.W.Frag}
/-- a two-place operation over data -/
def rD (K : PySem.W.Frag) (fr : Bool) (sem : PyData → PyData → (PyData → Prop) → Prop) : R2 := fun v u H Q => ∃ O x y, Live O H ∧ Dq K (hid O H) v x ∧ Dq K (hid O H) u y ∧ sem x y (postE K fr O H Q)

theorem dq_int {H : Hp} {v : V} {i : Int} (h : Dq K H v (.int i)) : v = .int i := by cases h; rfl
theorem dq_str {H : Hp} {v : V} {i : Str} (h : Dq K H v (.str i)) : v = .str i := by cases h; rfl
theorem dq_bl {H : Hp} {v : V} {i : Bool} (h : Dq K H v (.bool i)) : v = .bl i := by cases h; rfl
theorem dq_non {H : Hp} {v : V} (h : Dq K H v .none) : v = .non := by cases h; rfl
theorem dq_list {O : Ow} {H : Hp} {v : V} {ds : List PyData} (h : Dq K (hid O H) v (.list ds)) : ∃ a xs, v = .ref a ∧ H a = some (.lst xs) ∧ DqA K (hid O H) xs ds ∧ (hid O H) a = some (.lst xs) := by
  cases h with
  | lst h1 h2 => exact ⟨_, _, rfl, hid_le _ _ h1, h2, h1⟩
theorem dq_tup {O : Ow} {H : Hp} {v : V} {ds : List PyData} (h : Dq K (hid O H) v (.tuple ds)) : ∃ a xs, v = .ref a ∧ H a = some (.tup xs) ∧ DqA K (hid O H) xs ds := by
  cases h with
  | tup h1 h2 => exact ⟨_, _, rfl, hid_le _ _ h1, h2⟩
theorem postE.i {fr : Bool} {O : Ow} {H : Hp} {Q : VK} {i : Int} (h : postE K fr O H Q (.int i)) : Q (.int i) H := h.val (.int i)
theorem postE.b {fr : Bool} {O : Ow} {H : Hp} {Q : VK} {i : Bool} (h : postE K fr O H Q (.bool i)) : Q (.bl i) H := h.val (.bl i)
theorem postE.s {fr : Bool} {O : Ow} {H : Hp} {Q : VK} {i : Str} (h : postE K fr O H Q (.str i)) : Q (.str i) H := h.val (.str i)

theorem opBin (o : Operator) (fr : Bool) : OpR X (binaryOp o) (rD X.K fr (sBin o)) := by
  intro pins s σ H v u v' u' Q I rv ru h
  obtain ⟨O, x, y, l, hv, hu, h⟩ := h
  unfold sBin at h
  split at h
  · cases hv; cases hu
    exact op_add pins s σ H _ _ v' u' Q I rv ru ⟨_, _, rfl, rfl, h.i⟩
  · cases hv; cases hu
    exact op_add_str pins s σ H _ _ v' u' Q I rv ru ⟨_, _, rfl, rfl, h.1, h.2.s⟩
  · obtain ⟨a, xs, rfl, ha, da, _⟩ := dq_list hv
    obtain ⟨b, ys, rfl, hb, db, _⟩ := dq_list hu
    refine op_cat pins s σ H _ _ v' u' Q I rv ru ⟨_, _, _, _, rfl, rfl, ha, hb, by rw [da.len, db.len]; exact h.1, fun p hp => h.2.new l hp (da.app db)⟩
  · cases hv; cases hu
    exact op_sub pins s σ H _ _ v' u' Q I rv ru ⟨_, _, rfl, rfl, h.i⟩
  · cases hv; cases hu
    exact op_mulW pins s σ H _ _ v' u' Q I rv ru ⟨_, _, rfl, rfl, h.1, h.2.i⟩
  · obtain ⟨a, xs, rfl, ha, da, _⟩ := dq_list hv
    cases hu
    exact op_rep pins s σ H _ _ v' u' Q I rv ru ⟨_, _, _, rfl, rfl, ha, h.1, h.2.1, by rw [da.len]; exact h.2.2.1, fun p hp => h.2.2.2.new l hp (da.rep _)⟩
  · cases hv; cases hu
    exact op_fdivW pins s σ H _ _ v' u' Q I rv ru ⟨_, _, rfl, rfl, h.1, h.2.i⟩
  · cases hv; cases hu
    exact op_mod pins s σ H _ _ v' u' Q I rv ru ⟨_, _, rfl, rfl, h.1, h.2.i⟩
  · cases hv; cases hu
    exact op_pow pins s σ H _ _ v' u' Q I rv ru ⟨_, _, rfl, rfl, h.1, h.2.i⟩
  · exact h.elim

theorem opEq (hu : X.A.units + 64 < cLine) {pins : List (Addr × Obj)} {s : Shared} {σ : St} {H : Hp} {O : Ow} {v u : V} {v' u' : Value} {x y : PyData} {Q : VK} (I : L2.Inv X pins σ H s) (rv : RelV v v') (ru : RelV u u')
    (dv : Dq X.K (hid O H) v x) (du : Dq X.K (hid O H) u y) (h : sEq x y fun b => Q (.bl b) H) : wpAny (model X.prog X.w) X.A (compareOp .Eq v' u') (EP X pins σ Q) X.xe s := by
  unfold sEq at h
  split at h
  · cases dv; cases du
    refine op_eq pins s σ H _ _ v' u' Q I rv ru ⟨rfl, ?_⟩
    simpa using h
  · cases dv; cases du
    refine op_eq pins s σ H _ _ v' u' Q I rv ru ⟨rfl, ?_⟩
    simpa using h
  · cases dv; cases du
    refine op_eq pins s σ H _ _ v' u' Q I rv ru ⟨rfl, ?_⟩
    simpa using h
  · exact op_eqD hu pins s σ H _ _ v' u' Q I rv ru ⟨_, _, Dq.dp h.1 (dv.mono hid_le), Dq.dp h.2.1 (du.mono hid_le), okD.shaped h.1, okD.shaped h.2.1, h.2.2⟩
theorem opNe (hu : X.A.units + 64 < cLine) {pins : List (Addr × Obj)} {s : Shared} {σ : St} {H : Hp} {O : Ow} {v u : V} {v' u' : Value} {x y : PyData} {Q : VK} (I : L2.Inv X pins σ H s) (rv : RelV v v') (ru : RelV u u')
    (dv : Dq X.K (hid O H) v x) (du : Dq X.K (hid O H) u y) (h : sEq x y fun b => Q (.bl (!b)) H) : wpAny (model X.prog X.w) X.A (compareOp .NotEq v' u') (EP X pins σ Q) X.xe s := by
  unfold sEq at h
  split at h
  · cases dv; cases du
    refine op_ne pins s σ H _ _ v' u' Q I rv ru ⟨rfl, ?_⟩
    simpa using h
  · cases dv; cases du
    refine op_ne pins s σ H _ _ v' u' Q I rv ru ⟨rfl, ?_⟩
    simpa using h
  · cases dv; cases du
    refine op_ne pins s σ H _ _ v' u' Q I rv ru ⟨rfl, ?_⟩
    simpa using h
  · exact op_neD hu pins s σ H _ _ v' u' Q I rv ru ⟨_, _, Dq.dp h.1 (dv.mono hid_le), Dq.dp h.2.1 (du.mono hid_le), okD.shaped h.1, okD.shaped h.2.1, h.2.2⟩

theorem inV_ints (i : Int) : ∀ ns : List Int, inV (.int i) (ns.map V.int) = ns.any fun n => n == i
  | [] => rfl
  | n :: ns => by
    have := inV_ints i ns
    unfold inV at this ⊢
    simp only [List.map_cons, List.any_cons, this]
    rfl
theorem flat_ints : ∀ ns : List Int, (ns.map V.int).all flatV = true
  | [] => rfl
  | n :: ns => by simp [flat_ints ns, flatV]
theorem opIn (hu : X.A.units + 65 < cLine) {pins : List (Addr × Obj)} {s : Shared} {σ : St} {H : Hp} {O : Ow} {v u : V} {v' u' : Value} {x y : PyData} {Q : VK} (I : L2.Inv X pins σ H s) (rv : RelV v v') (ru : RelV u u')
    (dv : Dq X.K (hid O H) v x) (du : Dq X.K (hid O H) u y) (h : sIn x y fun b => Q (.bl b) H) : wpAny (model X.prog X.w) X.A (compareOp .In v' u') (EP X pins σ Q) X.xe s := by
  unfold sIn at h
  split at h
  · exact op_inD hu pins s σ H _ _ v' u' Q I rv ru ⟨_, _, Dq.dp h.1 (dv.mono hid_le), Dq.dp h.2.1 (du.mono hid_le), okD.shaped h.1, okD.shaped h.2.1, h.2.2⟩
  · cases dv; cases du
    exact op_in_str pins s σ H _ _ v' u' Q I rv ru ⟨_, _, rfl, rfl, h⟩
  · obtain ⟨ns, rfl, h⟩ := h
    cases dv
    obtain ⟨a, xs, rfl, ha, da⟩ := dq_tup du
    cases da.ints
    exact op_in_seq pins s σ H _ _ v' u' Q I rv ru ⟨_, _, rfl, .inr (.inl (.inl ha)), rfl, flat_ints ns, by rw [if_neg (by simp), inV_ints]; exact h⟩
  · exact h.elim
theorem opNotIn (hu : X.A.units + 65 < cLine) {pins : List (Addr × Obj)} {s : Shared} {σ : St} {H : Hp} {O : Ow} {v u : V} {v' u' : Value} {x y : PyData} {Q : VK} (I : L2.Inv X pins σ H s) (rv : RelV v v') (ru : RelV u u')
    (dv : Dq X.K (hid O H) v x) (du : Dq X.K (hid O H) u y) (h : sIn x y fun b => Q (.bl (!b)) H) : wpAny (model X.prog X.w) X.A (compareOp .NotIn v' u') (EP X pins σ Q) X.xe s := by
  unfold sIn at h
  split at h
  · exact op_notInD hu pins s σ H _ _ v' u' Q I rv ru ⟨_, _, Dq.dp h.1 (dv.mono hid_le), Dq.dp h.2.1 (du.mono hid_le), okD.shaped h.1, okD.shaped h.2.1, h.2.2⟩
  · cases dv; cases du
    exact op_notIn_str pins s σ H _ _ v' u' Q I rv ru ⟨_, _, rfl, rfl, h⟩
  · obtain ⟨ns, rfl, h⟩ := h
    cases dv
    obtain ⟨a, xs, rfl, ha, da⟩ := dq_tup du
    cases da.ints
    exact op_notIn_seq pins s σ H _ _ v' u' Q I rv ru ⟨_, _, rfl, .inr (.inl (.inl ha)), rfl, flat_ints ns, by rw [if_pos rfl, inV_ints]; exact h⟩
  · exact h.elim
theorem dq_isN {H : Hp} {v : V} {x : PyData} (h : Dq K H v x) : decide (v = .non) = isN x := by
  cases h <;> simp [isN]
theorem opCmp (hu : X.A.units + 65 < cLine) (o : CmpOp) (fr : Bool) : OpR X (compareOp o) (rD X.K fr (sCmp o)) := by
  intro pins s σ H v u v' u' Q I rv ru h
  obtain ⟨O, x, y, l, hv, hw, h⟩ := h
  cases o <;> simp only [sCmp] at h
  · exact opEq (by omega) I rv ru hv hw (sEq_mono h fun _ q => q.b)
  · exact opNe (by omega) I rv ru hv hw (sEq_mono h fun _ q => q.b)
  · split at h
    · cases hv; cases hw
      exact op_lt pins s σ H _ _ v' u' Q I rv ru ⟨_, _, rfl, rfl, h.b⟩
    · exact h.elim
  · split at h
    · cases hv; cases hw
      exact op_le pins s σ H _ _ v' u' Q I rv ru ⟨_, _, rfl, rfl, h.b⟩
    · exact h.elim
  · split at h
    · cases hv; cases hw
      exact op_gt pins s σ H _ _ v' u' Q I rv ru ⟨_, _, rfl, rfl, h.b⟩
    · exact h.elim
  · split at h
    · cases hv; cases hw
      exact op_ge pins s σ H _ _ v' u' Q I rv ru ⟨_, _, rfl, rfl, h.b⟩
    · exact h.elim
  · split at h
    · cases hw
      exact op_isN pins s σ H _ _ v' u' Q I rv ru ⟨rfl, by rw [dq_isN hv]; exact h.b⟩
    · cases hw
      split at h
      · cases hv
        exact op_isBl pins s σ H _ _ v' u' Q I rv ru ⟨_, _, rfl, rfl, h.b⟩
      · exact h.elim
    · exact h.elim
  · split at h
    · cases hw
      exact op_notN pins s σ H _ _ v' u' Q I rv ru ⟨rfl, by rw [dq_isN hv]; exact h.b⟩
    · exact h.elim
  · exact opIn hu I rv ru hv hw (sIn_mono h fun _ q => q.b)
  · exact opNotIn hu I rv ru hv hw (sIn_mono h fun _ q => q.b)

theorem DqA.at {H : Hp} {ds : List PyData} {vs : List V} {i : Int} {d : PyData} (h : DqA K H vs ds) (e : atI ds i = some d) : ∃ v, atI vs i = some v ∧ Dq K H v d := by
  unfold atI at *
  rw [h.len]
  cases q : ixN ds.length i with
  | none => rw [q] at e; cases e
  | some j =>
    rw [q] at e
    exact h.get e
theorem atI_scr {ns : List Int} {i : Int} {d : PyData × PyData} (e : atI (ns.map fun n => (PyData.none, PyData.int n)) i = some d) : ∃ n, d.2 = .int n ∧ atI (ns.map V.int) i = some (.int n) := by
  unfold atI at *
  rw [List.length_map] at *
  cases q : ixN ns.length i with
  | none => rw [q] at e; cases e
  | some j =>
    rw [q] at e
    simp only [Option.bind_some, List.getElem?_map] at e ⊢
    cases z : ns[j]? with
    | none => rw [z] at e; cases e
    | some n =>
      rw [z] at e
      simp at e
      subst e
      exact ⟨n, rfl, rfl⟩
theorem ixD (fr : Bool) (hf : fr = false) : IxR X (rD X.K fr sIx) := by
  intro value slice pins s σ H v u v' u' Q I rv ru h hs
  obtain ⟨O, x, y, l, hv, hw, h⟩ := h
  unfold sIx at h
  split at h
  · obtain ⟨a, xs, rfl, ha, da, _⟩ := dq_list hv
    cases hw
    split at h
    · rename_i d e
      obtain ⟨w, e2, dw⟩ := da.at e
      subst hf
      exact ix_seq value slice pins s σ H _ _ v' u' Q I rv ru (.inl ⟨_, _, _, _, rfl, rfl, .inl (.inl ha), e2, h.old dw⟩) hs
    · exact h.elim
  · obtain ⟨a, xs, rfl, ha, da⟩ := dq_tup hv
    cases hw
    split at h
    · rename_i d e
      obtain ⟨w, e2, dw⟩ := da.at e
      subst hf
      exact ix_seq value slice pins s σ H _ _ v' u' Q I rv ru (.inr (.inl ⟨_, _, _, _, rfl, rfl, .inl (.inl ha), e2, h.old dw⟩)) hs
    · exact h.elim
  · cases hw
    split at h
    · rename_i d e
      obtain ⟨h0, h⟩ := h
      generalize hk : PyData.dict _ = kk at hv
      cases hv <;> cases hk
      · rename_i a ns hq
        obtain ⟨n, e1, e2⟩ := atI_scr e
        rw [e1] at h
        have hq' : SqL X.K H a (ns.map V.int) := hid_le.seq hq
        exact ix_seq value slice pins s σ H _ _ v' u' Q I rv ru (.inl ⟨_, _, _, _, rfl, rfl, hq', e2, h.i⟩) hs
      · unfold atI at e
        rw [List.length_singleton] at e
        revert e
        generalize ixN 1 _ = q
        intro e
        cases q with
        | none => cases e
        | some j =>
          have := List.mem_of_getElem? (show _ = some _ from e)
          rw [List.mem_singleton.mp this] at h0
          cases h0
      · unfold atI at e
        rw [List.length_singleton] at e
        revert e
        generalize ixN 1 _ = q
        intro e
        cases q with
        | none => cases e
        | some j =>
          have := List.mem_of_getElem? (show _ = some _ from e)
          rw [List.mem_singleton.mp this] at h0
          cases h0
    · exact h.elim
  · cases hv; cases hw
    obtain ⟨h1, h⟩ := h
    split at h
    · rename_i c e
      exact ix_seq value slice pins s σ H _ _ v' u' Q I rv ru (.inr (.inr ⟨_, _, _, rfl, rfl, h1, e, h.s⟩)) hs
    · exact h.elim
  · exact h.elim
def rSlD (K : PySem.W.Frag) (fr : Bool) : V → Option Int → Option Int → Hp → VK → Prop := fun v lo hi H Q => ∃ O x, Live O H ∧ Dq K (hid O H) v x ∧ sSl x lo hi (postE K fr O H Q)
theorem slD (fr : Bool) : SlR X (rSlD X.K fr) := by
  intro pins s σ H v v' vl vu lo hi sl Q I rv a b c h
  obtain ⟨O, x, l, hv, h⟩ := h
  unfold sSl at h
  split at h
  · obtain ⟨p, xs, rfl, ha, da, _⟩ := dq_list hv
    refine sl_list pins s σ H _ v' vl vu lo hi sl Q I rv a b c ⟨_, _, rfl, .inl (.inl ha), fun q hq => ?_⟩
    refine h.new l hq ?_
    unfold cutV cutD
    rw [da.len]
    exact (da.drop _).take _
  · cases hv
    exact sl_str pins s σ H _ v' vl vu lo hi sl Q I rv a b c ⟨_, rfl, h.1, h.2.s⟩
  · exact h.elim
end
end Pu

set_option Elab.async false
set_option linter.all false
set_option maxRecDepth 100000
set_option maxHeartbeats 4000000
/-! Pu, part G: calls of what is built in, over the heap. -/
namespace Pu
open PySem L2
section
variable {X : Cx} {K : PySem.W.Frag}
def rB (K : PySem.W.Frag) (fr : Bool) (f : Bf) : List V → Hp → VK → Prop := fun vs H Q => ∃ O ds, Live O H ∧ DqA K (hid O H) vs ds ∧ sB f ds (postE K fr O H Q)
def Bf.val : Bf → Value
  | .int => .type "int" | .str => .type "str" | .list => .type "list" | .tuple => .type "tuple"
  | .len => .builtin "len" | .abs => .builtin "abs" | .max => .builtin "max" | .min => .builtin "min" | .sum => .builtin "sum" | .sorted => .builtin "sorted" | .any => .builtin "any" | .all => .builtin "all"
theorem Bf.boot (f : Bf) : bootBuiltins f.nm = some f.val := by cases f <;> decide +kernel
theorem dq1 {H : Hp} {vs : List V} {d : PyData} (h : DqA K H vs [d]) : ∃ v, vs = [v] ∧ Dq K H v d := by
  cases h with | cons h1 h2 => cases h2; exact ⟨_, rfl, h1⟩
theorem dq2 {H : Hp} {vs : List V} {d e : PyData} (h : DqA K H vs [d, e]) : ∃ v u, vs = [v, u] ∧ Dq K H v d ∧ Dq K H u e := by
  cases h with
  | cons h1 h2 => cases h2 with | cons h2 h3 => cases h3; exact ⟨_, _, rfl, h1, h2⟩
theorem lenD {O : Ow} {H : Hp} {v : V} {x : PyData} {Q : PyData → Prop} (hv : Dq K (hid O H) v x) (h : sLen x Q) : ∃ n : Nat, LenV K v H n ∧ Q (.int n) := by
  unfold sLen at h
  split at h
  · obtain ⟨a, xs, rfl, ha, da, _⟩ := dq_list hv
    exact ⟨_, .inl ⟨_, .inl (.inl ha), rfl⟩, by rw [da.len]; exact h⟩
  · obtain ⟨a, xs, rfl, ha, da⟩ := dq_tup hv
    exact ⟨_, .inr ⟨_, .inl (.inl ha), rfl⟩, by rw [da.len]; exact h⟩
  · obtain ⟨h0, h⟩ := h
    generalize hk : PyData.dict _ = kk at hv
    cases hv <;> cases hk
    · rename_i a ns hq
      have hq' : SqL K H a (ns.map V.int) := hid_le.seq hq
      refine ⟨_, .inl ⟨_, hq', rfl⟩, ?_⟩
      simpa using h
    · simp [isN] at h0
    · simp [isN] at h0
  · cases hv
    exact ⟨_, ⟨h.1, rfl⟩, h.2⟩
  · exact h.elim
theorem callB (hc : X.calm = true) (f : Bf) (fr : Bool) : CallR X f.val (rB X.K fr f) := by
  intro pins s σ H vs us Q I rx h
  obtain ⟨O, ds, l, hv, h⟩ := h
  unfold sB at h
  split at h
  · obtain ⟨v, rfl, hw⟩ := dq1 hv
    obtain ⟨n, h1, h2⟩ := lenD hw h
    exact call_len pins s σ H _ us Q I rx ⟨_, _, rfl, h1, h2.i⟩
  · obtain ⟨v, rfl, hw⟩ := dq1 hv
    cases hw
    exact call_abs pins s σ H _ us Q I rx ⟨_, rfl, h.i⟩
  · obtain ⟨v, u, rfl, hw, hu⟩ := dq2 hv
    cases hw; cases hu
    exact call_max2 hc pins s σ H _ us Q I rx ⟨_, _, rfl, h.i⟩
  · obtain ⟨v, u, rfl, hw, hu⟩ := dq2 hv
    cases hw; cases hu
    exact call_min2 hc pins s σ H _ us Q I rx ⟨_, _, rfl, h.i⟩
  · obtain ⟨v, rfl, hw⟩ := dq1 hv
    obtain ⟨ns, rfl, h0, h⟩ := h
    obtain ⟨a, xs, rfl, ha, da, _⟩ := dq_list hw
    cases da.ints
    exact cr_max hc pins s σ H _ us Q I rx ⟨_, _, rfl, .inl (.inl ha), h0, fun m hm hy => (h m hm hy).i⟩
  · obtain ⟨v, rfl, hw⟩ := dq1 hv
    obtain ⟨ns, rfl, h0, h⟩ := h
    obtain ⟨a, xs, rfl, ha, da, _⟩ := dq_list hw
    cases da.ints
    exact cr_min hc pins s σ H _ us Q I rx ⟨_, _, rfl, .inl (.inl ha), h0, fun m hm hy => (h m hm hy).i⟩
  · obtain ⟨v, rfl, hw⟩ := dq1 hv
    obtain ⟨ns, rfl, h⟩ := h
    obtain ⟨a, xs, rfl, ha, da, _⟩ := dq_list hw
    cases da.ints
    exact cr_sum hc pins s σ H _ us Q I rx ⟨_, _, rfl, .inl (.inl ha), h.i⟩
  · obtain ⟨v, rfl, hw⟩ := dq1 hv
    obtain ⟨ns, rfl, h0, h⟩ := h
    obtain ⟨a, xs, rfl, ha, da, _⟩ := dq_list hw
    cases da.ints
    exact cr_sorted pins s σ H _ us Q I rx ⟨_, _, rfl, .inl (.inl ha), h0, fun ns' p h1 h2 hp => (h ns' h1 h2).new l hp (DqA.ofInts _)⟩
  · obtain ⟨v, rfl, hw⟩ := dq1 hv
    obtain ⟨ns, rfl, h⟩ := h
    obtain ⟨a, xs, rfl, ha, da, _⟩ := dq_list hw
    cases da.bls
    exact cr_any hc pins s σ H _ us Q I rx ⟨_, _, rfl, .inl (.inl ha), h.b⟩
  · obtain ⟨v, rfl, hw⟩ := dq1 hv
    obtain ⟨ns, rfl, h⟩ := h
    obtain ⟨a, xs, rfl, ha, da, _⟩ := dq_list hw
    cases da.bls
    exact cr_all hc pins s σ H _ us Q I rx ⟨_, _, rfl, .inl (.inl ha), h.b⟩
  · obtain ⟨v, rfl, hw⟩ := dq1 hv
    cases hw
    exact call_int1 pins s σ H _ us Q I rx (.inl ⟨_, rfl, h.i⟩)
  · obtain ⟨v, rfl, hw⟩ := dq1 hv
    cases hw
    exact call_int1 pins s σ H _ us Q I rx (.inr ⟨_, rfl, h.i⟩)
  · obtain ⟨v, rfl, hw⟩ := dq1 hv
    cases hw
    obtain ⟨n, h1, h2, h⟩ := h
    exact call_int_str pins s σ H _ us Q I rx ⟨_, _, rfl, h1, h2, h.i⟩
  · obtain ⟨v, rfl, hw⟩ := dq1 hv
    cases hw
    exact call_str_int pins s σ H _ us Q I rx ⟨_, rfl, h.1, h.2.s⟩
  · obtain ⟨v, rfl, hw⟩ := dq1 hv
    obtain ⟨a, xs, rfl, ha, da, _⟩ := dq_list hw
    exact call_list_of pins s σ H _ us Q I rx ⟨_, _, rfl, .inl (.inl (.inl ha)), fun p hp => h.new l hp da⟩
  · obtain ⟨v, rfl, hw⟩ := dq1 hv
    obtain ⟨a, xs, rfl, ha, da⟩ := dq_tup hw
    exact call_list_of pins s σ H _ us Q I rx ⟨_, _, rfl, .inr (.inl (.inl ha)), fun p hp => h.new l hp da⟩
  · obtain ⟨v, rfl, hw⟩ := dq1 hv
    have hv' := hw
    obtain ⟨a, xs, rfl, ha, da⟩ := dq_tup hw
    exact call_tupleT pins s σ H _ us Q I rx ⟨_, _, rfl, .inl (.inl ha), h.val hv'⟩
  · exact h.elim
def isTy : Bf → Bool
  | .int | .str | .list | .tuple => true
  | _ => false
theorem pe_blt {f : Bf} {fr : Bool} {e : Expr} {es : List Expr} {t : TA} {p pos : Pos} (hc : X.calm = true) (hg : Gl X f.nm) (hm : X.mg f.nm = none) (ha : PA X (e :: es) t) (hn : f.nm ≠ "__name__") (hdb : (f.nm == ("__debug__" : Str)) = false)
    (he : starEach (e :: es) X.env = (false, eval e X.env) :: starEach es X.env) (hpl : (backTo pos (starEach es X.env)).any (·.1) = false) : PE X (.Call (.Name f.nm p) (e :: es) [] pos) (tCB (rB X.K fr f) t) := by
  have c := callB (X := X) hc f fr
  have b := f.boot
  cases f
  case int => exact pe_callTy c hg hm b ha hn hdb he hpl
  case str => exact pe_callTy c hg hm b ha hn hdb he hpl
  case list => exact pe_callTy c hg hm b ha hn hdb he hpl
  case tuple => exact pe_callTy c hg hm b ha hn hdb he hpl
  all_goals exact pe_callB c hg hm b ha hn hdb he hpl

/-! ### methods -/
def Mf.T : Mf → String
  | .index => "list"
  | _ => "str"
def rM (K : PySem.W.Frag) (fr : Bool) (m : Mf) : V → List V → Hp → VK → Prop := fun v vs H Q => ∃ O x ds, Live O H ∧ Dq K (hid O H) v x ∧ DqA K (hid O H) vs ds ∧ sM m x ds (postE K fr O H Q)
theorem tyL {O : Ow} {H : Hp} {v : V} {ds : List PyData} (h : Dq K (hid O H) v (.list ds)) : tyV K "list" v H := by
  obtain ⟨a, xs, rfl, ha, da, _⟩ := dq_list h
  exact .inl ⟨rfl, _, .inl (.inl ha)⟩
theorem mtIndex (hu : X.A.units + 65 < cLine) (fr : Bool) : MtR X "list.index" (rM X.K fr .index) := by
  intro pins s σ H v vs v' us Q I rv rs h
  obtain ⟨O, x, ds, l, hv, hs, h⟩ := h
  unfold sM at h
  split at h
  · rename_i ds y _
    obtain ⟨u, rfl, hw⟩ := dq1 hs
    obtain ⟨a, b, j, z, c, d, e, h⟩ := h
    have hv' := hv
    obtain ⟨p, xs, rfl, ha, da, _⟩ := dq_list hv
    exact mt_indexD hu pins s σ H _ _ v' us Q I rv rs ⟨_, _, _, _, j, z, rfl, rfl, Dq.dp b (hv'.mono hid_le), Dq.dp a (hw.mono hid_le), okD.shaped b, okD.shaped a, c, d, e, h.i⟩
  all_goals first | contradiction | exact h.elim
theorem mtFind (fr : Bool) : MtR X "str.find" (rM X.K fr .find) := by
  intro pins s σ H v vs v' us Q I rv rs h
  obtain ⟨O, x, ds, l, hv, hs, h⟩ := h
  unfold sM at h
  split at h
  all_goals first | contradiction | exact h.elim | skip
  obtain ⟨u, rfl, hw⟩ := dq1 hs
  cases hv; cases hw
  exact mt_find pins s σ H _ _ v' us Q I rv rs ⟨_, _, rfl, rfl, h.i⟩
theorem mtCount (fr : Bool) : MtR X "str.count" (rM X.K fr .count) := by
  intro pins s σ H v vs v' us Q I rv rs h
  obtain ⟨O, x, ds, l, hv, hs, h⟩ := h
  unfold sM at h
  split at h
  all_goals first | contradiction | exact h.elim | skip
  obtain ⟨u, rfl, hw⟩ := dq1 hs
  cases hv; cases hw
  exact mt_count pins s σ H _ _ v' us Q I rv rs ⟨_, _, rfl, rfl, h.i⟩
theorem mtSplit (fr : Bool) : MtR X "str.split" (rM X.K fr .split) := by
  intro pins s σ H v vs v' us Q I rv rs h
  obtain ⟨O, x, ds, l, hv, hs, h⟩ := h
  unfold sM at h
  split at h
  all_goals first | contradiction | exact h.elim | skip
  obtain ⟨u, rfl, hw⟩ := dq1 hs
  cases hv; cases hw
  exact mt_split pins s σ H _ _ v' us Q I rv rs ⟨_, _, rfl, rfl, h.1, h.2.1, fun p hp => h.2.2.new l hp (DqA.ofStrs _)⟩
theorem mtPart (fr : Bool) : MtR X "str.partition" (rM X.K fr .partition) := by
  intro pins s σ H v vs v' us Q I rv rs h
  obtain ⟨O, x, ds, l, hv, hs, h⟩ := h
  unfold sM at h
  split at h
  all_goals first | contradiction | exact h.elim | skip
  obtain ⟨u, rfl, hw⟩ := dq1 hs
  cases hv; cases hw
  exact mt_partition pins s σ H _ _ v' us Q I rv rs ⟨_, _, rfl, rfl, h.1, h.2.1, fun p hp => h.2.2.tup l hp (.cons (.str _) (.cons (.str _) (.cons (.str _) .nil)))⟩
theorem mtJoin (fr : Bool) : MtR X "str.join" (rM X.K fr .join) := by
  intro pins s σ H v vs v' us Q I rv rs h
  obtain ⟨O, x, ds, l, hv, hs, h⟩ := h
  unfold sM at h
  split at h
  all_goals first | contradiction | exact h.elim | skip
  obtain ⟨u, rfl, hw⟩ := dq1 hs
  obtain ⟨ys, rfl, h1, h⟩ := h
  cases hv
  obtain ⟨a, xs, rfl, ha, da, _⟩ := dq_list hw
  cases da.strs
  exact mt_join pins s σ H _ _ v' us Q I rv rs ⟨_, _, _, rfl, rfl, .inl (.inl (.inl ha)), h1, h.s⟩
theorem few_of {e : Expr} {es : List Expr} {env : PySem.Env} {cpos : Pos} (h : (e :: es).all noStar = true) (h20 : (e :: es).length < 20) :
    ((backTo cpos (starEach (e :: es) env)).all (fun x => !x.1) && (backToKw cpos (keywordEach [] env)).all (fun x => x.1.isSome)
      && decide ((e :: es).length + ([] : List Keyword).length + (if ([] : List Keyword).isEmpty then 0 else 1) < 30)) = true := by
  have h1 := star_any (pos := cpos) (env := env) h
  have h2 : (backTo cpos (starEach (e :: es) env)).all (fun x => !x.1) = true := by
    rw [List.any_eq_false] at h1
    rw [List.all_eq_true]
    intro x hx
    have := h1 x hx
    simpa using this
  rw [h2]
  have h3 : (backToKw cpos (keywordEach [] env)).all (fun x => x.1.isSome) = true := rfl
  rw [h3]
  simp only [Bool.true_and]
  exact decide_eq_true (by simp at h20 ⊢; omega)
end
end Pu

set_option Elab.async false
set_option linter.all false
set_option maxRecDepth 100000
set_option maxHeartbeats 4000000
/-! Pu, part H: slots, targets, walks. -/
namespace Pu
open PySem L2
section
variable {X : Cx} {K : PySem.W.Frag}

/-! ### slots -/
theorem wipe_at (vs : List Nat) (σ : St) (i : Nat) : (wipe σ vs)[i]? = if i ∈ vs then (σ[i]?).map (fun _ => none) else σ[i]? := by
  induction vs with
  | nil => simp [wipe]
  | cons v vs ih =>
    unfold wipe
    rw [List.getElem?_set]
    have hl := wipe_length σ vs
    by_cases h : v = i
    · subst h
      simp only [List.mem_cons, true_or, if_true]
      by_cases h2 : v < σ.length
      · rw [if_pos (by omega)]
        simp [h2]
      · rw [if_neg (by omega)]
        have : σ[v]? = none := by simp; omega
        rw [this]; rfl
    · rw [if_neg h, ih]
      have : i ≠ v := fun z => h z.symm
      simp [this]
theorem wip_at (vs : List Nat) (ρ : Ev) (i : Nat) : (wip ρ vs)[i]? = if i ∈ vs then (ρ[i]?).map (fun _ => Sl.no) else ρ[i]? := by
  induction vs with
  | nil => simp [wip]
  | cons v vs ih =>
    unfold wip
    rw [List.getElem?_set]
    have hl : (wip ρ vs).length = ρ.length := by
      clear ih
      induction vs with
      | nil => rfl
      | cons w ws ih => unfold wip; rw [List.length_set, ih]
    by_cases h : v = i
    · subst h
      simp only [List.mem_cons, true_or, if_true]
      by_cases h2 : v < ρ.length
      · rw [if_pos (by omega)]
        simp [h2]
      · rw [if_neg (by omega)]
        have : ρ[v]? = none := by simp; omega
        rw [this]; rfl
    · rw [if_neg h, ih]
      have : i ≠ v := fun z => h z.symm
      simp [this]
theorem wip_length (vs : List Nat) (ρ : Ev) : (wip ρ vs).length = ρ.length := by
  induction vs with
  | nil => rfl
  | cons w ws ih => unfold wip; rw [List.length_set, ih]
theorem wipe_wipe (vs : List Nat) (σ : St) : wipe (wipe σ vs) vs = wipe σ vs := by
  apply List.ext_getElem?
  intro i
  rw [wipe_at, wipe_at]
  split
  · cases σ[i]? <;> rfl
  · rfl
theorem wipe_set (vs : List Nat) (σ : St) (i : Nat) (v : Option V) (h : i ∈ vs) : wipe (σ.set i v) vs = wipe σ vs := by
  apply List.ext_getElem?
  intro j
  rw [wipe_at, wipe_at, List.getElem?_set]
  by_cases e : i = j
  · subst e
    rw [if_pos h, if_pos h, if_pos rfl]
    by_cases h2 : i < σ.length
    · rw [if_pos h2]; simp [h2]
    · rw [if_neg h2]
      have : σ[i]? = none := List.getElem?_eq_none (by omega)
      rw [this]
  · rw [if_neg e]

theorem Ok.set {O : Ow} {ρ : Ev} {σ : St} {H : Hp} (k : Ok K O ρ σ H) {i : Nat} {v : V} {d : PyData} (hd : Dq K (hid O H) v d) : Ok K O (ρ.set i (.sh d)) (σ.set i (some v)) H where
  sh := fun j e q => by
    rw [List.getElem?_set] at q
    by_cases h : i = j
    · subst h
      rw [if_pos rfl] at q
      split at q
      · cases q
        exact ⟨v, by rw [List.getElem?_set_self (by have := k.len; omega)], hd⟩
      · cases q
    · rw [if_neg h] at q
      rw [List.getElem?_set_ne h]
      exact k.sh j e q
  ow := fun j e q => by
    rw [List.getElem?_set] at q
    by_cases h : i = j
    · subst h
      rw [if_pos rfl] at q
      split at q <;> cases q
    · rw [if_neg h] at q
      rw [List.getElem?_set_ne h]
      exact k.ow j e q
  live := k.live
  len := by rw [List.length_set, List.length_set]; exact k.len
theorem Ok.wip {O : Ow} {ρ : Ev} {σ : St} {H : Hp} (k : Ok K O ρ σ H) (vs : List Nat) : Ok K O (wip ρ vs) (wipe σ vs) H where
  sh := fun j e q => by
    rw [wip_at] at q
    rw [wipe_at]
    split at q
    · cases z : ρ[j]? <;> rw [z] at q <;> cases q
    · rename_i h; rw [if_neg h]; exact k.sh j e q
  ow := fun j e q => by
    rw [wip_at] at q
    rw [wipe_at]
    split at q
    · cases z : ρ[j]? <;> rw [z] at q <;> cases q
    · rename_i h; rw [if_neg h]; exact k.ow j e q
  live := k.live
  len := by rw [wip_length, wipe_length]; exact k.len

/-! ### targets -/
def gTs (l : List Nat) : TGs := l.foldr (fun i t => gCons (gName i) t) gNil
def gT (K : PySem.W.Frag) : Tg → TG
  | .n i => gName i
  | .t l => gTup K l.length (gTs l)
def setAll (σ : St) : List Nat → List V → St
  | i :: l, v :: vs => setAll (σ.set i (some v)) l vs
  | _, _ => σ
theorem gTs_run : ∀ (l : List Nat) (vs : List V) (σ : St) (H : Hp) (Q : St → Hp → Prop), vs.length = l.length → Q (setAll σ l vs) H → gTs l vs σ H Q
  | [], vs, σ, H, Q, h, q => by
    cases vs with
    | nil => exact ⟨rfl, q⟩
    | cons => cases h
  | i :: l, vs, σ, H, Q, h, q => by
    cases vs with
    | nil => cases h
    | cons v vs => exact ⟨v, vs, rfl, gTs_run l vs _ H Q (by simpa using h) q⟩
theorem Ok.setAll {O : Ow} {H : Hp} : ∀ {l : List Nat} {vs : List V} {ds : List PyData} {ρ : Ev} {σ : St}, Ok K O ρ σ H → DqA K (hid O H) vs ds → Ok K O ((l.zip ds).foldl (fun r p => r.set p.1 (.sh p.2)) ρ) (setAll σ l vs) H
  | [], vs, ds, ρ, σ, k, h => by
    cases vs <;> exact k
  | i :: l, vs, ds, ρ, σ, k, h => by
    cases h with
    | nil => exact k
    | cons h1 h2 => exact Ok.setAll (l := l) (k.set (i := i) h1) h2
theorem setAll_wipe {own : List Nat} : ∀ {l : List Nat} {vs : List V} {σ : St}, (∀ i ∈ l, i ∈ own) → wipe (setAll σ l vs) own = wipe σ own
  | [], vs, σ, _ => by cases vs <;> rfl
  | i :: l, vs, σ, h => by
    cases vs with
    | nil => rfl
    | cons v vs =>
      unfold Pu.setAll
      rw [setAll_wipe fun j hj => h j (List.mem_cons_of_mem _ hj), wipe_set _ _ _ _ (h i List.mem_cons_self)]
/-- a target takes an item -/
theorem gT_run {O : Ow} {ρ : Ev} {σ : St} {H : Hp} {tg : Tg} {x : V} {d : PyData} {Kk : Ev → Prop} {Q : St → Hp → Prop} (k : Ok K O ρ σ H) (hd : Dq K (hid O H) x d) (h : bnd tg d ρ Kk)
    (q : ∀ ρ1 σ1, Ok K O ρ1 σ1 H → Kk ρ1 → (∀ own, tgIn tg own = true → wipe σ1 own = wipe σ own) → Q σ1 H) : gT K tg x σ H Q := by
  cases tg with
  | n i => exact q _ _ (k.set hd) h fun own ho => wipe_set _ _ _ _ (by simpa [tgIn] using ho)
  | t l =>
    replace h : ofT d fun ds => ds.length = l.length ∧ Kk ((l.zip ds).foldl (fun r p => r.set p.1 (.sh p.2)) ρ) := h
    unfold ofT at h
    split at h
    · obtain ⟨a, xs, rfl, ha, da⟩ := dq_tup hd
      refine ⟨a, xs, rfl, .inl (.inl ha), by rw [da.len]; exact h.1, gTs_run l xs σ H Q (by rw [da.len]; exact h.1) (q _ _ (k.setAll da) h.2 fun own ho => setAll_wipe ?_)⟩
      intro i hi
      have := (List.all_eq_true.mp ho) i hi
      simpa using this
    · exact h.elim

theorem assign_len {env : PySem.Env} : ∀ {ys : List Expr}, (ys.all fun y => (vName y).isSome) = true → (assignEach ys env).length = ys.length ∧ (assignEach ys env).findIdx? (·.1) = none
  | [], _ => ⟨rfl, rfl⟩
  | y :: ys, h => by
    simp only [List.all_cons, Bool.and_eq_true] at h
    obtain ⟨z, e⟩ := Option.isSome_iff_exists.mp h.1
    obtain ⟨p, rfl⟩ := vName_e e
    have ih := assign_len (env := env) h.2
    constructor
    · show (assignEach ys env).length + 1 = _
      rw [ih.1]; rfl
    · have : assignEach (.Name z p :: ys) env = (false, assign (.Name z p) env) :: assignEach ys env := rfl
      rw [this, List.findIdx?_cons, ih.2]
      rfl
theorem pgName {sc0 : Scope} {i : Nat} {y : Str} {p : Pos} (hN : X.N.Nodup) (hi : X.N[i]? = some y) (hl : locB sc0 y = true)
    (hs : ∀ y, locB sc0 y = true → Loc X.env.scope y ∧ (X.fn y = true ∨ X.env.scope.names.lookup y = some .local)) : PG X (.Name y p) (gName i) :=
  pg_name hN hi (hs y hl).1 (hs y hl).2
theorem pgs_names {sc0 : Scope} (hN : X.N.Nodup) (hs : ∀ y, locB sc0 y = true → Loc X.env.scope y ∧ (X.fn y = true ∨ X.env.scope.names.lookup y = some .local)) :
    ∀ {l : List Nat} {ys : List Expr}, ys.length = l.length → ((l.zip ys).all fun p => match vName p.2 with
      | some y => decide (X.N[p.1]? = some y) && locB sc0 y
      | none => false) = true → PGs X ys (gTs l)
  | [], ys, h, _ => by
    cases ys with
    | nil => exact pgs_nil
    | cons => cases h
  | i :: l, ys, h, g => by
    cases ys with
    | nil => cases h
    | cons y ys =>
      simp only [List.zip_cons_cons, List.all_cons, Bool.and_eq_true] at g
      obtain ⟨g1, g2⟩ := g
      split at g1
      · rename_i z e
        obtain ⟨p, rfl⟩ := vName_e e
        simp only [Bool.and_eq_true, decide_eq_true_eq] at g1
        refine pgs_cons ?_ (pgs_names hN hs (by simpa using h) g2)
        exact pgName hN g1.1 g1.2 hs
      · cases g1
theorem chkT_names {l : List Nat} {ys : List Expr} {sc0 : Scope} {N : List Str} : ys.length = l.length → ((l.zip ys).all fun p => match vName p.2 with
      | some y => decide (N[p.1]? = some y) && locB sc0 y
      | none => false) = true → (ys.all fun y => (vName y).isSome) = true := by
  induction l generalizing ys with
  | nil => intro h _; cases ys with
    | nil => rfl
    | cons => cases h
  | cons i l ih =>
    intro h g
    cases ys with
    | nil => cases h
    | cons y ys =>
      simp only [List.zip_cons_cons, List.all_cons, Bool.and_eq_true] at g ⊢
      refine ⟨?_, ih (by simpa using h) g.2⟩
      have g1 := g.1
      split at g1
      · rename_i z e; rw [e]; rfl
      · cases g1
theorem pgT {sc0 : Scope} {tg : Tg} {x : Expr} (hc : X.calm = true) (hN : X.N.Nodup) (hs : ∀ y, locB sc0 y = true → Loc X.env.scope y ∧ (X.fn y = true ∨ X.env.scope.names.lookup y = some .local))
    (h : chkT tg sc0 X.N x = true) : PG X x (gT X.K tg) := by
  cases tg with
  | n i =>
    simp only [chkT] at h
    split at h
    · rename_i y e
      obtain ⟨p, rfl⟩ := vName_e e
      simp only [Bool.and_eq_true, decide_eq_true_eq] at h
      exact pgName hN h.1 h.2 hs
    · cases h
  | t l =>
    simp only [chkT] at h
    split at h
    · rename_i ys e
      obtain ⟨k, p, rfl⟩ := vTup_e e
      simp only [Bool.and_eq_true, decide_eq_true_eq] at h
      have a := assign_len (env := X.env) (chkT_names h.1 h.2)
      exact pg_tup hc (pgs_names hN hs h.1 h.2) (by rw [a.1]; exact h.1) a.2
    · cases h

/-! ### walks -/
theorem wkList {O : Ow} {H : Hp} {a : Addr} {xs : List V} {ds : List PyData} (ha : (hid O H) a = some (.lst xs)) (da : DqA K (hid O H) xs ds) : Wk K (Itl K a) O H ds :=
  ⟨_, _, _, walk_list, da.len, fun H' O' s => .inl (.inl (hid_le _ _ (s _ _ ha))), fun i H1 x H2 O1 hi y s l => by
    obtain ⟨rfl, e⟩ := y
    obtain ⟨d, e2, dx⟩ := da.get' e
    exact ⟨Same.refl _, d, e2, dx.mono s⟩⟩
theorem wkTup {O : Ow} {H : Hp} {a : Addr} {xs : List V} {ds : List PyData} (ha : (hid O H) a = some (.tup xs)) (da : DqA K (hid O H) xs ds) : Wk K (Itt K a) O H ds :=
  ⟨_, _, _, walk_tup, da.len, fun H' O' s => .inl (.inl (hid_le _ _ (s _ _ ha))), fun i H1 x H2 O1 hi y s l => by
    obtain ⟨rfl, e⟩ := y
    obtain ⟨d, e2, dx⟩ := da.get' e
    exact ⟨Same.refl _, d, e2, dx.mono s⟩⟩
theorem wkRange {O : Ow} {H : Hp} {lo : Int} {n : Nat} : Wk K (Itr lo n) O H ((List.range n).map fun i => .int (lo + (i : Nat))) :=
  ⟨_, _, _, walk_range, by simp, fun _ _ _ => trivial, fun i H1 x H2 O1 hi y s l => by
    obtain ⟨rfl, rfl⟩ := y
    exact ⟨Same.refl _, _, by simp [hi], .int _⟩⟩
theorem wkRangeC {O : Ow} {H : Hp} {lo c : Int} {n : Nat} : Wk K (Itc lo c n) O H ((List.range n).map fun i => .int (lo + (i : Nat) * c)) :=
  ⟨_, _, _, walk_rangeC, by simp, fun _ _ _ => trivial, fun i H1 x H2 O1 hi y s l => by
    obtain ⟨rfl, rfl⟩ := y
    exact ⟨Same.refl _, _, by simp [hi], .int _⟩⟩
theorem wkStr {O : Ow} {H : Hp} {z : Str} : Wk K (Its z) O H (z.cps.toList.map fun c => .str ⟨#[c]⟩) :=
  ⟨_, _, _, walk_str, by simp, fun _ _ _ => trivial, fun i H1 x H2 O1 hi y s l => by
    obtain ⟨rfl, c, e, rfl⟩ := y
    exact ⟨Same.refl _, .str ⟨#[c]⟩, by simp [e], .str _⟩⟩
theorem wkRev {O : Ow} {H : Hp} {a : Addr} {xs : List V} {ds : List PyData} (ha : (hid O H) a = some (.lst xs)) (da : DqA K (hid O H) xs ds) : Wk K (Itv K a xs.length) O H ds.reverse :=
  ⟨_, _, _, walk_rev, by rw [List.length_reverse, da.len], fun H' O' s => .inl (.inl (hid_le _ _ (s _ _ ha))), fun i H1 x H2 O1 hi y s l => by
    obtain ⟨rfl, e⟩ := y
    obtain ⟨d, e2, dx⟩ := da.get' e
    refine ⟨Same.refl _, d, ?_, dx.mono s⟩
    rw [List.getElem?_reverse (by rw [← da.len]; exact hi), ← da.len]
    exact e2⟩
theorem pair_new {O1 : Ow} {H1 : Hp} {T : Addr} {x y : V} {d e : PyData} (l : Live O1 H1) (hT : H1 T = none) (h1 : Dq K (hid O1 H1) x d) (h2 : Dq K (hid O1 H1) y e) :
    Dq K (hid O1 (upd H1 T (.tup [x, y]))) (.ref T) (.tuple [d, e]) := .tup (hid_new l hT) (.cons (h1.mono (hid_same (same_new hT))) (.cons (h2.mono (hid_same (same_new hT))) .nil))
theorem wkZip {O : Ow} {H : Hp} {a b : Addr} {xs ys : List V} {ds es : List PyData} (ha : (hid O H) a = some (.lst xs)) (da : DqA K (hid O H) xs ds) (hb : (hid O H) b = some (.lst ys)) (db : DqA K (hid O H) ys es) :
    Wk K (Itz K a b) O H ((ds.zip es).map fun p => .tuple [p.1, p.2]) :=
  ⟨_, _, _, walk_zip rfl, by rw [List.length_map, List.length_zip, da.len, db.len], fun H' O' s => ⟨.inl (.inl (hid_le _ _ (s _ _ ha))), .inl (.inl (hid_le _ _ (s _ _ hb)))⟩, fun i H1 v H2 O1 hi y s l => by
    obtain ⟨T, x, z, rfl, hT, rfl, e1, e2⟩ := y
    obtain ⟨d, f1, dx⟩ := da.get' e1
    obtain ⟨e, f2, dz⟩ := db.get' e2
    refine ⟨same_new hT, .tuple [d, e], ?_, pair_new l hT (dx.mono s) (dz.mono s)⟩
    rw [List.getElem?_map, List.getElem?_zip_eq_some (z := (d, e)) |>.mpr ⟨f1, f2⟩]
    rfl⟩
theorem wkEnum {O : Ow} {H : Hp} {a : Addr} {xs : List V} {ds : List PyData} (ha : (hid O H) a = some (.lst xs)) (da : DqA K (hid O H) xs ds) :
    Wk K (Ite K a) O H (ds.zipIdx.map fun p => .tuple [.int (p.2 : Nat), p.1]) :=
  ⟨_, _, _, walk_enum, by rw [List.length_map, List.length_zipIdx, da.len], fun H' O' s => .inl (.inl (hid_le _ _ (s _ _ ha))), fun i H1 v H2 O1 hi y s l => by
    obtain ⟨T, x, z, rfl, hT, rfl, e1, e2⟩ := y
    cases e1
    obtain ⟨e, f2, dz⟩ := da.get' e2
    refine ⟨same_new hT, .tuple [.int i, e], ?_, pair_new l hT (.int _) (dz.mono s)⟩
    rw [List.getElem?_map, List.getElem?_zipIdx, f2]
    simp⟩
end
end Pu

set_option Elab.async false
set_option linter.all false
set_option maxRecDepth 100000
set_option maxHeartbeats 8000000
/-! Pu, part I: expressions. -/
namespace Pu
open PySem L2

structure Snd (G : Gam) (e : Ex) : Prop where
  pe : isE e = true → ∀ (X : Cx) (W : WS) (x : Expr), Ctx G W X → chk e X.env.scope X.N x = true → PE X x (tE G W X.mg X.K e)
  pt : isE e = true → ∀ (X : Cx) (W : WS) (x : Expr), Ctx G W X → okT e x = true → chk e X.env.scope X.N x = true → PT X x (tT G W X.mg X.K e)
  pw : tst e = true → ∀ (X : Cx) (W : WS) (o : BoolOp) (xs : List Expr) (p : Pos), Ctx G W X → chk e X.env.scope X.N (.BoolOp o xs p) = true → PW X (.BoolOp o xs p) (tT G W X.mg X.K e)
  pa : isA e = true → ∀ (X : Cx) (W : WS) (xs : List Expr) (p : Pos), Ctx G W X → chk e X.env.scope X.N (.List xs p) = true → PA X xs (tA G W X.mg X.K e) ∧ xs.all noStar = true
  pi : isI e = true → ∀ (X : Cx) (W : WS) (tg x : Expr), Ctx G W X → (needT e = true → isTupE tg = true) → chk e X.env.scope X.N x = true → PI X tg x (tI G W X.mg X.K e)

section
variable {G : Gam} {W : WS} {X : Cx}
theorem vis_of {sc : Scope} {y : Str} (h : vis sc y = true) : Vis sc y ∧ (y == ("__debug__" : Str)) = false ∧ (y == ("__classdict__" : Str)) = false := by
  unfold vis at h
  simp only [Bool.and_eq_true, Bool.not_eq_true'] at h
  obtain ⟨⟨h1, h2⟩, h3⟩ := h
  refine ⟨?_, h2, h3⟩
  split at h1
  · exact .inl (by assumption)
  · exact .inr (.inl (by assumption))
  · exact .inr (.inr (by assumption))
  · cases h1
theorem glb_of {y : Str} (h : glb X.env.scope y = true) : Gl X y ∧ (y == ("__debug__" : Str)) = false ∧ y ≠ "__name__" := by
  unfold glb at h
  simp only [Bool.and_eq_true, Bool.not_eq_true'] at h
  obtain ⟨⟨h1, h2⟩, h3⟩ := h
  refine ⟨?_, h2, fun e => by rw [e] at h3; simp at h3⟩
  split at h1
  · show X.env.scope.names.lookup y = _
    assumption
  · cases h1
theorem pe_slot {i : Nat} {x : Expr} (h : chkV i X.env.scope X.N x = true) : PE X x (tVar i) ∧ ∃ y p, x = .Name y p := by
  unfold chkV at h
  split at h
  · rename_i y e
    obtain ⟨p, rfl⟩ := vName_e e
    simp only [Bool.and_eq_true, decide_eq_true_eq] at h
    obtain ⟨v, d, c⟩ := vis_of h.2
    exact ⟨pe_var h.1 v d c, _, _, rfl⟩
  · cases h

/-- from a value to a test -/
theorem pt_of {e : Ex} {x : Expr} (h : PE X x (tE G W X.mg X.K e)) (hx : notBool x = true) : PT X x (tT G W X.mg X.K e) := by
  have he : ∀ whole, isTrue x X.env whole = (do let v ← whole; standAt x.pos; holding [v] (truthy v)) := by
    intro wh
    cases x
    case BoolOp => simp [notBool] at hx
    case IfExp => simp [notBool] at hx
    case Compare => simp [notBool] at hx
    case UnaryOp o _ _ => cases o <;> first | rfl | simp [notBool] at hx
    all_goals first | rfl | simp [notBool] at hx
  refine ptI (pt_val h he) fun σ H Q q => ?_
  obtain ⟨ρ, O, ok, h⟩ := q
  refine ⟨ρ, O, ok, wE_mono h (fun d hd v H' s dv _ => ?_) fun _ z => z⟩
  unfold postT ofB at hd
  split at hd
  · cases dv
    exact ⟨_, rfl, hd H' s⟩
  · exact hd.elim

theorem bin2 {fr : Bool} {e1 e2 : Ex} {sem : PyData → PyData → (PyData → Prop) → Prop} {σ : St} {H : Hp} {Q : VK} {ρ : Ev} {O : Ow} {mg : Str → Option Value} {K : PySem.W.Frag} (ms : ∀ x y Q Q', sem x y Q → (∀ d, Q d → Q' d) → sem x y Q') (ok : Ok K O ρ σ H)
    (h : wE G e1 ρ (fun x => wE G e2 ρ (fun y => sem x y (postE K fr O H Q)) (excE mg H (W σ))) (excE mg H (W σ))) : tOp (rD K fr sem) (tE G W mg K e1) (tE G W mg K e2) σ H Q := by
  refine ⟨ρ, O, ok, wE_mono h (fun x hx v H1 s1 dv _ => ?_) fun _ z => z⟩
  refine ⟨ρ, O, ok.ext s1, wE_mono hx (fun y hy u H2 s2 du _ => ?_) fun _ z => z.mono s1⟩
  exact ⟨O, x, y, ok.live.ext (s1.trans s2), dv.mono (hid_same s2), du, ms _ _ _ _ hy fun _ q => q.mono (s1.trans s2)⟩
/-- .. as a test -/
theorem bin2T {e1 e2 : Ex} {sem : PyData → PyData → (PyData → Prop) → Prop} {σ : St} {H : Hp} {Q : Bool → Hp → Prop} {ρ : Ev} {O : Ow} {mg : Str → Option Value} {K : PySem.W.Frag} (ms : ∀ x y Q Q', sem x y Q → (∀ d, Q d → Q' d) → sem x y Q') (ok : Ok K O ρ σ H)
    (h : wE G e1 ρ (fun x => wE G e2 ρ (fun y => sem x y (postT H Q)) (excE mg H (W σ))) (excE mg H (W σ))) : tTest (tOp (rD K false sem) (tE G W mg K e1) (tE G W mg K e2)) σ H Q := by
  refine ⟨ρ, O, ok, wE_mono h (fun x hx v H1 s1 dv _ => ?_) fun _ z => z⟩
  refine ⟨ρ, O, ok.ext s1, wE_mono hx (fun y hy u H2 s2 du _ => ?_) fun _ z => z.mono s1⟩
  refine ⟨O, x, y, ok.live.ext (s1.trans s2), dv.mono (hid_same s2), du, ms _ _ _ _ hy fun d hd w H3 s3 dw _ => ?_⟩
  unfold postT ofB at hd
  split at hd
  · cases dw
    exact ⟨_, rfl, hd _ ((s1.trans s2).trans s3)⟩
  · exact hd.elim
/-- the first operand a slot that is looked at -/
theorem rdP_run {ρ : Ev} {O : Ow} {σ : St} {H : Hp} {K : PySem.W.Frag} {v : Nat} {P : PyData → Prop} (ok : Ok K O ρ σ H) (h : rdP ρ v P) : ∃ x u, σ[v]? = some (some u) ∧ P x ∧
    (Dq K (hid O H) u x ∨ ∃ a xs ds, u = .ref a ∧ x = .list ds ∧ H a = some (.lst xs) ∧ DqA K (hid O H) xs ds) := by
  unfold rdP at h
  split at h
  · rename_i d e
    obtain ⟨u, a, b⟩ := ok.sh v d e
    exact ⟨d, u, a, h, .inl b⟩
  · rename_i ds e
    obtain ⟨a, xs, b, _, c, d⟩ := ok.ow v ds e
    exact ⟨_, _, b, h, .inr ⟨a, xs, ds, rfl, rfl, c, d⟩⟩
  · exact h.elim
theorem rdV_run {ρ : Ev} {O : Ow} {σ : St} {H : Hp} {K : PySem.W.Frag} {v : Nat} {P : PyData → Prop} (ok : Ok K O ρ σ H) (h : rdV ρ v P) : ∃ x u, σ[v]? = some (some u) ∧ P x ∧ Dq K (hid O H) u x := by
  unfold rdV at h
  split at h
  · rename_i d e
    obtain ⟨u, a, b⟩ := ok.sh v d e
    exact ⟨d, u, a, h, b⟩
  · exact h.elim
theorem ixRun {fr : Bool} (hf : fr = false) {O : Ow} {H : Hp} {K : PySem.W.Frag} {v u : V} {x y : PyData} {Q : VK} (dv : Dq K (hid O H) v x ∨ ∃ a xs ds, v = .ref a ∧ x = .list ds ∧ H a = some (.lst xs) ∧ DqA K (hid O H) xs ds) (du : Dq K (hid O H) u y)
    (l : Live O H) (h : sIx x y (postE K fr O H Q)) : rD K false sIx v u H Q ∨ rIx K v u H Q := by
  subst hf
  rcases dv with dv | ⟨a, xs, ds, rfl, rfl, ha, da⟩
  · exact .inl ⟨O, x, y, l, dv, du, h⟩
  · cases y
    case int i =>
      cases du
      simp only [sIx] at h
      split at h
      · rename_i d e
        obtain ⟨w, e2, dw⟩ := da.at e
        exact .inr (.inl ⟨_, _, _, _, rfl, rfl, .inl (.inl ha), e2, h.old dw⟩)
      · exact h.elim
    all_goals exact h.elim
end

section
variable {G : Gam}
theorem snd_var (i : Nat) : Snd G (.var i) := by
  have pe : ∀ (X : Cx) (W : WS) (x : Expr), Ctx G W X → chk (.var i) X.env.scope X.N x = true → PE X x (tE G W X.mg X.K (.var i)) := fun X W x c h => by
    refine peI (pe_slot h).1 fun σ H Q q => ?_
    obtain ⟨ρ, O, ok, h⟩ := q
    obtain ⟨d, u, e, hp, du⟩ := rdV_run ok h
    exact ⟨u, e, postE.old hp du⟩
  refine ⟨fun _ => pe, fun _ X W x c ho h => ?_, fun t => (by simp [tst] at t), fun t => (by simp [isA] at t), fun t => (by simp [isI] at t)⟩
  obtain ⟨y, p, rfl⟩ := (pe_slot h).2
  exact pt_of (pe X W _ c h) rfl
/-- a form whose test is its value's -/
theorem snd_mk {e : Ex} (hA : isA e = false) (hI : isI e = false) (hT : tst e = false) (pe : ∀ (X : Cx) (W : WS) (x : Expr), Ctx G W X → chk e X.env.scope X.N x = true → PE X x (tE G W X.mg X.K e)) : Snd G e :=
  ⟨fun _ => pe, fun _ X W x c ho h => pt_of (pe X W x c h) (by unfold okT at ho; rw [hT] at ho; simpa using ho), fun t => (by rw [hT] at t; cases t), fun t => (by rw [hA] at t; cases t), fun t => (by rw [hI] at t; cases t)⟩
theorem snd_int (n : Int) : Snd G (.int n) := snd_mk rfl rfl rfl fun X W x c h => by
  simp only [chk] at h
  split at h
  · rename_i m e
    obtain ⟨k, p, rfl⟩ := vConst_e e
    have := of_decide_eq_true h
    subst this
    refine peI pe_int fun σ H Q q => ?_
    obtain ⟨ρ, O, ok, h⟩ := q
    exact postE.i (show postE X.K false O H Q (.int n) from h)
  · cases h
theorem snd_str (n : Str) : Snd G (.str n) := snd_mk rfl rfl rfl fun X W x c h => by
  simp only [chk] at h
  split at h
  · rename_i m e
    obtain ⟨k, p, rfl⟩ := vConst_e e
    have := of_decide_eq_true h
    subst this
    refine peI pe_str fun σ H Q q => ?_
    obtain ⟨ρ, O, ok, h⟩ := q
    exact postE.s (show postE X.K false O H Q (.str n) from h)
  · cases h
theorem snd_bl (n : Bool) : Snd G (.bl n) := snd_mk rfl rfl rfl fun X W x c h => by
  simp only [chk] at h
  split at h
  · rename_i m e
    obtain ⟨k, p, rfl⟩ := vConst_e e
    have := of_decide_eq_true h
    subst this
    refine peI pe_bl fun σ H Q q => ?_
    obtain ⟨ρ, O, ok, h⟩ := q
    exact postE.b (show postE X.K false O H Q (.bool n) from h)
  · cases h
theorem snd_non : Snd G .non := snd_mk rfl rfl rfl fun X W x c h => by
  simp only [chk] at h
  split at h
  · rename_i e
    obtain ⟨k, p, rfl⟩ := vConst_e e
    refine peI pe_non fun σ H Q q => ?_
    obtain ⟨ρ, O, ok, h⟩ := q
    exact postE.val (show postE X.K false O H Q .none from h) .non
  · cases h
theorem snd_emp : Snd G .emp := snd_mk rfl rfl rfl fun X W x c h => by
  obtain ⟨p, rfl⟩ := vEmp_e (by simpa only [chk] using h)
  refine peI pe_dnewK fun σ H Q q => ?_
  obtain ⟨ρ, O, ok, h⟩ := q
  intro p hp
  refine (show postE X.K false O H Q empD from h) _ _ (same_new hp) (.emp ?_) fun z => by cases z
  unfold hid
  rw [ok.live.free hp]
  simpa using upd_same
theorem snd_gl (i : Nat) (g : Str) : Snd G (.gl i g) := snd_mk rfl rfl rfl fun X W x c h => by
  simp only [chk] at h
  split at h
  · rename_i y e
    obtain ⟨p, rfl⟩ := vName_e e
    simp only [Bool.and_eq_true, decide_eq_true_eq] at h
    obtain ⟨eg, hg⟩ := h
    rw [← eg]
    clear eg g
    obtain ⟨g1, g2, g3⟩ := glb_of hg
    cases hG : G.gl[i]? with
    | none => exact ⟨fun pins s σ H Q I ⟨ρ, O, ok, d, e, h⟩ => by rw [hG] at e; cases e⟩
    | some pd =>
      by_cases hn : pd.1 = y
      · obtain ⟨n, d⟩ := pd
        cases hn
        obtain ⟨v, u, hm, r, dv⟩ := c.gl i _ d hG
        refine peI (pe_glob g1 hm r g2) fun σ H Q q => ?_
        obtain ⟨ρ, O, ok, d', e', h⟩ := q
        rw [hG] at e'
        cases e'
        exact postE.old (show postE X.K false O H Q d from h) (dv _)
      · exact ⟨fun pins s σ H Q I ⟨ρ, O, ok, d, e, h⟩ => by rw [hG] at e; cases e; exact absurd rfl hn⟩
  · cases h
theorem snd_bin {o : Operator} {a b : Ex} (iha : Snd G a) (ihb : Snd G b) : Snd G (.bin o a b) := snd_mk rfl rfl rfl fun X W x c h => by
  simp only [chk] at h
  split at h
  · rename_i y p z e
    obtain ⟨q, rfl⟩ := vBin_e e
    simp only [Bool.and_eq_true, decide_eq_true_eq] at h
    obtain ⟨⟨rfl, a1, a2⟩, b1, b2⟩ := h
    refine peI (pe_op (opBin o (frE G (.bin o a b))) (iha.pe a1 X W y c a2) (ihb.pe b1 X W z c b2)) fun σ H Q q => ?_
    obtain ⟨ρ, O, ok, h⟩ := q
    exact bin2 (fun _ _ _ _ h k => sBin_mono h k) ok h
  · cases h
theorem snd_neg {a : Ex} (iha : Snd G a) : Snd G (.neg a) := snd_mk rfl rfl rfl fun X W x c h => by
  simp only [chk] at h
  split at h
  · rename_i y e
    obtain ⟨q, rfl⟩ := vUn_e e
    simp only [Bool.and_eq_true] at h
    refine peI (pe_un un_neg (iha.pe h.1 X W y c h.2)) fun σ H Q q => ?_
    obtain ⟨ρ, O, ok, h⟩ := q
    refine ⟨ρ, O, ok, wE_mono h (fun d hd v H' s dv _ => ?_) fun _ z => z⟩
    unfold ofI at hd
    split at hd
    · cases dv
      exact ⟨_, rfl, postE.i (hd.mono s)⟩
    · exact hd.elim
  · cases h
theorem snd_cmp {o : CmpOp} {a b : Ex} (iha : Snd G a) (ihb : Snd G b) : Snd G (.cmp o a b) := by
  have key : ∀ (X : Cx) (W : WS) (x : Expr), Ctx G W X → chk (.cmp o a b) X.env.scope X.N x = true → PE X x (tE G W X.mg X.K (.cmp o a b)) ∧ PT X x (tT G W X.mg X.K (.cmp o a b)) ∧ ∀ o xs p, x ≠ .BoolOp o xs p := fun X W x c h => by
    simp only [chk] at h
    split at h
    · rename_i y p z e
      obtain ⟨q, rfl⟩ := vCmp1_e e
      simp only [Bool.and_eq_true, decide_eq_true_eq, Bool.not_eq_true'] at h
      obtain ⟨⟨⟨rfl, a1, a2⟩, b1, b2⟩, hm⟩ := h
      refine ⟨peI (pe_cmpR (opCmp c.un o false) (iha.pe a1 X W y c a2) (ihb.pe b1 X W z c b2) hm) fun σ H Q q => ?_, ptI (pt_cmpR (opCmp c.un o false) (iha.pe a1 X W y c a2) (ihb.pe b1 X W z c b2) hm) fun σ H Q q => ?_, fun _ _ _ z => by cases z⟩
      · obtain ⟨ρ, O, ok, h⟩ := q
        exact bin2 (fr := false) (fun _ _ _ _ h k => sCmp_mono h k) ok h
      · obtain ⟨ρ, O, ok, h⟩ := q
        exact bin2T (fun _ _ _ _ h k => sCmp_mono h k) ok h
    · cases h
  exact ⟨fun _ X W x c h => (key X W x c h).1, fun _ X W x c _ h => (key X W x c h).2.1, fun _ X W o' xs p c h => absurd rfl ((key X W _ c h).2.2 o' xs p), fun t => (by simp [isA] at t), fun t => (by simp [isI] at t)⟩
theorem snd_chn {o o' : CmpOp} {a b d : Ex} (iha : Snd G a) (ihb : Snd G b) (ihd : Snd G d) : Snd G (.chn o o' a b d) := by
  have key : ∀ (X : Cx) (W : WS) (x : Expr), Ctx G W X → chk (.chn o o' a b d) X.env.scope X.N x = true → PE X x (tE G W X.mg X.K (.chn o o' a b d)) ∧ PT X x (tT G W X.mg X.K (.chn o o' a b d)) ∧ ∀ o xs p, x ≠ .BoolOp o xs p := fun X W x c h => by
    simp only [chk] at h
    split at h
    · rename_i y p z p' w e
      obtain ⟨q, rfl⟩ := vCmp2_e e
      simp only [Bool.and_eq_true, decide_eq_true_eq, Bool.not_eq_true'] at h
      obtain ⟨⟨⟨⟨⟨rfl, rfl⟩, a1, a2⟩, b1, b2⟩, d1, d2⟩, hm⟩ := h
      have ha := iha.pe a1 X W y c a2
      have hb := ihb.pe b1 X W z c b2
      have hd := ihd.pe d1 X W w c d2
      have run : ∀ {σ H} {ρ : Ev} {O : Ow} {P : PyData → Prop} {Q : VK}, Ok X.K O ρ σ H → (∀ d v H', Same H H' → Dq X.K (hid O H') v d → P d → Q v H') →
          wE G a ρ (fun x => wE G b ρ (fun y => sCmp o x y fun z => ofB z fun k => if k = true then wE G d ρ (fun w => sCmp o' y w P) (excE X.mg H (W σ)) else P (.bool false)) (excE X.mg H (W σ))) (excE X.mg H (W σ)) →
          tChain (rD X.K false (sCmp o)) (rD X.K false (sCmp o')) (tE G W X.mg X.K a) (tE G W X.mg X.K b) (tE G W X.mg X.K d) σ H Q := fun {σ H ρ O P Q} ok fin h => by
        refine ⟨ρ, O, ok, wE_mono h (fun x hx v H1 s1 dv _ => ?_) fun _ z => z⟩
        refine ⟨ρ, O, ok.ext s1, wE_mono hx (fun y hy u H2 s2 du _ => ?_) fun _ z => z.mono s1⟩
        have s12 := s1.trans s2
        refine ⟨O, x, y, ok.live.ext s12, dv.mono (hid_same s2), du, sCmp_mono hy fun r hr w3 H3 s3 dw _ff => ?_⟩
        clear _ff
        unfold ofB at hr
        split at hr
        · rename_i k
          cases dw
          refine ⟨k, rfl, ?_⟩
          have s13 := s12.trans s3
          cases k with
          | true =>
            refine ⟨ρ, O, ok.ext s13, wE_mono hr (fun w hw t H4 s4 dt _ => ?_) fun _ z => z.mono s13⟩
            refine ⟨O, y, w, ok.live.ext (s13.trans s4), du.mono (hid_same (s3.trans s4)), dt, sCmp_mono hw fun r hr v5 H5 s5 d5 _ => fin r v5 H5 ((s13.trans s4).trans s5) d5 hr⟩
          | false => exact fin _ _ _ s13 (.bl _) hr
        · exact hr.elim
      refine ⟨peI (pe_chain (opCmp c.un o false) (opCmp c.un o' false) ha hb hd hm) fun σ H Q q => ?_, ptI (pt_chain (opCmp c.un o false) (opCmp c.un o' false) ha hb hd hm) fun σ H Q q => ?_, fun _ _ _ z => by cases z⟩
      · obtain ⟨ρ, O, ok, h⟩ := q
        exact run ok (fun d v H' s dv hp => (show postE X.K false O H Q d from hp) v H' s dv fun z => by cases z) h
      · obtain ⟨ρ, O, ok, h⟩ := q
        refine run (Q := fun z H3 => ∃ k, z = .bl k ∧ Q k H3) ok (fun d v H' s dv hp => ?_) h
        unfold postT ofB at hp
        split at hp
        · cases dv
          exact ⟨_, rfl, hp _ s⟩
        · exact hp.elim
    · cases h
  exact ⟨fun _ X W x c h => (key X W x c h).1, fun _ X W x c _ h => (key X W x c h).2.1, fun _ X W o' xs p c h => absurd rfl ((key X W _ c h).2.2 o' xs p), fun t => (by simp [isA] at t), fun t => (by simp [isI] at t)⟩
end
end Pu

set_option Elab.async false
set_option linter.all false
set_option maxRecDepth 100000
set_option maxHeartbeats 8000000
/-! Pu, part J: expressions, further. -/
namespace Pu
open PySem L2
section
variable {G : Gam}

/-! ### and, or, not -/
theorem tB_of {W : WS} {mg : Str → Option Value} {K : PySem.W.Frag} {e : Ex} {ρ : Ev} {O : Ow} {σ : St} {H : Hp} {P : Bool → Prop} {R : Bool → Hp → Prop} (ok : Ok K O ρ σ H)
    (h : wE G e ρ (fun x => ofB x P) (excE mg H (W σ))) (k : ∀ b H1, Same H H1 → P b → R b H1) : tT G W mg K e σ H R :=
  ⟨ρ, O, ok, wE_mono h (fun d hd => by
    unfold ofB at hd
    unfold postT ofB
    split at hd
    · exact fun H' s => k _ H' s hd
    · exact hd.elim) fun _ z => z⟩
theorem eB_of {W : WS} {mg : Str → Option Value} {K : PySem.W.Frag} {e : Ex} {ρ : Ev} {O : Ow} {σ : St} {H : Hp} {P : Bool → Prop} {R : V → Hp → Prop} (ok : Ok K O ρ σ H)
    (h : wE G e ρ (fun x => ofB x P) (excE mg H (W σ))) (k : ∀ b H1, Same H H1 → P b → R (.bl b) H1) : tE G W mg K e σ H R :=
  ⟨ρ, O, ok, wE_mono h (fun d hd v H' s dv _f => by
    clear _f
    unfold ofB at hd
    split at hd
    · cases dv
      exact k _ H' s hd
    · exact hd.elim) fun _ z => z⟩
theorem postT.mono {H H1 : Hp} {Q : Bool → Hp → Prop} {d : PyData} (s : Same H H1) (h : postT H Q d) : postT H1 Q d := by
  unfold postT at *
  exact ofB_mono h fun b q H' s' => q H' (s.trans s')

theorem snd_and1 {a : Ex} (iha : Snd G a) : Snd G (.and1 a) := by
  have pe : ∀ (X : Cx) (W : WS) (x : Expr), Ctx G W X → chk (.and1 a) X.env.scope X.N x = true → PE X x (tE G W X.mg X.K (.and1 a)) := fun X W x c h => by
    simp only [chk] at h
    split at h
    · rename_i y p e
      cases vBool_e e
      simp only [Bool.and_eq_true] at h
      refine peI (pe_one (iha.pe h.1.1 X W y c h.1.2)) fun σ H Q q => ?_
      obtain ⟨ρ, O, ok, h⟩ := q
      exact ⟨ρ, O, ok, wE_mono (show wE G a ρ (postE X.K false O H Q) (excE X.mg H (W σ)) from h) (fun d hd v H' s dv _ => hd v H' s dv fun z => by cases z) fun _ z => z⟩
    · cases h
  have pw : ∀ (X : Cx) (W : WS) (o : BoolOp) (xs : List Expr) (p : Pos), Ctx G W X → chk (.and1 a) X.env.scope X.N (.BoolOp o xs p) = true → PW X (.BoolOp o xs p) (tT G W X.mg X.K (.and1 a)) := fun X W o xs p c h => by
    simp only [chk] at h
    split at h
    · rename_i y p' e
      cases vBool_e e
      simp only [Bool.and_eq_true] at h
      exact pwI (pw_and1 (iha.pt h.1.1 X W y c h.2 h.1.2)) fun σ H Q q => q
    · cases h
  refine ⟨fun _ => pe, fun _ X W x c _ h => ?_, fun _ => pw, fun t => (by simp [isA] at t), fun t => (by simp [isI] at t)⟩
  have h' := h
  simp only [chk] at h
  split at h
  · rename_i y p e
    cases vBool_e e
    exact (pw X W _ _ _ c h').pt
  · cases h
theorem snd_or1 {a : Ex} (iha : Snd G a) : Snd G (.or1 a) := by
  have pe : ∀ (X : Cx) (W : WS) (x : Expr), Ctx G W X → chk (.or1 a) X.env.scope X.N x = true → PE X x (tE G W X.mg X.K (.or1 a)) := fun X W x c h => by
    simp only [chk] at h
    split at h
    · rename_i y p e
      cases vBool_e e
      simp only [Bool.and_eq_true] at h
      refine peI (pe_one (iha.pe h.1.1 X W y c h.1.2)) fun σ H Q q => ?_
      obtain ⟨ρ, O, ok, h⟩ := q
      exact ⟨ρ, O, ok, wE_mono (show wE G a ρ (postE X.K false O H Q) (excE X.mg H (W σ)) from h) (fun d hd v H' s dv _ => hd v H' s dv fun z => by cases z) fun _ z => z⟩
    · cases h
  have pw : ∀ (X : Cx) (W : WS) (o : BoolOp) (xs : List Expr) (p : Pos), Ctx G W X → chk (.or1 a) X.env.scope X.N (.BoolOp o xs p) = true → PW X (.BoolOp o xs p) (tT G W X.mg X.K (.or1 a)) := fun X W o xs p c h => by
    simp only [chk] at h
    split at h
    · rename_i y p' e
      cases vBool_e e
      simp only [Bool.and_eq_true] at h
      exact pwI (pw_or1 (iha.pt h.1.1 X W y c h.2 h.1.2)) fun σ H Q q => q
    · cases h
  refine ⟨fun _ => pe, fun _ X W x c _ h => ?_, fun _ => pw, fun t => (by simp [isA] at t), fun t => (by simp [isI] at t)⟩
  have h' := h
  simp only [chk] at h
  split at h
  · rename_i y p e
    cases vBool_e e
    exact (pw X W _ _ _ c h').pt
  · cases h
theorem tst_and {r : Ex} {sc : Scope} {N : List Str} {o : BoolOp} {xs : List Expr} {p : Pos} (he : isE r = true) (h : chk r sc N (.BoolOp o xs p) = true) : tst r = true := by
  cases r <;> first | rfl | (simp [isE, isA, isI] at he; done) | (simp [chk, chkV, vName, vConst, vEmp, vBin, vUn, vCmp1, vCmp2, vIf, vTup, vLst, vSub, vCall, vMet, vLc] at h; done)
theorem snd_and {a r : Ex} (iha : Snd G a) (ihr : Snd G r) : Snd G (.and a r) := by
  have pe : ∀ (X : Cx) (W : WS) (x : Expr), Ctx G W X → chk (.and a r) X.env.scope X.N x = true → PE X x (tE G W X.mg X.K (.and a r)) := fun X W x c h => by
    simp only [chk] at h
    split at h
    · rename_i y z xs p e
      cases vBool_e e
      simp only [Bool.and_eq_true] at h
      obtain ⟨⟨ho, a1, a2⟩, r1, r2⟩ := h
      refine peI (pe_and (iha.pe a1 X W y c a2) (ihr.pe r1 X W _ c r2)) fun σ H Q q => ?_
      obtain ⟨ρ, O, ok, h⟩ := q
      refine eB_of ok h fun b H1 s1 hb => ⟨b, rfl, ?_⟩
      cases b with
      | true => exact ⟨ρ, O, ok.ext s1, wE_mono (show wE G r ρ (postE X.K false O H Q) (excE X.mg H (W σ)) from hb) (fun d hd v H' s dv _ => (hd.mono s1) v H' s dv fun z => by cases z) fun _ z => z.mono s1⟩
      | false => exact postE.b (postE.mono s1 (show postE X.K false O H Q (.bool false) from hb))
    · cases h
  have pw : ∀ (X : Cx) (W : WS) (o : BoolOp) (xs : List Expr) (p : Pos), Ctx G W X → chk (.and a r) X.env.scope X.N (.BoolOp o xs p) = true → PW X (.BoolOp o xs p) (tT G W X.mg X.K (.and a r)) := fun X W o xs p c h => by
    simp only [chk] at h
    split at h
    · rename_i y z ys p' e
      cases vBool_e e
      simp only [Bool.and_eq_true] at h
      obtain ⟨⟨ho, a1, a2⟩, r1, r2⟩ := h
      refine pwI (pw_and (iha.pt a1 X W y c ho a2) (ihr.pw (tst_and r1 r2) X W _ _ _ c r2)) fun σ H Q q => ?_
      obtain ⟨ρ, O, ok, h⟩ := q
      refine tB_of ok h fun b H1 s1 hb => ?_
      cases b with
      | true => exact ⟨ρ, O, ok.ext s1, wE_mono (show wE G r ρ (postT H Q) (excE X.mg H (W σ)) from hb) (fun d hd => hd.mono s1) fun _ z => z.mono s1⟩
      | false => exact (show ∀ H', Same H H' → Q false H' from hb) _ s1
    · cases h
  refine ⟨fun _ => pe, fun _ X W x c _ h => ?_, fun _ => pw, fun t => (by simp [isA] at t), fun t => (by simp [isI] at t)⟩
  have h' := h
  simp only [chk] at h
  split at h
  · rename_i e
    cases vBool_e e
    exact (pw X W _ _ _ c h').pt
  · cases h
theorem snd_or {a r : Ex} (iha : Snd G a) (ihr : Snd G r) : Snd G (.or a r) := by
  have pe : ∀ (X : Cx) (W : WS) (x : Expr), Ctx G W X → chk (.or a r) X.env.scope X.N x = true → PE X x (tE G W X.mg X.K (.or a r)) := fun X W x c h => by
    simp only [chk] at h
    split at h
    · rename_i y z xs p e
      cases vBool_e e
      simp only [Bool.and_eq_true] at h
      obtain ⟨⟨ho, a1, a2⟩, r1, r2⟩ := h
      refine peI (pe_or (iha.pe a1 X W y c a2) (ihr.pe r1 X W _ c r2)) fun σ H Q q => ?_
      obtain ⟨ρ, O, ok, h⟩ := q
      refine eB_of ok h fun b H1 s1 hb => ⟨b, rfl, ?_⟩
      cases b with
      | false => exact ⟨ρ, O, ok.ext s1, wE_mono (show wE G r ρ (postE X.K false O H Q) (excE X.mg H (W σ)) from hb) (fun d hd v H' s dv _ => (hd.mono s1) v H' s dv fun z => by cases z) fun _ z => z.mono s1⟩
      | true => exact postE.b (postE.mono s1 (show postE X.K false O H Q (.bool true) from hb))
    · cases h
  have pw : ∀ (X : Cx) (W : WS) (o : BoolOp) (xs : List Expr) (p : Pos), Ctx G W X → chk (.or a r) X.env.scope X.N (.BoolOp o xs p) = true → PW X (.BoolOp o xs p) (tT G W X.mg X.K (.or a r)) := fun X W o xs p c h => by
    simp only [chk] at h
    split at h
    · rename_i y z ys p' e
      cases vBool_e e
      simp only [Bool.and_eq_true] at h
      obtain ⟨⟨ho, a1, a2⟩, r1, r2⟩ := h
      refine pwI (pw_or (iha.pt a1 X W y c ho a2) (ihr.pw (tst_and r1 r2) X W _ _ _ c r2)) fun σ H Q q => ?_
      obtain ⟨ρ, O, ok, h⟩ := q
      refine tB_of ok h fun b H1 s1 hb => ?_
      cases b with
      | false => exact ⟨ρ, O, ok.ext s1, wE_mono (show wE G r ρ (postT H Q) (excE X.mg H (W σ)) from hb) (fun d hd => hd.mono s1) fun _ z => z.mono s1⟩
      | true => exact (show ∀ H', Same H H' → Q true H' from hb) _ s1
    · cases h
  refine ⟨fun _ => pe, fun _ X W x c _ h => ?_, fun _ => pw, fun t => (by simp [isA] at t), fun t => (by simp [isI] at t)⟩
  have h' := h
  simp only [chk] at h
  split at h
  · rename_i e
    cases vBool_e e
    exact (pw X W _ _ _ c h').pt
  · cases h
theorem snd_not {a : Ex} (iha : Snd G a) : Snd G (.not a) := by
  have key : ∀ (X : Cx) (W : WS) (x : Expr), Ctx G W X → chk (.not a) X.env.scope X.N x = true → PE X x (tE G W X.mg X.K (.not a)) ∧ PT X x (tT G W X.mg X.K (.not a)) ∧ ∀ o xs p, x ≠ .BoolOp o xs p := fun X W x c h => by
    simp only [chk] at h
    split at h
    · rename_i y e
      obtain ⟨p, rfl⟩ := vUn_e e
      simp only [Bool.and_eq_true] at h
      obtain ⟨⟨a1, a2⟩, ho⟩ := h
      refine ⟨peI (pe_not (iha.pe a1 X W y c a2)) fun σ H Q q => ?_, ptI (pt_not (iha.pt a1 X W y c ho a2)) fun σ H Q q => ?_, fun _ _ _ z => by cases z⟩
      · obtain ⟨ρ, O, ok, h⟩ := q
        exact eB_of ok h fun b H1 s1 hb => ⟨b, rfl, postE.b (postE.mono s1 (show postE X.K false O H Q (.bool (!b)) from hb))⟩
      · obtain ⟨ρ, O, ok, h⟩ := q
        exact tB_of ok h fun b H1 s1 hb => (show ∀ H', Same H H' → Q (!b) H' from hb) _ s1
    · cases h
  exact ⟨fun _ X W x c h => (key X W x c h).1, fun _ X W x c _ h => (key X W x c h).2.1, fun _ X W o' xs p c h => absurd rfl ((key X W _ c h).2.2 o' xs p), fun t => (by simp [isA] at t), fun t => (by simp [isI] at t)⟩
theorem snd_ite {d a b : Ex} (ihd : Snd G d) (iha : Snd G a) (ihb : Snd G b) : Snd G (.ite d a b) := snd_mk rfl rfl rfl fun X W x c h => by
  simp only [chk] at h
  split at h
  · rename_i y z w e
    obtain ⟨p, rfl⟩ := vIf_e e
    simp only [Bool.and_eq_true] at h
    obtain ⟨⟨⟨ho, d1, d2⟩, a1, a2⟩, b1, b2⟩ := h
    refine peI (pe_ifExp (ihd.pt d1 X W y c ho d2) (iha.pe a1 X W z c a2) (ihb.pe b1 X W w c b2)) fun σ H Q q => ?_
    obtain ⟨ρ, O, ok, h⟩ := q
    refine tB_of ok h fun t H1 s1 hb => ?_
    cases t with
    | true => exact ⟨ρ, O, ok.ext s1, wE_mono (show wE G a ρ (postE X.K false O H Q) (excE X.mg H (W σ)) from hb) (fun d hd v H' s dv _ => (hd.mono s1) v H' s dv fun z => by cases z) fun _ z => z.mono s1⟩
    | false => exact ⟨ρ, O, ok.ext s1, wE_mono (show wE G b ρ (postE X.K false O H Q) (excE X.mg H (W σ)) from hb) (fun d hd v H' s dv _ => (hd.mono s1) v H' s dv fun z => by cases z) fun _ z => z.mono s1⟩
  · cases h

/-! ### arguments, displays -/
theorem snd_nil : Snd G .nil := by
  refine ⟨fun t => (by simp [isE, isA] at t), fun t => (by simp [isE, isA] at t), fun t => (by simp [tst] at t), fun _ X W xs p c h => ?_, fun t => (by simp [isI] at t)⟩
  simp only [chk] at h
  split at h
  · rename_i e
    obtain ⟨p', e'⟩ := vLst_e e
    cases e'
    refine ⟨paI pa_nil fun σ H Q q => ?_, rfl⟩
    obtain ⟨ρ, O, ok, h⟩ := q
    exact (show postA X.K O H Q (.tuple []) from h) [] H (Same.refl _) .nil
  · cases h
theorem snd_cons {a r : Ex} (iha : Snd G a) (ihr : Snd G r) : Snd G (.cons a r) := by
  refine ⟨fun t => (by simp [isE, isA] at t), fun t => (by simp [isE, isA] at t), fun t => (by simp [tst] at t), fun _ X W xs p c h => ?_, fun t => (by simp [isI] at t)⟩
  simp only [chk] at h
  split at h
  · rename_i y ys e
    obtain ⟨p', e'⟩ := vLst_e e
    cases e'
    simp only [Bool.and_eq_true] at h
    obtain ⟨⟨hs, a1, a2⟩, r1, r2⟩ := h
    have hr := ihr.pa r1 X W ys p0 c r2
    refine ⟨paI (pa_cons (iha.pe a1 X W y c a2) hr.1 (star_cons hs)) fun σ H Q q => ?_, by simp [hs, hr.2]⟩
    obtain ⟨ρ, O, ok, h⟩ := q
    refine ⟨ρ, O, ok, wE_mono h (fun x hx v H1 s1 dv _ => ?_) fun _ z => z⟩
    refine ⟨ρ, O, ok.ext s1, wE_mono hx (fun t ht => ?_) fun _ z => z.mono s1⟩
    unfold postA
    refine ofT_mono ht fun ds hd vs H2 s2 dv2 => ?_
    exact (show ∀ vs H', Same H H' → DqA X.K (hid O H') vs (x :: ds) → Q vs H' from hd) _ _ (s1.trans s2) (.cons (dv.mono (hid_same s2)) dv2)
  · cases h
theorem snd_tup {r : Ex} (ihr : Snd G r) : Snd G (.tup r) := snd_mk rfl rfl rfl fun X W x c h => by
  simp only [chk] at h
  split at h
  · rename_i xs e
    obtain ⟨k, p, rfl⟩ := vTup_e e
    simp only [Bool.and_eq_true] at h
    refine peI (pe_tup (ihr.pa h.1 X W xs p0 c h.2).1) fun σ H Q q => ?_
    obtain ⟨ρ, O, ok, h⟩ := q
    refine ⟨ρ, O, ok, wE_mono h (fun t ht => ?_) fun _ z => z⟩
    refine ofT_mono ht fun ds hd vs H2 s2 dv2 => ?_
    exact ⟨by rw [dv2.len]; exact hd.1, fun p hp => postE.tup (ok.live.ext s2) (hd.2.mono s2) hp dv2⟩
  · cases h
theorem snd_lst {r : Ex} (ihr : Snd G r) : Snd G (.lst r) := snd_mk rfl rfl rfl fun X W x c h => by
  simp only [chk] at h
  split at h
  · rename_i xs e
    obtain ⟨p, rfl⟩ := vLst_e e
    simp only [Bool.and_eq_true] at h
    refine peI (pe_lst (ihr.pa h.1 X W xs p0 c h.2).1) fun σ H Q q => ?_
    obtain ⟨ρ, O, ok, h⟩ := q
    refine ⟨ρ, O, ok, wE_mono h (fun t ht => ?_) fun _ z => z⟩
    refine ofT_mono ht fun ds hd vs H2 s2 dv2 => ?_
    exact ⟨by rw [dv2.len]; exact hd.1, fun p hp => postE.new (ok.live.ext s2) (hd.2.mono s2) hp dv2⟩
  · cases h

/-! ### items, slices -/
theorem snd_ix {a i : Ex} (iha : Snd G a) (ihi : Snd G i) : Snd G (.ix a i) := snd_mk rfl rfl rfl fun X W x c h => by
  simp only [chk] at h
  split at h
  · rename_i y z e
    obtain ⟨p, rfl⟩ := vSub_e e
    simp only [Bool.and_eq_true] at h
    obtain ⟨⟨⟨a1, a2⟩, b1, b2⟩, hn⟩ := h
    refine peI (pe_ix (ixD false rfl) (iha.pe a1 X W y c a2) (ihi.pe b1 X W z c b2) (plainIx hn)) fun σ H Q q => ?_
    obtain ⟨ρ, O, ok, h⟩ := q
    exact bin2 (fr := false) (fun _ _ _ _ h k => sIx_mono h k) ok h
  · cases h
theorem ixOr {X : Cx} : IxR X (fun v u H Q => rD X.K false sIx v u H Q ∨ rIx X.K v u H Q) := IxR.or (ixD false rfl) ix_seq
theorem snd_pix {v : Nat} {i : Ex} (ihi : Snd G i) : Snd G (.pix v i) := snd_mk rfl rfl rfl fun X W x c h => by
  simp only [chk] at h
  split at h
  · rename_i y z e
    obtain ⟨p, rfl⟩ := vSub_e e
    simp only [Bool.and_eq_true] at h
    obtain ⟨⟨a1, b1, b2⟩, hn⟩ := h
    refine peI (pe_ix ixOr (pe_slot a1).1 (ihi.pe b1 X W z c b2) (plainIx hn)) fun σ H Q q => ?_
    obtain ⟨ρ, O, ok, h⟩ := q
    obtain ⟨x, u, e1, h, hx⟩ := rdP_run ok h
    refine ⟨u, e1, ρ, O, ok, wE_mono h (fun y hy w H1 s1 dw _ => ?_) fun _ z => z⟩
    refine ixRun (fr := false) rfl ?_ dw (ok.live.ext s1) (sIx_mono hy fun _ q => q.mono s1)
    rcases hx with hx | ⟨a, xs, ds, h1, h2, h3, h4⟩
    · exact .inl (hx.mono (hid_same s1))
    · exact .inr ⟨a, xs, ds, h1, h2, s1 _ _ h3, h4.mono (hid_same s1)⟩
  · cases h
theorem po_of {W : WS} {X : Cx} {e : Ex} {x : Expr} (h : PE X x (tE G W X.mg X.K e)) : PO X (some x) (tPart (tE G W X.mg X.K e)) := po_some h
theorem slRun {K : PySem.W.Frag} {fr : Bool} {O : Ow} {H H1 : Hp} {v : V} {x : PyData} {lo hi : Option Int} {Q : VK} (s : Same H H1) (l : Live O H1) (dv : Dq K (hid O H1) v x) (h : sSl x lo hi (postE K fr O H Q)) : rSlD K fr v lo hi H1 Q :=
  ⟨O, x, l, dv, sSl_mono h fun _ q => q.mono s⟩
theorem ofI_run {K : PySem.W.Frag} {H : Hp} {v : V} {x : PyData} {P : Int → Prop} (dv : Dq K H v x) (h : ofI x P) : ∃ i, v = .int i ∧ P i := by
  unfold ofI at h
  split at h
  · cases dv; exact ⟨_, rfl, h⟩
  · exact h.elim
theorem snd_sl0 {a : Ex} (iha : Snd G a) : Snd G (.sl0 a) := snd_mk rfl rfl rfl fun X W x c h => by
  simp only [chk] at h
  split at h
  · rename_i y z e
    obtain ⟨p, rfl⟩ := vSub_e e
    split at h
    · rename_i e2
      obtain ⟨p2, rfl⟩ := vSli_e e2
      simp only [Bool.and_eq_true] at h
      refine peI (pe_slice (slD true) (iha.pe h.1 X W y c h.2) po_none po_none) fun σ H Q q => ?_
      obtain ⟨ρ, O, ok, h⟩ := q
      refine ⟨ρ, O, ok, wE_mono h (fun x hx v H1 s1 dv _ => ?_) fun _ z => z⟩
      exact slRun s1 (ok.live.ext s1) dv hx
    · cases h
  · cases h
theorem snd_slL {a lo : Ex} (iha : Snd G a) (ihl : Snd G lo) : Snd G (.slL a lo) := snd_mk rfl rfl rfl fun X W x c h => by
  simp only [chk] at h
  split at h
  · rename_i y z e
    obtain ⟨p, rfl⟩ := vSub_e e
    split at h
    · rename_i l e2
      obtain ⟨p2, rfl⟩ := vSli_e e2
      simp only [Bool.and_eq_true] at h
      refine peI (pe_slice (slD true) (iha.pe h.1.1 X W y c h.1.2) (po_of (ihl.pe h.2.1 X W l c h.2.2)) po_none) fun σ H Q q => ?_
      obtain ⟨ρ, O, ok, h⟩ := q
      refine ⟨ρ, O, ok, wE_mono h (fun x hx v H1 s1 dv _ => ?_) fun _ z => z⟩
      refine ⟨ρ, O, ok.ext s1, wE_mono hx (fun y hy u H2 s2 du _ => ?_) fun _ z => z.mono s1⟩
      obtain ⟨i, rfl, hi⟩ := ofI_run du hy
      exact ⟨i, rfl, slRun (s1.trans s2) (ok.live.ext (s1.trans s2)) (dv.mono (hid_same s2)) hi⟩
    · cases h
  · cases h
theorem snd_slH {a lo : Ex} (iha : Snd G a) (ihl : Snd G lo) : Snd G (.slH a lo) := snd_mk rfl rfl rfl fun X W x c h => by
  simp only [chk] at h
  split at h
  · rename_i y z e
    obtain ⟨p, rfl⟩ := vSub_e e
    split at h
    · rename_i l e2
      obtain ⟨p2, rfl⟩ := vSli_e e2
      simp only [Bool.and_eq_true] at h
      refine peI (pe_slice (slD true) (iha.pe h.1.1 X W y c h.1.2) po_none (po_of (ihl.pe h.2.1 X W l c h.2.2))) fun σ H Q q => ?_
      obtain ⟨ρ, O, ok, h⟩ := q
      refine ⟨ρ, O, ok, wE_mono h (fun x hx v H1 s1 dv _ => ?_) fun _ z => z⟩
      refine ⟨ρ, O, ok.ext s1, wE_mono hx (fun y hy u H2 s2 du _ => ?_) fun _ z => z.mono s1⟩
      obtain ⟨i, rfl, hi⟩ := ofI_run du hy
      exact ⟨i, rfl, slRun (s1.trans s2) (ok.live.ext (s1.trans s2)) (dv.mono (hid_same s2)) hi⟩
    · cases h
  · cases h
theorem snd_slB {a lo hi : Ex} (iha : Snd G a) (ihl : Snd G lo) (ihh : Snd G hi) : Snd G (.slB a lo hi) := snd_mk rfl rfl rfl fun X W x c h => by
  simp only [chk] at h
  split at h
  · rename_i y z e
    obtain ⟨p, rfl⟩ := vSub_e e
    split at h
    · rename_i l u e2
      obtain ⟨p2, rfl⟩ := vSli_e e2
      simp only [Bool.and_eq_true] at h
      obtain ⟨⟨⟨a1, a2⟩, b1, b2⟩, c1, c2⟩ := h
      refine peI (pe_slice (slD true) (iha.pe a1 X W y c a2) (po_of (ihl.pe b1 X W l c b2)) (po_of (ihh.pe c1 X W u c c2))) fun σ H Q q => ?_
      obtain ⟨ρ, O, ok, h⟩ := q
      refine ⟨ρ, O, ok, wE_mono h (fun x hx v H1 s1 dv _ => ?_) fun _ z => z⟩
      refine ⟨ρ, O, ok.ext s1, wE_mono hx (fun y hy u H2 s2 du _ => ?_) fun _ z => z.mono s1⟩
      obtain ⟨i, rfl, hi⟩ := ofI_run du hy
      have s12 := s1.trans s2
      refine ⟨i, rfl, ρ, O, ok.ext s12, wE_mono hi (fun y hy u H3 s3 du3 _ => ?_) fun _ z => z.mono s12⟩
      obtain ⟨j, rfl, hj⟩ := ofI_run du3 hy
      exact ⟨j, rfl, slRun (s12.trans s3) (ok.live.ext (s12.trans s3)) (dv.mono (hid_same (s2.trans s3))) hj⟩
    · cases h
  · cases h
theorem snd_rv {a : Ex} (iha : Snd G a) : Snd G (.rv a) := snd_mk rfl rfl rfl fun X W x c h => by
  simp only [chk] at h
  split at h
  · rename_i y z e
    obtain ⟨p, rfl⟩ := vSub_e e
    split at h
    · rename_i w e2
      obtain ⟨p2, rfl⟩ := vSli_e e2
      split at h
      · rename_i u e3
        obtain ⟨p3, rfl⟩ := vUn_e e3
        split at h
        · rename_i e4
          obtain ⟨k4, p4, rfl⟩ := vConst_e e4
          simp only [Bool.and_eq_true] at h
          refine peI (pe_revL (iha.pe h.1 X W y c h.2)) fun σ H Q q => ?_
          obtain ⟨ρ, O, ok, h⟩ := q
          refine ⟨ρ, O, ok, wE_mono h (fun x hx v H1 s1 dv _f => ?_) fun _ z => z⟩
          clear _f
          unfold ofL at hx
          split at hx
          · obtain ⟨b, xs, rfl, hb, db, _⟩ := dq_list dv
            exact ⟨b, xs, rfl, .inl (.inl hb), fun p hp => postE.new (ok.live.ext s1) (hx.mono s1) hp db.rev⟩
          · exact hx.elim
        · cases h
      · cases h
    · cases h
  · cases h
end
end Pu

set_option Elab.async false
set_option linter.all false
set_option maxRecDepth 100000
set_option maxHeartbeats 8000000
/-! Pu, part K: calls, comprehensions, walks; all expressions. -/
namespace Pu
open PySem L2
/-- another's cells, all foreign -/
def frn (O : Ow) : Ow := fun c => match O c with
  | none => none
  | some _ => some none
theorem frn_hid {O : Ow} {H : Hp} : hid (frn O) H = hid O H := by
  funext c; unfold hid frn; cases O c <;> rfl
theorem frn_live {O : Ow} {H : Hp} (l : Live O H) : Live (frn O) H := fun c w e => by
  unfold frn at e
  cases z : O c with
  | none => rw [z] at e; cases e
  | some u => exact l c u z
theorem frn_no {O : Ow} {c : Addr} {i : Nat} : frn O c ≠ some (some i) := by
  unfold frn; cases O c <;> simp
section
variable {G : Gam}
/-- a call of a def, its arguments given -/
theorem callRun {W : XK} {mg : Str → Option Value} {K : PySem.W.Frag} {s : Fs} {fr : Bool} (hf : fr = true → s.fr = true) {O : Ow} {H H1 : Hp} {vs : List V} {ds : List PyData} {Q : VK} (s1 : Same H H1) (l : Live O H1) (dv : DqA K (hid O H1) vs ds)
    (h : up s ds (postE K fr O H Q) (excE mg H W)) : liftS K mg s vs H1 Q W := by
  refine ⟨by rw [dv.len]; exact h.1, frn O, ds, frn_live l, fun c i => frn_no, by rw [frn_hid]; exact dv, up_mono h (fun d hd v H2 s2 d2 f2 => ?_) fun c hc => hc.mono s1⟩
  rw [frn_hid] at d2
  refine hd v H2 (s1.trans s2) d2 fun z ds' e => ?_
  obtain ⟨a, xs, e1, e2, e3, e4⟩ := f2 (hf z) ds' e
  rw [frn_hid] at e4
  exact ⟨a, xs, e1, s1.free e2, e3, e4⟩
theorem pe_false {X : Cx} {x : Expr} {t : TE} (h : ∀ σ H Q, ¬ t σ H Q) : PE X x t := ⟨fun pins s σ H Q I q => (h σ H Q q).elim⟩
theorem snd_call {i : Nat} {f : Str} {r : Ex} (ihr : Snd G r) : Snd G (.call i f r) := snd_mk rfl rfl rfl fun X W x c h => by
  simp only [chk] at h
  split at h
  · rename_i g y ys e
    obtain ⟨p, q, rfl⟩ := vCall_e e
    simp only [Bool.and_eq_true, decide_eq_true_eq] at h
    obtain ⟨⟨rfl, hg⟩, r1, r2⟩ := h
    obtain ⟨g1, g2, g3⟩ := glb_of hg
    by_cases hG : ∃ s, G.fs[i]? = some (f, s)
    · obtain ⟨s, hG⟩ := hG
      obtain ⟨a, fd, ps, k, m1, m2, m3, m4, m5⟩ := c.fn i f s hG
      have pa := ihr.pa r1 X W (y :: ys) p0 c r2
      have st : noStar y = true ∧ ys.all noStar = true := by simpa using pa.2
      refine peI (pe_callS m4 m5 g1 m1 m2 m3 c.pas pa.1 g2 (star_cons st.1) (star_any st.2)) fun σ H Q q => ?_
      obtain ⟨ρ, O, ok, s', hs, h⟩ := q
      rw [hG] at hs
      cases hs
      refine ⟨ρ, O, ok, wE_mono h (fun d hd => ?_) fun _ z => z⟩
      unfold postA
      refine ofT_mono hd fun ds hd vs H1 s1 dv => ?_
      show liftS X.K X.mg s vs H1 _ (W σ)
      exact callRun (fun z => by simpa [frE, hG] using z) s1 (ok.live.ext s1) dv hd
    · exact pe_false fun σ H Q ⟨ρ, O, ok, s, hs, h⟩ => hG ⟨s, hs⟩
  · cases h
theorem lf_back {K : PySem.W.Frag} {O : Ow} {H : Hp} {v : V} {d : PyData} (l : Live O H) (h : lf d = true) (dv : Dq K (hid (frO O) H) v d) : Dq K (hid O H) v d := by
  refine dv.lf_of (fun a xs e => ?_) h
  have e' := hid_le _ _ e
  unfold hid
  cases z : O a with
  | none => simpa using e'
  | some w =>
    obtain ⟨ys, q⟩ := l a w z
    rw [e'] at q
    cases q
theorem snd_callT {i : Nat} {f : Str} {r : Ex} (ihr : Snd G r) : Snd G (.callT i f r) := snd_mk rfl rfl rfl fun X W x c h => by
  simp only [chk] at h
  split at h
  · rename_i g y ys e
    obtain ⟨p, q, rfl⟩ := vCall_e e
    simp only [Bool.and_eq_true, decide_eq_true_eq] at h
    obtain ⟨⟨rfl, hg⟩, r1, r2⟩ := h
    obtain ⟨g1, g2, g3⟩ := glb_of hg
    by_cases hG : ∃ s, G.fs[i]? = some (f, s)
    · obtain ⟨s, hG⟩ := hG
      obtain ⟨a, fd, ps, k, m1, m2, m3, m4, m5⟩ := c.fn i f s hG
      have pa := ihr.pa r1 X W (y :: ys) p0 c r2
      have st : noStar y = true ∧ ys.all noStar = true := by simpa using pa.2
      refine peI (pe_callS m4 m5 g1 m1 m2 m3 c.pas pa.1 g2 (star_cons st.1) (star_any st.2)) fun σ H Q q => ?_
      obtain ⟨ρ, O, ok, s', hs, h⟩ := q
      rw [hG] at hs
      cases hs
      refine ⟨frz ρ, frO O, ok.fr, wE_mono h (fun d hd => ?_) fun _ z => z⟩
      unfold postA
      refine ofT_mono hd fun ds hd vs H1 s1 dv => ?_
      show liftS X.K X.mg s vs H1 _ (W σ)
      refine callRun (fr := false) (fun z => by cases z) s1 (ok.live.fr.ext s1) dv (up_mono hd (fun d hd v H2 s2 dv2 _ => ?_) fun _ z => z)
      exact (show postE X.K false O H Q d from hd.2) v H2 s2 (lf_back (ok.live.ext s2) hd.1 dv2) fun z => by cases z
    · exact pe_false fun σ H Q ⟨ρ, O, ok, s, hs, h⟩ => hG ⟨s, hs⟩
  · cases h
theorem snd_blt {f : Bf} {r : Ex} (ihr : Snd G r) : Snd G (.blt f r) := snd_mk rfl rfl rfl fun X W x c h => by
  simp only [chk] at h
  split at h
  · rename_i g y ys e
    obtain ⟨p, q, rfl⟩ := vCall_e e
    simp only [Bool.and_eq_true, decide_eq_true_eq] at h
    obtain ⟨⟨rfl, hg⟩, r1, r2⟩ := h
    obtain ⟨g1, g2, g3⟩ := glb_of hg
    have pa := ihr.pa r1 X W (y :: ys) p0 c r2
    have st : noStar y = true ∧ ys.all noStar = true := by simpa using pa.2
    refine peI (pe_blt (f := f) (fr := frE G (.blt f r)) c.calm g1 (c.bt _ (by cases f <;> decide +kernel)) pa.1 g3 g2 (star_cons st.1) (star_any st.2)) fun σ H Q q => ?_
    obtain ⟨ρ, O, ok, h⟩ := q
    refine ⟨ρ, O, ok, wE_mono h (fun d hd => ?_) fun _ z => z⟩
    unfold postA
    refine ofT_mono hd fun ds hd vs H1 s1 dv => ?_
    exact ⟨O, ds, ok.live.ext s1, dv, sB_mono hd fun _ q => q.mono s1⟩
  · cases h
theorem snd_pl (v : Nat) : Snd G (.pl v) := snd_mk rfl rfl rfl fun X W x c h => by
  simp only [chk] at h
  split at h
  · rename_i g y e
    obtain ⟨p, q, rfl⟩ := vCall_e e
    simp only [Bool.and_eq_true, decide_eq_true_eq] at h
    obtain ⟨⟨⟨rfl, hg⟩, hv⟩, hs⟩ := h
    obtain ⟨g1, g2, g3⟩ := glb_of hg
    refine peI (pe_callB call_len g1 (c.bt _ (by decide +kernel)) (Bf.boot .len) (pa_cons (pe_slot hv).1 pa_nil (star_cons hs)) g3 g2 (star_cons hs) rfl) fun σ H Q q => ?_
    obtain ⟨ρ, O, ok, h⟩ := q
    obtain ⟨x, u, e1, h, hx⟩ := rdP_run ok h
    refine ⟨u, e1, ?_⟩
    rcases hx with hx | ⟨a, xs, ds, rfl, rfl, h3, h4⟩
    · obtain ⟨n, h1, h2⟩ := lenD hx h
      exact ⟨_, _, rfl, h1, postE.i (show postE X.K false O H Q (.int n) from h2)⟩
    · refine ⟨_, _, rfl, .inl ⟨_, .inl (.inl h3), rfl⟩, ?_⟩
      rw [h4.len]
      exact postE.i (show postE X.K false O H Q (.int ds.length) from h)
  · cases h
theorem snd_met {m : Mf} {a r : Ex} (iha : Snd G a) (ihr : Snd G r) : Snd G (.met m a r) := snd_mk rfl rfl rfl fun X W x c h => by
  simp only [chk] at h
  split at h
  · rename_i y n z zs e
    obtain ⟨p, q, rfl, hl⟩ := vMet_e e
    simp only [Bool.and_eq_true, decide_eq_true_eq] at h
    obtain ⟨⟨⟨⟨h0, rfl⟩, a1, a2⟩, r1, r2⟩, h20⟩ := h
    have pe := iha.pe a1 X W y c a2
    have pa := ihr.pa r1 X W (z :: zs) p0 c r2
    have st : noStar z = true ∧ zs.all noStar = true := by simpa using pa.2
    have hb : attributeBase y m.nm X.env (eval y X.env) = eval y X.env := notC0_ab h0
    have few := few_of (env := X.env) (cpos := q) pa.2 h20
    have run : ∀ {σ H} {Q : VK} {ρ : Ev} {O : Ow}, Ok X.K O ρ σ H → wE G (.met m a r) ρ (postE X.K (frE G (.met m a r)) O H Q) (excE X.mg H (W σ)) →
        tBM X.K m.T (rM X.K (frE G (.met m a r)) m) (tE G W X.mg X.K a) (tA G W X.mg X.K r) σ H Q := fun {σ H Q ρ O} ok h => by
      refine ⟨ρ, O, ok, wE_mono h (fun x hx v H1 s1 dv _ => ⟨?_, ?_⟩) fun _ z => z⟩
      · have ty := hx.1
        cases m <;> cases x <;> simp only [tyM] at ty <;> first | (cases ty; done) | skip
        · exact tyL dv
        all_goals (cases dv; rfl)
      · refine ⟨ρ, O, ok.ext s1, wE_mono hx.2 (fun d hd => ?_) fun _ z => z.mono s1⟩
        unfold postA
        refine ofT_mono hd fun ds hd vs H2 s2 dv2 => ?_
        exact ⟨O, x, ds, ok.live.ext (s1.trans s2), dv.mono (hid_same s2), dv2, sM_mono hd fun _ q => q.mono (s1.trans s2)⟩
    cases m with
    | index => exact peI (pe_bm PySem.F.plainAttrs_list PySem.F.slot_list_index PySem.F.type_list_index (mtIndex c.un _) pe pa.1 hb few hl (star_cons st.1) (star_any st.2)) fun σ H Q ⟨ρ, O, ok, h⟩ => run ok h
    | find => exact peI (pe_bm PySem.F.plainAttrs_str PySem.F.slot_str_find PySem.F.type_str_find (mtFind _) pe pa.1 hb few hl (star_cons st.1) (star_any st.2)) fun σ H Q ⟨ρ, O, ok, h⟩ => run ok h
    | count => exact peI (pe_bm PySem.F.plainAttrs_str PySem.F.slot_str_count PySem.F.type_str_count (mtCount _) pe pa.1 hb few hl (star_cons st.1) (star_any st.2)) fun σ H Q ⟨ρ, O, ok, h⟩ => run ok h
    | split => exact peI (pe_bm PySem.F.plainAttrs_str PySem.F.slot_str_split PySem.F.type_str_split (mtSplit _) pe pa.1 hb few hl (star_cons st.1) (star_any st.2)) fun σ H Q ⟨ρ, O, ok, h⟩ => run ok h
    | join => exact peI (pe_bm PySem.F.plainAttrs_str PySem.F.slot_str_join PySem.F.type_str_join (mtJoin _) pe pa.1 hb few hl (star_cons st.1) (star_any st.2)) fun σ H Q ⟨ρ, O, ok, h⟩ => run ok h
    | partition => exact peI (pe_bm PySem.F.plainAttrs_str PySem.F.slot_str_partition PySem.F.type_str_partition (mtPart _) pe pa.1 hb few hl (star_cons st.1) (star_any st.2)) fun σ H Q ⟨ρ, O, ok, h⟩ => run ok h
  · cases h
end
end Pu

set_option Elab.async false
set_option linter.all false
set_option maxRecDepth 100000
set_option maxHeartbeats 8000000
/-! Pu, part L: the rest of the expressions. -/
namespace Pu
open PySem L2
section
variable {G : Gam}
theorem inRun {X : Cx} (hu : X.A.units + 65 < cLine) (ng : Bool) : OpR X (compareOp (if ng = true then CmpOp.NotIn else CmpOp.In)) (fun v u H Q => ∃ O x y, Dq X.K (hid O H) v x ∧ (Dq X.K H u y) ∧ sIn x y fun b => Q (.bl (if ng = true then !b else b)) H) := by
  intro pins s σ H v u v' u' Q I rv ru h
  obtain ⟨O, x, y, hv, hw, h⟩ := h
  have e0 : hid (fun _ => none) H = H := by funext c; rfl
  have hv' : Dq X.K (hid (fun _ => none) H) v x := by rw [e0]; exact hv.mono hid_le
  have hw' : Dq X.K (hid (fun _ => none) H) u y := by rw [e0]; exact hw
  cases ng with
  | true => exact opNotIn hu I rv ru hv' hw' h
  | false => exact opIn hu I rv ru hv' hw' h
theorem snd_pin {ng : Bool} {a : Ex} {v : Nat} (iha : Snd G a) : Snd G (.pin ng a v) := by
  have key : ∀ (X : Cx) (W : WS) (x : Expr), Ctx G W X → chk (.pin ng a v) X.env.scope X.N x = true → PE X x (tE G W X.mg X.K (.pin ng a v)) ∧ PT X x (tT G W X.mg X.K (.pin ng a v)) ∧ ∀ o xs p, x ≠ .BoolOp o xs p := fun X W x c h => by
    simp only [chk] at h
    split at h
    · rename_i y p z e
      obtain ⟨q, rfl⟩ := vCmp1_e e
      simp only [Bool.and_eq_true, decide_eq_true_eq, Bool.not_eq_true'] at h
      obtain ⟨⟨⟨rfl, a1, a2⟩, b1⟩, hm⟩ := h
      have run : ∀ {σ H} {ρ : Ev} {O : Ow} {P : Bool → Prop} {Q : VK}, Ok X.K O ρ σ H → (∀ b H', Same H H' → P b → Q (.bl b) H') →
          wE G a ρ (fun x => rdP ρ v fun y => sIn x y fun b => P (if ng = true then !b else b)) (excE X.mg H (W σ)) →
          tOp (fun v u H Q => ∃ O x y, Dq X.K (hid O H) v x ∧ (Dq X.K H u y) ∧ sIn x y fun b => Q (.bl (if ng = true then !b else b)) H) (tE G W X.mg X.K a) (tVar v) σ H Q := fun {σ H ρ O P Q} ok fin h => by
        refine ⟨ρ, O, ok, wE_mono h (fun x hx w H1 s1 dw _ => ?_) fun _ z => z⟩
        obtain ⟨y, u, e1, h, hy⟩ := rdP_run (ok.ext s1) hx
        refine ⟨u, e1, O, x, y, dw, ?_, sIn_mono h fun b hb => fin _ _ s1 hb⟩
        rcases hy with hy | ⟨a, xs, ds, rfl, rfl, h3, h4⟩
        · exact hy.mono hid_le
        · exact .lst h3 (h4.mono hid_le)
      refine ⟨peI (pe_cmpR (inRun c.un ng) (iha.pe a1 X W y c a2) (pe_slot b1).1 hm) fun σ H Q q => ?_, ptI (pt_cmpR (inRun c.un ng) (iha.pe a1 X W y c a2) (pe_slot b1).1 hm) fun σ H Q q => ?_, fun _ _ _ z => by cases z⟩
      · obtain ⟨ρ, O, ok, h⟩ := q
        exact run (P := fun b => postE X.K false O H Q (.bool b)) ok (fun b H' s hb => postE.b (hb.mono s)) h
      · obtain ⟨ρ, O, ok, h⟩ := q
        exact run (P := fun b => postT H Q (.bool b)) (Q := fun z H3 => ∃ k, z = .bl k ∧ Q k H3) ok (fun b H' s hb => ⟨b, rfl, (show ∀ H', Same H H' → Q b H' from hb) _ s⟩) h
    · cases h
  exact ⟨fun _ X W x c h => (key X W x c h).1, fun _ X W x c _ h => (key X W x c h).2.1, fun _ X W o' xs p c h => absurd rfl ((key X W _ c h).2.2 o' xs p), fun t => (by simp [isA] at t), fun t => (by simp [isI] at t)⟩

/-! ### isinstance -/
def Tf.tn : Tf → String
  | .int => "int" | .bool => "bool" | .str => "str" | .list => "list" | .tuple => "tuple"
theorem Tf.boot (t : Tf) : bootBuiltins t.nm = some (.type t.tn) := by cases t <;> decide +kernel
theorem kit_non : ∀ t : Tf, kitB "NoneType" t.tn = some false := by intro t; cases t <;> decide +kernel
theorem kit_bool : ∀ t : Tf, kitB "bool" t.tn = some (tyD (.bool true) t) := by intro t; cases t <;> decide +kernel
theorem kit_int : ∀ t : Tf, kitB "int" t.tn = some (tyD (.int 0) t) := by intro t; cases t <;> decide +kernel
theorem kit_str : ∀ t : Tf, kitB "str" t.tn = some (tyD (.str "") t) := by intro t; cases t <;> decide +kernel
theorem kit_list : ∀ t : Tf, kitB "list" t.tn = some (tyD (.list []) t) := by intro t; cases t <;> decide +kernel
theorem kit_tuple : ∀ t : Tf, kitB "tuple" t.tn = some (tyD (.tuple []) t) := by intro t; cases t <;> decide +kernel
theorem kit_dict : ∀ t : Tf, kitB "dict" t.tn = some false := by intro t; cases t <;> decide +kernel
theorem isiD {K : PySem.W.Frag} {O : Ow} {H : Hp} {v : V} {x : PyData} (t : Tf) (hv : Dq K (hid O H) v x) (hn : noD x = true) : ∃ ty, TyX K H v ty ∧ PySem.W.kitOne K ty (.type t.tn) = some (tyD x t) := by
  cases x with
  | none => cases hv; exact ⟨_, .base .non, (kit_ty (kit_non t)).trans (by cases t <;> rfl)⟩
  | bool b => cases hv; exact ⟨_, .base (.bl _), (kit_ty (kit_bool t)).trans (by cases t <;> rfl)⟩
  | int b => cases hv; exact ⟨_, .base (.int _), (kit_ty (kit_int t)).trans (by cases t <;> rfl)⟩
  | str b => cases hv; exact ⟨_, .base (.str _), (kit_ty (kit_str t)).trans (by cases t <;> rfl)⟩
  | list ds =>
    obtain ⟨a, xs, rfl, ha, da, _⟩ := dq_list hv
    exact ⟨_, .base (.lst ha), (kit_ty (kit_list t)).trans (by cases t <;> rfl)⟩
  | tuple ds =>
    obtain ⟨a, xs, rfl, ha, da⟩ := dq_tup hv
    exact ⟨_, .base (.tup ha), (kit_ty (kit_tuple t)).trans (by cases t <;> rfl)⟩
  | dict kv =>
    unfold noD at hn
    split at hn <;> first | (cases hn; done) | skip
    · rename_i e
      injection e with e
      subst e
      generalize hg : PyData.dict [(PyData.bool true, PyData.none)] = kk at hv
      cases hv <;> try (cases hg; done)
      · rename_i a ns hq
        injection hg with hg
        cases ns with
        | nil => cases hg
        | cons n r => simp at hg
      · rename_i a h1
        exact ⟨_, .base (.dK (hid_le _ _ h1)), (kit_ty (kit_dict t)).trans (by cases t <;> rfl)⟩
    · rename_i h1 h2; exact (by simp_all)
theorem snd_isi {a : Ex} {t : Tf} (iha : Snd G a) : Snd G (.isi a t) := snd_mk rfl rfl rfl fun X W x c h => by
  simp only [chk] at h
  split at h
  · rename_i g y z e
    obtain ⟨p, q, rfl⟩ := vCall_e e
    simp only [Bool.and_eq_true, decide_eq_true_eq] at h
    obtain ⟨⟨⟨⟨rfl, hg⟩, a1, a2⟩, hs⟩, h⟩ := h
    split at h
    · rename_i w e2
      obtain ⟨p2, rfl⟩ := vName_e e2
      simp only [Bool.and_eq_true, decide_eq_true_eq] at h
      obtain ⟨rfl, hw⟩ := h
      obtain ⟨g1, g2, g3⟩ := glb_of hg
      obtain ⟨w1, w2, w3⟩ := glb_of hw
      refine peI (pe_callB (id := "isinstance") call_isi g1 (c.bt _ (by decide +kernel)) (by decide +kernel) (pa_cons (iha.pe a1 X W y c a2) (pa_cons (pe_bltn (v := .ty t.tn) w1 (c.bt _ (by cases t <;> decide +kernel)) t.boot rfl w3 w2) pa_nil (star_cons rfl)) (star_cons hs)) g3 g2 (star_cons hs) (star_any (by simp [noStar]))) fun σ H Q q => ?_
      obtain ⟨ρ, O, ok, h⟩ := q
      refine ⟨ρ, O, ok, wE_mono h (fun x hx v H1 s1 dv _ => ?_) fun _ z => z⟩
      obtain ⟨ty, h1, h2⟩ := isiD t dv hx.1
      exact ⟨v, .ty t.tn, ty, .type t.tn, _, rfl, .ty t.tn, h1, h2, postE.b (postE.mono s1 (show postE X.K false O H Q (.bool (tyD x t)) from hx.2))⟩
    · cases h
  · cases h

/-! ### isinstance of a refusal that is kept -/
/-- isinstance(e, c), e kept at a -/
def rIsK (K : PySem.W.Frag) : List V → Hp → VK → Prop := fun xs H Q => ∃ (a D : Addr) (c : V) (cv : Value) (b : Bool), xs = [.ref a, c] ∧ H a = some (ExK (.ref D) a) ∧ ExcC K D ∧ (∀ u, RelV c u → u = cv) ∧ PySem.W.kitOne K (.ref D) cv = some b ∧ Q (.bl b) H
theorem call_isK {X : Cx} : CallR X (.builtin "isinstance") (rIsK X.K) := by
  intro pins s σ H xs us Q I r h
  obtain ⟨a, D, c, cv, b, rfl, ha, C, hcv, e, q⟩ := h
  obtain ⟨u1, u2, rfl, r1, r2⟩ := vals2 r
  cases (show u1 = Value.ref a from r1)
  obtain rfl := hcv _ r2
  obtain ⟨⟨oe, vs, hg, ⟨z1, z2⟩, hv⟩, _⟩ := (show ObjOk X.prog X.w H s.heap a (ExK (.ref D) a) from I.hok a _ ha)
  have J : PySem.W.InstAt s.heap a oe D none := by
    obtain ⟨oc, od, oda, osl⟩ := oe
    dsimp only at z1 z2 hv
    subst z1 z2 hv
    exact ⟨hg, rfl, rfl, trivial⟩
  have kit := PySem.W.handS_kitx_exc (ox := oe) (x := a) C.hg C.hk C.hs C.hd C.ha C.hn C.ht C.hm
  exact PySem.W.kia_one kit I.kIn J e (fun z => nomatch z) fun tk => ⟨.bl b, H, I.tok tk, rfl, q⟩
theorem isx_read {K : PySem.W.Frag} {mg : Str → Option Value} {O : Ow} {H : Hp} {v : V} {x : PyData} {kt : List (Str × Str)} {d : Str} {Q : Bool → Prop} (hk : ∀ c d, (c, d) ∈ kt → Kt K mg c d) (dv : Dq K (hid O H) v x) (h : isxR kt x d Q) :
    ∃ (a C : Addr) (vd : V) (cv : Value) (b : Bool), v = .ref a ∧ H a = some (ExK (.ref C) a) ∧ ExcC K C ∧ ClsN mg d vd cv ∧ PySem.W.kitOne K (.ref C) cv = some b ∧ Q b := by
  unfold isxR at h
  split at h
  · rename_i c
    obtain ⟨h1, h2⟩ := h
    obtain ⟨C, vd, cv, m1, m2, m3, m4, m5, m6⟩ := hk c d h1
    generalize hg : PyData.dict [(PyData.str c, PyData.none)] = kk at dv
    cases dv <;> try (cases hg; done)
    · rename_i a ns hq
      injection hg with hg
      cases ns with
      | nil => cases hg
      | cons n r => simp at hg
    · rename_i a C' c' h3 h4
      injection hg with hg
      injection hg with hg _
      injection hg with hg _
      injection hg with hg
      subst hg
      rw [m2] at h4
      cases h4
      exact ⟨a, C, vd, cv, _, rfl, hid_le _ _ h3, m3, m4, m5, h2⟩
  · exact h.elim
theorem cls_pe {X : Cx} {d : Str} {p : Pos} (hg : glb X.env.scope d = true) : (∃ vd cv, ClsN X.mg d vd cv) → ∃ vd cv, ClsN X.mg d vd cv ∧ PE X (.Name d p) (tC vd) ∧ ∀ u, RelV vd u → u = cv := by
  obtain ⟨w1, w2, w3⟩ := glb_of hg
  rintro ⟨vd, cv, h⟩
  rcases id h with ⟨D, m, rfl, rfl⟩ | ⟨m, hn, T, hb, rfl, rfl⟩
  · exact ⟨_, _, h, pe_glob w1 m rfl w2, fun u r => r⟩
  · exact ⟨_, _, h, pe_bltn w1 m hb rfl hn w2, fun u r => r⟩
theorem cls_eq {mg : Str → Option Value} {d : Str} {vd vd' : V} {cv cv' : Value} (h : ClsN mg d vd cv) (h' : ClsN mg d vd' cv') : vd = vd' ∧ cv = cv' := by
  rcases h with ⟨D, m, rfl, rfl⟩ | ⟨m, hn, T, hb, rfl, rfl⟩ <;> rcases h' with ⟨D', m', rfl, rfl⟩ | ⟨m', hn', T', hb', rfl, rfl⟩
  · rw [m] at m'; cases m'; exact ⟨rfl, rfl⟩
  · rw [m] at m'; cases m'
  · rw [m] at m'; cases m'
  · rw [hb] at hb'; cases hb'; exact ⟨rfl, rfl⟩
theorem snd_isx {a : Ex} {d : Str} (iha : Snd G a) : Snd G (.isx a d) := snd_mk rfl rfl rfl fun X W x c h => by
  simp only [chk] at h
  split at h
  · rename_i g y z e
    obtain ⟨p, q, rfl⟩ := vCall_e e
    simp only [Bool.and_eq_true, decide_eq_true_eq] at h
    obtain ⟨⟨⟨⟨⟨rfl, hg⟩, a1, a2⟩, hs⟩, hv⟩, h⟩ := h
    split at h
    · rename_i w e2
      obtain ⟨p2, rfl⟩ := vName_e e2
      simp only [Bool.and_eq_true, decide_eq_true_eq] at h
      obtain ⟨rfl, hw⟩ := h
      obtain ⟨g1, g2, g3⟩ := glb_of hg
      by_cases hc : ∃ vd cv, ClsN X.mg w vd cv
      · obtain ⟨vd, cv, hcl, pec, hcv⟩ := cls_pe (p := p2) hw hc
        refine peI (pe_callB (id := "isinstance") call_isK g1 (c.bt _ (by decide +kernel)) (by decide +kernel) (pa_cons (iha.pe a1 X W y c a2) (pa_cons pec pa_nil (star_cons rfl)) (star_cons hs)) g3 g2 (star_cons hs) (star_any (by simp [noStar]))) fun σ H Q q => ?_
        obtain ⟨ρ, O, ok, h⟩ := q
        refine ⟨ρ, O, ok, wE_mono h (fun x hx v H1 s1 dv _ => ?_) fun _ z => z⟩
        obtain ⟨ad, C, vd', cv', b, rfl, h1, h2, h3, h4, h5⟩ := isx_read c.kt dv hx
        obtain ⟨rfl, rfl⟩ := cls_eq hcl h3
        exact ⟨ad, C, vd, cv, b, rfl, h1, h2, hcv, h4, postE.b (postE.mono s1 h5)⟩
      · refine pe_false fun σ H Q ⟨ρ, O, ok, h⟩ => hc ?_
        obtain ⟨i, rfl⟩ : ∃ i, a = .var i := by cases a <;> first | exact ⟨_, rfl⟩ | cases hv
        replace h : rdV ρ i fun x => isxR G.kt x w fun b => postE X.K (frE G (.isx (.var i) w)) O H Q (.bool b) := h
        obtain ⟨x, u, _, hx, dv⟩ := rdV_run ok h
        obtain ⟨_, _, vd, cv, _, _, _, _, h3, _⟩ := isx_read c.kt dv hx
        exact ⟨vd, cv, h3⟩
    · cases h
  · cases h

end
end Pu

set_option Elab.async false
set_option linter.all false
set_option maxRecDepth 100000
set_option maxHeartbeats 8000000
/-! Pu, part M: walks. -/
namespace Pu
open PySem L2
section
variable {G : Gam}
/-! ### what is walked -/
theorem snd_it {e : Ex} (hI : isI e = true) (hT : tst e = false) (hA : isA e = false) (pi : ∀ (X : Cx) (W : WS) (tg x : Expr), Ctx G W X → (needT e = true → isTupE tg = true) → chk e X.env.scope X.N x = true → PI X tg x (tI G W X.mg X.K e)) : Snd G e :=
  ⟨fun t => (by simp [isE, hI] at t), fun t => (by simp [isE, hI] at t), fun t => (by rw [hT] at t; cases t), fun t => (by rw [hA] at t; cases t), fun _ => pi⟩
theorem snd_itL {a : Ex} (iha : Snd G a) : Snd G (.itL a) := snd_it rfl rfl rfl fun X W tg x c hn h => by
  simp only [chk, Bool.and_eq_true] at h
  refine piI (pi_list (iha.pe h.1 X W x c h.2)) fun σ H R q => ?_
  obtain ⟨ρ, O, ok, h⟩ := q
  refine ⟨ρ, O, ok, wE_mono h (fun x hx v H1 s1 dv _f => ?_) fun _ z => z⟩
  clear _f
  unfold ofL at hx
  split at hx
  · obtain ⟨b, xs, rfl, hb, db, hb2⟩ := dq_list dv
    exact ⟨b, rfl, ⟨_, .inl (.inl hb)⟩, hx _ H1 s1 (wkList hb2 db)⟩
  · exact hx.elim
theorem snd_itT {a : Ex} (iha : Snd G a) : Snd G (.itT a) := snd_it rfl rfl rfl fun X W tg x c hn h => by
  simp only [chk, Bool.and_eq_true] at h
  refine piI (pi_tup (iha.pe h.1 X W x c h.2)) fun σ H R q => ?_
  obtain ⟨ρ, O, ok, h⟩ := q
  refine ⟨ρ, O, ok, wE_mono h (fun x hx v H1 s1 dv _f => ?_) fun _ z => z⟩
  clear _f
  unfold ofT at hx
  split at hx
  · cases dv with
    | tup hb db => exact ⟨_, rfl, ⟨_, .inl (.inl (hid_le _ _ hb))⟩, hx _ H1 s1 (wkTup hb db)⟩
  · exact hx.elim
theorem snd_itS {a : Ex} (iha : Snd G a) : Snd G (.itS a) := snd_it rfl rfl rfl fun X W tg x c hn h => by
  simp only [chk, Bool.and_eq_true] at h
  refine piI (pi_str (iha.pe h.1 X W x c h.2)) fun σ H R q => ?_
  obtain ⟨ρ, O, ok, h⟩ := q
  refine ⟨ρ, O, ok, wE_mono h (fun x hx v H1 s1 dv _f => ?_) fun _ z => z⟩
  clear _f
  unfold ofS at hx
  split at hx
  · cases dv
    exact ⟨_, rfl, hx _ H1 s1 wkStr⟩
  · exact hx.elim
theorem snd_rg1 {a : Ex} (iha : Snd G a) : Snd G (.rg1 a) := snd_it rfl rfl rfl fun X W tg x c hn h => by
  simp only [chk] at h
  split at h
  · rename_i g y e
    obtain ⟨p, q, rfl⟩ := vCall_e e
    simp only [Bool.and_eq_true, decide_eq_true_eq] at h
    obtain ⟨⟨⟨rfl, hg⟩, a1, a2⟩, hs⟩ := h
    obtain ⟨g1, g2, g3⟩ := glb_of hg
    refine piI (pi_range1 g1 (c.bt _ (by decide +kernel)) (pa_cons (iha.pe a1 X W y c a2) pa_nil (star_cons hs)) (star_cons hs)) fun σ H R q => ?_
    obtain ⟨ρ, O, ok, h⟩ := q
    refine ⟨ρ, O, ok, wE_mono h (fun x hx v H1 s1 dv _f => ?_) fun _ z => z⟩
    obtain ⟨j, rfl, b1, b2, hj⟩ := ofI_run dv hx
    refine ⟨j, rfl, b1, b2, hj _ H1 s1 ?_⟩
    have := wkRange (K := X.K) (O := O) (H := H1) (lo := 0) (n := j.toNat)
    simpa using this
  · cases h
theorem snd_rg2 {a b : Ex} (iha : Snd G a) (ihb : Snd G b) : Snd G (.rg2 a b) := snd_it rfl rfl rfl fun X W tg x c hn h => by
  simp only [chk] at h
  split at h
  · rename_i g y z e
    obtain ⟨p, q, rfl⟩ := vCall_e e
    simp only [Bool.and_eq_true, decide_eq_true_eq] at h
    obtain ⟨⟨⟨⟨⟨rfl, hg⟩, a1, a2⟩, hs⟩, b1, b2⟩, hs2⟩ := h
    obtain ⟨g1, g2, g3⟩ := glb_of hg
    have e2 : starEach [z] X.env = [(false, eval z X.env)] := star_cons hs2
    have e1 : starEach [y, z] X.env = [(false, eval y X.env), (false, eval z X.env)] := by rw [star_cons hs, e2]
    refine piI (pi_range2 g1 (c.bt _ (by decide +kernel)) (pa_cons (iha.pe a1 X W y c a2) (pa_cons (ihb.pe b1 X W z c b2) pa_nil (star_cons hs2)) (star_cons hs)) e1 e2) fun σ H R q => ?_
    obtain ⟨ρ, O, ok, h⟩ := q
    refine ⟨ρ, O, ok, wE_mono h (fun x hx v H1 s1 dv _f => ?_) fun _ z => z⟩
    refine ⟨ρ, O, ok.ext s1, wE_mono hx (fun y hy u H2 s2 du _f => ?_) fun _ z => z.mono s1⟩
    obtain ⟨i, rfl, hy⟩ := ofI_run dv hy
    obtain ⟨j, rfl, h1, h2, h3, h4, hj⟩ := ofI_run du hy
    exact ⟨i, j, rfl, ⟨h1, h2, h3, h4⟩, hj _ H2 (s1.trans s2) wkRange⟩
  · cases h
theorem snd_rg3 {a b d : Ex} (iha : Snd G a) (ihb : Snd G b) (ihd : Snd G d) : Snd G (.rg3 a b d) := snd_it rfl rfl rfl fun X W tg x c hn h => by
  simp only [chk] at h
  split at h
  · rename_i g y z w e
    obtain ⟨p, q, rfl⟩ := vCall_e e
    simp only [Bool.and_eq_true, decide_eq_true_eq] at h
    obtain ⟨⟨⟨⟨⟨⟨⟨rfl, hg⟩, a1, a2⟩, hs⟩, b1, b2⟩, hs2⟩, d1, d2⟩, hs3⟩ := h
    obtain ⟨g1, g2, g3⟩ := glb_of hg
    refine piI (pi_range3 g1 (c.bt _ (by decide +kernel)) (pa_cons (iha.pe a1 X W y c a2) (pa_cons (ihb.pe b1 X W z c b2) (pa_cons (ihd.pe d1 X W w c d2) pa_nil (star_cons hs3)) (star_cons hs2)) (star_cons hs)) (star_cons hs) (star_any (by simp [hs2, hs3]))) fun σ H R q => ?_
    obtain ⟨ρ, O, ok, h⟩ := q
    refine ⟨ρ, O, ok, wE_mono h (fun x hx v H1 s1 dv _f => ?_) fun _ z => z⟩
    refine ⟨ρ, O, ok.ext s1, wE_mono hx (fun y hy u H2 s2 du _f => ?_) fun _ z => z.mono s1⟩
    have s12 := s1.trans s2
    refine ⟨ρ, O, ok.ext s12, wE_mono hy (fun y hy w H3 s3 dw _f => ?_) fun _ z => z.mono s12⟩
    obtain ⟨i, rfl, hy⟩ := ofI_run dv hy
    obtain ⟨j, rfl, hy⟩ := ofI_run du hy
    obtain ⟨k, rfl, n, h1, hj⟩ := ofI_run dw hy
    exact ⟨i, j, k, n, rfl, h1, hj _ H3 (s12.trans s3) wkRangeC⟩
  · cases h
theorem dqL_run {K : PySem.W.Frag} {O : Ow} {H : Hp} {v : V} {x : PyData} {P : List PyData → Prop} (dv : Dq K (hid O H) v x) (h : ofL x P) : ∃ a xs ds, v = .ref a ∧ (hid O H) a = some (.lst xs) ∧ DqA K (hid O H) xs ds ∧ P ds := by
  unfold ofL at h
  split at h
  · obtain ⟨b, xs, rfl, hb, db, hb2⟩ := dq_list dv
    exact ⟨b, xs, _, rfl, hb2, db, h⟩
  · exact h.elim
theorem snd_zip {a b : Ex} (iha : Snd G a) (ihb : Snd G b) : Snd G (.zip a b) := snd_it rfl rfl rfl fun X W tg x c hn h => by
  simp only [chk] at h
  split at h
  · rename_i g y z e
    obtain ⟨p, q, rfl⟩ := vCall_e e
    simp only [Bool.and_eq_true, decide_eq_true_eq] at h
    obtain ⟨⟨⟨⟨⟨rfl, hg⟩, a1, a2⟩, hs⟩, b1, b2⟩, hs2⟩ := h
    obtain ⟨g1, g2, g3⟩ := glb_of hg
    obtain ⟨es, he⟩ := Option.isSome_iff_exists.mp (hn rfl)
    obtain ⟨kk, tp, rfl⟩ := vTup_e he
    refine piI (pi_zip g1 (c.bt _ (by decide +kernel)) (pa_cons (iha.pe a1 X W y c a2) (pa_cons (ihb.pe b1 X W z c b2) pa_nil (star_cons hs2)) (star_cons hs)) (star_cons hs) (star_any (by simp [hs2]))) fun σ H R q => ?_
    obtain ⟨ρ, O, ok, h⟩ := q
    refine ⟨ρ, O, ok, wE_mono h (fun x hx v H1 s1 dv _f => ?_) fun _ z => z⟩
    refine ⟨ρ, O, ok.ext s1, wE_mono hx (fun y hy u H2 s2 du _f => ?_) fun _ z => z.mono s1⟩
    obtain ⟨a', xs, ds, rfl, ha, da, hy⟩ := dqL_run (dv.mono (hid_same s2)) hy
    obtain ⟨b', ys, es', rfl, hb, db, hy⟩ := dqL_run du hy
    exact ⟨a', b', xs, ys, rfl, .inl (.inl (hid_le _ _ ha)), .inl (.inl (hid_le _ _ hb)), hy _ H2 (s1.trans s2) (wkZip ha da hb db)⟩
  · cases h
theorem snd_rev {a : Ex} (iha : Snd G a) : Snd G (.rev a) := snd_it rfl rfl rfl fun X W tg x c hn h => by
  simp only [chk] at h
  split at h
  · rename_i g y e
    obtain ⟨p, q, rfl⟩ := vCall_e e
    simp only [Bool.and_eq_true, decide_eq_true_eq] at h
    obtain ⟨⟨⟨rfl, hg⟩, a1, a2⟩, hs⟩ := h
    obtain ⟨g1, g2, g3⟩ := glb_of hg
    refine piI (pi_reversed g1 (c.bt _ (by decide +kernel)) (pa_cons (iha.pe a1 X W y c a2) pa_nil (star_cons hs)) (star_cons hs)) fun σ H R q => ?_
    obtain ⟨ρ, O, ok, h⟩ := q
    refine ⟨ρ, O, ok, wE_mono h (fun x hx v H1 s1 dv _f => ?_) fun _ z => z⟩
    obtain ⟨a', xs, ds, rfl, ha, da, hy⟩ := dqL_run dv hx
    exact ⟨a', xs, rfl, .inl (.inl (hid_le _ _ ha)), hy _ H1 s1 (wkRev ha da)⟩
  · cases h
theorem snd_enu {a : Ex} (iha : Snd G a) : Snd G (.enu a) := snd_it rfl rfl rfl fun X W tg x c hn h => by
  simp only [chk] at h
  split at h
  · rename_i g y e
    obtain ⟨p, q, rfl⟩ := vCall_e e
    simp only [Bool.and_eq_true, decide_eq_true_eq] at h
    obtain ⟨⟨⟨rfl, hg⟩, a1, a2⟩, hs⟩ := h
    obtain ⟨g1, g2, g3⟩ := glb_of hg
    obtain ⟨es, he⟩ := Option.isSome_iff_exists.mp (hn rfl)
    obtain ⟨kk, tp, rfl⟩ := vTup_e he
    refine piI (pi_enum g1 (c.bt _ (by decide +kernel)) (pa_cons (iha.pe a1 X W y c a2) pa_nil (star_cons hs)) (star_cons hs)) fun σ H R q => ?_
    obtain ⟨ρ, O, ok, h⟩ := q
    refine ⟨ρ, O, ok, wE_mono h (fun x hx v H1 s1 dv _f => ?_) fun _ z => z⟩
    obtain ⟨a', xs, ds, rfl, ha, da, hy⟩ := dqL_run dv hx
    exact ⟨a', xs, rfl, .inl (.inl (hid_le _ _ ha)), hy _ H1 s1 (wkEnum ha da)⟩
  · cases h

end
end Pu

set_option Elab.async false
set_option linter.all false
set_option maxRecDepth 100000
set_option maxHeartbeats 8000000
/-! Pu, part N: comprehensions. -/
namespace Pu
open PySem L2
section
variable {G : Gam}
/-! ### comprehensions -/
/-- no refusal -/
abbrev W0 : WS := fun _ => E0
theorem passes_at {CX : CXT} {X : Cx} {E : XK} (h : Passes CX X E) (σ : St) : PassesAt CX X σ E := fun pins H s e s' I c => h pins σ H s e s' I c
theorem ctx_blk {W : WS} {X : Cx} (c : Ctx G W X) {own : List (Str × Nat)} {scope : Scope} (ok : BlkOk X.N X.env.scope scope own) (s : Shared) (H : Hp) (C : Addr) (cl : List (Str × Addr)) (fp : List Addr) :
    Ctx G W0 (X.blk s H scope (compEnvC scope cl C X.env) fp) :=
  ⟨c.calm, c.nd, ok.kind, c.fn, c.gl, c.bt, passes_at passL, c.un, c.kt⟩
theorem blk_scope {X : Cx} {scope : Scope} (s : Shared) (H : Hp) (C : Addr) (cl : List (Str × Addr)) (fp : List Addr) : (X.blk s H scope (compEnvC scope cl C X.env) fp).env.scope = relS scope X.env.scope := rfl
theorem blk_loc {X : Cx} {scope : Scope} (s : Shared) (H : Hp) (C : Addr) (cl : List (Str × Addr)) (fp : List Addr) (y : Str) (h : locB scope y = true) :
    Loc (X.blk s H scope (compEnvC scope cl C X.env) fp).env.scope y ∧ ((X.blk s H scope (compEnvC scope cl C X.env) fp).fn y = true ∨ (X.blk s H scope (compEnvC scope cl C X.env) fp).env.scope.names.lookup y = some .local) := by
  unfold locB at h
  split at h
  · rename_i e
    have e2 := lookup_relS_keep (sc := X.env.scope) (k := .local) (by decide) e
    exact ⟨.inl e2, .inr e2⟩
  · rename_i e
    have e2 := lookup_relS_keep (sc := X.env.scope) (k := .cell) (by decide) e
    refine ⟨.inr e2, .inl ?_⟩
    show (scope.names.lookup y == some .cell) = true
    rw [e]
    rfl
  · cases h
theorem own_ix (own : List Nat) (N : List Str) : (ownL N own).map (·.2) = own := by
  unfold ownL
  rw [List.map_map]
  induction own with
  | nil => rfl
  | cons a r ih => simp only [List.map_cons, ih]; rfl

/-- what a target makes of the slots -/
def bndE (tg : Tg) (d : PyData) (ρ : Ev) : Option Ev := match tg with
  | .n i => some (ρ.set i (.sh d))
  | .t l => match d with
    | .tuple ds => if ds.length = l.length then some ((l.zip ds).foldl (fun r p => r.set p.1 (.sh p.2)) ρ) else none
    | _ => none
theorem bnd_E {tg : Tg} {d : PyData} {ρ : Ev} {P : Ev → Prop} (h : bnd tg d ρ P) : ∃ ρ1, bndE tg d ρ = some ρ1 ∧ P ρ1 := by
  cases tg with
  | n i => exact ⟨_, rfl, h⟩
  | t l =>
    replace h : ofT d fun ds => ds.length = l.length ∧ P ((l.zip ds).foldl (fun r p => r.set p.1 (.sh p.2)) ρ) := h
    unfold ofT at h
    split at h
    · exact ⟨_, by simp [bndE, h.1], h.2⟩
    · exact h.elim
theorem E_bnd {tg : Tg} {d : PyData} {ρ ρ1 : Ev} {P : Ev → Prop} (e : bndE tg d ρ = some ρ1) (h : P ρ1) : bnd tg d ρ P := by
  cases tg with
  | n i => cases e; exact h
  | t l =>
    simp only [bndE] at e
    show ofT d fun ds => ds.length = l.length ∧ P ((l.zip ds).foldl (fun r p => r.set p.1 (.sh p.2)) ρ)
    split at e
    · split at e
      · cases e
        exact ⟨by assumption, h⟩
      · cases e
    · cases e
/-- one list more that is hidden -/
def plusO (O : Ow) (D : Addr) : Ow := fun b => if b = D then some none else O b
theorem plus_same {O : Ow} {D : Addr} {H H' : Hp} (s : Same H H') (hD : H D = none) : Same (hid O H) (hid (plusO O D) H') := fun b o e => by
  have hb : b ≠ D := fun z => by rw [z] at e; have := hid_le _ _ e; rw [hD] at this; cases this
  unfold hid at e ⊢
  unfold plusO
  rw [if_neg hb]
  split at e
  · cases e
  · rename_i q; rw [if_neg q]; exact s _ _ e
theorem plus_ok {K : PySem.W.Frag} {O : Ow} {ρ : Ev} {σ : St} {D : Addr} {H H' : Hp} {xs : List V} (ok : Ok K O ρ σ H) (s : Same H H') (hD : H D = none) (h' : H' D = some (.lst xs)) : Ok K (plusO O D) ρ σ H' where
  sh := fun i d e => let ⟨v, a, b⟩ := ok.sh i d e; ⟨v, a, b.mono (plus_same s hD)⟩
  ow := fun i ds e => by
    obtain ⟨a, ys, b, c, d, f⟩ := ok.ow i ds e
    refine ⟨a, ys, b, ?_, s _ _ d, f.mono (plus_same s hD)⟩
    unfold plusO
    rw [if_neg (fun z => by rw [z, hD] at d; cases d)]
    exact c
  live := fun a w e => by
    unfold plusO at e
    split at e
    · rename_i z; rw [z]; exact ⟨_, h'⟩
    · obtain ⟨ys, q⟩ := ok.live a w e; exact ⟨ys, s _ _ q⟩
  len := ok.len
theorem plus_hid_upd {O : Ow} {D : Addr} {H : Hp} {o : HO} : hid (plusO O D) (upd H D o) = hid (plusO O D) H := by
  funext b
  unfold hid plusO upd
  by_cases h : b = D
  · rw [if_pos h]; rfl
  · rw [if_neg h, if_neg h]
theorem plus_back {O : Ow} {D : Addr} {H : Hp} : Same (hid (plusO O D) H) (hid O (del D H)) := fun b o e => by
  unfold hid plusO at e
  by_cases h : b = D
  · rw [if_pos h] at e; cases e
  · rw [if_neg h] at e
    unfold hid del
    rw [if_neg h]
    exact e

/-- what stands between two turns -/
structure Turn' (K : PySem.W.Frag) (tst elt : PyData → (Option PyData → Prop) → Prop) (fr : Bool) (O : Ow) (H H1 : Hp) (D : Addr) (Q : VK) (ds : List PyData) (i : Nat) (H2 : Hp) : Prop where
  ex : ∃ acc xs, lcs tst elt (ds.drop i) acc (postE K fr O H Q) ∧ H2 D = some (.lst xs) ∧ DqA K (hid (plusO O D) H2) xs acc ∧ acc.length ≤ i
  same : Same H1 H2
theorem lcRun {K : PySem.W.Frag} {fr : Bool} {O : Ow} {ρ : Ev} {σ : St} {H H1 : Hp} {Q : VK} {ds : List PyData} {own : List Nat} {tg : Tg} {tt : TT} {te : TE} {J : It} {D : Addr}
    {tst elt : PyData → (Option PyData → Prop) → Prop}
    (ok : Ok K O ρ σ H) (s1 : Same H H1) (wk : Wk K J O H1 ds) (hD : H1 D = none) (hz : ds.length ≤ sizeLine) (ho : tgIn tg own = true)
    (ht : ∀ (O' : Ow) (d : PyData) (ρ1 : Ev) (σ1 : St) (H' : Hp) (Kk : Option PyData → Prop) (R : Bool → Hp → Prop), bndE tg d (wip ρ own) = some ρ1 → Ok K O' ρ1 σ1 H' → tst d Kk →
      (∀ b H'', Same H' H'' → (b = true → Kk (some .none)) → (b = false → Kk none) → R b H'') → tt σ1 H' R)
    (he : ∀ (O' : Ow) (d : PyData) (ρ1 : Ev) (σ1 : St) (H' : Hp) (Kk : Option PyData → Prop) (R : VK), bndE tg d (wip ρ own) = some ρ1 → Ok K O' ρ1 σ1 H' → elt d Kk →
      (∀ v y H'', Same H' H'' → Dq K (hid O' H'') v y → Kk (some y) → R v H'') → te σ1 H' R)
    (hb : ∀ d ds acc P, lcs tst elt (d :: ds) acc P → ∃ ρ1, bndE tg d (wip ρ own) = some ρ1)
    (h : lcs tst elt ds [] (postE K fr O H Q)) :
    ∃ W : Nat → Nat → Hp → Prop, (∃ m, W 0 m (upd H1 D (.lst []))) ∧ ∀ i m H, W i m H →
      (J.stop i H ∧ Q (.ref D) H) ∨ (J.go i H ∧ ∃ Nx : Hp → Prop, (∀ H', Nx H' → ∃ m', m' < m ∧ W (i + 1) m' H') ∧ ∀ x H', J.yld i H x H' → gT K tg x (wipe σ own) H' fun σ2 H2 => wipe σ2 own = wipe σ own ∧ tt σ2 H2 fun b H3 =>
        if b = true then te σ2 H3 fun y H4 => ∃ acc, H4 D = some (.lst acc) ∧ acc.length < sizeLine ∧ Nx (upd H4 D (.lst (acc ++ [y]))) else Nx H3) := by
  obtain ⟨n, Gd, Y, w, rfl, hg, hy⟩ := wk.ex
  have nD : H D = none := s1.free hD
  refine lc_it w (fun i H2 => Turn' K tst elt fr O H H1 D Q ds i H2) ⟨⟨[], [], h, upd_same, .nil, Nat.le_refl _⟩, same_new hD⟩ (fun i H2 hi p => ?_) (fun i x H2 H3 hi p y => ?_) (fun H2 p => ?_)
  · exact hg H2 (plusO O D) (plus_same p.same hD)
  · obtain ⟨⟨acc, xs, hl, hx, da, hacc⟩, sm⟩ := p
    have okD := plus_ok ok (s1.trans sm) nD hx
    obtain ⟨s3, d, hd, dx⟩ := hy i H2 x H3 (plusO O D) hi y (plus_same sm hD) okD.live
    have ok3 := (okD.ext s3).wip own
    have edrop : ds.drop i = d :: ds.drop (i + 1) := by
      obtain ⟨hlt, e⟩ := List.getElem?_eq_some_iff.mp hd
      rw [List.drop_eq_getElem_cons hlt, e]
    rw [edrop] at hl
    obtain ⟨ρ1, eρ⟩ := hb _ _ _ _ hl
    refine gT_run ok3 dx (E_bnd (P := fun r => r = ρ1) eρ rfl) fun r σ2 ok4 er hw => ?_
    subst er
    refine ⟨by rw [hw own ho, wipe_wipe], ?_⟩
    refine ht _ d _ σ2 H3 _ _ eρ ok4 hl fun b H4 s4 hbt hbf => ?_
    cases b with
    | false =>
      show Turn' K tst elt fr O H H1 D Q ds (i + 1) H4
      have q := hbf rfl
      exact ⟨⟨acc, xs, q, s4 _ _ (s3 _ _ hx), da.mono (hid_same (s3.trans s4)), by omega⟩, (sm.trans s3).trans s4⟩
    | true =>
      have q := hbt rfl
      refine he _ d _ σ2 H4 _ _ eρ (ok4.ext s4) q fun v y H5 s5 dv q2 => ?_
      have hx5 := s5 _ _ (s4 _ _ (s3 _ _ hx))
      refine ⟨xs, hx5, ?_, ?_⟩
      · rw [da.len]
        obtain ⟨hlt, _⟩ := List.getElem?_eq_some_iff.mp hd
        omega
      · have s15 := ((sm.trans s3).trans s4).trans s5
        refine ⟨⟨acc ++ [y], xs ++ [v], q2, upd_same, ?_, by rw [List.length_append, List.length_singleton]; omega⟩, fun c o e => ?_⟩
        · rw [plus_hid_upd]
          exact (da.mono (hid_same ((s3.trans s4).trans s5))).app (.cons dv .nil)
        · rw [upd_ne (ne_of_none e hD)]
          exact s15 _ _ e
  · obtain ⟨⟨acc, xs, hl, hx, da, hacc⟩, sm⟩ := p
    rw [List.drop_length] at hl
    have hl : postE K fr O H Q (.list acc) := hl
    have s12 := s1.trans sm
    refine hl _ H2 s12 (.lst ?_ (da.mono (plus_back.trans hid_del))) fun _ ds' e => ?_
    · have l : Live O H := ok.live
      unfold hid
      rw [l.free nD]
      simpa using hx
    · cases e
      exact ⟨D, xs, rfl, nD, hx, da.mono plus_back⟩

theorem folded_of {it : Ex} {sc : Scope} {N : List Str} {w : Expr} {env : PySem.Env} (i1 : isI it = true) (i2 : chk it sc N w = true) (v : Value) : foldedSetIterable w env v = pure v := by
  cases w <;> first | rfl | skip
  exfalso
  cases it <;> simp [chk, chkV, vName, vConst, vEmp, vBin, vUn, vCmp1, vCmp2, vBool, vIf, vTup, vLst, vSub, vCall, vMet, vLc, isI] at i1 i2
  all_goals (rename_i q; cases q <;> simp [chk, chkV, vName, vConst, vEmp, vBin, vUn, vCmp1, vCmp2, vBool, vIf, vTup, vLst, vSub, vCall, vMet, vLc, isE, isA, isI] at i2)
theorem lc_read {K : PySem.W.Frag} {W : WS} {mg : Str → Option Value} {own : List Nat} {N : List Str} {e : Ex} {tg : Tg} {it : Ex} (hin : tgIn tg own = true) {σ : St} {H : Hp} {Q : VK} (q : tE G W mg K (.lc own e tg it) σ H Q) :
    tLc (tI G W mg K it) (gT K tg) tYes (tE G W0 mg K e) ((ownL N own).map (·.2)) σ H Q := by
  obtain ⟨ρ, O, ok, h⟩ := q
  refine ⟨ρ, O, ok, wE_mono h (fun x hx => ofL_mono hx fun ds hd J H1 s1 wk D hD => ?_) fun _ z => z⟩
  rw [own_ix]
  refine lcRun (fr := true) ok s1 wk hD hd.1 hin ?_ ?_ ?_ hd.2
  · exact fun O' d ρ1 σ1 H' Kk R eb ok1 ht k => k true H' (Same.refl _) (fun _ => ht) (fun z => by cases z)
  · intro O' d ρ1 σ1 H' Kk R eb ok1 hel k
    obtain ⟨ρ2, eb2, hel⟩ := bnd_E hel
    rw [eb] at eb2
    cases eb2
    exact ⟨ρ1, O', ok1, wE_mono hel (fun y hy v H'' s dv _ => k v y H'' s dv hy) fun _ z => z.elim⟩
  · intro d ds acc P hl
    simp only [lcs] at hl
    obtain ⟨ρ2, eb2, _⟩ := bnd_E hl
    exact ⟨_, eb2⟩
theorem lci_read {K : PySem.W.Frag} {W : WS} {mg : Str → Option Value} {own : List Nat} {N : List Str} {e : Ex} {tg : Tg} {it d : Ex} (hin : tgIn tg own = true) {σ : St} {H : Hp} {Q : VK} (q : tE G W mg K (.lci own e tg it d) σ H Q) :
    tLc (tI G W mg K it) (gT K tg) (tT G W0 mg K d) (tE G W0 mg K e) ((ownL N own).map (·.2)) σ H Q := by
  obtain ⟨ρ, O, ok, h⟩ := q
  refine ⟨ρ, O, ok, wE_mono h (fun x hx => ofL_mono hx fun ds hd J H1 s1 wk D hD => ?_) fun _ z => z⟩
  rw [own_ix]
  refine lcRun (fr := true) ok s1 wk hD hd.1 hin ?_ ?_ ?_ hd.2
  · intro O' d' ρ1 σ1 H' Kk R eb ok1 hel k
    obtain ⟨ρ2, eb2, hel⟩ := bnd_E hel
    rw [eb] at eb2
    cases eb2
    refine ⟨ρ1, O', ok1, wE_mono hel (fun y hy => ?_) fun _ z => z.elim⟩
    unfold postT
    refine ofB_mono hy fun b hb H'' s => ?_
    cases b with
    | true => exact k true H'' s (fun _ => hb) (fun z => by cases z)
    | false => exact k false H'' s (fun z => by cases z) (fun _ => hb)
  · intro O' d' ρ1 σ1 H' Kk R eb ok1 hel k
    obtain ⟨ρ2, eb2, hel⟩ := bnd_E hel
    rw [eb] at eb2
    cases eb2
    exact ⟨ρ1, O', ok1, wE_mono hel (fun y hy v H'' s dv _ => k v y H'' s dv hy) fun _ z => z.elim⟩
  · intro d' ds acc P hl
    simp only [lcs] at hl
    obtain ⟨ρ2, eb2, _⟩ := bnd_E hl
    exact ⟨_, eb2⟩
/-- what stands in a comprehension -/
structure LcP (G : Gam) (W : WS) (X : Cx) (own : List Nat) (e : Ex) (tg : Tg) (it : Ex) (tt : TT) (x : Expr) : Prop where
  ex : ∃ y z w ifs s p, x = .ListComp y [⟨z, w, ifs, 0⟩] s p ∧ PI X z w (tI G W X.mg X.K it) ∧ BlkOk X.N X.env.scope s (ownL X.N own) ∧
    (∀ (s' : Shared) (H : Hp) (C : Addr) (cl : List (Str × Addr)) (fp : List Addr), PG (X.blk s' H s (compEnvC s cl C X.env) fp) z (gT X.K tg)) ∧
    (∀ (s' : Shared) (H : Hp) (C : Addr) (cl : List (Str × Addr)) (fp : List Addr), PTs (X.blk s' H s (compEnvC s cl C X.env) fp) ifs tt) ∧
    (∀ (s' : Shared) (H : Hp) (C : Addr) (cl : List (Str × Addr)) (fp : List Addr), PE (X.blk s' H s (compEnvC s cl C X.env) fp) y (tE G W0 X.mg X.K e)) ∧
    (∀ v, foldedSetIterable w X.env v = pure v) ∧ tgIn tg own = true
theorem lcP {own : List Nat} {e : Ex} {tg : Tg} {it : Ex} (ihe : Snd G e) (ihi : Snd G it) {X : Cx} {W : WS} {x : Expr} (c : Ctx G W X) (h : chk (.lc own e tg it) X.env.scope X.N x = true) : LcP G W X own e tg it tYes x := by
  simp only [chk] at h
  split at h
  · rename_i y z w s e1
    obtain ⟨p, rfl⟩ := vLc_e e1
    simp only [Bool.and_eq_true] at h
    obtain ⟨⟨⟨⟨⟨⟨hblk, hin⟩, htg⟩, i1, i2⟩, hn⟩, e1, e2⟩, hlt⟩ := h
    have blk := blkOk_by hblk
    have hn' : needT it = true → isTupE z = true := fun t => by rw [t] at hn; simpa using hn
    exact ⟨y, z, w, [], s, p, rfl, ihi.pi i1 X W z w c hn' i2, blk, fun s' H C cl fp => pgT (X := X.blk s' H s (compEnvC s cl C X.env) fp) c.calm c.nd (fun y hy => blk_loc s' H C cl fp y hy) htg, fun s' H C cl fp => pts_nil,
      fun s' H C cl fp => ihe.pe e1 (X.blk s' H s (compEnvC s cl C X.env) fp) W0 y (ctx_blk c blk s' H C cl fp) e2, folded_of i1 i2, hin⟩
  · cases h
theorem lciP {own : List Nat} {e : Ex} {tg : Tg} {it d : Ex} (ihe : Snd G e) (ihi : Snd G it) (ihd : Snd G d) {X : Cx} {W : WS} {x : Expr} (c : Ctx G W X) (h : chk (.lci own e tg it d) X.env.scope X.N x = true) : LcP G W X own e tg it (tT G W0 X.mg X.K d) x := by
  simp only [chk] at h
  split at h
  · rename_i y z w u s e1
    obtain ⟨p, rfl⟩ := vLc_e e1
    simp only [Bool.and_eq_true] at h
    obtain ⟨⟨⟨⟨⟨⟨⟨⟨hblk, hin⟩, htg⟩, i1, i2⟩, hn⟩, e1, e2⟩, d1, d2⟩, hd0⟩, hlt⟩ := h
    have blk := blkOk_by hblk
    have hn' : needT it = true → isTupE z = true := fun t => by rw [t] at hn; simpa using hn
    exact ⟨y, z, w, [u], s, p, rfl, ihi.pi i1 X W z w c hn' i2, blk, fun s' H C cl fp => pgT (X := X.blk s' H s (compEnvC s cl C X.env) fp) c.calm c.nd (fun y hy => blk_loc s' H C cl fp y hy) htg,
      fun s' H C cl fp => pts_one (ihd.pt d1 (X.blk s' H s (compEnvC s cl C X.env) fp) W0 u (ctx_blk c blk s' H C cl fp) hd0 d2),
      fun s' H C cl fp => ihe.pe e1 (X.blk s' H s (compEnvC s cl C X.env) fp) W0 y (ctx_blk c blk s' H C cl fp) e2, folded_of i1 i2, hin⟩
  · cases h
theorem snd_lc {own : List Nat} {e : Ex} {tg : Tg} {it : Ex} (ihe : Snd G e) (ihi : Snd G it) : Snd G (.lc own e tg it) := snd_mk rfl rfl rfl fun X W x c h => by
  obtain ⟨y, z, w, ifs, s, p, rfl, h1, h2, h3, h4, h5, h6, h7⟩ := (lcP ihe ihi c h).ex
  exact peI (pe_lc c.calm c.nd h1 h2 h3 h4 h5 h6) fun σ H Q q => lc_read h7 q
theorem snd_lci {own : List Nat} {e : Ex} {tg : Tg} {it d : Ex} (ihe : Snd G e) (ihi : Snd G it) (ihd : Snd G d) : Snd G (.lci own e tg it d) := snd_mk rfl rfl rfl fun X W x c h => by
  obtain ⟨y, z, w, ifs, s, p, rfl, h1, h2, h3, h4, h5, h6, h7⟩ := (lciP ihe ihi ihd c h).ex
  exact peI (pe_lc c.calm c.nd h1 h2 h3 h4 h5 h6) fun σ H Q q => lci_read h7 q

theorem snd : ∀ e : Ex, Snd G e := by
  intro e
  induction e with
  | var i => exact snd_var i
  | int n => exact snd_int n
  | str n => exact snd_str n
  | bl n => exact snd_bl n
  | non => exact snd_non
  | gl i g => exact snd_gl i g
  | bin o a b iha ihb => exact snd_bin iha ihb
  | neg a iha => exact snd_neg iha
  | cmp o a b iha ihb => exact snd_cmp iha ihb
  | chn o o' a b c iha ihb ihc => exact snd_chn iha ihb ihc
  | and1 a iha => exact snd_and1 iha
  | and a r iha ihr => exact snd_and iha ihr
  | or1 a iha => exact snd_or1 iha
  | or a r iha ihr => exact snd_or iha ihr
  | not a iha => exact snd_not iha
  | ite c a b ihc iha ihb => exact snd_ite ihc iha ihb
  | tup r ih => exact snd_tup ih
  | lst r ih => exact snd_lst ih
  | nil => exact snd_nil
  | cons a r iha ihr => exact snd_cons iha ihr
  | ix a i iha ihi => exact snd_ix iha ihi
  | pix v i ihi => exact snd_pix ihi
  | sl0 a iha => exact snd_sl0 iha
  | slL a lo iha ihl => exact snd_slL iha ihl
  | slH a hi iha ihh => exact snd_slH iha ihh
  | slB a lo hi iha ihl ihh => exact snd_slB iha ihl ihh
  | rv a iha => exact snd_rv iha
  | call i f r ih => exact snd_call ih
  | callT i f r ih => exact snd_callT ih
  | blt f r ih => exact snd_blt ih
  | pl v => exact snd_pl v
  | pin ng a v ih => exact snd_pin ih
  | met m a r iha ihr => exact snd_met iha ihr
  | isi a t ih => exact snd_isi ih
  | isx a t ih => exact snd_isx ih
  | emp => exact snd_emp
  | lc own e tg it ihe ihi => exact snd_lc ihe ihi
  | lci own e tg it c ihe ihi ihc => exact snd_lci ihe ihi ihc
  | itL a ih => exact snd_itL ih
  | itT a ih => exact snd_itT ih
  | itS a ih => exact snd_itS ih
  | rg1 a ih => exact snd_rg1 ih
  | rg2 a b iha ihb => exact snd_rg2 iha ihb
  | rg3 a b c iha ihb ihc => exact snd_rg3 iha ihb ihc
  | zip a b iha ihb => exact snd_zip iha ihb
  | rev a ih => exact snd_rev ih
  | enu a ih => exact snd_enu ih
end
end Pu

set_option Elab.async false
set_option linter.all false
set_option maxRecDepth 100000
set_option maxHeartbeats 8000000
/-! Pu, part O: statements. -/
namespace Pu
open PySem L2

/-! ### views of a statement -/
def vAsg : Stmt → Option (Expr × Expr) | .Assign [t] e _ => some (t, e) | _ => none
def vExp : Stmt → Option Expr | .Expr e _ => some e | _ => none
def vFor : Stmt → Option (Expr × Expr × List Stmt) | .For t i b [] _ => some (t, i, b) | _ => none
def vWhl : Stmt → Option (Expr × List Stmt) | .While c b [] _ => some (c, b) | _ => none
def vIfS : Stmt → Option (Expr × List Stmt × List Stmt) | .If c a b _ => some (c, a, b) | _ => none
def vRet : Stmt → Option Expr | .Return (some e) _ => some e | _ => none
def vRai : Stmt → Option (Str) | .Raise (some (.Call (.Name x _) [.Constant (.str _) _ _] [] _)) none _ => some x | _ => none
def vTry : Stmt → Option (Stmt × Str × Str × Str)
  | .Try [b] [.ExceptHandler (some (.Name x _)) (some n) [.Assign [.Name m _] (.Name n' _) _] _] [] [] _ => if n' = n then some (b, x, n, m) else none
  | _ => none
theorem vTry_e {s : Stmt} {b x n m} (h : vTry s = some (b, x, n, m)) : ∃ p1 p2 p3 p4 p5 p6, s = .Try [b] [.ExceptHandler (some (.Name x p1)) (some n) [.Assign [.Name m p2] (.Name n p3) p4] p5] [] [] p6 := by
  unfold vTry at h
  split at h
  · split at h
    · rename_i e
      subst e
      obtain ⟨rfl, rfl, rfl, rfl⟩ := by simpa using h
      exact ⟨_, _, _, _, _, _, rfl⟩
    · cases h
  · cases h
def vPas : Stmt → Bool | .Pass _ => true | _ => false
theorem vAsg_e {s : Stmt} {t e} (h : vAsg s = some (t, e)) : ∃ p, s = .Assign [t] e p := by
  unfold vAsg at h; split at h
  · obtain ⟨rfl, rfl⟩ := by simpa using h
    exact ⟨_, rfl⟩
  · cases h
theorem vExp_e {s : Stmt} {e} (h : vExp s = some e) : ∃ p, s = .Expr e p := by cases s <;> simp [vExp] at h; subst h; exact ⟨_, rfl⟩
theorem vFor_e {s : Stmt} {t i b} (h : vFor s = some (t, i, b)) : ∃ p, s = .For t i b [] p := by
  unfold vFor at h; split at h
  · obtain ⟨rfl, rfl, rfl⟩ := by simpa using h
    exact ⟨_, rfl⟩
  · cases h
theorem vWhl_e {s : Stmt} {c b} (h : vWhl s = some (c, b)) : ∃ p, s = .While c b [] p := by
  unfold vWhl at h; split at h
  · obtain ⟨rfl, rfl⟩ := by simpa using h
    exact ⟨_, rfl⟩
  · cases h
theorem vIfS_e {s : Stmt} {c a b} (h : vIfS s = some (c, a, b)) : ∃ p, s = .If c a b p := by cases s <;> simp [vIfS] at h; obtain ⟨rfl, rfl, rfl⟩ := h; exact ⟨_, rfl⟩
theorem vRet_e {s : Stmt} {e} (h : vRet s = some e) : ∃ p, s = .Return (some e) p := by
  unfold vRet at h; split at h
  · cases h; exact ⟨_, rfl⟩
  · cases h
theorem vRai_e {s : Stmt} {x} (h : vRai s = some x) : ∃ p q r m k u, s = .Raise (some (.Call (.Name x p) [.Constant (.str m) k q] [] r)) none u := by
  unfold vRai at h; split at h
  · cases h; exact ⟨_, _, _, _, _, _, rfl⟩
  · cases h

def isLcE : Ex → Bool | .lc .. => true | .lci .. => true | _ => false
def isTupI : Ex → Bool | .tup _ => true | _ => false
/-- one statement kind or a block -/
def isB : Sm → Bool | .skip => true | .seq _ _ => true | _ => false

def chkTB (o : Option Nat) (e : Ex) (sc : Scope) (N : List Str) (b : Stmt) : Bool := match o with
  | some k => match vAsg b with
    | some (t, y) => (match vName t with | some z => decide (N[k]? = some z) && locB sc z | none => false) && isE e && chk e sc N y
    | none => false
  | none => match vExp b with
    | some y => (vCall y).isSome && isE e && chk e sc N y
    | none => false
theorem chkTB_e {o : Option Nat} {e : Ex} {sc : Scope} {N : List Str} {b : Stmt} (h : chkTB o e sc N b = true) : isE e = true ∧ ((∃ k z y p q, o = some k ∧ b = .Assign [.Name z p] y q ∧ N[k]? = some z ∧ locB sc z = true ∧ chk e sc N y = true) ∨
    (o = none ∧ ∃ f p as q r, b = .Expr (.Call (.Name f p) as [] q) r ∧ chk e sc N (.Call (.Name f p) as [] q) = true)) := by
  unfold chkTB at h
  split at h
  · split at h
    · rename_i t y e2
      obtain ⟨p, rfl⟩ := vAsg_e e2
      simp only [Bool.and_eq_true] at h
      obtain ⟨⟨h1, h2⟩, h3⟩ := h
      split at h1
      · rename_i z e3
        obtain ⟨py, rfl⟩ := vName_e e3
        simp only [Bool.and_eq_true, decide_eq_true_eq] at h1
        exact ⟨h2, .inl ⟨_, z, y, py, p, rfl, rfl, h1.1, h1.2, h3⟩⟩
      · cases h1
    · cases h
  · split at h
    · rename_i y e2
      obtain ⟨p, rfl⟩ := vExp_e e2
      simp only [Bool.and_eq_true] at h
      obtain ⟨⟨h1, h2⟩, h3⟩ := h
      obtain ⟨⟨f, as⟩, h1⟩ := Option.isSome_iff_exists.mp h1
      obtain ⟨q1, q2, rfl⟩ := vCall_e h1
      exact ⟨h2, .inr ⟨rfl, f, q1, as, q2, p, rfl, h3⟩⟩
    · cases h
def chkS : Sm → Scope → List Str → List Stmt → Bool
  | .skip, _, _, ss => ss.isEmpty
  | .seq s r, sc, N, ss => match ss with
    | st :: sts => !isB s && chkS s sc N [st] && isB r && chkS r sc N sts
    | [] => false
  | .asg i e, sc, N, ss => match ss with
    | [st] => match vAsg st with
      | some (t, x) => (match vName t with | some y => decide (N[i]? = some y) && locB sc y | none => false) && isE e && chk e sc N x
      | none => false
    | _ => false
  | .asgF i e, sc, N, ss => match ss with
    | [st] => match vAsg st with
      | some (t, x) => (match vName t with | some y => decide (N[i]? = some y) && locB sc y | none => false) && isE e && chk e sc N x
      | none => false
    | _ => false
  | .asgT l e, sc, N, ss => match ss with
    | [st] => match vAsg st with
      | some (t, x) => isTupE t && chkT (.t l) sc N t && isE e && chk e sc N x && !isTupI e && !isLcE e
      | none => false
    | _ => false
  | .sti i k e, sc, N, ss => match ss with
    | [st] => match vAsg st with
      | some (t, x) => match vSub t with
        | some (o, y) => notSli y && chkV i sc N o && isE k && chk k sc N y && isE e && chk e sc N x
        | none => false
      | none => false
    | _ => false
  | .app i e, sc, N, ss => match ss with
    | [st] => match vExp st with
      | some x => match vMet x with
        | some (o, n, [y]) => decide (n = "append") && chkV i sc N o && isE e && chk e sc N y && noStar y
        | _ => false
      | none => false
    | _ => false
  | .fz _ s, sc, N, ss => match ss with
    | [st] => !isB s && chkS s sc N [st]
    | _ => false
  | .ite c a b, sc, N, ss => match ss with
    | [st] => match vIfS st with
      | some (x, s1, s2) => okT c x && isE c && chk c sc N x && isB a && chkS a sc N s1 && isB b && chkS b sc N s2
      | none => false
    | _ => false
  | .for tg it b, sc, N, ss => match ss with
    | [st] => match vFor st with
      | some (t, x, s1) => chkT tg sc N t && isI it && chk it sc N x && (!needT it || isTupE t) && isB b && chkS b sc N s1
      | none => false
    | _ => false
  | .whl c b, sc, N, ss => match ss with
    | [st] => match vWhl st with
      | some (x, s1) => okT c x && isE c && chk c sc N x && isB b && chkS b sc N s1
      | none => false
    | _ => false
  | .ret e, sc, N, ss => match ss with
    | [st] => match vRet st with
      | some x => isE e && chk e sc N x
      | none => false
    | _ => false
  | .rai c, sc, _, ss => match ss with
    | [st] => match vRai st with
      | some x => decide (x = c) && glb sc c
      | none => false
    | _ => false
  | .tryK o e c i j, sc, N, ss => match ss with
    | [st] => match vTry st with
      | some (b, x, n, m) => decide (x = c) && glb sc x && decide (N[i]? = some n) && decide (N[j]? = some m) && decide (sc.names.lookup n = some .local) && decide (sc.names.lookup m = some .local) && !(n == ("__debug__" : Str)) && !(n == ("__classdict__" : Str)) &&
        chkTB o e sc N b
      | none => false
    | _ => false
  | .nev, _, _, ss => match ss with
    | [_] => true
    | _ => false
  | .pass, _, _, ss => match ss with
    | [st] => vPas st
    | _ => false
termination_by structural s => s

/-! ### the frame's own cells -/
structure Fm (O0 : Ow) (H0 : Hp) (O : Ow) (H : Hp) : Prop where
  bs : Same H0 H
  nw : ∀ b i, O b = some (some i) → H0 b = none
  fo : ∀ b, O b = some none ↔ ∃ w, O0 b = some w
theorem Fm.ext {O0 O : Ow} {H0 H H' : Hp} (f : Fm O0 H0 O H) (s : Same H H') : Fm O0 H0 O H' := ⟨f.bs.trans s, f.nw, f.fo⟩
theorem Fm.hid {O0 O : Ow} {H0 H H' : Hp} (f : Fm O0 H0 O H) : Pu.hid (frO O) H' = Pu.hid O0 H' := by
  funext b
  unfold Pu.hid frO
  have := f.fo b
  cases e : O0 b with
  | none =>
    cases z : O b with
    | none => rfl
    | some w =>
      cases w with
      | none => have q := this.mp z; rw [e] at q; obtain ⟨w, q⟩ := q; cases q
      | some i => rfl
  | some w => rw [this.mpr ⟨w, e⟩]; rfl

/-- what a refusal's class must have -/
structure Exc1 (K : PySem.W.Frag) (C : Addr) : Prop where
  x : PySem.W.excIn K C [.type "ValueError", .type "Exception", .type "BaseException", .type "object"] "ValueError.__new__" = true
  k : PySem.W.keepIn K (.ref C) = true
  b : PySem.W.subIn K (.ref C) (.type "BaseException") = some true
  t : PySem.W.typeIn K (.ref C) = some (.type "type")
structure SCtx (G : Gam) (W : XK) (X : Cx) (ex : List Str) : Prop where
  ctx : Ctx G (fun _ => W) X
  own : PassesOwn (model X.prog X.w) X.A X.env X.xe
  loc : ∀ y, locB X.env.scope y = true → Loc X.env.scope y ∧ (X.fn y = true ∨ X.env.scope.names.lookup y = some .local)
  tak : Takes X (fun cls d _ H => W cls d H)
  exc : ∀ c ∈ ex, ∃ C, X.mg c = some (.ref C) ∧ Exc1 X.K C
  stk : X.stack = X.env :: X.outer ∧ X.env.frame = some X.env.locals ∧ X.ex = []
/-- the refusals that a text raises -/
def rais : Sm → List Str
  | .seq s r => rais s ++ rais r
  | .fz _ s => rais s
  | .ite _ a b => rais a ++ rais b
  | .for _ _ b => rais b
  | .whl _ b => rais b
  | .rai c => [c]
  | .tryK _ _ c _ _ => [c]
  | _ => []

def tS (G : Gam) (fr : Bool) (W : XK) (mg : Str → Option Value) (K : PySem.W.Frag) (s : Sm) : TS := fun D σ H => ∃ ρ O O0 H0, Ok K O ρ σ H ∧ Fm O0 H0 O H ∧
  wS G fr s ρ (fun ρ' => ∀ σ' O' H', Ok K O' ρ' σ' H' → Fm O0 H0 O' H' → Same (hid O H) (hid O' H') → D.nx σ' H') (postE K fr O0 H0 D.rt) (excE mg H0 W)

theorem psI {X : Cx} {st : Stmt} {t t' : TS} (h : PS X st t) (w : ∀ D σ H, t' D σ H → t D σ H) : PS X st t' := ⟨fun pins s σ H D I q => h.run pins s σ H D I (w _ _ _ q)⟩
theorem pssI {X : Cx} {st : List Stmt} {t t' : TS} (h : PSs X st t) (w : ∀ D σ H, t' D σ H → t D σ H) : PSs X st t' := ⟨fun pins s σ H D I q => h.run pins s σ H D I (w _ _ _ q)⟩

section
variable {K : PySem.W.Frag}
/-- a slot takes a value -/
theorem Fm.keep {O0 O : Ow} {H0 H H' : Hp} (f : Fm O0 H0 O H) (s : Same H H') : Fm O0 H0 O H' := f.ext s

/-- a slot takes a new list of its own -/
def ownO (O : Ow) (a : Addr) (i : Nat) : Ow := fun b => if b = a then some (some i) else O b
theorem ownO_same {O : Ow} {a : Addr} {i : Nat} {H H' : Hp} (s : Same H H') (ha : H a = none) : Same (hid O H) (hid (ownO O a i) H') := fun b o e => by
  have hb : b ≠ a := fun z => by rw [z] at e; have := hid_le _ _ e; rw [ha] at this; cases this
  unfold hid at e ⊢
  unfold ownO
  rw [if_neg hb]
  split at e
  · cases e
  · rename_i q; rw [if_neg q]; exact s _ _ e
theorem ownO_del {O : Ow} {a : Addr} {i : Nat} {H : Hp} : Same (hid O (del a H)) (hid (ownO O a i) H) := fun b o e => by
  unfold hid del at e
  unfold hid ownO
  split at e
  · cases e
  · rename_i q
    split at e
    · cases e
    · rename_i q2
      rw [if_neg q2, if_neg q]
      exact e
theorem Ok.own {O : Ow} {ρ : Ev} {σ : St} {H H' : Hp} {i : Nat} {a : Addr} {xs : List V} {ds : List PyData} (k : Ok K O ρ σ H) (s : Same H H') (ha : H a = none) (h' : H' a = some (.lst xs)) (da : DqA K (hid O (del a H')) xs ds) :
    Ok K (ownO O a i) (ρ.set i (.ow ds)) (σ.set i (some (.ref a))) H' where
  sh := fun j e q => by
    rw [List.getElem?_set] at q
    by_cases h : i = j
    · subst h
      rw [if_pos rfl] at q
      split at q <;> cases q
    · rw [if_neg h] at q
      rw [List.getElem?_set_ne h]
      obtain ⟨v, a1, a2⟩ := k.sh j e q
      exact ⟨v, a1, a2.mono (ownO_same s ha)⟩
  ow := fun j e q => by
    rw [List.getElem?_set] at q
    by_cases h : i = j
    · subst h
      rw [if_pos rfl] at q
      split at q
      · cases q
        refine ⟨a, xs, ?_, ?_, h', da.mono ownO_del⟩
        · rw [List.getElem?_set_self (by have := k.len; omega)]
        · unfold ownO; rw [if_pos rfl]
      · cases q
    · rw [if_neg h] at q
      rw [List.getElem?_set_ne h]
      obtain ⟨b, ys, a1, a2, a3, a4⟩ := k.ow j e q
      refine ⟨b, ys, a1, ?_, s _ _ a3, a4.mono (ownO_same s ha)⟩
      unfold ownO
      rw [if_neg (fun z => by rw [z, ha] at a3; cases a3)]
      exact a2
  live := fun b w e => by
    unfold ownO at e
    split at e
    · rename_i z; rw [z]; exact ⟨_, h'⟩
    · obtain ⟨ys, q⟩ := k.live b w e; exact ⟨ys, s _ _ q⟩
  len := by rw [List.length_set, List.length_set]; exact k.len
theorem Fm.own {O0 O : Ow} {H0 H H' : Hp} {a : Addr} {i : Nat} (f : Fm O0 H0 O H) (l : Live O H) (s : Same H H') (ha : H a = none) : Fm O0 H0 (ownO O a i) H' where
  bs := f.bs.trans s
  nw := fun b j e => by
    unfold ownO at e
    split at e
    · rename_i z; rw [z]; exact f.bs.free ha
    · exact f.nw b j e
  fo := fun b => by
    unfold ownO
    split
    · rename_i z
      constructor
      · intro q; cases q
      · rintro q
        have := (f.fo b).mpr q
        rw [z, l.free ha] at this
        cases this
    · exact f.fo b
/-- an own list changes -/
theorem hid_mut {O : Ow} {a : Addr} {w : Option Nat} {H : Hp} {o : HO} (h : O a = some w) : hid O (upd H a o) = hid O H := by
  funext b
  unfold hid upd
  by_cases e : b = a
  · rw [e, h]; rfl
  · rw [if_neg e]
theorem Ok.mut {O : Ow} {ρ : Ev} {σ : St} {H : Hp} {i : Nat} {a : Addr} {ys : List V} {es : List PyData} (k : Ok K O ρ σ H) (hs : σ[i]? = some (some (.ref a))) (ho : O a = some (some i)) (da : DqA K (hid O H) ys es) :
    Ok K O (ρ.set i (.ow es)) σ (upd H a (.lst ys)) where
  sh := fun j e q => by
    rw [hid_mut ho]
    rw [List.getElem?_set] at q
    by_cases h : i = j
    · subst h
      rw [if_pos rfl] at q
      split at q <;> cases q
    · rw [if_neg h] at q
      exact k.sh j e q
  ow := fun j e q => by
    rw [hid_mut ho]
    rw [List.getElem?_set] at q
    by_cases h : i = j
    · subst h
      rw [if_pos rfl] at q
      split at q
      · cases q
        exact ⟨a, ys, hs, ho, upd_same, da⟩
      · cases q
    · rw [if_neg h] at q
      obtain ⟨b, zs, a1, a2, a3, a4⟩ := k.ow j e q
      refine ⟨b, zs, a1, a2, ?_, a4⟩
      rw [upd_ne (fun z => by rw [z, ho] at a2; cases a2; exact h rfl)]
      exact a3
  live := fun b w e => by
    by_cases z : b = a
    · rw [z]; exact ⟨_, upd_same⟩
    · obtain ⟨zs, q⟩ := k.live b w e
      exact ⟨zs, by rw [upd_ne z]; exact q⟩
  len := by rw [List.length_set]; exact k.len
theorem Fm.mut {O0 O : Ow} {H0 H : Hp} {a : Addr} {i : Nat} {o : HO} (f : Fm O0 H0 O H) (ho : O a = some (some i)) : Fm O0 H0 O (upd H a o) where
  bs := fun b u e => by
    rw [upd_ne (ne_of_none e (f.nw a i ho))]
    exact f.bs _ _ e
  nw := f.nw
  fo := f.fo
/-- an own list is given up -/
def offO (O : Ow) (i : Nat) : Ow := fun b => if O b = some (some i) then none else O b
theorem offO_same {O : Ow} {i : Nat} {H : Hp} : Same (hid O H) (hid (offO O i) H) := fun b o e => by
  unfold hid at e ⊢
  unfold offO
  split at e
  · cases e
  · rename_i q
    have : O b = none := by cases z : O b <;> simp_all
    rw [this]
    simpa using e
theorem Ok.off {O : Ow} {ρ : Ev} {σ : St} {H : Hp} {i : Nat} {ds : List PyData} (k : Ok K O ρ σ H) (hi : ρ[i]? = some (.ow ds)) : Ok K (offO O i) (ρ.set i (.sh (.list ds))) σ H where
  sh := fun j e q => by
    rw [List.getElem?_set] at q
    by_cases h : i = j
    · subst h
      rw [if_pos rfl] at q
      split at q
      · cases q
        obtain ⟨b, ys, a1, a2, a3, a4⟩ := k.ow i ds hi
        refine ⟨_, a1, .lst ?_ (a4.mono offO_same)⟩
        unfold hid offO
        rw [if_pos a2]
        simpa using a3
      · cases q
    · rw [if_neg h] at q
      obtain ⟨v, a1, a2⟩ := k.sh j e q
      exact ⟨v, a1, a2.mono offO_same⟩
  ow := fun j e q => by
    rw [List.getElem?_set] at q
    by_cases h : i = j
    · subst h
      rw [if_pos rfl] at q
      split at q <;> cases q
    · rw [if_neg h] at q
      obtain ⟨b, ys, a1, a2, a3, a4⟩ := k.ow j e q
      refine ⟨b, ys, a1, ?_, a3, a4.mono offO_same⟩
      unfold offO
      rw [if_neg (fun z => by rw [a2] at z; cases z; exact h rfl)]
      exact a2
  live := fun b w e => by
    unfold offO at e
    split at e
    · cases e
    · exact k.live b w e
  len := by rw [List.length_set]; exact k.len
theorem Fm.off {O0 O : Ow} {H0 H : Hp} {i : Nat} (f : Fm O0 H0 O H) : Fm O0 H0 (offO O i) H where
  bs := f.bs
  nw := fun b j e => by
    unfold offO at e
    split at e
    · cases e
    · exact f.nw b j e
  fo := fun b => by
    unfold offO
    split
    · rename_i z
      constructor
      · intro q; cases q
      · intro q
        have := (f.fo b).mpr q
        rw [z] at this
        cases this
    · exact f.fo b
end
end Pu

set_option Elab.async false
set_option linter.all false
set_option maxRecDepth 100000
set_option maxHeartbeats 8000000
/-! Pu, part S: try, and a refusal that is kept. -/
namespace Pu
open PySem L2
theorem exK_ok {P : Program} {w : World} {H : Hp} {h : Heap} {a : Addr} {cls : Value} {oe : Obj} {vs : Array Value} (e : h.get? a = some oe) (z : Zc cls none oe) (d : oe.data = .fields vs) : ObjOk P w H h a (ExK cls a) :=
  ⟨⟨oe, vs, e, z, d⟩, ⟨oe, e⟩, fun _ _ ⟨o, v, q, r⟩ k => ⟨o, v, k o q, r⟩⟩
section
variable {X : Cx} {pins : List (Addr × Obj)} {σ : L2.St} {H : Hp} {s : Shared}
/-- an object that the frame's entry did not know is taken into the books -/
theorem Inv.book {a : Addr} {o : HO} (I : Inv X pins σ H s) (n0 : X.s_0.heap.get? a = none) (hn : H a = none) (nL : a ≠ X.env.locals) (hp : ∀ p ∈ X.pn ++ pins, p.1 ≠ a) (hc : ∀ x c, X.env.cells.lookup x = some c → c ≠ a)
    (new : ObjOk X.prog X.w (upd H a o) s.heap a o) : Inv X pins σ (upd H a o) s := by
  have ne0 : ∀ b u, X.s_0.heap.get? b = some u → b ≠ a := fun b u e z => by rw [z, n0] at e; cases e
  have neH : ∀ b u, H b = some u → b ≠ a := fun b u e z => by rw [z, hn] at e; cases e
  have bb := I.base
  refine { ok := I.ok, os := I.os, bare := I.bare, base := ⟨bb.keep, bb.slot, ?_, bb.there, ?_, ?_, ?_⟩, loc := I.loc, cell := I.cell, free := ?_, freeC := ?_, pin := ?_, hok := ?_, len := I.len }
  · intro b u e n q; rw [upd_ne (ne0 b u e)]; exact bb.free b u e n q
  · intro b xs e; have q := bb.tups b xs e; rw [upd_ne (neH b _ q)]; exact q
  · intro b u v e; have q := bb.frzs b u v e; rw [upd_ne (neH b _ q)]; exact q
  · intro b ps e; obtain ⟨m, q⟩ := bb.tbls b ps e; exact ⟨m, by rw [upd_ne (neH b _ q)]; exact q⟩
  · rw [upd_ne (Ne.symm nL)]; exact I.free
  · intro x c e; rw [upd_ne (hc x c e)]; exact I.freeC x c e
  · intro p h; obtain ⟨p1, p2, p3⟩ := I.pin p h; exact ⟨p1, by rw [upd_ne (hp p h)]; exact p2, p3⟩
  · exact HOk.laidN I.hok (fun _ _ e => e) hn new
/-- what try .. except x as n: m = n wishes of a refusal: it is caught, and kept in m -/
def wKeep (K : PySem.W.Frag) (c : Value) (i j : Nat) (D : Ends) : WX := fun cls d σ H =>
  d = none ∧ PySem.W.exmOne K cls c = some true ∧ ∀ a, H a = none → D.nx (((σ.set i (some (.ref a))).set j (some (.ref a))).set i none) (upd H a (ExK cls a))
variable {x n m : Str} {c : Value} {i j : Nat} {body : List Stmt} {np mp ep ap hp tp : Pos} {tb : WX → TS}
theorem fields_off {h : Heap} {B : Heap} {l : List Env} {a : Addr} {o : Obj} {vs : Array Value} (ff : h.FunFrames B l) (e : h.get? a = some o) (dd : o.data = .fields vs) : a ∉ frs l := fun hm => by
  obtain ⟨_, o', e', q⟩ := ff.mem hm
  rw [e] at e'
  cases e'
  exact q _ dd
theorem ps_keep (hs : X.stack = X.env :: X.outer) (hf : X.env.frame = some X.env.locals) (hN : X.N.Nodup) (hi : X.N[i]? = some n) (hj : X.N[j]? = some m) (hln : X.env.kindOf n = some .local) (hlm : X.env.kindOf m = some .local) (hd1 : (n == ("__debug__" : Str)) = false) (hd2 : (n == ("__classdict__" : Str)) = false) (hc : Names X x c) (hex : X.ex = [])
    (hb : ∀ (W : WX) (pn : List (Addr × Obj)) (xe : Value → Shared → Prop), Takes (X.tr pn xe) W → PassesOwn (model X.prog X.w) X.A X.env xe → PSs (X.tr pn xe) body (tb W)) :
    PS X (.Try body [.ExceptHandler (some (.Name x np)) (some n) [.Assign [.Name m mp] (.Name n ep) ap] hp] [] [] tp) fun D σ H => tb (wKeep X.K c i j D) D σ H := by
  refine ⟨fun pins s σ H D I h => wpAny_Try_except ?_⟩
  have ok := I.ok
  have fra : X.A.frames = some (X.env :: X.outer) := ok.frames.trans (by rw [hs])
  have run1 := (hb (wKeep X.K c i j D) (X.pn ++ pins) (fun e s₁ => wpAny (model X.prog X.w) X.A (noteFrame e X.env) (fun _ s₂ => wpAny (model X.prog X.w) X.A (setFlight e none) (fun _ s₃ =>
    wpAny (model X.prog X.w) X.A (handleBy e X.env [.ExceptHandler (some (.Name x np)) (some n) [.Assign [.Name m mp] (.Name n ep) ap] hp]) (SP X pins D) X.xe s₃) X.xe s₂) X.xe s₁) ?_ PassesOwn.looking).run [] s σ H D (I.toTry _) h
  · refine wpAny_mono run1 ?_ fun _ _ he => he
    intro f s1 r
    match f, r with
    | .next, r => obtain ⟨σ', H', J, q⟩ := r; exact wpAny_execs_nil ⟨σ', H', J.ofTry ok, q⟩
    | .brk, r => obtain ⟨σ', H', J, q⟩ := r; exact ⟨σ', H', J.ofTry ok, q⟩
    | .cont, r => obtain ⟨σ', H', J, q⟩ := r; exact ⟨σ', H', J.ofTry ok, q⟩
    | .ret u, r => obtain ⟨v, σ', H', J, rv, q⟩ := r; exact ⟨v, σ', H', J.ofTry ok, rv, q⟩
  · rintro u s' ⟨a, B, sI, pins', σ', H', cls, d, rfl, J0, nb, up, sky, na, os, ag, rfl, hm, hk⟩
    have J : Inv X pins σ' H' sI := J0.ofTry ok
    have sky1 : Sky B (X.env :: X.outer) a (Zc cls none) X.env.locals s'.heap := hs ▸ sky
    refine Sky.land Zc.steady fra hf sky1 fun h3 fl up3 => ?_
    have J3 : Inv X pins σ' H' { s' with heap := h3 } := J.landed nb fl.1 (up.trans up3) os ag
    obtain ⟨o3, v3, g3, z3, d3⟩ := fl.there
    refine wpAny_handleBy_cons (codeAny_handlers_test ?_) (by intro q; cases q)
    have look : PySem.W.Looks (model X.prog X.w) h3 (typeOf (.ref a)) cls := fun A Q E s k q => wpAny_typeOf_ref (k _ _ g3) (by rw [z3.1]; exact q)
    have off3 := fields_off fl.2.2.1 g3 d3
    have aL : a ≠ X.env.locals := fun z => off3 (List.mem_filterMap.mpr ⟨X.env, List.mem_cons_self, by rw [hf, z]⟩)
    have aF : a ∉ X.fs := fun q => by
      obtain ⟨e, he, q⟩ := List.mem_filterMap.mp q
      exact off3 (List.mem_filterMap.mpr ⟨e, List.mem_cons_of_mem _ he, q⟩)
    have S3 := J3.suite g3 d3 na aL aF
    have name : ∀ {Q E : Value → Shared → Prop}, Q c { s' with heap := h3 } → wpAny (model X.prog X.w) (X.A.mark (some (.ref a))) (eval (.Name x np) X.env) Q E { s' with heap := h3 } := fun q => by
      obtain ⟨n1, n2, n3 | ⟨n3, n4, n5⟩⟩ := hc
      · exact ld_glob (X := X.suite a ((a, o3) :: (X.pn ++ pins))) S3 n1 n3 q n2
      · exact ld_blt (X := X.suite a ((a, o3) :: (X.pn ++ pins))) S3 n1 n3 n4 q n5 n2
    refine name ((PySem.W.exm_one (M := model X.prog X.w) J3.kIn look hm).here ?_)
    refine codeAny_handlers_suite_as (HandSPX.lands_againZ fl fun h4 fl4 up4 => ?_)
    have J4 : Inv X pins σ' H' { s' with heap := h4 } := J.landed nb fl4.1 ((up.trans up3).trans up4) os ag
    obtain ⟨o4, v4, g4, z4, d4⟩ := fl4.there
    have noB : ∀ b o, sI.heap.get? b = some o → b ∉ frs X.stack → b ≠ a := fun b o e hb z => by
      have q := nb b o e hb
      rw [z, fl.2.1] at q
      cases q
    have n0 : X.s_0.heap.get? a = none := by
      cases e : X.s_0.heap.get? a with
      | none => rfl
      | some o =>
        obtain ⟨o', q⟩ := J.base.there a o e (by rw [hex]; exact fun z => nomatch z)
        exact absurd rfl (noB a o' q (by rw [hs]; exact off3))
    have booked : Inv X pins σ' (upd H' a (ExK cls a)) { s' with heap := h4 } := by
      refine Inv.book J4 n0 na aL (fun p hp => ?_) (fun y cc e z => ?_) (exK_ok g4 z4 d4)
      · obtain ⟨p1, p2, p3, p4, _⟩ := J.pin p hp
        refine noB p.1 p.2 p1 ?_
        rw [hs]
        intro q
        obtain ⟨e, he, q⟩ := List.mem_filterMap.mp q
        rcases List.mem_cons.mp he with rfl | he
        · rw [hf] at q; exact p3 (Option.some.inj q).symm
        · exact p4 (List.mem_filterMap.mpr ⟨e, he, q⟩)
      · obtain ⟨v, oc, q1, q2⟩ := J4.cell y cc e
        rw [z] at q1
        have q3 : h4.get? a = some oc := q1
        rw [g4] at q3
        cases q3
        rw [d4] at q2
        cases q2
    have inS : Inv (X.suite a (X.pn ++ pins)) [] σ' (upd H' a (ExK cls a)) { s' with heap := h4 } :=
      { ok := ok.suite _ _, os := booked.os, bare := booked.bare, base := booked.base, loc := booked.loc, cell := booked.cell, free := booked.free, freeC := booked.freeC, pin := fun p hp => booked.pin p (by rw [List.append_nil] at hp; exact hp), hok := booked.hok, len := booked.len }
    refine store_ok (X := X.suite a (X.pn ++ pins)) (v := .ref a) inS hN hi (.inl hln) rfl (fun s5 S5 => ?_) (.inr hln)
    have asg := pss_one (ps_set (X := X.suite a (X.pn ++ pins)) (pos := ap) (pos' := mp) hN hj (.inl hlm) (pe_var (X := X.suite a (X.pn ++ pins)) (pos := ep) hi (.inl hln) hd1 hd2) rfl (.inr hlm))
    have li : i < (σ'.length) := by
      have := (List.getElem?_eq_some_iff.mp hi).1
      rw [J.len]
      exact this
    refine wpAny_mono (asg.run [] s5 _ _ { nx := fun σ6 H6 => σ6 = (σ'.set i (some (.ref a))).set j (some (.ref a)) ∧ H6 = upd H' a (ExK cls a), rt := fun _ _ => False, bk := fun _ _ => False, ct := fun _ _ => False } S5 ⟨.ref a, by rw [List.getElem?_set_self li], rfl, rfl⟩) (fun f s6 r => ?_) fun _ _ z => z.elim
    match f, r with
    | .next, r =>
      obtain ⟨σ6, H6, S6, rfl, rfl⟩ := r
      have I6 : Inv X pins ((σ'.set i (some (.ref a))).set j (some (.ref a))) (upd H' a (ExK cls a)) s6 :=
        { ok := ok, os := S6.os, bare := S6.bare, base := S6.base, loc := S6.loc, cell := S6.cell, free := S6.free, freeC := S6.freeC, pin := fun p hp => S6.pin p (by rw [List.append_nil]; exact hp), hok := S6.hok, len := S6.len }
      exact gone_ok I6 hN hi hln fun s7 I7 => ⟨_, _, I7, hk a na⟩
    | .brk, r => obtain ⟨_, _, _, z⟩ := r; exact z.elim
    | .cont, r => obtain ⟨_, _, _, z⟩ := r; exact z.elim
    | .ret u, r => obtain ⟨_, _, _, _, _, z⟩ := r; exact z.elim
end
end Pu

set_option Elab.async false
set_option linter.all false
set_option maxRecDepth 100000
set_option maxHeartbeats 8000000
/-! Pu, part P: statements hold. -/
namespace Pu
open PySem L2
structure SndS (G : Gam) (fr : Bool) (s : Sm) : Prop where
  ps : isB s = false → ∀ (X : Cx) (W : XK) (ex : List Str) (st : Stmt), SCtx G W X ex → (∀ c ∈ rais s, c ∈ ex) → chkS s X.env.scope X.N [st] = true → PS X st (tS G fr W X.mg X.K s)
  pss : isB s = true → ∀ (X : Cx) (W : XK) (ex : List Str) (sts : List Stmt), SCtx G W X ex → (∀ c ∈ rais s, c ∈ ex) → chkS s X.env.scope X.N sts = true → PSs X sts (tS G fr W X.mg X.K s)
section
variable {G : Gam} {fr : Bool}
theorem sndS_mk {s : Sm} (hb : isB s = false) (ps : ∀ (X : Cx) (W : XK) (ex : List Str) (st : Stmt), SCtx G W X ex → (∀ c ∈ rais s, c ∈ ex) → chkS s X.env.scope X.N [st] = true → PS X st (tS G fr W X.mg X.K s)) : SndS G fr s :=
  ⟨fun _ => ps, fun t => (by rw [hb] at t; cases t)⟩
theorem sndS_skip : SndS G fr .skip := by
  refine ⟨fun t => (by cases t), fun _ X W ex sts c hr h => ?_⟩
  simp only [chkS] at h
  cases sts with
  | nil =>
    refine pssI pss_nil fun D σ H q => ?_
    obtain ⟨ρ, O, O0, H0, ok, f, h⟩ := q
    exact h σ O H ok f (Same.refl _)
  | cons => cases h
theorem sndS_seq {s r : Sm} (ihs : SndS G fr s) (ihr : SndS G fr r) : SndS G fr (.seq s r) := by
  refine ⟨fun t => (by cases t), fun _ X W ex sts c hr h => ?_⟩
  simp only [chkS] at h
  split at h
  · rename_i st sts
    simp only [Bool.and_eq_true, Bool.not_eq_true'] at h
    obtain ⟨⟨⟨h1, h2⟩, h3⟩, h4⟩ := h
    refine pssI (pss_cons (ihs.ps h1 X W ex st c (fun x hx => hr x (List.mem_append_left _ hx)) h2) (ihr.pss h3 X W ex sts c (fun x hx => hr x (List.mem_append_right _ hx)) h4)) fun D σ H q => ?_
    obtain ⟨ρ, O, O0, H0, ok, f, h⟩ := q
    refine ⟨ρ, O, O0, H0, ok, f, wS_mono h (fun ρ1 h1 σ1 O1 H1 ok1 f1 s1 => ?_) (fun _ z => z) fun _ z => z⟩
    exact ⟨ρ1, O1, O0, H0, ok1, f1, wS_mono h1 (fun ρ2 h2 σ2 O2 H2 ok2 f2 s2 => h2 σ2 O2 H2 ok2 f2 (s1.trans s2)) (fun _ z => z) fun _ z => z⟩
  · cases h
/-- name = value -/
theorem ps_put {X : Cx} {W : WS} {e : Ex} {i : Nat} {y : Str} {py p : Pos} {x : Expr} (c : Ctx G W X) (hN : X.N[i]? = some y) (ly : Loc X.env.scope y ∧ (X.fn y = true ∨ X.env.scope.names.lookup y = some .local)) (he : isE e = true) (hx : chk e X.env.scope X.N x = true) :
    PS X (.Assign [.Name y py] x p) (tAsg (tE G W X.mg X.K e) (gName i)) := by
  have pe := (snd (G := G) e).pe he X W x c hx
  by_cases hl : ∃ z gs s q, x = .ListComp z gs s q
  · have key : ∀ {own : List Nat} {a : Ex} {tg : Tg} {it : Ex} {tt : TT}, LcP G W X own a tg it tt x → (∀ σ H Q, tE G W X.mg X.K e σ H Q → tLc (tI G W X.mg X.K it) (gT X.K tg) tt (tE G W0 X.mg X.K a) ((ownL X.N own).map (·.2)) σ H Q) → PS X (.Assign [.Name y py] x p) (tAsg (tE G W X.mg X.K e) (gName i)) := fun {own a tg it tt} L rd => by
      obtain ⟨z, t, w, ifs, s, q, rfl, h1, h2, h3, h4, h5, h6, h7⟩ := L.ex
      by_cases hs : (X.env.scope.names.lookup y = some .local) ∧ (py.line == q.line) = true ∧ (s.names.any fun (n, k) => n == y && (k == .local || k == .cell)) = false
      · exact psI (ps_setLc c.calm c.nd hN hs.1 (sw_true c.kd hs.1 hs.2.1 hs.2.2) h1 h2 h3 h4 h5 h6) fun D σ H qq => rd σ H _ qq
      · refine ps_set c.nd hN ly.1 pe ?_ ly.2
        have hb : X.env.blockKind = .function := by unfold Env.blockKind; rw [c.kd]; rfl
        unfold swapsWith
        simp only [hb]
        show (pure _ : Sem Bool) = pure false
        congr 1
        have hk : X.env.kindOf y = X.env.scope.names.lookup y := rfl
        rw [hk]
        by_cases a1 : X.env.scope.names.lookup y = some .local
        · by_cases a2 : (py.line == q.line) = true
          · have a3 : (s.names.any fun (n, k) => n == y && (k == .local || k == .cell)) = true := by
              cases z3 : (s.names.any fun (n, k) => n == y && (k == .local || k == .cell)) with
              | true => rfl
              | false => exact absurd ⟨a1, a2, z3⟩ hs
            rw [a3]
            simp
          · have : (py.line == q.line) = false := by simpa using a2
            simp only [Expr.pos, this]
            simp
        · have : (X.env.scope.names.lookup y == some .local) = false := by simpa using a1
          rw [this]
          simp
    have isl : isLcE e = true := by
      obtain ⟨z, gs, s, q, rfl⟩ := hl
      cases e <;> first | rfl | (exfalso; simp [chk, chkV, vName, vConst, vEmp, vBin, vUn, vCmp1, vCmp2, vBool, vIf, vTup, vLst, vSub, vCall, vMet, isE, isA, isI] at he hx; done)
    cases e <;> first | (cases isl; done) | skip
    · exact key (lcP (snd _) (snd _) c hx) fun σ H Q q => lc_read (by obtain ⟨_, _, _, _, _, _, _, _, _, _, _, _, _, h7⟩ := (lcP (snd _) (snd _) c hx).ex; exact h7) q
    · exact key (lciP (snd _) (snd _) (snd _) c hx) fun σ H Q q => lci_read (by obtain ⟨_, _, _, _, _, _, _, _, _, _, _, _, _, h7⟩ := (lciP (snd _) (snd _) (snd _) c hx).ex; exact h7) q
  · refine ps_set c.nd hN ly.1 pe ?_ ly.2
    cases x <;> first | rfl | skip
    · exact absurd ⟨_, _, _, _, rfl⟩ hl
    all_goals (exfalso; cases e <;> simp [chk, chkV, vName, vConst, vEmp, vBin, vUn, vCmp1, vCmp2, vBool, vIf, vTup, vLst, vSub, vCall, vMet, vLc, isE, isA, isI] at he hx)
theorem sndS_asg {i : Nat} {e : Ex} : SndS G fr (.asg i e) := sndS_mk rfl fun X W ex st c hr h => by
  simp only [chkS] at h
  split at h
  · rename_i t x e1
    obtain ⟨p, rfl⟩ := vAsg_e e1
    simp only [Bool.and_eq_true] at h
    obtain ⟨⟨h1, h2⟩, h3⟩ := h
    split at h1
    · rename_i y e2
      obtain ⟨py, rfl⟩ := vName_e e2
      simp only [Bool.and_eq_true, decide_eq_true_eq] at h1
      refine psI (ps_put c.ctx h1.1 (c.loc _ h1.2) h2 h3) fun D σ H q => ?_
      obtain ⟨ρ, O, O0, H0, ok, f, h⟩ := q
      refine ⟨ρ, O, ok, wE_mono h (fun d hd v H1 s1 dv _ => ?_) fun _ z => z.mono f.bs⟩
      exact hd _ O H1 ((ok.ext s1).set dv) (f.ext s1) (hid_same s1)
    · cases h1
  · cases h
theorem sndS_asgF {i : Nat} {e : Ex} : SndS G fr (.asgF i e) := sndS_mk rfl fun X W ex st c hr h => by
  simp only [chkS] at h
  split at h
  · rename_i t x e1
    obtain ⟨p, rfl⟩ := vAsg_e e1
    simp only [Bool.and_eq_true] at h
    obtain ⟨⟨h1, h2⟩, h3⟩ := h
    split at h1
    · rename_i y e2
      obtain ⟨py, rfl⟩ := vName_e e2
      simp only [Bool.and_eq_true, decide_eq_true_eq] at h1
      refine psI (ps_put c.ctx h1.1 (c.loc _ h1.2) h2 h3) fun D σ H q => ?_
      obtain ⟨ρ, O, O0, H0, ok, f, hf, h⟩ := q
      refine ⟨ρ, O, ok, wE_mono h (fun d hd v H1 s1 dv fl => ?_) fun _ z => z.mono f.bs⟩
      unfold ofL at hd
      split at hd
      · rename_i ds
        obtain ⟨a, xs, rfl, ha, h', da⟩ := fl hf ds rfl
        exact hd _ (ownO O a i) H1 (ok.own s1 ha h' da) (f.own ok.live s1 ha) (ownO_same s1 ha)
      · exact hd.elim
    · cases h1
  · cases h
theorem sndS_asgT {l : List Nat} {e : Ex} : SndS G fr (.asgT l e) := sndS_mk rfl fun X W ex st c hr h => by
  simp only [chkS] at h
  split at h
  · rename_i t x e1
    obtain ⟨p, rfl⟩ := vAsg_e e1
    simp only [Bool.and_eq_true, Bool.not_eq_true'] at h
    obtain ⟨⟨⟨⟨⟨h1, h2⟩, h3⟩, h4⟩, h5⟩, h6⟩ := h
    obtain ⟨es, he⟩ := Option.isSome_iff_exists.mp h1
    obtain ⟨kk, tp, rfl⟩ := vTup_e he
    have pe := (snd (G := G) e).pe h3 X (fun _ => W) x c.ctx h4
    have nt : ∀ a b d, x ≠ .Tuple a b d := by
      rintro a b d rfl
      cases e <;> first | (cases h5; done) | (simp [chk, chkV, vName, vConst, vEmp, vBin, vUn, vCmp1, vCmp2, vBool, vIf, vLst, vSub, vCall, vMet, vLc, isE, isA, isI] at h3 h4; done)
    refine psI (ps_asg pe (pgT c.ctx.calm c.ctx.nd c.loc h2) ?_ ?_ rfl) fun D σ H q => ?_
    · show swapsWith x (some (.Tuple es kk tp)) p.line X.env = pure false
      cases x <;> rfl
    · cases x <;> first | rfl | exact absurd rfl (nt _ _ _)
    · obtain ⟨ρ, O, O0, H0, ok, f, h⟩ := q
      refine ⟨ρ, O, ok, wE_mono h (fun d hd v H1 s1 dv _ => ?_) fun _ z => z.mono f.bs⟩
      refine gT_run (ok.ext s1) dv hd fun ρ1 σ1 ok1 k1 _ => ?_
      exact k1 _ O H1 ok1 (f.ext s1) (hid_same s1)
  · cases h
theorem rdO_run {K : PySem.W.Frag} {ρ : Ev} {O : Ow} {σ : St} {H : Hp} {i : Nat} {P : List PyData → Prop} (ok : Ok K O ρ σ H) (h : rdO ρ i P) : ∃ ds a xs, ρ[i]? = some (.ow ds) ∧ σ[i]? = some (some (.ref a)) ∧ O a = some (some i) ∧ H a = some (.lst xs) ∧ DqA K (hid O H) xs ds ∧ P ds := by
  unfold rdO at h
  split at h
  · rename_i ds e
    obtain ⟨a, xs, h1, h2, h3, h4⟩ := ok.ow i ds e
    exact ⟨ds, a, xs, e, h1, h2, h3, h4, h⟩
  · exact h.elim
theorem sndS_sti {i : Nat} {k e : Ex} : SndS G fr (.sti i k e) := sndS_mk rfl fun X W ex st c hr h => by
  simp only [chkS] at h
  split at h
  · rename_i t x e1
    obtain ⟨p, rfl⟩ := vAsg_e e1
    split at h
    · rename_i o y e2
      obtain ⟨p2, rfl⟩ := vSub_e e2
      simp only [Bool.and_eq_true] at h
      obtain ⟨⟨⟨⟨⟨h0, h1⟩, h2⟩, h3⟩, h4⟩, h5⟩ := h
      have pe := (snd (G := G) e).pe h4 X (fun _ => W) x c.ctx h5
      have pk := (snd (G := G) k).pe h2 X (fun _ => W) y c.ctx h3
      refine psI (ps_asg pe (pg_sub (pe_slot h1).1 pk set_list (fun v => by cases y <;> first | rfl | simp [notSli] at h0)) ?_ ?_ rfl) fun D σ H q => ?_
      · show swapsWith x (some (.Subscript o y p2)) p.line X.env = pure false
        cases x <;> rfl
      · cases x <;> rfl
      · obtain ⟨ρ, O, O0, H0, ok, f, h⟩ := q
        refine ⟨ρ, O, ok, wE_mono h (fun d hd v H1 s1 dv _ => ?_) fun _ z => z.mono f.bs⟩
        obtain ⟨ds, a, xs, hρ, hs, hO, hH, da, hd⟩ := rdO_run (ok.ext s1) hd
        refine ⟨_, hs, ρ, O, ok.ext s1, wE_mono hd (fun yd hy u H2 s2 du _ => ?_) fun _ z => z.mono (f.bs.trans s1)⟩
        obtain ⟨j, rfl, hj⟩ := ofI_run du hy
        split at hj
        · rename_i n en
          have s12 := s1.trans s2
          have ok2 := ok.ext s12
          refine ⟨a, xs, j, n, rfl, rfl, s2 _ _ hH, by rw [da.len]; exact en, ?_⟩
          refine hj σ O _ (ok2.mut hs hO ((da.mono (hid_same s2)).set n (dv.mono (hid_same s2)))) ((f.ext s12).mut hO) ?_
          rw [hid_mut hO]
          exact hid_same s12
        · exact hj.elim
    · cases h
  · cases h
theorem sndS_app {i : Nat} {e : Ex} : SndS G fr (.app i e) := sndS_mk rfl fun X W ex st c hr h => by
  simp only [chkS] at h
  split at h
  · rename_i x e1
    obtain ⟨p, rfl⟩ := vExp_e e1
    split at h
    · rename_i o n y e2
      obtain ⟨p2, q2, rfl, hl⟩ := vMet_e e2
      simp only [Bool.and_eq_true, decide_eq_true_eq] at h
      obtain ⟨⟨⟨⟨rfl, h1⟩, h2⟩, h3⟩, h4⟩ := h
      have pe := (snd (G := G) e).pe h2 X (fun _ => W) y c.ctx h3
      obtain ⟨po, yy, pp, ey⟩ := pe_slot h1
      have hb : attributeBase o "append" X.env (eval o X.env) = eval o X.env := by rw [ey]; rfl
      refine psI (ps_expr (pe_bm PySem.F.plainAttrs_list PySem.F.slot_list_append PySem.F.type_list_append mt_append po (pa_cons pe pa_nil (star_cons h4)) hb (few_of (by simp [h4]) (by simp)) hl (star_cons h4) rfl)) fun D σ H q => ?_
      obtain ⟨ρ, O, O0, H0, ok, f, h⟩ := q
      obtain ⟨ds, a, xs, hρ, hs, hO, hH, da, h⟩ := rdO_run ok h
      refine ⟨_, hs, .inl ⟨rfl, _, .inl (.inl hH)⟩, ρ, O, ok, wE_mono h (fun d hd v H1 s1 dv _ => ?_) fun _ z => z.mono f.bs⟩
      refine ⟨a, xs, v, rfl, rfl, s1 _ _ hH, by rw [da.len]; exact hd.1, ?_⟩
      refine hd.2 σ O _ ((ok.ext s1).mut hs hO ((da.mono (hid_same s1)).app (.cons dv .nil))) ((f.ext s1).mut hO) ?_
      rw [hid_mut hO]
      exact hid_same s1
    · cases h
  · cases h
theorem sndS_fz {i : Nat} {s : Sm} (ih : SndS G fr s) : SndS G fr (.fz i s) := sndS_mk rfl fun X W ex st c hr h => by
  simp only [chkS, Bool.and_eq_true, Bool.not_eq_true'] at h
  refine psI (ih.ps h.1 X W ex st c hr h.2) fun D σ H q => ?_
  obtain ⟨ρ, O, O0, H0, ok, f, h⟩ := q
  obtain ⟨ds, a, xs, hρ, hs, hO, hH, da, h⟩ := rdO_run ok h
  exact ⟨_, offO O i, O0, H0, ok.off hρ, f.off, wS_mono h (fun ρ1 h1 σ1 O1 H1 ok1 f1 s1 => h1 σ1 O1 H1 ok1 f1 (offO_same.trans s1)) (fun _ z => z) fun _ z => z⟩
theorem sndS_ite {d : Ex} {a b : Sm} (iha : SndS G fr a) (ihb : SndS G fr b) : SndS G fr (.ite d a b) := sndS_mk rfl fun X W ex st c hr h => by
  simp only [chkS] at h
  split at h
  · rename_i x s1 s2 e1
    obtain ⟨p, rfl⟩ := vIfS_e e1
    simp only [Bool.and_eq_true] at h
    obtain ⟨⟨⟨⟨⟨⟨h1, h2⟩, h3⟩, h4⟩, h5⟩, h6⟩, h7⟩ := h
    refine psI (ps_if ((snd (G := G) d).pt h2 X (fun _ => W) x c.ctx h1 h3) (iha.pss h4 X W ex s1 c (fun x hx => hr x (List.mem_append_left _ hx)) h5) (ihb.pss h6 X W ex s2 c (fun x hx => hr x (List.mem_append_right _ hx)) h7)) fun D σ H q => ?_
    obtain ⟨ρ, O, O0, H0, ok, f, h⟩ := q
    refine ⟨frz ρ, frO O, ok.fr, wE_mono h (fun t ht => ?_) fun _ z => z.mono f.bs⟩
    unfold postT
    refine ofB_mono ht fun k hk H1 s1 => ?_
    cases k with
    | true => exact ⟨ρ, O, O0, H0, ok.ext s1, f.ext s1, wS_mono hk (fun ρ1 h1 σ1 O1 H1 ok1 f1 s2 => h1 σ1 O1 H1 ok1 f1 ((hid_same s1).trans s2)) (fun _ z => z) fun _ z => z⟩
    | false => exact ⟨ρ, O, O0, H0, ok.ext s1, f.ext s1, wS_mono hk (fun ρ1 h1 σ1 O1 H1 ok1 f1 s2 => h1 σ1 O1 H1 ok1 f1 ((hid_same s1).trans s2)) (fun _ z => z) fun _ z => z⟩
  · cases h
theorem sndS_for {tg : Tg} {it : Ex} {b : Sm} (ihb : SndS G fr b) : SndS G fr (.for tg it b) := sndS_mk rfl fun X W ex st c hr h => by
  simp only [chkS] at h
  split at h
  · rename_i t x ss e1
    obtain ⟨p, rfl⟩ := vFor_e e1
    simp only [Bool.and_eq_true] at h
    obtain ⟨⟨⟨⟨⟨h1, h2⟩, h3⟩, h4⟩, h5⟩, h6⟩ := h
    have hn' : needT it = true → isTupE t = true := fun z => by rw [z] at h4; simpa using h4
    refine psI (ps_for c.own c.ctx.calm ((snd (G := G) it).pi h2 X (fun _ => W) t x c.ctx hn' h3) (pgT c.ctx.calm c.ctx.nd c.loc h1) (ihb.pss h5 X W ex ss c hr h6) (folded_of h2 h3)) fun D σ H q => ?_
    obtain ⟨ρ, O, O0, H0, ok, f, h⟩ := q
    refine ⟨ρ, O, ok, wE_mono h (fun t ht => ofL_mono ht fun ds hd J H1 s1 wk => ?_) fun _ z => z.mono f.bs⟩
    obtain ⟨n, Gd, Y, w, rfl, hg, hy⟩ := wk.ex
    refine for_it w (fun i σ' H' => ∃ ρ' O', Ok X.K O' ρ' σ' H' ∧ Fm O0 H0 O' H' ∧ Same (hid O H1) (hid O' H') ∧
      wF tg (wS G fr b) (fun ρ' => ∀ σ' O' H', Ok X.K O' ρ' σ' H' → Fm O0 H0 O' H' → Same (hid O H) (hid O' H') → D.nx σ' H') (postE X.K fr O0 H0 D.rt) (excE X.mg H0 W) (ds.drop i) ρ')
      ⟨ρ, O, ok.ext s1, f.ext s1, Same.refl _, hd⟩ (fun i σ' H' hi p => ?_) (fun i x' σ' H' H2 hi p y => ?_) (fun σ' H' p => ?_)
    · obtain ⟨ρ', O', ok', f', sm, _⟩ := p
      exact hg H' O' sm
    · obtain ⟨ρ', O', ok', f', sm, hw⟩ := p
      obtain ⟨s3, d, hd', dx⟩ := hy i H' x' H2 O' hi y sm ok'.live
      have edrop : ds.drop i = d :: ds.drop (i + 1) := by
        obtain ⟨hlt, e⟩ := List.getElem?_eq_some_iff.mp hd'
        rw [List.drop_eq_getElem_cons hlt, e]
      rw [edrop] at hw
      simp only [wF] at hw
      refine gT_run (ok'.ext s3) dx hw fun ρ1 σ1 ok1 hb1 _ => ?_
      refine ⟨ρ1, O', O0, H0, ok1, f'.ext s3, wS_mono hb1 (fun ρ2 h2 σ2 O2 H3 ok2 f2 s4 => ?_) (fun _ z => z) fun _ z => z⟩
      exact ⟨ρ2, O2, ok2, f2, (sm.trans (hid_same s3)).trans s4, h2⟩
    · obtain ⟨ρ', O', ok', f', sm, hw⟩ := p
      rw [List.drop_length] at hw
      exact hw σ' O' H' ok' f' ((hid_same s1).trans sm)
  · cases h
theorem sndS_whl {d : Ex} {b : Sm} (ihb : SndS G fr b) : SndS G fr (.whl d b) := sndS_mk rfl fun X W ex st c hr h => by
  simp only [chkS] at h
  split at h
  · rename_i x ss e1
    obtain ⟨p, rfl⟩ := vWhl_e e1
    simp only [Bool.and_eq_true] at h
    obtain ⟨⟨⟨⟨h1, h2⟩, h3⟩, h4⟩, h5⟩ := h
    refine psI (ps_while c.own ((snd (G := G) d).pt h2 X (fun _ => W) x c.ctx h1 h3) (ihb.pss h4 X W ex ss c hr h5)) fun D σ H q => ?_
    obtain ⟨ρ, O, O0, H0, ok, f, n, h⟩ := q
    refine ⟨fun m σ' H' => ∃ ρ' O', Ok X.K O' ρ' σ' H' ∧ Fm O0 H0 O' H' ∧ Same (hid O H) (hid O' H') ∧
      wW G d (wS G fr b) (fun ρ' => ∀ σ' O' H', Ok X.K O' ρ' σ' H' → Fm O0 H0 O' H' → Same (hid O H) (hid O' H') → D.nx σ' H') (postE X.K fr O0 H0 D.rt) (excE X.mg H0 W) m ρ',
      ⟨n, ρ, O, ok, f, Same.refl _, h⟩, fun m σ' H' hw => ?_⟩
    obtain ⟨ρ', O', ok', f', sm, hw⟩ := hw
    cases m with
    | zero => exact hw.elim
    | succ m =>
      simp only [wW] at hw
      refine ⟨frz ρ', frO O', ok'.fr, wE_mono hw (fun t ht => ?_) fun _ z => z.mono f'.bs⟩
      unfold postT
      refine ofB_mono ht fun k hk H1 s1 => ?_
      cases k with
      | true =>
        refine ⟨fun σ2 H2 => ∃ ρ2 O2, Ok X.K O2 ρ2 σ2 H2 ∧ Fm O0 H0 O2 H2 ∧ Same (hid O H) (hid O2 H2) ∧ wW G d (wS G fr b) (fun ρ' => ∀ σ' O' H', Ok X.K O' ρ' σ' H' → Fm O0 H0 O' H' → Same (hid O H) (hid O' H') → D.nx σ' H') (postE X.K fr O0 H0 D.rt) (excE X.mg H0 W) m ρ2, fun σ2 H2 z => ⟨m, Nat.lt_succ_self _, z⟩, ρ', O', O0, H0, ok'.ext s1, f'.ext s1, wS_mono hk (fun ρ2 h2 σ2 O2 H2 ok2 f2 s2 => ?_) (fun _ z => z) fun _ z => z⟩
        exact ⟨ρ2, O2, ok2, f2, (sm.trans (hid_same s1)).trans s2, h2⟩
      | false => exact (show ∀ σ' O' H', Ok X.K O' ρ' σ' H' → Fm O0 H0 O' H' → Same (hid O H) (hid O' H') → D.nx σ' H' from hk) σ' O' H1 (ok'.ext s1) (f'.ext s1) (sm.trans (hid_same s1))
  · cases h
theorem rdV_fr {ρ : Ev} {i : Nat} {P : PyData → Prop} (h : rdV (frz ρ) i P) : (∃ d, ρ[i]? = some (.sh d) ∧ P d) ∨ (∃ ds, ρ[i]? = some (.ow ds) ∧ P (.list ds)) := by
  unfold rdV at h
  rw [List.getElem?_map] at h
  cases e : ρ[i]? with
  | none => rw [e] at h; exact h.elim
  | some s =>
    rw [e] at h
    cases s with
    | no => exact h.elim
    | sh d => exact .inl ⟨d, rfl, h⟩
    | ow ds => exact .inr ⟨ds, rfl, h⟩
theorem sndS_ret {e : Ex} : SndS G fr (.ret e) := sndS_mk rfl fun X W ex st c hr h => by
  simp only [chkS] at h
  split at h
  · rename_i x e1
    obtain ⟨p, rfl⟩ := vRet_e e1
    simp only [Bool.and_eq_true] at h
    have gen : (∀ ρ, frR G e ρ = true → frE G e = true) → PS X (.Return (some x) p) (tS G fr W X.mg X.K (.ret e)) := fun hf => by
      refine psI (ps_ret ((snd (G := G) e).pe h.1 X (fun _ => W) x c.ctx h.2)) fun D σ H q => ?_
      obtain ⟨ρ, O, O0, H0, ok, f, hfr, h⟩ := q
      refine ⟨frz ρ, frO O, ok.fr, wE_mono h (fun d hd v H1 s1 dv fl => ?_) fun _ z => z.mono f.bs⟩
      rw [f.hid] at dv
      refine hd v H1 (f.bs.trans s1) dv fun z ds e => ?_
      obtain ⟨a, xs, e1, e2, e3, e4⟩ := fl (hf ρ (hfr z)) ds e
      rw [f.hid] at e4
      exact ⟨a, xs, e1, f.bs.free e2, e3, e4⟩
    by_cases hv : ∃ i, e = .var i
    · obtain ⟨i, rfl⟩ := hv
      refine psI (ps_ret (pe_slot h.2).1) fun D σ H q => ?_
      obtain ⟨ρ, O, O0, H0, ok, f, hfr, h⟩ := q
      rcases rdV_fr h with ⟨d, e1, hp⟩ | ⟨ds, e1, hp⟩
      · obtain ⟨u, e2, du⟩ := ok.sh i d e1
        refine ⟨u, e2, hp u H f.bs (by rw [← f.hid]; exact du.mono hid_fr) fun z ds e => ?_⟩
        have z2 := hfr z
        simp only [frR, e1] at z2
        cases z2
      · obtain ⟨a, xs, h1, h2, h3, h4⟩ := ok.ow i ds e1
        have s1 : Same (hid O H) (hid O0 (del a H)) := fun b o e => by
          have hb : b ≠ a := fun z => by
            subst z
            unfold hid at e
            rw [h2] at e
            cases e
          have := hid_fr (O := O) (H := H) _ _ e
          rw [f.hid] at this
          unfold hid at this ⊢
          unfold del
          rw [if_neg hb]
          exact this
        have f0 : O0 a = none := by
          cases z : O0 a with
          | none => rfl
          | some w => have := (f.fo a).mpr ⟨w, z⟩; rw [h2] at this; cases this
        refine ⟨_, h1, hp _ H f.bs (.lst ?_ (h4.mono (s1.trans hid_del))) fun z ds' e => ?_⟩
        · unfold hid; rw [f0]; simpa using h3
        · cases e
          exact ⟨a, xs, rfl, f.nw a i h2, h3, h4.mono s1⟩
    · refine gen fun ρ z => ?_
      cases e <;> first | exact z | exact absurd ⟨_, rfl⟩ hv
  · cases h
theorem sndS_rai {cl : Str} : SndS G fr (.rai cl) := sndS_mk rfl fun X W ex st c hr h => by
  simp only [chkS] at h
  split at h
  · rename_i x e1
    obtain ⟨p, q, r, m, k, u, rfl⟩ := vRai_e e1
    simp only [Bool.and_eq_true, decide_eq_true_eq] at h
    obtain ⟨rfl, hg⟩ := h
    obtain ⟨g1, g2, g3⟩ := glb_of hg
    obtain ⟨C, mC, F⟩ := c.exc x (hr x (by simp [rais]))
    refine psI (ps_raise c.ctx.calm c.tak (pmk_own PySem.F.excBase_ValueError F.x mC F.k (raises_own F.b F.t) g1 g2)) fun D σ H q => ?_
    obtain ⟨ρ, O, O0, H0, ok, f, h⟩ := q
    exact (show excE X.mg H0 W x from h) C H mC f.bs
  · cases h
theorem sndS_nev : SndS G fr .nev := sndS_mk rfl fun X W ex st c hr h =>
  psI (ps_never (st := st)) fun D σ H q => by
    obtain ⟨ρ, O, O0, H0, ok, f, h⟩ := q
    exact h
theorem sndS_pass : SndS G fr .pass := sndS_mk rfl fun X W ex st c hr h => by
  simp only [chkS] at h
  cases st <;> first | (cases h; done) | skip
  refine psI ps_pass fun D σ H q => ?_
  obtain ⟨ρ, O, O0, H0, ok, f, h⟩ := q
  exact h σ O H ok f (Same.refl _)
theorem sndS_tryK {o : Option Nat} {e : Ex} {cn : Str} {i j : Nat} : SndS G fr (.tryK o e cn i j) := sndS_mk rfl fun X W ex st c hr h => by
  simp only [chkS] at h
  split at h
  · rename_i b x n m e1
    obtain ⟨p1, p2, p3, p4, p5, p6, rfl⟩ := vTry_e e1
    simp only [Bool.and_eq_true, decide_eq_true_eq, Bool.not_eq_true'] at h
    obtain ⟨⟨⟨⟨⟨⟨⟨⟨rfl, hg⟩, hi⟩, hj⟩, ln⟩, lm⟩, d1⟩, d2⟩, hb⟩ := h
    obtain ⟨C, mC, EC⟩ := c.exc x (hr x (by simp [rais]))
    obtain ⟨w1, w2, w3⟩ := glb_of hg
    have body : ∀ (W' : WX) (pn : List (Addr × Obj)) (xe : Value → Shared → Prop), Takes (X.tr pn xe) W' → PassesOwn (model X.prog X.w) X.A X.env xe →
        PSs (X.tr pn xe) [b] (fun D σ H => ∃ ρ O, Ok X.K O ρ σ H ∧ wE G e ρ (postE X.K (frE G e) O H (fun v H' => D.nx (match o with | some k => σ.set k (some v) | none => σ) H')) (excE X.mg H (WE W' σ))) := fun W' pn xe tk own => by
      have c' : Ctx G (fun σ => WE W' σ) (X.tr pn xe) := ⟨c.ctx.calm, c.ctx.nd, c.ctx.kd, c.ctx.fn, c.ctx.gl, c.ctx.bt, fun σ => passAt tk σ, c.ctx.un, c.ctx.kt⟩
      obtain ⟨he, ⟨k, z, y, p, q, rfl, rfl, h1, h2, h3⟩ | ⟨rfl, f, p, as, q, r, rfl, h3⟩⟩ := chkTB_e hb
      · exact pss_one (psI (ps_put (X := X.tr pn xe) c' h1 (c.loc _ h2) he h3) fun D σ H q => q)
      · exact pss_one (psI (ps_expr ((snd (G := G) e).pe he (X.tr pn xe) _ _ c' h3)) fun D σ H q => q)
    refine psI (ps_keep c.stk.1 c.stk.2.1 c.ctx.nd hi hj ln lm d1 d2 ⟨w1, w2, .inl mC⟩ c.stk.2.2 body) fun D σ H q => ?_
    obtain ⟨ρ, O, O0, H0, ok, f, h⟩ := q
    refine ⟨ρ, O, ok, wE_mono h (fun d hd v H1 s1 dv _ => ?_) fun x' hx C' H1 m' s1 => ?_⟩
    · cases o with
      | some k => exact hd _ O H1 ((ok.ext s1).set dv) (f.ext s1) (hid_same s1)
      | none => exact hd _ O H1 (ok.ext s1) (f.ext s1) (hid_same s1)
    · obtain ⟨h1, h2, h3⟩ := hx
      obtain ⟨C2, vd, cv, k1, k2, k3, k4, k5, k6⟩ := c.ctx.kt _ _ h1
      rw [m'] at k1
      cases k1
      obtain ⟨_, rfl⟩ := cls_eq k4 (.inl ⟨C, mC, rfl, rfl⟩)
      rw [h2] at k6
      refine ⟨rfl, k6, fun a ha => ?_⟩
      have su : Same H1 (upd H1 a (ExK (.ref C') a)) := fun b u e => by rw [upd_ne (ne_of_none e ha)]; exact e
      have ok2 := (ok.ext s1).ext su
      have dv : Dq X.K (hid O (upd H1 a (ExK (.ref C') a))) (.ref a) (errD x') := by
        refine .exc ?_ k2
        unfold hid
        rw [(ok.ext s1).live.free ha]
        simpa using upd_same
      exact h3 _ O _ (((ok2.set dv).set dv).wip [i]) (f.ext (s1.trans su)) (hid_same (s1.trans su))
  · cases h
theorem sndS : ∀ s : Sm, SndS G fr s := by
  intro s
  induction s with
  | skip => exact sndS_skip
  | seq s r ihs ihr => exact sndS_seq ihs ihr
  | asg i e => exact sndS_asg
  | asgF i e => exact sndS_asgF
  | asgT l e => exact sndS_asgT
  | sti i k e => exact sndS_sti
  | app i e => exact sndS_app
  | fz i s ih => exact sndS_fz ih
  | ite c a b iha ihb => exact sndS_ite iha ihb
  | «for» tg it b ih => exact sndS_for ih
  | whl c b ih => exact sndS_whl ih
  | ret e => exact sndS_ret
  | rai c => exact sndS_rai
  | nev => exact sndS_nev
  | tryK o e c i j => exact sndS_tryK
  | pass => exact sndS_pass
end
end Pu

set_option Elab.async false
set_option linter.all false
set_option maxRecDepth 100000
set_option maxHeartbeats 8000000
/-! Pu, part Q: defs. -/
namespace Pu
open PySem L2
/-- the slots at a def's entry -/
def ent (N : List Str) (ds : List PyData) : Ev := ds.map .sh ++ List.replicate (N.length - ds.length) .no
/-- a def of the module keeps a promise, up to a level -/
def FnAt (P : Program) (w : World) (K : PySem.W.Frag) (mg : Str → Option Value) (base : Heap) (k : Nat) (f : Str) (s : Fs) : Prop :=
  ∃ a fd ps, mg f = some (.ref a) ∧ PySem.W.keepIn K (.ref a) = true ∧ Binds K fd ps [] ∧ FnOk P w K mg base (L2.CX P w) k a fd ps (liftS K mg s)
theorem FnAt.mono {P : Program} {w : World} {K : PySem.W.Frag} {mg : Str → Option Value} {base : Heap} {j k : Nat} {f : Str} {s : Fs} (h : FnAt P w K mg base j f s) (hk : j ≤ k) : FnAt P w K mg base k f s :=
  let ⟨a, fd, ps, h1, h2, h3, h4⟩ := h; ⟨a, fd, ps, h1, h2, h3, h4.mono hk⟩
/-- what of the module a text may lean on -/
structure Glo (K : PySem.W.Frag) (mg : Str → Option Value) (gl : List (Str × PyData)) (ex : List Str) (kt : List (Str × Str)) : Prop where
  gl : ∀ p ∈ gl, ∃ v u, mg p.1 = some u ∧ RelV v u ∧ ∀ H, Dq K H v p.2
  bt : ∀ x ∈ btNames, mg x = none
  exc : ∀ c ∈ ex, ∃ C, mg c = some (.ref C) ∧ Exc1 K C
  kt : ∀ c d, (c, d) ∈ kt → Kt K mg c d
theorem ent_ok {K : PySem.W.Frag} {O : Ow} {N : List Str} {vs : List V} {ds : List PyData} {H : Hp} (l : Live O H) (d : DqA K (hid O H) vs ds) : Ok K O (ent N ds) (L2.start N vs) H where
  sh := fun i x e => by
    unfold ent at e
    unfold L2.start
    have hl := d.len
    by_cases hi : i < ds.length
    · rw [List.getElem?_append_left (by simpa using hi), List.getElem?_map] at e
      rw [List.getElem?_append_left (by simpa [hl] using hi), List.getElem?_map]
      cases q : ds[i]? with
      | none => rw [q] at e; cases e
      | some y =>
        rw [q] at e
        cases e
        obtain ⟨v, h1, h2⟩ := d.get q
        exact ⟨v, by rw [h1]; rfl, h2⟩
    · rw [List.getElem?_append_right (by simpa using hi), List.getElem?_replicate] at e
      split at e <;> cases e
  ow := fun i x e => by
    unfold ent at e
    by_cases hi : i < ds.length
    · rw [List.getElem?_append_left (by simpa using hi), List.getElem?_map] at e
      cases q : ds[i]? <;> rw [q] at e <;> cases e
    · rw [List.getElem?_append_right (by simpa using hi), List.getElem?_replicate] at e
      split at e <;> cases e
  live := l
  len := by
    unfold ent L2.start
    simp [d.len]
section
variable {P : Program} {w : World} {K : PySem.W.Frag} {mg : Str → Option Value} {base : Heap}
theorem def_ok {f qual : Str} {st : Stmt} {a : Addr} {fd : FuncData} {N ps : List Str} {k : Nat} {s : Fs} {body : Sm} {l : List (Str × Fs)} {g : List (Str × PyData)} {kt : List (Str × Str)}
    (F : Fun K f qual st a fd) (m : mg f = some (.ref a)) (B : Binds K fd ps []) (S : FnScope N ps (defScope st)) (hps : ps.length = s.ar) (GL : Glo K mg g (rais body) kt)
    (hl : ∀ p ∈ l, FnAt P w K mg base k p.1 p.2) (hb : isB body = true) (hc : chkS body (defScope st) N (defBody st) = true)
    (vc : ∀ ds Q X, ds.length = s.ar → s.sp ds Q X → wS ⟨l, g, kt⟩ s.fr body (ent N ds) (fun _ => Q .none) Q X) : FnOk P w K mg base (L2.CX P w) (k + 1) a fd ps (liftS K mg s) := by
  refine F.okX S (fun vs H Q E h => by rw [h.1, hps]) fun cdv A outer s' H vs Q E hr h => ?_
  obtain ⟨hlen, O, ds, lv, fo, dv, hl2, Q0, X0, hsp, hQ, hX⟩ := h
  have tk := takes_of (X := cxOf (L2.CX P w) P w K mg base N qual (defScope st) a cdv A outer s' H E) (E := E) rfl rfl rfl rfl
  have C : SCtx ⟨l, g, kt⟩ E (cxOf (L2.CX P w) P w K mg base N qual (defScope st) a cdv A outer s' H E) (rais body) := by
    refine ⟨⟨rfl, S.nd, S.kind, fun i f' s2 e => ?_, fun i x d e => GL.gl (x, d) (List.mem_of_getElem? e), GL.bt, passes_at (passes_call tk fun _ _ _ _ h => h), ?_, GL.kt⟩, passes_of rfl, fun y hy => ⟨?_, .inl rfl⟩, tk, GL.exc, ⟨rfl, rfl, rfl⟩⟩
    · obtain ⟨a', fd', ps', h1, h2, h3, h4⟩ := hl (f', s2) (List.mem_of_getElem? e)
      exact ⟨a', fd', ps', k, h1, h2, h3, h4, hr⟩
    · have h1 := hr.un
      show (A.deeper (PyProof.Rows.envOfC qual (defScope st) s'.heap.objs.size a cdv)).units + 65 < cLine
      omega
    · unfold locB at hy
      split at hy
      · exact .inl (by assumption)
      · exact .inr (by assumption)
      · cases hy
  refine ⟨_, (sndS (G := ⟨l, g, kt⟩) (fr := s.fr) body).pss hb _ E (rais body) (defBody st) C (fun c hc => hc) hc, ?_⟩
  refine ⟨ent N ds, O, O, H, ent_ok lv dv, ⟨Same.refl _, fun b i e => absurd e (fo b i), fun b => ?_⟩, ?_⟩
  · constructor
    · intro e; exact ⟨_, e⟩
    · rintro ⟨w', e⟩
      cases w' with
      | none => exact e
      | some i => exact absurd e (fo b i)
  · refine wS_mono (vc ds Q0 X0 hl2 hsp) (fun ρ' h σ' O' H' ok' f' s' => ?_) (fun d h => hQ d h) fun c h => hX c h
    exact hQ _ h _ _ f'.bs .non fun _ ds' e => by cases e
theorem def_at {f qual : Str} {st : Stmt} {a : Addr} {fd : FuncData} {N ps : List Str} {k : Nat} {s : Fs} {body : Sm} {l : List (Str × Fs)} {g : List (Str × PyData)} {kt : List (Str × Str)}
    (F : Fun K f qual st a fd) (m : mg f = some (.ref a)) (B : Binds K fd ps []) (S : FnScope N ps (defScope st)) (hps : ps.length = s.ar) (GL : Glo K mg g (rais body) kt)
    (hl : ∀ p ∈ l, FnAt P w K mg base k p.1 p.2) (hb : isB body = true) (hc : chkS body (defScope st) N (defBody st) = true)
    (vc : ∀ ds Q X, ds.length = s.ar → s.sp ds Q X → wS ⟨l, g, kt⟩ s.fr body (ent N ds) (fun _ => Q .none) Q X) : FnAt P w K mg base (k + 1) f s :=
  ⟨a, fd, ps, m, F.kp, B, def_ok F m B S hps GL hl hb hc vc⟩
end
end Pu

set_option Elab.async false
set_option linter.all false
set_option maxRecDepth 100000
/-! Pu, part R: words for the conditions of defs. -/
namespace Pu
open PySem L2
/-- a wish that simp does not look into -/
structure Hd {α : Sort u} (Q : α) : Type where
def hold {α : Sort u} (Q : α) (_ : Hd Q) : α := Q
theorem hold_d {Q : PyData → Prop} {t : Hd Q} {d : PyData} : hold Q t d = Q d := rfl
theorem hold_b {Q : Bool → Prop} {t : Hd Q} {d : Bool} : hold Q t d = Q d := rfl
--EQS
theorem wE_var (G : Gam) (i : Nat) (ρ : Ev) (Q : PyData → Prop) (X : Str → Prop) : wE G (.var i) ρ Q X = (rdV ρ i Q) := rfl
theorem wE_int (G : Gam) (n : Int) (ρ : Ev) (Q : PyData → Prop) (X : Str → Prop) : wE G (.int n) ρ Q X = (Q (.int n)) := rfl
theorem wE_str (G : Gam) (s : Str) (ρ : Ev) (Q : PyData → Prop) (X : Str → Prop) : wE G (.str s) ρ Q X = (Q (.str s)) := rfl
theorem wE_bl (G : Gam) (b : Bool) (ρ : Ev) (Q : PyData → Prop) (X : Str → Prop) : wE G (.bl b) ρ Q X = (Q (.bool b)) := rfl
theorem wE_non (G : Gam) (ρ : Ev) (Q : PyData → Prop) (X : Str → Prop) : wE G (.non) ρ Q X = (Q .none) := rfl
theorem wE_emp (G : Gam) (ρ : Ev) (Q : PyData → Prop) (X : Str → Prop) : wE G (.emp) ρ Q X = (Q empD) := rfl
theorem wE_gl (G : Gam) (i : Nat) (x : Str) (ρ : Ev) (Q : PyData → Prop) (X : Str → Prop) : wE G (.gl i x) ρ Q X = (∃ d, G.gl[i]? = some (x, d) ∧ Q d) := rfl
theorem wE_bin (G : Gam) (o : Operator) (a : Ex) (b : Ex) (ρ : Ev) (Q : PyData → Prop) (X : Str → Prop) : wE G (.bin o a b) ρ Q X = (wE G a ρ (fun x => wE G b ρ (fun y => sBin o x y (hold Q ⟨⟩)) X) X) := rfl
theorem wE_neg (G : Gam) (a : Ex) (ρ : Ev) (Q : PyData → Prop) (X : Str → Prop) : wE G (.neg a) ρ Q X = (wE G a ρ (fun x => ofI x fun i => Q (.int (-i))) X) := rfl
theorem wE_cmp (G : Gam) (o : CmpOp) (a : Ex) (b : Ex) (ρ : Ev) (Q : PyData → Prop) (X : Str → Prop) : wE G (.cmp o a b) ρ Q X = (wE G a ρ (fun x => wE G b ρ (fun y => sCmp o x y (hold Q ⟨⟩)) X) X) := rfl
theorem wE_chn (G : Gam) (o : CmpOp) (o' : CmpOp) (a : Ex) (b : Ex) (c : Ex) (ρ : Ev) (Q : PyData → Prop) (X : Str → Prop) : wE G (.chn o o' a b c) ρ Q X = (wE G a ρ (fun x => wE G b ρ (fun y => sCmp o x y (hold (fun z => ofB z fun k => if k = true then wE G c ρ (fun w => sCmp o' y w (hold Q ⟨⟩)) X else Q (.bool false)) ⟨⟩)) X) X) := rfl
theorem wE_and1 (G : Gam) (a : Ex) (ρ : Ev) (Q : PyData → Prop) (X : Str → Prop) : wE G (.and1 a) ρ Q X = (wE G a ρ Q X) := rfl
theorem wE_and (G : Gam) (a : Ex) (r : Ex) (ρ : Ev) (Q : PyData → Prop) (X : Str → Prop) : wE G (.and a r) ρ Q X = (wE G a ρ (fun x => ofB x fun k => if k = true then wE G r ρ Q X else Q (.bool false)) X) := rfl
theorem wE_or1 (G : Gam) (a : Ex) (ρ : Ev) (Q : PyData → Prop) (X : Str → Prop) : wE G (.or1 a) ρ Q X = (wE G a ρ Q X) := rfl
theorem wE_or (G : Gam) (a : Ex) (r : Ex) (ρ : Ev) (Q : PyData → Prop) (X : Str → Prop) : wE G (.or a r) ρ Q X = (wE G a ρ (fun x => ofB x fun k => if k = true then Q (.bool true) else wE G r ρ Q X) X) := rfl
theorem wE_not (G : Gam) (a : Ex) (ρ : Ev) (Q : PyData → Prop) (X : Str → Prop) : wE G (.not a) ρ Q X = (wE G a ρ (fun x => ofB x fun k => Q (.bool (!k))) X) := rfl
theorem wE_ite (G : Gam) (c : Ex) (a : Ex) (b : Ex) (ρ : Ev) (Q : PyData → Prop) (X : Str → Prop) : wE G (.ite c a b) ρ Q X = (wE G c ρ (fun x => ofB x fun k => if k = true then wE G a ρ Q X else wE G b ρ Q X) X) := rfl
theorem wE_tup (G : Gam) (r : Ex) (ρ : Ev) (Q : PyData → Prop) (X : Str → Prop) : wE G (.tup r) ρ Q X = (wE G r ρ (fun x => ofT x fun ds => ds.length ≤ sizeLine ∧ Q (.tuple ds)) X) := rfl
theorem wE_lst (G : Gam) (r : Ex) (ρ : Ev) (Q : PyData → Prop) (X : Str → Prop) : wE G (.lst r) ρ Q X = (wE G r ρ (fun x => ofT x fun ds => ds.length ≤ sizeLine ∧ Q (.list ds)) X) := rfl
theorem wE_nil (G : Gam) (ρ : Ev) (Q : PyData → Prop) (X : Str → Prop) : wE G (.nil) ρ Q X = (Q (.tuple [])) := rfl
theorem wE_cons (G : Gam) (a : Ex) (r : Ex) (ρ : Ev) (Q : PyData → Prop) (X : Str → Prop) : wE G (.cons a r) ρ Q X = (wE G a ρ (fun x => wE G r ρ (fun y => ofT y fun ds => Q (.tuple (x :: ds))) X) X) := rfl
theorem wE_ix (G : Gam) (a : Ex) (i : Ex) (ρ : Ev) (Q : PyData → Prop) (X : Str → Prop) : wE G (.ix a i) ρ Q X = (wE G a ρ (fun x => wE G i ρ (fun y => sIx x y (hold Q ⟨⟩)) X) X) := rfl
theorem wE_pix (G : Gam) (v : Nat) (i : Ex) (ρ : Ev) (Q : PyData → Prop) (X : Str → Prop) : wE G (.pix v i) ρ Q X = (rdP ρ v fun x => wE G i ρ (fun y => sIx x y (hold Q ⟨⟩)) X) := rfl
theorem wE_sl0 (G : Gam) (a : Ex) (ρ : Ev) (Q : PyData → Prop) (X : Str → Prop) : wE G (.sl0 a) ρ Q X = (wE G a ρ (fun x => sSl x none none (hold Q ⟨⟩)) X) := rfl
theorem wE_slL (G : Gam) (a : Ex) (lo : Ex) (ρ : Ev) (Q : PyData → Prop) (X : Str → Prop) : wE G (.slL a lo) ρ Q X = (wE G a ρ (fun x => wE G lo ρ (fun l => ofI l fun i => sSl x (some i) none (hold Q ⟨⟩)) X) X) := rfl
theorem wE_slH (G : Gam) (a : Ex) (hi : Ex) (ρ : Ev) (Q : PyData → Prop) (X : Str → Prop) : wE G (.slH a hi) ρ Q X = (wE G a ρ (fun x => wE G hi ρ (fun h => ofI h fun j => sSl x none (some j) (hold Q ⟨⟩)) X) X) := rfl
theorem wE_slB (G : Gam) (a : Ex) (lo : Ex) (hi : Ex) (ρ : Ev) (Q : PyData → Prop) (X : Str → Prop) : wE G (.slB a lo hi) ρ Q X = (wE G a ρ (fun x => wE G lo ρ (fun l => ofI l fun i => wE G hi ρ (fun h => ofI h fun j => sSl x (some i) (some j) (hold Q ⟨⟩)) X) X) X) := rfl
theorem wE_rv (G : Gam) (a : Ex) (ρ : Ev) (Q : PyData → Prop) (X : Str → Prop) : wE G (.rv a) ρ Q X = (wE G a ρ (fun x => ofL x fun ds => Q (.list ds.reverse)) X) := rfl
theorem wE_call (G : Gam) (i : Nat) (f : Str) (r : Ex) (ρ : Ev) (Q : PyData → Prop) (X : Str → Prop) : wE G (.call i f r) ρ Q X = (∃ s, G.fs[i]? = some (f, s) ∧ wE G r ρ (fun x => ofT x fun ds => up s ds (hold Q ⟨⟩) X) X) := rfl
theorem wE_callT (G : Gam) (i : Nat) (f : Str) (r : Ex) (ρ : Ev) (Q : PyData → Prop) (X : Str → Prop) : wE G (.callT i f r) ρ Q X = (∃ s, G.fs[i]? = some (f, s) ∧ wE G r (frz ρ) (fun x => ofT x fun ds => up s ds (hold (fun d => lf d = true ∧ Q d) ⟨⟩) X) X) := rfl
theorem wE_blt (G : Gam) (f : Bf) (r : Ex) (ρ : Ev) (Q : PyData → Prop) (X : Str → Prop) : wE G (.blt f r) ρ Q X = (wE G r ρ (fun x => ofT x fun ds => sB f ds (hold Q ⟨⟩)) X) := rfl
theorem wE_pl (G : Gam) (v : Nat) (ρ : Ev) (Q : PyData → Prop) (X : Str → Prop) : wE G (.pl v) ρ Q X = (rdP ρ v fun x => sLen x Q) := rfl
theorem wE_pin (G : Gam) (ng : Bool) (a : Ex) (v : Nat) (ρ : Ev) (Q : PyData → Prop) (X : Str → Prop) : wE G (.pin ng a v) ρ Q X = (wE G a ρ (fun x => rdP ρ v fun y => sIn x y (hold (fun b => Q (.bool (if ng = true then !b else b))) ⟨⟩)) X) := rfl
theorem wE_met (G : Gam) (m : Mf) (a : Ex) (r : Ex) (ρ : Ev) (Q : PyData → Prop) (X : Str → Prop) : wE G (.met m a r) ρ Q X = (wE G a ρ (fun x => tyM m x = true ∧ wE G r ρ (fun y => ofT y fun ds => sM m x ds (hold Q ⟨⟩)) X) X) := rfl
theorem wE_isi (G : Gam) (a : Ex) (t : Tf) (ρ : Ev) (Q : PyData → Prop) (X : Str → Prop) : wE G (.isi a t) ρ Q X = (wE G a ρ (fun x => noD x = true ∧ Q (.bool (tyD x t))) X) := rfl
theorem wE_isx (G : Gam) (a : Ex) (d : Str) (ρ : Ev) (Q : PyData → Prop) (X : Str → Prop) : wE G (.isx a d) ρ Q X = (wE G a ρ (fun x => isxR G.kt x d fun b => Q (.bool b)) X) := rfl
theorem wE_lc (G : Gam) (own : List Nat) (e : Ex) (tg : Tg) (it : Ex) (ρ : Ev) (Q : PyData → Prop) (X : Str → Prop) : wE G (.lc own e tg it) ρ Q X = (wE G it ρ (fun x => ofL x fun ds => ds.length ≤ sizeLine ∧       lcs (fun _ k => k (some .none)) (fun d k => bnd tg d (wip ρ own) fun ρ1 => wE G e ρ1 (fun y => k (some y)) (fun _ => False)) ds [] (hold Q ⟨⟩)) X) := rfl
theorem wE_lci (G : Gam) (own : List Nat) (e : Ex) (tg : Tg) (it : Ex) (c : Ex) (ρ : Ev) (Q : PyData → Prop) (X : Str → Prop) : wE G (.lci own e tg it c) ρ Q X = (wE G it ρ (fun x => ofL x fun ds => ds.length ≤ sizeLine ∧       lcs (fun d k => bnd tg d (wip ρ own) fun ρ1 => wE G c ρ1 (fun x => ofB x fun b => if b = true then k (some .none) else k none) (fun _ => False))           (fun d k => bnd tg d (wip ρ own) fun ρ1 => wE G e ρ1 (fun y => k (some y)) (fun _ => False)) ds [] (hold Q ⟨⟩)) X) := rfl
theorem wE_itL (G : Gam) (a : Ex) (ρ : Ev) (Q : PyData → Prop) (X : Str → Prop) : wE G (.itL a) ρ Q X = (wE G a ρ (fun x => ofL x fun ds => Q (.list ds)) X) := rfl
theorem wE_itT (G : Gam) (a : Ex) (ρ : Ev) (Q : PyData → Prop) (X : Str → Prop) : wE G (.itT a) ρ Q X = (wE G a ρ (fun x => ofT x fun ds => Q (.list ds)) X) := rfl
theorem wE_itS (G : Gam) (a : Ex) (ρ : Ev) (Q : PyData → Prop) (X : Str → Prop) : wE G (.itS a) ρ Q X = (wE G a ρ (fun x => ofS x fun z => Q (.list (z.cps.toList.map fun c => .str ⟨#[c]⟩))) X) := rfl
theorem wE_rg1 (G : Gam) (a : Ex) (ρ : Ev) (Q : PyData → Prop) (X : Str → Prop) : wE G (.rg1 a) ρ Q X = (wE G a ρ (fun x => ofI x fun j => -(2 ^ 62) ≤ j ∧ j < 2 ^ 62 ∧ Q (.list ((List.range j.toNat).map fun i => .int (i : Nat)))) X) := rfl
theorem wE_rg2 (G : Gam) (a : Ex) (b : Ex) (ρ : Ev) (Q : PyData → Prop) (X : Str → Prop) : wE G (.rg2 a b) ρ Q X = (wE G a ρ (fun x => wE G b ρ (fun y => ofI x fun i => ofI y fun j => -(2 ^ 62) ≤ i ∧ i < 2 ^ 62 ∧ -(2 ^ 62) ≤ j ∧ j < 2 ^ 62 ∧ Q (.list ((List.range (j - i).toNat).map fun k => .int (i + (k : Nat))))) X) X) := rfl
theorem wE_rg3 (G : Gam) (a : Ex) (b : Ex) (c : Ex) (ρ : Ev) (Q : PyData → Prop) (X : Str → Prop) : wE G (.rg3 a b c) ρ Q X = (wE G a ρ (fun x => wE G b ρ (fun y => wE G c ρ (fun z => ofI x fun i => ofI y fun j => ofI z fun k => ∃ n, RgC i j k n ∧ Q (.list ((List.range n).map fun m => .int (i + (m : Nat) * k)))) X) X) X) := rfl
theorem wE_zip (G : Gam) (a : Ex) (b : Ex) (ρ : Ev) (Q : PyData → Prop) (X : Str → Prop) : wE G (.zip a b) ρ Q X = (wE G a ρ (fun x => wE G b ρ (fun y => ofL x fun ds => ofL y fun es => Q (.list ((ds.zip es).map fun p => .tuple [p.1, p.2]))) X) X) := rfl
theorem wE_rev (G : Gam) (a : Ex) (ρ : Ev) (Q : PyData → Prop) (X : Str → Prop) : wE G (.rev a) ρ Q X = (wE G a ρ (fun x => ofL x fun ds => Q (.list ds.reverse)) X) := rfl
theorem wE_enu (G : Gam) (a : Ex) (ρ : Ev) (Q : PyData → Prop) (X : Str → Prop) : wE G (.enu a) ρ Q X = (wE G a ρ (fun x => ofL x fun ds => Q (.list (ds.zipIdx.map fun p => .tuple [.int (p.2 : Nat), p.1]))) X) := rfl
theorem wS_skip (G : Gam) (fr : Bool) (ρ : Ev) (nx : Ev → Prop) (rt : PyData → Prop) (X : Str → Prop) : wS G fr (.skip) ρ nx rt X = (nx ρ) := rfl
theorem wS_pass (G : Gam) (fr : Bool) (ρ : Ev) (nx : Ev → Prop) (rt : PyData → Prop) (X : Str → Prop) : wS G fr (.pass) ρ nx rt X = (nx ρ) := rfl
theorem wS_seq (G : Gam) (fr : Bool) (s : Sm) (r : Sm) (ρ : Ev) (nx : Ev → Prop) (rt : PyData → Prop) (X : Str → Prop) : wS G fr (.seq s r) ρ nx rt X = (wS G fr s ρ (nxt (wS G fr r) nx rt X) rt X) := rfl
theorem wS_asg (G : Gam) (fr : Bool) (i : Nat) (e : Ex) (ρ : Ev) (nx : Ev → Prop) (rt : PyData → Prop) (X : Str → Prop) : wS G fr (.asg i e) ρ nx rt X = (wE G e ρ (fun d => nx (ρ.set i (.sh d))) X) := rfl
theorem wS_asgF (G : Gam) (fr : Bool) (i : Nat) (e : Ex) (ρ : Ev) (nx : Ev → Prop) (rt : PyData → Prop) (X : Str → Prop) : wS G fr (.asgF i e) ρ nx rt X = (frE G e = true ∧ wE G e ρ (fun d => ofL d fun ds => nx (ρ.set i (.ow ds))) X) := rfl
theorem wS_asgT (G : Gam) (fr : Bool) (l : List Nat) (e : Ex) (ρ : Ev) (nx : Ev → Prop) (rt : PyData → Prop) (X : Str → Prop) : wS G fr (.asgT l e) ρ nx rt X = (wE G e ρ (fun d => bnd (.t l) d ρ nx) X) := rfl
theorem wS_sti (G : Gam) (fr : Bool) (i : Nat) (k : Ex) (e : Ex) (ρ : Ev) (nx : Ev → Prop) (rt : PyData → Prop) (X : Str → Prop) : wS G fr (.sti i k e) ρ nx rt X = (wE G e ρ (fun d => rdO ρ i fun ds => wE G k ρ (fun y => ofI y fun j => match ixN ds.length j with       | some n => nx (ρ.set i (.ow (ds.set n d)))       | none => False) X) X) := rfl
theorem wS_app (G : Gam) (fr : Bool) (i : Nat) (e : Ex) (ρ : Ev) (nx : Ev → Prop) (rt : PyData → Prop) (X : Str → Prop) : wS G fr (.app i e) ρ nx rt X = (rdO ρ i fun ds => wE G e ρ (fun d => ds.length < sizeLine ∧ nx (ρ.set i (.ow (ds ++ [d])))) X) := rfl
theorem wS_fz (G : Gam) (fr : Bool) (i : Nat) (s : Sm) (ρ : Ev) (nx : Ev → Prop) (rt : PyData → Prop) (X : Str → Prop) : wS G fr (.fz i s) ρ nx rt X = (rdO ρ i fun ds => wS G fr s (ρ.set i (.sh (.list ds))) nx rt X) := rfl
theorem wS_ite (G : Gam) (fr : Bool) (c : Ex) (a : Sm) (b : Sm) (ρ : Ev) (nx : Ev → Prop) (rt : PyData → Prop) (X : Str → Prop) : wS G fr (.ite c a b) ρ nx rt X = (wE G c (frz ρ) (fun x => ofB x fun k => if k = true then wS G fr a ρ nx rt X else wS G fr b ρ nx rt X) X) := rfl
theorem wS_for (G : Gam) (fr : Bool) (tg : Tg) (it : Ex) (b : Sm) (ρ : Ev) (nx : Ev → Prop) (rt : PyData → Prop) (X : Str → Prop) : wS G fr (.for tg it b) ρ nx rt X = (wE G it ρ (fun x => ofL x fun ds => wF tg (wS G fr b) nx rt X ds ρ) X) := rfl
theorem wS_whl (G : Gam) (fr : Bool) (c : Ex) (b : Sm) (ρ : Ev) (nx : Ev → Prop) (rt : PyData → Prop) (X : Str → Prop) : wS G fr (.whl c b) ρ nx rt X = (∃ n, wW G c (wS G fr b) nx rt X n ρ) := rfl
theorem wS_ret (G : Gam) (fr : Bool) (e : Ex) (ρ : Ev) (nx : Ev → Prop) (rt : PyData → Prop) (X : Str → Prop) : wS G fr (.ret e) ρ nx rt X = ((fr = true → frR G e ρ = true) ∧ wE G e (frz ρ) rt X) := rfl
theorem wS_rai (G : Gam) (fr : Bool) (c : Str) (ρ : Ev) (nx : Ev → Prop) (rt : PyData → Prop) (X : Str → Prop) : wS G fr (.rai c) ρ nx rt X = (X c) := rfl
theorem wS_tryK (G : Gam) (fr : Bool) (o : Option Nat) (e : Ex) (c : Str) (i : Nat) (j : Nat) (ρ : Ev) (nx : Ev → Prop) (rt : PyData → Prop) (X : Str → Prop) : wS G fr (.tryK o e c i j) ρ nx rt X = (wE G e ρ (fun d => nx (match o with | some k => ρ.set k (.sh d) | none => ρ)) (fun x => (x, c) ∈ G.kt ∧ subB x c = true ∧ nx (((ρ.set i (.sh (errD x))).set j (.sh (errD x))).set i .no))) := rfl
theorem wS_nev (G : Gam) (fr : Bool) (ρ : Ev) (nx : Ev → Prop) (rt : PyData → Prop) (X : Str → Prop) : wS G fr (.nev) ρ nx rt X = (False) := rfl
--EQE
theorem ofB_b (b : Bool) (Q : Bool → Prop) : ofB (.bool b) Q = Q b := rfl
theorem ofI_i (i : Int) (Q : Int → Prop) : ofI (.int i) Q = Q i := rfl
theorem ofT_t (ds : List PyData) (Q : List PyData → Prop) : ofT (.tuple ds) Q = Q ds := rfl
theorem ofL_l (ds : List PyData) (Q : List PyData → Prop) : ofL (.list ds) Q = Q ds := rfl
theorem ofS_s (s : Str) (Q : Str → Prop) : ofS (.str s) Q = Q s := rfl
theorem sEq_i (i j : Int) (Q : Bool → Prop) : sEq (.int i) (.int j) Q = Q (decide (i = j)) := rfl
theorem sEq_s (i j : Str) (Q : Bool → Prop) : sEq (.str i) (.str j) Q = Q (decide (i = j)) := rfl
theorem sEq_b (i j : Bool) (Q : Bool → Prop) : sEq (.bool i) (.bool j) Q = Q (decide (i = j)) := rfl
theorem wS_BM {G : Gam} {fr : Bool} {s : Sm} : BMono (wS G fr s) := fun _ _ _ _ _ _ _ h a b c => wS_mono h a b c
theorem nxt_eq (B : Blk) (nx : Ev → Prop) (rt : PyData → Prop) (X : Str → Prop) (ρ : Ev) : nxt B nx rt X ρ = B ρ nx rt X := rfl
/-- a for whose turns keep I -/
theorem wF_inv {tg : Tg} {G : Gam} {fr : Bool} {s : Sm} {nx : Ev → Prop} {rt : PyData → Prop} {X : Str → Prop} {ds : List PyData} {ρ : Ev} (I : Nat → Ev → Prop) (h0 : I 0 ρ)
    (hs : ∀ i d r, ds[i]? = some d → I i r → bnd tg d r fun r1 => wS G fr s r1 (I (i + 1)) rt X) (hd : ∀ r, I ds.length r → nx r) : wF tg (wS G fr s) nx rt X ds ρ := by
  have key : ∀ (n i : Nat) (r : Ev), i + n = ds.length → I i r → wF tg (wS G fr s) nx rt X (ds.drop i) r := by
    intro n
    induction n with
    | zero =>
      intro i r hi h
      have : i = ds.length := by omega
      subst this
      rw [List.drop_length]
      exact hd r h
    | succ n ih =>
      intro i r hi h
      have hlt : i < ds.length := by omega
      rw [List.drop_eq_getElem_cons hlt]
      exact bnd_mono (hs i _ r (List.getElem?_eq_getElem hlt) h) fun r1 h1 => wS_mono h1 (fun r2 h2 => ih (i + 1) r2 (by omega) h2) (fun _ z => z) fun _ z => z
  exact key ds.length 0 ρ (by omega) h0
/-- a while with a measure -/
theorem wW_inv {G : Gam} {c : Ex} {fr : Bool} {s : Sm} {nx : Ev → Prop} {rt : PyData → Prop} {X : Str → Prop} (I : Nat → Ev → Prop)
    (hs : ∀ m r, I m r → wE G c (frz r) (fun x => ofB x fun k => if k = true then wS G fr s r (fun r2 => ∃ m', m' < m ∧ I m' r2) rt X else nx r) X) {ρ : Ev} {m : Nat} (h0 : I m ρ) : wW G c (wS G fr s) nx rt X (m + 1) ρ := by
  have key : ∀ (M m : Nat) (r : Ev), m ≤ M → I m r → wW G c (wS G fr s) nx rt X (M + 1) r := by
    intro M
    induction M with
    | zero =>
      intro m r hm h
      have : m = 0 := by omega
      subst this
      refine wE_mono (hs 0 r h) (fun _ h => ofB_mono h fun t h => ?_) fun _ z => z
      cases t with
      | true => exact wS_mono h (fun r2 ⟨m', h1, _⟩ => absurd h1 (Nat.not_lt_zero _)) (fun _ z => z) fun _ z => z
      | false => exact h
    | succ M ih =>
      intro m r hm h
      refine wE_mono (hs m r h) (fun _ h => ofB_mono h fun t h => ?_) fun _ z => z
      cases t with
      | true => exact wS_mono h (fun r2 ⟨m', h1, h2⟩ => ih m' r2 (by omega) h2) (fun _ z => z) fun _ z => z
      | false => exact h
  exact key m m ρ (Nat.le_refl _) h0
/-- a comprehension without a test whose items are told by f -/
theorem lcs_map {t e : PyData → (Option PyData → Prop) → Prop} {f : PyData → PyData} (ht : ∀ d k, t d k = k (some .none)) : ∀ {ds acc : List PyData} {Q : PyData → Prop}, (∀ d ∈ ds, ∀ k : Option PyData → Prop, k (some (f d)) → e d k) → Q (.list (acc ++ ds.map f)) → lcs t e ds acc Q
  | [], acc, Q, _, h => by simpa [lcs] using h
  | d :: ds, acc, Q, he, h => by
    simp only [lcs]
    rw [ht]
    refine he d List.mem_cons_self _ ?_
    exact lcs_map ht (fun d hd => he d (List.mem_cons_of_mem _ hd)) (by simpa using h)
/-- a comprehension with a test -/
theorem lcs_filter {t e : PyData → (Option PyData → Prop) → Prop} {p : PyData → Bool} {f : PyData → PyData} : ∀ {ds acc : List PyData} {Q : PyData → Prop},
    (∀ d ∈ ds, ∀ k : Option PyData → Prop, (if p d = true then k (some .none) else k none) → t d k) → (∀ d ∈ ds, p d = true → ∀ k : Option PyData → Prop, k (some (f d)) → e d k) → Q (.list (acc ++ (ds.filter p).map f)) → lcs t e ds acc Q
  | [], acc, Q, _, _, h => by simpa [lcs] using h
  | d :: ds, acc, Q, ht, he, h => by
    simp only [lcs]
    refine ht d List.mem_cons_self _ ?_
    cases hp : p d with
    | true =>
      simp only [if_true]
      refine he d List.mem_cons_self hp _ ?_
      refine lcs_filter (fun d hd => ht d (List.mem_cons_of_mem _ hd)) (fun d hd => he d (List.mem_cons_of_mem _ hd)) ?_
      simpa [hp] using h
    | false =>
      simp only [Bool.false_eq_true, if_false]
      refine lcs_filter (fun d hd => ht d (List.mem_cons_of_mem _ hd)) (fun d hd => he d (List.mem_cons_of_mem _ hd)) ?_
      simpa [hp] using h
section
variable {i j : Int} {a b : Str} {xs ys : List PyData} {x y : PyData} {Q : PyData → Prop}
theorem sBin_ai : sBin .Add (.int i) (.int j) Q = Q (.int (i + j)) := rfl
theorem sBin_as : sBin .Add (.str a) (.str b) Q = (a.length + b.length ≤ sizeLine ∧ Q (.str (a ++ b))) := rfl
theorem sBin_al : sBin .Add (.list xs) (.list ys) Q = (xs.length + ys.length ≤ sizeLine ∧ Q (.list (xs ++ ys))) := rfl
theorem sBin_si : sBin .Sub (.int i) (.int j) Q = Q (.int (i - j)) := rfl
theorem sBin_mi : sBin .Mult (.int i) (.int j) Q = (CMulW i j ∧ Q (.int (i * j))) := rfl
theorem sBin_ml : sBin .Mult (.list xs) (.int j) Q = (-(2 ^ 63) ≤ j ∧ j < 2 ^ 63 ∧ xs.length * j.toNat ≤ sizeLine ∧ Q (.list (List.replicate j.toNat xs).flatten)) := rfl
theorem sBin_di : sBin .FloorDiv (.int i) (.int j) Q = (CDivW i j ∧ Q (.int (i / j))) := rfl
theorem sBin_mo : sBin .Mod (.int i) (.int j) Q = (0 < j ∧ Q (.int (i % j))) := rfl
theorem sBin_po : sBin .Pow (.int i) (.int j) Q = (CPow i j ∧ Q (.int (i ^ j.toNat))) := rfl
theorem sCmp_eq : sCmp .Eq x y Q = sEq x y fun b => Q (.bool b) := rfl
theorem sCmp_ne : sCmp .NotEq x y Q = sEq x y fun b => Q (.bool (!b)) := rfl
theorem sCmp_in : sCmp .In x y Q = sIn x y fun b => Q (.bool b) := rfl
theorem sCmp_ni : sCmp .NotIn x y Q = sIn x y fun b => Q (.bool (!b)) := rfl
theorem sCmp_isn : sCmp .Is x .none Q = Q (.bool (isN x)) := rfl
theorem sCmp_isb {k l : Bool} : sCmp .Is (.bool k) (.bool l) Q = Q (.bool (decide (k = l))) := rfl
theorem sCmp_nis : sCmp .IsNot x .none Q = Q (.bool (!isN x)) := rfl
theorem sCmp_lt : sCmp .Lt (.int i) (.int j) Q = Q (.bool (decide (i < j))) := rfl
theorem sCmp_le : sCmp .LtE (.int i) (.int j) Q = Q (.bool (decide (i ≤ j))) := rfl
theorem sCmp_gt : sCmp .Gt (.int i) (.int j) Q = Q (.bool (decide (j < i))) := rfl
theorem sCmp_ge : sCmp .GtE (.int i) (.int j) Q = Q (.bool (decide (j ≤ i))) := rfl
theorem sLen_l : sLen (.list xs) Q = Q (.int xs.length) := rfl
theorem sLen_t : sLen (.tuple xs) Q = Q (.int xs.length) := rfl
theorem sLen_d {kv : List (PyData × PyData)} : sLen (.dict kv) Q = ((kv.all fun p => isN p.1) = true ∧ Q (.int kv.length)) := rfl
theorem sLen_s : sLen (.str a) Q = (a.length ≤ sizeLine ∧ Q (.int a.length)) := rfl
theorem sIx_l : sIx (.list xs) (.int i) Q = (match atI xs i with | some d => Q d | none => False) := rfl
theorem sIx_t : sIx (.tuple xs) (.int i) Q = (match atI xs i with | some d => Q d | none => False) := rfl
theorem sIx_at {n : Nat} (h : xs[n]? = some x) : sIx (.list xs) (.int (n : Int)) Q = Q x := by
  rw [sIx_l, atI_nat h]
theorem sIx_tt {n : Nat} (h : xs[n]? = some x) : sIx (.tuple xs) (.int (n : Int)) Q = Q x := by
  rw [sIx_t, atI_nat h]
theorem sIx_t0 : sIx (.tuple (x :: xs)) (.int 0) Q = Q x := sIx_tt (n := 0) rfl
theorem sIx_t1 : sIx (.tuple (x :: y :: xs)) (.int 1) Q = Q y := sIx_tt (n := 1) rfl
theorem sIx_t2 {z : PyData} : sIx (.tuple (x :: y :: z :: xs)) (.int 2) Q = Q z := sIx_tt (n := 2) rfl
theorem sIx_l0 : sIx (.list (x :: xs)) (.int 0) Q = Q x := sIx_at (n := 0) rfl
theorem sIx_l1 : sIx (.list (x :: y :: xs)) (.int 1) Q = Q y := sIx_at (n := 1) rfl
end
/-- an if, and what holds behind it -/
theorem ite_join {G : Gam} {fr : Bool} {c : Ex} {a b : Sm} {ρ : Ev} {nx : Ev → Prop} {rt : PyData → Prop} {X : Str → Prop} (J : Ev → Prop) (h1 : wS G fr (.ite c a b) ρ J rt X) (h2 : ∀ r, J r → nx r) : wS G fr (.ite c a b) ρ nx rt X :=
  wS_mono h1 h2 (fun _ h => h) fun _ h => h
theorem isxR_e {kt : List (Str × Str)} {c d : Str} {Q : Bool → Prop} : isxR kt (errD c) d Q = ((c, d) ∈ kt ∧ Q (subB c d)) := rfl
theorem scr_all (ns : List Int) : ((ns.map fun n => ((PyData.none, PyData.int n) : PyData × PyData)).all fun p => isN p.1) = true := by simp [isN]
theorem sLen_scr {ns : List Int} {Q : PyData → Prop} : sLen (scrD ns) Q = Q (.int ns.length) := by
  unfold scrD
  rw [sLen_d, scr_all]
  simp
theorem sIx_scr {ns : List Int} {k : Nat} {Q : PyData → Prop} (h : k < ns.length) : sIx (scrD ns) (.int (k : Int)) Q = Q (.int (ns.getD k 0)) := by
  have e : atI (ns.map fun n => ((PyData.none, PyData.int n) : PyData × PyData)) (k : Int) = some (.none, .int (ns.getD k 0)) := atI_nat (by simp [h])
  show (match atI (ns.map fun n => ((PyData.none, PyData.int n) : PyData × PyData)) (k : Int) with | some d => isN d.1 = true ∧ Q d.2 | none => False) = _
  rw [e]
  simp [isN]
theorem sIn_non {ds : List PyData} {Q : Bool → Prop} : sIn .none (.list ds) Q = (okD 60 .none = true ∧ okD 60 (.list ds) = true ∧ Q (ds.any fun z => PyData.eqv z .none)) := rfl
theorem okA_all {n : Nat} : ∀ {ds : List PyData}, (∀ d ∈ ds, okD n d = true) → okA n ds = true
  | [], _ => by unfold okA; rfl
  | d :: ds, h => by
    unfold okA
    rw [h d List.mem_cons_self, okA_all fun e he => h e (List.mem_cons_of_mem _ he)]
    rfl
theorem ok_list {n : Nat} {ds : List PyData} (h : ∀ d ∈ ds, okD n d = true) : okD (n + 1) (.list ds) = true := by
  unfold okD
  exact okA_all h
theorem ok_tup {n : Nat} {ds : List PyData} (h : ∀ d ∈ ds, okD n d = true) : okD (n + 1) (.tuple ds) = true := by
  unfold okD
  exact okA_all h
theorem sSl_s {z : Str} {lo hi : Option Int} {Q : PyData → Prop} : sSl (.str z) lo hi Q = (z.length ≤ sizeLine ∧ Q (.str (cutS z lo hi))) := rfl
theorem sSl_l {ds : List PyData} {lo hi : Option Int} {Q : PyData → Prop} : sSl (.list ds) lo hi Q = Q (.list (cutD ds lo hi)) := rfl
end Pu

set_option Elab.async false
set_option linter.all false
set_option maxRecDepth 100000
set_option maxHeartbeats 8000000
/-! Pu, part T: the top. -/
namespace Pu
open PySem L2 PyProof.Rows
/-- what the written part says of a def -/
def Def1 (K : PySem.W.Frag) (f : Str) (st : Stmt) : Prop := ∃ (a : Addr) (fd : FuncData), PySem.W.nsIn K mainGlobals f = some (some (.ref a)) ∧ Fun K f f st a fd
theorem def1 {K : PySem.W.Frag} {f : Str} {st : Stmt} {a : Addr} {oc : Value} {od an : Option Addr} {osl : Array (Option Value)} {kV doc pm cdv ct : Value} (n : PySem.W.nsIn K mainGlobals f = some (some (.ref a)))
    (l : K.lookup a = some ⟨oc, od, .func (PySem.W.fnOf f f (defArgs st) (defBody st) (defScope st) .none kV doc pm an cdv ct), osl⟩)
    (c : PySem.W.codeIn K cdv f = true) (k : PySem.W.keepIn K (.ref a) = true) : Def1 K f st := ⟨_, _, n, fun_mk l c k⟩
/-- what it says of a class of refusals -/
def Exc0 (K : PySem.W.Frag) (c : Str) : Prop := ∃ C : Addr, PySem.W.nsIn K mainGlobals c = some (some (.ref C)) ∧ Exc1 K C
theorem exc0 {K : PySem.W.Frag} {c : Str} {C : Addr} (n : PySem.W.nsIn K mainGlobals c = some (some (.ref C)))
    (x : PySem.W.excIn K C [.type "ValueError", .type "Exception", .type "BaseException", .type "object"] "ValueError.__new__" = true) (k : PySem.W.keepIn K (.ref C) = true)
    (b : PySem.W.subIn K (.ref C) (.type "BaseException") = some true) (t : PySem.W.typeIn K (.ref C) = some (.type "type")) : Exc0 K c := ⟨_, n, x, k, b, t⟩
/-- and of a constant -/
theorem globS {K : PySem.W.Frag} {x s : Str} {t : Tok} (n : PySem.W.nsIn K mainGlobals x = some (some (.str s t))) : ∃ u, PySem.W.nsIn K mainGlobals x = some (some u) ∧ RelV (.str s) u := ⟨_, n, t, rfl⟩
theorem globI {K : PySem.W.Frag} {x : Str} {i : Int} {t : Tok} (n : PySem.W.nsIn K mainGlobals x = some (some (.int i t))) : ∃ u, PySem.W.nsIn K mainGlobals x = some (some u) ∧ RelV (.int i) u := ⟨_, n, t, rfl⟩
structure Tops (K : PySem.W.Frag) (h : Heap) (mg : Str → Option Value) : Prop where
  i : K.In h
  n : h.Ns mainGlobals mg
def Bts (K : PySem.W.Frag) : Prop := ∀ x ∈ btNames, PySem.W.nsIn K mainGlobals x = some none
theorem bt_mk {K : PySem.W.Frag} (h0 : PySem.W.nsIn K mainGlobals "len" = some none) (h1 : PySem.W.nsIn K mainGlobals "abs" = some none) (h2 : PySem.W.nsIn K mainGlobals "max" = some none) (h3 : PySem.W.nsIn K mainGlobals "min" = some none) (h4 : PySem.W.nsIn K mainGlobals "sum" = some none) (h5 : PySem.W.nsIn K mainGlobals "sorted" = some none) (h6 : PySem.W.nsIn K mainGlobals "any" = some none) (h7 : PySem.W.nsIn K mainGlobals "all" = some none) (h8 : PySem.W.nsIn K mainGlobals "int" = some none) (h9 : PySem.W.nsIn K mainGlobals "str" = some none) (h10 : PySem.W.nsIn K mainGlobals "list" = some none) (h11 : PySem.W.nsIn K mainGlobals "tuple" = some none) (h12 : PySem.W.nsIn K mainGlobals "bool" = some none) (h13 : PySem.W.nsIn K mainGlobals "range" = some none) (h14 : PySem.W.nsIn K mainGlobals "zip" = some none) (h15 : PySem.W.nsIn K mainGlobals "reversed" = some none) (h16 : PySem.W.nsIn K mainGlobals "enumerate" = some none) (h17 : PySem.W.nsIn K mainGlobals "isinstance" = some none) : Bts K := fun x hx => by
  unfold btNames at hx
  simp only [List.mem_cons, List.not_mem_nil, or_false] at hx
  rcases hx with rfl | rfl | rfl | rfl | rfl | rfl | rfl | rfl | rfl | rfl | rfl | rfl | rfl | rfl | rfl | rfl | rfl | rfl
  all_goals assumption
theorem bts {K : PySem.W.Frag} {h : Heap} {mg : Str → Option Value} (T : Tops K h mg) (z : Bts K) : ∀ x ∈ btNames, mg x = none := fun x hx => PySem.W.mg_none_of T.i T.n (z x hx)
/-- what the written part says of a class of refusals and a class asked for -/
def Kt0 (K : PySem.W.Frag) (c d : Str) : Prop := ∃ C, PySem.W.nsIn K mainGlobals c = some (some (.ref C)) ∧ ExcC K C ∧
  ((∃ D, PySem.W.nsIn K mainGlobals d = some (some (.ref D)) ∧ PySem.W.kitOne K (.ref C) (.ref D) = some (subB c d) ∧ PySem.W.exmOne K (.ref C) (.ref D) = some (subB c d)) ∨
   (PySem.W.nsIn K mainGlobals d = some none ∧ d ≠ "__name__" ∧ ∃ T, bootBuiltins d = some (.type T) ∧ PySem.W.kitOne K (.ref C) (.type T) = some (subB c d) ∧ PySem.W.exmOne K (.ref C) (.type T) = some (subB c d)))
theorem Kt0.kt {K : PySem.W.Frag} {h : Heap} {mg : Str → Option Value} (T : Tops K h mg) {c d : Str} (k : Kt0 K c d) : Kt K mg c d := by
  obtain ⟨C, h1, h2, ⟨D, h3, h4, h5⟩ | ⟨h3, h4, N, h5, h6, h7⟩⟩ := k
  · exact ⟨C, _, _, PySem.W.mg_of T.i T.n h1, h1, h2, .inl ⟨D, PySem.W.mg_of T.i T.n h3, rfl, rfl⟩, h4, h5⟩
  · exact ⟨C, _, _, PySem.W.mg_of T.i T.n h1, h1, h2, .inr ⟨PySem.W.mg_none_of T.i T.n h3, h4, N, h5, rfl, rfl⟩, h6, h7⟩
theorem excC0 {K : PySem.W.Frag} {D : Addr} (h1 : PySem.W.findIn K (.ref D) "__getattribute__" = some (some (.builtin "BaseException.__getattribute__"))) (h2 : PySem.W.findIn K (.ref D) "__getattr__" = some none) (h3 : PySem.W.subIn K (.ref D) (.type "BaseException") = some true)
    (h4 : PySem.W.hasDictIn K D = true) (h5 : PySem.W.findIn K (.ref D) "__class__" = some (some (.builtin "object.__class__"))) (h6 : PySem.W.specialIn K (.builtin "object.__class__") "__get__" = some (some (.builtin "getset_descriptor.__get__")))
    (h7 : PySem.W.takesIn K (.builtin "object.__class__") = some true) (h8 : PySem.W.mroIn K D (.type "object") = some true) : ExcC K D := ⟨h1, h2, h3, h4, h5, h6, h7, h8⟩
theorem kitCls_ref {K : PySem.W.Frag} {D : Addr} {t : Value} {b : Bool} (h2 : PySem.W.hasDictIn K D = true) (h3 : PySem.W.typeIn K (.ref D) = some (.type "type")) (h4 : PySem.W.subIn K t (.ref D) = some b) : PySem.W.kitCls K t (.ref D) = some b := by
  obtain ⟨cd, hc, _⟩ := PySem.W.any_some h2
  have e2 : ((PySem.W.clsIn K D).isSome && PySem.W.typeIn K (.ref D) == some (.type "type")) = true := by rw [hc, h3] <;> rfl
  show (if ((PySem.W.clsIn K D).isSome && PySem.W.typeIn K (.ref D) == some (.type "type")) = true then PySem.W.subIn K t (.ref D) else none) = some b
  rw [if_pos e2]
  exact h4
theorem kt_own {K : PySem.W.Frag} {c d : Str} {C D : Addr} (n : PySem.W.nsIn K mainGlobals c = some (some (.ref C))) (x : ExcC K C) (m : PySem.W.nsIn K mainGlobals d = some (some (.ref D))) {b : Bool} (hb : subB c d = b)
    (h1 : PySem.W.subIn K (.ref D) (.type "BaseException") = some true) (h2 : PySem.W.hasDictIn K D = true) (h3 : PySem.W.typeIn K (.ref D) = some (.type "type")) (h4 : PySem.W.subIn K (.ref C) (.ref D) = some b) (h5 : PySem.W.subIn K (.ref C) (.ref C) = some true) : Kt0 K c d := by
  subst hb
  refine ⟨C, n, x, .inl ⟨D, m, ?_, PySem.W.exm_ref h1 h2 h3 h4⟩⟩
  unfold PySem.W.kitOne
  split
  · rename_i e
    have e' : (Value.ref C) = .ref D := by simpa using e
    rw [← e', h5] at h4
    exact h4
  · exact kitCls_ref h2 h3 h4
theorem kt_blt {K : PySem.W.Frag} {c : Str} {C : Addr} (n : PySem.W.nsIn K mainGlobals c = some (some (.ref C))) (x : ExcC K C) (m : PySem.W.nsIn K mainGlobals "ValueError" = some none) {b : Bool} (hb : subB c "ValueError" = b)
    (h4 : PySem.W.subIn K (.ref C) (.type "ValueError") = some b) : Kt0 K c "ValueError" := by
  subst hb
  have k : PySem.W.kitCls K (.ref C) (.type "ValueError") = some (subB c "ValueError") := by
    have km : PySem.W.kitMeta "ValueError" = true := by decide +kernel
    show (if PySem.W.kitMeta "ValueError" = true then PySem.W.subIn K (.ref C) (.type "ValueError") else none) = _
    rw [if_pos km]
    exact h4
  have nt : ((Value.ref C) == Value.type "ValueError") = false := by simp
  refine ⟨C, n, x, .inr ⟨m, by decide +kernel, "ValueError", by decide +kernel, ?_, ?_⟩⟩
  · unfold PySem.W.kitOne
    rw [nt]
    simpa using k
  · have sb : PySem.W.subIn K (.type "ValueError") (.type "BaseException") = some true := by
      show (PySem.fastBuiltinMro "ValueError").map (·.contains (.type "BaseException")) = some true
      decide +kernel
    unfold PySem.W.exmOne
    rw [sb]
    simpa using k
theorem glo {K : PySem.W.Frag} {h : Heap} {mg : Str → Option Value} (T : Tops K h mg) (B : ∀ x ∈ btNames, mg x = none) {g : List (Str × PyData)} {kt : List (Str × Str)} {ex : List Str}
    (hg : ∀ p ∈ g, ∃ v u, PySem.W.nsIn K mainGlobals p.1 = some (some u) ∧ RelV v u ∧ ∀ H, Dq K H v p.2) (he : ∀ c ∈ ex, Exc0 K c) (hk : ∀ p ∈ kt, Kt0 K p.1 p.2) : Glo K mg g ex kt where
  gl := fun p hp => let ⟨v, u, h1, h2, h3⟩ := hg p hp; ⟨v, u, PySem.W.mg_of T.i T.n h1, h2, h3⟩
  bt := B
  exc := fun c hc => let ⟨C, h1, h2⟩ := he c hc; ⟨C, PySem.W.mg_of T.i T.n h1, h2⟩
  kt := fun c d h => (hk (c, d) h).kt T
theorem at_def {P : Program} {w : World} {K : PySem.W.Frag} {h base : Heap} {mg : Str → Option Value} (T : Tops K h mg) {f : Str} {st : Stmt} (D : Def1 K f st) {N ps : List Str} {k : Nat} {s : Fs} {body : Sm} {l : List (Str × Fs)} {g : List (Str × PyData)} {kt : List (Str × Str)}
    (S : FnScope N ps (defScope st)) (hps : ps.length = s.ar)
    (hB : ∀ (kV doc pm : Value) (an : Option Addr) (cdv ct : Value) (us : List Value), us.length = ps.length → bindArgs (PySem.W.fnOf f f (defArgs st) (defBody st) (defScope st) .none kV doc pm an cdv ct) ⟨us, []⟩ = pure (ps.zip us))
    (GL : Glo K mg g (rais body) kt) (hc : (isB body && chkS body (defScope st) N (defBody st)) = true)
    (vc : ∀ ds Q X, ds.length = s.ar → s.sp ds Q X → wS ⟨l, g, kt⟩ s.fr body (ent N ds) (fun _ => Q .none) Q X)
    (hl : ∀ p ∈ l, FnAt P w K mg base k p.1 p.2) : FnAt P w K mg base (k + 1) f s := by
  obtain ⟨a, fd, hn, F⟩ := D
  rw [Bool.and_eq_true] at hc
  exact def_at F (PySem.W.mg_of T.i T.n hn) (F.binds hB) S hps GL hl hc.1 hc.2 vc
/-- the law's promise: at each script it says True -/
def sp_law : Fs := ⟨fun ds Q _ => ∃ ns : List Int, ds = [scrD ns] ∧ ns.length ≤ 63 ∧ (∀ z ∈ ns, Builtin.Int.intBits z ≤ 1048576) ∧ Q (.bool true), 1, false⟩
def spL (K : PySem.W.Frag) : Sp := fun vs H Q _ => ∃ (a : Addr) (ns : List Int), vs = [.ref a] ∧ ns.length ≤ 63 ∧ (∀ z ∈ ns, Builtin.Int.intBits z ≤ 1048576) ∧ SqL K H a (ns.map V.int) ∧ ∀ v H', v = .bl true → Q v H'
theorem hid_none {H : Hp} : hid (fun _ => none) H = H := by
  funext b
  unfold hid
  simp
theorem spL_lift {K : PySem.W.Frag} {mg : Str → Option Value} (vs : List V) (H : Hp) (Q : VK) (E : XK) (h : spL K vs H Q E) : liftS K mg sp_law vs H Q E := by
  obtain ⟨a, ns, rfl, h1, h2, h3, h4⟩ := h
  refine ⟨rfl, fun _ => none, [scrD ns], fun _ _ e => (by cases e), fun _ _ e => (by cases e), ?_, up_of rfl ⟨ns, rfl, h1, h2, ?_⟩⟩
  · rw [hid_none]
    exact .cons (.scr h3) .nil
  · intro v H' _ hd _
    rw [hid_none] at hd
    cases hd
    exact h4 _ _ rfl
theorem law_F {l : PySem.W.OpenLaw} {w : World} {K : PySem.W.Frag} {h : Heap} {mg : Str → Option Value} {k : Nat} (fa : Addr) (T : Tops K h mg) (hfa : mg "law" = some (.ref fa)) {st : Stmt} (D : Def1 K "law" st)
    (hB : ∀ (kV doc pm : Value) (an : Option Addr) (cdv ct : Value) (us : List Value), us.length = 1 → bindArgs (PySem.W.fnOf "law" "law" (defArgs st) (defBody st) (defScope st) .none kV doc pm an cdv ct) ⟨us, []⟩ = pure ((["script"] : List Str).zip us))
    {N : List Str} {body : Sm} {fs : List (Str × Fs)} {g : List (Str × PyData)} {kt : List (Str × Str)} (S : FnScope N ["script"] (defScope st)) (GL : Glo K mg g (rais body) kt) (hc : (isB body && chkS body (defScope st) N (defBody st)) = true)
    (vc : ∀ ds Q X, ds.length = 1 → sp_law.sp ds Q X → wS ⟨fs, g, kt⟩ false body (ent N ds) (fun _ => Q .none) Q X)
    (hl : ∀ base : Heap, ∀ p ∈ fs, FnAt l.prog w K mg base k p.1 p.2) :
    ∃ fd : FuncData, (∀ (s : Shared) (u : Value), BindsTo s fd ⟨[u], []⟩ [("script", u)]) ∧ ∀ base : Heap, K.In base → base.Ns mainGlobals mg → FnOk l.prog w K mg base (L2.CX l.prog w) (k + 1) fa fd ["script"] (spL K) := by
  obtain ⟨a, fd, hn, F⟩ := D
  have m := PySem.W.mg_of T.i T.n hn
  have e := hfa.symm.trans m
  cases e
  have B := F.binds (ps := ["script"]) hB
  rw [Bool.and_eq_true] at hc
  obtain ⟨oc, od, kV, doc, pm, an, cdv, ct, osl, rfl, lk, hcd⟩ := F.ex
  refine ⟨_, fun s u => .of_eq (hB kV doc pm an cdv ct [u] rfl), fun base _ _ => ?_⟩
  exact (def_ok (P := l.prog) (w := w) (base := base) (s := sp_law) F m B S rfl GL (hl base) hc.1 hc.2 vc).imp fun vs H Q E q => spL_lift _ _ _ _ q
end Pu

set_option Elab.async false
set_option linter.all false
set_option maxRecDepth 100000
set_option maxHeartbeats 4000000
namespace Pu
open PySem L2 TL
local macro_rules | `(tactic| walk_at "vc") => `(tactic| try simp -dsimp only [↓wS_skip, ↓wS_pass, ↓wS_seq, ↓wS_asg, ↓wS_asgF, ↓wS_asgT, ↓wS_sti, ↓wS_app, ↓wS_fz, ↓wS_ite, ↓wS_for, ↓wS_whl, ↓wS_ret, ↓wS_rai, ↓wS_nev, ↓wS_tryK, ↓wE_var, ↓wE_int, ↓wE_str, ↓wE_bl, ↓wE_non, ↓wE_emp, ↓wE_gl, ↓wE_bin, ↓wE_neg, ↓wE_cmp, ↓wE_chn, ↓wE_and1, ↓wE_and, ↓wE_or1, ↓wE_or, ↓wE_not, ↓wE_ite, ↓wE_tup, ↓wE_lst, ↓wE_nil, ↓wE_cons, ↓wE_ix, ↓wE_pix, ↓wE_sl0, ↓wE_slL, ↓wE_slH, ↓wE_slB, ↓wE_rv, ↓wE_call, ↓wE_callT, ↓wE_blt, ↓wE_pl, ↓wE_pin, ↓wE_met, ↓wE_isi, ↓wE_isx, ↓isxR_e, ↓wE_lc, ↓wE_lci, ↓wE_itL, ↓wE_itT, ↓wE_itS, ↓wE_rg1, ↓wE_rg2, ↓wE_rg3, ↓wE_zip, ↓wE_rev, ↓wE_enu, ↓nxt_eq, ↓hold_d, ↓hold_b, ↓rdV, ↓rdP, ↓rdO, ↓ofB_b, ↓ofI_i, ↓ofT_t, ↓ofL_l, ↓ofS_s, ↓sBin_ai, ↓sBin_as, ↓sBin_al, ↓sBin_si, ↓sBin_mi, ↓sBin_ml, ↓sBin_di, ↓sBin_mo, ↓sBin_po, ↓sCmp_eq, ↓sCmp_ne, ↓sCmp_in, ↓sCmp_ni, ↓sCmp_isn, ↓sCmp_isb, ↓sCmp_nis, ↓sCmp_lt, ↓sCmp_le, ↓sCmp_gt, ↓sCmp_ge, ↓sIx_t0, ↓sIx_t1, ↓sIx_t2, ↓sIx_l0, ↓sIx_l1, ↓sEq_i, ↓sEq_s, ↓sEq_b, ↓sB, ↓sSl_s, ↓sSl_l, ↓sLen_l, ↓sLen_t, ↓sLen_d, ↓sLen_s, ↓bnd, ↓frR, ↓frE, wip, frz, ent, List.map_cons, List.map_nil, List.length_cons, List.length_nil, List.cons_append, List.nil_append, List.replicate, List.set_cons_zero, List.set_cons_succ, Sl.fz, List.getElem?_cons_zero, List.getElem?_cons_succ, List.zip_cons_cons, List.zip_nil_right, List.foldl_cons, List.foldl_nil, Bool.not_true, Bool.not_false, if_true, if_false, Bool.false_eq_true, Option.some.injEq, Prod.mk.injEq, true_and, and_true, exists_eq_left', false_implies, Nat.reduceSub, Nat.reduceAdd, Nat.reduceMul, Int.reduceLT, Int.reduceLE, Int.reduceNeg, Int.reduceAdd, Int.reduceSub, Int.reduceMul, Int.reduceEq, Nat.reduceLT, Nat.reduceLeDiff, decide_true, decide_false, decide_eq_true_eq, reduceCtorEq])
local macro_rules | `(tactic| walk_at "vs") => `(tactic| try simp -dsimp only [↓wS_skip, ↓wS_pass, ↓wS_seq, ↓wS_asg, ↓wS_asgF, ↓wS_asgT, ↓wS_sti, ↓wS_app, ↓wS_fz, ↓wS_for, ↓wS_whl, ↓wS_ret, ↓wS_rai, ↓wS_nev, ↓wS_tryK, ↓wE_var, ↓wE_int, ↓wE_str, ↓wE_bl, ↓wE_non, ↓wE_emp, ↓wE_gl, ↓wE_bin, ↓wE_neg, ↓wE_cmp, ↓wE_chn, ↓wE_and1, ↓wE_and, ↓wE_or1, ↓wE_or, ↓wE_not, ↓wE_ite, ↓wE_tup, ↓wE_lst, ↓wE_nil, ↓wE_cons, ↓wE_ix, ↓wE_pix, ↓wE_sl0, ↓wE_slL, ↓wE_slH, ↓wE_slB, ↓wE_rv, ↓wE_call, ↓wE_callT, ↓wE_blt, ↓wE_pl, ↓wE_pin, ↓wE_met, ↓wE_isi, ↓wE_isx, ↓isxR_e, ↓wE_lc, ↓wE_lci, ↓wE_itL, ↓wE_itT, ↓wE_itS, ↓wE_rg1, ↓wE_rg2, ↓wE_rg3, ↓wE_zip, ↓wE_rev, ↓wE_enu, ↓nxt_eq, ↓hold_d, ↓hold_b, ↓rdV, ↓rdP, ↓rdO, ↓ofB_b, ↓ofI_i, ↓ofT_t, ↓ofL_l, ↓ofS_s, ↓sBin_ai, ↓sBin_as, ↓sBin_al, ↓sBin_si, ↓sBin_mi, ↓sBin_ml, ↓sBin_di, ↓sBin_mo, ↓sBin_po, ↓sCmp_eq, ↓sCmp_ne, ↓sCmp_in, ↓sCmp_ni, ↓sCmp_isn, ↓sCmp_isb, ↓sCmp_nis, ↓sCmp_lt, ↓sCmp_le, ↓sCmp_gt, ↓sCmp_ge, ↓sIx_t0, ↓sIx_t1, ↓sIx_t2, ↓sIx_l0, ↓sIx_l1, ↓sEq_i, ↓sEq_s, ↓sEq_b, ↓sB, ↓sSl_s, ↓sSl_l, ↓sLen_l, ↓sLen_t, ↓sLen_d, ↓sLen_s, ↓bnd, ↓frR, ↓frE, wip, frz, ent, List.map_cons, List.map_nil, List.length_cons, List.length_nil, List.cons_append, List.nil_append, List.replicate, List.set_cons_zero, List.set_cons_succ, Sl.fz, List.getElem?_cons_zero, List.getElem?_cons_succ, List.zip_cons_cons, List.zip_nil_right, List.foldl_cons, List.foldl_nil, Bool.not_true, Bool.not_false, if_true, if_false, Bool.false_eq_true, Option.some.injEq, Prod.mk.injEq, true_and, and_true, exists_eq_left', false_implies, Nat.reduceSub, Nat.reduceAdd, Nat.reduceMul, Int.reduceLT, Int.reduceLE, Int.reduceNeg, Int.reduceAdd, Int.reduceSub, Int.reduceMul, Int.reduceEq, Nat.reduceLT, Nat.reduceLeDiff, decide_true, decide_false, decide_eq_true_eq, reduceCtorEq])

/-! ### is_whole -/
/-- is_whole(thing); slots 0:thing; calls []; consts [] -/
def ir_is_whole : Sm := (.seq (.ret (.and (.isi (.var 0) .int) (.and1 (.not (.isi (.var 0) .bool))))) .skip)
def n_is_whole : List Str := ["thing"]
def isWh : PyData → Bool
  | .int _ => true
  | _ => false
def sp_is_whole : Fs := ⟨fun ds Q _ => ∃ d, ds = [d] ∧ noD d = true ∧ Q (.bool (isWh d)), 1, false⟩
theorem vc_is_whole (G : Gam) : ∀ ds Q X, ds.length = 1 → sp_is_whole.sp ds Q X → wS G false ir_is_whole (ent n_is_whole ds) (fun _ => Q .none) Q X := by
  rintro ds Q X - ⟨d, rfl, hn, q⟩
  unfold ir_is_whole n_is_whole
  walk_at "vc"
  refine ⟨hn, ?_⟩
  cases d <;> simp [tyD, isWh, noD] at * <;> assumption

/-! ### divisor -/
/-- divisor(one, other); slots 0:one 1:other 2:rest; calls []; consts [] -/
def ir_divisor : Sm := (.seq (.asg 0 (.blt .abs (.cons (.var 0) .nil))) (.seq (.asg 1 (.blt .abs (.cons (.var 1) .nil))) (.seq (.whl (.cmp .Gt (.var 1) (.int 0)) (.seq (.asg 2 (.bin .Mod (.var 0) (.var 1))) (.seq (.asg 0 (.var 1)) (.seq (.asg 1 (.var 2)) .skip)))) (.seq (.ret (.var 0)) .skip))))
def n_divisor : List Str := ["one", "other", "rest"]
def sp_divisor : Fs := ⟨fun ds Q _ => ∃ a b : Int, ds = [.int a, .int b] ∧ Q (.int (Int.gcd a b)), 2, false⟩
theorem gcd_step (a b : Int) : Int.gcd b (a % b) = Int.gcd a b := by
  have h : a % b = a + (-(a / b)) * b := by
    have := Int.emod_def a b
    rw [this, Int.neg_mul, Int.mul_comm b]
    omega
  rw [h, Int.gcd_add_mul_right_right, Int.gcd_comm]
/-- the loop of the greatest number that divides both -/
theorem gcd_loop {G : Gam} {fr : Bool} {rt : PyData → Prop} {X : Str → Prop} {nx : Ev → Prop} {a b : Int} {c : Sl} (ha : 0 ≤ a) (hb : 0 ≤ b) (h : ∀ c, nx [.sh (.int (Int.gcd a b)), .sh (.int 0), c]) :
    ∃ n, wW G (.cmp .Gt (.var 1) (.int 0)) (wS G fr (.seq (.asg 2 (.bin .Mod (.var 0) (.var 1))) (.seq (.asg 0 (.var 1)) (.seq (.asg 1 (.var 2)) .skip)))) nx rt X n [.sh (.int a), .sh (.int b), c] := by
  refine ⟨_, wW_inv (fun m r => ∃ x y c, r = [.sh (.int x), .sh (.int y), c] ∧ 0 ≤ x ∧ 0 ≤ y ∧ m = y.toNat ∧ Int.gcd x y = Int.gcd a b) ?_ ⟨a, b, c, rfl, ha, hb, rfl, rfl⟩⟩
  rintro m r ⟨x, y, c, rfl, hx, hy, rfl, e⟩
  walk_at "vc"
  by_cases h0 : 0 < y
  · simp only [h0, if_true]
    refine ⟨trivial, (x % y).toNat, ?_, y, x % y, _, rfl, hy, Int.emod_nonneg _ (by omega), rfl, by rw [gcd_step, e]⟩
    have := Int.emod_lt_of_pos x h0
    have := Int.emod_nonneg x (b := y) (by omega)
    omega
  · have : y = 0 := by omega
    subst this
    have h2 := h c
    rw [← e, Int.gcd_zero, Int.natAbs_of_nonneg hx] at h2
    simpa using h2
theorem vc_divisor (G : Gam) : ∀ ds Q X, ds.length = 2 → sp_divisor.sp ds Q X → wS G false ir_divisor (ent n_divisor ds) (fun _ => Q .none) Q X := by
  rintro ds Q X - ⟨a, b, rfl, q⟩
  unfold ir_divisor n_divisor
  walk_at "vc"
  refine gcd_loop (by split <;> omega) (by split <;> omega) fun c => ?_
  walk_at "vc"
  have : Int.gcd (if a < 0 then -a else a) (if b < 0 then -b else b) = Int.gcd a b := by
    split <;> split <;> simp
  rw [this]
  exact q

/-! ### lowest -/
/-- lowest(top, bottom); slots 0:top 1:bottom 2:many; calls ['divisor']; consts [] -/
def ir_lowest : Sm := (.seq (.asg 2 (.call 0 "divisor" (.cons (.var 0) (.cons (.var 1) .nil)))) (.seq (.ite (.cmp .Lt (.var 1) (.int 0)) (.seq (.asg 2 (.neg (.var 2))) .skip) .skip) (.seq (.ret (.tup (.cons (.bin .FloorDiv (.var 0) (.var 2)) (.cons (.bin .FloorDiv (.var 1) (.var 2)) .nil)))) .skip)))
def n_lowest : List Str := ["top", "bottom", "many"]
/-- a fraction, as data -/
def fr (t b : Int) : PyData := .tuple [.int t, .int b]
/-- in lowest terms, the bottom above 0 -/
def lowM (t b : Int) : PyData := fr (t / Int.gcd t b) (b / Int.gcd t b)
def sp_lowest : Fs := ⟨fun ds Q _ => ∃ t b : Int, ds = [.int t, .int b] ∧ 0 < b ∧ b.natAbs.log2 < 9000 ∧ Q (lowM t b), 2, false⟩
theorem log2_le {a b : Nat} (h : a ≤ b) : a.log2 ≤ b.log2 := by
  by_cases h0 : a = 0
  · subst h0; simp
  · have h1 : b ≠ 0 := by omega
    exact (Nat.le_log2 h1).mpr (Nat.le_trans (Nat.log2_self_le h0) h)
theorem gcd_pos {t b : Int} (hb : 0 < b) : (0 : Int) < Int.gcd t b := by
  have := Int.gcd_pos_of_ne_zero_right t (b := b) (by omega)
  omega
theorem gcd_div {t b : Int} (hb : 0 < b) (h : b.natAbs.log2 < 9000) (i : Int) : CDivW i (Int.gcd t b : Int) := by
  refine ⟨gcd_pos hb, Nat.lt_of_le_of_lt (log2_le ?_) h⟩
  have := Int.gcd_le_natAbs_right t (b := b) (by omega)
  omega
theorem vc_lowest : ∀ ds Q X, ds.length = 2 → sp_lowest.sp ds Q X → wS ⟨[("divisor", sp_divisor)], [], []⟩ false ir_lowest (ent n_lowest ds) (fun _ => Q .none) Q X := by
  rintro ds Q X - ⟨t, b, rfl, hb, hl, q⟩
  unfold ir_lowest n_lowest
  walk_at "vc"
  refine up_of rfl ⟨t, b, rfl, ?_⟩
  walk_at "vc"
  have h0 : ¬ b < 0 := by omega
  simp only [h0, decide_false, Bool.false_eq_true, if_false]
  exact ⟨gcd_div hb hl _, gcd_div hb hl _, by decide, q⟩

/-! ### fraction -/
/-- fraction(top, bottom); slots 0:top 1:bottom; calls ['is_whole', 'lowest']; consts [] -/
def ir_fraction : Sm := (.seq (.ite (.or (.not (.call 0 "is_whole" (.cons (.var 0) .nil))) (.or1 (.not (.call 0 "is_whole" (.cons (.var 1) .nil))))) (.seq .nev .skip) .skip) (.seq (.ite (.cmp .Eq (.var 1) (.int 0)) (.seq .nev .skip) .skip) (.seq (.ret (.call 1 "lowest" (.cons (.var 0) (.cons (.var 1) .nil)))) .skip)))
def n_fraction : List Str := ["top", "bottom"]
def sp_fraction : Fs := ⟨fun ds Q _ => ∃ t b : Int, ds = [.int t, .int b] ∧ 0 < b ∧ b.natAbs.log2 < 9000 ∧ Q (lowM t b), 2, false⟩
theorem vc_fraction : ∀ ds Q X, ds.length = 2 → sp_fraction.sp ds Q X → wS ⟨[("is_whole", sp_is_whole), ("lowest", sp_lowest)], [], []⟩ false ir_fraction (ent n_fraction ds) (fun _ => Q .none) Q X := by
  rintro ds Q X - ⟨t, b, rfl, hb, hl, q⟩
  unfold ir_fraction n_fraction
  walk_at "vc"
  refine up_of rfl ⟨.int t, rfl, rfl, ?_⟩
  walk_at "vc"
  simp only [isWh]
  walk_at "vc"
  refine up_of rfl ⟨.int b, rfl, rfl, ?_⟩
  walk_at "vc"
  simp only [isWh]
  walk_at "vc"
  have h0 : ¬ b = 0 := by omega
  simp only [h0, decide_false, Bool.false_eq_true, if_false]
  exact up_of rfl ⟨t, b, rfl, hb, hl, q⟩

/-! ### whole_of -/
def isDg (c : Nat) : Bool := decide (48 ≤ c) && decide (c ≤ 57)
/-- one to nine figures, no noughts ahead -/
def numOk (l : List Nat) : Bool := decide (1 ≤ l.length) && decide (l.length ≤ 9) && l.all isDg && !(decide (l.head? = some 48) && decide (1 < l.length))
/-- the number that they write -/
def numVal (l : List Nat) : Int := (NumText.digitsVal l : Nat)
/-- whole_of(text); slots 0:text 1:sign; calls []; consts ['FIGURES'] -/
def ir_whole_of : Sm := (.seq (.ite (.or (.cmp .Lt (.pl 0) (.int 1)) (.or1 (.cmp .Gt (.pl 0) (.int 9)))) (.seq (.rai "NoText") .skip) .skip) (.seq (.for (.n 1) (.itS (.var 0)) (.seq (.ite (.cmp .NotIn (.var 1) (.gl 0 "FIGURES")) (.seq (.rai "NoText") .skip) .skip) .skip)) (.seq (.ite (.and (.cmp .Eq (.pix 0 (.int 0)) (.str "0")) (.and1 (.cmp .Gt (.pl 0) (.int 1)))) (.seq (.rai "NoText") .skip) .skip) (.seq (.ret (.blt .int (.cons (.var 0) .nil))) .skip))))
def n_whole_of : List Str := ["text", "sign"]
def sp_whole_of : Fs := ⟨fun ds Q X => ∃ s : Str, ds = [.str s] ∧ s.length ≤ sizeLine ∧ (if numOk (tl s) = true then Q (.int (numVal (tl s))) else X "NoText"), 1, false⟩
theorem figs_mem (c : Nat) : decide (c ∈ ("0123456789" : Str).cps.toList) = isDg c := by
  have h : ("0123456789" : Str).cps.toList = [48, 49, 50, 51, 52, 53, 54, 55, 56, 57] := by decide +kernel
  rw [h]
  unfold isDg
  by_cases h1 : 48 ≤ c <;> by_cases h2 : c ≤ 57 <;> simp [h1, h2] <;> omega
theorem sIn_one (c : Nat) (z : Str) (Q : Bool → Prop) : sIn (.str ⟨#[c]⟩) (.str z) Q = Q (decide (c ∈ z.cps.toList)) := by
  show Q (!(Builtin.Str.occurrences z ⟨#[c]⟩ 0 z.length 1).isEmpty) = _
  rw [PySem.StrLaws.found_one]
theorem sIx_str {z : Str} {i : Int} {c : Nat} {Q : PyData → Prop} (h : z.length ≤ sizeLine) (e : atI z.cps.toList i = some c) : sIx (.str z) (.int i) Q = Q (.str ⟨#[c]⟩) := by
  simp only [sIx, e, h, true_and]
theorem vc_whole_of : ∀ ds Q X, ds.length = 1 → sp_whole_of.sp ds Q X → wS ⟨[], [("FIGURES", .str "0123456789")], []⟩ false ir_whole_of (ent n_whole_of ds) (fun _ => Q .none) Q X := by
  rintro ds Q X - ⟨s, rfl, hl, q⟩
  unfold ir_whole_of n_whole_of
  walk_at "vc"
  refine ⟨hl, ?_⟩
  have el : s.length = (tl s).length := len_tl s
  generalize hL : tl s = l at q el
  have el' : ((s.length : Nat) : Int) = (l.length : Nat) := by rw [el]
  by_cases h1 : 1 ≤ l.length
  case neg =>
    have : ((s.length : Nat) : Int) < 1 := by omega
    simp only [this, if_true, decide_true]
    have : numOk l = false := by unfold numOk; simp [h1]
    simpa [this] using q
  have h1' : ¬ ((s.length : Nat) : Int) < 1 := by omega
  simp only [h1', decide_false, Bool.false_eq_true, if_false]
  refine ⟨hl, ?_⟩
  by_cases h9 : l.length ≤ 9
  case neg =>
    have : (9 : Int) < ((s.length : Nat) : Int) := by omega
    simp only [this, if_true, decide_true]
    have : numOk l = false := by unfold numOk; simp [h9]
    simpa [this] using q
  have h9' : ¬ (9 : Int) < ((s.length : Nat) : Int) := by omega
  simp only [h9', decide_false, Bool.false_eq_true, if_false]
  walk_at "vc"
  rw [show s.cps.toList = l from hL]
  refine wF_inv (fun i r => ∃ c, r = [.sh (.str s), c] ∧ ∀ x ∈ l.take i, isDg x = true) ⟨_, rfl, by simp⟩ ?_ ?_
  · rintro i d r hd ⟨c, rfl, ha⟩
    rw [List.getElem?_map] at hd
    cases hc : l[i]? with
    | none => rw [hc] at hd; cases hd
    | some x =>
      rw [hc] at hd
      cases hd
      walk_at "vc"
      rw [sIn_one, figs_mem]
      by_cases hx : isDg x = true
      · simp only [hx, Bool.not_true, Bool.false_eq_true, if_false]
        walk_at "vc"
        refine ⟨_, rfl, ?_⟩
        rw [List.take_add_one, hc]
        intro y hy
        rcases List.mem_append.mp hy with hy | hy
        · exact ha y hy
        · simp at hy; rw [hy]; exact hx
      · simp only [hx, Bool.not_false, if_true]
        walk_at "vc"
        have : numOk l = false := by
          unfold numOk
          have : l.all isDg = false := by
            rw [List.all_eq_false]
            exact ⟨x, List.mem_of_getElem? hc, hx⟩
          simp [this]
        simpa [this] using q
  · rintro r ⟨c, rfl, ha⟩
    rw [List.length_map, List.take_length] at ha
    walk_at "vc"
    cases l with
    | nil => simp at h1
    | cons x r =>
      have ex : atI s.cps.toList 0 = some x := by
        rw [show s.cps.toList = x :: r from hL]
        exact atI_nat (j := 0) rfl
      rw [sIx_str hl ex]
      walk_at "vc"
      have e0 : ("0" : Str) = ⟨#[48]⟩ := by decide +kernel
      have ed : ((⟨#[x]⟩ : Str) = ⟨#[48]⟩) = (x = 48) := propext ⟨fun h => by injection h with h; simpa using h, fun h => by rw [h]⟩
      simp only [e0, ed]
      have hall : (x :: r).all isDg = true := List.all_eq_true.mpr ha
      have hdig : NumText.AllDigits (x :: r) := fun c hc => by
        have := ha c hc
        unfold isDg at this
        simpa using this
      have hint : intText? s = some (numVal (x :: r)) := by
        have := PySem.intText_digits (x := s) (by rw [show s.cps.toList = x :: r from hL]; exact hdig) (by rw [show s.cps.toList = x :: r from hL]; simp) (by omega)
        rw [show s.cps.toList = x :: r from hL] at this
        exact this
      by_cases h48 : x = 48
      · simp only [h48, if_true]
        refine ⟨hl, ?_⟩
        by_cases hlen : 1 < (x :: r).length
        · have : (1 : Int) < ((s.length : Nat) : Int) := by omega
          simp only [this, if_true]
          have : numOk (x :: r) = false := by unfold numOk; simp at hlen; simp [h48, hlen]
          simpa [this] using q
        · have : ¬ (1 : Int) < ((s.length : Nat) : Int) := by omega
          simp only [this, if_false]
          have : numOk (x :: r) = true := by unfold numOk; simp only [hall]; simp at hlen; simp [hlen]
          rw [this] at q
          exact ⟨_, hint, by omega, by simpa using q⟩
      · simp only [h48, if_false]
        have : numOk (x :: r) = true := by unfold numOk; simp only [hall]; simp only [List.length_cons] at *; simp [h48]; omega
        rw [this] at q
        exact ⟨_, hint, by omega, by simpa using q⟩

/-! ### read_number -/
/-- read_number(text); slots 0:text 1:top 2:bottom 3:head 4:bar 5:tail; calls ['whole_of', 'fraction']; consts [] -/
def ir_read_number : Sm := (.seq (.ite (.not (.isi (.var 0) .str)) (.seq (.rai "NoText") .skip) .skip) (.seq (.ite (.pin true (.str "/") 0) (.seq (.ret (.tup (.cons (.call 0 "whole_of" (.cons (.var 0) .nil)) (.cons (.int 1) .nil)))) .skip) .skip) (.seq (.asgT [3, 4, 5] (.met .partition (.var 0) (.cons (.str "/") .nil))) (.seq (.asg 1 (.call 0 "whole_of" (.cons (.var 3) .nil))) (.seq (.asg 2 (.call 0 "whole_of" (.cons (.var 5) .nil))) (.seq (.ite (.or (.cmp .Lt (.var 2) (.int 2)) (.or1 (.cmp .NotEq (.call 1 "fraction" (.cons (.var 1) (.cons (.var 2) .nil))) (.tup (.cons (.var 1) (.cons (.var 2) .nil)))))) (.seq (.rai "NoText") .skip) .skip) (.seq (.ret (.tup (.cons (.var 1) (.cons (.var 2) .nil)))) .skip)))))))
def n_read_number : List Str := ["text", "top", "bottom", "head", "bar", "tail"]
/-- what a text of a number tells: signs, then the number -/
def rdNum (l : List Nat) : Option (Int × Int) :=
  if 47 ∈ l then
    match par [47] [] l with
    | some (a, b) => if numOk a = true ∧ numOk b = true ∧ 2 ≤ numVal b ∧ Int.gcd (numVal a) (numVal b) = 1 then some (numVal a, numVal b) else none
    | none => none
  else if numOk l = true then some (numVal l, 1) else none
def isStr : PyData → Bool
  | .str _ => true
  | _ => false
def sp_read_number : Fs := ⟨fun ds Q X => ∃ d, ds = [d] ∧ noD d = true ∧ (match d with
  | .str s => s.length ≤ sizeLine ∧ (match rdNum (tl s) with | some p => Q (fr p.1 p.2) | none => X "NoText")
  | _ => X "NoText"), 1, false⟩
theorem numVal_nn (l : List Nat) : 0 ≤ numVal l := Int.natCast_nonneg _
theorem val_lt : ∀ (l : List Nat) (a : Nat), l.all isDg = true → l.foldl (fun acc c => acc * 10 + (c - 48)) a < (a + 1) * 10 ^ l.length
  | [], a, _ => by simp
  | c :: l, a, h => by
    simp only [List.all_cons, Bool.and_eq_true] at h
    have hc : 48 ≤ c ∧ c ≤ 57 := by simpa [isDg] using h.1
    have ih := val_lt l (a * 10 + (c - 48)) h.2
    rw [List.foldl_cons, List.length_cons, Nat.pow_succ]
    have h2 : (a * 10 + (c - 48) + 1) * 10 ^ l.length ≤ (a + 1) * (10 ^ l.length * 10) := by
      have : a * 10 + (c - 48) + 1 ≤ (a + 1) * 10 := by omega
      calc (a * 10 + (c - 48) + 1) * 10 ^ l.length ≤ ((a + 1) * 10) * 10 ^ l.length := Nat.mul_le_mul_right _ this
        _ = (a + 1) * (10 ^ l.length * 10) := by rw [Nat.mul_assoc, Nat.mul_comm 10]
    omega
theorem numVal_lt {l : List Nat} (h : numOk l = true) : numVal l < 1000000000 := by
  unfold numOk at h
  simp only [Bool.and_eq_true, decide_eq_true_eq] at h
  have h1 := val_lt l 0 h.1.2
  have h2 : 10 ^ l.length ≤ 10 ^ 9 := Nat.pow_le_pow_right (by decide) h.1.1.2
  unfold numVal NumText.digitsVal
  omega
theorem log2_small {b : Int} (h0 : 0 ≤ b) (h : b < 1000000000) : b.natAbs.log2 < 9000 := by
  have : b.natAbs.log2 ≤ (1000000000 : Nat).log2 := log2_le (by omega)
  have e : (1000000000 : Nat).log2 = 29 := by decide +kernel
  omega
theorem sIn_slash (z : Str) (Q : Bool → Prop) : sIn (.str "/") (.str z) Q = Q (decide (47 ∈ tl z)) := by
  have e : ("/" : Str) = ⟨#[47]⟩ := by decide +kernel
  rw [e, sIn_one]
theorem slash_tl : tl ("/" : Str) = 47 :: [] := by decide +kernel
theorem isi_str (d : PyData) : tyD d .str = isStr d := by cases d <;> rfl
theorem mk_len (l : List Nat) : (⟨l.toArray⟩ : Str).length = l.length := by simp [Str.length]
theorem lowM_eq {t b : Int} (hb : 0 < b) : PyData.eqv (lowM t b) (fr t b) = decide (Int.gcd t b = 1) := by
  unfold lowM fr
  simp only [PyData.eqv, PyData.eqvAll, Bool.and_true]
  have hg := gcd_pos (t := t) hb
  by_cases h : Int.gcd t b = 1
  · simp [h]
  · simp only [h, decide_false, Bool.and_eq_false_iff]
    right
    have h1 : ((Int.gcd t b : Nat) : Int) ≠ 1 := by omega
    have h2 : (Int.gcd t b : Int) ∣ b := Int.gcd_dvd_right ..
    obtain ⟨k, hk⟩ := h2
    have : b / (Int.gcd t b : Int) = k := by
      conv => lhs; lhs; rw [hk]
      exact Int.mul_ediv_cancel_left k (by omega)
    rw [this]
    simp only [beq_eq_false_iff_ne]
    intro e
    rw [e] at hk
    have h3 : ((Int.gcd t b : Nat) : Int) * b = b := hk.symm
    have h4 : (((Int.gcd t b : Nat) : Int) - 1) * b = 0 := by rw [Int.sub_mul]; omega
    rcases Int.mul_eq_zero.mp h4 with h5 | h5 <;> omega
theorem vc_read_number : ∀ ds Q X, ds.length = 1 → sp_read_number.sp ds Q X → wS ⟨[("whole_of", sp_whole_of), ("fraction", sp_fraction)], [], []⟩ false ir_read_number (ent n_read_number ds) (fun _ => Q .none) Q X := by
  rintro ds Q X - ⟨d, rfl, hd, q⟩
  unfold ir_read_number n_read_number
  walk_at "vc"
  refine ⟨hd, ?_⟩
  rw [isi_str]
  cases d with
  | str s =>
    obtain ⟨hl, q⟩ := q
    simp only [isStr]
    walk_at "vc"
    rw [sIn_slash]
    unfold rdNum at q
    by_cases h47 : 47 ∈ tl s
    · simp only [h47, if_true, decide_true, Bool.not_true, Bool.false_eq_true, if_false] at q ⊢
      walk_at "vc"
      refine ⟨rfl, ?_⟩
      simp only [sM]
      refine ⟨by decide +kernel, hl, ?_⟩
      have hp := partition_par s "/" (by rw [slash_tl]; simp)
      rw [slash_tl] at hp
      obtain ⟨a, b, hab, hna⟩ := List.eq_append_cons_of_mem h47
      have hpar : par [47] [] (tl s) = some (a, b) := by
        have e := TL.par_part1 (s := 47) (S := []) (p := a) (rest := b) (acc := []) hna
        rw [List.nil_append] at e
        rw [hab]; exact e
      rw [hpar] at hp q
      simp only at q hp
      rw [hp]
      have hla : a.length + b.length < s.length := by rw [len_tl, hab]; simp
      walk_at "vc"
      refine up_of rfl ⟨_, rfl, by rw [mk_len]; omega, ?_⟩
      rw [tl_mk]
      by_cases ha : numOk a = true
      case neg => simp only [ha, false_and, if_false] at q ⊢; exact q
      simp only [ha, true_and, if_true] at q ⊢
      walk_at "vc"
      refine up_of rfl ⟨_, rfl, by rw [mk_len]; omega, ?_⟩
      rw [tl_mk]
      by_cases hb : numOk b = true
      case neg => simp only [hb, false_and, if_false] at q ⊢; exact q
      simp only [hb, true_and, if_true] at q ⊢
      walk_at "vc"
      by_cases h2 : 2 ≤ numVal b
      case neg =>
        have : numVal b < 2 := by omega
        simp only [h2, false_and, if_false] at q
        simp only [this, if_true]
        exact q
      have h2' : ¬ numVal b < 2 := by omega
      simp only [h2', if_false]
      walk_at "vc"
      refine up_of rfl ⟨_, _, rfl, by omega, log2_small (by omega) (numVal_lt hb), ?_⟩
      walk_at "vc"
      refine ⟨by decide, rfl, rfl, ?_⟩
      walk_at "vc"
      have e := lowM_eq (t := numVal a) (b := numVal b) (by omega)
      rw [show (PyData.tuple [.int (numVal a), .int (numVal b)]) = fr (numVal a) (numVal b) from rfl, e]
      by_cases hg : Int.gcd (numVal a) (numVal b) = 1
      · simp only [h2, hg, decide_true, and_self, if_true] at q
        simp only [hg, decide_true, Bool.not_true, Bool.false_eq_true, if_false]
        exact ⟨by decide, q⟩
      · simp only [h2, hg, and_false, if_false] at q
        simp only [hg, decide_false, Bool.not_false, if_true]
        exact q
    · simp only [h47, if_false, decide_false, Bool.not_false, if_true] at q ⊢
      walk_at "vc"
      refine up_of rfl ⟨s, rfl, hl, ?_⟩
      by_cases hn : numOk (tl s) = true
      · simp only [hn, if_true] at q ⊢
        walk_at "vc"
        exact ⟨by decide, q⟩
      · simp only [hn, if_false] at q ⊢
        exact q
  | none => simp only [isStr]; walk_at "vc"; exact q
  | bool b => simp only [isStr]; walk_at "vc"; exact q
  | int b => simp only [isStr]; walk_at "vc"; exact q
  | list b => simp only [isStr]; walk_at "vc"; exact q
  | tuple b => simp only [isStr]; walk_at "vc"; exact q
  | dict b => simp only [isStr]; walk_at "vc"; exact q

/-! ### lists by turns -/
theorem lcs_to {t e : PyData → (Option PyData → Prop) → Prop} (ht : ∀ d k, t d k = k (some .none)) : ∀ {ds rs acc : List PyData} {Q : PyData → Prop}, rs.length = ds.length →
    (∀ (i : Nat) d y, ds[i]? = some d → rs[i]? = some y → ∀ k : Option PyData → Prop, k (some y) → e d k) → Q (.list (acc ++ rs)) → lcs t e ds acc Q
  | [], [], acc, Q, _, _, h => by simpa [lcs] using h
  | [], _ :: _, _, _, hl, _, _ => by cases hl
  | _ :: _, [], _, _, hl, _, _ => by cases hl
  | d :: ds, y :: rs, acc, Q, hl, he, h => by
    simp only [lcs]
    rw [ht]
    refine he 0 d y rfl rfl _ ?_
    exact lcs_to ht (Nat.succ.inj hl) (fun i d' y' h1 h2 => he (i + 1) d' y' h1 h2) (by simpa using h)

/-! ### show_number -/
/-- show_number(one); slots 0:one; calls []; consts [] -/
def ir_show_number : Sm := (.seq (.ite (.cmp .Eq (.pix 0 (.int 1)) (.int 1)) (.seq (.ret (.blt .str (.cons (.pix 0 (.int 0)) .nil))) .skip) .skip) (.seq (.ret (.bin .Add (.bin .Add (.blt .str (.cons (.pix 0 (.int 0)) .nil)) (.str "/")) (.blt .str (.cons (.pix 0 (.int 1)) .nil)))) .skip))
def n_show_number : List Str := ["one"]
def S (l : List Nat) : Str := ⟨l.toArray⟩
theorem tl_S (l : List Nat) : tl (S l) = l := rfl
theorem S_tl (x : Str) : S (tl x) = x := mk_tl x
theorem S_len (l : List Nat) : (S l).length = l.length := mk_len l
theorem S_app (l r : List Nat) : S l ++ S r = S (l ++ r) := ext_tl (by rw [tl_append]; rfl)
theorem S_inj {l r : List Nat} : S l = S r ↔ l = r := ⟨fun h => by have := congrArg tl h; exact this, fun h => by rw [h]⟩
def numZ (i : Int) : List Nat := if i < 0 then 45 :: numL i.natAbs else numL i.natAbs
def shL (t b : Int) : List Nat := if b = 1 then numZ t else numZ t ++ 47 :: numZ b
theorem tl_int (i : Int) : tl (Str.ofString (toString i)) = numZ i := by
  unfold numZ
  split
  · obtain ⟨n, rfl⟩ : ∃ n : Nat, i = Int.negSucc n := by
      cases i with
      | ofNat a => simp at *; omega
      | negSucc n => exact ⟨n, rfl⟩
    rw [show toString (Int.negSucc n) = "-" ++ toString (n + 1) from rfl]
    rw [tl_ofString, String.toList_append, List.map_append, show ("-" : String).toList = ['-'] from rfl]
    have := tl_num (n + 1)
    rw [tl_ofString] at this
    rw [show toString (n + 1) = toString (((n + 1 : Nat)) : Int) from rfl, this]
    rfl
  · have e : i = ((i.natAbs : Nat) : Int) := by omega
    conv => lhs; rw [e]
    exact tl_num _
theorem S_int (i : Int) : Str.ofString (toString i) = S (numZ i) := ext_tl (tl_int i)
theorem numZ_len {i : Int} (h : i.natAbs.log2 < 1920) : (numZ i).length ≤ 601 := by
  have h1 : i.natAbs < 2 ^ 1920 := by
    by_cases h0 : i.natAbs = 0
    · rw [h0]; exact Nat.pow_pos (by decide)
    · exact (Nat.log2_lt h0).mp h
  have h2 : (2 : Nat) ^ 1920 < 10 ^ 600 := by decide +kernel
  have := numL_len (n := i.natAbs) (k := 600) (by decide) (Nat.lt_trans h1 h2)
  clear h1 h2
  unfold numZ
  split <;> simp <;> omega
theorem size_big : 100000 ≤ sizeLine := by decide
def sp_show_number : Fs := ⟨fun ds Q _ => ∃ t b : Int, ds = [fr t b] ∧ t.natAbs.log2 < 1920 ∧ b.natAbs.log2 < 1920 ∧ Q (.str (S (shL t b))), 1, false⟩
theorem vc_show_number (G : Gam) : ∀ ds Q X, ds.length = 1 → sp_show_number.sp ds Q X → wS G false ir_show_number (ent n_show_number ds) (fun _ => Q .none) Q X := by
  rintro ds Q X - ⟨t, b, rfl, ht, hb, q⟩
  unfold ir_show_number n_show_number fr
  walk_at "vc"
  simp only [S_int]
  unfold shL at q
  have ht' := numZ_len ht
  have hb' := numZ_len hb
  have hs := size_big
  have es : Str.ofString "/" = S [47] := by decide +kernel
  by_cases h : b = 1
  · simp only [h, if_true] at q ⊢
    walk_at "vc"
    exact ⟨ht, q⟩
  · simp only [h, if_false] at q ⊢
    walk_at "vc"
    simp only [S_int, es, S_app, S_len, List.length_append, List.length_cons, List.length_nil]
    exact ⟨ht, by omega, hb, by omega, by simpa using q⟩

/-! ### what is shown, read again -/
theorem numL_head : ∀ (N n : Nat), n ≤ N → 0 < n → ∃ c r, numL n = c :: r ∧ 48 < c
  | 0, n, h, h0 => by omega
  | N + 1, n, h, h0 => by
    by_cases h1 : n < 10
    · exact ⟨48 + n, [], numL_lt h1, by omega⟩
    · obtain ⟨c, r, e, hc⟩ := numL_head N (n / 10) (by omega) (by omega)
      exact ⟨c, r ++ [48 + n % 10], by rw [numL_step (by omega), e]; rfl, hc⟩
theorem numOk_num {n : Nat} (h : n < 1000000000) : numOk (numL n) = true := by
  have hl := numL_len (n := n) (k := 9) (by decide) (by omega)
  have hd := numL_digits n
  have hne := numL_ne n
  have h1 : 1 ≤ (numL n).length := by
    cases h : numL n with
    | nil => exact absurd h hne
    | cons _ _ => simp
  have ha : (numL n).all isDg = true := List.all_eq_true.mpr fun c hc => by
    have := hd c hc
    unfold isDg
    simpa using this
  unfold numOk
  rw [ha]
  simp only [h1, hl, decide_true, Bool.true_and, Bool.not_eq_true', Bool.and_eq_false_iff, decide_eq_false_iff_not]
  by_cases h0 : 0 < n
  · obtain ⟨c, r, e, hc⟩ := numL_head n n (Nat.le_refl n) h0
    left
    rw [e]
    simp
    omega
  · right
    have : n = 0 := by omega
    subst this
    rw [numL_lt (by decide)]
    simp
theorem numVal_num (n : Nat) : numVal (numL n) = n := by
  unfold numVal
  rw [numL_val]
theorem numZ_nat (n : Nat) : numZ (n : Int) = numL n := by
  unfold numZ
  rw [if_neg (by omega)]
  rfl
theorem rd_sh {n d : Nat} (h0 : 1 ≤ d) (hn : n < 1000000000) (hd : d < 1000000000) (hg : Int.gcd n d = 1) : rdNum (shL n d) = some ((n : Int), (d : Int)) := by
  unfold shL rdNum
  by_cases h1 : (d : Int) = 1
  · rw [if_pos h1, numZ_nat, if_neg (numL_free (by decide)), if_pos (numOk_num hn), numVal_num, h1]
  · rw [if_neg h1, numZ_nat, numZ_nat, if_pos (by simp)]
    have e := TL.par_part1 (s := 47) (S := []) (p := numL n) (rest := numL d) (acc := []) (numL_free (by decide))
    rw [List.nil_append] at e
    rw [show numL n ++ 47 :: numL d = numL n ++ ([47] ++ numL d) from rfl, e]
    simp only [numVal_num]
    rw [if_pos ⟨numOk_num hn, numOk_num hd, by omega, hg⟩]
theorem app_len (a b : Str) : (a ++ b).length = a.length + b.length := by rw [len_tl, tl_append, List.length_append, ← len_tl, ← len_tl]
end Pu

set_option Elab.async false
set_option linter.all false
set_option maxRecDepth 100000
set_option maxHeartbeats 4000000
/-! defs that many laws have -/
namespace Pu
open PySem L2 TL
local macro_rules | `(tactic| walk_at "vc") => `(tactic| try simp -dsimp only [↓wS_skip, ↓wS_pass, ↓wS_seq, ↓wS_asg, ↓wS_asgF, ↓wS_asgT, ↓wS_sti, ↓wS_app, ↓wS_fz, ↓wS_ite, ↓wS_for, ↓wS_whl, ↓wS_ret, ↓wS_rai, ↓wS_nev, ↓wS_tryK, ↓wE_var, ↓wE_int, ↓wE_str, ↓wE_bl, ↓wE_non, ↓wE_emp, ↓wE_gl, ↓wE_bin, ↓wE_neg, ↓wE_cmp, ↓wE_chn, ↓wE_and1, ↓wE_and, ↓wE_or1, ↓wE_or, ↓wE_not, ↓wE_ite, ↓wE_tup, ↓wE_lst, ↓wE_nil, ↓wE_cons, ↓wE_ix, ↓wE_pix, ↓wE_sl0, ↓wE_slL, ↓wE_slH, ↓wE_slB, ↓wE_rv, ↓wE_call, ↓wE_callT, ↓wE_blt, ↓wE_pl, ↓wE_pin, ↓wE_met, ↓wE_isi, ↓wE_isx, ↓isxR_e, ↓wE_lc, ↓wE_lci, ↓wE_itL, ↓wE_itT, ↓wE_itS, ↓wE_rg1, ↓wE_rg2, ↓wE_rg3, ↓wE_zip, ↓wE_rev, ↓wE_enu, ↓nxt_eq, ↓hold_d, ↓hold_b, ↓rdV, ↓rdP, ↓rdO, ↓ofB_b, ↓ofI_i, ↓ofT_t, ↓ofL_l, ↓ofS_s, ↓sBin_ai, ↓sBin_as, ↓sBin_al, ↓sBin_si, ↓sBin_mi, ↓sBin_ml, ↓sBin_di, ↓sBin_mo, ↓sBin_po, ↓sCmp_eq, ↓sCmp_ne, ↓sCmp_in, ↓sCmp_ni, ↓sCmp_isn, ↓sCmp_isb, ↓sCmp_nis, ↓sCmp_lt, ↓sCmp_le, ↓sCmp_gt, ↓sCmp_ge, ↓sIx_t0, ↓sIx_t1, ↓sIx_t2, ↓sIx_l0, ↓sIx_l1, ↓sEq_i, ↓sEq_s, ↓sEq_b, ↓sB, ↓sSl_s, ↓sSl_l, ↓sLen_l, ↓sLen_t, ↓sLen_d, ↓sLen_s, ↓bnd, ↓frR, ↓frE, wip, frz, ent, List.map_cons, List.map_nil, List.length_cons, List.length_nil, List.cons_append, List.nil_append, List.replicate, List.set_cons_zero, List.set_cons_succ, Sl.fz, List.getElem?_cons_zero, List.getElem?_cons_succ, List.zip_cons_cons, List.zip_nil_right, List.foldl_cons, List.foldl_nil, Bool.not_true, Bool.not_false, if_true, if_false, Bool.false_eq_true, Option.some.injEq, Prod.mk.injEq, true_and, and_true, exists_eq_left', false_implies, Nat.reduceSub, Nat.reduceAdd, Nat.reduceMul, Int.reduceLT, Int.reduceLE, Int.reduceNeg, Int.reduceAdd, Int.reduceSub, Int.reduceMul, Int.reduceEq, Nat.reduceLT, Nat.reduceLeDiff, decide_true, decide_false, decide_eq_true_eq, reduceCtorEq])
local macro_rules | `(tactic| walk_at "vs") => `(tactic| try simp -dsimp only [↓wS_skip, ↓wS_pass, ↓wS_seq, ↓wS_asg, ↓wS_asgF, ↓wS_asgT, ↓wS_sti, ↓wS_app, ↓wS_fz, ↓wS_for, ↓wS_whl, ↓wS_ret, ↓wS_rai, ↓wS_nev, ↓wS_tryK, ↓wE_var, ↓wE_int, ↓wE_str, ↓wE_bl, ↓wE_non, ↓wE_emp, ↓wE_gl, ↓wE_bin, ↓wE_neg, ↓wE_cmp, ↓wE_chn, ↓wE_and1, ↓wE_and, ↓wE_or1, ↓wE_or, ↓wE_not, ↓wE_ite, ↓wE_tup, ↓wE_lst, ↓wE_nil, ↓wE_cons, ↓wE_ix, ↓wE_pix, ↓wE_sl0, ↓wE_slL, ↓wE_slH, ↓wE_slB, ↓wE_rv, ↓wE_call, ↓wE_callT, ↓wE_blt, ↓wE_pl, ↓wE_pin, ↓wE_met, ↓wE_isi, ↓wE_isx, ↓isxR_e, ↓wE_lc, ↓wE_lci, ↓wE_itL, ↓wE_itT, ↓wE_itS, ↓wE_rg1, ↓wE_rg2, ↓wE_rg3, ↓wE_zip, ↓wE_rev, ↓wE_enu, ↓nxt_eq, ↓hold_d, ↓hold_b, ↓rdV, ↓rdP, ↓rdO, ↓ofB_b, ↓ofI_i, ↓ofT_t, ↓ofL_l, ↓ofS_s, ↓sBin_ai, ↓sBin_as, ↓sBin_al, ↓sBin_si, ↓sBin_mi, ↓sBin_ml, ↓sBin_di, ↓sBin_mo, ↓sBin_po, ↓sCmp_eq, ↓sCmp_ne, ↓sCmp_in, ↓sCmp_ni, ↓sCmp_isn, ↓sCmp_isb, ↓sCmp_nis, ↓sCmp_lt, ↓sCmp_le, ↓sCmp_gt, ↓sCmp_ge, ↓sIx_t0, ↓sIx_t1, ↓sIx_t2, ↓sIx_l0, ↓sIx_l1, ↓sEq_i, ↓sEq_s, ↓sEq_b, ↓sB, ↓sSl_s, ↓sSl_l, ↓sLen_l, ↓sLen_t, ↓sLen_d, ↓sLen_s, ↓bnd, ↓frR, ↓frE, wip, frz, ent, List.map_cons, List.map_nil, List.length_cons, List.length_nil, List.cons_append, List.nil_append, List.replicate, List.set_cons_zero, List.set_cons_succ, Sl.fz, List.getElem?_cons_zero, List.getElem?_cons_succ, List.zip_cons_cons, List.zip_nil_right, List.foldl_cons, List.foldl_nil, Bool.not_true, Bool.not_false, if_true, if_false, Bool.false_eq_true, Option.some.injEq, Prod.mk.injEq, true_and, and_true, exists_eq_left', false_implies, Nat.reduceSub, Nat.reduceAdd, Nat.reduceMul, Int.reduceLT, Int.reduceLE, Int.reduceNeg, Int.reduceAdd, Int.reduceSub, Int.reduceMul, Int.reduceEq, Nat.reduceLT, Nat.reduceLeDiff, decide_true, decide_false, decide_eq_true_eq, reduceCtorEq])

/-- _law_cell_at(script, k); slots 0:script 1:k; calls []; consts [] -/
def ir__law_cell_at : Sm := (.seq (.ite (.cmp .Lt (.var 1) (.pl 0)) (.seq (.ret (.pix 0 (.var 1))) .skip) .skip) (.seq (.ret (.int 0)) .skip))
def n__law_cell_at : List Str := ["script", "k"]
def sp__law_cell_at : Fs := ⟨fun ds Q _ => ∃ (ns : List Int) (k : Nat), ds = [scrD ns, .int k] ∧ Q (.int (ns.getD k 0)), 2, false⟩
theorem vc__law_cell_at (G : Gam) : ∀ ds Q X, ds.length = 2 → sp__law_cell_at.sp ds Q X → wS G false ir__law_cell_at (ent n__law_cell_at ds) (fun _ => Q .none) Q X := by
  rintro ds Q X - ⟨ns, k, rfl, q⟩
  unfold ir__law_cell_at n__law_cell_at
  walk_at "vc"
  rw [sLen_scr]
  walk_at "vc"
  by_cases h : k < ns.length
  · have h' : (k : Int) < (ns.length : Nat) := by omega
    simp only [h', if_true, sIx_scr h]
    exact q
  · have h' : ¬ (k : Int) < (ns.length : Nat) := by omega
    simp only [h', if_false]
    rw [List.getD_eq_getElem?_getD, List.getElem?_eq_none (by omega)] at q
    exact q

/-- _law_whole(found); slots 0:found; calls []; consts [] -/
def ir__law_whole : Sm := (.seq (.ret (.and (.isi (.var 0) .int) (.and1 (.not (.isi (.var 0) .bool))))) .skip)
def n__law_whole : List Str := ["found"]
def sp__law_whole : Fs := ⟨fun ds Q _ => ∃ d, ds = [d] ∧ noD d = true ∧ Q (.bool (isWh d)), 1, false⟩
theorem vc__law_whole (G : Gam) : ∀ ds Q X, ds.length = 1 → sp__law_whole.sp ds Q X → wS G false ir__law_whole (ent n__law_whole ds) (fun _ => Q .none) Q X := by
  rintro ds Q X - ⟨d, rfl, hn, q⟩
  unfold ir__law_whole n__law_whole
  walk_at "vc"
  refine ⟨hn, ?_⟩
  cases d <;> simp [tyD, isWh, noD] at * <;> assumption

/-- _law_divisor(one, other); slots 0:one 1:other 2:rest; calls []; consts [] -/
def ir__law_divisor : Sm := (.seq (.whl (.cmp .Gt (.var 1) (.int 0)) (.seq (.asg 2 (.bin .Mod (.var 0) (.var 1))) (.seq (.asg 0 (.var 1)) (.seq (.asg 1 (.var 2)) .skip)))) (.seq (.ret (.var 0)) .skip))
def n__law_divisor : List Str := ["one", "other", "rest"]
def sp__law_divisor : Fs := ⟨fun ds Q _ => ∃ a b : Int, ds = [.int a, .int b] ∧ 0 ≤ a ∧ 0 ≤ b ∧ Q (.int (Int.gcd a b)), 2, false⟩
theorem vc__law_divisor (G : Gam) : ∀ ds Q X, ds.length = 2 → sp__law_divisor.sp ds Q X → wS G false ir__law_divisor (ent n__law_divisor ds) (fun _ => Q .none) Q X := by
  rintro ds Q X - ⟨a, b, rfl, ha, hb, q⟩
  unfold ir__law_divisor n__law_divisor
  walk_at "vc"
  refine gcd_loop ha hb fun c => ?_
  walk_at "vc"
  exact q

/-- _law_power(many); slots 0:many 1:number 2:k; calls []; consts [] -/
def ir__law_power : Sm := (.seq (.asg 1 (.int 1)) (.seq (.for (.n 2) (.rg1 (.var 0)) (.seq (.asg 1 (.bin .Mult (.var 1) (.int 10))) .skip)) (.seq (.ret (.var 1)) .skip)))
def n__law_power : List Str := ["many", "number", "k"]
def sp__law_power : Fs := ⟨fun ds Q _ => ∃ m : Nat, ds = [.int m] ∧ m ≤ 1000 ∧ Q (.int (10 ^ m)), 1, false⟩
theorem log2_10 {m : Nat} (h : m ≤ 1000) : (10 ^ m : Int).natAbs.log2 < 4000 := by
  have e : (10 ^ m : Int).natAbs = 10 ^ m := by rw [Int.natAbs_pow]; rfl
  rw [e]
  have h2 : (10 : Nat) ^ m ≤ 10 ^ 1000 := Nat.pow_le_pow_right (by decide) h
  have h3 : ((10 : Nat) ^ 1000).log2 < 4000 := by decide +kernel
  exact Nat.lt_of_le_of_lt (log2_le h2) h3
theorem vc__law_power (G : Gam) : ∀ ds Q X, ds.length = 1 → sp__law_power.sp ds Q X → wS G false ir__law_power (ent n__law_power ds) (fun _ => Q .none) Q X := by
  rintro ds Q X - ⟨m, rfl, hm, q⟩
  unfold ir__law_power n__law_power
  walk_at "vc"
  refine ⟨by omega, by omega, ?_⟩
  rw [show ((m : Int)).toNat = m from rfl]
  refine wF_inv (fun i r => ∃ c, r = [.sh (.int m), .sh (.int (10 ^ i)), c]) ⟨_, rfl⟩ ?_ ?_
  · rintro i d r hd ⟨c, rfl⟩
    have hi : i < m := by
      have := (List.getElem?_eq_some_iff.mp hd).1
      simpa using this
    walk_at "vc"
    refine ⟨?_, .sh d, ?_⟩
    · have := log2_10 (m := i) (by omega)
      have e : (10 : Int).natAbs.log2 = 3 := by decide +kernel
      unfold CMulW
      omega
    · rw [Int.pow_succ]
  · rintro r ⟨c, rfl⟩
    simp only [List.length_map, List.length_range]
    walk_at "vc"
    exact q

theorem rd_no {n d : Nat} (h : d < 2 ∨ Int.gcd n d ≠ 1) : rdNum (numL n ++ 47 :: numL d) = none := by
  unfold rdNum
  rw [if_pos (by simp)]
  have e := TL.par_part1 (s := 47) (S := []) (p := numL n) (rest := numL d) (acc := []) (numL_free (by decide))
  rw [List.nil_append] at e
  rw [show numL n ++ 47 :: numL d = numL n ++ ([47] ++ numL d) from rfl, e]
  simp only [numVal_num]
  rw [if_neg]
  rintro ⟨_, _, h1, h2⟩
  rcases h with h | h
  · omega
  · exact h h2
theorem tl_app (a b : List Nat) : tl (S a ++ S b) = a ++ b := by rw [S_app]; rfl

/-- _law_lone(error); slots 0:error; calls []; consts [] -/
def ir__law_lone : Sm := (.seq (.ite (.or (.isx (.var 0) "NoNumber") (.or (.isx (.var 0) "NoRow") (.or1 (.isx (.var 0) "NoRule")))) (.seq (.ret (.bl false)) .skip) .skip) (.seq (.ite (.or (.isx (.var 0) "NoAnswer") (.or (.isx (.var 0) "NoName") (.or1 (.isx (.var 0) "NoHouse")))) (.seq (.ret (.bl false)) .skip) .skip) (.seq (.ret (.and (.isx (.var 0) "NoText") (.and (.isx (.var 0) "ValueError") (.and1 (.not (.isx (.var 0) "NoWord")))))) .skip)))
def n__law_lone : List Str := ["error"]
def kt__law_lone : List (Str × Str) := [("NoText", "NoNumber"), ("NoText", "NoRow"), ("NoText", "NoRule"), ("NoText", "NoAnswer"), ("NoText", "NoName"), ("NoText", "NoHouse"), ("NoText", "NoText"), ("NoText", "ValueError"), ("NoText", "NoWord")]
def sp__law_lone : Fs := ⟨fun ds Q _ => ds = [errD "NoText"] ∧ Q (.bool true), 1, false⟩
theorem sub_f (d : Str) (h : decide (("NoText" : Str) = d) || decide (d = "ChanceError") || decide (d = "ValueError") = false) : True := trivial
theorem vc__law_lone : ∀ ds Q X, ds.length = 1 → sp__law_lone.sp ds Q X → wS ⟨[], [], kt__law_lone⟩ false ir__law_lone (ent n__law_lone ds) (fun _ => Q .none) Q X := by
  rintro ds Q X - ⟨rfl, q⟩
  have s1 : subB "NoText" "NoNumber" = false := by decide +kernel
  have s2 : subB "NoText" "NoRow" = false := by decide +kernel
  have s3 : subB "NoText" "NoRule" = false := by decide +kernel
  have s4 : subB "NoText" "NoAnswer" = false := by decide +kernel
  have s5 : subB "NoText" "NoName" = false := by decide +kernel
  have s6 : subB "NoText" "NoHouse" = false := by decide +kernel
  have s7 : subB "NoText" "NoText" = true := by decide +kernel
  have s8 : subB "NoText" "ValueError" = true := by decide +kernel
  have s9 : subB "NoText" "NoWord" = false := by decide +kernel
  unfold ir__law_lone n__law_lone
  walk_at "vc"
  simp only [s1, s2, s3, s4, s5, s6, s7, s8, s9, Bool.false_eq_true, if_false, if_true, Bool.not_false]
  have m : ∀ x ∈ kt__law_lone, x ∈ kt__law_lone := fun _ h => h
  unfold kt__law_lone at m ⊢
  simp only [List.mem_cons, true_or, or_true, true_and]
  exact q

/-! a text that is refused -/
/-- _law_refused(text); slots 0:text 1:error 2:e; calls ['read_number', '_law_lone']; consts [] -/
def ir__law_refused : Sm := (.seq (.asg 1 .non) (.seq (.tryK none (.call 0 "read_number" (.cons (.var 0) .nil)) "ChanceError" 2 1) (.seq (.ret (.and (.cmp .IsNot (.var 1) .non) (.and1 (.call 1 "_law_lone" (.cons (.var 1) .nil))))) .skip)))
def n__law_refused : List Str := ["text", "error", "e"]
def kt__law_refused : List (Str × Str) := [("NoText", "ChanceError")]
def sp__law_refused : Fs := ⟨fun ds Q _ => ∃ s : Str, ds = [.str s] ∧ s.length ≤ sizeLine ∧ rdNum (tl s) = none ∧ Q (.bool true), 1, false⟩
theorem vc__law_refused : ∀ ds Q X, ds.length = 1 → sp__law_refused.sp ds Q X → wS ⟨[("read_number", sp_read_number), ("_law_lone", sp__law_lone)], [], kt__law_refused⟩ false ir__law_refused (ent n__law_refused ds) (fun _ => Q .none) Q X := by
  rintro ds Q X - ⟨s, rfl, hl, hr, q⟩
  unfold ir__law_refused n__law_refused
  walk_at "vc"
  refine up_of rfl ⟨_, rfl, rfl, hl, ?_⟩
  rw [hr]
  have s1 : subB "NoText" "ChanceError" = true := by decide +kernel
  refine ⟨by unfold kt__law_refused; simp, s1, ?_⟩
  walk_at "vc"
  simp only [isN, Bool.not_false, if_true]
  exact up_of rfl ⟨rfl, q⟩

/-! a number of one to nine figures -/
theorem log2_w {x : Int} (h0 : 0 ≤ x) (h1 : x < 10 ^ 60) : x.natAbs.log2 < 1000 := by
  have := log2_le (a := x.natAbs) (b := 10 ^ 60) (by omega)
  have e : ((10 : Nat) ^ 60).log2 < 1000 := by decide +kernel
  omega
/-- _law_number_by(cell); slots 0:cell 1:number; calls ['_law_power']; consts [] -/
def ir__law_number_by : Sm := (.seq (.asg 1 (.bin .Mod (.bin .FloorDiv (.var 0) (.int 9)) (.int 2305843009213693951))) (.seq (.ret (.bin .Mod (.bin .FloorDiv (.bin .Mult (.bin .Add (.bin .Mult (.var 1) (.var 1)) (.int 41)) (.int 982451653)) (.int 10)) (.call 0 "_law_power" (.cons (.bin .Add (.int 1) (.bin .Mod (.var 0) (.int 9))) .nil)))) .skip))
def n__law_number_by : List Str := ["cell", "number"]
def sp__law_number_by : Fs := ⟨fun ds Q _ => ∃ c : Int, ds = [.int c] ∧ ∀ v : Nat, v < 1000000000 → Q (.int v), 1, false⟩
theorem vc__law_number_by : ∀ ds Q X, ds.length = 1 → sp__law_number_by.sp ds Q X → wS ⟨[("_law_power", sp__law_power)], [], []⟩ false ir__law_number_by (ent n__law_number_by ds) (fun _ => Q .none) Q X := by
  rintro ds Q X - ⟨c, rfl, q⟩
  unfold ir__law_number_by n__law_number_by
  walk_at "vc"
  have n0 := Int.emod_nonneg (c / 9) (b := 2305843009213693951) (by decide)
  have n1 := Int.emod_lt_of_pos (c / 9) (b := 2305843009213693951) (by decide)
  generalize c / 9 % 2305843009213693951 = n at n0 n1 ⊢
  have p0 : 0 ≤ n * n := Int.mul_nonneg n0 n0
  have p1 : n * n ≤ 2305843009213693951 * 2305843009213693951 := Int.mul_le_mul (by omega) (by omega) n0 (by decide)
  have t0 := Int.emod_nonneg c (b := 9) (by decide)
  have t1 := Int.emod_lt_of_pos c (b := 9) (by decide)
  have ln := log2_w n0 (by omega)
  have l2 : CMulW n n := by unfold CMulW; omega
  generalize n * n = p at p0 p1 ⊢
  have lp := log2_w (x := p + 41) (by omega) (by omega)
  have e : (982451653 : Int).natAbs.log2 < 1000 := by decide +kernel
  refine ⟨⟨by decide, by decide +kernel⟩, l2, by unfold CMulW; omega, ⟨by decide, by decide +kernel⟩, ?_⟩
  generalize c % 9 = t at t0 t1 ⊢
  refine up_of rfl ⟨(1 + t).toNat, by rw [Int.toNat_of_nonneg (by omega)], by omega, ?_⟩
  walk_at "vc"
  have hp : (0 : Int) < 10 ^ (1 + t).toNat := Int.pow_pos (by decide)
  have h9 : (10 : Int) ^ (1 + t).toNat ≤ 10 ^ 9 := by exact_mod_cast Nat.pow_le_pow_right (n := 10) (by decide) (show (1 + t).toNat ≤ 9 by omega)
  refine ⟨hp, ?_⟩
  have r0 := Int.emod_nonneg ((p + 41) * 982451653 / 10) (b := 10 ^ (1 + t).toNat) (by omega)
  have r1 := Int.emod_lt_of_pos ((p + 41) * 982451653 / 10) hp
  generalize (p + 41) * 982451653 / 10 % 10 ^ (1 + t).toNat = v at r0 r1 ⊢
  have := q v.toNat (by omega)
  rw [Int.toNat_of_nonneg r0] at this
  exact this

end Pu

set_option Elab.async false
set_option linter.all false
set_option maxRecDepth 100000
set_option maxHeartbeats 4000000
namespace Pu
namespace K89
open PySem L2 TL
local macro_rules | `(tactic| walk_at "vc") => `(tactic| try simp -dsimp only [↓wS_skip, ↓wS_pass, ↓wS_seq, ↓wS_asg, ↓wS_asgF, ↓wS_asgT, ↓wS_sti, ↓wS_app, ↓wS_fz, ↓wS_ite, ↓wS_for, ↓wS_whl, ↓wS_ret, ↓wS_rai, ↓wS_nev, ↓wS_tryK, ↓wE_var, ↓wE_int, ↓wE_str, ↓wE_bl, ↓wE_non, ↓wE_emp, ↓wE_gl, ↓wE_bin, ↓wE_neg, ↓wE_cmp, ↓wE_chn, ↓wE_and1, ↓wE_and, ↓wE_or1, ↓wE_or, ↓wE_not, ↓wE_ite, ↓wE_tup, ↓wE_lst, ↓wE_nil, ↓wE_cons, ↓wE_ix, ↓wE_pix, ↓wE_sl0, ↓wE_slL, ↓wE_slH, ↓wE_slB, ↓wE_rv, ↓wE_call, ↓wE_callT, ↓wE_blt, ↓wE_pl, ↓wE_pin, ↓wE_met, ↓wE_isi, ↓wE_isx, ↓isxR_e, ↓wE_lc, ↓wE_lci, ↓wE_itL, ↓wE_itT, ↓wE_itS, ↓wE_rg1, ↓wE_rg2, ↓wE_rg3, ↓wE_zip, ↓wE_rev, ↓wE_enu, ↓nxt_eq, ↓hold_d, ↓hold_b, ↓rdV, ↓rdP, ↓rdO, ↓ofB_b, ↓ofI_i, ↓ofT_t, ↓ofL_l, ↓ofS_s, ↓sBin_ai, ↓sBin_as, ↓sBin_al, ↓sBin_si, ↓sBin_mi, ↓sBin_ml, ↓sBin_di, ↓sBin_mo, ↓sBin_po, ↓sCmp_eq, ↓sCmp_ne, ↓sCmp_in, ↓sCmp_ni, ↓sCmp_isn, ↓sCmp_isb, ↓sCmp_nis, ↓sCmp_lt, ↓sCmp_le, ↓sCmp_gt, ↓sCmp_ge, ↓sIx_t0, ↓sIx_t1, ↓sIx_t2, ↓sIx_l0, ↓sIx_l1, ↓sEq_i, ↓sEq_s, ↓sEq_b, ↓sB, ↓sSl_s, ↓sSl_l, ↓sLen_l, ↓sLen_t, ↓sLen_d, ↓sLen_s, ↓bnd, ↓frR, ↓frE, wip, frz, ent, List.map_cons, List.map_nil, List.length_cons, List.length_nil, List.cons_append, List.nil_append, List.replicate, List.set_cons_zero, List.set_cons_succ, Sl.fz, List.getElem?_cons_zero, List.getElem?_cons_succ, List.zip_cons_cons, List.zip_nil_right, List.foldl_cons, List.foldl_nil, Bool.not_true, Bool.not_false, if_true, if_false, Bool.false_eq_true, Option.some.injEq, Prod.mk.injEq, true_and, and_true, exists_eq_left', false_implies, Nat.reduceSub, Nat.reduceAdd, Nat.reduceMul, Int.reduceLT, Int.reduceLE, Int.reduceNeg, Int.reduceAdd, Int.reduceSub, Int.reduceMul, Int.reduceEq, Nat.reduceLT, Nat.reduceLeDiff, decide_true, decide_false, decide_eq_true_eq, reduceCtorEq])
local macro_rules | `(tactic| walk_at "vs") => `(tactic| try simp -dsimp only [↓wS_skip, ↓wS_pass, ↓wS_seq, ↓wS_asg, ↓wS_asgF, ↓wS_asgT, ↓wS_sti, ↓wS_app, ↓wS_fz, ↓wS_for, ↓wS_whl, ↓wS_ret, ↓wS_rai, ↓wS_nev, ↓wS_tryK, ↓wE_var, ↓wE_int, ↓wE_str, ↓wE_bl, ↓wE_non, ↓wE_emp, ↓wE_gl, ↓wE_bin, ↓wE_neg, ↓wE_cmp, ↓wE_chn, ↓wE_and1, ↓wE_and, ↓wE_or1, ↓wE_or, ↓wE_not, ↓wE_ite, ↓wE_tup, ↓wE_lst, ↓wE_nil, ↓wE_cons, ↓wE_ix, ↓wE_pix, ↓wE_sl0, ↓wE_slL, ↓wE_slH, ↓wE_slB, ↓wE_rv, ↓wE_call, ↓wE_callT, ↓wE_blt, ↓wE_pl, ↓wE_pin, ↓wE_met, ↓wE_isi, ↓wE_isx, ↓isxR_e, ↓wE_lc, ↓wE_lci, ↓wE_itL, ↓wE_itT, ↓wE_itS, ↓wE_rg1, ↓wE_rg2, ↓wE_rg3, ↓wE_zip, ↓wE_rev, ↓wE_enu, ↓nxt_eq, ↓hold_d, ↓hold_b, ↓rdV, ↓rdP, ↓rdO, ↓ofB_b, ↓ofI_i, ↓ofT_t, ↓ofL_l, ↓ofS_s, ↓sBin_ai, ↓sBin_as, ↓sBin_al, ↓sBin_si, ↓sBin_mi, ↓sBin_ml, ↓sBin_di, ↓sBin_mo, ↓sBin_po, ↓sCmp_eq, ↓sCmp_ne, ↓sCmp_in, ↓sCmp_ni, ↓sCmp_isn, ↓sCmp_isb, ↓sCmp_nis, ↓sCmp_lt, ↓sCmp_le, ↓sCmp_gt, ↓sCmp_ge, ↓sIx_t0, ↓sIx_t1, ↓sIx_t2, ↓sIx_l0, ↓sIx_l1, ↓sEq_i, ↓sEq_s, ↓sEq_b, ↓sB, ↓sSl_s, ↓sSl_l, ↓sLen_l, ↓sLen_t, ↓sLen_d, ↓sLen_s, ↓bnd, ↓frR, ↓frE, wip, frz, ent, List.map_cons, List.map_nil, List.length_cons, List.length_nil, List.cons_append, List.nil_append, List.replicate, List.set_cons_zero, List.set_cons_succ, Sl.fz, List.getElem?_cons_zero, List.getElem?_cons_succ, List.zip_cons_cons, List.zip_nil_right, List.foldl_cons, List.foldl_nil, Bool.not_true, Bool.not_false, if_true, if_false, Bool.false_eq_true, Option.some.injEq, Prod.mk.injEq, true_and, and_true, exists_eq_left', false_implies, Nat.reduceSub, Nat.reduceAdd, Nat.reduceMul, Int.reduceLT, Int.reduceLE, Int.reduceNeg, Int.reduceAdd, Int.reduceSub, Int.reduceMul, Int.reduceEq, Nat.reduceLT, Nat.reduceLeDiff, decide_true, decide_false, decide_eq_true_eq, reduceCtorEq])

theorem lg9 {n : Nat} (h : n < 1000000000) : ((n : Nat) : Int).natAbs.log2 < 1000 := by
  have h2 := log2_le (a := ((n : Nat) : Int).natAbs) (b := 1000000000) (by omega)
  have e : (1000000000 : Nat).log2 = 29 := by decide +kernel
  omega
theorem pick_str {ys : List Str} {i : Int} {Q : PyData → Prop} (h0 : 0 ≤ i) (h1 : i < ys.length) (h : ∀ y ∈ ys, Q (.str y)) : sIx (.list (ys.map PyData.str)) (.int i) Q := by
  obtain ⟨n, rfl⟩ : ∃ n : Nat, i = n := ⟨i.toNat, by omega⟩
  have hn : n < ys.length := by omega
  rw [sIx_at (by rw [List.getElem?_map, List.getElem?_eq_getElem hn]; rfl)]
  exact h _ (List.getElem_mem hn)
theorem pick_any {ds : List PyData} {i : Int} {Q : PyData → Prop} (h0 : 0 ≤ i) (h1 : i < ds.length) (h : ∀ d ∈ ds, Q d) : sIx (.list ds) (.int i) Q := by
  obtain ⟨n, rfl⟩ : ∃ n : Nat, i = n := ⟨i.toNat, by omega⟩
  have hn : n < ds.length := by omega
  rw [sIx_at (List.getElem?_eq_getElem hn)]
  exact h _ (List.getElem_mem hn)
theorem pick_sign {z : Str} {i : Int} {Q : PyData → Prop} (hz : z.length ≤ sizeLine) (h0 : 0 ≤ i) (h1 : i < z.length) (h : ∀ c, Q (.str ⟨#[c]⟩)) : sIx (.str z) (.int i) Q := by
  obtain ⟨n, rfl⟩ : ∃ n : Nat, i = n := ⟨i.toNat, by omega⟩
  have hn : n < (tl z).length := by rw [← len_tl]; omega
  have e : atI z.cps.toList (n : Int) = some ((tl z)[n]) := atI_nat (List.getElem?_eq_getElem hn)
  rw [sIx_str hz e]
  exact h _
/-- _law_text_by(script); slots 0:script 1:top 2:bottom 3:by; calls ['_law_number_by', '_law_cell_at', '_law_divisor']; consts [] -/
def ir__law_text_by : Sm := (.seq (.asg 1 (.call 0 "_law_number_by" (.cons (.call 1 "_law_cell_at" (.cons (.var 0) (.cons (.int 0) .nil))) .nil))) (.seq (.asg 2 (.call 0 "_law_number_by" (.cons (.call 1 "_law_cell_at" (.cons (.var 0) (.cons (.int 1) .nil))) .nil))) (.seq (.ite (.cmp .Eq (.bin .Mod (.call 1 "_law_cell_at" (.cons (.var 0) (.cons (.int 2) .nil))) (.int 2)) (.int 1)) (.seq (.asg 1 (.bin .Mod (.var 1) (.int 30))) (.seq (.asg 2 (.bin .Mod (.var 2) (.int 30))) .skip)) .skip) (.seq (.ite (.cmp .Eq (.bin .Mod (.bin .FloorDiv (.call 1 "_law_cell_at" (.cons (.var 0) (.cons (.int 2) .nil))) (.int 2)) (.int 3)) (.int 1)) (.seq (.ret (.blt .str (.cons (.var 1) .nil))) .skip) .skip) (.seq (.asg 2 (.blt .max (.cons (.var 2) (.cons (.int 2) .nil)))) (.seq (.asg 3 (.call 2 "_law_divisor" (.cons (.var 1) (.cons (.var 2) .nil)))) (.seq (.ret (.bin .Add (.bin .Add (.blt .str (.cons (.bin .FloorDiv (.var 1) (.var 3)) .nil)) (.str "/")) (.blt .str (.cons (.bin .FloorDiv (.var 2) (.var 3)) .nil)))) .skip)))))))
def n__law_text_by : List Str := ["script", "top", "bottom", "by"]
def sp__law_text_by : Fs := ⟨fun ds Q _ => ∃ ns : List Int, ds = [scrD ns] ∧ ∀ s : Str, s.length ≤ 19 → Q (.str s), 1, false⟩
theorem vc__law_text_by : ∀ ds Q X, ds.length = 1 → sp__law_text_by.sp ds Q X → wS ⟨[("_law_number_by", sp__law_number_by), ("_law_cell_at", sp__law_cell_at), ("_law_divisor", sp__law_divisor)], [], []⟩ false ir__law_text_by (ent n__law_text_by ds) (fun _ => Q .none) Q X := by
  rintro ds Q X - ⟨ns, rfl, q⟩
  unfold ir__law_text_by n__law_text_by
  have hsz := size_big
  walk_at "vs"
  refine up_of rfl ⟨ns, 0, rfl, ?_⟩
  walk_at "vs"
  refine up_of rfl ⟨_, rfl, fun top ht => ?_⟩
  walk_at "vs"
  refine up_of rfl ⟨ns, 1, rfl, ?_⟩
  walk_at "vs"
  refine up_of rfl ⟨_, rfl, fun bot hb => ?_⟩
  walk_at "vs"
  refine ite_join (fun r => ∃ t b : Nat, t < 1000000000 ∧ b < 1000000000 ∧ r = [.sh (scrD ns), .sh (.int t), .sh (.int b), .no]) ?_ ?_
  · walk_at "vc"
    refine up_of rfl ⟨ns, 2, rfl, ?_⟩
    walk_at "vc"
    split
    · exact ⟨top % 30, bot % 30, by omega, by omega, rfl⟩
    · exact ⟨top, bot, ht, hb, rfl⟩
  rintro r ⟨t, b, h1, h2, rfl⟩
  walk_at "vc"
  refine up_of rfl ⟨ns, 2, rfl, ?_⟩
  walk_at "vc"
  have l1 := numL_len (n := t) (k := 9) (by decide) (by omega)
  refine ⟨⟨by decide, by decide +kernel⟩, ?_⟩
  split
  · have := lg9 h1
    exact ⟨by omega, q _ (by rw [S_int, numZ_nat, S_len]; omega)⟩
  walk_at "vc"
  obtain ⟨c, hc1, hc2, ec⟩ : ∃ c : Nat, 2 ≤ c ∧ c < 1000000000 ∧ (if (2 : Int) > (b : Int) then (2 : Int) else (b : Int)) = c := by
    by_cases h : (2 : Int) > (b : Int)
    · exact ⟨2, by omega, by omega, by rw [if_pos h]; rfl⟩
    · exact ⟨b, by omega, by omega, by rw [if_neg h]⟩
  simp only [ec]
  refine up_of rfl ⟨(t : Int), (c : Int), rfl, by omega, by omega, ?_⟩
  walk_at "vc"
  simp only [ec]
  have hg1 := gcd_pos (t := (t : Int)) (b := (c : Int)) (by omega)
  have hdv := gcd_div (t := (t : Int)) (b := (c : Int)) (by omega) (by have := lg9 hc2; omega)
  generalize hgg : Int.gcd (t : Int) (c : Int) = g at *
  have k1 : t / g < 1000000000 := Nat.lt_of_le_of_lt (Nat.div_le_self ..) h1
  have k2 : c / g < 1000000000 := Nat.lt_of_le_of_lt (Nat.div_le_self ..) hc2
  have e1 : (t : Int) / (g : Int) = ((t / g : Nat) : Int) := rfl
  have e2 : (c : Int) / (g : Int) = ((c / g : Nat) : Int) := rfl
  have l2 := numL_len (n := t / g) (k := 9) (by decide) (by omega)
  have l3 := numL_len (n := c / g) (k := 9) (by decide) (by omega)
  have g1 := lg9 k1
  have g2 := lg9 k2
  simp only [e1, e2, S_int, numZ_nat, show (Str.ofString "/") = S [47] by decide +kernel, S_app, S_len, List.length_append, List.length_cons, List.length_nil]
  exact ⟨hdv _, by omega, by omega, hdv _, by omega, by omega, q _ (by rw [S_len]; simp; omega)⟩

/-- _law_odd(cell); slots 0:cell 1:some; calls []; consts [] -/
def ir__law_odd : Sm := (.seq (.asg 1 (.lst (.cons (.str "") (.cons (.str "/") (.cons (.str "1/") (.cons (.str "/2") (.cons (.str "1/2/3") (.cons (.str "00") (.cons (.str "0/1") (.cons (.str "0/2") (.cons (.str "1/1") (.cons (.str "2/4") (.cons (.str "-1") (.cons (.str "+1") (.cons (.str " 1") (.cons (.str "1 ") (.cons (.str "1 /2") (.cons (.str "1/ 2") .nil)))))))))))))))))) (.seq (.asg 1 (.bin .Add (.var 1) (.lst (.cons (.str "1_0") (.cons (.str "1.0") (.cons (.str "0x1") (.cons (.str "one") .nil))))))) (.seq (.ret (.pix 1 (.bin .Mod (.var 0) (.pl 1)))) .skip)))
def n__law_odd : List Str := ["cell", "some"]
def sp__law_odd : Fs := ⟨fun ds Q _ => ∃ c : Int, ds = [.int c] ∧ ∀ s : Str, s.length ≤ 40 → Q (.str s), 1, false⟩
theorem vc__law_odd (G : Gam) : ∀ ds Q X, ds.length = 1 → sp__law_odd.sp ds Q X → wS G false ir__law_odd (ent n__law_odd ds) (fun _ => Q .none) Q X := by
  rintro ds Q X - ⟨c, rfl, q⟩
  unfold ir__law_odd n__law_odd
  walk_at "vc"
  have h0 := Int.emod_nonneg c (b := 20) (by decide)
  have h1 := Int.emod_lt_of_pos c (b := 20) (by decide)
  refine ⟨by decide, by decide, by decide, by decide, ?_⟩
  refine pick_str (ys := ["", "/", "1/", "/2", "1/2/3", "00", "0/1", "0/2", "1/1", "2/4", "-1", "+1", " 1", "1 ", "1 /2", "1/ 2", "1_0", "1.0", "0x1", "one"]) h0 (by simpa using h1) fun y hy => q y ?_
  have all : (["", "/", "1/", "/2", "1/2/3", "00", "0/1", "0/2", "1/1", "2/4", "-1", "+1", " 1", "1 ", "1 /2", "1/ 2", "1_0", "1.0", "0x1", "one"] : List Str).all (fun y => decide (y.length ≤ 40)) = true := by decide +kernel
  simpa using List.all_eq_true.mp all y hy

/-- _law_count(text); slots 0:text 1:number 2:sign 3:place; calls []; consts [] -/
def ir__law_count : Sm := (.seq (.ite (.or (.cmp .Lt (.pl 0) (.int 1)) (.or (.cmp .Gt (.pl 0) (.int 9)) (.or1 (.and (.cmp .Eq (.pix 0 (.int 0)) (.str "0")) (.and1 (.cmp .Gt (.pl 0) (.int 1))))))) (.seq (.ret .non) .skip) .skip) (.seq (.asg 1 (.int 0)) (.seq (.for (.n 2) (.itS (.var 0)) (.seq (.asg 3 (.met .find (.str "0123456789") (.cons (.var 2) .nil))) (.seq (.ite (.cmp .Lt (.var 3) (.int 0)) (.seq (.ret .non) .skip) .skip) (.seq (.asg 1 (.bin .Add (.bin .Mult (.int 10) (.var 1)) (.var 3))) .skip)))) (.seq (.ret (.var 1)) .skip))))
def n__law_count : List Str := ["text", "number", "sign", "place"]
theorem find_dg (c : Nat) : Txt.find "0123456789" ⟨#[c]⟩ = if isDg c = true then (c : Int) - 48 else -1 := by
  by_cases h : isDg c = true
  · rw [if_pos h]
    have h2 : 48 ≤ c ∧ c ≤ 57 := by simpa [isDg] using h
    have h3 : c = 48 ∨ c = 49 ∨ c = 50 ∨ c = 51 ∨ c = 52 ∨ c = 53 ∨ c = 54 ∨ c = 55 ∨ c = 56 ∨ c = 57 := by omega
    rcases h3 with h3 | h3 | h3 | h3 | h3 | h3 | h3 | h3 | h3 | h3 <;> subst h3 <;> decide +kernel
  · rw [if_neg h]
    have e := PySem.StrLaws.found_one ("0123456789" : Str) c
    rw [figs_mem] at e
    unfold Txt.find
    cases ho : Builtin.Str.occurrences ("0123456789" : Str) ⟨#[c]⟩ 0 ("0123456789" : Str).length 1 with
    | nil => rfl
    | cons i r =>
      rw [ho] at e
      simp at e
      exact absurd e.symm (by simpa using h)
theorem numOk_len {l : List Nat} (h : ¬ (1 ≤ l.length ∧ l.length ≤ 9)) : numOk l = false := by
  unfold numOk
  by_cases h1 : 1 ≤ l.length
  · have : ¬ l.length ≤ 9 := fun z => h ⟨h1, z⟩
    simp [this]
  · simp [h1]
theorem numOk_zero {l : List Nat} (h : l.head? = some 48) (h2 : 1 < l.length) : numOk l = false := by
  unfold numOk
  simp [h, h2]
theorem numOk_bad {l : List Nat} {x : Nat} (h : x ∈ l) (hx : ¬ isDg x = true) : numOk l = false := by
  have : l.all isDg = false := by
    rw [List.all_eq_false]
    exact ⟨x, h, hx⟩
  unfold numOk
  rw [this]
  simp
def cntD (l : List Nat) : PyData := if numOk l = true then .int (numVal l) else .none
def sp__law_count : Fs := ⟨fun ds Q _ => ∃ s : Str, ds = [.str s] ∧ s.length ≤ sizeLine ∧ Q (cntD (tl s)), 1, false⟩
theorem dv_snoc (l : List Nat) (c : Nat) : NumText.digitsVal (l ++ [c]) = NumText.digitsVal l * 10 + (c - 48) := by
  unfold NumText.digitsVal
  rw [List.foldl_append]
  rfl
theorem vc__law_count (G : Gam) : ∀ ds Q X, ds.length = 1 → sp__law_count.sp ds Q X → wS G false ir__law_count (ent n__law_count ds) (fun _ => Q .none) Q X := by
  rintro ds Q X - ⟨s, rfl, hl, q⟩
  unfold ir__law_count n__law_count
  have el : s.length = (tl s).length := len_tl s
  have zeroS : (Str.ofString "0") = ⟨#[48]⟩ := by decide +kernel
  have ed : ∀ x, ((⟨#[x]⟩ : Str) = ⟨#[48]⟩) = (x = 48) := fun x => propext ⟨fun h => by injection h with h; simpa using h, fun h => by rw [h]⟩
  unfold cntD at q
  walk_at "vs"
  refine ite_join (fun r => r = [.sh (.str s), .no, .no, .no] ∧ 1 ≤ (tl s).length ∧ (tl s).length ≤ 9 ∧ ¬ ((tl s).head? = some 48 ∧ 1 < (tl s).length)) ?_ ?_
  · walk_at "vc"
    refine ⟨hl, ?_⟩
    by_cases h1 : 1 ≤ (tl s).length
    case neg =>
      rw [if_pos (by omega)]
      have : numOk (tl s) = false := numOk_len fun z => h1 z.1
      simpa [this] using q
    rw [if_neg (by omega)]
    refine ⟨hl, ?_⟩
    by_cases h9 : (tl s).length ≤ 9
    case neg =>
      rw [if_pos (by omega)]
      have : numOk (tl s) = false := numOk_len fun z => h9 z.2
      simpa [this] using q
    rw [if_neg (by omega)]
    cases hL : tl s with
    | nil => rw [hL] at h1; simp at h1
    | cons x r =>
      rw [hL] at h1 h9 el q
      have ex : atI s.cps.toList 0 = some x := by
        rw [show s.cps.toList = x :: r from hL]
        exact atI_nat (j := 0) rfl
      rw [sIx_str hl ex]
      walk_at "vc"
      simp only [zeroS, ed]
      have hlen : (x :: r).length = r.length + 1 := List.length_cons
      by_cases h48 : x = 48
      · rw [if_pos h48]
        refine ⟨hl, ?_⟩
        by_cases h2 : 1 < (x :: r).length
        · rw [if_pos (by omega)]
          have : numOk (x :: r) = false := numOk_zero (by rw [h48]; rfl) h2
          simpa [this] using q
        · rw [if_neg (by omega)]
          exact ⟨by omega, fun z => h2 (by omega)⟩
      · rw [if_neg h48]
        refine ⟨by omega, fun z => h48 ?_⟩
        simpa using z.1
  rintro r ⟨rfl, h1, h9, h0⟩
  walk_at "vs"
  rw [show s.cps.toList = tl s from rfl]
  generalize hL : tl s = l at *
  refine wF_inv (fun i r => ∃ c d, r = [.sh (.str s), .sh (.int (numVal (l.take i))), c, d] ∧ (l.take i).all isDg = true) ⟨_, _, rfl, rfl⟩ ?_ ?_
  · rintro i d r hd ⟨c, e, rfl, ha⟩
    rw [List.getElem?_map] at hd
    cases hc : l[i]? with
    | none => rw [hc] at hd; cases hd
    | some x =>
      rw [hc] at hd
      cases hd
      walk_at "vc"
      simp only [sM]
      walk_at "vc"
      rw [find_dg]
      refine ⟨rfl, ?_⟩
      have hxm : x ∈ l := List.mem_of_getElem? hc
      by_cases hx : isDg x = true
      case neg =>
        simp only [hx, if_false, Bool.false_eq_true]
        rw [if_pos (by decide)]
        have : numOk l = false := numOk_bad hxm hx
        simpa [this] using q
      have hx2 : 48 ≤ x ∧ x ≤ 57 := by simpa [isDg] using hx
      simp only [hx, if_true]
      rw [if_neg (by omega)]
      have hval : numVal (l.take (i + 1)) = 10 * numVal (l.take i) + ((x : Int) - 48) := by
        unfold numVal
        rw [List.take_add_one, hc]
        show ((NumText.digitsVal (l.take i ++ [x]) : Nat) : Int) = _
        rw [dv_snoc]
        omega
      have hlt := val_lt (l.take i) 0 ha
      have hti : (l.take i).length ≤ 9 := by rw [List.length_take]; omega
      have hp : 10 ^ (l.take i).length ≤ 10 ^ 9 := Nat.pow_le_pow_right (by decide) hti
      have hv : NumText.digitsVal (l.take i) < 1000000000 := by unfold NumText.digitsVal; omega
      refine ⟨?_, _, _, by rw [hval], ?_⟩
      · have := lg9 hv
        have e10 : (10 : Int).natAbs.log2 = 3 := by decide +kernel
        unfold CMulW numVal
        omega
      · rw [List.take_add_one, hc, List.all_append, ha]
        simpa using hx
  · rintro r ⟨c, d, rfl, ha⟩
    walk_at "vc"
    rw [List.length_map, List.take_length] at *
    have : numOk l = true := by
      unfold numOk
      rw [ha]
      simp only [h1, h9, decide_true, Bool.true_and, Bool.not_eq_true', Bool.and_eq_false_iff, decide_eq_false_iff_not]
      by_cases z : l.head? = some 48
      · exact .inr fun h => h0 ⟨z, h⟩
      · exact .inl z
    simpa [this] using q

/-- _law_due(text); slots 0:text 1:parts 2:numbers 3:part; calls ['_law_count', '_law_divisor']; consts [] -/
def ir__law_due : Sm := (.seq (.asg 1 (.met .split (.var 0) (.cons (.str "/") .nil))) (.seq (.asg 2 (.lc [3] (.call 0 "_law_count" (.cons (.var 3) .nil)) (.n 3) (.itL (.var 1)))) (.seq (.ite (.or (.pin false .non 2) (.or1 (.cmp .Gt (.pl 1) (.int 2)))) (.seq (.ret .non) .skip) .skip) (.seq (.ite (.cmp .Eq (.pl 1) (.int 1)) (.seq (.ret (.tup (.cons (.pix 2 (.int 0)) (.cons (.int 1) .nil)))) .skip) .skip) (.seq (.ite (.or (.cmp .Lt (.pix 2 (.int 1)) (.int 2)) (.or1 (.cmp .NotEq (.call 1 "_law_divisor" (.cons (.pix 2 (.int 0)) (.cons (.pix 2 (.int 1)) .nil))) (.int 1)))) (.seq (.ret .non) .skip) .skip) (.seq (.ret (.tup (.cons (.pix 2 (.int 0)) (.cons (.pix 2 (.int 1)) .nil)))) .skip))))))
def n__law_due : List Str := ["text", "parts", "numbers", "part"]
def dueD (l : List Nat) : PyData := match rdNum l with
  | some p => fr p.1 p.2
  | none => .none
theorem spl_two {a b : List Nat} (h : 47 ∉ a) : spl [47] 0 [] (a ++ 47 :: b) = a :: spl [47] 0 [] b := by
  have e := TL.spl_part1 (s := 47) (S := []) (p := a) (rest := b) (acc := []) h
  rw [List.nil_append] at e
  exact e
theorem spl_no {a : List Nat} (h : 47 ∉ a) : spl [47] 0 [] a = [a] := by
  have e := TL.spl_last1 (s := 47) (S := []) (p := a) (acc := []) h
  rw [List.nil_append] at e
  exact e
theorem spl_ne (S : List Nat) : ∀ (l : List Nat) (k : Nat) (acc : List Nat), spl S k acc l ≠ []
  | [], k, acc => by rw [TL.spl_nil]; simp
  | c :: r, 0, acc => by
    cases h : pre S (c :: r) with
    | true => rw [TL.spl_hit h]; simp
    | false => rw [TL.spl_miss h]; exact spl_ne S r 0 _
  | c :: r, k + 1, acc => by
    show spl S k acc r ≠ []
    exact spl_ne S r k acc
theorem no_slash {l : List Nat} (h : numOk l = true) : 47 ∉ l := fun hm => by
  have := numOk_bad hm (by decide)
  rw [this] at h
  cases h
/-- the parts between strokes, and what a number's text tells -/
theorem rd_parts (l : List Nat) : (spl [47] 0 [] l = [l] ∧ rdNum l = if numOk l = true then some (numVal l, 1) else none) ∨
    (∃ a b, spl [47] 0 [] l = [a, b] ∧ a.length + b.length ≤ l.length ∧ rdNum l = if numOk a = true ∧ numOk b = true ∧ 2 ≤ numVal b ∧ Int.gcd (numVal a) (numVal b) = 1 then some (numVal a, numVal b) else none) ∨
    (2 < (spl [47] 0 [] l).length ∧ rdNum l = none) := by
  by_cases h : 47 ∈ l
  · right
    obtain ⟨a, b, rfl, hna⟩ := List.eq_append_cons_of_mem h
    have hp : par [47] [] (a ++ 47 :: b) = some (a, b) := by
      have e := TL.par_part1 (s := 47) (S := []) (p := a) (rest := b) (acc := []) hna
      rw [List.nil_append] at e
      exact e
    have hr : rdNum (a ++ 47 :: b) = if numOk a = true ∧ numOk b = true ∧ 2 ≤ numVal b ∧ Int.gcd (numVal a) (numVal b) = 1 then some (numVal a, numVal b) else none := by
      unfold rdNum
      rw [if_pos (by simp), hp]
    by_cases hb : 47 ∈ b
    · right
      obtain ⟨b1, b2, rfl, hnb⟩ := List.eq_append_cons_of_mem hb
      refine ⟨?_, ?_⟩
      · rw [spl_two hna, spl_two hnb]
        have : spl [47] 0 [] b2 ≠ [] := spl_ne _ _ _ _
        cases hs : spl [47] 0 [] b2 with
        | nil => exact absurd hs this
        | cons _ _ => simp
      · rw [hr, if_neg]
        rintro ⟨_, h2, _⟩
        exact no_slash h2 hb
    · left
      exact ⟨a, b, by rw [spl_two hna, spl_no hb], by simp, hr⟩
  · left
    refine ⟨spl_no h, ?_⟩
    unfold rdNum
    rw [if_neg h]
theorem spl_len (S : List Nat) : ∀ (l : List Nat) (k : Nat) (acc : List Nat), (spl S k acc l).length ≤ l.length + 1
  | [], k, acc => by rw [TL.spl_nil]; simp
  | c :: r, 0, acc => by
    cases h : pre S (c :: r) with
    | true => rw [TL.spl_hit h]; have := spl_len S r (S.length - 1) []; simp; omega
    | false => rw [TL.spl_miss h]; have := spl_len S r 0 (acc ++ [c]); simp; omega
  | c :: r, k + 1, acc => by
    show (spl S k acc r).length ≤ _
    have := spl_len S r k acc
    simp
    omega
theorem spl_mem (S : List Nat) : ∀ (l : List Nat) (k : Nat) (acc : List Nat), ∀ p ∈ spl S k acc l, p.length ≤ acc.length + l.length
  | [], k, acc => by rw [TL.spl_nil]; simp
  | c :: r, 0, acc => by
    intro p hp
    cases h : pre S (c :: r) with
    | true =>
      rw [TL.spl_hit h] at hp
      rcases List.mem_cons.mp hp with rfl | hp
      · omega
      · have := spl_mem S r _ _ p hp
        simp at this ⊢
        omega
    | false =>
      rw [TL.spl_miss h] at hp
      have := spl_mem S r _ _ p hp
      simp at this ⊢
      omega
  | c :: r, k + 1, acc => by
    intro p hp
    have := spl_mem S r k acc p hp
    simp
    omega
theorem split_S {s : Str} : Txt.split s "/" = (spl [47] 0 [] (tl s)).map S := by
  have h := TL.split_spl s "/" (by rw [slash_tl]; simp) (TL.kind_ok (by decide +kernel))
  rw [slash_tl] at h
  rw [← h, List.map_map]
  have : (S ∘ tl) = id := by funext x; exact S_tl x
  rw [this, List.map_id]
def sp__law_due : Fs := ⟨fun ds Q _ => ∃ s : Str, ds = [.str s] ∧ s.length ≤ 1000 ∧ Q (dueD (tl s)), 1, false⟩
theorem vc__law_due : ∀ ds Q X, ds.length = 1 → sp__law_due.sp ds Q X → wS ⟨[("_law_count", sp__law_count), ("_law_divisor", sp__law_divisor)], [], []⟩ false ir__law_due (ent n__law_due ds) (fun _ => Q .none) Q X := by
  rintro ds Q X - ⟨s, rfl, hl, q⟩
  have hsz := size_big
  unfold ir__law_due n__law_due
  walk_at "vs"
  refine ⟨rfl, ?_⟩
  simp only [sM]
  refine ⟨by decide +kernel, by omega, ?_⟩
  rw [split_S]
  walk_at "vs"
  have hlen := spl_len [47] (tl s) 0 []
  have hmem := spl_mem [47] (tl s) 0 []
  have el := len_tl s
  have parts := rd_parts (tl s)
  generalize hL : spl [47] 0 [] (tl s) = L at *
  simp only [List.length_map]
  refine ⟨by omega, ?_⟩
  refine lcs_to (rs := L.map cntD) (fun _ _ => rfl) (by simp) (fun i d y h1 h2 k hk => ?_) ?_
  · rw [List.getElem?_map, List.getElem?_map] at h1
    rw [List.getElem?_map] at h2
    cases hi : L[i]? with
    | none => rw [hi] at h1; cases h1
    | some p =>
      rw [hi] at h1 h2
      cases h1
      cases h2
      walk_at "vc"
      refine up_of rfl ⟨S p, rfl, ?_, ?_⟩
      · have := hmem p (List.mem_of_getElem? hi)
        rw [S_len]
        simp only [List.length_nil] at this
        omega
      · rw [tl_S]; exact hk
  walk_at "vc"
  rw [sIn_non]
  refine ⟨rfl, ok_list fun d hd => ?_, ?_⟩
  · obtain ⟨p, _, rfl⟩ := List.mem_map.mp hd
    unfold cntD
    split <;> rfl
  have ea : ((L.map cntD).any fun z => PyData.eqv z .none) = L.any fun p => !numOk p := by
    rw [List.any_map]
    congr 1
    funext p
    unfold cntD
    show PyData.eqv (if numOk p = true then _ else _) _ = _
    cases numOk p <;> simp [PyData.eqv]
  rw [ea]
  unfold dueD at q
  rcases parts with ⟨rfl, hr⟩ | ⟨a, b, rfl, hab, hr⟩ | ⟨h2, hr⟩
  · rw [hr] at q
    by_cases hn : numOk (tl s) = true
    · simp only [hn, if_true] at q
      simp only [List.any_cons, List.any_nil, hn, Bool.not_true, Bool.or_false]
      walk_at "vc"
      rw [if_neg (by decide), if_pos (by decide)]
      unfold cntD
      rw [if_pos hn]
      exact ⟨by decide, q⟩
    · simp only [hn, if_false, Bool.false_eq_true] at q
      simp only [List.any_cons, List.any_nil, hn, Bool.not_false, Bool.true_or]
      walk_at "vc"
      exact q
  · rw [hr] at q
    by_cases hna : numOk a = true
    case neg =>
      simp only [hna, false_and, if_false, Bool.false_eq_true] at q
      simp only [List.any_cons, List.any_nil, hna, Bool.not_false, Bool.true_or]
      walk_at "vc"
      exact q
    by_cases hnb : numOk b = true
    case neg =>
      simp only [hnb, false_and, and_false, if_false, Bool.false_eq_true] at q
      simp only [List.any_cons, List.any_nil, hnb, Bool.not_false, Bool.true_or, Bool.or_true]
      walk_at "vc"
      exact q
    simp only [hna, hnb, true_and] at q
    simp only [List.any_cons, List.any_nil, hna, hnb, Bool.not_true, Bool.or_false]
    walk_at "vc"
    rw [if_neg (by decide), if_neg (by decide)]
    have ca : cntD a = .int (numVal a) := by unfold cntD; rw [if_pos hna]
    have cb : cntD b = .int (numVal b) := by unfold cntD; rw [if_pos hnb]
    simp only [ca, cb]
    walk_at "vc"
    simp only [ca, cb]
    walk_at "vc"
    by_cases h2 : 2 ≤ numVal b
    case neg =>
      rw [if_pos (by omega)]
      rw [if_neg (fun z => h2 z.1)] at q
      exact q
    rw [if_neg (by omega)]
    walk_at "vc"
    have n1 := numVal_nn a
    have n2 := numVal_nn b
    refine up_of rfl ⟨numVal a, numVal b, rfl, n1, n2, ?_⟩
    walk_at "vc"
    by_cases hg : Int.gcd (numVal a) (numVal b) = 1
    · rw [if_pos ⟨h2, hg⟩] at q
      have e1 : ((Int.gcd (numVal a) (numVal b) : Nat) : Int) = 1 := by omega
      simp only [e1, decide_true, Bool.not_true, Bool.false_eq_true, if_false, ca, cb]
      walk_at "vc"
      try simp only [ca, cb]
      exact ⟨by decide, q⟩
    · rw [if_neg (fun z => hg z.2)] at q
      have e1 : ¬ ((Int.gcd (numVal a) (numVal b) : Nat) : Int) = 1 := by omega
      simp only [e1, decide_false, Bool.not_false, if_true]
      exact q
  · rw [hr] at q
    cases h : L.any fun p => !numOk p with
    | true =>
      walk_at "vc"
      exact q
    | false =>
      walk_at "vc"
      rw [List.length_map, List.length_map, if_pos (by omega)]
      exact q

/-- _law_read(text); slots 0:text 1:found 2:error 3:e; calls ['read_number', '_law_lone']; consts [] -/
def ir__law_read : Sm := (.seq (.asg 1 .non) (.seq (.asg 2 .non) (.seq (.tryK (some 1) (.call 0 "read_number" (.cons (.var 0) .nil)) "ChanceError" 3 2) (.seq (.ite (.cmp .IsNot (.var 2) .non) (.seq (.ret (.tup (.cons (.str "refused") (.cons (.call 1 "_law_lone" (.cons (.var 2) .nil)) .nil)))) .skip) .skip) (.seq (.ret (.tup (.cons (.str "read") (.cons (.var 1) .nil)))) .skip)))))
def n__law_read : List Str := ["text", "found", "error", "e"]
def kt__law_read : List (Str × Str) := [("NoText", "ChanceError")]
/-- what the reading of a thing comes to -/
def readD : PyData → PyData
  | .str s => match rdNum (tl s) with
    | some p => .tuple [.str "read", fr p.1 p.2]
    | none => .tuple [.str "refused", .bool true]
  | _ => .tuple [.str "refused", .bool true]
def sp__law_read : Fs := ⟨fun ds Q _ => ∃ d, ds = [d] ∧ noD d = true ∧ (∀ s, d = .str s → s.length ≤ sizeLine) ∧ Q (readD d), 1, false⟩
theorem vc__law_read : ∀ ds Q X, ds.length = 1 → sp__law_read.sp ds Q X → wS ⟨[("read_number", sp_read_number), ("_law_lone", sp__law_lone)], [], kt__law_read⟩ false ir__law_read (ent n__law_read ds) (fun _ => Q .none) Q X := by
  rintro ds Q X - ⟨d, rfl, hd, hl, q⟩
  unfold ir__law_read n__law_read
  have s1 : subB "NoText" "ChanceError" = true := by decide +kernel
  have m1 : (("NoText", "ChanceError") : Str × Str) ∈ kt__law_read := by unfold kt__law_read; simp
  walk_at "vc"
  refine up_of rfl ⟨d, rfl, hd, ?_⟩
  cases d
  case str z =>
    refine ⟨hl z rfl, ?_⟩
    cases hr : rdNum (tl z) with
    | some p =>
      simp only [readD, hr] at q
      walk_at "vc"
      simp only [isN, Bool.not_true, Bool.false_eq_true, if_false]
      exact ⟨by decide, q⟩
    | none =>
      simp only [readD, hr] at q
      simp only []
      refine ⟨m1, s1, ?_⟩
      simp only [isN, Bool.not_false, if_true]
      refine up_of rfl ⟨rfl, ?_⟩
      walk_at "vc"
      exact ⟨by decide, q⟩
  all_goals
    refine ⟨m1, s1, ?_⟩
    simp only [isN, Bool.not_false, if_true]
    refine up_of rfl ⟨rfl, ?_⟩
    walk_at "vc"
    exact ⟨by decide, q⟩

/-- _law_changed(script, text); slots 0:script 1:text 2:signs 3:cell 4:at 5:sign 6:way 7:head 8:stroke 9:tail; calls ['_law_cell_at']; consts [] -/
def ir__law_changed : Sm := (.seq (.asg 2 (.str "0123456789/ -+._\n\tae|I,:;O")) (.seq (.asg 3 (.call 0 "_law_cell_at" (.cons (.var 0) (.cons (.int 3) .nil)))) (.seq (.asg 4 (.bin .Mod (.bin .FloorDiv (.var 3) (.int 2)) (.bin .Add (.pl 1) (.int 1)))) (.seq (.ite (.cmp .Eq (.bin .Mod (.var 3) (.int 4)) (.int 3)) (.seq (.asg 4 (.pl 1)) .skip) .skip) (.seq (.ite (.cmp .Eq (.bin .Mod (.var 3) (.int 4)) (.int 1)) (.seq (.asg 4 (.int 0)) .skip) .skip) (.seq (.asg 5 (.pix 2 (.bin .Mod (.call 0 "_law_cell_at" (.cons (.var 0) (.cons (.int 4) .nil))) (.pl 2)))) (.seq (.ite (.cmp .Eq (.bin .Mod (.bin .FloorDiv (.call 0 "_law_cell_at" (.cons (.var 0) (.cons (.int 4) .nil))) (.int 26)) (.int 3)) (.int 1)) (.seq (.asg 5 (.ix (.str " \n\t0") (.bin .Mod (.call 0 "_law_cell_at" (.cons (.var 0) (.cons (.int 4) .nil))) (.int 4)))) .skip) .skip) (.seq (.asg 6 (.bin .Mod (.call 0 "_law_cell_at" (.cons (.var 0) (.cons (.int 5) .nil))) (.int 7))) (.seq (.ite (.cmp .Eq (.var 6) (.int 0)) (.seq (.ret (.var 1)) .skip) .skip) (.seq (.ite (.cmp .Eq (.var 6) (.int 1)) (.seq (.ret (.bin .Add (.bin .Add (.slH (.var 1) (.var 4)) (.var 5)) (.slL (.var 1) (.var 4)))) .skip) .skip) (.seq (.ite (.cmp .Eq (.var 6) (.int 2)) (.seq (.ret (.bin .Add (.bin .Add (.slH (.var 1) (.var 4)) (.var 5)) (.slL (.var 1) (.bin .Add (.var 4) (.int 1))))) .skip) .skip) (.seq (.ite (.cmp .Eq (.var 6) (.int 3)) (.seq (.ret (.bin .Add (.slH (.var 1) (.var 4)) (.slL (.var 1) (.bin .Add (.var 4) (.int 1))))) .skip) .skip) (.seq (.ite (.cmp .Eq (.var 6) (.int 4)) (.seq (.ret (.bin .Add (.str "0") (.var 1))) .skip) .skip) (.seq (.ite (.cmp .Eq (.var 6) (.int 5)) (.seq (.asgT [7, 8, 9] (.met .partition (.var 1) (.cons (.str "/") .nil))) (.seq (.ret (.bin .Add (.bin .Add (.bin .Add (.var 7) (.var 8)) (.str "0")) (.var 9))) .skip)) .skip) (.seq (.ret (.bin .Add (.var 1) (.slH (.str "123456789012") (.bin .Add (.int 1) (.bin .Mod (.bin .FloorDiv (.var 3) (.int 7)) (.int 12)))))) .skip)))))))))))))))
def n__law_changed : List Str := ["script", "text", "signs", "cell", "at", "sign", "way", "head", "stroke", "tail"]
def sp__law_changed : Fs := ⟨fun ds Q _ => ∃ (ns : List Int) (s : Str), ds = [scrD ns, .str s] ∧ s.length ≤ 19 ∧ ∀ z : Str, z.length ≤ 40 → Q (.str z), 2, false⟩
theorem vc__law_changed : ∀ ds Q X, ds.length = 2 → sp__law_changed.sp ds Q X → wS ⟨[("_law_cell_at", sp__law_cell_at)], [], []⟩ false ir__law_changed (ent n__law_changed ds) (fun _ => Q .none) Q X := by
  rintro ds Q X - ⟨ns, s, rfl, hs, q⟩
  unfold ir__law_changed n__law_changed
  have hsz := size_big
  walk_at "vs"
  refine up_of rfl ⟨ns, 3, rfl, ?_⟩
  walk_at "vs"
  refine ⟨⟨by decide, by decide +kernel⟩, by omega, by omega, ?_⟩
  have a0 := Int.emod_nonneg (ns.getD 3 0 / 2) (b := (s.length : Int) + 1) (by omega)
  have a1 := Int.emod_lt_of_pos (ns.getD 3 0 / 2) (b := (s.length : Int) + 1) (by omega)
  generalize ns.getD 3 0 / 2 % ((s.length : Int) + 1) = at0 at *
  refine ite_join (fun r => ∃ a : Int, 0 ≤ a ∧ a ≤ s.length ∧ r = [.sh (scrD ns), .sh (.str s), .sh (.str "0123456789/ -+._\n\tae|I,:;O"), .sh (.int (ns.getD 3 0)), .sh (.int a), .no, .no, .no, .no, .no]) ?_ ?_
  · walk_at "vc"
    split
    · exact ⟨by omega, _, by omega, by omega, rfl⟩
    · exact ⟨_, a0, by omega, rfl⟩
  rintro r ⟨a, b0, b1, rfl⟩
  walk_at "vs"
  refine ite_join (fun r => ∃ a : Int, 0 ≤ a ∧ a ≤ s.length ∧ r = [.sh (scrD ns), .sh (.str s), .sh (.str "0123456789/ -+._\n\tae|I,:;O"), .sh (.int (ns.getD 3 0)), .sh (.int a), .no, .no, .no, .no, .no]) ?_ ?_
  · walk_at "vc"
    split
    · exact ⟨_, by omega, by omega, rfl⟩
    · exact ⟨_, b0, b1, rfl⟩
  rintro r ⟨c, c0, c1, rfl⟩
  walk_at "vs"
  refine up_of rfl ⟨ns, 4, rfl, ?_⟩
  walk_at "vs"
  have hsg : ("0123456789/ -+._\n\tae|I,:;O" : Str).length = 26 := by decide +kernel
  rw [hsg]
  refine ⟨by omega, by decide, ?_⟩
  have i0 := Int.emod_nonneg (ns.getD 4 0) (b := ((26 : Nat) : Int)) (by decide)
  have i1 := Int.emod_lt_of_pos (ns.getD 4 0) (b := ((26 : Nat) : Int)) (by decide)
  refine pick_sign (by rw [hsg]; omega) i0 (by rw [hsg]; exact i1) fun sg => ?_
  walk_at "vs"
  refine ite_join (fun r => ∃ g : Nat, r = [.sh (scrD ns), .sh (.str s), .sh (.str "0123456789/ -+._\n\tae|I,:;O"), .sh (.int (ns.getD 3 0)), .sh (.int c), .sh (.str ⟨#[g]⟩), .no, .no, .no, .no]) ?_ ?_
  · walk_at "vc"
    refine up_of rfl ⟨ns, 4, rfl, ?_⟩
    walk_at "vc"
    refine ⟨⟨by decide, by decide +kernel⟩, ?_⟩
    split
    · refine up_of rfl ⟨ns, 4, rfl, ?_⟩
      walk_at "vc"
      have j0 := Int.emod_nonneg (ns.getD 4 0) (b := 4) (by decide)
      have j1 := Int.emod_lt_of_pos (ns.getD 4 0) (b := 4) (by decide)
      have l4 : (" \n\t0" : Str).length = 4 := by decide +kernel
      refine pick_sign (by rw [l4]; omega) j0 (by rw [l4]; exact j1) fun sg => ?_
      walk_at "vc"
      exact ⟨sg, rfl⟩
    · exact ⟨sg, rfl⟩
  rintro r ⟨g, rfl⟩
  walk_at "vc"
  refine up_of rfl ⟨ns, 5, rfl, ?_⟩
  walk_at "vc"
  have cl : ∀ lo hi, (cutS s lo hi).length ≤ 19 := fun lo hi => Nat.le_trans (cutS_length s lo hi) hs
  have gl : (⟨#[g]⟩ : Str).length = 1 := rfl
  split
  · exact q _ (by omega)
  split
  · walk_at "vc"
    exact ⟨by omega, by have := cl none (some c); omega, by omega, by have := cl none (some c); have := cl (some c) none; simp only [app_len]; omega, q _ (by have := cl none (some c); have := cl (some c) none; simp only [app_len]; omega)⟩
  split
  · walk_at "vc"
    exact ⟨by omega, by have := cl none (some c); omega, by omega, by have := cl none (some c); have := cl (some (c + 1)) none; simp only [app_len]; omega, q _ (by have := cl none (some c); have := cl (some (c + 1)) none; simp only [app_len]; omega)⟩
  split
  · walk_at "vc"
    exact ⟨by omega, by omega, by have := cl none (some c); have := cl (some (c + 1)) none; omega, q _ (by have := cl none (some c); have := cl (some (c + 1)) none; simp only [app_len]; omega)⟩
  have l0 : (Str.ofString "0").length = 1 := by decide +kernel
  split
  · exact ⟨by omega, q _ (by simp only [app_len]; omega)⟩
  split
  · have hp := partition_par s "/" (by rw [slash_tl]; simp)
    have lp : (Txt.partition s "/").1.length + (Txt.partition s "/").2.1.length + (Txt.partition s "/").2.2.length ≤ 19 := by
      rw [hp, slash_tl]
      by_cases hm : 47 ∈ tl s
      · obtain ⟨a, b, hab, hna⟩ := List.eq_append_cons_of_mem hm
        have e := TL.par_part1 (s := 47) (S := []) (p := a) (rest := b) (acc := []) hna
        rw [List.nil_append] at e
        rw [hab, show a ++ 47 :: b = a ++ ([47] ++ b) from rfl, e]
        have := len_tl s
        rw [hab] at this
        simp only [mk_len, show (Str.ofString "/").length = 1 by decide +kernel]
        simp at this
        omega
      · rw [TL.par_none1 hm]
        simp only [show Str.empty.length = 0 from rfl]
        omega
    refine ⟨rfl, ?_⟩
    simp only [sM]
    refine ⟨by decide +kernel, by omega, ?_⟩
    walk_at "vc"
    simp only [app_len]
    exact ⟨by omega, by omega, by omega, q _ (by simp only [app_len]; omega)⟩
  · walk_at "vc"
    have l12 : (Str.ofString "123456789012").length = 12 := by decide +kernel
    have := fun lo hi => cutS_length (Str.ofString "123456789012") lo hi
    refine ⟨⟨by decide, by decide +kernel⟩, by omega, ?_⟩
    have h2 := this none (some (1 + ns.getD 3 0 / 7 % 12))
    exact ⟨by omega, q _ (by simp only [app_len]; omega)⟩

/-- law(script); slots 0:script 1:text 2:due 3:odd 4:told 5:found; calls ['_law_changed', '_law_text_by', '_law_cell_at', '_law_odd', '_law_read', '_law_due', '_law_whole']; consts [] -/
def ir_law : Sm := (.seq (.asg 1 (.call 0 "_law_changed" (.cons (.var 0) (.cons (.call 1 "_law_text_by" (.cons (.var 0) .nil)) .nil)))) (.seq (.ite (.cmp .Eq (.bin .Mod (.call 2 "_law_cell_at" (.cons (.var 0) (.cons (.int 6) .nil))) (.int 8)) (.int 1)) (.seq (.asg 1 (.call 3 "_law_odd" (.cons (.bin .Add (.bin .FloorDiv (.call 2 "_law_cell_at" (.cons (.var 0) (.cons (.int 6) .nil))) (.int 8)) (.call 2 "_law_cell_at" (.cons (.var 0) (.cons (.int 3) .nil)))) .nil))) .skip) .skip) (.seq (.ite (.cmp .Eq (.bin .Mod (.call 2 "_law_cell_at" (.cons (.var 0) (.cons (.int 7) .nil))) (.int 9)) (.int 1)) (.seq (.asg 3 (.ix (.lst (.cons .non (.cons (.int 7) (.cons (.bl true) (.cons (.lst (.cons (.str "1") .nil)) (.cons (.tup (.cons (.str "1") (.cons (.str "2") .nil))) (.cons .emp .nil))))))) (.bin .Mod (.bin .FloorDiv (.call 2 "_law_cell_at" (.cons (.var 0) (.cons (.int 7) .nil))) (.int 9)) (.int 6)))) (.seq (.ret (.cmp .Eq (.call 4 "_law_read" (.cons (.var 3) .nil)) (.tup (.cons (.str "refused") (.cons (.bl true) .nil))))) .skip)) .skip) (.seq (.asg 2 (.call 5 "_law_due" (.cons (.var 1) .nil))) (.seq (.asgT [4, 5] (.call 4 "_law_read" (.cons (.var 1) .nil))) (.seq (.ite (.cmp .Is (.var 2) .non) (.seq (.ret (.and (.cmp .Eq (.var 4) (.str "refused")) (.and1 (.cmp .Is (.var 5) (.bl true))))) .skip) .skip) (.seq (.ite (.or (.cmp .NotEq (.var 4) (.str "read")) (.or (.not (.isi (.var 5) .tuple)) (.or1 (.cmp .NotEq (.pl 5) (.int 2))))) (.seq (.ret (.bl false)) .skip) .skip) (.seq (.ret (.and (.call 6 "_law_whole" (.cons (.pix 5 (.int 0)) .nil)) (.and (.call 6 "_law_whole" (.cons (.pix 5 (.int 1)) .nil)) (.and (.cmp .Eq (.pix 5 (.int 0)) (.pix 2 (.int 0))) (.and1 (.cmp .Eq (.pix 5 (.int 1)) (.pix 2 (.int 1)))))))) .skip))))))))
def n_law : List Str := ["script", "text", "due", "odd", "told", "found"]
theorem vc_law : ∀ ds Q X, ds.length = 1 → sp_law.sp ds Q X → wS ⟨[("_law_changed", sp__law_changed), ("_law_text_by", sp__law_text_by), ("_law_cell_at", sp__law_cell_at), ("_law_odd", sp__law_odd), ("_law_read", sp__law_read), ("_law_due", sp__law_due), ("_law_whole", sp__law_whole)], [], []⟩ false ir_law (ent n_law ds) (fun _ => Q .none) Q X := by
  rintro ds Q X - ⟨ns, rfl, hl, hb, q⟩
  unfold ir_law n_law
  have hsz := size_big
  walk_at "vs"
  refine up_of rfl ⟨ns, rfl, fun s0 h0 => ?_⟩
  walk_at "vs"
  refine up_of rfl ⟨ns, s0, rfl, h0, fun s1 h1 => ?_⟩
  walk_at "vs"
  refine ite_join (fun r => ∃ s : Str, s.length ≤ 40 ∧ r = [.sh (scrD ns), .sh (.str s), .no, .no, .no, .no]) ?_ ?_
  · walk_at "vc"
    refine up_of rfl ⟨ns, 6, rfl, ?_⟩
    walk_at "vc"
    split
    · refine up_of rfl ⟨ns, 6, rfl, ?_⟩
      walk_at "vc"
      refine ⟨⟨by decide, by decide +kernel⟩, up_of rfl ⟨ns, 3, rfl, ?_⟩⟩
      walk_at "vc"
      refine up_of rfl ⟨_, rfl, fun s h => ?_⟩
      walk_at "vc"
      exact ⟨s, h, rfl⟩
    · exact ⟨s1, h1, rfl⟩
  rintro r ⟨s, hs, rfl⟩
  walk_at "vc"
  refine up_of rfl ⟨ns, 7, rfl, ?_⟩
  walk_at "vc"
  split
  · refine ⟨by decide, by decide, by decide, up_of rfl ⟨ns, 7, rfl, ?_⟩⟩
    walk_at "vc"
    refine ⟨⟨by decide, by decide +kernel⟩, ?_⟩
    refine pick_any (Int.emod_nonneg _ (by decide)) (Int.emod_lt_of_pos _ (by decide)) fun d hd => ?_
    have hd2 : noD d = true ∧ (∀ s, d = .str s → s.length ≤ sizeLine) ∧ readD d = .tuple [.str "refused", .bool true] := by
      simp only [List.mem_cons, List.not_mem_nil, or_false] at hd
      rcases hd with rfl | rfl | rfl | rfl | rfl | rfl <;> exact ⟨rfl, (fun _ e => by cases e), rfl⟩
    walk_at "vc"
    refine up_of rfl ⟨d, rfl, hd2.1, hd2.2.1, ?_⟩
    rw [hd2.2.2]
    walk_at "vc"
    refine ⟨by decide, by decide +kernel, by decide +kernel, ?_⟩
    walk_at "vc"
    have e : PyData.eqv (.tuple [.str "refused", .bool true]) (.tuple [.str "refused", .bool true]) = true := by decide +kernel
    rw [e]
    exact q
  refine up_of rfl ⟨s, rfl, by omega, ?_⟩
  cases hr : rdNum (tl s) with
  | none =>
    have e1 : dueD (tl s) = .none := by simp only [dueD, hr]
    have e2 : readD (.str s) = .tuple [.str "refused", .bool true] := by simp only [readD, hr]
    rw [e1]
    walk_at "vc"
    refine up_of rfl ⟨_, rfl, rfl, (fun z e => by cases e; omega), ?_⟩
    rw [e2]
    walk_at "vc"
    simp only [isN, if_true]
    walk_at "vc"
    exact q
  | some p =>
    have e1 : dueD (tl s) = fr p.1 p.2 := by simp only [dueD, hr]
    have e2 : readD (.str s) = .tuple [.str "read", fr p.1 p.2] := by simp only [readD, hr]
    rw [e1]
    unfold fr at *
    walk_at "vc"
    refine up_of rfl ⟨_, rfl, rfl, (fun z e => by cases e; omega), ?_⟩
    rw [e2]
    walk_at "vc"
    simp only [isN, Bool.false_eq_true, if_false]
    refine ⟨rfl, ?_⟩
    simp only [tyD, Bool.not_true, Bool.false_eq_true, if_false]
    rw [if_neg (by simp)]
    refine up_of rfl ⟨_, rfl, rfl, ?_⟩
    walk_at "vc"
    simp only [isWh, if_true]
    walk_at "vc"
    refine up_of rfl ⟨_, rfl, rfl, ?_⟩
    walk_at "vc"
    simp only [isWh, if_true]
    walk_at "vc"
    exact q
end K89
end Pu

set_option Elab.async false
set_option linter.all false
set_option maxRecDepth 100000
set_option maxHeartbeats 8000000
namespace Pu
namespace TopK89
open PySem L2 PyProof.Rows Pu.K89
def topS (i : Nat) : Stmt := PySem.Challenge.pw_chancehouse_k89_numbers_refused.main.body.getD i (.Pass ⟨0, 0, 0, 0⟩)
theorem sc__law_cell_at : FnScope n__law_cell_at ["script", "k"] (defScope (topS 20)) := ⟨rfl, rfl, rfl, by decide +kernel, rfl, by decide +kernel, by decide +kernel⟩
theorem ck__law_cell_at : (isB ir__law_cell_at && chkS ir__law_cell_at (defScope (topS 20)) n__law_cell_at (defBody (topS 20))) = true := by decide +kernel
theorem sc__law_changed : FnScope n__law_changed ["script", "text"] (defScope (topS 26)) := ⟨rfl, rfl, rfl, by decide +kernel, rfl, by decide +kernel, by decide +kernel⟩
theorem ck__law_changed : (isB ir__law_changed && chkS ir__law_changed (defScope (topS 26)) n__law_changed (defBody (topS 26))) = true := by decide +kernel
theorem sc__law_power : FnScope n__law_power ["many"] (defScope (topS 23)) := ⟨rfl, rfl, rfl, by decide +kernel, rfl, by decide +kernel, by decide +kernel⟩
theorem ck__law_power : (isB ir__law_power && chkS ir__law_power (defScope (topS 23)) n__law_power (defBody (topS 23))) = true := by decide +kernel
theorem sc__law_number_by : FnScope n__law_number_by ["cell"] (defScope (topS 24)) := ⟨rfl, rfl, rfl, by decide +kernel, rfl, by decide +kernel, by decide +kernel⟩
theorem ck__law_number_by : (isB ir__law_number_by && chkS ir__law_number_by (defScope (topS 24)) n__law_number_by (defBody (topS 24))) = true := by decide +kernel
theorem sc__law_divisor : FnScope n__law_divisor ["one", "other"] (defScope (topS 22)) := ⟨rfl, rfl, rfl, by decide +kernel, rfl, by decide +kernel, by decide +kernel⟩
theorem ck__law_divisor : (isB ir__law_divisor && chkS ir__law_divisor (defScope (topS 22)) n__law_divisor (defBody (topS 22))) = true := by decide +kernel
theorem sc__law_text_by : FnScope n__law_text_by ["script"] (defScope (topS 25)) := ⟨rfl, rfl, rfl, by decide +kernel, rfl, by decide +kernel, by decide +kernel⟩
theorem ck__law_text_by : (isB ir__law_text_by && chkS ir__law_text_by (defScope (topS 25)) n__law_text_by (defBody (topS 25))) = true := by decide +kernel
theorem sc__law_odd : FnScope n__law_odd ["cell"] (defScope (topS 27)) := ⟨rfl, rfl, rfl, by decide +kernel, rfl, by decide +kernel, by decide +kernel⟩
theorem ck__law_odd : (isB ir__law_odd && chkS ir__law_odd (defScope (topS 27)) n__law_odd (defBody (topS 27))) = true := by decide +kernel
theorem sc_whole_of : FnScope n_whole_of ["text"] (defScope (topS 17)) := ⟨rfl, rfl, rfl, by decide +kernel, rfl, by decide +kernel, by decide +kernel⟩
theorem ck_whole_of : (isB ir_whole_of && chkS ir_whole_of (defScope (topS 17)) n_whole_of (defBody (topS 17))) = true := by decide +kernel
theorem sc_is_whole : FnScope n_is_whole ["thing"] (defScope (topS 11)) := ⟨rfl, rfl, rfl, by decide +kernel, rfl, by decide +kernel, by decide +kernel⟩
theorem ck_is_whole : (isB ir_is_whole && chkS ir_is_whole (defScope (topS 11)) n_is_whole (defBody (topS 11))) = true := by decide +kernel
theorem sc_divisor : FnScope n_divisor ["one", "other"] (defScope (topS 12)) := ⟨rfl, rfl, rfl, by decide +kernel, rfl, by decide +kernel, by decide +kernel⟩
theorem ck_divisor : (isB ir_divisor && chkS ir_divisor (defScope (topS 12)) n_divisor (defBody (topS 12))) = true := by decide +kernel
theorem sc_lowest : FnScope n_lowest ["top", "bottom"] (defScope (topS 13)) := ⟨rfl, rfl, rfl, by decide +kernel, rfl, by decide +kernel, by decide +kernel⟩
theorem ck_lowest : (isB ir_lowest && chkS ir_lowest (defScope (topS 13)) n_lowest (defBody (topS 13))) = true := by decide +kernel
theorem sc_fraction : FnScope n_fraction ["top", "bottom"] (defScope (topS 14)) := ⟨rfl, rfl, rfl, by decide +kernel, rfl, by decide +kernel, by decide +kernel⟩
theorem ck_fraction : (isB ir_fraction && chkS ir_fraction (defScope (topS 14)) n_fraction (defBody (topS 14))) = true := by decide +kernel
theorem sc_read_number : FnScope n_read_number ["text"] (defScope (topS 18)) := ⟨rfl, rfl, rfl, by decide +kernel, rfl, by decide +kernel, by decide +kernel⟩
theorem ck_read_number : (isB ir_read_number && chkS ir_read_number (defScope (topS 18)) n_read_number (defBody (topS 18))) = true := by decide +kernel
theorem sc__law_lone : FnScope n__law_lone ["error"] (defScope (topS 30)) := ⟨rfl, rfl, rfl, by decide +kernel, rfl, by decide +kernel, by decide +kernel⟩
theorem ck__law_lone : (isB ir__law_lone && chkS ir__law_lone (defScope (topS 30)) n__law_lone (defBody (topS 30))) = true := by decide +kernel
theorem sc__law_read : FnScope n__law_read ["text"] (defScope (topS 31)) := ⟨rfl, rfl, rfl, by decide +kernel, rfl, by decide +kernel, by decide +kernel⟩
theorem ck__law_read : (isB ir__law_read && chkS ir__law_read (defScope (topS 31)) n__law_read (defBody (topS 31))) = true := by decide +kernel
theorem sc__law_count : FnScope n__law_count ["text"] (defScope (topS 28)) := ⟨rfl, rfl, rfl, by decide +kernel, rfl, by decide +kernel, by decide +kernel⟩
theorem ck__law_count : (isB ir__law_count && chkS ir__law_count (defScope (topS 28)) n__law_count (defBody (topS 28))) = true := by decide +kernel
theorem sc__law_due : FnScope n__law_due ["text"] (defScope (topS 29)) := ⟨rfl, rfl, rfl, by decide +kernel, rfl, by decide +kernel, by decide +kernel⟩
theorem ck__law_due : (isB ir__law_due && chkS ir__law_due (defScope (topS 29)) n__law_due (defBody (topS 29))) = true := by decide +kernel
theorem sc__law_whole : FnScope n__law_whole ["found"] (defScope (topS 21)) := ⟨rfl, rfl, rfl, by decide +kernel, rfl, by decide +kernel, by decide +kernel⟩
theorem ck__law_whole : (isB ir__law_whole && chkS ir__law_whole (defScope (topS 21)) n__law_whole (defBody (topS 21))) = true := by decide +kernel
theorem sc_law : FnScope n_law ["script"] (defScope (topS 32)) := ⟨rfl, rfl, rfl, by decide +kernel, rfl, by decide +kernel, by decide +kernel⟩
theorem ck_law : (isB ir_law && chkS ir_law (defScope (topS 32)) n_law (defBody (topS 32))) = true := by decide +kernel
theorem all_mk {l : PySem.W.OpenLaw} {w : World} {K : PySem.W.Frag} {h : Heap} {mg : Str → Option Value} (fa : Addr) (X : K.In h) (G : h.Ns mainGlobals mg) (hfa : mg "law" = some (.ref fa))
    (D__law_cell_at : Def1 K "_law_cell_at" (topS 20))
    (D__law_changed : Def1 K "_law_changed" (topS 26))
    (D__law_power : Def1 K "_law_power" (topS 23))
    (D__law_number_by : Def1 K "_law_number_by" (topS 24))
    (D__law_divisor : Def1 K "_law_divisor" (topS 22))
    (D__law_text_by : Def1 K "_law_text_by" (topS 25))
    (D__law_odd : Def1 K "_law_odd" (topS 27))
    (D_whole_of : Def1 K "whole_of" (topS 17))
    (D_is_whole : Def1 K "is_whole" (topS 11))
    (D_divisor : Def1 K "divisor" (topS 12))
    (D_lowest : Def1 K "lowest" (topS 13))
    (D_fraction : Def1 K "fraction" (topS 14))
    (D_read_number : Def1 K "read_number" (topS 18))
    (D__law_lone : Def1 K "_law_lone" (topS 30))
    (D__law_read : Def1 K "_law_read" (topS 31))
    (D__law_count : Def1 K "_law_count" (topS 28))
    (D__law_due : Def1 K "_law_due" (topS 29))
    (D__law_whole : Def1 K "_law_whole" (topS 21))
    (D_law : Def1 K "law" (topS 32))
    (E_ChanceError : Exc0 K "ChanceError")
    (E_NoText : Exc0 K "NoText")
    (K_NoText_ChanceError : Kt0 K "NoText" "ChanceError")
    (K_NoText_NoAnswer : Kt0 K "NoText" "NoAnswer")
    (K_NoText_NoHouse : Kt0 K "NoText" "NoHouse")
    (K_NoText_NoName : Kt0 K "NoText" "NoName")
    (K_NoText_NoNumber : Kt0 K "NoText" "NoNumber")
    (K_NoText_NoRow : Kt0 K "NoText" "NoRow")
    (K_NoText_NoRule : Kt0 K "NoText" "NoRule")
    (K_NoText_NoText : Kt0 K "NoText" "NoText")
    (K_NoText_NoWord : Kt0 K "NoText" "NoWord")
    (K_NoText_ValueError : Kt0 K "NoText" "ValueError")
    (G_FIGURES : ∃ u, PySem.W.nsIn K mainGlobals "FIGURES" = some (some u) ∧ RelV (.str "0123456789") u)
    (z : Bts K) :
    ∃ fd : FuncData, (∀ (s : Shared) (u : Value), BindsTo s fd ⟨[u], []⟩ [("script", u)]) ∧ ∀ base : Heap, K.In base → base.Ns mainGlobals mg → FnOk l.prog w K mg base (L2.CX l.prog w) 6 fa fd ["script"] (spL K) := by
  have T : Tops K h mg := ⟨X, G⟩
  have B := bts T z
  have GL__law_cell_at : Glo K mg [] (rais ir__law_cell_at) [] := by
    have e : rais ir__law_cell_at = ([] : List Str) := rfl
    rw [e]
    refine glo T B ?_ ?_ ?_
    · intro p hp
      cases hp
    · intro p hp
      cases hp
    · intro p hp
      cases hp
  have GL__law_changed : Glo K mg [] (rais ir__law_changed) [] := by
    have e : rais ir__law_changed = ([] : List Str) := rfl
    rw [e]
    refine glo T B ?_ ?_ ?_
    · intro p hp
      cases hp
    · intro p hp
      cases hp
    · intro p hp
      cases hp
  have GL__law_power : Glo K mg [] (rais ir__law_power) [] := by
    have e : rais ir__law_power = ([] : List Str) := rfl
    rw [e]
    refine glo T B ?_ ?_ ?_
    · intro p hp
      cases hp
    · intro p hp
      cases hp
    · intro p hp
      cases hp
  have GL__law_number_by : Glo K mg [] (rais ir__law_number_by) [] := by
    have e : rais ir__law_number_by = ([] : List Str) := rfl
    rw [e]
    refine glo T B ?_ ?_ ?_
    · intro p hp
      cases hp
    · intro p hp
      cases hp
    · intro p hp
      cases hp
  have GL__law_divisor : Glo K mg [] (rais ir__law_divisor) [] := by
    have e : rais ir__law_divisor = ([] : List Str) := rfl
    rw [e]
    refine glo T B ?_ ?_ ?_
    · intro p hp
      cases hp
    · intro p hp
      cases hp
    · intro p hp
      cases hp
  have GL__law_text_by : Glo K mg [] (rais ir__law_text_by) [] := by
    have e : rais ir__law_text_by = ([] : List Str) := rfl
    rw [e]
    refine glo T B ?_ ?_ ?_
    · intro p hp
      cases hp
    · intro p hp
      cases hp
    · intro p hp
      cases hp
  have GL__law_odd : Glo K mg [] (rais ir__law_odd) [] := by
    have e : rais ir__law_odd = ([] : List Str) := rfl
    rw [e]
    refine glo T B ?_ ?_ ?_
    · intro p hp
      cases hp
    · intro p hp
      cases hp
    · intro p hp
      cases hp
  have GL_whole_of : Glo K mg [("FIGURES", .str "0123456789")] (rais ir_whole_of) [] := by
    have e : rais ir_whole_of = (["NoText", "NoText", "NoText"] : List Str) := rfl
    rw [e]
    refine glo T B ?_ ?_ ?_
    · intro p hp
      rcases List.mem_cons.mp hp with rfl | hp
      · exact ⟨.str "0123456789", G_FIGURES.choose, G_FIGURES.choose_spec.1, G_FIGURES.choose_spec.2, fun H => .str _⟩
      cases hp
    · intro p hp
      rcases List.mem_cons.mp hp with rfl | hp
      · exact E_NoText
      rcases List.mem_cons.mp hp with rfl | hp
      · exact E_NoText
      rcases List.mem_cons.mp hp with rfl | hp
      · exact E_NoText
      cases hp
    · intro p hp
      cases hp
  have GL_is_whole : Glo K mg [] (rais ir_is_whole) [] := by
    have e : rais ir_is_whole = ([] : List Str) := rfl
    rw [e]
    refine glo T B ?_ ?_ ?_
    · intro p hp
      cases hp
    · intro p hp
      cases hp
    · intro p hp
      cases hp
  have GL_divisor : Glo K mg [] (rais ir_divisor) [] := by
    have e : rais ir_divisor = ([] : List Str) := rfl
    rw [e]
    refine glo T B ?_ ?_ ?_
    · intro p hp
      cases hp
    · intro p hp
      cases hp
    · intro p hp
      cases hp
  have GL_lowest : Glo K mg [] (rais ir_lowest) [] := by
    have e : rais ir_lowest = ([] : List Str) := rfl
    rw [e]
    refine glo T B ?_ ?_ ?_
    · intro p hp
      cases hp
    · intro p hp
      cases hp
    · intro p hp
      cases hp
  have GL_fraction : Glo K mg [] (rais ir_fraction) [] := by
    have e : rais ir_fraction = ([] : List Str) := rfl
    rw [e]
    refine glo T B ?_ ?_ ?_
    · intro p hp
      cases hp
    · intro p hp
      cases hp
    · intro p hp
      cases hp
  have GL_read_number : Glo K mg [] (rais ir_read_number) [] := by
    have e : rais ir_read_number = (["NoText", "NoText"] : List Str) := rfl
    rw [e]
    refine glo T B ?_ ?_ ?_
    · intro p hp
      cases hp
    · intro p hp
      rcases List.mem_cons.mp hp with rfl | hp
      · exact E_NoText
      rcases List.mem_cons.mp hp with rfl | hp
      · exact E_NoText
      cases hp
    · intro p hp
      cases hp
  have GL__law_lone : Glo K mg [] (rais ir__law_lone) kt__law_lone := by
    have e : rais ir__law_lone = ([] : List Str) := rfl
    rw [e]
    refine glo T B ?_ ?_ ?_
    · intro p hp
      cases hp
    · intro p hp
      cases hp
    · intro p hp
      rcases List.mem_cons.mp hp with rfl | hp
      · exact K_NoText_NoNumber
      rcases List.mem_cons.mp hp with rfl | hp
      · exact K_NoText_NoRow
      rcases List.mem_cons.mp hp with rfl | hp
      · exact K_NoText_NoRule
      rcases List.mem_cons.mp hp with rfl | hp
      · exact K_NoText_NoAnswer
      rcases List.mem_cons.mp hp with rfl | hp
      · exact K_NoText_NoName
      rcases List.mem_cons.mp hp with rfl | hp
      · exact K_NoText_NoHouse
      rcases List.mem_cons.mp hp with rfl | hp
      · exact K_NoText_NoText
      rcases List.mem_cons.mp hp with rfl | hp
      · exact K_NoText_ValueError
      rcases List.mem_cons.mp hp with rfl | hp
      · exact K_NoText_NoWord
      cases hp
  have GL__law_read : Glo K mg [] (rais ir__law_read) kt__law_read := by
    have e : rais ir__law_read = (["ChanceError"] : List Str) := rfl
    rw [e]
    refine glo T B ?_ ?_ ?_
    · intro p hp
      cases hp
    · intro p hp
      rcases List.mem_cons.mp hp with rfl | hp
      · exact E_ChanceError
      cases hp
    · intro p hp
      rcases List.mem_cons.mp hp with rfl | hp
      · exact K_NoText_ChanceError
      cases hp
  have GL__law_count : Glo K mg [] (rais ir__law_count) [] := by
    have e : rais ir__law_count = ([] : List Str) := rfl
    rw [e]
    refine glo T B ?_ ?_ ?_
    · intro p hp
      cases hp
    · intro p hp
      cases hp
    · intro p hp
      cases hp
  have GL__law_due : Glo K mg [] (rais ir__law_due) [] := by
    have e : rais ir__law_due = ([] : List Str) := rfl
    rw [e]
    refine glo T B ?_ ?_ ?_
    · intro p hp
      cases hp
    · intro p hp
      cases hp
    · intro p hp
      cases hp
  have GL__law_whole : Glo K mg [] (rais ir__law_whole) [] := by
    have e : rais ir__law_whole = ([] : List Str) := rfl
    rw [e]
    refine glo T B ?_ ?_ ?_
    · intro p hp
      cases hp
    · intro p hp
      cases hp
    · intro p hp
      cases hp
  have GL_law : Glo K mg [] (rais ir_law) [] := by
    have e : rais ir_law = ([] : List Str) := rfl
    rw [e]
    refine glo T B ?_ ?_ ?_
    · intro p hp
      cases hp
    · intro p hp
      cases hp
    · intro p hp
      cases hp
  refine law_F (l := l) (w := w) (k := 5) fa T hfa D_law (fun _ _ _ _ _ _ us hl => match us, hl with | [_], _ => rfl) (fs := [("_law_changed", sp__law_changed), ("_law_text_by", sp__law_text_by), ("_law_cell_at", sp__law_cell_at), ("_law_odd", sp__law_odd), ("_law_read", sp__law_read), ("_law_due", sp__law_due), ("_law_whole", sp__law_whole)]) sc_law GL_law ck_law vc_law fun base => ?_
  have F__law_cell_at : FnAt l.prog w K mg base 1 "_law_cell_at" sp__law_cell_at := by
    refine at_def T D__law_cell_at (l := []) sc__law_cell_at rfl (fun _ _ _ _ _ _ us hl => match us, hl with | [_, _], _ => rfl) GL__law_cell_at ck__law_cell_at (vc__law_cell_at _) fun p hp => ?_
    cases hp
  have F__law_changed : FnAt l.prog w K mg base 2 "_law_changed" sp__law_changed := by
    refine at_def T D__law_changed (l := [("_law_cell_at", sp__law_cell_at)]) sc__law_changed rfl (fun _ _ _ _ _ _ us hl => match us, hl with | [_, _], _ => rfl) GL__law_changed ck__law_changed vc__law_changed fun p hp => ?_
    rcases List.mem_cons.mp hp with rfl | hp
    · exact F__law_cell_at.mono (by decide)
    cases hp
  have F__law_power : FnAt l.prog w K mg base 1 "_law_power" sp__law_power := by
    refine at_def T D__law_power (l := []) sc__law_power rfl (fun _ _ _ _ _ _ us hl => match us, hl with | [_], _ => rfl) GL__law_power ck__law_power (vc__law_power _) fun p hp => ?_
    cases hp
  have F__law_number_by : FnAt l.prog w K mg base 2 "_law_number_by" sp__law_number_by := by
    refine at_def T D__law_number_by (l := [("_law_power", sp__law_power)]) sc__law_number_by rfl (fun _ _ _ _ _ _ us hl => match us, hl with | [_], _ => rfl) GL__law_number_by ck__law_number_by vc__law_number_by fun p hp => ?_
    rcases List.mem_cons.mp hp with rfl | hp
    · exact F__law_power.mono (by decide)
    cases hp
  have F__law_divisor : FnAt l.prog w K mg base 1 "_law_divisor" sp__law_divisor := by
    refine at_def T D__law_divisor (l := []) sc__law_divisor rfl (fun _ _ _ _ _ _ us hl => match us, hl with | [_, _], _ => rfl) GL__law_divisor ck__law_divisor (vc__law_divisor _) fun p hp => ?_
    cases hp
  have F__law_text_by : FnAt l.prog w K mg base 3 "_law_text_by" sp__law_text_by := by
    refine at_def T D__law_text_by (l := [("_law_number_by", sp__law_number_by), ("_law_cell_at", sp__law_cell_at), ("_law_divisor", sp__law_divisor)]) sc__law_text_by rfl (fun _ _ _ _ _ _ us hl => match us, hl with | [_], _ => rfl) GL__law_text_by ck__law_text_by vc__law_text_by fun p hp => ?_
    rcases List.mem_cons.mp hp with rfl | hp
    · exact F__law_number_by.mono (by decide)
    rcases List.mem_cons.mp hp with rfl | hp
    · exact F__law_cell_at.mono (by decide)
    rcases List.mem_cons.mp hp with rfl | hp
    · exact F__law_divisor.mono (by decide)
    cases hp
  have F__law_odd : FnAt l.prog w K mg base 1 "_law_odd" sp__law_odd := by
    refine at_def T D__law_odd (l := []) sc__law_odd rfl (fun _ _ _ _ _ _ us hl => match us, hl with | [_], _ => rfl) GL__law_odd ck__law_odd (vc__law_odd _) fun p hp => ?_
    cases hp
  have F_whole_of : FnAt l.prog w K mg base 1 "whole_of" sp_whole_of := by
    refine at_def T D_whole_of (l := []) sc_whole_of rfl (fun _ _ _ _ _ _ us hl => match us, hl with | [_], _ => rfl) GL_whole_of ck_whole_of vc_whole_of fun p hp => ?_
    cases hp
  have F_is_whole : FnAt l.prog w K mg base 1 "is_whole" sp_is_whole := by
    refine at_def T D_is_whole (l := []) sc_is_whole rfl (fun _ _ _ _ _ _ us hl => match us, hl with | [_], _ => rfl) GL_is_whole ck_is_whole (vc_is_whole _) fun p hp => ?_
    cases hp
  have F_divisor : FnAt l.prog w K mg base 1 "divisor" sp_divisor := by
    refine at_def T D_divisor (l := []) sc_divisor rfl (fun _ _ _ _ _ _ us hl => match us, hl with | [_, _], _ => rfl) GL_divisor ck_divisor (vc_divisor _) fun p hp => ?_
    cases hp
  have F_lowest : FnAt l.prog w K mg base 2 "lowest" sp_lowest := by
    refine at_def T D_lowest (l := [("divisor", sp_divisor)]) sc_lowest rfl (fun _ _ _ _ _ _ us hl => match us, hl with | [_, _], _ => rfl) GL_lowest ck_lowest vc_lowest fun p hp => ?_
    rcases List.mem_cons.mp hp with rfl | hp
    · exact F_divisor.mono (by decide)
    cases hp
  have F_fraction : FnAt l.prog w K mg base 3 "fraction" sp_fraction := by
    refine at_def T D_fraction (l := [("is_whole", sp_is_whole), ("lowest", sp_lowest)]) sc_fraction rfl (fun _ _ _ _ _ _ us hl => match us, hl with | [_, _], _ => rfl) GL_fraction ck_fraction vc_fraction fun p hp => ?_
    rcases List.mem_cons.mp hp with rfl | hp
    · exact F_is_whole.mono (by decide)
    rcases List.mem_cons.mp hp with rfl | hp
    · exact F_lowest.mono (by decide)
    cases hp
  have F_read_number : FnAt l.prog w K mg base 4 "read_number" sp_read_number := by
    refine at_def T D_read_number (l := [("whole_of", sp_whole_of), ("fraction", sp_fraction)]) sc_read_number rfl (fun _ _ _ _ _ _ us hl => match us, hl with | [_], _ => rfl) GL_read_number ck_read_number vc_read_number fun p hp => ?_
    rcases List.mem_cons.mp hp with rfl | hp
    · exact F_whole_of.mono (by decide)
    rcases List.mem_cons.mp hp with rfl | hp
    · exact F_fraction.mono (by decide)
    cases hp
  have F__law_lone : FnAt l.prog w K mg base 1 "_law_lone" sp__law_lone := by
    refine at_def T D__law_lone (l := []) sc__law_lone rfl (fun _ _ _ _ _ _ us hl => match us, hl with | [_], _ => rfl) GL__law_lone ck__law_lone vc__law_lone fun p hp => ?_
    cases hp
  have F__law_read : FnAt l.prog w K mg base 5 "_law_read" sp__law_read := by
    refine at_def T D__law_read (l := [("read_number", sp_read_number), ("_law_lone", sp__law_lone)]) sc__law_read rfl (fun _ _ _ _ _ _ us hl => match us, hl with | [_], _ => rfl) GL__law_read ck__law_read vc__law_read fun p hp => ?_
    rcases List.mem_cons.mp hp with rfl | hp
    · exact F_read_number.mono (by decide)
    rcases List.mem_cons.mp hp with rfl | hp
    · exact F__law_lone.mono (by decide)
    cases hp
  have F__law_count : FnAt l.prog w K mg base 1 "_law_count" sp__law_count := by
    refine at_def T D__law_count (l := []) sc__law_count rfl (fun _ _ _ _ _ _ us hl => match us, hl with | [_], _ => rfl) GL__law_count ck__law_count (vc__law_count _) fun p hp => ?_
    cases hp
  have F__law_due : FnAt l.prog w K mg base 2 "_law_due" sp__law_due := by
    refine at_def T D__law_due (l := [("_law_count", sp__law_count), ("_law_divisor", sp__law_divisor)]) sc__law_due rfl (fun _ _ _ _ _ _ us hl => match us, hl with | [_], _ => rfl) GL__law_due ck__law_due vc__law_due fun p hp => ?_
    rcases List.mem_cons.mp hp with rfl | hp
    · exact F__law_count.mono (by decide)
    rcases List.mem_cons.mp hp with rfl | hp
    · exact F__law_divisor.mono (by decide)
    cases hp
  have F__law_whole : FnAt l.prog w K mg base 1 "_law_whole" sp__law_whole := by
    refine at_def T D__law_whole (l := []) sc__law_whole rfl (fun _ _ _ _ _ _ us hl => match us, hl with | [_], _ => rfl) GL__law_whole ck__law_whole (vc__law_whole _) fun p hp => ?_
    cases hp
  intro p hp
  rcases List.mem_cons.mp hp with rfl | hp
  · exact F__law_changed.mono (by decide)
  rcases List.mem_cons.mp hp with rfl | hp
  · exact F__law_text_by.mono (by decide)
  rcases List.mem_cons.mp hp with rfl | hp
  · exact F__law_cell_at.mono (by decide)
  rcases List.mem_cons.mp hp with rfl | hp
  · exact F__law_odd.mono (by decide)
  rcases List.mem_cons.mp hp with rfl | hp
  · exact F__law_read.mono (by decide)
  rcases List.mem_cons.mp hp with rfl | hp
  · exact F__law_due.mono (by decide)
  rcases List.mem_cons.mp hp with rfl | hp
  · exact F__law_whole.mono (by decide)
  cases hp
end TopK89
end Pu
open PySem PySem.W PyProof.Rows
set_option maxHeartbeats 0 in
theorem PySem.Challenge.cw_chancehouse_k89_numbers_refused_holds : PySem.Challenge.rw_chancehouse_k89_numbers_refused.Holds := by
  w_on; o_law; k_head; (case hw => w_witness2)
  k_fill
  refine L2.walk_ofB (l := PySem.Challenge.rw_chancehouse_k89_numbers_refused) (n := 63) (k := 6) (x := "script") (CX := fun w => L2.CX PySem.Challenge.pw_chancehouse_k89_numbers_refused w) (sp := fun w => Pu.spL _) rfl (by decide) rfl ⟨rfl, by decide, by decide⟩ (fun w h Y => PySem.W.kIn_of Y) ?F (fun _ _ a ns hl hb _ hS => ⟨a, ns, rfl, hl, hb, hS, fun _ _ e => e⟩) (fun _ _ _ _ _ h => by obtain ⟨_, _, _, _, _, _, _, _, _, _, _, _, f⟩ := h; exact f)
  case F =>
    intro w mg fa h KX G hmg
    refine' Pu.TopK89.all_mk fa KX G hmg ?pud0 ?pud1 ?pud2 ?pud3 ?pud4 ?pud5 ?pud6 ?pud7 ?pud8 ?pud9 ?pud10 ?pud11 ?pud12 ?pud13 ?pud14 ?pud15 ?pud16 ?pud17 ?pud18 ?pue0 ?pue1 ?puk0 ?puk1 ?puk2 ?puk3 ?puk4 ?puk5 ?puk6 ?puk7 ?puk8 ?puk9 ?pug0 ?puz
    (case pud0 => (refine' Pu.def1 ?pud0n ?pud0l ?pud0c ?pud0k; (case pud0n => k_is); (case pud0l => k_is); (case pud0c => k_is); (case pud0k => k_is)))
    (case pud1 => (refine' Pu.def1 ?pud1n ?pud1l ?pud1c ?pud1k; (case pud1n => k_is); (case pud1l => k_is); (case pud1c => k_is); (case pud1k => k_is)))
    (case pud2 => (refine' Pu.def1 ?pud2n ?pud2l ?pud2c ?pud2k; (case pud2n => k_is); (case pud2l => k_is); (case pud2c => k_is); (case pud2k => k_is)))
    (case pud3 => (refine' Pu.def1 ?pud3n ?pud3l ?pud3c ?pud3k; (case pud3n => k_is); (case pud3l => k_is); (case pud3c => k_is); (case pud3k => k_is)))
    (case pud4 => (refine' Pu.def1 ?pud4n ?pud4l ?pud4c ?pud4k; (case pud4n => k_is); (case pud4l => k_is); (case pud4c => k_is); (case pud4k => k_is)))
    (case pud5 => (refine' Pu.def1 ?pud5n ?pud5l ?pud5c ?pud5k; (case pud5n => k_is); (case pud5l => k_is); (case pud5c => k_is); (case pud5k => k_is)))
    (case pud6 => (refine' Pu.def1 ?pud6n ?pud6l ?pud6c ?pud6k; (case pud6n => k_is); (case pud6l => k_is); (case pud6c => k_is); (case pud6k => k_is)))
    (case pud7 => (refine' Pu.def1 ?pud7n ?pud7l ?pud7c ?pud7k; (case pud7n => k_is); (case pud7l => k_is); (case pud7c => k_is); (case pud7k => k_is)))
    (case pud8 => (refine' Pu.def1 ?pud8n ?pud8l ?pud8c ?pud8k; (case pud8n => k_is); (case pud8l => k_is); (case pud8c => k_is); (case pud8k => k_is)))
    (case pud9 => (refine' Pu.def1 ?pud9n ?pud9l ?pud9c ?pud9k; (case pud9n => k_is); (case pud9l => k_is); (case pud9c => k_is); (case pud9k => k_is)))
    (case pud10 => (refine' Pu.def1 ?pud10n ?pud10l ?pud10c ?pud10k; (case pud10n => k_is); (case pud10l => k_is); (case pud10c => k_is); (case pud10k => k_is)))
    (case pud11 => (refine' Pu.def1 ?pud11n ?pud11l ?pud11c ?pud11k; (case pud11n => k_is); (case pud11l => k_is); (case pud11c => k_is); (case pud11k => k_is)))
    (case pud12 => (refine' Pu.def1 ?pud12n ?pud12l ?pud12c ?pud12k; (case pud12n => k_is); (case pud12l => k_is); (case pud12c => k_is); (case pud12k => k_is)))
    (case pud13 => (refine' Pu.def1 ?pud13n ?pud13l ?pud13c ?pud13k; (case pud13n => k_is); (case pud13l => k_is); (case pud13c => k_is); (case pud13k => k_is)))
    (case pud14 => (refine' Pu.def1 ?pud14n ?pud14l ?pud14c ?pud14k; (case pud14n => k_is); (case pud14l => k_is); (case pud14c => k_is); (case pud14k => k_is)))
    (case pud15 => (refine' Pu.def1 ?pud15n ?pud15l ?pud15c ?pud15k; (case pud15n => k_is); (case pud15l => k_is); (case pud15c => k_is); (case pud15k => k_is)))
    (case pud16 => (refine' Pu.def1 ?pud16n ?pud16l ?pud16c ?pud16k; (case pud16n => k_is); (case pud16l => k_is); (case pud16c => k_is); (case pud16k => k_is)))
    (case pud17 => (refine' Pu.def1 ?pud17n ?pud17l ?pud17c ?pud17k; (case pud17n => k_is); (case pud17l => k_is); (case pud17c => k_is); (case pud17k => k_is)))
    (case pud18 => (refine' Pu.def1 ?pud18n ?pud18l ?pud18c ?pud18k; (case pud18n => k_is); (case pud18l => k_is); (case pud18c => k_is); (case pud18k => k_is)))
    (case pue0 => (refine' Pu.exc0 ?pue0n ?pue0x ?pue0k ?pue0b ?pue0t; (case pue0n => k_is); (case pue0x => k_exc); (case pue0k => k_is); (case pue0b => k_is); (case pue0t => k_is)))
    (case pue1 => (refine' Pu.exc0 ?pue1n ?pue1x ?pue1k ?pue1b ?pue1t; (case pue1n => k_is); (case pue1x => k_exc); (case pue1k => k_is); (case pue1b => k_is); (case pue1t => k_is)))
    (case puk0 => (refine' Pu.kt_own ?puk0n ?puk0x ?puk0d (b := true) ?puk0b ?puk0p ?puk0q ?puk0r ?puk0s ?puk0t; (case puk0n => k_is); (case puk0x => (refine' Pu.excC0 ?puk0g ?puk0h ?puk0i ?puk0j ?puk0k ?puk0l ?puk0m ?puk0o; (case puk0g => k_is); (case puk0h => k_is); (case puk0i => k_is); (case puk0j => k_is); (case puk0k => k_is); (case puk0l => k_is); (case puk0m => k_is); (case puk0o => k_is))); (case puk0d => k_is); (case puk0b => decide +kernel); (case puk0p => k_is); (case puk0q => k_is); (case puk0r => k_is); (case puk0s => k_is); (case puk0t => k_is)))
    (case puk1 => (refine' Pu.kt_own ?puk1n ?puk1x ?puk1d (b := false) ?puk1b ?puk1p ?puk1q ?puk1r ?puk1s ?puk1t; (case puk1n => k_is); (case puk1x => (refine' Pu.excC0 ?puk1g ?puk1h ?puk1i ?puk1j ?puk1k ?puk1l ?puk1m ?puk1o; (case puk1g => k_is); (case puk1h => k_is); (case puk1i => k_is); (case puk1j => k_is); (case puk1k => k_is); (case puk1l => k_is); (case puk1m => k_is); (case puk1o => k_is))); (case puk1d => k_is); (case puk1b => decide +kernel); (case puk1p => k_is); (case puk1q => k_is); (case puk1r => k_is); (case puk1s => k_is); (case puk1t => k_is)))
    (case puk2 => (refine' Pu.kt_own ?puk2n ?puk2x ?puk2d (b := false) ?puk2b ?puk2p ?puk2q ?puk2r ?puk2s ?puk2t; (case puk2n => k_is); (case puk2x => (refine' Pu.excC0 ?puk2g ?puk2h ?puk2i ?puk2j ?puk2k ?puk2l ?puk2m ?puk2o; (case puk2g => k_is); (case puk2h => k_is); (case puk2i => k_is); (case puk2j => k_is); (case puk2k => k_is); (case puk2l => k_is); (case puk2m => k_is); (case puk2o => k_is))); (case puk2d => k_is); (case puk2b => decide +kernel); (case puk2p => k_is); (case puk2q => k_is); (case puk2r => k_is); (case puk2s => k_is); (case puk2t => k_is)))
    (case puk3 => (refine' Pu.kt_own ?puk3n ?puk3x ?puk3d (b := false) ?puk3b ?puk3p ?puk3q ?puk3r ?puk3s ?puk3t; (case puk3n => k_is); (case puk3x => (refine' Pu.excC0 ?puk3g ?puk3h ?puk3i ?puk3j ?puk3k ?puk3l ?puk3m ?puk3o; (case puk3g => k_is); (case puk3h => k_is); (case puk3i => k_is); (case puk3j => k_is); (case puk3k => k_is); (case puk3l => k_is); (case puk3m => k_is); (case puk3o => k_is))); (case puk3d => k_is); (case puk3b => decide +kernel); (case puk3p => k_is); (case puk3q => k_is); (case puk3r => k_is); (case puk3s => k_is); (case puk3t => k_is)))
    (case puk4 => (refine' Pu.kt_own ?puk4n ?puk4x ?puk4d (b := false) ?puk4b ?puk4p ?puk4q ?puk4r ?puk4s ?puk4t; (case puk4n => k_is); (case puk4x => (refine' Pu.excC0 ?puk4g ?puk4h ?puk4i ?puk4j ?puk4k ?puk4l ?puk4m ?puk4o; (case puk4g => k_is); (case puk4h => k_is); (case puk4i => k_is); (case puk4j => k_is); (case puk4k => k_is); (case puk4l => k_is); (case puk4m => k_is); (case puk4o => k_is))); (case puk4d => k_is); (case puk4b => decide +kernel); (case puk4p => k_is); (case puk4q => k_is); (case puk4r => k_is); (case puk4s => k_is); (case puk4t => k_is)))
    (case puk5 => (refine' Pu.kt_own ?puk5n ?puk5x ?puk5d (b := false) ?puk5b ?puk5p ?puk5q ?puk5r ?puk5s ?puk5t; (case puk5n => k_is); (case puk5x => (refine' Pu.excC0 ?puk5g ?puk5h ?puk5i ?puk5j ?puk5k ?puk5l ?puk5m ?puk5o; (case puk5g => k_is); (case puk5h => k_is); (case puk5i => k_is); (case puk5j => k_is); (case puk5k => k_is); (case puk5l => k_is); (case puk5m => k_is); (case puk5o => k_is))); (case puk5d => k_is); (case puk5b => decide +kernel); (case puk5p => k_is); (case puk5q => k_is); (case puk5r => k_is); (case puk5s => k_is); (case puk5t => k_is)))
    (case puk6 => (refine' Pu.kt_own ?puk6n ?puk6x ?puk6d (b := false) ?puk6b ?puk6p ?puk6q ?puk6r ?puk6s ?puk6t; (case puk6n => k_is); (case puk6x => (refine' Pu.excC0 ?puk6g ?puk6h ?puk6i ?puk6j ?puk6k ?puk6l ?puk6m ?puk6o; (case puk6g => k_is); (case puk6h => k_is); (case puk6i => k_is); (case puk6j => k_is); (case puk6k => k_is); (case puk6l => k_is); (case puk6m => k_is); (case puk6o => k_is))); (case puk6d => k_is); (case puk6b => decide +kernel); (case puk6p => k_is); (case puk6q => k_is); (case puk6r => k_is); (case puk6s => k_is); (case puk6t => k_is)))
    (case puk7 => (refine' Pu.kt_own ?puk7n ?puk7x ?puk7d (b := true) ?puk7b ?puk7p ?puk7q ?puk7r ?puk7s ?puk7t; (case puk7n => k_is); (case puk7x => (refine' Pu.excC0 ?puk7g ?puk7h ?puk7i ?puk7j ?puk7k ?puk7l ?puk7m ?puk7o; (case puk7g => k_is); (case puk7h => k_is); (case puk7i => k_is); (case puk7j => k_is); (case puk7k => k_is); (case puk7l => k_is); (case puk7m => k_is); (case puk7o => k_is))); (case puk7d => k_is); (case puk7b => decide +kernel); (case puk7p => k_is); (case puk7q => k_is); (case puk7r => k_is); (case puk7s => k_is); (case puk7t => k_is)))
    (case puk8 => (refine' Pu.kt_own ?puk8n ?puk8x ?puk8d (b := false) ?puk8b ?puk8p ?puk8q ?puk8r ?puk8s ?puk8t; (case puk8n => k_is); (case puk8x => (refine' Pu.excC0 ?puk8g ?puk8h ?puk8i ?puk8j ?puk8k ?puk8l ?puk8m ?puk8o; (case puk8g => k_is); (case puk8h => k_is); (case puk8i => k_is); (case puk8j => k_is); (case puk8k => k_is); (case puk8l => k_is); (case puk8m => k_is); (case puk8o => k_is))); (case puk8d => k_is); (case puk8b => decide +kernel); (case puk8p => k_is); (case puk8q => k_is); (case puk8r => k_is); (case puk8s => k_is); (case puk8t => k_is)))
    (case puk9 => (refine' Pu.kt_blt ?puk9n ?puk9x ?puk9d (b := true) ?puk9b ?puk9q; (case puk9n => k_is); (case puk9x => (refine' Pu.excC0 ?puk9g ?puk9h ?puk9i ?puk9j ?puk9k ?puk9l ?puk9m ?puk9o; (case puk9g => k_is); (case puk9h => k_is); (case puk9i => k_is); (case puk9j => k_is); (case puk9k => k_is); (case puk9l => k_is); (case puk9m => k_is); (case puk9o => k_is))); (case puk9d => k_is); (case puk9b => decide +kernel); (case puk9q => k_is)))
    (case pug0 => (refine' Pu.globS ?pug0n; (case pug0n => k_is)))
    (case puz => (refine' Pu.bt_mk ?puz0 ?puz1 ?puz2 ?puz3 ?puz4 ?puz5 ?puz6 ?puz7 ?puz8 ?puz9 ?puz10 ?puz11 ?puz12 ?puz13 ?puz14 ?puz15 ?puz16 ?puz17; (case puz0 => k_is); (case puz1 => k_is); (case puz2 => k_is); (case puz3 => k_is); (case puz4 => k_is); (case puz5 => k_is); (case puz6 => k_is); (case puz7 => k_is); (case puz8 => k_is); (case puz9 => k_is); (case puz10 => k_is); (case puz11 => k_is); (case puz12 => k_is); (case puz13 => k_is); (case puz14 => k_is); (case puz15 => k_is); (case puz16 => k_is); (case puz17 => k_is)))

